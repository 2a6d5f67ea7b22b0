import PyProof.Rows.All
import KE.BitLaws
import Open.Head
import OpenK.KLine
import KE.KxBytes
import KE.BytesMake
import KE.KBytesWalk
import KE.KTurns
import Wide.FinOn
import OpenK.AllK
import Wide.All
import Lean
import PySem.Challenge.RW_nm0177_01
set_option Elab.async false
set_option tactic.hygienic false
set_option bootstrap.genMatcherCode false
set_option linter.all false
set_option maxRecDepth 100000
set_option maxHeartbeats 0
set_option genSizeOf false
set_option genInjectivity false
set_option genCtorIdx false
set_option autoImplicit true
noncomputable section
open _root_ renaming List->J,Nat->H,Int->aa,Bool->aD,Option->bq,cond->bC,congrArg->bQ,False->bV,if_neg->cF,Array->cT,if_pos->dP,of_decide_eq_true->gy,UInt8->iW,String->jZ,decide_eq_false->kq,decide_eq_true->nL,True->oU,beq_self_eq_true->qy,Unit->rq,of_decide_eq_false->sJ,bool->F3,beq_false_of_ne->Kf,DecidableEq->Kq,if_false->PR,dif_neg->Qj,congrFun->W7,Decidable->Xa,beq_iff_eq->Xv,decide_eq_true_eq->XX,decide_eq_decide->X6,ForInStep->am9
open Option renaming some->N,none->ao,map_eq_some_iff->wm,map->Dj,none_or->ai4,bind_eq_some_iff->aj0,getD->al3,bind_some->am4,isSome_iff_exists->cn9,none->cp8
open Bool renaming true->ah,false->ak,noConfusion->gr,false_ne_true->rm,eq_false_iff->zL,and_eq_true->Kw,and_eq_true_iff->PG,eq_iff_iff->PW,or_false->aj5,false_eq_true->ak2,or_eq_false_iff->aq0,false_and->cr0,not_eq_true'->cv2
open PySem renaming Str->ai,Value->aA,Shared->aE,model->aP,Addr->aR,Expr->aT,World->bU,NameKind->cJ,Env->cL,eval->cM,Around->cQ,Heap->dH,Sem->dJ,Stmt->eg,call->fF,Params->fG,Obj->fH,Pos->gq,step->gQ,Builtin->gW,sizeLine->gX,Program->iU,DictEntry->jN,Model->jP,OsState->kH,Scope->ly,starEach->lQ,table->nK,Result->nM,backTo->n8,Thread->oS,isTrue->oV,Code->pL,denote->pM,foldedSetIterable->pO,mainGlobals->qx,entryFor->qC,spliced->rt,pyIter->ru,again->sj,ret->sr,standAt->su,assign->sy,wpAny_specialOf->sC,exec->t8,wpAny_bind->ud,typeLookup->ue,typeLookup_type->uf,builtinLookup_eq_fast->ug,callWith->vn,builtinsNs->wo,evalEach->wu,swapsWith->wz,findBy->wC,argsOk->wF,sysModules->xX,unsupported->zE,wpAny_load->zH,holding->A8,execs->A9,wpAny_newObj_type->A_,bindArgs->Bc,plainId_quiet->Bk,Flow->C7,Fin->C8,FuncData->C_,wpAny->De,allTrue->Df,noteFrame->Dg,relabel->Di,call_meets->Dm,boolOp->Dn,seqIndex?->Dq,checkBuiltinCall->Dy,load->F1,storeName->F4,binaryOp->F5,cLine->F8,intKind->F9,strKind->F_,getItem->Ga,wpAny_typeOf->Gb,compEnvC->Gg,getMethod_builtin->Gh,retInt->Gi,bm_if_false->Gj,evalPairs->Gl,cStatics->J2,operate->J4,bindName->J5,loadName->J6,compareOp->J7,behindInMarks->J8,truthy->J9,evalPart->J_,letOwnedTupleGo->J',Comprehension->Ka,evalArgs->Kc,mem_of_lookup->Kg,wpAny_truthy_bool->Ko,Slot->KA,isSubtype_type->KC,entryFor_of_tree->KD,isInstance->KH,mainNs->Pz,assignInOrder->PJ,backToKw->PK,keywordEach->PL,theTreesLotGoes->PN,callerA->PT,Meets->P7,wpAny_pure->P8,subscripted->P9,wpAny_updateSeq->Qd,compTurn->Qf,cellsFrom->Qi,withoutEnding?->Qk,treeTable->W3,importedModules->W6,Operator->W9,BoolOp->W_,lastMarks->Xb,markedEach->Xc,wpAny_release->Xd,swappedStores->Xe,compStart->Xf,comprehension->Xg,wpAny_field->Xi,keeperOf->Xj,assignEach->Xk,outcomeOf->Xl,hashInt->Xp,wpAny_call_entry->XC,KeyKind->XE,rawInt->XG,wpAny_pyIter_list->XH,typeOf->XI,wpAny_mkInt->XT,importedNames->Ye,moduleNames->Yg,fenceModules?->ai9,wpAny_askSetting->aj6,closureFor->aj7,newFunctionEnv->aj8,wpAny_comp_letGo->aj9,callFunction->ak1,leftWithCleanup->ak3,signature?_of->an1,specialOf->an9,bm_if_true->ao5,callType_codes->ao6,table_eq_tree->cn7,bltViewBooted->co0,codeAny->co4,wpAny_rule->co6,wpAny_execs_nil->co7,markedBehindIn_of_false->co8,swapsWithSole->co9,theWindowsPlace->cp0,recursionLimit->cp1,wpAny_unpackItems_tuple->cp2,leftWithCleanup_false_of_bare->cp3,call->cp4,wpAny_holding->cr9,markedBehindIn->cs1,letTemporaryGo->cs2,wpAny_letTemporaryGo->cs3,wpAny_sequenceKey->ct2,wpAny_callSpecial?_slot->ct3,slot_list_getitem->ct6,attributeBase->cu1,wpAny_loadPart->cu3,wpAny_lookBehind->cu4,wpAny_setSeqItemAt->cu8,slot_list_setitem->cu9,eval_ListComp->cv7,builtinType_eq_fast->cv8,updateBytearray->cw5,entryFor_of_fast->cx0,methodCallForm->cx5,methodCallPos->cx6,call_list_seq->cy1,codeAny_builtin->cy3,object_init_meets->cz0,wpAny_of_eq->cz3,wpAny_typeOf->cz5
open Nat renaming le_trans->bR,beq->bX,lt_of_le_of_lt->eZ,le_add_right->gF,succ_pos->jc,casesOn->jh,le_of_eq->jm,le_refl->jO,succ_le_succ->lB,lt_trans->mD,eq_of_beq_eq_true->mV,zero_add->mW,le_of_lt->mX,lt_succ_self->m7,ble->nJ,lt_of_lt_of_le->pN,zero_le->qw,add_comm->rB,le_of_lt_succ->rC,ne_of_lt->sq,add_le_add_left->sI,cast->sL,lt_irrefl->vg,not_lt->vj,succ->vo,add_assoc->wB,le_succ_of_le->xT,not_lt_zero->xU,lt_add_of_pos_right->xV,succ_add->xW,le_add_left->xY,mod_eq_of_lt->zN,mul_le_mul_left->zT,add_right_comm->A6,le_succ->Bj,toUInt8->Bl,min_le_left->DC,lt_of_succ_lt_succ->F7,not_le_of_lt->Gp,add_sub_cancel_left->Kh,le_of_succ_le_succ->Kl,add_le_add_right->Kr,ne_of_gt->Kv,pow_succ->KL,ne_of_beq_eq_false->PV,le_of_ble_eq_true->PZ,min_eq_left->Qo,min_eq_right->Qp,le_of_not_lt->Qq,add_lt_add_right->Qw,mul_comm->Qz,mod_lt->QA,not_lt_of_le->QB,beq_refl->WZ,lt_of_not_le->W8,mod_mod->X4,add_mod_right->X5,le_of_succ_le->ai3,div_lt_of_lt_mul->ai8,sub_self->am5,succ_lt_succ->ao8,div_lt_self->ap0,pow_le_pow_right->ap1,lt_succ_of_le->ap7,le_min->ap8,pow_zero->ap9,lt_of_lt_of_eq->aq2,lt_succ_of_lt->cn4,lt_succ_iff_lt_or_eq->cn6,strongRecOn->co5,ble_eq_true_of_le->cp6,exists_eq_add_of_le->cq6,lt_of_add_lt_add_left->cq7,one_mul->cq9,log2_lt->cr2,succ_le_of_lt->cr4,min_self->cv0,le_total->cz8,blt_eq->cA0,add_sub_cancel'->cA3,mul_assoc->cA4,succ_min_succ->cB0,mul_one->cB1,sub_add_cancel->cB2,le_zero->cB4,add_le_add->cB6,le_antisymm->cC0,lt_of_succ_lt->cC2,lt_of_le_of_ne->cC5
open Exists renaming elim->b_
open List renaming length_map->cO,casesOn->eT,mem_singleton->fN,length_append->f6,forall_mem_cons->gv,mem_append->gK,mem_append_left->iM,mem_cons->iV,append_assoc->jx,append_nil->j3,mem_append_right->kj,range->kJ,getElem?_map->mC,getElem?_eq_getElem->mZ,map_map->n9,nodup_cons->oX,nodup_append->qz,mem_map->qA,mem_flatMap->rz,replicate->vh,getElem?_eq_some_iff->vq,not_mem_nil->vt,any_eq_true->wD,length_cons->zK,map_append->zO,lookup_cons->Be,mem_range->Bf,reverse_cons->Dk,length_nil->Dv,pairwise_cons->DE,mem_filter->F6,length_reverse->Gf,mem_of_getElem?->Km,drop_length->Ky,size_toArray->PI,getElem?_append_left->PX,Sublist->PY,perm_middle->P0,getElem?_append_right->P1,getElem?_zip_eq_some->P4,zip_cons_cons->P5,forIn_cons->Qe,length_range->Qu,mem_reverse->Xh,getElem?_take_of_lt->Xs,length_take->Xu,length_eq_zero_iff->Xy,map_nil->X_,foldl_append->Yb,map_cons->ai7,mem_of_mem_take->ak0,toList_toArray->ak4,map_id''->ak5,zip_append->ak6,getElem_mem->ak8,mem_iff_getElem?->ak9,length->al0,all_eq_true->al6,find?_toArray->al8,length_zip->am6,map_congr_left->ao1,any_cons->ao9,length_filter_le->aq1,mem_map_of_mem->aq3,perm_singleton->aq4,cons->co3,flatMap_map->cp9,range'->cq0,length_set->cq1,getElem?_set_ne->cq2,Perm->cq3,of_mem_zip->cq4,zip_map_right->cq5,getElem?_range'->cq8,replicate_succ->cr5,foldl_cons->cr6,find?_cons->cs0,take_of_length_le->ct8,length_drop->ct9,filterMap_cons->cv1,drop_eq_getElem_cons->cv6,contains_iff_mem->cw4,take_length->cx1,range'_succ->cx3,drop->cz9,forall_mem_map->cB3,length_replicate->cB5,filter_cons_of_pos->cB7,filter_cons_of_neg->cB8,nil_append->cC1,forall_mem_singleton->cC3,foldl_map->cC4,perm_cons->cC7
open Int renaming ofNat_lt->dF,ofNat_le->iN,le_trans->ji,not_lt->pP,toNat_natCast->sF,lt_trans->sN,add_sub_cancel->uh,fmod->xZ,fdiv->zQ,add_assoc->zR,ofNat_inj->zS,le_refl->zU,toNat_of_nonneg->Bo,lt_of_lt_of_le->Bp,natCast_nonneg->Dp,eq_ofNat_of_zero_le->Ds,natCast_add->DB,natCast_pow->Gm,not_le->Gn,zero_add->Ks,add_comm->Ku,natCast_mul->KJ,neg_le_neg->Qc,sub_le_sub_right->Qs,lt_of_le_of_lt->Qt,add_zero->Qv,add_nonneg->Qy,fdiv_eq_ediv_of_nonneg->QC,emod_nonneg->QD,sub_nonneg_of_le->QE,toNat_lt->XO,lt_irrefl->XY,pow_succ->XZ,mul_comm->X0,le_of_lt->X3,neg_mul->X7,emod_eq_of_lt->X8,le_add_of_nonneg_right->ap2,emod_lt_of_pos->ap4,add_le_add_right->ap5,mul_assoc->ap6,natAbs_eq_zero->cr1,min_eq_left->cs5,ediv_one->cs6,sub_zero->cs7,sub_add_cancel->cs8,mul_one->ct1,fmod_lt_of_pos->cA1,fmod_nonneg_of_pos->cA2,le_ediv_iff_mul_le->cA5,ediv_lt_iff_lt_mul->cA6,add_lt_add_right->cA7,add_mul->cA8,le_add_of_nonneg_left->cA9,fmod_eq_emod_of_nonneg->cB9,lt_add_one_of_le->cC6
open Option.some renaming inj->fU
open UInt8 renaming toNat->iX,toNat_ofNat'->cw6
open PySem.Heap renaming get?_push_of_some->ko,lt_size->kI,get?_push_size->lY,get?_update_self->Bh,SameBut->Dh,size_push->J1,get?_eq_some->aj2,get?_update_other->ao0
open PySem.W renaming dictOf->mY,boot_heap->qv,Frag->qB,instObj->sH,sub->vm,emptyDict->vz,Looks->wA,inst->A7,topFrame->C9,behindTheImports->Dd,findIn->Dl,typeIs_bytes->Dr,putL->Dt,keepIn->Dw,namesMeet->DF,boot_o_4->F2,getL->Gd,layAllW->Ke,topStub->PA,stepOk->WY,restOf->W0,through->W2,boot_drawn->W4,boot_toks->W5,plainGet->Xq,typeIn->Xr,InstAt->XF,noRoadLSs->Yc,builtinNamed->Yd,boot_o_0->ai5,boot_o_2->ai6,ReadsAllW->aj4,plainOver->ak7,cThrough->aq5,readsOut->aq6
open Array renaming length_toList->oY,getElem?_toList->rA,getElem?_eq_getElem->Kn,mem_toList_iff->Kp,toList_push->Qh,toList_append->Xw,any_toList->Xz,getElem?_eq_some_iff->ai1,getD_eq_getD_getElem?->ao4,getElem?_modify->cn3,toList_inj->cp5,isEmpty_iff->cr8,eraseIdxIfInBounds->cu5,isEmpty_iff_size_eq_zero->cu6,size_push->cu7,mem_iff_getElem->cx4,getElem?_eq_none->cz7
open And renaming intro->ry
open PySem.Obj renaming mapSeq->sG,mapBytearray->wG,putName->cu2
open PySem.Builtin renaming bitAnd->uc,bitOr->PU,divisionGoesByPylong->cr3
open PySem.Challenge renaming rw_nm0177_01->zF,pw_nm0177_01->cE3
open PyProof.Rows renaming subscriptTail->zG,slot_tuple_getitem->Qa,bitAnd_m7->Qx,AllBare->Xm,tupleItemsOf_->am0,call_len_slot->ao2,bitAnd_pp->ap3,slicePart_none->ct0,getItem_tuple->ct7
open Nat.succ renaming inj->zJ
open PySem.Value renaming ref->zM,type->Bg,int->Xn,none->al7,str->am2,bytes->cw8,builtin->cx7
open PySem.Builtin.Bytes renaming buffer?->Bm,payload->Ql,ownRelease->Qm,exported->XJ,checkResize->XK,write->XM,byteValue->XN,takeBufferQuiet?->XR,slotIsOwn->XS,exportsOf->an5,takeBuffer?->an7,payload?->an8,lengthHint->cw9,decodersThatHold->cF2,newBytearray->cF7,bindOptional->cG3
open PySem.PyData renaming keyHash->Dc
open PySem.NameKind renaming free->Du,cell->an0
open PySem.Code renaming builtin->Dz,quiet_builtin->cx9
open Ne renaming symm->F0
open PySem.Heap.SameBut renaming update->Ge
open PySem.Sem renaming wp_mono->J3,casesOn->cn2
open Prod.mk renaming inj->Kz
open PySem.Around renaming under_plainId->KG
open PySem.F renaming bm_called->KI,bm_plain->XW,plainAttrs_list->an2,slot_list_extend->an3,slot_list_pop->an4,slot_int_rmul->cr7,slot_list_append->cv9,slot_tuple_index->cw0,entry_list_pop->cw1,entry_list_extend->cw2,args_list_extend_2->cw3,slot_tuple_len->cy0,bm_newCall->cy2,bm_entry->cy4,bm_sub->cy5,bm_bind->cy6,bm_typeCall->cy7,entry_object_init->cy8,args_object_init_2->cy9
open List.cons renaming inj->PB
open PySem.W.WShape renaming has->PD
open PySem.Env renaming kindOf->PO,blockKind->al4
open PySem.Builtin.Int renaming intBits->P6
open Eq renaming trans->Qg
open PySem.SeqAt renaming EqAt->Qn
open PySem.Heap.Ns renaming of_isNs->Xo
open PySem.Builtin.List renaming listFitsIndex->Xx,listTooLong->al5,listExtendWith->ao7,listLengthHint->cz4,listItems->cz6,listUpdate->cG4,listSameRef->cG5
open PySem.Builtin.Slice renaming slicePlaces->XA,sliceAdjust->al9,sliceApplied->cs9,sliceFields->cF4
open PySem.Builtin.Tuple renaming tupleExact->XD,tupleItemsOf->ct4,tupleIsExact->ct5
open PySem.W.KBy renaming special_eq->XQ,look_buffer->an6,picked->cu0,own_buffer->cw7
open PySem.callAny renaming viaDunder->XU
open PySem.W.Fast renaming te17119622794617984870->Yh,te8326940854005059898->cC8,tw11892475500146522536->cE4,tw14364793385576792824->cE5,te11892475500146522536->cE6,te14364793385576792824->cE7,te11788848310118352699->cG7,te8377067652309620493->cG8,te8179353310426384613->cG9,te9558739934217749035->cH0,te16286561074155671207->cH1
open PySem.Step renaming go->ai2
open PySem.Shared renaming asleep_of_life->aj1,rest_eq->co1
open PySem.Pin renaming globalOf_eq->aj3
open PySem.W.FB renaming slot_bytes_getitem->am1,slot_bytes_len->ao3
open PySem.AutoSeq1 renaming idx_int->am3
open PySem.Walks renaming list->am7
open ForInStep renaming yield->am8
open PySem.Str renaming ofString->cn5
open Prod renaming fst->cn8
open PySem.W.ReadsW renaming casesOn->co2
open Decidable renaming em->cp7
open PySem.Expr renaming casesOn->cs4
open PySem.Flow renaming next->cv3
open PySem.W.KBw renaming walks->cv4,pyIter_bytes->cv5
open PySem.Builtin.Str renaming glued->cx2
open PySem.W.Looks renaming ld->cx8
open String renaming splitOn->cz1,splitOnAux->cz2
open PySem.AfterImport renaming of_importEnds->cE8,unique->cE9
open PySem.W.WData.list renaming inj->cF0
open PySem.W.WData renaming casesOn->cF1
open List.Sublist renaming refl->cF3
open PySem.Heap.IsSliceOf renaming new->cF5
open PySem.Builtin.Bytes.exported renaming match_1->cF6
open Std.Legacy.Range renaming forIn_eq_forIn_range'->cF8
open PySem.SeqAt.EqAt renaming int_int->cF9,int_str->cG0,str_int->cG1,str_str->cG2
open List.Pairwise renaming sublist->cG6
open True renaming intro->cH2
namespace Internal
open PySem PySem.W PyProof.Rows PySem.Calls
namespace Wh
theorem kK{P:Prop}(h:∀b4:Prop,(P->b4)->b4):P:=h P id
abbrev PM:=J (aR×fH)
noncomputable def look(a:aR):PM->bq fH
 |[]=>ao
 |(b,o)::r=>match bX a b with|true=>N o|false=>look a r
noncomputable def put(a:aR)(f:fH->fH):PM->PM
 |[]=>[]
 |(b,o)::r=>match bX a b with|true=>(b,f o)::r|false=>(b,o)::put a f r
noncomputable def live(o:fH):aD:=match o.data with| .freed=>ak|X=>ah
structure PS where
 mem:PM
 n:H
 toks:H
def Gu(den:pL->dJ Fin)(p:iU)(w:bU)(os:kH):PS->oS->bq (PS×oS)
 |⟨mem,n,toks⟩,⟨cur,code,pos,stack⟩=>match cur with
  | .load a X k=>match look a mem with
   |some o=>match live o with
    |true=>N (⟨mem,n,toks⟩,⟨k o,code,pos,stack⟩)
    |false=>ao
   |none=>ao
  | .update a X f k=>match look a mem with
   |some o=>match live o with
    |true=>N (⟨put a f mem,n,toks⟩,⟨k (),code,pos,stack⟩)
    |false=>ao
   |none=>ao
  | .alloc o k=>N (⟨mem++[(n,o)],n+1,toks⟩,⟨k n,code,pos,stack⟩)
  | .loadIfAlive a k=>match look a mem with
   |some o=>match live o with
    |true=>N (⟨mem,n,toks⟩,⟨k (N o),code,pos,stack⟩)
    |false=>ao
   |none=>ao
  | .fresh k=>N (⟨mem,n,toks+1⟩,⟨k toks,code,pos,stack⟩)
  | .rule X k=>N (⟨mem,n,toks⟩,⟨k (),code,pos,stack⟩)
  | .at q k=>N (⟨mem,n,toks⟩,⟨k (),code,q,stack⟩)
  | .point X k=>N (⟨mem,n,toks⟩,⟨k (),code,pos,stack⟩)
  | .ask k=>N (⟨mem,n,toks⟩,⟨k ⟨p,w.params⟩,code,pos,stack⟩)
  | .choose ..| .os ..| .newGen ..| .genState ..| .resume ..| .yield ..| .thread ..=>ao
  |c=>match gQ den p w ⟨{},#[],{},0,os⟩ ⟨c,code,pos,stack⟩with
   | .go X t'=>N (⟨mem,n,toks⟩,t')
   | .halt X I=>ao
def rG(den:pL->dJ Fin)(p:iU)(w:bU)(kR:H)(lu:bq aA)(os:kH)(b:H):H->PS->oS->bq (C7×PS×pL×gq)
 |0,X,I=>ao
 |k+1,s,t=>match endAt b t with
  |some f=>N (f,s,t.code,t.pos)
  |none=>match WY kR lu t with
   |false=>ao
   |true=>match Gu den p w os s t with
    |some (s',t')=>rG den p w kR lu os b k s' t'
    |none=>ao
section
theorem YF{α:Type}(a b:H)(x y:α):(match bX a b with|true=>x|false=>y)=if a=b then x else y:=by
 by_cases h:a=b
 ·subst h;rw[WZ,dP rfl]
 ·rw[cF h];cases z:bX a b with
  |false=>rfl
  |true=>exact absurd (mV z) h
theorem YG(a:aR):look a []=ao:=rfl
theorem sQ(a b:aR)(o:fH)(r:PM):look a ((b,o)::r)=if a=b then N o else look a r:=YF ..
theorem aw1(a b:aR)(o:fH)(f:fH->fH)(r:PM):put a f ((b,o)::r)=if a=b then(b,f o)::r else(b,o)::put a f r:=YF ..
theorem Gv{a c:aR}{x:fH}{r:PM}{P:bq fH->Prop}(h:a=c->P (N x))(g:a≠c->P (look a r)):P (look a ((c,x)::r)):=by
 rw[sQ]
 split
 ·exact h (by assumption)
 ·exact g (by assumption)
theorem YH{f:fH->fH}{a:aR}{o:fH}(b:aR){m:PM}:look a m=N o->look b (put a f m)=if b=a then N (f o)else look b m:=by
 induction m with
 |nil=>exact λh=>nomatch h
 |cons p r ih=>
  obtain⟨c,x⟩:=p;rw[aw1];refine Gv (P:=λz=>z=N o->_) (λe h=>?_) λe h=>?_
  ·rw[dP e,sQ,sQ,fU h,e]
   split<;>rfl
  ·rw[cF e,sQ,sQ,ih h];by_cases q:b=c
   ·rw[dP q,dP q,cF (λz:b=a=>e (z.symm.trans q))]
   ·rw[cF q,cF q]
theorem KY(a:aR)(m':PM)(m:PM):look a (m++m')=(look a m).or (look a m'):=by
 induction m with
 |nil=>rfl
 |cons p r ih=>obtain⟨c,x⟩:=p;exact Gv (P:=λz=>z=(look a ((c,x)::r)).or (look a m')) (λq=>by rw[sQ,dP q];rfl) λq=>by rw[sQ,cF q];exact ih
structure m9(os:kH)(h:dH)(x:PS)(s:aE):Prop where
 size:s.heap.objs.size=x.n
 toks:s.toks=x.toks
 gens:s.gens=#[]
 drawn:s.drawn={}
 os:s.os=os
 life:s.heap.life=h.life
 at_:∀a o,look a x.mem=N o->s.heap.objs[a]?=N o
 rest:∀b,look b x.mem=none->s.heap.objs[b]?=h.objs[b]?
 low:h.objs.size<=x.n
theorem aw2{s:aE}(h:s.heap.objs[a]?=N o)(l:live o=ah):s.heap.get? a=N o:=
 Heap.get?_some_iff.mpr ⟨h,by obtain⟨c,d,dt,sl⟩:=o;cases dt<;>first|rfl|cases l⟩
def Yi:dJ C8->Prop
 | .pure _| .raise _| .unsupported _| .finish _| .register ..| .call ..| .handled ..| .stack ..| .fork ..| .await ..=>oU
 |X=>bV
def KZ(σ:aE)(a b:Step):Prop:=match a with
 | .go X t=>b=.go σ t
 | .halt X I=>oU
theorem QW(h:KZ σ a d)(g:KZ σ b d):KZ σ (if c=ah then a else b) d:=by cases c;exact g;exact h
theorem aw3{den:pL->dJ Fin}{p:iU}{w:bU}{os:kH}{eE:dH}{tk:H}{cur:dJ Fin}{code:pL}{pos:gq}{stack:J Frame}(hc:Yi cur):
  KZ ⟨eE,#[],{},tk,os⟩ (gQ den p w ⟨{},#[],{},0,os⟩ ⟨cur,code,pos,stack⟩) (gQ den p w ⟨eE,#[],{},tk,os⟩ ⟨cur,code,pos,stack⟩):=by
 induction cur using cn2 with
 |pure f=>
  induction f with
  |done f=>induction stack using eT with
   |nil=>exact QW trivial trivial
   |cons fr r=>cases fr<;>exact rfl
  |again c=>exact rfl
 |raise e=>induction stack using eT with
  |nil=>exact QW trivial trivial
  |cons fr r=>cases fr<;>exact rfl
 |unsupported|register|fork|await=>trivial
 |finish e=>exact QW trivial trivial
 |call|stack|handled=>exact rfl
 |_=>exact hc.elim
def Bv(den:pL->dJ Fin)(p:iU)(w:bU)(os:kH)(h:dH)(s:aE)(t:oS)(y:bq (PS×oS)):Prop:=match y with
 |none=>oU
 |some z=>∃s',gQ den p w s t=.go s' z.2/\m9 os h z.1 s'
section
variable{den:pL->dJ Fin}{p:iU}{w:bU}{os:kH}{h:dH}{s:aE}{t:oS}{mem:PM}{n:H}{a:aR}
theorem QX{Q:fH->bq (PS×oS)}(r:m9 os h ⟨mem,n,s.toks⟩ s)(g:∀o,look a mem=N o->s.heap.get? a=N o->Bv den p w os h s t (Q o)):Bv den p w os h s t (match look a mem with|some o=>(match live o with|true=>Q o|false=>ao)|none=>ao):=by
 cases z:look a mem with
 |none=>trivial
 |some o=>
  show Bv den p w os h s t (match live o with|true=>Q o|false=>ao)
  cases l:live o with
  |false=>trivial
  |true=>exact g o z (aw2 (r.at_ a o z) l)
theorem m9.upd(r:m9 os h ⟨mem,n,s.toks⟩ s)(z:look a mem=N o):m9 os h ⟨put a f mem,n,s.toks⟩ {s with heap:=s.heap.update a f}:=by
 have ga:=r.at_ a o z;refine⟨(Heap.size_after_update ..).trans r.size,rfl,r.gens,r.drawn,r.os,?_,λb y hb=>?_,λb hb=>?_,r.low⟩
 ·exact r.life
 ·show(s.heap.objs.modify a f)[b]?=N y
  rw[cn3];have hb:look b (put a f mem)=N y:=hb;rw[YH _ z]at hb
  by_cases q:b=a
  ·subst q;rw[dP rfl]at hb|-;rw[ga];exact hb
  ·rw[cF q]at hb;rw[cF (F0 q)];exact r.at_ b y hb
 ·show(s.heap.objs.modify a f)[b]?=_
  rw[cn3];have hb:look b (put a f mem)=ao:=hb;rw[YH _ z]at hb
  by_cases q:b=a
  ·subst q;rw[dP rfl]at hb;cases hb
  ·rw[cF q]at hb;rw[cF (F0 q)];exact r.rest b hb
theorem m9.push(r:m9 os h ⟨mem,n,s.toks⟩ s):m9 os h ⟨mem++[(n,o)],n+1,s.toks⟩ {s with heap:=s.heap.push o}:=by
 have hs:s.heap.objs.size=n:=r.size;have hl:look n mem=ao:=by
  cases z:look n mem with
  |none=>rfl
  |some y=>exact absurd (ai1.mp (r.at_ n y z)).1 (hs▸vg _)
 have lo:∀b,look b (mem++[(n,o)])=if b=n then N o else look b mem:=λb=>by
  rw[KY,sQ];by_cases q:b=n
  ·subst q;rw[hl,dP rfl,dP rfl];rfl
  ·rw[cF q,cF q];exact Option.or_none
 have gt:∀b,(s.heap.push o).objs[b]?=if b=n then N o else s.heap.objs[b]?:=λb=>by
  show(s.heap.objs.push o)[b]?=_
  rw[Array.getElem?_push,hs]
 refine⟨(J1 ..).trans (bQ (·+1) hs),rfl,r.gens,r.drawn,r.os,r.life,λb y hb=>?_,λb hb=>?_,xT r.low⟩
 ·rw[gt];have hb:look b (mem++[(n,o)])=N y:=hb;rw[lo]at hb
  by_cases q:b=n
  ·rw[dP q]at hb|-;exact hb
  ·rw[cF q]at hb|-;exact r.at_ b y hb
 ·rw[gt];have hb:look b (mem++[(n,o)])=ao:=hb;rw[lo]at hb
  by_cases q:b=n
  ·rw[dP q]at hb;cases hb
  ·rw[cF q]at hb|-;exact r.rest b hb
theorem YI{x:PS}(r:m9 os h x s):Bv den p w os h s t (Gu den p w os x t):=by
 obtain⟨eE,lP,drawn,toks,rH⟩:=s;obtain⟨mem,n,tk⟩:=x;obtain⟨cur,code,pos,stack⟩:=t;cases r.gens;cases r.drawn;cases r.os;cases r.toks;have other:∀c:dJ C8,Yi c->Bv den p w rH h ⟨eE,#[],{},toks,rH⟩ ⟨c,code,pos,stack⟩ (match gQ den p w ⟨{},#[],{},0,rH⟩ ⟨c,code,pos,stack⟩with| .go X t'=>N ((⟨mem,n,toks⟩:PS),t')| .halt X I=>ao):=λc hc=>by
  have g:=aw3 (den:=den) (p:=p) (w:=w) (os:=rH) (eE:=eE) (tk:=toks) (code:=code) (pos:=pos) (stack:=stack) hc
  revert g
  generalize gQ den p w ⟨{},#[],{},0,rH⟩ ⟨c,code,pos,stack⟩=q;induction q with
  |halt=>exact λX=>trivial
  |go bJ ah9=>exact λg=>⟨_,g,r⟩
 induction cur using cn2 with
 |load a q k=>exact QX (s:=⟨eE,#[],{},toks,rH⟩) r λo z g=>⟨_,by
   show(match eE.get? a with|some o=>ai2 (⟨eE,#[],{},toks,rH⟩:aE) (⟨k o,code,pos,stack⟩:oS)|none=>_)=_
   rw[g],r⟩
 |loadIfAlive a k=>exact QX (s:=⟨eE,#[],{},toks,rH⟩) r λo z g=>⟨_,bQ (λo=>ai2 (⟨eE,#[],{},toks,rH⟩:aE) (⟨k o,code,pos,stack⟩:oS)) g,r⟩
 |update a q f k=>exact QX (s:=⟨eE,#[],{},toks,rH⟩) r λo z g=>⟨_,dP (by rw[g];rfl),m9.upd (s:=⟨eE,#[],{},toks,rH⟩) r z⟩
 |alloc o k=>exact⟨_,bQ (λn=>ai2 (⟨eE.push o,#[],{},toks,rH⟩:aE) (⟨k n,code,pos,stack⟩:oS)) r.size,m9.push (s:=⟨eE,#[],{},toks,rH⟩) r⟩
 |fresh k=>exact⟨⟨eE,#[],{},toks+1,rH⟩,rfl,r.size,rfl,rfl,rfl,rfl,r.life,r.at_,r.rest,r.low⟩
 |rule|«at»|point|ask=>exact⟨_,rfl,r⟩
 |choose|os|newGen|genState|resume|«yield»|thread=>trivial
 |pure f=>exact other _ trivial
 |raise f=>exact other _ trivial
 |unsupported f=>exact other _ trivial
 |finish f=>exact other _ trivial
 |register f k=>exact other _ trivial
 |call c m g l k=>exact other _ trivial
 |handled o k=>exact other _ trivial
 |stack k=>exact other _ trivial
 |fork c k=>exact other _ trivial
 |await a b c d k=>exact other _ trivial
end
theorem YJ{p:iU}{w:bU}{os:kH}{h:dH}(k:H):∀{x:PS}{s:aE}{t:oS}{z:C7×PS×pL×gq},
  rG (pM tb) p w kR lu os b k x t=N z->m9 os h x s->∃s',segRun tb p w kR lu b k s t=N (z.1,s',z.2.2)/\m9 os h z.2.1 s':=by
 induction k with
 |zero=>exact λe=>nomatch e
 |succ k ih=>
  intro x s t z e r;have go:∀(y:bq C7)(c:aD)(v:bq (PS×oS))(Z:Step),(match y with|some f=>N (f,x,t.code,t.pos)|none=>match c with|false=>ao|true=>match v with|some (x',t')=>rG (pM tb) p w kR lu os b k x' t'|none=>ao)=N z->(∀x',v=N x'->∃s',Z=.go s' x'.2/\m9 os h x'.1 s')->
    ∃s',(match(generalizing:=false) y with|some f=>N (f,s,t.code,t.pos)|none=>match c with|false=>ao|true=>match Z with| .go s' t'=>segRun tb p w kR lu b k s' t'| .halt X I=>ao)=N (z.1,s',z.2.2)/\m9 os h z.2.1 s':=λy c v Z=>by
   induction y with
   |some f=>exact λe X=>⟨s,by cases e;rfl,by cases e;exact r⟩
   |none=>induction c with
    |false=>exact λe=>nomatch e
    |true=>induction v with
     |none=>exact λe=>nomatch e
     |some xt=>exact λe g=>(g xt rfl).elim λaF g=>g.1▸ih e g.2
  exact go (endAt b t) (WY kR lu t) (Gu (pM tb) p w os x t) (gQ (pM tb) p w s t) e λx' q=>(q▸YI r:Bv (pM tb) p w os h s t (N x'))
noncomputable def qH(a:H):aD:=match a with
 |0|2|3|4|12|13|37|38=>ah
 |X=>ak
def sel:J H->PM->PM
 |[],X=>[]
 |a::r,m=>match look a m with|some o=>(a,o)::sel r m|none=>sel r m
def DL:PM->aD
 |[]=>ah
 |(a,X)::r=>match qH a with|true=>DL r|false=>ak
noncomputable def vA:H->PM->aD
 |X,[]=>ah
 |n,(a,X)::r=>match bX a n with|true=>vA (n+1) r|false=>ak
def vD:PM->PM
 |[]=>[]
 |(a,o)::r=>match qH a with|true=>vD r|false=>(a,o)::vD r
theorem QY:look a (sel as m)=N o->look a m=N o:=by
 induction as with
 |nil=>exact λh=>nomatch h
 |cons b r ih=>
  have go:∀z,look b m=z->look a (match z with|some o=>(b,o)::sel r m|none=>sel r m)=N o->look a m=N o:=λz=>by
   induction z with
   |none=>exact λX=>ih
   |some x=>
    intro z h;rw[sQ]at h
    by_cases q:a=b
    ·rw[dP q]at h;exact q▸z.trans h
    ·rw[cF q]at h;exact ih h
  exact go _ rfl
theorem YK:DL m=ah->qH a=ak->look a m=ao:=by
 induction m with
 |nil=>exact λX I=>rfl
 |cons p r ih=>
  intro h ha;have go:∀z,qH p.1=z->(match z with|true=>DL r|false=>ak)=ah->look a (p::r)=ao:=λz=>by
   induction z with
   |false=>exact λX h=>nomatch h
   |true=>
    intro z h;rw[show look a (p::r)=if a=p.1 then N p.2 else look a r from sQ ..,cF (λe:a=p.1=>nomatch (ha.symm.trans (e▸z):ak=ah))]
    exact ih h ha
  exact go _ rfl h
theorem QZ{p:aR×fH}(h:vA n (p::r)=ah):p.1=n/\vA (n+1) r=ah:=by
 have go:∀z,bX p.1 n=z->(match z with|true=>vA (n+1) r|false=>ak)=ah->p.1=n/\vA (n+1) r=ah:=λz=>by
  induction z with
  |false=>exact λX h=>nomatch h
  |true=>exact λz h=>⟨mV z,h⟩
 exact go _ rfl h
theorem aw4:∀{n:H},vA n m=ah->a<n->look a m=ao:=by
 induction m with
 |nil=>exact λX I=>rfl
 |cons p r ih=>
  intro n h ha;have h:=QZ h;rw[show look a (p::r)=if a=p.1 then N p.2 else look a r from sQ ..,cF (h.1▸sq ha)]
  exact ih h.2 (cn4 ha)
theorem aw5{p:aR×fH}:∀{n:H},vA n m=ah->p∈m->look p.1 m=N p.2/\n<=p.1:=by
 induction m with
 |nil=>exact λX=>nofun
 |cons q r ih=>
  intro n h hp;have h:=QZ h;have e:look p.1 (q::r)=if p.1=q.1 then N q.2 else look p.1 r:=sQ ..
  rcases iV.mp hp with z|hp
  ·exact⟨by rw[e,z,dP rfl],jm (z▸h.1.symm)⟩
  ·have g:=ih h.2 hp;exact⟨by rw[e,cF (λe:p.1=q.1=>Nat.not_succ_le_self n ((e.trans h.1)▸g.2))];exact g.1,ai3 g.2⟩
theorem aw6{p:aR×fH}:p∈vD m->p∈m/\qH p.1=ak:=by
 induction m with
 |nil=>exact nofun
 |cons q r ih=>
  have go:∀z,qH q.1=z->p∈(match z with|true=>vD r|false=>(q.1,q.2)::vD r:PM)->p∈q::r/\qH p.1=ak:=λz=>by
   induction z with
   |true=>exact λX h=>⟨.tail _ (ih h).1,(ih h).2⟩
   |false=>exact λz h=>(iV.mp h).elim (λe=>⟨e▸ .head _,e▸z⟩) λh=>⟨.tail _ (ih h).1,(ih h).2⟩
  exact go _ rfl
structure wK(os:kH)(lf:Life)(j7 wM:PM)(n toks:H)(s:aE):Prop where
 size:s.heap.objs.size=n
 toks:s.toks=toks
 gens:s.gens=#[]
 drawn:s.drawn={}
 os:s.os=os
 life:s.heap.life=lf
 j7:∀a o,look a j7=N o->s.heap.objs[a]?=N o
 wM:∀p∈wM,s.heap.objs[p.1]?=N p.2/\p.1<n/\qH p.1=ak
variable{tb:jZ->bq gW}{p:iU}{w:bU}{kR:H}{lu:bq aA}{G:cL}{q:gq}{os:kH}{lf:Life}
theorem wK.aw7{j7 wM pre xS eY Gw:PM}{ts hs:J H}{n n' tk Bw k:H}{s:aE}{t:oS}{f:C7}{c:pL}{pos:gq}(a:wK os lf j7 wM n tk s)
  (e:rG (pM tb) p w kR lu os 1 k ⟨pre,n,tk⟩ t=N (f,⟨xS++eY,n',Bw⟩,c,pos))(h1:sel ts j7=pre)(h2:sel hs (xS++eY++j7)=Gw)(h3:DL xS=ah)(h4:vA n eY=ah):
  ∃s',segRun tb p w kR lu 1 k s t=N (f,s',c,pos)/\wK os lf Gw (vD eY++wM) n' Bw s':=by
 subst h1 h2;obtain⟨s',h,r⟩:=YJ (h:=s.heap) k e ⟨a.size,a.toks,a.gens,a.drawn,a.os,rfl,λb o hb=>a.j7 b o (QY hb),λX I=>rfl,jm a.size⟩;have low:=r.low;have sz:=r.size;have sz0:=a.size;dsimp only at low sz
 refine⟨s',h,r.size,r.toks,r.gens,r.drawn,r.os,r.life.trans a.life,λb o hb=>?_,λy hy=>?_⟩
 ·have hb:=QY hb;rw[KY]at hb
  cases z:look b (xS++eY)with
  |some x=>rw[z]at hb;cases hb;exact r.at_ b _ z
  |none=>rw[z,ai4]at hb;exact(r.rest b z).trans (a.j7 b o hb)
 ·rcases gK.mp hy with hy|hy
  ·obtain⟨m,hh⟩:=aw6 hy;obtain⟨l,ge⟩:=aw5 h4 m;have:look y.1 (xS++eY)=N y.2:=by rw[KY,YK h3 hh,ai4];exact l
   have at_:=r.at_ _ _ this;exact⟨at_,sz▸(ai1.mp at_).1,hh⟩
  ·obtain⟨o,lt,hh⟩:=a.wM y hy;have:look y.1 (xS++eY)=ao:=by rw[KY,YK h3 hh,ai4];exact aw4 h4 lt
   exact⟨(r.rest _ this).trans o,pN lt (sz0▸low),hh⟩
def zV(tb:jZ->bq gW)(p:iU)(w:bU)(kR:H)(lu:bq aA)(P:aE->Prop)(s:aE)(t:oS):Prop:=∃cC r,topRun tb p w kR lu cC s t=N r/\P r
theorem zV.Z{P:aE->Prop}{j7 wM pre xS eY Gw:PM}{ts hs:J H}{n n' tk Bw k:H}{ss:J eg}{Z:eg}{dg:J eg}{c:pL}{pos qu:gq}(he:ss=Z::dg)
  (e:rG (pM tb) p w kR lu os 1 k ⟨pre,n,tk⟩ (pieceOf Z G c pos [C9 q])=N (.next,⟨xS++eY,n',Bw⟩,c,qu))
  (h1:sel ts j7=pre)(h2:sel hs (xS++eY++j7)=Gw)(h3:DL xS=ah)(h4:vA n eY=ah)
  (h:∀s,wK os lf Gw (vD eY++wM) n' Bw s->zV tb p w kR lu P s (W0 dg G c qu [C9 q]))(s:aE)(a:wK os lf j7 wM n tk s):
  zV tb p w kR lu P s (W0 ss G c pos [C9 q]):=by
 subst he;refine b_ (a.aw7 e h1 h2 h3 h4) λs' hx=>?_;have hs:=hx.1;have a':=hx.2;refine b_ (h s' a') λcC hx=>?_;refine b_ hx λr hx=>?_;have hr:=hx.1;have hp:=hx.2;exact⟨k+cC,r,piece_cons hs hr,hp⟩
theorem zV.fin(s:aE)(h:P s):zV tb p w kR lu P s (W0 [] G c pos [C9 q]):=by obtain⟨eE,g,d,t,os⟩:=s;exact⟨3,⟨eE,g,d,t,os⟩,rfl,h⟩
end
def K0(den:pL->dJ C8)(p:iU)(w:bU)(kR:H)(lu:bq aA)(os:kH):H->PS->oS->bq (PS×oS)
 |0,s,t=>N (s,t)
 |k+1,s,t=>match W2 t with
  |true=>ao
  |false=>match WY kR lu t with
   |false=>ao
   |true=>match Gu den p w os s t with
    |some (s',t')=>K0 den p w kR lu os k s' t'
    |none=>ao
theorem aw8{tb:jZ->bq gW}{p:iU}{w:bU}{kR:H}{lu:bq aA}{os:kH}{h:dH}(k:H):∀{x:PS}{s:aE}{t:oS}{z:PS×oS},
  K0 (pM tb) p w kR lu os k x t=N z->m9 os h x s->∃s',topGo tb p w kR lu k s t=N (s',z.2)/\m9 os h z.1 s':=by
 induction k with
 |zero=>exact λe r=>⟨_,by cases e;rfl,by cases e;exact r⟩
 |succ k ih=>
  intro x s t z e r;have go:∀(y c:aD)(v:bq (PS×oS))(Z:Step),(match y with|true=>ao|false=>match c with|false=>ao|true=>match v with|some (x',t')=>K0 (pM tb) p w kR lu os k x' t'|none=>ao)=N z->(∀x',v=N x'->∃s',Z=.go s' x'.2/\m9 os h x'.1 s')->
    ∃s',(match(generalizing:=false) y with|true=>ao|false=>match(generalizing:=false) c with|false=>ao|true=>match(generalizing:=false) Z with| .go s' t'=>topGo tb p w kR lu k s' t'| .halt X I=>ao)=N (s',z.2)/\m9 os h z.1 s':=λy c v Z=>by
   induction y with
   |true=>exact λe=>nomatch e
   |false=>induction c with
    |false=>exact λe=>nomatch e
    |true=>induction v with
     |none=>exact λe=>nomatch e
     |some xt=>exact λe g=>(g xt rfl).elim λaF g=>g.1▸ih e g.2
  exact go (W2 t) (WY kR lu t) (Gu (pM tb) p w os x t) (gQ (pM tb) p w s t) e λx' q=>(q▸YI r:Bv (pM tb) p w os h s t (N x'))
noncomputable abbrev bM:=cn5
noncomputable abbrev pw:=cE3
noncomputable def YL:eg:=.Pass ⟨0,0,0,0⟩
def sA(i:H):eg:=pw.main.body.getD i YL
inductive SV where
 |fn (name:ai) (args:Arguments) (body:J eg) (sc:ly)
 |cls (name:ai) (body:J eg) (ws:J ai)
 |asg (l:J aT)
 |o
noncomputable def sv(Z:eg):SV:=Z.casesOn (λn a b X I u2 sc u3 u4 u5=>.fn n a b sc) (λX I u2 u3 u4 u5 u6 u7 u8 u9=>.o) (λn X I b u2 u3 u4 u5 u6 w u7=>.cls n b w) (λX I=>.o) (λX I=>.o) (λl X I=>.asg l) (λX I u2 u3 u4 u5 u6=>.o) (λX I u2 u3=>.o) (λX I u2 u3 u4=>.o) (λX I u2 u3 u4=>.o) (λX I u2 u3 u4=>.o) (λX I u2 u3=>.o) (λX I u2 u3=>.o) (λX I u2=>.o) (λX I u2=>.o) (λX I u2=>.o) (λX I u2=>.o) (λX I u2 u3 u4=>.o) (λX I u2 u3 u4=>.o) (λX I u2=>.o) (λX I=>.o) (λX I u2 u3=>.o) (λX I=>.o) (λX I=>.o) (λX I=>.o) (λX=>.o) (λX=>.o) (λX=>.o)
def aw9(Z:eg):J eg:=match sv Z with| .cls X b I=>b| .fn X I u2 u3=>[]| .asg X=>[]| .o=>[]
def sM(i k:H):eg:=(aw9 (sA i)).getD k YL
def fD(Z:eg)(cm6:ai)(dV kV doc pm:aA)(an:bq aR)(cd ct:aA)(gl bi:aR):C_:=match sv Z with
 | .fn name args body scope=>⟨name,cm6,args,.stmts body,scope,gl,[],dV,kV,doc,pm,an,cd,ct,bi⟩
 | .cls X I u2=>default| .asg X=>default| .o=>default
noncomputable def en(P:fG)(x:ai)(t:H)(v:aA):jN:=⟨Dc P x,.str x t,v⟩
noncomputable abbrev s(x:jZ)(t:H):aA:=.str (bM x) t
noncomputable abbrev j(i:aa):aA:=.int i 0
noncomputable abbrev r(a:H):aA:=.ref a
noncomputable def tu(l:J aA):fH:=⟨.type "tuple",ao,.seq l.toArray 0,#[]⟩
noncomputable def pl(l:J aA):fH:=⟨.none,ao,.fields l.toArray,#[]⟩
def fr(Z:eg)(q:ai):fH:=⟨.none,ao,.func (fD Z q .none .none .none .none ao .none .none 0 0),#[]⟩
noncomputable def co(l:J aA):fH:=⟨.type "code",ao,.fields l.toArray,#[]⟩
noncomputable def fu(f:C_):fH:=⟨.type "function",ao,.func f,#[]⟩
noncomputable def di(l:J jN)(n:H):fH:=⟨.type "dict",ao,.dict l.toArray n,#[]⟩
def ax0(Z:eg):gq:=match sv Z with
 | .asg l=>(match l with|e::X=>e.pos|[]=>⟨0,0,0,0⟩)
 | .o=>⟨0,0,0,0⟩
 | .fn X I u2 u3=>Z.pos| .cls X I u2=>Z.pos
def QF:H->gq
 |0=>⟨0,0,0,0⟩
 |i+1=>ax0 (sA i)
noncomputable def x9(k n:H):J H:=Nat.rec (λX=>[]) (λX ih n=>n% 4096::ih (n/4096)) k n
def nT:J H:=x9 210 0x5b15aa5a55a059959258d58858357e57757056956255d55855154a54353e53953252d52652151a51350c5075004f94f44ed4e64df4d84d14ca4c54be4b74b74af47747046946445d45644f44844143a43342c42541e4174104094023fb3f43ed3e63df3d83d13ca3c33bc3bc3bc3bc3bc3bb3ba3ba3ba3ba3ba3b53ae3a73a039939238b38437d37636f36836335c35534e34734033933232b32431d31630f3083012fa2f32ec2ec2ec2ec2ec2e72e226f25323721d2011e51c91c91c91c91c91c41bd1b61af18a18717e17616916916916916916916916916916916916916916916916916916916916916916916916916916916916916916916916916916916916916916916916916916916916916916916916916916916916914613f13813113113113013013013012812111a0d405c05c05003d02a01601600f
def tT:J H:=x9 210 0x95094193b93592e92191b91590f9099008f68e78dd8d78d18c78bd8b48ae8a889f89988a88487b87386886285a85284c84583c83482d82782181b81480b8098017a979a78e78878077976d76375975174974073872f72671c7117077006f66ec6e26d96d26c86c06b96af6ad6ab6a56a269d69c69a69869669468e68167766e66465c65264a64163662d62561f61860f6055fc5f35eb5e35db5d05c85be5b45a959f59658d58558358157f57d5775714e04b848e46343b4133e93e73e53e33e13db3d43cd3c23a935434332d2fc2fa2f82f62f42f22f02ee2ec2ea2e82e62e42e22e02de2dc2da2d82d62d42d22d02ce2cc2ca2c82c62c42c22c02be2bc2ba2b82b62b42b22b02ae2ac2aa2a82a62a42a22a029d29a29729429126125925224b24924723a23823623422521d2131be1271251150fb0e10c40c20bb
def kT:J H:=x9 210 0xd20d10d00cf0ce0cd0cc0cb0ca0c90c80c70c60c50c40c30c20c10c00bf0be0bd0bc0bb0ba0b90b80b70b60b50b40b30b20b10b00af0ae0ad0ac0ab0aa0aa0a90a80a70a60a50a40a30a20a10a009f09e09d09c09b09a09909809709609509409309209109008f08e08d08c08b08a08908808708608508408408308208108007f07e07d07c07b07a07907807707607507407307207107006f06e06d06c06b06a06906806706606506406306306206106005f05e05d05c05b05a05905805705705605505405305205105004f04e04d04c04b04a04904804704604504404304204104003f03e03d03c03b03a03903803703603503403303203103002f02e02d02c02b02a02902802702602502402302202202102001f01e01d01c01b01a01901801701601501401301301201101000f00e00e00d00c00b00a00a009
def mT:J H:=x9 210 0x17a17717417116e16b16816516215f15c15915615315014d14a14714414113e13b13813513212f12c12912612312011d11a11711411110e10b1081051021020ff0fc0f90f60f30f00ed0ea0e70e40e10de0db0d80d50d20cf0cc0c90c60c30c00bd0ba0b70b40b10ae0ab0ab0ab0ab0ab0ab0ab0ab0ab0ab0ab0a80a50a209f09c09909609309008d08a08708408107e07b07807507206f06c06906606306005d05a05705405105105105105104e04b04804504203f03c03903603603603603603303002d02a02a02a02a02a02a02a02a02a02a02a02a02a02a02a02a02a02a02a02a02a02a02a02a02a02a02a02a02a02a02a02a02a02a02a02a02a02a02a02a02a02a02a02a02a02a02a02a02a02a02a02a02a02a02a02a02a02702402101e01e01e01e01e01e01e01b01801501200f00f00c009006003003000
def vT:J H:=x9 210 0x8008008008008008008008008008008008008008008008008008008008008008008008008008008008008008008008008008008008008008008008008007007007007007007007007007007007007007007007007007007007007007007007007007007007007007007007007007007007007007007007006006006006006006006006006006006006006006006006006006006006006006006006006006006006006006006006006006005005005005005005005005005005005005005004004004004004004004004004004004004004004004004004004004004004004004004004004004004004004004004004004004004004004004004004004004004004004004004004004004004004004003003003003003003003003003003003003003003003003002002002002002002001001001001001000000
noncomputable def vN:J aA:=[s "__main__" 164,s "wasmcore.faults" 194,s "wasmcore.octets" 293,s "wasmcore.binsections" 564,s "wasmcore.codes" 674,s "wasmcore.modules" 993,s "wasmcore.binwrite" 1405,s "wasmcore.binread" 1684,s "law_nm0177_01" 2057]
noncomputable def zY:J H->J aA
 |a::b::l=>.int a 0::.int 0 0::.ref b::zY l
 |X=>[]
def plE:J aA:=zY (x9 252 0x5af50b5a85095a350759e5055974f75904db58b4d45864c05814b657c4ad5754a856e48f56748a56048855b48655648154f47c54847754147253c44953744553044052b43552443051f42451841b51140a50a3f45053ef4fe3ec4f73ea4f23e84eb3e14e43dc4dd3da4d63d84cf3d64c83d44c33d24bc3ce4b53cb47c38047537146e36846735646235145b34f45433b44d32e44631b43f30b43830743130142a2fd4232f241c2ef4152e840e2da4072d34002d13f92cd3f22c63eb2bf3e42b93dd2b73d62b03cf2ab3c82a93c12a43b828f3b32873ac2823a526939e26139724b39024738924538224037b23a37423236d22636621136120d35a20a35320334c1f13451ee33e1e83371e33301e03291db3221cd31b1c93141c630d1c23061bd2ff1b82f81b42f11b22ea1a92e51a727416825815f23c1552221492061401ea1371ce12d1c71251c21231bb11d1b411814b0ca1440c713d0c41360bf12e0aa1260a011f0910d906d06101705501404200f02f00a01b005014001)
noncomputable def ri(c:H)(n _:H):aA:=.ref (n -c)
noncomputable def ii(c:aa)(_ t:H):aA:=.int c (t -2)
noncomputable def bi(l:J iW)(_ t:H):aA:=.bytes l.toArray (t -2)
def aL:J (H->H->aA):=[bi [0,97,115,109],bi [1,0,0,0],ri 1,ii 0,ii 12,ii (-1),ii (-2),ii (-16),ii (-17),ii (-64),ii 0,ii 0,ii 1,ii 2,ii 3,ii 4,ii 5,ii 11,ii 12,ii 13,ii 14,ii 15,ii 16,ii 17,ii 18,ii 19,ii 26,ii 27,ii 28,ii 32,ii 33,ii 34,ii 35,ii 36,ii 37,ii 38,ii 63,ii 64,ii 65,ii 66,ii 208,ii 209,ii 210,ii 64520,ii 64521,ii 64522,ii 64523,ii 64524,ii 64525,ii 64526,ii 64527,ii 64528,ii 64529,ii 252,ii 253,ri 13,ri 8,ri 1,ri 3,ri 1,ii 0,ii 1,ii 2,ii 96,ii 64512,ii 127,ii 64,ii 0,ii 17,ri 1,ri 1,ii (-5),ii 4294967295,ii 50000,ii 31]
def Gy(P:fG):H->J eg->J H->J H->J H->J (H->H->aA)->J jN
 |i,Z::b,n::ns,t::ts,k::ks,al=>(match ks with
  |[]=>[]
  |k'::X=>(match bX k k' with
   |true=>Gy P (i+1) b ns ts ks al
   |false=>(match sv Z with
    | .fn x X I u2=>en P x (t -1) (.ref (n -1))::Gy P (i+1) b ns ts ks al
    | .cls x X I=>en P x (t -1) (.ref (n -bC (bX i 2) 4 (bC (nJ i 5) 3 5)))::Gy P (i+1) b ns ts ks al
    | .asg l=>(match al with
     |f::al=>en P ((oneName? l).getD (bM "")) (t -1) (f n t)::Gy P (i+1) b ns ts ks al
     |[]=>[])
    | .o=>[])))
 |X,I,u2,u3,u4,u5=>[]
def gE(P:fG):J jN:=en P (bM "__doc__") 166 .none::en P (bM "__package__") 167 .none::en P (bM "__loader__") 168 (.builtin "__main__.__loader__#opaque")::en P (bM "__spec__") 169 .none::en P (bM "__annotations__") 170 (r 6)::
 en P (bM "__builtins__") 171 (r 4)::en P (bM "__file__") 173 (s "/claim/cut.py" 172)::en P (bM "__cached__") 174 .none::Gy P 0 pw.main.body nT.tail tT.tail kT aL
def K1(P:fG)(k:H)(v:aA):fH:=⟨.type "dict",ao,.dict (en P (bM "__name__") 165 v::(gE P).take (k -1)).toArray k,#[]⟩
def Q0:fH:=co [s "<module>" 182,s "<module>" 183,s "/claim/cut.py" 184,j (1),j (0),j (0),j (0),j (0),r 11,.bool ak,j (181),r 12,.none,.none,.none,.none,j (185),j (1),s "/claim/cut.py" 186]
def K2(P:fG):fH:=⟨.none,ao,.dict #[en P (bM "type.__subclasses__.Exception.0") 221 (j (38)),en P (bM "type.__subclasses__.Exception.n") 222 (j (1))] 2,#[]⟩
def YM(P:fG):fH:=di [en P (bM "__module__") 203 (s "wasmcore.faults" 194),en P (bM "__firstlineno__") 207 (.int (5) 206),en P (bM "__init__") 215 (r 35),en P (bM "__static_attributes__") 217 (r 36),en P (bM "__weakref__") 219 (r 39),en P (bM "__doc__") 220 .none] 3
def YN(i:H):fH:=⟨.type "type",ao,.cls ⟨bM "WasmFault",[.type "Exception"],[r 38,.type "Exception",.type "BaseException",.type "object"],37,bM "WasmFault",ah,[],[r 58,r 77,r 89].take (i -3),ak,ao,ak⟩,#[(N (r 22)),ao,(N (s "WasmFault" 196)),(N (s "WasmFault" 204)),(N (.builtin "Exception.__new__")),(N (.bool ah))]⟩
def YO(P:fG)(i:H):PM:=[(13,Q0),(12,pl (plE.take (mT.getD i 0))),(3,K1 P (kT.getD i 0) (vN.getD (vT.getD i 0) .none)),(4,F2 P),(0,ai5 P)]
def Q2(P:fG)(i:H):PM:=YO P i++(if nJ 3 i then(if bX 3 i then[(2,K2 P)]else[(2,K2 P),(38,YN i),(37,YM P)])else[(2,ai6 P)])
def j7(P:fG)(i:H):PM:=YO P i++(if nJ 3 i then[(2,K2 P),(38,YN i),(37,YM P)]else[(2,ai6 P)])
abbrev den:=cE4 cE5
noncomputable def K3:cL:={scope:=pw.main.scope,locals:=Pz,globals:=Pz,cells:=[],code:=.ref 13,frame:=N 14}
def pR:pL:=.body (Dd pw) K3
noncomputable def K4:J (ai×cJ)->J ai
 |[]=>[]
 |(x,.local)::r=>x::K4 r
 |X::r=>K4 r
noncomputable def QG:H->J ai->J aA
 |X,[]=>[]
 |t,x::r=>.str x t::QG (t+1) r
def Gz(n t:H)(pm:aA)(Z:eg)(qn:ai->ai)(ax1:aD)(dv:aA):PM:=match sv Z with
 | .fn name args X scope=>
  let q:H->J aA->J aA:=λu l=>[.str name t,.str (qn name) (t+1),.str (bM "/claim/cut.py") (t+2),.int Z.pos.line 0,.int args.args.length 0,.int 0 0,.int 0 0,.int 3 0,.ref n,.bool ah,.int 181 0,.ref (n+1),.none]++l++[.int (t+u+3) 0,.int Z.pos.line 0,.str (bM "/claim/cut.py") (t+u+4)]
  (match ax1 with
  |true=>[(n,tu []),(n+1,pl []),(n+2,fr Z (qn name)),(n+3,co (q 0 [.none,.none,.ref (n+2)])),(n+4,fu (fD Z (qn name) dv .none .none pm ao (.ref (n+3)) .none 3 0))]
  |false=>
   let vs:=K4 scope.names
   [(n,tu []),(n+1,pl []),(n+2,tu (QG (t+3) vs)),(n+3,tu []),(n+4,fr Z (qn name)),(n+5,co (q vs.length [.ref (n+2),.ref (n+3),.ref (n+4)])),(n+6,fu (fD Z (qn name) dv .none .none pm ao (.ref (n+5)) .none 3 0))])
 | .cls X I u2=>[]| .asg X=>[]| .o=>[]
def ax2(n n' t:H)(pm:aA)(Z:eg):PM:=Gz n t pm Z id (bX (n+5) n') .none
def K5(Z:eg):H:=match sv Z with| .fn X I u2 sc=>(K4 sc.names).length| .cls X I u2=>0| .asg X=>0| .o=>0
def Q3(Z:eg):ai:=match sv Z with| .fn n X I u2=>n| .cls n X I=>n| .asg X=>bM "" | .o=>bM ""
def K6(P:fG)(qn:ai->ai)(pm:aA)(k:PM->J jN->J aA->H->H->PM):J eg->J H->H->H->PM->J jN->J aA->PM
 |Z::b,f::fs,n,t,o,e,l=>(match f with
  |0=>K6 P qn pm k b fs (n+8) (t+7+K5 Z) (o++(n,tu [.int 0 t,.none])::Gz (n+1) (t+1) pm Z qn ak (.ref n)) (e++[en P (Q3 Z) (t+6+K5 Z) (.ref (n+7))]) (l++[.int Z.pos.line 0,.int 4 0,.ref (n+6)])
  |5=>K6 P qn pm k b fs (n+5) (t+6) (o++Gz n t pm Z qn ah .none) (e++[en P (Q3 Z) (t+5) (.ref (n+4))]) (l++[.int Z.pos.line 0,.int 4 0,.ref (n+3)])
  |X=>K6 P qn pm k b fs (n+7) (t+6+K5 Z) (o++Gz n t pm Z qn ak .none) (e++[en P (Q3 Z) (t+5+K5 Z) (.ref (n+6))]) (l++[.int Z.pos.line 0,.int 4 0,.ref (n+5)]))
 |X,I,n,t,o,e,l=>k o e l n t
def gs(x y z:jZ)(c t:H):fH:=⟨.type "getset_descriptor",ao,.fields #[s x t,r c,.builtin y,bC (z== "") .none (.builtin z)],#[]⟩
def YQ(P:fG)(n t:H)(pm:aA)(Z:eg)(fs:J H)(bs ms:J aA)(d:H):PM:=match sv Z with
 | .cls x b ws=>K6 P (λm=>⟨⟨x.cps.toList++46::m.cps.toList⟩⟩) pm (λo e l m u=>
  let f:aD:=bX d 2
  let c:=m+2
  let v:=u+ws.length
  let e0:=en P (bM "__module__") (t+7) pm
  let e1:=en P (bM "__firstlineno__") (t+11) (.int Z.pos.line (t+10))::e++[en P (bM "__static_attributes__") v (r m)]
  let e2:J jN:=match d with
   |0=>[en P (bM "__doc__") (v+1) .none]
   |1=>[en P (bM "__weakref__") (v+2) (r (m+3)),en P (bM "__doc__") (v+3) .none]
   |X=>[en P (bM "__dict__") (v+2) (r (m+3)),en P (bM "__weakref__") (v+4) (r (m+4)),en P (bM "__doc__") (v+5) .none]
  [(n,tu (bC f [] bs)),(n+1,⟨.type "builtin_function_or_method",ao,.fields #[.builtin "type.__prepare__",.type "type"],#[]⟩),(n+2,di (e0::en P (bM "__qualname__") (t+9) (.str x (t+8))::e1) (e.length+4)),(n+3,tu []),(n+4,pl l),
   (n+5,co [.str x (t+2),.str x (t+3),s "/claim/cut.py" (t+4),.int Z.pos.line 0,j 0,j 0,j 0,j 0,r (n+3),.bool ak,j 181,r (n+4),.none,.none,.none,.none,.int (t+5) 0,.int Z.pos.line 0,s "/claim/cut.py" (t+6)]),
   (n+6,⟨.type "frame",ao,.plain,#[N (r (n+5)),N (r 3),N (r (n+2)),ao,N pm,ao,N (r 0)]⟩)]++o++
  [(m,tu (QG u ws)),(m+1,di (e0::e1++e2) (d+2)),(c,⟨.type "type",ao,.cls ⟨x,bs,r c::ms,m+1,x,ah,[],[],ak,ao,ak⟩,#[bC f ao (N (r n)),ao,N (.str x t),N (.str x (t+8)),N (.builtin (bC f "object.__new__" "Exception.__new__")),N (.bool ah)]⟩)]++
  (match d with
   |0=>[]
   |1=>[(m+3,gs "__weakref__" "ExceptionGroup.__weakref__" "" c (v+1))]
   |X=>[(m+3,gs "__dict__" "function.__dict__" "function.__dict__#set" c (v+1)),(m+4,gs "__weakref__" "ExceptionGroup.__weakref__" "" c (v+3))])++
  [(c+d+1,⟨.type "super",ao,.fields #[r c,r c,r c],#[]⟩),(c+d+2,⟨.type "builtin_function_or_method",ao,.fields #[.builtin "object.__init_subclass__",r c],#[]⟩)]) b fs (n+7) (t+12) [] [] []
 | .fn X I u2 u3=>[]| .asg X=>[]| .o=>[]
noncomputable def tv(k n:H):J aA:=Nat.rec (λX=>[]) (λX ih n=>(match bX (n% 131072) 131071 with|true=>.ref (n/131072% 131072)|false=>.int (Int.sub (n% 131072:H) 64) (n/131072% 131072))::ih (n/131072/131072)) k n
def zZ:H->J (H×H)->PM
 |X,[]=>[]
 |n,p::l=>(n,tu (tv p.1 p.2))::zZ (n+1) l
noncomputable def fE:J H->J aA->J jN
 |k::t::l,v::vs=>⟨.ofNat k,.int (.ofNat k) t,v⟩::fE l vs
 |X,I=>[]
noncomputable def sE:J H->J jZ->J aA
 |t::l,x::r=>s x t::sE l r
 |X,I=>[]
noncomputable def GA(k n:H):J H:=Nat.rec (λX=>[]) (λX ih n=>n% 131072::ih (n/131072)) k n
noncomputable def rE(k n:H):J aA:=Nat.rec (λX=>[]) (λX ih n=>.ref n::ih (n+1)) k n
def ax3:PM:=zZ 304 [(12,0x1228012c0488004a0121801300484004901208012004800047011f80118047c0045011e8011004780043011d8010804740041)]
def ax4:PM:=[(361,di (fE (GA 24 0x18e800d406340034018b800cc062800320188800c4061c00300185800bc0610002e0182800b40604002c017f800a405f80028) (rE 12 362)) 12)]++zZ 362 [(3,29633208581582349834765205567),(3,29749265460272109703697924158),(3,29865322634109774563004121151),(3,29981379217651629183864143935),(3,30097436391489294180609687615),(3,30213492975031148801469710399),(3,30329550148868813763855908926),(3,30445606732410668384715931710),(3,30561663906248333381461475390),(3,30677720489790188002321498174),(3,30793777663627853016246911038),(3,30909834247169707637106933822)]
def ax5:PM:=[(374,di (fE (GA 14 0x672003e019b800f4066a003c0199800ec0662003a0197800dc065a0036) (rE 7 375)) 7)]++zZ 375 [(2,1832966216657141823),(2,1837469885004382270),(2,1841973364372275263),(2,1846476981179514943),(2,1850980563627409470),(2,1855484180434649150),(2,1859987814421758014)]
def ax6:PM:=zZ 382 [(2,1882506482596315242),(2,1887010322742116472),(2,1891514111348310147),(2,1896018295091495067),(2,1900522994230755531),(2,1905026679757734120),(2,1909530622982750446),(2,1915139369235315776)]++[(390,⟨.type "list",ao,.seq #[(r 382),(r 383),(r 384),(r 385),(r 386),(r 387),(r 388),(r 389)] 0,#[]⟩)]
def ax7:PM:=[(391,di (fE (GA 84 0x17b3f04405e8fc1001793f03c05e0fc0e01773f03405d8fc0c01753f02c05d0fc0a01733f02405c8fc0801710034805c000d1016f0034005b80042016d0010405b00040016b000fc05a8002601690009405a0002401670008c05980022016500084059000200163000700588001b01610006805800013015f0004805780011015d000400570000f015b000380568000d0159000300560000b0157000140558000401550000c0550000201530000405480000) (sE (x9 42 0x39f39e39d39c39b39a39939839639439239038e38c38a38838638438238037e37c37a37837637437237036e36c36a36836636436236035e35c35a358356354) ["none","none","block","block","block","none","none","label","label","labels","none","func","indirect","func","indirect","none","none","kinds","local","local","local","global","global","table","table","memory","memory","i32","i64","refkind","none","func","memory_init","data","two_memories","memory","table_init","elem","table_copy","table","table","table"])) 42)]++[(392,di (fE (GA 34 0x5ccfc0901723f02005c400d201700034405bc00d0016e0010805b40041016c0010005ac003f016a0009805a40025016800090059c002301660008805940021016400080058c001c) (sE (x9 17 0x39639439239038e38c38a38838638438238037e37c37a378376) ["kinds","local","local","local","global","global","table","table","memory","memory","i32","i64","refkind","none","func","memory_init","data"])) 17)]++[(393,di (fE (GA 16 0x17b3f04405e8fc1001793f03c05e0fc0e01773f03405d8fc0c01753f02c05d0fc0a) (sE (x9 8 17935161734599855294073377688) ["two_memories","memory","table_init","elem","table_copy","table","table","table"])) 8)]
def ax8:PM:=zZ 394 [(1,86245439),(1,86245439),(4,0xc5ffffc0315ffff01d50021407520085),(2,1481685359822897215),(1,86245439),(4,0xc77fffc031bffff01d60023c07560086),(1,86638654),(1,86245439),(4,0xc8ffffc0321ffff01d700240075a0090),(2,1488440742084476990),(1,86245439),(4,0xca7fffc0327ffff01d800268075e0091),(1,86245439),(1,86245439),(4,0xcbffffc032dffff01d9002a4076200a7),(2,1481685359822897215),(1,86245439),(4,0xcd7fffc0333ffff01da002e0076600aa),(1,86638654),(1,86638654),(4,0xceffffc0339ffff01db002ec076a00b9),(2,1488440742084476990),(1,86638654),(4,0xd07fffc033fffff01dc00328076e00bc),(1,86638654),(1,86245439),(4,0xd1ffffc0345ffff01dd0039c077200e7),(1,86245439),(1,86638654),(4,0xd37fffc034bffff01de003b4077600ec),(1,86245439),(1,86245439),(4,0xd4ffffc0351ffff01df00404077a0100),(1,86638654),(1,86638654),(4,0xd67fffc0357ffff01e000410077e0102),(12,0xd6ffffc0355ffff00d3ffffc0349ffff00d0ffffc033dffff00cdffffc0331ffff00caffffc0325ffff00c7ffffc0319ffff)]
def ax9:PM:=zZ 954 [(2,1671945023702760520)]
def ay0:PM:=zZ 955 [(2,3819053515024367677)]
noncomputable def wO(k:H):J H:=vh k 7
def vE(P:fG)(i:H)(fs:J H):PM:=YQ P (nT.getD i 0) (tT.getD i 0) (vN.getD (vT.getD i 0) .none) (sA i) fs [.type "object"] [.type "object"] 2
def K7(P:fG)(i:H)(fs:J H)(b:aA)(d:H):PM:=YQ P (nT.getD i 0) (tT.getD i 0) (vN.getD (vT.getD i 0) .none) (sA i) fs [b] ((match d with|0=>[b]|X=>[])++[.type "Exception",.type "BaseException",.type "object"]) d
def YR(i:H)(t:H)(v:J aA):PM:=(nT.getD i 0,tu v)::Gz (nT.getD i 0+1) t (vN.getD (vT.getD i 0) .none) (sA i) id ak (r (nT.getD i 0))
def nwL(P:fG):J (H×PM):=[(2,K7 P 2 [7] (.type "Exception") 1),(3,K7 P 3 [7] (r 38) 0),(4,K7 P 4 [7] (r 38) 0),(5,K7 P 5 [] (r 38) 0),(7,vE P 7 (0::wO 14)),(8,vE P 8 (wO 8)),(11,YR 11 550 [.int 0 549]),(15,ax3),(21,vE P 21 (wO 3)),(73,ax4),(74,ax5),(75,ax6),(76,ax7),(77,ax8),(86,vE P 86 (wO 2)),(87,vE P 87 (wO 2)),(88,vE P 88 (wO 2)),(89,vE P 89 [7,5]),(90,vE P 90 (wO 2)),(91,vE P 91 (wO 2)),(92,vE P 92 ([7,7,5]++wO 9++[5,7,7])),(133,ax9),(134,ay0),(166,vE P 166 (wO 6)),(167,YR 167 2049 [.int 50000 1707])]
def rI(P:fG)(i:H):PM:=(nwL P).rec (ax2 (nT.getD i 0) (nT.getD (i+1) 0) (tT.getD i 0) (vN.getD (vT.getD i 0) .none) (sA i)) λp X ih=>match bX p.1 i with|true=>p.2|false=>ih
def sR(w:bU)(os:kH)(i:H):bq (C7×PS×pL×gq):=rG den pw w 11 (N (.ref 6)) os 1 900 ⟨j7 w.params i,nT.getD i 0,tT.getD i 0⟩ (pieceOf (sA i) K3 pR (QF i) [C9 ⟨0,0,0,0⟩])
def sU(w:bU)(i:H):bq (C7×PS×pL×gq):=N (.next,⟨Q2 w.params (i+1)++rI w.params i,nT.getD (i+1) 0,tT.getD (i+1) 0⟩,pR,QF (i+1))
def PC(w:bU)(i:H):Prop:=∀os:kH,sR w os i=sU w i
def DM(P:fG):PM:=[(0,ai5 P),(1,boot_o_1 P),(2,ai6 P),(3,boot_o_3 P),(4,F2 P),(5,boot_o_5 P),(6,boot_o_6 P),(7,boot_o_7 P),(8,boot_o_8 P),(9,boot_o_9 P),(10,boot_o_10 P)]
noncomputable def YS:fH:=⟨.type "frame",ao,.plain,#[N (r 13),N (r 3),N (r 3),ao,N (s "__main__" 164),ao,N (r 0)]⟩
theorem ay1(w:bU)(os:kH):K0 den pw w 11 (N (.ref 6)) os 12 ⟨DM w.params,11,181⟩ (PA pw)=
  N (⟨DM w.params++[(11,tu []),(12,pl []),(13,Q0),(14,YS)],15,187⟩,⟨den pR,pR,⟨0,0,0,0⟩,[C9 ⟨0,0,0,0⟩]⟩):=by kernel_rfl
theorem ay2(w:bU)(os:kH):rG den pw w 11 (N (.ref 6)) os 1 3 ⟨[],15,187⟩ (blockOf (Dd pw) K3 pR ⟨0,0,0,0⟩ [C9 ⟨0,0,0,0⟩])=
  N (.next,⟨[],15,187⟩,pR,⟨0,0,0,0⟩):=by kernel_rfl
theorem ay3(P:fG):sel [13,12,3,4,0,2] (DM P++[(11,tu []),(12,pl []),(13,Q0),(14,YS)])=j7 P 0:=by kernel_rfl
theorem YT(P:fG):(qv P).objs=((DM P).map (·.2)).toArray:=by kernel_rfl
noncomputable def YU(i:H):J H:=if nJ 3 i then[13,12,3,4,0,2,38,37]else[13,12,3,4,0,2]
def YV(P:fG)(i:H):PM×PM×aD×aD×J eg:=(sel (YU i) (j7 P i),sel (YU (i+1)) (Q2 P (i+1)++rI P i++j7 P i),DL (Q2 P (i+1)),vA (nT.getD i 0) (rI P i),(Dd pw).drop i)
def YW(P:fG)(i:H):PM×PM×aD×aD×J eg:=(j7 P i,j7 P (i+1),ah,ah,sA i::(Dd pw).drop (i+1))
def SC(P:fG)(i:H):Prop:=YV P i=YW P i
def DN(P:fG):H->PM
 |0=>[]
 |i+1=>vD (rI P i)++DN P i
theorem ay4:∀{k i:H},y∈vD (rI P i)->i<k->y∈DN P k:=@λi_=>by
 induction i_ with
 |zero=>exact@λX I h=>absurd h (xU _)
 |succ k ih=>
  intro i m h;rcases cn6.mp h with h|rfl
  ·exact kj _ (ih m h)
  ·exact iM _ m
theorem aq7{w:bU}{os:kH}{lf:Life}{Q:aE->Prop}(Q4:∀i,i<209->PC w i)(Q5:∀i,i<209->SC w.params i)(ay5:(Dd pw).drop 209=[])
  (ay6:den=pM W3)(hq:∀s,wK os lf (j7 w.params 209) (DN w.params 209) (nT.getD 209 0) (tT.getD 209 0) s->Q s):
  ∀k i,i+k=209->∀s,wK os lf (j7 w.params i) (DN w.params i) (nT.getD i 0) (tT.getD i 0) s->
   zV W3 pw w 11 (N (.ref 6)) Q s (W0 ((Dd pw).drop i) K3 pR (QF i) [C9 ⟨0,0,0,0⟩]):=λi_=>by
 induction i_ with
 |zero=>intro i h s a;obtain rfl:i=209:=h;rw[ay5];exact .fin s (hq s a)
 |succ k ih=>
  intro i h s a;have lt:i<209:=h▸xV (jc k);have x:=Q5 i lt;have y:rG den pw w 11 (N (.ref 6)) os 1 900 _ _=_:=Q4 i lt os;rw[ay6]at y
  exact zV.Z (bQ (·.2.2.2.2) x) y (bQ (·.1) x) (bQ (·.2.1) x) (bQ (·.2.2.1) x) (bQ (·.2.2.2.1) x) (λs a=>ih (i+1) ((A6 i 1 k).trans h) s a) s a
def KN(Q:H->Prop):H->Prop
 |0=>oU
 |n+1=>KN Q n/\Q n
theorem KN.at:∀{n i:H},KN Q n->i<n->Q i
 |0,X,I,h=>absurd h (xU _)
 |n+1,i,⟨a,b⟩,h=>by
  rcases cn6.mp h with h|rfl
  ·exact a.at h
  ·exact b
theorem Q6:den=pM W3:=by unfold den;rw[<-cE6,<-cE7]
theorem ay7{m:PM}:∀{k:H},vA k m=ah->m.map (·.2)=l->∀a o,look a m=N o->l[a -k]?=N o/\k<=a:=by
 intro k h e a o ho;induction m generalizing k l with
 |nil=>rw[YG]at ho;cases ho
 |cons p r ih=>
  obtain⟨b,y⟩:=p;obtain⟨rfl,h⟩:=QZ h;rw[sQ]at ho
  subst e;by_cases q:a=b
  ·rw[dP q]at ho;cases ho;subst q;simp
  ·rw[cF q]at ho
   obtain⟨h1,h2⟩:=ih h rfl ho;have h3:b<=a:=ai3 h2;refine⟨?_,h3⟩;have:a -b=(a -(b+1))+1:=by have:b+1<=a:=h2;exact(Nat.succ_pred_eq_of_pos (Nat.sub_pos_of_lt this)).symm
   rw[ai7,this,List.getElem?_cons_succ];exact h1
theorem ay8(w:bU)(os:kH)(Q4:∀i,i<209->PC w i)(Q5:∀i,i<209->SC w.params i):
  zV W3 pw w 11 (N (.ref 6)) (wK os (qv w.params).life (j7 w.params 209) (DN w.params 209) (nT.getD 209 0) (tT.getD 209 0)) ⟨qv w.params,Array.mk [],W4,W5,os⟩ (PA pw):=by
 have eo:=YT w.params;have r0:m9 os (qv w.params) ⟨DM w.params,11,181⟩ ⟨qv w.params,Array.mk [],W4,W5,os⟩:=by
  refine⟨by show(qv w.params).objs.size=11;rw[eo];rfl,rfl,rfl,rfl,rfl,rfl,λa o h=>?_,λX I=>rfl,by show(qv w.params).objs.size<=11;rw[eo];exact jO _⟩
  show(qv w.params).objs[a]?=N o
  rw[eo,List.getElem?_toArray];have:=(ay7 (k:=0) (m:=DM w.params) rfl rfl a o h).1;simpa using this
 have g:=ay1 w os;rw[Q6]at g
 refine b_ (aw8 12 g r0) λaF hx=>?_;have h1:=hx.1;have r1:=hx.2;have b:=ay2 w os;rw[Q6]at b
 refine b_ (YJ (h:=aF.heap) 3 b ⟨r1.size,r1.toks,r1.gens,r1.drawn,r1.os,rfl,λX I h=>(by rw[YG]at h;cases h),λX I=>rfl,jm r1.size⟩) λcj hx=>?_
 have h2:=hx.1;have r2:=hx.2
 have a0:wK os (qv w.params).life (j7 w.params 0) [] 15 187 cj:=
  ⟨r2.size,r2.toks,r2.gens,r2.drawn,r2.os,r2.life.trans r1.life,λa o h=>(r2.rest a rfl).trans (r1.at_ a o (QY (as:=[13,12,3,4,0,2]) (by rw[ay3];exact h))),λX h=>nomatch h⟩
 refine b_ (aq7 (os:=os) (lf:=(qv w.params).life) Q4 Q5 (by kernel_rfl) Q6 (λs h=>h) 209 0 rfl cj a0) λcC hx=>?_
 refine b_ hx λz hx=>?_;have hN:=hx.1;have hz:=hx.2;exact⟨12+(3+cC),z,go_top h1 (piece_block h2 hN),hz⟩
noncomputable def qD{β:Type}(f:H->β)(k:H):H->J β:=Nat.rec (λX=>[]) (λX ih i=>f i::ih (i+1)) k
def rJ{β:Type}(f:H->β)(k:H)(i:H):J β:=qD f k i
theorem YX{β:Type}{f g:H->β}{j:H}(k:H):∀i,qD f k i=rJ g k i->i<=j->j<i+k->f j=g j:=by
 induction k with
 |zero=>exact λi X h l=>absurd l (vj.mpr h)
 |succ k ih=>exact λi e h l=>(Nat.eq_or_lt_of_le h).elim (λq=>q▸(PB e).1) λq=>ih (i+1) (PB e).2 q (xW i k▸l)
abbrev PQ(w:bU)(os:kH)(c:H):Prop:=qD (sR w os) 19 (19*c)=rJ (sU w) 19 (19*c)
theorem pc0(w:bU)(os:kH):qD (sR w os) 19 (19*0)=rJ (sU w) 19 (19*0):=by kernel_rfl
theorem pc1(w:bU)(os:kH):qD (sR w os) 19 (19*1)=rJ (sU w) 19 (19*1):=by kernel_rfl
theorem pc2(w:bU)(os:kH):qD (sR w os) 19 (19*2)=rJ (sU w) 19 (19*2):=by kernel_rfl
theorem pc3(w:bU):∀os,PQ w os 3:=byRow2 "special-get-raises" (P:=λw=>∀os,qD (sR w os) 19 (19*3)=rJ (sU w) 19 (19*3)) (λw os=>by kernel_rfl) (λw os=>by kernel_rfl) w
theorem pc4(w:bU):∀os,PQ w os 4:=byRow2 "special-get-raises" (P:=λw=>∀os,qD (sR w os) 19 (19*4)=rJ (sU w) 19 (19*4)) (λw os=>by kernel_rfl) (λw os=>by kernel_rfl) w
theorem pc5(w:bU)(os:kH):qD (sR w os) 19 (19*5)=rJ (sU w) 19 (19*5):=by kernel_rfl
theorem pc6(w:bU)(os:kH):qD (sR w os) 19 (19*6)=rJ (sU w) 19 (19*6):=by kernel_rfl
theorem pc7(w:bU)(os:kH):qD (sR w os) 19 (19*7)=rJ (sU w) 19 (19*7):=by kernel_rfl
theorem pc8(w:bU)(os:kH):qD (sR w os) 19 (19*8)=rJ (sU w) 19 (19*8):=by kernel_rfl
theorem pc9(w:bU)(os:kH):qD (sR w os) 19 (19*9)=rJ (sU w) 19 (19*9):=by kernel_rfl
theorem ay9(w:bU)(os:kH):qD (sR w os) 19 (19*10)=rJ (sU w) 19 (19*10):=by kernel_rfl
theorem scs(P:fG):qD (YV P) 209 0=rJ (YW P) 209 0:=by kernel_rfl
theorem az0(w:bU)(i:H)(h:i<209):PC w i:=λos=>YX 19 (19*(i/19)) (KN.at (Q:=PQ w os) (n:=11) ⟨⟨⟨⟨⟨⟨⟨⟨⟨⟨⟨cH2,pc0 w os⟩,pc1 w os⟩,pc2 w os⟩,pc3 w os⟩,pc4 w os⟩,pc5 w os⟩,pc6 w os⟩,pc7 w os⟩,pc8 w os⟩,pc9 w os⟩,ay9 w os⟩ (ai8 h)) (Nat.mul_div_le i 19) (Nat.lt_mul_div_succ i (by decide))
theorem az1(P:fG)(i:H)(h:i<209):SC P i:=YX 209 0 (scs P) (qw i) ((mW 209).symm▸h)
theorem az2:opening pw=plainProg pw.main.scope.names:=by kernel_rfl
theorem Q7:W6 pw.main.body=[]:=by kernel_rfl
theorem az3:pw.main.body.any namesNumpy=ak:=by kernel_rfl
theorem az4(s:aE):ai9 pw s=N s:=by unfold ai9;rw[Q7,az3];rfl
structure cu(w:bU)(bJ s:aE):Prop where
 Z:bJ=⟨qv w.params,Array.mk [],W4,W5,bJ.os⟩
 at_:wK bJ.os (qv w.params).life (j7 w.params 209) (DN w.params 209) (nT.getD 209 0) (tT.getD 209 0) s
 old:∀b o,b<11->b≠Pz->b≠J2->b≠6->bJ.heap.get? b=N o->s.heap.get? b=N o
theorem YY(w:bU):(∃s,AfterRun (opening pw) w s)/\∀s,AfterRun (opening pw) w s->∃bJ,ai9 pw s=N bJ/\bJ.asleep/\∃aF,cu w bJ aF/\aF.asleep/\
  (∃m b8,schedN (pM nK) pw w m (.single bJ (PA pw))=.running (.single aF b8)/\W2 b8=ah)/\aF.heap.life=bJ.heap.life/\aF.os=bJ.os:=by
 have h:=boot_open (p:=pw) (N:=600) az2 rfl az4 w;unfold fencedOpening at h
 obtain⟨bJ,h2,h3⟩:=wm.mp h;obtain⟨s,h4,h5⟩:=aj0.mp h2;have YZ:=h4;rw[<-cn7]at h4
 have A:=cE8 h4;refine⟨⟨s,A⟩,λs' pS=>?_⟩;obtain rfl:s'=s:=cE9 pS A;have z:bJ.asleep:=aj1 (fence_lifeW h5) A.life;have e0:bJ=⟨qv w.params,Array.mk [],W4,W5,bJ.os⟩:=by
  obtain⟨hp,g,d,t,os⟩:=bJ;have a:=bQ cn8 h3;have b:=bQ (λx=>x.2.1) h3;have c:=bQ (λx=>x.2.2.1) h3;have d:=bQ (λx=>x.2.2.2) h3;dsimp only at a b c d
  subst a b c d;rfl
 obtain⟨cC,aF,hr,hq⟩:=ay8 w bJ.os (az0 w) (az1 w.params);rw[<-e0,<-cn7]at hr
 obtain⟨a,l,os,fr⟩:=topRun_spec cC bJ (PA pw) aF z hr;exact⟨bJ,h5,z,aF,⟨e0,hq,λb o h1 h2 h3 h4=>fr b o h1 h2 h3 (λe=>h4 (by cases e;rfl))⟩,aj1 l z,a,l,os⟩
section
theorem z3{h h':dH}(e:h.get? a=h'.get? a):h.isNs a=h'.isNs a:=by unfold Heap.isNs;rw[e]
theorem Q8{h h':dH}(e:h.get? a=h'.get? a):h.nsKeys a=h'.nsKeys a:=by unfold Heap.nsKeys;rw[e]
theorem z4{h h':dH}(e:h.get? a=h'.get? a):h.nsMap a=h'.nsMap a:=by funext x;unfold Heap.nsMap;rw[e]
theorem az5{h h':dH}(e:h.get? a=h'.get? a):h.nsPairs a=h'.nsPairs a:=by unfold Heap.nsPairs;rw[e]
def hF(P:fG):dH:={qv P with objs:=#[ai5 P,boot_o_1 P,K2 P,K1 P (kT.getD 209 0) (vN.getD (vT.getD 209 0) .none),F2 P]}
variable{w:bU}{bJ s:aE}
theorem cu.Y0(x:cu w bJ s){o:fH}(h:look a (j7 w.params 209)=N o)(h2:o.alive=ah):s.heap.get? a=N o:=(aj2 _ _ _).2 ⟨x.at_.j7 a o h,h2⟩
theorem cu.K8(x:cu w bJ s)(h:look a (j7 w.params 209)=(hF w.params).get? a)(h2:((hF w.params).get? a).isSome=ah):s.heap.get? a=(hF w.params).get? a:=
 (cn9.mp h2).elim λo e=>(x.Y0 (h.trans e) ((aj2 _ _ _).1 e).2).trans e.symm
theorem cu.g0(x:cu w bJ s):s.heap.get? wo=(hF w.params).get? wo:=x.K8 (by kernel_rfl) (by kernel_rfl)
theorem cu.g2(x:cu w bJ s):s.heap.get? J2=(hF w.params).get? J2:=x.K8 (by kernel_rfl) (by kernel_rfl)
theorem cu.g3(x:cu w bJ s):s.heap.get? qx=(hF w.params).get? qx:=x.K8 (by kernel_rfl) (by kernel_rfl)
theorem cu.g4(x:cu w bJ s):s.heap.get? 4=(hF w.params).get? 4:=x.K8 (by kernel_rfl) (by kernel_rfl)
theorem az6(P:fG):(hF P).isNs qx=ah:=by kernel_rfl
theorem Y4(P:fG):(hF P).isNs J2=ah:=by kernel_rfl
theorem Y5(P:fG):(hF P).isNs wo=ah:=by kernel_rfl
theorem az7(P:fG):staticsOk [] (qv P) (hF P)=ah:=by kernel_rfl
theorem az8(P:fG):(hF P).accountedOkI []=ah:=by kernel_rfl
theorem az9(P:fG):(hF P).bltView=co0:=by kernel_rfl
theorem aA0(P:fG):(hF P).nsKeys qx=startupNames++pw.boundNames.eraseIdx 1:=by kernel_rfl
theorem aA1(P:fG):laidKept (qv P) (hF P)=ah:=by kernel_rfl
theorem aA2(P:fG):(hF P).nsMap qx "__builtins__"=N (.ref 4):=by kernel_rfl
theorem aA3(P:fG):(hF P).get? 4=N (F2 P):=by kernel_rfl
theorem aA4(P:fG):(F2 P).cls=.type "module" /\(F2 P).dict=N wo:=⟨by kernel_rfl,by kernel_rfl⟩
end
section
variable{w:bU}{bJ s:aE}
theorem aA5:look a m=N o->(a,o)∈m:=by
 induction m with
 |nil=>exact λh=>by cases h
 |cons p r ih=>exact Gv (P:=λz=>z=N o->(a,o)∈p::r) (λq h=>by cases h;subst q;exact .head _) λX h=>.tail _ (ih h)
theorem aA6(h:qH a=ak):(a,o)∈m->(a,o)∈vD m:=by
 induction m with
 |nil=>exact λh=>h
 |cons p r ih=>
  intro hm;unfold vD;refine(iV.mp hm).elim (λe=>?_) λhm=>?_
  ·cases e;rw[h];exact .head _
  ·cases qH p.1
   ·exact .tail _ (ih hm)
   ·exact ih hm
theorem cu.Q9(x:cu w bJ s)(i:H){o:fH}(hi:i<209)(h:look a (rI w.params i)=N o)(hh:qH a=ak)(h2:o.alive=ah):s.heap.get? a=N o:=
 (aj2 _ _ _).2 ⟨(x.at_.wM (a,o) (ay4 (aA6 hh (aA5 h)) hi)).1,h2⟩
noncomputable def Bx:Arguments×J eg×ly:=(pw.theDef "law").getD default
def GB(P:fG):fH:=(look 1456 (rI P 208)).getD default
theorem Y6(P:fG):look 1456 (rI P 208)=N (GB P):=by kernel_rfl
theorem Y7(P:fG):(GB P).alive=ah:=by kernel_rfl
def uo(P:fG):C_:=match(GB P).data with| .func f=>f|X=>default
theorem aA7(P:fG):(GB P).data=.func (uo P):=by kernel_rfl
theorem aA8:pw.theDef "law"=N Bx:=by kernel_rfl
theorem Y8(P:fG):(hF P).nsMap qx "law"=N (.ref 1456):=by kernel_rfl
theorem aA9(P:fG):(uo P).name= "law" /\(uo P).qualname= "law" /\(uo P).params=Bx.1/\(uo P).body=.stmts (Bx.2.1)/\(uo P).scope=Bx.2.2/\
  (uo P).globals=Pz/\(uo P).closure=[]/\(uo P).builtins=wo/\(Bx.1).defaults=[]/\(uo P).defaults=.none/\kwWritten? (Bx.1).kwonlyargs (Bx.1).kw_defaults=N []/\(uo P).kwdefaults=.none:=
 ⟨by kernel_rfl,by kernel_rfl,by kernel_rfl,by kernel_rfl,by kernel_rfl,by kernel_rfl,by kernel_rfl,by kernel_rfl,by kernel_rfl,by kernel_rfl,by kernel_rfl,by kernel_rfl⟩
theorem cu.wQ(x:cu w bJ s):s.heap.isNs qx=ah:=(z3 x.g3).trans (az6 _)
theorem cu.aB0(x:cu w bJ s):isTheDefsW pw s.heap "law":=by
 obtain⟨a1,a2,a3,a4,a5,a6,a7,a8,a9,a10,a11,a12⟩:=aA9 w.params;exact⟨1456,GB w.params,uo w.params,_,_,_,(aj3 x.wQ _).trans ((W7 (z4 x.g3) _).trans (Y8 _)),x.Q9 208 (by decide) (Y6 _) rfl (Y7 _),aA7 _,aA8,
  a1,a2,a3,a4,a5,a6,a7,a8,.inl ⟨a9,a10⟩,[],a11,.inl ⟨rfl,a12⟩⟩
theorem cu.aB1(x:cu w bJ s)(h1:∃m b8,schedN (pM nK) pw w m (.single bJ (PA pw))=.running (.single s b8)/\W2 b8=ah)(h2:s.heap.life=bJ.heap.life)(h3:s.os=bJ.os):TopRan pw w bJ s:=by
 have e2:s.heap.isNs J2=ah:=(z3 x.g2).trans (Y4 _);have hb:s.heap.isNs wo=ah:=(z3 x.g0).trans (Y5 _);have s0:bJ.heap=qv w.params:=bQ Shared.heap x.Z;refine⟨h1,h2,co1 h3,λb o hb hn=>?_,?_,?_,Pin.keysAreStrs_of x.wQ,λn hn=>?_,⟨4,F2 w.params,?_,x.g4.trans (aA3 _),aA4 _⟩,?_,λn v hv=>?_,λn hn=>?_⟩
 ·refine x.old b o ?_ (λq=>hn (.inl q)) (λq=>hn (.inr (.inl q))) (λq=>hn (.inr (.inr ?_))) hb
  ·have:=kI hb;rw[s0,YT]at this
   exact this
  ·subst q;rw[s0];kernel_rfl
 ·rw[Q7];refine Heap.accountedI_of_ok ?_;have:=az8 w.params;unfold Heap.accountedOkI at this|-
  rw[z3 x.g2,Q8 x.g2,z4 x.g2];exact this
 ·rw[Q7];refine statics_of_ok ?_;have:=az7 w.params;unfold staticsOk at this|-
  rw[z3 x.g2,Q8 x.g2,z4 x.g2,s0];exact this
 ·have e:s.heap.bltView=co0:=by
   rw[<-az9 w.params];unfold Heap.bltView;rw[az5 x.g0]
  exact(Pin.builtinOf_eq hb n).trans (Heap.of_bltView hb e n hn)
 ·exact(aj3 x.wQ _).trans ((W7 (z4 x.g3) _).trans (aA2 _))
 ·rw[x.at_.gens];intro g hg;simp at hg
 ·rw[aj3 x.wQ]at hv
  by_cases S:n∈s.heap.nsKeys qx
  ·rw[Q8 x.g3,aA0]at S
   rcases gK.mp S with S|S
   ·exact .inl S
   ·exact .inr (List.mem_of_mem_eraseIdx S)
  ·rw[Heap.nsMap_none S]at hv;cases hv
 ·refine laid_of_kept (h₀:=bJ.heap) (h₁:=s.heap) ?_ n hn;have:=aA1 w.params;unfold laidKept at this|-
  rw[z3 x.g3,z4 x.g3,s0];exact this
end
noncomputable abbrev K9:ClaimW:=zF.row.toRowW.claim
theorem Y9:zF.row.toRowW.promised:=⟨[.list []],by kernel_rfl,by kernel_rfl⟩
theorem aB2(a:ReadsW R cl h v d as):PD R d .int=ah->∃i t,v=.int i t:=by
 induction a using co2 with
 |int=>exact λX=>⟨_,_,rfl⟩
 |_=>exact λh=>absurd h rm
theorem aB3{h:dH}(a:ReadsW R cl h v d as):∀ds,d=.list ds->∃b vs n bs,v=.ref b/\as=b::bs/\(∃o,h.get? b=N o/\o.data=.seq vs n)/\aj4 R cl h vs.toList ds bs:=by
 induction a using co2 with
 |list g1 g2 g3 g4=>exact λds e=>⟨_,_,_,_,rfl,rfl,⟨_,g1,g3⟩,cF0 e▸g4⟩
 |_=>exact λds e=>nomatch e
theorem ints_of:∀{ds:J WData}{as:J aR},aj4 R cl h vs ds as->(ds.all λd=>PD R d .int)=ah->∃xs:J (aa×H),vs=xs.map (λx=>.int x.1 x.2)/\xs.length=ds.length:=by
 induction vs with
 |nil=>exact λq X=>by cases q;exact⟨[],rfl,rfl⟩
 |cons v vs ih=>
  intro ds as q h;cases q with|cons a b=>
  have h:=PG.mp h;exact(ih b h.2).elim λxs e=>(aB2 a h.1).elim λi f=>f.elim λt f=>⟨(i,t)::xs,congr (bQ co3 f) e.1,bQ (·+1) e.2⟩
theorem aB4:opensWell pw=ah:=by kernel_rfl
theorem aB5:pw.bare:=by refine⟨?_,?_,?_,?_,?_,?_⟩<;>kernel_rfl
theorem aB6(h:K9.pre args=ah):∃ds,args=[.list ds]/\(ds.all λd=>PD [] d .int)=ah/\ds.length<=63:=by
 obtain⟨h1,h2⟩:=pre_splitW (r:=zF.row.toRowW) h;obtain⟨d,r,rfl,h3,h4⟩:=hasAllW_cons (e:=.list .int) (es:=[]) h1;obtain rfl:=hasAllW_nil h4;have h3:PD [] d (.list .int)=ah:=h3;induction d using cF1 with
 |list ds=>
  have h3:(WShape.hasItems [] ds .int||ak)=ah:=h3;rw[aj5,hasItems_all]at h3
  refine⟨ds,rfl,h3,?_⟩;have h2:(WTm.and (.not (.lt (.lit (.int 63)) (.len (.arg 0)))) (.lit (.bool ah))).holds [] {args:=[.list ds]}=ah:=h2;by_cases q:ds.length<=63
  ·exact q
  ·have e:Num.less? (.int 63) (.int ds.length)=N ah:=by
    show N (decide ((63:aa)<ds.length))=N ah
    exact bQ N (nL (dF.mpr (W8 q)))
   simp[WTm.holds,WTm.value,less?,e]at h2
 |none|bool|int|str|tuple|dict|float|bytes|bytearray|set|frozenset|obj=>exact absurd h3 rm
end Wh
section
namespace Wm
theorem kK{P:Prop}(h:∀b4:Prop,(P->b4)->b4):P:=h P id
set_option genCtorIdx true
inductive Bi where
 |len|tuple|list|bytes|min|any|sorted|ord|chr|bytearray
set_option genCtorIdx false
inductive D where
 |none
 |bool (b:aD)
 |int (i:aa)
 |str (x:ai)
 |bytes (l:J H)
 |tup (vs:J D)
 |list (vs:J D)
 |obj (c:aR) (fs:J (ai×D))
 |glob (a:aR)
noncomputable def D.ctorIdx(x:D):H:=D.casesOn x 0 (λX=>1) (λX=>2) (λX=>3) (λX=>4) (λX=>5) (λX=>6) (λX I=>7) (λX=>8)
inductive V where
 |d (x:D)
 |ref (h:H)
 |pr (x:D) (h:H)
 |nN (es:J (aa×D))
 |uq (es:J (ai×D))
noncomputable def V.ctorIdx(x:V):H:=V.casesOn x (λX=>0) (λX=>1) (λX I=>2) (λX=>3) (λX=>4)
inductive jA where
 |L (ov:bq V)
 |C (h:H)
noncomputable def jA.ctorIdx(x:jA):H:=jA.casesOn x (λX=>0) (λX=>1)
abbrev Fm:=J (ai×jA)
inductive Tk where
 |b (x:H)
 |u (n k:H)
 |s (i:aa) (k:H)
 |raw (l:J H)
 |Y_ (ts:J Tk)
noncomputable def Tk.ctorIdx(x:Tk):H:=Tk.casesOn x (λX=>0) (λX I=>1) (λX I=>2) (λX=>3) (λX=>4)
inductive O where
 |dl (ds:J D)
 |vl (vs:J V)
 |ba (l:J H)
 |inst (c:aR) (fs:J (ai×V))
 |cur (ts:J Tk)
 |gone
 |cell (ov:bq V)
 |frame (cs:J (ai×aR)) (m:Fm)
noncomputable def O.ctorIdx(x:O):H:=O.casesOn x (λX=>0) (λX=>1) (λX=>2) (λX I=>3) (λX=>4) 5 (λX=>6) (λX I=>7)
structure St where
 m:Fm
 o:J O
inductive dZ where
 |next|brk|cont|ret (v:V)
noncomputable def dZ.ctorIdx(x:dZ):H:=dZ.casesOn x 0 1 2 (λX=>3)
noncomputable def az(l:J H):ai:=⟨⟨l⟩⟩
noncomputable def DO:J H->J H->aD
 |[],[]=>ah
 |a::r,b::t=>match bX a b with|true=>DO r t|false=>ak
 |X,I=>ak
def jd(x y:ai):aD:=DO x.cps.toList y.cps.toList
def cG{α:Type}(x:ai):J (ai×α)->bq α
 |[]=>ao
 |(y,a)::r=>match jd x y with|true=>N a|false=>cG x r
def pU{α:Type}(x:ai)(v:α):J (ai×α)->J (ai×α)
 |[]=>[(x,v)]
 |(y,a)::r=>match jd x y with|true=>(y,v)::r|false=>(y,a)::pU x v r
set_option genCtorIdx false
set_option genCtorIdx false
inductive PE where
 |cI (i:aa)|cS (x:ai)|cN|cB (b:aD)
 |Y (x:ai)
 |gl (i:H)
 |bin (op:W9) (a b:PE)
 |neg (a:PE)
 |not (a:PE)
 |gP (op:W_) (l:J PE)
 |ite (t a b:PE)
 |cmp (op:CmpOp) (a b:PE)
 |o4 (op:CmpOp) (a b c:PE)
 |tup (l:J PE)
 |lst (lv:aD) (l:J PE)
 |z5 (l:J (PE×PE))
 |sub (a i:PE)
 |jB (a i:PE)
 |ur (a:PE) (lo hi:bq PE)
 |aG (a:PE) (x:ai)
 |call (f:PE) (l:J PE)
 |bi (b:Bi) (lv:aD) (l:J PE)
 |aV (a:PE) (x:ai) (l:J PE)
 |comp (lv:aD) (jC:J ai) (ts:J ai) (one:aD) (dI:PE) (bZ:J PE) (aY:PE)
 |qI (lv:aD) (jC:J ai) (x1:ai) (uw:PE) (x2:ai) (pV:PE) (bZ:J PE) (aY:PE)
 |GC (lv:aD) (jC:J ai) (x:ai) (dI:PE) (aY:PE)
 |iz (a:PE)
 |fz (e:PE)
 |sV (e:PE) (x:ai)
inductive PS where
 |ret (e:PE)
 |ex (e:PE)
 |asg (x:ai) (e:PE)
 |pW (xs:J ai) (e:PE)
 |vF (xs:J ai) (es:J PE)
 |dm (a:PE) (x:ai) (e:PE)
 |x_ (a i e:PE)
 |aug (x:ai) (e:PE)
 |ite (t:PE) (a b:J PS)
 |for (fg:J ai) (ts:J ai) (one:aD) (dI:PE) (body:J PS)
 |DP (fg:J ai) (x y:ai) (a b:PE) (body:J PS)
 |sW (fg:J ai) (t:PE) (body:J PS)
 |raise
end Wm
end
namespace Wm
noncomputable def vG:ai:=az [95,95,105,110,105,116,95,95]
noncomputable def i6:ai:=az [97,98,111,117,116]
noncomputable def K_:ai:=az [97,108,105,103,110]
noncomputable def gp:ai:=az [97,112,112,101,110,100]
def z6:ai:=az [97,114,111,117,110,100]
def cD:ai:=az [97,116]
noncomputable def GD:ai:=az [98,97,99,107]
def sX:ai:=az [98,101,103,105,110]
def rK:ai:=az [98,101,104,105,110,100]
noncomputable def qJ:ai:=az [98,105,116,115]
def Za:ai:=az [98,111,100,105,101,115]
noncomputable def dK:ai:=az [98,111,100,121]
def uy:ai:=az [98,121,95,98,111,100,105,101,115]
noncomputable def d8:ai:=az [99,111,100,101]
def uA:ai:=az [99,111,110,116,101,110,116]
noncomputable def bx:ai:=az [99,117,114,115,111,114]
noncomputable def jS:ai:=az [99,117,115,116,111,109]
def GF:ai:=az [99,117,115,116,111,109,95,112,108,97,99,101,115]
def qK:ai:=az [99,117,115,116,111,109,115]
noncomputable def vH:ai:=az [100,97,116,97]
def By:ai:=az [100,97,116,97,95,99,111,117,110,116]
def nO:ai:=az [100,97,116,97,115]
def fY:ai:=az [100,105,103,105,116,115]
def oi:ai:=az [101,108,101,109]
def pX:ai:=az [101,108,101,109,115]
def sY:ai:=az [101,110,100]
def pY:ai:=az [101,120,112,111,114,116,115]
def oj:ai:=az [101,120,116,101,110,100]
def GG:ai:=az [102,105,101,108,100,115]
noncomputable def Zb:ai:=az [102,105,110,105,115,104]
def sZ:ai:=az [102,105,114,115,116]
noncomputable def Lc:ai:=az [102,108,97,103]
noncomputable def BA:ai:=az [102,111,108,108,111,119]
def gz:ai:=az [102,111,114,109]
def dQ:ai:=az [102,111,117,110,100]
noncomputable def wV:ai:=az [102,117,108,108]
noncomputable def lR:ai:=az [102,117,110,99]
def mE:ai:=az [102,117,110,99,115]
def pZ:ai:=az [103,108,111,98,97,108,115]
def GH:ai:=az [104,97,115,95,99,111,100,101]
def Ld:ai:=az [104,97,115,95,99,111,117,110,116]
def z7:ai:=az [104,101,97,100,115]
def p_:ai:=az [105,109,112,111,114,116,115]
noncomputable def lF:ai:=az [105,110,100,101,120]
def DQ:ai:=az [105,110,100,105,99,101,115]
def lG:ai:=az [105,110,105,116]
def kr:ai:=az [105,110,105,116,115]
def kU:ai:=az [105,110,110,101,114]
def lT:ai:=az [105,110,115,116,114,117,99,116,105,111,110]
def GI:ai:=az [105,115,95,100,111,110,101]
def Le:ai:=az [105,115,95,105,110,100,105,99,101,115]
def GJ:ai:=az [105,115,95,112,108,97,105,110]
def BB:ai:=az [105,115,95,115,104,111,114,116]
def d9:ai:=az [107]
def bW:ai:=az [107,105,110,100]
def fy:ai:=az [107,105,110,100,115]
def uB:ai:=az [108,97,98,101,108]
def Lf:ai:=az [108,97,98,101,108,115]
def fQ:ai:=az [108,101,97,115,116]
def nP:ai:=az [108,101,102,116]
def i7:ai:=az [108,101,116,116,101,114]
def vI:ai:=az [108,101,116,116,101,114,115]
def Q_:ai:=az [108,105,109,105,116,115]
def z8:ai:=az [108,111,99,97,108,115]
def DT:ai:=az [108,111,99,97,108,115,95,110,111,119]
def d7:ai:=az [109,97,110,121]
def qc:ai:=az [109,101,109,111,114,105,101,115]
def nh:ai:=az [109,101,109,111,114,121]
def fZ:ai:=az [109,111,100,101]
def bI:ai:=az [109,111,100,117,108,101]
def f7:ai:=az [109,111,115,116]
def uC:ai:=az [109,111,115,116,95,108,111,99,97,108,115]
def jT:ai:=az [109,117,116,97,98,108,101]
def dX:ai:=az [110,97,109,101]
def bw:ai:=az [110,117,109,98,101,114]
def uD:ai:=az [110,117,109,98,101,114,115]
def eB:ai:=az [111,99,116,101,116]
def bH:ai:=az [111,99,116,101,116,115]
def iA:ai:=az [111,102,102,115,101,116]
def aM:ai:=az [111,110,101]
def GK:ai:=az [111,110,101,115]
def yc:ai:=az [111,112,101,110,101,100]
def GL:ai:=az [111,119,110]
def cy:ai:=az [112,97,100]
def kW:ai:=az [112,97,114,97,109,115]
def fK:ai:=az [112,97,114,116]
def lH:ai:=az [112,97,114,116,115]
def Lg:ai:=az [112,101,101,107]
def dM:ai:=az [112,108,97,99,101]
def ye:ai:=az [112,108,97,99,101,115]
def qL:ai:=az [112,108,97,105,110]
def j8:ai:=az [112,111,105,110,116]
noncomputable def Ra:ai:=az [112,111,112]
def yf:ai:=az [112,117,116]
def Zc:ai:=az [114,101,97,100]
def Zd:ai:=az [114,101,97,100,95,99,111,100,101,115]
def Ze:ai:=az [114,101,97,100,95,107,110,111,119,110]
def om:ai:=az [114,101,115,117,108,116,115]
def nQ:ai:=az [114,111,111,109]
def GN:ai:=az [114,111,119,115]
def kX:ai:=az [114,117,110,115]
noncomputable def Zf:ai:=az [115,51,50]
noncomputable def Zg:ai:=az [115,51,51]
noncomputable def Zh:ai:=az [115,54,52]
noncomputable def Rb:ai:=az [115,55]
def Rc:ai:=az [115,99,114,105,112,116]
noncomputable def aK:ai:=az [115,101,108,102]
def rL:ai:=az [115,104,105,102,116]
def GO:ai:=az [115,104,111,114,116]
def Lh:ai:=az [115,105,103,110]
def z9:ai:=az [115,105,103,110,101,100]
def GP:ai:=az [115,105,103,110,115]
def bK:ai:=az [115,105,110,107]
def Li:ai:=az [115,105,122,101,100]
def BC:ai:=az [115,108,111,116,115]
def fR:ai:=az [115,111,114,116]
def nR:ai:=az [115,116,97,114,116]
def Zi:ai:=az [115,116,101,112]
noncomputable def Lj:ai:=az [115,117,98]
def kY:ai:=az [116,97,98,108,101]
def qd:ai:=az [116,97,98,108,101,115]
def DU:ai:=az [116,97,107,101]
def yg:ai:=az [116,101,120,116]
def yh:ai:=az [116,104,105,110,103]
def z_:ai:=az [116,104,105,110,103,115]
def Aa:ai:=az [116,111,103,101,116,104,101,114]
def Ab:ai:=az [116,111,108,100]
def rM:ai:=az [116,117,114,110]
def jU:ai:=az [117,51,50]
def l6:ai:=az [117,110,115,105,103,110,101,100]
def Rd:ai:=az [117,115,101,115]
def BD:ai:=az [119,97,108,107]
def Rf:ai:=az [119,97,110,116,95,100,97,116,97,95,99,111,117,110,116]
def gS:ai:=az [119,97,121]
def Zj:ai:=az [119,104,121]
noncomputable def t_:ai:=az []
def Lk:ai:=az [97]
noncomputable def Rg:ai:=az [97,117]
def GQ:ai:=az [98]
def Ac:ai:=az [98,108,111,99,107]
def GR:ai:=az [100,97,116,97]
def GS:ai:=az [101,108,101,109]
def BE:ai:=az [102,117,110,99]
def DV:ai:=az [103,108,111,98,97,108]
noncomputable def Rh:ai:=az [105]
def DW:ai:=az [105,51,50]
def DX:ai:=az [105,54,52]
def BF:ai:=az [105,110,100,105,114,101,99,116]
def Ri:ai:=az [107]
def DY:ai:=az [107,105,110,100,115]
def Rj:ai:=az [108]
def DZ:ai:=az [108,97,98,101,108]
def D0:ai:=az [108,97,98,101,108,115]
def BG:ai:=az [108,111,99,97,108]
def D3:ai:=az [109,101,109,97,114,103]
def BH:ai:=az [109,101,109,111,114,121]
def D4:ai:=az [109,101,109,111,114,121,95,105,110,105,116]
def qe:ai:=az [110,111,110,101]
def Rk:ai:=az [114]
def D5:ai:=az [114,101,102,107,105,110,100]
def Rl:ai:=az [116]
def yi:ai:=az [116,97,98,108,101]
def D6:ai:=az [116,97,98,108,101,95,99,111,112,121]
def D7:ai:=az [116,97,98,108,101,95,105,110,105,116]
def BI:ai:=az [116,119,111,95,109,101,109,111,114,105,101,115]
def wW:ai:=az [117]
def Ll:ai:=az [117,117]
noncomputable def Rm:ai:=az [122]
abbrev qf:H:=207
noncomputable abbrev qM:H:=277
noncomputable abbrev BJ:H:=356
noncomputable abbrev Ad:H:=480
noncomputable abbrev Ae:H:=508
noncomputable abbrev Af:H:=536
noncomputable abbrev Ag:H:=562
noncomputable abbrev Ah:H:=590
noncomputable abbrev yk:H:=618
noncomputable abbrev s7:H:=733
noncomputable abbrev BK:H:=1194
noncomputable def jj(a b:aD):aD:=match a with
 |true=>ah
 |false=>b
noncomputable def oB{α:Type}(o:bq α)(p:α->aD):aD:=match o with
 |some a=>p a
 |none=>ak
theorem Lm{α:Type}{o:bq α}{p:α->aD}(h:oB o p=ah):∃a,o=N a/\p a=ah:=by
 cases o with
 |none=>exact nomatch h
 |some a=>exact⟨a,rfl,h⟩
def qN(y:ai):J ai->aD
 |[]=>ak
 |x::r=>jj (jd x y) (qN y r)
noncomputable def wX{α:Type}(x:H):J (H×α)->bq α
 |[]=>ao
 |(y,a)::r=>match bX x y with|true=>N a|false=>wX x r
def Zk:J (H×J ai):=[(qf,[bH,cD,sY]),(qM,[bH]),(BJ,[bx,dM]),(Ad,[dM,dX,fR,i6]),(Ae,[bW,z8,dK]),(Af,[bW,jT,dK]),(Ag,[fZ,kY,iA,bW,kr]),(Ah,[fZ,nh,iA,bH]),(yk,[dX,bH,rK]),(s7,[fy,p_,mE,qd,qc,pZ,pY,nR,pX,nO,qK]),(BK,[BD,uC,bI,fy,GH,By,GF])]
def vJ(c:aR)(x:ai):aD:=oB (wX c Zk) (qN x)
def Zl:J (H×J (ai×H)):=[(qf,[(vG,106),(nP,113),(GI,120),(Lg,127),(eB,134),(DU,141),(fK,148),(l6,155),(z9,162),(jU,169),(Rb,176),(Zf,183),(Zg,190),(Zh,197),(dX,204)]),(qM,[(vG,225),(eB,232),(yf,239),(l6,246),(z9,253),(d7,260),(dX,267),(Li,274)]),(BJ,[(vG,339),(GI,346),(Zi,353)]),(Ad,[(vG,470),(qL,477)]),(Ae,[(vG,498),(qL,505)]),(Af,[(vG,526),(qL,533)]),(Ag,[(vG,554),(qL,559)]),(Ah,[(vG,580),(qL,587)]),(yk,[(vG,608),(qL,615)]),(s7,[(vG,636),((az [105,109,112,111,114,116,101,100]),643),((az [97,98,111,117,116,115]),648),((az [102,117,110,99,95,107,105,110,100,115]),655),((az [116,97,98,108,101,95,107,105,110,100,115]),662),((az [109,101,109,111,114,121,95,107,105,110,100,115]),669),((az [103,108,111,98,97,108,95,107,105,110,100,115]),676),(d7,683),(lR,690),((az [107,105,110,100,95,111,102,95,102,117,110,99]),697),((az [101,120,112,111,114,116]),704),(qL,711),(Za,716),((az [99,111,110,115,116,97,110,116,115]),723),((az [99,111,112,121]),730)]),(BK,[(vG,1156),(Zc,1163),(Ze,1170),(Zd,1177),(Rf,1184),(Zb,1191)])]
def GU(c:aR)(x:ai):bq aR:=(wX c Zl).bind (cG x)
noncomputable abbrev Zm:H:=106
noncomputable abbrev BL:H:=113
noncomputable abbrev GV:H:=120
noncomputable abbrev GW:H:=127
noncomputable abbrev qg:H:=134
noncomputable abbrev BN:H:=141
noncomputable abbrev GX:H:=148
noncomputable abbrev Ln:H:=155
noncomputable abbrev BO:H:=162
noncomputable abbrev mF:H:=169
noncomputable abbrev GY:H:=176
noncomputable abbrev Rn:H:=183
noncomputable abbrev Ro:H:=190
noncomputable abbrev Rp:H:=197
noncomputable abbrev GZ:H:=204
noncomputable abbrev Zn:H:=225
noncomputable abbrev s8:H:=232
noncomputable abbrev G0:H:=239
noncomputable abbrev qh:H:=246
noncomputable abbrev Lo:H:=253
noncomputable abbrev Ai:H:=260
noncomputable abbrev G1:H:=267
noncomputable abbrev G2:H:=274
noncomputable abbrev Lq:H:=288
noncomputable abbrev Lr:H:=295
noncomputable abbrev Ls:H:=303
noncomputable abbrev Lu:H:=311
noncomputable abbrev G3:H:=318
noncomputable abbrev Lv:H:=325
noncomputable abbrev Zo:H:=339
noncomputable abbrev Rq:H:=346
noncomputable abbrev Rr:H:=353
noncomputable abbrev Lw:H:=437
noncomputable abbrev D8:H:=444
noncomputable abbrev Ly:H:=451
noncomputable abbrev Lz:H:=456
noncomputable abbrev aB7:H:=470
noncomputable abbrev Rt:H:=477
noncomputable abbrev aB8:H:=498
noncomputable abbrev Ru:H:=505
noncomputable abbrev aB9:H:=526
noncomputable abbrev Rv:H:=533
noncomputable abbrev aC0:H:=554
noncomputable abbrev Rw:H:=559
noncomputable abbrev aC1:H:=580
noncomputable abbrev Rx:H:=587
noncomputable abbrev aC2:H:=608
noncomputable abbrev Ry:H:=615
noncomputable abbrev LA:H:=636
noncomputable abbrev Rz:H:=711
noncomputable abbrev D9:H:=716
noncomputable abbrev LB:H:=742
noncomputable abbrev G4:H:=747
noncomputable abbrev wY:H:=754
noncomputable abbrev G5:H:=761
noncomputable abbrev G6:H:=768
noncomputable abbrev D_:H:=775
noncomputable abbrev BQ:H:=782
noncomputable abbrev BS:H:=789
noncomputable abbrev G7:H:=796
noncomputable abbrev Ea:H:=803
noncomputable abbrev Eb:H:=810
noncomputable abbrev Ec:H:=817
noncomputable abbrev LD:H:=824
noncomputable abbrev LG:H:=831
noncomputable abbrev G8:H:=838
noncomputable abbrev LH:H:=845
noncomputable abbrev LI:H:=852
noncomputable abbrev BU:H:=859
noncomputable abbrev LJ:H:=866
noncomputable abbrev Ed:H:=871
noncomputable abbrev Ef:H:=878
noncomputable abbrev LK:H:=885
noncomputable abbrev LL:H:=892
noncomputable abbrev Eg:H:=899
noncomputable abbrev Eh:H:=906
noncomputable abbrev G9:H:=913
noncomputable abbrev uE:H:=920
noncomputable abbrev G_:H:=927
noncomputable abbrev LN:H:=934
noncomputable abbrev LO:H:=941
noncomputable abbrev LP:H:=948
noncomputable abbrev LQ:H:=953
noncomputable abbrev w4:H:=962
noncomputable abbrev Ei:H:=969
noncomputable abbrev LR:H:=976
noncomputable abbrev Hf:H:=983
noncomputable abbrev Ej:H:=990
noncomputable abbrev Ek:H:=997
noncomputable abbrev LS:H:=1004
noncomputable abbrev Hg:H:=1011
noncomputable abbrev Hh:H:=1018
noncomputable abbrev Hi:H:=1025
noncomputable abbrev Hj:H:=1032
noncomputable abbrev LU:H:=1039
noncomputable abbrev LV:H:=1046
noncomputable abbrev LW:H:=1053
noncomputable abbrev LX:H:=1060
noncomputable abbrev LY:H:=1067
noncomputable abbrev LZ:H:=1074
noncomputable abbrev L1:H:=1081
noncomputable abbrev L3:H:=1088
noncomputable abbrev L4:H:=1095
noncomputable abbrev L5:H:=1102
noncomputable abbrev Hl:H:=1109
noncomputable abbrev BV:H:=1116
noncomputable abbrev L6:H:=1123
noncomputable abbrev L7:H:=1128
noncomputable abbrev L8:H:=1135
noncomputable abbrev L_:H:=1142
noncomputable abbrev Zp:H:=1156
noncomputable abbrev RA:H:=1163
noncomputable abbrev RB:H:=1170
noncomputable abbrev RC:H:=1177
noncomputable abbrev Ma:H:=1184
noncomputable abbrev RD:H:=1191
noncomputable abbrev El:H:=1206
noncomputable abbrev oq:H:=1213
noncomputable abbrev Aj:H:=1220
noncomputable abbrev Ho:H:=1225
noncomputable abbrev Hp:H:=1232
noncomputable abbrev Hq:H:=1239
noncomputable abbrev Hr:H:=1246
noncomputable abbrev uF:H:=1253
noncomputable abbrev Hs:H:=1260
noncomputable abbrev BW:H:=1267
noncomputable abbrev Ht:H:=1272
noncomputable abbrev Hu:H:=1279
noncomputable abbrev Mb:H:=1286
noncomputable abbrev Mc:H:=1291
noncomputable abbrev Me:H:=1298
noncomputable abbrev Em:H:=1305
noncomputable abbrev Mf:H:=1312
noncomputable abbrev Mg:H:=1317
noncomputable abbrev Mh:H:=1324
noncomputable abbrev Mi:H:=1329
noncomputable abbrev Mj:H:=1336
noncomputable abbrev Mk:H:=1341
noncomputable abbrev Hv:H:=1346
noncomputable abbrev s9:H:=1353
noncomputable abbrev Ml:H:=1360
noncomputable abbrev w5:H:=1367
noncomputable abbrev En:H:=1372
noncomputable abbrev Hw:H:=1377
noncomputable abbrev Mm:H:=1384
noncomputable abbrev BX:H:=1391
noncomputable abbrev Hx:H:=1398
noncomputable abbrev Mn:H:=1405
noncomputable abbrev Mp:H:=1410
noncomputable abbrev Mq:H:=1415
noncomputable abbrev Mr:H:=1420
noncomputable abbrev Ms:H:=1425
noncomputable abbrev Mu:H:=1432
noncomputable abbrev Hy:H:=1439
noncomputable abbrev Mv:H:=1444
noncomputable abbrev Mw:H:=1449
noncomputable abbrev Zq:H:=1456
section
noncomputable def Bq:J jZ:=cF2++["bytearray.__contains__","bytearray.__mod__","bytearray.__rmod__","_struct.pack_into.held","bytearray.find.held"]
def free(c:pL):aD:=match c with
 | .builtin id X=>!Bq.contains id
 |X=>ah
def wH(Γ:Ctx):Prop:=free Γ.code=ah/\∀x∈Γ.below,free x.1=ah
def av{α:Type}(M:jP)(A:cQ)(t:dJ α)(Q:α->aE->Prop)(E:aA->aE->Prop)(s:aE):Prop:=
 ∀Γ p,Γ.In A->wH Γ->Sem.wp M Γ t (λa X s'=>Q a s') (λe X s'=>E e s') p s
def eG(M:jP)(A:cQ)(c:pL)(R:nM->aE->Prop)(s:aE):Prop:=
 ∀Γ p,Γ.code=c->Γ.Below A->wH Γ->wpCode M Γ R p s
section
variable{α β:Type}{M:jP}{A:cQ}{E:aA->aE->Prop}{s:aE}{G:cL}
theorem aZ{t:dJ α}{Q:α->aE->Prop}(h:De M A t Q E s):av M A t Q E s:=λΓ p gY X=>h Γ p gY
theorem RE(h:co4 M A c R s):eG M A c R s:=λΓ p hc gY X=>h Γ p hc gY
theorem bg{a:α}{Q:α->aE->Prop}(h:Q a s):av M A (pure a) Q E s:=λX I u2 u3=>h
theorem iY{t:dJ α}{a:α}{Q:α->aE->Prop}(e:t=pure a)(h:Q a s):av M A t Q E s:=e▸bg h
theorem gG{t:dJ α}{Q Q':α->aE->Prop}{E':aA->aE->Prop}(h:av M A t Q E s)(hQ:∀a s,Q a s->Q' a s)(hE:∀e s,E e s->E' e s):av M A t Q' E' s:=
 λΓ p gY hc=>J3 M Γ t (λa X s=>hQ a s) (λe X s=>hE e s) p s (h Γ p gY hc)
theorem Yj(h:eG M A c R s)(hR:∀r s,R r s->R' r s):eG M A c R' s:=λΓ p hc gY Ak=>wpCode_mono hR (h Γ p hc gY Ak)
theorem aJ{m:dJ α}{g:α->dJ β}{Q:β->aE->Prop}(h:av M A m (λa s'=>av M A (g a) Q E s') E s):av M A (m>>=g) Q E s:=λΓ p gY hc=>by rw[Sem.wp_bind'];exact J3 M Γ m (λa p' s' h'=>h' Γ p' gY hc) (λX I u2 h'=>h') p s (h Γ p gY hc)
theorem iP{vs:J aA}{m:dJ α}{Q:α->aE->Prop}(h:av M A m Q E s):av M A (A8 vs m) Q E s:=λΓ p gY hc=>by rw[Sem.wp_holding];exact h Γ p gY hc
theorem aq8{vs:J aA}{m:dJ α}{Q:α->aE->Prop}(h:av M A m Q E s):av M A (m.keep vs) Q E s:=λΓ p gY hc=>by rw[Sem.wp_keep];exact h Γ p gY hc
theorem DG(h:av M A m Q E s):av M A (J4 vs m) Q E s:=λΓ p gY hc=>by rw[Sem.wp_operate];exact h Γ p gY hc
theorem Yk{m:dJ α}{k:aA->dJ α}{Q:α->aE->Prop}(h:av M A m Q (λe s'=>av M A (k e) Q E s') s):av M A (tryCatch m k) Q E s:=λΓ p gY hc=>by rw[Sem.wp_tryCatch'];exact J3 M Γ m (λX I u2 h'=>h') (λe p' s' h'=>h' Γ p' gY hc) p s (h Γ p gY hc)
theorem DH{m:dJ α}{k:aA->dJ rq}{Q:α->aE->Prop}(h:av M A m Q (λe s'=>av M A (k e) (λX ni=>E e ni) E s') s):av M A (m.onRaise k) Q E s:=λΓ p gY hc=>by rw[Sem.wp_onRaise];exact J3 M Γ m (λX I u2 h'=>h') (λe p' s' h'=>h' Γ p' gY hc) p s (h Γ p gY hc)
theorem Yl{m:dJ α}{Q:Except aA α->aE->Prop}(h:av M A m (λa=>Q (.ok a)) (λe=>Q (.error e)) s):av M A m.attempt Q E s:=λΓ p gY hc=>by rw[Sem.wp_attempt];exact h Γ p gY hc
theorem KO{c:Prop}[Xa c]{a b:dJ α}{Q:α->aE->Prop}(h:if c then av M A a Q E s else av M A b Q E s):av M A (if c then a else b) Q E s:=by
 split at h
 ·rename_i q;rw[dP q];exact h
 ·rename_i q;rw[cF q];exact h
theorem Zr{c:Prop}[Xa c]{a b:dJ α}{Q:α->aE->Prop}(h:av M A a Q E s)(g:av M A b Q E s):av M A (if c then a else b) Q E s:=by
 by_cases q:c
 ·rw[dP q];exact h
 ·rw[cF q];exact g
theorem wH.enter{Γ:Ctx}(k:wH Γ)(hc:free c=ah):wH (Γ.enter c h p):=⟨hc,λx hx=>by
 rcases iV.mp hx with rfl|hx
 ·exact k.1
 ·exact k.2 x hx⟩
theorem wH.goto{Γ:Ctx}(k:wH Γ)(hc:free c=ah):wH (Γ.goto c):=⟨hc,k.2⟩
theorem nb:(ao:bq aA)≠N byPass:=nofun
theorem Ym(hf:free c=ah)(hc:eG M (A.mark h) c (λr s'=>match r with| .ok f=>Q f s'| .error e=>E e s') s)(RG:h≠N byPass):av M A (run c h) Q E s:=
 λΓ p gY S=>by rw[Sem.wp_run];exact hc _ p rfl (gY.enter c h p RG) (S.enter hf)
theorem aq9(hf:free c=ah)(hc:eG M A c (λr s'=>match r with| .ok (.ret v)=>Q v s'| .ok X=>bV| .error e=>E e s') s):av M A (runValue c) Q E s:=
 λΓ p gY S=>by rw[Sem.wp_runValue];exact hc _ p rfl (gY.enter c ao p (by intro x;cases x)) (S.enter hf)
theorem Br(hc:eG M A (.call g ⟨pos,kw⟩) (λr s'=>match r with| .ok (.ret v)=>Q v s'| .ok X=>bV| .error e=>E e s') s):av M A (fF g pos kw) Q E s:=aq9 rfl hc
theorem m_(h:av M (A.under c) (M.den c) (λcH s'=>match cH with| .done f=>R (.ok f) s'| .again c'=>(c'.quiet=ah/\free c'=ah)/\eG M A c' R s') (λe s'=>R (.error e) s') s):
  eG M A c R s:=λΓ p hc gY S=>by
 rw[wpCode_iff_wp,hc];refine J3 M Γ _ (λcH p' s' h'=>?_) (λX I u2 h'=>h') p s (h Γ p (hc▸gY.in) S);induction cH with
 |done f=>exact h'
 |again c'=>exact⟨h'.1.1,h'.2 (Γ.goto c') p' rfl (gY.goto c') (S.goto h'.1.2)⟩
theorem ar0{c:pL}(hq:c.quiet=ah)(hf:free c=ah)(bG:H->aE->Prop)
  (WU:∀n s,bG n s->av M (A.under c) (M.den c) (λcH s'=>match cH with| .done f=>R (.ok f) s'| .again c'=>(c'=c/\∃m,m<n/\bG m s')\/((c'.quiet=ah/\free c'=ah)/\eG M A c' R s')) (λe s'=>R (.error e) s') s)
  (n:H)(h:bG n s):eG M A c R s:=by
 induction n using co5 generalizing s with
 |ind n ih=>
  refine m_ (gG (WU n s h) (λcH s' q=>?_) λX I q=>q);induction cH with
  |done f=>exact q
  |again c'=>
   rcases q with⟨rfl,m,hm,hI⟩|q
   ·exact⟨⟨hq,hf⟩,ih m hm hI⟩
   ·exact q
theorem qE(h:Q () s):av M A (su pos) Q E s:=aZ (PySem.wpAny_standAt h)
theorem sO(h:Q () s):av M A (rule t) Q E s:=aZ (co6 h)
theorem KP(h:Q () s):av M A point Q E s:=aZ (PySem.wpAny_point h)
theorem KQ(h:av M A (F4 G x v) Q E s):av M A (J5 G x v) Q E s:=λΓ p gY hc=>by rw[Sem.wp_bindName];exact h Γ p gY hc
theorem ar1(h:av M A (F4 G x v) Q E s):av M A (J5 G x v) Q E s:=KQ h
theorem QH(h:av M A (F4 G x v) Q E s):av M A (sy (.Name x pos) G v) Q E s:=
 show av M A (su pos>>=λX=>J5 G x v) Q E s from aJ (qE (KQ h))
theorem Gq{x pos}(h:av M A (J6 G x) Q E s)(hd:(x==("__debug__":ai))=ak):av M A (cM (.Name x pos) G) Q E s:=by rw[eval_Name G x pos hd];exact aJ (qE h)
theorem dR{m:dJ α}{g:α->dJ β}{Q:β->aE->Prop}{P:α->aE->Prop}(h:av M A m P E s)(k:∀a s',P a s'->av M A (g a) Q E s'):av M A (m>>=g) Q E s:=aJ (gG h k λX I z=>z)
theorem at_{pos:gq}{g:rq->dJ β}{Q:β->aE->Prop}(h:av M A (g ()) Q E s):av M A (su pos>>=g) Q E s:=aJ (qE h)
theorem lI{vs:J aA}{m:dJ α}{g:α->dJ β}{Q:β->aE->Prop}{P:α->aE->Prop}(h:av M A m P E s)(k:∀a s',P a s'->av M A (g a) Q E s'):av M A (A8 vs m>>=g) Q E s:=dR (iP h) k
theorem Zs{vs:J aA}{m:dJ aA}{g:aA->dJ β}{Q:β->aE->Prop}{P:aA->aE->Prop}(h:av M A m P E s)(k:∀a s',P a s'->av M A (g a) Q E s'):av M A (J4 vs m>>=g) Q E s:=dR (DG h) k
theorem ar2{Z dg}(h:av M A (t8 Z G) (λf s'=>match f with| .next=>av M A (A9 dg G) Q E s'|f=>Q f s') E s):av M A (A9 (Z::dg) G) Q E s:=by rw[execs_cons];refine dR h λf s' q=>?_;cases f<;>first|exact q|exact bg q
theorem Yn(h:Q .next s):av M A (A9 [] G) Q E s:=aZ (co7 h)
theorem ar3{e pos}(h:av M A (cM e G) (λv=>Q (.ret v)) E s):av M A (t8 (.Return (N e) pos) G) Q E s:=by rw[exec_Return_some];exact at_ (dR h λv s' q=>bg q)
theorem ar4{nI body orelse pos}(h:av M A (oV nI G (cM nI G)) (λb cj=>if b then av M A (A9 body G) Q E cj else av M A (A9 orelse G) Q E cj) E s):av M A (t8 (.If nI body orelse pos) G) Q E s:=by rw[exec_If];exact at_ (dR h λb s' q=>by cases b<;>exact q)
theorem ar5(h:av M A (oV nI G (cM nI G)) (λb aF=>if b then av M A (cM body G) Q E aF else av M A (cM orelse G) Q E aF) E s):av M A (cM (.IfExp nI body orelse pos) G) Q E s:=by rw[arm_eval_IfExp];exact dR h λb s' q=>by cases b<;>exact q
theorem ar6(h:av M A (cM x G) (λv aF=>av M A (unaryOp op v) Q E aF) E s):av M A (cM (.UnaryOp op x pos) G) Q E s:=by rw[arm_eval_UnaryOp];exact dR h λv s' q=>at_ (iP q)
theorem ar7{l op r pos}(h:av M A (cM l G) (λa aF=>av M A (cM r G) (λb cj=>av M A (F5 op a b) Q E cj) E aF) E s):av M A (cM (.BinOp l op r pos) G) Q E s:=by rw[eval_BinOp];exact dR h λa aF q=>lI q λb cj q=>at_ (DG q)
theorem ar8{l op r pos}(h:av M A (cM l G) (λa aF=>av M A (cM r G) (λb cj=>av M A (J7 op a b) Q E cj) E aF) E s)(hm:J8 op r=ak):
  av M A (cM (.Compare l [op] [r] pos) G) Q E s:=by
 rw[eval_Compare1,co8 hm];exact dR h λa aF q=>lI q λb cj q=>at_ (DG q)
theorem ar9{l op r pos oR}(h:av M A (cM l G) (λa aF=>av M A (cM r G) (λb cj=>av M A (J7 op a b) (λc dU=>av M A (J9 c) Q E dU) E cj) E aF) E s)
  (hm:J8 op r=ak):av M A (oV (.Compare l [op] [r] pos) G oR) Q E s:=by
 rw[isTrue_Compare1,co8 hm];exact dR h λa aF q=>lI q λb cj q=>at_ (Zs q λc dU q=>iP q)
theorem as1{l Hz HA ops bY iB rs pos oR}(h:av M A (cM l G) (λa aF=>av M A (testChain pos a (Hz::HA::ops) (cM bY G::cM iB G::wu rs G)) Q E aF) E s)
  (hm:Xb (Hz::HA::ops) (bY::iB::rs)=ak):av M A (oV (.Compare l (Hz::HA::ops) (bY::iB::rs) pos) G oR) Q E s:=by
 show av M A (cM l G>>=λa=>testChain pos a (Hz::HA::ops) (Xc (Hz::HA::ops) (bY::iB::rs) (wu (bY::iB::rs) G))) Q E s
 rw[markedEach_of_false _ _ _ hm];exact aJ h
theorem as2{e:aT}(h:av M A oR (λv aF=>av M A (J9 v) Q E aF) E s)(he:oV e G oR=(do let v<-oR;su e.pos;A8 [v] (J9 v))):av M A (oV e G oR) Q E s:=by rw[he];exact dR h λv aF q=>at_ (iP q)
theorem as3(h:av M A (oV x G (cM x G)) (λb aF=>Q (!b) aF) E s):av M A (oV (.UnaryOp .Not x pos) G oR) Q E s:=by rw[arm_isTrue_UnaryOp];exact dR h λb aF q=>bg q
theorem as4(h:av M A (Df op values G) Q E s):av M A (oV (.BoolOp op values pos) G oR) Q E s:=by rw[arm_isTrue_BoolOp];exact h
theorem as5(h:av M A (oV x G (cM x G)) (λb aF=>if b then av M A (Df .And dg G) Q E aF else Q ak aF) E s):av M A (Df .And (x::dg) G) Q E s:=
 show av M A (oV x G (cM x G)>>=λb=>match BoolOp.And,b with| .And,ak=>pure ak| .Or,ah=>pure ah|X,I=>Df .And dg G) Q E s from dR h λb aF q=>by cases b<;>first|exact q|exact bg q
theorem as6(h:av M A (oV x G (cM x G)) (λb aF=>if b then Q ah aF else av M A (Df .Or dg G) Q E aF) E s):av M A (Df .Or (x::dg) G) Q E s:=
 show av M A (oV x G (cM x G)>>=λb=>match BoolOp.Or,b with| .And,ak=>pure ak| .Or,ah=>pure ah|X,I=>Df .Or dg G) Q E s from dR h λb aF q=>by cases b<;>first|exact q|exact bg q
theorem as7(h:av M A (cM e G) (λv aF=>av M A (rt (n8 pos (lQ dg G))) (λvs cj=>Q (v::vs) cj) E aF) E s)
  (he:lQ (e::dg) G=(ak,cM e G)::lQ dg G):av M A (rt (n8 pos (lQ (e::dg) G))) Q E s:=by
 rw[he]
 show av M A (cM e G>>=λv=>(pure [v]:dJ (J aA))>>=λJW=>A8 JW (rt (n8 pos (lQ dg G)))>>=λr=>pure (JW++r)) Q E s
 exact dR h λv aF q=>aJ (bg (lI q λvs cj q=>bg q))
theorem as8(h:Q [] s):av M A (rt (n8 pos (lQ [] G))) Q E s:=bg h
theorem Yo{k:H}
  (h:av M A (rt (n8 pos (lQ iJ G))) (λvs aF=>vs.length<=gX/\Q (.ref aF.heap.objs.size) {aF with heap:=aF.heap.push {cls:=.type "tuple",data:=.seq vs.toArray}}) E s):av M A (cM (.Tuple iJ k pos) G) Q E s:=by
 rw[arm_eval_Tuple];exact at_ (dR h λvs aF q=>aZ (A_ q.2 (by show vs.toArray.size<=gX;rw[PI];exact q.1)))
theorem as9
  (h:av M A (rt (n8 pos (lQ iJ G))) (λvs aF=>vs.length<=gX/\Q (.ref aF.heap.objs.size) {aF with heap:=aF.heap.push {cls:=.type "list",data:=.seq vs.toArray}}) E s):av M A (cM (.List iJ pos) G) Q E s:=by
 rw[arm_eval_List];exact at_ (dR h λvs aF q=>aZ (A_ q.2 (by show vs.toArray.size<=gX;rw[PI];exact q.1)))
theorem at0{lower upper gQ:bq aT}{p:gq}{Q:aA->aE->Prop}
  (h:av M A (J_ lower G) (λl aF=>av M A (J_ upper G) (λu cj=>av M A (J_ gQ G) (λZ dU=>Q (.ref dU.heap.objs.size) {dU with heap:=dU.heap.push {cls:=.type "slice",data:=.fields #[l,u,Z]}}) E cj) E aF) E s):
  av M A (cM (.Slice lower upper gQ p) G) Q E s:=by
 rw[arm_eval_Slice];exact dR h λl aF q=>lI q λu cj q=>lI q λZ dU q=>aZ (A_ q)
theorem at1(h:av M A (cM e G) Q E s):av M A (J_ (N e) G) Q E s:=h
theorem Yp(h:Q .none s):av M A (J_ ao G) Q E s:=aZ (PySem.wpAny_evalPart_none h)
theorem QI{fT n7 pos}(h:av M A (cM fT G) (λo aF=>av M A (cM n7 G) (λi cj=>av M A (zG fT n7 o i) Q E cj) E aF) E s):av M A (cM (.Subscript fT n7 pos) G) Q E s:=by rw[PySem.eval_Subscript];exact dR h λo aF q=>lI q λi cj q=>at_ q
theorem at3{x qu fT pos}(h:av M A (cM fT G) (λv aF=>av M A (F4 G x v) (λX=>Q .next) E aF) E s)(hs:wz fT (N (.Name x qu)) pos.line G=pure ak):
  av M A (t8 (.Assign [.Name x qu] fT pos) G) Q E s:=by
 rw[exec_Assign_Name G x qu fT pos hs];exact at_ (dR h λv aF q=>at_ (dR (KQ q) λX I q=>bg q))
theorem at4{o i qu fT pos}(h:av M A (cM fT G) (λv aF=>av M A (cM o G) (λov cj=>av M A (cM i G) (λiv dU=>av M A (setItem ov iv v) (λX=>Q .next) E dU) E cj) E aF) E s)
  (hs:wz fT (N (.Subscript o i qu)) pos.line G=pure ak):av M A (t8 (.Assign [.Subscript o i qu] fT pos) G) Q E s:=by
 rw[exec_Assign_Subscript o i qu fT pos hs];refine at_ (dR h λv aF q=>?_);rw[assign_Subscript];exact aJ (lI q λov cj q=>lI q λiv dU q=>at_ (lI q λX nU q=>aZ (Xd (bg q))))
theorem at5{o attr qu fT pos}(h:av M A (cM fT G) (λv aF=>av M A (cM o G) (λov cj=>av M A (setAttr ov attr v) (λX=>Q .next) E cj) E aF) E s)
  (hs:wz fT (N (.Attribute o attr qu)) pos.line G=pure ak):av M A (t8 (.Assign [.Attribute o attr qu] fT pos) G) Q E s:=by
 rw[plainObj_exec_Assign_Attribute o attr qu fT pos hs];refine at_ (dR h λv aF q=>?_);rw[assign_Attribute];exact aJ (lI q λov cj q=>at_ (lI q λX dU q=>aZ (Xd (bg q))))
theorem at6{x qu op fT pos}(h:av M A (J6 G x) (λwj aF=>av M A (cM fT G) (λv cj=>av M A (inplaceOp op wj v) (λr dU=>av M A (F4 G x r) (λX=>Q .next) E dU) E cj) E aF) E s):
  av M A (t8 (.AugAssign (.Name x qu) op fT pos) G) Q E s:=by
 rw[exec_AugAssign_Name];exact at_ (dR h λwj aF q=>lI q λv cj q=>at_ (Zs q λr dU q=>at_ (dR (KQ q) λX I q=>bg q)))
theorem at7{e pos}(h:av (aP prog w) A (cM e G) (λX=>Q .next) E s)(hi:interactive G=ak)(hs:wz e ao pos.line G=pure ak):
  av (aP prog w) A (t8 (.Expr e pos) G) Q E s:=by
 rw[exec_Expr G e pos hi hs];exact at_ (dR h λv s' q=>aZ (wpAny_dropValue q))
theorem at8{iJ k ym fT pos}(h:av M A (cM fT G) (λv aF=>av M A (sy (.Tuple iJ k ym) G v) (λX=>Q .next) E aF) E s)
  (hs:co9 [.Tuple iJ k ym] fT pos.line G=pure ak)(hw:Xe [.Tuple iJ k ym] fT G=pure ao):av M A (t8 (.Assign [.Tuple iJ k ym] fT pos) G) Q E s:=by
 rw[exec_Assign,hs];refine at_ (aJ (bg ?_));rw[cF (by decide),hw]
 exact dR h λv aF q=>aJ (bg (show av M A (assignAll v [sy (.Tuple iJ k ym) G]>>=λX=>pure .next) Q E aF from dR q λX I q=>bg q))
theorem at9{iJ k ym fT pos}{names:J ai}(h:av M A (cM fT G) (λv aF=>av M A (unpackItems v names.length ao) (λeX cj=>av M A (PJ (names.reverse.map λn=>J5 G n) eX.reverse) (λX=>Q .next) E cj) E aF) E s)
  (hs:co9 [.Tuple iJ k ym] fT pos.line G=pure ak)(hw:Xe [.Tuple iJ k ym] fT G=pure (N names)):av M A (t8 (.Assign [.Tuple iJ k ym] fT pos) G) Q E s:=by
 rw[exec_Assign,hs];refine at_ (aJ (bg ?_));rw[cF (by decide),hw]
 refine dR h λv aF q=>aJ (bg ?_)
 show av M A (rule "assign.swapped-stores" >>=λX=>unpackItems v names.length ao>>=λeX=>PJ (names.reverse.map λn=>J5 G n) eX.reverse>>=λX=>pure .next) Q E aF
 exact aJ (sO (dR q λeX cj q=>dR q λX I q=>bg q))
theorem KR(h:av M A (cM (.Name x np) G) (λg aF=>av M A (vn pos g [] (n8 pos (lQ args G)) (PK pos (PL keywords G))) Q E aF) E s):
  av M A (cM (.Call (.Name x np) args keywords pos) G) Q E s:=show av M A (cM (.Name x np) G>>=λg=>vn pos g [] (n8 pos (lQ args G)) (PK pos (PL keywords G))) Q E s from aJ h
theorem au0(hs:lQ [e] G=[(ak,cM e G)])(h:av M A (cM (.Name x np) G) (λg aF=>av M A (vn pos g [] [(ak,cM e G)] []) Q E aF) E s):av M A (cM (.Call (.Name x np) [e] [] pos) G) Q E s:=by
 have:=KR (M:=M) (A:=A) (E:=E) (s:=s) (G:=G) (x:=x) (np:=np) (pos:=pos) (args:=[e]) (keywords:=[]) (Q:=Q) (by rw[hs];exact h)
 exact this
def QJ(M:jP)(A:cQ)(G:cL)(E:aA->aE->Prop):aA->aE->Prop:=
 λx s'=>av M A (do
  if(<-field x 1)== .none then zE "frame.own-activation:exception-without-traceback"
  setFlight x G.frame) (λX ni=>E x ni) E s'
def DI(M:jP)(A:cQ)(G:cL)(E:aA->aE->Prop):aA->aE->Prop:=λx s'=>av M A (Dg x G) (λX ni=>E x ni) E s'
theorem QK(hf:free c=ah)(hc:eG M (A.mark h) c (λr s'=>match r with| .ok f=>Q f s'| .error e=>QJ M A G E e s') s)(RG:h≠N byPass):av M A (runOwn c G h) Q E s:=
 DH (Ym hf hc RG)
theorem KS{m:dJ α}{Q:α->aE->Prop}(h:av M A m Q (DI M A G E) s):av M A (m.onRaise λx=>do Dg x G;PN x) Q E s:=
 DH (gG h (λX I q=>q) λX I hx=>aJ (gG hx (λX I e=>aZ (wpAny_theTreesLotGoes e)) λX I e=>e))
theorem au1{nI body orelse pos}(h:eG M A (.whileLoop nI body orelse G) (λr s'=>match r with| .ok f=>Q f s'| .error e=>QJ M A G E e s') s):av M A (t8 (.While nI body orelse pos) G) Q E s:=by rw[exec_While];exact at_ (QK rfl h nb)
theorem Yq{dD dY body orelse pos}(h:av M A (cM dY G) (λx aF=>av M A (ru x) (λit cj=>eG M A (.forLoop dD it body orelse G) (λr s'=>match r with| .ok f=>Q f s'| .error e=>QJ M A G E e s') cj) E aF) E s)
  (hs:∀x,pO dY G x=pure x):av M A (t8 (.For dD dY body orelse pos) G) Q E s:=by
 rw[exec_For];exact at_ (dR h λx aF q=>aJ (iY (hs x) (at_ (lI q λit cj q=>QK rfl q nb))))
end
section
variable{prog:iU}{w:bU}{A:cQ}{E:aA->aE->Prop}{R:nM->aE->Prop}{s:aE}{G:cL}
theorem aC3(h:R (.ok .next) s):eG (aP prog w) A (.block [] G) R s:=RE (codeAny_block (co7 h))
def RH(R:nM->aE->Prop)(cC:aE->Prop)(f:C7)(s:aE):Prop:=match f with
 | .next| .cont=>cC s
 | .brk=>R (.ok .next) s
 | .ret v=>R (.ok (.ret v)) s
abbrev w6(M:jP)(A:cQ)(G:cL)(R:nM->aE->Prop):aA->aE->Prop:=DI M A G λe s'=>R (.error e) s'
def Zt(M:jP)(A:cQ)(G:cL)(body:J eg)(R:nM->aE->Prop)(cC:aE->Prop)(b:aD)(s:aE):Prop:=match b with
 |false=>R (.ok .next) s
 |true=>av M A (A9 body G) (RH R cC) (w6 M A G R) s
theorem RH.fin{M:jP}{c:pL}(hN:∀s,cC s->eG M A c R s)(hc:c.quiet=ah/\free c=ah)(h:RH R cC f s){E:aA->aE->Prop}:
  av M A (match f with| .next| .cont=>(pure (.again c):dJ Fin)| .brk=>pure (.done .next)| .ret v=>pure (.done (.ret v))) (λcH s'=>match cH with| .done f=>R (.ok f) s'| .again c'=>(c'.quiet=ah/\free c'=ah)/\eG M A c' R s') E s:=by
 induction f with
 |next=>exact bg ⟨hc,hN _ h⟩
 |cont=>exact bg ⟨hc,hN _ h⟩
 |_=>exact bg h
theorem aC4{nI body}(hN:∀s,cC s->eG (aP prog w) A (.whileLoop nI body [] G) R s)(h:av (aP prog w) A (oV nI G (cM nI G)) (Zt (aP prog w) A G body R cC) (w6 (aP prog w) A G R) s):
  eG (aP prog w) A (.whileLoop nI body [] G) R s:=by
 refine m_ ?_
 show av _ A ((whileTurn nI body [] G).onRaise (λx=>do Dg x G;PN x)) _ _ s
 refine KS ?_;delta whileTurn;refine dR h λb cj q=>?_;induction b with
 |false=>exact aJ (Yn (bg q))
 |true=>exact dR q λf dU q=>q.fin hN ⟨rfl,rfl⟩
def Gr(M:jP)(A:cQ)(it:aA)(dD:aT)(G:cL)(P:aD->aE->Prop)(E:aA->aE->Prop)(s:aE):Prop:=
 av M A (pyNext it) (λr aF=>match r with
  |none=>P ak aF
  |some v=>av M A (J' dD it v) (λX cj=>av M A (sy dD G v) (λX dU=>P ah dU) E cj) E aF) E s
theorem Zu{dD it body}(hN:∀s,cC s->eG (aP prog w) A (.forLoop dD it body [] G) R s)(h:Gr (aP prog w) A it dD G (Zt (aP prog w) A G body R cC) (w6 (aP prog w) A G R) s):
  eG (aP prog w) A (.forLoop dD it body [] G) R s:=by
 refine m_ ?_
 show av _ A ((forTurn dD it body [] G).onRaise (λx=>do Dg x G;PN x)) _ _ s
 refine KS ?_;delta forTurn;refine at_ (aJ (DH (gG h (λr aF q=>?_) λX I q=>qE q)));induction r with
 |none=>exact bg ⟨⟨rfl,rfl⟩,aC3 q⟩
 |some v=>exact dR q λX Zv q=>dR q λX cj q=>dR q λf dU q=>q.fin hN ⟨rfl,rfl⟩
theorem au2{aY dD dY bZ dg scope pos it acc}(h0:eG (aP prog w) A (.compLoop (.ListComp aY (⟨dD,dY,bZ,0⟩::dg) scope pos) 0 it acc G) R s)
  (h:av (aP prog w) A (ru it) (λyo s'=>eG (aP prog w) A (.compLoop (.ListComp aY (⟨dD,dY,bZ,0⟩::dg) scope pos) 0 yo acc G) R s') (DI (aP prog w) A G λx s'=>R (.error x) s') s):
  eG (aP prog w) A (.compStart (.ListComp aY (⟨dD,dY,bZ,0⟩::dg) scope pos) 0 it acc G) R s:=by
 refine m_ ?_
 show av _ _ ((Xf (.ListComp aY (⟨dD,dY,bZ,0⟩::dg) scope pos) 0 it acc G).onRaise (λx=>do Dg x G;su cp0)) _ _ s
 refine DH (gG (E:=DI (aP prog w) A G λx s'=>R (.error x) s') ?_ (λX I q=>q) λX I hx=>aJ (gG hx (λX I e=>qE e) λX I e=>e));unfold Xf
 show av _ _ (ask>>=_) _ _ s
 refine aJ (aZ (aj6 (KO ?_)))
 split
 ·first
   |exact aJ (bg (bg (ry ⟨rfl,rfl⟩ h0)))
   |exact bg (ry ⟨rfl,rfl⟩ h0)
 ·first
   |exact aJ (bg (aJ (sO (at_ (dR h λyo s' q=>bg (ry ⟨rfl,rfl⟩ q))))))
   |exact aJ (sO (at_ (dR h λyo s' q=>bg (ry ⟨rfl,rfl⟩ q))))
   |(refine aJ (sO ?_);show av _ _ (su dY.pos>>=_) _ _ s;exact at_ (dR h λyo s' q=>bg (ry ⟨rfl,rfl⟩ q)))
def KU(M:jP)(A:cQ)(E:aA->aE->Prop)(use:bq (aA->dJ rq))(Q:aA->aE->Prop)(acc:aA)(C:aR)(r:nM)(s':aE):Prop:=match r,use with
 | .ok X,ao=>∃m,s'.heap.Ns C m/\∀h',Dh C s'.heap h'->Q acc {s' with heap:=h'}
 | .ok X,N u=>av M A (u acc) (λX ni=>∃m,ni.heap.Ns C m/\∀h',Dh C ni.heap h'->Q .none {ni with heap:=h'}) E s'
 | .error x,X=>∃m,s'.heap.Ns C m/\∀h',Dh C s'.heap h'->∀cenv:cL,cenv.locals=C->av M A (passOn "comprehension.variables-let-go" x cenv:dJ aA) (λX I=>bV) E {s' with heap:=h'}
theorem Yr{M:jP}{scope:ly}{pos:gq}{g:Ka}{use:bq (aA->dJ rq)}{Q:aA->aE->Prop}
  (Ak:clausesOf e=g::gs)(hs:∀x,pO g.iter G x=pure x)(aC5:aj7 scope G=pure cl)(RI:scope.kind=.function)(aC6:∀x∈scope.names,x.2=.local->scope.names.lookup x.1=N .local)
  (h:av M A first (λx aF=>av M A (ru x) (λit cj=>av M A aC7 (λacc dU=>av M A (aj8 scope G.globals cl [] G.qual ao .none (N G)) (λcenv nU=>eG M A (.compStart e 0 it acc {cenv with scope:=Di scope G}) (KU M A E use Q acc cenv.locals) nU) E dU) E cj) E aF) E s):
  av M A (Xg e scope G pos aC7 ak first use) Q E s:=by
 unfold Xg;rw[aC5,Ak];refine dR h λx aF h₁=>at_ (aJ (iY (hs x) (lI h₁ λit cj dw=>?_)));have body:∀{k:PUnit->dJ aA}{c:Prop}[Xa c]{ps:gq},av M A (k ()) Q E cj->av M A (if c then(su ps>>=k)else k ()) Q E cj:=by
  intro k c _ ps q
  split
  ·exact at_ q
  ·exact q
 refine body (dR dw λacc dU ku=>aJ (bg (dR ku λcenv nU s_=>?_)));dsimp only
 have hv:∀x∈(scope.names.filter λx=>(x.2== .local||x.2== .cell)&&x.1 !=(".0":ai)).reverse,x.2=.local->PO {cenv with scope:=Di scope G} x.1=N .local:=
  λx hx hl=>lookup_relabel_local (aC6 x (F6.mp (Xh.mp hx)).1 hl)
 refine iP (aJ (Yl (iP (Ym rfl (Yj s_ λr s' hr=>?_) nb))));induction r with
 |ok f=>
  induction use with
  |none=>refine b_ hr λm hx=>?_;have hn:=hx.1;have hr:=hx.2;exact aJ (iP (aZ (aj9 (cenv:={cenv with scope:=Di scope G}) RI _ s' m hv hn λh' m' X pS=>bg (hr h' pS))))
  |some u=>refine aJ (sO (lI hr λX ni HB=>?_));refine b_ HB λm hx=>?_;have hn:=hx.1;have HB:=hx.2;exact aJ (aZ (aj9 (cenv:={cenv with scope:=Di scope G}) RI _ ni m (λx hx hl=>(gK.mp hx).elim (λh1=>hv x (List.mem_of_mem_drop h1) hl) (λh1=>hv x (ak0 h1) hl)) hn λh' m' X pS=>bg (HB h' pS)))
 |error x=>
  have HB:∃m,s'.heap.Ns cenv.locals m/\∀h',Dh cenv.locals s'.heap h'->∀Zw:cL,Zw.locals=cenv.locals->av M A (passOn "comprehension.variables-let-go" x Zw:dJ aA) (λX I=>bV) E {s' with heap:=h'}:=by cases use<;>exact hr
  refine b_ HB λm hx=>?_;have hn:=hx.1;have hr:=hx.2;exact aJ (iP (aZ (aj9 (cenv:={cenv with scope:=Di scope G}) RI _ s' m hv hn λh' m' X pS=>gG (hr h' pS _ rfl) (λX I z=>z.elim) λX I y=>y)))
theorem au3{body}(h:av (aP prog w) (A.deeper G) (A9 body G) (λg s'=>R (.ok (.ret (match g with| .ret v=>v|X=>.none))) s')
   (λe s'=>av (aP prog w) (A.deeper G) (leaving G e) (λX ni=>R (.error e) ni) (λe' ni=>R (.error e') ni) s') s):eG (aP prog w) A (.func body G) R s:=by
 refine m_ ?_
 show av _ (A.deeper G) (point>>=λX=>(A9 body G).onRaise (leaving G)>>=λg=>match g with| .ret v=>sr v|X=>sr .none) _ _ s
 refine aJ (KP (aJ (DH (gG h (λg s' q=>?_) λX I q=>q))));cases g<;>exact bg q
theorem au4{o:fH}{fd:C_}(aC8:A.depth<cp1)(ho:s.heap.get? a=N o)(RJ:o.data=.func fd)(jV:fd.scope.isCoroutine=ak)(aC9:fd.scope.isGenerator=ak)(aD0:fd.body=.stmts body)(hcd:s.heap.CodeRec fd.code fd.qualname)
  (h:av (aP prog w) A.in1 (Bc fd args) (λai0 aF=>av (aP prog w) A.in1 (aj8 fd.scope fd.globals fd.closure ai0 (fd.qualname++ ".<locals>.") (N a) fd.code ao fd.builtins)
    (λG cj=>cj.heap.NoLimit/\eG (aP prog w) A (.func body G) R cj) (λe s'=>R (.error e) s') aF) (λe s'=>R (.error e) s') s):eG (aP prog w) A (.call (.ref a) args) R s:=by
 refine m_ ?_
 show av _ A.in1 (F1 a>>=_) _ _ s
 refine aJ (aZ (zH ho ?_));refine b_ hcd λc hx=>?_;refine b_ hx λoc hx=>?_;refine b_ hx λvs hx=>?_;refine b_ hx λtq hx=>?_;have hc:=hx.1;have hoc:=hx.2.1;have hdc:=hx.2.2.1;have hq:=hx.2.2.2;rw[RJ]
 show av _ A.in1 (ak1 a fd args) _ _ s
 delta ak1;rw[jV,aC9,aD0];rw[hc]at h|-
 refine aJ (m:=field (.ref c) 1) (aZ (Xi hoc hdc hq (aJ (bg ?_))));exact dR h λai0 aF q=>dR q λG cj q=>aJ (aZ (wpAny_enterFrame q.1 aC8 (bg (ry ⟨rfl,rfl⟩ q.2))))
theorem QL{M:jP}(h:av M A (rt ((ak,x)::dg)) (λvs s'=>Q ⟨vs,[]⟩ s') E s):av M A (Kc g ah ((ak,x)::dg) []) Q E s:=by
 unfold Kc
 show av M A (rt ((ak,x)::dg)>>=_) Q E s
 exact dR h λvs s' q=>iP (aJ (bg (aJ (bg (bg q)))))
theorem Zx{M:jP}(h:av M A (rt []) (λvs s'=>Q ⟨vs,[]⟩ s') E s):av M A (Kc g ah [] []) Q E s:=by
 unfold Kc
 show av M A (rt []>>=_) Q E s
 exact dR h λvs s' q=>aJ (bg (iP (aJ (bg (aJ (bg (bg q)))))))
theorem au5{M:jP}{g:aA}{first:J aA}{pos:gq}{Q:aA->aE->Prop}{P:dH->Prop}{args:J (aD×dJ aA)}{keywords:J (bq ai×dJ aA)}(RK:(args.any (·.1)||keywords.any (·.1.isNone))=ak)
  (S:∀h,P h->∃k,(k=Keeper.frame\/k=Keeper.machine\/k=Keeper.boundFrame)/\wA M h (Xj g) k)
  (h:av M A (Kc g ah args keywords) (λa aF=>P aF.heap/\av M A (fF g (first++a.pos) a.kw) Q E aF) E s):av M A (vn pos g first args keywords) Q E s:=by
 delta vn;rw[RK];refine lI h λa aF q=>at_ ?_;obtain⟨k,hk',L⟩:=S _ q.1;refine aJ (aZ (L.here ?_));have tail:∀{t:dJ aA},av M A t Q E aF->av M A (t>>=λr=>A8 [r] point>>=λX=>pure r) Q E aF:=λht=>dR ht λr cj q=>lI (KP q) λX I q=>bg q;have marked (mk:aA):av M A (callMarked mk g (first++a.pos) a.kw) Q E aF:=aq8 q.2
 rcases hk' with rfl|rfl|rfl
 ·exact Zr (tail q.2) (tail (marked _))
 ·exact tail q.2
 ·exact Zr (tail q.2) (tail (marked _))
theorem Zy{M:jP}{args:J (aD×dJ aA)}(RK:args.any (·.1)=ak)(hg:Xj g=pure .machine)
  (h:av M A (Kc g ah args []) (λa aF=>av M A (fF g (first++a.pos) a.kw) Q E aF) E s):av M A (vn pos g first args []) Q E s:=by
 delta vn;rw[show(args.any (·.1)||([]:J (bq ai×dJ aA)).any (·.1.isNone))=ak by rw[RK];rfl,hg]
 exact lI h λa aF q=>at_ (aJ (bg (dR q λr cj q=>lI (KP q) λX I q=>bg q)))
theorem au6{M:jP}(h:av M A x (λv aF=>av M A (rt dg) (λvs cj=>Q (v::vs) cj) E aF) E s):av M A (rt ((ak,x)::dg)) Q E s:=by rw[rt];refine dR h λv aF q=>?_;simp only[ak2,PR];exact aJ (bg (lI q λvs cj q=>bg q))
theorem au7{M:jP}(h:av M A t (λv aF=>av M A (fF (.type T) [v]) Q E aF) E s):av M A (vn pos (.type T) [] [(ak,t)] []) Q E s:=
 Zy rfl rfl (QL (au6 (gG h (λX I q=>bg q) λX I z=>z)))
theorem au8{x1}{pos:gq}{eX:cT aA}(hh:A.handled=ao)(ht:s.heap.IsTuple t eX)(hn:(Xk iJ G).length=eX.size)(aD1:(Xk iJ G).findIdx? (·.1)=ao)
  (h:∀h',Heap.ExtBut s.heap.objs.size s.heap h'->av (aP prog w) A (PJ ((Xk iJ G).map (·.2)) eX.toList) Q E {s with heap:=h'}):av (aP prog w) A (sy (.Tuple iJ x1 pos) G (.ref t)) Q E s:=by
 rw[arm_assign_Tuple];refine at_ ?_;unfold unpack;rw[hn,aD1];exact aJ (iP (aZ (cp2 hh ht h)))
end
noncomputable def aD2:Ctx:=⟨.builtin "claim.caller" {},ao,ao,[],ao⟩
theorem aD3:wH aD2:=⟨by decide+kernel,λx hx=>nomatch hx⟩
theorem aD4{Γ:Ctx}{A:cQ}{M:jP}{t:dJ Fin}{R:nM->aE->Prop}{s:aE}(gY:Γ.In A)(hc:wH Γ)
  (h:av M A t (λcH s'=>∃f,cH=.done f/\R (.ok f) s') (λe s'=>R (.error e) s') s)(p:gq):Sem.wp M Γ t (Sem.finPost M Γ R) (λe X s'=>R (.error e) s') p s:=by
 refine J3 M Γ t (λcH p' s' ⟨f,e,h⟩=>?_) (λX I u2 h=>h) p s (h Γ p gY hc);subst e;exact h
theorem aD5{prog:iU}{w:bU}{t:dJ Fin}{s:aE}{R:nM->aE->Prop}(aD6:s.asleep)
  (h:av (aP prog w) PT t (λcH s'=>∃f,cH=.done f/\(R (.ok f) s'/\ak3 s'.gens=ak)) (λe s'=>R (.error e) s'/\ak3 s'.gens=ak) s):
  ∃n r s' ni,runN (pM nK) prog w n s ⟨t,.builtin "claim.caller" {},default,[]⟩=.halted (Xl r) s'/\
   schedN (pM nK) prog w n (.single s ⟨t,.builtin "claim.caller" {},default,[]⟩)=.halted (Xl r) s'/\s'.forget=ni.forget/\R r ni:=by
 refine kK λGx gI=>?_;obtain⟨n,r,aF,cj,hs,hn,hfo,hR⟩:=wp_halts_full (M:=aP prog w) (R:=R) aD6 (aD4 (R:=λr s'=>R r s'/\ak3 s'.gens=ak) caller_in aD3 h default);refine gI ?_;exact⟨n,r,cj,aF,hn,hs,hfo,hR⟩
theorem ex5{α β γ δ ε:Type}{A:α->β->Prop}{B:α->β->γ->δ->ε->Prop}(a:α)(b:β)(c:γ)(d:δ)(e:ε)(h:A a b)(g:B a b c d e):∃a b,A a b/\∃c d e,B a b c d e:=⟨a,b,h,c,d,e,g⟩
theorem aD7{c:ClaimW}{tree:J aA->dJ Fin}{w:bU}{s:aE}{free:aR->Prop}{lP:Prop}{JX:dH->Prop}(hz:s.asleep)(aD8:s.gens=#[])
  (aD9:∀args,c.pre args=ah->WData.layableAll args=ah->
   ∀ord:J jN->J jN,(∀l,(ord l).Perm l)->
   ∃vs aF,Ke c.records (classAt s.heap) w.params ord args s=N (vs,aF)/\
    av (aP c.prog w) PT (tree vs) (λcH s'=>∃f,cH=.done f/\(c.Ends s args vs aF (.ok f) s'/\s'.os=s.os/\Xm s'.gens/\JX s'.heap))
     (λe s'=>c.Ends s args vs aF (.error e) s'/\s'.os=s.os/\Xm s'.gens/\JX s'.heap) aF):
  c.CallFrom (λvs=>⟨tree vs,.builtin "claim.caller" {},default,[]⟩) w free lP JX s:=by
 intro args BY RL ord Mx;refine kK λb4 hG=>?_;refine(aD9 args BY RL ord Mx).elim λvs h=>h.elim λaF h=>?_;have HC:=layAllW_rest _ _ _ h.1;refine(aD5 (prog:=c.prog) (w:=w) (t:=tree vs) (s:=aF) (R:=λr s'=>c.Ends s args vs aF r s'/\s'.os=s.os/\JX s'.heap) (aj1 HC.2.2.2 hz)
  (gG h.2 (λcH s' g=>g.elim λf g=>⟨f,g.1,⟨g.2.1,g.2.2.1,g.2.2.2.2⟩,cp3 g.2.2.2.1⟩) λe s' g=>⟨⟨g.1,g.2.1,g.2.2.2⟩,cp3 g.2.2.1⟩)).elim λk g=>g.elim λr g=>g.elim λs' g=>g.elim λni g=>?_
 have q:=Shared.forget_eq g.2.2.1;refine hG (ex5 vs aF k _ s' h.1 ⟨g.2.1,?_,(λX i x hx=>by rw[aD8]at hx;simp at hx),(by first|exact q.1▸g.2.2.2.2.2|(rw[q.1];exact g.2.2.2.2.2)),bQ (·.seen) ((runN_life _ _ _ g.1).trans HC.2.2.2),co1 (q.2.2.2.1▸g.2.2.2.2.1)⟩)
 exact(g.2.2.2.1.congr q.1).imp (λe=>e.imp λv e=>⟨bQ Xl e.1,e.2.1,e.2.2.1,e.2.2.2.1,λb o y X=>e.2.2.2.2.1 b o y,e.2.2.2.2.2⟩) λe=>e.imp λx e=>e.imp λob e=>e.imp λcls e=>⟨bQ Xl e.1,e.2.1,e.2.2.1,e.2.2.2.1,e.2.2.2.2.1,λb o y X=>e.2.2.2.2.2 b o y⟩
end
end Wm
namespace Wh
def Zz:Prop:=∀(w:bU)(bJ s aF:aE),cu w bJ s->(∀b o,s.heap.get? b=N o->aF.heap.get? b=N o)->aF.gens=#[]->
 ∀(a:aR)(xs:J (aa×H))(n:H),s.heap.objs.size<=a->aF.heap.get? a=N ⟨.type "list",ao,.seq (xs.map λx=>Xn x.1 x.2).toArray n,#[]⟩->xs.length<=63->
 Wm.av (aP pw w) PT (cp4 (.ref 1456) [.ref a]) (λv s'=>v=.bool ah/\OldK aF.heap s'.heap/\s'.os=aF.os/\Xm s'.gens) (λX I=>bV) aF
theorem aE0{R:WRecords}{cl:ai->bq aR}{P:fG}{ord:J jN->J jN}{ds:J WData}{s aF:aE}{vs:J aA}(h:Ke R cl P ord [.list ds] s=N (vs,aF)):
  ∃a ws n,vs=[.ref a]/\aF.heap.get? a=N ⟨.type "list",ao,.seq ws n,#[]⟩:=by
 unfold Ke layW at h
 cases e:Ke R cl P ord ds s with
 |none=>rw[e]at h;cases h
 |some r=>
  rw[e]at h
  simp[Ke]at h
  obtain⟨rfl,rfl⟩:=h;exact⟨_,r.1.toArray,_,rfl,lY _ rfl⟩
theorem aE1{R:WRecords}{cl:ai->bq aR}{P:fG}{ord:J jN->J jN}{ds:J WData}{s aF:aE}{vs:J aA}{as:J aR}(h:Ke R cl P ord [.list ds] s=N (vs,aF))(r:aj4 R cl aF.heap vs [.list ds] as)
  (My:∀a∈as,s.heap.objs.size<=a)(hd:(ds.all λd=>PD R d .int)=ah)(hl:ds.length<=63):
  ∃a,∃xs:J (aa×H),∃n:H,vs=[.ref a]/\s.heap.objs.size<=a/\aF.heap.get? a=N ⟨.type "list",ao,.seq (xs.map λx=>Xn x.1 x.2).toArray n,#[]⟩/\xs.length<=63:=by
 refine(aE0 h).elim λa g=>g.elim λws g=>g.elim λn g=>?_;have e:=g.1;subst e;cases r with
 |cons q r=>refine(aB3 q ds rfl).elim λb k=>k.elim λvs k=>k.elim λn' k=>k.elim λbs k=>k.2.2.1.elim λo k1=>(ints_of k.2.2.2 hd).elim λxs hx=>?_;have e:a=b:=Value.ref.inj k.1;subst e;have e2:=(bQ (Dj (·.data)) (g.2.symm.trans k1.1)).trans (bQ N k1.2);have e3:ws=vs:=(Data.seq.inj (fU e2)).1;have e4:ws=(xs.map λx=>Xn x.1 x.2).toArray:=e3.trans (cp5.mp (hx.1.trans (ak4 ..).symm));exact⟨a,xs,n,rfl,My a (iM _ (k.2.1▸ .head _)),e4▸g.2,bR (jm hx.2) hl⟩
theorem aE2(aE3:zF.wellSaid=ah)(aE4:zF.row.wellSaid=ah)(fF:Zz):zF.Holds:=by
 refine⟨aE3,aE4,Y9,⟨aB5,aB4,rfl⟩,Y9.witness,λw=>⟨(YY w).1,λs' pS=>?_⟩⟩;refine kK λb4 hG=>?_;refine((YY w).2 s' pS).elim λbJ g=>g.2.2.elim λs g3=>?_;have hS:=g3.1;have hT:TopRan pw w bJ s:=hS.aB1 g3.2.2.1 g3.2.2.2.1 g3.2.2.2.2;refine hG ⟨bJ,g.1,by rw[hS.Z],s,hT,λn hn=>?_,λx hx=>(nomatch hx),λx hx=>(nomatch hx),?_⟩
 ·obtain rfl:n= "law":=fN.mp hn;exact hS.aB0
 refine Wm.aD7 (c:=K9) (tree:=λvs=>do match<-nsGet Pz "law" with
   |some f=>do sr (<-cp4 f vs)
   |none=>zE "claim.caller:no-such-global") g3.2.1 hS.at_.gens λargs BY RL ord Mx=>?_
 refine kK λb4 hG=>?_;refine(aB6 BY).elim λds d=>?_;have e:=d.1;subst e;refine(cn9.mp (layAllW_isSome (R:=[]) (cl:=classAt s.heap) (P:=w.params) (ord:=ord) (λc hc=>by simp[WRecords.fields?]at hc) [.list ds] [.list .int] s (pre_splitW (r:=zF.row.toRowW) BY).1)).elim λp Eo=>?_
 have JY:=layAllW_keeps _ _ _ Eo;have HC:=layAllW_rest _ _ _ Eo;refine(reads_layAllW Mx _ _ _ Eo RL p.2.heap (λX I e=>e)).elim λas rd=>?_;have L:Laid [] w s p.2 [.list ds] p.1 as:=⟨⟨ord,Mx,Eo⟩,rd.1,rd.2.1,rd.2.2,JY,HC.1.trans hS.at_.gens,HC.2.2.1⟩;refine(aE1 Eo rd.1 (λa m=>(rd.2.1.2.2 a m).1) d.2.1 d.2.2).elim λa ll=>ll.elim λxs ll=>ll.elim λn ll=>?_;have hN:p.2.heap.Ns qx (s.heap.nsMap qx):=(Xo hS.wQ).keeps JY;have aE5:s.heap.nsMap qx "law"=N (.ref 1456):=(W7 (z4 hS.g3) _).trans (Y8 _);refine hG ⟨p.1,p.2,Eo,Wm.aJ (Wm.aZ (wpAny_nsGet hN ?_))⟩;rw[aE5,ll.1];refine Wm.aJ (Wm.gG (fF w bJ s p.2 hS JY L.gens a xs n ll.2.1 ll.2.2.1 ll.2.2.2) (λu s' g=>?_) λX I x=>x.elim);have e:=g.1;subst e;have z:=GoodWG.laid (c:=K9) (g:=(⟨.inl ⟨.bool ah,.bool ah,[],rfl,λX=>rfl,.bool ah,by kernel_rfl,λX=>⟨.nil,λX h=>nomatch h⟩⟩,g.2.1,g.2.2.1,g.2.2.2⟩:GoodWG K9 (classAt s.heap) (ExcName.means s.heap) [.list ds] p.2 (.ok (.ret (.bool ah))) s')) rfl rfl (ident_freeW (r:=zF.row.toRowW) rfl rfl rfl) L
 rw[ll.1]at z
 exact Wm.bg ⟨_,rfl,z.1,z.2.1,z.2.2,λq=>nomatch q⟩
end Wh
namespace Wm
noncomputable def gw:H->J O->bq O
 |X,[]=>ao
 |0,o::X=>N o
 |n+1,X::r=>gw n r
noncomputable def eO(o:O):H->J O->J O
 |X,[]=>[]
 |0,X::r=>o::r
 |n+1,x::r=>x::eO o n r
noncomputable def uG:H->J H->H
 |X,[]=>0
 |0,o::X=>o
 |n+1,X::r=>uG n r
noncomputable def len{α:Type}:J α->H
 |[]=>0
 |X::r=>vo (len r)
noncomputable def eK(a:H):J H->aD
 |[]=>ak
 |b::r=>match bX a b with|true=>ah|false=>eK a r
noncomputable def qO(a:H):J H->H
 |[]=>0
 |b::r=>match bX a b with|true=>0|false=>vo (qO a r)
noncomputable def um:H->H->J H
 |X,0=>[]
 |a,n+1=>a::um (a+1) n
noncomputable def V.refs(v:V):J H:=match v with
 | .ref h=>[h]
 | .pr X h=>[h]
 |X=>[]
def RM(ov:bq V):J H:=match ov with
 |some v=>v.refs
 |none=>[]
def jA.refs(s:jA):J H:=match s with
 | .L ov=>RM ov
 | .C h=>[h]
def Al(l:J V):J H:=l.flatMap V.refs
def RN(l:J (ai×V)):J H:=l.flatMap λp=>p.2.refs
def Am(m:Fm):J H:=m.flatMap λp=>p.2.refs
def O.refs(o:O):J H:=match o with
 | .vl vs=>Al vs
 | .inst X fs=>RN fs
 | .cell ov=>RM ov
 | .frame X m=>Am m
 |X=>[]
noncomputable def tw(n:H):J H->aD
 |[]=>ah
 |a::r=>match nJ (vo a) n with|true=>tw n r|false=>ak
def lU(l:J O):J H:=l.flatMap O.refs
noncomputable def V.fL(f:H->H)(v:V):V:=match v with
 | .ref h=>.ref (f h)
 | .pr x h=>.pr x (f h)
 |v=>v
def Mz(f:H->H)(ov:bq V):bq V:=match ov with
 |some v=>N (v.fL f)
 |none=>ao
def jA.fL(f:H->H)(s:jA):jA:=match s with
 | .L ov=>.L (Mz f ov)
 | .C h=>.C (f h)
def BZ(f:H->H)(l:J V):J V:=l.map (V.fL f)
def aE6(f:H->H)(p:ai×V):ai×V:=match p with|(x,v)=>(x,v.fL f)
def B0(f:H->H)(l:J (ai×V)):J (ai×V):=l.map (aE6 f)
def aE7(f:H->H)(p:ai×jA):ai×jA:=match p with|(x,v)=>(x,v.fL f)
def ZA(f:H->H)(m:Fm):Fm:=m.map (aE7 f)
def O.fL(f:H->H)(o:O):O:=match o with
 | .vl vs=>.vl (BZ f vs)
 | .inst c fs=>.inst c (B0 f fs)
 | .cell ov=>.cell (Mz f ov)
 | .frame cs m=>.frame cs (ZA f m)
 |o=>o
def qP(f:H->H)(l:J O):J O:=l.map (O.fL f)
def jQ(o:J O):J H->J O
 |[]=>[]
 |h::r=>(match gw h o with|some x=>x|none=>.gone)::jQ o r
def wI(o:J O):H->J H->J H->J H
 |0,X,acc=>acc
 |X+1,[],acc=>acc
 |n+1,h::t,acc=>match eK h acc with
  |true=>wI o n t acc
  |false=>wI o n ((match gw h o with|some x=>x.refs|none=>[])++t) (acc++[h])
def MA:J H->aD
 |[]=>ah
 |a::r=>match eK a r with|true=>ak|false=>MA r
def HD(l m:J H):aD:=match l with
 |[]=>ah
 |a::r=>match eK a m with|true=>HD r m|false=>ak
def An:J H->J O->J O->J O
 |h::r,x::t,o=>An r t (eO x h o)
 |[],t,o=>o++t
 |X,[],o=>o
noncomputable def Ep:H:=200
noncomputable def l7{α:Type}:H->J α->J α
 |0,X=>[]
 |X+1,[]=>[]
 |n+1,x::r=>x::l7 n r
def tB:H->(H->Prop)->Prop
 |0,k=>k 0
 |n+1,k=>tB n λm=>k (vo m)
def B3{α:Type}(f:α->(α->Prop)->Prop):J α->(J α->Prop)->Prop
 |[],k=>k []
 |a::r,k=>f a λa=>B3 f r λr=>k (a::r)
def Er:=B3 tB
def uH(v:V)(k:V->Prop):Prop:=match v with
 | .ref h=>tB h λh=>k (.ref h)
 | .pr x h=>tB h λh=>k (.pr x h)
 |v=>k v
def RO:=B3 uH
def RP(ov:bq V)(k:bq V->Prop):Prop:=match ov with
 |some v=>uH v λv=>k (N v)
 |none=>k ao
def aE8(p:ai×V)(k:ai×V->Prop):Prop:=match p with|(x,v)=>uH v λv=>k (x,v)
def ZC(p:ai×jA)(k:ai×jA->Prop):Prop:=match p with
 |(x,s)=>(match s with
  | .L ov=>RP ov λov=>k (x,.L ov)
  | .C h=>tB h λh=>k (x,.C h))
def ZD(o:O)(k:O->Prop):Prop:=match o with
 | .inst c fs=>B3 aE8 fs λfs=>k (.inst c fs)
 | .cell ov=>RP ov λov=>k (.cell ov)
 |o=>k o
def lV:=B3 ZD
def rN(Z:St)(k:St->Prop):Prop:=B3 ZC Z.m λm=>lV Z.o λo=>k ⟨m,o⟩
theorem yp(n:H):∀k:H->Prop,tB n k=k n:=by
 induction n with
 |zero=>exact λX=>rfl
 |succ n ih=>exact λk=>ih _
theorem HE{α:Type}{f:α->(α->Prop)->Prop}(h:∀a k,f a k=k a)(l:J α):∀k:J α->Prop,B3 f l k=k l:=by
 induction l with
 |nil=>exact λX=>rfl
 |cons a r ih=>exact λk=>(h _ _).trans (ih _)
theorem HF(l:J H)(k:J H->Prop):Er l k=k l:=HE yp ..
theorem w9(v:V)(k:V->Prop):uH v k=k v:=by
 induction v with
 |ref h=>exact yp h λh=>k (.ref h)
 |pr x h=>exact yp h λh=>k (.pr x h)
 |_=>rfl
theorem RQ(l:J V)(k:J V->Prop):RO l k=k l:=HE w9 ..
theorem ZE(v:bq V)(k:bq V->Prop):RP v k=k v:=by
 induction v with
 |none=>rfl
 |some v=>exact w9 v λv=>k (N v)
theorem aE9(p:ai×jA)(k:ai×jA->Prop):ZC p k=k p:=by
 obtain⟨x,s⟩:=p;induction s with
 |L ov=>exact ZE ov λov=>k (x,.L ov)
 |C h=>exact yp h λh=>k (x,.C h)
theorem aF0(o:O)(k:O->Prop):ZD o k=k o:=by
 induction o with
 |inst c fs=>exact HE (λp k=>w9 p.2 λv=>k (p.1,v)) fs λfs=>k (.inst c fs)
 |cell ov=>exact ZE ov λov=>k (.cell ov)
 |_=>rfl
theorem o5(l:J O)(k:J O->Prop):lV l k=k l:=HE aF0 ..
theorem yq(Z:St)(k:St->Prop):rN Z k=k Z:=(HE aE9 ..).trans (o5 ..)
abbrev Tr:=J V->J O->(V->J O->Prop)->Prop
def w_(o:J O)(args:J V)(ρ:J H):aD:=
 match MA ρ with
 |true=>(match tw (len o) ρ with
  |true=>(match HD (Al args) ρ with
   |true=>HD (lU (jQ o ρ)) ρ
   |false=>ak)
  |false=>ak)
 |false=>ak
def RS(ρ:J H)(o:J O)(k:V->J O->Prop)(v:V)(o':J O):Prop:=
 match tw (len o') (v.refs++lU o')with
 |true=>Er (ρ++um (len o) (len o' -len ρ)) λHG=>uH (v.fL λi=>uG i HG) λv=>lV (An ρ (qP (λi=>uG i HG) o') o) λo=>k v o
 |false=>bV
def yt(T:Tr)(args:J V)(o:J O)(k:V->J O->Prop):Prop:=
 Er (wI o Ep (Al args) []) λρ=>
 match w_ o args ρ with
 |true=>RO (BZ (λh=>qO h ρ) args) λargs=>lV (qP (λh=>qO h ρ) (jQ o ρ)) λo1=>T args o1 (RS ρ o k)
 |false=>bV
def B4(m:H)(v:V)(o:J O)(k:V->J O->Prop):Prop:=
 Er (wI o Ep (v.refs++lU (l7 m o)) (um 0 m)) λρ=>
 match w_ o [v] ρ with
 |true=>uH (v.fL λh=>qO h ρ) λv=>lV (qP (λh=>qO h ρ) (jQ o ρ)) λo=>k v o
 |false=>bV
noncomputable def Ao:H->J H->H
 |m,[]=>m
 |m,a::r=>match nJ (vo a) m with|true=>Ao m r|false=>Ao (vo a) r
theorem ZF(l:J H):∀m:H,m<=Ao m l:=by
 induction l with
 |nil=>exact λX=>jO _
 |cons a r ih=>
  intro m;have go:∀q,nJ (vo a) m=q->m<=(match q with|true=>Ao m r|false=>Ao (vo a) r):=λq e=>by
   cases q
   ·exact bR (mX (W8 λh=>absurd ((cp6 h).symm.trans e) gr)) (ih _)
   ·exact ih _
  exact go _ rfl
def jJ(m:H)(Z:St):St:=match tw m (Am Z.m++lU (l7 m Z.o))with
 |true=>⟨Z.m,l7 m Z.o⟩
 |false=>match tw (Ao m (Am Z.m++lU (l7 m Z.o))) (Am Z.m++lU (l7 (Ao m (Am Z.m++lU (l7 m Z.o))) Z.o))with
  |true=>⟨Z.m,l7 (Ao m (Am Z.m++lU (l7 m Z.o))) Z.o⟩
  |false=>Z
def nt(m:H)(v:V)(Z:St):St:=match tw m (v.refs++Am Z.m++lU (l7 m Z.o))with
 |true=>⟨Z.m,l7 m Z.o⟩
 |false=>Z
noncomputable def nV:J V->bq (J D)
 |[]=>N []
 | .d x::r=>(match nV r with|some ds=>N (x::ds)|none=>ao)
 |X::I=>ao
noncomputable def rO{α β:Type}(g:α->bq β):J α->bq (J β)
 |[]=>N []
 |v::r=>match g v with
  |some x=>(rO g r).map (x::·)
  |none=>ao
noncomputable def ZG(g:V->bq D)(p:ai×V):bq (ai×D):=match p with|(a,v)=>(g v).map (a,·)
def ZH(g:V->bq D)(y:O):bq D:=match y with
 | .dl ds=>N (.list ds)
 | .vl vs=>(rO g vs).map .list
 | .inst c fs=>(rO (ZG g) fs).map (.obj c)
 |X=>ao
def tC(o:J O):H->V->bq D
 |0,X=>ao
 |n+1,v=>match v with
  | .d x=>N x
  | .ref h=>(match gw h o with
   |some y=>ZH (tC o n) y
   |none=>ao)
  |X=>ao
def mG:J H->J O->J O
 |[],o=>o
 |h::r,o=>mG r (eO .gone h o)
def HH(v:V)(o:J O)(k:V->J O->Prop):Prop:=
 Er (wI o Ep v.refs []) λρ=>
 match w_ o [v] ρ with
 |true=>(match tC o 20 v with
  |some x=>lV (mG ρ o) λo=>k (.d x) o
  |none=>bV)
 |false=>bV
def dh(q:aD)(a b:Prop):Prop:=@Bool.rec (λX=>Prop) b a q
theorem aF1{a b:Prop}(h:q=ah->a)(g:q=ak->b):dh q a b:=by cases q;exact g rfl;exact h rfl
theorem gZ{a b:Prop}(h:q=ah->a)(g:q=ak->b):@Bool.rec (λX=>Prop) b a q:=aF1 h g
noncomputable def fJ(l:J H):J D:=l.map λ(n:H)=>D.int n
noncomputable def uI{α:Type}:J α->H->bq α
 |[],X=>ao
 |v::X,0=>N v
 |X::r,n+1=>uI r n
noncomputable def f9{α:Type}:J α->aD
 |[]=>ah
 |X::I=>ak
def iD(x:D)(k:aa->Prop):Prop:=match x with| .int i=>k i|X=>bV
def sD(x:D)(k:ai->Prop):Prop:=match x with| .str i=>k i|X=>bV
def tD(x:D)(k:J D->Prop):Prop:=match x with| .tup i=>k i|X=>bV
def lD(x:D)(k:J D->Prop):Prop:=match x with| .list i=>k i|X=>bV
def iS(a:V)(k:D->Prop):Prop:=match a with| .d x=>k x|X=>bV
def jk(a:V)(k:aa->Prop):Prop:=iS a λx=>iD x k
def hO(a:V)(k:H->Prop):Prop:=match a with| .ref h=>k h|X=>bV
def ou(l:J V)(k:V->Prop):Prop:=match l with
 |[]=>bV
 |x::r=>(match r with|[]=>k x|X::I=>bV)
def Es(l:J V)(k:V->V->Prop):Prop:=match l with
 |[]=>bV
 |x::r=>ou r λy=>k x y
def MB(l:J V)(k:Prop):Prop:=match l with
 |[]=>k
 |X::I=>bV
def RT(vs:J V)(k:V->Prop):Prop:=match nV vs with
 |some ds=>k (.d (.tup ds))
 |none=>Es vs λa b=>iS a λx=>hO b λh=>k (.pr x h)
def jK{α:Type}(o:bq α)(k:α->Prop):Prop:=match o with|some x=>k x|none=>bV
def gO(h:H)(o:J O)(k:O->Prop):Prop:=jK (gw h o) k
def HJ(x:O)(k:J D->Prop):Prop:=match x with| .dl ds=>k ds|X=>bV
def RU(x:O)(k:J H->Prop):Prop:=match x with| .ba ds=>k ds|X=>bV
noncomputable def ZI:V->aD
 | .d (.tup X)=>ah
 |X=>ak
noncomputable def isI:V->aD
 | .d (.int X)=>ah
 |X=>ak
def Bt(v:V)(o:J O)(k:J D->Prop):Prop:=match v with
 | .d x=>lD x k
 | .ref h=>gO h o λx=>HJ x k
 |X=>bV
def vK(v:V)(o:J O)(k:J D->Prop):Prop:=dh (ZI v) (iS v λx=>tD x k) (Bt v o k)
noncomputable def isB:V->aD
 | .d (.bytes X)=>ah
 |X=>ak
def bD(x:D)(k:J H->Prop):Prop:=match x with| .bytes i=>k i|X=>bV
def HK(v:V)(o:J O)(k:J D->Prop):Prop:=dh (isB v) (iS v λx=>bD x λl=>k (fJ l)) (vK v o k)
def MC(ds:J D)(k:J H->Prop):Prop:=∃l,ds=fJ l/\(∀n∈l,n<256)/\k l
def QM(v:V)(o:J O)(k:J H->Prop):Prop:=match v with
 | .d x=>(match x with
  | .bytes l=>k l
  | .list ds=>MC ds k
  |X=>bV)
 | .ref h=>gO h o λx=>(match x with
  | .ba l=>k l
  | .dl ds=>MC ds k
  |X=>bV)
 |X=>bV
def ZJ(op:W9)(a b:aa)(k:aa->Prop):Prop:=match op with
 | .Add=>k (a+b)
 | .Sub=>k (a -b)
 | .Mult=>(a.natAbs<2^64/\b.natAbs<2^64)/\k (a*b)
 | .Mod=>b≠0/\k (a.fmod b)
 | .FloorDiv=>(b≠0/\b.natAbs<2^128)/\k (a.fdiv b)
 | .BitAnd=>k (uc a b)
 | .BitOr=>k (PU a b)
 | .RShift=>0<=b/\k (a.fdiv (2^b.toNat))
 | .LShift=>(0<=b/\b<=100000/\a.natAbs<2^64)/\k (a*2^b.toNat)
 | .Pow=>(0<=b/\b<=100000/\a.natAbs<2^64)/\k (a^b.toNat)
 |X=>bV
def aF2(ds:J D)(k:D->Prop):Prop:=match ds with
 |[]=>bV
 |x::r=>(match r with|[]=>k x|X::I=>bV)
def RV(op:W9)(a b:V)(o:J O)(k:V->Prop):Prop:=dh (isI a) (jk a λi=>jk b λj=>ZJ op i j λi=>k (.d (.int i))) (match op with
 | .Mult=>Bt a o λds=>aF2 ds λx=>jk b λn=>(-(2^63)<=n/\n<=1048576)/\k (.d (.list (vh n.toNat x)))
 | .Add=>dh (ZI a) (iS a λx=>iS b λy=>tD x λa=>tD y λb=>(a++b).length<=1048576/\k (.d (.tup (a++b))))
  (Bt a o λx=>Bt b o λy=>(x++y).length<=1048576/\k (.d (.list (x++y))))
 |X=>bV)
def RW(E:D->Prop)(x:D):Prop:=match x with
 | .obj X I=>bV
 | .glob X=>bV
 | .tup vs=>∀v∈vs,E v
 | .list vs=>∀v∈vs,E v
 |X=>oU
def D.nu:H->D->Prop
 |0=>RW λX=>bV
 |n+1=>RW (D.nu n)
def MD(a b:D)(k:aD->Prop):Prop:=match a with
 | .int i=>(match b with| .int j=>k (decide (i=j))| .none=>k ak|X=>bV)
 | .str x=>sD b λy=>k (jd x y)
 | .none=>(match b with| .none=>k ah| .int X=>k ak|X=>bV)
 |X=>bV
noncomputable def scl:D->aD
 | .int X=>ah
 | .str X=>ah
 | .none=>ah
 |X=>ak
def eqK(a b:D)(k:aD->Prop):Prop:=dh (scl a) (MD a b k) ((a=b/\a.nu 8)/\k ah)
def aF3:D->aD
 | .list ds=>f9 ds
 |X=>ak
def RX(a b:V)(o:J O)(k:aD->Prop):Prop:=iS b λy=>dh (aF3 y) (Bt a o λds=>k (f9 ds)) (iS a λx=>eqK x y k)
def yy(x:D):J D->(aD->Prop)->Prop
 |[],k=>k ak
 |d::r,k=>MD d x λq=>yy x r λq'=>k (q||q')
noncomputable def qQ{α:Type}(x:aa):J (aa×α)->bq α
 |[]=>ao
 |(y,a)::r=>match decide (x=y)with|true=>N a|false=>qQ x r
def ZK{α:Type}(o:bq α)(k:Prop):Prop:=match o with|some X=>bV|none=>k
def ME{κ:Type}(a:D->(κ->Prop)->Prop)(lk:κ->J (κ×D)->bq D):J (D×D)->(J (κ×D)->Prop)->Prop
 |[],k=>k []
 |p::r,k=>a p.1 λi=>ME a lk r λl=>ZK (lk i l) (k ((i,p.2)::l))
def hdK(l:J (D×D))(k:D->Prop):Prop:=match l with
 |[]=>bV
 |p::X=>k p.1
def MF(es:J (D×D))(k:V->Prop):Prop:=hdK es λx=>match x with
 | .int X=>ME iD qQ es λl=>k (.nN l)
 | .str X=>ME sD cG es λl=>k (.uq l)
 |X=>bV
noncomputable def yz{α:Type}:bq α->aD
 |some X=>ah
 |none=>ak
noncomputable def D.o6:D->aD
 | .none=>ah
 |X=>ak
def V.o6:V->aD
 | .d x=>x.o6
 |X=>ak
def tE(op:CmpOp)(a b:V)(o:J O)(k:aD->Prop):Prop:=match op with
 | .Eq=>RX a b o k
 | .NotEq=>RX a b o λq=>k (!q)
 | .Is=>dh b.o6 (k a.o6) bV
 | .IsNot=>dh b.o6 (k (!a.o6)) bV
 | .In=>(match b with
  | .nN es=>jk a λx=>k (yz (qQ x es))
  | .uq es=>iS a λx=>sD x λx=>k (yz (cG x es))
  |b=>iS a λx=>vK b o λds=>yy x ds k)
 | .NotIn=>iS a λx=>vK b o λds=>yy x ds λq=>k (!q)
 | .Lt=>jk a λa=>jk b λb=>k (decide (a<b))
 | .LtE=>jk a λa=>jk b λb=>k (decide (a<=b))
 | .Gt=>jk a λa=>jk b λb=>k (decide (b<a))
 | .GtE=>jk a λa=>jk b λb=>k (decide (b<=a))
def Aq(v:V)(k:aD->Prop):Prop:=iS v λx=>match x with
 | .bool q=>k q
 | .int i=>k (!decide (i=0))
 |X=>bV
def ZL(a:V)(i:aa)(o:J O)(k:V->Prop):Prop:=match i with
 | .ofNat n=>HK a o λds=>jK (uI ds n) λx=>k (.d x)
 | .negSucc n=>dh (bX n 0) (vK a o λds=>∃l x,ds=l++[x]/\k (.d x)) bV
def RY(a i:V)(o:J O)(k:V->Prop):Prop:=match a with
 | .nN es=>jk i λx=>∃v,qQ x es=N v/\k (.d v)
 | .uq es=>iS i λx=>sD x λx=>∃v,cG x es=N v/\k (.d v)
 |a=>jk i λi=>ZL a i o k
def RZ(a i:V)(o:J O)(k:V->Prop):Prop:=jk i λi=>HK a o λds=>0<=i/\i<ds.length/\∀x,ds[i.toNat]?=N x->k (.d x)
def ZM(ds:J D)(lo hi:bq aa)(k:V->Prop):Prop:=match lo with
 |some i=>(match hi with|none=>(1<=i/\i<=ds.length)/\k (.d (.tup (ds.drop i.toNat)))|some X=>bV)
 |none=>(match hi with|some i=>(0<=i/\i<=ds.length)/\k (.d (.tup (ds.take i.toNat)))|none=>bV)
def R0(a:V)(lo hi:bq aa)(k:V->Prop):Prop:=iS a λx=>match x with
 | .tup ds=>ZM ds lo hi k
 | .bytes l=>jK lo λi=>jK hi λj=>(0<=i/\i<=j/\j<=l.length)/\k (.d (.bytes ((l.take j.toNat).drop i.toNat)))
 |X=>bV
def oD(x:D)(k:J (ai×D)->Prop):Prop:=match x with| .obj X fs=>k fs|X=>bV
def R1(a:V)(x:ai)(o:J O)(k:V->Prop):Prop:=match a with
 | .d y=>oD y λfs=>jK (cG x fs) λv=>k (.d v)
 | .ref h=>gO h o λy=>(match y with
  | .inst X fs=>jK (cG x fs) k
  | .cur X=>dh (jd x (az [97,116])) (∀i:aa,k (.d (.int i))) bV
  |X=>bV)
 |X=>bV
def HL:J D->(aD->Prop)->Prop
 |[],k=>k ak
 |x::r,k=>(match x with| .bool q=>HL r λq'=>k (q||q')|X=>bV)
def ZN(v:V)(o:J O)(k:H->Prop):Prop:=match v with
 | .d x=>(match x with
  | .tup ds=>k ds.length
  | .list ds=>k ds.length
  | .bytes ds=>k ds.length
  |X=>bV)
 | .ref h=>gO h o λy=>(match y with
  | .dl ds=>k ds.length
  | .vl ds=>k ds.length
  | .ba ds=>k ds.length
  |X=>bV)
 |X=>bV
def ZO(l:J H)(k:H->Prop):Prop:=match l with
 |[]=>bV
 |x::r=>(match r with|[]=>k x|X::I=>bV)
def MG(b:Bi)(lv:aD)(args:J V)(o:J O)(k:V->J O->Prop):Prop:=match b with
 | .len=>ou args λv=>ZN v o λn=>k (.d (.int n)) o
 | .tuple=>ou args λv=>vK v o λds=>k (.d (.tup ds)) o
 | .list=>ou args λv=>HK v o λds=>dh lv (k (.ref (len o)) (o++[.dl ds])) (k (.d (.list ds)) o)
 | .bytes=>ou args λv=>QM v o λl=>k (.d (.bytes l)) o
 | .min=>Es args λa b=>jk a λa=>jk b λb=>dh (decide (b<a)) (k (.d (.int b)) o) (k (.d (.int a)) o)
 | .any=>ou args λa=>iS a λa=>lD a λds=>HL ds λq=>k (.d (.bool q)) o
 | .sorted=>ou args λa=>iS a λa=>lD a λds=>∃l:J aa,(ds=l.map .int/\l.length<64)/\∀l':J aa,l'.Perm l->l'.Pairwise (·<=·)->k (.d (.list (l'.map .int))) o
 | .ord=>ou args λa=>iS a λa=>sD a λx=>ZO x.cps.toList λc=>k (.d (.int c)) o
 | .chr=>ou args λa=>jk a λi=>(0<=i/\i<=1114111)/\k (.d (.str (az [i.toNat]))) o
 | .bytearray=>MB args (k (.ref (len o)) (o++[.ba []]))
def R2:J D->(J H->Prop)->Prop
 |[],k=>k []
 |x::r,k=>sD x λx=>R2 r λl=>k (x.cps.toList++l)
noncomputable def yC:D->aD
 | .int X=>ah
 | .str X=>ah
 |X=>ak
structure Tb where
 gl:J (ai×V)
 fn:aR->Tr
inductive uJ where
 |fn (a:aR)|MH|MI|MJ|MK|ML|MM|MO
def R3(x:ai):bq uJ:=match jd x (az [97,112,112,101,110,100])with
 |true=>N .MH
 |false=>(match jd x (az [101,120,116,101,110,100])with
  |true=>N .MI
  |false=>(match jd x (az [112,111,112])with
   |true=>N .MJ
   |false=>ao))
def ZP(x:ai):bq uJ:=match jd x (az [97,112,112,101,110,100])with
 |true=>N .MK
 |false=>(match jd x (az [101,120,116,101,110,100])with
  |true=>N .ML
  |false=>ao)
def MP(c:aR)(x:ai):bq uJ:=match GU c x with|some f=>N (.fn f)|none=>ao
def HM(a:V)(x:ai)(o:J O):bq uJ:=match a with
 | .ref h=>(match gw h o with
  |some y=>(match y with
   | .dl X=>R3 x
   | .vl X=>R3 x
   | .ba X=>ZP x
   | .inst c X=>MP c x
   | .cur X=>MP qf x
   |X=>ao)
  |none=>ao)
 | .d y=>(match y with
  | .obj c X=>MP c x
  | .tup X=>(match jd x (az [105,110,100,101,120])with|true=>N .MM|false=>ao)
  | .str X=>(match jd x (az [106,111,105,110])with|true=>N .MO|false=>ao)
  |X=>ao)
 |X=>ao
def MQ(x:O)(k:aR->J (ai×V)->Prop):Prop:=match x with| .inst c fs=>k c fs|X=>bV
def ZQ(x:O)(k:bq V->Prop):Prop:=match x with| .cell ov=>k ov|X=>bV
def aF4(ds:J D)(v:V)(h:H)(o:J O)(k:V->J O->Prop):Prop:=match v with
 | .d x=>ds.length<1048576/\k (.d .none) (eO (.dl (ds++[x])) h o)
 |v=>dh (f9 ds) (k (.d .none) (eO (.vl [v]) h o)) bV
def R4(a:V)(args:J V)(o:J O)(k:V->J O->Prop):Prop:=hO a λh=>ou args λv=>gO h o λy=>(match y with
 | .dl ds=>aF4 ds v h o k
 | .vl vs=>vs.length<1048576/\k (.d .none) (eO (.vl (vs++[v])) h o)
 |X=>bV)
def R5(a:V)(args:J V)(o:J O)(k:V->J O->Prop):Prop:=hO a λh=>ou args λv=>gO h o λy=>HJ y λds=>vK v o λes=>(ds++es).length<=1048576/\k (.d .none) (eO (.dl (ds++es)) h o)
noncomputable def isZ:aa->aD
 | .ofNat n=>bX n 0
 | .negSucc X=>ak
def unc(ds:J D)(k:D->J D->Prop):Prop:=match ds with
 |[]=>bV
 |x::r=>k x r
def R6(a:V)(args:J V)(o:J O)(k:V->J O->Prop):Prop:=hO a λh=>gO h o λy=>HJ y λds=>(match args with
 |[]=>∃l v,ds=l++[v]/\k (.d v) (eO (.dl l) h o)
 |i::r=>MB r (jk i λi=>dh (isZ i) (unc ds λv l=>k (.d v) (eO (.dl l) h o)) bV))
def R7(a:V)(args:J V)(o:J O)(k:V->J O->Prop):Prop:=hO a λh=>gO h o λy=>RU y λl=>ou args λv=>jk v λi=>(0<=i/\i<256/\l.length<1048576)/\k (.d .none) (eO (.ba (l++[i.toNat])) h o)
def R8(a:V)(args:J V)(o:J O)(k:V->J O->Prop):Prop:=hO a λh=>gO h o λy=>RU y λl=>ou args λv=>QM v o λl'=>(l++l').length<=1048576/\k (.d .none) (eO (.ba (l++l')) h o)
def R9(a:V)(args:J V)(o:J O)(k:V->J O->Prop):Prop:=iS a λx=>tD x λds=>ou args λv=>iS v λv=>∃n:H,(ds[n]?=N v/\(∀y∈v::ds,yC y=ah)/\∀m<n,ds[m]?≠N v)/\k (.d (.int n)) o
def R_(a:V)(args:J V)(o:J O)(k:V->J O->Prop):Prop:=iS a λx=>sD x λs=>ou args λv=>dh (f9 s.cps.toList) (Bt v o λds=>R2 ds λl=>l.length<=1048576/\k (.d (.str (az l))) o) bV
def ZR(T:Tb)(g:uJ)(a:V)(args:J V)(o:J O)(k:V->J O->Prop):Prop:=match g with
 | .fn f=>yt (T.fn f) (a::args) o k
 | .MH=>R4 a args o k
 | .MI=>R5 a args o k
 | .MJ=>R6 a args o k
 | .MK=>R7 a args o k
 | .ML=>R8 a args o k
 | .MM=>R9 a args o k
 | .MO=>R_ a args o k
def HN(v:V)(k:J D->Prop):Prop:=iS v λx=>match x with
 | .tup ds=>k ds
 | .list ds=>k ds
 | .bytes l=>k (fJ l)
 | .str x=>x.cps.toList.length<=1048576/\k (x.cps.toList.map λc=>.str (az [c]))
 |X=>bV
def ZT(a:V)(k:J D->Prop):Prop:=jk a λi=>(-4611686018427387904<=i/\i<=1048576)/\k ((kJ i.toNat).map λ(n:H)=>D.int n)
def g9(v:V)(o:J O):bq (J V):=match v with
 | .d x=>(match x with| .list ds=>N (ds.map .d)|X=>ao)
 | .ref h=>(match gw h o with
  |some y=>(match y with
   | .dl ds=>N (ds.map .d)
   | .vl vs=>N vs
   |X=>ao)
  |none=>ao)
 |X=>ao
def slL(s:jA)(k:Prop):Prop:=match s with
 | .L X=>k
 | .C X=>bV
def HO(x:ai)(v:V):Fm->(Fm->Prop)->Prop
 |[],X=>bV
 |p::r,k=>dh (jd x p.1) (slL p.2 (k ((p.1,.L (N v))::r))) (HO x v r λr'=>k (p::r'))
def kZ(x:ai)(v:V)(Z:St)(k:St->Prop):Prop:=jK (cG x Z.m) λs=>match s with
 | .L X=>HO x v Z.m λm=>k ⟨m,Z.o⟩
 | .C h=>gO h Z.o λy=>ZQ y λX=>k ⟨Z.m,eO (.cell (N v)) h Z.o⟩
def nv:J ai->J V->St->(St->Prop)->Prop
 |[],[],Z,k=>k Z
 |x::r,v::t,Z,k=>kZ x v Z λZ=>nv r t Z k
 |X,I,u2,u3=>bV
def forget(fg:J ai):Fm->Fm
 |[]=>[]
 |(y,s)::r=>(y,match s with
  | .L ov=>(match qN y fg with|true=>.L ao|false=>.L ov)
  | .C h=>.C h)::forget fg r
where qN (y:ai):J ai->aD
 |[]=>ak
 |x::r=>match jd x y with|true=>ah|false=>qN y r
def qR(fg:J ai):Fm->J O->J O
 |[],o=>o
 |(X,.L I)::r,o=>qR fg r o
 |(y,.C h)::r,o=>match forget.qN y fg with
  |true=>(match gw h o with
   |some (.cell X)=>qR fg r (eO (.cell ao) h o)
   |X=>qR fg r o)
  |false=>qR fg r o
def j9(fg:J ai)(Z:St):St:=⟨forget fg Z.m,qR fg Z.m Z.o⟩
def jL(ts:J ai)(one:aD)(v:V)(Z:St)(k:St->Prop):Prop:=match one with
 |true=>(match ts with
  |[]=>bV
  |x::r=>(match r with|[]=>kZ x v Z k|X::I=>bV))
 |false=>(match v with
  | .d x=>tD x λds=>nv ts (ds.map .d) Z k
  | .pr x h=>nv ts [.d x,.ref h] Z k
  |X=>bV)
def B5(x:ai)(Z:St)(k:V->Prop):Prop:=jK (cG x Z.m) λs=>match s with
 | .L ov=>jK ov k
 | .C h=>gO h Z.o λy=>ZQ y λov=>jK ov k
def jC(m:Fm):J ai->Fm
 |[]=>[]
 |x::r=>(match cG x m with|some s=>(x,s)::jC m r|none=>jC m r)
def j_(m:Fm):J ai->aD
 |[]=>ah
 |x::r=>(match cG x m with|some (.C X)=>j_ m r|X=>ak)
structure Ev where
 e:PE->St->(V->St->Prop)->Prop
 t:PE->St->(aD->St->Prop)->Prop
 s:J PS->St->(dZ->St->Prop)->Prop
def aF5(v:V)(k:J V->St->Prop)(vs:J V)(Z:St):Prop:=k (v::vs) Z
def kM(m:Fm)(k:V->St->Prop)(v:V)(o:J O):Prop:=k v ⟨m,o⟩
def kO(m:Fm)(k:dZ->St->Prop)(o:J O):Prop:=k .next ⟨m,o⟩
def kN(k:dZ->St->Prop)(Z:St):Prop:=k .next Z
def ZU(a b:St->Prop)(q:aD)(Z:St):Prop:=dh q (a Z) (b Z)
def aF6(k:aD->St->Prop)(q:aD)(Z:St):Prop:=k (!q) Z
def aF7(k:aD->St->Prop)(v:V)(Z:St):Prop:=Aq v λq=>k q Z
def aF8(k:dZ->St->Prop)(v:V)(Z:St):Prop:=k (.ret v) Z
def kEx(k:dZ->St->Prop)(_:V)(Z:St):Prop:=k .next Z
def aF9(x:ai)(k:dZ->St->Prop)(v:V)(Z:St):Prop:=kZ x v Z (kN k)
def aG0(xs:J ai)(k:dZ->St->Prop)(v:V)(Z:St):Prop:=jL xs ak v Z (kN k)
def Ar(e:PE->St->(V->St->Prop)->Prop):J PE->St->(J V->St->Prop)->Prop
 |[],Z,k=>k [] Z
 |x::r,Z,k=>e x Z λv Z=>Ar e r Z (aF5 v k)
def Sa(e:PE->St->(V->St->Prop)->Prop):J (PE×PE)->St->(J (D×D)->St->Prop)->Prop
 |[],Z,k=>k [] Z
 |(a,b)::r,Z,k=>e a Z λv Z=>e b Z λw Z=>iS v λx=>iS w λy=>dh (yC x) (Sa e r Z λvs Z=>k ((x,y)::vs) Z) bV
def MR(e:PE->St->(V->St->Prop)->Prop)(op:W_):J PE->St->(V->St->Prop)->Prop
 |[],X,I=>bV
 |x::r,Z,k=>(match r with
  |[]=>e x Z k
  |X::I=>e x Z λv Z=>Aq v λq=>(match op with
   | .And=>dh q (MR e op r Z k) (k v Z)
   | .Or=>dh q (k v Z) (MR e op r Z k)))
def MS(t:PE->St->(aD->St->Prop)->Prop)(op:W_):J PE->St->(aD->St->Prop)->Prop
 |[],Z,k=>(match op with| .And=>k ah Z| .Or=>k ak Z)
 |x::r,Z,k=>t x Z λq Z=>(match op with
   | .And=>dh q (MS t op r Z k) (k ak Z)
   | .Or=>dh q (k ah Z) (MS t op r Z k))
def Sb(e:PE->St->(V->St->Prop)->Prop)(x:bq PE)(Z:St)(k:bq aa->St->Prop):Prop:=match x with
 |none=>k ao Z
 |some x=>e x Z λv Z=>jk v λi=>k (N i) Z
def As(e:PE->St->(V->St->Prop)->Prop)(x:PE)(Z:St)(k:J D->St->Prop):Prop:=match x with
 | .iz a=>e a Z λv Z=>ZT v λl=>k l Z
 |x=>e x Z λv Z=>HN v λl=>k l Z
def nW(t:PE->St->(aD->St->Prop)->Prop):J PE->St->(aD->St->Prop)->Prop
 |[],Z,k=>k ah Z
 |x::r,Z,k=>t x Z λq Z=>dh q (nW t r Z k) (k ak Z)
def zW(fg:J ai)(fS:H)(next:St->Prop)(k:dZ->St->Prop)(fl:dZ)(Z:St):Prop:=match fl with
 | .next=>rN (jJ fS (j9 fg Z)) next
 | .cont=>rN (jJ fS (j9 fg Z)) next
 | .brk=>k .next (jJ fS (j9 fg Z))
 | .ret v=>k (.ret v) Z
def gT(fg ts:J ai)(one:aD)(fS:H)(body:St->(dZ->St->Prop)->Prop):J D->St->(dZ->St->Prop)->Prop
 |[],Z,k=>k .next Z
 |x::l,Z,k=>jL ts one (.d x) Z λZ=>body Z (zW fg fS (λZ=>gT fg ts one fS body l Z k) k)
def Sd(v:V)(k:J V->J O->Prop)(vs:J V)(o:J O):Prop:=k (v::vs) o
def Se(n:H)(m:Fm)(next:V->J O->Prop)(v:V)(Z:St):Prop:=uH v λv=>lV (nt n v ⟨m,Z.o⟩).o λo=>next v o
def jW(ts:J ai)(one:aD)(m:Fm)(FT:St->(aD->St->Prop)->Prop)(aY:St->(V->St->Prop)->Prop):J D->J O->(J V->J O->Prop)->Prop
 |[],o,k=>k [] o
 |x::l,o,k=>jL ts one (.d x) ⟨m,o⟩ λZ=>FT Z λq Z=>dh q
   (aY Z (Se (len o) m λv o=>jW ts one m FT aY l o (Sd v k)))
   (lV (jJ (len o) ⟨m,Z.o⟩).o λo=>jW ts one m FT aY l o k)
def xd(x1 x2:ai)(m:Fm)(dI:St->(J D->St->Prop)->Prop)(FT:St->(aD->St->Prop)->Prop)(aY:St->(V->St->Prop)->Prop):J D->J V->J O->(J V->J O->Prop)->Prop
 |[],acc,o,k=>k acc o
 |x::l,acc,o,k=>kZ x1 (.d x) ⟨m,o⟩ λZ=>dI Z λds Z=>acc.length+ds.length<=1048576/\jW [x2] ah m FT aY ds Z.o λvs o=>xd x1 x2 m dI FT aY l (acc++vs) o k
def B6(x:ai)(m:Fm)(xe:J O->Prop)(aY:St->(V->St->Prop)->Prop):J V->J O->(J V->J O->Prop)->Prop
 |[],o,k=>k [] o
 |v::l,o,k=>kZ x v ⟨m,o⟩ λZ=>aY Z λw Z=>uH w λw=>lV (nt (len o) w ⟨m,Z.o⟩).o λo=>xe o/\B6 x m xe aY l o λvs o=>k (w::vs) o
def yD(fg:J ai)(x y:ai)(fS:H)(xe:J O->Prop)(body:St->(dZ->St->Prop)->Prop):J V->J V->St->(dZ->St->Prop)->Prop
 |a::r,b::t,Z,k=>nv [x,y] [a,b] Z λZ=>body Z λfl Z=>(match fl with
   | .next=>rN (jJ fS (j9 fg Z)) λZ=>xe Z.o/\yD fg x y fS xe body r t Z k
   |X=>bV)
 |[],X,Z,k=>k .next Z
 |X::I,[],Z,k=>k .next Z
def iC(lv:aD)(vs:J V)(o:J O)(k:V->J O->Prop):Prop:=match nV vs with
 |some ds=>(match lv with
  |true=>k (.ref (len o)) (o++[.dl ds])
  |false=>k (.d (.list ds)) o)
 |none=>k (.ref (len o)) (o++[.vl vs])
def Sf(fl:ai)(v:V)(o:J O)(k:J O->Prop):Prop:=hO v λh=>gO h o λy=>MQ y λX fs=>jK (cG fl fs) λw=>hO w λj=>HH (.ref j) o λx o=>iS x λx=>gO h o λy=>MQ y λc fs=>jK (cG fl fs) λw=>hO w λi=>dh (bX i j) (lV (eO (.inst c (pU fl (.d x) fs)) h o) k) bV
def gD(x:D)(k:aR->Prop):Prop:=match x with| .glob a=>k a|X=>bV
noncomputable def mH(ts:J ai):Fm:=ts.map λx=>(x,.L ao)
def ZV(T:Tb)(ih:Ev)(x:PE)(Z:St)(k:V->St->Prop):Prop:=match x with
 | .cI i=>k (.d (.int i)) Z
 | .cS x=>k (.d (.str x)) Z
 | .cN=>k (.d .none) Z
 | .cB b=>k (.d (.bool b)) Z
 | .Y x=>B5 x Z λv=>k v Z
 | .gl i=>jK (uI T.gl i) λp=>k p.2 Z
 | .bin op a b=>ih.e a Z λa Z=>ih.e b Z λb Z=>RV op a b Z.o λv=>k v Z
 | .neg a=>ih.e a Z λa Z=>jk a λi=>k (.d (.int (-i))) Z
 | .gP op l=>MR ih.e op l Z k
 | .ite t a b=>ih.t t Z (ZU (λZ=>ih.e a Z k) (λZ=>ih.e b Z k))
 | .cmp op a b=>ih.e a Z λa Z=>ih.e b Z λb Z=>tE op a b Z.o λq=>k (.d (.bool q)) Z
 | .o4 o2 a b c=>ih.e a Z λa Z=>ih.e b Z λb Z=>tE .LtE a b Z.o λq=>dh q
   (ih.e c Z λc Z=>tE o2 b c Z.o λq=>k (.d (.bool q)) Z) (k (.d (.bool ak)) Z)
 | .tup l=>Ar ih.e l Z λvs Z=>dh (nJ (len vs) 1000) (RT vs λv=>k v Z) bV
 | .lst lv l=>Ar ih.e l Z λvs Z=>dh (nJ (len vs) 1000) (iC lv vs Z.o λv o=>k v ⟨Z.m,o⟩) bV
 | .z5 l=>Sa ih.e l Z λes Z=>MF es λv=>k v Z
 | .sub a i=>ih.e a Z λa Z=>ih.e i Z λi Z=>RY a i Z.o λv=>k v Z
 | .jB a i=>ih.e a Z λa Z=>ih.e i Z λi Z=>RZ a i Z.o λv=>k v Z
 | .ur a lo hi=>ih.e a Z λa Z=>Sb ih.e lo Z λlo Z=>Sb ih.e hi Z λhi Z=>R0 a lo hi λv=>k v Z
 | .aG a x=>ih.e a Z λa Z=>R1 a x Z.o λv=>k v Z
 | .call f l=>ih.e f Z λf Z=>Ar ih.e l Z λvs Z=>iS f λx=>gD x λa=>yt (T.fn a) vs Z.o (kM Z.m k)
 | .bi b lv l=>Ar ih.e l Z λvs Z=>MG b lv vs Z.o (kM Z.m k)
 | .aV a x l=>ih.e a Z λa Z=>jK (HM a x Z.o) λg=>Ar ih.e l Z λvs Z=>ZR T g a vs Z.o (kM Z.m k)
 | .comp lv cs ts one dI bZ aY=>dh (j_ Z.m cs) (As ih.e dI Z λds Z=>dh (j_ Z.m cs)
   (jW ts one (mH ts++jC Z.m cs) (nW ih.t bZ) (ih.e aY) ds Z.o λvs o=>iC lv vs o (kM Z.m k)) bV) bV
 | .qI lv cs x1 uw x2 pV bZ aY=>dh (j_ Z.m cs) (As ih.e uw Z λds Z=>dh (j_ Z.m cs)
   (xd x1 x2 (mH [x1,x2]++jC Z.m cs) (As ih.e pV) (nW ih.t bZ) (ih.e aY) ds [] Z.o λvs o=>iC lv vs o (kM Z.m k)) bV) bV
 | .GC lv cs x dI aY=>dh (j_ Z.m cs) (ih.e dI Z λva Z=>jK (g9 va Z.o) λvs=>dh (j_ Z.m cs)
   (nJ (len vs) 1000=ah/\B6 x (mH [x]++jC Z.m cs) (λo=>g9 va o=N vs) (ih.e aY) vs Z.o λvs o=>iC lv vs o (kM Z.m k)) bV) bV
 | .fz e=>ih.e e Z λv Z=>HH v Z.o (kM Z.m k)
 | .sV e x=>ih.e e Z λv Z=>Sf x v Z.o λo=>k v ⟨Z.m,o⟩
 | .not X=>bV
 | .iz X=>bV
def Ys(ih:Ev)(x:PE)(Z:St)(k:aD->St->Prop):Prop:=match x with
 | .not a=>ih.t a Z (aF6 k)
 | .gP op l=>MS ih.t op l Z k
 | .cmp op a b=>ih.e a Z λa Z=>ih.e b Z λb Z=>tE op a b Z.o λq=>k q Z
 | .o4 o2 a b c=>ih.e a Z λa Z=>ih.e b Z λb Z=>tE .LtE a b Z.o λq=>dh q
   (ih.e c Z λc Z=>tE o2 b c Z.o λq=>k q Z) (k ak Z)
 |x=>ih.e x Z (aF7 k)
def Sg(a:V)(x:ai)(v:V)(o:J O)(k:J O->Prop):Prop:=hO a λh=>gO h o λy=>MQ y λc fs=>dh (vJ c x) (dh (nJ (len fs) 100) (k (eO (.inst c (pU x v fs)) h o)) bV) bV
noncomputable def Sh(x:D):H->J D->J D
 |X,[]=>[]
 |0,X::r=>x::r
 |n+1,y::r=>y::Sh x n r
def Si(a i v:V)(o:J O)(k:J O->Prop):Prop:=hO a λh=>jk i λi=>iS v λx=>gO h o λy=>HJ y λds=>(match i with
 | .ofNat n=>n<ds.length/\k (eO (.dl (Sh x n ds)) h o)
 | .negSucc n=>dh (bX n 0) (∃l y,ds=l++[y]/\k (eO (.dl (l++[x])) h o)) bV)
def ZW(fg:J ai)(fS:H)(bG:H->St->Prop)(n:H)(k:dZ->St->Prop)(fl:dZ)(Z:St):Prop:=match fl with
 | .next=>∃m,m<n/\bG m (jJ fS (j9 fg Z))
 | .cont=>∃m,m<n/\bG m (jJ fS (j9 fg Z))
 | .brk=>k .next Z
 | .ret v=>k (.ret v) Z
def aG1(fg:J ai)(fS:H)(body:St->(dZ->St->Prop)->Prop)(bG:H->St->Prop)(n:H)(k:dZ->St->Prop)(q:aD)(Z:St):Prop:=dh q (body Z (ZW fg fS bG n k)) (k .next Z)
def Sj(T:Tb)(ih:Ev)(s:PS)(Z:St)(k:dZ->St->Prop):Prop:=match s with
 | .ret e=>ih.e e Z (aF8 k)
 | .ex e=>ih.e e Z (kEx k)
 | .asg x e=>ih.e e Z (aF9 x k)
 | .pW xs e=>ih.e e Z (aG0 xs k)
 | .vF xs es=>Ar ih.e es Z λvs Z=>dh (nJ (len vs) 1000) (nv xs.reverse vs.reverse Z λZ=>k .next Z) bV
 | .dm a x e=>ih.e e Z λv Z=>ih.e a Z λa Z=>Sg a x v Z.o (kO Z.m k)
 | .x_ a i e=>ih.e e Z λv Z=>ih.e a Z λa Z=>ih.e i Z λi Z=>Si a i v Z.o (kO Z.m k)
 | .aug x e=>B5 x Z λa=>ih.e e Z λb Z=>jk a λa=>jk b λb=>kZ x (.d (.int (a+b))) Z λZ=>k .next Z
 | .ite t a b=>ih.t t Z (ZU (λZ=>ih.s a Z k) (λZ=>ih.s b Z k))
 | .for fg ts one dI body=>As ih.e dI Z λds Z=>tB (len Z.o) λfS=>rN (j9 fg Z) λZ=>gT fg ts one fS (ih.s body) ds Z k
 | .DP fg x y a b body=>ih.e a Z λva Z=>ih.e b Z λvb Z=>jK (g9 va Z.o) λvs=>jK (g9 vb Z.o) λws=>tB (len Z.o) λfS=>rN (j9 fg Z) λZ=>yD fg x y fS (λo=>g9 va o=N vs/\g9 vb o=N ws) (ih.s body) vs ws Z k
 | .sW fg t body=>tB (len Z.o) λfS=>∃(bG:H->St->Prop)(n:H),bG n (jJ fS (j9 fg Z))/\
   ∀n b9,bG n b9->ih.t t b9 (aG1 fg fS (ih.s body) bG n k)
 | .raise=>bV
def yE(bM:St->(dZ->St->Prop)->Prop)(k:dZ->St->Prop)(fl:dZ)(Z:St):Prop:=match fl with
 | .next=>rN Z λZ=>bM Z k
 | .brk=>k .brk Z
 | .cont=>k .cont Z
 | .ret v=>k (.ret v) Z
def l8(T:Tb)(ih:Ev):J PS->St->(dZ->St->Prop)->Prop
 |[],Z,k=>k .next Z
 |s::r,Z,k=>Sj T ih s Z (yE (l8 T ih r) k)
noncomputable def vc(T:Tb)(n:H):Ev:=Nat.rec ⟨λX I u2=>bV,λX I u2=>bV,λX I u2=>bV⟩ (λX ih=>⟨ZV T ih,Ys ih,l8 T ih⟩) n
def yF(b:J (ai×V)):J (ai×cJ)->H->Fm
 |[],X=>[]
 |(x,k)::r,h=>(match k with
  | .local=>(x,.L (cG x b))::yF b r h
  | .cell=>(x,.C h)::yF b r (vo h)
  |X=>yF b r h)
def vL(b:J (ai×V)):J (ai×cJ)->J O
 |[]=>[]
 |(x,k)::r=>(match k with
  | .cell=>.cell (cG x b)::vL b r
  |X=>vL b r)
noncomputable def B7:J (ai×bq D)->J V->bq (J (ai×V))
 |[],a=>(match a with|[]=>N []|X::I=>ao)
 |p::r,a=>(match a with
  |v::t=>(match B7 r t with|some l=>N ((p.1,v)::l)|none=>ao)
  |[]=>(match p.2 with
   |some d=>(match B7 r []with|some l=>N ((p.1,.d d)::l)|none=>ao)
   |none=>ao))
def mJ(n:H)(k:V->J O->Prop)(fl:dZ)(Z:St):Prop:=match fl with
 | .ret v=>B4 n v Z.o k
 | .next=>B4 n (.d .none) Z.o k
 |X=>bV
def ZX(bM:St->(dZ->St->Prop)->Prop)(ps:J (ai×bq D))(nms:J (ai×cJ)):Tr:=λargs o k=>match B7 ps args with
 |some b=>tB (len o) λn=>rN ⟨yF b nms n,o++vL b nms⟩ λZ=>bM Z (mJ n k)
 |none=>bV
section
theorem ZY:∀a b:J H,DO a b=ah↔a=b:=by
 intro a;induction a with
 |nil=>intro b;cases b;exact⟨λX=>rfl,λX=>rfl⟩;exact⟨gr,List.noConfusion rfl∘heq_of_eq⟩
 |cons a r ih=>
  intro b;induction b using eT with
  |nil=>exact⟨nofun,nofun⟩
  |cons b t=>
   have go:∀q,bX a b=q->((match q with|true=>DO r t|false=>ak)=ah↔a::r=b::t):=λq e=>by
    cases q
    ·exact⟨nofun,λh=>absurd (PB h).1 (PV e)⟩
    ·exact(ih t).trans ⟨λh=>mV e▸h▸rfl,λh=>(PB h).2⟩
   exact go _ rfl
theorem rP(h:jd x y=ah):x=y:=by obtain⟨⟨a⟩⟩:=x;obtain⟨⟨b⟩⟩:=y;exact(ZY a b).mp h▸rfl
theorem MT(x:ai):jd x x=ah:=(ZY _ _).mpr rfl
theorem Sk(h:jd x y=ak):x≠y:=λe=>gr (h.symm.trans ((bQ (jd x) e.symm).trans (MT x)))
theorem Sl(x y:ai):jd x y=(x==y):=PW.mpr ⟨λh=>rP h▸qy x,λh=>eq_of_beq h▸MT x⟩
theorem tF{α:Type}(x y:ai)(a:α)(r:J (ai×α)):cG x ((y,a)::r)=if x=y then N a else cG x r:=by
 have go:∀q,jd x y=q->(match q with|true=>N a|false=>cG x r)=if x=y then N a else cG x r:=λq e=>by
  cases q
  ·exact(cF (Sk e)).symm
  ·exact(dP (rP e)).symm
 exact go _ rfl
theorem Et{α:Type}{x y:ai}{a:α}{t:J (ai×α)}(h:x=y):cG x ((y,a)::t)=N a:=(tF ..).trans (dP h)
theorem yG{α:Type}{x y:ai}{a:α}{t:J (ai×α)}{o}(h:x≠y)(e:cG x t=o):cG x ((y,a)::t)=o:=((tF ..).trans (cF h)).trans e
theorem B8{α:Type}{x y:ai}{a:α}{t:J (ai×α)}{P:bq α->Prop}(h:x=y->P (N a))(g:x≠y->P (cG x t)):P (cG x ((y,a)::t)):=
 (cp7 (x=y)).elim (λq=>(Et q).symm▸h q) λq=>(yG q rfl).symm▸g q
theorem ZZ{α β:Type}(g:α->β)(x:ai)(l:J (ai×α)):cG x (l.map λp=>(p.1,g p.2))=(cG x l).map g:=by
 induction l with
 |nil=>rfl
 |cons p l ih=>exact B8 (P:=λo=>o=(cG x ((p.1,p.2)::l)).map g) (λe=>(bQ (Dj g) (Et e)).symm) λe=>ih.trans (bQ (Dj g) (yG e rfl)).symm
theorem Au{α:Type}(x:ai)(l:J (ai×α)):cG x l=l.lookup x:=by
 induction l with
 |nil=>rfl
 |cons p r ih=>exact B8 (P:=λo=>o=((p.1,p.2)::r).lookup x) (λe=>by rw[Be,e,qy]) λe=>by rw[Be,Kf e];exact ih
theorem Eu{α:Type}{x y:ai}{v a:α}{r:J (ai×α)}{P:J (ai×α)->Prop}(h:x=y->P ((y,v)::r))(g:x≠y->P ((y,a)::pU x v r)):P (pU x v ((y,a)::r)):=by
 have go:∀q,jd x y=q->P (match q with|true=>(y,v)::r|false=>(y,a)::pU x v r):=λq e=>by
  cases q
  ·exact g (Sk e)
  ·exact h (rP e)
 exact go _ rfl
abbrev bN:=aR->bq fH
def iF(F b4:bN):Prop:=∀a o,F a=N o->b4 a=N o
theorem iF.refl(F:bN):iF F F:=λX I e=>e
theorem iF.trans{F b4 eE:bN}(x:iF F b4)(y:iF b4 eE):iF F eE:=λa o e=>y a o (x a o e)
abbrev bP:=J (aR×aR)
def f_(r r':bP):Prop:=∀(i:H)(p:aR×aR),r[i]?=N p->r'[i]?=N p
theorem f_.refl(r:bP):f_ r r:=λX I e=>e
theorem f_.trans{r r' o7:bP}(x:f_ r r')(y:f_ r' o7):f_ r o7:=λi p e=>y i p (x i p e)
theorem f_.app(r r':bP):f_ r (r++r'):=λi p e=>by have:=(vq.mp e).1;rw[PX this];exact e
theorem f_.nil(r:bP):f_ [] r:=λX I e=>by simp at e
inductive L2{α β:Type}(R:α->β->Prop):J α->J β->Prop
 |nil:L2 R [] []
 |cons {v w vs ws}:R v w->L2 R vs ws->L2 R (v::vs) (w::ws)
inductive Z0{α β:Type}(R:α->β->Prop)(a:α)(l:J α):J β->Prop
 |mk {b m}:R a b->L2 R l m->Z0 R a l (b::m)
section
variable{α β γ:Type}{R bM:α->β->Prop}{l:J α}{m:J β}
theorem L2.inv{a}(h:L2 R (a::l) m):Z0 R a l m:=by cases h with|cons x y=>exact⟨x,y⟩
theorem L2.HP(h:L2 R [] m):m=[]:=by cases h;rfl
theorem L2.one{a}(h:L2 R [a] m):∃b,m=[b]/\R a b:=h.inv.rec λx z=>⟨_,bQ _ z.HP,x⟩
theorem L2.fL{bM:γ->β->Prop}{g:α->γ}(h:L2 R l m):(∀a∈l,∀b,R a b->bM (g a) b)->L2 bM (l.map g) m:=
 h.rec (λX=>.nil) λa X ih k=>.cons (k _ (.head _) _ a) (ih λa m=>k a (.tail _ m))
theorem L2.imp(h:L2 R l m)(k:∀a b,R a b->bM a b):L2 bM l m:=h.rec .nil λa X ih=>.cons (k _ _ a) ih
theorem L2.length(h:L2 R l m):l.length=m.length:=h.rec rfl λX I ih=>bQ (·+1) ih
theorem L2.append{l' m'}(h:L2 R l m)(g:L2 R l' m'):L2 R (l++l') (m++m'):=h.rec g λa X ih=>.cons a ih
theorem L2.reverse(h:L2 R l m):L2 R l.reverse m.reverse:=by
 induction h with
 |nil=>exact .nil
 |cons a X ih=>rw[Dk,Dk];exact ih.append (.cons a .nil)
theorem L2.get(h:L2 R l m):∀{i:H}{v},l[i]?=N v->∃w,m[i]?=N w/\R v w:=by
 induction h with
 |nil=>exact λe=>nomatch e
 |cons a X ih=>exact λ{i v} e=>by cases i with|zero=>exact⟨_,rfl,fU e▸a⟩|succ i=>exact ih e
theorem L2.take(n:H)(h:L2 R l m):L2 R (l.take n) (m.take n):=by
 induction h generalizing n with
 |nil=>cases n<;>exact .nil
 |cons a X ih=>cases n;exact .nil;exact .cons a (ih _)
theorem L2.drop(n:H)(h:L2 R l m):L2 R (l.drop n) (m.drop n):=by
 induction h generalizing n with
 |nil=>cases n<;>exact .nil
 |cons a h ih=>cases n;exact .cons a h;exact ih _
theorem L2.erase(h:L2 R l m):L2 R (l.eraseIdx n) (m.eraseIdx n):=by
 induction h generalizing n with
 |nil=>exact .nil
 |cons a h ih=>cases n;exact h;exact .cons a ih
end
inductive EF{α:Type}(R:α->aA->Prop):ai×α->jN->Prop
 |mk {x v t h w}:R v w->EF R (x,v) ⟨h,.str x t,w⟩
theorem EF.mono{α β:Type}{R:α->aA->Prop}{bM:β->aA->Prop}{g:α->β}{p e}(k:∀b,R p.2 b->bM (g p.2) b)(h:EF R p e):EF bM (p.1,g p.2) e:=h.rec (motive:=λp e X=>(∀b,R p.2 b->bM (g p.2) b)->EF bM (p.1,g p.2) e) (λr k=>.mk (k _ r)) k
inductive DS(F:bN)(P:D->aA->Prop):D->aA->Prop
 |none:DS F P .none .none
 |bool {b}:DS F P (.bool b) (.bool b)
 |int {i t}:DS F P (.int i) (.int i t)
 |str {x t}:DS F P (.str x) (.str x t)
 |bytes {b:cT iW} {t}:b.size<=1048576->DS F P (.bytes (b.toList.map iX)) (.bytes b t)
 |glob {a}:DS F P (.glob a) (.ref a)
 |tup {a ws n vs}:F a=N ⟨.type "tuple",cp8,.seq ws n,#[]⟩->L2 P vs ws.toList->vs.length<=1048576->DS F P (.tup vs) (.ref a)
 |list {a ws n vs}:F a=N ⟨.type "list",cp8,.seq ws n,#[]⟩->L2 P vs ws.toList->vs.length<=1048576->DS F P (.list vs) (.ref a)
 |obj {a c d es n sl fs}:F a=N ⟨.ref c,N d,.plain,sl⟩->F d=N (mY es n)->L2 (EF P) fs es->((fs.map (·.1)).Nodup/\∀x∈fs.map (·.1),vJ c x=ah)->DS F P (.obj c fs) (.ref a)
section
variable{F b4:bN}{P Q:D->aA->Prop}{x:D}{u:aA}
theorem DS.mono(k:∀x u,P x u->Q x u)(h:DS F P x u):DS F Q x u:=
 h.rec .none .bool .int .str .bytes .glob (λe z l=>.tup e (z.imp k) l) (λe z l=>.list e (z.imp k) l) λe d z n=>.obj e d (z.imp λX I=>EF.mono (g:=id) λX=>k _ _) n
theorem DS.sub(k:iF F b4)(h:DS F P x u):DS b4 P x u:=
 h.rec .none .bool .int .str .bytes .glob (λe z l=>.tup (k _ _ e) z l) (λe z l=>.list (k _ _ e) z l) λe d z n=>.obj (k _ _ e) (k _ _ d) z n
def DR(F:bN)(x:D)(u:aA):Prop:=∀P:D->aA->Prop,(∀x u,DS F P x u->P x u)->P x u
theorem DR.mk(h:DS F (DR F) x u):DR F x u:=λP k=>k _ _ (h.mono λX I r=>r P k)
theorem DR.out(h:DR F x u):DS F (DR F) x u:=h _ λX I s=>s.mono λX I=>DR.mk
theorem DR.mono(k:iF F b4)(h:DR F x u):DR b4 x u:=h _ λX I s=>.mk (s.sub k)
theorem DR.none:DR F .none .none:=.mk .none
theorem DR.bool{b}:DR F (.bool b) (.bool b):=.mk .bool
theorem DR.int{i t}:DR F (.int i) (.int i t):=.mk .int
theorem DR.str{i t}:DR F (.str i) (.str i t):=.mk .str
theorem DR.glob{a}:DR F (.glob a) (.ref a):=.mk .glob
theorem DR.bytes{b:cT iW}{t}(h:b.size<=1048576):DR F (.bytes (b.toList.map iX)) (.bytes b t):=.mk (.bytes h)
end
abbrev eU(F:bN):=L2 (DR F)
abbrev Sn(F:bN):=L2 (EF (DR F))
noncomputable abbrev iG(ws:cT aA)(n:H):fH:=⟨.type "list",ao,.seq ws n,#[]⟩
noncomputable abbrev lJ(ws:cT aA)(n:H):fH:=⟨.type "tuple",ao,.seq ws n,#[]⟩
theorem DR.tup{F:bN}{a ws n vs}(e:F a=N (lJ ws n))(z:eU F vs ws.toList)(l:vs.length<=1048576):DR F (.tup vs) (.ref a):=.mk (.tup e z l)
theorem DR.list{F:bN}{a ws n vs}(e:F a=N (iG ws n))(z:eU F vs ws.toList)(l:vs.length<=1048576):DR F (.list vs) (.ref a):=.mk (.list e z l)
theorem DR.obj{F:bN}{a c d es n sl fs}(e:F a=N ⟨.ref c,N d,.plain,sl⟩)(g:F d=N (mY es n))(z:Sn F fs es)(h:(fs.map (·.1)).Nodup/\∀x∈fs.map (·.1),vJ c x=ah):DR F (.obj c fs) (.ref a):=.mk (.obj e g z h)
theorem L2.mono{F b4:bN}{vs ws}(h:eU F vs ws)(k:iF F b4):eU b4 vs ws:=L2.imp h λX I=>DR.mono k
inductive KE{κ:Type}(is:κ->aA->aD)(hs:κ->aa)(F:bN):κ×D->jN->Prop
 |mk {x v k u}:is x k=ah->DR F v u->KE is hs F (x,v) ⟨hs x,k,u⟩
abbrev So(F:bN):=L2 (KE Value.isInt Xp F)
abbrev Sp(w:bU)(F:bN):=L2 (KE Value.isStrOf (hashStr w) F)
inductive VR(w:bU)(r:bP)(F:bN):V->aA->Prop
 |d {x v}:DR F x v->VR w r F (.d x) v
 |ref {h p}:r[h]?=N p->VR w r F (.ref h) (.ref p.1)
 |pr {a x h p n u}:F a=N (lJ #[u,.ref p.1] n)->DR F x u->r[h]?=N p->VR w r F (.pr x h) (.ref a)
 |nN {a es n vs}:F a=N (mY es n)->So F vs es->(a==xX)=ak->VR w r F (.nN vs) (.ref a)
 |uq {a es n vs}:F a=N (mY es n)->Sp w F vs es->(a==xX)=ak->VR w r F (.uq vs) (.ref a)
abbrev gh(w:bU)(r:bP)(F:bN):=L2 (VR w r F)
abbrev mK(w:bU)(r:bP)(F:bN):=L2 (EF (VR w r F))
def oz(f:H->H)(hs:J H)(r r':bP):Prop:=∀h∈hs,∀p,r[h]?=N p->r'[f h]?=N p
theorem oz.at{α:Type}{f r r'}{g:α->J H}{l:J α}{a:α}(q:oz f (l.flatMap g) r r')(m:a∈l):oz f (g a) r r':=λh hm=>q h (rz.mpr ⟨a,m,hm⟩)
theorem aG2(f:H->H)(l):(BZ f l).length=l.length:=cO _
theorem VR.HQ{F:bN}{x u}(h:VR w r F (.d x) u):DR F x u:=by cases h with|d h=>exact h
section
variable{w:bU}{f:H->H}{r r':bP}{F b4:bN}
theorem KE.mono{κ:Type}{is:κ->aA->aD}{hs:κ->aa}(k:iF F b4){p e}(h:KE is hs F p e):KE is hs b4 p e:=h.rec λi d=>.mk i (d.mono k)
theorem VR.fL(k:iF F b4){v u}(q:oz f v.refs r r')(h:VR w r F v u):VR w r' b4 (v.fL f) u:=
 h.rec (motive:=λv u X=>oz f v.refs r r'->VR w r' b4 (v.fL f) u) (λx X=>.d (x.mono k)) (λe q=>.ref (q _ (.head _) _ e)) (λe d z q=>.pr (k _ _ e) (d.mono k) (q _ (.head _) _ z))
  (λe z n X=>.nN (k _ _ e) (z.imp λX I=>KE.mono k) n) (λe z n X=>.uq (k _ _ e) (z.imp λX I=>KE.mono k) n) q
theorem L2.Z1(k:iF F b4){v u}(q:oz f (Al v) r r')(h:gh w r F v u):gh w r' b4 (BZ f v) u:=L2.fL h λX m I z=>z.fL k (q.at m)
theorem L2.B0(k:iF F b4){v u}(q:oz f (RN v) r r')(h:mK w r F v u):mK w r' b4 (B0 f v) u:=L2.fL h λX m I z=>z.mono λX z=>z.fL k (q.at (g:=λp=>p.2.refs) m)
end
theorem V.vM(v:V):v.fL id=v:=by cases v<;>rfl
theorem aG3(v):BZ id v=v:=ak5 V.vM v
theorem aG4(v):B0 id v=v:=ak5 (λp=>bQ (p.1,·) (V.vM p.2)) v
theorem f_.fL{r r':bP}(q:f_ r r')(hs:J H):oz id hs r r':=λh X p e=>q h p e
theorem VR.mono{w:bU}{r r':bP}{F b4:bN}(q:f_ r r')(k:iF F b4){v u}(h:VR w r F v u):VR w r' b4 v u:=v.vM▸VR.fL (f:=id) k (q.fL _) h
theorem L2.Ew{w:bU}{r r':bP}{F b4:bN}{v u}(h:gh w r F v u)(q:f_ r r')(k:iF F b4):gh w r' b4 v u:=L2.imp h λX I=>VR.mono q k
theorem Z2:∀{ds},nV vs=N ds->vs=ds.map .d:=by
 induction vs with
 |nil=>exact λe=>fU e▸rfl
 |cons v vs ih=>
  intro ds e;induction v with
  |d x=>
   have go:∀o,nV vs=o->(match o with|some ds=>N (x::ds)|none=>ao)=N ds->V.d x::vs=ds.map .d:=λo g=>by
    induction o with
    |none=>exact nofun
    |some l=>exact λe=>fU e▸bQ (_::·) (ih g)
   exact go _ rfl e
  |_=>exact nomatch e
theorem L2.ofD{w:bU}{r:bP}{F:bN}{ds ws}(h:eU F ds ws):gh w r F (ds.map .d) ws:=L2.fL h λX I u2=>.d
theorem L2.toD{w:bU}{r:bP}{F:bN}{ds:J D}:∀{ws},gh w r F (ds.map .d) ws->eU F ds ws:=by
 induction ds with
 |nil=>exact λh=>h.HP▸ .nil
 |cons d ds ih=>exact λh=>(L2.inv (l:=ds.map V.d) h).rec (motive:=λws X=>eU F (d::ds) ws) λa z=>.cons a.HQ (ih z)
theorem L2.nV{w:bU}{r:bP}{F:bN}{vs ws ds}(h:gh w r F vs ws)(e:nV vs=N ds):eU F ds ws:=L2.toD (Z2 e▸h)
section
variable{w:bU}{r:bP}{F:bN}{a:V}{x:D}{u:aA}
theorem vO{P:Prop}{a b:Prop}(h:dh q a b)(g1:q=ah->a->P)(g2:q=ak->b->P):P:=by cases q;exact g2 rfl h;exact g1 rfl h
theorem l9{a:Prop}(h:dh q a bV):q=ah/\a:=by cases q;exact h.elim;exact⟨rfl,h⟩
theorem nX{P:Prop}{α:Type}{o:bq α}{k:α->Prop}(h:jK o k)(g:∀x,o=N x->k x->P):P:=by cases o;exact h.elim;exact g _ rfl h
theorem o8{P:Prop}{i:H}{o:J O}{k:O->Prop}(h:gO i o k)(g:∀x,gw i o=N x->k x->P):P:=nX (o:=gw i o) h g
def Z3(F:bN)(P:aA->Prop)(x:D):Prop:=match x with
 | .none=>P .none
 | .bool b=>P (.bool b)
 | .int i=>∀t,P (.int i t)
 | .str x=>∀t,P (.str x t)
 | .bytes l=>∀(b:cT iW) t,l=b.toList.map iX->b.size<=1048576->P (.bytes b t)
 | .tup ds=>∀l ws n,F l=N (lJ ws n)->eU F ds ws.toList->ds.length<=1048576->P (.ref l)
 | .list ds=>∀l ws n,F l=N (iG ws n)->eU F ds ws.toList->ds.length<=1048576->P (.ref l)
 | .obj c fs=>∀a d es n sl,F a=N ⟨.ref c,N d,.plain,sl⟩->F d=N (mY es n)->Sn F fs es->((fs.map (·.1)).Nodup/\∀x∈fs.map (·.1),vJ c x=ah)->P (.ref a)
 | .glob a=>P (.ref a)
@[elab_as_elim] theorem DR.e{P:aA->Prop}(h:DR F x u)(k:Z3 F P x):P u:=
 h.out.rec (motive:=λx u X=>Z3 F P x->P u) id id (λk=>k _) (λk=>k _) (λl k=>k _ _ rfl l) id (λa b c k=>k _ _ _ a b c) (λa b c k=>k _ _ _ a b c) (λa b c d k=>k _ _ _ _ _ a b c d) k
def Z4(w:bU)(r:bP)(F:bN)(P:aA->Prop)(v:V):Prop:=match v with
 | .d x=>∀u,DR F x u->P u
 | .ref i=>∀p,r[i]?=N p->P (.ref p.1)
 | .pr x h=>∀a p n u,F a=N (lJ #[u,.ref p.1] n)->DR F x u->r[h]?=N p->P (.ref a)
 | .nN vs=>∀a es n,F a=N (mY es n)->So F vs es->(a==xX)=ak->P (.ref a)
 | .uq vs=>∀a es n,F a=N (mY es n)->Sp w F vs es->(a==xX)=ak->P (.ref a)
@[elab_as_elim] theorem VR.e{P:aA->Prop}(h:VR w r F a u)(k:Z4 w r F P a):P u:=
 h.rec (motive:=λv u X=>Z4 w r F P v->P u) (λh k=>k _ h) (λh k=>k _ h) (λa b c k=>k _ _ _ _ a b c) (λa b c k=>k _ _ _ a b c) (λa b c k=>k _ _ _ a b c) k
theorem jD{P:Prop}(y:VR w r F a u)(h:iS a k)(g:∀x,DR F x u->k x->P):P:=by
 induction a with
 |d x=>exact g _ y.HQ h
 |_=>exact h.elim
@[elab_as_elim] theorem Z5{P:aA->Prop}(y:DR F x u)(h:iD x k)(g:∀i t,k i->P (.int i t)):P u:=by
 induction x using Wm.D.casesOn with
 |int i=>exact y.e λt=>g i t h
 |_=>exact h.elim
@[elab_as_elim] theorem jX{P:aA->Prop}(y:VR w r F a u)(h:jk a k)(g:∀i t,k i->P (.int i t)):P u:=jD y h λX y h=>Z5 y h g
@[elab_as_elim] theorem Ex{P:aA->Prop}(y:DR F x u)(h:sD x k)(g:∀i t,k i->P (.str i t)):P u:=by
 induction x using Wm.D.casesOn with
 |str i=>exact y.e λt=>g i t h
 |_=>exact h.elim
@[elab_as_elim] theorem B9{P:aA->Prop}(y:DR F x u)(h:tD x k)(g:∀ds l ws n,k ds->F l=N (lJ ws n)->eU F ds ws.toList->ds.length<=1048576->P (.ref l)):P u:=by
 induction x using Wm.D.casesOn with
 |tup ds=>exact y.e λl ws n=>g ds l ws n h
 |_=>exact h.elim
@[elab_as_elim] theorem Sq{P:aA->Prop}(y:DR F x u)(h:lD x k)(g:∀ds l ws n,k ds->F l=N (iG ws n)->eU F ds ws.toList->ds.length<=1048576->P (.ref l)):P u:=by
 induction x using Wm.D.casesOn with
 |list ds=>exact y.e λl ws n=>g ds l ws n h
 |_=>exact h.elim
@[elab_as_elim] theorem Z6{P:aA->Prop}(y:DR F x u)(h:bD x k)(g:∀(b:cT iW) t,k (b.toList.map iX)->b.size<=1048576->P (.bytes b t)):P u:=by
 induction x using Wm.D.casesOn with
 |bytes l=>exact y.e λb t e=>g b t (e▸h)
 |_=>exact h.elim
@[elab_as_elim] theorem Av{P:aA->Prop}(y:VR w r F a u)(h:hO a k)(g:∀i p,r[i]?=N p->k i->P (.ref p.1)):P u:=by
 cases y with
 |ref e=>exact g _ _ e h
 |_=>exact h.elim
@[elab_as_elim] theorem Ss{P:O->Prop}{x:O}(h:HJ x k)(g:∀ds,k ds->P (.dl ds)):P x:=by
 induction x with
 |dl ds=>exact g _ h
 |_=>exact h.elim
@[elab_as_elim] theorem Z7{P:O->Prop}{x:O}(h:RU x k)(g:∀ds,k ds->P (.ba ds)):P x:=by
 induction x with
 |ba ds=>exact g _ h
 |_=>exact h.elim
@[elab_as_elim] theorem Su{P:O->Prop}{x:O}(h:MQ x k)(g:∀c fs,k c fs->P (.inst c fs)):P x:=by
 induction x with
 |inst c fs=>exact g _ _ h
 |_=>exact h.elim
@[elab_as_elim] theorem qS{P:J aA->Prop}{k:V->Prop}{vs:J V}{ws:J aA}(z:gh w r F vs ws)(h:ou vs k)(g:∀v u,VR w r F v u->k v->P [u]):P ws:=
 z.rec (motive:=λvs ws X=>ou vs k->(∀v u,VR w r F v u->k v->P [u])->P ws) (λh=>h.elim) (λy z X=>z.rec (motive:=λvs ws X=>ou (_::vs) k->(∀v u,VR w r F v u->k v->P [u])->P (_::ws)) (λh g=>g _ _ y h) λX I u2 h=>h.elim) h g
@[elab_as_elim] theorem Z8{P:J aA->Prop}{k:Prop}(z:gh w r F vs ws)(h:MB vs k)(g:k->P []):P ws:=
 z.rec (motive:=λvs ws X=>MB vs k->(k->P [])->P ws) (λh g=>g h) (λX I u2 h=>h.elim) h g
@[elab_as_elim] theorem Sv{P:J aA->Prop}(z:gh w r F vs ws)(h:Es vs k)(g:∀v u v' u',VR w r F v u->VR w r F v' u'->k v v'->P [u,u']):P ws:=
 z.rec (motive:=λvs ws X=>Es vs k->(∀v u v' u',VR w r F v u->VR w r F v' u'->k v v'->P [u,u'])->P ws) (λh=>h.elim) (λy z X h g=>@qS _ _ _ (λws=>P (_::ws)) _ _ _ z h λv' u' y' h=>g _ _ _ _ y y' h) h g
end
noncomputable def tG:H->H->J H
 |X,0=>[]
 |n,1=>[n% 128]
 |n,k+2=>(n% 128+128)::tG (n/128) (k+1)
noncomputable def ny:aa->H->J H
 |X,0=>[]
 |i,1=>[(i% 128).toNat]
 |i,k+2=>((i% 128).toNat+128)::ny (i/128) (k+1)
mutual
def Tk.oct:Tk->J H
 | .b x=>[x]
 | .u n k=>tG n k
 | .s i k=>ny i k
 | .raw l=>l
 | .Y_ ts=>c8 ts
def c8:J Tk->J H
 |[]=>[]
 |t::r=>t.oct++c8 r
end
def MU(l:J H)(i e:H):J (ai×V):=[(bH,.d (.bytes l)),(cD,.d (.int i)),(sY,.d (.int e))]
abbrev uK:=J ((aR×aR)×O)
noncomputable def jR:(aR×aR)×O->J aR
 |(p,.dl X)=>[p.1]
 |(p,.vl X)=>[p.1]
 |(p,.ba X)=>[p.1]
 |(p,.inst X I)=>[p.1,p.2]
 |(p,.cur X)=>[p.1,p.2]
 |(X,.gone)=>[]
 |(p,.cell X)=>[p.1]
 |(p,.frame X I)=>[p.1]
def own(L:uK):J aR:=L.flatMap jR
theorem oA(p:(aR×aR)×O)(L:uK):own (p::L)=jR p++own L:=rfl
theorem je(L M:uK):own (L++M)=own L++own M:=List.flatMap_append ..
abbrev B_(w:bU)(r:bP)(F:bN)(ov:bq V)(ow:bq aA):Prop:=∀v,ov=N v->∃u,ow=N u/\VR w r F v u
def MV(w:bU)(r:bP)(F:bN)(mc:ai->bq aA)(cs:J (ai×aR))(x:ai):jA->Prop
 | .L ov=>B_ w r F ov (mc x)
 | .C h=>∃p,r[h]?=N p/\cs.lookup x=N p.1
def xg(w:bU)(r:bP)(F:bN)(h:dH)(p:aR×aR)(c:aR)(fs:J (ai×V)):Prop:=
 ∃es n sl,h.get? p.1=N ⟨.ref c,N p.2,.plain,sl⟩/\h.get? p.2=N (mY es n)/\mK w r F fs es/\(fs.map (·.1)).Nodup/\∀x∈fs.map (·.1),vJ c x=ah
def OR(w:bU)(r:bP)(F:bN)(h:dH)(p:aR×aR)(o:O):Prop:=match o with
 | .dl vs=>∃ws n,h.get? p.1=N (iG ws n)/\eU F vs ws.toList/\vs.length<=1048576
 | .vl vs=>∃ws n,h.get? p.1=N (iG ws n)/\gh w r F vs ws.toList/\vs.length<=1048576
 | .ba l=>∃b,h.get? p.1=N ⟨.type "bytearray",ao,.bytearray b 0,#[]⟩/\b.toList.map iX=l/\l.length<=1048576
 | .inst c fs=>xg w r F h p c fs
 | .cur ts=>∃l i e,xg w r F h p qf (MU l i e)/\i<=e/\e<=l.length/\(l.take e).drop i=c8 ts
 | .gone=>oU
 | .cell ov=>∃ow,h.IsCell p.1 ow/\B_ w r F ov ow
 | .frame cs m=>∃mc,h.Ns p.1 mc/\∀x sl,cG x m=N sl->MV w r F mc cs x sl
theorem Ca{α:Type}{x:ai}{l:J (ai×α)}{a:α}(e:cG x l=N a):(x,a)∈l:=Kg ((Au ..).symm.trans e)
theorem Z9(v:bq V):Mz id v=v:=by
 induction v with
 |none=>rfl
 |some v=>exact bQ N v.vM
theorem jA.vM(s:jA):s.fL id=s:=by
 induction s with
 |L v=>exact bQ jA.L (Z9 v)
 |C X=>rfl
theorem aG5(m):ZA id m=m:=ak5 (λp=>bQ (p.1,·) (jA.vM p.2)) m
theorem O.vM(o:O):o.fL id=o:=by
 induction o with
 |vl vs=>exact bQ O.vl (aG3 vs)
 |inst c fs=>exact bQ (O.inst c) (aG4 fs)
 |cell v=>exact bQ O.cell (Z9 v)
 |frame cs m=>exact bQ (O.frame cs) (aG5 m)
 |_=>rfl
theorem Z_(f:H->H)(p:aR×aR)(o:O):jR (p,o.fL f)=jR (p,o):=by cases o<;>rfl
theorem aG6(f:H->H)(fs):(B0 f fs).map (·.1)=fs.map (·.1):=n9
section
variable{w:bU}{f:H->H}{r r':bP}{F b4:bN}{h h':dH}{p:aR×aR}
theorem B_.fL(k:iF F b4){ov ow}(q:oz f (RM ov) r r')(y:B_ w r F ov ow):B_ w r' b4 (Mz f ov) ow:=by
 induction ov with
 |none=>exact λv e=>nomatch e
 |some v=>exact λv' e=>(y v rfl).imp λu z=>⟨z.1,fU e▸z.2.fL k q⟩
theorem MV.fL(k:iF F b4){mc cs x sl}(q:oz f sl.refs r r')(y:MV w r F mc cs x sl):MV w r' b4 mc cs x (sl.fL f):=by
 induction sl with
 |L ov=>exact B_.fL k q y
 |C a=>exact y.imp λp z=>⟨q a (.head _) p z.1,z.2⟩
theorem xg.fL{c fs}(q:oz f (RN fs) r r')(k:iF F b4)(S:∀b∈[p.1,p.2],∀x,h.get? b=N x->h'.get? b=N x)(y:xg w r F h p c fs):xg w r' b4 h' p c (B0 f fs):=
 y.imp λes y=>y.imp λn y=>y.imp λsl y=>⟨S _ (.head _) _ y.1,S _ (.tail _ (.head _)) _ y.2.1,y.2.2.1.B0 k q,by rw[aG6];exact y.2.2.2⟩
theorem OR.fL(k:iF F b4){o:O}(q:oz f o.refs r r')(S:∀b∈jR (p,o),∀x,h.get? b=N x->h'.get? b=N x)(y:OR w r F h p o):OR w r' b4 h' p (o.fL f):=by
 induction o with
 |dl vs=>exact y.imp λws y=>y.imp λn y=>⟨S _ (.head _) _ y.1,y.2.1.mono k,y.2.2⟩
 |vl vs=>exact y.imp λws y=>y.imp λn y=>⟨S _ (.head _) _ y.1,y.2.1.Z1 k q,aG2 f vs▸y.2.2⟩
 |ba l=>exact y.imp λb y=>⟨S _ (.head _) _ y.1,y.2⟩
 |inst c fs=>exact xg.fL q k S y
 |cur ts=>exact y.imp λl y=>y.imp λi y=>y.imp λe y=>⟨xg.fL (f:=f) (λX m=>(vt m).elim) k S y.1,y.2⟩
 |gone=>exact y
 |cell ov=>exact y.imp λow y=>⟨y.1.imp λo y=>⟨S _ (.head _) _ y.1,y.2⟩,B_.fL k q y.2⟩
 |frame cs m=>
  refine y.imp λmc y=>⟨y.1.imp λo y=>y.imp λes y=>y.imp λep y=>⟨S _ (.head _) _ y.1,y.2⟩,λx sl e=>?_⟩;have e:(cG x m).map (jA.fL f)=N sl:=(ZZ (jA.fL f) x m).symm.trans e;cases g:cG x m with
  |none=>rw[g]at e;cases e
  |some tH=>rw[g]at e;exact fU e▸(y.2 x tH g).fL k (q.at (g:=λp:ai×jA=>p.2.refs) (Ca g))
theorem OR.step(q:f_ r r')(k:iF F b4)(S:∀b∈jR (p,o),∀x,h.get? b=N x->h'.get? b=N x)(y:OR w r F h p o):OR w r' b4 h' p o:=o.vM▸OR.fL (f:=id) k (q.fL _) S y
end
theorem Ey{h:dH}(e:h.get? a=N x)(m:b∈[a]):∃x,h.get? b=N x:=by rw[fN.mp m];exact⟨_,e⟩
theorem al2{h:dH}(e:h.get? a=N x)(g:h.get? c=N y)(m:b∈[a,c]):∃x,h.get? b=N x:=(iV.mp m).elim (λq=>q▸⟨_,e⟩) (Ey g)
theorem OR.alive{w:bU}{r:bP}{F:bN}{h:dH}{p:aR×aR}(y:OR w r F h p o):∀b∈jR (p,o),∃x,h.get? b=N x:=by
 intro b m;have ins:∀{c fs},xg w r F h p c fs->b∈[p.1,p.2]->∃x,h.get? b=N x:=λy m=>y.elim λX y=>y.elim λX y=>y.elim λX y=>al2 y.1 y.2.1 m;induction o with
 |dl X=>exact y.elim λX y=>y.elim λX y=>Ey y.1 m
 |vl X=>exact y.elim λX y=>y.elim λX y=>Ey y.1 m
 |ba X=>exact y.elim λX y=>Ey y.1 m
 |inst X I=>exact ins y m
 |cur X=>exact y.elim λX y=>y.elim λX y=>y.elim λX y=>ins y.1 m
 |cell X=>exact y.elim λX y=>y.1.elim λX y=>Ey y.1 m
 |frame X I=>exact y.elim λX y=>y.1.elim λX y=>y.elim λX y=>y.elim λX y=>Ey y.1 m
 |gone=>cases m
structure Mt(w:bU)(B:bN)(r:bP)(s:aE)(F:bN)(L:uK):Prop where
 sub:∀a o,F a=N o->s.heap.get? a=N o
 base:iF B F
 live:∀p∈L,OR w r F s.heap p.1 p.2
 jf:∀a∈own L,F a=none
 nd:(own L).Nodup
structure fB(r r':bP)(s s':aE)(F F':bN)(o o':J aR):Prop where
 fM:f_ r r'
 same:∃h t,s'={s with heap:=h,toks:=t}
 grow:iF F F'
 vP:∀a x,F' a=N x->F a=N x\/a∈o\/s.heap.get? a=none
 tK:∀a∈o',a∈o\/s.heap.get? a=none
 kept:∀a x,a∉o->s.heap.get? a=N x->s'.heap.get? a=N x
theorem fB.refl(r:bP)(s:aE)(F:bN)(o:J aR):fB r r s s F F o o:=
 ⟨.refl _,⟨_,_,rfl⟩,.refl _,λX I e=>.inl e,λX h=>.inl h,λX I u2 e=>e⟩
theorem fB.trans{r bY iB:bP}{s aF cj:aE}{F cz iH:bN}{o Sw ab:J aR}(x:fB r bY s aF F cz o Sw)(y:fB bY iB aF cj cz iH Sw ab):fB r iB s cj F iH o ab:=by
 have fr:∀a,aF.heap.get? a=ao->a∈o\/s.heap.get? a=ao:=λa e=>by
  by_cases h:a∈o
  ·exact .inl h
  ·right;cases q:s.heap.get? a with
   |none=>rfl
   |some v=>rw[x.kept a v h q]at e;cases e
 refine⟨x.fM.trans y.fM,?_,x.grow.trans y.grow,λa v e=>?_,λa h=>?_,λa v h e=>?_⟩
 ·obtain⟨h,t,rfl⟩:=x.same;obtain⟨h',t',rfl⟩:=y.same;exact⟨h',t',rfl⟩
 ·rcases y.vP a v e with e|e|e
  ·exact x.vP a v e
  ·exact .inr (x.tK a e)
  ·exact .inr (fr a e)
 ·rcases y.tK a h with e|e
  ·exact x.tK a e
  ·exact fr a e
 ·refine y.kept a v (λq=>?_) (x.kept a v h e);rcases x.tK a q with q|q
  ·exact h q
  ·rw[e]at q;cases q
theorem fB.weak{r r':bP}{F:bN}{p:J aR}(x:fB r r' s s' F F' o o')(hr:f_ r q')(h:∀a∈o,a∈p)(h':∀a∈p',a∈o'\/a∈p):fB r q' s s' F F' p p':=
 ⟨hr,x.same,x.grow,λa v e=>(x.vP a v e).imp id λq=>q.imp (h a) id,λa q=>(h' a q).elim (λq=>(x.tK a q).imp (h a) id) .inl,λa v q e=>x.kept a v (λz=>q (h a z)) e⟩
section
variable{w:bU}{B:bN}{r r':bP}{s s':aE}{F F':bN}{L L' M:uK}
theorem Mt.lt(m:Mt w B r s F L)(h:a∈own L):a<s.heap.objs.size:=by refine b_ (rz.mp h) λp hx=>?_;have hp:=hx.1;have ha:=hx.2;refine b_ ((m.live p hp).alive a ha) λx hx=>?_;have e:=hx;exact kI e
theorem Mt.part(m:Mt w B r s F (L++M)):Mt w B r s F L:=by
 have d:=m.jf;have n:=m.nd;rw[je]at d n
 exact⟨m.sub,m.base,λp hp=>m.live p (iM _ hp),λa ha=>d a (iM _ ha),(qz.mp n).1⟩
theorem Mt.join(m:Mt w B r s F (L++M))(t:fB kc bY s s' F F' (own L) (own L'))(m':Mt w B r' s' F' L')(q:f_ r r'):Mt w B r' s' F' (L'++M):=by
 have d:=m.jf;have n:=m.nd;rw[je]at d n
 have hx:=qz.mp n;have n1:=hx.1;have n2:=hx.2.1;have n3:=hx.2.2;have lt:∀a∈own M,s.heap.get? a≠ao:=λa ha e=>by refine b_ (rz.mp ha) λp hx=>?_;have hp:=hx.1;have hb:=hx.2;refine b_ ((m.live p (kj _ hp)).alive a hb) λx hx=>?_;have e':=hx;rw[e]at e';cases e'
 refine⟨m'.sub,m'.base,λp hp=>?_,λa ha=>?_,?_⟩
 ·rcases gK.mp hp with hp|hp
  ·exact m'.live p hp
  ·refine(m.live p (kj _ hp)).step q t.grow λb hb x e=>t.kept b x (λq=>?_) e;exact n3 b q b (rz.mpr ⟨p,hp,hb⟩) rfl
 ·rw[je]at ha
  rcases gK.mp ha with ha|ha
  ·exact m'.jf a ha
  ·cases q:F' a with
   |none=>rfl
   |some x=>
    exfalso;rcases t.vP a x q with e|e|e
    ·rw[d a (kj _ ha)]at e;cases e
    ·exact n3 a e a ha rfl
    ·exact lt a ha e
 ·rw[je];refine qz.mpr ⟨m'.nd,n2,λa ha b hb q=>?_⟩;subst q;rcases t.tK a ha with e|e
  ·exact n3 a e a hb rfl
  ·exact lt a hb e
theorem fB.frame{kc bY:bP}(t:fB kc bY s s' F F' (own L) (own L'))(q:f_ r r'):fB r r' s s' F F' (own (L++M)) (own (L'++M)):=by
 refine⟨q,t.same,t.grow,λa x e=>?_,λa h=>?_,λa x h e=>?_⟩
 ·rw[je];rcases t.vP a x e with e|e|e
  ·exact .inl e
  ·exact .inr (.inl (iM _ e))
  ·exact .inr (.inr e)
 ·rw[je]at h|-
  rcases gK.mp h with h|h
  ·exact(t.tK a h).imp (iM _) id
  ·exact .inl (kj _ h)
 ·rw[je]at h;exact t.kept a x (λq=>h (iM _ q)) e
theorem ag(p:L.Perm L'):(own L).Perm (own L'):=p.flatMap_right _
theorem fB.perm{p:J aR}(h:∀a,a∈o↔a∈p)(h':∀a,a∈o'↔a∈p')(t:fB r r' s s' F F' o o'):fB r r' s s' F F' p p':=
 ⟨t.fM,t.same,t.grow,λa x e=>(t.vP a x e).imp id λq=>q.imp (h a).mp id,λa q=>(t.tK a ((h' a).mpr q)).imp (h a).mp id,λa x q e=>t.kept a x (λr=>q ((h a).mp r)) e⟩
theorem am{L:uK}(h:PY cC L):PY (own cC) (own L):=by
 induction h with
 |slnil=>exact .slnil
 |cons a X ih=>rw[oA];exact ih.trans (List.sublist_append_right _ _)
 |cons_cons a X ih=>rw[oA,oA];exact(cF3 _).append ih
theorem Mt.sel{f:H->H}{cC:uK}(m:Mt w B r s F L)(Sx:PY cC L)(hq:∀p∈cC,oz f p.2.refs r r'):Mt w B r' s F (cC.map λp=>(p.1,p.2.fL f)):=by
 have eo:own (cC.map λp=>(p.1,p.2.fL f))=own cC:=by unfold own;rw[cp9];congr 1;funext p;exact Z_ f p.1 p.2
 have so:PY (own cC) (own L):=am Sx;refine⟨m.sub,m.base,λp hp=>?_,λa ha=>?_,?_⟩
 ·obtain⟨aw,h0,rfl⟩:=qA.mp hp;exact OR.fL (.refl _) (hq aw h0) (λX I u2 e=>e) (m.live aw (Sx.mem h0))
 ·rw[eo]at ha;exact m.jf a (so.mem ha)
 ·rw[eo];exact so.nodup m.nd
end
theorem nc{α:Type}(l:J α):len l=l.length:=by
 induction l with
 |nil=>rfl
 |cons X r ih=>exact bQ vo ih
theorem rQ(n:H)(l:J O):gw n l=l[n]?:=by
 induction l generalizing n with
 |nil=>cases n<;>rfl
 |cons X r ih=>cases n;rfl;exact ih _
theorem yH(x:O)(n:H)(l:J O):eO x n l=l.set n x:=by
 induction l generalizing n with
 |nil=>cases n<;>rfl
 |cons y r ih=>cases n;rfl;exact bQ (y::·) (ih _)
theorem Sy{α:Type}(n:H)(l:J α):l7 n l=l.take n:=by
 induction l generalizing n with
 |nil=>cases n<;>rfl
 |cons y r ih=>cases n;rfl;exact bQ (y::·) (ih _)
theorem HR:eK a l=ah↔a∈l:=by
 induction l with
 |nil=>exact⟨(λh=>nomatch h),λh=>nomatch h⟩
 |cons b r ih=>
  have go:∀q,bX a b=q->((match q with|true=>ah|false=>eK a r)=ah↔a∈b::r):=λq e=>by
   cases q
   ·exact ih.trans ⟨.tail _,λm=>(iV.mp m).elim (λh=>absurd h (PV e)) id⟩
   ·exact⟨λX=>mV e▸ .head _,λX=>rfl⟩
  exact go _ rfl
theorem Cb:tw n l=ah↔∀a∈l,a<n:=by
 induction l with
 |nil=>exact⟨(λX a h=>nomatch h),λX=>rfl⟩
 |cons a r ih=>
  have go:∀q,nJ (vo a) n=q->((match q with|true=>tw n r|false=>ak)=ah↔∀b∈a::r,b<n):=λq e=>by
   cases q
   ·exact⟨(λh=>nomatch h),λh=>absurd ((cp6 (h a (.head _))).symm.trans e) gr⟩
   ·exact ih.trans ⟨λh=>gv.mpr ⟨PZ e,h⟩,λh=>(gv.mp h).2⟩
  exact go _ rfl
theorem aG7{l:J H}:MA l=ah↔l.Nodup:=by
 induction l with
 |nil=>exact⟨λX=>.nil,λX=>rfl⟩
 |cons a r ih=>
  have go:∀q,eK a r=q->((match q with|true=>ak|false=>MA r)=ah↔(a::r).Nodup):=λq e=>by
   cases q
   ·exact ih.trans ⟨λh=>oX.mpr ⟨λm=>absurd ((HR.mpr m).symm.trans e) gr,h⟩,λh=>(oX.mp h).2⟩
   ·exact⟨(λh=>nomatch h),λh=>absurd (HR.mp e) (oX.mp h).1⟩
  exact go _ rfl
theorem ax:HD l m=ah↔∀a∈l,a∈m:=by
 induction l with
 |nil=>exact⟨(λX a h=>nomatch h),λX=>rfl⟩
 |cons a r ih=>
  have go:∀q,eK a m=q->((match q with|true=>HD r m|false=>ak)=ah↔∀b∈a::r,b∈m):=λq e=>by
   cases q
   ·exact⟨(λh=>nomatch h),λh=>absurd ((HR.mpr (h a (.head _))).symm.trans e) gr⟩
   ·exact ih.trans ⟨λh=>gv.mpr ⟨HR.mp e,h⟩,λh=>(gv.mp h).2⟩
  exact go _ rfl
theorem aG8:a∈l->l[qO a l]?=N a:=by
 induction l with
 |nil=>exact λh=>nomatch h
 |cons b r ih=>
  have go:∀q,bX a b=q->a∈b::r->(b::r)[(match q with|true=>0|false=>vo (qO a r))]?=N a:=λq e h=>by
   cases q
   ·exact ih ((iV.mp h).elim (λh=>absurd h (PV e)) id)
   ·exact bQ N (mV e).symm
  exact go _ rfl
theorem bb(n:H)(l:J H):uG n l=l[n]?.getD 0:=by
 induction l generalizing n with
 |nil=>cases n<;>rfl
 |cons X r ih=>cases n;rfl;exact ih _
theorem bc(a n:H):um a n=cq0 a n:=by
 induction n generalizing a with
 |zero=>rfl
 |succ n ih=>exact bQ (a::·) (ih _)
theorem bj(o:J O)(ρ:J H):(jQ o ρ).length=ρ.length:=by
 induction ρ with
 |nil=>rfl
 |cons X r ih=>exact bQ (·+1) ih
theorem HS(f:H->H)(l:J O):qP f l=l.map (O.fL f):=rfl
theorem HT:h∈lU l↔∃o∈l,h∈o.refs:=rz
theorem aG9:∀{todo acc:J H},∃t,wI o n todo acc=acc++t:=by
 induction n with
 |zero=>exact λ{X acc}=>⟨[],(j3 acc).symm⟩
 |succ n ih=>
  intro todo acc;induction todo using eT with
  |nil=>exact⟨[],(j3 acc).symm⟩
  |cons h t=>
   have go:∀q,∃t',(match q with|true=>wI o n t acc|false=>wI o n ((match gw h o with|some x=>x.refs|none=>[])++t) (acc++[h]))=acc++t':=λq=>by
    cases q
    ·exact ih.elim λt' e=>⟨h::t',e.trans (jx ..)⟩
    ·exact ih
   exact go _
noncomputable abbrev pk(r:bP)(h:H):aR×aR:=r[h]?.getD (0,0)
theorem Sz{o:J O}:∀{h:H}{r:bP},r.length=o.length->h<o.length->∃E,∀x,(r.zip (eO x h o)).Perm ((pk r h,x)::E):=by
 induction o with
 |nil=>exact λX l=>absurd l (xU _)
 |cons y o ih=>
  intro h r e l;induction r using eT with
  |nil=>cases e
  |cons p r=>induction h using jh with
   |zero=>exact⟨r.zip o,λx=>.refl _⟩
   |succ h=>exact(ih (zJ e) (F7 l)).elim λE q=>⟨(p,y)::E,λx=>((q x).cons _).trans (.swap ..)⟩
theorem aH0(e:gw h o=N x):eO x h o=o:=by
 rw[yH];rw[rQ]at e
 obtain⟨l,e⟩:=vq.mp e;exact e▸List.set_getElem_self l
theorem Aw(x:O)(h:H)(o:J O):(eO x h o).length=o.length:=by rw[yH,cq1]
theorem aH1(n:h≠g)(o:J O):eO x h (eO y g o)=eO y g (eO x h o):=by rw[yH,yH,yH,yH];exact List.set_comm _ _ (F0 n)
theorem bm:∀{o:J O},h∉ρ->mG ρ (eO x h o)=eO x h (mG ρ o):=by
 induction ρ with
 |nil=>exact λX=>rfl
 |cons g ρ ih=>exact λ{o} n=>(bQ (mG ρ) (aH1 (λe:g=h=>n (e▸ .head _)) o)).trans (ih λm=>n (.tail _ m))
theorem SA(ρ:J H)(o:J O):(mG ρ o).length=o.length:=by
 induction ρ generalizing o with
 |nil=>rfl
 |cons g ρ ih=>exact(ih _).trans (Aw ..)
theorem aH2:h∉ρ->jQ (eO x h o) ρ=jQ o ρ:=by
 induction ρ with
 |nil=>exact λX=>rfl
 |cons g ρ ih=>exact λn=>(bQ (_::·) (ih λm=>n (.tail _ m))).trans (bQ (λz=>(match z with|some x=>x|none=>O.gone)::jQ o ρ) (by rw[rQ,rQ,yH,cq2 λe:h=g=>n (e▸ .head _)]))
abbrev gn(r:bP)(h:H):(aR×aR)×O:=(pk r h,.gone)
theorem bn(ρ:J H):own (ρ.map (gn r))=[]:=by
 induction ρ with
 |nil=>rfl
 |cons h ρ ih=>exact ih
theorem MW{r:bP}{ρ:J H}:∀{o:J O},r.length=o.length->ρ.Nodup->(∀h∈ρ,h<o.length)->(r.zip o++ρ.map (gn r)).Perm ((ρ.map (pk r)).zip (jQ o ρ)++r.zip (mG ρ o)):=by
 induction ρ with
 |nil=>exact λ{o} X I u2=>(j3 (r.zip o)).symm▸ .refl _
 |cons h ρ ih=>
  intro o e nd lt;have hx:=oX.mp nd;have n1:=hx.1;have n2:=hx.2;have l:=lt h (.head _);have hy:gw h o=N o[h]:=by rw[rQ];exact mZ l
  refine b_ (Sz e l) λE hx=>?_;have q:=hx;have ih:=ih (o:=eO .gone h o) ((Aw ..).symm▸e) n2 λg m=>(Aw ..).symm▸lt g (.tail _ m);rw[aH2 n1]at ih
  have q1:=q o[h];rw[aH0 hy]at q1
  show cq3 _ ((pk r h,(match gw h o with|some x=>x|none=>O.gone))::((ρ.map (pk r)).zip (jQ o ρ)++_))
  rw[hy];exact(q1.append_right _).trans (.cons _ (P0.trans (((q .gone).symm.append_right _).trans ih)))
theorem bo{r c:bP}{ρ:J H}:∀{xs o:J O},r.length=o.length->ρ.Nodup->(∀h∈ρ,h<o.length)->ρ.length+c.length=xs.length->
  ((r++c).zip (An ρ xs o)++ρ.map (gn r)).Perm ((ρ.map (pk r)++c).zip xs++r.zip (mG ρ o)):=by
 induction ρ with
 |nil=>
  intro xs o e _ _ _
  show((r++c).zip (o++xs)++[]).Perm (c.zip xs++r.zip o)
  rw[j3,ak6 e];exact List.perm_append_comm
 |cons h ρ ih=>
  intro xs o e nd lt e2;have hx:=oX.mp nd;have n1:=hx.1;have n2:=hx.2;induction xs using eT with
  |nil=>exact nomatch (xW ρ.length c.length).symm.trans e2
  |cons x xs=>
   have ih:=ih (xs:=xs) (o:=eO x h o) ((Aw ..).symm▸e) n2 (λg m=>(Aw ..).symm▸lt g (.tail _ m)) (zJ ((xW ρ.length c.length).symm.trans e2));refine b_ (Sz (h:=h) (e.trans (SA ρ o).symm) ((SA ρ o).symm▸lt h (.head _))) λE hx=>?_;have q:=hx;rw[bm n1]at ih
   show cq3 _ ((pk r h,x)::((ρ.map (pk r)++c).zip xs++r.zip (mG ρ (eO .gone h o))))
   rw[bm n1];exact P0.trans (((ih.trans ((q x).append_left _)).trans P0).cons _|>.trans ((List.Perm.swap ..).trans (.cons _ (P0.symm.trans ((q .gone).symm.append_left _)))))
theorem MX{r:bP}{ρ:J H}{o:J O}(e:r.length=o.length)(nd:ρ.Nodup)(lt:∀h∈ρ,h<o.length):
  (own (r.zip o)).Perm (own ((ρ.map (pk r)).zip (jQ o ρ))++own (r.zip (mG ρ o))):=by
 have:=ag (MW e nd lt);rw[je,je,bn,j3]at this
 exact this
theorem aH3{r c:bP}{ρ:J H}{xs o:J O}(e:r.length=o.length)(nd:ρ.Nodup)(lt:∀h∈ρ,h<o.length)(e2:ρ.length+c.length=xs.length):
  (own ((r++c).zip (An ρ xs o))).Perm (own ((ρ.map (pk r)++c).zip xs)++own (r.zip (mG ρ o))):=by
 have:=ag (bo e nd lt e2);rw[je,je,bn,j3]at this
 exact this
theorem SD{p:(aR×aR)×O}{ρ:J H}(h:(L++ρ.map (gn r)).Perm cC)(m:p∈cC):p.2=.gone\/p∈L:=
 (gK.mp (h.mem_iff.mpr m)).elim .inr λm=>(qA.mp m).elim λa q=>.inl (q.2▸rfl)
theorem aH4{r c:bP}{ρ:J H}{xs o:J O}(e:r.length=o.length)(nd:ρ.Nodup)(lt:∀h∈ρ,h<o.length)(e2:ρ.length+c.length=xs.length)(m:p∈(r++c).zip (An ρ xs o)):p∈(ρ.map (pk r)++c).zip xs++r.zip (mG ρ o):=
 (bo e nd lt e2).mem_iff.mp (iM _ m)
theorem aH5{r:bP}{o:J O}(l:h<o.length)(e:r.length=o.length)(m:p∈r.zip (eO x h o)):p=(pk r h,x)\/p∈r.zip (eO .gone h o):=
 (Sz e l).elim λE q=>(iV.mp ((q x).mem_iff.mp m)).imp id λm=>(q .gone).mem_iff.mpr (.tail _ m)
theorem bp{r:bP}{p:(aR×aR)×O}{ρ:J H}{o:J O}(e:r.length=o.length)(nd:ρ.Nodup)(lt:∀h∈ρ,h<o.length)(m:p∈r.zip (mG ρ o)):p.2=.gone\/p∈r.zip o:=
 SD (MW e nd lt) (kj _ m)
section
variable{w:bU}{B:bN}{r r':bP}{s s':aE}{F F':bN}{L L' M cC:uK}
theorem Mt.SE(m:Mt w B r s F L)(e:(own L).Perm (own cC))(h:∀p∈cC,p.2=.gone\/p∈L):Mt w B r s F cC:=
 ⟨m.sub,m.base,λp hp=>by
  rcases h p hp with q|q
  ·rw[q];trivial
  ·exact m.live p q,λa ha=>m.jf a (e.mem_iff.mpr ha),e.nodup_iff.mp m.nd⟩
theorem Mt.bt{r0:bP}(m:Mt w B r s F (r0.zip o))(hq:oz f (lU o) r r'):Mt w B r' s F (r0.zip (qP f o)):=by have:=m.sel (cC:=r0.zip o) (f:=f) (r':=r') (.refl _) λp hp h hh=>hq h (HT.mpr ⟨p.2,(cq4 hp).2,hh⟩);rw[HS,cq5];exact this
theorem SG(f:H->H)(r0:bP)(o:J O):own (r0.zip (qP f o))=own (r0.zip o):=by rw[HS,cq5];unfold own;rw[cp9];congr 1;funext p;exact Z_ f p.1 p.2
theorem SH(l:h<r.length):r[h]?=N (pk r h):=by
 show r[h]?=N (r[h]?.getD (0,0))
 rw[mZ l];rfl
theorem SI{ρ:J H}(h:∀a∈hs,a∈ρ):oz (λh=>qO h ρ) hs r (ρ.map (pk r)):=λa ha p e=>by
 have e2:(ρ.map (pk r))[qO a ρ]?=N (pk r a):=by rw[mC,aG8 (h a ha)];rfl
 refine e2.trans ?_
 show N (r[a]?.getD (0,0))=N p
 rw[e];rfl
end
structure bv(K:qB)(c:aR)(x:ai):Prop where
 pg:Xq K c x=ah
 hd:hasDictIn K c=ah
 fi:∃a,Dl K (.ref c) x=N a/\noGet K a=ah
 sa:Dl K (.ref c) "__setattr__"=N (N (.builtin "object.__setattr__"))
 po:ak7 K c=ah
 ti:takerIn K c x=N none
structure ca(K:qB)(c:aR)(x:ai)(a:aR):Prop where
 pg:Xq K c x=ah
 fi:Dl K (.ref c) x=N (N (.ref a))
 ty:Xr K (.ref a)=N (.type "function")
 fn:∃o fd,K.lookup a=N o/\o.data=.func fd
 na:vJ c x=ak
structure Cf where
 prog:iU
 w:bU
 h0:dH
 mg:ai->bq aA
 mb:ai->bq aA
 ng:h0.Ns qx mg
 nb:h0.Ns wo mb
 nl:h0.NoLimit
 sm:∃a o,xX<a/\h0.get? a=N o
 K:qB
 ff:K.In h0
 aG:∀c x,vJ c x=ah->bv K c x
 cb:∀c x a,GU c x=N a->ca K c x a
noncomputable def Cf.g(c:Cf)(x:ai):bq aA:=match c.mg x with|some v=>N v|none=>c.mb x
noncomputable abbrev Cf.B(c:Cf):bN:=c.h0.get?
structure Ok(n:H)(A:cQ):Prop where
 hd:A.handled=none
 depth:A.depth+5*n<=900
 units:A.units+20*n<=9800
theorem Ok.room{n:H}{A:cQ}(h:Ok n A):A.depth<cp1:=eZ (bR (gF _ _) h.depth) (by decide)
abbrev l_(f:Cf)(r:bP)(s:aE)(F:bN)(L:uK):Prop:=Mt f.w f.B r s F L
inductive SJ(f:Cf)(o:J O)(k:V->J O->Prop)(r:bP)(s:aE)(F:bN)(u:aA)(s':aE):Prop
 |mk (v o' r' F'):k v o'->VR f.w r' F' v u->r'.length=o'.length->l_ f r' s' F' (r'.zip o')->fB r r' s s' F F' (own (r.zip o)) (own (r'.zip o'))->SJ f o k r s F u s'
def WC(f:Cf)(n:H)(g:aA)(args:J V)(o:J O)(k:V->J O->Prop):Prop:=∀A s F E r ws,Ok n A->r.length=o.length->l_ f r s F (r.zip o)->gh f.w r F args ws->
 av (aP f.prog f.w) A (fF g ws) (SJ f o k r s F) E s
def SC(f:Cf)(n:H)(g:aA)(T:Tr):Prop:=∀args o k,T args o k->WC f n g args o k
theorem aH6{ρ:J H}(l:i<ρ.length)(t:J H):uG i (ρ++t)=ρ[i]:=by rw[bb,PX l,mZ l];rfl
theorem SK{o:J O}{ρ:J H}(h:w_ o args ρ=ah):ρ.Nodup/\(∀a∈ρ,a<o.length)/\(∀a∈Al args,a∈ρ)/\∀a∈lU (jQ o ρ),a∈ρ:=by
 unfold w_ at h
 split at h;rotate_left;cases h
 rename_i h1
 split at h;rotate_left;cases h
 rename_i h2
 split at h;rotate_left;cases h
 rename_i h3;rw[nc]at h2
 exact⟨aG7.mp h1,Cb.mp h2,ax.mp h3,ax.mp h⟩
theorem Mt.cc{r:bP}{s F}{o:J O}{ρ:J H}(m:l_ f r s F (r.zip o++M))(e:r.length=o.length)(nd:ρ.Nodup)(lt:∀a∈ρ,a<o.length)(vm:∀a∈lU (jQ o ρ),a∈ρ):
  l_ f (ρ.map (pk r)) s F ((ρ.map (pk r)).zip (qP (λh=>qO h ρ) (jQ o ρ))):=by
 have g:=MX e nd lt;exact(m.part.SE ((je ..)▸g) λp=>SD (MW e nd lt)).part.bt (SI vm)
theorem f_.split:∀{b:bP},f_ a b->∃c,b=a++c:=by
 induction a with
 |nil=>exact λ{b} X=>⟨b,rfl⟩
 |cons x a ih=>
  intro b h;induction b using eT with
  |nil=>exact nomatch h 0 x rfl
  |cons y b=>exact(ih λi p e=>h (i+1) p e).imp λc e=>by rw[e,fU (h 0 x rfl)];rfl
theorem aH7{r c:bP}{ρ:J H}(lt:∀a∈ρ,a<r.length)(hh:∀a∈hs,a<ρ.length+c.length):oz (λi=>uG i (ρ++um r.length c.length)) hs (ρ.map (pk r)++c) (r++c):=by
 intro i hi p hp;have l3:=hh i hi;dsimp only;by_cases l:i<ρ.length
 ·have l2:ρ[i]<r.length:=lt _ (ak8 l);rw[PX (cO (pk r)▸l),mC,mZ l]at hp
  rw[aH6 l,PX l2];exact(SH l2).trans hp
 ·obtain⟨j,rfl⟩:=cq6 (vj.mp l);have lj:=cq7 l3;rw[P1 (cO (pk r)▸gF _ _),cO,Kh]at hp
  rw[bb,P1 (gF _ _),Kh,bc,cq8 lj,Option.getD_some,cq9,P1 (gF _ _),Kh];exact hp
theorem aH8(ρ:J H):∀(xs o:J O),ρ.length<=xs.length->(An ρ xs o).length=o.length+(xs.length -ρ.length):=by
 induction ρ with
 |nil=>exact λxs o X=>f6
 |cons h ρ ih=>
  intro xs o l;induction xs using eT with
  |nil=>exact absurd l (Nat.not_succ_le_zero _)
  |cons x xs=>exact(ih xs (eO x h o) (Kl l)).trans (by rw[Aw,zK,zK,Nat.add_sub_add_right])
theorem aH9(h:SC f n g T)(S:yt T args o k):WC f n g args o k:=by
 intro A s F E r ws ok e m y;have go:∀ρ q,w_ o args ρ=q->(match(generalizing:=false) q with
   |true=>RO (BZ (λh=>qO h ρ) args) λargs=>lV (qP (λh=>qO h ρ) (jQ o ρ)) λo1=>T args o1 (RS ρ o k)
   |false=>bV)->w_ o args ρ=ah/\T (BZ (λh=>qO h ρ) args) (qP (λh=>qO h ρ) (jQ o ρ)) (RS ρ o k):=λρ q=>by
  cases q
  ·exact λX h=>h.elim
  ·exact λe h=>⟨e,((RQ ..).trans (o5 ..)).mp h⟩
 have S:=go _ _ rfl ((HF ..).mp S);generalize wI o Ep (Al args) []=ρ at S
 obtain⟨nd,lt,s1,s2⟩:=SK S.1;have mg:=Mt.cc (M:=[]) (show l_ f r s F (r.zip o++[]) by rw[j3];exact m) e nd lt s2
 have g:=MX (r:=r) e nd lt;refine gG (h _ _ _ S.2 A s F E (ρ.map (pk r)) ws ok (by rw[cO,HS,cO,bj]) mg (y.Z1 (.refl _) (SI s1))) (λu s' p=>?_) λX I z=>z
 induction p with
 |mk v o' r0 F' hq yv e2 m2 t=>
 obtain⟨c,rfl⟩:=t.fM.split;rw[f6,cO]at e2
 have go:∀q,tw (Wm.len o') (v.refs++lU o')=q->(match(generalizing:=false) q with
   |true=>Er (ρ++um (Wm.len o) (Wm.len o' -Wm.len ρ)) λHG=>uH (v.fL λi=>uG i HG) λv=>lV (An ρ (qP (λi=>uG i HG) o') o) λo=>k v o
   |false=>bV)->(∀a∈v.refs++lU o',a<ρ.length+c.length)/\k (v.fL λi=>uG i (ρ++um r.length c.length)) (An ρ (qP (λi=>uG i (ρ++um r.length c.length)) o') o):=λq=>by
  cases q
  ·exact λX h=>h.elim
  ·intro a h;have h:=((HF ..).trans ((w9 ..).trans (o5 ..))).mp h;rw[nc,nc,nc,<-e2,Kh,<-e]at h
   rw[nc]at a
   exact⟨e2▸Cb.mp a,h⟩
 have hq:=go _ rfl hq;have ce:∀hs:J H,(∀a∈hs,a<ρ.length+c.length)->oz (λi=>uG i (ρ++um r.length c.length)) hs (ρ.map (pk r)++c) (r++c):=λhs=>aH7 (λa ha=>e▸lt a ha);have hv:=yv.fL (.refl _) (ce _ λa ha=>hq.1 a (iM _ ha));have cf:f_ r (r++c):=f_.app _ _;have SM:=m2.bt (ce _ λa ha=>hq.1 a (kj _ ha))
 have aI0:l_ f r s F ((ρ.map (pk r)).zip (jQ o ρ)++r.zip (mG ρ o)):=
  m.SE ((je ..)▸g) λp=>SD (MW e nd lt)
 have hq:=hq.2;generalize(λi=>uG i (ρ++um r.length c.length))=ν at hq hv SM
 rw[(SG _ _ _:own ((ρ.map (pk r)).zip (qP (λh=>qO h ρ) (jQ o ρ)))=own ((ρ.map (pk r)).zip (jQ o ρ))),<-(SG _ _ _:own ((ρ.map (pk r)++c).zip (qP ν o'))=own ((ρ.map (pk r)++c).zip o'))]at t
 have lo:(qP ν o').length=ρ.length+c.length:=by rw[HS,cO];exact e2.symm
 generalize qP ν o'=x at hq SM t lo
 have sc:=aH3 (r:=r) (xs:=x) e nd lt lo.symm;exact⟨_,_,r++c,F',hq,hv,by rw[aH8 _ _ _ (lo▸gF _ _),f6,e,lo,Kh],(aI0.join t SM cf).SE (je ..▸sc.symm) λp hp=>.inr (aH4 e nd lt lo.symm hp),
  (t.frame (M:=r.zip (mG ρ o)) cf).perm (λa=>by rw[je];exact g.symm.mem_iff) λa=>by rw[je];exact sc.symm.mem_iff⟩
noncomputable def jA.kind:jA->cJ
 | .L X=>.local
 | .C X=>.cell
structure g_(f:Cf)(Y:J (ai×cJ))(G:cL):Prop where
 kind:G.scope.kind=.function
 Y:G.scope.names=Y
 gl:G.globals=qx
 bi:G.builtins=wo
theorem g_.look{Y}{G:cL}(h:g_ f Y G)(e:cG x Y=N k):G.kindOf x=N k:=by unfold PO;rw[h.Y,<-Au];exact e
def FK(Y:J (ai×cJ))(m:Fm):Prop:=∀x sl,cG x m=N sl->cG x Y=N sl.kind
noncomputable abbrev Cc(G:cL)(m:Fm):(aR×aR)×O:=((G.locals,G.locals),.frame G.cells m)
noncomputable abbrev eS(G:cL)(Z:St)(r:bP):uK:=r.zip Z.o++[Cc G Z.m]
structure At(f:Cf)(Y:J (ai×cJ))(G:cL)(Z:St)(r:bP)(s:aE)(F:bN):Prop where
 len:r.length=Z.o.length
 fk:FK Y Z.m
 mt:l_ f r s F (eS G Z r)
abbrev Go(G:cL)(Z b9:St)(r r':bP)(s s':aE)(F F':bN):Prop:=fB r r' s s' F F' (own (eS G Z r)) (own (eS G b9 r'))
variable(f:Cf)(Y:J (ai×cJ))
inductive mh{α β:Type}(R:bP->bN->α->β->Prop)(G:cL)(Z:St)(Q:α->St->Prop)(r:bP)(s:aE)(F:bN)(w:β)(s':aE):Prop
 |mk (v b9 r' F'):Q v b9->R r' F' v w->At f Y G b9 r' s' F'->Go G Z b9 r r' s s' F F'->mh R G Z Q r s F w s'
abbrev rR:=mh f Y (λr F=>VR f.w r F)
inductive xh(w:bU)(r:bP)(F:bN):dZ->C7->Prop
 |next:xh w r F .next .next
 |brk:xh w r F .brk .brk
 |cont:xh w r F .cont .cont
 |ret {v u}:VR w r F v u->xh w r F (.ret v) (.ret u)
def WX{α β:Type}(R:bP->bN->α->β->Prop)(n:H)(t:cL->dJ β)(Z:St)(Q:α->St->Prop):Prop:=∀A s F G E r,Ok n A->g_ f Y G->At f Y G Z r s F->
 av (aP f.prog f.w) A (t G) (mh f Y R G Z Q r s F) E s
abbrev WE(n:H)(e:aT):=WX f Y (λr F=>VR f.w r F) n (λG=>cM e G)
abbrev qT(n:H)(es:J aT)(Z:St)(Q:J V->St->Prop):Prop:=∀pos,WX f Y (λr F=>gh f.w r F) n (λG=>rt (n8 pos (lQ es G))) Z Q
abbrev WT(n:H)(e:aT):=WX f Y (λX I (b:aD)(b':aD)=>b=b') n (λG=>oV e G (cM e G))
abbrev Ax(n:H)(op:W_)(es:J aT):=WX f Y (λX I (b:aD)(b':aD)=>b=b') n (λG=>Df op es G)
abbrev WS(n:H)(ss:J eg):=WX f Y (λr F=>xh f.w r F) n (λG=>A9 ss G)
abbrev W1(n:H)(s1:eg):=WX f Y (λr F=>xh f.w r F) n (λG=>t8 s1 G)
variable{f Y}{n:H}{Z:St}{e:aT}
theorem Mt.stays{s:aE}(mt:l_ f r s F L):∀b o,f.h0.get? b=N o->s.heap.get? b=N o:=λb o e=>mt.sub b o (mt.base b o e)
theorem At.tok{G r s F}(a:At f Y G Z r s F)(t:H):At f Y G Z r {s with toks:=t} F:=⟨a.len,a.fk,a.mt.sub,a.mt.base,a.mt.live,a.mt.jf,a.mt.nd⟩
theorem fB.tok(r:bP)(s:aE)(F:bN)(o:J aR)(t:H):fB r r s {s with toks:=t} F F o o:=
 ⟨.refl _,⟨_,_,rfl⟩,.refl _,λX I e=>.inl e,λX h=>.inl h,λX I u2 e=>e⟩
theorem mh.here{α β:Type}{R:bP->bN->α->β->Prop}{G r s F}{Q:α->St->Prop}{v:α}{w:β}{t:H}(a:At f Y G Z r s F)(y:R r F v w)(q:Q v Z):mh f Y R G Z Q r s F w {s with toks:=t}:=
 ⟨v,Z,r,F,q,y,a.tok t,.tok ..⟩
theorem mh.oE{α β:Type}{R:bP->bN->α->β->Prop}{G r s F}{Q:α->St->Prop}{v:α}{w:β}(a:At f Y G Z r s F)(y:R r F v w)(q:Q v Z):mh f Y R G Z Q r s F w s:=
 ⟨v,Z,r,F,q,y,a,.refl ..⟩
theorem mh.of{α β:Type}{R:bP->bN->α->β->Prop}{G r bY s aF F cz}{aI:St}{Q:α->St->Prop}{w:β}{s':aE}(t:Go G Z aI r bY s aF F cz)(p:mh f Y R G aI Q bY aF cz w s'):mh f Y R G Z Q r s F w s':=
 p.rec λv b9 r' F' q y a t'=>⟨v,b9,r',F',q,y,a,t.trans t'⟩
theorem WX.mono{α β:Type}{R:bP->bN->α->β->Prop}{t:cL->dJ β}{Q Q':α->St->Prop}(h:WX f Y R n t Z Q)(k:∀v b9,Q v b9->Q' v b9):WX f Y R n t Z Q':=
 λA s F G E r o i a=>gG (h A s F G E r o i a) (λX I p=>p.rec λv b9 r' F' q y a t=>⟨v,b9,r',F',k v b9 q,y,a,t⟩) λX I z=>z
theorem WX.run{α β:Type}{R:bP->bN->α->β->Prop}{t:cL->dJ β}{Q:α->St->Prop}(h:WX f Y R n t Z Q){A s F G E r}{P:β->aE->Prop}(o:Ok n A)(i:g_ f Y G)(a:At f Y G Z r s F)
  (k:∀v w aI bY cz aF,Q v aI->R bY cz v w->At f Y G aI bY aF cz->Go G Z aI r bY s aF F cz->P w aF):av (aP f.prog f.w) A (t G) P E s:=
 gG (h A s F G E r o i a) (λw s' p=>p.rec λv b9 r' F' q y a' t=>k v w b9 r' F' s' q y a' t) λX I z=>z
theorem At.frame{G r s F}(a:At f Y G Z r s F):OR f.w r F s.heap (G.locals,G.locals) (.frame G.cells Z.m):=a.mt.live _ (kj _ (.head _))
theorem aI1{α β:Type}{a:α}{b:β}{i:H}{l:J α}{m:J β}(h:l[i]?=N a)(g:m[i]?=N b):(a,b)∈l.zip m:=
 ak9.mpr ⟨i,P4.mpr ⟨h,g⟩⟩
theorem At.obj{G r s F}(a:At f Y G Z r s F)(e:r[h]?=N p)(e':gw h Z.o=N o):OR f.w r F s.heap p o:=
 a.mt.live _ (iM _ (aI1 e (by rw[<-rQ];exact e')))
theorem At.fM{G r s F}(a:At f Y G Z r s F)(e':gw h Z.o=N o):∃p,r[h]?=N p:=by
 rw[rQ]at e'
 have:=(vq.mp e').1;rw[<-a.len]at this
 exact⟨_,mZ this⟩
theorem HU{α β:Type}{a:α}{b:β}{l:J α}{m:J β}(h:l.length=m.length):(l++[a]).zip (m++[b])=l.zip m++[(a,b)]:=ak6 h
theorem o9(h:dH):h.get? h.objs.size=ao:=by
 cases e:h.get? h.objs.size with
 |none=>rfl
 |some x=>exact absurd (kI e) (vg _)
theorem aI2{s F}{o:fH}(mt:Mt w B r s F Lx)(ho:o.isFreed=ak):
  ∃F',F' s.heap.objs.size=N o/\Mt w B r {s with heap:=s.heap.push o} F' Lx/\fB r r s {s with heap:=s.heap.push o} F F' (own Lx) (own Lx):=by
 have hn:F s.heap.objs.size=ao:=by
  cases q:F s.heap.objs.size with
  |none=>rfl
  |some x=>exact absurd (kI (mt.sub _ _ q)) (vg _)
 refine⟨λa=>if a=s.heap.objs.size then N o else F a,dP rfl,⟨λa x e=>?_,λa x e=>?_,λp hp=>?_,λa ha=>?_,mt.nd⟩,⟨.refl _,⟨_,_,rfl⟩,λa x e=>?_,λa x e=>?_,λa h=>.inl h,λa x X e=>ko _ e⟩⟩
 ·by_cases h:a=s.heap.objs.size
  ·rw[dP h]at e;cases e;rw[h];exact lY _ ho
  ·rw[cF h]at e;exact ko _ (mt.sub a x e)
 ·have:a≠s.heap.objs.size:=λh=>by rw[h]at e;rw[mt.base _ _ e]at hn;cases hn
  show(if a=s.heap.objs.size then N o else F a)=N x
  rw[cF this];exact mt.base a x e
 ·refine(mt.live p hp).step (.refl _) (λa x e=>?_) λb X x e=>ko _ e;have:a≠s.heap.objs.size:=λh=>by rw[h]at e;rw[e]at hn;cases hn
  rw[cF this];exact e
 ·show(if a=s.heap.objs.size then N o else F a)=ao
  rw[cF (sq (mt.lt ha))];exact mt.jf a ha
 ·have:a≠s.heap.objs.size:=λh=>by rw[h]at e;rw[e]at hn;cases hn
  rw[cF this];exact e
 ·by_cases h:a=s.heap.objs.size
  ·exact .inr (.inr (h▸o9 _))
  ·rw[cF h]at e;exact .inl e
theorem aI3{s F}{o:fH}(mt:Mt w B r s F (La++Lb))(ho:o.isFreed=ak)(hx:jR ((s.heap.objs.size,d),x)=[s.heap.objs.size])
  (hr:OR w r F (s.heap.push o) (s.heap.objs.size,d) x):
  Mt w B (r++[(s.heap.objs.size,d)]) {s with heap:=s.heap.push o} F (La++((s.heap.objs.size,d),x)::Lb)/\
   fB r (r++[(s.heap.objs.size,d)]) s {s with heap:=s.heap.push o} F F (own (La++Lb)) (own (La++((s.heap.objs.size,d),x)::Lb)):=by
 have k:∀b y,s.heap.get? b=N y->(s.heap.push o).get? b=N y:=λb y e=>ko _ e;have q:f_ r (r++[(s.heap.objs.size,d)]):=f_.app _ _;have MY:∀a,a∈own (La++((s.heap.objs.size,d),x)::Lb)↔a∈own (La++Lb)\/a=s.heap.objs.size:=λa=>by
  rw[je,oA,je,hx];simp only[gK,fN];constructor
  ·rintro(h|h|h);exact .inl (.inl h);exact .inr h;exact .inl (.inr h)
  ·rintro((h|h)|h);exact .inl h;exact .inr (.inr h);exact .inr (.inl h)
 refine⟨⟨λa y e=>k a y (mt.sub a y e),mt.base,λp hp=>?_,λa ha=>?_,?_⟩,⟨q,⟨_,_,rfl⟩,.refl _,λX I e=>.inl e,λa h=>?_,λa y X e=>k a y e⟩⟩
 ·rcases gK.mp hp with hp|hp
  ·exact(mt.live p (iM _ hp)).step q (.refl _) λb X y e=>k b y e
  ·rcases iV.mp hp with rfl|hp
   ·exact hr.step q (.refl _) λX I u2 e=>e
   ·exact(mt.live p (kj _ hp)).step q (.refl _) λb X y e=>k b y e
 ·rcases(MY a).mp ha with h|h
  ·exact mt.jf a h
  ·cases q:F a with
   |none=>rfl
   |some y=>exact absurd (kI (mt.sub _ _ q)) (by rw[h];exact vg _)
 ·have p:(own (La++((s.heap.objs.size,d),x)::Lb)).Perm (s.heap.objs.size::own (La++Lb)):=by
   rw[je,oA,je,hx];exact P0
  refine p.nodup_iff.mpr (oX.mpr ⟨λh=>absurd (mt.lt h) (vg _),mt.nd⟩)
 ·rcases(MY a).mp h with h|h
  ·exact .inl h
  ·right;rw[h];exact o9 _
theorem At.frozen{G r s F}{o:fH}(a:At f Y G Z r s F)(ho:o.isFreed=ak):
  ∃F',F' s.heap.objs.size=N o/\At f Y G Z r {s with heap:=s.heap.push o} F'/\Go G Z Z r r s {s with heap:=s.heap.push o} F F':=
 (aI2 a.mt ho).imp λF' g=>⟨g.1,⟨a.len,a.fk,g.2.1⟩,g.2.2⟩
theorem At.live{G r s F}{o:fH}(a:At f Y G Z r s F)(ho:o.isFreed=ak)(hx:jR ((s.heap.objs.size,s.heap.objs.size),x)=[s.heap.objs.size])
  (hr:OR f.w r F (s.heap.push o) (s.heap.objs.size,s.heap.objs.size) x):
  ∃r',VR f.w r' F (.ref (Wm.len Z.o)) (.ref s.heap.objs.size)/\At f Y G ⟨Z.m,Z.o++[x]⟩ r' {s with heap:=s.heap.push o} F/\Go G Z ⟨Z.m,Z.o++[x]⟩ r r' s {s with heap:=s.heap.push o} F F:=by
 obtain⟨m,t⟩:=aI3 (d:=s.heap.objs.size) a.mt ho hx hr;have z:eS G ⟨Z.m,Z.o++[x]⟩ (r++[(s.heap.objs.size,s.heap.objs.size)])=r.zip Z.o++((s.heap.objs.size,s.heap.objs.size),x)::[Cc G Z.m]:=by
  show(r++_).zip (Z.o++[x])++_=_
  rw[HU a.len,jx];rfl
 refine⟨r++[(s.heap.objs.size,s.heap.objs.size)],.ref (p:=(s.heap.objs.size,s.heap.objs.size)) ?_,⟨by simp[a.len],a.fk,by rw[z];exact m⟩,by unfold Go;rw[z];exact t⟩
 rw[nc,<-a.len];simp
theorem Mt.upd{s:aE}{t:H}(mt:Mt w B r s F (La++(p,o)::Lb))(ha:a∈jR (p,o))(ho:jR (p,o')=jR (p,o))
  (sb:Dh a s.heap h')(hr:OR w r F h' p o'):Mt w B r {s with heap:=h',toks:=t} F (La++(p,o')::Lb)/\fB r r s {s with heap:=h',toks:=t} F F (own (La++(p,o)::Lb)) (own (La++(p,o')::Lb)):=by
 have e:own (La++(p,o')::Lb)=own (La++(p,o)::Lb):=by rw[je,oA,je,oA,ho]
 have My:a∈own (La++(p,o)::Lb):=by rw[je,oA];exact kj _ (iM _ ha)
 have nd:=mt.nd;rw[je,oA]at nd
 have hx:=qz.mp nd;have n1:=hx.1;have n2:=hx.2.1;have n3:=hx.2.2;have hx:=qz.mp n2;have n4:=hx.1;have n5:=hx.2.1;have n6:=hx.2.2;have fa:F a=ao:=mt.jf a My;have nF:∀b x,F b=N x->b≠a:=λb x q z=>by rw[z,fa]at q;cases q
 refine⟨⟨λb x q=>(sb.2 b (nF b x q)).trans (mt.sub b x q),mt.base,λq hq=>?_,by rw[e];exact mt.jf,by rw[e];exact mt.nd⟩,
  ⟨.refl _,⟨_,_,rfl⟩,.refl _,λX I q=>.inl q,λb q=>.inl (by rw[e]at q;exact q),λb x hn q=>(sb.2 b (λz=>hn (z▸My))).trans q⟩⟩
 rcases gK.mp hq with hq|hq
 ·refine(mt.live q (iM _ hq)).step (.refl _) (.refl _) λb hb x z=>(sb.2 b λy=>?_).trans z;subst y;exact n3 b (rz.mpr ⟨q,hq,hb⟩) b (iM _ ha) rfl
 ·rcases iV.mp hq with rfl|hq
  ·exact hr
  ·refine(mt.live q (kj _ (.tail _ hq))).step (.refl _) (.refl _) λb hb x z=>(sb.2 b λy=>?_).trans z;subst y;exact n6 b ha b (rz.mpr ⟨q,hq,hb⟩) rfl
theorem ci{r:bP}{o:J O}(e:r[h]?=N p)(e':gw h o=N x)(len:r.length=o.length):
  ∃La Lb,r.zip o=La++(p,x)::Lb/\∀y,r.zip (eO y h o)=La++(p,y)::Lb:=by
 induction h generalizing r o with
 |zero=>
  induction r using eT with
  |nil=>simp at e
  |cons q r=>induction o using eT with
   |nil=>simp at len
   |cons z o=>
    simp at e
    simp[gw]at e'
    subst e e';exact⟨[],r.zip o,rfl,λX=>rfl⟩
 |succ h ih=>
  induction r using eT with
  |nil=>simp at e
  |cons q r=>induction o using eT with
   |nil=>simp at len
   |cons z o=>
    refine b_ (ih (r:=r) (o:=o) (by simpa using e) (by simpa[gw]using e') (by simpa using len)) λLa hx=>?_
    refine b_ hx λLb hx=>?_;have h1:=hx.1;have h2:=hx.2;exact⟨(q,z)::La,Lb,by rw[P5,h1];rfl,λy=>by show(q,z)::r.zip (eO y h o)=_;rw[h2];rfl⟩
theorem At.chg{G r s F}{t:H}(at_:At f Y G Z r s F)(e:r[h]?=N p)(e':gw h Z.o=N x)(ha:a∈jR (p,x))(ho:jR (p,y)=jR (p,x))
  (sb:Dh a s.heap h')(hr:OR f.w r F h' p y):At f Y G ⟨Z.m,eO y h Z.o⟩ r {s with heap:=h',toks:=t} F/\Go G Z ⟨Z.m,eO y h Z.o⟩ r r s {s with heap:=h',toks:=t} F F:=by
 refine b_ (ci e e' at_.len) λLa hx=>?_;refine b_ hx λLb hx=>?_;have h1:=hx.1;have h2:=hx.2;have m:=at_.mt;have z1:eS G Z r=La++(p,x)::(Lb++[Cc G Z.m]):=by show r.zip Z.o++_=_;rw[h1,jx];rfl
 have z2:eS G ⟨Z.m,eO y h Z.o⟩ r=La++(p,y)::(Lb++[Cc G Z.m]):=by show r.zip (eO y h Z.o)++_=_;rw[h2,jx];rfl
 rw[z1]at m
 have hx:=m.upd (t:=t) ha ho sb hr;have m':=hx.1;have t':=hx.2;exact⟨⟨by rw[Aw];exact at_.len,at_.fk,by rw[z2];exact m'⟩,by unfold Go;rw[z1,z2];exact t'⟩
theorem At.aI4{G r s F}{t:H}(at_:At f Y G Z r s F)(fk:FK Y m')(sb:Dh G.locals s.heap h')(hr:OR f.w r F h' (G.locals,G.locals) (.frame G.cells m')):
  At f Y G ⟨m',Z.o⟩ r {s with heap:=h',toks:=t} F/\Go G Z ⟨m',Z.o⟩ r r s {s with heap:=h',toks:=t} F F:=by
 obtain⟨m,t'⟩:=at_.mt.upd (o':=.frame G.cells m') (t:=t) (a:=G.locals) (.head _) rfl sb hr;exact⟨⟨at_.len,fk,m⟩,t'⟩
end
section
variable{f:Cf}{Y:J (ai×cJ)}{n:H}{Z:St}{e:aT}{G:cL}{r:bP}{s:aE}{F:bN}
theorem cm:∀{sl},cG x (forget fg m)=N sl->∃tH,cG x m=N tH/\(sl=tH\/sl=.L ao/\∃ov,tH=.L ov):=by
 induction m with
 |nil=>exact λh=>nomatch h
 |cons p m ih=>
  intro sl;obtain⟨y,q⟩:=p;have fgt:N (match q with| .L ov=>(match forget.qN y fg with|true=>.L ao|false=>.L ov)| .C h=>.C h)=N sl->(sl=q\/sl=.L ao/\∃ov,q=.L ov):=by
   cases q with
   |C a=>exact λh=>.inl (fU h).symm
   |L ov=>cases forget.qN y fg with
    |true=>exact λh=>.inr ⟨(fU h).symm,ov,rfl⟩
    |false=>exact λh=>.inl (fU h).symm
  exact B8 (P:=λo=>o=N sl->∃tH,cG x ((y,q)::m)=N tH/\(sl=tH\/sl=.L ao/\∃ov,tH=.L ov)) (λg h=>⟨q,Et g,fgt h⟩) λg h=>(ih h).imp λtH z=>⟨yG g z.1,z.2⟩
theorem nY{G:cL}{Z:St}{r:bP}:own (eS G Z r)=own (r.zip Z.o)++[G.locals]:=by rw[je];rfl
theorem At.aI5(a:At f Y G ⟨m,o⟩ r s F)(e:gw h o=N (.cell ov)):At f Y G ⟨m,eO (.cell ao) h o⟩ r s F/\own (r.zip (eO (.cell ao) h o))=own (r.zip o):=by
 have hl:h<o.length:=by rw[rQ]at e;exact(vq.mp e).1
 have eo:own (r.zip (eO (.cell ao) h o))=own (r.zip o):=by
  have go:∀(o:J O)(r:bP)(h:H),gw h o=N (.cell ov)->own (r.zip (eO (.cell ao) h o))=own (r.zip o):=by
   intro o;induction o with
   |nil=>intro r h e;cases h<;>cases e
   |cons x o ih=>
    intro r h e;induction r using eT with
    |nil=>rfl
    |cons p r=>
     induction h using jh with
     |zero=>cases e;rfl
     |succ h=>
      show own ((p,x)::r.zip (eO (.cell ao) h o))=own ((p,x)::r.zip o)
      rw[oA,oA,ih r h e]
  exact go o r h e
 have cn:own (eS G ⟨m,eO (.cell ao) h o⟩ r)=own (eS G ⟨m,o⟩ r):=by rw[nY,nY,eo]
 refine⟨⟨by rw[Aw];exact a.len,a.fk,a.mt.sub,a.mt.base,λp hp=>?_,λb hb=>a.mt.jf b (cn▸hb),cn▸a.mt.nd⟩,eo⟩
 rcases gK.mp hp with hp|hp
 ·rcases aH5 hl a.len hp with rfl|hp
  ·have hr:h<r.length:=by rw[a.len];exact hl
   have:OR f.w r F s.heap (pk r h) (.cell ov):=a.mt.live (pk r h,.cell ov) (iM _ (ak9.mpr ⟨h,by rw[P4];exact⟨SH hr,by rw[<-rQ];exact e⟩⟩))
   refine b_ this λow hx=>?_;have h1:=hx.1;exact⟨ow,h1,λv q=>nomatch q⟩
  ·have HV:p∈r.zip (eO .gone h o):=hp;rcases bp (ρ:=[h]) a.len (oX.mpr ⟨(λh=>nomatch h),.nil⟩) (λg m=>fN.mp m▸hl) HV with e2|HV
   ·rw[e2];trivial
   ·exact a.mt.live p (iM _ HV)
 ·exact a.mt.live p (kj _ hp)
theorem cq(l:Fm):∀{o:J O},At f Y G ⟨m,o⟩ r s F->At f Y G ⟨m,qR fg l o⟩ r s F/\own (r.zip (qR fg l o))=own (r.zip o):=by
 induction l with
 |nil=>exact λa=>⟨a,rfl⟩
 |cons p l ih=>
  intro o a;obtain⟨y,sl⟩:=p;cases sl with
  |L ov=>exact ih a
  |C h=>
   have go:∀b z,gw h o=z->(λo':J O=>At f Y G ⟨m,o'⟩ r s F/\own (r.zip o')=own (r.zip o)) (match b with|true=>(match z with|some (.cell X)=>qR fg l (eO (.cell ao) h o)|X=>qR fg l o)|false=>qR fg l o):=λb z e=>by
    cases b with
    |false=>exact ih a
    |true=>cases z with
     |none=>exact ih a
     |some y=>cases y with
      |cell ov=>have g:=a.aI5 e;exact⟨(ih g.1).1,(ih g.1).2.trans g.2⟩
      |_=>exact ih a
   exact go _ _ rfl
theorem At.forget(a:At f Y G Z r s F):At f Y G (j9 fg Z) r s F:=by
 obtain⟨m,o⟩:=Z
 replace a:=(cq (fg:=fg) m a).1
 show At f Y G ⟨Wm.forget fg m,qR fg m o⟩ r s F
 refine⟨a.len,λx sl h=>?_,a.mt.sub,a.mt.base,λp hp=>?_,?_,?_⟩
 ·obtain⟨tH,h1,h2⟩:=cm h;have:=a.fk x tH h1;rcases h2 with rfl|⟨rfl,ov,rfl⟩
  ·exact this
  ·exact this
 ·rcases gK.mp hp with hp|hp
  ·exact a.mt.live p (iM _ hp)
  ·obtain rfl:=fN.mp hp;obtain⟨mc,hn,hv⟩:=a.frame;refine⟨mc,hn,λx sl h=>?_⟩;obtain⟨tH,h1,h2⟩:=cm h;rcases h2 with rfl|⟨rfl,ov,rfl⟩
   ·exact hv x _ h1
   ·exact λv q=>nomatch q
 ·intro b hb;exact a.mt.jf b (by rw[je]at hb|-;exact hb)
 ·have:=a.mt.nd;rw[je]at this|-;exact this
theorem At.SN(a:At f Y G Z r s F):own (eS G (j9 fg Z) r)=own (eS G Z r):=by obtain⟨m,o⟩:=Z;rw[nY,nY];exact bQ (·++_) (cq (fg:=fg) m a).2
theorem aI6{α β:Type}(m:H)(a:J α)(b:J β):(a.take m).zip (b.take m)=(a.zip b).take m:=(List.take_zipWith ..).symm
theorem At.cut{kc:bP}(a:At f Y G Z r s F)(h:∀h∈Am Z.m++lU (l7 m Z.o),h<m)(q:f_ kc r)(l:kc.length<=m):
  At f Y G ⟨Z.m,l7 m Z.o⟩ (r.take m) s F/\f_ kc (r.take m)/\∀b∈own (eS G ⟨Z.m,l7 m Z.o⟩ (r.take m)),b∈own (eS G Z r):=by
 have hq:∀hs:J H,(∀h∈hs,h<m)->oz id hs r (r.take m):=λhs hh i hi p hp=>by
  show(r.take m)[i]?=N p
  rw[Xs (hh i hi)];exact hp
 have ez:(r.take m).zip (l7 m Z.o)=(r.zip Z.o).take m:=by rw[Sy];exact aI6 ..
 have vm:PY (own ((r.take m).zip (l7 m Z.o))) (own (r.zip Z.o)):=by rw[ez];exact am (List.take_sublist ..)
 have eo:∀b∈own (eS G ⟨Z.m,l7 m Z.o⟩ (r.take m)),b∈own (eS G Z r):=λb hb=>by
  rw[nY]at hb|-
  rcases gK.mp hb with hb|hb
  ·exact iM _ (vm.mem hb)
  ·exact kj _ hb
 refine⟨⟨?_,a.fk,a.mt.sub,a.mt.base,λp hp=>?_,λb hb=>a.mt.jf b (eo b hb),?_⟩,λi p hp=>?_,eo⟩
 ·rw[Sy,Xu,Xu,a.len]
 ·rcases gK.mp hp with hp|hp
  ·have HV:p∈r.zip Z.o:=by rw[ez]at hp;exact ak0 hp
   have:=OR.fL (f:=id) (.refl _) (hq p.2.refs λi hi=>h i (kj _ (HT.mpr ⟨p.2,(cq4 hp).2,hi⟩))) (λX I u2 e=>e) (a.mt.live p (iM _ HV));rw[O.vM]at this
   exact this
  ·obtain rfl:=fN.mp hp;have:=OR.fL (f:=id) (.refl _) (hq (O.frame G.cells Z.m).refs λi hi=>h i (iM _ hi)) (λX I u2 e=>e) a.frame;rw[O.vM]at this
   exact this
 ·have nd:=a.mt.nd;rw[nY]at nd|-
  exact(vm.append (.refl _)).nodup nd
 ·have:=(vq.mp hp).1;rw[Xs (by omega)]
  exact q i p hp
theorem At.trim{kc:bP}(a:At f Y G Z r s F)(q:f_ kc r)(l:kc.length<=m):
  ∃r',At f Y G (jJ m Z) r' s F/\f_ kc r'/\∀b∈own (eS G (jJ m Z) r'),b∈own (eS G Z r):=by
 unfold Wm.jJ
 split
 ·rename_i h;have hx:=a.cut (Cb.mp h) q l;have x:=hx.1;have y:=hx.2.1;have z:=hx.2.2;exact⟨_,x,y,z⟩
 ·split
  ·rename_i h;have hx:=a.cut (Cb.mp h) q (bR l (ZF _ _));have x:=hx.1;have y:=hx.2.1;have z:=hx.2.2;exact⟨_,x,y,z⟩
  ·exact⟨r,a,q,λX h=>h⟩
theorem At.nt{kc:bP}(a:At f Y G Z r s F)(q:f_ kc r)(l:kc.length<=m)(y:VR f.w r F v u):
  ∃r',At f Y G (nt m v Z) r' s F/\f_ kc r'/\(∀b∈own (eS G (nt m v Z) r'),b∈own (eS G Z r))/\VR f.w r' F v u:=by
 unfold Wm.nt
 split
 ·rename_i h;have h:=Cb.mp h;have hx:=a.cut (λi hi=>h i (by rw[jx];exact kj _ hi)) q l
  have x:=hx.1;have y':=hx.2.1;have z:=hx.2.2;refine⟨_,x,y',z,?_⟩;have:=VR.fL (f:=id) (.refl F) (r':=r.take m) (λi hi p hp=>by
   show(r.take m)[i]?=N p
   rw[Xs (h i (iM _ (iM _ hi)))];exact hp) y
  rw[V.vM]at this
  exact this
 ·exact⟨r,a,q,λX h=>h,y⟩
section
variable{w:bU}{B:bN}{L:uK}
theorem aI7{o:J O}{ρ:J H}{h:H}{x:O}(m:h∈ρ)(e:gw h o=N x):x∈jQ o ρ:=by
 induction ρ with
 |nil=>cases m
 |cons g ρ ih=>
  unfold jQ;rcases iV.mp m with rfl|m
  ·rw[e];exact .head _
  ·exact .tail _ (ih m)
theorem aI8{r:bP}{ρ:J H}(m:h∈ρ)(e:gw h o=N x):(pk r h,x)∈(ρ.map (pk r)).zip (jQ o ρ):=by
 induction ρ with
 |nil=>cases m
 |cons g ρ ih=>
  show _∈(pk r g,_)::(ρ.map (pk r)).zip (jQ o ρ)
  rcases iV.mp m with rfl|m
  ·rw[e];exact .head _
  ·exact .tail _ (ih m)
theorem cv{α β γ δ:Type}{R:α->γ->Prop}{bM:β->γ->Prop}{g:α->bq β}{φ:α->δ}{ψ:β->δ}{vs ws}(z:L2 R vs ws):(∀v∈vs,∀u x,R v u->g v=N x->bM x u/\ψ x=φ v)->∀{ds},rO g vs=N ds->L2 bM ds ws/\ds.map ψ=vs.map φ:=by
 induction z with
 |nil=>exact λX I e=>fU e▸⟨.nil,rfl⟩
 |@cons v w vs ws a z ih=>
  intro k ds;have go:∀q,g v=q->(match q with|some x=>(rO g vs).map (x::·)|none=>ao)=N ds->L2 bM ds (w::ws)/\ds.map ψ=(v::vs).map φ:=λq e h=>by
   induction q with
   |none=>cases h
   |some x=>obtain⟨l,h1,h2⟩:=wm.mp h;have i:=ih (λv m=>k v (.tail _ m)) h1;have j:=k v (.head _) w x a e;exact h2▸⟨.cons j.1 i.1,congr (bQ co3 j.2) i.2⟩
  exact go _ rfl
theorem aI9:x∈jQ o ρ->x=.gone\/∃h,gw h o=N x:=by
 induction ρ with
 |nil=>exact λh=>(vt h).elim
 |cons a ρ ih=>
  have go:∀q,gw a o=q->x∈(match q with|some x=>x|none=>O.gone)::jQ o ρ->x=.gone\/∃h,gw h o=N x:=λq e h=>(iV.mp h).elim (λh=>by
   induction q with
   |none=>exact .inl h
   |some y=>exact .inr ⟨a,h▸e⟩) ih
  exact go _ rfl
theorem cw{r:bP}{F F':bN}{o:J O}{ρ:J H}{h:dH}(sl:iF F F')(cl:∀a∈lU (jQ o ρ),a∈ρ)(lv:∀a∈ρ,∀x,gw a o=N x->OR w r F h (pk r a) x)
  (ow:∀a∈ρ,∀x,gw a o=N x->∀b∈jR (pk r a,x),∀y,h.get? b=N y->F' b=N y){n:H}:
  ∀{v:V}{x:D}{u:aA},(∀a∈v.refs,a∈ρ)->VR w r F v u->tC o n v=N x->DR F' x u:=by
 induction n with
 |zero=>exact λX I e=>nomatch e
 |succ n ih=>
  intro v x u hm y e;have one:∀a,a∈ρ->∀z,gw a o=z->(match z with|some y=>ZH (tC o n) y|none=>ao)=N x->DR F' x (.ref (pk r a).1):=λa ha z g e=>by
   induction z with
   |none=>cases e
   |some y=>
    have l:=lv a ha _ g;have w:=ow a ha _ g;have cl:=λb m=>cl b (HT.mpr ⟨_,aI7 ha g,m⟩);induction y with
    |dl ds=>exact l.elim λX l=>l.elim λX l=>fU e▸ .list (w _ (.head _) _ l.1) (l.2.1.mono sl) l.2.2
    |vl vs=>
     obtain⟨ds,e1,e2⟩:=wm.mp (show(rO (tC o n) vs).map D.list=N x from e)
     obtain⟨_,_,l⟩:=l;have q:=cv (bM:=DR F') (φ:=λX=>()) (ψ:=λX=>()) l.2.1 (λv m u x y e=>⟨ih (λb hb=>cl b (rz.mpr ⟨v,m,hb⟩)) y e,rfl⟩) e1;have q2:=bQ al0 q.2;rw[cO,cO]at q2
     exact e2▸ .list (w _ (.head _) _ l.1) q.1 (q2▸l.2.2)
    |inst c fs=>
     obtain⟨ds,e1,e2⟩:=wm.mp (show(rO (ZG (tC o n)) fs).map (D.obj c)=N x from e)
     obtain⟨_,_,_,l⟩:=l;have q:=cv (bM:=EF (DR F')) (φ:=(·.1)) (ψ:=(·.1)) l.2.2.1 (λv m u x y e=>by
      obtain⟨d,e3,e4⟩:=wm.mp (show(tC o n v.2).map (v.1,·)=N x from e)
      exact e4▸⟨y.mono (g:=λX=>d) λb y=>ih (λb hb=>cl b (rz.mpr ⟨v,m,hb⟩)) y e3,rfl⟩) e1
     exact e2▸ .obj (w _ (.head _) _ l.1) (w _ (.tail _ (.head _)) _ l.2.1) q.1 (q.2▸l.2.2.2)
    |_=>cases e
  cases y with
  |d q=>exact fU e▸q.mono sl
  |@ref a p e1=>have e2:pk r a=p:=bQ (al3 · (0,0)) e1;exact e2▸one a (hm a (.head _)) _ rfl e
  |_=>cases e
end
noncomputable def FZ(o:J aR)(h:dH)(F:bN):bN:=λb=>if b∈o then h.get? b else F b
section
variable{o:J aR}{h:dH}{b:aR}
theorem FZ.at_(m:b∈o)(e:h.get? b=z):FZ o h F b=z:=(dP m:FZ o h F b=h.get? b).trans e
theorem FZ.out(m:b∉o)(e:F b=z):FZ o h F b=z:=(cF m:FZ o h F b=F b).trans e
theorem FZ.le(d:∀a∈o,F a=ao):iF F (FZ o h F):=λb z e=>FZ.out (λm=>by rw[d b m]at e;cases e) e
theorem FZ.cs(e:FZ o h F b=N z):b∈o/\h.get? b=N z\/F b=N z:=
 (cp7 (b∈o)).elim (λm=>.inl ⟨m,(dP m:FZ o h F b=_).symm.trans e⟩) λm=>.inr ((cF m:FZ o h F b=_).symm.trans e)
end
theorem aJ0{o:J O}(h:HH v o k):∃ρ x,w_ o [v] ρ=ah/\tC o 20 v=N x/\k (.d x) (mG ρ o):=by
 have go:∀ρ q z,w_ o [v] ρ=q->tC o 20 v=z->(match q with|true=>(match z with|some x=>lV (mG ρ o) λo=>k (.d x) o|none=>bV)|false=>bV)->∃ρ x,w_ o [v] ρ=ah/\tC o 20 v=N x/\k (.d x) (mG ρ o):=λρ q z e1 e2 h=>by
  induction q with
  |false=>exact h.elim
  |true=>induction z with
   |none=>exact h.elim
   |some x=>exact⟨ρ,x,e1,e2,(o5 ..).mp h⟩
 exact go _ _ _ rfl rfl ((HF ..).mp h)
theorem At.HW(a:At f Y G Z r s F)(y:VR f.w r F v u)(h:HH v Z.o k):
  ∃x o' F',k (.d x) o'/\DR F' x u/\At f Y G ⟨Z.m,o'⟩ r s F'/\Go G Z ⟨Z.m,o'⟩ r r s s F F':=by
 obtain⟨ρ,x,q,hx,h⟩:=aJ0 h;obtain⟨nd,lt,s1,s2⟩:=SK q;have g:=MX a.len nd lt;have cx:=a.mt.nd;rw[nY]at cx
 obtain⟨nd1,nd2,db⟩:=qz.mp cx;obtain⟨nd4,nd5,nd6⟩:=qz.mp (g.nodup_iff.mp nd1);have i1:∀b∈own ((ρ.map (pk r)).zip (jQ Z.o ρ)),b∈own (r.zip Z.o):=λb hb=>g.mem_iff.mpr (iM _ hb);have i2:∀b∈own (r.zip (mG ρ Z.o)),b∈own (r.zip Z.o):=λb hb=>g.mem_iff.mpr (kj _ hb);have SO:∀b∈own (r.zip Z.o),b∈own (eS G Z r):=λb hb=>nY▸iM _ hb;have sl:iF F (FZ (own ((ρ.map (pk r)).zip (jQ Z.o ρ))) s.heap F):=FZ.le λb hb=>a.mt.jf b (SO b (i1 b hb));have hr:=cw sl s2 (λb hb z e=>by obtain⟨p,hp⟩:=a.fM e;have q:pk r b=p:=bQ (al3 · (0,0)) hp;exact q▸a.obj hp e) (λb hb z e c hc y hy=>FZ.at_ (rz.mpr ⟨_,aI8 hb e,hc⟩) hy) (λb hb=>s1 b (iM _ hb)) y hx
 have SQ:own (eS G ⟨Z.m,mG ρ Z.o⟩ r)=own (r.zip (mG ρ Z.o))++[G.locals]:=nY;refine⟨x,_,_,h,hr,⟨a.len.trans (SA ..).symm,a.fk,λb z e=>(FZ.cs e).elim (·.2) (a.mt.sub b z),λb z e=>sl b z (a.mt.base b z e),λp hp=>?_,SQ▸λb hb=>?_,SQ▸qz.mpr ⟨nd5,nd2,λb hb=>db b (i2 b hb)⟩⟩,
  .refl _,⟨_,_,rfl⟩,sl,λb z e=>(FZ.cs e).symm.imp id λe=>.inl (SO b (i1 b e.1)),SQ▸λb hb=>.inl (nY▸(gK.mp hb).elim (λhb=>iM _ (i2 b hb)) (kj _)),λX I u2 e=>e⟩
 ·refine(gK.mp hp).elim (λhp=>(bp a.len nd lt hp).elim (λe=>?_) λhp=>?_) λhp=>?_
  ·rw[e];trivial
  ·exact(a.mt.live p (iM _ hp)).step (.refl _) sl λX I u2 e=>e
  ·exact(a.mt.live p (kj _ hp)).step (.refl _) sl λX I u2 e=>e
 ·exact(gK.mp hb).elim (λhb=>FZ.out (λq=>nd6 b q b hb rfl) (a.mt.jf b (SO b (i2 b hb)))) λhb=>FZ.out (λq=>db b (i1 b q) b hb rfl) (a.mt.jf b (nY▸kj _ hb))
section
variable{o:J O}
theorem de(m:l_ f r s F (r.zip o))(el:r.length=o.length)(cl:∀a∈lU o,a<o.length){n:H}{v:V}(hv:∀a∈v.refs,a<o.length)(y:VR f.w r F v u)(e:tC o n v=N x):DR (FZ (own (r.zip o)) s.heap F) x u:=by
 have df:∀{a x},gw a o=N x->(pk r a,x)∈r.zip o:=λ{a x} e=>by
  rw[rQ]at e
  have l:a<r.length:=el▸(vq.mp e).1;exact ak9.mpr ⟨a,P4.mpr ⟨SH l,e⟩⟩
 refine cw (ρ:=kJ o.length) (h:=s.heap) (FZ.le m.jf) (λa ha=>?_) (λa X x e=>m.live _ (df e)) (λa X x e b hb y hy=>FZ.at_ (rz.mpr ⟨_,df e,hb⟩) hy) (λa ha=>Bf.mpr (hv a ha)) y e;obtain⟨x,hx,SR⟩:=HT.mp ha;rcases aI9 hx with e|⟨j,hj⟩
 ·rw[e]at SR;cases SR
 ·exact Bf.mpr (cl a (HT.mpr ⟨x,Km (rQ ..▸hj),SR⟩))
theorem Mt.dk(m:l_ f r s F (r.zip o)):l_ f [] s (FZ (own (r.zip o)) s.heap F) []:=
 ⟨λb z e=>(FZ.cs e).elim (·.2) (m.sub b z),λb z e=>FZ.le m.jf b z (m.base b z e),λX hp=>(vt hp).elim,λX hb=>(vt hb).elim,.nil⟩
end
noncomputable def MZ:ai:= "__debug__"
theorem dq(hs:B5 x Z k)(i:g_ f Y G)(a:At f Y G Z r s F)
  (h:∀v w,k v->VR f.w r F v w->Q w s):av (aP f.prog f.w) A (J6 G x) Q E s:=by
 refine b_ (a.frame) λmc hx=>?_;have SS:=hx.1;have hv:=hx.2;refine nX hs λsl q2 hs=>?_;have hv:=hv _ _ q2;have q2:=i.look (a.fk _ _ q2);induction sl with
 |L ov=>exact nX hs λv q hs=>(hv v q).elim λw g=>aZ<|wpAny_loadName_local i.kind q2 SS g.1 (h v w hs g.2)
 |C c=>
  refine o8 hs λy q3 hs=>?_;induction y with
  |cell ov=>
   refine b_ hv λp hx=>?_;have e1:=hx.1;have e2:=hx.2;refine b_ (a.obj e1 q3) λow hx=>?_;have ic:=hx.1;have z:=hx.2;refine nX hs λv q hs=>?_;refine b_ (z v q) λw hx=>?_;have q4:=hx.1;have y:=hx.2;rw[q4]at ic
   exact aZ<|wpAny_loadName_cell i.kind q2 e2 ic (h v w hs y)
  |_=>exact hs.elim
theorem aJ1(hs:B5 x Z λv=>Q v Z)(hd:(x==MZ)=ak):WE f Y n (.Name x pos) Z Q:=λA s F G E r o i a=>by refine Gq (dq hs i a λv w q y=>mh.oE a y q) hd
theorem dr(S:G.scope.kind=.function)(hx:G.kindOf x=N .globalImplicit)
  (h:av M A (loadGlobal G x) Q E s):av M A (J6 G x) Q E s:=by
 unfold J6;simp only[al4,S,hx,ScopeKind.isAnnotationScope,cr0,ak2,PR];exact h
theorem M0(hg:f.g x=N u)(S:cG x Y=N .globalImplicit)(i:g_ f Y G)(a:At f Y G Z r s F)
  (h:Q u s):av (aP f.prog f.w) A (J6 G x) Q E s:=by
 have hb:=a.mt.stays;have gl:=i.gl;have bi:=i.bi;unfold Cf.g at hg
 cases q3:f.mg x with
 |some v=>
  rw[q3]at hg;cases hg
  exact dr i.kind (i.look S) (aZ<|loadGlobal_global (gl▸f.ng.keeps hb) q3 h)
 |none=>
  rw[q3]at hg
  exact dr i.kind (i.look S) (aZ<|loadGlobal_builtin (gl▸f.ng.keeps hb) q3 (bi▸f.nb.keeps hb) hg h)
theorem aJ2(hg:f.g x=N u)(hv:VR f.w [] f.B v u)(S:cG x Y=N .globalImplicit)(hd:(x==MZ)=ak)(h:Q v Z):WE f Y n (.Name x pos) Z Q:=λA s F G E r o i a=>by refine Gq (M0 hg S i a (mh.oE a (hv.mono (.nil _) a.mt.base) h)) hd
theorem du(h:HO x v m k):∃m',k m'/\∀y,cG y m'=if y=x then N (.L (N v))else cG y m:=by
 induction m generalizing k with
 |nil=>exact h.elim
 |cons p r ih=>
  refine vO (q:=jd x p.1) h (λq h=>?_) λq h=>?_
  ·obtain⟨z,sl⟩:=p;induction sl with
   |L ov=>
    refine⟨_,h,λy=>?_⟩;rw[tF,tF,rP q];by_cases g:y=z
    ·rw[dP g,dP g]
    ·rw[cF g,cF g,cF g]
   |C a=>exact h.elim
  ·refine b_ (ih h) λm' hx=>?_;have h1:=hx.1;have h2:=hx.2;refine⟨_,h1,λy=>?_⟩;rw[tF,tF,h2];by_cases g:y=p.1
   ·rw[dP g,dP g,cF (λe=>Sk q (e.symm.trans g))]
   ·rw[cF g,cF g]
theorem HX(hs:kZ x v Z k)(i:g_ f Y G)(a:At f Y G Z r s F)(hv:VR f.w r F v w)
  (h:∀b9 s',k b9->At f Y G b9 r s' F->Go G Z b9 r r s s' F F->Q () s'):av (aP f.prog f.w) A (F4 G x w) Q E s:=by
 refine b_ (a.frame) λmc hx=>?_;have SS:=hx.1;have hm:=hx.2;refine nX hs λsl q2 hs=>?_;have q3:=i.look (a.fk _ _ q2);induction sl with
 |L ov=>
  refine b_ (du hs) λm' hx=>?_;have h1:=hx.1;have h2:=hx.2;have fk:FK Y m':=λy sl hy=>by
   rw[h2]at hy
   by_cases z:y=x
   ·rw[dP z]at hy;cases hy;subst z;have g:=a.fk _ _ q2;exact g
   ·rw[cF z]at hy;exact a.fk _ _ hy
  refine aZ<|wpAny_storeName_local q3 SS (λh' hn' sb=>?_) (by rw[i.kind];rfl)
  obtain⟨a',g'⟩:=a.aI4 (m':=m') (t:=s.toks+1) fk sb ⟨_,hn',λy sl hy=>by
   rw[h2]at hy
   by_cases z:y=x
   ·rw[dP z]at hy;cases hy
    intro u hu;cases hu;exact⟨w,dP z,hv⟩
   ·rw[cF z]at hy
    have g:=hm y _ hy;induction sl with
    |L ov'=>exact λu hu=>(g u hu).imp λw' e=>⟨(cF z).trans e.1,e.2⟩
    |C h=>exact g⟩
  exact h _ _ h1 a' g'
 |C c=>
  refine o8 hs λy q4 hs=>?_;induction y with
  |cell ov=>
   refine b_ (hm _ _ q2) λp hx=>?_;have e1:=hx.1;have e2:=hx.2;refine b_ (a.obj e1 q4) λow hx=>?_;have ic:=hx.1;have z:=hx.2;refine aZ<|wpAny_storeName_cell i.kind q3 e2 ic λh' ic' sb=>?_;have hx:=a.chg (t:=s.toks) (y:=.cell (N v)) e1 q4 (.head _) rfl sb ⟨N w,ic',λv' q=>by cases q;exact⟨w,rfl,hv⟩⟩
   have a':=hx.1;have g':=hx.2;exact h _ _ hs a' g'
  |_=>exact hs.elim
theorem dA{a:aa}(h:a.natAbs<2^k):P6 a<=k:=by
 unfold P6;by_cases h0:a.natAbs=0
 ·simp[cr1.mp h0]
 ·have:=(cr2 h0).mpr h
  split<;>lia
theorem aJ3{a b:aa}(ha:a.natAbs<2^64):IntMulOk a b:=.of_left (dA ha)
theorem aJ4{a b:aa}(h:b.natAbs<2^128):cr3 a b=ak:=by
 unfold cr3;have d:(if(b==0)=ah then 0 else b.natAbs.log2/30+1)<=300:=by
  by_cases h0:(b==0)=ah
  ·rw[dP h0];exact qw _
  ·rw[cF h0];exact cr4 (eZ (Nat.div_le_div_right (mX ((cr2 λe=>h0 (Xv.mpr (cr1.mp e))).mpr h))) (by decide:128/30<300))
 exact Bool.and_eq_false_iff.mpr (.inl (kq (vj.mpr d)))
theorem aJ5{a b:aa}(h0:0<=b)(h1:b<=100000)(h:a.natAbs<2^64):(P6 a:aa)*b<=2^27:=by
 have h2:(P6 a:aa)<=64:=by have:=dA h;lia
 calc (P6 a:aa)*b<=64*b:=Int.mul_le_mul_of_nonneg_right h2 h0
  _<=2^27:=by lia
theorem aJ6{a b:aa}(h:ZJ op a b λi=>Q (.d (.int i)) Z)(at_:At f Y G Z r s F):av (aP f.prog f.w) A (F5 op (.int a t) (.int b u)) (rR f Y G Z Q r s F) E s:=by
 induction op with
 |Add=>exact aZ<|add_int (.here at_ (.d .int) h)
 |Sub=>exact aZ<|sub_int (.here at_ (.d .int) h)
 |Mult=>exact aZ<|mul_int (.here at_ (.d .int) h.2) (aJ3 h.1.1)
 |Mod=>exact aZ<|mod_int' h.1 (.here at_ (.d .int) h.2)
 |FloorDiv=>exact aZ<|floordiv_int h.1.1 (.here at_ (.d .int) h.2) (.inl (aJ4 h.1.2))
 |BitAnd=>exact aZ<|and_int (.here at_ (.d .int) h)
 |BitOr=>exact aZ<|or_int (.here at_ (.d .int) h)
 |RShift=>exact aZ<|rshift_int h.1 (.here at_ (.d .int) h.2)
 |LShift=>exact aZ<|lshift_int_small h.1.1 (ji h.1.2.1 (by decide)) h.1.2.2 (.here at_ (.d .int) h.2)
 |Pow=>exact aZ<|pow_int h.1.1 (aJ5 h.1.1 h.1.2.1 h.1.2.2) (.here at_ (.d .int) h.2)
 |_=>exact h.elim
@[elab_as_elim] theorem Ay{P:aA->Prop}{v:V}{u:aA}{k:J D->Prop}(y:VR f.w r F v u)(a:At f Y G Z r s F)(h:Bt v Z.o k)(g:∀ds l ws m,k ds->s.heap.get? l=N (iG ws m)->eU F ds ws.toList->ds.length<=1048576->P (.ref l)):P u:=by
 cases y with
 |d y=>exact Sq y h λds l ws n h e=>g ds l ws n h (a.mt.sub _ _ e)
 |ref e=>
  refine o8 h λx q h=>?_;induction x with
  |dl ds=>refine b_ (a.obj e q) λws hx=>?_;refine b_ hx λm hx=>?_;have h1:=hx.1;have h2:=hx.2.1;have h3:=hx.2.2;exact g ds _ ws m h h1 h2 h3
  |_=>exact h.elim
 |_=>exact h.elim
theorem eU.size{F:bN}{ds:J D}{ws:cT aA}(h:eU F ds ws.toList):ws.size=ds.length:=by have:=h.length;rw[oY]at this;exact this.symm
theorem SW{ds:J D}{ws:cT aA}{m:H}(a:At f Y G Z r s F)(y:eU F ds ws.toList)(l:ds.length<=1048576)(q:Q (.d (.list ds)) Z):
  rR f Y G Z Q r s F (.ref s.heap.objs.size) {s with heap:=s.heap.push (iG ws m)}:=by
 refine b_ (a.frozen (o:=iG ws m) rfl) λF' hx=>?_;have e:=hx.1;have a':=hx.2.1;have t':=hx.2.2;exact⟨_,Z,r,F',q,.d (.list e (y.mono t'.grow) l),a',t'⟩
theorem SX{ds:J D}{ws:cT aA}{m:H}(a:At f Y G Z r s F)(y:eU F ds ws.toList)(l:ds.length<=1048576)(q:Q (.d (.tup ds)) Z):
  rR f Y G Z Q r s F (.ref s.heap.objs.size) {s with heap:=s.heap.push (lJ ws m)}:=by
 refine b_ (a.frozen (o:=lJ ws m) rfl) λF' hx=>?_;have e:=hx.1;have a':=hx.2.1;have t':=hx.2.2;exact⟨_,Z,r,F',q,.d (.tup e (y.mono t'.grow) l),a',t'⟩
theorem aJ7{ws jE:cT aA}(a:At f Y G Z r s F)
  (h1:s.heap.get? l=N (iG ws m))(h2:s.heap.get? l'=N (iG jE m'))(y1:eU F x ws.toList)(y2:eU F y jE.toList)(hl:(x++y).length<=1048576)(q:Q (.d (.list (x++y))) Z):
  av (aP f.prog f.w) A (F5 .Add (.ref l) (.ref l')) (rR f Y G Z Q r s F) E s:=by
 have sz:ws.size+jE.size<=gX:=by unfold gX;rw[y1.size,y2.size,<-f6];exact bR hl (by decide)
 refine aZ<|concat_meets ⟨_,h1,rfl⟩ ⟨_,h2,rfl⟩ noFill_list_add seq_list_add PySem.F.slot_list_add PySem.F.entry_list_add (PySem.F.args_list_add_2 _ _) (list_addW l l' ws jE m m' ao ao #[] #[] sz) ⟨h1,h2,?_⟩;exact SW (ws:=ws++jE) (m:=0) a (by rw[Xw];exact y1.append y2) hl q
theorem aJ8(x:aA):∀(k:H)(acc:cT aA),(List.foldl (λx1 x2=>x1++x2) acc (vh k #[x])).toList=acc.toList++vh k x:=λi_=>by
 induction i_ with
 |zero=>exact λacc=>by simp
 |succ k ih=>exact λacc=>by rw[cr5,cr6,ih,cr5];simp
theorem eU.rep{F:bN}(h:DR F x u):∀k,eU F (vh k x) (vh k u)
 |0=>.nil
 |k+1=>.cons h (eU.rep h k)
theorem aJ9{ws:cT aA}{i:aa}(a:At f Y G Z r s F)
  (h1:s.heap.get? l=N (iG ws m))(y1:eU F [x] ws.toList)(lo:-(2^63:aa)<=i)(hl:i<=1048576)(q:Q (.d (.list (vh i.toNat x))) Z):
  av (aP f.prog f.w) A (F5 .Mult (.ref l) (.int i t)) (rR f Y G Z Q r s F) E s:=by
 obtain⟨u,hu,rfl⟩:∃u,DR F x u/\ws=#[u]:=by exact y1.one.imp λu h=>⟨h.2,cp5.mp h.1⟩
 refine aZ<|wpAny_binaryOp_repeat_ref (T:= "list") (U:= "int") (by decide) ⟨_,h1,rfl⟩ (λs'=>typeIs_int s' i t) noFill_list_mul PySem.F.fills_int_mul cr7 repeat_list PySem.F.slot_int_index.lookup
  (Dm cr7 (typeIs_int s i t) PySem.F.entry_int_rmul (PySem.F.args_int_rmul_2 _ _) (int___rmul___int_list i t l #[u] m)
   ⟨h1,rfl,⟨_,h1,rfl⟩,Dm PySem.F.slot_list_mul ⟨_,h1,rfl⟩ PySem.F.entry_list_mul (PySem.F.args_list_mul_2 _ _)
    (AutoListH.list___mul___list_int_3 l #[u] m i t (by simp[Xx];lia) (by simp;lia) (by simp[al5,gX];lia))
    ⟨h1,?_⟩⟩)
 refine SW (m:=0) a ?_ (by simp;lia) q
 have:(if#[u].isEmpty=ah then 0 else i.toNat)=i.toNat:=by simp
 rw[this,aJ8];exact eU.rep hu _
theorem aK0{x y:J D}{ws jE:cT aA}(a:At f Y G Z r s F)
  (e1:F l=N (lJ ws m))(z1:eU F x ws.toList)(l1:x.length<=1048576)(e2:F l'=N (lJ jE m'))(z2:eU F y jE.toList)(l2:y.length<=1048576)(hl:(x++y).length<=1048576)(q:Q (.d (.tup (x++y))) Z):
  av (aP f.prog f.w) A (F5 .Add (.ref l) (.ref l')) (rR f Y G Z Q r s F) E s:=by
 have h1:=a.mt.sub _ _ e1;have h2:=a.mt.sub _ _ e2
 have gQ:∀{bM:PySem.Spec},P7 (gW.«tuple.__add__» ⟨[.ref l,.ref l'],[]⟩) bM->bM A (wants (rR f Y G Z Q r s F) E) s->av (aP f.prog f.w) A (F5 .Add (.ref l) (.ref l')) (rR f Y G Z Q r s F) E s:=
  λg h=>aZ<|concat_meets ⟨_,h1,rfl⟩ ⟨_,h2,rfl⟩ noFill_tuple_add seq_tuple_add PySem.F.slot_tuple_add PySem.F.entry_tuple_add (PySem.F.args_tuple_add_2 _ _) g h
 by_cases c0:ws.isEmpty=ah
 ·rw[cr8]at c0
  subst c0;obtain rfl:=Xy.mp z1.size.symm;exact gQ (tuple_addW0 l l' #[] jE m m' ao ao #[] #[] rfl) ⟨h1,h2,mh.oE a (.d (.tup e2 z2 l2)) q⟩
 ·by_cases c1:jE.isEmpty=ah
  ·rw[cr8]at c1
   subst c1;obtain rfl:=Xy.mp z2.size.symm;rw[j3]at q
   exact gQ (tuple_addW1 l l' ws #[] m m' ao ao #[] #[] c0 rfl) ⟨h1,h2,mh.oE a (.d (.tup e1 z1 l1)) q⟩
  ·exact gQ (tuple_addW2 l l' ws jE m m' ao ao #[] #[] c0 c1 (by unfold gX;rw[z1.size,z2.size,<-f6];exact bR hl (by decide))) ⟨h1,h2,SX (ws:=ws++jE) (m:=0) a (by rw[Xw];exact z1.append z2) hl q⟩
theorem aK1{op:W9}{a b:V}{u v:aA}{Q:V->St->Prop}{A:cQ}{E:aA->aE->Prop}(h:RV op a b Z.o λv=>Q v Z)(at_:At f Y G Z r s F)(ra:VR f.w r F a u)(rb:VR f.w r F b v):av (aP f.prog f.w) A (F5 op u v) (rR f Y G Z Q r s F) E s:=by
 refine vO h (λX h=>jX ra h λi t h=>jX rb h λj t' h=>aJ6 h at_) λX h=>?_;induction op with
 |Mult=>
  refine Ay ra at_ h λds l ws m h h2 h3 X=>?_;induction ds using eT with
  |nil=>exact h.elim
  |cons x ds=>induction ds using eT with
   |nil=>exact jX rb h λi t h=>aJ9 at_ h2 h3 h.1.1 h.1.2 h.2
   |cons X I=>exact h.elim
 |Add=>refine vO h (λX h=>jD ra h λx ra h=>jD rb h λy rb h=>B9 ra h λds l ws n h e1 z1 l1=>B9 rb h λdE l' jE n' h e2 z2 l2=>aK0 at_ e1 z1 l1 e2 z2 l2 h.1 h.2) λX h=>?_;exact Ay ra at_ h λx l ws m h h2 h3 X=>Ay rb at_ h λy l' jE m' h g2 g3 X=>aJ7 at_ h2 g2 h3 g3 h.1 h.2
 |_=>exact h.elim
end
section
open SeqAt
variable{f:Cf}{Y:J (ai×cJ)}{n:H}{Z:St}{e:aT}{G:cL}{r:bP}{s:aE}{F:bN}
theorem aK2{a b:J iW}(h:a.map iX=b.map iX):a=b:=(List.map_inj_right λX I h=>UInt8.toNat_inj.mp h).mp h
abbrev SY(A:cQ)(s:aE)(u v:aA)(q:aD):Prop:=RcAt A s u v q/\RcNeAt A s u v (!q)
abbrev Az(A:cQ)(s:aE)(u v:aA)(q:aD):Prop:=SY A s u v q/\EqAt A s u v q
theorem S0:(kJ k).all (λX=>ah)=ah:=al6.mpr λX I=>rfl
theorem eU.at{F:bN}{ws jE:cT aA}(h:eU F ds ws.toList)(h':eU F ds jE.toList)(j1:j<ws.size)(j2:j<jE.size):∃d∈ds,DR F d ws[j]/\DR F d jE[j]:=by
 have l:j<ds.length:=h.size▸j1;have k:∀{ws:cT aA}(h:eU F ds ws.toList)(q:j<ws.size),DR F ds[j] ws[j]:=λh q=>by
  refine b_ (h.get (i:=j) (mZ l)) λu hx=>?_;have e:=hx.1;have y:=hx.2;rw[rA,Kn q]at e
  rw[fU e];exact y
 exact⟨ds[j],ak8 l,k h j1,k h' j2⟩
theorem aK3{a b:cT iW}(h:a.toList.map iX=b.toList.map iX):Az A s (.bytes a t) (.bytes b u) ah:=by
 have e:=aK2 h;have r:RcAt A s (.bytes a t) (.bytes b u) ah:=λprog w E Q q=>eq_bytes (by rw[e,qy];exact q)
 refine⟨⟨r,λprog w E Q q=>ne_bytes (by rw[e];simpa using q)⟩,λprog w E Q q=>?_⟩
 unfold eqBool;refine cr9 ?_;refine wpAny_ite_split (λCd=>?_) (λX=>?_)
 ·exact ud (co6 (P8 q))
 ·exact ud (r prog w E _ (Ko q))
theorem dL(h:SY A s (.ref a) (.ref b) ah):Az A s (.ref a) (.ref b) ah:=⟨h,by
 by_cases q:a=b
 ·rw[q];exact EqAt.same _
 ·exact EqAt.of_refs q h.1⟩
theorem dT(i j:aa)(t t':H):Az A s (.int i t) (.int j t') (i==j):=⟨⟨RcAt.int_int _ _ _ _,RcNeAt.int_int _ _ _ _⟩,EqAt.int_int _ _ _ _⟩
theorem d0(i j:ai)(t t':H):Az A s (.str i t) (.str j t') (i==j):=⟨⟨RcAt.str_str _ _ _ _,RcNeAt.str_str _ _ _ _⟩,EqAt.str_str _ _ _ _⟩
theorem d3:Az A s .none .none ah:=⟨⟨RcAt.none_none,RcNeAt.none_none⟩,EqAt.same _⟩
theorem d4{A:cQ}(hF:∀a o,F a=N o->s.heap.get? a=N o)(hu:A.units<F8)(ih:∀d u v,E d->DR F d u->DR F d v->EqAt A.in1 s u v ah)(hd:RW E d)(y1:DR F d u)(y2:DR F d v):Az A s u v ah:=by
 have he:∀{ds:J D}{ws jE:cT aA},(∀d∈ds,E d)->eU F ds ws.toList->eU F ds jE.toList->∀j(h1:j<ws.size)(h2:j<jE.size),EqAt A.in1 s ws[j] jE[j] ah:=λhd z1 z2 j h1 h2=>(z1.at z2 h1 h2).elim λd g=>ih d _ _ (hd d g.1) g.2.1 g.2.2
 induction d using Wm.D.casesOn with
 |none=>exact y1.e (y2.e d3)
 |bool b=>exact y1.e (y2.e ⟨⟨by have h:=RcAt.bool_bool (A:=A) (s:=s) b b;rwa [qy]at h,by have h:=RcNeAt.bool_bool (A:=A) (s:=s) b b;rwa [qy]at h⟩,EqAt.same _⟩)
 |int i=>exact y1.e λt=>y2.e λt'=>by have h:=dT (A:=A) (s:=s) i i t t';rwa [qy]at h
 |str x=>exact y1.e λt=>y2.e λt'=>by have h:=d0 (A:=A) (s:=s) x x t t';rwa [qy]at h
 |bytes l=>exact y1.e λb t e X=>y2.e λb' t' e' X=>aK3 (e.symm.trans e')
 |tup ds=>
  refine y1.e λl ws m e1 z1 X=>y2.e λl' jE m' e2 z2 X=>?_;have r1:=RcAt.tuples (A:=A) ⟨_,hF _ _ e1,rfl,_,rfl⟩ ⟨_,hF _ _ e2,rfl,_,rfl⟩ hu (e:=λX=>ah) (he hd z1 z2);have r2:=RcNeAt.tuples (A:=A) ⟨_,hF _ _ e1,rfl,_,rfl⟩ ⟨_,hF _ _ e2,rfl,_,rfl⟩ hu (e:=λX=>ah) (he hd z1 z2);rw[S0,z1.size,z2.size,qy]at r1 r2
  exact dL ⟨r1,r2⟩
 |list ds=>
  refine y1.e λl ws m e1 z1 X=>y2.e λl' jE m' e2 z2 X=>?_;have r1:=RcAt.lists (A:=A) ⟨_,hF _ _ e1,rfl,_,rfl⟩ ⟨_,hF _ _ e2,rfl,_,rfl⟩ (z1.size.trans z2.size.symm) hu (e:=λX=>ah) (he hd z1 z2);have r2:=RcNeAt.lists (A:=A) ⟨_,hF _ _ e1,rfl,_,rfl⟩ ⟨_,hF _ _ e2,rfl,_,rfl⟩ (z1.size.trans z2.size.symm) hu (e:=λX=>ah) (he hd z1 z2);rw[S0]at r1 r2
  exact dL ⟨r1,r2⟩
 |_=>exact hd.elim
theorem aK4(hF:∀a o,F a=N o->s.heap.get? a=N o)(n:H):∀{A:cQ}{d:D}{u v:aA},A.units+n<F8->d.nu n->DR F d u->DR F d v->Az A s u v ah:=by
 induction n with
 |zero=>exact λhu hd y1 y2=>d4 hF hu (λX I u2 h=>h.elim) hd y1 y2
 |succ n ih=>exact λ{A} X I u2 hu hd y1 y2=>d4 hF (eZ (gF _ _) hu) (λX I u2 h y1 y2=>(ih (A:=A.in1) (by show A.units+1+n<F8;rw[wB,rB 1];exact hu) h y1 y2).2) hd y1 y2
noncomputable def lW(x:D)(y:aA):aD:=match x with
 | .int i=>(match y with| .int j X=>j==i|X=>ak)
 | .str a=>(match y with| .str b X=>b==a|X=>ak)
 | .none=>(match y with| .none=>ah|X=>ak)
 |X=>ak
theorem d5(A:cQ)(h:MD a b k)(y1:DR F a u)(y2:DR F b v):k (lW b u)/\Az A s u v (lW b u):=by
 induction a using Wm.D.casesOn with
 |int i=>induction b using Wm.D.casesOn with
  |int j=>exact y1.e λt=>y2.e λt'=>⟨h,dT _ _ _ _⟩
  |none=>exact y1.e λt=>y2.e ⟨h,⟨RcAt.int_none _ _,RcNeAt.int_none _ _⟩,EqAt.int_none _ _⟩
  |_=>exact h.elim
 |str x=>induction b using Wm.D.casesOn with
  |str y=>
   have h:k (jd x y):=h;rw[Sl]at h
   exact y1.e λt=>y2.e λt'=>⟨h,d0 _ _ _ _⟩
  |_=>exact h.elim
 |none=>induction b using Wm.D.casesOn with
  |int j=>exact y1.e (y2.e λt'=>⟨h,⟨RcAt.none_int _ _,RcNeAt.none_int _ _⟩,EqAt.none_int _ _⟩)
  |none=>exact y1.e (y2.e ⟨h,d3⟩)
  |_=>exact h.elim
 |_=>exact h.elim
theorem d6{P:Prop}{A:cQ}(h:RX a b Z.o k)(at_:At f Y G Z r s F)(y1:VR f.w r F a u)(y2:VR f.w r F b v)(hu:A.units+8<F8)(g:∀q,k q->SY A s u v q->P):P:=by
 have M1:A.units<F8:=eZ (gF _ _) hu;refine jD y2 h λy y2 h=>vO h (λe h=>?_) λX h=>jD y1 h λx y1 h=>vO h (λX h=>have e:=d5 (s:=s) A h y1 y2;g _ e.1 e.2.1) λX h=>?_
 ·induction y using Wm.D.casesOn with
  |list dE=>
   induction dE using eT with
   |cons X I=>exact gr e
   |nil=>
    revert g
    refine y2.e λl' jE m' e2 z2 X=>Ay y1 at_ h λds l ws m h h1 z1 X g=>?_;have hl:s.heap.IsList l ws:=⟨_,h1,rfl,_,rfl⟩;have Ez:s.heap.IsList l' jE:=⟨_,at_.mt.sub _ _ e2,rfl,_,rfl⟩;have z0:jE.size=0:=z2.size;have z1:=z1.size;induction ds using eT with
    |nil=>
     have he:∀j(h1:j<ws.size)(h2:j<jE.size),EqAt A.in1 s ws[j] jE[j] ((λX=>ah) j):=λj h1 X=>absurd h1 (by rw[z1];exact xU _)
     have r1:=RcAt.lists (A:=A) hl Ez (z1.trans z0.symm) M1 he;have r2:=RcNeAt.lists (A:=A) hl Ez (z1.trans z0.symm) M1 he;rw[S0]at r1 r2
     exact g _ h ⟨r1,r2⟩
    |cons d ds=>
     have ne:(ws.size !=jE.size)=ah:=by rw[z0,z1];rfl
     exact g _ h ⟨RcAt.lists_lengths hl Ez ne M1,RcNeAt.lists_lengths hl Ez ne M1⟩
  |_=>exact gr e
 ·rw[h.1.1]at y1
  exact g _ h.2 (aK4 at_.mt.sub 8 hu (h.1.1▸h.1.2) y1 y2).1
theorem eh(A:cQ)(y:DR F x v){ws:J aA}(h:yy x ds k)(z:eU F ds ws):k (ws.any (lW x))/\∀u∈ws,EqAt A s u v (lW x u):=by
 induction z generalizing k with
 |nil=>exact⟨h,λX m=>nomatch m⟩
 |cons a z ih=>have h1:=d5 (s:=s) A h a y;have h3:=ih h1.1;exact⟨h3.1,gv.mpr ⟨h1.2.2,h3.2⟩⟩
theorem et(h:vK b Z.o λds=>yy x ds k)(a:At f Y G Z r s F)(y:DR F x v)(y2:VR f.w r F b u):
  ∃q,k q/\(∀Q:aA->aE->Prop,Q (.bool q) s->av (aP f.prog f.w) A (J7 .In v u) Q E s)/\∀Q:aA->aE->Prop,Q (.bool (!q)) s->av (aP f.prog f.w) A (J7 .NotIn v u) Q E s:=by
 refine vO h (λX h=>jD y2 h λX y2 h=>B9 y2 h λds l ws m h e z X=>?_) λX h=>Ay y2 a h λds l ws m h e z X=>?_
 ·have g:=eh (s:=s) A.in1 y h z;have ht:s.heap.IsTuple l ws:=⟨_,a.mt.sub _ _ e,rfl,_,rfl⟩;have he:∀u∈ws,EqAt A.in1 s u v (lW x u):=λu hu=>g.2 u (Kp.mpr hu);have e:ws.toList.any (lW x)=ws.any (lW x):=Xz ..;exact⟨_,g.1,λQ q=>aZ<|in_tupleAt (lW x) ht he (e▸q),λQ q=>aZ<|notIn_tupleAt (lW x) ht he (e▸q)⟩
 ·have g:=eh (s:=s) A.in1 y h z;have ht:s.heap.IsList l ws:=⟨_,e,rfl,_,rfl⟩;have he:∀u∈ws,EqAt A.in1 s u v (lW x u):=λu hu=>g.2 u (Kp.mpr hu);have e:ws.toList.any (lW x)=ws.any (lW x):=Xz ..;exact⟨_,g.1,λQ q=>aZ<|in_listAt (lW x) ht he (e▸q),λQ q=>aZ<|notIn_listAt (lW x) ht he (e▸q)⟩
theorem S1{v:V}(y:VR f.w r F v u):(u==al7)=v.o6:=
 y.rec (motive:=λv u X=>(u==al7)=v.o6) (λy=>y.out.rec (motive:=λx u X=>(u==al7)=x.o6) rfl rfl rfl rfl (λX=>rfl) rfl (λX I u2=>rfl) (λX I u2=>rfl) λX I u2 u3=>rfl) (λX=>rfl) (λX I u2=>rfl) (λX I u2=>rfl) λX I u2=>rfl
theorem ew{α:Type}(x y:aa)(a:α)(r:J (aa×α)):qQ x ((y,a)::r)=if x=y then N a else qQ x r:=by
 rw[qQ];by_cases h:x=y
 ·rw[dP h,nL h]
 ·rw[cF h,kq h]
section
variable{prog:iU}{w:bU}{κ:Type}[Kq κ]{knd:KeyKind prog w κ}{vs:J (κ×D)}{es:J jN}
theorem aK5{k x:κ}{kv u:aA}{h:aa}(i:knd.is x kv=ah):wC knd.is ((⟨h,kv,u⟩:jN)::es).toArray k=if k=x then N u else wC knd.is es.toArray k:=by
 unfold wC;rw[al8,al8,cs0];by_cases q:k=x
 ·rw[dP q,q,i];rfl
 ·rw[cF q,zL.mpr λj=>q (knd.inj _ _ _ j i)]
theorem L2.find{k:κ}{lk:J (κ×D)->bq D}(l0:lk []=ao)(l1:∀x a r,lk ((x,a)::r)=if k=x then N a else lk r)(z:L2 (KE knd.is knd.hash F) vs es):(yz (lk vs)=(wC knd.is es.toArray k).isSome)/\∀v,lk vs=N v->∃u,wC knd.is es.toArray k=N u/\DR F v u:=by
 induction z with
 |nil=>rw[l0];exact⟨rfl,λX h=>nomatch h⟩
 |cons a z ih=>
  refine a.rec λi d=>?_
  ·rw[aK5 i,l1]
   split
   ·exact⟨rfl,λv h=>⟨_,rfl,fU h▸d⟩⟩
   ·exact ih
theorem L2.keys(z:L2 (KE knd.is knd.hash F) vs es):KeysOf knd es.toArray:=by
 have:∀e∈es,∃k,knd.is k e.key=ah/\e.hash=knd.hash k:=by
  induction z with
  |nil=>exact λX h=>nomatch h
  |cons a z ih=>exact gv.mpr ⟨a.rec λi X=>⟨_,i,rfl⟩,ih⟩
 exact λe he=>this e (List.mem_toArray.mp he)
theorem M3(h:s.heap.get? a=N (mY es m))(z:L2 (KE knd.is knd.hash F) vs es):s.heap.MapOf knd a (λk=>wC knd.is es.toArray k):=
 ⟨_,es.toArray,m,h,⟨rfl,rfl,rfl⟩,rfl,z.keys,λX=>rfl⟩
end
theorem ey{w:bU}{prog:iU}{k:aa}{vs:J (aa×D)}{es:J jN}(z:So F vs es):(yz (qQ k vs)=(wC (F9 prog w).is es.toArray k).isSome)/\∀v,qQ k vs=N v->∃u,wC (F9 prog w).is es.toArray k=N u/\DR F v u:=L2.find (knd:=F9 prog w) rfl (ew k) z
theorem Yt{w:bU}{prog:iU}{vs:J (ai×D)}{es:J jN}(z:Sp w F vs es):(yz (cG k vs)=(wC (F_ prog w).is es.toArray k).isSome)/\∀v,cG k vs=N v->∃u,wC (F_ prog w).is es.toArray k=N u/\DR F v u:=L2.find (knd:=F_ prog w) rfl (tF k) z
theorem QN{prog:iU}{w:bU}(x:aa)(t:H):(F9 prog w).is x (.int x t)=ah:=qy x
theorem S2{prog:iU}{w:bU}(x:ai)(t:H):(F_ prog w).is x (.str x t)=ah:=qy x
theorem EA{E:aA->aE->Prop}(h:tE op a b Z.o k)(o:Ok n A)(at_:At f Y G Z r s F)(y1:VR f.w r F a u)(y2:VR f.w r F b v)
  (g:∀q t,k q->Q (.bool q) {s with toks:=t}):av (aP f.prog f.w) A (J7 op u v) Q E s:=by
 have hu:A.units+8<F8:=eZ (Kr (bR (gF _ _) o.units) 8) (by decide:9800+8<F8)
 have eA:b.o6=ah->v=.none:=λq=>eq_of_beq ((S1 y2).trans q);induction op with
 |Eq=>exact d6 h at_ y1 y2 hu λq h e=>aZ<|e.1 f.prog f.w E Q (g q s.toks h)
 |NotEq=>exact d6 (k:=λq=>k (!q)) h at_ y1 y2 hu λq h e=>aZ<|e.2 f.prog f.w E Q (g (!q) s.toks h)
 |Is=>have h:=l9 h;rw[eA h.1];exact aZ<|is_none (by rw[S1 y1];exact g _ s.toks h.2)
 |IsNot=>have h:=l9 h;rw[eA h.1];exact aZ<|isNot_none (by rw[S1 y1];exact g _ s.toks h.2)
 |In=>
  have gen:(iS a λx=>vK b Z.o λds=>yy x ds k)->av (aP f.prog f.w) A (J7 .In u v) Q E s:=λh=>jD y1 h λx y1 h=>(et (A:=A) (E:=E) h at_ y1 y2).elim λq e=>e.2.1 Q (g _ s.toks e.1);induction b with
  |nN es=>exact jX y1 h λi t h=>y2.e λa es n e z ne=>aZ<|wpAny_in_of (QN _ _) ne (M3 (knd:=F9 f.prog f.w) (at_.mt.sub _ _ e) z) (by rw[<-(ey (prog:=f.prog) (w:=f.w) z).1];exact g _ _ h)
  |uq es=>exact jD y1 h λx y1 h=>Ex y1 h λi t h=>y2.e λa es n e z ne=>aZ<|wpAny_in_of (S2 _ _) ne (M3 (knd:=F_ f.prog f.w) (at_.mt.sub _ _ e) z) (by rw[<-(Yt (prog:=f.prog) z).1];exact g _ _ h)
  |_=>exact gen h
 |NotIn=>exact jD y1 h λx y1 h=>(et (A:=A) (E:=E) h at_ y1 y2).elim λq e=>e.2.2 Q (g _ s.toks e.1)
 |Lt=>exact jX y1 h λi t h=>jX y2 h λj t' h=>aZ<|lt_int (g _ s.toks h)
 |LtE=>exact jX y1 h λi t h=>jX y2 h λj t' h=>aZ<|le_int (g _ s.toks h)
 |Gt=>exact jX y1 h λi t h=>jX y2 h λj t' h=>aZ<|gt_int (g _ s.toks h)
 |GtE=>exact jX y1 h λi t h=>jX y2 h λj t' h=>aZ<|ge_int (g _ s.toks h)
theorem eC(h:Aq v k)(y:VR f.w r F v u)(g:∀q,k q->Q q s):av (aP f.prog f.w) A (J9 u) Q E s:=by
 refine jD y h λx y h=>?_;induction x using Wm.D.casesOn with
 |bool b=>exact y.e (aZ<|Ko (g _ h))
 |int i=>exact y.e λt=>aZ<|truthy_int (g _ h)
 |_=>exact h.elim
theorem aK6{a b:Prop}(h:dh q a b):(q=ah/\a)\/(q=ak/\b):=by cases q;exact .inr ⟨rfl,h⟩;exact .inl ⟨rfl,h⟩
theorem aK7{r:aT}
  (h:WE f Y n l Z λa aI=>WE f Y n r aI λb b3=>RV op a b b3.o λv=>Q v b3):WE f Y n (.BinOp l op r pos) Z Q:=λA s F G E r o i a=>
 ar7 (h.run o i a λv wa aI bY cz aF h₁ cX b7 b8=>h₁.run o i b7 λb wb b3 iB iH cj dw gU e_ c9=>gG (aK1 dw e_ (cX.mono c9.fM c9.grow) gU) (λw s' p=>.of b8 (.of c9 p)) λX I z=>z)
theorem aK8(h:WE f Y n x Z λa aI=>jk a λi=>Q (.d (.int (-i))) aI):WE f Y n (.UnaryOp .USub x pos) Z Q:=λA s F G E r o i a=>ar6 (h.run o i a λv wa aI bY cz aF h₁ cX b7 b8=>jX cX h₁ λi t h₁=>aZ<|neg_int (.of b8 (.here b7 (.d .int) h₁)))
theorem aK9{r:aT}
  (h:WE f Y n l Z λa aI=>WE f Y n r aI λb b3=>tE op a b b3.o λq=>Q (.d (.bool q)) b3)(hm:J8 op r=ak):
  WE f Y n (.Compare l [op] [r] pos) Z Q:=λA s F G E r o i a=>
 ar8 (h.run o i a λv wa aI bY cz aF h₁ cX b7 b8=>h₁.run o i b7 λb wb b3 iB iH cj dw gU e_ c9=>EA dw o e_ (cX.mono c9.fM c9.grow) gU λq t g=>.of b8 (.of c9 (.here e_ (.d .bool) g))) hm
theorem aL0{r:aT}
  (h:WE f Y n l Z λa aI=>WE f Y n r aI λb b3=>tE op a b b3.o λq=>Q q b3)(hm:J8 op r=ak):
  WT f Y n (.Compare l [op] [r] pos) Z Q:=λA s F G E r o i a=>
 ar9 (h.run o i a λv wa aI bY cz aF h₁ cX b7 b8=>h₁.run o i b7 λb wb b3 iB iH cj dw gU e_ c9=>EA dw o e_ (cX.mono c9.fM c9.grow) gU λq t g=>aZ<|Ko (.of b8 (.of c9 (.here e_ rfl g)))) hm
def eD(f:Cf)(Y:J (ai×cJ))(n:H)(o1 o2:CmpOp)(e1 e2:aT)(a:V)(Z:St)(Q:aD->St->Prop):Prop:=
 WE f Y n e1 Z λb b3=>tE o1 a b b3.o λq=>dh q (WE f Y n e2 b3 λc iI=>tE o2 b c iI.o λq=>Q q iI) (Q ak b3)
theorem aL1(h:WE f Y n l Z λa aI=>eD f Y n o1 o2 e1 e2 a aI Q)(hm:Xb [o1,o2] [e1,e2]=ak):
  WT f Y n (.Compare l [o1,o2] [e1,e2] pos) Z Q:=λA s F G E r o i a=>by
 refine as1 (h.run o i a λv wa aI bY cz aF h₁ cX b7 b8=>?_) hm;refine aJ (iP (WX.run h₁ o i b7 λb wb b3 iB iH cj dw gU e_ c9=>?_));refine aJ (qE (aJ (iP (EA dw o e_ (cX.mono c9.fM c9.grow) gU λq t g=>?_))));refine aJ (aZ<|Xd (aJ (iP (aZ<|Ko ?_))));induction q with
 |true=>rw[dP rfl];refine aJ (iP (WX.run g o i (e_.tok t) λc wc iI i8 i9 dU ku qU jo gx=>?_));exact aJ (qE (aJ (DG (EA ku o jo (gU.mono gx.fM gx.grow) qU λq t' g=>iP (aZ<|Ko (.of b8 (.of c9 (.of (.tok ..) (.of gx (.here jo rfl g))))))))))
 |false=>rw[cF rm];exact bg (.of b8 (.of c9 (.here e_ rfl g)))
theorem aL2(h:WT f Y n x Z λb aI=>Q (!b) aI):WT f Y n (.UnaryOp .Not x pos) Z Q:=λA s F G E r o i a=>as3 (gG (h A s F G E r o i a) (λX I p=>p.rec λb b9 r' F' q e a' t=>⟨!b,b9,r',F',q,bQ _ e,a',t⟩) λX I z=>z)
theorem aL3{es:J aT}(h:Ax f Y n op es Z Q):WT f Y n (.BoolOp op es pos) Z Q:=λA s F G E r o i a=>as4 (h A s F G E r o i a)
theorem aL4(h:Q ah Z):Ax f Y n .And [] Z Q:=λX I u2 u3 u4 u5 u6 u7 a=>aZ<|wpAny_allTrue_And_nil (.oE a rfl h)
theorem aL5(h:Q ak Z):Ax f Y n .Or [] Z Q:=λX I u2 u3 u4 u5 u6 u7 a=>aZ<|wpAny_allTrue_Or_nil (.oE a rfl h)
theorem aL6(h:WT f Y n x Z λb aI=>dh b (Ax f Y n .And l aI Q) (Q ak aI)):Ax f Y n .And (x::l) Z Q:=λA s F G E r o i a=>by
 refine as5 (h.run o i a λb w aI bY cz aF h₁ cX b7 b8=>?_);rw[<-cX];cases b
 ·exact .of b8 (.oE b7 rfl h₁)
 ·exact gG (h₁ A aF cz G E bY o i b7) (λX I p=>.of b8 p) λX I z=>z
theorem aL7(h:WT f Y n x Z λb aI=>dh b (Q ah aI) (Ax f Y n .Or l aI Q)):Ax f Y n .Or (x::l) Z Q:=λA s F G E r o i a=>by
 refine as6 (h.run o i a λb w aI bY cz aF h₁ cX b7 b8=>?_);rw[<-cX];cases b
 ·exact gG (h₁ A aF cz G E bY o i b7) (λX I p=>.of b8 p) λX I z=>z
 ·exact .of b8 (.oE b7 rfl h₁)
theorem aL8(h:WE f Y n e Z λv aI=>Aq v λq=>Q q aI)
  (he:∀G oR,oV e G oR=(do let v<-oR;su e.pos;A8 [v] (J9 v))):WT f Y n e Z Q:=λA s F G E r o i a=>
 as2 (h.run o i a λv wa aI bY cz aF h₁ cX b7 b8=>eC h₁ cX λq g=>.of b8 (.oE b7 rfl g)) (he _ _)
theorem aL9(h:WT f Y n t Z λq aI=>dh q (WE f Y n a aI Q) (WE f Y n b aI Q)):WE f Y n (.IfExp t a b pos) Z Q:=λA s F G E r o i a=>by refine ar5 (h.run o i a λq w aI bY cz aF h₁ cX b7 b8=>?_);rw[<-cX];cases q<;>exact gG (h₁ A aF cz G E bY o i b7) (λw s' p=>.of b8 p) λX I z=>z
end
section
variable{f:Cf}{Y:J (ai×cJ)}{n:H}{Z:St}{e:aT}{G:cL}{r:bP}{s:aE}{F:bN}
theorem aM0{i:aa}(h:Q (.d (.int i)) Z):WE f Y n (.Constant (.int i) k pos) Z Q:=λX I u2 u3 u4 u5 u6 u7 a=>aZ<|wpAny_Constant_int (.here a (.d .int) h)
theorem aM1(h:Q (.d (.bool b)) Z):WE f Y n (.Constant (.bool b) k pos) Z Q:=λX s I u2 u3 u4 u5 u6 a=>aZ<|wpAny_Constant_bool (.oE a (.d .bool) h)
theorem aM2(h:Q (.d .none) Z):WE f Y n (.Constant .none k pos) Z Q:=λX s I u2 u3 u4 u5 u6 a=>aZ<|wpAny_Constant_none (.oE a (.d .none) h)
theorem aM3(h:Q (.d (.str x)) Z):WE f Y n (.Constant (.str x) k pos) Z Q:=λX I u2 u3 u4 u5 u6 u7 a=>aZ<|wpAny_Constant_str (.here a (.d .str) h)
theorem aM4(h:WE f Y n x Z Q):WX f Y (λr F=>VR f.w r F) n (λG=>Dn pos op (wu [x] G)) Z Q:=h
theorem aM5
  (h:WE f Y n x Z λv aI=>Aq v λq=>match op with
   | .And=>dh q (WX f Y (λr F=>VR f.w r F) n (λG=>Dn pos op (wu (y::l) G)) aI Q) (Q v aI)
   | .Or=>dh q (Q v aI) (WX f Y (λr F=>VR f.w r F) n (λG=>Dn pos op (wu (y::l) G)) aI Q)):
  WX f Y (λr F=>VR f.w r F) n (λG=>Dn pos op (wu (x::y::l) G)) Z Q:=λA s F G E r o i a=>by
 refine aJ (h.run o i a λv w aI bY cz aF h₁ cX b7 b8=>aJ (qE (aJ (iP (eC h₁ cX λq g1=>?_)))));have go:WX f Y (λr F=>VR f.w r F) n (λG=>Dn pos op (wu (y::l) G)) aI Q->av (aP f.prog f.w) A (Dn pos op (wu (y::l) G)) (mh f Y (λr F=>VR f.w r F) G Z Q r s F) E aF:=λg=>gG (g A aF cz G E bY o i b7) (λw s' p=>.of b8 p) λX I z=>z;have no:Q v aI->av (aP f.prog f.w) A (pure w) (mh f Y (λr F=>VR f.w r F) G Z Q r s F) E aF:=λg=>bg (.of b8 (.oE b7 cX g));induction op with
 |And=>induction q with
  |true=>exact go g1
  |false=>exact no g1
 |Or=>induction q with
  |true=>exact no g1
  |false=>exact go g1
theorem aM6(h:WX f Y (λr F=>VR f.w r F) n (λG=>Dn pos op (wu es G)) Z Q):WE f Y n (.BoolOp op es pos) Z Q:=h
theorem aM7{G:cL}(hm:Xb [o1,o2] [e1,e2]=ak):Xc [o1,o2] [e1,e2] (wu [e1,e2] G)=[cM e1 G,cM e2 G]:=by
 have:J8 o2 e2=ak:=hm
 show cM e1 G::Xc [o2] [e2] [cM e2 G]=_
 show cM e1 G::[cs1 o2 e2 (cM e2 G)]=_
 unfold cs1;rw[this]
theorem aM8(h:WE f Y n l Z λa aI=>eD f Y n o1 o2 e1 e2 a aI λq Z=>Q (.d (.bool q)) Z)(hm:Xb [o1,o2] [e1,e2]=ak):
  WE f Y n (.Compare l [o1,o2] [e1,e2] pos) Z Q:=λA s F G E r o i a=>by
 show av _ A (do compareChain pos (<-cM l G) [o1,o2] (Xc [o1,o2] [e1,e2] (wu [e1,e2] G))) _ E s
 rw[aM7 hm];refine aJ (h.run o i a λv wa aI bY cz aF h₁ cX b7 b8=>?_);refine aJ (iP (WX.run h₁ o i b7 λb wb b3 iB iH cj dw gU e_ c9=>?_));refine aJ (qE (aJ (iP (EA dw o e_ (cX.mono c9.fM c9.grow) gU λq t g=>?_))));refine aJ (aZ<|Xd (aJ (iP (aZ<|Ko ?_))));induction q with
 |true=>rw[dP rfl];refine aJ (iP (WX.run g o i (e_.tok t) λc wc iI i8 i9 dU ku qU jo gx=>?_));exact aJ (qE (DG (EA ku o jo (gU.mono gx.fM gx.grow) qU λq t' g=>.of b8 (.of c9 (.of (.tok ..) (.of gx (.here jo (.d .bool) g)))))))
 |false=>rw[cF rm];exact bg (.of b8 (.of c9 (.here e_ (.d .bool) g)))
theorem eI(h:Q [] Z):qT f Y n [] Z Q:=λX I s F u2 u3 r u4 u5 a=>as8 ⟨[],Z,r,F,h,.nil,a,.refl ..⟩
def kd(l:J H)(e:aT):aD:=eK e.ctorIdx l
noncomputable def uL:aT:=.Name (az []) ⟨0,0,0,0⟩
structure EP where
 l:J aT
 ks:J aT:=[]
 n:H:=0
 s:ly:=default
def eP(x:aT):EP:=match x with
 | .BoolOp X l I=>⟨l,[],0,default⟩
 | .BinOp l X r I=>⟨[l,r],[],0,default⟩
 | .UnaryOp X x I=>⟨[x],[],0,default⟩
 | .IfExp t a b X=>⟨[t,a,b],[],0,default⟩
 | .Dict ks vs I=>⟨vs,ks.map (·.getD uL),0,default⟩
 | .ListComp e gs s I=>⟨e::gs.flatMap λg=>g.target::g.iter::g.ifs,[],0,s⟩
 | .Compare l X rs I=>⟨l::rs,[],0,default⟩
 | .Call f l X I=>⟨f::l,[],0,default⟩
 | .Constant X k I=>⟨[],[],k,default⟩
 | .Attribute v X I=>⟨[v],[],0,default⟩
 | .Subscript a i X=>⟨[a,i],[],0,default⟩
 | .List l X=>⟨l,[],0,default⟩
 | .Tuple l k I=>⟨l,[],k,default⟩
 | .Slice lo hi X I=>⟨[lo.getD uL,hi.getD uL],[],0,default⟩
 |X=>⟨[],[],0,default⟩
def xj(e:aT):aD:=!(kd [22] e)
theorem HY{e:aT}{r:J aT}{G:cL}(h:xj e=ah):lQ (e::r) G=(ak,cM e G)::lQ r G:=by cases e<;>first|rfl|exact gr h
theorem S3(h:WE f Y n e Z λv aI=>qT f Y n l aI λvs b3=>Q (v::vs) b3)(hp:xj e=ah):qT f Y n (e::l) Z Q:=
 λpos A s F G E r o i a=>by
 refine as7 (h.run o i a λv wa aI bY cz aF h₁ cX b7 b8=>WX.run (h₁ pos) o i b7 λb wb b3 iB iH cj dw gU e_ c9=>?_) (HY hp);exact⟨_,b3,iB,iH,dw,.cons (cX.mono c9.fM c9.grow) gU,e_,b8.trans c9⟩
theorem S4{α:Type}{l:J α}(h:nJ (len l) 1000=ah):l.length<=1000:=by rw[nc]at h;exact PZ h
theorem S5{vs:J V}{ds:J D}(e:nV vs=N ds):ds.length=vs.length:=Z2 e▸(cO _).symm
theorem aM9{vs:J V}{ws:J aA}(h:RT vs Q)(y:gh f.w r F vs ws)(hl:vs.length<=1048576)(e:F a=N (lJ ws.toArray m)):∃v,Q v/\VR f.w r F v (.ref a):=by
 have go:∀o,nV vs=o->(match o with|some ds=>Q (.d (.tup ds))|none=>Es vs λa b=>iS a λx=>hO b λh=>Q (.pr x h))->∃v,Q v/\VR f.w r F v (.ref a):=λo q h=>by
  induction o with
  |some ds=>exact⟨_,h,.d (.tup e (y.nV q) (S5 q▸hl))⟩
  |none=>
   revert e
   refine Sv y h λv u v' u' y y' h=>?_;refine jD y h λx y h=>?_;exact Av y' h λi p q h e=>⟨_,h,.pr e y q⟩
 exact go _ rfl h
theorem aN0(h:qT f Y n es Z λvs aI=>dh (nJ (len vs) 1000) (RT vs λv=>Q v aI) bV):WE f Y n (.Tuple es k pos) Z Q:=λA s F G E r o i a=>by
 refine Yo ((h _).run o i a λvs ws aI bY cz aF h₁ cX b7 b8=>?_);have hx:=l9 h₁;have hl:=hx.1;have hq:=hx.2;have hl:=S4 hl;refine⟨by rw[<-cX.length];exact bR hl (by unfold gX;decide),?_⟩
 refine b_ (b7.frozen (o:=lJ ws.toArray 0) rfl) λF' hx=>?_;have e:=hx.1;have a':=hx.2.1;have t':=hx.2.2;refine b_ (aM9 hq (cX.Ew t'.fM t'.grow) (bR hl (by decide)) e) λv hx=>?_
 have hq:=hx.1;have y:=hx.2;exact⟨_,aI,bY,F',hq,y,a',b8.trans t'⟩
theorem aN1{vs:J V}{ws:cT aA}{m:H}(h:iC lv vs Z.o λv o=>Q v ⟨Z.m,o⟩)(a:At f Y G Z r s F)(y:gh f.w r F vs ws.toList)(hl:vs.length<=1048576):
  rR f Y G Z Q r s F (.ref s.heap.objs.size) {s with heap:=s.heap.push (iG ws m)}:=by
 cases q:nV vs with
 |some ds=>
  have hl:ds.length<=1048576:=by rw[S5 q];exact hl
  induction lv with
  |true=>
   rw[show iC ah vs Z.o (λv o=>Q v ⟨Z.m,o⟩)=(match nV vs with|some ds=>Q (.ref (Wm.len Z.o)) ⟨Z.m,Z.o++[.dl ds]⟩|none=>Q (.ref (Wm.len Z.o)) ⟨Z.m,Z.o++[.vl vs]⟩)from rfl,q]at h
   refine b_ (a.live (o:=iG ws m) (x:=.dl ds) rfl rfl ⟨ws,m,lY _ rfl,y.nV q,hl⟩) λr' hx=>?_;have v:=hx.1;have a':=hx.2.1;have t':=hx.2.2;exact⟨_,_,r',F,h,v,a',t'⟩
  |false=>
   rw[show iC ak vs Z.o (λv o=>Q v ⟨Z.m,o⟩)=(match nV vs with|some ds=>Q (.d (.list ds)) Z|none=>Q (.ref (Wm.len Z.o)) ⟨Z.m,Z.o++[.vl vs]⟩)from rfl,q]at h
   exact SW a (y.nV q) hl h
 |none=>
  have h:Q (.ref (Wm.len Z.o)) ⟨Z.m,Z.o++[.vl vs]⟩:=by unfold iC at h;rw[q]at h;exact h
  refine b_ (a.live (o:=iG ws m) (x:=.vl vs) rfl rfl ⟨ws,m,lY _ rfl,y,hl⟩) λr' hx=>?_;have v:=hx.1;have a':=hx.2.1;have t':=hx.2.2;exact⟨_,_,r',F,h,v,a',t'⟩
theorem aN2(h:qT f Y n es Z λvs aI=>dh (nJ (len vs) 1000) (iC lv vs aI.o λv o=>Q v ⟨aI.m,o⟩) bV):WE f Y n (.List es pos) Z Q:=λA s F G E r o i a=>by
 refine as9 ((h _).run o i a λvs ws aI bY cz aF h₁ cX b7 b8=>?_);have hx:=l9 h₁;have hl:=hx.1;have hq:=hx.2;have hl:=S4 hl;refine⟨by rw[<-cX.length];exact bR hl (by unfold gX;decide),.of b8 ?_⟩
 exact aN1 (ws:=ws.toArray) (m:=0) hq b7 cX (bR hl (by decide))
theorem aN3(h:WE f Y n e Z λv aI=>HH v aI.o λv o=>Q v ⟨aI.m,o⟩):WE f Y n e Z Q:=λA s F G E r o i a=>by refine WX.run h o i a λv wa aI bY cz aF h₁ cX b7 b8=>?_;refine b_ (b7.HW cX h₁) λx hx=>?_;refine b_ hx λo' hx=>?_;refine b_ hx λF' hx=>?_;have q:=hx.1;have y:=hx.2.1;have a':=hx.2.2.1;have t':=hx.2.2.2;exact⟨_,_,bY,F',q,.d y,a',b8.trans t'⟩
end
end Wm
section
namespace Wm
variable{f:Cf}{Y:J (ai×cJ)}{n:H}{Z:St}{e:aT}{G:cL}{r:bP}{s:aE}{F:bN}
section
variable{prog:iU}{w:bU}{A:cQ}{E:aA->aE->Prop}
theorem AA{fT n7:aT}{o i:aA}{T id:jZ}{Q:aA->aE->Prop}(hT:s.TypeIs o T)
  (hl:ue (.type T) "__getitem__"=pure (N (.builtin id)))(h:av (aP prog w) A (Ga o i) Q E s)
  (hs:P9 n7 ak o i=J4 [o,i] (Ga o i)\/P9 n7 ak o i=J4 [i,o] (Ga o i)):av (aP prog w) A (zG fT n7 o i) Q E s:=by
 unfold zG;refine aJ ?_;rw[getitemInPython_of_ne hT.not_modules];refine aJ (aZ<|sC hT hl ?_);have cH:av (aP prog w) A (P9 n7 ak o i) (λr dU=>av (aP prog w) A (cs2 fT o r>>=λX=>pure r) Q E dU) E s:=by
  rcases hs with hs|hs<;>rw[hs]<;>
  exact DG (gG h (λr dU ku=>aJ (aZ<|cs3 (bg ku))) λX I x=>x)
 first
  |exact bg (aJ cH)
  |exact aJ (bg (aJ cH))
  |exact aJ cH
theorem Ce(n7:aT)(o i:aA):P9 n7 ak o i=J4 [o,i] (Ga o i)\/P9 n7 ak o i=J4 [i,o] (Ga o i):=by
 induction n7 using cs4 with
 |Slice X I Z u2=>induction Z with
  |none=>exact .inr rfl
  |some X=>exact .inl rfl
 |_=>exact .inl rfl
end
end Wm
namespace Wl
variable{s:aE}
section
variable{prog:iU}{w:bU}{A:cQ}{E:aA->aE->Prop}
theorem aN4(b n:H)(hb:b<=n):al9 ao (N (b:aa)) 1 (n:aa)=(0,(b:aa)):=by
 unfold al9;have h1:¬((1:aa)<0):=by decide
 have h2:¬((b:aa)<0):=pP.mpr (Dp b);simp only[h1,h2,PR];congr 1;exact cs5 (iN.mpr hb)
theorem aN5(b:H):XA 0 (b:aa) 1=b:=by
 unfold XA;have h1:(1:aa)>0:=by decide
 simp only[h1,if_true,cs6];induction b using jh with
 |zero=>rfl
 |succ k=>rw[dP (show(0:aa)<((k.succ:H):aa)from dF.mpr (jc k)),cs7,cs8,sF]
theorem aN6{sl:aR}{b n:H}{u:Tok}{Q:aa×aa×H->aE->Prop}(hs:s.heap.IsSliceOf sl .none (.int b u) .none)(hb:b<=n)(h:Q (0,1,b) s):
  wpAny (aP prog w) A (cs9 (.ref sl) (pure (n:aa))) Q E s:=by
 refine b_ (id hs) λos hx=>?_;have HZ:=hx.1;have eJ:=hx.2.1;have M4:=hx.2.2;unfold cs9 cF4;refine wpAny_bind (wpAny_bind (Xi HZ M4 (x:=.none) rfl (wpAny_bind (Xi HZ M4 (x:=.int b u) rfl (wpAny_bind (Xi HZ M4 (x:=.none) rfl (wpAny_pure ?_)))))));refine wpAny_bind (ct0 ?_)
 show wpAny _ _ (if((1:aa)==0)=ah then _ else _) _ _ s
 rw[cF (by decide)]
 refine wpAny_bind (ct0 (wpAny_bind (slicePart_int (wpAny_bind (wpAny_pure ?_)))))
 show wpAny _ _ (match al9 ao (N (b:aa)) 1 (n:aa)with|(lo,hi)=>pure (lo,(1:aa),XA lo hi 1)) _ _ s
 rw[aN4 b n hb]
 show wpAny _ _ (pure ((0:aa),(1:aa),XA 0 (b:aa) 1)) _ _ s
 rw[aN5 b];exact wpAny_pure h
theorem aN7(xs:cT aA)(b:H)(hb:b<=xs.size):((kJ b).filterMap λ(k:H)=>xs[((0:aa)+(k:aa)*1).toNat]?).toArray=(xs.toList.take b).toArray:=by
 have e:(λ(k:H)=>xs[((0:aa)+(k:aa)*1).toNat]?)=λk=>xs[0+k]?:=by
  funext k;have:((0:aa)+(k:aa)*1).toNat=0+k:=by rw[ct1,Ks,sF,mW]
  rw[this]
 rw[e];have:=pick_run xs 0 b;rw[List.filterMap_map]at this
 have e2:((λx=>xs[x]?)∘λx=>0+x)=λk=>xs[0+k]?:=rfl;rw[e2]at this
 rw[this,List.drop_zero]
theorem aN8{t sl:aR}{items:cT aA}{b:H}{u:Tok}{Q:aA->aE->Prop}(ht:IsTup s.heap t items)(hs:s.heap.IsSliceOf sl .none (.int b u) .none)(hb:b<=items.size)
  (h0:b=items.size->Q (.ref t) s)
  (h:Q (.ref s.heap.objs.size) {s with heap:=s.heap.push {cls:=.type "tuple",data:=.seq (items.toList.take b).toArray}})
  (hsz:items.size<=gX):wpAny (aP prog w) A (Ga (.ref t) (.ref sl)) Q E s:=by
 have M5:sizeOk (.seq (items.toList.take b).toArray):=by
  show(items.toList.take b).toArray.size<=gX
  rw[PI,Xu,oY];exact bR (Nat.min_le_right _ _) hsz
 refine b_ (id hs) λos hx=>?_;have HZ:=hx.1;have eJ:=hx.2.1;have M4:=hx.2.2;have hTs:s.TypeIs (.ref sl) "slice":=⟨os,HZ,eJ⟩;unfold Ga
 try with_reducible refine wpAny_holding ?_
 first|refine wpAny_bind (wpAny_pure ?_)|skip
 refine wpAny_bind (ct2 ht.typeIs (by decide) ?_)
 refine wpAny_bind (ct3 (name:=cn5 "__getitem__") ht.typeIs Qa
  (XC Qa ht.typeIs entry_tuple_getitem ?_ (args_tuple_getitem _ _)))
 show wpAny _ _ (ct4 (.ref t)>>=_) _ _ s
 refine wpAny_bind (am0 ht ?_);refine wpAny_bind (Gb hTs ?_);rw[dP (by decide)]
 refine wpAny_bind (aN6 hs hb ?_)
 show wpAny _ _ (if((0:aa)==0&&(1:aa)==1&&b==items.size)=ah then _ else _) _ _ s
 by_cases q:b=items.size
 ·have hy:((0:aa)==0&&(1:aa)==1&&b==items.size)=ah:=by simp[q]
  rw[dP hy];refine wpAny_bind (m:=ct5 (.ref t)) ?_;unfold ct5;refine wpAny_bind (Gb ht.typeIs (wpAny_pure ?_));rw[dP (show((Bg "tuple" ==Bg "tuple")=ah)from by decide)]
  exact wpAny_bind (wpAny_rule (wpAny_pure ⟨_,rfl,wpAny_pure (h0 q)⟩))
 ·have H6:¬(((0:aa)==0&&(1:aa)==1&&b==items.size)=ah):=by simp[q]
  rw[cF H6,aN7 items b hb]
  first
   |exact wpAny_bind (m:=XD _) (A_ (wpAny_pure ⟨_,rfl,wpAny_pure h⟩) M5)
   |exact wpAny_bind (m:=XD _) (A_ (wpAny_bind (wpAny_pure (wpAny_pure ⟨_,rfl,wpAny_pure h⟩))) M5)
   |exact wpAny_bind (wpAny_bind (m:=XD _) (A_ (wpAny_pure (wpAny_pure ⟨_,rfl,wpAny_pure h⟩)) M5))
   |exact wpAny_bind (wpAny_bind (m:=XD _) (A_ (wpAny_pure ⟨_,rfl,wpAny_pure h⟩) M5))
end
end Wl
namespace Wm
end Wm
end
namespace Wm
section
variable{f:Cf}{Y:J (ai×cJ)}{n:H}{Z:St}{e:aT}{G:cL}{r:bP}{s:aE}{F:bN}
theorem eM{α:Type}:∀(l:J α)(n:H),uI l n=l[n]?
 |[],n=>rfl
 |X::I,0=>rfl
 |X::r,n+1=>eM r n
theorem eQ{i:aa}{n j:H}(e:(if i<0 then i+n else i)=(j:aa))(h:j<n):Dq i n=N j:=by
 show(if(decide (0<=(if i<0 then i+n else i))&&decide ((if i<0 then i+n else i)<(n:aa)))=ah then N (if i<0 then i+n else i).toNat else ao)=N j
 rw[e,nL (Dp j),nL (dF.mpr h)];rfl
theorem M6{n:H}(h:k<n):Dq (k:aa) n=N k:=eQ (cF (pP.mpr (Dp k))) h
theorem eR(m:H):(-1:aa)+((m+1:H):aa)=m:=by rw[Int.natCast_succ,Ku,Int.add_neg_cancel_right]
theorem M7{n:H}(h:0<n):Dq (-1) n=N (n -1):=by
 induction n using jh with
 |zero=>exact absurd h (vg 0)
 |succ m=>exact eQ ((dP (by decide)).trans (eR m)) (m7 m)
inductive H7(s:aE)(F:bN)(ds:J D):aA->Prop
 |list (l ws m):s.heap.get? l=N (iG ws m)->eU F ds ws.toList->ds.length<=1048576->H7 s F ds (.ref l)
 |tup (l ws m):s.heap.get? l=N (lJ ws m)->eU F ds ws.toList->ds.length<=1048576->H7 s F ds (.ref l)
 |bytes (b:cT iW) (t):ds=fJ (b.toList.map iX)->b.size<=1048576->H7 s F ds (.bytes b t)
theorem M8{P:Prop}(h:vK v Z.o k)(a:At f Y G Z r s F)(y:VR f.w r F v u)
  (g:∀ds l ws m,k ds->(s.heap.get? l=N (iG ws m)\/s.heap.get? l=N (lJ ws m))->eU F ds ws.toList->ds.length<=1048576->u=.ref l->P):P:=
 vO h (λX h=>jD y h λx y h=>by revert g;exact B9 y h λds l ws m h e q z g=>g ds l ws m h (.inr (a.mt.sub _ _ e)) q z rfl) λX h=>by revert g;exact Ay y a h λds l ws m h e q z g=>g ds l ws m h (.inl e) q z rfl
theorem fb{P:Prop}(h:HK v Z.o k)(a:At f Y G Z r s F)(y:VR f.w r F v u)(g:∀ds,k ds->H7 s F ds u->P):P:=
 vO h (λX h=>jD y h λx y h=>by revert g;exact Z6 y h λb t h e g=>g _ h (.bytes b t rfl e)) λX h=>M8 h a y λds l ws m h e q z eu=>g ds h (eu▸e.elim (λe=>.list l ws m e q z) λe=>.tup l ws m e q z)
section
variable{A:cQ}{E Q:aA->aE->Prop}{fT n7:aT}
theorem Yu{ds:J D}{u:aA}{j t:H}{x:D}(h:H7 s F ds u)(hx:ds[j]?=N x)(g:∀w t',DR F x w->Q w {s with toks:=t'}):av (aP f.prog f.w) A (zG fT n7 u (.int j t)) Q E s:=by
 have hj:j<ds.length:=(vq.mp hx).1;have j0:(0:aa)<=j:=Dp j;cases h with
 |list l ws m e z zl=>
  refine b_ (z.get hx) λw hx=>?_;have hw:=hx.1;have yw:=hx.2;rw[rA]at hw
  exact AA (T:= "list") ⟨_,e,rfl⟩ ct6.lookup (aZ<|wpAny_getItem_list ⟨_,e,rfl,_,rfl⟩ j0 (by lia) hw (g w s.toks yw)) (Ce _ _ _)
 |tup l ws m e z zl=>
  refine b_ (z.get hx) λw hx=>?_;have hw:=hx.1;have yw:=hx.2;rw[rA]at hw
  exact AA (T:= "tuple") ⟨_,e,rfl⟩ Qa.lookup (aZ<|ct7 ⟨_,e,rfl,_,rfl⟩ (by lia) (by lia) (M6 (by rw[z.size];exact hj)) hw (g w s.toks yw)) (Ce _ _ _)
 |bytes b t' e hb=>
  have S6:j<b.toList.length:=by rw[e]at hj;simpa[fJ]using hj
  have hx':x=D.int ((b.toList[j]).toNat:aa):=by
   rw[e]at hx
   unfold fJ at hx
   rw[mC,mC,mZ S6]at hx
   exact(fU hx).symm
  refine AA (Dr _ _ _) am1.lookup (aZ ?_) (Ce _ _ _);have q:=getItem_bytes (prog:=f.prog) (w:=f.w) (A:=A) (E:=E) (s:=s) (t:=t') (u:=t) (l:=b.toList) (i:=j) (Q:=Q) (by rw[oY];lia) j0 (dF.mpr S6)
  rw[Array.toArray_toList]at q
  refine q ?_;rw[sF,List.getD_eq_getElem?_getD,mZ S6];exact g _ _ (hx'▸ .int)
theorem au9{ws:cT aA}(h:s.heap.get? l=N (iG ws m)\/s.heap.get? l=N (lJ ws m))(z:eU F (ds++[x]) ws.toList)(g:∀w,DR F x w->Q w s):av (aP f.prog f.w) A (zG fT n7 (.ref l) (.int (-1) t)) Q E s:=by
 have sz:ws.size=ds.length+1:=z.size.trans (by simp)
 refine b_ (z.get (i:=ds.length) (v:=x) (by simp)) λw hx=>?_
 have hw:=hx.1;have yw:=hx.2;rw[rA]at hw
 have e1:(-1:aa)+ws.size=ds.length:=by rw[sz];exact eR _
 rcases h with e|e
 ·exact AA (T:= "list") ⟨_,e,rfl⟩ ct6.lookup (aZ<|wpAny_getItem_list_neg ⟨_,e,rfl,_,rfl⟩ (by decide) (Qc (by rw[sz];exact iN.mpr (jc _))) (by decide) (by rw[e1];exact hw) (g w yw)) (Ce _ _ _)
 ·exact AA (T:= "tuple") ⟨_,e,rfl⟩ Qa.lookup (aZ<|ct7 ⟨_,e,rfl,_,rfl⟩ (by decide) (by decide) (M7 (sz▸jc _)) (by rw[sz];exact hw) (g w yw)) (Ce _ _ _)
theorem S7{a:V}{i:aa}{t:H}{u:aA}{k:V->Prop}(h:ZL a i Z.o k)(at_:At f Y G Z r s F)(y:VR f.w r F a u)(g:∀x w t',k x->VR f.w r F x w->Q w {s with toks:=t'}):av (aP f.prog f.w) A (zG fT n7 u (.int i t)) Q E s:=by
 induction i with
 |ofNat n=>exact fb h at_ y λds h q=>nX h λx e h=>Yu q (eM ds n▸e) λw t' yw=>g _ w t' h (.d yw)
 |negSucc n=>obtain⟨e,h⟩:=l9 h;rw[mV e];exact M8 h at_ y λds l ws m h e q z eu=>by obtain⟨l',x,rfl,h⟩:=h;rw[eu];exact au9 e q λw yw=>g _ w s.toks h (.d yw)
theorem ft{κ:Type}[Kq κ]{knd:XE f.prog f.w κ}{vs:J (κ×D)}{es:J jN}{a:aR}{m:H}{k:κ}{kv:aA}{x:D}(e:s.heap.get? a=N (mY es m))(z:L2 (KE knd.is knd.hash F) vs es)(i:knd.is k kv=ah)(h:∃u,wC knd.is es.toArray k=N u/\DR F x u)(g:∀w t',DR F x w->Q w {s with toks:=t'}):av (aP f.prog f.w) A (zG fT n7 (.ref a) kv) Q E s:=
 h.elim λw h=>AA (M3 e z).typeIs slot_dict_getitem.lookup (aZ<|wpAny_getItem_of i (M3 e z) h.1 (g w _ h.2)) (Ce _ _ _)
theorem aN9(h:RY a b Z.o k)(at_:At f Y G Z r s F)(y1:VR f.w r F a u)(y2:VR f.w r F b v)(g:∀x w t',k x->VR f.w r F x w->Q w {s with toks:=t'}):av (aP f.prog f.w) A (zG fT n7 u v) Q E s:=by
 induction a with
 |nN es=>refine jX y2 h λi t h=>y1.e λa es n e z ne=>?_;refine b_ h λx hx=>?_;have h1:=hx.1;have h2:=hx.2;exact ft (knd:=F9 f.prog f.w) (at_.mt.sub _ _ e) z (QN _ _) ((ey z).2 x h1) λw t' y=>g _ w t' h2 (.d y)
 |uq es=>refine jD y2 h λX y2 h=>Ex y2 h λi t h=>y1.e λa es n e z ne=>?_;refine b_ h λx hx=>?_;have h1:=hx.1;have h2:=hx.2;exact ft (knd:=F_ f.prog f.w) (at_.mt.sub _ _ e) z (S2 _ _) ((Yt z).2 x h1) λw t' y=>g _ w t' h2 (.d y)
 |pr X I=>exact jX y2 h λi t h=>S7 h at_ y1 g
 |d X=>exact jX y2 h λi t h=>S7 h at_ y1 g
 |ref X=>exact jX y2 h λi t h=>S7 h at_ y1 g
theorem aO0{a b:V}{u v:aA}{k:V->Prop}(h:RZ a b Z.o k)(at_:At f Y G Z r s F)(y1:VR f.w r F a u)(y2:VR f.w r F b v)(g:∀x w t',k x->VR f.w r F x w->Q w {s with toks:=t'}):av (aP f.prog f.w) A (zG fT n7 u v) Q E s:=by refine jX y2 h λi t h=>fb h at_ y1 λds h q=>?_;obtain⟨h0,h1,S⟩:=h;obtain⟨j,rfl⟩:=Ds h0;have hx:ds[j]?=N ds[j]:=mZ (dF.mp h1);exact Yu q hx λw t' yw=>g _ w t' (S _ hx) (.d yw)
end
theorem aO1{Q:V->St->Prop}(h:WE f Y n a Z λa aI=>WE f Y n i aI λi b3=>RY a i b3.o λv=>Q v b3):WE f Y n (.Subscript a i pos) Z Q:=λA s F G E r o i' a'=>QI (h.run o i' a' λv wa aI bY cz aF h₁ cX b7 b8=>h₁.run o i' b7 λb wb b3 iB iH cj dw gU e_ c9=>aN9 dw e_ (cX.mono c9.fM c9.grow) gU λx w t' g1 g2=>.of b8 (.of c9 (.here e_ g2 g1)))
theorem aO2{Q:V->St->Prop}(h:WE f Y n a Z λa aI=>WE f Y n i aI λi b3=>RZ a i b3.o λv=>Q v b3):WE f Y n (.Subscript a i pos) Z Q:=λA s F G E r o i' a'=>QI (h.run o i' a' λv wa aI bY cz aF h₁ cX b7 b8=>h₁.run o i' b7 λb wb b3 iB iH cj dw gU e_ c9=>aO0 dw e_ (cX.mono c9.fM c9.grow) gU λx w t' g1 g2=>.of b8 (.of c9 (.here e_ g2 g1)))
inductive Cg:bq aa->aA->Prop
 |none:Cg none .none
 |int {i t}:Cg (N i) (.int i t)
theorem Cg.is(h:Cg x v):IsPart v x:=by cases h;exact .none;exact .int ..
abbrev WO(f:Cf)(Y:J (ai×cJ))(n:H)(e:bq aT):=WX f Y (λX I=>Cg) n (λG=>J_ e G)
theorem aO3{Q:bq aa->St->Prop}(h:Q ao Z):WO f Y n ao Z Q:=λA s F G E r o i a=>Yp (.oE a .none h)
theorem aO4{Q:bq aa->St->Prop}(h:WE f Y n e Z λv aI=>jk v λi=>Q (N i) aI):WO f Y n (N e) Z Q:=λA s F G E r o i a=>at1 (h.run o i a λv wa aI bY cz aF h₁ cX b7 b8=>jX cX h₁ λi t h₁=>.of b8 (.oE b7 .int h₁))
theorem fv{n:H}(h:k<=n):clipAt n (k:aa)=k:=by unfold clipAt;rw[cF (pP.mpr (Dp k)),cs5 (iN.mpr h),Int.max_eq_right (Dp k),sF]
noncomputable abbrev M9(vl vu:aA):fH:={cls:=.type "slice",data:=.fields #[vl,vu,.none]}
theorem aO5{a:V}{u:aA}{lo hi:bq aa}{vl vu:aA}{Q:V->St->Prop}{A:cQ}{E:aA->aE->Prop}{fT lower upper:aT}{el eu:bq aT}{p:gq}(h:R0 a lo hi λv=>Q v Z)(at_:At f Y G Z r s F)(y1:VR f.w r F a u)(hl:Cg lo vl)(hu:Cg hi vu):
  av (aP f.prog f.w) A (zG fT (.Slice el eu ao p) u (.ref s.heap.objs.size)) (rR f Y G Z Q r s F) E {s with heap:=s.heap.push (M9 vl vu)}:=by
 obtain⟨cz,aO6,b7,b8⟩:=at_.frozen (o:=M9 vl vu) rfl;have sl:(s.heap.push (M9 vl vu)).IsSliceOf s.heap.objs.size vl vu .none:=cF5 ..;have Ci:=Ce (.Slice el eu ao p) u (.ref s.heap.objs.size);refine jD y1 h λx y h=>?_;induction x using Wm.D.casesOn with
 |tup ds=>
  revert Ci
  refine y.e λl ws m e z zl Ci=>?_;have sz:=z.size;have sw:ws.size<=gX:=by rw[sz];exact bR zl (by unfold gX;decide)
  have ht:IsTup (s.heap.push (M9 vl vu)) l ws:=⟨_,ko _ (at_.mt.sub _ _ e),rfl,_,rfl⟩;refine AA (s:={s with heap:=s.heap.push _}) ht.typeIs Qa.lookup (aZ ?_) Ci
  have h:ZM ds lo hi λv=>Q v Z:=h;clear Ci aO6;cases hl with
  |none=>cases hu with
   |none=>exact h.elim
   |@int i t=>
    obtain⟨⟨h1,h2⟩,h3⟩:=h;obtain⟨k,rfl⟩:=Ds h1;have h2:k<=ds.length:=iN.mp h2;refine Wl.aN8 (s:={s with heap:=s.heap.push _}) ht sl (by rw[sz];exact h2) (λq=>.of b8 ?_) (.of b8 ?_) sw
    ·have e3:ds.take (k:aa).toNat=ds:=ct8 (by rw[sF,q,sz];exact jO _)
     rw[e3]at h3
     exact .oE b7 (.d (.tup (b8.grow _ _ e) (z.mono b8.grow) zl)) h3
    ·refine SX (m:=0) b7 ?_ (bR (List.length_take_le' _ _) zl) h3;exact(z.take k).mono b8.grow
  |@int i t=>cases hu with
   |int=>exact h.elim
   |none=>
    obtain⟨⟨h1,h2⟩,h3⟩:=h;obtain⟨k,rfl⟩:=Ds (ji (by decide) h1)
    have h2:k<=ds.length:=iN.mp h2;refine getItem_tuple_from (s:={s with heap:=s.heap.push _}) ht sl (iN.mp h1) (by rw[sz];exact h2) (.of b8 ?_) sw
    refine SX (m:=0) b7 ?_ (by rw[ct9];exact bR (Nat.sub_le _ _) zl) h3
    exact(z.drop k).mono b8.grow
 |bytes l=>
  refine nX h λi ei h=>nX h λj ej h=>?_;obtain⟨⟨h1,h2,EB⟩,h3⟩:=h;have il:=hl.is;have iu:=hu.is;rw[ei]at il
  rw[ej]at iu
  revert Ci
  refine y.e λb t eb hb Ci=>?_;rw[eb]at EB h3
  rw[cO,oY]at EB
  obtain⟨i,rfl⟩:=Ds h1;obtain⟨j,rfl⟩:=Ds (ji h1 h2);have EB:=iN.mp EB;have hpk:cu0 b (N i) (N j)=((b.toList.take (j:aa).toNat).drop (i:aa).toNat).toArray:=by rw[KBc.picked_eq];simp only[Option.elim,fv EB,fv (bR (iN.mp h2) EB)];rw[List.drop_take,sF,sF]
  have hs:(cu0 b (N i) (N j)).size<=1048576:=bR (KBc.size_picked_le _ _ _) hb;refine AA (s:={s with heap:=s.heap.push _}) (Dr _ _ _) am1.lookup (aZ<|getItem_meets (Dr _ _ _) (by decide) am1 FB.entry_bytes_getitem (FB.args_bytes_getitem_2 _ _) (KBc.meets_slice2 b t _ il iu)
   ⟨sl,bR (m:=1048576) hs (by unfold gX;decide),λt' k=>.of b8 ?_⟩) Ci
  rw[<-List.map_take,<-List.map_drop,<-ak4 (as:=(b.toList.take (j:aa).toNat).drop (i:aa).toNat),<-hpk]at h3
  exact .here b7 (.d (.bytes hs)) h3
 |_=>exact h.elim
theorem aO7{Q:V->St->Prop}(h:WE f Y n a Z λa aI=>WO f Y n el aI λlo b3=>WO f Y n eu b3 λhi iI=>R0 a lo hi λv=>Q v iI):WE f Y n (.Subscript a (.Slice el eu ao p) pos) Z Q:=λA s F G E r o i a'=>
 QI (h.run o i a' λv wa aI bY cz aF h₁ cX b7 b8=>at0 (h₁.run o i b7 λlo vl b3 iB iH cj dw gU e_ c9=>dw.run o i e_ λhi vu iI i8 i9 dU ku qU jo gx=>Yp
  (gG (aO5 (lower:=a) (upper:=a) ku jo ((cX.mono c9.fM c9.grow).mono gx.fM gx.grow) gU qU) (λX I p=>.of b8 (.of c9 (.of gx p))) λX I z=>z)))
end
end Wm
section
namespace Wm
variable{f:Cf}{Y:J (ai×cJ)}{n:H}{Z:St}{e:aT}{G:cL}{r:bP}{s:aE}{F:bN}
def nm1:J aT->aD
 |[f]=>kd [23] f
 |X=>ak
def EC(e:aT):aD:=!(kd [16] e&&nm1 (eP e).l)
theorem fw{G:cL}(h:EC o=ah):cu1 o attr G oR=oR:=by
 induction o using cs4 with
 |Call f a k p=>
  induction a using eT with
  |nil=>cases f<;>first|rfl|exact gr h
  |cons _ _=>cases f<;>rfl
 |_=>rfl
theorem ED:(am2 x t).isStr y=ah↔x=y:=by simp[Value.isStr]
theorem mK.get(h:mK w r F fs es):(∀v,cG x fs=N v->∃u,Gd x es=N (N u)/\VR w r F v u)/\(cG x fs=ao->Gd x es=N ao):=by
 have fA:es.any (·.refKey)=ak:=h.rec (motive:=λX es I=>es.any (·.refKey)=ak) rfl λa X ih=>a.rec λX=>ih;have find:(∀v,cG x fs=N v->∃en,es.find? (λe=>e.key.isStr x)=N en/\VR w r F v en.val)/\(cG x fs=ao->es.find? (λe=>e.key.isStr x)=ao):=by
  clear fA;induction h with
  |nil=>exact⟨λv h=>(nomatch h),λX=>rfl⟩
  |cons a z ih=>
   refine a.rec λ{y v t X I} a=>?_;rw[tF,cs0];by_cases q:x=y
   ·rw[show(am2 y t).isStr x=ah from ED.mpr q.symm,dP q]
    exact⟨λv' e=>⟨_,rfl,fU e▸a⟩,λe=>nomatch e⟩
   ·rw[show(am2 y t).isStr x=ak from zL.mpr λh=>q (ED.mp h).symm,cF q]
    exact ih
 refine⟨λv e=>?_,λe=>?_⟩
 ·refine b_ (find.1 v e) λen hx=>?_;have g1:=hx.1;have g2:=hx.2;exact⟨_,by unfold Gd;rw[g1],g2⟩
 ·unfold Gd;rw[find.2 e,fA];rfl
theorem L2.toF{fs:J (ai×D)}(h:Sn F fs es):mK w r F (fs.map λp=>(p.1,.d p.2)) es:=L2.fL h λX I u2 z=>z.mono λX=>.d
theorem av0(y:VR w r F v u):handedIn u=ah:=
 y.rec (λy=>y.out.rec rfl rfl rfl rfl (λX=>rfl) rfl (λX I u2=>rfl) (λX I u2=>rfl) λX I u2 u3=>rfl) (λX=>rfl) (λX I u2=>rfl) (λX I u2=>rfl) λX I u2=>rfl
theorem aO8{α:Type}{c:aR}{x:ai}{v:α}{fs:J (ai×α)}(h:∀x∈fs.map (·.1),vJ c x=ah)(e:cG x fs=N v):vJ c x=ah:=by exact h x (qA.mpr ⟨_,Ca e,rfl⟩)
theorem uM(mt:l_ f r s F L):f.K.In s.heap:=f.ff.keeps mt.stays
theorem S8{WV:aD}{A:cQ}{E:aA->aE->Prop}(ff:f.K.In s.heap)(h:xg f.w r F s.heap p c fs)(e:cG x fs=N v)
  (q:∀u,VR f.w r F v u->Q u {s with toks:=s.toks+1}):av (aP f.prog f.w) A (getAttr (.ref p.1) x WV) Q E s:=by
 refine kK λGx gI=>?_;refine b_ h λes hx=>?_;refine b_ hx λm hx=>?_;refine b_ hx λsl hx=>?_;have h1:=hx.1;have h2:=hx.2.1;have y:=hx.2.2.1;have ha:=hx.2.2.2.2;refine b_ ((mK.get y).1 v e) λu hx=>?_;have g1:=hx.1;have g2:=hx.2;have af:=f.aG c x (aO8 ha e);refine b_ (af.fi) λb hx=>?_;have b1:=hx.1;have b2:=hx.2;refine gI ?_;have bG:XF s.heap p.1 ⟨.ref c,N p.2,.plain,sl⟩ c (N (mY es m)):=⟨h1,rfl,rfl,h2⟩;exact aZ<|get_value ff bG (plainGet_of af.pg).1 (findObj_own af.hd b1 b2 g1) (av0 g2) (q u g2)
theorem aO9{WV:aD}{A:cQ}{E:aA->aE->Prop}(h:R1 a x Z.o k)(at_:At f Y G Z r s F)(y:VR f.w r F a u)
  (g:∀v w,k v->VR f.w r F v w->Q w {s with toks:=s.toks+1}):av (aP f.prog f.w) A (getAttr u x WV) Q E s:=by
 induction a with
 |d z=>
  refine y.e λu y=>?_;induction z using Wm.D.casesOn with
  |obj c fs=>refine nX (k:=λv=>k (.d v)) h λv q h=>y.e λl d es m sl e1 e2 z nd=>?_;exact S8 (p:=(l,d)) (v:=.d v) (uM at_.mt) ⟨es,m,sl,at_.mt.sub _ _ e1,at_.mt.sub _ _ e2,L2.toF z,by rw[n9];exact nd.1,by rw[n9];exact nd.2⟩ (by rw[ZZ,q];rfl) λw=>g _ w h
  |_=>exact h.elim
 |ref i=>
  refine y.e λp e1=>o8 h λz q h=>?_;have ob:=at_.obj e1 q;induction z with
  |inst c fs=>exact nX (k:=k) h λv q h=>S8 (uM at_.mt) ob q λw=>g _ w h
  |cur ts=>refine kK λGx gI=>?_;have hx:=l9 h;have q2:=hx.1;have h:=hx.2;refine b_ ob λl hx=>?_;refine b_ hx λi hx=>?_;refine b_ hx λe hx=>?_;have z:=hx.1;refine gI ?_;exact S8 (v:=.d (.int i)) (uM at_.mt) z (by rw[rP q2];rfl) λw=>g _ w (h i)
  |_=>exact h.elim
 |_=>exact h.elim
theorem aP0{pos:gq}{G:cL}(h:EC fT=ah):cM (.Attribute fT attr pos) G=(do
  let o<-cM fT G
  su pos.atName
  let r<-A8 [o] (getAttr o attr ah)
  cs2 fT o r
  pure r):=by
 show(cu1 fT attr G (cM fT G)>>=_)=_
 rw[fw h]
theorem aP1(h:WE f Y n a Z λa aI=>R1 a x aI.o λv=>Q v aI)(hs:EC a=ah):WE f Y n (.Attribute a x pos) Z Q:=λA s F G E r o i a'=>by
 show av _ A (cM (.Attribute a x pos) G) _ E s
 rw[aP0 hs];exact aJ (h.run o i a' λv wa aI bY cz aF h₁ cX b7 b8=>aJ (qE (aJ (iP (aO9 h₁ b7 cX λv' w g1 g2=>aJ (aZ<|cs3 (bg (.of b8 (.here b7 g2 g1)))))))))
end Wm
namespace Wl
variable{s:aE}
theorem aP2{prog:iU}{w:bU}{A:cQ}{K:qB}{ox:fH}{tk:H}(ff:K.In s.heap)
  (bG:XF s.heap x ox C (N (mY es m)))(hd:ox.dict=N dx)(hp:ak7 K C=ah)(ht:takerIn K C name=N ao)(hh:(clsIn K C).any (·.hasDict)=ah)(hl:(Gd name es).isSome=ah)(hz:(Dt name (Dc w.params name) (.str name s.toks) v es).length<=1000)
  (h:∀h',h'.get? dx=N (mY (Dt name (Dc w.params name) (.str name s.toks) v es) (putN name es m))->Dh dx s.heap h'->R (.ok (.ret .none)) {s with heap:=h',toks:=s.toks+1}):
  codeAny (aP prog w) A (.call (.builtin "object.__setattr__") ⟨[.ref x,.str name tk,v],[]⟩) R s:=by
 refine osa_open ff bG hp ht λb=>?_;refine b_ (any_some hh) λcd hx=>?_;have hc:=hx.1;have RJ:=hx.2;obtain⟨hx,Ak,hn,D⟩:=bG;obtain⟨oc,odi,oda,osl⟩:=ox;dsimp only at Ak hd
 subst Ak hd;have D:s.heap.get? dx=N (mY es m):=D;have D':(s.heap.update dx (cu2 name (Dc w.params name) (.str name s.toks) v)).get? dx=N (mY (Dt name (Dc w.params name) (.str name s.toks) v es) (putN name es m)):=by
  have:=Bh (cu2 name (Dc w.params name) (.str name s.toks) v) D (by rw[putName_dict];rfl)
  rw[putName_dict]at this
  exact this
 refine wpAny_bind (wpAny_pure (wpAny_bind (wpAny_bind (cu3 hx (wpAny_bind ((looks_clsIn ff hc).here ?_))))));rw[RJ];refine wpAny_pure (a:=N dx) (wpAny_bind (wpAny_pure (wpAny_bind ?_)));unfold nsSet;refine wpAny_bind (wpAny_bind (aj6 (wpAny_pure (wpAny_bind (wpAny_mkText (wpAny_bind (cu3 D ?_)))))));unfold Gd at hl
 have c:(!es.toArray.any (·.key.isStr name)&&es.toArray.any (·.refKey))=ak:=by
  rw[<-Xz,<-Xz]
  show(!es.any _&&es.any _)=ak
  revert hl
  cases he:es.find? (λe=>e.key.isStr name)with
  |some en=>intro hl;rw[wD.mpr ⟨en,List.mem_of_find?_eq_some he,List.find?_some (p:=λe:jN=>e.key.isStr name) he⟩];rfl
  |none=>
   cases z:es.any (·.refKey)with
   |true=>exact λhl=>nomatch hl
   |false=>intro hl;rw[Bool.and_false]
 dsimp only;rw[aRefKeyMayBeTheName_at,c];refine wpAny_updatePart D ?_;refine wpAny_bind (cu4 D' (pastItsLine_dict (by rw[PI,sizeLine_eq];omega)) ?_)
 exact wpAny_pure (h _ D' (Ge ..))
end Wl
end
section
namespace Wl
open Wm (M7 M6)
theorem Yv(items:cT aA)(k:H):(items.eraseIdxIfInBounds k).size<=items.size:=by
 unfold cu5
 split<;>simp
theorem aP3(l:aR)(items:cT aA)(n:H)(x:aA)(k:H)(S:k+1=items.size)(hx:items[k]?=N x)(xm:items.size<=gX):
  P7 (gW.«list.pop» ⟨[.ref l],[]⟩) (λX R s=>s.heap.get? l=N {cls:=.type "list",dict:=none,data:=.seq items n,slots:=#[]}/\R (.ok (.ret x)) {s with heap:=s.heap.update l (sG (·.eraseIdxIfInBounds k)),toks:=s.toks}):=
 .of_wp λprog w A R s h=>by
  obtain⟨hp,g,d,tk,os⟩:=s;obtain⟨hl,h⟩:=h;have Cj:(items.eraseIdxIfInBounds k).size<=gX+1:=xT (bR (Yv _ _) xm);have f1:=am3
  wp_walk using(Qd hl rfl (hz:=xm) (_hz':=Cj)),H8 hl
  refine wpAny_ite ?_;rw[cF λe=>absurd (cu6.mp e) (S▸Nat.succ_ne_zero _)];have e:(Dq (-1) items.size).bind (λk=>Dj (λx=>(k,x)) items[k]?)=N (k,x):=by rw[M7 (S▸jc k),show items.size -1=k from S▸rfl,am4,hx];rfl
  rw[e];dsimp only
  wp_walk using(Qd hl rfl (hz:=xm) (_hz':=Cj)),H8 hl
  exact⟨_,rfl,h⟩
theorem aP4(l:aR)(items:cT aA)(n:H)(x:aA)(u:H)(S:0<items.size)(hx:items[0]?=N x)(xm:items.size<=gX):
  P7 (gW.«list.pop» ⟨[.ref l,.int 0 u],[]⟩) (λX R s=>s.heap.get? l=N {cls:=.type "list",dict:=none,data:=.seq items n,slots:=#[]}/\R (.ok (.ret x)) {s with heap:=s.heap.update l (sG (·.eraseIdxIfInBounds 0)),toks:=s.toks}):=
 .of_wp λprog w A R s h=>by
  obtain⟨hp,g,d,tk,os⟩:=s;obtain⟨hl,h⟩:=h;have Cj:(items.eraseIdxIfInBounds 0).size<=gX+1:=xT (bR (Yv _ _) xm);have f1:=am3
  wp_walk using(Qd hl rfl (hz:=xm) (_hz':=Cj)),H8 hl
  refine wpAny_ite ?_;rw[cF λe=>absurd (cu6.mp e) (Kv S)];have e:(Dq 0 items.size).bind (λk=>Dj (λx=>(k,x)) items[k]?)=N (0,x):=by
   have:=M6 S;rw[show((0:H):aa)=0 from rfl]at this
   rw[this,am4,hx];rfl
  rw[e];dsimp only
  wp_walk using(Qd hl rfl (hz:=xm) (_hz':=Cj)),H8 hl
  exact⟨_,rfl,h⟩
theorem aP5(l:aR)(items:cT aA)(n:H)(x:aA)(xm:items.size<gX):
  P7 (gW.«list.append» ⟨[.ref l,x],[]⟩) (λX R s=>s.heap.get? l=N {cls:=.type "list",dict:=none,data:=.seq items n,slots:=#[]}/\R (.ok (.ret .none)) {s with heap:=s.heap.update l (sG (·.push x)),toks:=s.toks}):=
 .of_wp λprog w A R s h=>by
  obtain⟨hp,g,d,tk,os⟩:=s;obtain⟨hl,h⟩:=h;have Cj:(items.push x).size<=gX+1:=by rw[cu7];exact lB (mX xm)
  wp_walk using(Qd hl rfl (hz:=mX xm) (_hz':=Cj)),H8 hl
  exact⟨_,rfl,h⟩
theorem aP6(l:aR)(items:cT aA)(n:H)(i:aa)(u:Tok)(x:aA)(k:H)(S:k<items.size)(hi:Dq i items.size=N k)(hf:(!Xx i)=ak):
  P7 (gW.«list.__setitem__» ⟨[.ref l,.int i u,x],[]⟩) (λX R s=>s.heap.get? l=N {cls:=.type "list",dict:=none,data:=.seq items n,slots:=#[]}/\R (.ok (.ret .none)) {s with heap:=s.heap.update l (sG (·.setIfInBounds k x)),toks:=s.toks}):=
 .of_wp λprog w A R s h=>by
  obtain⟨hp,g,d,tk,os⟩:=s;obtain⟨hl,h⟩:=h;have f1:=am3
  wp_walk using H8 hl
  have hx:items[k]?=N items[k]:=Kn S;cases i with
  |ofNat j=>
   obtain rfl:j=k:=by
    unfold Dq at hi
    have h1:¬(Int.ofNat j<0):=by simp
    simp only[h1,PR]at hi
    split at hi
    ·exact fU hi
    ·cases hi
   dsimp only;refine wpAny_bind (wpAny_seqItemAt hl rfl (wpAny_pure ?_));rw[hx];exact wpAny_bind (cu8 hl rfl (wpAny_pure ⟨_,rfl,h⟩))
  |negSucc j=>refine wpAny_bind ?_;refine wpAny_bind (wpAny_seqItems hl rfl (wpAny_pure (wpAny_pure ?_)));rw[hi,am4,hx];exact wpAny_bind (cu8 hl rfl (wpAny_pure ⟨_,rfl,h⟩))
end Wl
namespace Wm
open Wl
variable{f:Cf}{Y:J (ai×cJ)}{n:H}{Z:St}{e:aT}{G:cL}{r:bP}{s:aE}{F:bN}
theorem At.ext{h':dH}{t:H}(a:At f Y G Z r s F)(h:∀b o,s.heap.get? b=N o->h'.get? b=N o):At f Y G Z r {s with heap:=h',toks:=t} F/\Go G Z Z r r s {s with heap:=h',toks:=t} F F:=
 ⟨⟨a.len,a.fk,⟨λb o e=>h b o (a.mt.sub b o e),a.mt.base,λp hp=>(a.mt.live p hp).step (.refl _) (.refl _) λb X o e=>h b o e,a.mt.jf,a.mt.nd⟩⟩,
  ⟨.refl _,⟨_,_,rfl⟩,.refl _,λX I e=>.inl e,λX h=>.inl h,λb o X e=>h b o e⟩⟩
theorem mK.put{hs:aa}(y:VR w r F v u)(h:mK w r F fs es):mK w r F (pU x v fs) (Dt x hs (.str x t) u es):=by
 induction h with
 |nil=>exact .cons (.mk y) .nil
 |cons a b ih=>
  refine a.rec λ{z v' t' h' u'} a=>?_;refine Eu (P:=λl=>mK w r F l (Dt x hs (.str x t) u (⟨h',.str z t',u'⟩::_))) (λq=>?_) λq=>?_
  ·unfold Dt;rw[dP (ED.mpr q.symm)];exact .cons (.mk y) b
  ·unfold Dt;rw[cF (λh=>q (ED.mp h).symm)];exact .cons (.mk a) ih
theorem f4{α:Type}{x:ai}{v:α}{fs:J (ai×α)}:∀y∈(pU x v fs).map (·.1),y=x\/y∈fs.map (·.1):=by
 induction fs with
 |nil=>exact λy m=>.inl (fN.mp m)
 |cons p fs ih=>exact Eu (v:=v) (P:=λl=>∀y∈l.map (·.1),y=x\/y∈((p.1,p.2)::fs).map (·.1)) (λX y m=>.inr m) λX y m=>(iV.mp m).elim (λe=>.inr (e▸ .head _)) λm=>(ih y m).imp id λm=>.tail _ m
theorem aP7{α:Type}{x:ai}{v:α}{fs:J (ai×α)}:(fs.map (·.1)).Nodup->((pU x v fs).map (·.1)).Nodup:=by
 induction fs with
 |nil=>exact λX=>oX.mpr ⟨vt,.nil⟩
 |cons p fs ih=>exact λh=>Eu (v:=v) (P:=λl=>(l.map (·.1)).Nodup) (λX=>h) λq=>oX.mpr ⟨λm=>(f4 _ m).elim (λe=>q e.symm) (oX.mp h).1,ih (oX.mp h).2⟩
theorem aP8{α:Type}{x:ai}{v:α}{fs:J (ai×α)}:(pU x v fs).length<=fs.length+1:=by
 induction fs with
 |nil=>exact jO _
 |cons p fs ih=>exact Eu (v:=v) (P:=λl=>l.length<=fs.length+1+1) (λX=>Bj _) λX=>lB ih
theorem aP9(h:Sg a x v Z.o k)(at_:At f Y G Z r s F)(y1:VR f.w r F a u)(y2:VR f.w r F v w)
  (hq:∀o' s',k o'->At f Y G ⟨Z.m,o'⟩ r s' F->Go G Z ⟨Z.m,o'⟩ r r s s' F F->Q () s'):av (aP f.prog f.w) A (setAttr u x w) Q E s:=by
 refine Av y1 h λhd p e1 h=>o8 h λz q h=>?_
 revert q
 refine Su h λc fs h q=>?_;obtain⟨q2,h⟩:=l9 h;obtain⟨q3,h⟩:=l9 h;have q3:fs.length<=100:=by rw[nc]at q3;exact PZ q3
 obtain⟨es,m,sl,g1,g2,z,nd,ha⟩:=at_.obj e1 q;have bG:XF s.heap p.1 ⟨.ref c,N p.2,.plain,sl⟩ c (N (mY es m)):=⟨g1,rfl,rfl,g2⟩;have af:=f.aG c x q2;have ff:=uM at_.mt;refine aZ<|set_plain ff bG af.sa ?_;have hg:(Gd x es).isSome=ah:=by
  cases q4:cG x fs with
  |none=>rw[(mK.get z).2 q4];rfl
  |some v'=>obtain⟨u',e',_⟩:=(mK.get z).1 v' q4;rw[e'];rfl
 have zp:=mK.put (hs:=Dc f.w.params x) (t:=s.toks+1) (x:=x) y2 z;have lp:(Dt x (Dc f.w.params x) (.str x (s.toks+1)) w es).length<=1000:=by rw[<-zp.length];exact bR aP8 (bR (lB q3) (by decide))
 refine aP2 (s:={s with toks:=s.toks+1}) ff bG rfl af.po af.ti af.hd hg lp λh' hd2 sb=>?_
 have hp:p.1≠p.2:=by
  intro e;have nd:=at_.mt.nd;obtain⟨La,Lb,z1,_⟩:=ci e1 q at_.len;rw[nY,z1,je,oA]at nd
  have g:=(qz.mp (qz.mp (qz.mp nd).1).2.1).1;exact(oX.mp g).1 (e▸ .head _)
 obtain⟨a',t'⟩:=at_.chg (t:=s.toks+1+1) (y:=.inst c (pU x v fs)) e1 q (a:=p.2) (.tail _ (.head _)) rfl sb
  ⟨_,_,sl,(sb.2 _ hp).trans g1,hd2,zp,aP7 nd,λy hy=>(f4 y hy).elim (λq=>q▸q2) (ha y)⟩
 exact hq _ _ h a' t'
theorem aQ0(x:D)(l:J D):∀n:H,Sh x n l=l.set n x:=by
 induction l with
 |nil=>exact λn=>by cases n<;>rfl
 |cons y r ih=>exact λn=>by cases n with|zero=>rfl|succ n=>exact bQ (y::·) (ih n)
theorem eU.set{ds:J D}{ws:J aA}(y:DR F x u)(h:eU F ds ws):∀n:H,eU F (ds.set n x) (ws.set n u):=by
 induction h with
 |nil=>exact λX=>.nil
 |cons a z ih=>exact λn=>by cases n with|zero=>exact .cons y z|succ n=>exact .cons a (ih n)
theorem aQ1(h:Si a i v Z.o k)(at_:At f Y G Z r s F)(y1:VR f.w r F a ua)(y2:VR f.w r F i ui)(y3:VR f.w r F v uv)
  (hq:∀o' s',k o'->At f Y G ⟨Z.m,o'⟩ r s' F->Go G Z ⟨Z.m,o'⟩ r r s s' F F->Q () s'):av (aP f.prog f.w) A (setItem ua ui uv) Q E s:=by
 refine Av y1 h λhd p e1 h=>jX y2 h λi u h=>jD y3 h λx y3 h=>o8 h λz q h=>?_
 revert q
 refine Ss h λds h q=>?_;obtain⟨ws,m,g1,g2,g3⟩:=at_.obj e1 q;have sz:=g2.size;have hT:s.TypeIs (.ref p.1) "list":=⟨_,g1,rfl⟩;have go:∀(k':H),k'<ds.length->Dq i ws.size=N k'->(!Xx i)=ak->k (eO (.dl (ds.set k' x)) hd Z.o)->av (aP f.prog f.w) A (setItem (.ref p.1) (.int i u) uv) Q E s:=by
  intro k' S hi hf Ck;refine iP (aJ (aZ<|ct2 hT (by decide) (aJ (aZ<|ct3 hT cu9 (Dm cu9 hT entry_list_setitem (args_list_setitem _ _ _) (aP6 p.1 ws m i u uv k' (by rw[sz];exact S) hi hf) ⟨g1,?_⟩)))))
  obtain⟨a',t'⟩:=at_.chg (t:=s.toks) (y:=.dl (ds.set k' x)) e1 q (a:=p.1) (.head _) rfl (Ge s.heap p.1 (sG (·.setIfInBounds k' uv)))
   ⟨ws.setIfInBounds k' uv,m,by rw[Bh _ g1 rfl];simp[sG],by rw[Array.toList_setIfInBounds];exact eU.set y3 g2 _,by rw[cq1];exact g3⟩
  exact bg (hq _ _ Ck a' t')
 induction i with
 |ofNat j=>exact go j h.1 (M6 (by rw[sz];exact h.1)) (by have:=h.1;simp[Xx];omega) (aQ0 ..▸h.2)
 |negSucc j=>
  obtain⟨e,l,y,rfl,h4⟩:=l9 h;obtain rfl:=mV e;have e:ws.size=l.length+1:=sz.trans (by rw[f6];rfl)
  refine go l.length (by rw[f6];exact m7 _) ((M7 (by rw[e];exact jc _)).trans (by rw[e];rfl)) (by decide) ?_
  rw[List.set_append_right _ _ (jO _),am5];exact h4
end Wm
end
namespace Wm
section
variable{f:Cf}{Y:J (ai×cJ)}{n:H}{Z:St}{e:aT}{G:cL}{r:bP}{s:aE}{F:bN}
theorem aQ2(h:Q .next Z):WS f Y n [] Z Q:=λX s F I u2 r u3 u4 a=>Yn (.oE a .next h)
theorem aQ3(h:W1 f Y n s1 Z λfl aI=>match fl with| .next=>WS f Y n l aI Q| .brk=>Q .brk aI| .cont=>Q .cont aI| .ret v=>Q (.ret v) aI):WS f Y n (s1::l) Z Q:=λA s F G E r o i a=>by
 refine ar2 (gG (h A s F G E r o i a) (λw aF p=>?_) λX I z=>z);obtain⟨v,aI,bY,cz,q,y,b7,b8⟩:=p;cases y with
 |next=>exact gG (q A aF cz G E bY o i b7) (λX I p=>.of b8 p) λX I z=>z
 |brk=>exact⟨_,aI,bY,cz,q,.brk,b7,b8⟩
 |cont=>exact⟨_,aI,bY,cz,q,.cont,b7,b8⟩
 |ret y=>exact⟨_,aI,bY,cz,q,.ret y,b7,b8⟩
theorem aQ4(h:WE f Y n x Z λv aI=>Q (.ret v) aI):W1 f Y n (.Return (N x) pos) Z Q:=λA s F G E r o i a=>ar3 (h.run o i a λv w aI bY cz aF q y b7 b8=>⟨_,aI,bY,cz,q,.ret y,b7,b8⟩)
theorem aQ5(h:WT f Y n t Z λq aI=>dh q (WS f Y n b aI Q) (WS f Y n d aI Q)):W1 f Y n (.If t b d pos) Z Q:=λA s F G E r o i a=>by refine ar4 (h.run o i a λq w aI bY cz aF h₁ cX b7 b8=>?_);subst cX;cases q<;>exact gG (h₁ A aF cz G E bY o i b7) (λX I p=>.of b8 p) λX I z=>z
def EE(e:aT):aD:=!(kd [8,9,10] e)
theorem S9{e:aT}{G:cL}(h:EE e=ah):wz e t l G=pure ak:=by cases e<;>first|rfl|exact gr h
theorem aQ6(h:WE f Y n x Z λv aI=>Q .next aI)(hs:EE x=ah):W1 f Y n (.Expr x pos) Z Q:=λA s F G E r o i a=>at7 (h.run o i a λv w aI bY cz aF q y b7 b8=>⟨_,aI,bY,cz,q,.next,b7,b8⟩) (by unfold interactive;rw[i.kind];rfl) (S9 hs)
theorem aQ7(h:B5 x Z λa=>WE f Y n v Z λb aI=>jk a λa=>jk b λb=>kZ x (.d (.int (a+b))) aI λb3=>Q .next b3):W1 f Y n (.AugAssign (.Name x p) .Add v pos) Z Q:=λA s F G E r o i a=>at6 (dq h i a λva wa h₁ cX=>h₁.run o i a λvb wb aI bY cz aF dw gU b7 b8=>jX (cX.mono b8.fM b8.grow) dw λia ta dw=>jX gU dw λib tb dw=>aZ<|iadd_int (HX dw i (b7.tok (aF.toks+1)) (.d .int) λiI dU aQ8 jo gx=>⟨_,iI,bY,cz,aQ8,.next,jo,b8.trans ((fB.tok ..).trans gx)⟩))
theorem aQ9(h:WE f Y n v Z λv aI=>WE f Y n a aI λa b3=>Sg a x v b3.o λo=>Q .next ⟨b3.m,o⟩):W1 f Y n (.Assign [.Attribute a x p] v pos) Z Q:=λA s F G E r o i a'=>by
 refine at5 (h.run o i a' λu w aI bY cz aF h₁ cX b7 b8=>WX.run h₁ o i b7 λov ow b3 iB iH cj dw gU e_ c9=>?_) (by cases v<;>rfl)
 exact aP9 dw e_ gU (cX.mono c9.fM c9.grow) λo' s' q jo gx=>⟨_,_,iB,iH,q,.next,jo,b8.trans (c9.trans gx)⟩
theorem aR0(h:WE f Y n v Z λv aI=>WE f Y n a aI λa b3=>WE f Y n ix b3 λi iI=>Si a i v iI.o λo=>Q .next ⟨iI.m,o⟩):W1 f Y n (.Assign [.Subscript a ix p] v pos) Z Q:=λA s F G E r o i a'=>by
 refine at4 (h.run o i a' λu w aI bY cz aF h₁ cX b7 b8=>WX.run h₁ o i b7 λov ow b3 iB iH cj dw gU e_ c9=>WX.run dw o i e_ λiv iw iI i8 i9 dU ku qU jo gx=>?_) (by cases v<;>rfl)
 exact aQ1 ku jo (gU.mono gx.fM gx.grow) qU ((cX.mono c9.fM c9.grow).mono gx.fM gx.grow) λo' s' q H9 AB=>⟨_,_,i8,i9,q,.next,H9,b8.trans (c9.trans (gx.trans AB))⟩
inductive qV:J aT->J ai->Prop
 |nil:qV [] []
 |cons {x p l xs}:qV l xs->qV (.Name x p::l) (x::xs)
theorem qV.trees{G:cL}{xs:J ai}(h:qV l xs):∃ps:J gq,ps.length=xs.length/\Xk l G=(xs.zip ps).map λx=>(ak,sy (.Name x.1 x.2) G):=by
 induction h with
 |nil=>exact⟨[],rfl,rfl⟩
 |@cons x p l xs X ih=>refine b_ ih λps hx=>?_;have e1:=hx.1;have e2:=hx.2;exact⟨p::ps,bQ (·+1) e1,bQ ((ak,sy (.Name x p) G)::·) e2⟩
theorem f8{xs:J ai}{vs:J V}{Z:St}(h:nv xs vs Z k):vs.length=xs.length:=by
 induction xs generalizing vs Z with
 |nil=>induction vs using eT with
  |nil=>rfl
  |cons X I=>exact h.elim
 |cons x xs ih=>
  induction vs using eT with
  |nil=>exact h.elim
  |cons v vs=>
   refine bQ (·+1) (nX (show kZ x v Z (λZ=>nv xs vs Z k)from h) λsl X h=>?_)
   induction sl with
   |L X=>exact(du h).elim λm' g=>ih g.1
   |C c=>
    refine o8 h λy X h=>?_;induction y with
    |cell X=>exact ih h
    |_=>exact h.elim
theorem gd(i:g_ f Y G)(xs:J ai):∀(vs:J V)(ws:J aA)(tr:J (aA->dJ rq))(k:St->Prop)(Z:St)(s:aE),nv xs vs Z k->At f Y G Z r s F->gh f.w r F vs ws->
  tr.length=xs.length->(∀(j:H)(x:ai)(t:aA->dJ rq),xs[j]?=N x->tr[j]?=N t->∀v P s',av (aP f.prog f.w) A (F4 G x v) P E s'->av (aP f.prog f.w) A (t v) P E s')->
  (∀b9 s',k b9->At f Y G b9 r s' F->Go G Z b9 r r s s' F F->Q () s')->av (aP f.prog f.w) A (PJ tr ws) Q E s:=by
 induction xs with
 |nil=>
  intro vs ws tr k Z s h a z el ht hq;induction tr using eT with
  |cons X I=>simp at el
  |nil=>
   induction vs using eT with
   |cons X I=>exact h.elim
   |nil=>cases z;exact bg (hq _ _ h a (.refl ..))
 |cons x xs ih=>
  intro vs ws tr k Z s h a z el ht hq;induction tr using eT with
  |nil=>simp at el
  |cons t tr=>
   induction vs using eT with
   |nil=>exact h.elim
   |cons v vs=>
    cases z with
    |cons y z=>refine aJ (iP (ht 0 x t rfl rfl _ _ _ (HX (k:=λZ=>nv xs vs Z k) h i a y λb9 s' h' a' t'=>?_)));exact ih vs _ tr k b9 s' h' a' z (by simpa using el) (λj x t hx hy=>ht (j+1) x t (by simpa using hx) (by simpa using hy)) λcD0 ni EG H_ S_=>hq _ _ EG H_ (t'.trans S_)
def Tc(e:aT):aD:=!(kd [25] e)
theorem aR1{G:cL}(h:Tc v=ah):Xe [.Tuple iJ k tp] v G=pure ao:=by cases v<;>first|rfl|exact gr h
theorem Td{vs:J V}{l:aR}{ws:cT aA}{m:H}{xs:J ai}{iJ:J aT}{kd:H}{tp:gq}{k:St->Prop}{A:cQ}{E:aA->aE->Prop}{Q:rq->aE->Prop}(h:nv xs vs Z k)(na:qV iJ xs)(hh:A.handled=ao)(i:g_ f Y G)(a:At f Y G Z r s F)(g:s.heap.get? l=N (lJ ws m))(z:gh f.w r F vs ws.toList)
  (hq:∀b9 s',k b9->At f Y G b9 r s' F->Go G Z b9 r r s s' F F->Q () s'):av (aP f.prog f.w) A (sy (.Tuple iJ kd tp) G (.ref l)) Q E s:=by
 obtain⟨ps,e1,e2⟩:=na.trees (G:=G);have zl:ws.size=xs.length:=by rw[<-oY,<-z.length,f8 h]
 have lz:(xs.zip ps).length=xs.length:=by rw[am6,e1,cv0]
 refine au8 hh ⟨_,g,rfl,_,rfl⟩ (by rw[e2,cO,lz,zl]) (by rw[e2];simp[List.findIdx?_map,Function.comp_def,List.findIdx?_eq_none_iff]) λh' S=>?_
 obtain⟨a',t'⟩:=a.ext (t:=s.toks) (h':=h') λb o q=>S b o (λe=>by rw[e,o9]at q;cases q) q
 refine gd i xs _ _ _ _ _ _ h a' z (by rw[e2,cO,cO,lz]) (λj x t hx ht v P s' hp=>?_) λb9 s' h1 a1 t1=>hq _ _ h1 a1 (t'.trans t1)
 rw[e2,n9,mC]at ht
 obtain⟨⟨x',p⟩,g1,g2⟩:=wm.mp ht;rw[P4]at g1
 rw[<-g2,show x'=x from fU (g1.1.symm.trans hx)]
 exact QH hp
theorem gL{v:V}{u:aA}{xs:J ai}{iJ:J aT}{kd:H}{tp:gq}{k:St->Prop}{A:cQ}{E:aA->aE->Prop}{Q:rq->aE->Prop}(h:jL xs ak v Z k)(na:qV iJ xs)(hh:A.handled=ao)(i:g_ f Y G)(a:At f Y G Z r s F)(y:VR f.w r F v u)
  (hq:∀b9 s',k b9->At f Y G b9 r s' F->Go G Z b9 r r s s' F F->Q () s'):av (aP f.prog f.w) A (sy (.Tuple iJ kd tp) G u) Q E s:=by
 induction v with
 |d x=>exact jD y (k:=λx=>tD x λds=>nv xs (ds.map .d) Z k) h λx y h=>B9 y h λds l ws m h e z X=>Td h na hh i a (a.mt.sub _ _ e) z.ofD hq
 |pr x j=>exact y.e λl p n u e d z=>Td (vs:=[.d x,.ref j]) h na hh i a (a.mt.sub _ _ e) (.cons (.d d) (.cons (.ref z) .nil)) hq
 |_=>exact h.elim
theorem aR2{xs:J ai}{iJ:J aT}{kd:H}{tp pos:gq}{v:aT}{Q:dZ->St->Prop}(h:WE f Y n v Z λu aI=>jL xs ak u aI λb3=>Q .next b3)(na:qV iJ xs)(hs:EE v=ah)(ht:Tc v=ah):
  W1 f Y n (.Assign [.Tuple iJ kd tp] v pos) Z Q:=λA s F G E r o i a=>
 at8 (h.run o i a λu w aI bY cz aF q y b7 b8=>gL q na o.hd i b7 y λb3 cj Ia e_ c9=>⟨_,b3,bY,cz,Ia,.next,e_,b8.trans c9⟩) (by show wz v (N (.Tuple iJ kd tp)) pos.line G=pure ak;exact S9 hs) (aR1 ht)
def M_(Y:J (ai×cJ))(ts vs:J aT)(xs:J ai):aD:=
 (ts.length==2||ts.length==3)&&vs.length==ts.length&&vs.all xj&&
 (xs.all λx=>cG x Y==N .local)&&(ts.all λe=>e.pos.line==(ts.head?.map (·.pos.line)).getD 0)&&xs.length==ts.length&&xs.eraseDups.length==xs.length&&!(vs.all (foldedForSure 8))&&!(vs.all (constantsAlone 8))
theorem aR3(i:g_ f Y G)(hg:∀id pos,g (.Name id pos)=if G.kindOf id==N .local&&pos.line==line then N id else ao){ts:J aT}{xs:J ai}(na:qV ts xs)
  (h1:(xs.all λx=>cG x Y==N .local)=ah)(h2:(ts.all λe=>e.pos.line==line)=ah):ts.filterMap g=xs:=by
 induction na with
 |nil=>rfl
 |@cons x p l xs X ih=>
  rw[List.all_cons,Kw]at h1 h2
  have S:G.kindOf x=cG x Y:=by unfold PO;rw[i.Y,<-Au]
  rw[cv1,hg,S,h1.1,show(p.line==line)=ah from h2.1,ih h1.2 h2.2]
  rfl
theorem aR4(i:g_ f Y G)(na:qV ts xs)(h:M_ Y ts vs xs=ah):Xe [.Tuple ts k tp] (.Tuple vs k' vp) G=pure (N xs):=by
 unfold M_ at h
 simp only[Kw,cv2]at h
 obtain⟨⟨⟨⟨⟨⟨⟨⟨h1,h2⟩,h3⟩,h4⟩,YZ⟩,h5⟩,h6⟩,h7⟩,h8⟩:=h;have hb:G.blockKind=.function:=by unfold al4;rw[i.kind];rfl
 have no:∀{b:aD},b=ak->¬b=ah:=λh g=>gr (h.symm.trans g);refine(cF (no ?_)).trans ((cF ?_).trans ?_)
 ·rw[h1,hb];simp only[bne,h2];rfl
 ·intro h;obtain⟨e,m,q⟩:=wD.mp h;have p:=al6.mp h3 e m;cases e<;>first|exact gr q|exact gr p
 ·dsimp only;rw[aR3 i (line:=(ts.head?.map (·.pos.line)).getD 0) (λX I=>rfl) na h4 YZ];exact(cF (no (by simp only[bne,h5,h6];rfl))).trans ((cF (no h7)).trans (cF (no h8)))
theorem aR5{xs:J ai}{ts vs:J aT}{kd k':H}{tp vp pos:gq}{Q:dZ->St->Prop}(h:qT f Y n vs Z λus aI=>dh (nJ (len us) 1000) (nv xs.reverse us.reverse aI λb3=>Q .next b3) bV)(na:qV ts xs)(hs:M_ Y ts vs xs=ah):
  W1 f Y n (.Assign [.Tuple ts kd tp] (.Tuple vs k' vp) pos) Z Q:=λA s F G E r o i a=>by
 refine at9 (names:=xs) ?_ rfl (aR4 i na hs);refine Yo ((h _).run o i a λus ws aI bY cz aF h₁ cX b7 b8=>?_);rcases aK6 h₁ with⟨hl,hq⟩|⟨_,h⟩;rotate_left;exact h.elim
 have hl:=S4 hl;have yl:=cX.length;refine⟨by unfold gX;lia,?_⟩
 refine b_ (b7.frozen (o:=lJ ws.toArray 0) rfl) λF' hx=>?_;have e:=hx.1;have a':=hx.2.1;have t':=hx.2.2;have l2:=f8 hq;rw[Gf,Gf]at l2
 have ht:({aF with heap:=aF.heap.push (lJ ws.toArray 0)}:aE).heap.IsTuple aF.heap.objs.size ws.toArray:=⟨_,lY _ rfl,rfl,_,rfl⟩
 have:=aZ<|cp2 (prog:=f.prog) (w:=f.w) (A:=A) (E:=E) (Q:=λeX cj=>av (aP f.prog f.w) A (PJ (xs.reverse.map λn=>J5 G n) eX.reverse) (λX=>mh f Y (λr F=>xh f.w r F) G Z Q r s F cv3) E cj) o.hd ht (λh' S=>?_)
 ·rw[show ws.toArray.size=xs.length by rw[PI];lia]at this
  exact this
 ·have hx:=a'.ext (t:=aF.toks) (h':=h') λb ob q=>S b ob (λe=>by rw[e,o9]at q;cases q) q
  have H_:=hx.1;have S_:=hx.2;have yr:gh f.w bY F' us.reverse ws.reverse:=(cX.Ew t'.fM t'.grow).reverse;refine gd i xs.reverse us.reverse ws.reverse _ _ _ _ hq H_ (by simpa using yr) (by simp) (λj x t hx ht v P s' hp=>?_) λb9 s' h1 a1 t1=>⟨_,b9,bY,F',h1,.next,a1,b8.trans (t'.trans (S_.trans t1))⟩
  rw[mC,hx]at ht
  cases ht;exact ar1 hp
def Na(e:aT):aD:=kd [23] e
structure Ib(f:Cf)(A:cQ)(bG:aR)(ds:J D)(F:bN)(h0 h:dH)(fp:J aR)(P:H->aA->Prop)(St:H->dH->Prop):Prop where
 W:Walks f.prog f.w A bG fp [bG] ds.length P St
 Z:St 0 h
 item:∀i v,i<ds.length->P i v->∃d,ds[i]?=N d/\DR F d v
 foot:∀b∈fp,b=bG\/∃o,F b=N o
 new:h0.get? bG=none
 old:∀b o,h0.get? b=N o->h.get? b=N o
 alive:∀i h,St i h->∃o,h.get? bG=N o
 big:ds.length<=1048576
 go:∀i v dD(s:aE) Q E,St i s.heap->Q () s->av (aP f.prog f.w) A (J' dD (.ref bG) v) Q E s
theorem aR6(h:Na dD=ah):J' dD it v=pure ():=by cases dD<;>first|rfl|exact gr h
theorem Ic{o:fH}(ho:s.heap.get? bG=N o)(hc:o.cls=.type T)
  (hT:(["enumerate","zip","dict_itemiterator","dict_reverseitemiterator","odict_iterator","itertools.zip_longest","itertools.pairwise"].contains T)=ak)(hq:Q () s):av (aP prog w) A (J' dD (.ref bG) v) Q E s:=by
 have go:av (aP prog w) A (do
   let(.ref r,.ref a):=(zM bG,v)|return
   let o<-F1 r
   match o.cls,o.data with
   | .type n,.fields vs=>
    if["enumerate","zip","dict_itemiterator","dict_reverseitemiterator","odict_iterator","itertools.zip_longest","itertools.pairwise"].contains n&&vs[0]?==N (XG a)then
     rule "for.unpacks-the-owned-tuple"
     updateField r 0 .none
   |X,I=>pure ()) Q E s:=by
  cases v<;>try exact bg hq
  refine aJ (aZ<|zH ho ?_);obtain⟨c,d,dt,sl⟩:=o;dsimp only at hc
  subst hc;cases dt<;>try exact bg hq
  dsimp only;rw[hT,cr0,cF (by decide)]
  exact bg hq
 cases dD<;>first|exact bg hq|exact go
abbrev yI(f:Cf)(A:cQ)(ds:J D)(F:bN)(h0:dH)(it:aA)(s:aE):Prop:=∃bG fp P St,it=.ref bG/\Ib f A bG ds F h0 s.heap fp P St
theorem av1{A:cQ}{E:aA->aE->Prop}{ws:cT aA}{ds:J D}(hh:A.handled=ao)(hF:F l=N (iG ws m))(hl:s.heap.get? l=N (iG ws m))(y:eU F ds ws.toList)(Pw:ds.length<=1048576):
  av (aP f.prog f.w) A (ru (.ref l)) (λit s'=>(∃h' t,s'={s with heap:=h',toks:=t})/\yI f A ds F s.heap it s') E s:=by
 have sz:=y.size;have il:s.heap.IsList l ws:=⟨_,hl,rfl,_,rfl⟩;have ne:l≠s.heap.objs.size:=sq (kI hl);have W:=am7 (prog:=f.prog) (w:=f.w) hh s.heap.objs.size l ne ws;rw[sz]at W
 refine aZ<|XH il ⟨⟨_,_,rfl⟩,s.heap.objs.size,_,_,_,rfl,⟨W,⟨⟨_,lY _ rfl,rfl,rfl⟩,il.push _⟩,λi v hi hv=>?_,λb hb=>?_,o9 _,λb o e=>ko _ e,λX I ⟨⟨o,ho,_⟩,_⟩=>⟨o,ho⟩,Pw,λi v dD s Q E hs hq=>?_⟩⟩
 ·have e:ws.toList[i]?=N v:=by rw[rA];exact hv
  obtain⟨u,e',yu⟩:=y.get (mZ hi);rw[e]at e';cases e'
  exact⟨_,mZ hi,yu⟩
 ·rcases iV.mp hb with rfl|hb
  ·exact .inl rfl
  ·right;obtain rfl:=fN.mp hb;exact⟨_,hF⟩
 ·obtain⟨⟨o,ho,hc,hd⟩,_⟩:=hs;exact Ic ho hc (by decide) hq
theorem av2{A:cQ}{E:aA->aE->Prop}{ws:cT aA}{ds:J D}(hh:A.handled=ao)(hF:F l=N (lJ ws m))(hl:s.heap.get? l=N (lJ ws m))(y:eU F ds ws.toList)(Pw:ds.length<=1048576):
  av (aP f.prog f.w) A (ru (.ref l)) (λit s'=>(∃h' t,s'={s with heap:=h',toks:=t})/\yI f A ds F s.heap it s') E s:=by
 have sz:=y.size;have il:s.heap.IsTuple l ws:=⟨_,hl,rfl,_,rfl⟩;have ne:l≠s.heap.objs.size:=sq (kI hl);have W:=Walks.tuple (prog:=f.prog) (w:=f.w) hh s.heap.objs.size l ne ws;rw[sz]at W
 refine aZ<|wpAny_pyIter_tuple il ⟨⟨_,_,rfl⟩,s.heap.objs.size,_,_,_,rfl,⟨W,⟨⟨_,lY _ rfl,rfl,rfl⟩,il.push _⟩,λi v hi hv=>?_,λb hb=>?_,o9 _,λb o e=>ko _ e,λX I ⟨⟨o,ho,_⟩,_⟩=>⟨o,ho⟩,Pw,λi v dD s Q E hs hq=>?_⟩⟩
 ·have e:ws.toList[i]?=N v:=by rw[rA];exact hv
  obtain⟨u,e',yu⟩:=y.get (mZ hi);rw[e]at e';cases e'
  exact⟨_,mZ hi,yu⟩
 ·rcases iV.mp hb with rfl|hb
  ·exact .inl rfl
  ·right;obtain rfl:=fN.mp hb;exact⟨_,hF⟩
 ·obtain⟨⟨o,ho,hc,hd⟩,_⟩:=hs;exact Ic ho hc (by decide) hq
theorem aR7{A:cQ}{E:aA->aE->Prop}{b:cT iW}(hh:A.handled=ao)(hb:b.size<=1048576):
  av (aP f.prog f.w) A (ru (.bytes b t)) (λit s'=>(∃h' t,s'={s with heap:=h',toks:=t})/\yI f A (fJ (b.toList.map iX)) F s.heap it s') E s:=by
 have len:(fJ (b.toList.map iX)).length=b.size:=by simp[fJ]
 have W:=cv4 (prog:=f.prog) (w:=f.w) hh s.heap.objs.size b t;rw[<-len]at W
 refine aZ<|cv5 ⟨⟨_,_,rfl⟩,s.heap.objs.size,_,_,_,rfl,⟨W,⟨_,lY _ rfl,rfl,rfl⟩,λi v hi hv=>?_,λc hc=>?_,o9 _,λb o e=>ko _ e,λX I ⟨o,ho,_⟩=>⟨o,ho⟩,by rw[len];exact hb,λi v dD s Q E hs hq=>?_⟩⟩
 ·obtain⟨c,u,e,rfl⟩:=hv;refine⟨.int (c.toNat:aa),?_,.int⟩;unfold fJ;rw[mC,mC,rA,e];rfl
 ·exact .inl (fN.mp hc)
 ·obtain⟨o,ho,hc,hd⟩:=hs;exact Ic ho hc (by decide) hq
theorem aR8{A:cQ}{E:aA->aE->Prop}{x:ai}(hh:A.handled=ao)(hb:x.cps.size<=1048576):
  av (aP f.prog f.w) A (ru (.str x t)) (λit s'=>(∃h' t,s'={s with heap:=h',toks:=t})/\yI f A (x.cps.toList.map λc=>.str (az [c])) F s.heap it s') E s:=by
 have len:(x.cps.toList.map λc=>D.str (az [c])).length=x.cps.size:=by simp
 have go:∀{o:fH}{T:jZ},(["enumerate","zip","dict_itemiterator","dict_reverseitemiterator","odict_iterator","itertools.zip_longest","itertools.pairwise"].contains T)=ak->o.isFreed=ak->Walks f.prog f.w A s.heap.objs.size [s.heap.objs.size] [s.heap.objs.size] x.cps.size (SignAt x) (λi h=>h.IsStrIter s.heap.objs.size T x t i)->(s.heap.push o).IsStrIter s.heap.objs.size T x t 0->
   ((∃h' t,({s with heap:=s.heap.push o}:aE)={s with heap:=h',toks:=t})/\yI f A (x.cps.toList.map λc=>.str (az [c])) F s.heap (.ref s.heap.objs.size) {s with heap:=s.heap.push o}):=by
  intro o T hT hf W vQ;rw[<-len]at W
  refine⟨⟨_,_,rfl⟩,s.heap.objs.size,_,_,_,rfl,⟨W,vQ,λi v hi hv=>?_,λc hc=>?_,o9 _,λb o e=>ko _ e,λX I ⟨o,ho,_⟩=>⟨o,ho⟩,by rw[len];exact hb,λi v dD s Q E hs hq=>?_⟩⟩
  ·obtain⟨c,u,e,rfl⟩:=hv;refine⟨.str ⟨#[c]⟩,?_,.str⟩;rw[mC,rA,e];rfl
  ·exact .inl (fN.mp hc)
  ·obtain⟨o,ho,hc,hd⟩:=hs;exact Ic ho hc hT hq
 cases ha:x.cps.all (·<128)
 ·exact aZ<|wpAny_pyIter_wide ha (go (by decide) rfl (Walks.strWide hh _ x t) ⟨_,lY _ rfl,rfl,rfl⟩)
 ·exact aZ<|wpAny_pyIter_ascii ha (go (by decide) rfl (Walks.strAscii hh _ x t) ⟨_,lY _ rfl,rfl,rfl⟩)
theorem av3{A:cQ}{E:aA->aE->Prop}{i:aa}(hh:A.handled=ao)(hb:i<=1048576)(gN:-(2^62)<=i):
  av (aP f.prog f.w) A (fF (.type "range") [.int i t]) (λx aF=>(∃h' t,aF={s with heap:=h',toks:=t})/\(∀b o,s.heap.get? b=N o->aF.heap.get? b=N o)/\av (aP f.prog f.w) A (ru x) (λit s'=>(∃h' t,s'={aF with heap:=h',toks:=t})/\yI f A ((kJ i.toNat).map λ(n:H)=>D.int n) F aF.heap it s') E aF) E s:=by
 have len:((kJ i.toNat).map λ(n:H)=>D.int (n:aa)).length=i.toNat:=by simp
 refine aZ<|call_range_1 ⟨⟨_,_,rfl⟩,λb o e=>ko _ e,aZ<|wpAny_pyIter_range (IsRange.new ..) (small_one (by decide) (by decide) gN (by lia)) ⟨⟨_,_,rfl⟩,_,_,_,_,rfl,⟨len▸Walks.range (prog:=f.prog) (w:=f.w) hh _ 0 1 i.toNat,?_,λk v hi hv=>?_,λc hc=>.inl (fN.mp hc),o9 _,λb o e=>ko _ e,λX I Z=>⟨_,Z⟩,by rw[len];lia,λi v dD s Q E hs hq=>?_⟩⟩⟩
 ·rw[rangeSize_one];have e1:(0:aa)+((0:H):aa)*1=0:=by simp
  have e2:(if(0:aa)<i then i -0 else 0)=((i.toNat:H):aa) -((0:H):aa):=by split<;>lia
  show IsRangeIter _ _ _ _ _
  rw[e1,e2,len];exact lY (o:={cls:=.type "range_iterator",dict:=none,data:=.fields #[XG 0,XG (((i.toNat:H):aa) -((0:H):aa)),XG 1],slots:=#[]}) _ rfl
 ·obtain⟨u,rfl⟩:=hv;have S:k<i.toNat:=by rw[len]at hi;exact hi
  refine⟨.int (k:aa),by rw[mC,List.getElem?_range S];rfl,?_⟩
  have e:(0:aa)+(k:aa)*1=k:=by lia
  rw[e];exact .int
 ·exact Ic hs rfl (by decide) hq
theorem Te{Z:St}(h:rN Z k):k Z:=by rwa [yq]at h
structure iQ(bG:aR)(F:bN)(o:J aR):Prop where
 fr:F bG=none
 ow:bG∉o
theorem iQ.step{r:bP}{s s':aE}{F:bN}(p:iQ bG F o)(h:s.heap.get? bG=N x)(t:fB r r' s s' F F' o o'):iQ bG F' o'/\s'.heap.get? bG=N x:=by
 refine⟨⟨?_,λq=>?_⟩,t.kept bG x p.ow h⟩
 ·cases q:F' bG with
  |none=>rfl
  |some y=>
   rcases t.vP bG y q with e|e|e
   ·rw[p.fr]at e;cases e
   ·exact absurd e p.ow
   ·rw[h]at e;cases e
 ·rcases t.tK bG q with e|e
  ·exact p.ow e
  ·rw[h]at e;cases e
theorem iQ.fresh(m:Mt w B r s F L)(h:s.heap.get? bG=ao):iQ bG F (own L):=by
 refine⟨?_,λq=>?_⟩
 ·cases q:F bG with
  |none=>rfl
  |some y=>have:=m.sub _ _ q;rw[h]at this;cases this
 ·obtain⟨p,hp,hb⟩:=rz.mp q;obtain⟨x,e'⟩:=(m.live p hp).alive bG hb;rw[h]at e';cases e'
theorem fB.vR{P:aR->Prop}{r r':bP}{s aF:aE}{F F':bN}{o o':J aR}{h':dH}{t:H}(x:fB r r' s aF F F' o o')(hI:∀bG,P bG->bG∉o->s.heap.get? bG=ao)(k:∀b y,¬P b->aF.heap.get? b=N y->h'.get? b=N y):
  fB r r' s {aF with heap:=h',toks:=t} F F' o o':=
 ⟨x.fM,x.same.elim λX g=>g.elim λX e=>⟨h',t,e▸rfl⟩,x.grow,x.vP,x.tK,λa y q e=>k a y (λz=>nomatch (hI a z q).symm.trans e) (x.kept a y q e)⟩
theorem fB.hole{r:bP}{s aF:aE}{F:bN}{h':dH}{t:H}(x:fB r r' s aF F F' o o')(hI:s.heap.get? bG=ao)(k:∀b y,b≠bG->aF.heap.get? b=N y->h'.get? b=N y):
  fB r r' s {aF with heap:=h',toks:=t} F F' o o':=x.vR (P:=(·=bG)) (λX e I=>e▸hI) k
theorem At.vR{P:aR->Prop}{h':dH}{t:H}(a:At f Y G Z r s F)(h1:∀bG,P bG->iQ bG F (own (eS G Z r)))(k:∀b y,¬P b->s.heap.get? b=N y->h'.get? b=N y):At f Y G Z r {s with heap:=h',toks:=t} F:=
 ⟨a.len,a.fk,λb o e=>k b o (λz=>nomatch (h1 b z).fr.symm.trans e) (a.mt.sub b o e),a.mt.base,λp hp=>(a.mt.live p hp).step (.refl _) (.refl _) λb hb x e=>k b x (λz=>(h1 b z).ow (rz.mpr ⟨p,hp,hb⟩)) e,a.mt.jf,a.mt.nd⟩
theorem At.hole{h':dH}{t:H}(a:At f Y G Z r s F)(h1:F bG=ao)(h2:bG∉own (eS G Z r))(k:∀b y,b≠bG->s.heap.get? b=N y->h'.get? b=N y):At f Y G Z r {s with heap:=h',toks:=t} F:=
 a.vR (P:=(·=bG)) (λX e=>e▸⟨h1,h2⟩) k
inductive xo:aT->J ai->aD->Prop
 |one {x p}:xo (.Name x p) [x] ah
 |tup {iJ xs k p}:qV iJ xs->xo (.Tuple iJ k p) xs ak
theorem hM{A:cQ}(h:jL ts one v Z k)(hh:A.handled=ao)(i:g_ f Y G)(a:At f Y G Z r s F)(y:VR f.w r F v u)
  (ht:xo dD ts one)(hq:∀b9 s',k b9->At f Y G b9 r s' F->Go G Z b9 r r s s' F F->Q () s'):av (aP f.prog f.w) A (sy dD G u) Q E s:=by
 cases ht with
 |one=>exact QH (HX h i a y hq)
 |tup na=>exact gL h na hh i a y hq
def WI(f:Cf)(Y:J (ai×cJ))(n:H)(t:cL->dJ aA)(Z:St)(Q:J D->St->Prop):Prop:=∀A s F G E r(P:aA->aE->Prop),Ok n A->g_ f Y G->At f Y G Z r s F->
 (∀ds aI bY cz aF it cj,Q ds aI->At f Y G aI bY aF cz->Go G Z aI r bY s aF F cz->(∃h' t,cj={aF with heap:=h',toks:=t})->yI f A ds cz aF.heap it cj->P it cj)->
 av (aP f.prog f.w) A (t G) (λx aF=>av (aP f.prog f.w) A (ru x) P E aF) E s
theorem aR9{A:cQ}{E P:aA->aE->Prop}(h:HN v k)(hh:A.handled=ao)(vm:∀a o,F a=N o->s.heap.get? a=N o)(y:VR f.w r F v u)
  (hp:∀ds it s',k ds->(∃h' t,s'={s with heap:=h',toks:=t})->yI f A ds F s.heap it s'->P it s'):av (aP f.prog f.w) A (ru u) P E s:=by
 have go:∀{u:aA}{ds:J D},k ds->av (aP f.prog f.w) A (ru u) (λit s'=>(∃h' t,s'={s with heap:=h',toks:=t})/\yI f A ds F s.heap it s') E s->av (aP f.prog f.w) A (ru u) P E s:=λh w=>gG w (λit s' e=>hp _ it s' h e.1 e.2) λX I z=>z
 refine jD y h λx y h=>?_;induction x using Wm.D.casesOn with
 |tup ds=>exact y.e λl ws m e z zl=>go h (av2 hh e (vm _ _ e) z zl)
 |list ds=>exact y.e λl ws m e z zl=>go h (av1 hh e (vm _ _ e) z zl)
 |bytes l=>exact y.e λb t e hb=>go (e▸h) (aR7 hh hb)
 |str x=>exact y.e λt=>go h.2 (aR8 hh (oY▸h.1))
 |_=>exact h.elim
theorem aS0(h:WE f Y n x Z λv aI=>HN v λds=>Q ds aI):WI f Y n (λG=>cM x G) Z Q:=λA s F G E r P o i a hp=>WX.run h o i a λv u aI bY cz aF h₁ cX b7 b8=>aR9 h₁ o.hd b7.mt.sub cX λds it cj q e z=>hp ds aI bY cz aF it cj q b7 b8 e z
theorem Ie(h:WE f Y n x Z Q)(o:Ok n A)(i:g_ f Y G)(a:At f Y G Z r s F)
  (k:∀v w aI bY cz aF,Q v aI->VR f.w bY cz v w->At f Y G aI bY aF cz->Go G Z aI r bY s aF F cz->P w aF):av (aP f.prog f.w) A (cM x G) P E s:=WX.run h o i a k
noncomputable def EH:ai:=az [114,97,110,103,101]
theorem aS1(h:WE f Y n a Z λv aI=>ZT v λds=>Q ds aI)(hg:f.g EH=N (.type "range"))(S:cG EH Y=N .globalImplicit)(hp:xj a=ah):
  WI f Y n (λG=>cM (.Call (.Name EH p) [a] [] pos) G) Z Q:=λA s F G E r P o i at_ hP=>by
 refine au0 (G:=G) (HY hp) (Gq (M0 hg S i at_ ?_) (by decide))
 refine au7 (Ie h o i at_ λv u aI bY cz aF h₁ cX b7 b8=>?_);refine jX cX h₁ λi t h₁=>gG (av3 (f:=f) (F:=cz) o.hd h₁.1.2 h₁.1.1) (λx cj q=>?_) λX I z=>z;obtain⟨⟨h',t,rfl⟩,k,w⟩:=q;obtain⟨e_,c9⟩:=b7.ext (t:=t) (h':=h') k;exact gG w (λit dU e=>hP _ aI bY cz _ it dU h₁.2 e_ (b8.trans c9) e.1 e.2) λX I z=>z
theorem At.EI(a:At f Y G Z r s F):r.length<=Wm.len Z.o:=by rw[a.len,nc];exact jO _
structure Bs where
 r:bP
 s:aE
 F:bN
 o:J aR
 eF:aR->Prop
 b4:bN
structure Lp(f:Cf)(Y:J (ai×cJ))(G:cL)(B:Bs)(bM:dH->Prop)(Z:St)(r:bP)(F:bN)(s:aE):Prop where
 a:At f Y G Z r s F
 t:fB B.r r B.s s B.F F B.o (own (eS G Z r))
 p:∀b,B.eF b->iQ b F (own (eS G Z r))
 l:∀b,B.eF b->∃y,s.heap.get? b=N y
 g:iF B.b4 F
 j:bM s.heap
def nA(eF:aR->Prop)(h h':dH):Prop:=∀b y,eF b->h.get? b=N y->h'.get? b=N y
def Cm(B:Bs)(ZS:aR->Prop)(bM:dH->Prop):Prop:=∀h h',bM h->nA (λb=>ZS b\/∃o,B.b4 b=N o) h h'->bM h'
def Bs.vS(B:Bs):Prop:=∀b,B.eF b->b∉B.o->B.s.heap.get? b=ao
section
variable{B:Bs}{bM S':dH->Prop}{ZS:aR->Prop}{b9:St}{r':bP}{s':aE}{F':bN}
theorem Lp.kept(L:Lp f Y G B bM Z r F s)(t:Go G Z b9 r r' s s' F F'):nA B.eF s.heap s'.heap:=λb y z e=>t.kept b y (L.p b z).ow e
theorem Lp.step(hz:∀b,ZS b->B.eF b)(hs:Cm B ZS bM)(L:Lp f Y G B bM Z r F s)(a:At f Y G b9 r' s' F')(t:Go G Z b9 r r' s s' F F'):Lp f Y G B bM b9 r' F' s':=
 ⟨a,L.t.trans t,λb z=>(L.l b z).elim λy e=>((L.p b z).step e t).1,λb z=>(L.l b z).elim λy e=>⟨y,((L.p b z).step e t).2⟩,L.g.trans t.grow,
  hs _ _ L.j λb y z e=>z.elim (λz=>L.kept t b y (hz b z) e) λ⟨o,g⟩=>t.kept b y (λq=>nomatch (L.a.mt.jf b q).symm.trans (L.g b o g)) e⟩
theorem Lp.hole{h':dH}{tk:H}(eY:B.vS)(L:Lp f Y G B bM Z r F s)(k:nA (λb=>¬B.eF b) s.heap h')(l:∀b,B.eF b->∃y,h'.get? b=N y)(j:S' h'):Lp f Y G B S' Z r F {s with heap:=h',toks:=tk}:=
 ⟨L.a.vR L.p k,L.t.vR eY k,L.p,l,L.g,j⟩
theorem Lp.move(L:Lp f Y G B bM Z r F s)(a:At f Y G b9 r' s F)(q:f_ B.r r')(w:∀b∈own (eS G b9 r'),b∈own (eS G Z r)):Lp f Y G B bM b9 r' F s:=
 ⟨a,L.t.weak q (λX z=>z) λb hb=>.inl (w b hb),λb z=>⟨(L.p b z).fr,λh=>(L.p b z).ow (w b h)⟩,L.l,L.g,L.j⟩
theorem Lp.imp(L:Lp f Y G B bM Z r F s)(h:S' s.heap):Lp f Y G B S' Z r F s:=⟨L.a,L.t,L.p,L.l,L.g,h⟩
theorem Lp.trim(L:Lp f Y G B bM Z r F s)(hm:B.r.length<=m):∃r',Lp f Y G B bM (jJ m (j9 fg Z)) r' F s:=
 ((L.a.forget (fg:=fg)).trim L.t.fM hm).elim λEJ g=>⟨EJ,L.move g.1 g.2.1 λb hb=>L.a.SN (fg:=fg)▸g.2.2 b hb⟩
end
structure Hd{α:Type}(f:Cf)(Y:J (ai×cJ))(G:cL)(A:cQ)(B:Bs)(ZS:aR->Prop)(it:aA)(dD:aT)(bind:α->St->(St->Prop)->Prop)(C:J O->Prop)(bM:H->dH->Prop)(vs:J α):Prop where
 z:∀b,ZS b->B.eF b
 Z:∀j,Cm B ZS (bM j)
 item:∀{j v Z r F s k P E},vs[j]?=N v->C Z.o->bind v Z k->Lp f Y G B (bM j) Z r F s->
  (∀b9 F' s',k b9->iF F F'->Lp f Y G B (bM (j+1)) b9 r F' s'->nA (λb=>B.eF b/\¬ZS b) s.heap s'.heap->P ah s')->Gr (aP f.prog f.w) A it dD G P E s
 done:∀{Z r F s P E},C Z.o->Lp f Y G B (bM vs.length) Z r F s->(∀s',At f Y G Z r s' F->fB B.r r B.s s' B.F F B.o (own (eS G Z r))->nA (λb=>B.eF b/\¬ZS b) s.heap s'.heap->P ak s')->Gr (aP f.prog f.w) A it dD G P E s
theorem hU{α:Type}{A:cQ}{B:Bs}{ZS:aR->Prop}{it:aA}{dD:aT}{bind:α->St->(St->Prop)->Prop}{C:J O->Prop}{bM:H->dH->Prop}{vs:J α}{fg:J ai}{body:J eg}{fS:H}{Q:dZ->St->Prop}{R:nM->aE->Prop}{Φ:H->St->Prop}
  (eE:Hd f Y G A B ZS it dD bind C bM vs)(hm:B.r.length<=fS)(o:Ok n A)(i:g_ f Y G)(h0:∀Z,Φ vs.length Z->C Z.o/\Q .next Z)
  (h1:∀j v Z,vs[j]?=N v->Φ j Z->C Z.o/\bind v Z λb9=>WS f Y n body b9 (zW fg fS (Φ (j+1)) Q))
  (hR:∀fl b9 r' F' u s',Q fl b9->xh f.w r' F' fl u->At f Y G b9 r' s' F'->fB B.r r' B.s s' B.F F' B.o (own (eS G b9 r'))->R (.ok u) s'):
  ∀k j Z r F s,j+k=vs.length->Φ j Z->Lp f Y G B (bM j) Z r F s->eG (aP f.prog f.w) A (.forLoop dD it body [] G) R s:=by
 intro k;induction k with
 |zero=>intro j Z r F s e h L;subst e;have g:=h0 _ h;exact Zu (cC:=λX=>bV) (λX z=>z.elim) (eE.done g.1 L λs' a t X=>hR .next Z r F .next s' g.2 .next a t)
 |succ k ih=>
  intro j Z r F s e h L;have hj:j<vs.length:=e▸xV (jc k);have g:=h1 j _ Z (mZ hj) h;refine Zu (cC:=λs=>∃Z r F,Φ (j+1) Z/\Lp f Y G B (bM (j+1)) Z r F s) (λs z=>z.elim λZ z=>z.elim λr z=>z.elim λF z=>ih (j+1) Z r F s ((xW ..).trans e) z.1 z.2) (eE.item (mZ hj) g.1 g.2 L λb3 iH cj dw X lX I=>?_);refine WX.run dw o i lX.a λfl u iI i8 i9 dU ku qU jo gx=>?_;have iT:=lX.step eE.z (eE.Z _) jo gx;obtain⟨EJ,xq⟩:=iT.trim (fg:=fg) hm;cases qU with
  |next=>exact⟨_,EJ,i9,Te ku,xq⟩
  |cont=>exact⟨_,EJ,i9,Te ku,xq⟩
  |brk=>exact hR _ _ EJ i9 _ dU ku .next xq.a xq.t
  |ret y=>exact hR _ iI i8 i9 _ dU ku (.ret y) iT.a iT.t
theorem Ib.hd{A:cQ}{B:Bs}{ds:J D}(dI:Ib f A bG ds B.b4 h0 h fp P vU)(hh:A.handled=ao)(i:g_ f Y G)(ht:xo dD ts one)(zI:B.eF bG)(eY:B.vS):
  Hd f Y G A B (·=bG) (.ref bG) dD (jL ts one) (λX=>oU) vU (ds.map .d):=by
 have Z:∀j,Cm B (·=bG) (vU j):=λj h h' hs k=>dI.W.frame j h h' hs λb hb y e=>k b y (dI.foot b hb) e;have zi:∀b,b=bG->B.eF b:=λb e=>e▸zI;refine⟨zi,Z,λ{j v aI r F s k P E} e X hb L hP=>?_,λ{aI r F s P E} X L hP=>?_⟩
 ·have hj:j<ds.length:=by
   have:=(vq.mp e).1
   rwa [cO]at this
  refine aZ<|dI.W.item j s _ _ hj L.j λu h' tk hp vQ S=>?_;have k:nA (λb=>b≠bG) s.heap h':=λb y z e=>S b y (λq=>z (fN.mp q)) e;have uN:=L.hole (tk:=tk) eY (λb y z e=>k b y (λq=>z (zi b q)) e) (λb z=>by
   by_cases q:b=bG
   ·exact q▸dI.alive _ _ vQ
   ·exact(L.l b z).elim λy e=>⟨y,k b y q e⟩) vQ
  refine dI.go _ _ _ _ _ _ vQ ?_;refine b_ (dI.item j u hj hp) λd hx=>?_;have ed:=hx.1;have yd:=hx.2;rw[mC,ed]at e
  cases e;exact hM hb hh i uN.a (.d (yd.mono L.g)) ht λb9 s' h a t=>hP b9 F s' h t.grow (uN.step zi (Z _) a t) λb y z e=>uN.kept t b y z.1 (k b y z.2 e)
 ·have L:Lp f Y G B (vU ds.length) aI r F s:=by rw[cO]at L;exact L
  refine aZ<|dI.W.done s _ _ L.j λh' tk S=>?_;have k:nA (λb=>b≠bG) s.heap h':=λb y z e=>S b y (λq=>z (fN.mp q)) e;have k2:nA (λb=>¬B.eF b) s.heap h':=λb y z e=>k b y (λq=>z (zi b q)) e;exact hP _ (L.a.vR L.p k2) (L.t.vR eY k2) λb y z e=>k b y z.2 e
theorem Tf{ds:J D}(e:(ds.map V.d)[j]?=N v):∃d,v=.d d/\ds.drop j=d::ds.drop (j+1):=by
 rw[mC]at e
 cases q:ds[j]? with
 |none=>rw[q]at e;cases e
 |some d=>
  rw[q]at e
  have g:=vq.mp q;exact⟨d,(fU e).symm,g.2▸cv6 g.1⟩
theorem aS2{fg ts:J ai}{one:aD}{dD dY:aT}{body:J eg}{pos:gq}{Q:dZ->St->Prop}(h:WI f Y n (λG=>cM dY G) Z λds aI=>gT fg ts one (Wm.len aI.o) (λZ k=>WS f Y n body Z k) ds (j9 fg aI) Q)
  (ht:xo dD ts one)(hs:∀x G,pO dY G x=pure x):W1 f Y n (.For dD dY body [] pos) Z Q:=λA s F G E r o i a=>by
 refine Yq (h A s F G E r _ o i a λds aI bY cz aF it cj hq b7 b8 e dI=>?_) (λx=>hs x G);obtain⟨bG,fp,P,vU,rfl,dI⟩:=dI;obtain⟨h',tk,rfl⟩:=e;obtain⟨e_,c9⟩:=b7.ext (t:=tk) (h':=h') dI.old;have e5:own (eS G (j9 fg aI) bY)=own (eS G aI bY):=b7.SN;have ap:=iQ.fresh b7.mt dI.new
 have L:Lp f Y G ⟨bY,aF,cz,own (eS G aI bY),(·=bG),cz⟩ (vU 0) (j9 fg aI) bY cz {aF with heap:=h',toks:=tk}:=
  ⟨e_.forget,c9.weak (.refl _) (λX z=>z) (λb hb=>.inl (e5▸hb)),λb e=>e▸⟨ap.fr,e5▸ap.ow⟩,λb e=>e▸dI.alive _ _ dI.Z,.refl _,dI.Z⟩
 refine hU (fg:=fg) (Φ:=λj Z=>gT fg ts one (Wm.len aI.o) (λZ k=>WS f Y n body Z k) (ds.drop j) Z Q) (dI.hd o.hd i ht rfl λb e X=>e▸dI.new) b7.EI o i (λZ h=>⟨cH2,?_⟩) (λj v Z e h=>⟨cH2,?_⟩) (λfl b9 r' F' u s' q y a' t'=>⟨fl,b9,r',F',q,y,a',b8.trans t'⟩) (ds.map V.d).length 0 (j9 fg aI) bY cz _ (mW _) hq L
 ·rw[cO,Ky]at h;exact h
 ·obtain⟨d,rfl,e2⟩:=Tf e;rw[e2]at h;exact h
theorem aS3{A:cQ}{B:Bs}{fg:J ai}{nI:aT}{body:J eg}{fS:H}{Q:dZ->St->Prop}{R:nM->aE->Prop}{bG:H->St->Prop}(hZ:∀b,¬B.eF b)(hm:B.r.length<=fS)(o:Ok n A)(i:g_ f Y G)
  (h:∀k b9,bG k b9->WT f Y n nI b9 λq aI=>dh q (WS f Y n body aI λfl b3=>match fl with
   | .next=>∃m,m<k/\bG m (jJ fS (j9 fg b3))
   | .cont=>∃m,m<k/\bG m (jJ fS (j9 fg b3))
   | .brk=>Q .next b3
   | .ret v=>Q (.ret v) b3) (Q .next aI))
  (hR:∀fl b9 r' F' u s',Q fl b9->xh f.w r' F' fl u->At f Y G b9 r' s' F'->fB B.r r' B.s s' B.F F' B.o (own (eS G b9 r'))->R (.ok u) s'):
  ∀k Z r F s,bG k Z->Lp f Y G B (λX=>oU) Z r F s->eG (aP f.prog f.w) A (.whileLoop nI body [] G) R s:=by
 intro k;induction k using co5 with|ind k ih=>
 intro Z r F s hi L;have hV:Cm B (λX=>bV) (λX=>oU):=λX I u2 u3=>trivial;refine aC4 (cC:=λs=>∃m Z r F,m<k/\bG m Z/\Lp f Y G B (λX=>oU) Z r F s) (λs z=>z.elim λm z=>z.elim λZ z=>z.elim λr z=>z.elim λF z=>ih m z.1 Z r F s z.2.1 z.2.2) (WX.run (h k Z hi) o i L.a λq b aI bY cz aF h₁ cX b7 b8=>?_);subst cX;have uN:=L.step (λX z=>z.elim) hV b7 b8;induction q with
 |false=>exact hR .next aI bY cz .next aF h₁ .next uN.a uN.t
 |true=>
  refine WX.run (show WS f Y n body aI _ from h₁) o i uN.a λfl u b3 iB iH cj dw gU e_ c9=>?_
  have lX:=uN.step (λX z=>z.elim) hV e_ c9;obtain⟨i8,iT⟩:=lX.trim (fg:=fg) hm;cases gU with
  |next=>exact dw.elim λm z=>⟨m,_,i8,iH,z.1,z.2,iT⟩
  |cont=>exact dw.elim λm z=>⟨m,_,i8,iH,z.1,z.2,iT⟩
  |brk=>exact hR .next b3 iB iH .next cj dw .next lX.a lX.t
  |ret y=>exact hR _ b3 iB iH _ cj dw (.ret y) lX.a lX.t
theorem aS4(bG:H->St->Prop)(k:H)(h0:bG k (jJ (Wm.len Z.o) (j9 fg Z)))
  (h:∀k b9,bG k b9->WT f Y n nI b9 λq aI=>dh q (WS f Y n body aI λfl b3=>match fl with
   | .next=>∃m,m<k/\bG m (jJ (Wm.len Z.o) (j9 fg b3))
   | .cont=>∃m,m<k/\bG m (jJ (Wm.len Z.o) (j9 fg b3))
   | .brk=>Q .next b3
   | .ret v=>Q (.ret v) b3) (Q .next aI)):W1 f Y n (.While nI body [] pos) Z Q:=λA s F G E r o i a=>by
 have L0:Lp f Y G ⟨r,s,F,own (eS G Z r),λX=>bV,λX=>ao⟩ (λX=>oU) Z r F s:=⟨a,.refl ..,λX z=>z.elim,λX z=>z.elim,(λX I z=>nomatch z:iF (λX=>ao) F),cH2⟩;obtain⟨r',L⟩:=L0.trim (fg:=fg) a.EI;exact au1 (aS3 (λX z=>z) a.EI o i h (λfl b9 r' F' u s' q y a' t'=>⟨fl,b9,r',F',q,y,a',t'⟩) k _ r' F s h0 L)
noncomputable abbrev Nb(bZ:J aT)(G:cL):dJ aD:=forIn bZ ah λc r=>if r=ah then do let ok<-oV c G (cM c G);pure (am8 ok)else pure (am8 r)
abbrev mL(f:Cf)(Y:J (ai×cJ))(n:H)(bZ:J aT):=WX f Y (λX I (b:aD)(b':aD)=>b=b') n (Nb bZ)
theorem aS5{α:Type}{g:α->aD->dJ (am9 aD)}(h:∀x,g x ak=pure (.yield ak)):∀l:J α,forIn l ak g=pure ak:=λi_=>by
 induction i_ with
 |nil=>exact rfl
 |cons x l ih=>exact by rw[Qe,h,pure_bind];exact ih
theorem hY(h:Q ah Z):mL f Y n [] Z Q:=λA s F G E r o i a=>bg (.oE a rfl h)
theorem aS6(h:WT f Y n c Z λq aI=>dh q (mL f Y n l aI Q) (Q ak aI)):mL f Y n (c::l) Z Q:=λA s F G E r o i a=>by
 show av _ _ (Nb (c::l) G) _ _ _
 simp only[Nb,Qe,if_true];refine aJ (aJ (WX.run h o i a λq b aI bY cz aF h₁ cX b7 b8=>bg ?_));subst cX;induction q with
 |true=>exact gG (h₁ A aF cz G E bY o i b7) (λX I p=>.of b8 p) λX I z=>z
 |false=>dsimp only;rw[aS5 (λX=>rfl)];exact bg ⟨ak,aI,bY,cz,h₁,rfl,b7,b8⟩
theorem aS7{dY:aT}{G:cL}(g0:lP[dp]?=N ⟨dD,dY,bZ,0⟩)(g1:lP[dp+1]?=ao):
  Qf (.ListComp aY lP scope pos) dp it acc G=(do
   su dY.pos
   match<-pyNext it with
   |none=>pure (.done .next)
   |some v=>
    J' dD it v
    sy dD G v
    let mut ok:=true
    for c in bZ do
     if ok then ok<-oV c G (cM c G)
    if ok then
     (do let _<-fF (.builtin "list.append") [acc,<-cM aY G])
    sj (.compLoop (.ListComp aY lP scope pos) dp it acc G)):=by
 delta Qf;dsimp only;rw[g0];dsimp only;rw[g1];rfl
def aS8(M:jP)(A:cQ)(G:cL)(bZ:J aT)(aY:aT)(acc:aA)(R:nM->aE->Prop)(cC:aE->Prop)(b:aD)(s:aE):Prop:=match b with
 |false=>R (.ok .next) s
 |true=>av M A (Nb bZ G) (λok cj=>match ok with
  |false=>cC cj
  |true=>av M A (cM aY G) (λx dU=>av M A (fF (.builtin "list.append") [acc,x]) (λX nU=>cC nU) (w6 M A G R) dU) (w6 M A G R) cj) (w6 M A G R) s
theorem ij{G:cL}(g0:lP[dp]?=N ⟨dD,dY,bZ,0⟩)(g1:lP[dp+1]?=ao)
  (hN:∀s,cC s->eG (aP prog w) A (.compLoop (.ListComp aY lP scope pos) dp it acc G) R s)(h:Gr (aP prog w) A it dD G (aS8 (aP prog w) A G bZ aY acc R cC) (w6 (aP prog w) A G R) s):eG (aP prog w) A (.compLoop (.ListComp aY lP scope pos) dp it acc G) R s:=by
 refine m_ ?_
 show av _ A ((Qf (.ListComp aY lP scope pos) dp it acc G).onRaise (λx=>do Dg x G;PN x)) _ _ s
 refine KS ?_;rw[aS7 g0 g1];refine at_ (dR h λr aF q=>?_);induction r with
 |none=>exact bg q
 |some v=>
  refine dR q λX Zv q=>dR q λX cj q=>dR q λok dU q=>?_;induction ok with
  |false=>exact bg ⟨⟨rfl,rfl⟩,hN _ q⟩
  |true=>exact aJ (dR q λx nU q=>dR q λX cD1 q=>bg (bg ⟨⟨rfl,rfl⟩,hN _ q⟩))
noncomputable def Ig(G:cL)(acc:J (ai×aR))(p:ai×cJ):J (ai×aR):=if p.2== .free then(p.1,(G.cells.lookup p.1).getD 0)::acc else acc
theorem aS9{α β:Type}{b:α->β->dJ (am9 β)}{g:β->α->β}:∀(l:J α)(r:β),(∀x∈l,∀r,b x r=pure (.yield (g r x)))->forIn l r b=(pure (l.foldl g r):dJ β):=λi_=>by
 induction i_ with
 |nil=>exact λX I=>rfl
 |cons x l ih=>intro r h;rw[Qe,h x (.head _),pure_bind];exact ih _ λy m=>h y (.tail _ m)
theorem aT0(ha:G.cells.lookup x=N a):∀(names:J (ai×cJ))(acc:J (ai×aR)),(x,Du)∈names\/acc.lookup x=N a->(names.foldl (Ig G) acc).lookup x=N a:=λi_=>by
 induction i_ with
 |nil=>exact λacc h=>h.resolve_left nofun
 |cons p names ih=>exact λacc h=>ih _ (by
  have eY:((x,(G.cells.lookup x).getD 0)::acc).lookup x=N a:=by rw[ha,Be,qy];rfl
  by_cases q:p=(x,.free)
  ·subst q;exact .inr eY
  ·refine h.imp (λh=>(iV.mp h).resolve_left (F0 q)) λh=>?_;unfold Ig
   split
   ·by_cases e:p.1=x
    ·rw[e];exact eY
    ·rw[Be,Kf (F0 e)];exact h
   ·exact h)
theorem aT1{names:J (ai×cJ)}(h:∀x,(x,Du)∈names->∃a,G.cells.lookup x=N a):
  ∃cl,(∀scope:ly,scope.names=names->aj7 scope G=pure cl)/\∀x a,(x,Du)∈names->G.cells.lookup x=N a->cl.lookup x=N a:=by
 refine⟨names.foldl (Ig G) [],λscope e=>?_,λx a hx ha=>aT0 ha _ _ (.inl hx)⟩;subst e;refine Qg ?_ (pure_bind (scope.names.foldl (Ig G) []) λx=>(pure x:dJ _));refine bQ (·>>=λx=>(pure x:dJ _)) (aS9 scope.names [] λp hp r=>?_);obtain⟨x,k⟩:=p;unfold Ig;induction k with
 |free=>
  obtain⟨a,e⟩:=h x hp
  show(cellOf G x>>=_)=_
  unfold cellOf;rw[e];rfl
 |_=>rfl
theorem Tg:cG x (jC m cs)=N sl->x∈cs/\cG x m=N sl:=by
 induction cs with
 |nil=>exact λh=>nomatch h
 |cons y cs ih=>
  have go:∀o,cG y m=o->cG x (match o with|some s=>(y,s)::jC m cs|none=>jC m cs)=N sl->x∈y::cs/\cG x m=N sl:=λo=>by
   induction o with
   |none=>exact λX h=>⟨.tail _ (ih h).1,(ih h).2⟩
   |some z=>
    intro q h;rw[tF]at h
    by_cases g:x=y
    ·rw[dP g]at h;exact⟨g▸ .head _,g▸q.trans h⟩
    ·rw[cF g]at h;exact⟨.tail _ (ih h).1,(ih h).2⟩
  exact go _ rfl
theorem Nc:j_ m cs=ah->∀x∈cs,∃h,cG x m=N (.C h):=by
 induction cs with
 |nil=>exact λX=>nofun
 |cons y cs ih=>
  have go:∀o,cG y m=o->(match o with|some (.C X)=>j_ m cs|X=>ak)=ah->∀x∈y::cs,∃h,cG x m=N (.C h):=λo=>by
   induction o with
   |none=>exact λX h=>nomatch h
   |some sl=>induction sl with
    |L X=>exact λX h=>nomatch h
    |C c=>exact λq h=>gv.mpr ⟨⟨c,q⟩,ih h⟩
  exact go _ rfl
theorem Nd:cG x (mH ts)=N sl->x∈ts/\sl=.L ao:=by
 induction ts with
 |nil=>exact λh=>nomatch h
 |cons y ts ih=>
  intro h;have h:cG x ((y,jA.L ao)::mH ts)=N sl:=h;rw[tF]at h
  by_cases g:x=y
  ·rw[dP g]at h;exact⟨g▸ .head _,(fU h).symm⟩
  ·rw[cF g]at h;exact⟨.tail _ (ih h).1,(ih h).2⟩
theorem Th{α:Type}{x:ai}{a:α}{m l:J (ai×α)}:cG x (l++m)=N a->cG x l=N a\/cG x m=N a:=by
 induction l with
 |nil=>exact .inr
 |cons p l ih=>
  intro h;rw[List.cons_append,tF]at h
  rw[tF];by_cases g:x=p.1
  ·rw[dP g]at h|-;exact .inl h
  ·rw[cF g]at h|-;exact ih h
def jt(Y names:J (ai×cJ)):J (ai×cJ):=names.map λp=>match p.2,cG p.1 Y with| .free,N .cell=>(p.1,.cell)|X,I=>p
theorem aT2{scope:ly}(i:g_ f Y G):(Di scope G).names=jt Y scope.names:=by
 unfold Di jt;dsimp only;congr 1;funext p;obtain⟨x,k⟩:=p;have S:G.kindOf x=cG x Y:=by unfold PO;rw[i.Y,<-Au]
 rw[S,i.kind];dsimp only;induction k with
 |free=>
  cases cG x Y with
  |none=>rfl
  |some k'=>cases k'<;>rfl
 |_=>rfl
structure vV(Y:J (ai×cJ))(cs ts:J ai)(scope:ly):Prop where
 cell:∀y∈scope.names,y.2≠.cell
 kind:scope.kind=.function
 names:∀x∈scope.names,x.2=.local->scope.names.lookup x.1=N .local
 free:∀x,(x,Du)∈scope.names->x∈cs
 jC:∀x∈cs,(x,Du)∈scope.names/\cG x (jt Y scope.names)=N .cell
 aT3:∀x∈ts,cG x (jt Y scope.names)=N .local
theorem Mt.enter{h':dH}{t:H}(m:Mt w B r s F L)(k:∀b y,s.heap.get? b=N y->h'.get? b=N y)(hC:s.heap.get? C=ao)(ho:jR (p,o)=[C])(hr:OR w r F h' p o):
  Mt w B r {s with heap:=h',toks:=t} F (L++[(p,o)])/\fB r r s {s with heap:=h',toks:=t} F F (own L) (own (L++[(p,o)])):=by
 have ap:=iQ.fresh m hC;have e:own (L++[(p,o)])=own L++[C]:=by rw[je,oA,ho];rfl
 refine⟨⟨λa y q=>k a y (m.sub a y q),m.base,λq hq=>?_,λa ha=>?_,?_⟩,⟨.refl _,⟨_,_,rfl⟩,.refl _,λX I q=>.inl q,λa q=>?_,λa y X q=>k a y q⟩⟩
 ·rcases gK.mp hq with hq|hq
  ·exact(m.live q hq).step (.refl _) (.refl _) λb X y e=>k b y e
  ·rw[fN.mp hq];exact hr
 ·rw[e]at ha
  rcases gK.mp ha with ha|ha
  ·exact m.jf a ha
  ·rw[fN.mp ha];exact ap.fr
 ·rw[e];refine qz.mpr ⟨m.nd,by simp,λa ha b hb q=>?_⟩
  rw[fN.mp hb]at q
  exact ap.ow (q▸ha)
 ·rw[e]at q
  rcases gK.mp q with q|q
  ·exact .inl q
  ·rw[fN.mp q];exact .inr hC
theorem Mt.Nf{w:bU}{B:bN}{L:uK}{D:aR}{o:fH}{kc:bP}{bJ:aE}{Cn:bN}{ow:J aR}(m:Mt w B r s F L)(t:fB kc r bJ s Cn F ow (own L))(ap:iQ D F (own L))(e:s.heap.get? D=N o)(hD:bJ.heap.get? D=ao):
  ∃F',F' D=N o/\iF F F'/\(∀a,a≠D->F' a=F a)/\Mt w B r s F' L/\fB kc r bJ s Cn F' ow (own L):=by
 have sl:iF F (λa=>if a=D then N o else F a):=λa x q=>by
  have:a≠D:=λh=>by rw[h,ap.fr]at q;cases q
  show(if a=D then N o else F a)=N x
  rw[cF this];exact q
 refine⟨λa=>if a=D then N o else F a,dP rfl,sl,λa h=>cF h,⟨λa x q=>?_,λa x q=>sl a x (m.base a x q),λp hp=>(m.live p hp).step (.refl _) sl λX I u2 e=>e,λa ha=>?_,m.nd⟩,⟨t.fM,t.same,t.grow.trans sl,λa x q=>?_,t.tK,t.kept⟩⟩
 ·by_cases h:a=D
  ·subst h;have:N o=N x:=(dP rfl).symm.trans q;rw[e];exact this
  ·exact m.sub a x ((cF h).symm.trans q)
 ·have:a≠D:=λh=>ap.ow (h▸ha);exact(cF this).trans (m.jf a ha)
 ·by_cases h:a=D
  ·exact .inr (.inr (h▸hD))
  ·exact t.vP a x ((cF h).symm.trans q)
theorem Mt.ik{w:bU}{B:bN}{o:J O}{D:aR}{x:O}{kc:bP}{bJ:aE}{Cn:bN}{ow:J aR}(m:Mt w B r s F (r.zip o))(len:r.length=o.length)(t:fB kc r bJ s Cn F ow (own (r.zip o)))(ap:iQ D F (own (r.zip o)))(hx:jR ((D,D),x)=[D])
  (hr:OR w r F s.heap (D,D) x)(hD:bJ.heap.get? D=ao):Mt w B (r++[(D,D)]) s F ((r++[(D,D)]).zip (o++[x]))/\fB kc (r++[(D,D)]) bJ s Cn F ow (own ((r++[(D,D)]).zip (o++[x]))):=by
 have q:f_ r (r++[(D,D)]):=f_.app _ _;have e:own ((r++[(D,D)]).zip (o++[x]))=own (r.zip o)++[D]:=by rw[HU len,je,oA,hx];rfl
 refine⟨⟨m.sub,m.base,λp hp=>?_,λa ha=>?_,?_⟩,⟨t.fM.trans q,t.same,t.grow,t.vP,λa ha=>?_,t.kept⟩⟩
 ·rw[HU len]at hp
  rcases gK.mp hp with hp|hp
  ·exact(m.live p hp).step q (.refl _) λX I u2 e=>e
  ·rw[fN.mp hp];exact hr.step q (.refl _) λX I u2 e=>e
 ·rw[e]at ha
  rcases gK.mp ha with ha|ha
  ·exact m.jf a ha
  ·rw[fN.mp ha];exact ap.fr
 ·rw[e];refine qz.mpr ⟨m.nd,by simp,λa ha b hb q=>?_⟩
  rw[fN.mp hb]at q
  exact ap.ow (q▸ha)
 ·rw[e]at ha
  rcases gK.mp ha with ha|ha
  ·exact t.tK a ha
  ·rw[fN.mp ha];exact .inr hD
theorem Ih{scope:ly}(i:g_ f Y G)(S:scope.kind=.function):g_ f (jt Y scope.names) (Gg scope cl C G):=
 ⟨S,aT2 i,i.gl,i.bi⟩
theorem aT4(k:H)(m:Fm)(o:J O):⟨m,(jJ k ⟨m,o⟩).o⟩=jJ k ⟨m,o⟩:=by
 unfold Wm.jJ;split
 ·rfl
 ·split<;>rfl
theorem aT5(k:H)(v:V)(m:Fm)(o:J O):⟨m,(nt k v ⟨m,o⟩).o⟩=nt k v ⟨m,o⟩:=by unfold Wm.nt;split<;>rfl
def Co(m:Fm):Prop:=∀x sl,cG x m=N sl->sl=.L ao\/∃h,sl=.C h
section
variable{B:Bs}{bM:dH->Prop}{m:Fm}{o:J O}{iI:St}{i8:bP}{dU:aE}{i9:bN}
theorem At.back(hm:Co m)(a:At f Y G ⟨m,o⟩ r s F)(jo:At f Y G iI i8 dU i9)(q:f_ r i8):At f Y G ⟨m,iI.o⟩ i8 dU i9/\own (eS G ⟨m,iI.o⟩ i8)=own (eS G iI i8):=by
 have eo:own (eS G ⟨m,iI.o⟩ i8)=own (eS G iI i8):=by rw[nY,nY]
 refine⟨⟨jo.len,a.fk,jo.mt.sub,jo.mt.base,λp hp=>(gK.mp hp).elim (λhp=>jo.mt.live p (iM _ hp)) λhp=>?_,λb hb=>jo.mt.jf b (eo▸hb),eo▸jo.mt.nd⟩,eo⟩;rw[fN.mp hp];refine jo.frame.elim λmc hn=>⟨mc,hn.1,λx sl e=>?_⟩;rcases hm x sl e with rfl|⟨h,rfl⟩
 ·exact λv q=>nomatch q
 ·exact a.frame.elim λX hv=>(hv.2 x _ e).elim λp h=>⟨p,q _ _ h.1,h.2⟩
theorem Lp.turn(hm:Co m)(L:Lp f Y G B bM ⟨m,o⟩ r F s)(iT:Lp f Y G B Ti iI i8 i9 dU)(q:f_ r i8):∃uO,Lp f Y G B Ti ⟨m,(jJ (Wm.len o) ⟨m,iI.o⟩).o⟩ uO i9 dU/\f_ r uO:=by have b:=L.a.back hm iT.a q;refine(b.1.trim q L.a.EI).elim λuO g=>⟨uO,?_,g.2.1⟩;rw[aT4];exact iT.move g.1 (L.t.fM.trans g.2.1) λc hc=>b.2▸g.2.2 c hc
theorem Lp.aT6(hm:Co m)(L:Lp f Y G B bM ⟨m,o⟩ r F s)(iT:Lp f Y G B Ti iI i8 i9 dU)(q:f_ r i8)(y:VR f.w i8 i9 v u):∃uO,Lp f Y G B Ti ⟨m,(nt (Wm.len o) v ⟨m,iI.o⟩).o⟩ uO i9 dU/\f_ r uO/\VR f.w uO i9 v u:=by have b:=L.a.back hm iT.a q;refine(b.1.nt q L.a.EI y).elim λuO g=>⟨uO,?_,g.2.1,g.2.2.2⟩;rw[aT5];exact iT.move g.1 (L.t.fM.trans g.2.1) λc hc=>b.2▸g.2.2.1 c hc
end
structure Cs(f:Cf)(Y:J (ai×cJ))(G:cL)(B:Bs)(bM:dH->Prop)(D:aR)(eF:aR->Prop)(h₀:dH)(us:J V)(Z:St)(r:bP)(F:bN)(s:aE)(ys:cT aA):Prop where
 L:Lp f Y G B bM Z r F s
 v:gh f.w r F us ys.toList
 d:s.heap.PlainList D ys
 k:nA eF h₀ s.heap
inductive Ng(f:Cf)(Y:J (ai×cJ))(G:cL)(B:Bs)(bM:dH->Prop)(D:aR)(eF:aR->Prop)(h₀:dH)(m:Fm)(l:H)(P:J V->J O->Prop)(s:aE):Prop
 |mk (us o r F ys):us.length+l<=1048576->P us o->Cs f Y G B bM D eF h₀ us ⟨m,o⟩ r F s ys->Ng f Y G B bM D eF h₀ m l P s
theorem im{α:Type}{cenv:cL}{A:cQ}{B:Bs}{ZS eF:aR->Prop}{it:aA}{bind:α->St->(St->Prop)->Prop}{C:J O->Prop}{bM:H->dH->Prop}{vs:J α}{aY dD dY:aT}{bZ:J aT}{lP:J Ka}{dp:H}{scope:ly}{pos:gq}{D:aR}{m:Fm}{R:nM->aE->Prop}{Φ:H->J V->J O->Prop}{K:J V->J O->Prop}{h₀:dH}
  (g0:lP[dp]?=N ⟨dD,dY,bZ,0⟩)(g1:lP[dp+1]?=ao)(eE:Hd f Y cenv A B ZS it dD bind C bM vs)(eY:B.vS)(zD:B.eF D)(nD:¬ZS D)(hZ:∀b,eF b->B.eF b/\¬ZS b/\b≠D)(hm:Co m)(o:Ok n A)(i:g_ f Y cenv)
  (h0:∀us o,Φ vs.length us o->C o/\K us o)
  (h1:∀j v us o,vs[j]?=N v->Φ j us o->C o/\bind v ⟨m,o⟩ λZ=>mL f Y n bZ Z λq Z=>dh q (WE f Y n aY Z λu Z=>Φ (j+1) (us++[u]) (nt (Wm.len o) u ⟨m,Z.o⟩).o) (Φ (j+1) us (jJ (Wm.len o) ⟨m,Z.o⟩).o))
  (hR:∀us o' r' F' s' ys,K us o'->At f Y cenv ⟨m,o'⟩ r' s' F'->fB B.r r' B.s s' B.F F' B.o (own (eS cenv ⟨m,o'⟩ r'))->iQ D F' (own (eS cenv ⟨m,o'⟩ r'))->gh f.w r' F' us ys.toList->s'.heap.PlainList D ys->us.length<=1048576->(∀b,B.eF b->iQ b F' (own (eS cenv ⟨m,o'⟩ r')))->iF B.b4 F'->nA eF h₀ s'.heap->R (.ok .next) s'):
  ∀k j us o r F s ys,j+k=vs.length->us.length+k<=1048576->Φ j us o->Cs f Y cenv B (bM j) D eF h₀ us ⟨m,o⟩ r F s ys->eG (aP f.prog f.w) A (.compLoop (.ListComp aY lP scope pos) dp it (.ref D) cenv) R s:=by
 intro k;induction k with
 |zero=>intro j us ob r F s ys e hl h c;subst e;have g:=h0 us ob h;exact ij g0 g1 (cC:=λX=>bV) (λX z=>z.elim) (eE.done g.1 c.L λs' a t k=>hR us ob r F s' ys g.2 a t (c.L.p D zD) c.v (c.d.at λX e=>k _ _ ⟨zD,nD⟩ e) hl c.L.p c.L.g λb y z e=>k b y ⟨(hZ b z).1,(hZ b z).2.1⟩ (c.k b y z e))
 |succ k ih=>
  intro j us ob r F s ys e hl h c;have hj:j<vs.length:=e▸xV (jc k);have g:=h1 j _ us ob (mZ hj) h;refine ij g0 g1 (cC:=Ng f Y cenv B (bM (j+1)) D eF h₀ m k (Φ (j+1))) (λs z=>z.rec λus o r F ys h1 h2 h3=>ih (j+1) us o r F s ys ((xW ..).trans e) h1 h2 h3)
   (eE.item (mZ hj) g.1 g.2 c.L λb3 iH cj dw Tj lX FU=>?_)
  have kz:∀{s':aE},nA B.eF cj.heap s'.heap->nA eF h₀ s'.heap:=λq b y z e=>q b y (hZ b z).1 (FU b y ⟨(hZ b z).1,(hZ b z).2.1⟩ (c.k b y z e));have Nh:cj.heap.PlainList D ys:=c.d.at λX e=>FU _ _ ⟨zD,nD⟩ e;clear FU g h;refine WX.run dw o i lX.a λq b iI i8 i9 dU ku qU jo gx=>?_;subst qU;have iT:=lX.step eE.z (eE.Z _) jo gx;have Tn:=lX.kept gx;have io:=Tj.trans gx.grow;have aT7:dU.heap.PlainList D ys:=Nh.at λX e=>Tn _ _ zD e;induction q with
  |false=>exact(c.L.turn hm iT gx.fM).elim λuO w=>⟨us,_,uO,i9,ys,ai3 hl,ku,w.1,c.v.Ew w.2 io,aT7,kz Tn⟩
  |true=>
   refine WX.run (show WE f Y n aY iI _ from ku) o i jo λv u ip EJ aT8 nU s_ aT9 H9 AB=>?_
   have xq:=iT.step eE.z (eE.Z _) H9 AB;have iq:nA B.eF cj.heap nU.heap:=λb y z e=>iT.kept AB b y z (Tn b y z e);have aU0:nU.heap.PlainList D ys:=Nh.at λX e=>iq _ _ zD e;have hy:ys.size=us.length:=(c.v.length.trans oY).symm;refine aZ<|wpAny_list_append_plain (hsz:=by rw[hy];unfold gX;exact bR (bR (gF ..) hl) (by decide:1048576<=2^24)) aU0 λaU1 ir aU2=>?_
   have kD:nA (·≠D) nU.heap aU1:=λb y q e=>aU2.extBut b y q e;have aU3:=xq.hole (tk:=nU.toks) eY (λb y z e=>kD b y (λq=>z (q▸zD)) e) (λb z=>by
    by_cases q:b=D
    ·exact q▸ir.elim λn e=>⟨_,e⟩
    ·exact(xq.l b z).elim λy e=>⟨y,kD b y q e⟩) (eE.Z _ _ _ xq.j λb y z e=>kD b y (λq=>z.elim (λz=>nD (q▸z)) λ⟨x,z⟩=>nomatch (xq.p D zD).fr.symm.trans (xq.g D x (q▸z))) e)
   exact(c.L.aT6 hm aU3 (gx.fM.trans AB.fM) aT9).elim λaU4 w=>⟨us++[v],_,aU4,aT8,ys.push u,by rw[f6,wB,rB [v].length];exact hl,s_,w.1,by rw[Qh];exact(c.v.Ew w.2.1 (io.trans AB.grow)).append (.cons w.2.2 .nil),ir,λb y z e=>kD b y (hZ b z).2.2 (kz iq b y z e)⟩
def vW(f:Cf)(Y:J (ai×cJ))(n:H)(m:Fm)(ts:J ai)(one:aD)(bZ:J aT)(aY:aT)(ds:J D)(K:J V->J O->Prop)(j:H)(us:J V)(o:J O):Prop:=
 jW ts one m (λZ k=>mL f Y n bZ Z k) (λZ k=>WE f Y n aY Z k) (ds.drop j) o λvs o=>K (us++vs) o
section
variable{ts:J ai}{one:aD}{m:Fm}{bZ:J aT}{aY:aT}{ds:J D}{K:J V->J O->Prop}{us:J V}{o:J O}
theorem vW.end_(h:vW f Y n m ts one bZ aY ds K (ds.map V.d).length us o):K us o:=by
 unfold vW at h
 rw[cO,Ky]at h
 exact j3 us▸h
theorem vW.item(e:(ds.map V.d)[j]?=N v)(h:vW f Y n m ts one bZ aY ds K j us o):jL ts one v ⟨m,o⟩ λZ=>mL f Y n bZ Z λq Z=>dh q (WE f Y n aY Z λu Z=>vW f Y n m ts one bZ aY ds K (j+1) (us++[u]) (nt (Wm.len o) u ⟨m,Z.o⟩).o) (vW f Y n m ts one bZ aY ds K (j+1) us (jJ (Wm.len o) ⟨m,Z.o⟩).o):=by
 obtain⟨d,rfl,e2⟩:=Tf e;unfold vW at h
 rw[e2]at h
 have e9:∀(u:V)(o:J O),vW f Y n m ts one bZ aY ds K (j+1) (us++[u]) o=jW ts one m (λZ k=>mL f Y n bZ Z k) (λZ k=>WE f Y n aY Z k) (ds.drop (j+1)) o (Sd u λvs o=>K (us++vs) o):=λu o=>bQ (jW ts one m _ _ _ o) (funext λvs=>by funext o;rw[jx];rfl)
 have h:jL ts one (.d d) ⟨m,o⟩ λZ=>mL f Y n bZ Z λq Z=>dh q (WE f Y n aY Z (Se (Wm.len o) m λv o=>jW ts one m (λZ k=>mL f Y n bZ Z k) (λZ k=>WE f Y n aY Z k) (ds.drop (j+1)) o (Sd v λvs o=>K (us++vs) o))) (lV (jJ (Wm.len o) ⟨m,Z.o⟩).o λo=>vW f Y n m ts one bZ aY ds K (j+1) us o):=h;delta Se at h
 simp only[w9,o5,<-e9]at h
 exact h
end
theorem i5{B:Bs}{ts:J ai}{one:aD}{aY:aT}{bZ:J aT}{ds:J D}{m:Fm}{K:J V->J O->Prop}{us:J V}{ys:cT aA}
  (g0:lP[dp]?=N ⟨dD,dY,bZ,0⟩)(g1:lP[dp+1]?=ao)(dI:Ib f A bG ds B.b4 h₁ dw fp P vU)(ht:xo dD ts one)(eY:B.vS)(zI:B.eF bG)(zD:B.eF EK)(nD:EK≠bG)(hZ:∀b,eF b->B.eF b/\b≠bG/\b≠EK)(hm:Co m)(o:Ok n A)(i:g_ f Y cenv)
  (hR:∀us o' r' F' s' ys,K us o'->At f Y cenv ⟨m,o'⟩ r' s' F'->fB B.r r' B.s s' B.F F' B.o (own (eS cenv ⟨m,o'⟩ r'))->iQ EK F' (own (eS cenv ⟨m,o'⟩ r'))->gh f.w r' F' us ys.toList->s'.heap.PlainList EK ys->us.length<=1048576->(∀b,B.eF b->iQ b F' (own (eS cenv ⟨m,o'⟩ r')))->iF B.b4 F'->nA eF h₀ s'.heap->R (.ok .next) s')
  (hl:us.length+ds.length<=1048576)(h:jW ts one m (λZ k=>mL f Y n bZ Z k) (λZ k=>WE f Y n aY Z k) ds ob λvs o=>K (us++vs) o)(c:Cs f Y cenv B (vU 0) EK eF h₀ us ⟨m,ob⟩ r F s ys):eG (aP f.prog f.w) A (.compLoop (.ListComp aY lP scope pos) dp (.ref bG) (.ref EK) cenv) R s:=
 im (Φ:=vW f Y n m ts one bZ aY ds K) g0 g1 (dI.hd o.hd i ht zI eY) eY zD nD hZ hm o i (λus o h=>⟨cH2,h.end_⟩) (λj v us o e h=>⟨cH2,h.item e⟩) hR (ds.map V.d).length 0 us ob r F s ys (mW _) (by rw[cO];exact hl) h c
theorem aU5{aY tM h_:aT}{bZ:J aT}{G:cL}:Qf (.ListComp aY [⟨.Name x1 p1,tM,[],0⟩,⟨EN,h_,bZ,0⟩] scope pos) 0 it acc G=(do
   su tM.pos
   match<-pyNext it with
   |none=>pure (.done .next)
   |some v=>
    J' (.Name x1 p1) it v
    sy (.Name x1 p1) G v
    let x<-cM h_ G
    su h_.pos
    let x<-pO h_ G x
    let Ni<-A8 [x] (ru x)
    let _<-runOwn (.compStart (.ListComp aY [⟨.Name x1 p1,tM,[],0⟩,⟨EN,h_,bZ,0⟩] scope pos) 1 Ni acc G) G
    sj (.compLoop (.ListComp aY [⟨.Name x1 p1,tM,[],0⟩,⟨EN,h_,bZ,0⟩] scope pos) 0 it acc G)):=by
 rfl
theorem aU6{aY:aT}{bZ:J aT}(h0:eG (aP prog w) A (.compLoop (.ListComp aY [g1,⟨dD,dY,bZ,0⟩] scope pos) 1 it acc G) R s)
  (h:av (aP prog w) A (ru it) (λyo s'=>eG (aP prog w) A (.compLoop (.ListComp aY [g1,⟨dD,dY,bZ,0⟩] scope pos) 1 yo acc G) R s') (DI (aP prog w) A G λx s'=>R (.error x) s') s):
  eG (aP prog w) A (.compStart (.ListComp aY [g1,⟨dD,dY,bZ,0⟩] scope pos) 1 it acc G) R s:=by
 refine m_ ?_
 show av _ _ ((Xf (.ListComp aY [g1,⟨dD,dY,bZ,0⟩] scope pos) 1 it acc G).onRaise (λx=>do Dg x G;su cp0)) _ _ s
 refine DH (gG (E:=DI (aP prog w) A G λx s'=>R (.error x) s') ?_ (λX I q=>q) λX I hx=>aJ (gG hx (λX I e=>qE e) λX I e=>e));unfold Xf
 show av _ _ (ask>>=_) _ _ s
 refine aJ (aZ (aj6 (KO ?_)))
 split
 ·first
   |exact aJ (bg (bg (ry ⟨rfl,rfl⟩ h0)))
   |exact bg (ry ⟨rfl,rfl⟩ h0)
 ·first
   |exact aJ (bg (aJ (sO (at_ (dR h λyo s' q=>bg (ry ⟨rfl,rfl⟩ q))))))
   |exact aJ (sO (at_ (dR h λyo s' q=>bg (ry ⟨rfl,rfl⟩ q))))
   |(refine aJ (sO ?_);show av _ _ (su dY.pos>>=_) _ _ s;exact at_ (dR h λyo s' q=>bg (ry ⟨rfl,rfl⟩ q)))
def aU7(M:jP)(A:cQ)(G:cL)(h_:aT)(e:aT)(acc:aA)(R:nM->aE->Prop)(cC:aE->Prop)(b:aD)(s:aE):Prop:=match b with
 |false=>R (.ok .next) s
 |true=>av M A (cM h_ G) (λx dU=>av M A (ru x) (λNi nU=>eG M A (.compStart e 1 Ni acc G) (λr s'=>r=.ok .next/\cC s') nU) (w6 M A G R) dU) (w6 M A G R) s
theorem jp{aY:aT}{bZ:J aT}{G:cL}(xr:∀x,pO h_ G x=pure x)
  (hN:∀s,cC s->eG (aP prog w) A (.compLoop (.ListComp aY [⟨.Name x1 p1,tM,[],0⟩,⟨EN,h_,bZ,0⟩] scope pos) 0 it acc G) R s)(h:Gr (aP prog w) A it (.Name x1 p1) G (aU7 (aP prog w) A G h_ (.ListComp aY [⟨.Name x1 p1,tM,[],0⟩,⟨EN,h_,bZ,0⟩] scope pos) acc R cC) (w6 (aP prog w) A G R) s):
  eG (aP prog w) A (.compLoop (.ListComp aY [⟨.Name x1 p1,tM,[],0⟩,⟨EN,h_,bZ,0⟩] scope pos) 0 it acc G) R s:=by
 refine m_ ?_
 show av _ A ((Qf (.ListComp aY [⟨.Name x1 p1,tM,[],0⟩,⟨EN,h_,bZ,0⟩] scope pos) 0 it acc G).onRaise (λx=>do Dg x G;PN x)) _ _ s
 refine KS ?_;rw[aU5];refine at_ (dR h λr aF q=>?_);induction r with
 |none=>exact bg q
 |some v=>refine dR q λX Zv q=>dR q λX cj q=>dR q λx dU q=>at_ (aJ (iY (xr x) (lI q λNi nU q=>?_)));refine dR (P:=λX s'=>cC s') (QK rfl (Yj q λr s' q=>?_) nb) λX s' q=>bg ⟨⟨rfl,rfl⟩,hN _ q⟩;rw[q.1];exact q.2
def Nj(f:Cf)(Y:J (ai×cJ))(n:H)(m:Fm)(x1 x2:ai)(h_:aT)(bZ:J aT)(aY:aT)(K:J V->J O->Prop)(ds:J D)(us:J V)(o:J O):Prop:=
 xd x1 x2 m (λZ k=>WI f Y n (λG=>cM h_ G) Z k) (λZ k=>mL f Y n bZ Z k) (λZ k=>WE f Y n aY Z k) ds us o K
theorem Cs.to2{cenv:cL}{B:Bs}{bM:dH->Prop}{D:aR}{us:J V}{ys:cT aA}{iI:St}{i8:bP}{i9:bN}{dU:aE}{ZS:aR->Prop}{xu:aR}{s_:dH}{tk:H}{m:Fm}{o:J O}{js:dH->Prop}(zs:∀b,ZS b->B.eF b)(Z:Cm B ZS bM)(zD:B.eF D)(eY:B.vS)(hm:Co m){aU8:dH->Prop}(L:Lp f Y cenv B aU8 ⟨m,o⟩ r F s)(iT:Lp f Y cenv B bM iI i8 i9 dU)(q:f_ r i8)(n2:dU.heap.get? xu=ao)(wj:∀b y,dU.heap.get? b=N y->s_.get? b=N y)(al:∃y,s_.get? xu=N y)(j:js s_)(v:gh f.w i8 i9 us ys.toList)(d:dU.heap.PlainList D ys):
  Cs f Y cenv ⟨B.r,B.s,B.F,B.o,λb=>b=xu\/B.eF b,i9⟩ js D ZS dU.heap us ⟨m,iI.o⟩ i8 i9 {dU with heap:=s_,toks:=tk} ys/\(Bs.mk B.r B.s B.F B.o (λb=>b=xu\/B.eF b) i9).vS/\∀b,B.eF b->b≠xu:=by
 have bk:=L.a.back hm iT.a q;have ne:∀b,B.eF b->b≠xu:=λb z e=>(iT.l b z).elim λy h=>nomatch n2.symm.trans (e▸h:dU.heap.get? xu=N y);have ap:=iQ.fresh iT.a.mt n2;have Bw:fB B.r i8 B.s dU B.F i9 B.o (own (eS cenv ⟨m,iI.o⟩ i8)):=bk.2▸iT.t;have ex:=bk.1.ext (t:=tk) (h':=s_) wj;refine⟨⟨⟨ex.1,Bw.trans ex.2,λb z=>z.elim (λe=>e▸⟨ap.fr,bk.2▸ap.ow⟩) λz=>⟨(iT.p b z).fr,bk.2▸(iT.p b z).ow⟩,λb z=>z.elim (λe=>e▸al) λz=>(iT.l b z).elim λy h=>⟨y,wj b y h⟩,.refl _,j⟩,v,d.at λX e=>wj _ _ e,λb y X e=>wj b y e⟩,λb z hb=>z.elim (λe=>?_) λz=>eY b z hb,ne⟩;cases q:B.s.heap.get? b with
 |none=>rfl
 |some y=>exact nomatch n2.symm.trans (e▸iT.t.kept b y hb q:dU.heap.get? xu=N y)
theorem aU9{cenv:cL}{A:cQ}{B:Bs}{ZS:aR->Prop}{it:aA}{bM:H->dH->Prop}{ds:J D}{aY tM h_:aT}{bZ:J aT}{x1 x2:ai}{p1 p2:gq}{scope:ly}{pos:gq}{D:aR}{m:Fm}{R:nM->aE->Prop}{K:J V->J O->Prop}{h₀:dH}
  (xr:∀x,pO h_ cenv x=pure x)(eE:Hd f Y cenv A B ZS it (.Name x1 p1) (jL [x1] ah) (λX=>oU) bM (ds.map .d))(eY:B.vS)(zD:B.eF D)(nD:¬ZS D)(hB:∀b,B.eF b->ZS b\/b=D)(hm:Co m)(o:Ok n A)(i:g_ f Y cenv)
  (hR:∀us o' r' F' s' ys,K us o'->At f Y cenv ⟨m,o'⟩ r' s' F'->fB B.r r' B.s s' B.F F' B.o (own (eS cenv ⟨m,o'⟩ r'))->iQ D F' (own (eS cenv ⟨m,o'⟩ r'))->gh f.w r' F' us ys.toList->s'.heap.PlainList D ys->us.length<=1048576->R (.ok .next) s'):
  ∀k j us o r F s ys,j+k=(ds.map V.d).length->us.length<=1048576->Nj f Y n m x1 x2 h_ bZ aY K (ds.drop j) us o->Cs f Y cenv B (bM j) D (λX=>bV) h₀ us ⟨m,o⟩ r F s ys->
   eG (aP f.prog f.w) A (.compLoop (.ListComp aY [⟨.Name x1 p1,tM,[],0⟩,⟨.Name x2 p2,h_,bZ,0⟩] scope pos) 0 it (.ref D) cenv) R s:=by
 intro k;induction k with
 |zero=>
  intro j us ob r F s ys e hl h c;have e:j=(ds.map V.d).length:=e;subst e;rw[cO,Ky]at h
  exact jp xr (cC:=λX=>bV) (λX z=>z.elim) (eE.done trivial c.L λs' a t k=>hR us ob r F s' ys h a t (c.L.p D zD) c.v (c.d.at λX e=>k _ _ ⟨zD,nD⟩ e) hl)
 |succ k ih=>
  intro j us ob r F s ys e hl h c;have hj:j<(ds.map V.d).length:=e▸xV (jc k);have ej:=mZ hj;refine kK λGx gI=>?_;obtain⟨d,ed,e2⟩:=Tf ej;refine gI ?_;rw[e2]at h
  rw[ed]at ej
  refine jp xr (cC:=Ng f Y cenv B (bM (j+1)) D (λX=>bV) h₀ m 0 (Nj f Y n m x1 x2 h_ bZ aY K (ds.drop (j+1))))
   (λs z=>z.rec λus o r F ys h1 h2 h3=>ih (j+1) us o r F s ys ((xW ..).trans e) h1 h2 h3) (eE.item ej trivial (show jL [x1] ah (.d d) ⟨m,ob⟩ _ from h) c.L λb3 iH cj dw Tj lX FU=>?_)
  have Nh:cj.heap.PlainList D ys:=c.d.at λX e=>FU _ _ ⟨zD,nD⟩ e;clear FU h ej;refine dw A cj iH cenv _ r _ o i lX.a λcD2 iI i8 i9 dU cE1 nU ku jo gx aV0 xw=>?_;refine kK λGx gI=>?_;obtain⟨xu,cD3,cD4,cD5,rfl,xw⟩:=xw;obtain⟨s_,ka,rfl⟩:=aV0;have iT:=lX.step eE.z (eE.Z _) jo gx;obtain⟨cm8,aV1,ne⟩:=Cs.to2 (tk:=ka) eE.z (eE.Z _) zD eY hm c.L iT gx.fM xw.new xw.old (xw.alive _ _ xw.Z) xw.Z (c.v.Ew gx.fM (Tj.trans gx.grow)) (Nh.at λX e=>lX.kept gx _ _ zD e);refine gI ?_;have inner:eG (aP f.prog f.w) A (.compLoop (.ListComp aY [⟨.Name x1 p1,tM,[],0⟩,⟨.Name x2 p2,h_,bZ,0⟩] scope pos) 1 (.ref xu) (.ref D) cenv) (λr s'=>r=.ok .next/\Ng f Y cenv B (bM (j+1)) D (λX=>bV) h₀ m 0 (Nj f Y n m x1 x2 h_ bZ aY K (ds.drop (j+1))) s') {dU with heap:=s_,toks:=ka}:=by
   refine i5 (K:=Nj f Y n m x1 x2 h_ bZ aY K (ds.drop (j+1))) rfl rfl xw .one aV1 (.inl rfl) (.inr zD) (ne D zD) (λb z=>⟨.inr (eE.z b z),ne b (eE.z b z),λe=>nD (e▸z)⟩) hm o i (λus' o' r' F' s' ys' h a t X v d l p g kk=>⟨rfl,us',o',r',F',ys',l,h,⟨⟨a,t,λb z=>p b (.inr z),λb z=>(hB b z).elim (λq=>(iT.l b z).elim λy e=>⟨y,kk b y q e⟩) (λq=>q▸d.elim λn e=>⟨_,e⟩),iT.g.trans g,eE.Z _ _ _ iT.j λb y z e=>?_⟩,v,d,λX I z=>z.elim⟩⟩) ku.1 ku.2 cm8
   ·refine z.elim (λz=>kk b y z e) λ⟨x,z⟩=>?_;have z:=iT.g b x z;rw[iT.a.mt.sub b x z]at e
    exact e▸a.mt.sub b x (g b x z)
  exact aU6 inner (aZ<|xw.W.self 0 _ _ _ xw.Z inner)
theorem fB.to{r:bP}{s:aE}{F:bN}(t:fB r r' s s' F F' o o')(h:∀a∈p,a∈o'):fB r r' s s' F F' o p:=
 t.weak t.fM (λX h=>h) λa ha=>.inl (h a ha)
theorem To(jV:j_ Z.m cs=ah):∀x sl,cG x (mH ts++jC Z.m cs)=N sl->sl=.L ao\/∃h,sl=.C h:=λx sl e=>by
 rcases Th e with e|e
 ·exact .inl (Nd e).2
 ·obtain⟨h1,h2⟩:=Tg e;obtain⟨hd,h3⟩:=Nc jV x h1;rw[h3]at h2;cases h2
  exact .inr ⟨hd,rfl⟩
def kb(f:Cf)(Y:J (ai×cJ))(A:cQ)(cenv:cL)(B:Bs)(e:aT)(it:aA)(D:aR)(m:Fm)(K:J V->J O->Prop)(s:aE):Prop:=
 ∀R:nM->aE->Prop,(∀us o' r' F' s' ys,K us o'->At f Y cenv ⟨m,o'⟩ r' s' F'->fB B.r r' B.s s' B.F F' B.o (own (eS cenv ⟨m,o'⟩ r'))->iQ D F' (own (eS cenv ⟨m,o'⟩ r'))->gh f.w r' F' us ys.toList->s'.heap.PlainList D ys->us.length<=1048576->R (.ok .next) s')->
  eG (aP f.prog f.w) A (.compLoop e 0 it (.ref D) cenv) R s
theorem aV2{lv:aD}{cenv:cL}{nm':J (ai×cJ)}{m:Fm}{o':J O}{r':bP}{s':aE}{F':bN}{D:aR}{vs:J V}{ys:cT aA}{Q:V->St->Prop}{b4:Prop}(a:At f Y G Z r s F)(hC:s.heap.get? cenv.locals=ao)(hD:s.heap.get? D=ao)(Ii:D≠cenv.locals)
  (k:∀v qi o7 tN,Q v ⟨Z.m,qi⟩->VR f.w o7 tN v (.ref D)->At f Y G ⟨Z.m,qi⟩ o7 s' tN->Go G Z ⟨Z.m,qi⟩ r o7 s s' F tN->iQ cenv.locals tN (own (eS G ⟨Z.m,qi⟩ o7))->b4)
  (h:iC lv vs o' λv o=>Q v ⟨Z.m,o⟩)(a':At f nm' cenv ⟨m,o'⟩ r' s' F')(t':fB r r' s s' F F' (own (r.zip Z.o)) (own (eS cenv ⟨m,o'⟩ r')))(p':iQ D F' (own (eS cenv ⟨m,o'⟩ r')))(hv:gh f.w r' F' vs ys.toList)(hl:s'.heap.PlainList D ys)(hn:vs.length<=1048576):b4:=by
 have m1:l_ f r' s' F' (r'.zip o'):=a'.mt.part;have nd:=a'.mt.nd;have dC:=a'.mt.jf cenv.locals (by rw[nY];exact kj _ (.head _))
 rw[nY]at t' p' nd
 have t1:fB r r' s s' F F' (own (r.zip Z.o)) (own (r'.zip o')):=t'.to λb hb=>iM _ hb;have pD:iQ D F' (own (r'.zip o')):=⟨p'.fr,λq=>p'.ow (iM _ q)⟩;have pC:cenv.locals∉own (r'.zip o'):=λq=>(qz.mp nd).2.2 _ q _ (.head _) rfl;have nC:cenv.locals≠G.locals:=λe=>a.frame.elim λX h=>h.1.elim λob h=>h.elim λX h=>h.elim λX h=>nomatch (e▸hC).symm.trans h.1;have cH:∀{v:V}{qi:J O}{o7:bP}{tN:bN},Q v ⟨Z.m,qi⟩->VR f.w o7 tN v (.ref D)->o7.length=qi.length->l_ f o7 s' tN (o7.zip qi)->fB r o7 s s' F tN (own (r.zip Z.o)) (own (o7.zip qi))->tN cenv.locals=ao->cenv.locals∉own (o7.zip qi)->b4:=λhq hv' l m t pf po=>
  k _ _ _ _ hq hv' ⟨l,a.fk,a.mt.join t m t.fM⟩ (t.frame (M:=[Cc G Z.m]) t.fM) ⟨pf,λq=>by
   rw[nY]at q
   exact(gK.mp q).elim po λq=>nC (fN.mp q)⟩
 clear t' p' nd k a nC hC;have live:∀x:O,Q (.ref (Wm.len o')) ⟨Z.m,o'++[x]⟩->jR ((D,D),x)=[D]->OR f.w r' F' s'.heap (D,D) x->b4:=λx hq hx hr=>by
  obtain⟨m2,t2⟩:=m1.ik a'.len t1 pD (x:=x) hx hr hD;refine cH hq (.ref (p:=(D,D)) ?_) (by rw[f6,f6,a'.len];rfl) m2 t2 dC λq=>?_
  ·rw[nc,<-a'.len,List.getElem?_concat_length]
  ·rw[HU a'.len,je,oA,hx]at q
   exact(gK.mp q).elim pC λq=>Ii (fN.mp q).symm
 obtain⟨nD,Tp⟩:=hl;unfold iC at h
 cases q:nV vs with
 |none=>rw[q]at h;exact live _ h rfl ⟨ys,nD,Tp,hv,hn⟩
 |some ds=>
  rw[q]at h
  have yd:=hv.nV q;have ln:ds.length<=1048576:=S5 q▸hn;induction lv with
  |true=>exact live _ h rfl ⟨ys,nD,Tp,yd,ln⟩
  |false=>obtain⟨tN,e1,e2,e3,m2,t2⟩:=m1.Nf t1 pD Tp hD;exact cH h (.d (.list e1 (yd.mono e2) ln)) a'.len m2 t2 ((e3 _ (F0 Ii)).trans dC) pC
abbrev yJ(r:bP)(s:aE)(F:bN)(o:J O)(bG D:aR)(b4:bN):Bs:=⟨r,s,F,own (r.zip o),λb=>b=bG\/b=D,b4⟩
theorem ke{lv:aD}{aY dD dY:aT}{bZ:J aT}{dg:J Ka}{scope:ly}{pos:gq}{cl:J (ai×aR)}{A:cQ}{E:aA->aE->Prop}{Q:V->St->Prop}{h':dH}{tk:H}{RR:aA->aR->nM->aE->Prop}
  (sc:vV Y cs ts scope)(a:At f Y G Z r s F)(kf:s.heap.get? bG=ao)(km:∀b o,s.heap.get? b=N o->h'.get? b=N o)(kn:∃o,h'.get? bG=N o)(hG:iF b4 F)
  (Ak:∀x a,(x,Du)∈scope.names->G.cells.lookup x=N a->cl.lookup x=N a)(jV:j_ Z.m cs=ah)
  (aV3:∀(D C:aR)(h₁:dH),D≠bG->(yJ r s F Z.o bG D b4).vS->Cs f (jt Y scope.names) (Gg scope cl C G) (yJ r s F Z.o bG D b4) (λh=>∀b y,h'.get? b=N y->h.get? b=N y) D (λX=>bV) h₁ [] ⟨mH ts++jC Z.m cs,Z.o⟩ r F {s with heap:=h₁,toks:=tk} #[]->
   kb f (jt Y scope.names) A (Gg scope cl C G) (yJ r s F Z.o bG D b4) (.ListComp aY (⟨dD,dY,bZ,0⟩::dg) scope pos) (.ref bG) D (mH ts++jC Z.m cs) (λvs o=>iC lv vs o λv o=>Q v ⟨Z.m,o⟩) {s with heap:=h₁,toks:=tk})
  (self:∀(h₁:dH)(P:aA->aE->Prop)(E:aA->aE->Prop),(∀b y,h'.get? b=N y->h₁.get? b=N y)->P (.ref bG) {s with heap:=h₁,toks:=tk}->av (aP f.prog f.w) A (ru (.ref bG)) P E {s with heap:=h₁,toks:=tk})
  (hRR:∀D C v b9 r' F' s',Q v b9->VR f.w r' F' v D->At f Y G b9 r' s' F'->Go G Z b9 r r' s s' F F'->iQ C F' (own (eS G b9 r'))->(∃m,s'.heap.Ns C m)->s.heap.get? C=ao->RR D C (.ok .next) s'):
  av (aP f.prog f.w) A (newList []) (λacc dU=>av (aP f.prog f.w) A (aj8 scope G.globals cl [] G.qual ao .none (N G)) (λcenv nU=>eG (aP f.prog f.w) A (.compStart (.ListComp aY (⟨dD,dY,bZ,0⟩::dg) scope pos) 0 (.ref bG) acc {cenv with scope:=Di scope G}) (RR acc cenv.locals) nU) E dU) E {s with heap:=h',toks:=tk}:=by
 refine aZ<|A_ (aZ<|wpAny_newFunctionEnv sc.cell (λy hy=>nomatch hy) (λh₁ Nk Nl=>?_) sc.kind);dsimp only at Nk Nl|-
 generalize Nn:h'.push {cls:=.type "list",dict:=none,data:=.seq ([]:J aA).toArray}=H2 at Nk Nl|-
 have gH:∀b y,h'.get? b=N y->H2.get? b=N y:=λb y e=>Nn▸ko _ e;have hC:H2.objs.size=h'.objs.size+1:=by rw[<-Nn,J1]
 have kt:H2.get? h'.objs.size=N (iG #[] 0):=Nn▸lY _ rfl;clear Nn;have Ij:∀b y,H2.get? b=N y->h₁.get? b=N y:=λb y e=>Nl.extBut b y (sq (kI e)) (ko _ e);have fr:∀c,h'.objs.size<=c->s.heap.get? c=ao:=λc hc=>by
  cases e:s.heap.get? c with
  |none=>rfl
  |some o'=>exact absurd (kI (km c o' e)) (vj.mpr hc)
 have ltI:bG<h'.objs.size:=kn.elim λX e=>kI e;generalize H2.objs.size=C at Nk hC|-
 generalize h'.objs.size=D at hC kt fr ltI|-
 have Ii:D≠C:=hC▸sq (m7 D);have Tq:=fr C (hC▸Bj D);have Tt:=fr D (jO D);have yK:D≠bG:=F0 (sq ltI);have hIC:bG≠C:=hC▸sq (cn4 ltI);clear Nl fr ltI hC;have fk:FK (jt Y scope.names) (mH ts++jC Z.m cs):=λx sl e=>by
  rcases Th e with e|e
  ·exact(Nd e).2▸sc.aT3 x (Nd e).1
  ·obtain⟨h1,h2⟩:=Tg e;obtain⟨hd,h3⟩:=Nc jV x h1;exact fU (h3.symm.trans h2)▸(sc.jC x h1).2
 have hfr:OR f.w r F h₁ (C,C) (.frame cl (mH ts++jC Z.m cs)):=⟨_,Nk,λx sl e=>by
  rcases Th e with e|e
  ·exact(Nd e).2▸λv q=>nomatch q
  ·obtain⟨h1,h2⟩:=Tg e;obtain⟨hd,h3⟩:=Nc jV x h1;have e3:=fU (h3.symm.trans h2);subst e3;exact a.frame.elim λX hv=>(hv.2 x _ h3).elim λp e=>⟨p,e.1,Ak x _ (sc.jC x h1).1 e.2⟩⟩
 have mo:l_ f r s F (r.zip Z.o):=a.mt.part;obtain⟨mi,ti⟩:=Mt.enter (t:=tk) mo (λb y e=>Ij b y (gH b y (km b y e))) Tq (p:=(C,C)) (o:=.frame cl (mH ts++jC Z.m cs)) rfl hfr;have apart:∀b,s.heap.get? b=ao->b≠C->iQ b F (own (eS (Gg scope cl C G) ⟨mH ts++jC Z.m cs,Z.o⟩ r)):=λb hb ne=>⟨(iQ.fresh mo hb).fr,λq=>by
  rw[nY]at q
  exact(gK.mp q).elim (iQ.fresh mo hb).ow λq=>ne (fN.mp q)⟩
 have ky:=Ij _ _ kt
 have c:Cs f (jt Y scope.names) (Gg scope cl C G) (yJ r s F Z.o bG D b4) (λh=>∀b y,h'.get? b=N y->h.get? b=N y) D (λX=>bV) h₁ [] ⟨mH ts++jC Z.m cs,Z.o⟩ r F {s with heap:=h₁,toks:=tk} #[]:=
  ⟨⟨⟨a.len,fk,mi⟩,ti,λb z=>z.elim (λe=>e▸apart bG kf hIC) λe=>e▸apart D Tt Ii,λb z=>z.elim (λe=>e▸kn.elim λy h=>⟨y,Ij _ _ (gH _ _ h)⟩) λe=>e▸⟨_,ky⟩,hG,λb y e=>Ij b y (gH b y e)⟩,.nil,⟨_,ky⟩,λX I z=>z.elim⟩
 have loop:=aV3 D C h₁ yK (λb z X=>z.elim (λe=>e▸kf) λe=>e▸Tt) c (RR (.ref D) C) λvs o' r' F' s' ys h a' t' p' hv hl hn=>aV2 a Tq Tt Ii (λv qi o7 tN q y a t p=>hRR (.ref D) C v _ o7 tN s' q y a t p (a'.frame.elim λX h=>⟨_,h.1⟩) Tq) h a' t' p' hv hl hn
 exact au2 loop (self h₁ _ _ (λb y e=>Ij b y (gH b y e)) loop)
theorem kA{scope:ly}(sc:vV Y cs ts scope)(jV:j_ Z.m cs=ah)(a:At f Y G Z r s F):∃cl,aj7 scope G=pure cl/\∀x a,(x,Du)∈scope.names->G.cells.lookup x=N a->cl.lookup x=N a:=by
 refine kK λGx gI=>?_;obtain⟨cl,h1,h2⟩:=aT1 (G:=G) (names:=scope.names) λx hx=>by obtain⟨h,e⟩:=Nc jV x (sc.free x hx);obtain⟨_,_,hv⟩:=a.frame;obtain⟨p,_,e2⟩:=hv x _ e;exact⟨_,e2⟩
 refine gI ?_;exact⟨cl,h1 scope rfl,h2⟩
def Ik(f:Cf)(Y:J (ai×cJ))(n:H)(cs ts:J ai)(e:aT)(scope:ly)(ds:J D)(Z:St)(K:J V->J O->Prop):Prop:=
 ∀{A:cQ}{G:cL}{r:bP}{s:aE}{F:bN}{bG D C:aR}{h' h₁:dH}{tk:H}{fp:J aR}{P:H->aA->Prop}{vU:H->dH->Prop}{cl:J (ai×aR)},g_ f Y G->Ok n A->j_ Z.m cs=ah->scope.kind=.function->Ib f A bG ds F s.heap h' fp P vU->D≠bG->(yJ r s F Z.o bG D F).vS->
  Cs f (jt Y scope.names) (Gg scope cl C G) (yJ r s F Z.o bG D F) (vU 0) D (λX=>bV) h₁ [] ⟨mH ts++jC Z.m cs,Z.o⟩ r F {s with heap:=h₁,toks:=tk} #[]->
  kb f (jt Y scope.names) A (Gg scope cl C G) (yJ r s F Z.o bG D F) e (.ref bG) D (mH ts++jC Z.m cs) K {s with heap:=h₁,toks:=tk}
theorem kS{cs ts:J ai}{one:aD}{aY dD dY:aT}{bZ:J aT}{scope:ly}{pos:gq}{ds:J D}{K:J V->J O->Prop}(ht:xo dD ts one)
  (h:jW ts one (mH ts++jC Z.m cs) (λZ k=>mL f (jt Y scope.names) n bZ Z k) (λZ k=>WE f (jt Y scope.names) n aY Z k) ds Z.o K):Ik f Y n cs ts (.ListComp aY [⟨dD,dY,bZ,0⟩] scope pos) scope ds Z K:=
 λi o jV S dI yK eY c R hR=>i5 (eF:=λX=>bV) rfl rfl dI ht eY (.inl rfl) (.inr rfl) yK (λX z=>z.elim) (To jV) o (Ih i S) (λus o' r' F' s' ys h1 h2 h3 h4 h5 h6 h7 X I u2=>hR us o' r' F' s' ys h1 h2 h3 h4 h5 h6 h7) (by rw[Dv,mW];exact dI.big) h c
theorem k0{cs:J ai}{x1 x2:ai}{p1 p2:gq}{aY tM h_:aT}{bZ:J aT}{scope:ly}{pos:gq}{ds:J D}{K:J V->J O->Prop}(xr:∀x G,pO h_ G x=pure x)
  (h:xd x1 x2 (mH [x1,x2]++jC Z.m cs) (λZ k=>WI f (jt Y scope.names) n (λG=>cM h_ G) Z k) (λZ k=>mL f (jt Y scope.names) n bZ Z k) (λZ k=>WE f (jt Y scope.names) n aY Z k) ds [] Z.o K):Ik f Y n cs [x1,x2] (.ListComp aY [⟨.Name x1 p1,tM,[],0⟩,⟨.Name x2 p2,h_,bZ,0⟩] scope pos) scope ds Z K:=
 λi o jV S dI yK eY c R hR=>aU9 (λx=>xr x _) (dI.hd (B:=yJ _ _ _ _ _ _ _) o.hd (Ih i S) .one (.inl rfl) eY) eY (.inr rfl) yK (λX z=>z) (To jV) o (Ih i S) hR (ds.map V.d).length 0 [] Z.o _ _ _ #[] (mW _) (qw _) h c
def QO(f:Cf)(Y:J (ai×cJ))(A:cQ)(E:aA->aE->Prop)(G:cL)(Z:St)(r:bP)(s:aE)(F:bN)(use:bq (aA->dJ rq))(Q:V->St->Prop)(Q':aA->aE->Prop):Prop:=
 ∀D C v b9 r' F' s',Q v b9->VR f.w r' F' v D->At f Y G b9 r' s' F'->iQ C F' (own (eS G b9 r'))->(∃m,s'.heap.Ns C m)->
  (∀{b3 iB cj iH h' tk},Go G b9 b3 r' iB s' cj F' iH->(∀b y,b≠C->cj.heap.get? b=N y->h'.get? b=N y)->Go G Z b3 r iB s {cj with heap:=h',toks:=tk} F iH)->KU (aP f.prog f.w) A E use Q' D C (.ok .next) s'
theorem end_none:QO f Y A E G Z r s F ao Q (mh f Y (λr F=>VR f.w r F) G Z Q r s F):=λD C v b9 r' F' s' q y a' ap hn hG=>hn.elim λm hn=>⟨m,hn,λh' sb=>⟨v,b9,r',F',q,y,a'.hole (t:=s'.toks) ap.fr ap.ow λb y q e=>sb.extBut b y q e,hG (tk:=s'.toks) (.refl ..) λb y q e=>sb.extBut b y q e⟩⟩
theorem aV4(i:g_ f Y G):QO f Y A E G Z r s F (N (sy (.Name x p) G)) (λu aI=>kZ x u aI λb3=>Q .next b3) (λX s'=>mh f Y (λr F=>xh f.w r F) G Z Q r s F cv3 s'):=λD C v b9 r' F' s' q y a' ap hn hG=>by
 refine b_ hn λm hx=>?_;refine b_ hx λob hx=>?_;refine b_ hx λes hx=>?_;refine b_ hx λep hx=>?_;have ho:=hx.1;have aV5:=hx.2
 show av _ A (sy (.Name x p) G D) _ _ _
 refine QH (HX q i a' y λb3 cj Ia e_ c9=>?_);have hx:=ap.step ho c9;have k3:=hx.1;have aV6:=hx.2;exact⟨m,⟨ob,es,ep,aV6,aV5⟩,λh' sb=>⟨.next,b3,r',F',Ia,.next,e_.hole (t:=cj.toks) k3.fr k3.ow λb y q e=>sb.extBut b y q e,hG (tk:=cj.toks) c9 λb y q e=>sb.extBut b y q e⟩⟩
theorem k4(o:Ok n A)(i:g_ f Y G)(a:At f Y G Z r s F)(jV:j_ Z.m cs=ah)
  (h:WI f Y n (λG=>cM dY G) Z λds aI=>dh (j_ aI.m cs) (Ik f Y n cs ts (.ListComp aY (⟨dD,dY,bZ,0⟩::dg) scope pos) scope ds aI λvs o=>iC lv vs o λv o=>Q v ⟨aI.m,o⟩) bV)(sc:vV Y cs ts scope)(hs:∀x G,pO dY G x=pure x)(he:QO f Y A E G Z r s F use Q Q'):
  av (aP f.prog f.w) A (Xg (.ListComp aY (⟨dD,dY,bZ,0⟩::dg) scope pos) scope G p2 (newList []) ak (cM dY G) use) Q' E s:=by
 refine kK λGx gI=>?_;obtain⟨cl,Tu,Tv⟩:=kA sc jV a;refine gI ?_;refine Yr rfl (λx=>hs x G) Tu sc.kind sc.names (h A s F G E r _ o i a λds aI bY cz aF it cj hq b7 b8 e dI=>?_);refine kK λGx gI=>?_;obtain⟨Il,hq⟩:=l9 hq;obtain⟨bG,fp,P,vU,rfl,dI⟩:=dI;obtain⟨h',tk,rfl⟩:=e;refine gI ?_;exact ke (lv:=lv) (Q:=Q) (RR:=λacc C=>KU (aP f.prog f.w) A E use Q' acc C) sc b7 dI.new dI.old (dI.alive _ _ dI.Z) (.refl cz) Tv Il (λD C h₁ yK eY c=>hq i o Il sc.kind dI yK eY ⟨c.L.imp (dI.W.frame _ _ _ dI.Z λb X y e=>c.L.j b y e),c.v,c.d,c.k⟩)
  (λh₁ P' E' k hP=>aZ<|dI.W.self 0 _ _ _ (dI.W.frame _ _ _ dI.Z λb X y e=>k b y e) hP) λD C v b9 r' F' s' q y a' t' ap hn hC=>he D C v b9 r' F' s' q y a' ap hn λc9 k=>b8.trans ((t'.trans c9).hole hC k)
abbrev k5(f:Cf)(Y:J (ai×cJ))(n:H)(lv:aD)(cs ts:J ai)(one:aD)(aY:aT)(bZ:J aT)(scope:ly)(ds:J D)(Z:St)(Q:V->St->Prop):Prop:=
 dh (j_ Z.m cs) (jW ts one (mH ts++jC Z.m cs) (λZ k=>mL f (jt Y scope.names) n bZ Z k) (λZ k=>WE f (jt Y scope.names) n aY Z k) ds Z.o λvs o=>iC lv vs o λv o=>Q v ⟨Z.m,o⟩) bV
abbrev lb(f:Cf)(Y:J (ai×cJ))(n:H)(lv:aD)(cs:J ai)(x1 x2:ai)(h_ aY:aT)(bZ:J aT)(scope:ly)(ds:J D)(Z:St)(Q:V->St->Prop):Prop:=
 dh (j_ Z.m cs) (xd x1 x2 (mH [x1,x2]++jC Z.m cs) (λZ k=>WI f (jt Y scope.names) n (λG=>cM h_ G) Z k) (λZ k=>mL f (jt Y scope.names) n bZ Z k) (λZ k=>WE f (jt Y scope.names) n aY Z k) ds [] Z.o λvs o=>iC lv vs o λv o=>Q v ⟨Z.m,o⟩) bV
theorem Np{a b:Prop}(h:dh q a bV)(g:a->b):dh q b bV:=by cases q;exact h;exact g h
theorem WI.mono(h:WI f Y n t Z Q)(k:∀ds b9,Q ds b9->Q' ds b9):WI f Y n t Z Q':=λA s F G E r P o i a hp=>h A s F G E r P o i a λds aI bY cz aF it cj q=>hp ds aI bY cz aF it cj (k ds aI q)
section
variable{lv:aD}{cs ts:J ai}{x1 x2 x:ai}{p p1 p2 qj pos:gq}{one:aD}{aY dD dY h_:aT}{bZ:J aT}{dg:J Ka}{scope:ly}{Q:V->St->Prop}{R:dZ->St->Prop}
theorem lh(jV:j_ Z.m cs=ah)(h:WI f Y n (λG=>cM dY G) Z λds aI=>dh (j_ aI.m cs) (Ik f Y n cs ts (.ListComp aY (⟨dD,dY,bZ,0⟩::dg) scope pos) scope ds aI λvs o=>iC lv vs o λv o=>Q v ⟨aI.m,o⟩) bV)(sc:vV Y cs ts scope)(hs:∀x G,pO dY G x=pure x):WE f Y n (.ListComp aY (⟨dD,dY,bZ,0⟩::dg) scope pos) Z Q:=λA s F G E r o i a=>by
 show av _ _ (cM (.ListComp aY (⟨dD,dY,bZ,0⟩::dg) scope pos) G) _ _ _
 rw[cv7];exact k4 o i a jV h sc hs end_none
theorem lr(jV:j_ Z.m cs=ah)(h:WI f Y n (λG=>cM dY G) Z λds aI=>dh (j_ aI.m cs) (Ik f Y n cs ts (.ListComp aY (⟨dD,dY,bZ,0⟩::dg) scope pos) scope ds aI λvs o=>iC lv vs o λv o=>kZ x v ⟨aI.m,o⟩ λb3=>R .next b3) bV)(sc:vV Y cs ts scope)(hs:∀x G,pO dY G x=pure x)
  (Im:∀G:cL,g_ f Y G->wz (.ListComp aY (⟨dD,dY,bZ,0⟩::dg) scope pos) (N (.Name x p)) qj.line G=pure ah):W1 f Y n (.Assign [.Name x p] (.ListComp aY (⟨dD,dY,bZ,0⟩::dg) scope pos) qj) Z R:=λA s F G E r o i a=>by
 show av _ _ (t8 (.Assign [.Name x p] (.ListComp aY (⟨dD,dY,bZ,0⟩::dg) scope pos) qj) G) _ _ _
 rw[exec_Assign_Name_used _ _ _ _ (Im G i)];refine at_ (aJ ?_)
 show av _ A (Xg (.ListComp aY (⟨dD,dY,bZ,0⟩::dg) scope pos) scope G _ (newList []) ak (cM dY G) (N (sy (.Name x p) G))>>=_) _ _ s
 exact dR (k4 o i a jV h sc hs (aV4 i)) λX s' hq=>bg (bg hq)
theorem aV7(jV:j_ Z.m cs=ah)(h:WI f Y n (λG=>cM dY G) Z λds aI=>k5 f Y n lv cs ts one aY bZ scope ds aI Q)
  (ht:xo dD ts one)(sc:vV Y cs ts scope)(hs:∀x G,pO dY G x=pure x):WE f Y n (.ListComp aY [⟨dD,dY,bZ,0⟩] scope pos) Z Q:=lh jV (h.mono λds b9 h=>Np h (kS ht)) sc hs
theorem aV8(jV:j_ Z.m cs=ah)(h:WI f Y n (λG=>cM dY G) Z λds aI=>lb f Y n lv cs x1 x2 h_ aY bZ scope ds aI Q)
  (xr:∀x G,pO h_ G x=pure x)(sc:vV Y cs [x1,x2] scope)(hs:∀x G,pO dY G x=pure x):WE f Y n (.ListComp aY [⟨.Name x1 p1,dY,[],0⟩,⟨.Name x2 p2,h_,bZ,0⟩] scope pos) Z Q:=lh jV (h.mono λds b9 h=>Np h (k0 xr)) sc hs
theorem aV9(jV:j_ Z.m cs=ah)(h:WI f Y n (λG=>cM dY G) Z λds aI=>k5 f Y n lv cs ts one aY bZ scope ds aI λu aI=>kZ x u aI λb3=>R .next b3)
  (ht:xo dD ts one)(sc:vV Y cs ts scope)(hs:∀x G,pO dY G x=pure x)(Im:∀G:cL,g_ f Y G->wz (.ListComp aY [⟨dD,dY,bZ,0⟩] scope pos) (N (.Name x p)) qj.line G=pure ah):
  W1 f Y n (.Assign [.Name x p] (.ListComp aY [⟨dD,dY,bZ,0⟩] scope pos) qj) Z R:=lr jV (h.mono λds b9 h=>Np h (kS ht)) sc hs Im
theorem aW0(jV:j_ Z.m cs=ah)(h:WI f Y n (λG=>cM dY G) Z λds aI=>lb f Y n lv cs x1 x2 h_ aY bZ scope ds aI λu aI=>kZ x u aI λb3=>R .next b3)
  (xr:∀x G,pO h_ G x=pure x)(sc:vV Y cs [x1,x2] scope)(hs:∀x G,pO dY G x=pure x)(Im:∀G:cL,g_ f Y G->wz (.ListComp aY [⟨.Name x1 p1,dY,[],0⟩,⟨.Name x2 p2,h_,bZ,0⟩] scope pos) (N (.Name x p)) qj.line G=pure ah):
  W1 f Y n (.Assign [.Name x p] (.ListComp aY [⟨.Name x1 p1,dY,[],0⟩,⟨.Name x2 p2,h_,bZ,0⟩] scope pos) qj) Z R:=lr jV (h.mono λds b9 h=>Np h (k0 xr)) sc hs Im
end
theorem Mt.In{f:Cf}(m:l_ f r s F L):f.K.In s.heap:=f.ff.keeps m.stays
theorem At.callC(h:WC f n g vs Z.o k)(o:Ok n A)(a:At f Y G Z r s F)(y:gh f.w r F vs ws):
  av (aP f.prog f.w) A (fF g ws) (rR f Y G Z (λv b9=>b9.m=Z.m/\k v b9.o) r s F) E s:=by
 refine gG (h A s F E r ws o a.len a.mt.part y) (λu s' p=>?_) λX I z=>z;obtain⟨v,o',r',F',q,yv,l,m',t⟩:=p;exact⟨v,⟨Z.m,o'⟩,r',F',⟨rfl,q⟩,yv,⟨l,a.fk,a.mt.join t m' t.fM⟩,t.frame (M:=[Cc G Z.m]) t.fM⟩
def tO(f:Cf)(n:H)(T:aR->Tr):Prop:=∀a args o k,T a args o k->Dw f.K (.ref a)=ah/\WC f n (.ref a) args o k
theorem aW1(h:yt T args o k):∃args o k,T args o k:=by
 unfold yt at h
 simp only[HF,w9,RQ,o5,yq]at h
 split at h;rotate_left;exact h.elim
 exact⟨_,_,_,h⟩
theorem tO.lift(c:tO f n T)(h:yt (T a) args o k):Dw f.K (.ref a)=ah/\WC f n (.ref a) args o k:=by refine b_ (aW1 h) λux hx=>?_;refine b_ hx λux hx=>?_;refine b_ hx λux hx=>?_;have q:=hx;exact⟨(c a _ _ _ q).1,aH9 (λargs o k h=>(c a args o k h).2) h⟩
def rS:J aT->aD
 |[]=>ah
 |e::r=>(match xj e with|true=>rS r|false=>ak)
theorem Cp{e:aT}(h:rS (e::l)=ah):xj e=ah/\rS l=ah:=by
 have h:(match xj e with|true=>rS l|false=>ak)=ah:=h
 cases q:xj e with
 |true=>rw[q]at h;exact⟨rfl,h⟩
 |false=>rw[q]at h;cases h
theorem Tw{G:cL}:∀{l:J aT},rS l=ah->(n8 pos (lQ l G)).any (·.1)=ak:=@λi_=>by
 induction i_ with
 |nil=>exact λX=>rfl
 |cons e l ih=>
  intro h;rw[HY (Cp h).1]
  show(ak||(n8 pos (lQ l G)).any (·.1))=ak
  rw[ih (Cp h).2];rfl
theorem lw(h:qT f Y n args Z Q)(hp:rS args=ah)(o:Ok n A)(i:g_ f Y G)(a:At f Y G Z r s F)
  (hq:∀vs ws aI bY cz aF,Q vs aI->gh f.w bY cz vs ws->At f Y G aI bY aF cz->Go G Z aI r bY s aF F cz->Dw f.K g=ah/\av (aP f.prog f.w) A (fF g (first++ws)) P E aF):
  av (aP f.prog f.w) A (vn pos g first (n8 pos (lQ args G)) []) P E s:=by
 refine au5 (P:=λh=>f.K.In h/\Dw f.K g=ah) (by rw[Tw hp];rfl) (λh p=>keeps_K p.2 h p.1) ?_
 have gQ:av (aP f.prog f.w) A (rt (n8 pos (lQ args G))) (λvs aF=>(f.K.In aF.heap/\Dw f.K g=ah)/\av (aP f.prog f.w) A (fF g (first++vs)) P E aF) E s:=
  WX.run (h pos) o i a λvs ws aI bY cz aF q y b7 b8=>by obtain⟨h1,h2⟩:=hq vs ws aI bY cz aF q y b7 b8;exact⟨⟨Mt.In b7.mt,h1⟩,h2⟩
 induction args using eT with
 |nil=>exact Zx gQ
 |cons e l=>
  rw[HY (Cp hp).1]at gQ|-
  exact QL gQ
theorem aW2(h:WE f Y n (.Name fe fp) Z λg aI=>qT f Y n args aI λvs b3=>iS g λx=>gD x λa=>yt (T a) vs b3.o λv o=>Q v ⟨b3.m,o⟩)
  (c:tO f n T)(hp:rS args=ah):WE f Y n (.Call (.Name fe fp) args [] pos) Z Q:=λA s F G E r o i at_=>by
 refine KR (Ie h o i at_ λg w aI bY cz aF h₁ cX b7 b8=>lw h₁ hp o i b7 λvs ws b3 iB iH cj dw gU e_ c9=>jD cX dw λx y dw=>?_);induction x using Wm.D.casesOn with
 |glob a=>refine y.e ?_;obtain⟨k1,k2⟩:=c.lift dw;refine⟨k1,gG (At.callC k2 o e_ gU) (λu dU p=>?_) λX I z=>z⟩;obtain⟨v,⟨cD6,cD7⟩,i8,i9,⟨rfl,q⟩,qU,jo,gx⟩:=p;exact⟨v,_,i8,i9,q,qU,jo,b8.trans (c9.trans gx)⟩
 |_=>exact dw.elim
inductive BP:J (ai×bq D)->J V->J (ai×V)->Prop
 |nil:BP [] [] []
 |given {p r v t l}:BP r t l->BP (p::r) (v::t) ((p.1,v)::l)
 |Tz {p d r l}:p.2=N d->BP r [] l->BP (p::r) [] ((p.1,.d d)::l)
def Nq{α:Type}(o:bq α)(P:α->Prop):Prop:=match o with|some b=>P b|none=>oU
theorem aW3(ps:J (ai×bq D)):∀args,Nq (B7 ps args) (BP ps args):=by
 induction ps with
 |nil=>intro a;cases a;exact .nil;trivial
 |cons p r ih=>
  have go (b:ai×V) (a a':J V) (k:∀l,BP r a' l->BP (p::r) a (b::l)):∀z,Nq z (BP r a')->Nq (match(generalizing:=false) z with|some l=>N (b::l)|none=>ao) (BP (p::r) a):=λz=>by cases z;exact id;exact k _
  intro a;cases a
  ·obtain⟨x,o⟩:=p;cases o;trivial;exact go _ _ _ (λX=>.Tz rfl) _ (ih [])
  ·exact go _ _ _ (λX=>.given) _ (ih _)
theorem BP.eq{ps args b}(h:BP ps args b):B7 ps args=N b:=by
 induction h with
 |nil=>rfl
 |@given p r v t l X e=>exact bQ (λz=>match(generalizing:=false) z with|some l=>N ((p.1,v)::l)|none=>ao) e
 |@Tz p d r l g X e=>exact(bQ (λz=>match(generalizing:=false) z with|some d=>(match(generalizing:=false) B7 r []with|some l=>N ((p.1,V.d d)::l)|none=>ao)|none=>ao) g).trans (bQ (λz=>match(generalizing:=false) z with|some l=>N ((p.1,V.d d)::l)|none=>ao) e)
theorem BP.names{ps args b}(h:BP ps args b):b.map (·.1)=ps.map (·.1):=h.rec rfl (λX e=>bQ (_::·) e) λX I e=>bQ (_::·) e
inductive BR(w:bU)(r:bP)(F:bN):J (ai×V)->J (ai×aA)->Prop
 |nil:BR w r F [] []
 |cons {x v u b l}:VR w r F v u->BR w r F b l->BR w r F ((x,v)::b) ((x,u)::l)
theorem BR.names{b l}(h:BR w r F b l):b.map (·.1)=l.map (·.1):=h.rec rfl λX I e=>bQ (_::·) e
def Io(w:bU)(r:bP)(F:bN)(b:J (ai×V))(g:ai->bq aA)(x:ai):Prop:=∀v,cG x b=N v->∃u,g x=N u/\VR w r F v u
theorem BR.fold{w:bU}{x:ai}{b l}{g:J (ai×aA)->(ai->bq aA)->ai->bq aA}(h:BR w r F b l)(g0:∀m,g [] m=m)(g1:∀y v l m,∃m',g ((y,v)::l) m=g l m'/\(x=y->m' x=N v)/\(x≠y->m' x=m x)):
  (b.map (·.1)).Nodup->∀m,(x∉b.map (·.1)->g l m x=m x)/\Io w r F b (g l m) x:=by
 induction h with
 |nil=>exact λX m=>⟨λX=>W7 (g0 m) x,λv e=>nomatch e⟩
 |@cons y v u b l a z ih=>exact λnd m=>(g1 y u l m).elim λm' q=>q.1▸⟨λh=>((ih (oX.mp nd).2 m').1 λi=>h (.tail _ i)).trans (q.2.2 λe=>h (e▸ .head _)),
   λv'=>B8 (P:=λo=>o=N v'->_) (λe i=>⟨u,((ih (oX.mp nd).2 m').1 (e▸(oX.mp nd).1)).trans (q.2.1 e),fU i▸a⟩) λe=>(ih (oX.mp nd).2 m').2 v'⟩
theorem BR.local{w:bU}{x:ai}{b l}{k:ai->bq cJ}{m}(h:BR w r F b l)(nd:(b.map (·.1)).Nodup)(S:k x=N .local):Io w r F b (bindL k l m) x:=
 (h.fold (λX=>rfl) (λy v l m=>⟨_,rfl,λe=>by rw[dP (e▸S)];exact dP e,λe=>by split;exact cF e;rfl⟩) nd m).2
theorem BR.cell{w:bU}{x:ai}{b l}{k:ai->bq cJ}{m}(h:BR w r F b l)(nd:(b.map (·.1)).Nodup)(S:k x=N .cell):Io w r F b (bindC k l m) x:=
 (h.fold (λX=>rfl) (λy v l m=>⟨_,rfl,λe=>by rw[cF (λq=>by rw[<-e,S]at q;cases q)];exact dP e,λe=>by split;rfl;exact cF e⟩) nd m).2
structure aW4(f:Cf)(a:aR)(fd:C_)(body:J eg)(ps:J (ai×bq D))(nms:J (ai×cJ)):Prop where
 obj:∃o,f.K.lookup a=N o/\o.data=.func fd
 code:codeIn f.K fd.code fd.qualname=ah
 body:fd.body=.stmts body
 clo:fd.closure=[]
 gl:fd.globals=qx
 bi:fd.builtins=wo
 co:fd.scope.isCoroutine=ak
 gen:fd.scope.isGenerator=ak
 kind:fd.scope.kind=.function
 bind:∀s:aE,(∀b o,f.h0.get? b=N o->s.heap.get? b=N o)->∀args b,BP ps args b->∀r F ws,iF f.B F->gh f.w r F args ws->∃l,BindsTo s fd ⟨ws,[]⟩ l/\BR f.w r F b l
 pnd:(ps.map (·.1)).Nodup
 pk:∀x∈ps.map (·.1),fd.scope.names.lookup x=N .local\/fd.scope.names.lookup x=N .cell
 nk:∀p∈nms,cG p.1 fd.scope.names=N p.2
 nlc:∀p∈nms,p.2=.local\/p.2=.cell
 nnd:(nms.map (·.1)).Nodup
theorem Ok.deeper{A:cQ}{G:cL}(h:Ok (n+1) A):Ok n (A.deeper G):=⟨h.hd,by show A.depth+1+5*n<=900;have:=h.depth;lia,by show A.units+3+20*n<=9800;have:=h.units;lia⟩
inductive LC:J (ai×cJ)->Prop
 |nil:LC []
 |l {x t}:LC t->LC ((x,.local)::t)
 |c {x t}:LC t->LC ((x,.cell)::t)
theorem LC.of(nms:J (ai×cJ)):(∀p∈nms,p.2=.local\/p.2=.cell)->LC nms:=by
 induction nms with
 |nil=>exact λX=>.nil
 |cons p t ih=>obtain⟨x,k⟩:=p;exact λh=>(h _ (.head _)).elim (λe=>(show k=.local from e)▸ .l (ih λp q=>h p (.tail _ q))) λe=>(show k=.cell from e)▸ .c (ih λp q=>h p (.tail _ q))
def cN(nms:J (ai×cJ)):J ai:=nms.rec [] λp X ih=>match p.2 with| .cell=>p.1::ih|X=>ih
noncomputable def cA(cells:J (ai×aR))(x:ai):aR×aR:=((cells.lookup x).getD 0,(cells.lookup x).getD 0)
def DJ(cells:J (ai×aR))(nms:J (ai×cJ)):bP:=(cN nms).map (cA cells)
theorem LC.vL{nms}(h:LC nms):vL b nms=(cN nms).map λx=>O.cell (cG x b):=h.rec rfl (λX e=>e) λX e=>bQ (_::·) e
theorem LC.mem{nms}(h:LC nms):x∈cN nms->(x,an0)∈nms:=h.rec (λm=>nomatch m) (λX ih m=>.tail _ (ih m)) λX ih m=>(iV.mp m).elim (λe=>e▸ .head _) λm=>.tail _ (ih m)
theorem LC.sub{nms}(h:LC nms):(cN nms).Sublist (nms.map (·.1)):=h.rec .slnil (λX ih=>ih.cons _) λX ih=>ih.cons_cons _
inductive EL(b:J (ai×V))(nms:J (ai×cJ))(h:H)(x:ai):jA->Prop
 |l:cG x nms=N .local->EL b nms h x (.L (cG x b))
 |c (i):cG x nms=N .cell->(cN nms)[i]?=N x->EL b nms h x (.C (h+i))
theorem LC.look{nms}(lc:LC nms):∀{h},cG x (yF b nms h)=N sl->EL b nms h x sl:=by
 induction lc with
 |nil=>exact λe=>nomatch e
 |l z ih=>exact B8 (P:=λo=>o=N sl->_) (λg e=>fU e▸g▸ .l (Et rfl)) λg e=>(ih e).rec (λl=>.l (yG g l)) λi l c=>.c i (yG g l) c
 |c z ih=>exact λ{h}=>B8 (P:=λo=>o=N sl->_) (λg e=>fU e▸g▸ .c 0 (Et rfl) rfl) λg e=>(ih e).rec (λl=>.l (yG g l)) λi l c=>(show h+(i+1)=vo h+i by lia)▸ .c (i+1) (yG g l) c
theorem lx(names:J (ai×cJ)):∀(n:H)(acc:J (ai×aR)),(x,an0)∈names\/(∃a,acc.lookup x=N a)->∃a,(Qi n names acc).lookup x=N a:=by
 induction names with
 |nil=>exact λn acc h=>h.elim (λq=>by cases q) id
 |cons p t ih=>
  obtain⟨y,k⟩:=p;have self:∀n acc,∃a,((y,n)::acc:J (ai×aR)).lookup y=N a:=λn X=>⟨n,by rw[Be,qy]⟩
  intro n acc h;by_cases S:(k== .cell)=ah
  ·rw[Qi,dP S];refine ih (n+1) ((y,n)::acc) ?_;by_cases g:x=y
   ·exact .inr (g▸self _ _)
   ·exact h.imp (λq=>(iV.mp q).elim (λe=>absurd (bQ cn8 e) g) id) λq=>q.imp λa e=>by rw[Be,Kf g];exact e
  ·rw[Qi,cF S];exact ih n acc (h.imp (λq=>(iV.mp q).elim (λe:(x,an0)=(y,k)=>absurd (show(k== .cell)=ah from(Kz e).2▸rfl) S) id) id)
theorem aW5{l:J ai}:own ((l.map (cA cells)).zip (l.map λx=>O.cell (cG x b)))=(l.map (cA cells)).map (·.1):=by
 induction l with
 |nil=>rfl
 |cons x t ih=>exact bQ (_::·) ih
theorem aW6{cells:J (ai×aR)}(ap:cells.Pairwise λx y=>x.2≠y.2){l:J ai}(nd:l.Nodup)(h:∀x∈l,∃a,cells.lookup x=N a):((l.map (cA cells)).map (·.1)).Nodup:=by rw[n9];refine List.pairwise_map.mpr (nd.imp_of_mem λ{a b} ha hb ne (e:(cells.lookup a).getD 0=(cells.lookup b).getD 0)=>ne ?_);exact(h a ha).elim λX p=>(h b hb).elim λX q=>name_of_addr ap (Kg p) (Kg (q.trans (bQ N (by rw[p,q]at e;exact e.symm))))
theorem aW7{C:bP}{O':J O}{s':aE}{o:J O}(m:l_ f r s F (r.zip o))(el:r.length=o.length)(sm:∃h t,s'={s with heap:=h,toks:=t})(gC:∀a y,s.heap.get? a=N y->s'.heap.get? a=N y)(ec:C.length=O'.length)
  (cl:∀p∈C.zip O',OR f.w (r++C) F s'.heap p.1 p.2)(fr:OR f.w (r++C) F s'.heap (G.locals,G.locals) (.frame G.cells M))(ow:own (C.zip O')=C.map (·.1))(eY:∀c∈C.map (·.1)++[G.locals],s.heap.get? c=ao)(nd:(C.map (·.1)++[G.locals]).Nodup)(fk:FK Y M):
  At f Y G ⟨M,o++O'⟩ (r++C) s' F/\fB r (r++C) s s' F F (own (r.zip o)) (own (eS G ⟨M,o++O'⟩ (r++C))):=by
 have lL:f_ r (r++C):=f_.app _ _;have ez:(r++C).zip (o++O')=r.zip o++C.zip O':=ak6 el;have eo:own (eS G ⟨M,o++O'⟩ (r++C))=own (r.zip o)++(C.map (·.1)++[G.locals]):=by
  rw[je]
  show own ((r++C).zip (o++O'))++_=_
  rw[ez,je,ow,jx];rfl
 refine⟨⟨by rw[f6,el,ec];exact f6.symm,fk,λa y e=>gC a y (m.sub a y e),m.base,λp hp=>?_,λc hc=>?_,?_⟩,lL,sm,.refl _,λX I e=>.inl e,λc hc=>?_,λc y X e=>gC c y e⟩
 ·refine(gK.mp hp).elim (λhp=>(gK.mp (ez▸hp:p∈_++_)).elim (λhp=>(m.live p hp).step lL (.refl _) λb X y e=>gC b y e) (cl p)) λhp=>?_;exact fN.mp hp▸fr
 ·exact(gK.mp (eo▸hc)).elim (m.jf c) λhc=>(iQ.fresh m (eY c hc)).fr
 ·exact eo▸qz.mpr ⟨m.nd,nd,λa ha b hb q=>(iQ.fresh m (eY b hb)).ow (q▸ha)⟩
 ·exact(gK.mp (eo▸hc)).imp id (eY c)
theorem ma{AD:J O}{kc:bP}(h:B4 (Wm.len AD) v Z.o k)(a:At f Y G Z r s F)(y:VR f.w r F v u)(e:kc.length=AD.length)
  (t:fB kc r bJ s Cn F (own (kc.zip AD)) (own (eS G Z r))):SJ f AD k kc bJ Cn u s:=by
 unfold B4 at h
 simp only[HF,w9,RQ,o5,yq]at h
 split at h;rotate_left;exact h.elim
 rename_i q;obtain⟨tl,BY⟩:=aG9 (o:=Z.o) (n:=Ep) (todo:=v.refs++lU (l7 (Wm.len AD) Z.o)) (acc:=um 0 (Wm.len AD))
 revert q h
 generalize hρ:wI Z.o Ep (v.refs++lU (l7 (Wm.len AD) Z.o)) (um 0 (Wm.len AD))=ρ;rw[hρ]at BY
 intro q h;obtain⟨nd,lt,s1,s2⟩:=SK q;have mg:=Mt.cc a.mt a.len nd lt s2;have g:=MX (r:=r) a.len nd lt;refine⟨_,_,ρ.map (pk r),F,h,y.fL (.refl _) (SI λx hx=>s1 x (by show x∈v.refs++[];rw[j3];exact hx)),by rw[cO,HS,cO,bj],mg,?_⟩
 refine t.weak (λi p hp=>?_) (λX z=>z) λb hb=>.inl ?_
 ·have hi:=(vq.mp hp).1;have e1:ρ[i]?=N i:=by
   rw[BY,bc,PX (by rw[List.length_range',nc];exact e▸hi),cq8 (by rw[nc];exact e▸hi)]
   simp
  rw[mC,e1];have e2:=t.fM i p hp
  show N (r[i]?.getD (0,0))=N p
  rw[e2];rfl
 ·rw[SG]at hb
  rw[nY];exact iM _ (g.mem_iff.mpr (iM _ hb))
theorem aW8{fd:C_}(D:aW4 f a fd body ps nms)(hb:∀Z Q,bM Z Q->WS f fd.scope.names n body Z Q):SC f (n+1) (.ref a) (ZX bM ps nms):=by
 intro args o k h A s F E r ws ok el m y;have go:∀z,Nq z (BP ps args)->(match(generalizing:=false) z with|some b=>tB (Wm.len o) λn=>rN ⟨yF b nms n,o++vL b nms⟩ λZ=>bM Z (mJ n k)|none=>bV)->∃b,BP ps args b/\bM ⟨yF b nms (Wm.len o),o++vL b nms⟩ (mJ (Wm.len o) k):=λz q h=>by
  cases z
  ·exact h.elim
  ·exact⟨_,q,((yp ..).trans (yq ..)).mp h⟩
 refine(go _ (aW3 ps args) h).elim λb h=>(D.bind s m.stays args b h.1 r F ws m.base y).elim λl hl=>D.obj.elim λob ho=>?_;have lc:=LC.of _ D.nlc;have nb:=h.1.names;have nd:(b.map (·.1)).Nodup:=nb▸D.pnd;have S:∀x∈l,fd.scope.names.lookup x.1=N .local\/(fd.scope.names.lookup x.1=N .cell/\((Qi (s.heap.objs.size+1) fd.scope.names []).lookup x.1).isSome=ah):=λx hx=>(D.pk x.1 (nb▸hl.2.names▸qA.mpr ⟨x,hx,rfl⟩)).imp id λq=>⟨q,(lx fd.scope.names (s.heap.objs.size+1) [] (.inl (Kg q))).elim λc e=>by rw[e];rfl⟩
 refine Br (au4 ok.room (uM m _ _ ho.1) ho.2 D.co D.gen D.body (codeRec_of (uM m) D.code) (aZ (hl.1 _ _ _ _ ?_)));rw[D.clo];refine aZ<|wpAny_newFunctionEnv_cells D.kind S λG he s' x=>?_;refine⟨f.nl.keeps λb o e=>x.toInCall.keep b o (m.stays b o e),au3 ?_⟩;have eL:G.locals=s.heap.objs.size:=by rw[he];rfl
 have ec:G.cells=Qi (s.heap.objs.size+1) fd.scope.names []:=by rw[he];rfl
 have en:G.scope=fd.scope:=by rw[he];rfl
 have ei:g_ f fd.scope.names G:=⟨by rw[en];exact D.kind,by rw[en],by rw[he];exact D.gl,by rw[he];exact D.bi⟩
 have look:∀{z:ai}{k:cJ},(z,k)∈nms->G.kindOf z=N k:=λe=>ei.look (D.nk _ e);have mv:∀x∈cN nms,∃a,G.cells.lookup x=N a:=λz hz=>by rw[ec];exact lx _ _ _ (.inl (Ca (D.nk _ (lc.mem hz))))
 clear he S en ec;have at_:∀z∈cN nms,G.cells.lookup z=N (cA G.cells z).1:=λz hz=>(mv z hz).elim λc e=>by unfold cA;rw[e];rfl
 have eY:∀c,s.heap.objs.size<=c->s.heap.get? c=ao:=λc hc=>Option.eq_none_iff_forall_ne_some.mpr λo e=>vj.mpr hc (kI e);have my:∀c∈(DJ G.cells nms).map (·.1),s.heap.objs.size<c:=λc hc=>by obtain⟨p,hp,rfl⟩:=qA.mp hc;obtain⟨z,hz,rfl⟩:=qA.mp hp;exact eL▸x.above z _ (Kg (at_ z hz))
 have lk:∀{z sl},cG z (yF b nms (Wm.len o))=N sl->EL b nms (Wm.len o) z sl:=lc.look;have mr:∀{g:ai->bq aA}{z},Io f.w r F b g z->Io f.w (r++DJ G.cells nms) F b g z:=λq v e=>(q v e).imp λu w=>⟨w.1,w.2.mono (f_.app _ _) (.refl _)⟩;have ent:=aW7 (f:=f) (Y:=fd.scope.names) (G:=G) (C:=DJ G.cells nms) (O':=vL b nms) (M:=yF b nms (Wm.len o)) m el (x.toInCall.same.imp λh q=>q.imp λt e=>e) x.toInCall.keep (by rw[lc.vL];unfold DJ;rw[cO,cO])
  (λp hp=>by
   rw[lc.vL]at hp
   unfold DJ at hp
   rw[List.zip_map']at hp
   obtain⟨z,hz,rfl⟩:=qA.mp hp;exact⟨_,x.cell z _ (at_ z hz),mr (hl.2.cell nd (look (lc.mem hz)))⟩)
  ⟨_,x.toInCall.ns,λz sl e=>(lk e).rec (λq=>mr (hl.2.local nd (look (Ca q)))) λi q g=>⟨cA G.cells z,by
   rw[P1 (by rw[nc];exact bR (jm el) (gF _ _)),show Wm.len o+i -r.length=i by rw[nc,el,Kh]]
   unfold DJ;rw[mC,g];rfl,at_ z (Km g)⟩⟩
  (by rw[lc.vL];exact aW5)
  (λc hc=>(gK.mp hc).elim (λhc=>eY c (mX (my c hc))) λhc=>eY c (by rw[fN.mp hc,eL];exact jO _))
  (qz.mpr ⟨aW6 x.apart (D.nnd.sublist lc.sub) mv,by simp,λa ha b hb q=>by have:=my a ha;rw[q,fN.mp hb,eL]at this;exact vg _ this⟩)
  λz sl e=>(lk e).rec (λq=>D.nk _ (Ca q)) λi q g=>D.nk _ (Ca q)
 refine WX.run (hb _ _ h.2) ok.deeper ei ent.1 λfl u aI bY cz aF h₁ cX b7 b8=>?_;cases cX with
 |next=>exact ma h₁ b7 (.d .none) el (ent.2.trans b8)
 |brk=>exact h₁.elim
 |cont=>exact h₁.elim
 |ret y=>exact ma h₁ b7 y el (ent.2.trans b8)
end
end Wm
section
namespace Wm
namespace Fb
theorem mA:PlainAttrs "bytearray":=
 ⟨⟨"bytearray.__getattribute__",by rw[uf,ug];kernel_rfl,by decide+kernel⟩,by rw[uf,ug];kernel_rfl⟩
theorem TA:Manifest.owners.lookup (String.ofList ['y','a','r','r','a','e','t','y','b'].reverse)=N Manifest.sig_bytearray:=by kernel_rfl
theorem mB:KA "bytearray" "append" "bytearray.append":=
 .of (owner:= "bytearray") (n:= "append") (by rw[uf,ug];kernel_rfl) (by decide+kernel) (by decide+kernel) (by decide+kernel)
  (by first|exact .inl (by decide+kernel)|exact .inr (by decide+kernel)) (by rw[KC];kernel_rfl)
theorem aW9:XI (.builtin "bytearray.append")=pure (.type "method_descriptor"):=by show builtinType _=_;rw[cv8];kernel_rfl
theorem aX0:qC nK "bytearray.append"=N gW.«bytearray.append»:=KD (by kernel_rfl)
theorem aX1(a b:aA):wF "bytearray.append" ⟨[a,b],[]⟩:=by unfold wF;rw[an1 (id:= "bytearray.append") (n:=['d','n','e','p','p','a']) (o:=['y','a','r','r','a','e','t','y','b']) (by kernel_rfl) TA];kernel_rfl
theorem Nr:KA "bytearray" "extend" "bytearray.extend":=
 .of (owner:= "bytearray") (n:= "extend") (by rw[uf,ug];kernel_rfl) (by decide+kernel) (by decide+kernel) (by decide+kernel)
  (by first|exact .inl (by decide+kernel)|exact .inr (by decide+kernel)) (by rw[KC];kernel_rfl)
theorem aX2:XI (.builtin "bytearray.extend")=pure (.type "method_descriptor"):=by show builtinType _=_;rw[cv8];kernel_rfl
theorem TF:qC nK "bytearray.extend"=N gW.«bytearray.extend»:=KD (by kernel_rfl)
theorem TG(a b:aA):wF "bytearray.extend" ⟨[a,b],[]⟩:=by unfold wF;rw[an1 (id:= "bytearray.extend") (n:=['d','n','e','t','x','e']) (o:=['y','a','r','r','a','e','t','y','b']) (by kernel_rfl) TA];kernel_rfl
end Fb
variable{f:Cf}{Y:J (ai×cJ)}{n:H}{Z:St}{e:aT}{G:cL}{r:bP}{s:aE}{F:bN}
def aX3(g:uJ):aA:=match g with
 | .fn a=>.ref a
 | .MH=>.builtin "list.append"
 | .MI=>.builtin "list.extend"
 | .MJ=>.builtin "list.pop"
 | .MK=>.builtin "bytearray.append"
 | .ML=>.builtin "bytearray.extend"
 | .MM=>.builtin "tuple.index"
 | .MO=>.builtin "str.join"
abbrev Nt(f:Cf)(A:cQ)(E:aA->aE->Prop)(s:aE)(g:uJ)(u:aA)(x:ai):Prop:=∀(pl:dJ aD)(Q:aA×J aA->aE->Prop),Q (aX3 g,[u]) s->av (aP f.prog f.w) A (getMethod u x pl) Q E s
theorem Cq{P:Prop}{α:Type}{q:aD}{a:α}{o:bq α}{g:α}(h:(match q with|true=>N a|false=>o)=N g)(h1:q=ah->a=g->P)(h2:o=N g->P):P:=by
 induction q with
 |true=>exact h1 rfl (fU h)
 |false=>exact h2 h
theorem mI{A:cQ}{E:aA->aE->Prop}{l:aR}{ws:cT aA}{m:H}{x:ai}{g:uJ}(h:R3 x=N g)(e:s.heap.get? l=N (iG ws m)):Nt f A E s g (.ref l) x:=by
 have hT:s.TypeIs (.ref l) "list":=⟨_,e,rfl⟩;have hd:∀a,zM l=.ref a->∃o,s.heap.get? a=N o/\o.dict=ao:=λa q=>by cases q;exact⟨_,e,rfl⟩
 refine Cq h (λq h=>?_) λh=>Cq h (λq h=>?_) λh=>Cq h (λq h=>?_) λh=>nomatch h
 ·rw[rP q,<-h];exact λpl Q hq=>aZ<|Gh hT an2 cv9 PySem.F.type_list_append hd hq
 ·rw[rP q,<-h];exact λpl Q hq=>aZ<|Gh hT an2 an3 PySem.F.type_list_extend hd hq
 ·rw[rP q,<-h];exact λpl Q hq=>aZ<|Gh hT an2 an4 PySem.F.type_list_pop hd hq
theorem aX4{A:cQ}{E:aA->aE->Prop}{l:aR}{b:cT iW}{x:ai}{g:uJ}(h:ZP x=N g)(e:s.heap.get? l=N ⟨.type "bytearray",ao,.bytearray b 0,#[]⟩):Nt f A E s g (.ref l) x:=by
 have hT:s.TypeIs (.ref l) "bytearray":=⟨_,e,rfl⟩;have hd:∀a,zM l=.ref a->∃o,s.heap.get? a=N o/\o.dict=ao:=λa q=>by cases q;exact⟨_,e,rfl⟩
 refine Cq h (λq h=>?_) λh=>Cq h (λq h=>?_) λh=>nomatch h
 ·rw[rP q,<-h];exact λpl Q hq=>aZ<|Gh hT Fb.mA Fb.mB Fb.aW9 hd hq
 ·rw[rP q,<-h];exact λpl Q hq=>aZ<|Gh hT Fb.mA Fb.Nr Fb.aX2 hd hq
theorem aX5{fs:J (ai×V)}(y:mK w r F fs es)(h:x∉fs.map (·.1)):shadowIn (N (mY es m)) x=N ak:=by
 have:cG x fs=ao:=by
  cases q:cG x fs with
  |none=>rfl
  |some v=>rw[Au]at q;exact absurd (qA.mpr ⟨_,Kg q,rfl⟩) h
 have:=(mK.get y).2 this
 show(lookIn x (mY es m)).map (·.isSome)=N ak
 rw[lookIn_dict,this];rfl
theorem TH{A:cQ}{E:aA->aE->Prop}{p:aR×aR}{c:aR}{fs:J (ai×V)}{x:ai}{g:uJ}(h:MP c x=N g)(ff:f.K.In s.heap)(ob:xg f.w r F s.heap p c fs):Nt f A E s g (.ref p.1) x:=by
 refine b_ ob λes hx=>?_;refine b_ hx λm hx=>?_;refine b_ hx λsl hx=>?_;have h1:=hx.1;have h2:=hx.2.1;have y:=hx.2.2.1;have ha:=hx.2.2.2.2;have h:(match GU c x with|some f=>N (uJ.fn f)|none=>ao)=N g:=h
 cases q:GU c x with
 |none=>rw[q]at h;cases h
 |some a=>
  rw[q]at h
  rw[<-fU h];have M:=f.cb c x a q;have hx:=plainGet_of M.pg;have p1:=hx.1;have p2:=hx.2;have bG:XF s.heap p.1 ⟨.ref c,N p.2,.plain,sl⟩ c (N (mY es m)):=⟨h1,rfl,rfl,h2⟩;exact λpl Q hq=>aZ<|method_fn ff bG p1 p2 M.fi M.ty (aX5 (m:=m) y λhm=>gr ((ha x hm).symm.trans M.na)) hq
theorem aX6{a:V}{u:aA}{x:ai}{g:uJ}{A:cQ}{E:aA->aE->Prop}(h:HM a x Z.o=N g)(at_:At f Y G Z r s F)(y:VR f.w r F a u):Nt f A E s g u x:=by
 induction a with
 |ref i=>
  refine y.e λp e1=>?_;cases q:gw i Z.o with
  |none=>unfold HM at h;dsimp only at h;rw[q]at h;cases h
  |some z=>
   have ob:=at_.obj e1 q;unfold HM at h
   dsimp only at h
   rw[q]at h
   induction z with
   |dl ds=>obtain⟨ws,m,e,_⟩:=ob;exact mI h e
   |vl ds=>obtain⟨ws,m,e,_⟩:=ob;exact mI h e
   |ba ds=>obtain⟨b,e,_⟩:=ob;exact aX4 h e
   |inst c fs=>exact TH h (uM at_.mt) ob
   |cur ts=>obtain⟨l,i,e,z,_⟩:=ob;exact TH h (uM at_.mt) z
   |_=>cases h
 |d z=>
  refine y.e λu y=>?_;induction z using Wm.D.casesOn with
  |obj c fs=>exact y.e λl d es m sl e1 e2 z nd=>TH (r:=r) (p:=(l,d)) h (uM at_.mt) ⟨es,m,sl,at_.mt.sub _ _ e1,at_.mt.sub _ _ e2,L2.toF z,by rw[n9];exact nd.1,by rw[n9];exact nd.2⟩
  |tup ds=>refine y.e λl ws m e X I=>Cq h (λq h=>?_) λh=>nomatch h;rw[rP q,<-h];exact λpl Q hq=>aZ<|Gh ⟨_,at_.mt.sub _ _ e,rfl⟩ PySem.F.plainAttrs_tuple cw0 PySem.F.type_tuple_index (λa q=>by cases q;exact⟨_,at_.mt.sub _ _ e,rfl⟩) hq
  |str z=>refine y.e λt=>Cq h (λq h=>?_) λh=>nomatch h;rw[rP q,<-h];exact λpl Q hq=>aZ<|Gh (typeIs_str s _ _) PySem.F.plainAttrs_str PySem.F.slot_str_join PySem.F.type_str_join (λa q=>nomatch q) hq
  |_=>cases h
 |_=>cases h
theorem TJ(e:s.heap.get? l=N (iG ws m)):∃m',(s.heap.update l (sG g)).get? l=N (iG (g ws) m'):=by rw[Bh _ e rfl];exact⟨_,rfl⟩
abbrev ig(f:Cf)(Y:J (ai×cJ))(G:cL)(Z:St)(k:V->J O->Prop)(r:bP)(s:aE)(F:bN):=rR f Y G Z (λv b9=>b9.m=Z.m/\k v b9.o) r s F
theorem aX7(h:R4 a vs Z.o k)(at_:At f Y G Z r s F)(y:VR f.w r F a u)(z:gh f.w r F vs ws):
  av (aP f.prog f.w) A (fF (.builtin "list.append") (u::ws)) (ig f Y G Z k r s F) E s:=by
 refine Av y h λhd p e1 h=>qS z h λv x zv h=>o8 h λo e2 h=>?_;have go:∀{jl:cT aA}{m:H}{n:H},n=jl.size->jR (p,o)=[p.1]->s.heap.get? p.1=N (iG jl m)->n<1048576->∀o':O,jR (p,o')=[p.1]->
   (∀h' m',h'.get? p.1=N (iG (jl.push x) m')->OR f.w r F h' p o')->k (.d .none) (eO o' hd Z.o)->av (aP f.prog f.w) A (fF (.builtin "list.append") [.ref p.1,x]) (ig f Y G Z k r s F) E s:=by
  intro jl m n sz e3 e4 e5 o' e6 e7 S;refine aZ<|Dm cv9 ⟨_,e4,rfl⟩ PySem.F.entry_list_append (PySem.F.args_list_append_2 _ _) (Wl.aP5 p.1 jl m x (sz▸pN e5 (by unfold gX;decide))) ⟨e4,?_⟩
  obtain⟨m',em⟩:=TJ (g:=(·.push x)) e4;obtain⟨a',t'⟩:=at_.chg (y:=o') (t:=s.toks) (a:=p.1) (h':=s.heap.update p.1 (sG (·.push x))) e1 e2 (by rw[e3];exact .head _) (by rw[e6,e3]) (Ge ..) (e7 _ m' em)
  exact⟨.d .none,⟨Z.m,eO o' hd Z.o⟩,r,F,⟨rfl,S⟩,.d .none,a',t'⟩
 have ob:=at_.obj e1 e2;induction o with
 |dl ds=>
  obtain⟨jl,m,e4,yd,hl⟩:=ob;have sz:ds.length=jl.size:=yd.length.trans oY;have gen:∀v,VR f.w r F v x->dh (f9 ds) (k (.d .none) (eO (.vl [v]) hd Z.o)) bV->av (aP f.prog f.w) A (fF (.builtin "list.append") [.ref p.1,x]) (ig f Y G Z k r s F) E s:=λv zv h=>by
   obtain⟨e,h⟩:=l9 h;induction ds using eT with
   |cons X I=>cases e
   |nil=>exact go sz rfl e4 (by decide) (.vl _) rfl (λh' m' e=>⟨_,m',e,by rw[Qh,yd.HP];exact .cons zv .nil,by show 1<=1048576;decide⟩) h
  induction v with
  |d x=>exact go sz rfl e4 h.1 (.dl _) rfl (λh' m' e=>⟨_,m',e,by rw[Qh];exact yd.append (.cons zv.HQ .nil),by rw[f6];exact h.1⟩) h.2
  |_=>exact gen _ zv h
 |vl vs=>obtain⟨jl,m,e4,yd,hl⟩:=ob;exact go (yd.length.trans oY) rfl e4 h.1 (.vl _) rfl (λh' m' e=>⟨_,m',e,by rw[Qh];exact yd.append (.cons zv .nil),by rw[f6];exact h.1⟩) h.2
 |_=>exact h.elim
end Wm
end
namespace Wm
section
variable{f:Cf}{Y:J (ai×cJ)}{n:H}{Z:St}{e:aT}{G:cL}{r:bP}{s:aE}{F:bN}
theorem av4{α:Type}(jl:cT α)(j:H):(jl.eraseIdxIfInBounds j).toList=jl.toList.eraseIdx j:=by
 unfold cu5
 split
 ·rw[Array.toList_eraseIdx]
 ·rw[List.eraseIdx_of_length_le (by rw[oY];exact vj.mp (by assumption))]
theorem aX8(h:R6 a vs Z.o k)(at_:At f Y G Z r s F)(y:VR f.w r F a u)(z:gh f.w r F vs ws):
  av (aP f.prog f.w) A (fF (.builtin "list.pop") (u::ws)) (ig f Y G Z k r s F) E s:=by
 refine Av y h λhd p e1 h=>o8 h λo q h=>?_
 revert q
 refine Ss h λds h q=>?_;obtain⟨jl,m,e4,yd,hl⟩:=at_.obj e1 q;have sz:=yd.size;have zl:jl.size<=gX:=by rw[sz];exact bR hl (by unfold gX;decide)
 have post:∀{j:H}{x:D}{w:aA},DR F x w->k (.d x) (eO (.dl (ds.eraseIdx j)) hd Z.o)->ig f Y G Z k r s F w {s with heap:=s.heap.update p.1 (sG (·.eraseIdxIfInBounds j)),toks:=s.toks}:=by
  intro j x w yx S;obtain⟨m',em⟩:=TJ (g:=(·.eraseIdxIfInBounds j)) e4;obtain⟨a',t'⟩:=at_.chg (y:=.dl (ds.eraseIdx j)) (t:=s.toks) (a:=p.1) (h':=s.heap.update p.1 (sG (·.eraseIdxIfInBounds j))) e1 q (.head _) rfl (Ge ..)
   ⟨_,m',em,by rw[av4];exact yd.erase,bR (List.length_eraseIdx_le ..) hl⟩
  exact⟨.d x,⟨Z.m,eO (.dl (ds.eraseIdx j)) hd Z.o⟩,r,F,⟨rfl,S⟩,.d yx,a',t'⟩
 induction vs using eT with
 |nil=>
  rw[z.HP];obtain⟨l,v,rfl,S⟩:=h;have sz:jl.size=l.length+1:=sz.trans (by rw[f6];rfl)
  obtain⟨w,e5,yw⟩:=yd.get (i:=l.length) (v:=v) (by rw[P1 (jO _),am5];rfl)
  refine aZ<|Dm an4 ⟨_,e4,rfl⟩ cw1 (PySem.F.args_list_pop_1 _) (Wl.aP3 _ jl m w l.length sz.symm (by rw[<-rA];exact e5) zl) ⟨e4,post (j:=l.length) yw ?_⟩
  rw[List.eraseIdx_append_of_length_le (jO _),am5,List.eraseIdx_zero,List.tail_cons,j3];exact S
 |cons i vs=>
  cases z with|cons zi z=>
  refine Z8 z h λh=>jX zi h λi t h=>?_;obtain⟨e,h⟩:=l9 h;induction i with
  |negSucc X=>cases e
  |ofNat i=>
   obtain rfl:=mV e;induction ds using eT with
   |nil=>exact h.elim
   |cons v l=>obtain⟨w,e5,yw⟩:=yd.get (i:=0) (v:=v) rfl;exact aZ<|Dm an4 ⟨_,e4,rfl⟩ cw1 (PySem.F.args_list_pop_2 _ _) (Wl.aP4 _ jl m w _ (by rw[sz];exact jc _) (by rw[<-rA];exact e5) zl) ⟨e4,post (j:=0) yw h⟩
theorem aX9(h:R5 a vs Z.o k)(at_:At f Y G Z r s F)(y:VR f.w r F a u)(z:gh f.w r F vs ws):
  av (aP f.prog f.w) A (fF (.builtin "list.extend") (u::ws)) (ig f Y G Z k r s F) E s:=by
 refine Av y h λhd p e1 h=>qS z h λv x zv h=>o8 h λo q h=>?_
 revert q
 refine Ss h λds h q=>M8 h at_ zv λes l ws m2 S h3 y2 h2 eu=>?_;rw[eu];refine b_ (at_.obj e1 q) λjl hx=>?_;refine b_ hx λm hx=>?_;have e4:=hx.1;have yd:=hx.2.1;have hl:=hx.2.2;have se:jl.size+ws.size<=gX:=by rw[yd.size,y2.size,<-f6];exact bR S.1 (by unfold gX;decide)
 have post:ig f Y G Z k r s F .none {s with heap:=s.heap.update p.1 (sG λx=>x++ws),toks:=s.toks}:=by
  refine b_ (TJ (g:=λx=>x++ws) e4) λm' hx=>?_;have em:=hx;obtain⟨a',t'⟩:=at_.chg (y:=.dl (ds++es)) (t:=s.toks) (a:=p.1) (h':=s.heap.update p.1 (sG λx=>x++ws)) e1 q (.head _) rfl (Ge ..)
   ⟨_,m',em,by rw[Xw];exact yd.append y2,S.1⟩
  exact⟨.d .none,⟨Z.m,eO (.dl (ds++es)) hd Z.o⟩,r,F,⟨rfl,S.2⟩,.d .none,a',t'⟩
 have c0:¬(!jl.isEmpty&&al5 (jl.size+ws.size))=ah:=by
  unfold al5 gX;unfold gX at se
  simp;intro _;omega
 have b1:=bR (gF _ _) se;rcases h3 with h3|h3
 ·exact aZ<|Dm an3 ⟨_,e4,rfl⟩ cw2 (cw3 _ _) (AutoSeq1.list_extend_list_list_0 p.1 jl m l ws m2 c0 b1 (xT se)) ⟨e4,h3,post⟩
 ·exact aZ<|Dm an3 ⟨_,e4,rfl⟩ cw2 (cw3 _ _) (AutoSeq1.list_extend_list_tuple_0 p.1 jl m l ws m2 c0 b1 (xT se)) ⟨e4,h3,post⟩
theorem aY0{id:jZ}{a:Args}(h:free (.builtin id a)=ah)(x:jZ)(hx:x∈Bq):id≠x:=by
 intro e;subst e;unfold free at h
 simp only[cv2]at h
 have:Bq.contains id=ah:=by rw[cw4];exact hx
 rw[h]at this;cases this
theorem mM(h:Q ak s):av M A (XJ self) Q E s:=λΓ p gY hc=>by
 unfold XJ
 show Q (List.any ((Γ.code,p)::Γ.below) _) s
 have:∀x∈(Γ.code,p)::Γ.below,free x.1=ah:=λx hx=>by
  rcases iV.mp hx with rfl|hx
  ·exact hc.1
  ·exact hc.2 x hx
 rw[List.any_eq_false.mpr]
 ·exact h
 ·intro x hx;have fx:=this x hx;obtain⟨c,q⟩:=x;induction c with
  |builtin id a=>
   have ne:∀y∈Bq,id≠y:=λy hy=>aY0 fx y hy;delta cF6 XJ._sparseCasesOn_1;dsimp only;rw[Qj (ne _ (by decide+kernel)),Qj (ne _ (by decide+kernel)),Qj (ne _ (by decide+kernel)),Qj (ne _ (by decide+kernel)),Qj (ne _ (by decide+kernel))]
   obtain⟨args,kw⟩:=a;induction args using eT with
   |nil=>exact rm
   |cons v tl=>intro q;have q:=(Kw _ _▸q:_=ah/\_=ah);exact ne _ (iM _ (cw4.mp q.2)) rfl
  |_=>exact rm
noncomputable abbrev jY(b:cT iW):fH:=⟨.type "bytearray",ao,.bytearray b 0,#[]⟩
theorem mN(hl:s.heap.get? l=N (jY b))(h:Q () s):av M A (XK (.ref l)) Q E s:=by
 unfold XK;refine aJ ?_;unfold orM;refine aJ (mM ?_)
 show av M A (an5 (.ref l)>>=λn=>pure (decide (n>0))) _ _ _
 unfold an5;refine aJ (aJ (aZ<|zH hl ?_));exact bg (bg (bg h))
theorem nr{i:aa}(h:Q i s):av M A (asIndex (.int i t)) Q E s:=iY (rfl:asIndex (.int i t)=pure i) h
theorem Nu(hl:s.heap.get? l=N (jY b))(hz:(g b).size<=1048576)(h:Q () {s with heap:=s.heap.update l (wG g)}):av M A (XM (.ref l) g) Q E s:=by
 show av M A (cw5 l g) Q E s
 unfold cw5;refine aJ (aZ<|zH hl ?_)
 show av M A (update l (wG g)>>=λX=>lookBehind l) Q E s
 refine aJ (aZ<|wpAny_update hl ?_);refine aZ<|cu4 (Bh (wG g) hl rfl) ?_ h
 show(if(g b).size>gX then N "bytearray:memory" else ao)=ao
 rw[cF (by unfold gX;lia)]
theorem aY1{M:jP}{A:cQ}{E:aA->aE->Prop}{b:cT iW}{i:aa}{t:H}(hl:s.heap.get? l=N (jY b))(h0:0<=i)(h1:i<256)(hz:b.size<1048576)
  (h:Q (.done (.ret .none)) {s with heap:=s.heap.update l (wG (·.push i.toNat.toUInt8))}):av M A (gW.«bytearray.append» ⟨[.ref l,.int i t],[]⟩) Q E s:=by
 show av M A (XN (.int i t)>>=λc=>XK (.ref l)>>=λX=>XM (.ref l) (·.push c)>>=λX=>sr .none) Q E s
 refine aJ ?_;unfold XN;refine aJ (nr ?_);rw[cF (by simp;lia)]
 exact bg (aJ (mN hl (aJ (Nu hl (by simp;lia) (bg h)))))
theorem Ip{prog:iU}{w:bU}{A:cQ}{E:aA->aE->Prop}{T id:jZ}{name:ai}{B:gW}{self:aA}{dg:J aA}{Q:aA->aE->Prop}(FW:KA T name id)(hT:s.TypeIs self T)(JZ:qC nK id=N B)(args:wF id ⟨self::dg,[]⟩)(hf:!Bq.contains id)
  (h:av (aP prog w) A.in1 (B ⟨self::dg,[]⟩) (λcH s'=>match cH with
   | .done (.ret v)=>Q v s'
   |X=>bV) E s):av (aP prog w) A (fF (.builtin id) (self::dg)) Q E s:=by
 refine Br (m_ ?_)
 show av _ A.in1 (Dy id ⟨self::dg,[]⟩>>=λX=>sj (.builtin id ⟨self::dg,[]⟩)) _ _ s
 refine aJ (aZ (FW.check _ _ _ _ _ _ _ _ hT args (bg (ry ⟨Bk FW.plain _,hf⟩ (m_ ?_)))));rw[KG FW.plain _]
 show av _ A.in1 (match qC nK id with|some b=>b ⟨self::dg,[]⟩|none=>zE ((Qk id "#data").getD id)) _ _ s
 rw[JZ];refine gG h (λcH s' q=>?_) λX I z=>z;induction cH with
 |done g=>cases g<;>first|exact q|exact q.elim
 |again c=>exact q.elim
theorem aY2{i:aa}(h0:0<=i)(h1:i<256):i.toNat.toUInt8.toNat=i.toNat:=by have:i.toNat<256:=(XO h0).mpr h1;simp[Bl,cw6,zN this]
theorem aY3(h:R7 a vs Z.o k)(at_:At f Y G Z r s F)(y:VR f.w r F a u)(z:gh f.w r F vs ws):
  av (aP f.prog f.w) A (fF (.builtin "bytearray.append") (u::ws)) (ig f Y G Z k r s F) E s:=by
 refine Av y h λhd p e1 h=>o8 h λo q h=>?_
 revert q
 refine Z7 h λl h q=>qS z h λv x zv h=>jX zv h λi t h=>?_;obtain⟨b,e4,rfl,hl⟩:=at_.obj e1 q;obtain⟨⟨h0,h1,h2⟩,S⟩:=h;have hz:b.size<1048576:=by rw[cO,oY]at h2;exact h2
 refine Ip Fb.mB ⟨_,e4,rfl⟩ Fb.aX0 (Fb.aX1 _ _) (by decide+kernel) (aY1 e4 h0 h1 hz ?_)
 obtain⟨a',t'⟩:=at_.chg (y:=.ba (b.toList.map iX++[i.toNat])) (t:=s.toks) (a:=p.1) (h':=s.heap.update p.1 (wG (·.push i.toNat.toUInt8))) e1 q (.head _) rfl (Ge ..)
  ⟨b.push i.toNat.toUInt8,Bh _ e4 rfl,by rw[Qh,zO,List.map_singleton,aY2 h0 h1],by rw[f6];exact h2⟩
 exact⟨.d .none,⟨Z.m,eO (.ba (b.toList.map iX++[i.toNat])) hd Z.o⟩,r,F,⟨rfl,S⟩,.d .none,a',t'⟩
theorem aY4{id:jZ}{c:cT iW}{u:H}{full:aD}:Bm id (.bytes c u) full=pure (N c):=by unfold Bm;rw[XQ an6,cw7,KBy.own_release];kernel_rfl
theorem aY5{id:jZ}{c:cT iW}{u:H}:an7 id (.bytes c u) 0=pure (N (c,ao)):=by unfold an7;rw[XQ an6,cw7];simp only[aY4];kernel_rfl
theorem aY6{id:jZ}{c:cT iW}{u:H}:XR id (.bytes c u) 0=pure (N (c,ao)):=by unfold XR;rw[aY5];rfl
theorem Nv(hl:s.heap.get? l=N (jY b))(h:Q b s):av M A (Ql (.ref l)) Q E s:=by unfold Ql an8;refine aJ (aJ (aZ<|zH hl ?_));exact bg (bg h)
theorem TL{M:jP}{A:cQ}{E:aA->aE->Prop}{b c:cT iW}(hl:s.heap.get? l=N (jY b))(hz:b.size+c.size<=1048576)
  (h:Q (.done (.ret .none)) {s with heap:=s.heap.update l (wG (·++c))}):av M A (do
   if !c.isEmpty then XK (.ref l)
   XM (.ref l) (·++c)
   sr .none) Q E s:=by
 have w:=Nu (M:=M) (A:=A) (E:=E) (g:=(·++c)) (Q:=λX s'=>av M A (sr .none) Q E s') hl (by simp;omega) (bg h)
 by_cases hc:(!c.isEmpty)=ah
 ·rw[dP hc];exact aJ (mN hl (aJ w))
 ·rw[cF hc];exact aJ w
theorem aY7{M:jP}{A:cQ}{E:aA->aE->Prop}{l:aR}{b c:cT iW}{u:H}{Q:Fin->aE->Prop}(hl:s.heap.get? l=N (jY b))(hz:b.size+c.size<=1048576)
  (h:Q (.done (.ret .none)) {s with heap:=s.heap.update l (wG (·++c))}):av M A (gW.«bytearray.extend» ⟨[.ref l,.bytes c u],[]⟩) Q E s:=by
 unfold gW.«bytearray.extend»;refine aJ (iY (a:=(zM l,cw8 c u)) rfl ?_);dsimp only;refine aJ (iY (XQ an6) ?_);refine aJ (sO ?_);refine aJ (Nv hl ?_);refine aJ (iY aY6 ?_);exact TL hl hz h
theorem xx:ue (.type "bytearray") "__buffer__"=pure (N (.builtin "bytearray.__buffer__")):=by rw[uf,ug];kernel_rfl
theorem TM:ue (.type "bytearray") "__release_buffer__"=pure (N (.builtin "bytearray.__release_buffer__")):=by rw[uf,ug];kernel_rfl
theorem Iq:isSubtype (.type "bytearray") (.type "bytearray")=pure ah:=by rw[KC];kernel_rfl
theorem Cr{name id:jZ}(hl:s.heap.get? l=N (jY b))(S:ue (.type "bytearray") (name:ai)=pure (N (.builtin id)))(he:(!id.endsWith ("." ++name))=ak)(hd:id.dropRight (name.length+1)= "bytearray")(h:Q ah s):
  av M A (XS (.ref l) name) Q E s:=by
 unfold XS;refine aJ (aZ<|sC ⟨_,hl,rfl⟩ S ?_);dsimp only;rw[he,cF rm,hd];unfold KH;exact aJ (aZ<|Gb ⟨_,hl,rfl⟩ (iY Iq h))
theorem TN{M:jP}{A:cQ}{E:aA->aE->Prop}{l:aR}{b:cT iW}{id:jZ}{full:aD}{Q:bq (cT iW)->aE->Prop}(hl:s.heap.get? l=N (jY b))(h:Q (N b) s):av M A (Bm id (.ref l) full) Q E s:=by
 unfold Bm;refine aJ (aZ<|sC ⟨_,hl,rfl⟩ xx ?_);dsimp only;refine aJ (Cr hl xx (by decide+kernel) (by decide+kernel) ?_)
 rw[cF (by decide)]
 refine aJ (aZ<|sC ⟨_,hl,rfl⟩ xx ?_)
 show av M A (Qm (.ref l)>>=_) Q E s
 unfold Qm;refine aJ (aJ (Cr hl TM (by decide+kernel) (by decide+kernel) (bg ?_)))
 rw[cF (by decide)]
 exact aJ (Nv hl (bg h))
theorem aY8{M:jP}{A:cQ}{E:aA->aE->Prop}{l:aR}{b:cT iW}{id:jZ}{Q:bq (cT iW×bq aA)->aE->Prop}(hl:s.heap.get? l=N (jY b))(h:Q (N (b,ao)) s):av M A (XR id (.ref l) 0) Q E s:=by
 unfold XR;refine aJ (Yl ?_);unfold an7;refine aJ (aZ<|sC ⟨_,hl,rfl⟩ xx ?_);dsimp only;refine aJ (Cr hl xx (by decide+kernel) (by decide+kernel) ?_)
 rw[cF (by decide)]
 refine aJ (aZ<|sC ⟨_,hl,rfl⟩ xx ?_)
 show av M A (Bm id (.ref l) _>>=_) _ _ s
 exact aJ (TN hl (bg (bg h)))
theorem aY9{M:jP}{A:cQ}{E:aA->aE->Prop}{b c:cT iW}(hl:s.heap.get? l=N (jY b))(hc:s.heap.get? l'=N (jY c))(hz:b.size+c.size<=1048576)
  (h:Q (.done (.ret .none)) {s with heap:=s.heap.update l (wG (·++c))}):av M A (gW.«bytearray.extend» ⟨[.ref l,.ref l'],[]⟩) Q E s:=by
 unfold gW.«bytearray.extend»;refine aJ (iY (a:=(zM l,zM l')) rfl ?_);dsimp only;refine aJ (aZ<|sC ⟨_,hc,rfl⟩ xx ?_);refine aJ (sO ?_);refine aJ (Nv hl ?_);refine aJ (aY8 hc ?_);exact TL hl hz h
theorem aZ0:ue (.type "list") "__buffer__"=pure ao:=by rw[uf,ug];kernel_rfl
theorem aZ1:ue (.type "list") "__len__"=pure (N (.builtin "list.__len__")):=by rw[uf,ug];kernel_rfl
theorem aZ2:isSubtype (.type "list") (.type "list")=pure ah:=by rw[KC];kernel_rfl
theorem aZ3(id:jZ)(l:aR):∃(d:bq aA->dJ rq)(g:aD->dJ rq),cw9 id (.ref l)=(an9 (.ref l) "__len__" >>=d)/\d (N (.builtin "list.__len__"))=(KH (.ref l) (.type "list")>>=g)/\g ah=pure ():=by
 have e:splitId "list.__len__"=N ("list","__len__"):=by decide+kernel
 refine⟨_,?g,rfl,?_,?_⟩
 rotate_left
 ·dsimp only;rw[e]
 ·kernel_rfl
theorem aZ4{M:jP}{A:cQ}{E:aA->aE->Prop}{id:jZ}{l:aR}{ws:cT aA}{m:H}{Q:rq->aE->Prop}(hl:s.heap.get? l=N (iG ws m))(h:Q () s):av M A (cw9 id (.ref l)) Q E s:=
 (aZ3 id l).elim λd q=>q.elim λg q=>q.1.symm▸aJ (aZ<|sC ⟨_,hl,rfl⟩ aZ1 (q.2.1.symm▸aJ (aJ (aZ<|Gb ⟨_,hl,rfl⟩ (iY aZ2 (q.2.2.symm▸bg h))))))
theorem nw{prog:iU}{w:bU}{A:cQ}{R:nM->aE->Prop}{id:jZ}{B:gW}{args:Args}(hp:plainId id=ah)(JZ:qC nK id=N B)
  (h:av (aP prog w) A.in1 (B args) (λcH s'=>match cH with| .done f=>R (.ok f) s'| .again c'=>(c'.quiet=ah/\free c'=ah)/\eG (aP prog w) A c' R s') (λe s'=>R (.error e) s') s):eG (aP prog w) A (.builtin id args) R s:=by
 refine m_ ?_;rw[KG hp _]
 show av _ A.in1 (match qC nK id with|some b=>b args|none=>zE ((Qk id "#data").getD id)) _ _ s
 rw[JZ];exact h
theorem aZ5{prog:iU}{w:bU}{A:cQ}{E:aA->aE->Prop}{T id:jZ}{name:ai}{self:aA}{dg:J aA}{Q:aA->aE->Prop}(FW:KA T name id)(hT:s.TypeIs self T)(args:wF id ⟨self::dg,[]⟩)(hf:!Bq.contains id)
  (h:eG (aP prog w) A (.builtin id ⟨self::dg,[]⟩) (λr s'=>match r with| .ok (.ret v)=>Q v s'| .ok X=>bV| .error e=>E e s') s):av (aP prog w) A (fF (.builtin id) (self::dg)) Q E s:=by
 refine Br (m_ ?_)
 show av _ A.in1 (Dy id ⟨self::dg,[]⟩>>=λX=>sj (.builtin id ⟨self::dg,[]⟩)) _ _ s
 exact aJ (aZ (FW.check _ _ _ _ _ _ _ _ hT args (bg (ry ⟨Bk FW.plain _,hf⟩ h))))
theorem Ir{id:jZ}{a:Args}(h:(!Bq.contains id)=ah):free (.builtin id a)=ah:=h
theorem aZ6:qC nK "bytearray.extend.loop"=N gW.«bytearray.extend.loop»:=cx0 (by kernel_rfl)
theorem aZ7:qC nK "bytearray.extend.end"=N gW.«bytearray.extend.end»:=cx0 (by kernel_rfl)
theorem aZ8{i:aa}(h0:0<=i)(h1:i<256)(h:Q i.toNat.toUInt8 s):av M A (XN (.int i t)) Q E s:=by
 unfold XN;refine aJ (nr ?_);rw[cF (by simp;omega)]
 exact bg h
inductive Iu(s:aE)(bG bM l':aR)(bs:J iW)(k:H):aE->Prop
 |mk (j h₁ t):k+j=bs.length->(∀c o,s.heap.get? c=N o->h₁.get? c=N o)->h₁.IsListIter bG l' j->h₁.get? bM=N (jY (bs.take j).toArray)->Iu s bG bM l' bs k {s with heap:=h₁,toks:=t}
theorem aZ9{A:cQ}{b:cT iW}{bs:J iW}{ws:cT aA}(hA:A.handled=ao)(hc:s.heap.get? l'=N (iG ws m))(hl:s.heap.get? l=N (jY b))(hsz:ws.size=bs.length)(hz:b.size+bs.length<=1048576)
  (hi:∀(i:H)(v:aA),ws[i]?=N v->∃(k:aa)(t:H),v=.int k t/\0<=k/\k<256/\bs[i]?=N k.toNat.toUInt8)(hI:bG=s.heap.objs.size)(hS:s.heap.objs.size<bM)(ec:c=.builtin "bytearray.extend.loop" ⟨[.ref l,.ref l',.ref bG,.ref bM],[]⟩)
  (h:∀(h₁:dH)(t:H),(∀c o,s.heap.get? c=N o->h₁.get? c=N o)->h₁.get? bM=N (jY bs.toArray)->eG (aP prog w) B (.builtin "bytearray.extend.end" ⟨[.ref l,.ref l',.ref bM],[]⟩) R {s with heap:=h₁,toks:=t})(k:H)(s':aE)(x:Iu s bG bM l' bs k s'):
  av (aP prog w) A (gW.«bytearray.extend.loop» ⟨[.ref l,.ref l',.ref bG,.ref bM],[]⟩) (λcH s'=>match cH with| .done f=>R (.ok f) s'| .again c'=>(c'=c/\∃m,m<k/\Iu s bG bM l' bs m s')\/((c'.quiet=ah/\free c'=ah)/\eG (aP prog w) B c' R s')) (λe s'=>R (.error e) s') s':=by
 have lt:∀{c o},s.heap.get? c=N o->c<bG:=λe=>hI▸kI e;have W:=am7 (prog:=prog) (w:=w) (A:=A) hA bG l' (sq (lt hc)) ws;have nS:bM≠bG:=Kv (hI▸hS);cases x with
 |mk j h₁ t e S vf nx=>
  unfold gW.«bytearray.extend.loop»;induction k using jh with
  |succ k=>
   have hj:j<bs.length:=e▸Nat.lt_add_of_pos_left k.succ_pos;refine aJ (aZ<|W.item j _ _ _ (hsz▸hj) ⟨vf,⟨_,S _ _ hc,rfl,_,rfl⟩⟩ λv dw tk hv vQ yL=>?_);obtain⟨x,u,rfl,x0,x1,hb⟩:=hi j v hv;have yL:∀b o,b≠bG->h₁.get? b=N o->dw.get? b=N o:=λb o q e=>yL b o (λm=>q (fN.mp m)) e;have oa:=yL _ _ nS nx;refine aJ (Yk (iP (aZ8 x0 x1 (aJ (aZ<|wpAny_letGo (aJ (Nu (g:=(·.push x.toNat.toUInt8)) oa ?_ (bg (.inl ⟨ec.symm,k,m7 k,Iu.mk (j+1) _ tk ((Nat.succ_add_eq_add_succ k j).symm.trans e) (λc o e=>?_) ?_ ?_⟩)))))))))
   ·exact bR (jm (cu7 ..)) (bR (cr4 (eZ (List.length_take_le j bs) hj)) (bR (xY ..) hz))
   ·exact(ao0 _ _ (Kv (mD (lt e) (hI▸hS)))).trans (yL _ _ (sq (lt e)) (S _ _ e))
   ·exact vQ.1.at λo e=>(ao0 _ _ nS).trans e
   ·rw[Bh _ oa rfl,List.take_add_one,hb];exact bQ (λa=>N (jY a)) (List.push_toArray ..)
  |zero=>obtain rfl:j=bs.length:=(mW j).symm.trans e;refine aJ (aZ<|W.done _ _ _ (hsz▸⟨vf,⟨_,S _ _ hc,rfl,_,rfl⟩⟩) λdw tk yL=>?_);have yL:∀b o,b≠bG->h₁.get? b=N o->dw.get? b=N o:=λb o q e=>yL b o (λm=>q (fN.mp m)) e;exact bg (.inr ⟨⟨Bk (by decide+kernel) _,Ir (by decide+kernel)⟩,h dw tk (λc o e=>yL _ _ (sq (lt e)) (S _ _ e)) (by rw[yL _ _ nS nx,cx1])⟩)
theorem ba0{prog:iU}{w:bU}{A:cQ}{b:cT iW}{bs:J iW}{ws:cT aA}(hh:A.handled=ao)(hl:s.heap.get? l=N (jY b))(hc:s.heap.get? l'=N (iG ws m))(hsz:ws.size=bs.length)(hz:b.size+bs.length<=1048576)
  (hi:∀(i:H)(v:aA),ws[i]?=N v->∃(k:aa)(t:H),v=.int k t/\0<=k/\k<256/\bs[i]?=N k.toNat.toUInt8)
  (h:∀(h₁:dH)(t:H),(∀c o,s.heap.get? c=N o->h₁.get? c=N o)->R (.ok (.ret .none)) {s with heap:=h₁.update l (wG (·++bs.toArray)),toks:=t}):
  eG (aP prog w) A (.builtin "bytearray.extend" ⟨[.ref l,.ref l'],[]⟩) R s:=by
 refine nw (by decide+kernel) Fb.TF ?_
 unfold gW.«bytearray.extend»;refine aJ (iY (a:=(zM l,zM l')) rfl ?_);dsimp only;refine aJ (aZ<|sC ⟨_,hc,rfl⟩ aZ0 ?_);rw[cF (by decide)]
 refine aJ (Yk (aZ<|XH ⟨_,hc,rfl,_,rfl⟩ ?_));have TP:∀c o,s.heap.get? c=N o->(s.heap.push {cls:=.type "list_iterator",data:=.fields #[.ref l',.int 0 0]}).get? c=N o:=λc o e=>ko _ e;refine aJ (iP (aZ4 (TP _ _ hc) ?_))
 show av _ _ (cF7 #[]>>=λcm9=>sj (.builtin "bytearray.extend.loop" ⟨[.ref l,.ref l',.ref s.heap.objs.size,cm9],[]⟩)) _ _ _
 refine aJ (aZ<|A_ (bg (ry ⟨Bk (by decide+kernel) _,Ir (by decide+kernel)⟩ ?_)))
 have hI:(s.heap.push {cls:=.type "list_iterator",data:=.fields #[.ref l',.int 0 0]}).IsListIter s.heap.objs.size l' 0:=⟨_,lY _ rfl,rfl,rfl⟩;have sz:(s.heap.push {cls:=.type "list_iterator",data:=.fields #[.ref l',.int 0 0]}).objs.size=s.heap.objs.size+1:=J1 ..;generalize(s.heap.push {cls:=.type "list_iterator",data:=.fields #[.ref l',.int 0 0]})=eE at TP hI sz|-
 refine ar0 (Bk (by decide+kernel) _) (Ir (by decide+kernel)) (Iu s s.heap.objs.size eE.objs.size l' bs) (λk s' x=>?_) bs.length
  (.mk 0 _ s.toks rfl (λc o e=>ko _ (TP c o e)) (hI.at λo e=>ko _ e) (lY _ rfl))
 rw[KG (by decide+kernel) _]
 show av _ _ (match qC nK "bytearray.extend.loop" with|some b=>b ⟨[.ref l,.ref l',.ref s.heap.objs.size,.ref eE.objs.size],[]⟩|none=>zE ((Qk "bytearray.extend.loop" "#data").getD "bytearray.extend.loop")) _ _ _
 rw[aZ6];exact aZ9 (A:=A.in1) (B:=A) hh hc hl hsz hz hi rfl (by rw[sz];exact m7 _) rfl (λdw t S hS=>nw (by decide+kernel) aZ7 (by unfold gW.«bytearray.extend.end»;exact aJ (KP (aJ (Nv hS (TL (S _ _ hl) hz (h dw t S))))))) k s' x
theorem ba1{l:J H}{ws:cT aA}(y:eU F (fJ l) ws.toList)(h:∀n∈l,n<256):ws.size=(l.map Bl).length/\∀(i:H)(v:aA),ws[i]?=N v->∃(k:aa)(t:H),v=.int k t/\0<=k/\k<256/\(l.map Bl)[i]?=N k.toNat.toUInt8:=by
 refine⟨by rw[y.size];simp[fJ],λi v hv=>?_⟩
 have hi:i<ws.size:=(ai1.mp hv).1;have hl:i<l.length:=by have:=y.size;simp[fJ]at this;omega
 obtain⟨u,e,yu⟩:=y.get (i:=i) (v:=.int (l[i]:aa)) (by unfold fJ;rw[mC,mZ hl];rfl)
 rw[rA,hv]at e
 cases e;have hn:=h l[i] (ak8 hl);exact yu.e λt=>⟨_,t,rfl,Dp _,by omega,by rw[mC,mZ hl];rfl⟩
theorem og{l:J H}(h:∀n∈l,n<256):(l.map Bl).map iX=l:=by
 rw[n9]
 conv=>rhs;rw[<-List.map_id l]
 refine ao1 λn hn=>?_;have:=h n hn;simp[Bl,cw6,zN this]
theorem ba2{A:cQ}(hh:A.handled=ao)(h:R8 a vs Z.o k)(at_:At f Y G Z r s F)(y:VR f.w r F a u)(z:gh f.w r F vs ws):
  av (aP f.prog f.w) A (fF (.builtin "bytearray.extend") (u::ws)) (ig f Y G Z k r s F) E s:=by
 refine Av y h λhd p e1 h=>o8 h λo q h=>?_
 revert q
 refine Z7 h λl h q=>qS z h λv x zv h=>?_;obtain⟨b,e4,rfl,hl⟩:=at_.obj e1 q;have hT:s.TypeIs (.ref p.1) "bytearray":=⟨_,e4,rfl⟩;have sz:∀{c:cT iW},(b.toList.map iX++c.toList.map iX).length<=1048576->b.size+c.size<=1048576:=λh=>by rw[f6,cO,cO,oY,oY]at h;exact h
 have post:∀{c:cT iW}{h₁:dH}{t:H},(∀c o,s.heap.get? c=N o->h₁.get? c=N o)->(b.toList.map iX++c.toList.map iX).length<=1048576->k (.d .none) (eO (.ba (b.toList.map iX++c.toList.map iX)) hd Z.o)->
   ig f Y G Z k r s F .none {s with heap:=h₁.update p.1 (wG (·++c)),toks:=t}:=by
  intro c h₁ t gC hz S;obtain⟨a1,t1⟩:=at_.ext (t:=s.toks) gC;obtain⟨a',t'⟩:=a1.chg (y:=.ba (b.toList.map iX++c.toList.map iX)) (t:=t) (a:=p.1) (h':=h₁.update p.1 (wG (·++c))) e1 q (.head _) rfl (Ge ..)
   ⟨b++c,Bh _ (gC _ _ e4) rfl,by rw[Xw,zO],hz⟩
  exact⟨.d .none,⟨Z.m,eO (.ba (b.toList.map iX++c.toList.map iX)) hd Z.o⟩,r,F,⟨rfl,S⟩,.d .none,a',t1.trans t'⟩
 have lst:∀{l':aR}{jl:cT aA}{m:H}{ds:J D},s.heap.get? l'=N (iG jl m)->eU F ds jl.toList->MC ds (λEO=>(b.toList.map iX++EO).length<=1048576/\k (.d .none) (eO (.ba (b.toList.map iX++EO)) hd Z.o))->
   av (aP f.prog f.w) A (fF (.builtin "bytearray.extend") [.ref p.1,.ref l']) (ig f Y G Z k r s F) E s:=by
  rintro l' jl m ds g1 g2 ⟨EO,rfl,g3,g⟩
  rw[<-og g3,show(EO.map Bl).map iX=(EO.map Bl).toArray.toList.map iX from rfl]at g
  obtain⟨n1,n2⟩:=ba1 g2 g3;exact aZ5 Fb.Nr hT (Fb.TG _ _) (by decide+kernel) (ba0 (bs:=EO.map Bl) (ws:=jl) hh e4 g1 n1 (sz g.1) n2 λh₁ t gC=>post gC g.1 g.2)
 induction v with
 |d y=>
  revert zv
  intro zv;have zv:=zv.HQ;induction y using Wm.D.casesOn with
  |bytes l2=>
   refine zv.e λc u e X=>?_;rw[e]at h
   exact Ip Fb.Nr hT Fb.TF (Fb.TG _ _) (by decide+kernel) (aY7 e4 (sz h.1) (post (t:=s.toks) (λX I e=>e) h.1 h.2))
  |list ds=>exact zv.e λl ws n g1 g2 X=>lst (at_.mt.sub _ _ g1) g2 h
  |_=>exact h.elim
 |ref i=>
  refine zv.e λp2 e6=>o8 h λo q2 h=>?_;have ob:=at_.obj e6 q2;induction o with
  |ba l2=>obtain⟨c,e7,rfl,_⟩:=ob;exact Ip Fb.Nr hT Fb.TF (Fb.TG _ _) (by decide+kernel) (aY9 e4 e7 (sz h.1) (post (t:=s.toks) (λX I e=>e) h.1 h.2))
  |dl ds=>obtain⟨jl,m,g1,g2,_⟩:=ob;exact lst g1 g2 h
  |_=>exact h.elim
 |_=>exact h.elim
theorem ba3(h:R2 ds k)(z:eU F ds ws):∃ys:J ai,StrsAre ws ys/\k (ys.flatMap λy=>y.cps.toList):=by
 induction z generalizing k with
 |nil=>exact⟨[],.nil,h⟩
 |cons a z ih=>exact Ex a h λx t h=>(ih h).elim λys h=>⟨x::ys,.cons x t h.1,h.2⟩
theorem ba4{x:ai}(hx:x.cps=#[])(ys:J ai):Txt.join x ys=az (ys.flatMap λy=>y.cps.toList):=by
 show cx2 x ys=_
 unfold cx2;have go:∀(ys:J ai)(acc:cT H),(ys.foldl (λacc p=>acc++x.cps++p.cps) acc).toList=acc.toList++ys.flatMap λy=>y.cps.toList:=by
  intro ys;induction ys with
  |nil=>intro acc;simp
  |cons y ys ih=>intro acc;rw[cr6,ih,hx];simp
 have:((ys.drop 1).foldl (λacc p=>acc++x.cps++p.cps) (ys.headD Str.empty).cps).toList=ys.flatMap λy=>y.cps.toList:=by
  rw[go];induction ys using eT with
  |nil=>rfl
  |cons y ys=>rfl
 unfold az;rw[<-this]
theorem ba5(h:R_ a vs Z.o k)(at_:At f Y G Z r s F)(y:VR f.w r F a u)(z:gh f.w r F vs ws):
  av (aP f.prog f.w) A (fF (.builtin "str.join") (u::ws)) (ig f Y G Z k r s F) E s:=by
 refine jD y h λx y h=>Ex y h λx t h=>qS z h λv u zv h=>?_;obtain⟨he,h⟩:=l9 h;have hx:x.cps=#[]:=by
  cases q:x.cps.toList with
  |nil=>exact Array.toList_eq_nil_iff.mp q
  |cons X I=>rw[q]at he;cases he
 refine Ay zv at_ h λds l jl m S g1 g2 g3=>?_;obtain⟨ys,h1,h2⟩:=ba3 S g2;have hl:(ys.map (·.length)).sum<=1048576:=by rw[show(ys.map (·.length)).sum=(ys.flatMap λy=>y.cps.toList).length by rw[List.length_flatMap];congr 1];exact h2.1
 refine aZ<|join_list ⟨_,g1,rfl,_,rfl⟩ h1 (by show _+ys.length*x.cps.size<=_;rw[hx];exact bR hl (by decide)) λt' tk=>?_
 rw[ba4 hx ys];exact⟨_,Z,r,F,⟨rfl,h2.2⟩,.d .str,at_.tok tk,.tok ..⟩
theorem av5{ws:cT aA}{e:aA->aD}
  (hb:∀i(hi:i<ws.size) r,body i r=(eqBool ws[i] x>>=λb=>if b=ah then(Gi (i:aa)>>=λv=>pure (ForInStep.done (N v,())))else pure (am8 (ao,()))))(hj:j<ws.size)(vf:e ws[j]=ah)(H6:∀i(hi:i<ws.size),i<j->e ws[i]=ak)
  (he:∀(i:H)(hi:i<ws.size)(P:aD->aE->Prop),P (e ws[i]) s->av M A (eqBool ws[i] x) P E s)(h:Q (N (.done (.ret (.int j s.toks))),()) {s with toks:=s.toks+1})(k:H):
  ∀i c,i+k=j->i+c=ws.size->av M A (forIn (cq0 i c) ((ao,()):bq C8×rq) body) Q E s:=by
 induction k with
 |zero=>
  intro i c h1 h2;obtain rfl:i=j:=h1;induction c using jh with
  |zero=>exact absurd hj (vj.mpr (jm h2.symm))
  |succ c=>rw[cx3,Qe,hb _ hj];refine aJ (aJ (he _ hj _ ?_));rw[vf];exact aJ (aJ (aZ<|XT (bg (bg (bg h)))))
 |succ k ih=>
  intro i c h1 h2;have lt:i<j:=h1▸xV (jc k);have hi:=mD lt hj;induction c using jh with
  |zero=>exact absurd hi (vj.mpr (jm h2.symm))
  |succ c=>rw[cx3,Qe,hb _ hi];refine aJ (aJ (he _ hi _ ?_));rw[H6 i hi lt];exact bg (ih (i+1) c ((xW i k).trans h1) ((xW i c).trans h2))
theorem ba6{M:jP}{prog:iU}{w:bU}{E:aA->aE->Prop}{ws:cT aA}{e:aA->aD}(ht:s.heap.get? t=N (lJ ws m))(hj:j<ws.size)(vf:e ws[j]=ah)(H6:∀i(hi:i<ws.size),i<j->e ws[i]=ak)
  (he:∀y,y∈ws->Qn A s y x (e y))(h:Q (.done (.ret (.int j s.toks))) {s with toks:=s.toks+1}):av (aP prog w) A (gW.«tuple.index» ⟨[.ref t,x],[]⟩) Q E s:=by
 unfold gW.«tuple.index»;refine aJ (iY (a:=(zM t,[x])) rfl (aJ (aZ<|am0 ⟨_,ht,rfl,_,rfl⟩ (aJ (bg (aJ (bg ?_)))))));dsimp only;rw[cF8];exact aJ (av5 (λi hi r=>by rw[Kn hi]) hj vf H6 (λi hi P h=>aZ<|he _ (Array.getElem_mem hi) prog w E _ h) (bg h) j 0 _ (mW j) ((mW _).trans ((Nat.div_one _).trans (cv0 _))))
theorem ER{P:D->Prop}{x:D}(h:yC x=ah)(h1:∀i,P (.int i))(h2:∀i,P (.str i)):P x:=by
 induction x using Wm.D.casesOn with
 |int i=>exact h1 i
 |str i=>exact h2 i
 |_=>exact gr h
theorem ol{x y:D}{u:aA}(a:DR F y u)(hx:yC x=ah)(hy:yC y=ah):lW x u=ah↔y=x:=by
 revert a
 refine ER (P:=λy=>DR F y u->(lW x u=ah↔y=x)) hy (λi a=>a.e λt=>?_) λi a=>a.e λt=>?_
 ·exact ER (P:=λx=>lW x (.int i t)=ah↔D.int i=x) hx (λj=>⟨λh=>by rw[eq_of_beq h],λh=>by cases h;exact qy i⟩) λj=>⟨λh=>gr h,λh=>nomatch h⟩
 ·exact ER (P:=λx=>lW x (.str i t)=ah↔D.str i=x) hx (λj=>⟨λh=>gr h,λh=>nomatch h⟩) λj=>⟨λh=>by rw[eq_of_beq h],λh=>by cases h;exact qy i⟩
theorem ba7(a:DR F y u)(b:DR F x v)(hx:yC x=ah)(hy:yC y=ah):Qn A s u v (lW x u):=by
 revert a b
 exact ER (P:=λy=>DR F y u->DR F x v->Qn A s u v (lW x u)) hy
  (λi a=>a.e λt=>ER (P:=λx=>DR F x v->Qn A s (.int i t) v (lW x (.int i t))) hx (λj b=>b.e λt'=>cF9 _ _ _ _) λj b=>b.e λt'=>cG0 _ _ _ _)
  λi a=>a.e λt=>ER (P:=λx=>DR F x v->Qn A s (.str i t) v (lW x (.str i t))) hx (λj b=>b.e λt'=>cG1 _ _ _ _) λj b=>b.e λt'=>cG2 _ _ _ _
theorem ba8(h:R9 a vs Z.o k)(at_:At f Y G Z r s F)(y:VR f.w r F a u)(z:gh f.w r F vs ws):
  av (aP f.prog f.w) A (fF (.builtin "tuple.index") (u::ws)) (ig f Y G Z k r s F) E s:=by
 refine jD y h λx y h=>B9 y h λds l jl m h g1 g2 g3=>qS z h λv' v zv h=>jD zv h λx zv h=>?_;obtain⟨j,⟨h1,h2,h3⟩,S⟩:=h;have on:=at_.mt.sub _ _ g1;have hx:=h2 x (.head _);have ga:∀i(hi:i<jl.size),∃d,ds[i]?=N d/\DR F d jl[i]:=λi hi=>by
  have hd:i<ds.length:=g2.size▸hi;obtain⟨w,e1,e2⟩:=g2.get (mZ hd);rw[rA,Kn hi]at e1
  exact⟨_,mZ hd,fU e1▸e2⟩
 have hj:j<jl.size:=g2.size.symm▸(vq.mp h1).1;refine Ip cw0 ⟨_,on,rfl⟩ (KD (by kernel_rfl)) (PySem.F.args_tuple_index_2 _ _) (by decide+kernel) (ba6 (M:=aP f.prog f.w) (e:=lW x) (j:=j) on hj ?_ (λi hi nB=>?_) (λw hw=>?_) ?_)
 ·obtain⟨d,e1,e2⟩:=ga j hj;exact(ol e2 hx (h2 d (.tail _ (Km e1)))).mpr (fU (e1.symm.trans h1))
 ·obtain⟨d,e1,e2⟩:=ga i hi;exact zL.mpr λq=>h3 i nB ((ol e2 hx (h2 d (.tail _ (Km e1)))).mp q▸e1)
 ·obtain⟨i,hi,rfl⟩:=cx4.mp hw;obtain⟨d,e1,e2⟩:=ga i hi;exact ba7 e2 zv hx (h2 d (.tail _ (Km e1)))
 ·exact⟨.d (.int j),Z,r,F,⟨rfl,S⟩,.d .int,at_.tok _,.tok ..⟩
theorem TQ(hg:Xj g=pure .machine)(h:qT f Y n args Z Q)(hp:rS args=ah)(o:Ok n A)(i:g_ f Y G)(a:At f Y G Z r s F)
  (hq:∀vs ws aI bY cz aF,Q vs aI->gh f.w bY cz vs ws->At f Y G aI bY aF cz->Go G Z aI r bY s aF F cz->av (aP f.prog f.w) A (fF g (first++ws)) P E aF):
  av (aP f.prog f.w) A (vn pos g first (n8 pos (lQ args G)) []) P E s:=by
 refine Zy (Tw hp) hg ?_
 have gQ:av (aP f.prog f.w) A (rt (n8 pos (lQ args G))) (λvs aF=>av (aP f.prog f.w) A (fF g (first++vs)) P E aF) E s:=
  WX.run (h pos) o i a λvs ws aI bY cz aF q y b7 b8=>hq vs ws aI bY cz aF q y b7 b8
 induction args using eT with
 |nil=>exact Zx gQ
 |cons e l=>
  rw[HY (Cp hp).1]at gQ|-
  exact QL gQ
theorem ig.out(g:Go G b9 Z r' r s' s F' F)(h:av (aP f.prog f.w) A t (ig f Y G Z (λv o=>Q v ⟨Z.m,o⟩) r s F) E s):av (aP f.prog f.w) A t (rR f Y G b9 Q r' s' F') E s:=
 gG h (λu s' p=>by obtain⟨v,⟨cE2,Sw⟩,bY,cz,⟨rfl,q⟩,y,b7,b8⟩:=p;exact⟨v,_,bY,cz,q,y,b7,g.trans b8⟩) λX I z=>z
theorem ba9{Px pos:gq}{args:J aT}{T:Tb}(h:WE f Y n oe Z λa aI=>jK (HM a x aI.o) λg=>qT f Y n args aI λvs b3=>ZR T g a vs b3.o λv o=>Q v ⟨b3.m,o⟩)
  (c:tO f n T.fn)(hp:rS args=ah)(hs:EC oe=ah)(hl:decide (args.length<30)=ah)(bb0:(Px.endLine==pos.line)=ah):WE f Y n (.Call (.Attribute oe x Px) args [] pos) Z Q:=λA s F G E r o i at_=>by
 show av _ A (cM (.Call (.Attribute oe x Px) args [] pos) G) _ E s
 rw[arm_eval_Call,fw hs];refine aJ (Ie h o i at_ λa u aI bY cz aF h₁ cX b7 b8=>aJ (qE (nX h₁ λg hg h₁=>?_)));have bb1:cx5 (args.length+([]:J Keyword).length) (n8 pos (lQ args G)) (PK pos (PL [] G))=ah:=by
  unfold cx5;have q:(n8 pos (lQ args G)).all (!·.1)=ah:=by rw[List.all_eq_not_any_not];simpa using Tw (pos:=pos) (G:=G) hp
  rw[q,show PK pos (PL [] G)=[]from rfl]
  simpa using hl
 unfold methodCall;rw[bb1];refine aJ (iP (aX6 (A:=A) (E:=E) hg b7 cX _ _ ?_));refine aJ (iY (show cx6 ah oe G Px pos=pure pos by unfold cx6;simp[bb0]) ?_)
 have bi:∀{id:jZ}{P:V->J V->J O->(V->J O->Prop)->Prop},(∀{vs ws b3 iB cj iH}{k:V->J O->Prop},P a vs b3.o k->At f Y G b3 iB cj iH->VR f.w iB iH a u->gh f.w iB iH vs ws->av (aP f.prog f.w) A (fF (.builtin id) (u::ws)) (ig f Y G b3 k iB cj iH) E cj)->
   (qT f Y n args aI λvs b3=>P a vs b3.o λv o=>Q v ⟨b3.m,o⟩)->av (aP f.prog f.w) A (vn pos (.builtin id) [u] (n8 pos (lQ args G)) (PK pos (PL [] G))) (mh f Y (λr F=>VR f.w r F) G Z Q r s F) E aF:=
  λhP hW=>TQ rfl hW hp o i b7 λvs ws b3 iB iH cj dw gU e_ c9=>ig.out (b8.trans c9) (hP dw e_ (cX.mono c9.fM c9.grow) gU)
 induction g with
 |fn b=>
  exact lw h₁ hp o i b7 λvs ws b3 iB iH cj dw gU e_ c9=>have k:=c.lift (show yt (T.fn b) (a::vs) b3.o (λv o=>Q v ⟨b3.m,o⟩)from dw)
   ⟨k.1,ig.out (b8.trans c9) (At.callC k.2 o e_ (.cons (cX.mono c9.fM c9.grow) gU))⟩
 |MH=>exact bi (P:=R4) (λh a y z=>aX7 h a y z) h₁
 |MI=>exact bi (P:=R5) (λh a y z=>aX9 h a y z) h₁
 |MJ=>exact bi (P:=R6) (λh a y z=>aX8 h a y z) h₁
 |MK=>exact bi (P:=R7) (λh a y z=>aY3 h a y z) h₁
 |ML=>exact bi (P:=R8) (λh a y z=>ba2 o.hd h a y z) h₁
 |MM=>exact bi (P:=R9) (λh a y z=>ba8 h a y z) h₁
 |MO=>exact bi (P:=R_) (λh a y z=>ba5 h a y z) h₁
theorem ES{α:Type}{M:jP}{A:cQ}{E:aA->aE->Prop}{t:dJ α}{v:α}{Q:α->aE->Prop}(L:wA M s.heap t v)(h:Q v s):av M A t Q E s:=aZ (L.here h)
theorem bb2{prog:iU}{w:bU}{A bb3:cQ}{C:aR}{R:nM->aE->Prop}{dg:J aA}{wk:aA}(lZ:Makes (aP prog w) s.heap C)(hi:wA (aP prog w) s.heap (ue (.ref C) "__init__") (N wk))
  (hb:∀self,wA (aP prog w) s.heap (bindSpecial wk self) (wk,[self]))(Iv:(N wk !=N (cx7 "object.__init__"))=ah\/(dg=[]/\([]:J (ai×aA))=[]))
  (hq:av (aP prog w) A (fF wk (.ref (s.heap.objs.size+1)::dg)) (λv s'=>v=.none/\R (.ok (.ret (.ref (s.heap.objs.size+1)))) s') (λe s'=>R (.error e) s') {s with heap:=(s.heap.push vz).push (sH C s.heap.objs.size)}):
  av (aP prog w) A (gW.«type.__call__» ⟨.ref C::dg,[]⟩) (λcH s'=>match cH with| .done f=>R (.ok f) s'| .again c'=>(c'.quiet=ah/\free c'=ah)/\eG (aP prog w) bb3 c' R s') (λe s'=>R (.error e) s') s:=by
 have Y':=lZ;obtain⟨⟨oc,od,cd,sl,hC,e1,e2,e4⟩,cn0,cm7,self,top,oo,typ⟩:=lZ;obtain⟨hp,g,d,t,os⟩:=s;dsimp only at*
 have hm:wA (aP prog w) hp (mroOf (.ref C)) cd.mro:=((cx8 (part:=none) hC).andThen .now).andThen .now;have k:∀b o,hp.get? b=N o->((hp.push vz).push (sH C hp.objs.size)).get? b=N o:=λb o e=>ko _ (ko _ e);have hx:((hp.push vz).push (sH C hp.objs.size)).get? (hp.objs.size+1)=N (sH C hp.objs.size):=by
  have:=lY (hp.push vz) (o:=sH C hp.objs.size) rfl
  rwa [J1]at this
 have t1:wA (aP prog w) ((hp.push vz).push (sH C hp.objs.size)) (XI (.ref (hp.objs.size+1))) (.ref C):=(cx8 hx).andThen .now;have i1:wA (aP prog w) ((hp.push vz).push (sH C hp.objs.size)) (KH (.ref (hp.objs.size+1)) (.ref C)) ah:=t1.andThen (self.keeps k);have c1:wA (aP prog w) ((hp.push vz).push (sH C hp.objs.size)) (an9 (.ref (hp.objs.size+1)) "__init__") (N wk):=t1.andThen (hi.keeps k);have b1:=(hb (.ref (hp.objs.size+1))).keeps k;unfold gW.«type.__call__»;dsimp only;rw[cF (show¬((zM C==Bg "type")=ah)from rm)]
 refine aJ (ES hm ?_);rw[cF (by rw[e4];decide)]
 refine aJ (ES cn0 ?_);dsimp only;refine aJ (bg (aJ (iP (Br (RE (new_K Y' hi Iv ?_))))));refine aJ (ES i1 ?_);rw[cF (by decide)]
 refine aJ (iP ?_);unfold callSpecial?;refine aJ (ES c1 ?_);dsimp only;refine iP (aJ (ES b1 ?_));dsimp only;refine dR hq λv s' q=>?_;obtain⟨rfl,q⟩:=q;refine bg ?_;dsimp only;rw[cF (by decide)]
 exact bg q
theorem bb4{prog:iU}{w:bU}{A:cQ}{C:aR}{R:nM->aE->Prop}{dg:J aA}{oc:aA}{od:bq aR}{cd:ClassData}{sl:cT (bq aA)}(hC:s.heap.get? C=N ⟨oc,od,.cls cd,sl⟩)(oo:wA (aP prog w) s.heap (an9 (.ref C) "__call__") (N (.builtin "type.__call__")))
  (h:eG (aP prog w) A (.call (.builtin "type.__call__") ⟨.ref C::dg,[]⟩) R s):eG (aP prog w) A (.call (.ref C) ⟨dg,[]⟩) R s:=by
 refine m_ ?_
 show av _ A.in1 (F1 C>>=λo=>match o.data with
   | .func fd=>ak1 C fd ⟨dg,[]⟩
   | .fields vs=>
    if o.cls== .type "method" ||o.cls== .type "builtin_function_or_method" ||o.cls== .type "method-wrapper" then(do
     let(N func,N self):=(vs[0]?,vs[1]?)|unsupported "internal:method-record"
     let all:Args:=⟨self::dg,[]⟩
     if let .builtin id:=func then
      if o.cls != .type "method" then
       checkBoundCall id all
       return<-sj (.builtin id all)
     sj (.call func all))
    else XU (.ref C) ⟨dg,[]⟩
   |X=>XU (.ref C) ⟨dg,[]⟩) _ _ s
 refine aJ (aZ<|zH hC ?_)
 show av _ A.in1 (XU (.ref C) ⟨dg,[]⟩) _ _ s
 unfold XU;refine aJ (ES oo ?_);dsimp only;rw[tc_bind];refine aJ (bg (aJ (bg ?_)));exact bg ⟨⟨rfl,rfl⟩,h⟩
theorem av6{prog:iU}{w:bU}{A:cQ}{R:nM->aE->Prop}{id:jZ}{args:Args}{B:gW}(hq:(Dz id args).quiet=ah)(hf:free (.builtin id args)=ah)(hb:qC nK id=N B)
  (h:av (aP prog w) A.in1 (Dy id args) (λX aF=>av (aP prog w) (A.under (.builtin id args)) (B args) (λcH s'=>match cH with| .done f=>R (.ok f) s'| .again c'=>(c'.quiet=ah/\free c'=ah)/\eG (aP prog w) A c' R s') (λe s'=>R (.error e) s') aF) (λe s'=>R (.error e) s') s):
  eG (aP prog w) A (.call (.builtin id) args) R s:=by
 refine m_ ?_
 show av _ A.in1 (Dy id args>>=λX=>sj (.builtin id args)) _ _ s
 refine dR h λX aF q=>bg (ry ⟨hq,hf⟩ (m_ ?_))
 show av _ _ (match qC nK id with|some b=>b args|none=>zE ((Qk id "#data").getD id)) _ _ aF
 rw[hb];exact q
theorem bb5{A:cQ}(typ:wA (aP prog w) s.heap (KH (.ref C) (.type "type")) ah)
  (h:av (aP prog w) (A.under (.builtin "type.__call__" ⟨.ref C::dg,[]⟩)) (gW.«type.__call__» ⟨.ref C::dg,[]⟩) (λcH s'=>match cH with| .done f=>R (.ok f) s'| .again c'=>(c'.quiet=ah/\free c'=ah)/\eG (aP prog w) A c' R s') (λe s'=>R (.error e) s') s):
  eG (aP prog w) A (.call (.builtin "type.__call__") ⟨.ref C::dg,[]⟩) R s:=
 av6 (cx9 _ (by decide+kernel)) (Ir (by decide+kernel)) entry_typeCall (aZ (check_slot tc_kind tc_split typ (tc_args _ _ _) h))
theorem bb6{A:cQ}(lZ:Makes (aP prog w) s.heap C)(hi:wA (aP prog w) s.heap (ue (.ref C) "__init__") (N wk))
  (hb:∀self,wA (aP prog w) s.heap (bindSpecial wk self) (wk,[self]))(Iv:(N wk !=N (cx7 "object.__init__"))=ah\/(dg=[]/\([]:J (ai×aA))=[]))
  (hq:av (aP prog w) (A.under (.builtin "type.__call__" ⟨.ref C::dg,[]⟩)) (fF wk (.ref (s.heap.objs.size+1)::dg)) (λv s'=>v=.none/\R (.ok (.ret (.ref (s.heap.objs.size+1)))) s') (λe s'=>R (.error e) s') {s with heap:=(s.heap.push vz).push (sH C s.heap.objs.size)}):
  eG (aP prog w) A (.call (.ref C) ⟨dg,[]⟩) R s:=by
 refine b_ (lZ.obj) λoc hx=>?_;refine b_ hx λod hx=>?_;refine b_ hx λcd hx=>?_;refine b_ hx λsl hx=>?_;have hC:=hx.1;refine bb4 hC lZ.call (bb5 lZ.typ ?_);exact bb2 lZ hi hb Iv hq
theorem Mt.bb7{h':dH}{t:H}(m:Mt w B r s F L)(q:f_ r r')(k:∀b y,s.heap.get? b=N y->h'.get? b=N y)(hC:∀c∈jR (p,o),s.heap.get? c=ao)(nd:(jR (p,o)).Nodup)(hr:OR w r' F h' p o):
  Mt w B r' {s with heap:=h',toks:=t} F (L++[(p,o)])/\fB r r' s {s with heap:=h',toks:=t} F F (own L) (own (L++[(p,o)])):=by
 have e:own (L++[(p,o)])=own L++jR (p,o):=by rw[je,oA];simp[own]
 refine⟨⟨λa y q=>k a y (m.sub a y q),m.base,λq' hq=>?_,λa ha=>?_,?_⟩,⟨q,⟨_,_,rfl⟩,.refl _,λX I q=>.inl q,λa q=>?_,λa y X q=>k a y q⟩⟩
 ·rcases gK.mp hq with hq|hq
  ·exact(m.live q' hq).step q (.refl _) λb X y e=>k b y e
  ·rw[fN.mp hq];exact hr
 ·rw[e]at ha
  rcases gK.mp ha with ha|ha
  ·exact m.jf a ha
  ·exact(iQ.fresh m (hC a ha)).fr
 ·rw[e];refine qz.mpr ⟨m.nd,nd,λa ha b hb q=>?_⟩;subst q;exact(iQ.fresh m (hC a hb)).ow ha
 ·rw[e]at q
  rcases gK.mp q with q|q
  ·exact .inl q
  ·exact .inr (hC a q)
def TR(T:Tr)(C:aR):Tr:=λargs o k=>T (.ref (Wm.len o)::args) (o++[.inst C []]) λv o'=>iS v λx=>dh x.o6 (k (.ref (Wm.len o)) o') bV
theorem Ok.under{A:cQ}(h:Ok (n+1) A):Ok n (A.under (.builtin "type.__call__" ⟨.ref C::ws,[]⟩)):=by
 have w1:(Dz "type.__call__" ⟨.ref C::ws,[]⟩).weight<=5:=by
  have:(Dz "type.__call__" ⟨.ref C::ws,[]⟩).weight=1:=by rfl
  exact this▸by decide
 have w2:(Dz "type.__call__" ⟨.ref C::ws,[]⟩).cUnits<=20:=by
  have:(Dz "type.__call__" ⟨.ref C::ws,[]⟩).cUnits=1:=by rfl
  exact this▸by decide
 exact⟨h.hd,bR (Kr (sI w1 _) _) (by rw[wB,rB 5];exact h.depth),bR (Kr (sI w2 _) _) (by rw[wB,rB 20];exact h.units)⟩
theorem bb8(h:SC f n (.ref fI) T)(hm:makesIn f.K C=ah)(hi:Dl f.K (.ref C) "__init__"=N (N (.ref fI)))(ht:Xr f.K (.ref fI)=N (.type "function")):SC f (n+1) (.ref C) (TR T C):=by
 intro args o k S A s F E r ws ok el m y;unfold TR at S
 refine Br (bb6 (makes_of (uM m) hm) (looks_findIn (uM m) hi) (λself=>bind_fn (uM m) self ht) (.inl rfl) ?_);have gC:∀b y,s.heap.get? b=N y->((s.heap.push vz).push (sH C s.heap.objs.size)).get? b=N y:=λb y e=>ko _ (ko _ e);have eY:∀c,s.heap.objs.size<=c->s.heap.get? c=ao:=λc hc=>by
  cases e:s.heap.get? c with
  |none=>rfl
  |some o'=>exact absurd (kI e) (vj.mpr hc)
 have hx:((s.heap.push vz).push (sH C s.heap.objs.size)).get? (s.heap.objs.size+1)=N (sH C s.heap.objs.size):=by
  have:=lY (s.heap.push vz) (o:=sH C s.heap.objs.size) rfl
  rwa [J1]at this
 have hd:((s.heap.push vz).push (sH C s.heap.objs.size)).get? s.heap.objs.size=N (mY [] 0):=ko _ (lY _ rfl);have q:f_ r (r++[(s.heap.objs.size+1,s.heap.objs.size)]):=f_.app _ _;obtain⟨m1,t1⟩:=Mt.bb7 (t:=s.toks) (o:=.inst C []) (p:=(s.heap.objs.size+1,s.heap.objs.size)) m q gC (λc hc=>by
   rcases iV.mp hc with rfl|hc
   ·exact eY _ (Bj _)
   ·rw[fN.mp hc];exact eY _ (jO _)) (by simp[jR]) ⟨[],0,#[],hx,hd,.nil,by simp,λx h=>by simp at h⟩
 rw[<-HU el]at m1 t1
 have hr:(r++[(s.heap.objs.size+1,s.heap.objs.size)])[Wm.len o]?=N (s.heap.objs.size+1,s.heap.objs.size):=by rw[nc,<-el];simp
 refine gG (h _ _ _ S _ {s with heap:=(s.heap.push vz).push (sH C s.heap.objs.size)} F _ (r++[(s.heap.objs.size+1,s.heap.objs.size)]) (.ref (s.heap.objs.size+1)::ws) ok.under (by simp[el]) m1 (.cons (.ref hr) (y.Ew q (.refl _)))) (λu s' p=>?_) λX I z=>z
 obtain⟨v,o',r',F',hq,yv,l,m',t'⟩:=p;refine jD yv hq λx y hq=>?_;have hq:=l9 hq
 ·obtain rfl:u=.none:=by cases x<;>first|exact gr hq.1|exact y.e rfl
  have hq:=hq.2;exact⟨rfl,.ref (Wm.len o),o',r',F',hq,.ref (t'.fM _ _ hr),l,m',t1.trans t'⟩
end
end Wm
section
namespace Wl
variable{prog:iU}{w:bU}{A:cQ}{E:aA->aE->Prop}{s:aE}
theorem oy:KA "bytearray" "__len__" "bytearray.__len__":=
 .of (owner:= "bytearray") (n:= "__len__") (by rw[uf,ug];kernel_rfl) (by decide+kernel) (by decide+kernel) (by decide+kernel)
  (by first|exact .inl (by decide+kernel)|exact .inr (by decide+kernel)) (by rw[KC];kernel_rfl)
theorem bb9:qC nK "bytearray.__len__"=N gW.«bytearray.__len__»:=KD (by kernel_rfl)
theorem bc0(a:aA):wF "bytearray.__len__" ⟨[a],[]⟩:=by unfold wF;kernel_rfl
theorem bc1{b:cT iW}(hl:s.heap.get? l=N (Wm.jY b))(hz:b.size<=1048576)(h:Q (.int b.size (s.toks+1)) {s with toks:=s.toks+1+1}):wpAny (aP prog w) A (fF (.builtin "len") [.ref l]) Q E s:=by
 refine ao2 (T:= "bytearray") ⟨_,hl,rfl⟩ oy (λQ' q=>?_) (by omega) (by omega) h
 refine XC oy ⟨_,hl,rfl⟩ bb9 ?_ (bc0 _)
 show wpAny _ _ (Ql (.ref l)>>=λb=>Gi b.size) _ _ s
 refine wpAny_bind ?_;unfold Ql an8;refine wpAny_bind (wpAny_bind (zH hl ?_));refine wpAny_pure (wpAny_pure ?_);unfold Gi;exact wpAny_bind (XT (wpAny_pure ⟨_,rfl,q⟩))
theorem bc2:qC nK "tuple.__len__"=N gW.«tuple.__len__»:=KD (by kernel_rfl)
theorem bc3(a:aA):wF "tuple.__len__" ⟨[a],[]⟩:=by unfold wF;kernel_rfl
theorem bc4{ws:cT aA}(hl:s.heap.get? l=N (Wm.lJ ws m))(hz:ws.size<=1048576)(h:Q (.int ws.size (s.toks+1)) {s with toks:=s.toks+1+1}):wpAny (aP prog w) A (fF (.builtin "len") [.ref l]) Q E s:=by
 refine ao2 (T:= "tuple") ⟨_,hl,rfl⟩ cy0 (λQ' q=>?_) (by omega) (by omega) h
 refine XC cy0 ⟨_,hl,rfl⟩ bc2 ?_ (bc3 _)
 show wpAny _ _ (ct4 (.ref l)>>=λxs=>Gi xs.size) _ _ s
 refine wpAny_bind (am0 ⟨_,hl,rfl,_,rfl⟩ ?_);unfold Gi;exact wpAny_bind (XT (wpAny_pure ⟨_,rfl,q⟩))
theorem cC9{b:cT iW}(hz:b.size<=1048576)(h:Q (.int b.size (s.toks+1)) {s with toks:=s.toks+1+1}):wpAny (aP prog w) A (fF (.builtin "len") [.bytes b t]) Q E s:=by
 refine ao2 (T:= "bytes") (Dr _ _ _) ao3 (λQ' q=>?_) (by omega) (by omega) h
 refine XC ao3 (Dr _ _ _) FB.entry_bytes_len ?_ (FB.args_bytes_len_1 _)
 show wpAny _ _ (Gi b.size) _ _ s
 unfold Gi;exact wpAny_bind (XT (wpAny_pure ⟨_,rfl,q⟩))
end Wl
namespace Wm
variable{f:Cf}{Y:J (ai×cJ)}{n:H}{Z:St}{e:aT}{G:cL}{r:bP}{s:aE}{F:bN}
theorem bc5{A:cQ}{E:aA->aE->Prop}(h:ZN v Z.o λn=>k (.d (.int n)) Z.o)(at_:At f Y G Z r s F)(y:VR f.w r F v u):
  av (aP f.prog f.w) A (fF (.builtin "len") [u]) (ig f Y G Z k r s F) E s:=by
 have cH:∀{n:H},k (.d (.int n)) Z.o->ig f Y G Z k r s F (.int n (s.toks+1)) {s with toks:=s.toks+1+1}:=λ{n} h=>⟨.d (.int n),Z,r,F,⟨rfl,h⟩,.d .int,at_.tok _,.tok ..⟩
 have tup:∀{l:aR}{ws:cT aA}{m n:H},s.heap.get? l=N (lJ ws m)->n=ws.size->n<=1048576->k (.d (.int n)) Z.o->av (aP f.prog f.w) A (fF (.builtin "len") [.ref l]) (ig f Y G Z k r s F) E s:=λg e hl h=>by subst e;exact aZ (Wl.bc4 g hl (cH h))
 have lst:∀{l:aR}{ws:cT aA}{m n:H},s.heap.get? l=N (iG ws m)->n=ws.size->n<=1048576->k (.d (.int n)) Z.o->av (aP f.prog f.w) A (fF (.builtin "len") [.ref l]) (ig f Y G Z k r s F) E s:=λg e hl h=>by subst e;exact aZ (call_len_list ⟨_,g,rfl,_,rfl⟩ (by omega) (cH h))
 have bl:∀{b:cT iW},(b.toList.map iX).length=b.size:=by intro b;rw[cO,oY]
 induction v with
 |d x=>
  refine y.e λu y=>?_;induction x using Wm.D.casesOn with
  |tup ds=>exact y.e λl ws m e z zl=>tup (at_.mt.sub _ _ e) z.size.symm zl h
  |list ds=>exact y.e λl ws m e z zl=>lst (at_.mt.sub _ _ e) z.size.symm zl h
  |bytes l=>
   refine y.e λb t e hb=>?_;subst e;have h:k (.d (.int (b.toList.map iX).length)) Z.o:=h;rw[bl]at h
   exact aZ (Wl.cC9 hb (cH h))
  |_=>exact h.elim
 |ref i=>
  refine y.e λp e1=>o8 h λo q h=>?_;have ob:=at_.obj e1 q;induction o with
  |dl ds=>obtain⟨ws,m,g1,g2,g3⟩:=ob;exact lst g1 g2.size.symm g3 h
  |vl ds=>obtain⟨ws,m,g1,g2,g3⟩:=ob;exact lst g1 (g2.length.trans oY) g3 h
  |ba l=>
   obtain⟨b,g1,rfl,g3⟩:=ob;have h:k (.d (.int (b.toList.map iX).length)) Z.o:=h;rw[bl]at h g3
   exact aZ (Wl.bc1 g1 g3 (cH h))
  |_=>exact h.elim
 |_=>exact h.elim
end Wm
end
namespace Wm
section
variable{f:Cf}{Y:J (ai×cJ)}{n:H}{Z:St}{e:aT}{G:cL}{r:bP}{s:aE}{F:bN}
theorem bc6{a b:aa}{A:cQ}(hh:A.handled=ao)(h:dh (decide (b<a)) (k (.d (.int b)) Z.o) (k (.d (.int a)) Z.o))(at_:At f Y G Z r s F):
  av (aP f.prog f.w) A (fF (.builtin "min") [.int a t,.int b t']) (ig f Y G Z k r s F) E s:=by
 refine aZ<|min_two_ints hh λh' tk gC=>?_;obtain⟨a',t'⟩:=at_.ext (t:=tk) gC;refine vO h (λq S=>?_) λq S=>?_
 ·rw[dP (gy q)];exact⟨_,Z,r,F,⟨rfl,S⟩,.d .int,a',t'⟩
 ·rw[cF (sJ q)];exact⟨_,Z,r,F,⟨rfl,S⟩,.d .int,a',t'⟩
theorem At.oC{h':dH}{t:H}{D:aR}{o:fH}(a:At f Y G Z r s F)(gC:∀b y,s.heap.get? b=N y->h'.get? b=N y)(hD:s.heap.get? D=ao)(e:h'.get? D=N o):
  ∃F',F' D=N o/\iF F F'/\At f Y G Z r {s with heap:=h',toks:=t} F'/\Go G Z Z r r s {s with heap:=h',toks:=t} F F':=by
 have hx:=a.ext (t:=t) gC;have a1:=hx.1;have t1:=hx.2;refine b_ (a1.mt.Nf t1 (iQ.fresh a.mt hD) e hD) λF' hx=>?_;have e1:=hx.1;have e2:=hx.2.1;have m2:=hx.2.2.2.1;have t2:=hx.2.2.2.2;exact⟨F',e1,e2,⟨a.len,a.fk,m2⟩,t2⟩
theorem At.oI{h':dH}{t:H}{D:aR}{x:O}(a:At f Y G Z r s F)(gC:∀b y,s.heap.get? b=N y->h'.get? b=N y)(hD:s.heap.get? D=ao)(hx:jR ((D,D),x)=[D])(hr:OR f.w r F h' (D,D) x):
  ∃r',VR f.w r' F (.ref (Wm.len Z.o)) (.ref D)/\At f Y G ⟨Z.m,Z.o++[x]⟩ r' {s with heap:=h',toks:=t} F/\Go G Z ⟨Z.m,Z.o++[x]⟩ r r' s {s with heap:=h',toks:=t} F F:=by
 have m0:l_ f r s F (r.zip Z.o):=a.mt.part;have m1:l_ f r {s with heap:=h',toks:=t} F (r.zip Z.o):=⟨λb y e=>gC b y (m0.sub b y e),m0.base,λp hp=>(m0.live p hp).step (.refl _) (.refl _) λb X y e=>gC b y e,m0.jf,m0.nd⟩
 have t1:fB r r s {s with heap:=h',toks:=t} F F (own (r.zip Z.o)) (own (r.zip Z.o)):=⟨.refl _,⟨_,_,rfl⟩,.refl _,λX I e=>.inl e,λX h=>.inl h,λb y X e=>gC b y e⟩
 obtain⟨m2,t2⟩:=m1.ik a.len t1 (iQ.fresh m0 hD) hx hr hD;refine⟨r++[(D,D)],.ref (p:=(D,D)) ?_,⟨by simp[a.len],a.fk,a.mt.join t2 m2 t2.fM⟩,t2.frame (M:=[Cc G Z.m]) t2.fM⟩
 rw[nc,<-a.len];simp
theorem bc7(h:vK v Z.o λds=>k (.d (.tup ds)) Z.o)(at_:At f Y G Z r s F)(y:VR f.w r F v u):
  av (aP f.prog f.w) A (fF (.type "tuple") [u]) (ig f Y G Z k r s F) E s:=by
 refine vO h (λX h=>jD y h λx y h=>B9 y h λds l ws m h e z zl=>?_) λX h=>Ay y at_ h λds l ws m S g yd hl=>?_
 ·exact aZ<|call_tuple_same ⟨_,at_.mt.sub _ _ e,rfl,_,rfl⟩ ⟨_,Z,r,F,⟨rfl,h⟩,.d (.tup e z zl),at_,.refl ..⟩
 ·refine aZ<|call_tuple_list ⟨_,g,rfl,_,rfl⟩ (λh' gC=>?_) (by rw[yd.size];exact bR hl (by unfold gX;decide))
  have hx:=at_.ext (t:=s.toks) gC;have a':=hx.1;have t':=hx.2;refine b_ (a'.frozen (o:=lJ ws 0) rfl) λF' hx=>?_;have e:=hx.1;have a2:=hx.2.1;have t2:=hx.2.2;exact⟨_,Z,r,F',⟨rfl,S⟩,.d (.tup e (yd.mono t2.grow) hl),a2,t'.trans t2⟩
theorem TS{ds:J D}{ws:cT aA}{t:H}{h':dH}(h:dh lv (k (.ref (Wm.len Z.o)) (Z.o++[.dl ds])) (k (.d (.list ds)) Z.o))(at_:At f Y G Z r s F)(gC:∀b o',s.heap.get? b=N o'->h'.get? b=N o')(hD:h'.get? s.heap.objs.size=N (iG ws c))(yd:eU F ds ws.toList)(hl:ds.length<=1048576):
  ig f Y G Z k r s F (.ref s.heap.objs.size) {s with heap:=h',toks:=t}:=by
 induction lv with
 |true=>have h:k (.ref (Wm.len Z.o)) (Z.o++[.dl ds]):=h;refine b_ (at_.oI (t:=t) (x:=.dl ds) gC (o9 _) rfl ⟨ws,c,hD,yd,hl⟩) λr' hx=>?_;have v:=hx.1;have a':=hx.2.1;have t':=hx.2.2;exact⟨_,⟨Z.m,Z.o++[.dl ds]⟩,r',F,⟨rfl,h⟩,v,a',t'⟩
 |false=>have h:k (.d (.list ds)) Z.o:=h;refine b_ (at_.oC (t:=t) gC (o9 _) hD) λF' hx=>?_;have e:=hx.1;have sl:=hx.2.1;have a':=hx.2.2.1;have t':=hx.2.2.2;exact⟨_,Z,r,F',⟨rfl,h⟩,.d (.list e (yd.mono sl) hl),a',t'⟩
theorem bc8(h:vK v Z.o λds=>dh lv (k (.ref (Wm.len Z.o)) (Z.o++[.dl ds])) (k (.d (.list ds)) Z.o))(at_:At f Y G Z r s F)(y:VR f.w r F v u):
  av (aP f.prog f.w) A (fF (.type "list") [u]) (ig f Y G Z k r s F) E s:=
 M8 h at_ y λds l ws m S g yd hl eu=>by
  rw[eu];have sz:ws.size<=gX:=by rw[yd.size];exact bR hl (by unfold gX;decide)
  rcases g with g|g
  ·exact aZ<|cy1 l (.inl rfl) g rfl rfl (λh' c' gC hD=>TS S at_ gC hD yd hl) sz
  ·exact aZ<|cy1 l (.inr rfl) g rfl rfl (λh' c' gC hD=>TS S at_ gC hD yd hl) sz
theorem bc9{x:ai}(h:ZO x.cps.toList λc=>k (.d (.int c)) Z.o)(at_:At f Y G Z r s F):
  av (aP f.prog f.w) A (fF (.builtin "ord") [.str x t]) (ig f Y G Z k r s F) E s:=by
 obtain⟨⟨l⟩⟩:=x;induction l using eT with
 |nil=>exact h.elim
 |cons c l=>induction l using eT with
  |nil=>exact aZ<|PySem.P.ord_of_char ⟨_,Z,r,F,⟨rfl,h⟩,.d .int,at_.tok _,.tok ..⟩
  |cons X I=>exact h.elim
theorem bd0{i:aa}(h:(0<=i/\i<=1114111)/\k (.d (.str (az [i.toNat]))) Z.o)(at_:At f Y G Z r s F):
  av (aP f.prog f.w) A (fF (.builtin "chr") [.int i t]) (ig f Y G Z k r s F) E s:=
 aZ<|PySem.P.chr_of_int (by simp;omega) ⟨_,Z,r,F,⟨rfl,h.2⟩,.d .str,at_.tok _,.tok ..⟩
theorem Yw{l:J aa}:∀{ws:J aA},eU F (l.map .int) ws->IntsAre ws l:=by
 induction l with
 |nil=>exact λy=>y.HP▸ .nil
 |cons a l ih=>intro ws y;cases y with|cons a1 z=>exact a1.e λt=>.cons _ _ (ih z)
theorem ints_of{l:J H}(y:eU F (fJ l) ws):IntsAre ws (l.map λ(n:H)=>(n:aa)):=Yw (F:=F) (by rw[n9];exact y)
theorem av7{l:J H}{ws:cT aA}{A:cQ}(hh:A.handled=ao)(h:k (.d (.bytes l)) Z.o)(hl:∀n∈l,n<256)(hz:l.length<=1048576)(at_:At f Y G Z r s F)(g:s.heap.get? a=N (iG ws m))(y:eU F (fJ l) ws.toList):
  av (aP f.prog f.w) A (fF (.type "bytes") [.ref a]) (ig f Y G Z k r s F) E s:=by
 have hi:=ints_of y;refine aZ<|call_bytes_ints (vs:=ws.toList) ⟨_,g,rfl,_,rfl⟩ hi (λn hn=>?_) (by have:=y.length;simp[fJ]at this;simp;unfold gX;omega) hh λh' t tk gC=>?_
 ·obtain⟨j,hj,rfl⟩:=qA.mp hn;have:=hl j hj;omega
 ·obtain⟨a',t'⟩:=at_.ext (t:=tk) gC;refine⟨.d (.bytes l),Z,r,F,⟨rfl,h⟩,.d ?_,a',t'⟩;have e:(byteArr (l.map λ(n:H)=>(n:aa))).toList.map iX=l:=by
   unfold byteArr;have:(l.map λ(n:H)=>(n:aa)).map (λn=>n.toNat.toUInt8)=l.map Bl:=by rw[n9];congr 1
   show(((l.map λ(n:H)=>(n:aa)).map λn=>n.toNat.toUInt8)).map iX=l
   rw[this];exact og hl
  have:=DR.bytes (F:=F) (b:=byteArr (l.map λ(n:H)=>(n:aa))) (t:=t) (by rw[byteArr_size];simpa using hz)
  rw[e]at this
  exact this
noncomputable def Iw(v:aA):aD:=match v with| .bool b=>b|X=>ak
theorem bd1{ws:J aA}(h:HL ds k)(z:eU F ds ws):k (ws.any Iw)/\∀w∈ws,∃b,w=.bool b:=by
 induction z generalizing k with
 |nil=>exact⟨h,λX m=>nomatch m⟩
 |@cons d X I u2 a z ih=>
  induction d using Wm.D.casesOn with
  |bool q=>have g:=ih (k:=λq'=>k (q||q')) h;exact a.e ⟨g.1,gv.mpr ⟨⟨q,rfl⟩,g.2⟩⟩
  |_=>exact h.elim
theorem bd2{A:cQ}(hh:A.handled=ao)(h:HL ds λq=>k (.d (.bool q)) Z.o)(at_:At f Y G Z r s F){ws:cT aA}(e:F l=N (iG ws m))(z:eU F ds ws.toList):
  av (aP f.prog f.w) A (fF (.builtin "any") [.ref l]) (ig f Y G Z k r s F) E s:=by
 have g:=at_.mt.sub _ _ e;obtain⟨h1,h2⟩:=bd1 h z;have il:s.heap.IsList l ws:=⟨_,g,rfl,_,rfl⟩;refine aZ<|call_any_walk (XH il ⟨s.heap.objs.size,_,_,_,_,_,λi=>Iw (ws.getD i .none),rfl,am7 (prog:=f.prog) (w:=f.w) (A:=A.in1) hh s.heap.objs.size l (sq (kI g)) ws,⟨⟨_,lY _ rfl,rfl,rfl⟩,il.push _⟩,?_,λh' tk gC=>?_⟩)
 ·intro i v s' Q' E' hv hQ;have hm:v∈ws.toList:=by rw[Kp];exact Array.mem_of_getElem? hv
  obtain⟨b,rfl⟩:=h2 v hm;have e3:Iw (ws.getD i .none)=b:=by rw[ao4,hv];rfl
  exact PySem.wpAny_truthy_bool (e3▸hQ)
 ·have bd3:∀b o,s.heap.get? b=N o->h'.get? b=N o:=λb o e=>gC b o (by simp;exact sq (kI e)) (ko _ e)
  obtain⟨a',t'⟩:=at_.ext (t:=tk) bd3;have e2:(kJ ws.size).any (λi=>Iw (ws.getD i .none))=ws.toList.any Iw:=by
   rw[PW,wD,wD];constructor
   ·rintro⟨i,hi,q⟩
    have hi:=Bf.mp hi;rw[ao4,Kn hi]at q
    exact⟨ws[i],by simp,q⟩
   ·rintro⟨x,hx,q⟩
    obtain⟨i,hi,rfl⟩:=cx4.mp (Kp.mp hx);exact⟨i,Bf.mpr hi,by rw[ao4,Kn hi];exact q⟩
  exact⟨.d (.bool _),Z,r,F,⟨rfl,e2▸h1⟩,.d .bool,a',t'⟩
end
end Wm
section
namespace Wl
variable{prog:iU}{w:bU}{A:cQ}{E:aA->aE->Prop}{s:aE}
theorem bd4:ue (.type "bytes") "__bytes__"=pure (N (.builtin "bytes.__bytes__")):=by rw[uf,ug];kernel_rfl
theorem bd5(hQ:Q (.bytes b t) s):codeAny (aP prog w) A (.call (.builtin "bytes.__new__") ⟨[.type "bytes",.bytes b t],[]⟩) (wants Q E) s:=by
 refine codeAny_of_tree ?_
 show wpAny _ A.in1 (do Dy "bytes.__new__" ⟨[.type "bytes",.bytes b t],[]⟩;sj (.builtin "bytes.__new__" ⟨[.type "bytes",.bytes b t],[]⟩)) _ _ s
 refine wpAny_bind (wpAny_of_eq (cy2 _) (wpAny_pure ⟨Bk XW _,cy3 cy4 ?_⟩));rw[KG XW _];unfold gW.«bytes.__new__»;refine wpAny_bind (wpAny_of_eq (a:=true) rfl ?_);refine Gj rfl ?_;refine wpAny_bind (wpAny_of_eq cy5 ?_);refine Gj rfl ?_;refine wpAny_bind (wpAny_of_eq (cy6 _) ?_);refine wpAny_bind (wpAny_of_eq (a:=()) rfl ?_);refine wpAny_bind (wpAny_of_eq (a:=()) rfl ?_);refine Gj rfl ?_;refine wpAny_bind (wpAny_of_eq (XQ bd4) ?_);refine wpAny_bind (wpAny_rule ?_);refine wpAny_bind (Gb (Dr s b t) ?_);refine ao5 rfl ?_;exact wpAny_pure hQ
theorem bd6(hQ:Q (.bytes b t) s):wpAny (aP prog w) A (fF (.type "bytes") [.bytes b t]) Q E s:=by refine ao6 (Q₁:=λobj aF=>aF.TypeIs obj "bytes" /\Q obj aF) KI (cy7 _) cy8 (bd5 ⟨Dr _ _ _,hQ⟩) λobj aF h₁=>?_;exact⟨h₁.1,cy9 obj _,cz0 KI.init.lookup KI.made (by decide) prog w A.in1 _ aF ⟨h₁.1,rfl,h₁.2⟩⟩
theorem bd7:ue (.type "bytearray") "__bytes__"=pure ao:=by rw[uf,ug];kernel_rfl
theorem bd8:ue (.type "bytearray") "__index__"=pure ao:=by rw[uf,ug];kernel_rfl
theorem Cr{name id:jZ}(hl:s.heap.get? l=N (Wm.jY b))(S:ue (.type "bytearray") (name:ai)=pure (N (.builtin id)))(he:(!id.endsWith ("." ++name))=ak)(hd:id.dropRight (name.length+1)= "bytearray")(h:Q ah s):
  wpAny M A (XS (.ref l) name) Q E s:=by
 unfold XS;refine wpAny_bind (sC ⟨_,hl,rfl⟩ S ?_);dsimp only;rw[he,cF rm,hd];unfold KH;exact wpAny_bind (Gb ⟨_,hl,rfl⟩ (wpAny_of_eq Wm.Iq h))
theorem TN{M:jP}{l:aR}{b:cT iW}{id:jZ}{full:aD}{Q:bq (cT iW)->aE->Prop}(hl:s.heap.get? l=N (Wm.jY b))(h:Q (N b) s):wpAny M A (Bm id (.ref l) full) Q E s:=by
 unfold Bm;refine wpAny_bind (sC ⟨_,hl,rfl⟩ Wm.xx ?_);dsimp only;refine wpAny_bind (Cr hl Wm.xx (by decide+kernel) (by decide+kernel) ?_)
 rw[cF (by decide)]
 refine wpAny_bind (sC ⟨_,hl,rfl⟩ Wm.xx ?_)
 show wpAny M A (Qm (.ref l)>>=_) Q E s
 unfold Qm;refine wpAny_bind (wpAny_bind (Cr hl Wm.TM (by decide+kernel) (by decide+kernel) (wpAny_pure ?_)))
 rw[cF (by decide)]
 refine wpAny_bind ?_;unfold Ql an8;refine wpAny_bind (wpAny_bind (zH hl ?_));exact wpAny_pure (wpAny_pure (wpAny_pure h))
theorem bd9{l:aR}{b:cT iW}{Q:aA->aE->Prop}(hl:s.heap.get? l=N (Wm.jY b))(hz:b.size<=1048576)(hQ:Q (.bytes b s.toks) {s with toks:=s.toks+1}):codeAny (aP prog w) A (.call (.builtin "bytes.__new__") ⟨[.type "bytes",.ref l],[]⟩) (wants Q E) s:=by
 refine codeAny_of_tree ?_
 show wpAny _ A.in1 (do Dy "bytes.__new__" ⟨[.type "bytes",.ref l],[]⟩;sj (.builtin "bytes.__new__" ⟨[.type "bytes",.ref l],[]⟩)) _ _ s
 refine wpAny_bind (wpAny_of_eq (cy2 _) (wpAny_pure ⟨Bk XW _,cy3 cy4 ?_⟩));rw[KG XW _];have hT:s.TypeIs (.ref l) "bytearray":=⟨_,hl,rfl⟩;unfold gW.«bytes.__new__»;refine wpAny_bind (wpAny_of_eq (a:=true) rfl ?_);refine Gj rfl ?_;refine wpAny_bind (wpAny_of_eq cy5 ?_);refine Gj rfl ?_;refine wpAny_bind (wpAny_of_eq (cy6 _) ?_);refine wpAny_bind (wpAny_of_eq (a:=()) rfl ?_);refine wpAny_bind (wpAny_of_eq (a:=()) rfl ?_);refine Gj rfl ?_;refine wpAny_bind (sC hT bd7 ?_);refine wpAny_bind (wpAny_bind ?_)
 show wpAny _ _ (F1 l>>=_) _ _ _
 refine wpAny_bind (zH hl ?_);refine wpAny_pure (wpAny_pure ?_);refine Gj rfl ?_;refine wpAny_bind (sC hT bd8 ?_);refine ao5 rfl ?_
 first
  |show wpAny _ _ (Bm "bytes.__new__" (.ref l) ah>>=_) _ _ _
  |(refine wpAny_bind ?_;show wpAny _ _ (Bm "bytes.__new__" (.ref l) ah>>=_) _ _ _)
 refine wpAny_bind (TN hl ?_);refine wpAny_bind (wpAny_rule ?_);refine wpAny_bind ?_;refine wpAny_mkBytes ?_ (show b.size<=gX by unfold gX;omega)
 refine ao5 rfl ?_
 first|exact wpAny_pure hQ|exact wpAny_pure (wpAny_pure hQ)|exact wpAny_bind (wpAny_pure (wpAny_pure hQ))|exact wpAny_bind (wpAny_pure (wpAny_pure (wpAny_pure hQ)))
theorem be0{b:cT iW}(hl:s.heap.get? l=N (Wm.jY b))(hz:b.size<=1048576)(hQ:Q (.bytes b s.toks) {s with toks:=s.toks+1}):wpAny (aP prog w) A (fF (.type "bytes") [.ref l]) Q E s:=by refine ao6 (Q₁:=λobj aF=>aF.TypeIs obj "bytes" /\Q obj aF) KI (cy7 _) cy8 (bd9 hl hz ⟨Dr _ _ _,hQ⟩) λobj aF h₁=>?_;exact⟨h₁.1,cy9 obj _,cz0 KI.init.lookup KI.made (by decide) prog w A.in1 _ aF ⟨h₁.1,rfl,h₁.2⟩⟩
end Wl
namespace Wm
variable{f:Cf}{Y:J (ai×cJ)}{n:H}{Z:St}{e:aT}{G:cL}{r:bP}{s:aE}{F:bN}
theorem be1{A:cQ}{E:aA->aE->Prop}(hh:A.handled=ao)(h:QM v Z.o λl=>k (.d (.bytes l)) Z.o)(at_:At f Y G Z r s F)(y:VR f.w r F v u):
  av (aP f.prog f.w) A (fF (.type "bytes") [u]) (ig f Y G Z k r s F) E s:=by
 have lst:∀{a:aR}{ws:cT aA}{m:H}{ds:J D},s.heap.get? a=N (iG ws m)->eU F ds ws.toList->ds.length<=1048576->MC ds (λl=>k (.d (.bytes l)) Z.o)->av (aP f.prog f.w) A (fF (.type "bytes") [.ref a]) (ig f Y G Z k r s F) E s:=by
  rintro a ws m ds g y hl ⟨l,rfl,h1,h2⟩
  exact av7 hh h2 h1 (by unfold fJ at hl;rw[cO]at hl;exact hl) at_ g y
 induction v with
 |d x=>
  refine y.e λu y=>?_;induction x using Wm.D.casesOn with
  |bytes l=>exact y.e λb t e hb=>aZ (Wl.bd6 ⟨_,Z,r,F,⟨rfl,h⟩,.d (e▸ .bytes hb),at_,.refl ..⟩)
  |list ds=>exact y.e λl ws m e z zl=>lst (at_.mt.sub _ _ e) z zl h
  |_=>exact h.elim
 |ref i=>
  refine y.e λp e1=>o8 h λo q h=>?_;have ob:=at_.obj e1 q;induction o with
  |ba l=>
   obtain⟨b,g,rfl,hl⟩:=ob;have hb:b.size<=1048576:=by rw[cO,oY]at hl;exact hl
   exact aZ (Wl.be0 g hb ⟨_,Z,r,F,⟨rfl,h⟩,.d (.bytes hb),at_.tok _,.tok ..⟩)
  |dl ds=>obtain⟨ws,m,g,z,l⟩:=ob;exact lst g z l h
  |_=>exact h.elim
 |_=>exact h.elim
end Wm
end
namespace Wm
section
variable{f:Cf}{Y:J (ai×cJ)}{n:H}{Z:St}{e:aT}{G:cL}{r:bP}{s:aE}{F:bN}
theorem be2:∃(d:aR->aD->dJ C8)(g:aR->J (bq aA)->dJ C8)(h:aR->aD->dJ C8)(e:aR->rq->dJ C8),∀l:aR,
  gW.«bytearray.__init__» ⟨[.ref l],[]⟩=(Qm (.ref l)>>=d l)/\d l ak=(cG3 "bytearray.__init__" "bytearray" ["source","encoding","errors"] [] []>>=g l)/\
  g l [ao,ao,ao]=((XJ (.ref l)<||>(do return (<-an5 (.ref l))>0))>>=h l)/\h l ak=(XM (.ref l) (λX=>#[])>>=e l)/\e l ()=pure (.done (.ret .none)):=
 ⟨_,_,_,_,λl=>⟨rfl,rfl,rfl,rfl,rfl⟩⟩
theorem be3(hl:s.heap.get? l=N (jY #[]))(h:Q (.done (.ret .none)) {s with heap:=s.heap.update l (wG λX=>#[])}):av M A (gW.«bytearray.__init__» ⟨[.ref l],[]⟩) Q E s:=by
 refine be2.elim λd q=>q.elim λg q=>q.elim λk q=>q.elim λe q=>(q l).1.symm▸aJ (aJ (Cr hl TM (by decide+kernel) (by decide+kernel) (bg ?_)))
 refine(q l).2.1.symm▸aJ (iY (a:=[ao,ao,ao]) (by kernel_rfl) ((q l).2.2.1.symm▸aJ (aJ (mM ?_))))
 refine aJ (aJ (aZ<|zH hl (bg (bg ?_))));exact(q l).2.2.2.1.symm▸aJ (Nu hl (qw _) ((q l).2.2.2.2.symm▸bg h))
theorem be4:("bytearray.__new__".splitOn ".__new__").headD ""= "bytearray":=by simp+decide [cz1,cz2]
theorem be5:qC nK "bytearray.__new__"=N gW.«list.__new__»:=entryFor_alias (id':= "list.__new__") (by kernel_rfl) (by first|rfl|decide+kernel|(unfold cz1;simp+decide [cz2])) (by decide+kernel) (by kernel_rfl)
theorem oP:mroOf (.type "bytearray")=pure [.type "bytearray",.type "object"]:=by rw[mroOf_type];kernel_rfl
theorem be6:ue (.type "bytearray") "__new__"=pure (N (.builtin "bytearray.__new__")):=by rw[uf,ug];kernel_rfl
theorem oT:ue (.type "bytearray") "__init__"=pure (N (.builtin "bytearray.__init__")):=by rw[uf,ug];kernel_rfl
theorem be7:Bind.madeBy (.type "bytearray")=pure (N "bytearray.__new__"):=madeBy_type oP be6 (by decide+kernel)
theorem be8:qC nK "bytearray.__init__"=N gW.«bytearray.__init__»:=KD (by kernel_rfl)
theorem be9:Dy "bytearray.__new__" ⟨[.type "bytearray"],[]⟩=pure ():=by kernel_rfl
theorem bf0:checkTypeCall "bytearray" ⟨[],[]⟩=pure ():=by kernel_rfl
theorem bf1(a:aA):wF "bytearray.__init__" ⟨[a],[]⟩:=by unfold wF;rw[an1 (id:= "bytearray.__init__") (n:=['_','_','t','i','n','i','_','_']) (o:=['y','a','r','r','a','e','t','y','b']) (by kernel_rfl) Fb.TA];kernel_rfl
theorem o0:KA "bytearray" "__init__" "bytearray.__init__":=
 .of (owner:= "bytearray") (n:= "__init__") oT (by decide+kernel) (by decide+kernel) (by decide+kernel)
  (by first|exact .inl (by decide+kernel)|exact .inr (by decide+kernel)) Iq
theorem bf2{prog:iU}{w:bU}{A:cQ}{E:aA->aE->Prop}
  (h:Q₁ (.ref s.heap.objs.size) {s with heap:=s.heap.push {cls:=.type "bytearray",data:=.bytearray #[]}}):
  co4 (aP prog w) A (.call (.builtin "bytearray.__new__") ⟨[.type "bytearray"],[]⟩) (wants Q₁ E) s:=by
 refine PySem.codeAny_of_tree ?_
 show De _ A.in1 (do Dy "bytearray.__new__" ⟨[.type "bytearray"],[]⟩;sj (.builtin "bytearray.__new__" ⟨[.type "bytearray"],[]⟩)) _ _ s
 refine ud (cz3 be9 (P8 ⟨Bk (by decide+kernel) _,PySem.codeAny_builtin_stack be5 rfl λp Z=>?_⟩))
 rw[KG (by decide+kernel) _]
 have Sx:=Iq;have MY:=be4;obtain⟨hp,g,d,tk,os⟩:=s;simp only[MY]
 wp_walk
 exact h
theorem bf3{A:cQ}(h:∀h':dH,(∀b o,s.heap.get? b=N o->h'.get? b=N o)->h'.get? s.heap.objs.size=N (jY #[])->R (.ok (.ret (.ref s.heap.objs.size))) {s with heap:=h'}):
  av (aP prog w) A.in1 (gW.«type.__call__» ⟨[.type "bytearray"],[]⟩) (λcH s'=>match cH with| .done f=>R (.ok f) s'| .again c'=>(c'.quiet=ah/\free c'=ah)/\eG (aP prog w) A c' R s') (λe s'=>R (.error e) s') s:=by
 have hT:∀h':dH,h'.get? s.heap.objs.size=N (jY #[])->({s with heap:=h'}:aE).TypeIs (.ref s.heap.objs.size) "bytearray":=λh' e=>⟨_,e,rfl⟩
 have hx:(s.heap.push (jY #[])).get? s.heap.objs.size=N (jY #[]):=lY _ rfl;have gC:∀b o,s.heap.get? b=N o->(s.heap.push (jY #[])).get? b=N o:=λb o e=>ko _ e;unfold gW.«type.__call__»;dsimp only;rw[cF (show¬((Bg "bytearray" ==Bg "type")=ah) by decide)]
 rw[cF (by decide+kernel)]
 refine aJ (iY bf0 ?_);refine aJ (iY oP ?_);rw[cF (by decide)]
 refine aJ (iY be7 ?_);dsimp only;refine aJ (bg (aJ (iP (Br (RE (PySem.codeAny_mono (bf2 (E:=λX I=>bV) (Q₁:=λu s'=>u=.ref s.heap.objs.size/\s'={s with heap:=s.heap.push (jY #[])}) ⟨rfl,rfl⟩) ?_))))))
 intro r s' q;induction r with
 |error e=>exact q.elim
 |ok fl=>
  induction fl with
  |ret u=>
   obtain⟨rfl,rfl⟩:=q;dsimp only;refine aJ ?_;unfold KH;refine aJ (aZ<|Gb (hT _ hx) (iY Iq ?_));rw[cF (by decide)]
   refine aJ (iP ?_);unfold callSpecial?;refine aJ (aZ<|sC (hT _ hx) oT ?_);dsimp only;refine iP (aJ (iY (o0.bind _) ?_));dsimp only;refine aJ (Ip o0 (hT _ hx) be8 (bf1 _) (by decide+kernel) (be3 hx ?_))
   refine bg ?_;dsimp only;rw[cF (by decide)]
   refine bg (h _ (λb o e=>?_) ?_)
   ·have ne:b≠s.heap.objs.size:=sq (kI e);rw[Heap.get?_update_ne _ _ _ _ ne];exact gC b o e
   ·exact Bh _ hx rfl
  |_=>exact q.elim
theorem bf4(T:jZ)(args:J aA)(kw:J (ai×aA)):(Dz "type.__call__" ⟨.type T::args,kw⟩).weight=0:=rfl
theorem bf5{prog:iU}{w:bU}{A:cQ}{R:nM->aE->Prop}{id:jZ}{B:gW}{args:Args}(h1:(Dz id args).weight=0)(h2:(Dz id args).cUnits=1)(JZ:qC nK id=N B)
  (h:av (aP prog w) A.in1 (B args) (λcH s'=>match cH with| .done f=>R (.ok f) s'| .again c'=>(c'.quiet=ah/\free c'=ah)/\eG (aP prog w) A c' R s') (λe s'=>R (.error e) s') s):eG (aP prog w) A (.builtin id args) R s:=by
 refine m_ ?_;rw[Around.under_plain h1 h2]
 show av _ A.in1 (match qC nK id with|some b=>b args|none=>zE ((Qk id "#data").getD id)) _ _ s
 rw[JZ];exact h
theorem bf6{k:V->J O->Prop}{A:cQ}{E:aA->aE->Prop}(h:k (.ref (Wm.len Z.o)) (Z.o++[.ba []]))(at_:At f Y G Z r s F):
  av (aP f.prog f.w) A (fF (.type "bytearray") []) (ig f Y G Z k r s F) E s:=by
 refine Br (m_ ?_)
 show av _ _ (callAny (.type "bytearray") _) _ _ _
 refine bg (ry ⟨cx9 _ (by decide+kernel),Ir (by decide+kernel)⟩ (bf5 (bf4 "bytearray" [] []) rfl PySem.F.entry_type_call ?_))
 refine bf3 (R:=λkc s'=>match kc with| .ok (.ret v)=>ig f Y G Z k r s F v s'| .ok X=>bV| .error e=>E e s') λh' gC hD=>?_
 refine b_ (at_.oI (t:=s.toks) (x:=.ba []) gC (o9 _) rfl ⟨#[],hD,rfl,by simp⟩) λr' hx=>?_
 have v:=hx.1;have a':=hx.2.1;have t':=hx.2.2;exact⟨_,⟨Z.m,Z.o++[.ba []]⟩,r',F,⟨rfl,h⟩,v,a',t'⟩
end
end Wm
section
namespace Wl
section
variable{prog:iU}{w:bU}{A:cQ}{E:aA->aE->Prop}{s:aE}{b:cT iW}{t:H}
theorem bf7(h:Q ak s):De (aP prog w) A (cz4 (.bytes b t)) Q E s:=by
 unfold cz4;refine ud (PySem.wpAny_specialOf (T:= "bytes") (v:=.bytes b t) rfl ao3.lookup ?_)
 wp_delta
 refine ud (PySem.wpAny_isInstance (T:= "bytes") (v:=.bytes b t) (b:=true) rfl (by rw[KC];kernel_rfl) ?_)
 show De _ A (XI (cw8 b t)>>=_) _ _ _
 refine ud (cz5 (T:= "bytes") (v:=.bytes b t) rfl ?_);exact P8 h
theorem bf8{Q:aA->aE->Prop}(hh:A.handled=ao)(hn:b.size<=gX)
  (hQ:∀h' tk ET c',(∀a o,s.heap.get? a=N o->h'.get? a=N o)->h'.get? s.heap.objs.size=N {cls:=.type "list",dict:=none,data:=.seq ET c',slots:=#[]}->ItemsOf (λi v=>∃c u,b[i]?=N c/\v=.int (c.toNat:aa) u) ET b.size->Q (.ref s.heap.objs.size) {s with heap:=h',toks:=tk}):
  De (aP prog w) A (fF (.type "list") [.bytes b t]) Q E s:=by
 refine ao6 (Q₁:=λobj aF=>obj=.ref s.heap.objs.size/\aF={s with heap:=s.heap.push {cls:=.type "list",data:=.seq #[]}}) PySem.F.called_list (PySem.F.typeCall_list_1 _) PySem.F.entry_list_init
  (code_list_new _ ⟨rfl,rfl⟩) λobj aF h₁=>?_
 obtain⟨rfl,rfl⟩:=h₁;have hS:(s.heap.push {cls:=.type "list",data:=.seq #[]}).get? s.heap.objs.size=N {cls:=.type "list",data:=.seq #[]}:=lY _ rfl;refine⟨⟨_,hS,rfl⟩,PySem.F.args_list_init_2 _ _,?_⟩;generalize hH:s.heap.push {cls:=.type "list",data:=.seq #[]}=eE at hS|-
 have hHs:eE.objs.size=s.heap.objs.size+1:=by rw[<-hH,J1]
 show De _ _ (do let wj<-cz6 (.ref s.heap.objs.size);cG4 (.ref s.heap.objs.size) (λX=>#[]);letGo wj.toList.reverse;ao7 (.ref s.heap.objs.size) (.bytes b t) .none) _ _ _
 refine ud ?_;unfold cz6;refine ud (PySem.wpAny_seqItems hS rfl (P8 ?_))
 show De _ _ (updateSeq s.heap.objs.size (λX=>#[])>>=λX=>letGo (#[]:cT aA).toList.reverse>>=λX=>ao7 (.ref s.heap.objs.size) (.bytes b t) .none) _ _ _
 refine ud (PySem.wpAny_updateSeq hS rfl ?_);have TU:=Bh (sG (λX=>(#[]:cT aA))) hS rfl;refine ud (PySem.wpAny_letGo ?_);have S:∀a o,s.heap.get? a=N o->(eE.update s.heap.objs.size (sG (λX=>(#[]:cT aA)))).get? a=N o:=λa o e=>(ao0 _ _ (Kv (kI e))).trans (hH▸ko _ e)
 generalize hG:eE.update s.heap.objs.size (sG (λX=>(#[]:cT aA)))=b4 at TU S|-
 have TV:s.heap.objs.size<b4.objs.size:=kI TU;unfold ao7;refine ud (cz5 (T:= "bytes") (v:=.bytes b t) rfl ?_);have h1:cG5 (.ref s.heap.objs.size) (.bytes b t)=ak:=rfl;have h2:(Bg "bytes" ==Bg "list")=ak:=by decide
 have h3:(Bg "bytes" ==Bg "tuple")=ak:=by decide
 simp only[h1,h2,h3,aj5,ak2,PR];refine ud (cv5 ?_);refine ud (cr9 (bf7 ?_));rw[cF (by decide)]
 have hSf:s.heap.objs.size∉[b4.objs.size]:=λhm=>by rw[fN.mp hm]at TV;exact vg _ TV
 refine P8 ⟨Bk PySem.F.plain_extend_loop _,codeAny_extend_loopS (cv4 (prog:=prog) (w:=w) (A:=A.in1.in1) hh b4.objs.size b t).toS hn _ hSf _ b.size 0 _ #[] _ rfl (qw _) ⟨_,lY _ rfl,rfl,rfl⟩ (ko _ TU) (ItemsOf.nil _) λs' ET c' hm hS' bf9=>?_⟩;rw[Moved.eq_with hm];refine⟨rfl,hQ _ _ ET c' (λa o e=>hm.heap a o (λbg0=>?_) (ko _ (S a o e))) hS' bf9⟩;have nB:=kI e;rcases iV.mp bg0 with h|h
 ·exact absurd nB (h▸vg _)
 ·rw[fN.mp h]at nB;exact absurd nB (vj.mpr (mX TV))
end
end Wl
namespace Wm
variable{f:Cf}{Y:J (ai×cJ)}{n:H}{Z:St}{e:aT}{G:cL}{r:bP}{s:aE}{F:bN}
theorem eU.pt{F:bN}{ds:J D}:∀{ws:J aA},ds.length=ws.length->(∀(i:H) v,ws[i]?=N v->∃d,ds[i]?=N d/\DR F d v)->eU F ds ws:=by
 induction ds with
 |nil=>exact λ{ws} h g=>by cases ws with|nil=>exact .nil|cons _ _=>cases h
 |cons d ds ih=>
  intro ws h g;cases ws with
  |nil=>cases h
  |cons v ws=>exact .cons ((g 0 v rfl).elim λd' e=>fU e.1▸e.2) (ih (zJ h) λi u e=>g (i+1) u e)
theorem bg1{A:cQ}{E:aA->aE->Prop}(hh:A.handled=ao)(h:HK v Z.o λds=>dh lv (k (.ref (Wm.len Z.o)) (Z.o++[.dl ds])) (k (.d (.list ds)) Z.o))(at_:At f Y G Z r s F)(y:VR f.w r F v u):
  av (aP f.prog f.w) A (fF (.type "list") [u]) (ig f Y G Z k r s F) E s:=
 vO h (λX h=>jD y h λx y h=>Z6 y h λb t h hb=>by
  refine aZ<|Wl.bf8 hh (bR hb (by unfold gX;decide)) λh' tk ET c' gC hD hi=>?_
  have len:(fJ (b.toList.map iX)).length=b.size:=by unfold fJ;rw[cO,cO,oY]
  exact TS h at_ gC hD (eU.pt (by rw[show ET.toList.length=b.size from hi.1,len]) λi v e=>by
   obtain⟨c,u,e2,rfl⟩:=hi.2 i v (by rw[<-rA];exact e)
   refine⟨.int (c.toNat:aa),?_,.int⟩;unfold fJ;rw[mC,mC,rA,e2];rfl) (len▸hb)) λX h=>bc8 h at_ y
end Wm
end
namespace Wm
section
variable{f:Cf}{Y:J (ai×cJ)}{n:H}{Z:St}{e:aT}{G:cL}{r:bP}{s:aE}{F:bN}
theorem av8{l:J aa}(h:IntsAre ws l):eU F (l.map .int) ws:=by
 induction h with
 |nil=>exact .nil
 |cons X I u2 ih=>exact .cons .int ih
theorem bg2{ds:J D}(h:∃l:J aa,(ds=l.map .int/\l.length<64)/\∀l':J aa,l'.Perm l->l'.Pairwise (·<=·)->k (.d (.list (l'.map .int))) Z.o)(at_:At f Y G Z r s F){ws:cT aA}(g:F a=N (iG ws m))(y:eU F ds ws.toList)(hl:ds.length<=1048576):
  av (aP f.prog f.w) A (fF (.builtin "sorted") [.ref a]) (ig f Y G Z k r s F) E s:=by
 obtain⟨l,⟨rfl,h64⟩,S⟩:=h;have sz:ws.toList.length=l.length:=y.length.symm.trans (cO _);refine aZ<|sorted_ints (vs:=ws.toList) (ns:=l) ⟨_,at_.mt.sub _ _ g,rfl,m,rfl⟩ (Yw y) (by rw[sz];exact h64) λFY ja h1 h2 h3=>?_
 refine b_ (sortedAll_at s.heap ws.toList FY) λc hx=>?_;have hc:=hx;have gC:∀b o,s.heap.get? b=N o->(sortedAll s.heap ws.toList FY).get? b=N o:=λb o e=>sortedAll_old e;have fr:s.heap.get? (s.heap.objs.size+1)=ao:=by
  cases q:s.heap.get? (s.heap.objs.size+1)with
  |none=>rfl
  |some o=>exact absurd (kI q) (vj.mpr (Bj _))
 refine b_ (at_.oC (t:=s.toks) gC fr hc) λF' hx=>?_;have e:=hx.1;have sl:=hx.2.1;have a':=hx.2.2.1;have t':=hx.2.2.2;exact⟨_,Z,r,F',⟨rfl,S ja h2 h3⟩,.d (.list (n:=c) e (av8 h1) (by rw[cO,h2.length_eq,<-cO (f:=D.int)];exact hl)),a',t'⟩
noncomputable def Ct:Bi->ai
 | .len=>az [108,101,110]
 | .tuple=>az [116,117,112,108,101]
 | .list=>az [108,105,115,116]
 | .bytes=>az [98,121,116,101,115]
 | .min=>az [109,105,110]
 | .any=>az [97,110,121]
 | .sorted=>az [115,111,114,116,101,100]
 | .ord=>az [111,114,100]
 | .chr=>az [99,104,114]
 | .bytearray=>az [98,121,116,101,97,114,114,97,121]
noncomputable def EU:Bi->aA
 | .len=>.builtin "len"
 | .tuple=>.type "tuple"
 | .list=>.type "list"
 | .bytes=>.type "bytes"
 | .min=>.builtin "min"
 | .any=>.builtin "any"
 | .sorted=>.builtin "sorted"
 | .ord=>.builtin "ord"
 | .chr=>.builtin "chr"
 | .bytearray=>.type "bytearray"
theorem bg3{A:cQ}(hh:A.handled=ao)(h:MG b lv vs Z.o k)(at_:At f Y G Z r s F)(y:gh f.w r F vs ws):
  av (aP f.prog f.w) A (fF (EU b) ws) (ig f Y G Z k r s F) E s:=by
 induction b with
 |len=>exact qS y h λv u y h=>bc5 h at_ y
 |tuple=>exact qS y h λv u y h=>bc7 h at_ y
 |list=>exact qS y h λv u y h=>bg1 hh h at_ y
 |bytes=>exact qS y h λv u y h=>be1 hh h at_ y
 |min=>exact Sv y h λv u v' u' y y' h=>jX y h λi t h=>jX y' h λj t' h=>bc6 hh h at_
 |any=>exact qS y h λv u y h=>jD y h λx y h=>Sq y h λds l ws n h e z X=>bd2 hh h at_ e z
 |sorted=>exact qS y h λv u y h=>jD y h λx y h=>Sq y h λds l ws n h e z zl=>bg2 h at_ e z zl
 |ord=>exact qS y h λv u y h=>jD y h λx y h=>Ex y h λx t h=>bc9 h at_
 |chr=>exact qS y h λv u y h=>jX y h λi t h=>bd0 h at_
 |bytearray=>exact Z8 y h λh=>bf6 h at_
theorem bg4(b:Bi):Xj (EU b)=pure .machine:=by cases b<;>rfl
theorem bg5(h:qT f Y n args Z λvs b3=>MG b lv vs b3.o λv o=>Q v ⟨b3.m,o⟩)
  (hg:f.g (Ct b)=N (EU b))(S:cG (Ct b) Y=N .globalImplicit)(hp:rS args=ah):WE f Y n (.Call (.Name (Ct b) fp) args [] pos) Z Q:=λA s F G E r o i at_=>by
 refine KR (Gq (M0 hg S i at_ ?_) (by cases b<;>decide))
 show av _ A (vn pos (EU b) [] (n8 pos (lQ args G)) []) _ E s
 exact TQ (bg4 b) h hp o i at_ λvs ws b3 iB iH cj dw gU e_ c9=>ig.out c9 (bg3 o.hd dw e_ gU)
inductive Iz(F:bN):D×D->aA×aA->Prop
 |mk {x y kv vv}:DR F x kv->DR F y vv->Iz F (x,y) (kv,vv)
abbrev IA(f:Cf)(Y:J (ai×cJ))(n:H)(ks:J (bq aT))(vs:J aT)(pos:gq):=WX f Y (λr F=>L2 (Iz F)) n (λG=>Gl (pairTrees ks vs G pos))
theorem bg6
  (h:av M A k (λkv aF=>av M A v (λvv cj=>av M A (Gl dg) (λvs dU=>Q ((kv,vv)::vs) dU) E cj) E aF) E s):av M A (Gl ((k,v)::dg)) Q E s:=by
 rw[Gl];exact dR h λkv aF h₁=>lI h₁ λvv cj dw=>lI dw λvs dU ku=>bg ku
theorem bg7{Py:J (dJ aA×dJ aA)}(h:av M A (Gl Py) Q E s):av M A (Gl Py) (λvs s'=>vs.length=Py.length/\Q vs s') E s:=
 λΓ p gY hc=>wp_evalPairs_len _ Γ Py _ _ p s (h Γ p gY hc)
theorem bg8(h:Q [] Z):IA f Y n [] [] pos Z Q:=λA s F G E r o i a=>iY (show Gl []=pure []from rfl) (.oE a .nil h)
theorem bg9(h:WE f Y n k Z λa aI=>WE f Y n v aI λb b3=>iS a λx=>iS b λy=>dh (yC x) (IA f Y n ks vs pos b3 λes iI=>Q ((x,y)::es) iI) bV):IA f Y n (N k::ks) (v::vs) pos Z Q:=λA s F G E r o i a=>by refine bg6 (Ie h o i a λx kx aI bY cz aF h₁ cX b7 b8=>aJ (Ie h₁ o i b7 λb vb b3 iB iH cj dw gU e_ c9=>aJ (qE (bg ?_))));refine jD cX dw λx cX dw=>jD gU dw λy gU dw=>WX.run (l9 dw).2 o i e_ λes ws iI i8 i9 dU ku qU jo gx=>?_;exact⟨_,iI,i8,i9,ku,.cons (.mk (cX.mono (c9.grow.trans gx.grow)) (gU.mono gx.grow)) qU,jo,b8.trans (c9.trans gx)⟩
theorem bh0{κ:Type}[Kq κ]{i:κ}{lk:J (κ×D)->bq D}(l1:∀x a r,lk ((x,a)::r)=if i=x then N a else lk r){l:J (κ×D)}:lk l=ao->i∉l.map (·.1):=by
 induction l with
 |nil=>exact λX=>vt
 |cons p l ih=>
  intro h;rw[l1]at h
  have q:i≠p.1:=λe=>by rw[dP e]at h;cases h
  rw[cF q]at h
  exact λm=>(iV.mp m).elim q (ih h)
structure Yx{prog:iU}{w:bU}{κ:Type}[Kq κ](knd:XE prog w κ)(F:bN)(ws:J (aA×aA))(es:J (κ×D))(pn:J (κ×aA)):Prop where
 nd:(pn.map (·.1)).Nodup
 e:pn.map (·.1)=es.map (·.1)
 c:Carries knd ws pn
 p:∀ds:J jN,Pairs knd ds pn->(∀e∈ds,∃k,knd.is k e.key=ah/\e.hash=knd.hash k)->L2 (KE knd.is knd.hash F) es ds
theorem bh1{α:Type}{o:bq α}{P:Prop}(h:ZK o P):o=ao/\P:=by
 induction o with
 |none=>exact⟨rfl,h⟩
 |some X=>exact h.elim
theorem o3{prog:iU}{w:bU}{κ:Type}[Kq κ]{knd:XE prog w κ}{a:D->(κ->Prop)->Prop}{lk:κ->J (κ×D)->bq D}(l1:∀i x a r,lk i ((x,a)::r)=if i=x then N a else lk i r)(ha:∀{x kv}{k:κ->Prop},DR F x kv->a x k->∃i,knd.is i kv=ah/\k i){l ws}(z:L2 (Iz F) l ws):
  ∀{k},ME a lk l k->∃es pn,k es/\Yx knd F ws es pn:=by
 induction z with
 |nil=>exact λh=>⟨[],[],h,.nil,rfl,cH2,λds p X=>by cases p;exact .nil⟩
 |cons q z ih=>
  intro k h;cases q with|mk dx dy=>
  obtain⟨i,hi,h⟩:=ha dx h;obtain⟨es,pn,h,g⟩:=ih h;have h:=bh1 h;refine⟨_,(i,_)::pn,h.2,oX.mpr ⟨λm=>bh0 (l1 i) h.1 (g.e▸m),g.nd⟩,bQ (i::·) g.e,⟨hi,rfl,g.c⟩,λds p S=>?_⟩;cases p with|@cons e kv es pn p1 p2 p3=>
  obtain⟨k,e1,e2⟩:=S e (.head _);have e2:e.hash=knd.hash i:=e2.trans (bQ _ (knd.inj _ _ _ e1 p1));obtain⟨hh,kk,vv⟩:=e;cases e2;cases p2;exact .cons (.mk p1 dy) (g.p _ p3 λe m=>S e (.tail _ m))
inductive ph(f:Cf)(r:bP)(F:bN)(d:aR)(Q:V->Prop)(ws:J (aA×aA)):Prop
 |mk {κ:Type} [i:Kq κ] (knd:XE f.prog f.w κ) (v:V) (es:J (κ×D)) (pn):Q v->Yx knd F ws es pn->(∀{F':bN}{pj n},F' d=N (mY pj n)->L2 (KE knd.is knd.hash F') es pj->VR f.w r F' v (.ref d))->ph f r F d Q ws
theorem bh2{es ws}(h:MF es Q)(z:L2 (Iz F) es ws)(ne:(d==xX)=ak):ph f r F d Q ws:=by
 cases z with
 |nil=>exact h.elim
 |cons a z=>
  have z:=L2.cons a z;cases a with|@mk x=>
  induction x using Wm.D.casesOn with
  |int i=>
   refine b_ (o3 (knd:=F9 f.prog f.w) (a:=iD) (k:=λl=>Q (.nN l)) ew (λ{X I k} d h=>by exact Z5 (k:=k) d h λi t h=>⟨i,QN i t,h⟩) z h) λes hx=>?_
   refine b_ hx λpn hx=>?_;have h:=hx.1;have g:=hx.2;exact⟨_,_,es,pn,h,g,λe z=>.nN e z ne⟩
  |str i=>
   refine b_ (o3 (knd:=F_ f.prog f.w) (a:=sD) (k:=λl=>Q (.uq l)) tF (λ{X I k} d h=>by exact Ex (k:=k) d h λi t h=>⟨i,S2 i t,h⟩) z h) λes hx=>?_
   refine b_ hx λpn hx=>?_;have h:=hx.1;have g:=hx.2;exact⟨_,_,es,pn,h,g,λe z=>.uq e z ne⟩
  |_=>exact h.elim
theorem bh3(m:l_ f r s F L):(s.heap.objs.size==xX)=ak:=by refine b_ (f.sm) λa hx=>?_;refine b_ hx λo hx=>?_;have h1:=hx.1;have h2:=hx.2;have:=kI (m.stays a o h2);have:xX<s.heap.objs.size:=mD h1 this;exact Kf (Kv this)
theorem bh4{ks:J (bq aT)}{vs:J aT}(h:IA f Y n ks vs pos Z λes aI=>MF es λv=>Q v aI)(pu:ks.all (·.isSome)=ah)(hl:ks.length=vs.length)(h0:ks≠[])(se:ks.length<=15):
  WE f Y n (.Dict ks vs pos) Z Q:=λA s F G E r o i a=>by
 have hn:=pairTrees_length ks vs G pos pu hl;have Iv:pairTrees ks vs G pos≠[]:=λe=>by rw[e]at hn;exact h0 (Xy.mp hn.symm)
 show av _ A (cM (.Dict ks vs pos) G) _ E s
 rw[arm_eval_Dict,zip_pairTrees ks vs G pos pu hl,dictDisplay_pairs _ Iv (by lia)]
 refine aJ (qE (aJ ?_));unfold subDict;refine aJ (aZ<|wpAny_alloc ?_);refine aJ (iP ?_);rw[dP (by lia)]
 have gC:∀b y,s.heap.get? b=N y->(s.heap.push {cls:=.type "dict",data:=.dict #[]}).get? b=N y:=λb o e=>ko _ e;have hD:(s.heap.push {cls:=.type "dict",data:=.dict #[]}).get? s.heap.objs.size=N (mY [] 0):=lY _ rfl;refine kK λGx gI=>?_;obtain⟨bh5,ah9⟩:=a.ext (t:=s.toks) gC;refine gI ?_;have bh6:=iQ.fresh a.mt (o9 s.heap);refine aJ (gG (bg7 (WX.run h o i bh5 (P:=λws aF=>∃es aI bY cz,MF es (λv=>Q v aI)/\L2 (Iz cz) es ws/\At f Y G aI bY aF cz/\Go G Z aI r bY {s with heap:=s.heap.push {cls:=.type "dict",data:=.dict #[]}} aF F cz) λes ws aI bY cz aF h₁ cX b7 b8=>⟨es,aI,bY,cz,h₁,cX,b7,b8⟩)) (λws aF p=>?_) λX I z=>z)
 refine kK λGx gI=>?_;obtain⟨wl,es,aI,bY,cz,h₁,cX,b7,b8⟩:=p;obtain⟨TX,bh7⟩:=bh6.step (s:={s with heap:=s.heap.push {cls:=.type "dict",data:=.dict #[]}}) hD b8
 refine gI ?_;obtain⟨knd,v,es,pn,hq,kp,hv⟩:=bh2 (f:=f) (r:=bY) (d:=s.heap.objs.size) h₁ cX (bh3 a.mt);have dn:aF.heap.DictOf knd s.heap.objs.size []:=⟨_,_,_,bh7,⟨rfl,rfl,rfl⟩,rfl,λe he=>(vt (Kp.mpr he)).elim,.nil,List.nodup_nil⟩;refine iP (aJ (aZ<|wpAny_storeAll (knd:=knd) ws pn [] aF _ kp.c dn (by rw[sizeLine_eq,Dv,kp.c.length];lia) λh' hm hs=>?_))
 refine bg (bg (bg ?_));rw[merged_nil_of_nodup _ kp.nd]at hm
 refine kK λGx gI=>?_;obtain⟨ob,ds,ep,g1,⟨g2,g3,g4⟩,g5,g6,g7,g8⟩:=hm;obtain⟨oc,od,odt,osl⟩:=ob;refine gI ?_;dsimp only at g2 g3 g4 g5
 subst g2 g3 g4 g5;have sb:∀b y,b≠s.heap.objs.size->aF.heap.get? b=N y->h'.get? b=N y:=λb y q e=>hs.extBut b y q e;have e_:=b7.hole (t:=aF.toks+ws.length) TX.fr TX.ow sb;have c9:Go G Z aI r bY s {aF with heap:=h',toks:=aF.toks+ws.length} F cz:=(ah9.trans b8).hole (o9 _) sb
 obtain⟨F',e1,e2,_,m2,t3⟩:=e_.mt.Nf c9 TX g1 (o9 _);exact⟨v,aI,bY,F',hq,hv e1 ((kp.p ds.toList g7 λe he=>g6 e (Kp.mp he)).imp λX I=>KE.mono e2),⟨b7.len,b7.fk,m2⟩,t3⟩
theorem bh8(h:g9 (.d x) o=N vs):∃ds,x=.list ds/\vs=ds.map .d:=by
 induction x using Wm.D.casesOn with
 |list ds=>exact⟨ds,rfl,(fU h).symm⟩
 |_=>exact nomatch h
theorem bh9(h:g9 (.ref i) o=N vs):∃y,gw i o=N y/\(∀{w r F hp p},OR w r F hp p y->∃xs m,hp.get? p.1=N (iG xs m)/\gh w r F vs xs.toList):=by
 have h:(match gw i o with|some y=>(match y with| .dl ds=>N (ds.map V.d)| .vl vs=>N vs|X=>ao)|none=>ao)=N vs:=h
 cases q:gw i o with
 |none=>rw[q]at h;cases h
 |some y=>
  rw[q]at h
  refine⟨y,rfl,?_⟩;induction y with
  |dl ds=>exact λg=>g.elim λws g=>g.elim λm g=>⟨ws,m,g.1,fU h▸L2.ofD g.2.1⟩
  |vl ds=>exact λg=>g.elim λws g=>g.elim λm g=>⟨ws,m,g.1,fU h▸g.2.1⟩
  |_=>exact nomatch h
theorem yM(h:g9 v Z.o=N vs)(a:At f Y G Z r s F)(y:VR f.w r F v u):∃l xs m,u=.ref l/\s.heap.get? l=N (iG xs m)/\gh f.w r F vs xs.toList:=by
 induction v with
 |d x=>obtain⟨ds,e,e2⟩:=bh8 h;subst e e2;exact y.e λu y=>y.e λl ws m e z zl=>⟨l,ws,m,rfl,a.mt.sub _ _ e,z.ofD⟩
 |ref i=>exact(bh9 h).elim λo g=>y.e λp e1=>(g.2 (a.obj e1 g.1)).elim λxs g=>g.elim λm g=>⟨p.1,xs,m,rfl,g⟩
 |_=>exact nomatch h
structure vX(z l1 l2:aR)(j:H)(h:dH):Prop where
 o:IsZip h (z+4) (z+2) (z+3) .none
 p:IsPair h (z+2) (.ref z) (.ref (z+1))
 q:∃a b,IsPair h (z+3) a b
 a:h.IsListIter z l1 j
 b:h.IsListIter (z+1) l2 j
def zP(z:aR)(b:aR):Prop:=b=z\/b=z+1\/b=z+2\/b=z+3\/b=z+4
theorem zp:zP z (z+4)/\zP z (z+3)/\zP z z/\zP z (z+1)/\zP z (z+2):=⟨.inr (.inr (.inr (.inr rfl))),.inr (.inr (.inr (.inl rfl))),.inl rfl,.inr (.inl rfl),.inr (.inr (.inl rfl))⟩
theorem pv(h:zP z b):z<=b:=h.elim (λe=>jm e.symm) λh=>h.elim (λe=>e▸gF ..) λh=>h.elim (λe=>e▸gF ..) λh=>h.elim (λe=>e▸gF ..) λe=>e▸gF ..
theorem vX.keep{h h':dH}(x:vX z l1 l2 j h)(k:∀b y,zP z b->h.get? b=N y->h'.get? b=N y):vX z l1 l2 j h':=
 ⟨k _ _ zp.1 x.o,k _ _ zp.2.2.2.2 x.p,x.q.elim λa q=>q.elim λb q=>⟨a,b,k _ _ zp.2.1 q⟩,x.a.at λo e=>k _ o zp.2.2.1 e,x.b.at λo e=>k _ o zp.2.2.2.1 e⟩
theorem vX.alive{h:dH}(x:vX z l1 l2 j h)(b:aR)(hb:zP z b):∃y,h.get? b=N y:=
 hb.elim (λe=>e▸x.a.elim λy h=>⟨y,h.1⟩) λhb=>hb.elim (λe=>e▸x.b.elim λy h=>⟨y,h.1⟩) λhb=>hb.elim (λe=>e▸⟨_,x.p⟩) λhb=>hb.elim (λe=>e▸x.q.elim λX q=>q.elim λX q=>⟨_,q⟩) λe=>e▸⟨_,x.o⟩
theorem py{vs ws:J V}{j:H}{v:V×V}(e:(vs.zip ws)[j]?=N v):vs[j]?=N v.1/\ws[j]?=N v.2:=P4.mp e
theorem bi0{A:cQ}{B:Bs}{x y:ai}{iJ:J aT}{kd:H}{tp:gq}{va vb:V}{vs ws:J V}{l1 l2 z:aR}(hh:A.handled=ao)(na:qV iJ [x,y])(i:g_ f Y G)(hz:B.s.heap.objs.size=z)(hZ:B.eF=zP z)(hl1:l1<z)(Nx:l2<z)(y1:VR f.w B.r B.F va (.ref l1))(y2:VR f.w B.r B.F vb (.ref l2)):
  Hd f Y G A B (zP z) (.ref (z+4)) (.Tuple iJ kd tp) (λp:V×V=>nv [x,y] [p.1,p.2]) (λo=>g9 va o=N vs/\g9 vb o=N ws) (vX z l1 l2) (vs.zip ws):=by
 have nz:∀{b},z<=b->B.s.heap.get? b=ao:=λ{b} hb=>by
  cases e:B.s.heap.get? b with
  |none=>rfl
  |some o'=>exact absurd (kI e) (vj.mpr (hz▸hb))
 have eY:B.vS:=λb hb X=>nz (pv (hZ▸hb));have zi:∀b,zP z b->B.eF b:=λb h=>hZ▸h;have Z:∀j,Cm B (zP z) (vX z l1 l2 j):=λj h h' x k=>x.keep λb y q=>k b y (.inl q);have DA:ZipApart (z+4) (z+2) (z+3) z (z+1) l1 l2:=ktu_apart z l1 l2 hl1 Nx;have FY:∀{h h':dH},(∀b y,b≠z+4->b≠z+3->b≠z->b≠z+1->h.get? b=N y->h'.get? b=N y)->nA (λb=>¬B.eF b) h h':=λk b y nb e=>by
  rw[hZ]at nb
  exact k b y (λe=>nb (e▸zp.1)) (λe=>nb (e▸zp.2.1)) (λe=>nb (e▸zp.2.2.1)) (λe=>nb (e▸zp.2.2.2.1)) e
 have pz:∀{h h':dH},nA (λb=>B.eF b/\¬zP z b) h h':=λb X h I=>absurd (hZ▸h.1) h.2;refine⟨zi,Z,λ{j v aI r F s k P E} e c hb L hP=>?_,λ{aI r F s P E} c L hP=>?_⟩
 ·refine kK λGx gI=>?_;obtain⟨f1,f2⟩:=py e;obtain⟨l1',xs,m1,e1,g1,v1⟩:=yM c.1 L.a (y1.mono L.t.fM L.t.grow);obtain⟨l2',ys,m2,e2,g2,v2⟩:=yM c.2 L.a (y2.mono L.t.fM L.t.grow);refine gI ?_;cases e1;cases e2;refine kK λGx gI=>?_;obtain⟨ua,ga,ya⟩:=v1.get f1;obtain⟨ub,gb,yb⟩:=v2.get f2;refine gI ?_;rw[rA]at ga gb
  clear f1 f2 v1 v2 c e;refine kK λGx gI=>?_;obtain⟨q1,q2,q3,q4,q5⟩:=L.j;obtain⟨qa,qb,q3⟩:=q3;refine gI ?_;refine aZ<|wpAny_pyNext_zip_item DA q1 q2 q3 q4 q5 ⟨_,g1,rfl,_,rfl⟩ ⟨_,g2,rfl,_,rfl⟩ ga gb λh' p1 p2 p3 p4 p5 p6 S=>?_;have p7:IsPair h' (z+2) (.ref z) (.ref (z+1)):=S _ _ DA.TIz DA.TITO DA.TIi1 DA.TIi2 q2;have k1:=FY S;clear q1 q2 q3 q4 q5 g1 g2 ga gb S;refine aZ<|wpAny_letOwnedTupleGo_zip p1 λEG p1' hs=>?_;have pS:∀b y,b≠z+4->h'.get? b=N y->EG.get? b=N y:=λb y q e=>hs.extBut b y q e;have TY:vX z l1 l2 (j+1) EG:=⟨p1',pS _ _ DA.TIz p7,⟨_,_,pS _ _ DA.TOz p2⟩,p3.at λo e=>pS _ o DA.i1z e,p4.at λo e=>pS _ o DA.i2z e⟩;have zsz:z<s.heap.objs.size:=(L.j.alive z zp.2.2.1).elim λX e=>kI e;have nT:∀b,zP z b->b≠s.heap.objs.size:=λb q e=>(L.j.alive b q).elim λX h=>absurd (kI h) (e▸vg _);have pT:EG.get? s.heap.objs.size=N (lJ #[ua,ub] 0):=pS _ _ (λe=>nT _ zp.1 e.symm) p5;have lX:=L.hole (tk:=s.toks) eY (λb y nb e=>pS b y (λq=>nb (zi b (q▸zp.1))) (k1 b y nb e)) (λb q=>TY.alive b (hZ▸q)) TY;refine kK λGx gI=>?_;obtain⟨i9,I,u2,u3,m3,gx⟩:=lX.a.mt.Nf lX.t (iQ.fresh L.a.mt (o9 _)) pT (nz (mX zsz));refine gI ?_;have iT:Lp f Y G B (vX z l1 l2 (j+1)) aI r i9 {s with heap:=EG}:=⟨⟨lX.a.len,lX.a.fk,m3⟩,gx,λb q=>⟨(u3 b (nT b (hZ▸q))).trans (L.p b q).fr,(L.p b q).ow⟩,lX.l,lX.g.trans u2,TY⟩
  exact Td hb na hh i iT.a (iT.a.mt.sub _ _ I) (.cons (ya.mono (.refl _) u2) (.cons (yb.mono (.refl _) u2) .nil)) λip nU s_ H9 AB=>hP ip i9 nU s_ u2 (iT.step zi (Z _) H9 AB) pz
 ·refine kK λGx gI=>?_;obtain⟨l1',xs,m1,e1,g1,v1⟩:=yM c.1 L.a (y1.mono L.t.fM L.t.grow);obtain⟨l2',ys,m2,e2,g2,v2⟩:=yM c.2 L.a (y2.mono L.t.fM L.t.grow);refine gI ?_;cases e1;cases e2;refine kK λGx gI=>?_;obtain⟨q1,q2,⟨qa,qb,q3⟩,q4,q5⟩:=L.j;refine gI ?_;have none_of:∀{us:J V}{zs:cT aA},gh f.w r F us zs.toList->us.length<=(vs.zip ws).length->zs[(vs.zip ws).length]?=ao:=λv h=>cz7 (by rw[<-oY,<-v.length];exact h)
  refine aZ<|wpAny_pyNext_zip_end hh DA q1 q2 q3 q4 q5 ⟨_,g1,rfl,_,rfl⟩ ⟨_,g2,rfl,_,rfl⟩ ?_ λh' S=>hP {s with heap:=h'} (L.a.vR (t:=s.toks) L.p (FY S)) (L.t.vR (t:=s.toks) eY (FY S)) pz
  have e:(vs.zip ws).length=min vs.length ws.length:=am6 ..;rcases cz8 vs.length ws.length with h|h
  ·exact .inl (none_of v1 (by rw[e,Qo h];exact jO _))
  ·exact .inr (none_of v2 (by rw[e,Qp h];exact jO _))
theorem AE{a b a' b':Prop}(h:dh q a b)(f:a->a')(g:b->b'):dh q a' b':=by cases q;exact g h;exact f h
theorem bi1{x:ai}{v:V}{m:Fm}:∀{k k':Fm->Prop},HO x v m k->(∀m,k m->k' m)->HO x v m k':=by
 induction m with
 |nil=>exact λh X=>h
 |cons p r ih=>exact λh g=>AE (q:=jd x p.1) h (λh=>by
  obtain⟨y,s⟩:=p;induction s with
  |L X=>exact g _ h
  |C X=>exact h) λh=>ih h λX h=>g _ h
theorem xy{α:Type}{o:bq α}{P Q:α->Prop}(h:jK o P)(k:∀g,P g->Q g):jK o Q:=by
 induction o with
 |none=>exact h
 |some g=>exact k g h
theorem IB{x:ai}{v:V}{Z:St}{k k':St->Prop}(h:kZ x v Z k)(g:∀Z,k Z->k' Z):kZ x v Z k':=by
 refine xy h λs h=>?_;induction s with
 |L X=>exact bi1 h λX h=>g _ h
 |C c=>
  refine xy (o:=gw c Z.o) h λy h=>?_;induction y with
  |cell X=>exact g _ h
  |_=>exact h.elim
theorem Ny:∀{vs:J V}{Z:St}{k k':St->Prop},nv xs vs Z k->(∀Z,k Z->k' Z)->nv xs vs Z k':=by
 induction xs with
 |nil=>
  intro vs;induction vs using eT with
  |nil=>exact λh g=>g _ h
  |cons X I=>exact λh X=>h
 |cons x xs ih=>
  intro vs;induction vs using eT with
  |nil=>exact λh X=>h
  |cons v vs=>exact λh g=>IB (show kZ x v _ _ from h) λZ h=>ih (vs:=vs) h g
theorem TZ{α:Type}{l:J α}{j:H}{a:α}(h:l[j]?=N a):l.drop j=a::l.drop (j+1):=by have g:=vq.mp h;exact g.2▸cv6 g.1
def EV(f:Cf)(Y:J (ai×cJ))(n:H)(fg:J ai)(x y:ai)(fS:H)(va vb:V)(vs ws:J V)(body:J eg)(Q:dZ->St->Prop)(j:H)(Z:St):Prop:=
 (g9 va Z.o=N vs/\g9 vb Z.o=N ws)/\yD fg x y fS (λo=>g9 va o=N vs/\g9 vb o=N ws) (λZ k=>WS f Y n body Z k) (vs.drop j) (ws.drop j) Z Q
section
variable{fg:J ai}{x y:ai}{fS:H}{va vb:V}{vs ws:J V}{body:J eg}{Q:dZ->St->Prop}
theorem EV.end_(h:EV f Y n fg x y fS va vb vs ws body Q (vs.zip ws).length Z):Q .next Z:=by
 have e:(vs.zip ws).length=min vs.length ws.length:=am6 ..;have h:=h.2
 revert h
 rcases cz8 vs.length ws.length with l|l
 ·rw[e,Qo l,Ky];exact λh=>h
 ·rw[e,Qp l,Ky];cases vs.drop ws.length<;>exact λh=>h
theorem EV.item{v:V×V}(e:(vs.zip ws)[j]?=N v)(h:EV f Y n fg x y fS va vb vs ws body Q j Z):nv [x,y] [v.1,v.2] Z λb9=>WS f Y n body b9 (zW fg fS (EV f Y n fg x y fS va vb vs ws body Q (j+1)) Q):=by
 obtain⟨f1,f2⟩:=py e;have h:=h.2;rw[TZ f1,TZ f2]at h
 refine Ny (show nv [x,y] [v.1,v.2] Z _ from h) λb9 h=>h.mono λfl b3 h=>?_
 induction fl with
 |next=>exact h
 |_=>exact h.elim
end
theorem bi2(e:gw g o=N (.cell ov)):g9 v (eO (.cell ao) g o)=g9 v o:=by
 induction v with
 |ref h=>
  have hl:g<o.length:=by rw[rQ]at e;exact(vq.mp e).1
  show(match gw h (eO (.cell ao) g o)with|some y=>(match y with| .dl ds=>N (ds.map V.d)| .vl vs=>N vs|X=>ao)|none=>ao)=(match gw h o with|some y=>(match y with| .dl ds=>N (ds.map V.d)| .vl vs=>N vs|X=>ao)|none=>ao)
  by_cases q:g=h
  ·subst q;rw[e,rQ,yH,List.getElem?_set_self hl]
  ·rw[rQ,yH,cq2 q,rQ]
 |d x=>cases x<;>rfl
 |_=>rfl
theorem pE{fg:J ai}:g9 v (qR fg l o)=g9 v o:=by
 induction l generalizing o with
 |nil=>rfl
 |cons p l ih=>
  obtain⟨y,sl⟩:=p;induction sl with
  |L ov=>exact ih
  |C h=>
   have go:∀b z,gw h o=z->g9 v (match b with|true=>(match z with|some (.cell X)=>qR fg l (eO (.cell ao) h o)|X=>qR fg l o)|false=>qR fg l o:J O)=g9 v o:=λb z q=>by
    induction b with
    |false=>exact ih
    |true=>induction z with
     |none=>exact ih
     |some z=>induction z with
      |cell ov=>exact ih.trans (bi2 q)
      |_=>exact ih
   exact go _ _ rfl
def EW:ai:=az [122,105,112]
theorem bi3{fg:J ai}{x y:ai}{iJ:J aT}{kd:H}{tp fp cp pos:gq}{ae be:aT}{body:J eg}{Q:dZ->St->Prop}(h:WE f Y n ae Z λva aI=>WE f Y n be aI λvb b3=>jK (g9 va b3.o) λvs=>jK (g9 vb b3.o) λws=>yD fg x y (Wm.len b3.o) (λo=>g9 va o=N vs/\g9 vb o=N ws) (λZ k=>WS f Y n body Z k) vs ws (j9 fg b3) Q)(na:qV iJ [x,y])(hg:f.g EW=N (.type "zip"))(S:cG EW Y=N .globalImplicit)(hp:rS [ae,be]=ah):W1 f Y n (.For (.Tuple iJ kd tp) (.Call (.Name EW fp) [ae,be] [] cp) body [] pos) Z Q:=λA s F G E r o i a=>by
 refine Yq (KR (Gq (M0 hg S i a ?_) (by decide))) (λx=>rfl)
 have qr:qT f Y n [ae,be] Z λvs b3=>Es vs λva vb=>jK (g9 va b3.o) λvs=>jK (g9 vb b3.o) λws=>yD fg x y (Wm.len b3.o) (λo=>g9 va o=N vs/\g9 vb o=N ws) (λZ k=>WS f Y n body Z k) vs ws (j9 fg b3) Q:=S3 (h.mono λva aI h=>S3 (h.mono λvb b3 h=>eI h) (Cp (Cp hp).2).1) (Cp hp).1
 show av _ A (vn cp (.type "zip") [] (n8 cp (lQ [ae,be] G)) []) _ E s
 refine TQ rfl qr hp o i a λus zs aI bY cz aF h₁ cX b7 b8=>?_;refine Sv cX h₁ λva ua vb ub ya yb h₁=>nX h₁ λvs c1 h₁=>nX h₁ λws c2 h₁=>?_;clear h qr;refine kK λGx gI=>?_;obtain⟨l1,xs,m1,e1,g1,v1⟩:=yM c1 b7 ya;obtain⟨l2,ys,m2,e2,g2,v2⟩:=yM c2 b7 yb;refine gI ?_;subst e1 e2;refine aZ<|call_zip_2 ⟨_,g1,rfl,_,rfl⟩ ⟨_,g2,rfl,_,rfl⟩ λh' hz rf rg rh rk hsz S=>aZ<|wpAny_pyIter_zip hz ?_;have zs:vX aF.heap.objs.size l1 l2 0 h':=⟨hz,rf,⟨_,_,rg⟩,rh,rk⟩;clear hz rf rg rh rk;refine kK λGx gI=>?_;obtain⟨e_,c9⟩:=b7.ext (t:=aF.toks) S;refine gI ?_;have e5:own (eS G (j9 fg aI) bY)=own (eS G aI bY):=b7.SN
 have L:Lp f Y G ⟨bY,aF,cz,own (eS G aI bY),zP aF.heap.objs.size,λX=>ao⟩ (vX aF.heap.objs.size l1 l2 0) (j9 fg aI) bY cz {aF with heap:=h'}:=
  ⟨e_.forget,c9.weak (.refl _) (λX z=>z) λb hb=>.inl (e5▸hb),λb q=>by
   have ap:iQ b cz (own (eS G aI bY)):=iQ.fresh b7.mt (by
    cases e:aF.heap.get? b with
    |none=>rfl
    |some o'=>exact absurd (kI e) (vj.mpr (pv q)))
   exact⟨ap.fr,e5▸ap.ow⟩,zs.alive,(λX I z=>nomatch z:iF (λX=>ao) cz),zs⟩
 exact hU (fg:=fg) (Φ:=EV f Y n fg x y (Wm.len aI.o) va vb vs ws body Q) (bi0 o.hd na i rfl rfl (kI g1) (kI g2) ya yb) b7.EI o i (λZ h=>⟨h.1,h.end_⟩) (λj v Z e h=>⟨h.1,h.item e⟩)
  (λfl b9 r' F' u s' q y a' t'=>⟨fl,b9,r',F',q,y,a',b8.trans t'⟩) (vs.zip ws).length 0 _ bY cz _ (mW _) ⟨⟨pE.trans c1,pE.trans c2⟩,h₁⟩ L
theorem bi4{A:cQ}{B:Bs}(hh:A.handled=ao)(i:g_ f Y G)(zI:B.eF bG)(eY:B.vS)(y0:VR f.w B.r B.F va (.ref l)):
  Hd f Y G A B (·=bG) (.ref bG) (.Name x px) (jL [x] ah) (λo=>g9 va o=N vs) (λj h=>h.IsListIter bG l j) vs:=by
 have zi:∀b,b=bG->B.eF b:=λb e=>e▸zI;have Z:∀j,Cm B (·=bG) (λh=>h.IsListIter bG l j):=λj h h' hs k=>hs.at λo e=>k bG o (.inl rfl) e;refine⟨zi,Z,λ{j v aI r F s k P E} e c hb L hP=>?_,λ{aI r F s P E} c L hP=>?_⟩
 ·obtain⟨l',xs,m,e1,g,v1⟩:=yM c L.a (y0.mono L.t.fM L.t.grow);cases e1;obtain⟨u,gu,yu⟩:=v1.get e;rw[rA]at gu
  refine aZ<|wpAny_pyNext_list_item L.j ⟨_,g,rfl,_,rfl⟩ gu λh' vf hsb=>?_;have k:nA (λb=>b≠bG) s.heap h':=λb y q e=>hsb.extBut b y q e;have uN:=L.hole (S':=λh=>h.IsListIter bG l (j+1)) (tk:=s.toks) eY (λb y z e=>k b y (λq=>z (zi b q)) e) (λb z=>by
   by_cases q:b=bG
   ·exact q▸vf.elim λy h=>⟨y,h.1⟩
   ·exact(L.l b z).elim λy e=>⟨y,k b y q e⟩) vf
  refine iY (aR6 rfl) ?_;exact hM hb hh i uN.a yu .one λb9 s' h a t=>hP b9 F s' h t.grow (uN.step zi (Z _) a t) λb y z e=>uN.kept t b y z.1 (k b y z.2 e)
 ·obtain⟨l',xs,m,e1,g,v1⟩:=yM c L.a (y0.mono L.t.fM L.t.grow);cases e1;refine aZ<|wpAny_pyNext_list_end hh L.j ⟨_,g,rfl,_,rfl⟩ (cz7 (jm (oY.symm.trans v1.length.symm))) λh' S=>?_;have k:nA (λb=>b≠bG) s.heap h':=λb y q e=>S b y q e;have k2:nA (λb=>¬B.eF b) s.heap h':=λb y z e=>k b y (λq=>z (zi b q)) e;exact hP {s with heap:=h'} (L.a.vR (t:=s.toks) L.p k2) (L.t.vR (t:=s.toks) eY k2) λb y z e=>k b y z.2 e
def yN(f:Cf)(Y:J (ai×cJ))(n:H)(x:ai)(m:Fm)(va:V)(vs:J V)(aY:aT)(K:J V->J O->Prop)(j:H)(us:J V)(o:J O):Prop:=
 g9 va o=N vs/\B6 x m (λo=>g9 va o=N vs) (λZ k=>WE f Y n aY Z k) (vs.drop j) o λvs o=>K (us++vs) o
theorem yN.item{x:ai}{m:Fm}{va v:V}{vs us:J V}{aY:aT}{K:J V->J O->Prop}{j:H}{o:J O}(e:vs[j]?=N v)(h:yN f Y n x m va vs aY K j us o):
  jL [x] ah v ⟨m,o⟩ λZ=>mL f Y n [] Z λq Z=>dh q (WE f Y n aY Z λu Z=>yN f Y n x m va vs aY K (j+1) (us++[u]) (nt (Wm.len o) u ⟨m,Z.o⟩).o) (yN f Y n x m va vs aY K (j+1) us (jJ (Wm.len o) ⟨m,Z.o⟩).o):=by
 have h:=h.2;rw[TZ e]at h
 have e9:∀u:V,(λEX qi=>K (us++[u]++EX) qi)=λEX qi=>K (us++u::EX) qi:=λu=>by funext EX qi;rw[jx];rfl
 have g:∀(Z:St)(u:V),(uH u λw=>lV (nt (Wm.len o) w ⟨m,Z.o⟩).o λo=>g9 va o=N vs/\B6 x m (λo=>g9 va o=N vs) (λZ k=>WE f Y n aY Z k) (vs.drop (j+1)) o λEX o=>K (us++w::EX) o)->yN f Y n x m va vs aY K (j+1) (us++[u]) (nt (Wm.len o) u ⟨m,Z.o⟩).o:=λZ u h=>by
  unfold yN;rw[e9];rw[w9,o5]at h
  exact h
 exact IB (show kZ x v ⟨m,o⟩ _ from h) λb9 h=>hY (Q:=λq Z=>dh q (WE f Y n aY Z λu Z=>yN f Y n x m va vs aY K (j+1) (us++[u]) (nt (Wm.len o) u ⟨m,Z.o⟩).o) (yN f Y n x m va vs aY K (j+1) us (jJ (Wm.len o) ⟨m,Z.o⟩).o)) (WX.mono h λu Z h=>g Z u h)
theorem bi5{scope:ly}(jV:j_ Z.m cs=ah)(h:WE f Y n dY Z λva aI=>jK (g9 va aI.o) λvs=>dh (j_ aI.m cs) (nJ (Wm.len vs) 1000=ah/\B6 x (mH [x]++jC aI.m cs) (λo=>g9 va o=N vs) (λZ k=>WE f (jt Y scope.names) n aY Z k) vs aI.o λvs o=>iC lv vs o λv o=>Q v ⟨aI.m,o⟩) bV)(sc:vV Y cs [x] scope)(hs:∀x G,pO dY G x=pure x):WE f Y n (.ListComp aY [⟨.Name x px,dY,[],0⟩] scope pos) Z Q:=λA s F G E r o i a=>by
 show av _ _ (cM (.ListComp aY [⟨.Name x px,dY,[],0⟩] scope pos) G) _ _ _
 rw[cv7];refine kK λGx gI=>?_;obtain⟨cl,Tu,Tv⟩:=kA sc jV a;refine gI ?_;refine Yr (use:=none) rfl (λx=>hs x G) Tu sc.kind sc.names (WX.run h o i a λva u aI bY cz aF h₁ cX b7 b8=>?_);refine nX h₁ λvs c1 h₁=>?_;refine kK λGx gI=>?_;obtain⟨Il,WW,h₁⟩:=l9 h₁;have WW:vs.length<=1000:=nc vs▸PZ WW;clear h;obtain⟨l,xs,mx,e,g1,v1⟩:=yM c1 b7 cX;refine gI ?_;subst e;refine aZ<|XH ⟨_,g1,rfl,_,rfl⟩ ?_;have vf:(aF.heap.push {cls:=.type "list_iterator",data:=.fields #[.ref l,.int 0 0]}).IsListIter aF.heap.objs.size l 0:=⟨_,lY _ rfl,rfl,rfl⟩;exact ke (lv:=lv) (Q:=Q) (tk:=aF.toks) (b4:=λX=>ao) (RR:=λacc C=>KU (aP f.prog f.w) A E ao (mh f Y (λr F=>VR f.w r F) G Z Q r s F) acc C) sc b7 (o9 _) (λb o e=>ko _ e) ⟨_,lY _ rfl⟩ (λX I z=>nomatch z) Tv Il
  (λD C dw yK eY c R hR=>im (B:=yJ bY aF cz aI.o aF.heap.objs.size D λX=>ao) (eF:=λX=>bV) (Φ:=yN f (jt Y scope.names) n x (mH [x]++jC aI.m cs) va vs aY λvs o=>iC lv vs o λv o=>Q v ⟨aI.m,o⟩) rfl rfl (bi4 o.hd (Ih i sc.kind) (.inl rfl) eY cX) eY (.inr rfl) yK (λX z=>z.elim) (To Il) o (Ih i sc.kind)
   (λus o h=>⟨h.1,by
    have h:=h.2;rw[Ky]at h
    exact j3 us▸h⟩) (λj v us o e h=>⟨h.1,h.item e⟩) (λus o' r' F' s' ys h1 h2 h3 h4 h5 h6 h7 X I u2=>hR us o' r' F' s' ys h1 h2 h3 h4 h5 h6 h7) vs.length 0 [] aI.o _ _ _ #[] (mW _) (by rw[Dv,mW];exact bR WW (by decide)) ⟨c1,h₁⟩ ⟨c.L.imp (vf.at λo e=>c.L.j _ _ e),c.v,c.d,c.k⟩)
  (λdw P' E' k hP=>aZ<|wpAny_pyIter_listiter (vf.at λo e=>k _ _ e) hP) λD C v b9 r' F' s' q y a' t' ap hn hC=>end_none D C v b9 r' F' s' q y a' ap hn λc9 k=>b8.trans ((t'.trans c9).hole hC k)
theorem bi6{α:Type}{fl:ai}{v v':α}{fs:J (ai×α)}:cG fl fs=N v->(pU fl v' fs).map (·.1)=fs.map (·.1):=by
 induction fs with
 |nil=>exact λh=>nomatch h
 |cons p fs ih=>exact λh=>Eu (v:=v') (P:=λl=>l.map (·.1)=p.1::fs.map (·.1)) (λX=>rfl) λq=>bQ (p.1::·) (ih ((yG q rfl).symm.trans h))
theorem mK.anew(g:∀u,VR w r F v u->VR w r F v' u)(z:mK w r F fs es):cG fl fs=N v->mK w r F (pU fl v' fs) es:=by
 induction z with
 |nil=>exact λh=>nomatch h
 |cons a z ih=>refine a.rec λ{x bi7 t hs u} a=>?_;exact Eu (P:=λl=>cG fl ((x,bi7)::_)=N v->mK w r F l (⟨hs,.str x t,u⟩::_)) (λq h=>.cons (.mk (g _ (fU ((Et q).symm.trans h)▸a))) z) λq h=>.cons (.mk a) (ih ((yG q rfl).symm.trans h))
@[elab_as_elim] theorem T3{P:V->Prop}{k:H->Prop}{a:V}(h:hO a k)(g:∀i,k i->P (.ref i)):P a:=by
 induction a with
 |ref i=>exact g _ h
 |_=>exact h.elim
theorem bi8{x:aT}{fl:ai}{Q:V->St->Prop}(h:WE f Y n x Z λv aI=>Sf fl v aI.o λo=>Q v ⟨aI.m,o⟩):WE f Y n x Z Q:=λA s F G E r o i a=>by
 refine WX.run h o i a λv u aI bY cz aF h₁ cX b7 b8=>?_;refine T3 (P:=λv=>Sf fl v aI.o (λo=>Q v ⟨aI.m,o⟩)->VR f.w bY cz v u->mh f Y (λr F=>VR f.w r F) G Z Q r s F u aF) (k:=λX=>oU) (a:=v) ?_ (λj X h₁ cX=>?_) h₁ cX
 ·induction v with
  |ref j=>trivial
  |_=>exact h₁.elim
 refine cX.e λp hp=>o8 h₁ λy e0 h₁=>?_
 revert e0
 refine Su h₁ λc0 fs0 h₁ e0=>nX h₁ λw Nz h₁=>?_
 revert Nz
 refine T3 h₁ λj' h₁ Nz=>?_;obtain⟨uj,yj⟩:∃uj,VR f.w bY cz (.ref j') uj:=(b7.obj hp e0).elim λes g=>g.elim λm g=>g.elim λsl g=>((g.2.2.1.get (x:=fl)).1 _ Nz).elim λu g=>⟨u,g.2⟩;obtain⟨x',o',F',dw,yd,e_,c9⟩:=b7.HW yj h₁;clear h₁ h e0 Nz;refine o8 dw λy e1 dw=>?_
 revert e1
 refine Su dw λc fs dw e1=>nX dw λw ef dw=>?_
 revert ef
 refine T3 dw λcD8 dw ef=>?_;obtain⟨hij,hq⟩:=l9 dw;rw[mV hij]at ef
 rw[o5]at hq
 obtain⟨es,m,sl,g1,g2,g3,g4,g5⟩:=e_.obj hp e1;have ek:(pU fl (.d x') fs).map (·.1)=fs.map (·.1):=bi6 ef;have g6:OR f.w bY F' aF.heap p (.inst c (pU fl (.d x') fs)):=⟨es,m,sl,g1,g2,mK.anew (v:=.ref j') (λu' y'=>by
  cases y' with|ref e4=>
  cases yj with|ref e5=>
  rw[e4]at e5;cases e5
  exact .d yd) g3 ef,ek▸g4,ek▸g5⟩
 have cg:=e_.chg (y:=.inst c (pU fl (.d x') fs)) (h':=aF.heap) (t:=aF.toks) hp e1 (.head _) rfl ⟨rfl,λX I=>rfl⟩ g6;exact⟨.ref j,_,bY,F',hq,.ref hp,cg.1,(b8.trans c9).trans cg.2⟩
end
abbrev Nm:=J (ai×cJ)
noncomputable def k6:aD->aD
 |true=>ak
 |false=>ah
noncomputable def bz(a b:aD):aD:=match a with
 |true=>b
 |false=>ak
theorem rl:bz a b=ah↔a=ah/\b=ah:=by cases a<;>simp[bz]
theorem ck(h:bz a b=ah):a=ah:=(rl.mp h).1
theorem bf(h:bz a b=ah):b=ah:=(rl.mp h).2
theorem yO:k6 a=ah↔a=ak:=by cases a<;>simp[k6]
noncomputable def kP{α:Type}(p:α->aD):J α->aD
 |[]=>ah
 |a::r=>bz (p a) (kP p r)
theorem lE{α:Type}{p:α->aD}:∀{l:J α},kP p l=ah->∀a∈l,p a=ah:=@λi_=>by
 induction i_ with
 |nil=>exact λX I h=>by cases h
 |cons b r ih=>
  intro h a m;rcases iV.mp m with rfl|m
  ·exact ck h
  ·exact ih (bf h) a m
def cD9(x:ai)(Y:Nm)(q:cJ->aD):aD:=match cG x Y with
 |some k=>q k
 |none=>ak
noncomputable def vB:cJ->H
 | .local=>0
 | .cell=>1
 | .free=>2
 | .globalExplicit=>3
 | .globalImplicit=>4
noncomputable def rn:H->cJ
 |0=>.local
 |1=>.cell
 |2=>.free
 |3=>.globalExplicit
 |X=>.globalImplicit
theorem NB(h:bX (vB a) (vB b)=ah):a=b:=by
 have e:∀k:cJ,rn (vB k)=k:=λk=>by cases k<;>rfl
 exact(e a).symm.trans ((bQ rn (mV h)).trans (e b))
def Cu(k:cJ)(x:ai)(Y:Nm):aD:=match cG x Y with
 |some j=>bX (vB j) (vB k)
 |none=>ak
theorem NC(h:Cu k x Y=ah):cG x Y=N k:=by
 unfold Cu at h
 cases q:cG x Y with
 |none=>rw[q]at h;cases h
 |some j=>rw[q]at h;rw[NB h]
abbrev EY:=Cu .globalImplicit
abbrev AF:=Cu .local
abbrev T4:=Cu .cell
theorem ND(h:EY x Y=ah):cG x Y=N .globalImplicit:=NC h
theorem T5(h:AF x Y=ah):cG x Y=N .local:=NC h
theorem ro(h:T4 x Y=ah):cG x Y=N .cell:=NC h
noncomputable def IC:ai:=az [95,95,100,101,98,117,103,95,95]
theorem bi9:MZ=IC:=by decide+kernel
theorem rp(h:k6 (jd x IC)=ah):(x==MZ)=ak:=by rw[bi9,<-Sl];exact yO.mp h
theorem Cv(h:jj a b=ah):a=ah\/b=ah:=by cases a;exact .inr h;exact .inl rfl
theorem T6:∀{l:J ai},qN x l=ah->x∈l:=@λi_=>by
 induction i_ with
 |nil=>exact λh=>by cases h
 |cons y r ih=>exact λh=>(Cv h).elim (λq=>by rw[rP q];exact .head _) λq=>.tail _ (ih q)
def T7(x:ai):Nm->aD
 |[]=>ak
 |p::r=>jj (bz (bX (vB p.2) 2) (jd x p.1)) (T7 x r)
theorem bj0:∀{l:Nm},T7 x l=ah->(x,Du)∈l:=@λi_=>by
 induction i_ with
 |nil=>exact λh=>by cases h
 |cons p r ih=>exact λh=>(Cv h).elim (λq=>by rw[<-show p.2=.free from NB (b:=.free) (ck q),rP (bf q)];exact .head _) λq=>.tail _ (ih q)
noncomputable def Cw(a b:aD):aD:=match a with
 |true=>b
 |false=>ah
theorem T8(h:Cw a b=ah)(q:a=ah):b=ah:=by subst q;exact h
noncomputable def Yy:ScopeKind->aD
 | .function=>ah
 |X=>ak
theorem bj1(h:Yy k=ah):k=.function:=by cases k<;>first|rfl|cases h
def NF(Y:Nm)(cs ts:J ai)(sc:ly):aD:=
 bz (kP (λy=>k6 (bX (vB y.2) 1)) sc.names) (bz (Yy sc.kind)
 (bz (kP (λy=>Cw (bX (vB y.2) 0) (AF y.1 sc.names)) sc.names)
 (bz (kP (λy=>Cw (bX (vB y.2) 2) (qN y.1 cs)) sc.names)
 (bz (kP (λx=>bz (T7 x sc.names) (T4 x (jt Y sc.names))) cs) (kP (λx=>AF x (jt Y sc.names)) ts)))))
theorem ID{Y:Nm}{cs ts:J ai}{sc:ly}(h:NF Y cs ts sc=ah):vV Y cs ts sc:=
 ⟨λy hy e=>by have:=yO.mp (lE (ck h) y hy);rw[e]at this;exact gr this,
  bj1 (ck (bf h)),
  λy hy e=>by rw[<-Au];exact T5 (T8 (lE (ck (bf (bf h))) y hy) (by rw[e];rfl)),
  λx hx=>T6 (T8 (lE (ck (bf (bf (bf h)))) _ hx) rfl),
  λx hx=>have q:=lE (ck (bf (bf (bf (bf h))))) x hx;⟨bj0 (ck q),ro (bf q)⟩,
  λx hx=>T5 (lE (bf (bf (bf (bf (bf h))))) x hx)⟩
def Cx(Y:Nm)(x:ai)(p vp:gq)(sc:ly):aD:=
 bz (AF x Y) (bz (bX p.line vp.line) (kP (λy=>k6 (bz (jd x y.1) (match y.2 with| .local=>ah| .cell=>ah|X=>ak))) sc.names))
def ch(x:aT):J aT:=(eP x).l
def rr(x:aT):J aT:=(eP x).ks
def kE(x:aT):H:=(eP x).n
def pq(x:aT):ly:=(eP x).s
def T9:J aT->H->aT
 |[],X=>uL
 |x::X,0=>x
 |X::r,n+1=>T9 r n
def cE(x:aT)(i:H):aT:=T9 (ch x) i
structure SP where
 e:J aT
 a:J eg
 b:J eg
def sP(s:eg):SP:=match s with
 | .Return v X=>⟨[v.getD uL],[],[]⟩
 | .Expr e X=>⟨[e],[],[]⟩
 | .Assign ts v X=>⟨v::ts,[],[]⟩
 | .AugAssign t X v I=>⟨[v,t],[],[]⟩
 | .If t a b u2=>⟨[t],a,b⟩
 | .For t i b I u2=>⟨[i,t],b,[]⟩
 | .While t b I u2=>⟨[t],b,[]⟩
 |X=>⟨[],[],[]⟩
def cS(s:eg)(i:H):aT:=T9 (sP s).e i
def AG(s:eg):J eg:=(sP s).a
def rv(s:eg):J eg:=(sP s).b
structure Bd where
 e:PE->aT->aT
 t:PE->aT->aT
 k:Nm->PE->aT->aD
 q:Nm->PE->aT->aD
def bL(g:PE->aT->aT):J PE->J aT->J aT
 |[],X=>[]
 |p::ps,l=>g p (l.headD uL)::bL g ps l.tail
def aL(g:PE->aT->aD):J PE->J aT->aD
 |[],X=>ah
 |p::ps,l=>bz (g p (l.headD uL)) (aL g ps l.tail)
noncomputable def bO(g:PE->aT->aT):bq PE->aT->bq aT
 |none,X=>ao
 |some p,x=>N (g p x)
noncomputable def aO(g:PE->aT->aD):bq PE->aT->aD
 |none,X=>ah
 |some p,x=>g p x
def Cy:J ai->J aT->J aT
 |[],X=>[]
 |x::xs,l=>.Name x (l.headD uL).pos::Cy xs l.tail
theorem IE:∀{xs:J ai}{l:J aT},qV (Cy xs l) xs
 |[],X=>.nil
 |X::I,u2=>.cons IE
def T_(ts:J ai)(one:aD)(x:aT):aT:=match one with
 |true=>.Name (ts.headD (az [])) x.pos
 |false=>.Tuple (Cy ts (ch x)) (kE x) x.pos
noncomputable def Ua{α:Type}:J α->aD
 |[X]=>ah
 |X=>ak
theorem Ub(h:Cw one (Ua ts)=ah):xo (T_ ts one x) ts one:=by
 induction one with
 |false=>exact .tup IE
 |true=>induction ts using eT with
  |nil=>cases h
  |cons a r=>induction r using eT with
   |nil=>exact .one
   |cons X I=>cases h
def Cz(b:Bd)(p:PE)(x:aT):aT:=match p with
 | .iz a=>.Call (.Name EH (cE x 0).pos) [b.e a (cE x 1)] [] x.pos
 |p=>b.e p x
def EZ(b:Bd)(Y:Nm)(p:PE)(x:aT):aD:=match p with
 | .iz a=>bz (EY EH Y) (b.k Y a (cE x 1))
 |p=>b.k Y p x
def CA(gn:J ai)(i:H):ai:=(uI gn i).getD (az [])
def bE(gn:J ai)(b:Bd)(p:PE)(x:aT):aT:=match p with
 | .cI i=>.Constant (.int i) (kE x) x.pos
 | .cS s=>.Constant (.str s) (kE x) x.pos
 | .cN=>.Constant .none (kE x) x.pos
 | .cB q=>.Constant (.bool q) (kE x) x.pos
 | .Y y=>.Name y x.pos
 | .gl i=>.Name (CA gn i) x.pos
 | .bin op a c=>.BinOp (b.e a (cE x 0)) op (b.e c (cE x 1)) x.pos
 | .neg a=>.UnaryOp .USub (b.e a (cE x 0)) x.pos
 | .gP op l=>.BoolOp op (bL b.e l (ch x)) x.pos
 | .ite t a c=>.IfExp (b.t t (cE x 0)) (b.e a (cE x 1)) (b.e c (cE x 2)) x.pos
 | .cmp op a c=>.Compare (b.e a (cE x 0)) [op] [b.e c (cE x 1)] x.pos
 | .o4 op a c d=>.Compare (b.e a (cE x 0)) [.LtE,op] [b.e c (cE x 1),b.e d (cE x 2)] x.pos
 | .tup l=>.Tuple (bL b.e l (ch x)) (kE x) x.pos
 | .lst X l=>.List (bL b.e l (ch x)) x.pos
 | .z5 l=>.Dict ((bL b.e (l.map (·.1)) (rr x)).map N) (bL b.e (l.map (·.2)) (ch x)) x.pos
 | .sub a i=>.Subscript (b.e a (cE x 0)) (b.e i (cE x 1)) x.pos
 | .jB a i=>.Subscript (b.e a (cE x 0)) (b.e i (cE x 1)) x.pos
 | .ur a lo hi=>.Subscript (b.e a (cE x 0)) (.Slice (bO b.e lo (cE (cE x 1) 0)) (bO b.e hi (cE (cE x 1) 1)) ao (cE x 1).pos) x.pos
 | .aG a y=>.Attribute (b.e a (cE x 0)) y x.pos
 | .call f l=>.Call (b.e f (cE x 0)) (bL b.e l (ch x).tail) [] x.pos
 | .bi f X l=>.Call (.Name (Ct f) (cE x 0).pos) (bL b.e l (ch x).tail) [] x.pos
 | .aV a y l=>.Call (.Attribute (b.e a (cE (cE x 0) 0)) y (cE x 0).pos) (bL b.e l (ch x).tail) [] x.pos
 | .comp X I ts one dI bZ aY=>.ListComp (b.e aY (cE x 0)) [⟨T_ ts one (cE x 1),Cz b dI (cE x 2),bL b.t bZ ((ch x).drop 3),0⟩] (pq x) x.pos
 | .qI X I x1 s1 x2 s2 bZ aY=>.ListComp (b.e aY (cE x 0)) [⟨.Name x1 (cE x 1).pos,Cz b s1 (cE x 2),[],0⟩,⟨.Name x2 (cE x 3).pos,Cz b s2 (cE x 4),bL b.t bZ ((ch x).drop 5),0⟩] (pq x) x.pos
 | .GC X I y dI aY=>.ListComp (b.e aY (cE x 0)) [⟨.Name y (cE x 1).pos,b.e dI (cE x 2),[],0⟩] (pq x) x.pos
 | .fz p=>b.e p x
 | .sV p X=>b.e p x
 |X=>uL
def bT(b:Bd)(p:PE)(x:aT):aT:=match p with
 | .not a=>.UnaryOp .Not (b.t a (cE x 0)) x.pos
 | .gP op l=>.BoolOp op (bL b.t l (ch x)) x.pos
 | .cmp op a c=>.Compare (b.e a (cE x 0)) [op] [b.e c (cE x 1)] x.pos
 | .o4 op a c d=>.Compare (b.e a (cE x 0)) [.LtE,op] [b.e c (cE x 1),b.e d (cE x 2)] x.pos
 |p=>b.e p x
def Uc(e:aT):aD:=kd [23,20,16,21,2,19] e
noncomputable def NG{α:Type}:J α->H->aD
 |X,0=>ak
 |[],X+1=>ah
 |X::r,n+1=>NG r n
def NH(b:Bd)(Y:Nm)(p:PE)(x:aT):aD:=match p with
 | .Y y=>k6 (jd y IC)
 | .bin X a c=>bz (b.k Y a (cE x 0)) (b.k Y c (cE x 1))
 | .neg a=>b.k Y a (cE x 0)
 | .gP X l=>aL (b.k Y) l (ch x)
 | .ite t a c=>bz (b.q Y t (cE x 0)) (bz (b.k Y a (cE x 1)) (b.k Y c (cE x 2)))
 | .cmp X a c=>bz (b.k Y a (cE x 0)) (b.k Y c (cE x 1))
 | .o4 X a c d=>bz (b.k Y a (cE x 0)) (bz (b.k Y c (cE x 1)) (b.k Y d (cE x 2)))
 | .tup l=>aL (b.k Y) l (ch x)
 | .lst X l=>aL (b.k Y) l (ch x)
 | .z5 l=>bz (aL (b.k Y) (l.map (·.1)) (rr x)) (bz (aL (b.k Y) (l.map (·.2)) (ch x)) (bz (NG l 16) (k6 (f9 l))))
 | .sub a i=>bz (b.k Y a (cE x 0)) (b.k Y i (cE x 1))
 | .jB a i=>bz (b.k Y a (cE x 0)) (b.k Y i (cE x 1))
 | .ur a lo hi=>bz (b.k Y a (cE x 0)) (bz (aO (b.k Y) lo (cE (cE x 1) 0)) (aO (b.k Y) hi (cE (cE x 1) 1)))
 | .aG a X=>bz (b.k Y a (cE x 0)) (EC (b.e a (cE x 0)))
 | .call f l=>bz (b.k Y f (cE x 0)) (bz (Na (b.e f (cE x 0))) (aL (b.k Y) l (ch x).tail))
 | .bi f X l=>bz (EY (Ct f) Y) (aL (b.k Y) l (ch x).tail)
 | .aV a X l=>bz (b.k Y a (cE (cE x 0) 0)) (bz (EC (b.e a (cE (cE x 0) 0))) (bz (bX (cE x 0).pos.endLine x.pos.line) (bz (NG l 30) (aL (b.k Y) l (ch x).tail))))
 | .comp X cs ts one dI bZ aY=>bz (Cw one (Ua ts)) (bz (NF Y cs ts (pq x)) (bz (EZ b Y dI (cE x 2)) (bz (aL (b.q (jt Y (pq x).names)) bZ ((ch x).drop 3)) (b.k (jt Y (pq x).names) aY (cE x 0)))))
 | .qI X cs x1 s1 x2 s2 bZ aY=>bz (NF Y cs [x1,x2] (pq x)) (bz (EZ b Y s1 (cE x 2)) (bz (EZ b (jt Y (pq x).names) s2 (cE x 4)) (bz (aL (b.q (jt Y (pq x).names)) bZ ((ch x).drop 5)) (b.k (jt Y (pq x).names) aY (cE x 0)))))
 | .GC X cs y dI aY=>bz (NF Y cs [y] (pq x)) (bz (b.k Y dI (cE x 2)) (b.k (jt Y (pq x).names) aY (cE x 0)))
 | .fz p=>b.k Y p x
 | .sV p X=>b.k Y p x
 |X=>ah
def kG(gn:J ai)(Y:Nm)(p:PE):aD:=match p with
 | .gl i=>bz (EY (CA gn i) Y) (k6 (jd (CA gn i) IC))
 |X=>ah
def kT(b:Bd)(Y:Nm)(p:PE)(x:aT):aD:=match p with
 | .not a=>b.q Y a (cE x 0)
 | .gP X l=>aL (b.q Y) l (ch x)
 | .cmp X a c=>bz (b.k Y a (cE x 0)) (b.k Y c (cE x 1))
 | .o4 X a c d=>bz (b.k Y a (cE x 0)) (bz (b.k Y c (cE x 1)) (b.k Y d (cE x 2)))
 |p=>bz (b.k Y p x) (Uc (b.e p x))
def bd(gn:J ai)(j:H):Bd:=Nat.rec ⟨λX I=>uL,λX I=>uL,λX I u2=>ak,λX I u2=>ak⟩ (λX b=>⟨bE gn b,bT b,λY p x=>bz (kG gn Y p) (NH b Y p x),kT b⟩) j
def Ud(Y:Nm)(x:ai)(p:gq)(v:aT):aD:=match bX v.ctorIdx 8 with
 |true=>k6 (Cx Y x p v.pos (pq v))
 |false=>EE v
def bS(b:Bd)(B:J PS->J eg->J eg)(p:PS)(s:eg):eg:=match p with
 | .ret e=>.Return (N (b.e e (cS s 0))) s.pos
 | .ex e=>.Expr (b.e e (cS s 0)) s.pos
 | .asg x e=>.Assign [.Name x (cS s 1).pos] (b.e e (cS s 0)) s.pos
 | .pW xs e=>.Assign [.Tuple (Cy xs (ch (cS s 1))) (kE (cS s 1)) (cS s 1).pos] (b.e e (cS s 0)) s.pos
 | .vF xs es=>.Assign [.Tuple (Cy xs (ch (cS s 1))) (kE (cS s 1)) (cS s 1).pos] (.Tuple (bL b.e es (ch (cS s 0))) (kE (cS s 0)) (cS s 0).pos) s.pos
 | .dm a y e=>.Assign [.Attribute (b.e a (cE (cS s 1) 0)) y (cS s 1).pos] (b.e e (cS s 0)) s.pos
 | .x_ a i e=>.Assign [.Subscript (b.e a (cE (cS s 1) 0)) (b.e i (cE (cS s 1) 1)) (cS s 1).pos] (b.e e (cS s 0)) s.pos
 | .aug x e=>.AugAssign (.Name x (cS s 1).pos) .Add (b.e e (cS s 0)) s.pos
 | .ite t a c=>.If (b.t t (cS s 0)) (B a (AG s)) (B c (rv s)) s.pos
 | .for X ts one dI body=>.For (T_ ts one (cS s 1)) (Cz b dI (cS s 0)) (B body (AG s)) [] s.pos
 | .DP X x y a c body=>.For (.Tuple (Cy [x,y] (ch (cS s 1))) (kE (cS s 1)) (cS s 1).pos) (.Call (.Name EW (cE (cS s 0) 0).pos) [b.e a (cE (cS s 0) 1),b.e c (cE (cS s 0) 2)] [] (cS s 0).pos) (B body (AG s)) [] s.pos
 | .sW X t body=>.While (b.t t (cS s 0)) (B body (AG s)) [] s.pos
 | .raise=>s
def aS(b:Bd)(B:J PS->J eg->aD)(Y:Nm)(p:PS)(s:eg):aD:=match p with
 | .ret e=>b.k Y e (cS s 0)
 | .ex e=>bz (b.k Y e (cS s 0)) (EE (b.e e (cS s 0)))
 | .asg x e=>bz (b.k Y e (cS s 0)) (match e with| .comp ..=>ah| .qI ..=>ah|X=>Ud Y x (cS s 1).pos (b.e e (cS s 0)))
 | .pW xs e=>bz (b.k Y e (cS s 0)) (bz (EE (b.e e (cS s 0))) (Tc (b.e e (cS s 0))))
 | .vF xs es=>bz (aL (b.k Y) es (ch (cS s 0))) (M_ Y (Cy xs (ch (cS s 1))) (bL b.e es (ch (cS s 0))) xs)
 | .dm a y e=>bz (b.k Y e (cS s 0)) (b.k Y a (cE (cS s 1) 0))
 | .x_ a i e=>bz (b.k Y e (cS s 0)) (bz (b.k Y a (cE (cS s 1) 0)) (b.k Y i (cE (cS s 1) 1)))
 | .aug x e=>b.k Y e (cS s 0)
 | .ite t a c=>bz (b.q Y t (cS s 0)) (bz (B a (AG s)) (B c (rv s)))
 | .for X ts one dI body=>bz (Cw one (Ua ts)) (bz (EZ b Y dI (cS s 0)) (B body (AG s)))
 | .DP X x y a c body=>bz (EY EW Y) (bz (b.k Y a (cE (cS s 0) 1)) (bz (b.k Y c (cE (cS s 0) 2)) (B body (AG s))))
 | .sW X t body=>bz (b.q Y t (cS s 0)) (B body (AG s))
 | .raise=>ah
noncomputable def rx:eg:=.Pass ⟨0,0,0,0⟩
def Ue(g:PS->eg->eg):J PS->J eg->J eg
 |[],X=>[]
 |p::ps,l=>g p (l.headD rx)::Ue g ps l.tail
def Ug(g:PS->eg->aD):J PS->J eg->aD
 |[],X=>ah
 |p::ps,l=>bz (g p (l.headD rx)) (Ug g ps l.tail)
def bB(gn:J ai)(j:H):J PS->J eg->J eg:=Nat.rec (λX I=>[]) (λj B=>Ue (bS (bd gn j) B)) j
def aB(gn:J ai)(Y:Nm)(j:H):J PS->J eg->aD:=Nat.rec (λX I=>ak) (λj B=>Ug (aS (bd gn j) B Y)) j
section
variable{f:Cf}{Y:J (ai×cJ)}{n:H}{T:Tb}{gn:J ai}{ev:Ev}{b:Bd}
structure yP(f:Cf)(T:Tb)(gn:J ai):Prop where
 nms:T.gl.map (·.1)=gn
 val:∀x v,(x,v)∈T.gl->∃u,f.g x=N u/\VR f.w [] f.B v u
structure xA(f:Cf):Prop where
 bi:∀b,f.g (Ct b)=N (EU b)
 iz:f.g EH=N (.type "range")
 zip:f.g EW=N (.type "zip")
def zX(e:aT):aD:=!(kd [22,7] e)
theorem Uh(h:zX e=ah):xj e=ah:=by cases e<;>first|rfl|exact gr h
theorem NI(h:zX e=ah):J8 op e=ak:=by cases e<;>first|rfl|exact gr h
theorem AH(h:zX e=ah):∀x G,pO e G x=pure x:=by intro x G;cases e<;>first|rfl|exact gr h
structure qW(f:Cf)(n:H)(ev:Ev)(b:Bd):Prop where
 e:∀Y p x,b.k Y p x=ah->∀Z k,ev.e p Z k->WE f Y n (b.e p x) Z k
 t:∀Y p x,b.q Y p x=ah->∀Z k,ev.t p Z k->WT f Y n (b.t p x) Z k
 n:∀p x,zX (b.e p x)=ah
theorem bj2{α:Type}{a:α}:∀{l:J α}{i:H},uI l i=N a->a∈l:=@λi_=>by
 induction i_ with
 |nil=>exact@λX h=>by cases h
 |cons X r ih=>
  intro i h;cases i with
  |zero=>cases h;exact .head _
  |succ i=>exact .tail _ (ih h)
theorem bj3{α β:Type}{g:α->β}:∀{l:J α}{i:H},uI (l.map g) i=(uI l i).map g:=@λi_=>by
 induction i_ with
 |nil=>exact@λi=>rfl
 |cons X r ih=>
  intro i;cases i with
  |zero=>rfl
  |succ i=>exact ih
theorem si{α:Type}{l:J α}:∀{n:H},NG l n=ah->l.length<n:=by
 induction l with
 |nil=>exact λ{n} h=>by cases n with|zero=>cases h|succ n=>exact jc _
 |cons a r ih=>exact λ{n} h=>by cases n with|zero=>cases h|succ n=>exact ao8 (ih h)
theorem NJ:∀{l:J PE}{xs:J aT},(bL g l xs).length=l.length:=@λi_=>by
 induction i_ with
 |nil=>exact@λX=>rfl
 |cons p l ih=>exact@λX=>bQ (·+1) ih
theorem NK(ih:qW f n ev b):∀{xs:J aT},rS (bL b.e l xs)=ah:=by
 induction l with
 |nil=>exact rfl
 |cons p l go=>
  intro xs
  show(match xj (b.e p (xs.headD uL))with|true=>rS _|false=>ak)=ah
  rw[Uh (ih.n _ _)];exact go
theorem E0(ih:qW f n ev b):∀{xs:J aT},aL (b.k Y) l xs=ah->∀Z k,Ar ev.e l Z k->qT f Y n (bL b.e l xs) Z k:=by
 induction l with
 |nil=>exact λX I u2 h=>eI h
 |cons p l go=>exact λh u3 u4 hv=>S3 ((ih.e _ _ _ (ck h) _ _ hv).mono λX I h'=>go (bf h) _ _ h') (Uh (ih.n _ _))
theorem sk(h:iS a k)(g:∀x,k x->k' x):iS a k':=by
 induction a with
 |d x=>exact g _ h
 |_=>exact h.elim
theorem bj4(ih:qW f n ev b){l:J (PE×PE)}:∀{ks vs:J aT},aL (b.k Y) (l.map (·.1)) ks=ah->aL (b.k Y) (l.map (·.2)) vs=ah->∀Z k,Sa ev.e l Z k->IA f Y n ((bL b.e (l.map (·.1)) ks).map N) (bL b.e (l.map (·.2)) vs) pos Z k:=by
 induction l with
 |nil=>exact λX I u2 u3 h=>bg8 h
 |cons p l go=>exact λh g X I hv=>bg9 ((ih.e _ _ _ (ck h) _ _ hv).mono λv X h'=>(ih.e _ _ _ (ck g) _ _ h').mono λX I h'=>sk h' λx h'=>sk h' λy h'=>AE h' (λh'=>go (bf h) (bf g) _ _ h') λh'=>h')
theorem sn(ih:qW f n ev b):∀{xs:J aT},aL (b.q Y) l xs=ah->∀Z k,nW ev.t l Z k->mL f Y n (bL b.t l xs) Z k:=by
 induction l with
 |nil=>exact λX I u2 h=>hY h
 |cons p l go=>exact λh u3 u4 hv=>aS6 ((ih.t _ _ _ (ck h) _ _ hv).mono λq X h'=>AE h' (go (bf h) _ _) id)
theorem bj5(ih:qW f n ev b):∀{xs:J aT},aL (b.q Y) l xs=ah->∀Z k,MS ev.t op l Z k->Ax f Y n op (bL b.t l xs) Z k:=by
 induction l with
 |nil=>exact λX Z k h=>by cases op;exact aL4 h;exact aL5 h
 |cons p l go=>
  intro xs h Z k hv;have g:=(ih.t _ _ _ (ck h) _ _ hv);induction op with
  |And=>exact aL6 (g.mono λq aI h'=>AE h' (go (bf h) _ _) id)
  |Or=>exact aL7 (g.mono λq aI h'=>AE h' id (go (bf h) _ _))
theorem bj6(h:Aq v k)(g:∀q,k q->k' q):Aq v k':=by
 induction v with
 |d x=>cases x<;>first|exact g _ h|exact h.elim
 |_=>exact h.elim
theorem bj7(ih:qW f n ev b):∀{xs:J aT},aL (b.k Y) l xs=ah->∀Z k,MR ev.e op l Z k->WX f Y (λr F=>VR f.w r F) n (λG=>Dn pos op (wu (bL b.e l xs) G)) Z k:=by
 induction l with
 |nil=>exact λI u2 u3 h=>h.elim
 |cons p l go=>
  intro xs h Z k hv;induction l using eT with
  |nil=>exact aM4 (ih.e _ _ _ (ck h) _ _ hv)
  |cons p' l=>exact aM5 ((ih.e _ _ _ (ck h) _ _ hv).mono λv aI h'=>bj6 h' λq h'=>by
    cases op
    ·exact AE h' (go (bf h) _ _) id
    ·exact AE h' id (go (bf h) _ _))
theorem sp(ih:qW f n ev b){p:bq PE}{x:aT}(h:aO (b.k Y) p x=ah){Z:St}{k:bq aa->St->Prop}(hv:Sb ev.e p Z k):WO f Y n (bO b.e p x) Z k:=by
 induction p with
 |none=>exact aO3 hv
 |some p=>exact aO4 (ih.e _ _ _ h _ _ hv)
theorem CB(ih:qW f n ev b):zX (Cz b p x)=ah:=by cases p<;>first|rfl|exact ih.n _ _
theorem E1(ih:qW f n ev b)(B:xA f){p:PE}{x:aT}(h:EZ b Y p x=ah){Z:St}{k:J D->St->Prop}(hv:As ev.e p Z k):WI f Y n (λG=>cM (Cz b p x) G) Z k:=by have gen:b.k Y p x=ah->(ev.e p Z λv Z=>HN v λl=>k l Z)->WI f Y n (λG=>cM (b.e p x) G) Z k:=λh1 h2=>aS0 (ih.e _ _ _ h1 _ _ h2);cases p<;>first|exact gen h hv|exact aS1 (ih.e _ _ _ (bf h) _ _ hv) B.iz (ND (ck h)) (Uh (ih.n _ _))
theorem bj8{e:aT}(h:Uc e=ah):∀G oR,oV e G oR=(do let v<-oR;su e.pos;A8 [v] (J9 v)):=by intro G oR;cases e<;>first|rfl|exact gr h
theorem sx{ts:J ai}{one:aD}{v:V}{Z:St}{k k':St->Prop}(h:jL ts one v Z k)(g:∀Z,k Z->k' Z):jL ts one v Z k':=by
 induction one with
 |true=>induction ts using eT with
  |nil=>exact h
  |cons x r=>induction r using eT with
   |nil=>exact IB (show kZ x v Z k from h) g
   |cons X I=>exact h
 |false=>induction v with
  |d x=>cases x<;>first|exact h|exact Ny (show nv ts _ Z k from h) g
  |pr x i=>exact Ny (show nv ts [.d x,.ref i] Z k from h) g
  |_=>exact h
theorem fV(h:uH v k)(g:k v->k' v):uH v k':=(w9 v k').mpr (g ((w9 v k).mp h))
theorem Ui(h:lV v k)(g:k v->k' v):lV v k':=(o5 v k').mpr (g ((o5 v k).mp h))
theorem sB{ts:J ai}{one:aD}{m:Fm}{T T':St->(aD->St->Prop)->Prop}{e e':St->(V->St->Prop)->Prop}(hT:∀Z k k',T Z k->(∀q Z,k q Z->k' q Z)->T' Z k')(he:∀Z k k',e Z k->(∀q Z,k q Z->k' q Z)->e' Z k')
  {l:J D}:∀{o:J O}{k k':J V->J O->Prop},jW ts one m T e l o k->(∀vs o,k vs o->k' vs o)->jW ts one m T' e' l o k':=by
 induction l with
 |nil=>exact λh g=>g _ _ h
 |cons y l go=>exact λ{o k k'} h g=>sx (show jL ts one (.d y) ⟨m,o⟩ _ from h) λZ h=>hT _ _ _ h λq aI h=>AE h (λh=>he _ _ _ h λv b3 h=>fV h λh=>Ui h λh=>go h λvs o h=>g _ _ h) λh=>Ui h λh=>go h g
theorem sK(ih:qW f n ev b)(h1:aL (b.q Y) bZ xs=ah)(h2:b.k Y aY x=ah)
  (h:jW ts one m (nW ev.t bZ) (ev.e aY) l o k):jW ts one m (λZ k=>mL f Y n (bL b.t bZ xs) Z k) (λZ k=>WE f Y n (b.e aY x) Z k) l o k:=
 sB (T':=λZ k=>mL f Y n (bL b.t bZ xs) Z k) (e':=λZ k=>WE f Y n (b.e aY x) Z k) (λZ k k' h g=>(sn ih h1 _ _ h).mono g) (λZ k k' h g=>(ih.e _ _ _ h2 _ _ h).mono g) h λvs o h=>h
theorem sT(ih:qW f n ev b)(B:xA f){x1 x2:ai}{m:Fm}{pV:PE}{s3:aT}{bZ:J PE}{xs:J aT}{aY:PE}{x:aT}(h0:EZ b Y pV s3=ah)(h1:aL (b.q Y) bZ xs=ah)(h2:b.k Y aY x=ah){l:J D}:∀{acc:J V}{o:J O}{k:J V->J O->Prop},
  xd x1 x2 m (As ev.e pV) (nW ev.t bZ) (ev.e aY) l acc o k->xd x1 x2 m (λZ k=>WI f Y n (λG=>cM (Cz b pV s3) G) Z k) (λZ k=>mL f Y n (bL b.t bZ xs) Z k) (λZ k=>WE f Y n (b.e aY x) Z k) l acc o k:=by
 induction l with
 |nil=>exact λh=>h
 |cons y l go=>exact λ{acc o k} h=>IB (show kZ x1 (.d y) ⟨m,o⟩ _ from h) λZ h=>(E1 ih B h0 h).mono λds aI h=>⟨h.1,sB (T':=λZ k=>mL f Y n (bL b.t bZ xs) Z k) (e':=λZ k=>WE f Y n (b.e aY x) Z k) (λZ k k' h g=>(sn ih h1 _ _ h).mono g) (λZ k k' h g=>(ih.e _ _ _ h2 _ _ h).mono g) h.2 λvs o h=>go h⟩
theorem bj9(ih:qW f n ev b)(h2:b.k Y aY y=ah):∀{o:J O}{k:J V->J O->Prop},
  B6 x m xe (ev.e aY) l o k->B6 x m xe (λZ k=>WE f Y n (b.e aY y) Z k) l o k:=by
 induction l with
 |nil=>exact λh=>h
 |cons v l go=>exact λ{o k} h=>IB (show kZ x v ⟨m,o⟩ _ from h) λZ h=>(ih.e _ _ _ h2 _ _ h).mono λw b3 h=>fV h λh=>Ui h λh=>⟨h.1,go h.2⟩
theorem s4(h:jk a k)(g:∀i,k i->k' i):jk a k':=by
 induction a with
 |d x=>induction x using Wm.D.casesOn with
  |int i=>exact g _ h
  |_=>exact h.elim
 |_=>exact h.elim
theorem s5{b:V}(h:tE .LtE a b o k)(g:∀q,k q->k' q):tE .LtE a b o k':=s4 h λX h=>s4 h λX h=>g _ h
theorem bk0(ih:qW f n ev b):∀Y p x,kT b Y p x=ah->∀Z k,Ys ev p Z k->WT f Y n (bT b p x) Z k:=by
 intro Y p x h Z k hv;have gen:bz (b.k Y p x) (Uc (b.e p x))=ah->(ev.e p Z λv Z=>Aq v λq=>k q Z)->WT f Y n (b.e p x) Z k:=λh h2=>aL8 (ih.e _ _ _ (ck h) _ _ h2) (bj8 (bf h))
 induction p using Wm.PE.casesOn with
 |not a=>exact aL2 (ih.t _ _ _ h _ _ hv)
 |gP op l=>exact aL3 (bj5 ih h _ _ hv)
 |cmp op a c=>exact aL0 ((ih.e _ _ _ (ck h) _ _ hv).mono λv aI h'=>ih.e _ _ _ (bf h) _ _ h') (NI (ih.n _ _))
 |o4 op a c d=>
  exact aL1 (o1:=.LtE) ((ih.e _ _ _ (ck h) _ _ hv).mono λv aI h'=>(ih.e _ _ _ (ck (bf h)) _ _ h').mono λw b3 h'=>s5 h' λq h'=>by
   induction q with
   |true=>exact ih.e _ _ _ (bf (bf h)) _ _ h'
   |false=>exact h') (NI (ih.n _ _))
 |_=>exact gen h hv
theorem bk1(h:Na e=ah):∃y p,e=.Name y p:=by cases e<;>first|exact⟨_,_,rfl⟩|exact gr h
theorem bk2{f:Cf}{Y:J (ai×cJ)}{n:H}{Z:St}{g:aT}{args:J aT}{pos:gq}{T:aR->Tr}{Q:V->St->Prop}(h:WE f Y n g Z λg aI=>qT f Y n args aI λvs b3=>iS g λx=>gD x λa=>yt (T a) vs b3.o (kM b3.m Q))(c:tO f n T)(hp:rS args=ah)(hg:Na g=ah):WE f Y n (.Call g args [] pos) Z Q:=by obtain⟨y,p,rfl⟩:=bk1 hg;exact aW2 h c hp
theorem IF{P P':Prop}(h:dh q P bV)(g:P->P'):dh q P' bV:=by cases q;exact h;exact g h
theorem bk3(b4:yP f T gn){i:H}{p:gq}(h:kG gn Y (.gl i)=ah){Z:St}{k:V->St->Prop}(hv:jK (uI T.gl i) λp=>k p.2 Z):WE f Y n (.Name (CA gn i) p) Z k:=by
 have e:uI gn i=(uI T.gl i).map (·.1):=by rw[<-b4.nms,bj3]
 have h:bz (EY (CA gn i) Y) (k6 (jd (CA gn i) IC))=ah:=h;unfold CA at h|-
 refine nX hv λy q hv=>?_;rw[e,q]at h|-
 refine b_ (b4.val _ _ (bj2 q)) λu hx=>?_;have g1:=hx.1;have g2:=hx.2;exact aJ2 g1 g2 (ND (ck h)) (rp (bf h)) hv
theorem bk4(ih:qW f n ev b)(B:xA f)(b4:yP f T gn)(c:tO f n T.fn):∀Y p x,bz (kG gn Y p) (NH b Y p x)=ah->∀Z k,ZV T ev p Z k->WE f Y n (bE gn b p x) Z k:=by
 intro Y p x h0 Z k hv;have h:=bf h0;induction p using Wm.PE.casesOn with
 |cI i=>exact aM0 hv
 |cS x=>exact aM3 hv
 |cN=>exact aM2 hv
 |cB b=>exact aM1 hv
 |Y x=>exact aJ1 hv (rp h)
 |gl i=>exact bk3 b4 (ck h0) hv
 |bin op a c=>exact aK7 ((ih.e _ _ _ (ck h) _ _ hv).mono λX I h'=>ih.e _ _ _ (bf h) _ _ h')
 |neg a=>exact aK8 (ih.e _ _ _ h _ _ hv)
 |gP op l=>exact aM6 (bj7 ih h _ _ hv)
 |ite t a c=>exact aL9 ((ih.t _ _ _ (ck h) _ _ hv).mono λq X h'=>by
   induction q with
   |true=>exact ih.e _ _ _ (ck (bf h)) _ _ h'
   |false=>exact ih.e _ _ _ (bf (bf h)) _ _ h')
 |cmp op a c=>exact aK9 ((ih.e _ _ _ (ck h) _ _ hv).mono λv aI h'=>ih.e _ _ _ (bf h) _ _ h') (NI (ih.n _ _))
 |o4 op a c d=>
  exact aM8 (o1:=.LtE) ((ih.e _ _ _ (ck h) _ _ hv).mono λv aI h'=>(ih.e _ _ _ (ck (bf h)) _ _ h').mono λw b3 h'=>s5 h' λq h'=>by
   induction q with
   |true=>exact ih.e _ _ _ (bf (bf h)) _ _ h'
   |false=>exact h') (NI (ih.n _ _))
 |tup l=>exact aN0 (E0 ih h _ _ hv)
 |lst lv l=>exact aN2 (E0 ih h _ _ hv)
 |z5 l=>have h3:=bf (bf h);exact bh4 (bj4 ih (ck h) (ck (bf h)) _ _ hv) (by rw[List.all_map];exact al6.mpr λX I=>rfl) (by rw[cO,NJ,NJ,cO,cO]) (by cases l;exact gr (bf h3);exact List.cons_ne_nil _ _) (by rw[cO,NJ,cO];exact rC (si (ck h3)))
 |sub a i=>exact aO1 ((ih.e _ _ _ (ck h) _ _ hv).mono λv aI h'=>ih.e _ _ _ (bf h) _ _ h')
 |jB a i=>exact aO2 ((ih.e _ _ _ (ck h) _ _ hv).mono λv aI h'=>ih.e _ _ _ (bf h) _ _ h')
 |ur a lo hi=>exact aO7 ((ih.e _ _ _ (ck h) _ _ hv).mono λv aI h'=>(sp ih (ck (bf h)) h').mono λw b3 h'=>sp ih (bf (bf h)) h')
 |aG a x=>exact aP1 (ih.e _ _ _ (ck h) _ _ hv) (bf h)
 |call g l=>exact bk2 ((ih.e _ _ _ (ck h) _ _ hv).mono λv aI h'=>E0 ih (bf (bf h)) _ _ h') c (NK ih) (ck (bf h))
 |bi b lv l=>exact bg5 (E0 ih (bf h) _ _ hv) (B.bi b) (ND (ck h)) (NK ih)
 |aV a x l=>have h3:=bf (bf h);exact ba9 (T:=T) ((ih.e _ _ _ (ck h) _ _ hv).mono λv aI h'=>xy h' λg h'=>E0 ih (bf (bf h3)) _ _ h') c (NK ih) (ck (bf h)) (nL (by rw[NJ];exact si (ck (bf h3)))) (by rw[Xv];exact mV (ck h3))
 |comp lv cs ts one dI bZ aY=>have h3:=bf (bf h);have hv:=l9 hv;exact aV7 (lv:=lv) hv.1 ((E1 ih B (ck h3) hv.2).mono λds aI h'=>IF h' λh'=>sK ih (ck (bf h3)) (bf (bf h3)) h') (Ub (ck h)) (ID (ck (bf h))) (AH (CB ih))
 |qI lv cs x1 uw x2 pV bZ aY=>have h3:=bf (bf h);have hv:=l9 hv;exact aV8 (lv:=lv) hv.1 ((E1 ih B (ck (bf h)) hv.2).mono λds aI h'=>IF h' λh'=>sT ih B (ck h3) (ck (bf h3)) (bf (bf h3)) h') (AH (CB ih)) (ID (ck h)) (AH (CB ih))
 |GC lv cs x dI aY=>have hv:=l9 hv;refine bi5 (lv:=lv) hv.1 ((ih.e _ _ _ (ck (bf h)) _ _ hv.2).mono λva aI h'=>xy h' λvs h'=>IF h' λh'=>⟨h'.1,bj9 ih (bf (bf h)) h'.2⟩) (ID (ck h)) (AH (ih.n _ _))
 |fz p=>exact aN3 (ih.e _ _ _ h _ _ hv)
 |sV p x=>exact bi8 (ih.e _ _ _ h _ _ hv)
 |_=>exact hv.elim
theorem tc(ih:∀p x,zX (b.e p x)=ah)(p:PE)(x:aT):zX (bE gn b p x)=ah:=by cases p<;>first|rfl|exact ih _ _
theorem td(j:H):∀p x,zX ((bd gn j).e p x)=ah:=by
 induction j with
 |zero=>exact λX I=>rfl
 |succ j go=>exact tc go
theorem NL(B:xA f)(b4:yP f T gn)(c:tO f n T.fn)(m:H):∀j,qW f n (vc T m) (bd gn j):=by
 induction m with
 |zero=>exact λj=>⟨λX I u2 u3 u4 u5 h=>h.elim,λX I u2 u3 u4 u5 h=>h.elim,td j⟩
 |succ m go=>
  intro j;induction j using jh with
  |zero=>exact⟨λX I u2 h u3 u4 u5=>(rm h).elim,λX I u2 h u3 u4 u5=>(rm h).elim,td 0⟩
  |succ j=>exact⟨bk4 (go j) B b4 c,bk0 (go j),tc (go j).n⟩
theorem tf{x:ai}{p pos:gq}{v:aT}{Z:St}{Q:dZ->St->Prop}(h:WE f Y n v Z λu aI=>kZ x u aI λb3=>Q .next b3)(hs:∀G,g_ f Y G->wz v (N (.Name x p)) pos.line G=pure ak):W1 f Y n (.Assign [.Name x p] v pos) Z Q:=λA s F G E r o i a=>at3 (h.run o i a λu w aI bY cz aF q y b7 b8=>HX q i b7 y λb3 cj Ia e_ c9=>⟨_,b3,bY,cz,Ia,.next,e_,b8.trans c9⟩) (hs G i)
theorem bk5{α:Type}{p:α->aD}{q:α->aD}(hpq:∀a,p a=k6 (q a)){l:J α}:kP p l=!(l.any q):=by
 induction l with
 |nil=>rfl
 |cons a r ih=>
  show bz (p a) (kP p r)=_
  rw[ao9,ih,hpq];cases q a<;>rfl
theorem NN{x:ai}{p vp:gq}{sc:ly}{aY:aT}{lP:J Ka}{line:H}{G:cL}(i:g_ f Y G):wz (.ListComp aY lP sc vp) (N (.Name x p)) line G=pure (Cx Y x p vp sc):=by
 have S:G.kindOf x=cG x Y:=by unfold PO;rw[i.Y,<-Au]
 have hb:G.blockKind=.function:=by unfold al4;rw[i.kind];rfl
 show pure (G.blockKind== .function&&G.kindOf x==N .local&&p.line==vp.line&&!(sc.names.any λ(n,k)=>n==x&&(k== .local||k== .cell)))=_
 congr 1;rw[hb,S];unfold Cx;rw[bk5 (q:=λy=>y.1==x&&(y.2== .local||y.2== .cell)) (λy=>by
  rw[Sl,show(x==y.1)=(y.1==x)from BEq.comm]
  obtain⟨y1,y2⟩:=y
  show k6 (bz (y1==x) _)=k6 ((y1==x)&&_)
  cases(y1==x)<;>cases y2<;>rfl)]
 have e2:(cG x Y==N NameKind.local)=AF x Y:=by
  unfold AF Cu;cases cG x Y with
  |none=>rfl
  |some k=>cases k<;>rfl
 have e3:(p.line==vp.line)=bX p.line vp.line:=PW.mpr ⟨λh=>by rw[Xv]at h;rw[h];exact WZ _,λh=>by rw[Xv];exact mV h⟩
 rw[e2,e3];cases AF x Y<;>cases bX p.line vp.line<;>rfl
theorem bk6(h:Ud Y x p v=ah):∀G,g_ f Y G->wz v (N (.Name x p)) line G=pure ak:=by intro G i;cases v<;>first|exact S9 h|exact(NN i).trans (bQ pure (yO.mp h))
theorem Uj{Z:St}{k k':St->Prop}(h:rN Z k)(g:k Z->k' Z):rN Z k':=(yq Z k').mpr (g ((yq Z k).mp h))
theorem bk7{fg ts:J ai}{one:aD}{fS:H}{body:J PS}{bd:J eg}(hB:∀Z k,ev.s body Z k->WS f Y n bd Z k){l:J D}:∀{Z:St}{k:dZ->St->Prop},gT fg ts one fS (ev.s body) l Z k->gT fg ts one fS (λZ k=>WS f Y n bd Z k) l Z k:=by
 induction l with
 |nil=>exact λh=>h
 |cons x l go=>
  refine λ{Z k} h=>sx (show jL ts one (.d x) Z _ from h) λZ h=>(hB _ _ h).mono λfl aI h=>?_
  induction fl with
  |next=>exact Uj (k:=λZ=>gT _ _ _ _ _ _ Z _) (k':=λZ=>gT _ _ _ _ _ _ Z _) h λh=>go h
  |cont=>exact Uj (k:=λZ=>gT _ _ _ _ _ _ Z _) (k':=λZ=>gT _ _ _ _ _ _ Z _) h λh=>go h
  |_=>exact h
theorem bk8{x:ai}{Z:St}{k k':V->Prop}(h:B5 x Z k)(g:∀v,k v->k' v):B5 x Z k':=by
 refine xy h λsl h=>?_;induction sl with
 |L ov=>exact xy (o:=ov) h g
 |C h'=>
  refine xy (o:=gw h' Z.o) h λy h=>?_;induction y with
  |cell ov=>exact xy (o:=ov) h g
  |_=>exact h.elim
theorem bk9{fg:J ai}{x y:ai}{fS:H}{xe:J O->Prop}{body:J PS}{bd:J eg}(hB:∀Z k,ev.s body Z k->WS f Y n bd Z k){l:J V}:∀{l':J V}{Z:St}{k:dZ->St->Prop},yD fg x y fS xe (ev.s body) l l' Z k->yD fg x y fS xe (λZ k=>WS f Y n bd Z k) l l' Z k:=by
 induction l with
 |nil=>exact λh=>h
 |cons a l go=>
  intro l' Z k h;induction l' using eT with
  |nil=>exact h
  |cons c l'=>
   refine Ny (show nv [x,y] [a,c] Z _ from h) λZ h=>(hB _ _ h).mono λfl aI h=>?_
   induction fl with
   |next=>exact Uj h λh=>⟨h.1,go h.2⟩
   |_=>exact h
abbrev th(f:Cf)(Y:J (ai×cJ))(n:H)(ev:Ev)(Bb:J PS->J eg->J eg)(Ba:J PS->J eg->aD):Prop:=∀l ss,Ba l ss=ah->∀Z k,ev.s l Z k->WS f Y n (Bb l ss) Z k
theorem bl2(B:xA f)(b4:yP f T gn)(c:tO f n T.fn){m j lv cs ts one dI bZ aY x p qj y Z}{k:dZ->St->Prop}(h:(bd gn j).k Y (.comp lv cs ts one dI bZ aY) y=ah)(hs:Cx Y x p y.pos (pq y)=ah)
  (hv:(vc T m).e (.comp lv cs ts one dI bZ aY) Z λv Z=>kZ x v Z λZ=>k .next Z):W1 f Y n (.Assign [.Name x p] ((bd gn j).e (.comp lv cs ts one dI bZ aY) y) qj) Z k:=by
 induction m using jh with
 |zero=>exact hv.elim
 |succ m=>induction j using jh with
 |zero=>exact(rm h).elim
 |succ j=>have ih:=NL (f:=f) (n:=n) B b4 c m j;have h:NH (bd gn j) Y (.comp lv cs ts one dI bZ aY) y=ah:=bf (a:=kG gn Y (.comp lv cs ts one dI bZ aY)) h;have h3:=bf (bf h);have hv:=l9 hv;exact aV9 (lv:=lv) hv.1 ((E1 ih B (ck h3) hv.2).mono λds aI h'=>IF h' λh'=>sK ih (ck (bf h3)) (bf (bf h3)) h') (Ub (ck h)) (ID (ck (bf h))) (AH (CB ih)) λG i=>(NN i).trans (bQ pure hs)
theorem bl3(B:xA f)(b4:yP f T gn)(c:tO f n T.fn){m j lv cs x1 uw x2 pV bZ aY x p qj y Z}{k:dZ->St->Prop}(h:(bd gn j).k Y (.qI lv cs x1 uw x2 pV bZ aY) y=ah)(hs:Cx Y x p y.pos (pq y)=ah)
  (hv:(vc T m).e (.qI lv cs x1 uw x2 pV bZ aY) Z λv Z=>kZ x v Z λZ=>k .next Z):W1 f Y n (.Assign [.Name x p] ((bd gn j).e (.qI lv cs x1 uw x2 pV bZ aY) y) qj) Z k:=by
 induction m using jh with
 |zero=>exact hv.elim
 |succ m=>induction j using jh with
 |zero=>exact(rm h).elim
 |succ j=>have ih:=NL (f:=f) (n:=n) B b4 c m j;have h:NH (bd gn j) Y (.qI lv cs x1 uw x2 pV bZ aY) y=ah:=bf (a:=kG gn Y (.qI lv cs x1 uw x2 pV bZ aY)) h;have h3:=bf (bf h);have hv:=l9 hv;exact aW0 (lv:=lv) hv.1 ((E1 ih B (ck (bf h)) hv.2).mono λds aI h'=>IF h' λh'=>sT ih B (ck h3) (ck (bf h3)) (bf (bf h3)) h') (AH (CB ih)) (ID (ck h)) (AH (CB ih)) λG i=>(NN i).trans (bQ pure hs)
theorem tj{v:aT}{x:ai}{p qj vp:gq}{sc:ly}{aY:aT}{lP:J Ka}(e:v=.ListComp aY lP sc vp){Z:St}{k:dZ->St->Prop}(h1:WE f Y n v Z λu aI=>kZ x u aI λb3=>k .next b3)(h2:Cx Y x p vp sc=ah->W1 f Y n (.Assign [.Name x p] v qj) Z k):W1 f Y n (.Assign [.Name x p] v qj) Z k:=by
 cases q:Cx Y x p vp sc with
 |true=>exact h2 q
 |false=>subst e;exact tf h1 λG i=>(NN i).trans (bQ pure q)
theorem bl4{lv cs ts one dI bZ aY y}(h:(bd gn j).k Y (.comp lv cs ts one dI bZ aY) y=ah):∃e g,(bd gn j).e (.comp lv cs ts one dI bZ aY) y=.ListComp e g (pq y) y.pos:=by
 induction j using jh with
 |zero=>exact(rm h).elim
 |succ j=>exact⟨_,_,rfl⟩
theorem bl5{lv cs x1 uw x2 pV bZ aY y}(h:(bd gn j).k Y (.qI lv cs x1 uw x2 pV bZ aY) y=ah):∃e g,(bd gn j).e (.qI lv cs x1 uw x2 pV bZ aY) y=.ListComp e g (pq y) y.pos:=by
 induction j using jh with
 |zero=>exact(rm h).elim
 |succ j=>exact⟨_,_,rfl⟩
theorem bl6(B:xA f)(b4:yP f T gn)(c:tO f n T.fn){m j:H}{x:ai}{p qj:gq}{e:PE}{y:aT}{Z:St}{k:dZ->St->Prop}(h:bz ((bd gn j).k Y e y) (match e with| .comp ..=>ah| .qI ..=>ah|X=>Ud Y x p ((bd gn j).e e y))=ah)
  (hv:(vc T m).e e Z λv Z=>kZ x v Z λZ=>k .next Z):W1 f Y n (.Assign [.Name x p] ((bd gn j).e e y) qj) Z k:=by
 have ih:=NL B b4 c m j;have g:=ih.e _ _ _ (ck h) _ _ hv;induction e using Wm.PE.casesOn with
 |comp=>obtain⟨_,_,q⟩:=bl4 (ck h);exact tj q g λhs=>bl2 B b4 c (ck h) hs hv
 |qI=>obtain⟨_,_,q⟩:=bl5 (ck h);exact tj q g λhs=>bl3 B b4 c (ck h) hs hv
 |_=>exact tf g (bk6 (bf h))
theorem bl7(B:xA f)(b4:yP f T gn)(c:tO f n T.fn)(IG:th f Y n (vc T m) Bb Ba)(p:PS)(s:eg)(h:aS (bd gn j) Ba Y p s=ah)(Z:St)(k:dZ->St->Prop)(hv:Sj T (vc T m) p Z k):W1 f Y n (bS (bd gn j) Bb p s) Z k:=by
 have ih:=NL (f:=f) (n:=n) B b4 c m j;induction p using Wm.PS.casesOn with
 |ret e=>exact aQ4 (ih.e _ _ _ h _ _ hv)
 |ex e=>exact aQ6 (ih.e _ _ _ (ck h) _ _ hv) (bf h)
 |asg x e=>exact bl6 B b4 c h hv
 |pW xs e=>exact aR2 (ih.e _ _ _ (ck h) _ _ hv) IE (ck (bf h)) (bf (bf h))
 |vF xs es=>exact aR5 (E0 ih (ck h) _ _ hv) IE (bf h)
 |dm a x e=>exact aQ9 ((ih.e _ _ _ (ck h) _ _ hv).mono λv aI h'=>ih.e _ _ _ (bf h) _ _ h')
 |x_ a i e=>exact aR0 ((ih.e _ _ _ (ck h) _ _ hv).mono λv aI h'=>(ih.e _ _ _ (ck (bf h)) _ _ h').mono λw b3 h'=>ih.e _ _ _ (bf (bf h)) _ _ h')
 |aug x e=>exact aQ7 (bk8 hv λv h'=>ih.e _ _ _ h _ _ h')
 |ite t a c=>exact aQ5 ((ih.t _ _ _ (ck h) _ _ hv).mono λq aI h'=>by
   induction q with
   |true=>exact IG _ _ (ck (bf h)) _ _ h'
   |false=>exact IG _ _ (bf (bf h)) _ _ h')
 |«for» fg ts one dI body=>exact aS2 ((E1 ih B (ck (bf h)) hv).mono λds aI h'=>bk7 (IG _ _ (bf (bf h))) (by rw[yp,yq]at h';exact h')) (Ub (ck h)) (AH (CB ih))
 |DP fg x y pa pb body=>exact bi3 (fg:=fg) ((ih.e _ _ _ (ck (bf h)) _ _ hv).mono λva aI h'=>(ih.e _ _ _ (ck (bf (bf h))) _ _ h').mono λvb b3 h'=>xy h' λvs h'=>xy h' λws h'=>bk9 (IG _ _ (bf (bf (bf h)))) (by rw[yp,yq]at h';exact h')) IE B.zip (ND (ck h)) (NK ih (l:=[pa,pb]) (xs:=[_,_]))
 |sW fg t body=>
  have hv:=(yp _ _).mp hv;refine b_ hv λbG hx=>?_;refine b_ hx λj hx=>?_;have h0:=hx.1;have hI:=hx.2;exact aS4 bG j h0 λj b9 hi=>(ih.t _ _ _ (ck h) _ _ (hI j b9 hi)).mono λq aI h'=>by
   induction q with
   |true=>exact(IG _ _ (bf h) _ _ h').mono λfl b3 h'=>by cases fl<;>exact h'
   |false=>exact h'
 |raise=>exact hv.elim
theorem bl8(h1:∀p s,a p s=ah->∀Z k,Sj T ev p Z k->W1 f Y n (g p s) Z k):∀{ss:J eg},Ug a l ss=ah->∀Z k,l8 T ev l Z k->WS f Y n (Ue g l ss) Z k:=by
 induction l with
 |nil=>exact λI Z k h=>aQ2 h
 |cons p l go=>
  refine λh Z k hv=>aQ3 ((h1 _ _ (ck h) _ _ hv).mono λfl aI h'=>?_);induction fl with
  |next=>exact go (bf h) _ _ (Te (show rN aI (λZ=>l8 T ev l Z k)from h'))
  |_=>exact h'
theorem bl9(B:xA f)(b4:yP f T gn)(c:tO f n T.fn)(m:H):∀j,th f Y n (vc T m) (bB gn j) (aB gn Y j):=by
 induction m with
 |zero=>exact λX I u2 u3 u4 u5 h=>h.elim
 |succ m go=>
  intro j;induction j using jh with
  |zero=>exact λX I h u2 u3 u4=>(rm h).elim
  |succ j=>exact λX I h u2 u3 hv=>bl8 (bl7 B b4 c (go j)) h _ _ hv
end
section
open Wh (sA sM look rI qH cu hF)
noncomputable def kL:J (H×H):=[(20,0),(21,0),(34,2),(35,2),(54,3),(55,3),(57,3),(58,3),(73,4),(74,4),(76,4),(77,4),(88,5),(89,5),(99,7),(105,7),(106,7),(112,7),(113,7),(119,7),(120,7),(126,7),(127,7),(133,7),(134,7),(140,7),(141,7),(147,7),(148,7),(154,7),(155,7),(161,7),(162,7),(168,7),(169,7),(175,7),(176,7),(182,7),(183,7),(189,7),(190,7),(196,7),(197,7),(203,7),(204,7),(206,7),(207,7),(224,8),(225,8),(231,8),(232,8),(238,8),(239,8),(245,8),(246,8),(252,8),(253,8),(259,8),(260,8),(266,8),(267,8),(273,8),(274,8),(276,8),(277,8),(287,9),(288,9),(294,10),(295,10),(296,11),(302,11),(303,11),(304,15),(310,18),(311,18),(317,19),(318,19),(324,20),(325,20),(338,21),(339,21),(345,21),(346,21),(352,21),(353,21),(355,21),(356,21),(361,73),(362,73),(363,73),(364,73),(365,73),(366,73),(367,73),(368,73),(369,73),(370,73),(371,73),(372,73),(373,73),(374,74),(375,74),(376,74),(377,74),(378,74),(379,74),(380,74),(381,74),(382,75),(383,75),(384,75),(385,75),(386,75),(387,75),(388,75),(389,75),(390,75),(391,76),(392,76),(393,76),(394,77),(395,77),(396,77),(397,77),(398,77),(399,77),(400,77),(401,77),(402,77),(403,77),(404,77),(405,77),(406,77),(407,77),(408,77),(409,77),(410,77),(411,77),(412,77),(413,77),(414,77),(415,77),(416,77),(417,77),(418,77),(419,77),(420,77),(421,77),(422,77),(423,77),(424,77),(425,77),(426,77),(427,77),(428,77),(429,77),(430,77),(436,78),(437,78),(443,79),(444,79),(450,80),(451,80),(455,81),(456,81),(469,86),(470,86),(476,86),(477,86),(479,86),(480,86),(497,87),(498,87),(504,87),(505,87),(507,87),(508,87),(525,88),(526,88),(532,88),(533,88),(535,88),(536,88),(553,89),(554,89),(558,89),(559,89),(561,89),(562,89),(579,90),(580,90),(586,90),(587,90),(589,90),(590,90),(607,91),(608,91),(614,91),(615,91),(617,91),(618,91),(635,92),(636,92),(642,92),(643,92),(647,92),(648,92),(654,92),(655,92),(661,92),(662,92),(668,92),(669,92),(675,92),(676,92),(682,92),(683,92),(689,92),(690,92),(696,92),(697,92),(703,92),(704,92),(710,92),(711,92),(715,92),(716,92),(722,92),(723,92),(729,92),(730,92),(732,92),(733,92),(741,93),(742,93),(746,94),(747,94),(753,99),(754,99),(760,100),(761,100),(767,101),(768,101),(774,102),(775,102),(781,103),(782,103),(788,104),(789,104),(795,105),(796,105),(802,106),(803,106),(809,107),(810,107),(816,108),(817,108),(823,109),(824,109),(830,110),(831,110),(837,111),(838,111),(844,112),(845,112),(851,113),(852,113),(858,114),(859,114),(865,115),(866,115),(870,116),(871,116),(877,117),(878,117),(884,118),(885,118),(891,119),(892,119),(898,120),(899,120),(905,121),(906,121),(912,122),(913,122),(919,123),(920,123),(926,124),(927,124),(933,125),(934,125),(940,126),(941,126),(947,127),(948,127),(952,128),(953,128),(954,133),(955,134),(961,139),(962,139),(968,140),(969,140),(975,141),(976,141),(982,142),(983,142),(989,143),(990,143),(996,144),(997,144),(1003,145),(1004,145),(1010,146),(1011,146),(1017,147),(1018,147),(1024,148),(1025,148),(1031,149),(1032,149),(1038,150),(1039,150),(1045,151),(1046,151),(1052,152),(1053,152),(1059,153),(1060,153),(1066,154),(1067,154),(1073,155),(1074,155),(1080,156),(1081,156),(1087,157),(1088,157),(1094,158),(1095,158),(1101,159),(1102,159),(1108,160),(1109,160),(1115,161),(1116,161),(1122,162),(1123,162),(1127,163),(1128,163),(1134,164),(1135,164),(1141,165),(1142,165),(1155,166),(1156,166),(1162,166),(1163,166),(1169,166),(1170,166),(1176,166),(1177,166),(1183,166),(1184,166),(1190,166),(1191,166),(1193,166),(1194,166),(1199,167),(1205,167),(1206,167),(1212,169),(1213,169),(1219,170),(1220,170),(1224,171),(1225,171),(1231,172),(1232,172),(1238,173),(1239,173),(1245,174),(1246,174),(1252,175),(1253,175),(1259,176),(1260,176),(1266,177),(1267,177),(1271,178),(1272,178),(1278,179),(1279,179),(1285,180),(1286,180),(1290,181),(1291,181),(1297,182),(1298,182),(1304,183),(1305,183),(1311,184),(1312,184),(1316,185),(1317,185),(1323,186),(1324,186),(1328,187),(1329,187),(1335,188),(1336,188),(1340,189),(1341,189),(1345,190),(1346,190),(1352,191),(1353,191),(1359,192),(1360,192),(1366,193),(1367,193),(1371,194),(1372,194),(1376,195),(1377,195),(1383,196),(1384,196),(1390,197),(1391,197),(1397,198),(1398,198),(1404,199),(1405,199),(1409,200),(1410,200),(1414,201),(1415,201),(1419,202),(1420,202),(1424,203),(1425,203),(1431,204),(1432,204),(1438,205),(1439,205),(1443,206),(1444,206),(1448,207),(1449,207),(1455,208),(1456,208)]
def kF(P:fG):qB:=kL.map λp=>(p.1,(look p.1 (rI P p.2)).getD default)
def kOk(P:fG)(p:H×H):aD:=oB (look p.1 (rI P p.2)) λo=>bz (k6 (qH p.1)) (bz o.alive (Nat.blt p.2 209))
theorem bm0(P:fG):kP (kOk P) kL=ah:=by kernel_rfl
variable{w:bU}{bJ s:aE}
theorem Uk(x:cu w bJ s):(kF w.params).In s.heap:=λa o e=>by have m:=mem_of_lookupK e;obtain⟨p,h1,h2⟩:=qA.mp m;obtain⟨o',hl,q⟩:=Lm (lE (bm0 w.params) _ h1);have h2:(p.1,(look p.1 (rI w.params p.2)).getD default)=(a,o):=h2;obtain⟨e1,e2⟩:=Kz h2;have e3:o'=o:=(bQ (al3 · default) hl).symm.trans e2;exact e1▸e3▸x.Q9 p.2 (Nat.ble_eq.mp (bf (bf q))) hl (yO.mp (ck q)) (ck (bf q))
noncomputable def NO(a b:bq (bq aA)):aD:=decide (a=b)
def bm1(K:qB)(c:aR)(x:ai):aD:=bz (Xq K c x) (bz (hasDictIn K c) (bz (oB (Dl K (.ref c) x) (noGet K))
 (bz (NO (Dl K (.ref c) "__setattr__") (N (N (.builtin "object.__setattr__")))) (bz (ak7 K c) (NO (takerIn K c x) (N ao))))))
theorem bm2(P:fG):kP (λp=>kP (λx=>bm1 (kF P) p.1 x) p.2) Zk=ah:=by kernel_rfl
end
section
open Wh (sA sM look rI qH cu hF)
noncomputable def Yz:Data->aD
 | .func X=>ah
 |X=>ak
theorem bm3{d:Data}(h:Yz d=ah):∃fd,d=.func fd:=by
 induction d with
 |func fd=>exact⟨fd,rfl⟩
 |_=>exact gr h
def bm4(K:qB)(c:aR)(x:ai)(a:aR):aD:=bz (Xq K c x) (bz (NO (Dl K (.ref c) x) (N (N (.ref a)))) (bz (decide (Xr K (.ref a)=N (.type "function")))
 (bz (oB (K.lookup a) λo=>Yz o.data) (k6 (vJ c x)))))
theorem bm5(P:fG):kP (λp=>kP (λq=>bm4 (kF P) p.1 q.1 q.2) p.2) Zl=ah:=by kernel_rfl
theorem NP{α:Type}{x:H}{a:α}{l:J (H×α)}:wX x l=N a->(x,a)∈l:=by
 induction l with
 |nil=>exact λh=>nomatch h
 |cons p l ih=>
  have go:∀q,bX x p.1=q->(match q with|true=>N p.2|false=>wX x l)=N a->(x,a)∈p::l:=λq e h=>by
   cases q
   ·exact .tail _ (ih h)
   ·rw[mV e,<-fU h];exact .head _
  exact go _ rfl
theorem bm6{P:fG}{c:aR}{x:ai}(h:vJ c x=ah):bv (kF P) c x:=by refine b_ (Lm h) λl hx=>?_;have e:=hx.1;have m:=hx.2;have q:=lE (lE (bm2 P) _ (NP e)) x (T6 m);have q2:=bf (bf (bf q));exact⟨ck q,ck (bf q),Lm (ck (bf (bf q))),gy (ck q2),ck (bf q2),gy (bf (bf q2))⟩
theorem bm7{P:fG}{c:aR}{x:ai}{a:aR}(h:GU c x=N a):ca (kF P) c x a:=by refine b_ (aj0.mp h) λl hx=>?_;have e:=hx.1;have m:=hx.2;have q:=lE (lE (bm5 P) _ (NP e)) _ (Ca m);have q2:=bf (bf q);exact⟨ck q,gy (ck (bf q)),gy (ck q2),(Lm (ck (bf q2))).elim λo z=>(bm3 z.2).elim λfd y=>⟨o,fd,z.1,y⟩,yO.mp (bf (bf q2))⟩
noncomputable def DK:J jN->J (ai×aA)
 |[]=>[]
 |e::r=>(match e.key with| .str x X=>(x,e.val)::DK r|X=>DK r)
theorem bm8{l:J jN}:nsFind l.toArray x=cG x (DK l):=by
 have go:(l.find? λe=>e.key.isStr x).map (·.val)=cG x (DK l):=by
  induction l with
  |nil=>rfl
  |cons e l ih=>
   obtain⟨h,k,v⟩:=e;induction k with
   |str y t=>exact B8 (P:=λo=>Dj (·.val) (List.find? (λe=>e.key.isStr x) (⟨h,.str y t,v⟩::l))=o) (λq=>bQ (Dj (·.val)) (List.find?_cons_of_pos (p:=λe:jN=>e.key.isStr x) (ED.mpr q.symm))) λq=>(bQ (Dj (·.val)) (List.find?_cons_of_neg (p:=λe:jN=>e.key.isStr x) λz=>q (ED.mp z).symm)).trans ih
   |_=>exact ih
 rw[<-go];unfold nsFind wC;rw[al8]
def II(P:fG):J (ai×aA):=DK (match(Wh.K1 P (Wh.kT.getD 209 0) (Wh.vN.getD (Wh.vT.getD 209 0) .none)).data with| .dict es X=>es.toList|X=>[])
def Ul(g:aA->bq D)(c:aA)(ws:cT aA):bq D:=if ws.size<=1000 then(if c=.type "tuple" then(rO g ws.toList).map .tup else if c=.type "list" then(rO g ws.toList).map .list else ao)else ao
noncomputable def NQ{α:Type}(o:fH)(d:α)(g:aA->cT aA->α)(h:aA->cT jN->α):α:=match o.dict with
 |none=>(match o.data with
  | .seq ws X=>if o.slots=#[]then g o.cls ws else d
  | .dict es X=>if o.slots=#[]then h o.cls es else d
  |X=>d)
 |some X=>d
def toD(K:qB)(n:H):aA->bq D:=Nat.rec (λX=>ao) (λX ih v=>match v with
 | .none=>N .none
 | .bool b=>N (.bool b)
 | .int i X=>N (.int i)
 | .str x X=>N (.str x)
 | .bytes b X=>if b.size<=1000 then N (.bytes (b.toList.map iX))else ao
 | .ref a=>(match K.lookup a with
  |some o=>NQ o (N (.glob a)) (Ul ih) λX I=>N (.glob a)
  |none=>N (.glob a))
 |X=>ao) n
def tm(K:qB)(e:jN):bq (aa×D):=match e.key with
 | .int i X=>if e.hash=Xp i then(toD K 4 e.val).map (i,·)else ao
 |X=>ao
def YA(K:qB)(v:aA):bq V:=match v with
 | .ref a=>(match K.lookup a with
  |some o=>NQ o ((toD K 5 v).map .d) (λX I=>(toD K 5 v).map .d) λc es=>if c=.type "dict" /\(a==xX)=ak then(rO (tm K) es.toList).map .nN else ao
  |none=>(toD K 5 v).map .d)
 |X=>(toD K 5 v).map .d
theorem tt{α:Type}{P:α->Prop}{c:Prop}[i:Xa c]{a b:α}(h:c->P a)(g:¬c->P b):P (ite c a b):=i.rec (motive:=λi=>P (@ite α c i a b)) g h
theorem tx{α:Type}{P:α->Prop}{o:fH}{d:α}{g:aA->cT aA->α}{h:aA->cT jN->α}(kg:∀ws n,o=⟨o.cls,ao,.seq ws n,#[]⟩->P (g o.cls ws))(kh:∀es n,o=⟨o.cls,ao,.dict es n,#[]⟩->P (h o.cls es))(kd:P d):P (NQ o d g h):=by
 obtain⟨c,dt,da,sl⟩:=o;induction dt with
 |some X=>exact kd
 |none=>induction da with
  |seq ws n=>exact tt (P:=P) (λe=>kg ws n (e▸rfl)) λX=>kd
  |dict es n=>exact tt (P:=P) (λe=>kh es n (e▸rfl)) λX=>kd
  |_=>exact kd
theorem tz{α β:Type}{g:α->bq β}{l:J α}:∀{m},rO g l=N m->L2 (λb a=>g a=N b) m l:=by
 induction l with
 |nil=>exact λe=>fU e▸ .nil
 |cons a l ih=>
  intro m;have go:∀q,g a=q->(match q with|some x=>(rO g l).map (x::·)|none=>ao)=N m->L2 (λb a=>g a=N b) m (a::l):=λq e h=>by
   induction q with
   |none=>cases h
   |some x=>exact(wm.mp h).elim λr h=>h.2▸ .cons e (ih h.1)
  exact go _ rfl
variable{K:qB}{h:dH}
theorem bm9{g:aA->bq D}(hg:∀v d,g v=N d->DR h.get? d v){c:aA}{ws:cT aA}{a:aR}{n:H}{d:D}(e:h.get? a=N ⟨c,ao,.seq ws n,#[]⟩)(q:Ul g c ws=N d):DR h.get? d (.ref a):=by
 have all:∀{ds},rO g ws.toList=N ds->ws.size<=1000->eU h.get? ds ws.toList/\ds.length<=1048576:=λq l=>by have z:=(tz q).imp λd v=>hg v d;exact⟨z,z.length▸bR l (by decide)⟩
 unfold Ul at q
 by_cases l:ws.size<=1000
 ·rw[dP l]at q
  by_cases h1:c=.type "tuple"
  ·rw[dP h1]at q
   refine b_ (wm.mp q) λds hx=>?_;have q1:=hx.1;have q2:=hx.2;exact q2▸ .tup (h1▸e) (all q1 l).1 (all q1 l).2
  ·rw[cF h1]at q
   by_cases h2:c=.type "list"
   ·rw[dP h2]at q
    refine b_ (wm.mp q) λds hx=>?_;have q1:=hx.1;have q2:=hx.2;exact q2▸ .list (h2▸e) (all q1 l).1 (all q1 l).2
   ·rw[cF h2]at q;cases q
 ·rw[cF l]at q;cases q
theorem Gv{P:bq D->Prop}{f:fH->bq D}{d:bq D}{a:aR}(ff:K.In h)(k:∀o,h.get? a=N o->P (f o))(kd:P d):P (match K.lookup a with|some o=>f o|none=>d):=by
 have go:∀z,K.lookup a=z->P (match z with|some o=>f o|none=>d):=λz e=>by
  induction z with
  |none=>exact kd
  |some o=>exact k o (ff _ _ e)
 exact go _ rfl
theorem tA(ff:K.In h)(n:H):∀v d,toD K n v=N d->DR h.get? d v:=by
 induction n with
 |zero=>exact λX I e=>nomatch e
 |succ n ih=>
  intro v d e;induction v with
  |none=>exact fU e▸ .none
  |bool b=>exact fU e▸ .bool
  |int b=>exact fU e▸ .int
  |str b=>exact fU e▸ .str
  |bytes b t=>
   have e:(if b.size<=1000 then N (D.bytes (b.toList.map iX))else ao)=N d:=e
   by_cases l:b.size<=1000
   ·rw[dP l]at e;exact fU e▸ .bytes (bR l (by decide))
   ·rw[cF l]at e;cases e
  |ref a=>have gl:N (D.glob a)=N d->DR h.get? d (.ref a):=λe=>fU e▸ .glob;exact Gv (P:=λq=>q=N d->_) ff (λo eo=>tx (P:=λq=>q=N d->_) (λws n z=>bm9 ih (eo.trans (bQ N z))) (λX I u2=>gl) gl) gl e
  |_=>cases e
theorem bn0{w:bU}(ff:K.In h){v:aA}{x:V}(e:YA K v=N x):VR w [] h.get? x v:=by
 have dd:(toD K 5 v).map V.d=N x->VR w [] h.get? x v:=λe=>(wm.mp e).elim λd e=>e.2▸ .d (tA ff 5 v d e.1);induction v with
 |ref a=>
  have go:∀z,K.lookup a=z->(match z with|some o=>NQ o ((toD K 5 (.ref a)).map V.d) (λX I=>(toD K 5 (.ref a)).map V.d) λc es=>if c=.type "dict" /\(a==xX)=ak then(rO (tm K) es.toList).map .nN else ao|none=>(toD K 5 (.ref a)).map V.d)=N x->VR w [] h.get? x (.ref a):=λz q=>by
   induction z with
   |none=>exact dd
   |some o=>
    refine tx (P:=λq=>q=N x->_) (λX I u2=>dd) (λes n eo e=>?_) dd;by_cases c:o.cls=.type "dict" /\(a==xX)=ak
    ·rw[dP c]at e
     refine b_ (wm.mp e) λl hx=>?_;have e1:=hx.1;have e2:=hx.2;refine e2▸ .nN (es:=es.toList) (n:=n) ((ff _ _ q).trans (bQ N (eo.trans ?_))) ((tz e1).imp λp en g=>?_) c.2
     ·rw[c.1]
     ·obtain⟨hh,k,u⟩:=en;induction k with
      |int i t=>
       have g:(if hh=Xp i then(toD K 4 u).map (i,·)else ao)=N p:=g
       by_cases q:hh=Xp i
       ·rw[dP q]at g
        exact(wm.mp g).elim λd g=>g.2▸q▸ .mk (qy i) (tA ff 4 u d g.1)
       ·rw[cF q]at g;cases g
      |_=>cases g
    ·rw[cF c]at e;cases e
  exact go _ rfl e
 |_=>exact dd e
def dO:J (ai×V):=[((az [67,117,114,115,111,114]),.d (.glob qf)),
 ((az [116,101,120,116,95,111,102]),.d (.glob Ls)),
 ((az [117,116,102,56,95,111,102]),.d (.glob Lq)),
 ((az [104,101,97,100,95,111,102]),.d (.glob Lr)),
 ((az [77,65,71,73,67]),.d (.bytes [0,97,115,109])),
 ((az [86,69,82,83,73,79,78]),.d (.bytes [1,0,0,0])),
 ((az [114,101,97,100,95,104,101,97,100]),.d (.glob Lu)),
 ((az [76,65,83,84,95,83,69,67,84,73,79,78]),.d (.int 12)),
 ((az [67,85,83,84,79,77]),.d (.int 0)),
 ((az [80,76,65,67,69,83]),.d (.tup [.int 1,.int 2,.int 3,.int 4,.int 5,.int 6,.int 7,.int 8,.int 9,.int 12,.int 10,.int 11])),
 ((az [78,85,77,66,69,82,83]),.d (.tup [.tup [.int 69,.int 69,.tup [.int (-1)],.tup [.int (-1)]],.tup [.int 70,.int 79,.tup [.int (-1),.int (-1)],.tup [.int (-1)]],.tup [.int 80,.int 80,.tup [.int (-2)],.tup [.int (-1)]],.tup [.int 81,.int 90,.tup [.int (-2),.int (-2)],.tup [.int (-1)]],.tup [.int 103,.int 105,.tup [.int (-1)],.tup [.int (-1)]],.tup [.int 106,.int 120,.tup [.int (-1),.int (-1)],.tup [.int (-1)]],.tup [.int 121,.int 123,.tup [.int (-2)],.tup [.int (-2)]],.tup [.int 124,.int 138,.tup [.int (-2),.int (-2)],.tup [.int (-2)]],.tup [.int 167,.int 167,.tup [.int (-2)],.tup [.int (-1)]],.tup [.int 172,.int 173,.tup [.int (-1)],.tup [.int (-2)]],.tup [.int 192,.int 193,.tup [.int (-1)],.tup [.int (-1)]],.tup [.int 194,.int 196,.tup [.int (-2)],.tup [.int (-2)]]])),
 ((az [70,79,82,77,83]),.nN [(0,(.str qe)),(1,(.str qe)),(2,(.str Ac)),(3,(.str Ac)),(4,(.str Ac)),(5,(.str qe)),(11,(.str qe)),(12,(.str DZ)),(13,(.str DZ)),(14,(.str D0)),(15,(.str qe)),(16,(.str BE)),(17,(.str BF)),(18,(.str BE)),(19,(.str BF)),(26,(.str qe)),(27,(.str qe)),(28,(.str DY)),(32,(.str BG)),(33,(.str BG)),(34,(.str BG)),(35,(.str DV)),(36,(.str DV)),(37,(.str yi)),(38,(.str yi)),(63,(.str BH)),(64,(.str BH)),(65,(.str DW)),(66,(.str DX)),(208,(.str D5)),(209,(.str qe)),(210,(.str BE)),(64520,(.str D4)),(64521,(.str GR)),(64522,(.str BI)),(64523,(.str BH)),(64524,(.str D7)),(64525,(.str GS)),(64526,(.str D6)),(64527,(.str yi)),(64528,(.str yi)),(64529,(.str yi))]),
 ((az [76,79,65,68,83]),.nN [(40,(.tup [.int (-1),.int 4,.int 0])),(41,(.tup [.int (-2),.int 8,.int 0])),(44,(.tup [.int (-1),.int 1,.int 1])),(45,(.tup [.int (-1),.int 1,.int 0])),(46,(.tup [.int (-1),.int 2,.int 1])),(47,(.tup [.int (-1),.int 2,.int 0])),(48,(.tup [.int (-2),.int 1,.int 1])),(49,(.tup [.int (-2),.int 1,.int 0])),(50,(.tup [.int (-2),.int 2,.int 1])),(51,(.tup [.int (-2),.int 2,.int 0])),(52,(.tup [.int (-2),.int 4,.int 1])),(53,(.tup [.int (-2),.int 4,.int 0]))]),
 ((az [83,84,79,82,69,83]),.nN [(54,(.tup [.int (-1),.int 4])),(55,(.tup [.int (-2),.int 8])),(58,(.tup [.int (-1),.int 1])),(59,(.tup [.int (-1),.int 2])),(60,(.tup [.int (-2),.int 1])),(61,(.tup [.int (-2),.int 2])),(62,(.tup [.int (-2),.int 4]))]),
 ((az [110,117,109,98,101,114,95,107,105,110,100]),.d (.glob Lw)),
 ((az [66,76,79,67,75]),.d (.int 2)),
 ((az [76,79,79,80]),.d (.int 3)),
 ((az [73,70]),.d (.int 4)),
 ((az [86,69,67,84,79,82,95,80,82,69,70,73,88]),.d (.int 253)),
 ((az [76,69,70,84,95,82,65,78,71,69,83]),.d (.list [.tup [.int 42,.int 43],.tup [.int 56,.int 57],.tup [.int 67,.int 68],.tup [.int 91,.int 102],.tup [.int 139,.int 166],.tup [.int 168,.int 171],.tup [.int 174,.int 191],.tup [.int 64512,.int 64519]])),
 ((az [112,97,114,116,115,95,111,102]),.d (.glob LB)),
 ((az [77,69,77,79,82,89,95,73,78,73,84]),.d (.int 64520)),
 ((az [68,65,84,65,95,68,82,79,80]),.d (.int 64521)),
 ((az [83,69,86,69,78]),.d (.int 127)),
 ((az [112,117,116,95,107,105,110,100]),.d (.glob wY)),
 ((az [70,85,78,67,95,70,79,82,77]),.d (.int 96)),
 ((az [112,117,116,95,107,105,110,100,115]),.d (.glob G5)),
 ((az [112,117,116,95,108,105,109,105,116,115]),.d (.glob G6)),
 ((az [112,117,116,95,116,97,98,108,101,95,107,105,110,100]),.d (.glob BQ)),
 ((az [112,117,116,95,109,101,109,111,114,121,95,107,105,110,100]),.d (.glob BS)),
 ((az [112,117,116,95,103,108,111,98,97,108,95,107,105,110,100]),.d (.glob G7)),
 ((az [119,114,105,116,101,95,98,111,100,121]),.d (.glob BU)),
 ((az [80,82,69,70,73,88,69,68]),.d (.int 64512)),
 ((az [77,65,78,89,95,80,82,69,70,73,88]),.d (.int 252)),
 ((az [112,117,116,95,98,108,111,99,107,95,107,105,110,100]),.d (.glob LD)),
 ((az [112,117,116,95,110,117,109,98,101,114,115]),.d (.glob G8)),
 ((az [102,111,114,109,95,111,102]),.d (.glob D8)),
 ((az [112,117,116,95,99,111,100,101]),.d (.glob LG)),
 ((az [112,117,116,95,105,109,109,101,100,105,97,116,101,115]),.d (.glob LH)),
 ((az [112,117,116,95,105,110,115,116,114,117,99,116,105,111,110]),.d (.glob LI)),
 ((az [82,69,70,95,70,85,78,67]),.d (.int 210)),
 ((az [69,78,68]),.d (.int 11)),
 ((az [102,117,110,99,95,105,110,100,101,120,95,111,102]),.d (.glob LJ)),
 ((az [70,85,78,67,82,69,70]),.d (.int (-16))),
 ((az [65,67,84,73,86,69]),.d (.int 1)),
 ((az [80,65,83,83,73,86,69]),.d (.int 0)),
 ((az [68,69,67,76,65,82,69,68]),.d (.int 2)),
 ((az [114,117,110,115,95,111,102]),.d (.glob LK)),
 ((az [83,105,110,107]),.d (.glob qM)),
 ((az [112,117,116,95,108,111,99,97,108,115]),.d (.glob LL)),
 ((az [104,97,115,95,100,97,116,97,95,117,115,101]),.d (.glob G4)),
 ((az [105,115,95,119,114,105,116,116,101,110]),.d (.glob uE)),
 ((az [112,117,116,95,108,105,115,116]),.d (.glob G9)),
 ((az [112,117,116,95,102,117,110,99,95,107,105,110,100]),.d (.glob D_)),
 ((az [112,117,116,95,105,109,112,111,114,116]),.d (.glob Ea)),
 ((az [112,117,116,95,102,117,110,99,95,105,110,100,101,120]),.d (.glob Eh)),
 ((az [112,117,116,95,103,108,111,98,97,108]),.d (.glob Ec)),
 ((az [112,117,116,95,101,120,112,111,114,116]),.d (.glob Eb)),
 ((az [112,117,116,95,101,108,101,109]),.d (.glob Ed)),
 ((az [112,117,116,95,102,117,110,99]),.d (.glob Eg)),
 ((az [112,117,116,95,100,97,116,97]),.d (.glob Ef)),
 ((az [112,117,116,95,99,111,110,116,101,110,116]),.d (.glob LN)),
 ((az [98,101,104,105,110,100,95,111,102]),.d (.glob G_)),
 ((az [112,117,116,95,99,117,115,116,111,109,115]),.d (.glob LP)),
 ((az [112,117,116,95,115,101,99,116,105,111,110]),.d (.glob LO)),
 ((az [70,76,79,65,84,83]),.d (.tup [.int (-3),.int (-4)])),
 ((az [86,69,67,84,79,82]),.d (.int (-5))),
 ((az [119,97,110,116,95,107,101,112,116]),.d (.glob LR)),
 ((az [73,51,50]),.d (.int (-1))),
 ((az [73,54,52]),.d (.int (-2))),
 ((az [69,88,84,69,82,78,82,69,70]),.d (.int (-17))),
 ((az [116,111,108,100,95,107,105,110,100]),.d (.glob Hf)),
 ((az [108,105,115,116,95,97,116]),.d (.glob w4)),
 ((az [107,105,110,100,95,97,116]),.d (.glob Ej)),
 ((az [114,101,102,95,107,105,110,100,95,97,116]),.d (.glob Ek)),
 ((az [108,105,109,105,116,115,95,97,116]),.d (.glob Hg)),
 ((az [73,109,112,111,114,116]),.d (.glob Ad)),
 ((az [116,97,98,108,101,95,107,105,110,100,95,97,116]),.d (.glob Hh)),
 ((az [109,101,109,111,114,121,95,107,105,110,100,95,97,116]),.d (.glob Hi)),
 ((az [103,108,111,98,97,108,95,107,105,110,100,95,97,116]),.d (.glob Hj)),
 ((az [71,108,111,98,97,108]),.d (.glob Af)),
 ((az [99,111,110,115,116,97,110,116,95,97,116]),.d (.glob BV)),
 ((az [69,77,80,84,89,95,79,67,84,69,84]),.d (.int 64)),
 ((az [69,77,80,84,89]),.d (.int (-64))),
 ((az [71,82,69,65,84,69,83,84,95,65,76,73,71,78]),.d (.int 31)),
 ((az [105,110,100,101,120,95,97,116]),.d (.glob Ei)),
 ((az [98,108,111,99,107,95,107,105,110,100,95,97,116]),.d (.glob LX)),
 ((az [109,101,109,97,114,103,95,97,116]),.d (.glob LZ)),
 ((az [102,105,114,115,116,95,105,109,109,101,100,105,97,116,101,115,95,97,116]),.d (.glob L3)),
 ((az [108,97,98,101,108,115,95,97,116]),.d (.glob L1)),
 ((az [119,97,110,116,95,122,101,114,111]),.d (.glob LY)),
 ((az [76,65,83,84,95,83,85,66]),.d (.int 17)),
 ((az [105,115,95,108,101,102,116,95,111,117,116]),.d (.glob Lz)),
 ((az [66,79,68,89]),.d (.int 0)),
 ((az [99,111,100,101,95,97,116]),.d (.glob L5)),
 ((az [69,76,83,69]),.d (.int 5)),
 ((az [68,65,84,65,95,67,79,68,69,83]),.d (.tup [.int 64520,.int 64521])),
 ((az [105,109,109,101,100,105,97,116,101,115,95,97,116]),.d (.glob L4)),
 ((az [105,115,95,98,108,111,99,107]),.d (.glob Ly)),
 ((az [98,111,100,121,95,97,116]),.d (.glob Hl)),
 ((az [101,108,101,109,95,107,105,110,100,95,97,116]),.d (.glob L6)),
 ((az [69,108,101,109]),.d (.glob Ag)),
 ((az [68,97,116,97]),.d (.glob Ah)),
 ((az [71,82,69,65,84,69,83,84,95,67,79,85,78,84]),.d (.int 4294967295)),
 ((az [83,101,99,116,105,111,110,87,97,108,107]),.d (.glob BJ)),
 ((az [77,111,100,117,108,101]),.d (.glob s7)),
 ((az [99,117,115,116,111,109,95,97,116]),.d (.glob Lv)),
 ((az [67,117,115,116,111,109]),.d (.glob yk)),
 ((az [119,97,110,116,95,106,117,115,116]),.d (.glob G3)),
 ((az [102,117,110,99,95,107,105,110,100,95,97,116]),.d (.glob LS)),
 ((az [105,109,112,111,114,116,95,97,116]),.d (.glob LU)),
 ((az [103,108,111,98,97,108,95,97,116]),.d (.glob LW)),
 ((az [101,120,112,111,114,116,95,97,116]),.d (.glob LV)),
 ((az [101,108,101,109,95,97,116]),.d (.glob L7)),
 ((az [100,97,116,97,95,97,116]),.d (.glob L8)),
 ((az [108,111,99,97,108,115,95,97,116]),.d (.glob L_)),
 ((az [70,117,110,99]),.d (.glob Ae)),
 ((az [66,105,110,97,114,121,82,101,97,100,101,114]),.d (.glob BK)),
 ((az [95,108,97,119,95,112,105,99,107]),.d (.glob oq)),
 ((az [95,108,97,119,95,107,105,110,100]),.d (.glob BW)),
 ((az [95,108,97,119,95,105,110,100,101,120]),.d (.glob uF)),
 ((az [95,108,97,119,95,114,111,119,115]),.d (.glob Hp)),
 ((az [95,108,97,119,95,115,105,103,110,101,100]),.d (.glob Hs)),
 ((az [95,108,97,119,95,98,108,111,99,107]),.d (.glob Mb)),
 ((az [95,108,97,119,95,107,105,110,100,115]),.d (.glob Ht)),
 ((az [95,108,97,119,95,110,101,120,116]),.d (.glob Aj)),
 ((az [95,108,97,119,95,105,110,115,116,114,117,99,116,105,111,110]),.d (.glob Mc)),
 ((az [95,108,97,119,95,108,105,109,105,116,115]),.d (.glob Hu)),
 ((az [95,108,97,119,95,110,97,109,101]),.d (.glob Hr)),
 ((az [95,108,97,119,95,98,111,100,121]),.d (.glob Me)),
 ((az [95,108,97,119,95,99,111,110,115,116,97,110,116]),.d (.glob Em)),
 ((az [95,108,97,119,95,109,97,110,121]),.d (.glob Mj)),
 ((az [95,108,97,119,95,105,109,112,111,114,116]),.d (.glob Mf)),
 ((az [95,108,97,119,95,102,117,110,99]),.d (.glob Mg)),
 ((az [95,108,97,119,95,101,108,101,109]),.d (.glob Mh)),
 ((az [95,108,97,119,95,100,97,116,97]),.d (.glob Mi)),
 ((az [95,108,97,119,95,115,101,99,116,105,111,110,115]),.d (.glob Hv)),
 ((az [95,108,97,119,95,103,114,111,117,112,115]),.d (.glob Ho)),
 ((az [95,108,97,119,95,102,114,101,101]),.d (.glob s9)),
 ((az [95,108,97,119,95,108,105,115,116]),.d (.glob w5)),
 ((az [95,108,97,119,95,110,97,109,101,115]),.d (.glob Hq)),
 ((az [95,108,97,119,95,108,101,116,116,101,114,115]),.d (.glob Mm)),
 ((az [95,108,97,119,95,107,105,110,100,115,95,116,111,108,100]),.d (.glob Hw)),
 ((az [95,108,97,119,95,111,119,110]),.d (.glob Ml)),
 ((az [95,108,97,119,95,119,111,114,100]),.d (.glob En)),
 ((az [95,108,97,119,95,108,105,109,105,116,115,95,116,111,108,100]),.d (.glob Hx)),
 ((az [95,108,97,119,95,99,111,100,101]),.d (.glob BX)),
 ((az [95,108,97,119,95,105,109,112,111,114,116,95,116,111,108,100]),.d (.glob Mn)),
 ((az [95,108,97,119,95,101,108,101,109,95,116,111,108,100]),.d (.glob Mq)),
 ((az [95,108,97,119,95,102,117,110,99,95,116,111,108,100]),.d (.glob Mp)),
 ((az [95,108,97,119,95,100,97,116,97,95,116,111,108,100]),.d (.glob Mr)),
 ((az [95,108,97,119,95,115,101,99,116,105,111,110]),.d (.glob Ms)),
 ((az [95,108,97,119,95,97,108,108]),.d (.glob Hy)),
 ((az [95,108,97,119,95,101,108,101,109,95,102,105,101,108,100,115]),.d (.glob Mv)),
 ((az [95,108,97,119,95,109,111,100,117,108,101]),.d (.glob Mk)),
 ((az [95,108,97,119,95,102,105,101,108,100,115]),.d (.glob Mw)),
 ((az [95,108,97,119,95,111,99,116,101,116,115]),.d (.glob Mu)),
 ((az [119,114,105,116,101,95,109,111,100,117,108,101]),.d (.glob LQ)),
 ((az [114,101,97,100,95,109,111,100,117,108,101]),.d (.glob El))]
def Um(P:fG)(y:ai):bq aA:=match cG y (II P)with|some v=>N v|none=>(hF P).nsMap wo y
theorem bn1(P:fG):dO.map (λp=>(Um P p.1).bind (YA (kF P)))=dO.map λp=>N p.2:=by kernel_rfl
variable{w:bU}{bJ s:aE}
theorem cu.bn2(x:cu w bJ s):s.heap.Ns qx (λy=>cG y (II w.params)):=by
 have e:s.heap.get? qx=N (Wh.K1 w.params (Wh.kT.getD 209 0) (Wh.vN.getD (Wh.vT.getD 209 0) .none)):=x.Y0 (by kernel_rfl) (by kernel_rfl)
 obtain⟨o,es,ep,h1,h2,h3,h4⟩:=Xo x.wQ;have tI:=h1;rw[e]at tI
 cases tI;refine⟨_,es,ep,h1,h2,h3,λy=>?_⟩;have:II w.params=DK es.toList:=by unfold II;rw[h2]
 rw[this];exact bm8 (l:=es.toList)
def aU(x:cu w bJ s):Cf where
 prog:=Wh.pw
 w:=w
 h0:=s.heap
 mg:=λy=>cG y (II w.params)
 mb:=(hF w.params).nsMap wo
 ng:=cu.bn2 x
 nb:=by rw[<-Wh.z4 x.g0];exact Xo ((Wh.z3 x.g0).trans (Wh.Y5 _))
 nl:=⟨(hF w.params).nsMap J2,by rw[<-Wh.z4 x.g2];exact Xo ((Wh.z3 x.g2).trans (Wh.Y4 _)),by kernel_rfl⟩
 sm:=⟨1456,_,by decide,x.Q9 208 (by decide) (Wh.Y6 _) rfl (Wh.Y7 _)⟩
 K:=kF w.params
 ff:=Uk x
 aG:=λX I h=>bm6 h
 cb:=λX I u2 h=>bm7 h
theorem bn3(P:fG)(b:Bi):Um P (Ct b)=N (EU b):=by cases b<;>kernel_rfl
theorem Un(x:cu w bJ s)(y:ai):(aU x).g y=Um w.params y:=rfl
theorem bn4(x:cu w bJ s):xA (aU x):=
 ⟨λb=>(Un x _).trans (bn3 ..),(Un x _).trans (by kernel_rfl),(Un x _).trans (by kernel_rfl)⟩
theorem bn5(x:cu w bJ s)(fn:aR->Tr):yP (aU x) ⟨dO,fn⟩ (dO.map (·.1)):=
 ⟨rfl,λy v h=>(aj0.mp (List.map_inj_left.mp (bn1 w.params) _ h)).elim λu q=>⟨u,q.1,bn0 (Uk x) q.2⟩⟩
end
theorem bn6{ns:J ai}{ws:J aA}(nd:ns.Nodup)(hl:ws.length=ns.length):(ns.filterMap λn=>((ns.zip ws).lookup n).map (n,·))=ns.zip ws:=by
 have go:∀(ns:J ai)(ws:J aA)(f:ai->bq aA),ns.Nodup->ws.length=ns.length->(∀n∈ns,f n=(ns.zip ws).lookup n)->(ns.filterMap λn=>(f n).map (n,·))=ns.zip ws:=by
  intro ns;induction ns with
  |nil=>exact λws f X I u2=>rfl
  |cons n ns ih=>
   intro ws f nd hl hp;induction ws using eT with
   |nil=>cases hl
   |cons v ws=>
    rw[oX]at nd
    have e1:=hp n (.head _);rw[P5,Be,qy]at e1
    rw[cv1,e1,P5];refine bQ ((n,v)::·) (ih ws f nd.2 (zJ hl) λm hm=>?_);rw[hp m (.tail _ hm),P5,Be,Kf λe:m=n=>nd.1 (e▸hm)]
 exact go ns ws _ nd hl λX I=>rfl
theorem bn7{ns:J ai}:∀{ws:J aA},ws.length=ns.length->n∈ns->((ns.zip ws).lookup n).isNone=ak:=by
 induction ns with
 |nil=>exact λX=>nofun
 |cons m ns ih=>
  intro ws hl h;induction ws using eT with
  |nil=>cases hl
  |cons v ws=>
   rw[P5,Be];by_cases q:n=m
   ·rw[q,qy];rfl
   ·rw[Kf q];exact ih (zJ hl) ((iV.mp h).resolve_left q)
theorem bn8{Y qn:ai}{as:J Arg}{kwd:J (bq aT)}{dfs:J aT}{bd:FuncBody}{sc:ly}{gl bi:aR}{cl:J (ai×aR)}{kd dc pm cd ct:aA}{an:bq aR}{ns:J ai}(h2:as.map (·.arg)=ns)(nd:ns.Nodup){ws:J aA}(hl:ws.length=ns.length):
  Bc ⟨Y,qn,⟨[],as,ao,[],kwd,ao,dfs⟩,bd,sc,gl,cl,.none,kd,dc,pm,an,cd,ct,bi⟩ ⟨ws,[]⟩=pure (ns.zip ws):=by
 delta Bc;dsimp only;rw[h2];refine(cF (by rw[hl];exact λh=>vg _ (gy (PG.mp h).1))).trans ?_
 refine(cF ?_).trans ?_
 ·refine λh=>nomatch (bQ (!·) (?_:List.isEmpty _=ah)).symm.trans h;refine List.isEmpty_iff.mpr (List.filter_eq_nil_iff.mpr λn hn h=>?_);exact nomatch (bn7 hl (ak0 hn)).symm.trans h
 have e:∀(l:J ai)(k:H)(b:J (ai×aA))(f:ai×aA->J (ai×aA)->dJ (am9 (J (ai×aA)))),forIn (l.zip (cz9 k ([]:J aA))) b f=pure b:=λl k b f=>by rw[List.drop_nil,List.zip_nil_right];rfl
 refine(bQ (·>>=_) (e _ _ _ _)).trans ?_;exact bQ (pure:_->dJ _) ((bQ (List.filterMap _) (j3 _)).trans (bn6 nd hl))
section
open PS renaming dm->eN,ret->bF,raise->gj,asg->aW,ex->bu,«for»->iO
open PE renaming cmp->aN,cN->jy,bi->dj,bin->bh,aG->aH,jB->lC,aV->aX,cI->aj,call->aC,gl->ay,gP->jz,tup->b5,neg->jn,lst->cP,cS->cK,sub->gM,comp->gR,fz->fq,iz->m8
open PySem.NameKind renaming «local»->aq
structure Fn where
 a:aR
 c:J PS
 ps:J (ai×bq D)
 nms:J (ai×cJ)
def pa(l:J ai):J (ai×bq D):=l.map λx=>(x,ao)
def bn9:Fn:=⟨Zm,[eN (.Y aK) bH (.Y bH),eN (.Y aK) cD (.Y cD),eN (.Y aK) sY (.ite (aN .Is (.Y sY) jy) (dj .len ak [.Y bH]) (.Y sY))],[(aK,ao),(bH,ao),(cD,N (.int 0)),(sY,N .none)],[(aK,aq),(bH,aq),(cD,aq),(sY,aq)]⟩
def bo0:Fn:=⟨BL,[bF (bh .Sub (aH (.Y aK) sY) (aH (.Y aK) cD))],pa [aK],[(aK,aq)]⟩
def bo1:Fn:=⟨GV,[bF (aN .GtE (aH (.Y aK) cD) (aH (.Y aK) sY))],pa [aK],[(aK,aq)]⟩
def bo2:Fn:=⟨GW,[.ite (aN .GtE (aH (.Y aK) cD) (aH (.Y aK) sY)) [gj] [],bF (lC (aH (.Y aK) bH) (aH (.Y aK) cD))],pa [aK],[(aK,aq)]⟩
def bo3:Fn:=⟨qg,[aW dQ (aX (.Y aK) Lg []),eN (.Y aK) cD (bh .Add (aH (.Y aK) cD) (aj 1)),bF (.Y dQ)],pa [aK],[(aK,aq),(dQ,aq)]⟩
def bo4:Fn:=⟨BN,[.ite (aN .Gt (.Y d7) (aX (.Y aK) nP [])) [gj] [],aW dQ (dj .bytes ak [.ur (aH (.Y aK) bH) (N (aH (.Y aK) cD)) (N (bh .Add (aH (.Y aK) cD) (.Y d7)))]),eN (.Y aK) cD (bh .Add (aH (.Y aK) cD) (.Y d7)),bF (.Y dQ)],pa [aK,d7],[(aK,aq),(d7,aq),(dQ,aq)]⟩
def bo5:Fn:=⟨GX,[.ite (aN .Gt (.Y d7) (aX (.Y aK) nP [])) [gj] [],aW dQ (aC (ay 0) [aH (.Y aK) bH,aH (.Y aK) cD,bh .Add (aH (.Y aK) cD) (.Y d7)]),eN (.Y aK) cD (bh .Add (aH (.Y aK) cD) (.Y d7)),bF (.Y dQ)],pa [aK,d7],[(aK,aq),(d7,aq),(dQ,aq)]⟩
def bo6:Fn:=⟨Ln,[.vF [dQ,rL,sX] [aj 0,aj 0,aH (.Y aK) cD],.sW [nP,eB] (.cB ah) [aW eB (aX (.Y aK) eB []),aW nP (bh .Sub (.Y qJ) (.Y rL)),.ite (jz .And [aN .Lt (.Y nP) (aj 7),aN .NotEq (bh .RShift (bh .BitAnd (.Y eB) (aj 127)) (.Y nP)) (aj 0)]) [gj] [],.ite (jz .And [aN .LtE (.Y nP) (aj 7),aN .GtE (.Y eB) (aj 128)]) [gj] [],aW dQ (bh .Add (.Y dQ) (bh .LShift (bh .BitAnd (.Y eB) (aj 127)) (.Y rL))),.ite (aN .Lt (.Y eB) (aj 128)) [bF (.Y dQ)] [],aW rL (bh .Add (.Y rL) (aj 7))]],pa [aK,qJ],[(aK,aq),(qJ,aq),(sX,aq),(dQ,aq),(nP,aq),(eB,aq),(rL,aq)]⟩
def bo7:Fn:=⟨BO,[.vF [dQ,rL,sX] [aj 0,aj 0,aH (.Y aK) cD],.sW [nP,eB] (.cB ah) [aW eB (aX (.Y aK) eB []),aW nP (bh .Sub (.Y qJ) (.Y rL)),.ite (jz .And [aN .Lt (.Y nP) (aj 7),aN .NotIn (bh .RShift (bh .BitAnd (.Y eB) (aj 127)) (bh .Sub (.Y nP) (aj 1))) (b5 [aj 0,bh .RShift (aj 127) (bh .Sub (.Y nP) (aj 1))])]) [gj] [],.ite (jz .And [aN .LtE (.Y nP) (aj 7),aN .GtE (.Y eB) (aj 128)]) [gj] [],aW dQ (bh .Add (.Y dQ) (bh .LShift (bh .BitAnd (.Y eB) (aj 127)) (.Y rL))),aW rL (bh .Add (.Y rL) (aj 7)),.ite (aN .Lt (.Y eB) (aj 128)) [bF (.ite (bh .BitAnd (.Y eB) (aj 64)) (bh .Sub (.Y dQ) (bh .LShift (aj 1) (.Y rL))) (.Y dQ))] []]],pa [aK,qJ],[(aK,aq),(qJ,aq),(sX,aq),(dQ,aq),(nP,aq),(eB,aq),(rL,aq)]⟩
def bo8:Fn:=⟨mF,[bF (aX (.Y aK) l6 [aj 32])],pa [aK],[(aK,aq)]⟩
def bo9:Fn:=⟨GY,[bF (aX (.Y aK) z9 [aj 7])],pa [aK],[(aK,aq)]⟩
def bp0:Fn:=⟨Rn,[bF (aX (.Y aK) z9 [aj 32])],pa [aK],[(aK,aq)]⟩
def bp1:Fn:=⟨Ro,[bF (aX (.Y aK) z9 [aj 33])],pa [aK],[(aK,aq)]⟩
def bp2:Fn:=⟨Rp,[bF (aX (.Y aK) z9 [aj 64])],pa [aK],[(aK,aq)]⟩
def bp3:Fn:=⟨GZ,[aW d7 (aX (.Y aK) jU []),.ite (aN .Gt (.Y d7) (aX (.Y aK) nP [])) [gj] [],aW sX (aH (.Y aK) cD),bF (aC (ay 1) [aX (.Y aK) DU [.Y d7],.Y sX])],pa [aK],[(aK,aq),(sX,aq),(d7,aq)]⟩
def bp4:Fn:=⟨Zn,[eN (.Y aK) bH (dj .bytearray ah [])],pa [aK],[(aK,aq)]⟩
def bp5:Fn:=⟨s8,[bu (aX (aH (.Y aK) bH) gp [.Y bw])],pa [aK,bw],[(aK,aq),(bw,aq)]⟩
def bp6:Fn:=⟨G0,[bu (aX (aH (.Y aK) bH) oj [.Y bH])],pa [aK,bH],[(aK,aq),(bH,aq)]⟩
def bp7:Fn:=⟨qh,[.ite (aN .Lt (.Y bw) (aj 0)) [gj] [],.sW [] (aN .GtE (.Y bw) (aj 128)) [bu (aX (aH (.Y aK) bH) gp [bh .BitOr (bh .BitAnd (.Y bw) (aj 127)) (aj 128)]),aW bw (bh .RShift (.Y bw) (aj 7))],bu (aX (aH (.Y aK) bH) gp [.Y bw])],pa [aK,bw],[(aK,aq),(bw,aq)]⟩
def tJ:J PS:=[bu (aX (aH (.Y aK) bH) gp [bh .BitOr (bh .BitAnd (.Y bw) (aj 127)) (aj 128)]),aW bw (bh .RShift (.Y bw) (aj 7))]
def bp8:Fn:=⟨Lo,[.sW [] (.not (.o4 .Lt (jn (aj 64)) (.Y bw) (aj 64))) tJ,bu (aX (aH (.Y aK) bH) gp [bh .BitAnd (.Y bw) (aj 127)])],pa [aK,bw],[(aK,aq),(bw,aq)]⟩
def bp9:Fn:=⟨Ai,[bu (aX (.Y aK) l6 [.Y bw])],pa [aK,bw],[(aK,aq),(bw,aq)]⟩
def bq0:Fn:=⟨G1,[aW bH (aC (ay 2) [.Y yg]),bu (aX (.Y aK) l6 [dj .len ak [.Y bH]]),bu (aX (aH (.Y aK) bH) oj [.Y bH])],pa [aK,yg],[(aK,aq),(yg,aq),(bH,aq)]⟩
def bq1:Fn:=⟨G2,[bu (aX (.Y aK) l6 [dj .len ak [aH (.Y bK) bH]]),bu (aX (aH (.Y aK) bH) oj [aH (.Y bK) bH])],pa [aK,bK],[(aK,aq),(bK,aq)]⟩
def bq2:Fn:=⟨Lq,[aW dQ (dj .bytearray ah []),iO [j8,Lh] [Lh] ah (.Y yg) [aW j8 (dj .ord ak [.Y Lh]),.ite (.o4 .Lt (aj 55296) (.Y j8) (aj 57344)) [gj] [],.ite (aN .Lt (.Y j8) (aj 128)) [bu (aX (.Y dQ) gp [.Y j8])] [.ite (aN .Lt (.Y j8) (aj 2048)) [bu (aX (.Y dQ) oj [cP ak [bh .BitOr (aj 192) (bh .RShift (.Y j8) (aj 6)),bh .BitOr (aj 128) (bh .BitAnd (.Y j8) (aj 63))]])] [.ite (aN .Lt (.Y j8) (aj 65536)) [bu (aX (.Y dQ) oj [cP ak [bh .BitOr (aj 224) (bh .RShift (.Y j8) (aj 12)),bh .BitOr (aj 128) (bh .BitAnd (bh .RShift (.Y j8) (aj 6)) (aj 63)),bh .BitOr (aj 128) (bh .BitAnd (.Y j8) (aj 63))]])] [bu (aX (.Y dQ) oj [cP ak [bh .BitOr (aj 240) (bh .RShift (.Y j8) (aj 18)),bh .BitOr (aj 128) (bh .BitAnd (bh .RShift (.Y j8) (aj 12)) (aj 63)),bh .BitOr (aj 128) (bh .BitAnd (bh .RShift (.Y j8) (aj 6)) (aj 63)),bh .BitOr (aj 128) (bh .BitAnd (.Y j8) (aj 63))]])]]]],bF (dj .bytes ak [.Y dQ])],pa [yg],[(yg,aq),(dQ,aq),(j8,aq),(Lh,aq)]⟩
def t0:Fn:=⟨Lr,[.ite (aN .Lt (.Y eB) (aj 128)) [bF (b5 [aj 0,.Y eB,aj 0])] [],.ite (.o4 .Lt (aj 192) (.Y eB) (aj 224)) [bF (b5 [aj 1,bh .BitAnd (.Y eB) (aj 31),aj 128])] [],.ite (.o4 .Lt (aj 224) (.Y eB) (aj 240)) [bF (b5 [aj 2,bh .BitAnd (.Y eB) (aj 15),aj 2048])] [],.ite (.o4 .Lt (aj 240) (.Y eB) (aj 248)) [bF (b5 [aj 3,bh .BitAnd (.Y eB) (aj 7),aj 65536])] [],gj],pa [eB,cD],[(eB,aq),(cD,aq)]⟩
def bq3:Fn:=⟨Ls,[.vF [GP,cD] [cP ah [],aj 0],.sW [BA,fQ,eB,j8] (aN .Lt (.Y cD) (dj .len ak [.Y bH])) [.pW [BA,j8,fQ] (aC (ay 3) [lC (.Y bH) (.Y cD),bh .Add (.Y sX) (.Y cD)]),.ite (aN .GtE (bh .Add (.Y cD) (.Y BA)) (dj .len ak [.Y bH])) [gj] [],iO [eB] [eB] ah (.ur (.Y bH) (N (bh .Add (.Y cD) (aj 1))) (N (bh .Add (bh .Add (.Y cD) (aj 1)) (.Y BA)))) [.ite (aN .NotEq (bh .BitAnd (.Y eB) (aj 192)) (aj 128)) [gj] [],aW j8 (bh .BitOr (bh .LShift (.Y j8) (aj 6)) (bh .BitAnd (.Y eB) (aj 63)))],.ite (jz .Or [aN .Lt (.Y j8) (.Y fQ),aN .Gt (.Y j8) (aj 1114111),.o4 .Lt (aj 55296) (.Y j8) (aj 57344)]) [gj] [],bu (aX (.Y GP) gp [dj .chr ak [.Y j8]]),aW cD (bh .Add (bh .Add (.Y cD) (aj 1)) (.Y BA))],bF (aX (cK t_) (az [106,111,105,110]) [.Y GP])],pa [bH,sX],[(bH,aq),(sX,aq),(cD,aq),(BA,aq),(fQ,aq),(eB,aq),(j8,aq),(GP,aq)]⟩
def bq4:Fn:=⟨Lu,[.ite (aN .NotEq (aX (.Y bx) DU [dj .len ak [ay 4]]) (ay 4)) [gj] [],.ite (aN .NotEq (aX (.Y bx) DU [dj .len ak [ay 5]]) (ay 5)) [gj] []],pa [bx],[(bx,aq)]⟩
def bq5:Fn:=⟨G3,[.ite (.not (aX (.Y fK) GI [])) [gj] []],pa [fK],[(fK,aq)]⟩
def bq6:Fn:=⟨Lv,[aW dX (aX (.Y fK) dX []),bF (b5 [.Y dX,aX (.Y fK) DU [aX (.Y fK) nP []]])],pa [fK],[(fK,aq),(dX,aq)]⟩
def bq7:Fn:=⟨Zo,[eN (.Y aK) bx (aC (ay 0) [.Y bH]),eN (.Y aK) dM (jn (aj 1)),bu (aC (ay 6) [aH (.Y aK) bx])],pa [aK,bH],[(aK,aq),(bH,aq)]⟩
def bq8:Fn:=⟨Rq,[bF (aX (aH (.Y aK) bx) GI [])],pa [aK],[(aK,aq)]⟩
def bq9:Fn:=⟨Rr,[aW cD (aH (aH (.Y aK) bx) cD),aW bw (aX (aH (.Y aK) bx) eB []),.ite (aN .Gt (.Y bw) (ay 7)) [gj] [],aW fK (aX (aH (.Y aK) bx) fK [aX (aH (.Y aK) bx) jU []]),.ite (aN .NotEq (.Y bw) (ay 8)) [aW dM (aX (ay 9) lF [.Y bw]),.ite (aN .LtE (.Y dM) (aH (.Y aK) dM)) [gj] [],eN (.Y aK) dM (.Y dM)] [],bF (b5 [.Y bw,.Y fK])],pa [aK],[(aK,aq),(cD,aq),(bw,aq),(fK,aq),(dM,aq)]⟩
def uk:J PS:=[.ite (.o4 .LtE (.Y fQ) (.Y d8) (.Y f7)) [bF (b5 [.Y kW,.Y om])] []]
def br0:Fn:=⟨Lw,[iO [fQ,f7,kW,om] [fQ,f7,kW,om] ak (ay 10) uk,bF jy],pa [d8],[(d8,aq),(fQ,aq),(f7,aq),(kW,aq),(om,aq)]⟩
def br1:Fn:=⟨D8,[.ite (aN .In (.Y d8) (ay 11)) [bF (gM (ay 11) (.Y d8))] [],.ite (jz .Or [aN .In (.Y d8) (ay 12),aN .In (.Y d8) (ay 13)]) [bF (cK D3)] [],bF (.ite (aN .Is (aC (ay 14) [.Y d8]) jy) jy (cK qe))],pa [d8],[(d8,aq)]⟩
def br2:Fn:=⟨Ly,[bF (aN .In (.Y d8) (b5 [ay 15,ay 16,ay 17]))],pa [d8],[(d8,aq)]⟩
def br4:Fn:=⟨Lz,[.ite (aN .Eq (.Y d8) (ay 18)) [bF (.cB ah)] [],bF (dj .any ak [gR ak [d8] [fQ,f7] ak (ay 19) [] (.o4 .LtE (.Y fQ) (.Y d8) (.Y f7))])],pa [d8],[(d8,.cell)]⟩
def br5:Fn:=⟨aB7,[eN (.Y aK) dM (.Y dM),eN (.Y aK) dX (.Y dX),eN (.Y aK) fR (.Y fR),eN (.Y aK) i6 (.Y i6)],pa [aK,dM,dX,fR,i6],[(aK,aq),(dM,aq),(dX,aq),(fR,aq),(i6,aq)]⟩
def br6:Fn:=⟨Rt,[bF (b5 [aH (.Y aK) dM,aH (.Y aK) dX,aH (.Y aK) fR,aH (.Y aK) i6])],pa [aK],[(aK,aq)]⟩
def br7:Fn:=⟨aB8,[eN (.Y aK) bW (.Y bW),eN (.Y aK) z8 (.Y DT),eN (.Y aK) dK (.Y dK)],pa [aK,bW,DT,dK],[(aK,aq),(bW,aq),(DT,aq),(dK,aq)]⟩
def br8:Fn:=⟨Ru,[bF (b5 [aH (.Y aK) bW,dj .tuple ak [aH (.Y aK) z8],dj .tuple ak [aH (.Y aK) dK]])],pa [aK],[(aK,aq)]⟩
def br9:Fn:=⟨aB9,[eN (.Y aK) bW (.Y bW),eN (.Y aK) jT (.Y jT),eN (.Y aK) dK (.Y dK)],pa [aK,bW,jT,dK],[(aK,aq),(bW,aq),(jT,aq),(dK,aq)]⟩
def bs0:Fn:=⟨Rv,[bF (b5 [aH (.Y aK) bW,aH (.Y aK) jT,dj .tuple ak [aH (.Y aK) dK]])],pa [aK],[(aK,aq)]⟩
def bs1:Fn:=⟨aC0,[eN (.Y aK) fZ (.Y fZ),eN (.Y aK) kY (.Y kY),eN (.Y aK) iA (.Y iA),eN (.Y aK) bW (.Y bW),eN (.Y aK) kr (.Y kr)],pa [aK,fZ,kY,iA,bW,kr],[(aK,aq),(fZ,aq),(kY,aq),(iA,aq),(bW,aq),(kr,aq)]⟩
def bs2:Fn:=⟨Rw,[aW iA (.ite (aN .Is (aH (.Y aK) iA) jy) jy (dj .tuple ak [aH (.Y aK) iA])),bF (b5 [aH (.Y aK) fZ,aH (.Y aK) kY,.Y iA,aH (.Y aK) bW,dj .tuple ak [gR ak [] [dK] ah (aH (.Y aK) kr) [] (dj .tuple ak [.Y dK])]])],pa [aK],[(aK,aq),(iA,aq)]⟩
def bs3:Fn:=⟨aC1,[eN (.Y aK) fZ (.Y fZ),eN (.Y aK) nh (.Y nh),eN (.Y aK) iA (.Y iA),eN (.Y aK) bH (.Y bH)],pa [aK,fZ,nh,iA,bH],[(aK,aq),(fZ,aq),(nh,aq),(iA,aq),(bH,aq)]⟩
def bs4:Fn:=⟨Rx,[bF (b5 [aH (.Y aK) fZ,aH (.Y aK) nh,.ite (aN .Is (aH (.Y aK) iA) jy) jy (dj .tuple ak [aH (.Y aK) iA]),dj .bytes ak [aH (.Y aK) bH]])],pa [aK],[(aK,aq)]⟩
def bs5:Fn:=⟨aC2,[eN (.Y aK) dX (.Y dX),eN (.Y aK) bH (.Y bH),eN (.Y aK) rK (.Y rK)],pa [aK,dX,bH,rK],[(aK,aq),(dX,aq),(bH,aq),(rK,aq)]⟩
def bs6:Fn:=⟨Ry,[bF (b5 [aH (.Y aK) dX,dj .bytes ak [aH (.Y aK) bH],aH (.Y aK) rK])],pa [aK],[(aK,aq)]⟩
def bs7:Fn:=⟨LA,[eN (.Y aK) fy (cP ah []),eN (.Y aK) p_ (cP ah []),eN (.Y aK) mE (cP ah []),eN (.Y aK) qd (cP ah []),eN (.Y aK) qc (cP ah []),eN (.Y aK) pZ (cP ah []),eN (.Y aK) pY (cP ah []),eN (.Y aK) nR jy,eN (.Y aK) pX (cP ah []),eN (.Y aK) nO (cP ah []),eN (.Y aK) qK (cP ah [])],pa [aK],[(aK,aq)]⟩
def bs8:Fn:=⟨Rz,[aW GL (cP ak [dj .tuple ak [aH (.Y aK) fy],aC (ay 20) [aH (.Y aK) p_],aC (ay 20) [aH (.Y aK) mE],dj .tuple ak [aH (.Y aK) qd]]),aW GL (bh .Add (.Y GL) (cP ak [dj .tuple ak [aH (.Y aK) qc],aC (ay 20) [aH (.Y aK) pZ],dj .tuple ak [aH (.Y aK) pY],aH (.Y aK) nR])),bF (dj .tuple ak [bh .Add (.Y GL) (cP ak [aC (ay 20) [aH (.Y aK) pX],aC (ay 20) [aH (.Y aK) nO],aC (ay 20) [aH (.Y aK) qK]])])],pa [aK],[(aK,aq),(GL,aq)]⟩
def bs9:Fn:=⟨D9,[bF (gR ak [] [lR] ah (aH (.Y aK) mE) [] (aH (.Y lR) dK))],pa [aK],[(aK,aq)]⟩
def bt0:Fn:=⟨LB,[bF (dj .tuple ak [gR ak [] [yh] ah (.Y z_) [] (aX (.Y yh) qL [])])],pa [z_],[(z_,aq)]⟩
def ul:J PS:=[.ite (dj .any ak [gR ak [] [lT] ah (.Y dK) [] (aN .In (gM (.Y lT) (aj 0)) (b5 [ay 21,ay 22]))]) [bF (.cB ah)] []]
def bt1:Fn:=⟨G4,[iO [dK] [dK] ah (aX (.Y bI) Za []) ul,bF (.cB ak)],pa [bI],[(bI,aq),(dK,aq)]⟩
def bt2:Fn:=⟨wY,[bu (aX (.Y bK) eB [bh .BitAnd (.Y bW) (ay 23)])],pa [bK,bW],[(bK,aq),(bW,aq)]⟩
def bt3:Fn:=⟨G5,[bu (aX (.Y bK) d7 [dj .len ak [.Y fy]]),iO [bW] [bW] ah (.Y fy) [bu (aC (ay 24) [.Y bK,.Y bW])]],pa [bK,fy],[(bK,aq),(fy,aq),(bW,aq)]⟩
def bt4:Fn:=⟨G6,[bu (aX (.Y bK) eB [.ite (aN .Is (.Y f7) jy) (aj 0) (aj 1)]),bu (aX (.Y bK) l6 [.Y fQ]),.ite (aN .IsNot (.Y f7) jy) [bu (aX (.Y bK) l6 [.Y f7])] []],pa [bK,fQ,f7],[(bK,aq),(fQ,aq),(f7,aq)]⟩
def bt5:Fn:=⟨D_,[.pW [kW,om] (.Y bW),bu (aX (.Y bK) eB [ay 25]),bu (aC (ay 26) [.Y bK,.Y kW]),bu (aC (ay 26) [.Y bK,.Y om])],pa [bK,bW],[(bK,aq),(bW,aq),(kW,aq),(om,aq)]⟩
def bt6:Fn:=⟨BQ,[.pW [bW,fQ,f7] (.Y i6),bu (aC (ay 24) [.Y bK,.Y bW]),bu (aC (ay 27) [.Y bK,.Y fQ,.Y f7])],pa [bK,i6],[(bK,aq),(i6,aq),(bW,aq),(fQ,aq),(f7,aq)]⟩
def bt7:Fn:=⟨BS,[.pW [fQ,f7] (.Y i6),bu (aC (ay 27) [.Y bK,.Y fQ,.Y f7])],pa [bK,i6],[(bK,aq),(i6,aq),(fQ,aq),(f7,aq)]⟩
def bt8:Fn:=⟨G7,[.pW [bW,jT] (.Y i6),bu (aC (ay 24) [.Y bK,.Y bW]),bu (aX (.Y bK) eB [.Y jT])],pa [bK,i6],[(bK,aq),(i6,aq),(bW,aq),(jT,aq)]⟩
def bt9:Fn:=⟨Ea,[bu (aX (.Y bK) dX [aH (.Y aM) dM]),bu (aX (.Y bK) dX [aH (.Y aM) dX]),bu (aX (.Y bK) eB [aH (.Y aM) fR]),.ite (aN .Eq (aH (.Y aM) fR) (aj 0)) [bu (aX (.Y bK) l6 [aH (.Y aM) i6])] [.ite (aN .Eq (aH (.Y aM) fR) (aj 1)) [bu (aC (ay 28) [.Y bK,aH (.Y aM) i6])] [.ite (aN .Eq (aH (.Y aM) fR) (aj 2)) [bu (aC (ay 29) [.Y bK,aH (.Y aM) i6])] [.ite (aN .Eq (aH (.Y aM) fR) (aj 3)) [bu (aC (ay 30) [.Y bK,aH (.Y aM) i6])] [gj]]]]],pa [bK,aM],[(bK,aq),(aM,aq)]⟩
def bu0:Fn:=⟨Eb,[.pW [dX,fR,lF] (.Y aM),bu (aX (.Y bK) dX [.Y dX]),bu (aX (.Y bK) eB [.Y fR]),bu (aX (.Y bK) l6 [.Y lF])],pa [bK,aM],[(bK,aq),(aM,aq),(lF,aq),(dX,aq),(fR,aq)]⟩
def bu1:Fn:=⟨Ec,[bu (aC (ay 30) [.Y bK,b5 [aH (.Y aM) bW,aH (.Y aM) jT]]),bu (aC (ay 31) [.Y bK,aH (.Y aM) dK])],pa [bK,aM],[(bK,aq),(aM,aq)]⟩
def bu2:Fn:=⟨LD,[.ite (aN .Lt (.Y bW) (aj 0)) [bu (aC (ay 24) [.Y bK,.Y bW])] [bu (aX (.Y bK) z9 [.Y bW])]],pa [bK,bW],[(bK,aq),(bW,aq)]⟩
def bu3:Fn:=⟨LG,[.ite (aN .Lt (.Y d8) (ay 32)) [bu (aX (.Y bK) eB [.Y d8])] [bu (aX (.Y bK) eB [ay 33]),bu (aX (.Y bK) l6 [bh .Sub (.Y d8) (ay 32)])]],pa [bK,d8],[(bK,aq),(d8,aq)]⟩
def bu4:Fn:=⟨G8,[iO [bw] [bw] ah (.Y uD) [bu (aX (.Y bK) l6 [.Y bw])]],pa [bK,uD],[(bK,aq),(uD,aq),(bw,aq)]⟩
def un:Fn:=⟨LH,[.ite (aN .Eq (.Y gz) (cK Ac)) [bu (aC (ay 34) [.Y bK,gM (.Y uD) (aj 0)])] [.ite (aN .In (.Y gz) (b5 [cK DW,cK DX])) [bu (aX (.Y bK) z9 [gM (.Y uD) (aj 0)])] [.ite (aN .Eq (.Y gz) (cK D5)) [bu (aC (ay 24) [.Y bK,gM (.Y uD) (aj 0)])] [.ite (aN .Eq (.Y gz) (cK DY)) [bu (aC (ay 26) [.Y bK,.Y uD])] [.ite (aN .Eq (.Y gz) (cK D0)) [bu (aX (.Y bK) d7 [bh .Sub (dj .len ak [.Y uD]) (aj 1)]),bu (aC (ay 35) [.Y bK,.Y uD])] [bu (aC (ay 35) [.Y bK,.Y uD]),.ite (aN .In (.Y gz) (b5 [cK BH,cK D4,cK BI])) [bu (aX (.Y bK) eB [aj 0])] [],.ite (aN .Eq (.Y gz) (cK BI)) [bu (aX (.Y bK) eB [aj 0])] []]]]]]],pa [bK,gz,uD],[(bK,aq),(gz,aq),(uD,aq)]⟩
def bu5:Fn:=⟨LI,[aW d8 (gM (.Y lT) (aj 0)),aW gz (aC (ay 36) [.Y d8]),.ite (aN .Is (.Y gz) jy) [gj] [],bu (aC (ay 37) [.Y bK,.Y d8]),bu (aC (ay 38) [.Y bK,.Y gz,.ur (.Y lT) (N (aj 1)) ao])],pa [bK,lT],[(bK,aq),(lT,aq),(d8,aq),(gz,aq)]⟩
def bu6:Fn:=⟨BU,[iO [lT] [lT] ah (.Y dK) [bu (aC (ay 39) [.Y bK,.Y lT])]],pa [bK,dK],[(bK,aq),(dK,aq),(lT,aq)]⟩
def bu7:Fn:=⟨LJ,[.ite (jz .And [aN .Eq (dj .len ak [.Y lG]) (aj 2),aN .Eq (gM (gM (.Y lG) (aj 0)) (aj 0)) (ay 40),aN .Eq (gM (.Y lG) (aj 1)) (b5 [ay 41])]) [bF (gM (gM (.Y lG) (aj 0)) (aj 1))] [],bF jy],pa [lG],[(lG,aq)]⟩
def NR:J PS:=[aW DQ (gR ak [] [lG] ah (aH (.Y aM) kr) [] (aC (ay 42) [.Y lG])),aW uy (jz .Or [aN .NotEq (aH (.Y aM) bW) (ay 43),aN .In jy (.Y DQ)]),aW GJ (jz .And [aN .Eq (aH (.Y aM) fZ) (ay 44),aN .Eq (aH (.Y aM) kY) (aj 0),aN .Eq (aH (.Y aM) bW) (ay 43)]),aW gS (.ite (.Y GJ) (aj 0) (gM (.z5 [((ay 45),(aj 1)),((ay 44),(aj 2)),((ay 46),(aj 3))]) (aH (.Y aM) fZ))),bu (aX (.Y bK) l6 [.ite (.Y uy) (bh .Add (.Y gS) (aj 4)) (.Y gS)]),.ite (aN .Eq (.Y gS) (aj 2)) [bu (aX (.Y bK) l6 [aH (.Y aM) kY])] [],.ite (aN .Eq (aH (.Y aM) fZ) (ay 44)) [bu (aC (ay 31) [.Y bK,aH (.Y aM) iA])] [],.ite (aN .NotEq (.Y gS) (aj 0)) [.ite (.Y uy) [bu (aC (ay 24) [.Y bK,aH (.Y aM) bW])] [bu (aX (.Y bK) eB [aj 0])]] [],bu (aX (.Y bK) d7 [dj .len ak [aH (.Y aM) kr]]),.ite (.Y uy) [iO [lG] [lG] ah (aH (.Y aM) kr) [bu (aC (ay 31) [.Y bK,.Y lG])]] [bu (aC (ay 35) [.Y bK,.Y DQ])]]
def bu8:Fn:=⟨Ed,NR,pa [bK,aM],[(bK,aq),(aM,aq),(uy,aq),(DQ,aq),(lG,aq),(GJ,aq),(gS,aq)]⟩
def bu9:Fn:=⟨Ef,[.ite (aN .Eq (aH (.Y aM) fZ) (ay 45)) [bu (aX (.Y bK) l6 [aj 1])] [.ite (aN .Eq (aH (.Y aM) nh) (aj 0)) [bu (aX (.Y bK) l6 [aj 0])] [bu (aX (.Y bK) l6 [aj 2]),bu (aX (.Y bK) l6 [aH (.Y aM) nh])]],.ite (aN .Eq (aH (.Y aM) fZ) (ay 44)) [bu (aC (ay 31) [.Y bK,aH (.Y aM) iA])] [],bu (aX (.Y bK) d7 [dj .len ak [aH (.Y aM) bH]]),bu (aX (.Y bK) yf [aH (.Y aM) bH])],pa [bK,aM],[(bK,aq),(aM,aq)]⟩
def bv0:Fn:=⟨LK,[aW kX (cP ah []),iO [bW] [bW] ah (.Y fy) [.ite (jz .And [aN .NotEq (.Y kX) (cP ak []),aN .Eq (gM (gM (.Y kX) (jn (aj 1))) (aj 1)) (.Y bW)]) [.x_ (.Y kX) (jn (aj 1)) (b5 [bh .Add (gM (gM (.Y kX) (jn (aj 1))) (aj 0)) (aj 1),.Y bW])] [bu (aX (.Y kX) gp [b5 [aj 1,.Y bW]])]],bF (fq (.Y kX))],pa [fy],[(fy,aq),(bW,aq),(kX,aq)]⟩
def bv1:Fn:=⟨LL,[aW kX (aC (ay 47) [.Y fy]),bu (aX (.Y bK) d7 [dj .len ak [.Y kX]]),iO [bW,d7] [d7,bW] ak (.Y kX) [bu (aX (.Y bK) l6 [.Y d7]),bu (aC (ay 24) [.Y bK,.Y bW])]],pa [bK,fy],[(bK,aq),(fy,aq),(bW,aq),(d7,aq),(kX,aq)]⟩
def bv2:Fn:=⟨Eg,[aW kU (aC (ay 48) []),bu (aC (ay 49) [.Y kU,aH (.Y aM) z8]),bu (aC (ay 31) [.Y kU,aH (.Y aM) dK]),bu (aX (.Y bK) Li [.Y kU])],pa [bK,aM],[(bK,aq),(aM,aq),(kU,aq)]⟩
def bv3:Fn:=⟨Eh,[bu (aX (.Y bK) l6 [aH (.Y aM) bW])],pa [bK,aM],[(bK,aq),(aM,aq)]⟩
def ut:J PS:=[bu (aC (.Y yf) [.Y bK,.Y yh])]
def bv4:Fn:=⟨G9,[bu (aX (.Y bK) d7 [dj .len ak [.Y z_]]),iO [yh] [yh] ah (.Y z_) ut],pa [bK,z_,yf],[(bK,aq),(z_,aq),(yf,aq),(yh,aq)]⟩
def vi:Fn:=⟨uE,[.ite (aN .Eq (.Y bw) (aj 1)) [bF (aN .NotEq (aH (.Y bI) fy) (cP ak []))] [],.ite (aN .Eq (.Y bw) (aj 2)) [bF (aN .NotEq (aH (.Y bI) p_) (cP ak []))] [],.ite (aN .In (.Y bw) (b5 [aj 3,aj 10])) [bF (aN .NotEq (aH (.Y bI) mE) (cP ak []))] [],.ite (aN .Eq (.Y bw) (aj 4)) [bF (aN .NotEq (aH (.Y bI) qd) (cP ak []))] [],.ite (aN .Eq (.Y bw) (aj 5)) [bF (aN .NotEq (aH (.Y bI) qc) (cP ak []))] [],.ite (aN .Eq (.Y bw) (aj 6)) [bF (aN .NotEq (aH (.Y bI) pZ) (cP ak []))] [],.ite (aN .Eq (.Y bw) (aj 7)) [bF (aN .NotEq (aH (.Y bI) pY) (cP ak []))] [],.ite (aN .Eq (.Y bw) (aj 8)) [bF (aN .IsNot (aH (.Y bI) nR) jy)] [],.ite (aN .Eq (.Y bw) (aj 9)) [bF (aN .NotEq (aH (.Y bI) pX) (cP ak []))] [],.ite (aN .Eq (.Y bw) (aj 11)) [bF (aN .NotEq (aH (.Y bI) nO) (cP ak []))] [],bF (aC (ay 50) [.Y bI])],pa [bI,bw],[(bI,aq),(bw,aq)]⟩
def Uo:J PS:=[.ite (aC (ay 51) [.Y bI,.Y dM]) [aW dQ (.Y dM)] []]
def vk:Fn:=⟨G_,[aW dQ (aj 0),.ite (aN .Eq (.Y bw) (aj 0)) [bF (.Y dQ)] [],iO [dM] [dM] ah (.ur (ay 9) ao (N (bh .Add (aX (ay 9) lF [.Y bw]) (aj 1)))) Uo,bF (.Y dQ)],pa [bI,bw],[(bI,aq),(bw,aq),(dQ,aq),(dM,aq)]⟩
def vr:Fn:=⟨LN,[.ite (aN .Eq (.Y bw) (aj 1)) [bu (aC (ay 52) [.Y bK,aH (.Y bI) fy,ay 53])] [.ite (aN .Eq (.Y bw) (aj 2)) [bu (aC (ay 52) [.Y bK,aH (.Y bI) p_,ay 54])] [.ite (aN .Eq (.Y bw) (aj 3)) [bu (aC (ay 52) [.Y bK,aH (.Y bI) mE,ay 55])] [.ite (aN .Eq (.Y bw) (aj 4)) [bu (aC (ay 52) [.Y bK,aH (.Y bI) qd,ay 28])] [.ite (aN .Eq (.Y bw) (aj 5)) [bu (aC (ay 52) [.Y bK,aH (.Y bI) qc,ay 29])] [.ite (aN .Eq (.Y bw) (aj 6)) [bu (aC (ay 52) [.Y bK,aH (.Y bI) pZ,ay 56])] [.ite (aN .Eq (.Y bw) (aj 7)) [bu (aC (ay 52) [.Y bK,aH (.Y bI) pY,ay 57])] [.ite (aN .Eq (.Y bw) (aj 8)) [bu (aX (.Y bK) l6 [aH (.Y bI) nR])] [.ite (aN .Eq (.Y bw) (aj 9)) [bu (aC (ay 52) [.Y bK,aH (.Y bI) pX,ay 58])] [.ite (aN .Eq (.Y bw) (aj 10)) [bu (aC (ay 52) [.Y bK,aH (.Y bI) mE,ay 59])] [.ite (aN .Eq (.Y bw) (aj 11)) [bu (aC (ay 52) [.Y bK,aH (.Y bI) nO,ay 60])] [bu (aX (.Y bK) l6 [dj .len ak [aH (.Y bI) nO]])]]]]]]]]]]]],pa [bK,bI,bw],[(bK,aq),(bI,aq),(bw,aq)]⟩
def bv5:Fn:=⟨LO,[aW kU (aC (ay 48) []),bu (aC (ay 61) [.Y kU,.Y bI,.Y bw]),bu (aX (.Y bK) eB [.Y bw]),bu (aX (.Y bK) Li [.Y kU])],pa [bK,bI,bw],[(bK,aq),(bI,aq),(bw,aq),(kU,aq)]⟩
def vw:J PS:=[.ite (aN .Eq (.Y dM) (.Y bw)) [aW kU (aC (ay 48) []),bu (aX (.Y kU) dX [aH (.Y jS) dX]),bu (aX (.Y kU) yf [aH (.Y jS) bH]),bu (aX (.Y bK) eB [aj 0]),bu (aX (.Y bK) Li [.Y kU])] []]
def bv6:Fn:=⟨LP,[.DP [jS,kU,dM] jS dM (aH (.Y bI) qK) (.Y ye) vw],pa [bK,bI,ye,bw],[(bK,aq),(bI,aq),(ye,aq),(bw,aq),(jS,aq),(kU,aq),(dM,aq)]⟩
def vx:J PS:=[.ite (aC (ay 51) [.Y bI,.Y bw]) [bu (aC (ay 64) [.Y bK,.Y bI,.Y bw]),bu (aC (ay 63) [.Y bK,.Y bI,.Y ye,.Y bw])] []]
def vy:J PS:=[aW bK (aC (ay 48) []),bu (aX (.Y bK) yf [ay 4]),bu (aX (.Y bK) yf [ay 5]),aW ye (gR ak [bI] [jS] ah (aH (.Y bI) qK) [] (aC (ay 62) [.Y bI,aH (.Y jS) rK])),bu (aC (ay 63) [.Y bK,.Y bI,.Y ye,aj 0]),iO [bw] [bw] ah (ay 9) vx,bF (dj .bytes ak [aH (.Y bK) bH])]
def bv7:Fn:=⟨LQ,vy,pa [bI],[(bI,.cell),(bw,aq),(ye,aq),(bK,aq)]⟩
def v0:J PS:=[bu (aX (.Y dQ) gp [aC (.Y fK) [.Y bx]])]
def bv8:Fn:=⟨w4,[aW dQ (cP ah []),iO [rM] [rM] ah (m8 (aX (.Y bx) jU [])) v0,bF (.Y dQ)],pa [bx,fK],[(bx,aq),(fK,aq),(dQ,aq),(rM,aq)]⟩
def bv9:Fn:=⟨Ei,[bF (aX (.Y bx) jU [])],pa [bx],[(bx,aq)]⟩
def v6:Fn:=⟨LR,[.ite (aN .In (.Y bW) (ay 65)) [gj] [],.ite (aN .Eq (.Y bW) (ay 66)) [gj] []],pa [bW,cD],[(bW,aq),(cD,aq)]⟩
def bw0:Fn:=⟨Hf,[aW cD (aH (.Y bx) cD),aW bW (aX (.Y bx) Rb []),bu (aC (ay 67) [.Y bW,.Y cD]),.ite (aN .NotIn (.Y bW) (b5 [ay 68,ay 69,ay 43,ay 70])) [gj] [],bF (.Y bW)],pa [bx,Zj],[(bx,aq),(Zj,aq),(cD,aq),(bW,aq)]⟩
def bw1:Fn:=⟨Ej,[bF (aC (ay 71) [.Y bx,cK (az [109,97,108,102,111,114,109,101,100,32,118,97,108,117,101,32,116,121,112,101])])],pa [bx],[(bx,aq)]⟩
def bw2:Fn:=⟨Ek,[aW cD (aH (.Y bx) cD),aW bW (aX (.Y bx) Rb []),.ite (aN .NotIn (.Y bW) (b5 [ay 43,ay 70])) [gj] [],bF (.Y bW)],pa [bx],[(bx,aq),(cD,aq),(bW,aq)]⟩
def bw3:Fn:=⟨LS,[aW cD (aH (.Y bx) cD),.ite (aN .NotEq (aX (.Y bx) eB []) (ay 25)) [gj] [],aW kW (dj .tuple ak [aC (ay 72) [.Y bx,ay 73]]),aW om (dj .tuple ak [aC (ay 72) [.Y bx,ay 73]]),bF (b5 [.Y kW,.Y om])],pa [bx],[(bx,aq),(cD,aq),(kW,aq),(om,aq)]⟩
def bw4:Fn:=⟨Hg,[aW cD (aH (.Y bx) cD),aW Lc (aX (.Y bx) eB []),.ite (aN .Gt (.Y Lc) (aj 1)) [gj] [],aW fQ (aX (.Y bx) jU []),bF (b5 [.Y fQ,.ite (aN .Eq (.Y Lc) (aj 1)) (aX (.Y bx) jU []) jy])],pa [bx],[(bx,aq),(cD,aq),(Lc,aq),(fQ,aq)]⟩
def bw5:Fn:=⟨Hh,[aW bW (aC (ay 74) [.Y bx]),.pW [fQ,f7] (aC (ay 75) [.Y bx]),bF (b5 [.Y bW,.Y fQ,.Y f7])],pa [bx],[(bx,aq),(bW,aq),(fQ,aq),(f7,aq)]⟩
def bw6:Fn:=⟨Hi,[bF (aC (ay 75) [.Y bx])],pa [bx],[(bx,aq)]⟩
def bw7:Fn:=⟨Hj,[aW bW (aC (ay 73) [.Y bx]),aW cD (aH (.Y bx) cD),aW jT (aX (.Y bx) eB []),.ite (aN .Gt (.Y jT) (aj 1)) [gj] [],bF (b5 [.Y bW,.Y jT])],pa [bx],[(bx,aq),(cD,aq),(bW,aq),(jT,aq)]⟩
def bw8:Fn:=⟨LU,[aW dM (aX (.Y bx) dX []),aW dX (aX (.Y bx) dX []),aW cD (aH (.Y bx) cD),aW fR (aX (.Y bx) eB []),.ite (aN .Eq (.Y fR) (aj 0)) [bF (fq (aC (ay 76) [.Y dM,.Y dX,.Y fR,aX (.Y bx) jU []]))] [],.ite (aN .Eq (.Y fR) (aj 1)) [bF (fq (aC (ay 76) [.Y dM,.Y dX,.Y fR,aC (ay 77) [.Y bx]]))] [],.ite (aN .Eq (.Y fR) (aj 2)) [bF (fq (aC (ay 76) [.Y dM,.Y dX,.Y fR,aC (ay 78) [.Y bx]]))] [],.ite (aN .Eq (.Y fR) (aj 3)) [bF (fq (aC (ay 76) [.Y dM,.Y dX,.Y fR,aC (ay 79) [.Y bx]]))] [],gj],pa [bx],[(bx,aq),(cD,aq),(dX,aq),(dM,aq),(fR,aq)]⟩
def bw9:Fn:=⟨LV,[aW dX (aX (.Y bx) dX []),aW cD (aH (.Y bx) cD),aW fR (aX (.Y bx) eB []),.ite (aN .Gt (.Y fR) (aj 3)) [gj] [],bF (b5 [.Y dX,.Y fR,aX (.Y bx) jU []])],pa [bx],[(bx,aq),(cD,aq),(dX,aq),(fR,aq)]⟩
def bx0:Fn:=⟨LW,[.pW [bW,jT] (aC (ay 79) [.Y bx]),bF (fq (aC (ay 80) [.Y bW,.Y jT,aC (ay 81) [.Y bx]]))],pa [bx],[(bx,aq),(bW,aq),(jT,aq)]⟩
def wd:Fn:=⟨LX,[aW cD (aH (.Y bx) cD),.ite (aN .Eq (aX (.Y bx) Lg []) (ay 82)) [bu (aX (.Y bx) eB []),bF (ay 83)] [],.ite (aN .Eq (bh .BitAnd (aX (.Y bx) Lg []) (aj 192)) (aj 64)) [bF (aC (ay 71) [.Y bx,cK (az [109,97,108,102,111,114,109,101,100,32,98,108,111,99,107,32,116,121,112,101])])] [],aW lF (aX (.Y bx) Zg []),.ite (aN .Lt (.Y lF) (aj 0)) [gj] [],bF (.Y lF)],pa [bx],[(bx,aq),(cD,aq),(lF,aq)]⟩
def bx1:Fn:=⟨LY,[aW cD (aH (.Y bx) cD),.ite (aN .NotEq (aX (.Y bx) eB []) (aj 0)) [gj] []],pa [bx],[(bx,aq),(cD,aq)]⟩
def bx2:Fn:=⟨LZ,[aW cD (aH (.Y bx) cD),aW K_ (aX (.Y bx) jU []),.ite (aN .Gt (.Y K_) (ay 84)) [gj] [],bF (b5 [.Y K_,aX (.Y bx) jU []])],pa [bx],[(bx,aq),(K_,aq),(cD,aq)]⟩
def bx3:Fn:=⟨L1,[aW Lf (aC (ay 72) [.Y bx,ay 85]),bu (aX (.Y Lf) gp [aX (.Y bx) jU []]),bF (dj .tuple ak [.Y Lf])],pa [bx],[(bx,aq),(Lf,aq)]⟩
def bx4:Fn:=⟨L3,[.ite (aN .Eq (.Y gz) (cK qe)) [bF (b5 [])] [],.ite (aN .In (.Y gz) (b5 [cK DZ,cK BE,cK BG,cK DV,cK yi,cK GR,cK GS])) [bF (b5 [aX (.Y bx) jU []])] [],.ite (aN .Eq (.Y gz) (cK Ac)) [bF (b5 [aC (ay 86) [.Y bx]])] [],.ite (aN .Eq (.Y gz) (cK DW)) [bF (b5 [aX (.Y bx) Zf []])] [],.ite (aN .Eq (.Y gz) (cK DX)) [bF (b5 [aX (.Y bx) Zh []])] [],.ite (aN .Eq (.Y gz) (cK D3)) [bF (aC (ay 87) [.Y bx])] [],.ite (aN .Eq (.Y gz) (cK D5)) [bF (b5 [aC (ay 74) [.Y bx]])] [],bF jy],pa [bx,gz],[(bx,aq),(gz,aq)]⟩
def bx5:Fn:=⟨L4,[aW dQ (aC (ay 88) [.Y bx,.Y gz]),.ite (aN .IsNot (.Y dQ) jy) [bF (.Y dQ)] [],.ite (aN .Eq (.Y gz) (cK D0)) [bF (aC (ay 89) [.Y bx])] [],.ite (aN .Eq (.Y gz) (cK DY)) [bF (dj .tuple ak [aC (ay 72) [.Y bx,ay 73]])] [],.ite (aN .In (.Y gz) (b5 [cK BF,cK D7,cK D6])) [aW sZ (aX (.Y bx) jU []),bF (b5 [.Y sZ,aX (.Y bx) jU []])] [],.ite (aN .Eq (.Y gz) (cK D4)) [aW sZ (aX (.Y bx) jU []),bu (aC (ay 90) [.Y bx]),bF (b5 [.Y sZ])] [],bu (aC (ay 90) [.Y bx]),.ite (aN .Eq (.Y gz) (cK BI)) [bu (aC (ay 90) [.Y bx])] [],bF (b5 [])],pa [bx,gz],[(bx,aq),(gz,aq),(sZ,aq),(dQ,aq)]⟩
def bx6:Fn:=⟨L5,[aW cD (aH (.Y bx) cD),aW d8 (aX (.Y bx) eB []),.ite (aN .Eq (.Y d8) (ay 33)) [aW Lj (aX (.Y bx) jU []),.ite (aN .Gt (.Y Lj) (ay 91)) [gj] [],aW d8 (bh .Add (ay 32) (.Y Lj))] [],.ite (aC (ay 92) [.Y d8]) [gj] [],.ite (aN .Is (aC (ay 36) [.Y d8]) jy) [gj] [],bF (.Y d8)],pa [bx],[(bx,aq),(cD,aq),(d8,aq),(Lj,aq)]⟩
def bx7:Fn:=⟨Hl,[.vF [dK,z6] [cP ah [],cP ah [ay 93]],.sW [cD,d8] (aN .NotEq (.Y z6) (cP ak [])) [aW cD (aH (.Y bx) cD),aW d8 (aC (ay 94) [.Y bx]),.ite (aN .Eq (.Y d8) (ay 41)) [bu (aX (.Y z6) Ra []),bu (aX (.Y dK) gp [b5 [ay 41]])] [.ite (aN .Eq (.Y d8) (ay 95)) [.ite (aN .NotEq (gM (.Y z6) (jn (aj 1))) (ay 17)) [gj] [],.x_ (.Y z6) (jn (aj 1)) (ay 95),bu (aX (.Y dK) gp [b5 [ay 95]])] [.ite (jz .And [aN .In (.Y d8) (ay 96),.not (.Y Ld)]) [gj] [],bu (aX (.Y dK) gp [bh .Add (b5 [.Y d8]) (aC (ay 97) [.Y bx,aC (ay 36) [.Y d8]])]),.ite (aC (ay 98) [.Y d8]) [bu (aX (.Y z6) gp [.Y d8])] []]]],bF (fq (.Y dK))],pa [bx,Ld],[(bx,aq),(Ld,aq),(z6,aq),(cD,aq),(dK,aq),(d8,aq)]⟩
def bx8:Fn:=⟨BV,[bF (aC (ay 99) [.Y bx,.cB ah])],pa [bx],[(bx,aq)]⟩
def bx9:Fn:=⟨L6,[aW cD (aH (.Y bx) cD),.ite (aN .NotEq (aX (.Y bx) eB []) (aj 0)) [gj] [],bF (ay 43)],pa [bx],[(bx,aq),(cD,aq)]⟩
def wf:J PS:=[aW cD (aH (.Y bx) cD),aW gz (aX (.Y bx) jU []),.ite (aN .Gt (.Y gz) (aj 7)) [gj] [],.vF [gS,uy] [bh .BitAnd (.Y gz) (aj 3),aN .Gt (.Y gz) (aj 3)],aW fZ (lC (b5 [ay 44,ay 45,ay 44,ay 46]) (.Y gS)),.vF [kY,iA,bW] [aj 0,jy,ay 43],.ite (aN .Eq (.Y gS) (aj 2)) [aW kY (aX (.Y bx) jU [])] [],.ite (aN .Eq (.Y fZ) (ay 44)) [aW iA (aC (ay 81) [.Y bx])] [],.ite (aN .NotEq (.Y gS) (aj 0)) [aW bW (.ite (.Y uy) (aC (ay 74) [.Y bx]) (aC (ay 100) [.Y bx]))] [],.ite (.Y uy) [bF (fq (aC (ay 101) [.Y fZ,.Y kY,.Y iA,.Y bW,fq (aC (ay 72) [.Y bx,ay 81])]))] [],aW kr (gR ak [] [lF] ah (fq (aC (ay 72) [.Y bx,ay 85])) [] (cP ak [b5 [ay 40,.Y lF],b5 [ay 41]])),bF (fq (aC (ay 101) [.Y fZ,.Y kY,.Y iA,.Y bW,.Y kr]))]
def by0:Fn:=⟨L7,wf,pa [bx],[(bx,aq),(cD,aq),(uy,aq),(gz,aq),(kr,aq),(bW,aq),(fZ,aq),(iA,aq),(kY,aq),(gS,aq)]⟩
def by1:Fn:=⟨L8,[aW cD (aH (.Y bx) cD),aW gz (aX (.Y bx) jU []),.ite (aN .Gt (.Y gz) (aj 2)) [gj] [],aW nh (.ite (aN .Eq (.Y gz) (aj 2)) (aX (.Y bx) jU []) (aj 0)),aW iA (.ite (aN .Eq (.Y gz) (aj 1)) jy (aC (ay 81) [.Y bx])),aW bH (aX (.Y bx) DU [aX (.Y bx) jU []]),bF (fq (aC (ay 102) [.ite (aN .Eq (.Y gz) (aj 1)) (ay 45) (ay 44),.Y nh,.Y iA,.Y bH]))],pa [bx],[(bx,aq),(cD,aq),(gz,aq),(nh,aq),(bH,aq),(iA,aq)]⟩
def wi:J PS:=[aW cD (aH (.Y bx) cD),aW d7 (aX (.Y bx) jU []),bu (aX (.Y kX) gp [b5 [.Y d7,aC (ay 73) [.Y bx]]]),aW Aa (bh .Add (.Y Aa) (.Y d7)),.ite (aN .Gt (.Y Aa) (ay 103)) [gj] []]
def by2:Fn:=⟨L_,[.vF [kX,Aa] [cP ah [],aj 0],iO [cD,d7,rM] [rM] ah (m8 (aX (.Y bx) jU [])) wi,.ite (aN .Gt (.Y Aa) (.Y f7)) [gj] [],aW dQ (cP ah []),iO [bW,d7] [d7,bW] ak (fq (.Y kX)) [bu (aX (.Y dQ) oj [bh .Mult (cP ak [.Y bW]) (.Y d7)])],bF (dj .tuple ak [.Y dQ])],pa [bx,f7],[(bx,aq),(f7,aq),(cD,aq),(dQ,aq),(bW,aq),(d7,aq),(kX,aq),(Aa,aq),(rM,aq)]⟩
def by3:Fn:=⟨Zp,[eN (.Y aK) BD (aC (ay 104) [.Y bH]),eN (.Y aK) uC (.Y uC),eN (.Y aK) bI (aC (ay 105) []),eN (.Y aK) fy (cP ak []),eN (.Y aK) GH (.cB ak),eN (.Y aK) By jy,eN (.Y aK) GF (cP ah [])],pa [aK,bH,uC],[(aK,aq),(bH,aq),(uC,aq)]⟩
def by5:Fn:=⟨RA,[.sW [dX,bw,bH,fK] (.not (aX (aH (.Y aK) BD) GI [])) [.pW [bw,fK] (aX (aH (.Y aK) BD) Zi []),.ite (aN .Eq (.Y bw) (ay 8)) [.pW [dX,bH] (aC (ay 106) [.Y fK]),bu (aX (aH (aH (.Y aK) bI) qK) gp [aC (ay 107) [.Y dX,.Y bH,aj 0]]),bu (aX (aH (.Y aK) GF) gp [aH (aH (.Y aK) BD) dM])] [bu (aX (.Y aK) Ze [.Y bw,.Y fK])],bu (aC (ay 108) [.Y fK])],bu (aX (.Y aK) Zb []),bF (aH (.Y aK) bI)],pa [aK],[(aK,aq),(dX,aq),(bw,aq),(bH,aq),(fK,aq)]⟩
def NS:Fn:=⟨RB,[aW bI (aH (.Y aK) bI),.ite (aN .Eq (.Y bw) (aj 1)) [eN (.Y bI) fy (fq (aC (ay 72) [.Y fK,ay 109]))] [.ite (aN .Eq (.Y bw) (aj 2)) [eN (.Y bI) p_ (fq (aC (ay 72) [.Y fK,ay 110]))] [.ite (aN .Eq (.Y bw) (aj 3)) [eN (.Y aK) fy (fq (aC (ay 72) [.Y fK,ay 85]))] [.ite (aN .Eq (.Y bw) (aj 4)) [eN (.Y bI) qd (fq (aC (ay 72) [.Y fK,ay 77]))] [.ite (aN .Eq (.Y bw) (aj 5)) [eN (.Y bI) qc (fq (aC (ay 72) [.Y fK,ay 78]))] [.ite (aN .Eq (.Y bw) (aj 6)) [eN (.Y bI) pZ (fq (aC (ay 72) [.Y fK,ay 111]))] [.ite (aN .Eq (.Y bw) (aj 7)) [eN (.Y bI) pY (fq (aC (ay 72) [.Y fK,ay 112]))] [.ite (aN .Eq (.Y bw) (aj 8)) [eN (.Y bI) nR (aX (.Y fK) jU [])] [.ite (aN .Eq (.Y bw) (aj 9)) [eN (.Y bI) pX (fq (aC (ay 72) [.Y fK,ay 113]))] [.ite (aN .Eq (.Y bw) (aj 10)) [bu (aX (.Y aK) Zd [.Y fK])] [.ite (aN .Eq (.Y bw) (aj 11)) [aW cD (aH (.Y fK) cD),eN (.Y bI) nO (fq (aC (ay 72) [.Y fK,ay 114])),bu (aX (.Y aK) Rf [.Y cD])] [eN (.Y aK) By (aX (.Y fK) jU [])]]]]]]]]]]]],pa [aK,bw,fK],[(aK,aq),(bw,aq),(fK,aq),(cD,aq),(bI,aq)]⟩
def wn:J PS:=[aW kU (aX (.Y fK) fK [aX (.Y fK) jU []]),aW fy (aC (ay 115) [.Y kU,aH (.Y aK) uC]),aW dK (aC (ay 99) [.Y kU,aN .IsNot (aH (.Y aK) By) jy]),bu (aC (ay 108) [.Y kU]),bu (aX (aH (aH (.Y aK) bI) mE) gp [fq (aC (ay 116) [.Y bW,.Y fy,.Y dK])])]
def by6:Fn:=⟨RC,[aW cD (aH (.Y fK) cD),eN (.Y aK) GH (.cB ah),.ite (aN .NotEq (aX (.Y fK) jU []) (dj .len ak [aH (.Y aK) fy])) [gj] [],iO [dK,kU,bW,fy] [bW] ah (aH (.Y aK) fy) wn],pa [aK,fK],[(aK,aq),(fK,aq),(cD,aq),(dK,aq),(kU,aq),(bW,aq),(fy,aq)]⟩
def by7:Fn:=⟨Ma,[.ite (jz .And [aN .IsNot (aH (.Y aK) By) jy,aN .NotEq (aH (.Y aK) By) (dj .len ak [aH (aH (.Y aK) bI) nO])]) [gj] []],pa [aK,cD],[(aK,aq),(cD,aq)]⟩
def by8:Fn:=⟨RD,[.ite (jz .And [.not (aH (.Y aK) GH),aN .NotEq (aH (.Y aK) fy) (cP ak [])]) [gj] [],bu (aX (.Y aK) Rf [aH (aH (aH (.Y aK) BD) bx) cD]),.DP [jS,dM] jS dM (aH (aH (.Y aK) bI) qK) (aH (.Y aK) GF) [eN (.Y jS) rK (aC (ay 62) [aH (.Y aK) bI,.ite (aN .GtE (.Y dM) (aj 0)) (lC (ay 9) (.Y dM)) (aj 0)])]],pa [aK],[(aK,aq),(jS,aq),(dM,aq)]⟩
def by9:Fn:=⟨El,[bF (aX (aC (ay 117) [.Y bH,.Y uC]) Zc [])],[(bH,ao),(uC,N (.int 50000))],[(bH,aq),(uC,aq)]⟩
def bz0:Fn:=⟨oq,[aW dQ (bh .Mod (gM (.Y aM) (aj 0)) (.Y d7)),.x_ (.Y aM) (aj 0) (bh .FloorDiv (gM (.Y aM) (aj 0)) (.Y d7)),bF (.Y dQ)],pa [aM,d7],[(aM,aq),(d7,aq),(dQ,aq)]⟩
def bz1:Fn:=⟨Aj,[bF (cP ah [.ite (aN .NotEq (.Y fY) (cP ak [])) (aX (.Y fY) Ra [aj 0]) (aj 0)])],pa [fY],[(fY,aq)]⟩
def bz2:Fn:=⟨Ho,[bF (gR ah [bw,d7] [d9] ah (m8 (.Y d7)) [] (bh .Add (bh .Mod (bh .FloorDiv (.Y bw) (bh .Pow (aj 128) (.Y d9))) (aj 128)) (.ite (aN .Lt (.Y d9) (bh .Sub (.Y d7) (aj 1))) (aj 128) (aj 0))))],pa [bw,d7],[(bw,.cell),(d7,.cell)]⟩
def bz3:Fn:=⟨Hp,[bF (b5 [b5 [aj 65,aj 65,cK Rh],b5 [aj 2,aj 4,cK GQ],b5 [aj 69,aj 90,cK t_],b5 [aj 4,aj 4,cK GQ],b5 [aj 12,aj 13,cK wW],b5 [aj 14,aj 14,cK Rl],b5 [aj 16,aj 16,cK wW],b5 [aj 17,aj 17,cK Ll],b5 [aj 18,aj 18,cK wW],b5 [aj 19,aj 19,cK Ll],b5 [aj 0,aj 1,cK t_],b5 [aj 15,aj 15,cK t_],b5 [aj 26,aj 27,cK t_],b5 [aj 28,aj 28,cK Ri],b5 [aj 32,aj 38,cK wW],b5 [aj 40,aj 41,cK Rg],b5 [aj 44,aj 55,cK Rg],b5 [aj 58,aj 62,cK Rg],b5 [aj 63,aj 64,cK Rm],b5 [aj 66,aj 66,cK Rj],b5 [aj 103,aj 138,cK t_],b5 [aj 167,aj 167,cK t_],b5 [aj 172,aj 173,cK t_],b5 [aj 192,aj 196,cK t_],b5 [aj 208,aj 208,cK Rk],b5 [aj 209,aj 209,cK t_],b5 [aj 210,aj 210,cK wW],b5 [aj 64520,aj 64520,cK (az [117,122])],b5 [aj 64521,aj 64521,cK wW],b5 [aj 64522,aj 64522,cK (az [122,122])],b5 [aj 64523,aj 64523,cK Rm],b5 [aj 64524,aj 64524,cK Ll],b5 [aj 64525,aj 64525,cK wW],b5 [aj 64526,aj 64526,cK Ll],b5 [aj 64527,aj 64529,cK wW]])],pa [],[]⟩
def bz4:Fn:=⟨Hq,[bF (.z5 [((cK t_),(cP ak [])),((cK Lk),(cP ak [aj 97])),((cK (az [233,98])),(cP ak [aj 195,aj 169,aj 98])),((cK (az [8364])),(cP ak [aj 226,aj 130,aj 172])),((cK (az [66376])),(cP ak [aj 240,aj 144,aj 141,aj 136]))])],pa [],[]⟩
def bz5:Fn:=⟨Hr,[bF (lC (cP ak [cK Lk,cK t_,cK (az [233,98]),cK (az [8364]),cK (az [66376])]) (aC (ay 118) [.Y aM,aj 5]))],pa [aM],[(aM,aq)]⟩
def bz6:Fn:=⟨uF,[aW gS (aC (ay 118) [.Y aM,aj 3]),.ite (aN .Eq (.Y gS) (aj 0)) [bF (aC (ay 118) [.Y aM,aj 4])] [],bF (.ite (aN .Eq (.Y gS) (aj 1)) (lC (cP ak [aj 127,aj 128,aj 16383,aj 16384]) (aC (ay 118) [.Y aM,aj 4])) (aC (ay 118) [.Y aM,bh .Pow (aj 2) (aj 32)]))],pa [aM],[(aM,aq),(gS,aq)]⟩
def wq:Fn:=⟨Hs,[aW gS (aC (ay 118) [.Y aM,aj 3]),.ite (aN .Eq (.Y gS) (aj 0)) [bF (bh .Sub (aC (ay 118) [.Y aM,aj 5]) (aj 2))] [],.ite (aN .Eq (.Y gS) (aj 1)) [bF (lC (cP ak [aj 63,aj 64,jn (aj 64),jn (aj 65),aj 8191,aj 8192,jn (aj 8192),jn (aj 8193)]) (aC (ay 118) [.Y aM,aj 8]))] [],bF (bh .Sub (aC (ay 118) [.Y aM,bh .Pow (aj 2) (.Y qJ)]) (bh .Pow (aj 2) (bh .Sub (.Y qJ) (aj 1))))],pa [aM,qJ],[(aM,aq),(qJ,aq),(gS,aq)]⟩
def bz7:Fn:=⟨BW,[bF (lC (b5 [jn (aj 1),jn (aj 2),jn (aj 16),jn (aj 17)]) (aC (ay 118) [.Y aM,aj 4]))],pa [aM],[(aM,aq)]⟩
def bz8:Fn:=⟨Ht,[bF (dj .tuple ak [gR ak [aM] [d9] ah (m8 (.Y d7)) [] (aC (ay 119) [.Y aM])])],pa [aM,d7],[(aM,.cell),(d7,aq)]⟩
def bz9:Fn:=⟨Hu,[aW fQ (aC (ay 120) [.Y aM]),bF (b5 [.Y fQ,.ite (aN .Eq (aC (ay 118) [.Y aM,aj 2]) (aj 1)) (aC (ay 120) [.Y aM]) jy])],pa [aM],[(aM,aq),(fQ,aq)]⟩
def bA0:Fn:=⟨Mb,[aW gS (aC (ay 118) [.Y aM,aj 3]),.ite (aN .Eq (.Y gS) (aj 0)) [bF (jn (aj 64))] [],bF (.ite (aN .Eq (.Y gS) (aj 1)) (aC (ay 119) [.Y aM]) (aC (ay 120) [.Y aM]))],pa [aM],[(aM,aq),(gS,aq)]⟩
def Up:J PS:=[.ite (aN .Eq (.Y i7) (cK wW)) [bu (aX (.Y dQ) gp [aC (ay 120) [.Y aM]])] [.ite (aN .Eq (.Y i7) (cK Lk)) [bu (aX (.Y dQ) gp [aC (ay 118) [.Y aM,aj 32]])] [.ite (aN .Eq (.Y i7) (cK Rh)) [bu (aX (.Y dQ) gp [aC (ay 122) [.Y aM,aj 32]])] [.ite (aN .Eq (.Y i7) (cK Rj)) [bu (aX (.Y dQ) gp [aC (ay 122) [.Y aM,aj 64]])] [.ite (aN .Eq (.Y i7) (cK Rk)) [bu (aX (.Y dQ) gp [lC (b5 [jn (aj 16),jn (aj 17)]) (aC (ay 118) [.Y aM,aj 2])])] [.ite (aN .Eq (.Y i7) (cK GQ)) [bu (aX (.Y dQ) gp [aC (ay 123) [.Y aM]])] [.ite (aN .Eq (.Y i7) (cK Ri)) [bu (aX (.Y dQ) oj [aC (ay 124) [.Y aM,aC (ay 118) [.Y aM,aj 3]]])] [.ite (aN .Eq (.Y i7) (cK Rl)) [bu (aX (.Y dQ) oj [gR ak [aM] [d9] ah (m8 (bh .Add (aj 1) (aC (ay 118) [.Y aM,aj 3]))) [] (aC (ay 120) [.Y aM])])] []]]]]]]]]
def bA1:Fn:=⟨Mc,[aW GN (aC (ay 121) []),.pW [fQ,f7,vI] (lC (.Y GN) (aC (ay 118) [.Y aM,dj .len ak [.Y GN]])),aW dQ (cP ah [bh .Add (.Y fQ) (aC (ay 118) [.Y aM,bh .Add (bh .Sub (.Y f7) (.Y fQ)) (aj 1)])]),iO [i7] [i7] ah (.Y vI) Up,bF (dj .tuple ak [.Y dQ])],pa [aM],[(aM,.cell),(dQ,aq),(fQ,aq),(i7,aq),(vI,aq),(f7,aq),(GN,aq)]⟩
def wt:J PS:=[aW aM (aC (ay 125) [.Y fY]),.ite (jz .And [aN .NotEq (.Y yc) (cP ak []),aN .Eq (aC (ay 118) [.Y aM,aj 3]) (aj 2)]) [.ite (jz .And [aN .Eq (gM (.Y yc) (jn (aj 1))) (aj 4),aN .Eq (aC (ay 118) [.Y aM,aj 2]) (aj 1)]) [bu (aX (.Y dK) gp [b5 [aj 5]]),.x_ (.Y yc) (jn (aj 1)) (aj 5)] [bu (aX (.Y dK) gp [b5 [aj 11]]),bu (aX (.Y yc) Ra [])]] [bu (aX (.Y dK) gp [aC (ay 126) [.Y aM]]),.ite (aN .In (gM (gM (.Y dK) (jn (aj 1))) (aj 0)) (b5 [aj 2,aj 3,aj 4])) [bu (aX (.Y yc) gp [gM (gM (.Y dK) (jn (aj 1))) (aj 0)])] []]]
def bA2:Fn:=⟨Me,[aW dK (cP ah []),aW yc (cP ah []),iO [d9,aM] [d9] ah (m8 (bh .Mod (bh .Add (aj 1) (gM (aC (ay 125) [.Y fY]) (aj 0))) (aj 5))) wt,bF (bh .Add (.Y dK) (bh .Mult (cP ak [b5 [aj 11]]) (bh .Add (dj .len ak [.Y yc]) (aj 1))))],pa [fY],[(fY,aq),(dK,aq),(d9,aq),(aM,aq),(yc,aq)]⟩
def bA3:Fn:=⟨Em,[aW gS (aC (ay 118) [.Y aM,aj 4]),.ite (aN .Eq (.Y gS) (aj 0)) [bF (cP ak [b5 [aj 65,aC (ay 122) [.Y aM,aj 32]],b5 [aj 11]])] [],.ite (aN .Eq (.Y gS) (aj 1)) [bF (cP ak [b5 [aj 66,aC (ay 122) [.Y aM,aj 64]],b5 [aj 11]])] [],.ite (aN .Eq (.Y gS) (aj 2)) [bF (cP ak [b5 [aj 35,aC (ay 120) [.Y aM]],b5 [aj 11]])] [],bF (cP ak [b5 [aj 35,aC (ay 120) [.Y aM]],b5 [aj 65,aC (ay 122) [.Y aM,aj 32]],b5 [aj 106],b5 [aj 11]])],pa [aM],[(aM,aq),(gS,aq)]⟩
def bA4:Fn:=⟨Mf,[aW fR (aC (ay 118) [.Y aM,aj 4]),aW i6 jy,.ite (aN .Eq (.Y fR) (aj 0)) [aW i6 (aC (ay 120) [.Y aM])] [.ite (aN .Eq (.Y fR) (aj 1)) [aW i6 (bh .Add (b5 [lC (b5 [jn (aj 16),jn (aj 17)]) (aC (ay 118) [.Y aM,aj 2])]) (aC (ay 127) [.Y aM]))] [.ite (aN .Eq (.Y fR) (aj 2)) [aW i6 (aC (ay 127) [.Y aM])] [aW i6 (b5 [aC (ay 119) [.Y aM],aC (ay 118) [.Y aM,aj 2]])]]],bF (fq (aC (ay 76) [aC (ay 128) [.Y aM],aC (ay 128) [.Y aM],.Y fR,.Y i6]))],pa [aM],[(aM,aq),(i6,aq),(fR,aq)]⟩
def bA5:Fn:=⟨Mg,[aW aM (aC (ay 125) [.Y fY]),aW bW (aC (ay 120) [.Y aM]),aW DT (dj .tuple ak [gR ak [aM] [d9] ah (m8 (aC (ay 118) [.Y aM,aj 5])) [] (lC (b5 [jn (aj 1),jn (aj 2)]) (aC (ay 118) [.Y aM,aj 2]))]),bF (fq (aC (ay 116) [.Y bW,.Y DT,aC (ay 129) [.Y fY]]))],pa [fY],[(fY,aq),(bW,aq),(DT,aq),(aM,.cell)]⟩
def wv:J PS:=[aW lF (aC (ay 120) [.Y aM]),aW sZ (.ite (.Y BB) (b5 [aj 210,.Y lF]) (lC (cP ak [b5 [aj 208,.Y bW],b5 [aj 35,.Y lF],b5 [aj 210,.Y lF]]) (aC (ay 118) [.Y aM,aj 3]))),bu (aX (.Y kr) gp [cP ak [.Y sZ,b5 [aj 11]]])]
def Uq:J PS:=[aW fZ (lC (b5 [aj 1,aj 0,aj 2]) (aC (ay 118) [.Y aM,aj 3])),aW kY (.ite (jz .And [aN .Eq (.Y fZ) (aj 1),aN .Eq (aC (ay 118) [.Y aM,aj 2]) (aj 1)]) (aC (ay 120) [.Y aM]) (aj 0)),aW BB (aN .Eq (aC (ay 118) [.Y aM,aj 2]) (aj 0)),aW bW (.ite (.Y BB) (jn (aj 16)) (lC (b5 [jn (aj 16),jn (aj 17)]) (aC (ay 118) [.Y aM,aj 2]))),aW kr (cP ah []),iO [sZ,lF,d9] [d9] ah (m8 (bh .Mod (bh .Add (aj 1) (aC (ay 118) [.Y aM,aj 3])) (aj 3))) wv,bF (fq (aC (ay 101) [.Y fZ,.Y kY,.ite (aN .Eq (.Y fZ) (aj 1)) (aC (ay 130) [.Y aM]) jy,.Y bW,fq (.Y kr)]))]
def bA6:Fn:=⟨Mh,Uq,pa [aM],[(aM,aq),(sZ,aq),(lF,aq),(kr,aq),(BB,aq),(d9,aq),(bW,aq),(fZ,aq),(kY,aq)]⟩
def ww:J PS:=[aW fZ (lC (b5 [aj 1,aj 0]) (aC (ay 118) [.Y aM,aj 2])),aW nh (.ite (jz .And [aN .Eq (.Y fZ) (aj 1),aN .Eq (aC (ay 118) [.Y aM,aj 2]) (aj 1)]) (aC (ay 120) [.Y aM]) (aj 0)),aW bH (dj .bytes ak [gR ak [aM] [d9] ah (m8 (aC (ay 118) [.Y aM,aj 4])) [] (aC (ay 118) [.Y aM,aj 256])]),bF (fq (aC (ay 102) [.Y fZ,.Y nh,.ite (aN .Eq (.Y fZ) (aj 1)) (aC (ay 130) [.Y aM]) jy,.Y bH]))]
def bA7:Fn:=⟨Mi,ww,pa [aM],[(aM,.cell),(nh,aq),(fZ,aq),(bH,aq)]⟩
def bA8:Fn:=⟨Mj,[aW d7 (dj .min ak [bh .Mod (bh .Add (aj 1) (gM (aC (ay 125) [.Y fY]) (aj 0))) (aj 3),gM (.Y nQ) (aj 0)]),.x_ (.Y nQ) (aj 0) (bh .Sub (gM (.Y nQ) (aj 0)) (.Y d7)),bF (.Y d7)],pa [fY,nQ],[(fY,aq),(nQ,aq),(d7,aq)]⟩
def wx:J PS:=[aW aM (aC (ay 125) [.Y fY]),aW kW (aC (ay 124) [.Y aM,aC (ay 118) [.Y aM,aj 3]]),bu (aX (aH (.Y bI) fy) gp [b5 [.Y kW,aC (ay 124) [.Y aM,aC (ay 118) [.Y aM,aj 3]]]])]
def wE:J PS:=[bu (aX (aH (.Y bI) p_) gp [aC (ay 132) [aC (ay 125) [.Y fY]]])]
def wP:J PS:=[bu (aX (aH (.Y bI) mE) gp [aC (ay 133) [.Y fY]])]
def wT:J PS:=[aW aM (aC (ay 125) [.Y fY]),bu (aX (aH (.Y bI) qd) gp [bh .Add (b5 [lC (b5 [jn (aj 16),jn (aj 17)]) (aC (ay 118) [.Y aM,aj 2])]) (aC (ay 127) [.Y aM])])]
def w0:J PS:=[bu (aX (aH (.Y bI) qc) gp [aC (ay 127) [aC (ay 125) [.Y fY]]])]
def w3:J PS:=[aW aM (aC (ay 125) [.Y fY]),aW bW (aC (ay 119) [.Y aM]),aW jT (aC (ay 118) [.Y aM,aj 2]),bu (aX (aH (.Y bI) pZ) gp [fq (aC (ay 80) [.Y bW,.Y jT,aC (ay 130) [.Y aM]])])]
def xa:J PS:=[aW aM (aC (ay 125) [.Y fY]),aW dX (aC (ay 128) [.Y aM]),aW fR (aC (ay 118) [.Y aM,aj 4]),bu (aX (aH (.Y bI) pY) gp [b5 [.Y dX,.Y fR,aC (ay 120) [.Y aM]]])]
def xb:J PS:=[bu (aX (aH (.Y bI) pX) gp [aC (ay 134) [aC (ay 125) [.Y fY]]])]
def xc:J PS:=[bu (aX (aH (.Y bI) nO) gp [aC (ay 135) [aC (ay 125) [.Y fY]]])]
def NT:J PS:=[aW aM (aC (ay 125) [.Y fY]),aW dX (aC (ay 128) [.Y aM]),aW bH (dj .bytes ak [gR ak [aM] [d9] ah (m8 (aC (ay 118) [.Y aM,aj 3])) [] (aC (ay 118) [.Y aM,aj 256])]),bu (aX (aH (.Y bI) qK) gp [fq (aC (ay 107) [.Y dX,.Y bH,lC (.Y BC) (.Y dM)])])]
def xf:J PS:=[aW nQ (cP ah [aj 14]),aW bI (aC (ay 105) []),iO [d9,aM,kW] [d9] ah (m8 (aC (ay 131) [.Y fY,.Y nQ])) wx,iO [d9] [d9] ah (m8 (aC (ay 131) [.Y fY,.Y nQ])) wE,iO [d9] [d9] ah (m8 (aC (ay 131) [.Y fY,.Y nQ])) wP,iO [d9,aM] [d9] ah (m8 (aC (ay 131) [.Y fY,.Y nQ])) wT,iO [d9] [d9] ah (m8 (aC (ay 131) [.Y fY,.Y nQ])) w0,iO [d9,bW,jT,aM] [d9] ah (m8 (aC (ay 131) [.Y fY,.Y nQ])) w3,iO [d9,dX,aM,fR] [d9] ah (m8 (aC (ay 131) [.Y fY,.Y nQ])) xa,aW aM (aC (ay 125) [.Y fY]),.ite (aN .Eq (aC (ay 118) [.Y aM,aj 2]) (aj 0)) [eN (.Y bI) nR (aC (ay 120) [.Y aM])] [],iO [d9] [d9] ah (m8 (aC (ay 131) [.Y fY,.Y nQ])) xb,iO [d9] [d9] ah (m8 (aC (ay 131) [.Y fY,.Y nQ])) xc,aW BC (bh .Add (cP ak [aj 0]) (aC (ay 136) [.sV (.sV (.sV (.sV (.sV (.sV (.sV (.sV (.sV (.Y bI) fy) p_) mE) qd) qc) pZ) pY) pX) nO])),aW GK (gR ak [fY] [d9] ah (m8 (aC (ay 131) [.Y fY,.Y nQ])) [] (aC (ay 125) [.Y fY])),iO [dX,bH,aM,dM] [dM] ah (dj .sorted ak [.GC ak [BC] aM (.Y GK) (aC (ay 118) [.Y aM,dj .len ak [.Y BC]])]) NT,bF (fq (.Y bI))]
def bA9:Fn:=⟨Mk,xf,pa [fY],[(fY,.cell),(d9,aq),(bW,aq),(bI,aq),(jT,aq),(dX,aq),(bH,aq),(aM,.cell),(GK,aq),(kW,aq),(dM,aq),(nQ,aq),(BC,.cell),(fR,aq)]⟩
def bB0:Fn:=⟨Hv,[aW Rd (.qI ak [] lR (aH (.Y bI) mE) aM (aH (.Y lR) dK) [aN .In (gM (.Y aM) (aj 0)) (b5 [aj 64520,aj 64521])] (.Y aM)),aW nR (.ite (aN .Is (aH (.Y bI) nR) jy) (cP ak []) (cP ak [aH (.Y bI) nR])),aW wV (.z5 [((aj 1),(aH (.Y bI) fy)),((aj 2),(aH (.Y bI) p_)),((aj 3),(aH (.Y bI) mE)),((aj 4),(aH (.Y bI) qd)),((aj 5),(aH (.Y bI) qc)),((aj 6),(aH (.Y bI) pZ)),((aj 7),(aH (.Y bI) pY)),((aj 8),(.Y nR)),((aj 9),(aH (.Y bI) pX)),((aj 10),(aH (.Y bI) mE)),((aj 11),(aH (.Y bI) nO)),((aj 12),(.Y Rd))]),bF (gR ak [wV] [bw] ah (b5 [aj 1,aj 2,aj 3,aj 4,aj 5,aj 6,aj 7,aj 8,aj 9,aj 12,aj 10,aj 11]) [aN .NotEq (gM (.Y wV) (.Y bw)) (cP ak [])] (.Y bw))],pa [bI],[(bI,aq),(wV,.cell),(nR,aq),(Rd,aq)]⟩
def bB1:Fn:=⟨s9,[aW d7 (aj 1),.sW [] (aN .GtE (.Y bw) (bh .Pow (aj 128) (.Y d7))) [.aug d7 (aj 1)],bF (aC (ay 137) [.Y bw,dj .min ak [aj 5,bh .Add (.Y d7) (.Y cy)]])],pa [bw,cy],[(bw,aq),(cy,aq),(d7,aq)]⟩
def bB2:Fn:=⟨Ml,[aW d7 (aj 1),.sW [] (jz .Or [aN .Lt (.Y bw) (bh .Mult (jn (aj 64)) (bh .Pow (aj 128) (bh .Sub (.Y d7) (aj 1)))),aN .GtE (.Y bw) (bh .Mult (aj 64) (bh .Pow (aj 128) (bh .Sub (.Y d7) (aj 1))))]) [.aug d7 (aj 1)],bF (fq (aC (ay 137) [.Y bw,dj .min ak [bh .FloorDiv (bh .Add (.Y qJ) (aj 6)) (aj 7),bh .Add (.Y d7) (.Y cy)]]))],pa [bw,qJ,cy],[(bw,aq),(qJ,aq),(cy,aq),(d7,aq)]⟩
def bB3:Fn:=⟨w5,[aW bH (aC (ay 138) [dj .len ak [.Y lH],.Y cy]),iO [fK] [fK] ah (.Y lH) [bu (aX (.Y bH) oj [.Y fK])],bF (fq (.Y bH))],pa [lH,cy],[(lH,aq),(cy,aq),(bH,aq),(fK,aq)]⟩
def xi:Fn:=⟨En,[bF (aC (ay 139) [gR ak [] [eB] ah (gM (aC (ay 140) []) (.Y yg)) [] (cP ak [.Y eB]),.Y cy])],pa [yg,cy],[(yg,aq),(cy,aq)]⟩
def bB4:Fn:=⟨Hw,[bF (aC (ay 139) [gR ak [] [bW] ah (.Y fy) [] (cP ak [bh .Add (aj 128) (.Y bW)]),.Y cy])],pa [fy,cy],[(fy,aq),(cy,aq)]⟩
def xk:J PS:=[.ite (jz .And [aN .LtE (.Y fQ) (.Y d8),aN .LtE (.Y d8) (.Y f7)]) [bF (.Y vI)] []]
def xl:Fn:=⟨Mm,[iO [fQ,vI,f7] [fQ,f7,vI] ak (aC (ay 121) []) xk,bF (cK t_)],pa [d8],[(d8,aq),(fQ,aq),(vI,aq),(f7,aq)]⟩
def xn:J PS:=[.ite (aN .Eq (.Y i7) (cK Rm)) [bu (aX (.Y bH) gp [aj 0])] [.ite (aN .Eq (.Y i7) (cK Ri)) [bu (aX (.Y bH) oj [aC (ay 142) [.ur (.Y lT) (N (aj 1)) ao,.Y cy]])] [.ite (aN .Eq (.Y i7) (cK Rl)) [bu (aX (.Y bH) oj [fq (aC (ay 138) [bh .Sub (dj .len ak [.Y lT]) (aj 2),.Y cy])]),iO [uB] [uB] ah (.ur (.Y lT) (N (aj 1)) ao) [bu (aX (.Y bH) oj [fq (aC (ay 138) [.Y uB,.Y cy])])]] [aW bw (lC (.Y lT) (.Y dM)),.aug dM (aj 1),.ite (jz .Or [aN .Eq (.Y i7) (cK Rk),jz .And [aN .Eq (.Y i7) (cK GQ),aN .Lt (.Y bw) (aj 0)]]) [bu (aX (.Y bH) gp [bh .Add (aj 128) (.Y bw)])] [.ite (jz .Or [aN .Eq (.Y i7) (cK wW),aN .Eq (.Y i7) (cK Lk)]) [bu (aX (.Y bH) oj [fq (aC (ay 138) [.Y bw,.Y cy])])] [bu (aX (.Y bH) oj [aC (ay 143) [.Y bw,gM (.z5 [((cK Rh),(aj 32)),((cK Rj),(aj 64)),((cK GQ),(aj 33))]) (.Y i7),.Y cy]])]]]]]]
def bB5:Fn:=⟨BX,[aW bH (cP ah []),iO [d8,lT,uB,i7,bw,dM] [lT] ah (.Y dK) [aW d8 (gM (.Y lT) (aj 0)),bu (aX (.Y bH) oj [.ite (aN .Lt (.Y d8) (aj 64512)) (cP ak [.Y d8]) (bh .Add (cP ak [aj 252]) (fq (aC (ay 138) [bh .Sub (.Y d8) (aj 64512),.Y cy])))]),aW dM (aj 1),iO [uB,i7,bw] [i7] ah (aC (ay 141) [.Y d8]) xn],bF (fq (.Y bH))],pa [dK,cy],[(dK,aq),(cy,aq),(d8,aq),(lT,aq),(uB,aq),(i7,aq),(bw,aq),(bH,aq),(dM,aq)]⟩
def bB6:Fn:=⟨Hx,[.pW [fQ,f7] (.Y Q_),.ite (aN .Is (.Y f7) jy) [bF (bh .Add (cP ak [aj 0]) (fq (aC (ay 138) [.Y fQ,.Y cy])))] [],bF (bh .Add (bh .Add (cP ak [aj 1]) (fq (aC (ay 138) [.Y fQ,.Y cy]))) (fq (aC (ay 138) [.Y f7,.Y cy])))],pa [Q_,cy],[(Q_,aq),(cy,aq),(fQ,aq),(f7,aq)]⟩
def bB7:Fn:=⟨Mn,[aW bH (bh .Add (bh .Add (aC (ay 144) [aH (.Y aM) dM,.Y cy]) (aC (ay 144) [aH (.Y aM) dX,.Y cy])) (cP ak [aH (.Y aM) fR])),.ite (aN .Eq (aH (.Y aM) fR) (aj 0)) [bF (bh .Add (.Y bH) (fq (aC (ay 138) [aH (.Y aM) i6,.Y cy])))] [],.ite (aN .Eq (aH (.Y aM) fR) (aj 1)) [bF (bh .Add (bh .Add (.Y bH) (cP ak [bh .Add (aj 128) (gM (aH (.Y aM) i6) (aj 0))])) (aC (ay 145) [.ur (aH (.Y aM) i6) (N (aj 1)) ao,.Y cy]))] [],.ite (aN .Eq (aH (.Y aM) fR) (aj 2)) [bF (bh .Add (.Y bH) (aC (ay 145) [aH (.Y aM) i6,.Y cy]))] [],bF (bh .Add (.Y bH) (cP ak [bh .Add (aj 128) (gM (aH (.Y aM) i6) (aj 0)),gM (aH (.Y aM) i6) (aj 1)]))],pa [aM,cy],[(aM,aq),(cy,aq),(bH,aq)]⟩
def xp:J PS:=[aW fy (aH (.Y lR) z8),aW kX (cP ak []),.ite (aN .Gt (.Y cy) (aj 0)) [aW kX (bh .Add (cP ak [cP ak [aj 0,aj 126]]) (gR ak [] [bW] ah (.Y fy) [] (cP ak [aj 1,bh .Add (aj 128) (.Y bW)])))] [aW z7 (bh .Add (gR ak [fy] [d9] ah (m8 (dj .len ak [.Y fy])) [jz .Or [aN .Eq (.Y d9) (aj 0),aN .NotEq (lC (.Y fy) (.Y d9)) (lC (.Y fy) (bh .Sub (.Y d9) (aj 1)))]] (.Y d9)) (cP ak [dj .len ak [.Y fy]])),aW kX (gR ak [z7,fy] [d9] ah (m8 (bh .Sub (dj .len ak [.Y z7]) (aj 1))) [] (cP ak [bh .Sub (lC (.Y z7) (bh .Add (.Y d9) (aj 1))) (lC (.Y z7) (.Y d9)),bh .Add (aj 128) (lC (.Y fy) (lC (.Y z7) (.Y d9)))]))],aW bH (bh .Add (aC (ay 139) [.Y kX,.Y cy]) (aC (ay 146) [aH (.Y lR) dK,.Y cy])),bF (bh .Add (fq (aC (ay 138) [dj .len ak [.Y bH],.Y cy])) (.Y bH))]
def bB8:Fn:=⟨Mp,xp,pa [lR,cy],[(lR,aq),(cy,aq),(z7,.cell),(fy,.cell),(bH,aq),(kX,aq)]⟩
def xv:J PS:=[aW Le (jz .And [aN .Eq (aH (.Y oi) bW) (jn (aj 16)),aN .Eq (gR ak [] [lG] ah (aH (.Y oi) kr) [aN .NotEq (gM (gM (.Y lG) (aj 0)) (aj 0)) (aj 210)] (.Y lG)) (cP ak [])]),aW gS (lC (b5 [aj 1,aj 2,aj 3]) (aH (.Y oi) fZ)),.ite (jz .And [aN .Eq (aH (.Y oi) fZ) (aj 1),aN .Eq (aH (.Y oi) kY) (aj 0),aN .Eq (aH (.Y oi) bW) (jn (aj 16)),aN .Eq (.Y cy) (aj 0)]) [aW gS (aj 0)] [],.ite (jz .And [.Y Le,aN .NotEq (.Y cy) (aj 1)]) [aW bH (fq (aC (ay 138) [.Y gS,.Y cy])),aW bW (cP ak [aj 0]),aW lH (gR ak [cy] [lG] ah (aH (.Y oi) kr) [] (fq (aC (ay 138) [gM (gM (.Y lG) (aj 0)) (aj 1),.Y cy])))] [aW bH (fq (aC (ay 138) [bh .Add (.Y gS) (aj 4),.Y cy])),aW bW (cP ak [bh .Add (aj 128) (aH (.Y oi) bW)]),aW lH (gR ak [cy] [lG] ah (aH (.Y oi) kr) [] (aC (ay 146) [.Y lG,.Y cy]))],.ite (aN .Eq (.Y gS) (aj 2)) [aW bH (bh .Add (.Y bH) (fq (aC (ay 138) [aH (.Y oi) kY,.Y cy])))] [],.ite (aN .Eq (aH (.Y oi) fZ) (aj 1)) [aW bH (bh .Add (.Y bH) (aC (ay 146) [aH (.Y oi) iA,.Y cy]))] [],.ite (aN .NotEq (.Y gS) (aj 0)) [aW bH (bh .Add (.Y bH) (.Y bW))] [],bF (bh .Add (.Y bH) (aC (ay 139) [.Y lH,.Y cy]))]
def bB9:Fn:=⟨Mq,xv,pa [oi,cy],[(oi,aq),(cy,.cell),(Le,aq),(bW,aq),(bH,aq),(lH,aq),(gS,aq)]⟩
def bC0:Fn:=⟨Mr,[aW bH (aC (ay 139) [gR ak [] [eB] ah (aH (.Y vH) bH) [] (cP ak [.Y eB]),.Y cy]),.ite (aN .Eq (aH (.Y vH) fZ) (aj 0)) [bF (bh .Add (fq (aC (ay 138) [aj 1,.Y cy])) (.Y bH))] [],.ite (jz .And [aN .Eq (aH (.Y vH) nh) (aj 0),aN .Eq (.Y cy) (aj 0)]) [bF (bh .Add (bh .Add (cP ak [aj 0]) (aC (ay 146) [aH (.Y vH) iA,.Y cy])) (.Y bH))] [],bF (bh .Add (bh .Add (bh .Add (fq (aC (ay 138) [aj 2,.Y cy])) (fq (aC (ay 138) [aH (.Y vH) nh,.Y cy]))) (aC (ay 146) [aH (.Y vH) iA,.Y cy])) (.Y bH))],pa [vH,cy],[(vH,aq),(cy,aq),(bH,aq)]⟩
def xz:Fn:=⟨Ms,[.ite (aN .Eq (.Y bw) (aj 8)) [bF (fq (aC (ay 138) [aH (.Y bI) nR,.Y cy]))] [],.ite (aN .Eq (.Y bw) (aj 12)) [bF (fq (aC (ay 138) [dj .len ak [aH (.Y bI) nO],.Y cy]))] [],aW lH (cP ah []),.ite (aN .Eq (.Y bw) (aj 1)) [iO [kW,om] [kW,om] ak (aH (.Y bI) fy) [bu (aX (.Y lH) gp [bh .Add (bh .Add (cP ak [aj 96]) (aC (ay 142) [.Y kW,.Y cy])) (aC (ay 142) [.Y om,.Y cy])])]] [.ite (aN .Eq (.Y bw) (aj 2)) [aW lH (gR ah [cy] [aM] ah (aH (.Y bI) p_) [] (aC (ay 147) [.Y aM,.Y cy]))] [.ite (aN .Eq (.Y bw) (aj 3)) [aW lH (gR ah [cy] [lR] ah (aH (.Y bI) mE) [] (fq (aC (ay 138) [aH (.Y lR) bW,.Y cy])))] [.ite (aN .Eq (.Y bw) (aj 4)) [aW lH (gR ah [cy] [aM] ah (aH (.Y bI) qd) [] (bh .Add (cP ak [bh .Add (aj 128) (gM (.Y aM) (aj 0))]) (aC (ay 145) [.ur (.Y aM) (N (aj 1)) ao,.Y cy])))] [.ite (aN .Eq (.Y bw) (aj 5)) [aW lH (gR ah [cy] [aM] ah (aH (.Y bI) qc) [] (aC (ay 145) [.Y aM,.Y cy]))] [.ite (aN .Eq (.Y bw) (aj 6)) [aW lH (gR ah [cy] [aM] ah (aH (.Y bI) pZ) [] (bh .Add (cP ak [bh .Add (aj 128) (aH (.Y aM) bW),aH (.Y aM) jT]) (aC (ay 146) [aH (.Y aM) dK,.Y cy])))] [.ite (aN .Eq (.Y bw) (aj 7)) [aW lH (gR ah [cy] [dX,fR,lF] ak (aH (.Y bI) pY) [] (bh .Add (bh .Add (aC (ay 144) [.Y dX,.Y cy]) (cP ak [.Y fR])) (fq (aC (ay 138) [.Y lF,.Y cy]))))] [.ite (aN .Eq (.Y bw) (aj 9)) [aW lH (gR ah [cy] [oi] ah (aH (.Y bI) pX) [] (aC (ay 148) [.Y oi,.Y cy]))] [.ite (aN .Eq (.Y bw) (aj 10)) [aW lH (gR ah [cy] [lR] ah (aH (.Y bI) mE) [] (aC (ay 149) [.Y lR,.Y cy]))] [aW lH (gR ah [cy] [vH] ah (aH (.Y bI) nO) [] (aC (ay 150) [.Y vH,.Y cy]))]]]]]]]]],bF (aC (ay 139) [fq (.Y lH),.Y cy])],pa [bI,bw,cy],[(bI,aq),(bw,aq),(cy,.cell),(kW,aq),(lH,aq),(om,aq)]⟩
def xI:J PS:=[.ite (aN .Eq (aH (.Y jS) rK) (.Y bw)) [aW uA (bh .Add (aC (ay 144) [aH (.Y jS) dX,.Y cy]) (dj .list ak [aH (.Y jS) bH])),bu (aX (.Y bH) gp [aj 0]),bu (aX (.Y bH) oj [bh .Add (fq (aC (ay 138) [dj .len ak [.Y uA],.Y cy])) (.Y uA)])] []]
def xL:J PS:=[.ite (jz .Or [aN .In (.Y bw) (.Y Ab),jz .And [aN .Gt (.Y cy) (aj 0),aN .NotIn (.Y bw) (b5 [aj 0,aj 8])]]) [aW uA (aC (ay 151) [.Y bI,.Y bw,.Y cy]),bu (aX (.Y bH) gp [.Y bw]),bu (aX (.Y bH) oj [bh .Add (fq (aC (ay 138) [dj .len ak [.Y uA],.Y cy])) (.Y uA)])] [],iO [uA,jS] [jS] ah (aH (.Y bI) qK) xI]
def x3:J PS:=[aW bH (cP ah [aj 0,aj 97,aj 115,aj 109,aj 1,aj 0,aj 0,aj 0]),aW Ab (aC (ay 136) [.Y bI]),iO [uA,jS,bw] [bw] ah (b5 [aj 0,aj 1,aj 2,aj 3,aj 4,aj 5,aj 6,aj 7,aj 8,aj 9,aj 12,aj 10,aj 11]) xL,bF (dj .bytes ak [.Y bH])]
def bC1:Fn:=⟨Mu,x3,pa [bI,cy],[(bI,aq),(cy,aq),(uA,aq),(jS,aq),(bw,aq),(bH,aq),(Ab,aq)]⟩
def bC2:Fn:=⟨Hy,[bF (.ite (aN .Is (.Y dK) jy) jy (dj .list ak [.Y dK]))],pa [dK],[(dK,aq)]⟩
def bC3:Fn:=⟨Mv,[bF (b5 [aH (.Y aM) fZ,aH (.Y aM) kY,aC (ay 152) [aH (.Y aM) iA],aH (.Y aM) bW,gR ak [] [lG] ah (aH (.Y aM) kr) [] (dj .list ak [.Y lG])])],pa [aM],[(aM,aq)]⟩
def bC4:Fn:=⟨Mw,[bF (cP ak [dj .list ak [aH (.Y bI) fy],gR ak [] [aM] ah (aH (.Y bI) p_) [] (b5 [aH (.Y aM) dM,aH (.Y aM) dX,aH (.Y aM) fR,aH (.Y aM) i6]),gR ak [] [aM] ah (aH (.Y bI) mE) [] (b5 [aH (.Y aM) bW,dj .tuple ak [aH (.Y aM) z8],dj .list ak [aH (.Y aM) dK]]),dj .list ak [aH (.Y bI) qd],dj .list ak [aH (.Y bI) qc],gR ak [] [aM] ah (aH (.Y bI) pZ) [] (b5 [aH (.Y aM) bW,aH (.Y aM) jT,dj .list ak [aH (.Y aM) dK]]),dj .list ak [aH (.Y bI) pY],aH (.Y bI) nR,gR ak [] [aM] ah (aH (.Y bI) pX) [] (aC (ay 153) [.Y aM]),gR ak [] [aM] ah (aH (.Y bI) nO) [] (b5 [aH (.Y aM) fZ,aH (.Y aM) nh,aC (ay 152) [aH (.Y aM) iA],dj .bytes ak [aH (.Y aM) bH]]),gR ak [] [aM] ah (aH (.Y bI) qK) [] (b5 [aH (.Y aM) dX,dj .bytes ak [aH (.Y aM) bH],aH (.Y aM) rK])])],pa [bI],[(bI,aq)]⟩
def bC5:Fn:=⟨Zq,[aW fY (dj .list ah [.Y Rc]),aW cy (bh .Add (aj 1) (bh .Mod (gM (aC (ay 125) [.Y fY]) (aj 0)) (aj 2))),aW bI (aC (ay 154) [.Y fY]),aW GG (aC (ay 155) [.Y bI]),aW qL (aX (.Y bI) qL []),aW GO (aC (ay 156) [.Y bI,aj 0]),.ite (jz .Or [aN .NotEq (aC (ay 157) [.Y bI]) (.Y GO),aN .NotEq (aC (ay 155) [.Y bI]) (.Y GG)]) [bF (.cB ak)] [],aW Ab (aC (ay 158) [.Y GO]),.ite (jz .Or [aN .NotEq (aC (ay 155) [.Y Ab]) (.Y GG),aN .NotEq (aX (.Y Ab) qL []) (.Y qL)]) [bF (.cB ak)] [],aW GD (aC (ay 158) [aC (ay 156) [.Y bI,.Y cy]]),bF (jz .And [aN .Eq (aC (ay 155) [.Y GD]) (.Y GG),aN .Eq (aX (.Y GD) qL []) (.Y qL),aN .Eq (aC (ay 157) [.Y GD]) (.Y GO)])],pa [Rc],[(Rc,aq),(GD,aq),(fY,aq),(GG,aq),(bI,aq),(cy,aq),(qL,aq),(GO,aq),(Ab,aq)]⟩
end
section
open Wh (cu)
variable{w:bU}{bJ s:aE}
structure aQ(f:Cf)(n:H)(a:aR)(T:Tr):Prop where
 keep:Dw f.K (.ref a)=ah
 sc:SC f n (.ref a) T
def d_(l:J (H×Tr))(a:aR):Tr:=λargs o k=>jK (wX a l) λT=>T args o k
def vY(f:Cf)(n:H):J (H×Tr)->Prop
 |[]=>oU
 |p::r=>aQ f n p.1 p.2/\vY f n r
theorem vY.mem:vY f n l->∀p∈l,aQ f n p.1 p.2:=by
 induction l with
 |nil=>exact λX p m=>(vt m).elim
 |cons p r ih=>exact λh=>gv.mpr ⟨h.1,ih h.2⟩
theorem bC6(h:vY f n l):tO f n (d_ l):=λa args o k q=>nX q λT e q=>⟨(h.mem _ (NP e)).keep,(h.mem _ (NP e)).sc _ _ _ q⟩
def lK(q:Fn)(l:J (H×Tr)):Tr:=ZX ((vc ⟨dO,d_ l⟩ 40).s q.c) q.ps q.nms
def NU:J ai->aD
 |[]=>ah
 |x::r=>bz (k6 (qN x r)) (NU r)
theorem bC7(h:x∈l):qN x l=ah:=
 h.rec (motive:=λl X=>qN x l=ah) (λl=>bQ (jj · (qN x l)) (MT x)) λy {l} X ih=>(bQ (jj (jd y x)) ih).trans (by cases jd y x<;>rfl)
theorem Ur{l:J ai}:NU l=ah->l.Nodup:=by
 induction l with
 |nil=>exact λX=>.nil
 |cons x r ih=>exact λh=>oX.mpr ⟨λm=>gr ((bC7 m).symm.trans (yO.mp (ck h))),ih (bf h)⟩
noncomputable def x4{α:Type}:bq α->aD
 |none=>ah
 |some X=>ak
theorem bC8{α:Type}{o:bq α}(h:x4 o=ah):o=ao:=by cases o;rfl;cases h
noncomputable def rT(K:qB)(a:aR):C_:=match((K.lookup a).getD default).data with
 | .func fd=>fd
 |X=>default
noncomputable def Us:FuncBody->J eg
 | .stmts b=>b
 |X=>[]
noncomputable def bA:J (ai×bq D)->J Arg->J Arg
 |[],X=>[]
 |x::r,l=>{l.headD default with arg:=x.1}::bA r l.tail
theorem x5:∀{ps:J (ai×bq D)}{l:J Arg},(bA ps l).map (·.arg)=ps.map (·.1)
 |[],X=>rfl
 |X::I,u2=>bQ (_::·) x5
def Ut:J ai:=dO.map (·.1)
def E2(K:qB)(q:Fn)(pl:aD):C_:={rT K q.a with
 body:=.stmts (bB Ut 40 q.c (Us (rT K q.a).body))
 globals:=qx
 builtins:=wo
 closure:=[]
 scope:={(rT K q.a).scope with kind:=.function,isGenerator:=false,isCoroutine:=false}
 params:=match pl with|true=>{(rT K q.a).params with posonlyargs:=[],args:=bA q.ps (rT K q.a).params.args,kwonlyargs:=[],vararg:=none,kwarg:=none}|false=>(rT K q.a).params
 defaults:=match pl with|true=>.none|false=>(rT K q.a).defaults}
def av9(Y:Nm)(x:ai):aD:=jj (AF x Y) (T4 x Y)
def okQ(K:qB)(q:Fn)(pl:aD):aD:=
 bz (codeIn K (rT K q.a).code (rT K q.a).qualname) (bz (aB Ut (rT K q.a).scope.names 40 q.c (Us (rT K q.a).body)) (bz (Dw K (.ref q.a)) (bz (NU (q.ps.map (·.1))) (bz (NU (q.nms.map (·.1)))
 (bz (kP (av9 (rT K q.a).scope.names) (q.ps.map (·.1))) (bz (kP (λp=>bz (Cu p.2 p.1 (rT K q.a).scope.names) (jj (bX (vB p.2) 0) (bX (vB p.2) 1))) q.nms) (Cw pl (kP (λp=>x4 p.2) q.ps))))))))
def obQ(K:qB)(q:Fn)(pl:aD):fH:={(K.lookup q.a).getD default with data:=.func (E2 K q pl)}
abbrev AI(K:qB)(q:Fn)(pl:aD):Prop:=(N (obQ K q pl),okQ K q pl)=(K.lookup q.a,ah)
theorem BP.len{ps:J (ai×bq D)}{args:J V}{b:J (ai×V)}(h:BP ps args b):(∀p∈ps,p.2=ao)->args.length=ps.length:=
 h.rec (λX=>rfl) (λX ih q=>bQ (·+1) (ih λp m=>q p (.tail _ m))) λe X I q=>nomatch e.symm.trans (q _ (.head _))
theorem BP.br{f:Cf}{r:bP}{F:bN}{ps:J (ai×bq D)}{args:J V}{b:J (ai×V)}(h:BP ps args b):∀{ws:J aA},(∀p∈ps,p.2=ao)->gh f.w r F args ws->BR f.w r F b ((ps.map (·.1)).zip ws):=by
 induction h with
 |nil=>exact λX I=>.nil
 |given X ih=>exact λq v=>by cases v with|cons y z=>exact .cons y (ih (λp m=>q p (.tail _ m)) z)
 |Tz e X I=>exact λq X=>nomatch e.symm.trans (q _ (.head _))
theorem yn(x:cu w bJ s){q:Fn}{pl:aD}{l:J (H×Tr)}{n:H}{ff:Tr}(hd:AI (kF w.params) q pl)
  (hb:∀t:aE,(∀b o,s.heap.get? b=N o->t.heap.get? b=N o)->∀args b,BP q.ps args b->∀r F ws,iF s.heap.get? F->gh w r F args ws->∃l,BindsTo t (E2 (kF w.params) q pl) ⟨ws,[]⟩ l/\BR w r F b l)
  (hl:vY (aU x) n l)(h:∀args o k,ff args o k->lK q l args o k):aQ (aU x) (n+1) q.a ff:=by
 have e:=(Kz hd).1.symm;have c:=(Kz hd).2;have c1:=ck c;have c3:=bf (bf c);have c5:=bf (bf c3);have c6:=bf c5;refine⟨ck c3,λargs o k S=>aW8 (a:=q.a) (fd:=E2 (kF w.params) q pl) (body:=bB Ut 40 q.c (Us (rT (kF w.params) q.a).body)) (ps:=q.ps) (nms:=q.nms) (bM:=(vc ⟨dO,d_ l⟩ 40).s q.c)
  ⟨⟨_,e,rfl⟩,c1,rfl,rfl,rfl,rfl,rfl,rfl,rfl,hb,Ur (ck (bf c3)),λx hx=>?_,λp hp=>NC (ck (lE (ck (bf c6)) p hp)),λp hp=>?_,Ur (ck c5)⟩ (λZ Q hv=>bl9 (bn4 x) (bn5 x _) (bC6 hl) _ _ _ _ (ck (bf c)) _ _ hv) args o k (h args o k S)⟩
 ·have g:=Cv (lE (ck (bf c5)) x hx);rw[<-Au];exact g.imp T5 ro
 ·exact(Cv (bf (lE (ck (bf (bf c5))) p hp))).imp (NB (b:=.local)) (NB (b:=.cell))
theorem fc(x:cu w bJ s){q:Fn}{l:J (H×Tr)}{n:H}{ff:Tr}(hd:AI (kF w.params) q ah)(hl:vY (aU x) n l)(h:∀args o k,ff args o k->lK q l args o k):aQ (aU x) (n+1) q.a ff:=by
 have c5:=bf (bf (bf (bf (Kz hd).2)));have g7:∀p∈q.ps,p.2=ao:=λp hp=>bC8 (lE (T8 (bf (bf (bf c5))) rfl) p hp);refine yn x hd (λt ht args b hb r F ws hF hv=>?_) hl h;have len:ws.length=(q.ps.map (·.1)).length:=by rw[cO,<-hb.len g7,hv.length]
 exact⟨_,.of_eq (bn8 x5 (Ur (ck (bf (bf (bf (Kz hd).2))))) len),hb.br (f:=aU x) g7 hv⟩
noncomputable def NV{α:Type}(t:dJ α)(o:fH):dJ α:=match t with
 | .load X I k=>k o
 |t=>t
theorem bC9{t:aE}(ho:t.heap.get? T=N o)(e:Bc fd ⟨ws,[]⟩=(F1 T>>=NV (Bc fd ⟨ws,[]⟩)))(h:NV (Bc fd ⟨ws,[]⟩) o=pure bs):BindsTo t fd ⟨ws,[]⟩ bs:=
 λM A E Q hq=>(bQ (λt=>De M A t Q E _) e).mpr (ud (PySem.wpAny_load ho (cz3 h hq)))
theorem Uu(x:cu w bJ s){q:Fn}(T:aR)(o:fH)(hd:AI (kF w.params) q ak)(hT:(kF w.params).lookup T=N o)
  (hb:∀args b,B7 q.ps args=N b->∀r F ws,gh w r F args ws->∃bs,Bc (E2 (kF w.params) q ak) ⟨ws,[]⟩=(F1 T>>=NV (Bc (E2 (kF w.params) q ak) ⟨ws,[]⟩))/\NV (Bc (E2 (kF w.params) q ak) ⟨ws,[]⟩) o=pure bs/\BR w r F b bs)
  (hl:vY (aU x) n l)(h:∀args o k,ff args o k->lK q l args o k):aQ (aU x) (n+1) q.a ff:=
 yn x hd (λt ht args b h r F ws X hv=>(hb args b h.eq r F ws hv).elim λbs g=>⟨bs,bC9 (ht _ _ (Uk x _ _ hT)) g.1 g.2.1,g.2.2⟩) hl h
def yA(K:qB)(C fI:aR):aD:=bz (makesIn K C) (bz (NO (Dl K (.ref C) "__init__") (N (N (.ref fI)))) (bz (decide (Xr K (.ref fI)=N (.type "function"))) (Dw K (.ref C))))
theorem CC(x:cu w bJ s)(h:aQ (aU x) n fI T)(hc:yA (kF w.params) C fI=ah):aQ (aU x) (n+1) C (TR T C):=by have q:=bf hc;exact⟨bf (bf q),bb8 h.sc (ck hc) (gy (ck q)) (gy (ck (bf q)))⟩
end
structure fj where
 c:aa
 a:J aa
noncomputable def fj.d(i:fj):D:=.tup (.int i.c::i.a.map .int)
abbrev iR:=J fj
noncomputable def gA(b:iR):D:=.list (b.map fj.d)
noncomputable def jq:bq H->D
 |none=>.none
 |some i=>.int i
noncomputable def rU:bq iR->D
 |none=>.none
 |some b=>gA b
noncomputable def oG(l:J aa):D:=.tup (l.map .int)
abbrev Fk:=J aa×J aa
noncomputable def mO(p:Fk):D:=.tup [oG p.1,oG p.2]
abbrev qk:=H×bq H
def nE(l:qk):D:=.tup [.int l.1,jq l.2]
structure iZ where
 k:aa
 l:qk
def iZ.d(t:iZ):D:=.tup [.int t.k,.int t.l.1,jq t.l.2]
structure Gk where
 k:aa
 m:H
noncomputable def Gk.d(g:Gk):D:=.tup [.int g.k,.int g.m]
inductive vZ where
 |f (i:H)|t (t:iZ)|m (l:qk)|g (g:Gk)
noncomputable def vZ.sort:vZ->H
 | .f X=>0
 | .t X=>1
 | .m X=>2
 | .g X=>3
def vZ.d:vZ->D
 | .f x=>.int x
 | .t x=>x.d
 | .m x=>nE x
 | .g x=>x.d
structure fh where
 p:ai
 n:ai
 a:vZ
def fh.d(i:fh):D:=.obj Ad [(dM,.str i.p),(dX,.str i.n),(fR,.int i.a.sort),(i6,i.a.d)]
structure cW where
 k:H
 l:J aa
 b:iR
def cW.d(f:cW):D:=.obj Ae [(bW,.int f.k),(z8,oG f.l),(dK,gA f.b)]
structure iy where
 g:Gk
 b:iR
def iy.d(g:iy):D:=.obj Af [(bW,.int g.g.k),(jT,.int g.g.m),(dK,gA g.b)]
structure ju where
 n:ai
 s:H
 i:H
noncomputable def ju.d(e:ju):D:=.tup [.str e.n,.int e.s,.int e.i]
inductive EM where
 |p|a (t:H) (b:iR)|d
noncomputable def EM.m:EM->aa
 | .p=>0
 | .a X I=>1
 | .d=>2
noncomputable def EM.t:EM->H
 | .a t X=>t
 |X=>0
noncomputable def EM.o:EM->bq iR
 | .a X b=>N b
 |X=>ao
noncomputable def iE:fj:=⟨11,[]⟩
noncomputable def iL:fj:=⟨5,[]⟩
inductive er where
 |f (i:H)|g (i:H)|n
def er.b(k:aa):er->iR
 | .f i=>[⟨210,[i]⟩,iE]
 | .g i=>[⟨35,[i]⟩,iE]
 | .n=>[⟨208,[k]⟩,iE]
structure dz where
 m:EM
 k:aa
 i:J er
def dz.d(e:dz):D:=.obj Ag [(fZ,.int e.m.m),(kY,.int e.m.t),(iA,rU e.m.o),(bW,.int e.k),(kr,.list (e.i.map λi=>gA (i.b e.k)))]
structure eV where
 o:bq (H×iR)
 c:J H
noncomputable def eV.m(e:eV):aa:=match e.o with
 |none=>0
 |some X=>1
noncomputable def eV.y(e:eV):H:=match e.o with
 |none=>0
 |some p=>p.1
noncomputable def eV.b(e:eV):bq iR:=match e.o with
 |none=>ao
 |some p=>N p.2
def eV.d(e:eV):D:=.obj Ah [(fZ,.int e.m),(nh,.int e.y),(iA,rU e.b),(bH,.bytes e.c)]
structure dB where
 n:ai
 c:J H
 b:H
def dB.d(e:dB):D:=.obj yk [(dX,.str e.n),(bH,.bytes e.c),(rK,.int e.b)]
structure b6 where
 k:J Fk
 i:J fh
 f:J cW
 t:J iZ
 m:J qk
 g:J iy
 e:J ju
 s:bq H
 l:J dz
 d:J eV
 c:J dB
def b6.D(m:b6):D:=.obj s7 [(fy,.list (m.k.map mO)),(p_,.list (m.i.map fh.d)),(mE,.list (m.f.map cW.d)),(qd,.list (m.t.map iZ.d)),(qc,.list (m.m.map nE)),(pZ,.list (m.g.map iy.d)),
 (pY,.list (m.e.map ju.d)),(nR,jq m.s),(pX,.list (m.l.map dz.d)),(nO,.list (m.d.map eV.d)),(qK,.list (m.c.map dB.d))]
def pA(i:aa):Prop:=i∈[-1,-2,-16,-17]
def x6(i:aa):Prop:=i∈[-16,-17]
def cY(i:H):Prop:=i<4294967296
def ql(b:H)(i:aa):Prop:=-2^(b -1)<=i/\i<2^(b -1)
inductive E3:aa->Prop
 |e:E3 (-64)
 |k {i}:pA i->E3 i
 |x {i:H}:cY i->E3 i
noncomputable def names:J ai:=[az [97],az [],az [233,98],az [8364],az [66376]]
def kQ(x:ai):Prop:=x∈names
noncomputable def x7:J (aa×aa×J H):=[(65,65,[105]),(2,4,[98]),(69,90,[]),(4,4,[98]),(12,13,[117]),(14,14,[116]),(16,16,[117]),(17,17,[117,117]),(18,18,[117]),(19,19,[117,117]),(0,1,[]),(15,15,[]),(26,27,[]),(28,28,[107]),
 (32,38,[117]),(40,41,[97,117]),(44,55,[97,117]),(58,62,[97,117]),(63,64,[122]),(66,66,[108]),(103,138,[]),(167,167,[]),(172,173,[]),(192,196,[]),(208,208,[114]),(209,209,[]),(210,210,[117]),(64520,64520,[117,122]),(64521,64521,[117]),
 (64522,64522,[122,122]),(64523,64523,[122]),(64524,64524,[117,117]),(64525,64525,[117]),(64526,64526,[117,117]),(64527,64529,[117])]
noncomputable def IJ(r:aa×aa×J H):D:=.tup [.int r.1,.int r.2.1,.str (az r.2.2)]
inductive j5:J H->J aa->Prop
 |b {i}:E3 i->j5 [98] [i]
 |i {i}:ql 32 i->j5 [105] [i]
 |l {i}:ql 64 i->j5 [108] [i]
 |r {i}:x6 i->j5 [114] [i]
 |k {a}:a.length<=2->(∀i∈a,pA i)->j5 [107] a
 |t {i:H} {a:J H}:a.length<=2->(∀j∈i::a,cY j)->j5 [116] ((i::a).map sL)
 |z:j5 [122] []
 |uz {i:H}:cY i->j5 [117,122] [i]
 |zz:j5 [122,122] []
 |o:j5 [] []
 |u {i:H}:cY i->j5 [117] [i]
 |uu {i j:H}:cY i->cY j->j5 [117,117] [i,j]
 |au {i j:H}:i<32->cY j->j5 [97,117] [i,j]
noncomputable def bD0(c:aa)(r:aa×aa×J H):aD:=bz (decide (r.1<=c)) (decide (c<=r.2.1))
def NW(c:aa):J (aa×aa×J H)->J H
 |[]=>[]
 |r::t=>bC (bD0 c r) r.2.2 (NW c t)
def n_(c:aa):J H:=NW c x7
noncomputable def KV(a:aa):H->J aa
 |0=>[]
 |n+1=>a::KV (a+1) n
noncomputable def qF:J aa:=x7.flatMap λr=>KV r.1 (r.2.1 -r.1+1).toNat
structure fj.ok(i:fj):Prop where
 c:i.c∈qF
 a:j5 (n_ i.c) i.a
inductive fj.mP:fj->Prop
 |i {i}:i.ok->fj.mP i
 |e:fj.mP iE
 |l:fj.mP iL
noncomputable def v5(c:aa):aD:=decide (2=c)||(decide (3=c)||(decide (4=c)||ak))
noncomputable def nest:J aa->iR->bq (J aa)
 |Z,[]=>N Z
 |[],X::I=>ao
 |x::r,i::b=>bC (decide (i.c=11)) (nest r b) (bC (decide (i.c=5)) (bC (decide (x=4)) (nest (5::r) b) ao) (bC (v5 i.c) (nest (i.c::x::r) b) (nest (x::r) b)))
structure oH(b:iR):Prop where
 ins:∀i∈b,i.mP
 len:b.length<=12
 nest:nest [0] b=N []
def tP(l:qk):Prop:=cY l.1/\∀i,l.2=N i->cY i
def iZ.ok(t:iZ):Prop:=x6 t.k/\tP t.l
def Gk.ok(g:Gk):Prop:=pA g.k/\g.m∈[0,1]
def vZ.ok:vZ->Prop
 | .f x=>cY x
 | .t x=>x.ok
 | .m x=>tP x
 | .g x=>x.ok
def fh.ok(i:fh):Prop:=kQ i.p/\kQ i.n/\i.a.ok
def fO{α:Type}(n:H)(P:α->Prop)(l:J α):Prop:=l.length<=n/\∀a∈l,P a
def rV(l:J aa):Prop:=fO 2 pA l
def cW.ok(f:cW):Prop:=cY f.k/\fO 4 (·∈[-1,-2]) f.l/\oH f.b
def iy.ok(g:iy):Prop:=g.g.ok/\oH g.b
def ju.ok(e:ju):Prop:=kQ e.n/\e.s<4/\cY e.i
def EM.ok:EM->Prop
 | .a t b=>cY t/\oH b
 |X=>oU
def er.ok:er->Prop
 | .f i=>cY i
 | .g i=>cY i
 | .n=>oU
def dz.ok(e:dz):Prop:=e.m.ok/\x6 e.k/\fO 2 er.ok e.i
def eV.ok(e:eV):Prop:=(∀p,e.o=N p->cY p.1/\oH p.2)/\fO 3 (·<256) e.c
noncomputable def qm(i:fj):aD:=decide (64520=i.c)||(decide (64521=i.c)||ak)
noncomputable def NX(m:b6):aD:=m.f.any λf=>f.b.any qm
noncomputable def kB{α:Type}(d:α):J α->H->α
 |[],X=>d
 |a::X,0=>a
 |X::l,n+1=>kB d l n
def jI(m:b6):H->aD:=kB ak [ak,!f9 (m.k.map mO),!f9 (m.i.map fh.d),!f9 (m.f.map cW.d),!f9 (m.t.map iZ.d),!f9 (m.m.map nE),!f9 (m.g.map iy.d),!f9 (m.e.map ju.d),!(jq m.s).o6,!f9 (m.l.map dz.d),!f9 (m.f.map cW.d),!f9 (m.d.map eV.d),NX m]
noncomputable def cV:J H:=[1,2,3,4,5,6,7,8,9,12,10,11]
def uP(m:b6)(n:H):Prop:=n=0\/n∈cV/\jI m n=ah
def dB.ok(m:b6)(c:dB):Prop:=kQ c.n/\fO 2 (·<256) c.c/\uP m c.b
noncomputable def j6(b:H):H:=bC (bX b 10) 11 (bC (bX b 11) 12 (bC (bX b 12) 10 b))
structure b6.ok(M:b6):Prop where
 k:fO 14 (λf=>rV f.1/\rV f.2) M.k
 i:fO 14 fh.ok M.i
 f:fO 14 cW.ok M.f
 t:fO 14 iZ.ok M.t
 m:fO 14 tP M.m
 g:fO 14 iy.ok M.g
 e:fO 14 ju.ok M.e
 s:∀i,M.s=N i->cY i
 l:fO 14 dz.ok M.l
 d:fO 14 eV.ok M.d
 c:fO 2 (dB.ok M) M.c
 cs:(M.c.map λc=>j6 c.b).Pairwise (·<=·)
def YB{α:Type}(P:α->Prop):J α->Prop
 |[]=>oU
 |a::l=>P a/\YB P l
@[elab_as_elim] theorem eW{α:Type}{P:α->Prop}{l:J α}{y:α}(h:y∈l)(g:YB P l):P y:=by
 induction h with
 |head=>exact g.1
 |tail X I ih=>exact ih g.2
noncomputable def x8{α:Type}(q:α->aD)(s:α->α)(f:H):α->H:=f.rec (λX=>1) λX ih i=>bC (q i) 1 (ih (s i)+1)
theorem yB{α:Type}{q:α->aD}{s:α->α}{μ:α->H}(d:∀i,q i=ak->μ (s i)<μ i)(f:H):∀g i,μ i<=f->μ i<=g->x8 q s f i=x8 q s g i:=by
 have z:∀i,μ i<=0->q i=ah:=λi h=>Bool.of_not_eq_false λe=>absurd (pN (d i e) h) (xU _);have one:∀g i,q i=ah->x8 q s g i=1:=λg i e=>by
  cases g with
  |zero=>rfl
  |succ g=>exact bQ (bC · 1 (x8 q s g (s i)+1)) e
 induction f with
 |zero=>exact λg i h X=>(one g i (z i h)).symm
 |succ f ih=>
  intro g i h h';cases e:q i with
  |true=>exact(one _ i e).trans (one g i e).symm
  |false=>
   have l:=d i e;cases g with
   |zero=>exact absurd (pN l h') (xU _)
   |succ g=>exact bQ (bC (q i) 1<|·+1) (ih g (s i) (rC (pN l h)) (rC (pN l h')))
theorem y4{α:Type}{q:α->aD}{s:α->α}{μ:α->H}(d:∀i,q i=ak->μ (s i)<μ i)(i:α):x8 q s (μ i) i=if q i=ah then 1 else x8 q s (μ (s i)) (s i)+1:=by
 rw[yB d (μ i) (μ i+1) i (jO _) (Bj _)]
 show bC (q i) 1 (x8 q s (μ i) (s i)+1)=_
 cases e:q i with
 |true=>rfl
 |false=>exact bQ (·+1) (yB d _ _ _ (mX (d i e)) (jO _))
def nG(n:H):H:=x8 (λn=>Nat.blt n 128) (·/128) n n
theorem E4(n:H):nG n=if n<128 then 1 else nG (n/128)+1:=by
 refine(y4 (μ:=id) (λi h=>ap0 (pN (by decide) (Qq λl=>absurd ((cA0.mpr l).symm.trans h) gr)) (by decide)) n).trans ?_
 exact ite_congr cA0 (λX=>rfl) λX=>rfl
noncomputable def xB(i:aa):aD:=decide (-64<=i)&&decide (i<64)
theorem E5{i:aa}:xB i=ah↔-64<=i/\i<64:=by unfold xB;rw[Kw,XX,XX]
theorem y5{i:aa}(h:xB i=ak):(i/128).natAbs<i.natAbs:=by
 have lt:∀n,n≠0->n/128<n:=λn z=>ap0 (Nat.pos_of_ne_zero z) (by decide)
 cases i with
 |ofNat n=>exact lt n λe=>by rw[e]at h;exact absurd h (by decide)
 |negSucc n=>exact ao8 (lt n λe=>by rw[e]at h;exact absurd h (by decide))
def rW(i:aa):H:=x8 xB (·/128) i.natAbs i
theorem E6(i:aa):rW i=if xB i=ah then 1 else rW (i/128)+1:=y4 (λi h=>y5 h) i
noncomputable def bD1(c:H):J H:=if c<128 then[c]else if c<2048 then[192+c/64,128+c% 64]else if c<65536 then[224+c/4096,128+c/64% 64,128+c% 64]else[240+c/262144,128+c/4096% 64,128+c/64% 64,128+c% 64]
def pQ(x:ai):J H:=x.cps.toList.flatMap bD1
section
open Wh (cu)
variable{w:bU}{bJ s:aE}{x:cu w bJ s}{n:H}
theorem nn{n:H}:0<=(n:aa):=Dp n
def kC{α:Type}(_:α):Prop:=oU
theorem aQ.of{f:Cf}{n:H}{a:aR}{T ff:Tr}(h:aQ f n a T)(g:∀args o k,ff args o k->T args o k):aQ f n a ff:=⟨h.keep,λargs o k x=>h.sc args o k (g _ _ _ x)⟩
theorem AJ{q:aD}{a b:Prop}(h:q=ah)(g:a):@Bool.rec (λX=>Prop) b a q:=h▸g
theorem jb{q:aD}{a b:Prop}(h:q=ak)(g:b):@Bool.rec (λX=>Prop) b a q:=h▸g
noncomputable def i1(i:aa):J D:=[.int i]
noncomputable def s1(y:ai):J D:=[.str y]
inductive nZ{α:Type}(ds:α->J D)(ok:α->Prop)(rs:α->V):Tr
 |mk (a:α) {k}:ok a->k (rs a) []->nZ ds ok rs ((ds a).map .d) [] k
section
variable{q:Fn}{l:J (H×Tr)}{α:Type}{ds:α->J D}{ok:α->Prop}
theorem k7{rs:α->V}(hd:AI (kF w.params) q ah)(hl:vY (aU x) n l)(h:∀a k,ok a->k (rs a) []->lK q l ((ds a).map .d) [] k):aQ (aU x) (n+1) q.a (nZ ds ok rs):=
 fc x hd hl λargs o k g=>g.rec λa X h1 h2=>h a _ h1 h2
end
section
variable{A B:aD}{β:Type}{P:β->Prop}{T cC:β}{ff lZ eF:Prop}
theorem qX(h:P (bC A T cC))(f:A=ah->P T->ff)(g:A=ak->P cC->lZ):@Bool.rec (λX=>Prop) lZ ff A:=by cases A;exact g rfl h;exact f rfl h
theorem Uv(h:P (bC (bz A B) T cC))(f:P T->ff)(g:P cC->lZ)(g':P cC->eF):@Bool.rec (λX=>Prop) eF (@Bool.rec (λX=>Prop) lZ ff B) A:=by
 cases A
 ·exact g' h
 ·cases B;exact g h;exact f h
theorem bD2(h:P (bC (jj A B) T cC))(f:P T->ff)(f':P T->eF)(g:P cC->lZ):@Bool.rec (λX=>Prop) (@Bool.rec (λX=>Prop) lZ eF B) ff A:=by
 cases A
 ·cases B;exact g h;exact f' h
 ·exact f h
end
theorem IK{A:aD}{ff C:Prop}(h:A=ah->C->ff)(c:C):@Bool.rec (λX=>Prop) C ff A:=by cases A;exact c;exact h rfl c
theorem tQ{fg ts:J ai}{one:aD}{body:St->(dZ->St->Prop)->Prop}{ds:J D}{Z:St}{K:dZ->St->Prop}(h:gT fg ts one (len Z.o) body ds (j9 fg Z) K):HN (.d (.tup ds)) λl=>tB (len Z.o) λfS=>rN (j9 fg Z) λZ=>gT fg ts one fS body l Z K:=by
 show tB _ _
 rw[yp,yq];exact h
theorem AK{α σ:Type}{f:α->D}{bM:σ->St}{w:σ->α->σ}{bG:J α->σ->Prop}{fg ts:J ai}{one:aD}{fS:H}{body:St->(dZ->St->Prop)->Prop}{K:dZ->St->Prop}
  (gQ:∀y ys s next,bG (y::ys) s->(bG ys (w s y)->next (bM (w s y)))->jL ts one (.d (f y)) (bM s) λZ=>body Z (zW fg fS next K)):∀ys s,bG ys s->(bG [] (ys.foldl w s)->K .next (bM (ys.foldl w s)))->gT fg ts one fS body (ys.map f) (bM s) K:=λi_=>by
 induction i_ with
 |nil=>exact λX h k=>k h
 |cons y ys ih=>exact λs h k=>gQ y ys s _ h λh=>ih _ h k
theorem E7{α:Type}(g:α->D):∀l:J α,nV (l.map λa=>.d (g a))=N (l.map g):=λi_=>by
 induction i_ with
 |nil=>exact rfl
 |cons a l ih=>
  show(match nV (l.map λa=>.d (g a))with|some ds=>N (g a::ds)|none=>ao)=_
  rw[ih];rfl
theorem Uw{α:Type}:∀o:J α,l7 (len o) o=o
 |[]=>rfl
 |y::o=>bQ (y::·) (Uw o)
theorem IL(v:V)(m:Fm)(o:J O):(nt (len o) v ⟨m,o⟩).o=o:=by
 show(match tw (len o) _ with|true=>_|false=>_:St).o=o
 cases tw (len o) _
 ·rfl
 ·exact Uw o
theorem QS{y:ai}{v u:V}{M:Fm}{o:J O}{k:St->Prop}(h:k ⟨(y,.L (N v))::M,o⟩):jL [y] ah v ⟨(y,.L ao)::M,o⟩ k:=by
 have e:jd y y=ah:=MT y
 show jK (cG y ((y,jA.L ao)::M)) _
 unfold cG;rw[e]
 show dh (jd y y) _ _
 rw[e];exact h
theorem bD3{α:Type}{f g:α->D}{y:ai}{M:Fm}{t:PE->St->(aD->St->Prop)->Prop}{aY:St->(V->St->Prop)->Prop}{o:J O}(gQ:∀(a:α)(k:V->St->Prop),k (.d (g a)) ⟨(y,.L (N (.d (f a))))::M,o⟩->aY ⟨(y,.L (N (.d (f a))))::M,o⟩ k):
  ∀(l:J α)(K:J V->J O->Prop),K (l.map λa=>.d (g a)) o->jW [y] ah ((y,.L ao)::M) (nW t []) aY (l.map f) o K:=λi_=>by
 induction i_ with
 |nil=>exact λK h=>h
 |cons a l ih=>
  intro K h;refine QS (u:=.d (f a)) ?_;refine gQ a _ ?_
  show lV _ _
  rw[o5,IL];exact ih _ h
theorem pB{α:Type}{f g:α->D}{y:ai}{M:Fm}{t:PE->St->(aD->St->Prop)->Prop}{aY:St->(V->St->Prop)->Prop}{o:J O}{k:V->J O->Prop}(gQ:∀(a:α)(k:V->St->Prop),k (.d (g a)) ⟨(y,.L (N (.d (f a))))::M,o⟩->aY ⟨(y,.L (N (.d (f a))))::M,o⟩ k)
  (l:J α)(h:k (.d (.list (l.map g))) o):jW [y] ah ((y,.L ao)::M) (nW t []) aY (l.map f) o λvs o=>iC ak vs o k:=
 bD3 gQ l _ (by show iC _ _ _ _;unfold iC;rw[E7];exact h)
theorem y6{α:Type}{f:α->aD}:∀(l:J α)(K:aD->Prop),K (l.any f)->HL (l.map λa=>.bool (f a)) K:=λi_=>by
 induction i_ with
 |nil=>exact λX h=>h
 |cons a l ih=>exact λK h=>ih (λq=>K (f a||q)) h
theorem oh{α:Type}{o:bq α}{a:α}{K:α->Prop}(e:o=N a)(h:K a)(y:α)(z:o=N y):K y:=fU (e.symm.trans z)▸h
noncomputable def Ux(b:iR):D:=.tup (b.map fj.d)
noncomputable def bD4:bq iR->D
 |none=>.none
 |some b=>Ux b
noncomputable def NY(T:aD):iR->D:=bC T Ux gA
noncomputable def Uy(T:aD):bq iR->D:=bC T bD4 rU
noncomputable def tR(T:aD)(l:J D):D:=bC T (.tup l) (.list l)
def CD(T:aD)(e:dz):D:=.tup [.int e.m.m,.int e.m.t,Uy T e.m.o,.int e.k,tR T (e.i.map λi=>NY T (i.b e.k))]
def IM(i:fh):D:=.tup [.str i.p,.str i.n,.int i.a.sort,i.a.d]
noncomputable def IP(T:aD)(f:cW):D:=.tup [.int f.k,oG f.l,NY T f.b]
noncomputable def IQ(T:aD)(g:iy):D:=.tup [.int g.g.k,.int g.g.m,NY T g.b]
def IS(T:aD)(d:eV):D:=.tup [.int d.m,.int d.y,Uy T d.b,.bytes d.c]
noncomputable def IT(c:dB):D:=.tup [.str c.n,.bytes c.c,.int c.b]
def IU(T:aD)(m:b6):D:=tR T [tR T (m.k.map mO),tR T (m.i.map IM),tR T (m.f.map (IP T)),tR T (m.t.map iZ.d),tR T (m.m.map nE),tR T (m.g.map (IQ T)),tR T (m.e.map ju.d),jq m.s,tR T (m.l.map (CD T)),tR T (m.d.map (IS T)),tR T (m.c.map IT)]
def mQ{α:Type}(f g:α->D):Tr:=nZ (λa=>[f a]) kC λa=>.d (g a)
theorem y7:aQ (aU x) (n+1) Hy (mQ rU rU):=k7 (q:=bC2) (l:=[]) (by kernel_rfl) trivial λb k X S=>by
 induction b with
 |none=>exact S
 |some b=>exact S
theorem bD5:aQ (aU x) (n+2) Mv (mQ dz.d (CD ak)):=k7 (q:=bC3) (l:=[(Hy,mQ rU rU)]) (by kernel_rfl) ⟨y7,cH2⟩ λe k X S=>by refine⟨e.m.o,cH2,?_⟩;exact pB (f:=λi:er=>gA (i.b e.k)) (g:=λi:er=>gA (i.b e.k)) (o:=[]) (λX I h=>h) e.i S
noncomputable def bD6:J (H×Tr):=[(Hy,mQ rU rU),(Mv,mQ dz.d (CD ak))]
theorem bD7:aQ (aU x) (n+3) Mw (mQ b6.D (IU ak)):=k7 (q:=bC4) (l:=bD6) (by kernel_rfl) ⟨y7,bD5,cH2⟩ λm k X S=>by
 refine pB (f:=fh.d) (g:=IM) (o:=[]) (λX I h=>h) m.i ?_;refine pB (f:=cW.d) (g:=IP ak) (o:=[]) (λX I h=>h) m.f ?_;refine pB (f:=iy.d) (g:=IQ ak) (o:=[]) (λX I h=>h) m.g ?_;refine pB (f:=dz.d) (g:=CD ak) (o:=[]) (λe X h=>?_) m.l ?_
 ·exact⟨e,cH2,h⟩
 refine pB (f:=eV.d) (g:=IS ak) (o:=[]) (λe X h=>?_) m.d ?_
 ·exact⟨e.b,cH2,h⟩
 exact pB (f:=dB.d) (g:=IT) (o:=[]) (λX I h=>h) m.c S
theorem bD8:aQ (aU x) (n+1) Rt (mQ fh.d IM):=k7 (q:=br6) (l:=[]) (by kernel_rfl) trivial λy k X S=>S
theorem bD9:aQ (aU x) (n+1) Ru (mQ cW.d (IP ah)):=k7 (q:=br8) (l:=[]) (by kernel_rfl) trivial λy k X S=>S
theorem bE0:aQ (aU x) (n+1) Rv (mQ iy.d (IQ ah)):=k7 (q:=bs0) (l:=[]) (by kernel_rfl) trivial λy k X S=>S
theorem bE1:aQ (aU x) (n+1) Ry (mQ dB.d IT):=k7 (q:=bs6) (l:=[]) (by kernel_rfl) trivial λy k X S=>S
theorem bE2:aQ (aU x) (n+1) Rx (mQ eV.d (IS ah)):=k7 (q:=bs4) (l:=[]) (by kernel_rfl) trivial λy k X S=>by
 obtain⟨o,c⟩:=y;induction o with
 |none=>exact S
 |some b=>exact S
theorem bE3:aQ (aU x) (n+1) Rw (mQ dz.d (CD ah)):=k7 (q:=bs2) (l:=[]) (by kernel_rfl) trivial λe k X S=>by
 obtain⟨m,kd,is⟩:=e;induction m with
 |_=>exact pB (f:=λi:er=>gA (i.b kd)) (g:=λi:er=>Ux (i.b kd)) (o:=[]) (λX I h=>h) is S
inductive PF:{α:Type}->(α->D)->(α->D)->Prop
 |i:PF fh.d IM
 |f:PF cW.d (IP ah)
 |g:PF iy.d (IQ ah)
 |l:PF dz.d (CD ah)
 |d:PF eV.d (IS ah)
 |c:PF dB.d IT
inductive Uz:Tr
 |mk {α:Type} (f g:α->D) (l:J α) {k}:PF f g->k (.d (.tup (l.map g))) []->Uz [.d (.list (l.map f))] [] k
noncomputable def bE4:J (H×Tr):=[(Rt,mQ fh.d IM),(Ru,mQ cW.d (IP ah)),(Rv,mQ iy.d (IQ ah)),(Rw,mQ dz.d (CD ah)),(Rx,mQ eV.d (IS ah)),(Ry,mQ dB.d IT)]
theorem bE5:aQ (aU x) (n+2) LB Uz:=fc x (q:=bt0) (l:=bE4) (by kernel_rfl) ⟨bD8,bD9,bE0,bE3,bE2,bE1,cH2⟩ λX I u2 g=>g.rec λf g l k h S=>by
 cases h with
 |_=>refine pB (o:=[]) (λy X h=>?_) l S;exact⟨y,cH2,h⟩
theorem bE6:aQ (aU x) (n+3) Rz (mQ b6.D (IU ah)):=k7 (q:=bs8) (l:=[(LB,Uz)]) (by kernel_rfl) ⟨bE5,cH2⟩ λm k X S=>⟨_,_,m.i,.i,_,_,m.f,.f,_,_,m.g,.g,(by decide:8<=1048576),_,_,m.l,.l,_,_,m.d,.d,_,_,m.c,.c,(by decide:11<=1048576),S⟩
end
section
def CE(k:H)(l:J D):Prop:=∀v∈l,D.nu k v
variable{k:H}
theorem uQ:CE k []:=nofun
theorem gc{d:D}{l:J D}(h:d.nu k)(g:CE k l):CE k (d::l):=gv.mpr ⟨h,g⟩
theorem mj(i:aa):(D.int i).nu k:=by cases k<;>trivial
theorem NZ(i:ai):(D.str i).nu k:=by cases k<;>trivial
theorem y8(i:J H):(D.bytes i).nu k:=by cases k<;>trivial
theorem UA:D.none.nu k:=by cases k<;>trivial
theorem qY{l:J D}(h:CE k l):(D.tup l).nu (k+1):=h
theorem zn{l:J D}(h:CE k l):(D.list l).nu (k+1):=h
theorem uR{T:aD}{l:J D}(h:CE k l):(tR T l).nu (k+1):=by cases T;exact zn h;exact qY h
theorem qZ{α:Type}{f:α->D}(h:∀y,(f y).nu k)(l:J α):CE k (l.map f):=λv m=>by refine b_ (qA.mp m) λy hx=>?_;have e:=hx.2;exact e▸h y
theorem UB(o:bq H):(jq o).nu k:=by
 induction o with
 |none=>exact UA
 |some i=>exact mj i
theorem UC(l:J aa):(oG l).nu (k+1):=qY (qZ mj l)
theorem zr(i:fj):i.d.nu (k+1):=qY (gc (mj i.c) (qZ mj i.a))
theorem IV(T:aD)(b:iR):(NY T b).nu (k+2):=by cases T;exact zn (qZ zr b);exact qY (qZ zr b)
theorem zt(T:aD)(o:bq iR):(Uy T o).nu (k+2):=by
 cases T
 ·induction o with
  |none=>exact UA
  |some b=>exact IV ak b
 ·induction o with
  |none=>exact UA
  |some b=>exact IV ah b
theorem UD(a:vZ):a.d.nu (k+1):=by
 induction a with
 |f i=>exact mj i
 |t t=>exact qY (gc (mj _) (gc (mj _) (gc (UB _) uQ)))
 |m l=>exact qY (gc (mj _) (gc (UB _) uQ))
 |g g=>exact qY (gc (mj _) (gc (mj _) uQ))
theorem z'(T:aD)(m:b6):(IU T m).nu 8:=uR
 (gc (uR (qZ (λ(f:Fk)=>qY (gc (UC f.1) (gc (UC f.2) uQ))) _))
 (gc (uR (qZ (λ(i:fh)=>qY (gc (NZ i.p) (gc (NZ i.n) (gc (mj i.a.sort) (gc (UD i.a) uQ))))) _))
 (gc (uR (qZ (λ(f:cW)=>qY (gc (mj f.k) (gc (UC f.l) (gc (IV T f.b) uQ)))) _))
 (gc (uR (qZ (λ(t:iZ)=>UD (.t t)) _))
 (gc (uR (qZ (λ(l:qk)=>UD (.m l)) _))
 (gc (uR (qZ (λ(g:iy)=>qY (gc (mj g.g.k) (gc (mj g.g.m) (gc (IV T g.b) uQ)))) _))
 (gc (uR (qZ (λ(e:ju)=>qY (gc (NZ e.n) (gc (mj e.s) (gc (mj e.i) uQ)))) _))
 (gc (UB m.s)
 (gc (uR (qZ (λ(e:dz)=>qY (gc (mj e.m.m) (gc (mj e.m.t) (gc (zt T e.m.o) (gc (mj e.k) (gc (uR (qZ (λ(i:er)=>IV T (i.b e.k)) e.i)) uQ)))))) _))
 (gc (uR (qZ (λ(d:eV)=>qY (gc (mj d.m) (gc (mj d.y) (gc (zt T d.b) (gc (y8 d.c) uQ))))) _))
 (gc (uR (qZ (λ(c:dB)=>qY (gc (NZ c.n) (gc (y8 c.c) (gc (mj c.b) uQ)))) _)) uQ)))))))))))
end
section
open Wh (cu)
variable{w:bU}{bJ s:aE}{x:cu w bJ s}{n:H}
inductive CF{σ β α:Type}(Z:σ->J O)(ds:β->J D)(pre:β->Prop)(ok:β->α->Prop)(d:α->D):Tr
 |mk (b:β) (n:σ) {k}:pre b->(∀a n',ok b a->k (.d (d a)) (Z n'))->CF Z ds pre ok d (.ref 0::(ds b).map .d) (Z n) k
theorem qo{q:Fn}{l:J (H×Tr)}{σ β α:Type}{Z:σ->J O}{ds:β->J D}{pre:β->Prop}{ok:β->α->Prop}{d:α->D}(hd:AI (kF w.params) q ah)(hl:vY (aU x) n l)(h:∀b m k,pre b->(∀a m',ok b a->k (.d (d a)) (Z m'))->lK q l (.ref 0::(ds b).map .d) (Z m) k):aQ (aU x) (n+1) q.a (CF Z ds pre ok d):=
 fc x hd hl λargs o k g=>g.rec λb m X h1 h2=>h b m _ h1 h2
noncomputable def rD(n:aa):J O:=[.dl [.int n]]
noncomputable def N1(l:J aa):J O:=[.dl (l.map .int)]
noncomputable def yQ(n:H):D:=.int n
noncomputable def IW(_:rq):J D:=[]
abbrev xC{α:Type}(ok:α->Prop)(d:α->D):Tr:=CF rD IW kC (λX=>ok) d
abbrev UE{α:Type}(ok:α->Prop)(d:α->D):Tr:=CF N1 IW kC (λX=>ok) d
def qp:Tr:=CF rD i1 (λm=>0<m/\m.natAbs<2^128) (λm (i:H)=>(i:aa)<m) yQ
theorem rX:aQ (aU x) (n+1) oq qp:=qo (q:=bz0) (l:=[]) (by kernel_rfl) trivial λm i k h S=>by
 have ne:m≠0:=λe=>XY 0 (e▸h.1);have h1:=cA1 i h.1;have e:=Bo (cA2 i h.1);have g:=S (xZ i m).toNat (zQ i m) (e.symm▸h1);unfold yQ at g
 rw[e]at g
 exact⟨ne,⟨ne,h.2⟩,jc _,g⟩
inductive CG:Tr
 |mk (l:J aa) {k}:(∀(i:aa)(l':J aa),k (.ref 1) [.dl (l'.map .int),.dl [.int i]])->CG [.ref 0] (N1 l) k
theorem IX:aQ (aU x) (n+1) Aj CG:=fc x (q:=bz1) (l:=[]) (by kernel_rfl) trivial λX I u2 g=>g.rec λl k S=>by
 induction l using eT with
 |nil=>exact S 0 []
 |cons i l=>exact S i l
theorem E8{α:Type}{f:α->D}(l:J α){i:H}{y:D}(P:D->Prop)(h:∀a∈l,P (f a))(hy:(l.map f)[i]?=N y):P y:=by
 rw[mC]at hy
 cases q:l[i]? with
 |none=>rw[q]at hy;cases hy
 |some a=>
  rw[q]at hy
  cases hy;exact h a (Km q)
theorem Ap{i:H}{m:H}(h:(i:aa)<(m:H))(g:m<=4294967296):cY i:=pN (dF.mp h) g
def xD:Tr:=xC cY yQ
theorem yR:aQ (aU x) (n+2) uF xD:=qo (q:=bz6) (l:=[(oq,qp)]) (by kernel_rfl) ⟨rX,cH2⟩ λX i k I S=>by
 refine⟨3,i,(by decide),λa i1 ha=>?_⟩
 conv=>whnf
 refine gZ (λX=>⟨4,i1,(by decide),λb i2 hb=>S b i2 (Ap hb (by decide))⟩) λX=>?_
 conv=>whnf
 refine gZ (λX=>⟨4,i1,(by decide),λb i2 hb=>⟨nn,hb,λy=>E8 (f:=yQ) [127,128,16383,16384] (λy=>k (.d y) (rD i2)) (λj hj=>S j i2 ((by decide:∀j∈[127,128,16383,16384],j<4294967296) j hj))⟩⟩) λX=>⟨by decide,4294967296,i1,(by decide),λb i2 hb=>S b i2 (Ap (m:=4294967296) hb (jO _))⟩
def UG:Tr:=CF rD (λb:H=>[.int b]) (·∈[32,64]) ql .int
theorem AC{b:H}{i:H}(h:(i:aa)<2^(b+1)):ql (b+1) ((i:aa) -2^b):=by
 have p0:(0:aa) -2^b=-2^b:=Int.zero_sub _;have p1:(2:aa)^(b+1) -2^b=2^b:=by rw[XZ,X0,Int.two_mul];exact uh ..
 refine⟨p0▸Qs nn _,?_⟩;have:=Int.sub_lt_sub_right h (2^b);rw[p1]at this
 exact this
theorem AT:aQ (aU x) (n+2) Hs UG:=qo (q:=wq) (l:=[(oq,qp)]) (by kernel_rfl) ⟨rX,cH2⟩ λb i k h=>by
 have go:∀b,31<=b->(∀j:aa,-8193<=j->j<=8192->ql (b+1) j):=λb h j h1 h2=>by
  have p:(2:aa)^31<=2^b:=by have:=iN.mpr (ap1 (n:=2) (by decide) h);rw[Gm,Gm]at this;exact this
  exact⟨ji (Qc p) (ji (by decide) h1),Qt h2 (Bp (by decide) p)⟩
 refine eW (P:=λb=>(∀a m',ql b a->k (.d (.int a)) (rD m'))->lK wq [(oq,qp)] [.ref 0,.d (.int (b:H))] (rD i) k) h ⟨λS=>?_,λS=>?_,cH2⟩
 ·refine⟨3,i,(by decide),λa i1 ha=>?_⟩
  conv=>whnf
  refine gZ (λX=>⟨5,i1,(by decide),λb i2 hb=>S _ i2 (go 31 (by decide) _ (ji (by decide) (Qs nn 2)) (ji (Qs (X3 hb) 2) (by decide)))⟩) λX=>?_
  conv=>whnf
  refine gZ (λX=>⟨8,i1,(by decide),λb i2 hb=>⟨nn,hb,λy=>E8 (f:=.int) [63,64,-64,-65,8191,8192,-8192,-8193] (λy=>k (.d y) (rD i2)) (λj hj=>S j i2 ((by decide:∀j∈[(63:aa),64,-64,-65,8191,8192,-8192,-8193],-2^31<=j/\j<2^31) j hj))⟩⟩) λX=>⟨by decide,4294967296,i1,(by decide),λb i2 hb=>⟨by decide,S _ i2 (AC hb)⟩⟩
 ·refine⟨3,i,(by decide),λa i1 ha=>?_⟩
  conv=>whnf
  refine gZ (λX=>⟨5,i1,(by decide),λb i2 hb=>S _ i2 (go 63 (by decide) _ (ji (by decide) (Qs nn 2)) (ji (Qs (X3 hb) 2) (by decide)))⟩) λX=>?_
  conv=>whnf
  refine gZ (λX=>⟨8,i1,(by decide),λb i2 hb=>⟨nn,hb,λy=>E8 (f:=.int) [63,64,-64,-65,8191,8192,-8192,-8193] (λy=>k (.d y) (rD i2)) (λj hj=>S j i2 ((by decide:∀j∈[(63:aa),64,-64,-65,8191,8192,-8192,-8193],-2^63<=j/\j<2^63) j hj))⟩⟩) λX=>⟨by decide,18446744073709551616,i1,(by decide),λb i2 hb=>⟨by decide,S _ i2 (AC hb)⟩⟩
def IY:Tr:=xC pA .int
theorem N2:aQ (aU x) (n+2) BW IY:=qo (q:=bz7) (l:=[(oq,qp)]) (by kernel_rfl) ⟨rX,cH2⟩ λX i k I S=>⟨4,i,(by decide),λb i2 hb=>⟨nn,hb,λy=>E8 (f:=.int) [-1,-2,-16,-17] (λy=>k (.d y) (rD i2)) (λj hj=>S j i2 hj)⟩⟩
theorem bE7{α σ:Type}{f:α->D}{y:ai}{M:Fm}{t:PE->St->(aD->St->Prop)->Prop}{aY:St->(V->St->Prop)->Prop}{Z:σ->J O}{ok:α->Prop}(se:∀a b,len (Z a)=len (Z b))
  (gQ:∀(d:D)(a:σ)(K:V->St->Prop),(∀v a',ok v->K (.d (f v)) ⟨(y,.L (N (.d d)))::M,Z a'⟩)->aY ⟨(y,.L (N (.d d)))::M,Z a⟩ K):
  ∀(xs:J D)(a:σ)(K:J V->J O->Prop),(∀(vs:J α) a',vs.length=xs.length->(∀v∈vs,ok v)->K (vs.map λv=>.d (f v)) (Z a'))->jW [y] ah ((y,.L ao)::M) (nW t []) aY xs (Z a) K:=λi_=>by
 induction i_ with
 |nil=>exact λa K h=>h [] a rfl nofun
 |cons d xs ih=>
  intro a K h;refine QS (u:=.d d) ?_;refine gQ d a _ λv a' hv=>?_
  show lV _ _
  rw[o5,se a a',IL];exact ih a' _ λvs H_ h1 h2=>h (v::vs) H_ (bQ (·+1) h1) (gv.mpr ⟨hv,h2⟩)
theorem E9{α σ:Type}{f:α->D}{y:ai}{M:Fm}{t:PE->St->(aD->St->Prop)->Prop}{aY:St->(V->St->Prop)->Prop}{Z:σ->J O}{ok:α->Prop}{k:V->J O->Prop}(se:∀a b,len (Z a)=len (Z b))
  (gQ:∀(d:D)(a:σ)(K:V->St->Prop),(∀v a',ok v->K (.d (f v)) ⟨(y,.L (N (.d d)))::M,Z a'⟩)->aY ⟨(y,.L (N (.d d)))::M,Z a⟩ K)(xs:J D)(a:σ)(h:∀(vs:J α) a',vs.length=xs.length->(∀v∈vs,ok v)->k (.d (.list (vs.map f))) (Z a')):
  jW [y] ah ((y,.L ao)::M) (nW t []) aY xs (Z a) λvs o=>iC ak vs o k:=
 bE7 se gQ xs a _ λvs a' h1 h2=>by show iC _ _ _ _;unfold iC;rw[E7];exact h vs a' h1 h2
theorem yS{α:Type}{P:α->Prop}:∀a∈([]:J α),P a:=nofun
theorem iz{m:H}:((kJ (m:aa).toNat).map λ(n:H)=>D.int n).length=m:=by rw[cO,Qu,sF]
theorem uS{m:H}(h:m<=1000):-4611686018427387904<=(m:aa)/\(m:aa)<=1048576:=⟨ji (by decide) nn,iN.mpr (bR h (by decide))⟩
def UH:Tr:=CF rD (λm:H=>[.int m]) (·<3) (λm (l:J aa)=>l.length=m/\∀i∈l,pA i) oG
theorem A':aQ (aU x) (n+3) Ht UH:=qo (q:=bz8) (l:=[(BW,IY)]) (by kernel_rfl) ⟨N2,cH2⟩ λm i k h S=>by
 refine⟨uS (bR (mX h) (by decide)),?_⟩
 exact E9 (f:=.int) (ok:=pA) (Z:=λi=>[.dl [.int i],.cell (N (.ref 0))]) (λX I=>rfl) (λd a K h=>⟨(),a,cH2,h⟩) _ i λl i' h1 h2=>S l i' ⟨h1.trans iz,h2⟩
def UI:Tr:=xC tP nE
theorem Bn:aQ (aU x) (n+3) Hu UI:=qo (q:=bz9) (l:=[(oq,qp),(uF,xD)]) (by kernel_rfl) ⟨rX,yR,cH2⟩ λX i k I S=>by
 refine⟨(),i,cH2,λa i1 ha=>⟨2,i1,(by decide),λb i2 hb=>?_⟩⟩
 conv=>whnf
 exact gZ (λX=>⟨(),i2,cH2,λc i3 hc=>S (a,N c) i3 ⟨ha,λX e=>by cases e;exact hc⟩⟩) λX=>S (a,ao) i2 ⟨ha,nofun⟩
def Bz:Tr:=xC E3 .int
theorem bE8:aQ (aU x) (n+3) Mb Bz:=qo (q:=bA0) (l:=[(oq,qp),(uF,xD),(BW,IY)]) (by kernel_rfl) ⟨rX,yR,N2,cH2⟩ λX i k I S=>by
 refine⟨3,i,(by decide),λa i1 ha=>?_⟩
 conv=>whnf
 refine gZ (λX=>S (-64) i1 .e) λX=>?_
 conv=>whnf
 exact gZ (λX=>⟨(),i1,cH2,λc i2 hc=>S c i2 (.k hc)⟩) λX=>⟨(),i1,cH2,λc i2 hc=>S c i2 (.x hc)⟩
def UJ:Tr:=xC kQ .str
theorem BM:aQ (aU x) (n+2) Hr UJ:=qo (q:=bz5) (l:=[(oq,qp)]) (by kernel_rfl) ⟨rX,cH2⟩ λX i k I S=>⟨5,i,(by decide),λb i2 hb=>⟨nn,hb,λy=>E8 (f:=.str) names (λy=>k (.d y) (rD i2)) (λj hj=>S j i2 hj)⟩⟩
def B1:Tr:=nZ IW kC λX=>.d (.tup (x7.map IJ))
theorem B2:aQ (aU x) (n+1) Hp B1:=k7 (q:=bz3) (l:=[]) (by kernel_rfl) trivial λX k I S=>S
noncomputable def UK:J (H×Tr):=[(oq,qp),(Hp,B1),(uF,xD),(Hs,UG),(Mb,Bz),(Ht,UH)]
noncomputable def bE9(r:aa×aa×J H):aD:=bz (decide (0<r.2.1 -r.1+1)) (bz (decide (r.2.1 -r.1+1<65536)) (kP (λc=>decide (n_ c=r.2.2)) (KV r.1 (r.2.1 -r.1+1).toNat)))
theorem B':kP bE9 x7=ah:=by kernel_rfl
theorem Ch{i:H}:∀(n:H)(a:aa),i<n->a+i∈KV a n
 |0,X,h=>absurd h (xU _)
 |n+1,a,h=>by
  induction i using jh with
  |zero=>rw[show a+((0:H):aa)=a from Qv a];exact .head _
  |succ i=>
   have g:=Ch n (a+1) (F7 h);rw[zR,Ku 1]at g
   exact .tail _ g
theorem bF0{r:aa×aa×J H}(h:r∈x7){i:H}(hi:(i:aa)<r.2.1 -r.1+1):r.1+i∈qF/\n_ (r.1+i)=r.2.2:=by have g:=lE B' _ h;have m:=Ch (i:=i) (r.2.1 -r.1+1).toNat r.1 (dF.mp (Bp hi (Int.self_le_toNat _)));refine⟨rz.mpr ⟨r,h,m⟩,?_⟩;have a:=lE (bf (bf g)) _ m;exact gy a
theorem yT{α:Type}{f:α->D}{l:J α}{i:H}{y:D}(hy:(l.map f)[i]?=N y):∃a,a∈l/\y=f a:=E8 l (λy=>∃a,a∈l/\y=f a) (λa h=>⟨a,h,rfl⟩) hy
noncomputable def UL:J (J H):=[[105],[98],[],[117],[116],[117,117],[107],[97,117],[122],[108],[114],[117,122],[122,122]]
theorem bF1:∀r∈x7,r.2.2∈UL:=by decide
noncomputable def N3(c:H):D:=.str (az [c])
noncomputable def N4(a b c d:D):Fm:=[(aM,.C 1),(dQ,.L (N (.ref 2))),(fQ,.L (N (.d a))),(i7,.L ao),(vI,.L (N (.d b))),(f7,.L (N (.d c))),(GN,.L (N (.d d)))]
noncomputable def IZ(i c:aa)(l:J aa):J O:=[.dl [.int i],.cell (N (.ref 0)),.dl (.int c::l.map .int)]
theorem bF2{l:J H}{m:H}(h:l.length=1+m)(hm:m<3)(g:∀j∈l,cY j):j5 [116] (l.map sL):=by
 induction l using eT with
 |nil=>rw[rB]at h;cases h
 |cons i a=>exact .t (rC (eZ (jm (zJ (h.trans (rB ..)))) hm)) g
theorem bF3{a b d e:D}{c:aa}{K:dZ->St->Prop}{ls:J H}(h:ls∈UL)(i:aa):(∀(l:J aa) i',j5 ls l->K .next ⟨N4 a b d e,IZ i' c l⟩)->
  gT [i7] [i7] ah 3 ((vc ⟨dO,d_ UK⟩ 39).s Up) (ls.map N3) ⟨N4 a b d e,IZ i c []⟩ K:=by
 have d1:1<1048576:=by decide
 have d2:2<1048576:=by decide
 refine eW (P:=λls=>(∀(l:J aa) i',j5 ls l->K .next ⟨N4 a b d e,IZ i' c l⟩)->gT [i7] [i7] ah 3 ((vc ⟨dO,d_ UK⟩ 39).s Up) (ls.map N3) ⟨N4 a b d e,IZ i c []⟩ K) h
  ⟨λhK=>⟨32,i,.head _,λa i1 ha=>⟨d1,hK [a] i1 (.i ha)⟩⟩,
  λhK=>⟨(),i,cH2,λa i1 ha=>⟨d1,hK [a] i1 (.b ha)⟩⟩,
  λhK=>hK [] i .o,
  λhK=>⟨(),i,cH2,λa i1 ha=>⟨d1,hK [(a:aa)] i1 (.u ha)⟩⟩,
  λhK=>⟨3,i,(by decide),λm i1 hm=>⟨uS (m:=1+m) (bR (sI (mX (dF.mp hm)) 1) (by decide)),?_⟩⟩,
  λhK=>⟨(),i,cH2,λa i1 ha=>⟨d1,(),i1,cH2,λb i2 hb=>⟨d2,hK [(a:aa),(b:aa)] i2 (.uu ha hb)⟩⟩⟩,
  λhK=>⟨3,i,(by decide),λm i1 hm=>⟨m,i1,dF.mp hm,λl i2 hl=>⟨?_,hK l i2 (.k (hl.1▸rC (dF.mp hm)) hl.2)⟩⟩⟩,
  λhK=>⟨32,i,(by decide),λa i1 ha=>⟨d1,(),i1,cH2,λb i2 hb=>⟨d2,hK [(a:aa),(b:aa)] i2 (.au (dF.mp ha) hb)⟩⟩⟩,
  λhK=>hK [] i .z,
  λhK=>⟨64,i,.tail _ (.head _),λa i1 ha=>⟨d1,hK [a] i1 (.l ha)⟩⟩,
  λhK=>⟨2,i,(by decide),λb i1 hb=>⟨nn,hb,λy hy=>?_⟩⟩,
  λhK=>⟨(),i,cH2,λa i1 ha=>⟨d1,hK [(a:aa)] i1 (.uz ha)⟩⟩,
  λhK=>hK [] i .zz,cH2⟩
 ·exact E9 (f:=yQ) (ok:=cY) (Z:=λi=>[.dl [.int i],.cell (N (.ref 0)),.dl [.int c]]) (λX I=>rfl) (λd a K h=>⟨(),a,cH2,h⟩) _ i1 λl i2 h1 h2=>by
   have h1:l.length=1+m:=h1.trans (iz (m:=1+m));have g:=hK (l.map sL) i2 (bF2 h1 (dF.mp hm) h2);unfold IZ at g
   rw[n9]at g
   refine⟨?_,g⟩
   show(l.map yQ).length+1<=1048576
   rw[cO,h1];exact bR (mX<|Qw (Nat.add_lt_add_left (dF.mp hm) 1) 1) (by decide)
 ·show(l.map D.int).length+1<=1048576
  rw[cO,hl.1];exact bR (mX<|Qw (dF.mp hm) 1) (by decide)
 ·obtain⟨j,hj,rfl⟩:=yT (f:=.int) (l:=[-16,-17]) hy;exact⟨d1,hK [j] i1 (.r hj)⟩
def C':Tr:=xC fj.ok fj.d
theorem bF4:aQ (aU x) (n+4) Mc C':=qo (q:=bA1) (l:=UK) (by kernel_rfl) ⟨rX,B2,yR,AT,bE8,A',cH2⟩ λX i k I S=>by
 refine⟨(),cH2,35,i,(by decide),λa i1 ha=>⟨nn,ha,λy hy=>?_⟩⟩
 obtain⟨⟨f,t,ls⟩,hr,rfl⟩:=yT (f:=IJ) (l:=x7) hy;have g:=lE B' _ hr;have p0:0<t -f+1:=gy (ck g);have p1:t -f+1<65536:=gy (ck (bf g));have fm:=bF1 _ hr;have rc:=λi=>bF0 (i:=i) hr;refine⟨t -f+1,i1,⟨p0,?_⟩,λc i2 hc=>?_⟩
 ·exact mD (dF.mp ((Int.natAbs_of_nonneg (X3 p0)).symm▸p1)) (by decide)
 ·have f3:ls.length<=2:=(by decide:∀l∈UL,l.length<=2) ls fm
  refine⟨bR f3 (by decide),?_⟩
  refine bF3 (c:=f+c) fm i2 λl i3 hl=>?_;exact S ⟨f+c,l⟩ i3 ⟨(rc c hc).1,(rc c hc).2.symm▸hl⟩
end
section
inductive AL:O->O->Prop
 |eq {a}:(∀ts,a≠.cur ts)->AL a a
 |cur {ts l i e}:i<=e->e<=l.length->(l.take e).drop i=c8 ts->AL (.cur ts) (.inst qf (MU l i e))
abbrev yU:=L2 AL
theorem AL.own{a b:O}(h:AL a b)(p:aR×aR):jR (p,a)=jR (p,b):=h.rec (λ_=>rfl) λ_ _ _=>rfl
theorem Da{l m:J O}(h:yU l m):∀r:bP,own (r.zip l)=own (r.zip m):=by
 induction h with
 |nil=>exact λ_=>rfl
 |cons c _ ih=>exact λr=>by cases r with|nil=>rfl|cons p r=>exact(oA ..).trans ((congr (bQ (·++·) (c.own p)) (ih r)).trans (oA ..).symm)
section
variable{w:bU}{r:bP}{F:bN}{h:dH}
theorem AL.abs{p:aR×aR}{a b:O}(c:AL a b)(y:OR w r F h p b):OR w r F h p a:=by
 cases c with
 |eq=>exact y
 |cur h1 h2 h3=>exact⟨_,_,_,y,h1,h2,h3⟩
theorem OR.bF5{p:aR×aR}{a:O}(y:OR w r F h p a):∃b,AL a b/\OR w r F h p b:=by
 induction a with
 |cur ts=>exact y.elim λl y=>y.elim λi y=>y.elim λe y=>⟨_,.cur y.2.1 y.2.2.1 y.2.2.2,y.1⟩
 |_=>exact⟨_,.eq (λ_ q=>nomatch q),y⟩
theorem bF6{o:J O}:∀{q:bP},q.length=o.length->(∀p∈q.zip o,OR w r F h p.1 p.2)->∃o1,yU o o1/\∀p∈q.zip o1,OR w r F h p.1 p.2:=by
 induction o with
 |nil=>exact λ_ h=>⟨[],.nil,h⟩
 |cons a o ih=>
  intro q l hh;induction q using eT with
  |nil=>cases l
  |cons p q=>exact(OR.bF5 (hh (p,a) (.head _))).elim λb g=>(ih (zJ l) λx hx=>hh x (.tail _ hx)).elim λo1 g1=>⟨b::o1,.cons g.1 g1.1,gv.mpr ⟨g.2,g1.2⟩⟩
theorem bF7{o o1:J O}(z:yU o o1):∀{q:bP},(∀p∈q.zip o1,OR w r F h p.1 p.2)->∀p∈q.zip o,OR w r F h p.1 p.2:=by
 induction z with
 |nil=>exact λh=>h
 |cons c z ih=>
  intro q hh;induction q using eT with
  |nil=>exact λ_ h=>(vt h).elim
  |cons p q=>exact gv.mpr ⟨c.abs (hh (p,_) (.head _)),ih λx hx=>hh x (.tail _ hx)⟩
end
def Db(T:Tr):Tr:=λargs o k=>∀o1,yU o o1->T args o1 λv Do=>∃o',yU o' Do/\k v o'
theorem bF8{f:Cf}{n:H}{g:aA}{T:Tr}(h:SC f n g T):SC f n g (Db T):=by intro args o k S A s F E r ws ok el m y;refine b_ (bF6 el m.live) λo1 hx=>?_;have c:=hx.1;have y1:=hx.2;have e1:=Da c r;have m1:l_ f r s F (r.zip o1):=⟨m.sub,m.base,y1,λa ha=>m.jf a (e1▸ha),e1▸m.nd⟩;refine gG (h _ _ _ (S o1 c) A s F E r ws ok (el.trans c.length) m1 y) (λu s' p=>?_) λ_ _ z=>z;obtain⟨v,Do,r',F',⟨o',c',hq⟩,yv,l,m',t⟩:=p;have e2:=Da c' r';refine⟨v,o',r',F',hq,yv,l.trans c'.length.symm,⟨m'.sub,m'.base,bF7 c' m'.live,λa ha=>m'.jf a (e2▸ha),e2▸m'.nd⟩,?_⟩;rw[e1,e2];exact t
theorem aQ.cur{f:Cf}{n:H}{a:aR}{T:Tr}(h:aQ f n a T):aQ f n a (Db T):=⟨h.keep,bF8 h.sc⟩
theorem yU.v7{ts:J Tk}{o1:J O}(h:yU [.cur ts] o1):∃l i e,o1=[.inst qf (MU l i e)]/\i<=e/\e<=l.length/\(l.take e).drop i=c8 ts:=by
 obtain⟨b,e,c⟩:=h.one;cases c with
 |eq q=>exact absurd rfl (q ts)
 |cur h1 h2 h3=>exact⟨_,_,_,e,h1,h2,h3⟩
end
section
open Wh (cu)
variable{w:bU}{bJ s:aE}{x:cu w bJ s}{n:H}
def cI(l:J H)(i e:H):O:=.inst qf (MU l i e)
structure k8(l:J H)(i e:H)(r:J H):Prop where
 ie:i<=e
 el:e<=l.length
 r:(l.take e).drop i=r
theorem k8.len{l:J H}{i e:H}{r:J H}(h:k8 l i e r):i+r.length=e:=by rw[<-h.r,ct9,Xu,Qo h.el,cA3 h.ie]
theorem k8.app{l:J H}{i e:H}{a r:J H}(h:k8 l i e (a++r)):i+a.length<=e/\(l.take (i+a.length)).drop i=a/\k8 l (i+a.length) e r:=by
 have hl:=h.len;rw[f6,<-wB]at hl
 have le:i+a.length<=e:=hl▸gF _ _;refine⟨le,?_,⟨le,h.el,?_⟩⟩
 ·have h1:=bQ (List.take a.length) h.r;rw[List.take_left' rfl,List.take_drop,List.take_take,Qo le]at h1
  exact h1
 ·have h1:=bQ (cz9 a.length) h.r;rw[List.drop_left' rfl,List.drop_drop]at h1
  exact h1
theorem k8.cons{l:J H}{i e b:H}{r:J H}(h:k8 l i e (b::r)):i<e/\l[i]?=N b/\k8 l (i+1) e r:=by
 obtain⟨h1,h2,h3⟩:=k8.app (a:=[b]) h;refine⟨h1,?_,h3⟩;have h4:=bQ (·[0]?) h2;rw[List.getElem?_drop,Nat.add_zero,Xs (show i<i+[b].length from m7 i)]at h4
 exact h4
def UM:Tr:=λa_ o_ k_=>∀P_:Tr,(∀(l i e){k},k (.d (.int ((e:aa) -i))) [cI l i e]->P_ [.ref 0] [cI l i e] k)->P_ a_ o_ k_
theorem UN:aQ (aU x) (n+1) BL UM:=fc x (q:=bo0) (l:=[]) (by kernel_rfl) trivial λX I u2 g=>g _ λl i e X h=>h
def bF9:Tr:=λa_ o_ k_=>∀P_:Tr,(∀(l i e){k},k (.d (.bool (decide ((e:aa)<=i)))) [cI l i e]->P_ [.ref 0] [cI l i e] k)->P_ a_ o_ k_
theorem bG0:aQ (aU x) (n+1) GV bF9:=fc x (q:=bo1) (l:=[]) (by kernel_rfl) trivial λX I u2 g=>g _ λl i e X h=>h
def Dx:Tr:=λa_ o_ k_=>∀P_:Tr,(∀(l i e b r){k},k8 l i e (b::r)->k (.d (.int (b:H))) [cI l i e]->P_ [.ref 0] [cI l i e] k)->P_ a_ o_ k_
theorem bG1{l:J H}{i b:H}(h:l[i]?=N b){y:D}(g:(fJ l)[(i:aa).toNat]?=N y): .int b=y:=by
 have e:(fJ l)[i]?=N (.int b):=by unfold fJ;rw[mC,h];rfl
 exact fU (e.symm.trans g)
theorem DD:aQ (aU x) (n+1) GW Dx:=fc x (q:=bo2) (l:=[]) (by kernel_rfl) trivial λX I u2 g=>g _ λl i e b r k hb S=>by
 have hx:=hb.cons;have h1:=hx.1;have h2:=hx.2.1
 conv=>whnf
 refine jb (kq (Gn.mpr (dF.mpr h1))) ⟨nn,?_,λy hy=>?_⟩
 ·unfold fJ;rw[cO];exact dF.mpr (pN h1 hb.el)
 ·cases bG1 h2 hy;exact S
def UO:Tr:=λa_ o_ k_=>∀P_:Tr,(∀(l i e b r){k},k8 l i e (b::r)->k (.d (.int (b:H))) [cI l (i+1) e]->P_ [.ref 0] [cI l i e] k)->P_ a_ o_ k_
theorem N5:aQ (aU x) (n+2) qg UO:=fc x (q:=bo3) (l:=[(GW,Dx)]) (by kernel_rfl) ⟨DD,cH2⟩ λX I u2 g=>g _ λl i e b r k hb S=>(λX I=>I l i e b r hb S)
def bG2:Tr:=λa_ o_ k_=>∀P_:Tr,(∀(l i e a r){k},k8 l i e (a++r)->k (.d (.bytes a)) [cI l (i+a.length) e]->P_ [.ref 0,.d (.int ((a:J H).length:H))] [cI l i e] k)->P_ a_ o_ k_
theorem D1{i e a:H}(h:i+a<=e):decide ((e:aa) -i<a)=ak:=kq (pP.mpr (Int.le_sub_left_of_add_le (iN.mpr h)))
theorem bG3:aQ (aU x) (n+2) BN bG2:=fc x (q:=bo4) (l:=[(BL,UM)]) (by kernel_rfl) ⟨UN,cH2⟩ λX I u2 g=>g _ λl i e a r k hb S=>by
 have hx:=hb.app;have h1:=hx.1;have h2:=hx.2.1;have h3:=hx.2.2;refine(λX I=>I l i e ?_)
 conv=>whnf
 refine jb (D1 h1) ⟨⟨nn,iN.mpr (gF ..),iN.mpr (bR h1 hb.el)⟩,?_⟩;have e:(l.take ((i:aa)+(a.length:H)).toNat).drop (i:aa).toNat=a:=h2;rw[e];exact S
def I0:Tr:=λa_ o_ k_=>∀P_:Tr,(∀(l){k},k (.d .none) [cI l 0 l.length]->P_ [.ref 0,.d (.bytes l)] [.inst qf []] k)->(∀(l)(i e:H){k},k (.d .none) [cI l i e]->P_ [.ref 0,.d (.bytes l),.d (.int i),.d (.int e)] [.inst qf []] k)->P_ a_ o_ k_
theorem I0.a(l){k}(f5:k (.d .none) [cI l 0 l.length]):I0 [.ref 0,.d (.bytes l)] [.inst qf []] k:=λP_ c_ u_=>c_ l f5
theorem I0.b(l)(i e:H){k}(f5:k (.d .none) [cI l i e]):I0 [.ref 0,.d (.bytes l),.d (.int i),.d (.int e)] [.inst qf []] k:=λP_ u_ c_=>c_ l i e f5
theorem bG4:aQ (aU x) (n+1) Zm I0:=by
 refine Uu x (q:=bn9) (l:=[]) 99 (Wh.tu [.int 0 307,.none]) (by kernel_rfl) (by kernel_rfl) (λargs b hb r F ws hv=>?_) trivial λX I u2 g=>g _ (λl X h=>h) λl i e X h=>h
 cases hv with
 |nil=>cases hb
 |cons v1 hv=>cases hv with
  |nil=>cases hb
  |cons v2 hv=>cases hv with
   |nil=>cases hb;exact⟨[(aK,_),(bH,_),(cD,.int 0 307),(sY,.none)],by kernel_rfl,by kernel_rfl,.cons v1 (.cons v2 (.cons (.d .int) (.cons (.d .none) .nil)))⟩
   |cons v3 hv=>cases hv with
    |nil=>cases hb;exact⟨[(aK,_),(bH,_),(cD,_),(sY,.none)],by kernel_rfl,by kernel_rfl,.cons v1 (.cons v2 (.cons v3 (.cons (.d .none) .nil)))⟩
    |cons v4 hv=>cases hv with
     |nil=>cases hb;exact⟨[(aK,_),(bH,_),(cD,_),(sY,_)],by kernel_rfl,by kernel_rfl,.cons v1 (.cons v2 (.cons v3 (.cons v4 .nil)))⟩
     |cons X I=>cases hb
def E_:Tr:=λa_ o_ k_=>∀P_:Tr,(∀(l){k},k (.ref 0) [cI l 0 l.length]->P_ [.d (.bytes l)] [] k)->(∀(l)(i e:H){k},k (.ref 0) [cI l i e]->P_ [.d (.bytes l),.d (.int i),.d (.int e)] [] k)->P_ a_ o_ k_
theorem E_.a(l){k}(f5:k (.ref 0) [cI l 0 l.length]):E_ [.d (.bytes l)] [] k:=λP_ c_ u_=>c_ l f5
theorem E_.b(l)(i e:H){k}(f5:k (.ref 0) [cI l i e]):E_ [.d (.bytes l),.d (.int i),.d (.int e)] [] k:=λP_ u_ c_=>c_ l i e f5
theorem D2:aQ (aU x) (n+2) qf E_:=(CC x bG4 (by kernel_rfl)).of λX I u2 g=>g _ (λl X h=>.a l h) λl i e X h=>.b l i e h
def bG5:Tr:=λa_ o_ k_=>∀P_:Tr,(∀(l i e a r){k},k8 l i e (a++r)->k (.ref 1) [cI l (i+a.length) e,cI l i (i+a.length)]->P_ [.ref 0,.d (.int ((a:J H).length:H))] [cI l i e] k)->P_ a_ o_ k_
theorem bG6:aQ (aU x) (n+3) GX bG5:=fc x (q:=bo5) (l:=[(BL,UM),(qf,E_)]) (by kernel_rfl) ⟨UN,D2,cH2⟩ λX I u2 g=>g _ λl i e a r k hb S=>by
 refine(λX I=>I l i e ?_)
 conv=>whnf
 exact jb (D1 hb.app.1) (.b l i (i+a.length) S)
noncomputable def oJ(b:H):aa:=uc (b:aa) 127
def N6(a:H->aa->Prop)(sf sh:aa)(b:H):Prop:=(decide (sf -sh<7)=ah->a b (sf -sh))/\(decide (sf -sh<=7)=ah->(b:aa)<128)/\(0<=sh/\sh+7<=100000/\(oJ b).natAbs<2^64)
def I4(a:H->aa->Prop)(sf sh:aa):J H->Prop
 |[]=>bV
 |b::r=>N6 a sf sh b/\bC (decide ((b:aa)<128)) (r=[]) (I4 a sf (sh+7) r)
def N7(b:H)(lf:aa):Prop:=0<=lf/\(oJ b).fdiv (2^lf.toNat)=0
def CH(f sh:aa):J H->aa
 |[]=>f
 |b::r=>CH (f+oJ b*2^sh.toNat) (sh+7) r
def bG7(b g f sh:aa):Fm:=[(aK,.L (N (.ref 0))),(qJ,.L (N (.d (.int b)))),(sX,.L (N (.d (.int g)))),(dQ,.L (N (.d (.int f)))),(nP,.L ao),(eB,.L ao),(rL,.L (N (.d (.int sh))))]
inductive UP(a:H->aa->Prop)(acc:aa->aa->J H->aa)(sf g cC:aa)(l r:J H)(e8 e:H):H->St->Prop
 |mk (ds:J H) (f sh:aa) (i:H):I4 a sf sh ds->acc f sh ds=cC->i+ds.length=e8->k8 l i e (ds++r)->UP a acc sf g cC l r e8 e ds.length ⟨bG7 sf g f sh,[cI l i e]⟩
def Ee(m:aa->Prop)(a:H->aa->Prop)(acc:aa->aa->J H->aa):Tr:=λa_ o_ k_=>∀P_:Tr,(∀(l i e b)(ds r){k},m b->I4 a b 0 ds->k8 l i e (ds++r)->k (.d (.int (acc 0 0 ds))) [cI l (i+ds.length) e]->P_ [.ref 0,.d (.int b)] [cI l i e] k)->P_ a_ o_ k_
theorem CI(b:H):oJ b=((b% 128:H):aa):=by unfold oJ;rw[Qx];rfl
theorem EQ{sh:aa}(h:sh+7<=100000):sh<=100000:=ji (ap2 (by decide)) h
theorem bG8:aQ (aU x) (n+3) Ln (Ee kC N7 CH):=fc x (q:=bo6) (l:=[(qg,UO)]) (by kernel_rfl) ⟨N5,cH2⟩ λX I u2 g=>g _ λl tV e sf ds r k X h0 I5 S=>by
 conv=>whnf
 refine⟨UP N7 CH sf tV (CH 0 0 ds) l r (tV+ds.length) e,ds.length,.mk ds 0 0 tV h0 rfl rfl I5,?_⟩;generalize CH 0 0 ds=cC at S
 generalize tV+ds.length=e8 at S
 clear h0 I5 ds;intro m Z h;cases h with|mk ds f sh i h1 h2 h3 h4=>cases ds with|nil=>exact h1.elim|cons b ds=>
 obtain⟨⟨c1,c2,c3⟩,c4⟩:=h1;refine(λX I=>I l i e b (ds++r) h4 ?_)
 conv=>whnf
 refine IK (λq c=>⟨(c1 q).1,jb (by show(!decide (zQ (oJ b) _=0))=ak;rw[(c1 q).2];rfl) c⟩) ?_
 conv=>whnf
 refine IK (λq c=>jb (kq (Gn.mpr (c2 q))) c) ⟨⟨c3.1,EQ c3.2.1,c3.2.2⟩,?_⟩
 conv=>whnf
 refine qX (P:=λp=>p) c4 (λq d=>?_) λq d=>?_
 ·subst d;have h3:i+1=e8:=h3;have h2:f+oJ b*2^sh.toNat=cC:=h2;subst h3 h2;exact S
 ·exact⟨ds.length,m7 _,.mk ds _ _ (i+1) d h2 ((wB ..).trans ((bQ (i+·) (rB ..)).trans h3)) h4.cons.2.2⟩
def I6(b:H)(lf:aa):Prop:=0<=lf -1/\(decide (0=(oJ b).fdiv (2^(lf -1).toNat))||(decide (zQ 127 (2^(lf -1).toNat)=(oJ b).fdiv (2^(lf -1).toNat))||ak))=ah
noncomputable def N8(f sh:aa)(b:H):aa:=bC (!decide (uc (b:aa) 64=0)) (f -1*2^sh.toNat) f
def AM(f sh:aa):J H->aa
 |[]=>f
 |b::r=>bC (f9 r) (N8 (f+oJ b*2^sh.toNat) (sh+7) b) (AM (f+oJ b*2^sh.toNat) (sh+7) r)
def Fa(b:aa):Prop:=b∈[7,32,33,64]
theorem bG9:aQ (aU x) (n+3) BO (Ee Fa I6 AM):=fc x (q:=bo7) (l:=[(qg,UO)]) (by kernel_rfl) ⟨N5,cH2⟩ λX I u2 g=>g _ λl tV e sf ds r k X h0 I5 S=>by
 conv=>whnf
 refine⟨UP I6 AM sf tV (AM 0 0 ds) l r (tV+ds.length) e,ds.length,.mk ds 0 0 tV h0 rfl rfl I5,?_⟩;generalize AM 0 0 ds=cC at S
 generalize tV+ds.length=e8 at S
 clear h0 I5 ds;intro m Z h;cases h with|mk ds f sh i h1 h2 h3 h4=>cases ds with|nil=>exact h1.elim|cons b ds=>
 obtain⟨⟨c1,c2,c3⟩,c4⟩:=h1;refine(λX I=>I l i e b (ds++r) h4 ?_)
 conv=>whnf
 refine IK (λq c=>⟨(c1 q).1,(c1 q).1,jb (bQ (!·) (c1 q).2) c⟩) ?_
 conv=>whnf
 refine IK (λq c=>jb (kq (Gn.mpr (c2 q))) c) ⟨⟨c3.1,EQ c3.2.1,c3.2.2⟩,?_⟩
 conv=>whnf
 refine qX (P:=λp=>p) c4 (λq d=>?_) λq d=>?_
 ·subst d;have h3:i+1=e8:=h3;have h2:N8 (f+oJ b*2^sh.toNat) (sh+7) b=cC:=h2;subst h3 h2
  conv=>whnf
  exact qX (P:=λv=>k (.d (.int v)) [cI l (i+1) e]) S (λX h=>⟨⟨Qy c3.1 (by decide),c3.2.1,by decide⟩,h⟩) λX h=>h
 ·have h2:AM (f+oJ b*2^sh.toNat) (sh+7) ds=cC:=by cases ds with|nil=>exact d.elim|cons X I=>exact h2
  exact⟨ds.length,m7 _,.mk ds _ _ (i+1) d h2 ((wB ..).trans ((bQ (i+·) (rB ..)).trans h3)) h4.cons.2.2⟩
end
theorem I7(t:H):((2:aa)^((7*t:H):aa).toNat)=((128^t:H):aa):=by rw[sF,Int.pow_mul,Gm];rfl
theorem bH0:∀(k t q:H)(f:aa),q<128^(k+1)->CH f ((7*t:H):aa) (tG q (k+1))=f+((q*128^t:H):aa):=λi_=>by
 induction i_ with
 |zero=>
  intro t q f h
  show f+oJ (q% 128)*2^_=_
  rw[I7,CI,X4,zN (by simpa using h),KJ]
 |succ k ih=>
  intro t q f h;have ih:=ih (t+1) (q/128) (f+oJ (q% 128+128)*2^((7*t:H):aa).toNat) (ai8 (by rw[KL,Qz]at h;exact h))
  refine Qg ih ?_;have e:q% 128*128^t+q/128*128^(t+1)=q*128^t:=by rw[KL,Qz (128^t) 128,<-cA4,<-Nat.add_mul,Nat.mod_add_div']
  rw[I7,CI,X5,X4,<-e,DB,KJ (q% 128),zR]
theorem Fh(b:H):(oJ b).natAbs<2^64:=by rw[CI];exact mD (QA _ (by decide)) (by decide)
theorem bH1:∀t<5,(decide ((32:aa) -((7*t:H):aa)<7)=ah->t=4)/\(decide ((32:aa) -((7*t:H):aa)<=7)=ah->t=4)/\((7*t:H):aa)+7<=100000:=by decide
theorem Fs{a:H}:¬((a+128:H):aa)<128:=λz=>absurd (dF.mp z) (QB (xY _ _))
theorem bH2(k:H):∀t q:H,t+k<5->q*128^t<4294967296->I4 N7 32 ((7*t:H):aa) (tG q (k+1)):=by
 have Z:∀(t q b:H),t<5->q*128^t<4294967296->b% 128=q% 128->(t=4->b<128)->N6 N7 32 ((7*t:H):aa) b:=λt q b h1 h2 h3 h4=>by
  have f:=bH1 t h1;refine⟨λh=>?_,λh=>dF.mpr (h4 (f.2.1 h)),nn,f.2.2,Fh b⟩;cases f.1 h;have h5:q<16:=Nat.lt_of_mul_lt_mul_right (a:=128^4) h2;refine⟨by decide,?_⟩
  rw[CI,h3,zN (mD h5 (by decide))]
  show zQ q 16=0
  rw[QC _ (by decide)]
  exact bQ sL (Nat.div_eq_of_lt h5)
 induction k with
 |zero=>exact λt q h g=>⟨Z t q _ h g (X4 _ _) λX=>QA _ (by decide),by rw[nL (p:=((q% 128:H):aa)<128) (dF.mpr (QA _ (by decide)))];rfl⟩
 |succ k ih=>exact λt q h g=>⟨Z t q _ (eZ (gF ..) h) g ((X5 ..).trans (X4 ..)) λe=>absurd (cq7 (n:=4) (m:=1) (by rw[e]at h;exact h)) (QB (lB (qw k))),by rw[kq Fs];refine ih (t+1) (q/128) (eZ (jm (xW t k)) h) (eZ ?_ g);rw[KL,Qz (128^t),<-cA4];exact Nat.mul_le_mul_right _ (Nat.div_mul_le_self q 128)⟩
theorem bH3{b:H}(h:b<128):decide (uc (b:aa) 64=0)=decide (b<64):=by
 rw[ap3 nn (by decide)]
 have:∀b<128,decide (b&&&64=0)=decide (b<64):=by decide
 refine Qg ?_ (this b h)
 show decide ((((b&&&64:H):aa))=0)=_
 rw[X6];exact zS (n:=0)
theorem xE(q:aa):0<=q% 128/\q% 128<128/\((q% 128).toNat:aa)=q% 128/\(q% 128).toNat<128:=
 have h:=QD q (by decide:(128:aa)≠0)
 have g:=ap4 q (by decide:(0:aa)<128)
 ⟨h,g,Bo h,(XO h).mpr g⟩
theorem UQ{q M cC:aa}(e:M*128=cC)(h:-cC<=q)(g:q<cC):-M<=q/128/\q/128<M:=
 ⟨(cA5 (by decide)).mpr (by rw[X7,e];exact h),(cA6 (by decide)).mpr (by rw[e];exact g)⟩
theorem Fu{q:aa}(h:¬q<0)(g:q<128):q% 128=q:=X8 (pP.mp h) g
theorem FC{q:aa}(h:-128<=q)(g:q<0):q% 128=q+128:=(Int.add_emod_right q 128).symm.trans (X8 (ap5 h 128) (cA7 g 128))
theorem bH4(a b:aa):a+b+1 -a=b+1:=by rw[zR,Ku a,uh]
theorem bH5:∀(k t:H)(q f:aa),-(64*128^k)<=q->q<64*128^k->AM f ((7*t:H):aa) (ny q (k+1))=f+q*((128^t:H):aa):=λi_=>by
 induction i_ with
 |zero=>
  intro t q f h g;obtain⟨h1,h2,h3,h4⟩:=xE q;have e7:(2:aa)^(((7*t:H):aa)+7).toNat=128*((128^t:H):aa):=by
   have:=I7 (t+1);rw[KL,Qz (128^t),KJ]at this
   exact this
  show N8 (f+oJ (q% 128).toNat*2^_) _ _=_
  unfold N8;rw[bH3 h4,I7,CI,zN h4,h3,e7];generalize((128^t:H):aa)=M;have h:-64<=q:=h;have g:q<64:=g;by_cases n:q<0
  ·have e:q% 128=q+128:=FC (ji (by decide) h) n
   have e1:¬(q% 128).toNat<64:=λz=>pP.mpr (ap5 h 128) (by rw[<-e,<-h3];exact dF.mpr z)
   rw[kq e1,e,cA8]
   show f+_ -_=_
   rw[Int.one_mul,<-zR];exact uh _ _
  ·have e:q% 128=q:=Fu n (sN g (by decide))
   rw[nL ((XO h1).mpr (e.symm▸g)),e];rfl
 |succ k ih=>
  intro t q f h g;obtain⟨h1,h2,h3,h4⟩:=xE q;have d:=UQ ((ap6 ..).trans (bQ (64*·) (XZ ..).symm)) h g;have ih:=ih (t+1) (q/128) (f+oJ ((q% 128).toNat+128)*2^((7*t:H):aa).toNat) d.1 d.2;have ne:∀{a b:aa},bC (f9 (ny (q/128) (k+1))) a b=b:=λ{a b}=>by cases k<;>exact rfl
  refine Qg ne (Qg ih ?_);rw[I7,CI,X5,zN h4,h3,KL,KJ,zR,X0 ((128^t:H):aa),<-ap6,<-cA8];refine bQ (λz=>f+z*_) ?_;exact Int.emod_add_ediv_mul q 128
theorem bH6:∀(k s:H)(q sh:aa),0<=sh->sh+7*(k+1)<=100000->7*k<=s->-2^s<=q->q<2^s->I4 I6 (sh+s+1) sh (ny q (k+1)):=by
 have up:∀s<6,∀b<128,(b<2^s\/128<=b+2^s)->b/2^s=0\/127/2^s=b/2^s:=by decide
 have Z:∀(s:H)(q sh:aa)(b:H),0<=sh->sh+7<=100000->b% 128=(q% 128).toNat->(s<7->b<128)->-2^s<=q->q<2^s->N6 I6 (sh+s+1) sh b:=λs q sh b h0 h1 h2 h3 h4 h5=>by
  unfold N6;rw[bH4];refine⟨λh=>?_,λh=>dF.mpr (h3 (dF.mp (gy h))),h0,h1,Fh b⟩;have s6:s<6:=dF.mp (Int.lt_of_add_lt_add_right (b:=1) (gy h));have p2:(2:aa)^s=((2^s:H):aa):=by rw[Gm];rfl
  have FM:((2^s:H):aa)<64:=dF.mpr (Nat.pow_lt_pow_right (by decide) s6)
  rw[p2]at h4 h5
  unfold I6;rw[uh,sF,CI,h2,p2,QC _ nn,QC _ nn];have h7:=xE q;refine⟨nn,?_⟩;have:=up s s6 _ h7.2.2.2 (by
   by_cases n:q<0
   ·refine .inr (iN.mp ?_);rw[DB,h7.2.2.1,FC (ji (X3 (Int.neg_lt_neg (sN FM (by decide)))) h4) n,Int.add_right_comm]
    exact cA9 (ji (Int.le_of_eq (Int.add_left_neg _).symm) (ap5 h4 _))
   ·refine .inl (dF.mp ?_);rw[h7.2.2.1,Fu n (sN h5 (sN FM (by decide)))]
    exact h5)
  rw[aj5,Bool.or_eq_true,XX,XX,<-Int.natCast_ediv];exact this.imp (λe=>(bQ sL e).symm) λe=>bQ sL e
 intro k;induction k with
 |zero=>exact λs q sh h0 h1 X h2 h3=>⟨Z s q sh _ h0 h1 (zN (xE q).2.2.2) (λX=>(xE q).2.2.2) h2 h3,by rw[nL (p:=(((q% 128).toNat:H):aa)<128) (dF.mpr (xE q).2.2.2)];rfl⟩
 |succ k ih=>
   intro s q sh h0 h1 h4 h2 h3;have h1:sh+7+7*((k:aa)+1)<=100000:=by omega
   refine b_ (cq6 (bR (Nat.le_mul_of_pos_right 7 (jc k)) h4)) λs e=>?_;subst e;refine⟨Z _ q sh _ h0 (ji (ap2 nn) h1) ((X5 ..).trans (zN (xE q).2.2.2)) (λh=>absurd h (QB (gF ..))) h2 h3,?_⟩;rw[kq Fs,DB,<-zR];have d:=UQ ((X0 ..).trans (Int.pow_add (2:aa) 7 s).symm) h2 h3;exact ih s (q/128) (sh+7) (Qy h0 (by decide)) h1 (Nat.le_of_add_le_add_left (a:=7) (bR (jm (rB ..)) h4)) d.1 d.2
abbrev Ts:=J Tk
def tU(p n:H):Tk:=.u n (min 5 (nG n+p))
def tS(b p:H)(i:aa):Tk:=.s i (min ((b+6)/7) (rW i+p))
def cU(p n:H)(r:Ts):Ts:=tU p n::r
noncomputable def c7(i:aa)(r:Ts):Ts:=.s i 1::r
noncomputable def tL{α:Type}(t:α->Ts->Ts)(l:J α)(r:Ts):Ts:=l.foldr t r
noncomputable def cB(n:H)(r:Ts):Ts:=.b n::r
noncomputable def cR(l:J H)(r:Ts):Ts:=.raw l::r
def I8(p:H)(l:J aa)(r:Ts):Ts:=cU p l.length (tL c7 l r)
def tW(p:H)(y:ai)(r:Ts):Ts:=cU p (pQ y).length (cR (pQ y) r)
def CJ(p:H):qk->Ts->Ts
 |(a,ao),r=>cB 0 (cU p a r)
 |(a,N m),r=>cB 1 (cU p a (cU p m r))
def UR(p:H)(i:aa):Tk:=bC (decide (i<0)) (.s i 1) (tS 33 p i)
def bH7(p c:H)(i:aa):Tk:=bC (jj (bX c 117) (bX c 97)) (tU p i.toNat) (bC (bX c 98) (UR p i) (bC (bX c 114) (.s i 1) (tS (bC (bX c 105) 32 64) p i)))
def US(p:H)(i:aa)(r:Ts):Ts:=cU p i.toNat r
def xF(p:H)(all:J aa):J H->J aa->Ts->Ts
 |[],X,r=>r
 |c::l,a,r=>bC (bX c 122) (cB 0 (xF p all l a r)) (bC (bX c 107) (I8 p all (xF p all l a r)) (bC (bX c 116) (cU p (all.length -1) (tL (US p) all (xF p all l a r))) (bH7 p c (a.headD 0)::xF p all l a.tail r)))
def pR(p:H)(c:aa)(r:Ts):Ts:=bC (decide (c<64512)) (cB c.toNat r) (cB 252 (cU p (c -64512).toNat r))
def UT(p:H)(i:fj)(r:Ts):Ts:=pR p i.c (xF p i.a (n_ i.c) i.a r)
def oN(p:H)(b:iR)(r:Ts):Ts:=tL (UT p) b r
def I9(p:H)(f:Fk)(r:Ts):Ts:=cB 96 (I8 p f.1 (I8 p f.2 r))
def Fc(p:H)(t:iZ)(r:Ts):Ts:=c7 t.k (CJ p t.l r)
def N9(g:Gk)(r:Ts):Ts:=c7 g.k (cB g.m r)
def bH8(p:H):vZ->Ts->Ts
 | .f i,r=>cU p i r
 | .t t,r=>Fc p t r
 | .m l,r=>CJ p l r
 | .g g,r=>N9 g r
def I_(p:H)(i:fh)(r:Ts):Ts:=tW p i.p (tW p i.n (cB i.a.sort (bH8 p i.a r)))
abbrev l5:=H×aa
noncomputable def xG(r:l5):D:=.tup [.int r.1,.int r.2]
noncomputable def CK(R:J l5)(k:aa):J l5:=match R with
 |[]=>[(1,k)]
 |r::R=>bC (decide (r.2=k)) ((r.1+1,k)::R) ((1,k)::r::R)
def qG(l:J aa):J l5:=(l.foldl CK []).reverse
def tX(p:H)(l:J aa):J l5:=bC (bX p 0) (qG l) ((0,-2)::l.map λk=>(1,k))
def Fd(r:l5)(s:Ts):Ts:=cU 0 r.1 (c7 r.2 s)
def Ja(p:H)(l:J aa)(r:Ts):Ts:=cU p (tX p l).length (tL Fd (tX p l) r)
def tZ(p:H)(ts:Ts)(r:Ts):Ts:=cU p (c8 ts).length (.Y_ ts::r)
def UU(p:H)(f:cW):Ts:=Ja p f.l (oN p f.b [])
def CL(p:H)(f:cW)(r:Ts):Ts:=tZ p (UU p f) r
def Jb(p:H)(g:iy)(r:Ts):Ts:=N9 g.g (oN p g.b r)
def Jc(p:H)(e:ju)(r:Ts):Ts:=tW p e.n (cB e.s (cU p e.i r))
noncomputable def nf:er->aD
 | .f X=>ak
 |X=>ah
def lM(e:dz):aD:=!decide (e.k=-16)||e.i.any nf
noncomputable def er.x:er->H
 | .f i=>i
 |X=>0
def CM(p:H)(B:aD)(e:dz)(r:Ts):Ts:=cU p e.i.length (bC B (tL (λi:er=>oN p (i.b e.k)) e.i r) (tL (λi:er=>cU p i.x) e.i r))
def Jd(B:aD)(k:aa)(r:Ts):Ts:=bC B (c7 k r) (cB 0 r)
def FR(p:H)(B:aD)(e:dz)(r:Ts):Ts:=match e.m with
 | .p=>cU p (bC B 5 1) (Jd B e.k (CM p B e r))
 | .d=>cU p (bC B 7 3) (Jd B e.k (CM p B e r))
 | .a y b=>bC (bz (bX y 0) (bz (decide (e.k=-16)) (bX p 0))) (cU p (bC B 4 0) (oN p b (CM p B e r))) (cU p (bC B 6 2) (cU p y (oN p b (Jd B e.k (CM p B e r)))))
def CN(p:H)(e:dz):Ts->Ts:=FR p (jj (lM e) (bX p 1)) e
def Je(p:H)(e:eV)(r:Ts):Ts:=match e.o with
 |none=>cU p 1 (cU p e.c.length (cR e.c r))
 |some o=>bC (bz (bX o.1 0) (bX p 0)) (cU p 0 (oN p o.2 (cU p e.c.length (cR e.c r)))) (cU p 2 (cU p o.1 (oN p o.2 (cU p e.c.length (cR e.c r)))))
def q7{α:Type}(p:H)(t:α->Ts->Ts)(l:J α)(r:Ts):Ts:=cU p l.length (tL t l r)
def pF(p:H)(m:b6):H->Ts:=kB [] [[],q7 p (I9 p) m.k [],q7 p (I_ p) m.i [],q7 p (λf=>cU p f.k) m.f [],q7 p (Fc p) m.t [],q7 p (CJ p) m.m [],q7 p (Jb p) m.g [],q7 p (Jc p) m.e [],cU p (m.s.getD 0) [],q7 p (CN p) m.l [],q7 p (CL p) m.f [],q7 p (Je p) m.d [],cU p m.d.length []]
def mq(p:H)(m:b6)(n:H):aD:=jj (jI m n) (bz (k6 (bX p 0)) (k6 (jj (bX n 0) (bX n 8))))
def N_(p:H)(m:b6)(n:H)(r:Ts):Ts:=bC (mq p m n) (cB n (tZ p (pF p m n) r)) r
def Jf(p:H)(c:dB)(r:Ts):Ts:=cB 0 (tZ p (tW p c.n (cR c.c [])) r)
def uT(p:H)(n:H)(cs:J dB)(r:Ts):Ts:=tL (λc r=>bC (bX c.b n) (Jf p c r) r) cs r
def AN(p:H)(m:b6)(n:H)(r:Ts):Ts:=N_ p m n (uT p n m.c r)
def AO(p:H)(m:b6):Ts:=cR [0,97,115,109] (cR [1,0,0,0] (uT p 0 m.c (tL (AN p m) cV [])))
theorem FS:c8 []=[]:=rfl
noncomputable def fW(n:H):D:=.int n
theorem tY{i j:H}(h:∀m,m<j->cV[m]?≠N i):∀m,m<j->(cV.map fW)[m]?≠N (.int i):=λm hm e=>by
 rw[mC]at e
 cases q:cV[m]? with
 |none=>rw[q]at e;cases e
 |some p=>
  rw[q]at e
  injection fU e with e
  exact h m hm (q.trans (bQ N (zS.mp e)))
section
open Wh (cu)
variable{w:bU}{bJ s:aE}{x:cu w bJ s}{n p:H}
theorem k8.con{l:J H}{i e:H}{ts:Ts}(h:k8 l i e (c8 ts)):yU [.cur ts] [cI l i e]:=.cons (.cur h.ie h.el h.r) .nil
@[elab_as_elim] theorem v7{ts:Ts}{P:J O->Prop}{o:J O}(c:yU [.cur ts] o)(h:∀l i e,k8 l i e (c8 ts)->P [cI l i e]):P o:=by obtain⟨l,i,e,rfl,h1,h2,h3⟩:=c.v7;exact h l i e ⟨h1,h2,h3⟩
inductive jr{α:Type}(ok:α->Prop)(t:α->Ts->Ts)(d:α->D):Tr
 |mk (a:α) (r:Ts) {k}:ok a->k (.d (d a)) [.cur r]->jr ok t d [.ref 0] [.cur (t a r)] k
theorem k9{q:Fn}{l:J (H×Tr)}{α:Type}{ok:α->Prop}{t:α->Ts->Ts}{d:α->D}(hd:AI (kF w.params) q ah)(hl:vY (aU x) n l)(h:∀a r k,ok a->k (.d (d a)) [.cur r]->lK q l [.ref 0] [.cur (t a r)] k):aQ (aU x) (n+1) q.a (jr ok t d):=
 fc x hd hl λargs o k g=>g.rec λa r X h1 h2=>h a r _ h1 h2
theorem bH9{α:Type}{ok:α->Prop}{t:α->Ts->Ts}{d:α->D}{a:aR}{T:Tr}(h:aQ (aU x) n a T)(g:∀y r l i e k,ok y->k8 l i e (c8 (t y r))->(∀j,k8 l j e (c8 r)->k (.d (d y)) [cI l j e])->T [.ref 0] [cI l i e] k):aQ (aU x) n a (jr ok t d):=
 h.cur.of λargs o k g'=>g'.rec λy r X hy S o1 c=>v7 c λl i e hb=>g y r l i e _ hy hb λj hj=>⟨_,hj.con,S⟩
noncomputable def dN(n:H):D:=.int n
def xH:Tr:=jr (kC (α:=H)) cB dN
theorem yV:aQ (aU x) (n+2) qg xH:=bH9 N5 λy r l i e k X hb S=>(λX I=>I l i e y (c8 r) hb (S _ hb.cons.2.2))
inductive UW:Tr
 |mk (b l ts) {k}:c8 ts=b::l->k (.d (.int (b:H))) [.cur ts]->UW [.ref 0] [.cur ts] k
theorem bI0:aQ (aU x) (n+1) GW UW:=DD.cur.of λX I u2 g=>g.rec λb r ts X e S o1 c=>v7 c λl i e' hb=>(λX I=>I l i e' b r (e▸hb) ⟨_,hb.con,S⟩)
inductive Fe:Tr
 |mk (a r) {k}:k (.d (.bytes a)) [.cur r]->Fe [.ref 0,.d (.int ((a:J H).length:H))] [.cur (cR a r)] k
theorem Oe:aQ (aU x) (n+2) BN Fe:=bG3.cur.of λX I u2 g=>g.rec λa r X S o1 c=>v7 c λl i e hb=>(λX I=>I l i e a (c8 r) hb ⟨_,hb.app.2.2.con,S⟩)
inductive Of:Tr
 |mk (ts) {k}:k (.d (.int ((c8 ts).length:H))) [.cur ts]->Of [.ref 0] [.cur ts] k
theorem FV:aQ (aU x) (n+1) BL Of:=UN.cur.of λX I u2 g=>g.rec λts k S o1 c=>v7 c λl i e hb=>(λX I=>I l i e ⟨_,hb.con,by have h:=hb.len;rw[<-h,DB,Ku,uh];exact S⟩)
inductive Og:Tr
 |mk (ts) {k}:k (.d (.bool (f9 (c8 ts)))) [.cur ts]->Og [.ref 0] [.cur ts] k
theorem FX:aQ (aU x) (n+1) GV Og:=bG0.cur.of λX I u2 g=>g.rec λts k S o1 c=>v7 c λl i e hb=>(λX I=>I l i e ⟨_,hb.con,by
 have h:=hb.len;have e1:decide ((e:aa)<=i)=f9 (c8 ts):=by
  generalize c8 ts=u at h
  induction u using eT with
  |nil=>exact nL (iN.mpr (jm h.symm))
  |cons a r=>exact kq (Gn.mpr (dF.mpr (h▸xV (jc _))))
 rw[e1];exact S⟩)
inductive Oh:Tr
 |mk (t r ts) {k}:c8 ts=c8 t++c8 r->k (.ref 1) [.cur r,.cur t]->Oh [.ref 0,.d (.int ((c8 t).length:H))] [.cur ts] k
theorem Gc:aQ (aU x) (n+3) GX Oh:=bG6.cur.of λX I u2 g=>g.rec λt r ts k e S o1 c=>v7 c λl i e' hb=>by
 rw[e]at hb
 have hx:=hb.app;have g1:=hx.1;have g2:=hx.2.1;have g3:=hx.2.2;refine(λX I=>I l i e' (c8 t) (c8 r) hb ⟨[.cur r,.cur t],?_,S⟩);cases g3.con with
 |cons c1 X=>exact .cons c1 (k8.con ⟨gF ..,bR g1 hb.el,g2⟩)
inductive UX:Tr
 |mk (ts) {k}:k (.ref 0) [.cur ts]->UX [.d (.bytes (c8 ts))] [] k
theorem bI1:aQ (aU x) (n+2) qf UX:=D2.cur.of λX I u2 g=>g.rec λts k S o1 c=>by cases c;exact .a (c8 ts) ⟨_,k8.con ⟨qw _,jO _,cx1⟩,S⟩
theorem Oi:∀(k n:H),n<128^(k+1)->∃j,nG n=j+1/\j<=k/\n<128^(j+1)
 |k,n,h=>by
  rw[E4];by_cases q:n<128
  ·exact⟨0,dP q,qw _,q⟩
  ·rw[cF q]
   match k,h with
   |0,h=>exact absurd h q
   |k+1,h=>
    refine b_ (Oi k (n/128) (ai8 (by rw[Qz];exact h))) λj hx=>?_
    have h1:=hx.1;have h2:=hx.2.1;have h3:=hx.2.2;exact⟨j+1,by rw[h1],lB h2,by rw[KL];exact(Nat.div_lt_iff_lt_mul (by decide)).mp h3⟩
theorem bI2(p:H){n:H}(h:cY n):∃j,(tU p n).oct=tG n (j+1)/\j<5/\n<128^(j+1):=by
 refine b_ (Oi 4 n (mD h (by decide))) λj hx=>?_
 have h1:=hx.1;have h2:=hx.2.1;have h3:=hx.2.2;have e:j+1+p=j+p+1:=A6 j 1 p;refine⟨min 4 (j+p),?_,ap7 (DC _ _),pN h3 (ap1 (by decide) (lB (ap8.mpr ⟨h2,gF _ _⟩)))⟩
 show tG n (min 5 (nG n+p))=_
 rw[h1,e];exact bQ (tG n) (cB0 (x:=4) (y:=j+p))
theorem GE{l:J H}{i e:H}{a:J H}{r:Ts}{t:Tk}(h:k8 l i e (c8 (t::r)))(e':t.oct=a):k8 l i e (a++c8 r):=e'▸h
def GM(p:H):Tr:=λargs o k=>∃a:J V,args=a++[.d (.int 32)]/\jr cY (cU p) dN a o k
theorem bI3:aQ (aU x) (n+3) Ln (GM p):=bG8.cur.of λargs o k ⟨a,e,g⟩=>by
 subst e;exact g.rec λy r k hy S o1 c=>v7 c λl i e hb=>by
  obtain⟨j,h1,h2,h3⟩:=bI2 p hy;have hb:=GE hb h1;have e0:=bH0 j 0 y 0 h3;rw[ap9,cB1,Ks]at e0
  refine(λX I=>I l i e 32 (tG y (j+1)) (c8 r) trivial (bH2 j 0 y (by rw[mW];exact h2) (by rw[ap9,cB1];exact hy)) hb ⟨_,hb.app.2.2.con,?_⟩)
  show k (.d (.int (CH 0 ((7*0:H):aa) _))) _
  rw[e0];exact S
def mR(p:H):Tr:=jr cY (cU p) dN
theorem oO:aQ (aU x) (n+4) mF (mR p):=k9 (q:=bo8) (l:=[(Ln,GM p)]) (by kernel_rfl) ⟨bI3,cH2⟩ λa r k h S=>⟨[.ref 0],rfl,a,r,h,S⟩
theorem Jg(i:aa):∀k,-(64*128^k)<=i->i<64*128^k->∃j,rW i=j+1/\j<=k/\-(64*128^j)<=i/\i<64*128^j:=by
 intro k;induction k generalizing i with
 |zero=>exact λh g=>⟨0,by rw[E6,dP (E5.mpr ⟨h,g⟩)],jO _,h,g⟩
 |succ k ih=>
  intro h g;rw[E6];by_cases q:xB i=ah
  ·have:=E5.mp q;exact⟨0,dP q,qw _,this⟩
  ·rw[cF q];have e:∀j,(64:aa)*128^j*128=64*128^(j+1):=λj=>(ap6 ..).trans (bQ (64*·) (XZ ..).symm);have d:=UQ (e k) h g;refine b_ (ih (i/128) d.1 d.2) λj hx=>?_;exact⟨j+1,by rw[hx.1],lB hx.2.1,by rw[<-e,<-X7];exact(cA5 (by decide)).mp hx.2.2.1,by rw[<-e];exact(cA6 (by decide)).mp hx.2.2.2⟩
def Jh(b p:H):Tr:=λargs o k=>∃a:J V,args=a++[.d (.int b)]/\jr (ql b) (λi r=>tS b p i::r) .int a o k
theorem bI4{b K ms p j:H}(g1:ms=j+1)(g2:j<=K -1)(hK:7*K<=b+6)(k1:1<=K):∃m,min K (ms+p)=m+1/\j<=m/\7*m+1<=b:=by have hj:j+1<=K:=Nat.add_le_of_le_sub k1 g2;have l:j+1<=min K (ms+p):=ap8.mpr ⟨hj,g1▸gF _ _⟩;obtain⟨m,e⟩:=Nat.exists_eq_add_of_le' (bR (lB (qw j)) l);exact⟨m,e,Kl (bR l (jm e)),Nat.le_of_add_le_add_right (b:=6) (bR (zT 7 (e▸DC _ _:m+1<=K)) hK)⟩
theorem bI5{j m:H}{y:aa}(e:j<=m)(g3:-(64*128^j)<=y)(g4:y<64*128^j):-(64*128^m)<=y/\y<64*128^m:=by
 have pw:(64:aa)*128^j<=64*128^m:=by have:=iN.mpr (zT 64 (ap1 (n:=128) (by decide) e));rw[KJ,KJ,Gm,Gm]at this;exact this
 exact⟨ji (Qc pw) g3,Bp g4 pw⟩
theorem mle{K q m:H}(e:min K q=m+1)(k1:1<=K)(h:7*(K -1+1)<=100000):(0:aa)+7*((m:aa)+1)<=100000:=by have:7*(m+1)<=100000:=bR (zT 7 (e▸DC K q)) (cB2 k1▸h);exact(Ks _).symm▸iN.mpr this
theorem Oj{b:H}(hb:Fa (b+1))(h1:7*((b+7)/7)<=b+7)(hp:∀i,ql (b+1) i->-(64*128^((b+7)/7 -1))<=i/\i<64*128^((b+7)/7 -1))(h0:1<=(b+7)/7)(h2:7*((b+7)/7 -1+1)<=100000):aQ (aU x) (n+3) BO (Jh (b+1) p):=bG9.cur.of λargs o k ⟨a,e,g⟩=>by
 subst e;exact g.rec λy r k hy S o1 c=>v7 c λl i e hbf=>by
  refine b_ (Jg y _ (hp y hy).1 (hp y hy).2) λj hx=>?_;have g1:=hx.1;have g2:=hx.2.1;have g3:=hx.2.2.1;have g4:=hx.2.2.2;refine b_ (bI4 (b:=b+1) (p:=p) g1 g2 h1 h0) λm hx=>?_;have e1:=hx.1;have e2:=hx.2.1;have e3:=hx.2.2;have pf:=bI5 e2 g3 g4;have GT:=GE (a:=ny y (m+1)) hbf (bQ (ny y) e1);have e0:=bH5 m 0 y 0 pf.1 pf.2;have ok:=bH6 m b y 0 (zU _) (mle e1 h0 h2) (Kl e3) hy.1 hy.2;rw[Ks]at ok
  refine(λX I=>I l i e ((b+1:H):aa) (ny y (m+1)) (c8 r) hb ok GT ⟨_,GT.app.2.2.con,?_⟩)
  show k (.d (.int (AM 0 ((7*0:H):aa) _))) _
  rw[e0,ap9,Ks]
  show k (.d (.int (y*1))) _
  rw[ct1];exact S
def CO(b p:H):Tr:=jr (ql b) (λi r=>tS b p i::r) .int
theorem bI6:aQ (aU x) (n+4) GY (CO 7 p):=k9 (q:=bo9) (l:=[(BO,Jh 7 p)]) (by kernel_rfl) ⟨Oj (.head _) (by decide) (λi h=>h) (by decide) (by decide),cH2⟩ λa r k h S=>⟨[.ref 0],rfl,a,r,h,S⟩
theorem bI7:aQ (aU x) (n+4) Rn (CO 32 p):=k9 (q:=bp0) (l:=[(BO,Jh 32 p)]) (by kernel_rfl) ⟨Oj (.tail _ (.head _)) (by decide) (λi h=>⟨ji (by decide) h.1,Bp h.2 (by decide)⟩) (by decide) (by decide),cH2⟩ λa r k h S=>⟨[.ref 0],rfl,a,r,h,S⟩
theorem bI8:aQ (aU x) (n+4) Ro (CO 33 p):=k9 (q:=bp1) (l:=[(BO,Jh 33 p)]) (by kernel_rfl) ⟨Oj (.tail _ (.tail _ (.head _))) (by decide) (λi h=>⟨ji (by decide) h.1,Bp h.2 (by decide)⟩) (by decide) (by decide),cH2⟩ λa r k h S=>⟨[.ref 0],rfl,a,r,h,S⟩
theorem bI9:aQ (aU x) (n+4) Rp (CO 64 p):=k9 (q:=bp2) (l:=[(BO,Jh 64 p)]) (by kernel_rfl) ⟨Oj (.tail _ (.tail _ (.tail _ (.head _)))) (by decide) (λi h=>⟨ji (by decide) h.1,Bp h.2 (by decide)⟩) (by decide) (by decide),cH2⟩ λa r k h S=>⟨[.ref 0],rfl,a,r,h,S⟩
end
section
open Wh (cu)
variable{w:bU}{bJ s:aE}{x:cu w bJ s}{n:H}
def yW(n:H):J H:=tG n (nG n)
def xJ(i:aa):J H:=ny i (rW i)
theorem bJ0(n:H):∃k,nG n=k+1:=by
 rw[E4];by_cases h:n<128
 ·exact⟨0,dP h⟩
 ·exact⟨_,cF h⟩
theorem bJ1{n:H}(h:n<128):yW n=[n]:=by unfold yW;rw[E4,dP h];exact bQ (·::[]) (zN h)
theorem bJ2{n:H}(h:¬n<128):yW n=(n% 128+128)::yW (n/128):=by unfold yW;rw[E4,cF h];obtain⟨k,e⟩:=bJ0 (n/128);rw[e];rfl
theorem bJ3(i:aa):∃k,rW i=k+1:=by
 rw[E6];by_cases h:xB i=ah
 ·exact⟨0,dP h⟩
 ·exact⟨_,cF h⟩
theorem bJ4{i:aa}(h:xB i=ah):xJ i=[(i% 128).toNat]:=by unfold xJ;rw[E6,dP h];rfl
theorem bJ5{i:aa}(h:¬xB i=ah):xJ i=((i% 128).toNat+128)::xJ (i/128):=by unfold xJ;rw[E6,cF h];obtain⟨k,e⟩:=bJ3 (i/128);rw[e];rfl
def gV(l:J H):Prop:=l.length<=1048576
theorem jF{a b:J H}(h:gV (a++b)):gV a:=bR (by rw[f6];exact gF ..) h
theorem Ji{a b:J H}{y:H}(h:gV (a++y::b)):a.length<1048576:=pN (by rw[f6];exact xV (jc _)) h
def gB(l:J H):J O:=[.inst qM [(bH,.ref 1)],.ba l]
inductive jv{α:Type}(ds:α->J D)(ok:α->Prop)(wr:α->J H->J H):Tr
 |mk (a:α) (l:J H) {k}:ok a->gV (wr a l)->k (.d .none) (gB (wr a l))->jv ds ok wr (.ref 0::(ds a).map .d) (gB l) k
section
variable{q:Fn}{l:J (H×Tr)}{α:Type}{ds:α->J D}{ok:α->Prop}
theorem jG{wr:α->J H->J H}(hd:AI (kF w.params) q ah)(hl:vY (aU x) n l)(h:∀a t k,ok a->gV (wr a t)->k (.d .none) (gB (wr a t))->lK q l (.ref 0::(ds a).map .d) (gB t) k):aQ (aU x) (n+1) q.a (jv ds ok wr):=
 fc x hd hl λargs o k g=>g.rec λa t X h1 h2 h3=>h a t _ h1 h2 h3
end
def bJ6:Tr:=λa_ o_ k_=>∀P_:Tr,(∀{k},k (.d .none) (gB [])->P_ [.ref 0] [.inst qM []] k)->P_ a_ o_ k_
theorem bJ7:aQ (aU x) (n+1) Zn bJ6:=fc x (q:=bp4) (l:=[]) (by kernel_rfl) trivial λX I u2 g=>g _ λh=>h
def AP:Tr:=λa_ o_ k_=>∀P_:Tr,(∀{k},k (.ref 0) (gB [])->P_ [] [] k)->P_ a_ o_ k_
theorem AP.mk{k}(f5:k (.ref 0) (gB [])):AP [] [] k:=λP_ c_=>c_ f5
theorem Ol:aQ (aU x) (n+2) qM AP:=(CC x bJ7 (by kernel_rfl)).of λX I u2 g=>g _ λh=>(λX I=>I h)
noncomputable def w8(i:aa)(l:J H):J H:=l++[i.toNat]
def wU(i:aa)(l:J H):J H:=l++yW i.toNat
def wS(i:aa)(l:J H):J H:=l++xJ i
def w7(i:aa)(l:J H):J H:=w8 (uc i 127) l
noncomputable def wR(r l:J H):J H:=l++r
def uU:Tr:=jv i1 (λi=>0<=i/\i<256) w8
theorem v8:aQ (aU x) (n+1) s8 uU:=jG (q:=bp5) (l:=[]) (by kernel_rfl) trivial λi l k h hf S=>⟨⟨h.1,h.2,Ji hf⟩,S⟩
def Om:Tr:=jv (λr=>[.bytes r]) kC wR
theorem UY:aQ (aU x) (n+1) G0 Om:=jG (q:=bp6) (l:=[]) (by kernel_rfl) trivial λr l k h hf S=>⟨hf,S⟩
def mu:Tr:=jv i1 (0<=·) wU
theorem G'(i:aa):0<=PU (uc i 127) 128/\PU (uc i 127) 128<256/\(PU (uc i 127) 128).toNat=(i% 128).toNat+128:=by
 have h:0<=i% 128/\i% 128<128:=⟨QD _ (by decide),ap4 _ (by decide)⟩
 have:∀y<128,y&&&128=0:=by decide
 have e:=this (i% 128).toNat ((XO h.1).mpr h.2);have g:PU (uc i 127) 128=i% 128+128:=by
  rw[Qx,bitOr_and,ap3 h.1 (by decide)]
  show i% 128+128 -(((i% 128).toNat&&&128:H):aa)=_
  rw[e];exact cs7 _
 rw[g];exact⟨Qy h.1 (by decide),cA7 h.2 128,Int.toNat_add h.1 (by decide)⟩
theorem Ha(x:aa):x.fdiv (2^(7:aa).toNat)=x/128:=QC x (b:=128) (by decide)
theorem Hb{a b l r:J H}{y:H}(e:a++y::b=l++r):a++[y]++b=l++r:=(jx ..).trans e
def Ff(i:aa):Fm:=[(aK,.L (N (.ref 0))),(bw,.L (N (.d (.int i))))]
theorem Hc{i j:aa}{t:J H}{a b:H}(h:i=j)(g:a=b):(⟨Ff i,gB (t++[a])⟩:St)=⟨Ff j,gB (t++[b])⟩:=h▸g▸rfl
theorem t6:aQ (aU x) (n+1) qh mu:=by
 refine jG (q:=bp7) (l:=[]) (by kernel_rfl) trivial λi l k h hf S=>?_
 obtain⟨i,rfl⟩:=Ds h
 conv=>whnf
 refine⟨λm Z=>∃t,t++yW m=l++yW i/\Z=⟨Ff m,gB t⟩,i,⟨l,rfl,rfl⟩,?_⟩
 rintro m Z ⟨t,e,rfl⟩
 conv=>whnf
 by_cases q:m<128
 ·rw[bJ1 q]at e
  refine jb (kq (Gn.mpr (dF.mpr q))) ?_;exact⟨⟨nn,sN (dF.mpr q) (by decide),Ji (e▸hf:gV (t++[m]))⟩,(e▸S:k _ (gB (t++[m])))⟩
 ·rw[bJ2 q]at e
  obtain⟨h1,h2,h3⟩:=G' m;refine AJ (nL (iN.mpr (Qq q))) ?_;exact⟨⟨h1,h2,Ji ((bQ gV e).mpr hf)⟩,by decide,m/128,ap0 (pN (by decide) (Qq q)) (by decide),_,Hb e,Hc (Ha m) h3⟩
def UZ:Tr:=jv i1 kC wS
theorem U0(i:aa):0<=uc i 127/\uc i 127<256:=by rw[Qx];exact⟨QD _ (by decide),sN (ap4 _ (by decide)) (by decide)⟩
theorem He:aQ (aU x) (n+1) Lo UZ:=by
 refine jG (q:=bp8) (l:=[]) (by kernel_rfl) trivial λtV l k h hf S=>?_
 conv=>whnf
 refine⟨λm Z=>∃(j:aa)(t:J H),t++xJ j=l++xJ tV/\j.natAbs=m/\Z=⟨Ff j,gB t⟩,_,⟨tV,l,rfl,rfl,rfl⟩,?_⟩
 rintro _ Z ⟨i,t,e,rfl,rfl⟩
 have body:¬xB i=ah->∀K,(vc ⟨dO,d_ []⟩ 39).s tJ ⟨Ff i,gB t⟩ (ZW [] 2 (λm Z=>∃(j:aa)(t:J H),t++xJ j=l++xJ tV/\j.natAbs=m/\Z=⟨Ff j,gB t⟩) i.natAbs K):=λq K=>by
  rw[bJ5 q]at e
  have hx:=G' i;have h1:=hx.1;have h2:=hx.2.1;have h3:=hx.2.2;exact⟨⟨h1,h2,Ji ((bQ gV e).mpr hf)⟩,by decide,_,y5 (zL.mpr q),i/128,_,Hb e,rfl,Hc (Ha i) h3⟩
 conv=>whnf
 by_cases q1:-64<=i
 ·refine AJ (nL q1) ?_
  conv=>whnf
  by_cases q2:i<64
  ·rw[bJ4 (E5.mpr ⟨q1,q2⟩)]at e
   refine jb (by rw[nL q2];rfl) ?_
   have g:[(i% 128).toNat]=[(uc i 127).toNat]:=by rw[Qx]
   rw[g]at e
   exact⟨⟨(U0 i).1,(U0 i).2,Ji ((bQ gV e).mpr hf)⟩,(e▸S:k _ (gB (t++_)))⟩
  ·refine AJ (by rw[kq q2];rfl) ?_
   exact body (λz=>q2 (E5.mp z).2) _
 ·refine jb (kq q1) ?_;exact body (λz=>q1 (E5.mp z).1) _
theorem Fg:aQ (aU x) (n+2) Ai mu:=jG (q:=bp9) (l:=[(qh,mu)]) (by kernel_rfl) ⟨t6,cH2⟩ λi l k h hf S=>⟨i,l,h,hf,S⟩
def Hk:Tr:=nZ s1 kQ λy=>.d (.bytes (pQ y))
theorem bJ8:aQ (aU x) (n+1) Lq Hk:=k7 (q:=bq2) (l:=[]) (by kernel_rfl) trivial λy k h=>eW h
 ⟨λS=>⟨by decide,⟨by decide,by decide,by decide⟩,S⟩,λS=>⟨by decide,S⟩,λS=>⟨by decide,by decide,[195,169],by kernel_rfl,by decide,by decide,⟨by decide,by decide,by decide⟩,S⟩,
 λS=>⟨by decide,by decide,by decide,[226,130,172],by kernel_rfl,by decide,by decide,S⟩,λS=>⟨by decide,by decide,by decide,by decide,[240,144,141,136],by kernel_rfl,by decide,by decide,S⟩,cH2⟩
def wN(y:ai)(l:J H):J H:=wR (pQ y) (wU ((pQ y).length:H) l)
def Oo:Tr:=jv s1 kQ wN
theorem U1:aQ (aU x) (n+2) G1 Oo:=jG (q:=bq0) (l:=[(Lq,Hk),(qh,mu)]) (by kernel_rfl) ⟨bJ8,t6,cH2⟩ λy l k h hf S=>⟨y,h,_,l,nn,jF hf,hf,S⟩
def wZ(r l:J H):J H:=wR r (wU (r.length:H) l)
def yX:Tr:=λa_ o_ k_=>∀P_:Tr,(∀(r l){k},gV (wZ r l)->k (.d .none) (gB (wZ r l)++[.inst qM [(bH,.ref 3)],.ba r])->P_ [.ref 0,.ref 2] (gB l++[.inst qM [(bH,.ref 3)],.ba r]) k)->P_ a_ o_ k_
theorem yX.mk(r l){k}(f5:gV (wZ r l))(lg:k (.d .none) (gB (wZ r l)++[.inst qM [(bH,.ref 3)],.ba r])):yX [.ref 0,.ref 2] (gB l++[.inst qM [(bH,.ref 3)],.ba r]) k:=λP_ c_=>c_ r l f5 lg
theorem U3:aQ (aU x) (n+2) G2 yX:=fc x (q:=bq1) (l:=[(qh,mu)]) (by kernel_rfl) ⟨t6,cH2⟩ λX I u2 g=>g _ λr l X hf S=>⟨_,l,nn,jF hf,hf,S⟩
def AQ:Tr:=jv i1 kC w7
theorem CP:aQ (aU x) (n+2) wY AQ:=jG (q:=bt2) (l:=[(s8,uU)]) (by kernel_rfl) ⟨v8,cH2⟩ λi l k h hf S=>⟨_,l,U0 i,hf,S⟩
noncomputable def wL{α:Type}(w:α->J H->J H)(ys:J α)(l:J H):J H:=ys.foldl (λl a=>w a l) l
def jw(w:J H->J H):Prop:=∀l,gV (w l)->gV l
theorem pG{α:Type}{w:α->J H->J H}(m:∀a,jw (w a)):∀ys,jw (wL w ys):=λi_=>by
 induction i_ with
 |nil=>exact λX h=>h
 |cons y ys ih=>exact λl h=>m y l (ih _ h)
theorem Fi{α:Type}{f:α->D}{ok:α->Prop}{w:α->J H->J H}{M:Fm}{fg ts:J ai}{one:aD}{body:St->(dZ->St->Prop)->Prop}{K:dZ->St->Prop}(cn1:∀a,jw (w a))
  (gQ:∀a l next,ok a->gV (w a l)->next ⟨M,gB (w a l)⟩->jL ts one (.d (f a)) ⟨M,gB l⟩ λZ=>body Z (zW fg 2 next K)):∀ys l,(∀a∈ys,ok a)->gV (wL w ys l)->K .next ⟨M,gB (wL w ys l)⟩->gT fg ts one 2 body (ys.map f) ⟨M,gB l⟩ K:=λi_=>by
 induction i_ with
 |nil=>exact λX I u2 h=>h
 |cons y ys ih=>exact λl ho hf h=>gQ y l _ (ho y (.head _)) (pG cn1 ys _ hf) (ih _ (λa m=>ho a (.tail _ m)) hf h)
noncomputable def iK(l:J aa):J D:=[oG l]
def Bu(ks:J aa)(l:J H):J H:=wL w7 ks (wU ((ks.map D.int).length:H) l)
theorem uV{r:J H}:jw (wR r):=λX h=>jF h
theorem lq{i:aa}:jw (w8 i):=λX h=>jF h
theorem qq{i:aa}:jw (w7 i):=λX h=>jF h
theorem gJ{i:aa}:jw (wU i):=λX h=>jF h
theorem Hm{i:aa}:jw (wS i):=λX h=>jF h
theorem CQ{y:ai}:jw (wN y):=λX h=>jF (jF h)
theorem Fj{ks:J aa}:jw (Bu ks):=λX h=>jF (pG (λX=>qq) ks _ h)
def U4:Tr:=jv iK kC Bu
theorem Hn:aQ (aU x) (n+3) G5 U4:=jG (q:=bt3) (l:=[(Ai,mu),(wY,AQ)]) (by kernel_rfl) ⟨Fg,CP,cH2⟩ λks l k h hf S=>⟨_,l,nn,pG (λX=>qq) ks _ hf,Fi (ok:=kC) (λX=>qq) (by exact λi l X h hf hn=>⟨i,l,h,hf,hn⟩) ks _ (λX I=>trivial) hf S⟩
def yY:qk->J H->J H
 |(a,ao),l=>wU a (w8 0 l)
 |(a,N m),l=>wU m (wU a (w8 1 l))
theorem CR:∀{a:qk},jw (yY a)
 |(X,ao),I,h=>jF (jF h)
 |(X,N I),u2,h=>jF (jF (jF h))
def U5:Tr:=jv (λl:qk=>[.int l.1,jq l.2]) tP yY
theorem HI:aQ (aU x) (n+2) G6 U5:=jG (q:=bt4) (l:=[(s8,uU),(qh,mu)]) (by kernel_rfl) ⟨v8,t6,cH2⟩ λ
 |(a,ao),l,k,h,hf,S=>⟨0,l,by decide,jF hf,(a:aa),_,nn,hf,S⟩
 |(a,N m),l,k,h,hf,S=>⟨1,l,by decide,jF (jF hf),(a:aa),_,nn,jF hf,(m:aa),_,nn,hf,S⟩
def Fl(f:J aa×J aa)(l:J H):J H:=Bu f.2 (Bu f.1 (w8 96 l))
def H0:Tr:=jv (λf=>[mO f]) kC Fl
theorem bJ9:aQ (aU x) (n+4) D_ H0:=jG (q:=bt5) (l:=[(s8,uU),(G5,U4)]) (by kernel_rfl) ⟨v8,Hn,cH2⟩ λf l k h hf S=>⟨96,l,by decide,Fj _ (Fj _ hf),f.1,_,cH2,Fj _ hf,f.2,_,cH2,hf,S⟩
theorem bK0{f}:jw (Fl f):=λX h=>jF (Fj _ (Fj _ h))
def CS(t:iZ)(l:J H):J H:=yY t.l (w7 t.k l)
theorem Jj{t}:jw (CS t):=λX h=>jF (CR _ h)
def U6:Tr:=jv (λt:iZ=>[t.d]) iZ.ok CS
theorem H1:aQ (aU x) (n+3) BQ U6:=jG (q:=bt6) (l:=[(wY,AQ),(G6,U5)]) (by kernel_rfl) ⟨CP,HI,cH2⟩ λt l k h hf S=>⟨t.k,l,cH2,CR _ hf,t.l,_,h.2,hf,S⟩
def U7:Tr:=jv (λl:qk=>[nE l]) tP yY
theorem H3:aQ (aU x) (n+3) BS U7:=jG (q:=bt7) (l:=[(G6,U5)]) (by kernel_rfl) ⟨HI,cH2⟩ λa l k h hf S=>⟨a,l,h,hf,S⟩
def Jk(g:Gk)(l:J H):J H:=w8 g.m (w7 g.k l)
theorem Jl{g}:jw (Jk g):=λX h=>jF (jF h)
def U8:Tr:=jv (λg:Gk=>[g.d]) Gk.ok Jk
theorem bK1{g:Gk}(h:g.ok):0<=(g.m:aa)/\(g.m:aa)<256:=eW (P:=λm:H=>0<=(m:aa)/\(m:aa)<256) h.2 ⟨by decide,by decide,cH2⟩
theorem H4:aQ (aU x) (n+3) G7 U8:=jG (q:=bt8) (l:=[(wY,AQ),(s8,uU)]) (by kernel_rfl) ⟨CP,v8,cH2⟩ λg l k h hf S=>⟨g.k,l,cH2,jF hf,(g.m:aa),_,bK1 h,hf,S⟩
noncomputable def U9:J (aa×aa×D×D):=[(69,69,.tup [.int (-1)],.tup [.int (-1)]),(70,79,.tup [.int (-1),.int (-1)],.tup [.int (-1)]),(80,80,.tup [.int (-2)],.tup [.int (-1)]),(81,90,.tup [.int (-2),.int (-2)],.tup [.int (-1)]),(103,105,.tup [.int (-1)],.tup [.int (-1)]),(106,120,.tup [.int (-1),.int (-1)],.tup [.int (-1)]),
 (121,123,.tup [.int (-2)],.tup [.int (-2)]),(124,138,.tup [.int (-2),.int (-2)],.tup [.int (-2)]),(167,167,.tup [.int (-2)],.tup [.int (-1)]),(172,173,.tup [.int (-1)],.tup [.int (-2)]),(192,193,.tup [.int (-1)],.tup [.int (-1)]),(194,196,.tup [.int (-2)],.tup [.int (-2)])]
noncomputable def H5(r:aa×aa×D×D):D:=.tup [.int r.1,.int r.2.1,r.2.2.1,r.2.2.2]
noncomputable def Oq(c:aa):J (aa×aa×D×D)->D
 |[]=>.none
 |r::t=>bC (bz (decide (r.1<=c)) (decide (c<=r.2.1))) (.tup [r.2.2.1,r.2.2.2]) (Oq c t)
def H':Tr:=nZ i1 kC λc=>.d (Oq c U9)
theorem bK2{c:aa}{k:V->J O->Prop}:∀rs,k (.d (Oq c rs)) []->gT [fQ,f7,kW,om] [fQ,f7,kW,om] ak 0 ((vc ⟨dO,d_ []⟩ 39).s uk) (rs.map H5) ⟨[(d8,.L (N (.d (.int c)))),(fQ,.L ao),(f7,.L ao),(kW,.L ao),(om,.L ao)],[]⟩
  (yE (l8 ⟨dO,d_ []⟩ (vc ⟨dO,d_ []⟩ 39) [.ret .cN]) (mJ 0 k)):=λi_=>by
 induction i_ with
 |nil=>exact λh=>h
 |cons r rs ih=>
  intro h
  show gT _ _ _ _ _ (H5 r::_) _ _
  conv=>whnf
  exact Uv (P:=λd=>k (.d d) []) h (λh=>h) (ih) (ih)
theorem bK3:aQ (aU x) (n+1) Lw H':=k7 (q:=br0) (l:=[]) (by kernel_rfl) trivial λc k X S=>by
 conv=>whnf
 exact bK2 U9 S
noncomputable def bK4:bq (ai×V)->J (aa×D)
 |some (X,.nN es)=>es
 |X=>[]
def Fo(i:H):J (aa×D):=bK4 (uI dO i)
def Ix(c:aa):D:=bC (jj (yz (qQ c (Fo 12))) (yz (qQ c (Fo 13)))) (.str D3) (bC (Oq c U9).o6 .none (.str qe))
def Ot(c:aa):D:=(qQ c (Fo 11)).getD (Ix c)
def U_(c:aa):V:=.d (Ot c)
def Ou:Tr:=nZ (λp:aa×V=>i1 p.1) (λp=>U_ p.1=p.2) λp=>p.2
theorem U':aQ (aU x) (n+2) D8 Ou:=by
 refine k7 (q:=br1) (l:=[(Lw,H')]) (by kernel_rfl) ⟨bK3,cH2⟩ λp k e S=>?_
 have h:∀o,qQ p.1 (Fo 11)=o->k (.d (o.getD (Ix p.1))) []:=λo h=>by rw[<-h];exact(bQ (k · []) e).mpr S
 conv=>whnf
 refine gZ (λq=>?_) λq=>?_
 ·cases e:qQ p.1 (Fo 11)with
  |none=>exact absurd ((bQ yz e).symm.trans q) gr
  |some v=>exact⟨_,e,h _ e⟩
 ·have h:=h ao (by cases e:qQ p.1 (Fo 11)with|none=>rfl|some v=>exact absurd ((bQ yz e).symm.trans q) gr)
  exact bD2 (P:=λd=>k (.d d) []) h (λh=>h) (λh=>h) λh=>⟨(p.1:aa),cH2,qX (P:=λd=>k (.d d) []) h (λX h=>h) λX h=>h⟩
def Iy:J (J H×J ai):=[([98],[Ac]),([105],[DW]),([108],[DX]),([114],[D5]),([107],[DY]),([116],[D0]),([122],[BH]),([117,122],[D4]),([122,122],[BI]),([],[qe]),([117],[DZ,BE,BG,DV,yi,GR,GS]),([117,117],[BF,D7,D6]),([97,117],[D3])]
def Va(l:J H):J (J H×J ai)->J ai
 |[]=>[]
 |p::r=>bC (DO l p.1) p.2 (Va l r)
structure LF(f:ai)(l:J H)(a:J aa):Prop where
 m:f∈Va l Iy
 a:j5 l a
noncomputable def dS:D->ai
 | .str y=>y
 |X=>⟨#[]⟩
noncomputable def QT:D->aD
 | .str X=>ah
 |X=>ak
theorem IH{d:D}(h:QT d=ah):d=.str (dS d):=by cases d<;>first|rfl|exact gr h
noncomputable def KW(c:aa):aD:=bz (decide (0<=c)) (bz (decide (c<65536)) (jj (decide (c<256)) (decide (64512<=c))))
def bK5(c:aa):aD:=bz (QT (Ot c)) (bz (qN (dS (Ot c)) (Va (n_ c) Iy)) (KW c))
theorem bK6:kP bK5 qF=ah:=by kernel_rfl
structure bK7(i:fj)(f:ai):Prop where
 e:U_ i.c=.d (.str f)
 a:LF f (n_ i.c) i.a
 c:KW i.c=ah
theorem IN{i:fj}(h:i.mP):∃f,bK7 i f:=by
 cases h with
 |i h=>have g:=lE bK6 _ h.c;exact⟨_,bQ V.d (IH (ck g)),⟨T6 (ck (bf g)),h.a⟩,bf (bf g)⟩
 |e=>exact⟨qe,by kernel_rfl,⟨.head _,.o⟩,by decide⟩
 |l=>exact⟨qe,by kernel_rfl,⟨.head _,.o⟩,by decide⟩
def Vb(i:aa)(t:J H):J H:=bC (decide (i<0)) (w7 i t) (wS i t)
def Wk(k:V->J O->Prop)(t:J H):Prop:=gV t/\k (.d .none) (gB t)
def IR:Tr:=jv i1 kC Vb
theorem bK8:aQ (aU x) (n+3) LD IR:=jG (q:=bu2) (l:=[(wY,AQ),(Lo,UZ)]) (by kernel_rfl) ⟨CP,He,cH2⟩ λi l k X hf S=>by
 conv=>whnf
 exact qX (P:=Wk k) ⟨hf,S⟩ (λX h=>⟨i,l,cH2,h.1,h.2⟩) λX h=>⟨i,l,cH2,h.1,h.2⟩
def Ov(c:aa)(t:J H):J H:=bC (decide (c<64512)) (w8 c t) (wU (c -64512) (w8 252 t))
def I':Tr:=jv i1 (KW ·=ah) Ov
theorem bK9:aQ (aU x) (n+2) LG I':=jG (q:=bu3) (l:=[(s8,uU),(qh,mu)]) (by kernel_rfl) ⟨v8,t6,cH2⟩ λc l k h hf S=>by
 have h0:=gy (ck h)
 conv=>whnf
 refine qX (P:=Wk k) ⟨hf,S⟩ (λe h=>⟨c,l,⟨h0,?_⟩,h.1,h.2⟩) λe h=>⟨252,l,by decide,jF h.1,c -64512,_,?_,h.1,h.2⟩
 ·refine(Cv (bf (bf ‹KW c=ah›))).elim (λq=>gy q) λq=>absurd (Qt (gy q) (gy e)) (XY _)
 ·exact QE (pP.mp (sJ e))
def Vc:Tr:=jv (λp:aD×J aa=>[bC p.1 (.tup (p.2.map .int)) (.list (p.2.map .int))]) (λp=>∀i∈p.2,0<=i) λp=>wL wU p.2
theorem Jn:aQ (aU x) (n+2) G8 Vc:=jG (q:=bu4) (l:=[(qh,mu)]) (by kernel_rfl) ⟨t6,cH2⟩ λp l k h hf S=>by obtain⟨b,p⟩:=p;cases b<;>exact Fi (ok:=(0<=·)) (λX=>gJ) (by exact λi l X h hf hn=>⟨i,l,h,hf,hn⟩) p l h hf S
def Vd(c:H)(i:aa)(t:J H):J H:=bC (jj (bX c 117) (bX c 97)) (wU i t) (bC (bX c 98) (Vb i t) (bC (bX c 114) (w7 i t) (wS i t)))
def rY(all:J aa):J H->J aa->J H->J H
 |[],X,t=>t
 |c::l,a,t=>bC (bX c 122) (rY all l a (w8 0 t)) (bC (bX c 107) (rY all l a (Bu all t)) (bC (bX c 116) (rY all l a (wL wU all (wU (((all.map D.int).length:H) -1:aa) t))) (rY all l a.tail (Vd c (a.headD 0) t))))
theorem rZ{A:aD}{f g:J H->J H}{t t':J H}(h:gV (bC A (f t) (g t')))(a:gV (f t)->gV t)(b:gV (g t')->gV t):gV t:=by cases A;exact b h;exact a h
theorem bL0{i:aa}:jw (Vb i):=λt h=>rZ h (qq t) (Hm t)
theorem bL1{c:H}{i:aa}:jw (Vd c i):=λt h=>rZ h (gJ t) λh=>rZ h (bL0 t) λh=>rZ h (qq t) (Hm t)
theorem Kb{all:J aa}:∀{l a},jw (rY all l a):=@λi_=>by
 induction i_ with
 |nil=>exact@λX I h=>h
 |cons c l ih=>exact@λa t h=>rZ (f:=λt=>rY all l a (w8 0 t)) h (λh=>lq t (ih _ h)) λh=>rZ (f:=λt=>rY all l a (Bu all t)) h (λh=>Fj t (ih _ h)) λh=>rZ (f:=λt=>rY all l a (wL wU all (wU _ t))) (g:=λt=>rY all l a.tail (Vd c (a.headD 0) t)) h (λh=>gJ t (pG (λX=>gJ) _ _ (ih _ h))) λh=>bL1 t (ih _ h)
noncomputable def Ki:J (H×Tr):=[(LD,IR),(Lo,UZ),(wY,AQ),(G5,U4),(Ai,mu),(G8,Vc),(s8,uU)]
def Kj:Tr:=jv (λp:ai×J H×J aa=>[.str p.1,.tup (p.2.2.map .int)]) (λp=>LF p.1 p.2.1 p.2.2) λp=>rY p.2.2 p.2.1 p.2.2
theorem bL2{f:ai}{l:J H}{a:J aa}(h:LF f l a){t:J H}{k:V->J O->Prop}(hf:gV (rY a l a t))(S:k (.d .none) (gB (rY a l a t))):lK un Ki [.ref 0,.d (.str f),.d (.tup (a.map .int))] (gB t) k:=by
 obtain⟨m,h⟩:=h;have z2:∀{i j:H},∀z∈[(i:aa),(j:aa)],0<=z:=gv.mpr ⟨nn,gv.mpr ⟨nn,nofun⟩⟩;have z1:∀{i:H},∀z∈[(i:aa)],0<=z:=gv.mpr ⟨nn,nofun⟩;cases h with
 |@b i h=>exact eW (m:f∈[Ac]) ⟨⟨i,t,cH2,hf,S⟩,cH2⟩
 |@i i h=>exact eW (m:f∈[DW]) ⟨⟨i,t,cH2,hf,S⟩,cH2⟩
 |@l i h=>exact eW (m:f∈[DX]) ⟨⟨i,t,cH2,hf,S⟩,cH2⟩
 |@r i h=>exact eW (m:f∈[D5]) ⟨⟨i,t,cH2,hf,S⟩,cH2⟩
 |k h g=>exact eW (m:f∈[DY]) ⟨⟨a,t,cH2,hf,S⟩,cH2⟩
 |@t i a h g=>exact eW (m:f∈[D0]) ⟨⟨_,t,QE (iN.mpr (lB (qw _))),pG (λX=>gJ) _ _ hf,(ah,(i::a).map sL),_,cB3.mpr λX I=>nn,hf,S⟩,cH2⟩
 |z=>exact eW (m:f∈[BH]) ⟨⟨(ah,[]),t,nofun,jF hf,0,_,by decide,hf,S⟩,cH2⟩
 |@uz i h=>exact eW (m:f∈[D4]) ⟨⟨(ah,[(i:aa)]),t,z1,jF hf,0,_,by decide,hf,S⟩,cH2⟩
 |zz=>exact eW (m:f∈[BI]) ⟨⟨(ah,[]),t,nofun,jF (jF hf),0,_,by decide,jF hf,0,_,by decide,hf,S⟩,cH2⟩
 |o=>exact eW (m:f∈[qe]) ⟨⟨(ah,[]),t,nofun,hf,S⟩,cH2⟩
 |@u i h=>exact eW (m:f∈[DZ,BE,BG,DV,yi,GR,GS]) ⟨⟨(ah,[(i:aa)]),t,z1,hf,S⟩,⟨(ah,[(i:aa)]),t,z1,hf,S⟩,⟨(ah,[(i:aa)]),t,z1,hf,S⟩,⟨(ah,[(i:aa)]),t,z1,hf,S⟩,⟨(ah,[(i:aa)]),t,z1,hf,S⟩,⟨(ah,[(i:aa)]),t,z1,hf,S⟩,⟨(ah,[(i:aa)]),t,z1,hf,S⟩,cH2⟩
 |@uu i j h g=>exact eW (m:f∈[BF,D7,D6]) ⟨⟨(ah,[(i:aa),(j:aa)]),t,z2,hf,S⟩,⟨(ah,[(i:aa),(j:aa)]),t,z2,hf,S⟩,⟨(ah,[(i:aa),(j:aa)]),t,z2,hf,S⟩,cH2⟩
 |@au i j h g=>exact eW (m:f∈[D3]) ⟨⟨(ah,[(i:aa),(j:aa)]),t,z2,hf,S⟩,cH2⟩
theorem bL3:aQ (aU x) (n+4) LH Kj:=jG (q:=un) (l:=Ki) (by kernel_rfl) ⟨bK8,He,CP,Hn,Fg,Jn,v8,cH2⟩ λp l k h hf S=>bL2 h hf S
def Ow(i:fj)(t:J H):J H:=rY i.a (n_ i.c) i.a (Ov i.c t)
theorem bL4{c:aa}:jw (Ov c):=λt h=>rZ h (lq t) λh=>lq t (gJ _ h)
theorem Kk{i:fj}:jw (Ow i):=λt h=>bL4 t (Kb _ h)
def Kt:Tr:=jv (λi:fj=>[i.d]) fj.mP Ow
theorem bL5:aQ (aU x) (n+5) LI Kt:=jG (q:=bu5) (l:=[(D8,Ou),(LG,I'),(LH,Kj)]) (by kernel_rfl) ⟨U',bK9,bL3,cH2⟩ λi l k h hf S=>(IN h).elim λf g=>⟨(i.c,V.d (D.str f)),g.e,i.c,l,g.c,Kb _ hf,⟨by decide,iN.mpr (lB (qw _))⟩,(f,n_ i.c,i.a),_,g.a,hf,S⟩
def oQ(b:iR)(t:J H):J H:=wL Ow b t
theorem mw{b:iR}:jw (oQ b):=pG (λX=>Kk) b
def Jm:Tr:=jv (λb=>[gA b]) (∀i∈·,i.mP) oQ
theorem Ox:aQ (aU x) (n+6) BU Jm:=jG (q:=bu6) (l:=[(LI,Kt)]) (by kernel_rfl) ⟨bL5,cH2⟩ λb l k h hf S=>Fi (ok:=fj.mP) (λX=>Kk) (by exact λi l X h hf hn=>⟨i,l,h,hf,hn⟩) b l h hf S
end
section
open Wh (cu)
variable{w:bU}{bJ s:aE}{x:cu w bJ s}{n p:H}
noncomputable def YC(n:H):D:=bC (nJ n 127) (.tup [.int 0,.int n,.int 0]) (bC (nJ n 223) (.tup [.int 1,.int (n% 32:H),.int 128]) (bC (nJ n 239) (.tup [.int 2,.int (n% 16:H),.int 2048]) (.tup [.int 3,.int (n% 8:H),.int 65536])))
def Kx:Tr:=λa_ o_ k_=>∀P_:Tr,(∀(m:H)(i:aa){k},m∈[97,98,195,226,240]->k (.d (YC m)) []->P_ [.d (.int m),.d (.int i)] [] k)->P_ a_ o_ k_
theorem bL6:aQ (aU x) (n+1) Lr Kx:=fc x (q:=t0) (l:=[]) (by kernel_rfl) trivial λX I u2 g=>g _ λm i k h=>eW (P:=λm:H=>k (.d (YC m)) []->lK t0 [] [.d (.int m),.d (.int i)] [] k) h ⟨λh=>h,λh=>h,λh=>h,λh=>h,λh=>h,cH2⟩
def KB:Tr:=λa_ o_ k_=>∀P_:Tr,(∀(y:ai)(i:aa){k},kQ y->k (.d (.str y)) []->P_ [.d (.bytes (pQ y)),.d (.int i)] [] k)->P_ a_ o_ k_
def xK(l:J H)(b at_:aa)(sg:J D):St:=⟨[(bH,.L (N (.d (.bytes l)))),(sX,.L (N (.d (.int b)))),(cD,.L (N (.d (.int at_)))),(BA,.L ao),(fQ,.L ao),(eB,.L ao),(j8,.L ao),(GP,.L (N (.ref 0)))],[.dl sg]⟩
def I1(a:H)(A:St)(m:H)(Z:St):Prop:=∀b4:H->St->Prop,b4 a A->b4 m Z
def I2(a:H)(A:St)(b:H)(B:St)(m:H)(Z:St):Prop:=∀b4:H->St->Prop,b4 a A->b4 b B->b4 m Z
def I3(a:H)(A:St)(b:H)(B:St)(c:H)(C:St)(m:H)(Z:St):Prop:=∀b4:H->St->Prop,b4 a A->b4 b B->b4 c C->b4 m Z
@[elab_as_elim] theorem I1.e{b4:H->St->Prop}{a A m Z}(h:I1 a A m Z)(p:b4 a A):b4 m Z:=h b4 p
@[elab_as_elim] theorem I2.e{b4:H->St->Prop}{a A b B m Z}(h:I2 a A b B m Z)(p:b4 a A)(q:b4 b B):b4 m Z:=h b4 p q
@[elab_as_elim] theorem I3.e{b4:H->St->Prop}{a A b B c C m Z}(h:I3 a A b B c C m Z)(p:b4 a A)(q:b4 b B)(r:b4 c C):b4 m Z:=h b4 p q r
noncomputable def Fp(n:H):D:=.str (az [n])
theorem bL7:aQ (aU x) (n+2) Ls KB:=by
 refine Uu x (q:=bq3) (l:=[(Lr,Kx)]) 296 (Wh.tu [.int 0 549]) (by kernel_rfl) (by kernel_rfl) (λargs b hb r F ws hv=>?_) ⟨bL6,cH2⟩ λX I u2 g=>g _ λy i k hy=>?_
 ·cases hv with
  |nil=>cases hb
  |cons v1 hv=>cases hv with
   |nil=>cases hb
   |cons v2 hv=>cases hv with
    |nil=>cases hb;exact⟨[(bH,_),(sX,_)],by kernel_rfl,by kernel_rfl,.cons v1 (.cons v2 .nil)⟩
    |cons X I=>cases hb
 ·refine eW hy ⟨λS=>?_,λS=>?_,λS=>?_,λS=>?_,λS=>?_,cH2⟩
  ·exact⟨I2 1 (xK [97] i 0 []) 0 (xK [97] i 1 [Fp 97]),1,λb4 a b=>a,λm Z h=>h.e
    ⟨by decide,by decide,oh rfl (λX I=>I 97 _ (.head _) ⟨by decide,by decide,by decide,0,by decide,λb4 a b=>b⟩)⟩
    ⟨by decide,S⟩⟩
  ·exact⟨I1 0 (xK [] i 0 []),0,λb4 a=>a,λm Z h=>h.e ⟨by decide,S⟩⟩
  ·exact⟨I3 2 (xK [195,169,98] i 0 []) 1 (xK [195,169,98] i 2 [Fp 233]) 0 (xK [195,169,98] i 3 [Fp 233,Fp 98]),2,λb4 a b c=>a,λm Z h=>h.e
    ⟨by decide,by decide,oh rfl (λX I=>I 195 _ (by decide) ⟨by decide,by decide,by decide,by decide,1,by decide,λb4 a b c=>b⟩)⟩
    ⟨by decide,by decide,oh rfl (λX I=>I 98 _ (by decide) ⟨by decide,by decide,by decide,0,by decide,λb4 a b c=>c⟩)⟩
    ⟨by decide,S⟩⟩
  ·exact⟨I2 1 (xK [226,130,172] i 0 []) 0 (xK [226,130,172] i 3 [Fp 8364]),1,λb4 a b=>a,λm Z h=>h.e
    ⟨by decide,by decide,oh rfl (λX I=>I 226 _ (by decide) ⟨by decide,by decide,by decide,by decide,by decide,0,by decide,λb4 a b=>b⟩)⟩
    ⟨by decide,S⟩⟩
  ·exact⟨I2 1 (xK [240,144,141,136] i 0 []) 0 (xK [240,144,141,136] i 4 [Fp 66376]),1,λb4 a b=>a,λm Z h=>h.e
    ⟨by decide,by decide,oh rfl (λX I=>I 240 _ (by decide) ⟨by decide,by decide,by decide,by decide,by decide,by decide,0,by decide,λb4 a b=>b⟩)⟩
    ⟨by decide,S⟩⟩
def Oz(p:H):Tr:=jr kQ (tW p) .str
theorem bL8{y:ai}(h:kQ y):cY (pQ y).length:=(by decide:∀y∈names,(pQ y).length<4294967296) y h
theorem aw0{a b:H}:decide (((a+b:H):aa)<(a:aa))=ak:=kq (pP.mpr (iN.mpr (gF ..)))
theorem Ve:aQ (aU x) (n+5) GZ (Oz p):=k9 (q:=bp3) (l:=[(mF,mR p),(BL,Of),(BN,Fe),(Ls,KB)]) (by kernel_rfl) ⟨oO,FV,Oe,bL7,cH2⟩ λy r k h S=>by
 refine⟨_,cR (pQ y) r,bL8 h,_,?_⟩;have e:(c8 (cR (pQ y) r)).length=(pQ y).length+(c8 r).length:=f6;rw[e]
 conv=>whnf
 refine jb aw0 λat_=>⟨_,r,(λX I=>I y at_ h S)⟩
def v9:Tr:=λa_ o_ k_=>∀P_:Tr,(∀{k},k (.d .none) [.cur []]->P_ [.ref 0] [.cur []] k)->P_ a_ o_ k_
theorem v9.mk{k}(f5:k (.d .none) [.cur []]):v9 [.ref 0] [.cur []] k:=λP_ c_=>c_ f5
theorem KF:aQ (aU x) (n+2) G3 v9:=fc x (q:=bq5) (l:=[(GV,Og)]) (by kernel_rfl) ⟨FX,cH2⟩ λX I u2 g=>g _ λS=>⟨[],S⟩
def KM:Tr:=nZ (λp:aa×aa=>[.int p.1,.int p.2]) (λp=>pA p.1) λX=>.d .none
theorem bL9:aQ (aU x) (n+1) LR KM:=k7 (q:=v6) (l:=[]) (by kernel_rfl) trivial λq k h S=>by obtain⟨i,j⟩:=q;exact eW (P:=λi=>lK v6 [] [.d (.int i),.d (.int j)] [] k) h ⟨S,S,S,S,cH2⟩
theorem YD{i:aa}(h:pA i):ql 7 i:=(by decide:∀i∈[(-1:aa),-2,-16,-17],-2^6<=i/\i<2^6) i h
def Vf:Tr:=jr (ql 7) c7 .int
theorem bM0{i:aa}(h:ql 7 i):tS 7 0 i=.s i 1:=by
 show Tk.s i (min 1 (rW i+0))=_
 rw[E6,dP (E5.mpr h)];rfl
theorem KT:aQ (aU x) (n+4) GY Vf:=(bI6 (p:=0)).of λX I u2 g=>g.rec λa r k h S=>by unfold c7;rw[<-bM0 h];exact⟨a,r,h,S⟩
def Vg:Tr:=λa_ o_ k_=>∀P_:Tr,(∀(why:ai)(i r){k},pA i->k (.d (.int i)) [.cur r]->P_ [.ref 0,.d (.str why)] [.cur (c7 i r)] k)->P_ a_ o_ k_
theorem K':aQ (aU x) (n+5) Hf Vg:=fc x (q:=bw0) (l:=[(GY,Vf),(LR,KM)]) (by kernel_rfl) ⟨KT,bL9,cH2⟩ λX I u2 g=>g _ λwhy i r k h S at_=>by
 refine⟨i,r,YD h,(i,at_),h,?_⟩
 conv=>whnf
 refine jb ?_ S;exact eW (P:=λi:aa=>(!(decide (-1=i)||(decide (-2=i)||(decide (-16=i)||(decide (-17=i)||ak)))))=ak) h ⟨rfl,rfl,rfl,rfl,cH2⟩
def Vh:Tr:=jr pA c7 .int
theorem Vi:aQ (aU x) (n+6) Ej Vh:=k9 (q:=bw1) (l:=[(Hf,Vg)]) (by kernel_rfl) ⟨K',cH2⟩ λi r k h S=>(λX I=>I _ i r h S)
def OA:Tr:=jr x6 c7 .int
theorem bM1{i:aa}(h:x6 i):pA i:=.tail _ (.tail _ h)
theorem Vj:aQ (aU x) (n+5) Ek OA:=k9 (q:=bw2) (l:=[(GY,Vf)]) (by kernel_rfl) ⟨KT,cH2⟩ λi r k h S at_=>by
 refine⟨i,r,YD (bM1 h),?_⟩
 conv=>whnf
 refine jb ?_ S;exact eW (P:=λi:aa=>(!(decide (-16=i)||(decide (-17=i)||ak)))=ak) h ⟨rfl,rfl,cH2⟩
def Jo(p:H):Tr:=jr tP (CJ p) nE
theorem L9:aQ (aU x) (n+5) Hg (Jo p):=k9 (q:=bw4) (l:=[(mF,mR p),(qg,xH)]) (by kernel_rfl) ⟨oO,yV,cH2⟩ λ
 |(a,ao),r,k,h,S=>λat_=>⟨0,_,cH2,a,_,h.1,S⟩
 |(a,N m),r,k,h,S=>λat_=>⟨1,_,cH2,a,_,h.1,m,_,h.2 m rfl,S⟩
def Md(p:H):Tr:=jr iZ.ok (Fc p) iZ.d
theorem Mo:aQ (aU x) (n+6) Hh (Md p):=k9 (q:=bw5) (l:=[(Ek,OA),(Hg,Jo p)]) (by kernel_rfl) ⟨Vj,L9,cH2⟩ λt r k h S=>⟨t.k,_,h.1,t.l,r,h.2,S⟩
theorem M2:aQ (aU x) (n+6) Hi (Jo p):=k9 (q:=bw6) (l:=[(Hg,Jo p)]) (by kernel_rfl) ⟨L9,cH2⟩ λl r k h S=>⟨l,r,h,S⟩
def Vk:Tr:=jr Gk.ok N9 Gk.d
theorem M':aQ (aU x) (n+7) Hj Vk:=k9 (q:=bw7) (l:=[(Ej,Vh),(qg,xH)]) (by kernel_rfl) ⟨Vi,yV,cH2⟩ λg r k h S=>by
 refine⟨g.k,_,h.1,λat_=>⟨g.m,r,cH2,?_⟩⟩
 conv=>whnf
 refine jb ?_ S;exact eW (P:=λm:H=>decide ((1:aa)<m)=ak) h.2 ⟨rfl,rfl,cH2⟩
def bM2(p:H):Tr:=jr ju.ok (Jc p) ju.d
theorem bM3:aQ (aU x) (n+6) LV (bM2 p):=k9 (q:=bw9) (l:=[(GZ,Oz p),(qg,xH),(mF,mR p)]) (by kernel_rfl) ⟨Ve,yV,oO,cH2⟩ λe r k h S=>by
 refine⟨e.n,_,h.1,λat_=>⟨e.s,_,cH2,?_⟩⟩
 conv=>whnf
 exact jb (kq (pP.mpr (iN.mpr (rC h.2.1)))) ⟨e.i,r,h.2.2,S⟩
theorem Vl:aQ (aU x) (n+5) Ei (mR p):=k9 (q:=bv9) (l:=[(mF,mR p)]) (by kernel_rfl) ⟨oO,cH2⟩ λi r k h S=>⟨i,r,h,S⟩
def Fq(p:H):Tr:=λa_ o_ k_=>∀P_:Tr,(∀(y:ai)(c:J H){k},kQ y->k (.d (.tup [.str y,.bytes c])) [.cur []]->P_ [.ref 0] [.cur (tW p y (cR c []))] k)->P_ a_ o_ k_
theorem Fq.mk{p:H}(y:ai)(c:J H){k}(f5:kQ y)(lg:k (.d (.tup [.str y,.bytes c])) [.cur []]):Fq p [.ref 0] [.cur (tW p y (cR c []))] k:=λP_ c_=>c_ y c f5 lg
theorem bM4:aQ (aU x) (n+6) Lv (Fq p):=fc x (q:=bq6) (l:=[(GZ,Oz p),(BL,Of),(BN,Fe)]) (by kernel_rfl) ⟨Ve,FV,Oe,cH2⟩ λX I u2 g=>g _ λy c k h S=>by refine⟨y,_,h,_,?_⟩;have e:c8 (cR c [])=c:=j3 c;rw[e];exact⟨c,[],S⟩
inductive q8{α:Type}(p:H)(a:aR)(ok:α->Prop)(t:α->Ts->Ts)(d:α->D):Tr
 |mk {β:Type} (g:β->α) (ys:J β) (r:Ts) {k}:fO 1000 (λy=>ok (g y)) ys->k (.ref 1) [.cur r,.dl (ys.map λy=>d (g y))]->q8 p a ok t d [.ref 0,.d (.glob a)] [.cur (cU p ys.length (tL (λy=>t (g y)) ys r))] k
theorem bM5{L:J (H×Tr)}{a:H}{α β:Type}{ok:α->Prop}{t:α->Ts->Ts}{d:α->D}{g:β->α}(hL:wX a L=N (jr ok t d)){r:Ts}{K:dZ->St->Prop}:∀(ys:J β)(xs acc:J D),xs.length=ys.length->(∀y∈ys,ok (g y))->acc.length+ys.length<=1000->K .next ⟨[(bx,.L (N (.ref 0))),(fK,.L (N (.d (.glob a)))),(dQ,.L (N (.ref 1))),(rM,.L ao)],[.cur r,.dl (acc++ys.map λy=>d (g y))]⟩->
  gT [rM] [rM] ah 2 ((vc ⟨dO,d_ L⟩ 39).s v0) xs ⟨[(bx,.L (N (.ref 0))),(fK,.L (N (.d (.glob a)))),(dQ,.L (N (.ref 1))),(rM,.L ao)],[.cur (tL (λy=>t (g y)) ys r),.dl acc]⟩ K:=by
 intro ys;induction ys with
 |nil=>
  intro xs acc hl _ _ h;rw[X_,j3]at h
  induction xs using eT with
  |nil=>exact h
  |cons X I=>cases hl
 |cons y ys ih=>
  intro xs acc hl ho hn h;induction xs using eT with
  |nil=>cases hl
  |cons z xs=>
   have next:=ih xs (acc++[d (g y)]) (zJ hl) (λy h=>ho y (.tail _ h)) (by rw[f6,wB,rB _ ys.length];exact hn) (by rw[jx];exact h)
   conv=>whnf
   rw[hL];exact⟨g y,_,ho y (.head _),mD (pN (xV (jc _)) hn) (by decide),next⟩
theorem r7{a:H}{α:Type}{ok:α->Prop}{t:α->Ts->Ts}{d:α->D}(h:aQ (aU x) (n+4) a (jr ok t d))(ha:bX a mF=ak):aQ (aU x) (n+5) w4 (q8 p a ok t d):=by
 have hL:wX a [(mF,mR p),(a,jr ok t d)]=N (jr ok t d):=by unfold wX;rw[ha];unfold wX;rw[WZ]
 refine fc x (q:=bv8) (l:=[(mF,mR p),(a,jr ok t d)]) (by kernel_rfl) ⟨oO,h,cH2⟩ λX I u2 g=>g.rec λg ys r k ho S=>?_
 have hl:ys.length<4294967296:=eZ ho.1 (by decide)
 refine⟨ys.length,tL (λy=>t (g y)) ys r,hl,⟨ji (by decide) nn,iN.mpr (bR ho.1 (by decide))⟩,?_⟩
 exact bM5 hL ys _ [] (by rw[cO,Qu,sF]) ho.2 (by rw[Dv,mW];exact ho.1) S
theorem fO.le{α:Type}{P:α->Prop}{l:J α}{a b:H}(h:fO a P l)(q:a<=b):fO b P l:=⟨bR h.1 q,h.2⟩
def No(f:Fk):Prop:=rV f.1/\rV f.2
def bM6(p:H):Tr:=jr No (I9 p) mO
def Vm(p:H):Tr:=q8 p Ej pA c7 .int
theorem Nw:aQ (aU x) (n+7) w4 (Vm p):=r7 Vi (by decide)
theorem NA:aQ (aU x) (n+8) LS (bM6 p):=k9 (q:=bw3) (l:=[(qg,xH),(w4,Vm p)]) (by kernel_rfl) ⟨yV,Nw,cH2⟩ λf r k h S at_=>⟨96,_,cH2,id,f.1,_,h.1.le (by decide),id,f.2,r,h.2.le (by decide),S⟩
abbrev Lbl:=J H×H
def NE(p:H):Tr:=jr (λl:Lbl=>fO 1000 cY l.1/\cY l.2) (λl r=>cU p l.1.length (tL (cU p) l.1 (cU p l.2 r))) λl=>.tup (l.1.map dN++[dN l.2])
theorem bM7:aQ (aU x) (n+7) L1 (NE p):=k9 (q:=bx3) (l:=[(mF,mR p),(w4,q8 p Ei cY (cU p) dN)]) (by kernel_rfl) ⟨oO,r7 Vl (by decide),cH2⟩ λl r k h S=>⟨id,l.1,_,h.1,l.2,r,h.2,by rw[cO];exact eZ h.1.1 (by decide),S⟩
def NM(p:H):Tr:=jr (λq:H×H=>q.1<32/\cY q.2) (λq r=>cU p q.1 (cU p q.2 r)) λq=>.tup [dN q.1,dN q.2]
theorem bM8:aQ (aU x) (n+5) LZ (NM p):=k9 (q:=bx2) (l:=[(mF,mR p)]) (by kernel_rfl) ⟨oO,cH2⟩ λq r k h S at_=>by
 refine⟨q.1,_,mD h.1 (by decide),?_⟩
 conv=>whnf
 exact jb (kq (pP.mpr (iN.mpr (rC h.1)))) ⟨q.2,r,h.2,S⟩
def N0:Tr:=λa_ o_ k_=>∀P_:Tr,(∀(r){k},k (.d .none) [.cur r]->P_ [.ref 0] [.cur (cB 0 r)] k)->P_ a_ o_ k_
theorem bM9:aQ (aU x) (n+3) LY N0:=fc x (q:=bx1) (l:=[(qg,xH)]) (by kernel_rfl) ⟨yV,cH2⟩ λX I u2 g=>g _ λr X S at_=>⟨0,r,cH2,S⟩
def N':Tr:=λa_ o_ k_=>∀P_:Tr,(∀(b r ts){k},c8 ts=b::c8 r->k (.d (.int (b:H))) [.cur r]->P_ [.ref 0] [.cur ts] k)->P_ a_ o_ k_
theorem bN0:aQ (aU x) (n+2) qg N':=N5.cur.of λX I u2 g=>g _ λb r ts k e S o1 c=>v7 c λl i e' hb=>(λX I=>I l i e' b (c8 r) (e▸hb) ⟨_,(e▸hb:k8 l i e' (b::c8 r)).cons.2.2.con,S⟩)
def On(p:H):Tr:=jr E3 (λi r=>UR p i::r) .int
theorem bN1{m:H}(h:cY m):ql 33 m:=⟨ji (by decide) nn,dF.mpr h⟩
theorem bN2:∀b<256,(b<64\/128<=b)->decide ((b&&&192:H)=64)=ak:=by decide
theorem bN3{a b:H}:uc (a:aa) (b:aa)=((a&&&b:H):aa):=ap3 nn nn
theorem bN4{m:H}(h:cY m)(r:Ts):∃b l,c8 (tS 33 p m::r)=b::l/\b<256/\(b<64\/128<=b):=by
 obtain⟨j,e,_,_,g⟩:=Jg m 4 (ji (by decide) nn) (sN (dF.mpr h) (by decide))
 have hs:∀q,((m:aa)% 128).toNat=q->q<128:=λq e=>e▸(xE m).2.2.2
 show∃b l,ny m (min 5 (rW m+p))++c8 r=b::l/\_
 rw[e];obtain⟨q,e2⟩:∃q,min 5 (j+1+p)=q+1:=⟨min 4 (j+p),by rw[A6];exact cB0 ..⟩
 rw[e2];induction q using jh with
 |zero=>
  have hj:j+1+p<=1:=rC (W8 λh=>absurd (e2▸ap8.mpr ⟨(by decide:2<=5),h⟩:2<=0+1) (by decide))
  have:j=0:=cB4.mp (bR (gF j p) (Kl (bR (jm (A6 j p 1)) hj)));subst this;exact⟨_,_,rfl,mD (hs _ rfl) (by decide),.inl (by rw[X8 nn (sN g (by decide)),sF];exact dF.mp g)⟩
 |succ q=>exact⟨_,_,rfl,Qw (hs _ rfl) 128,.inr (xY ..)⟩
noncomputable def Op(p:H):J (H×Tr):=[(GW,UW),(qg,N'),(Hf,Vg),(Ro,CO 33 p)]
theorem bN5:aQ (aU x) (n+6) LX (On p):=k9 (q:=wd) (l:=Op p) (by kernel_rfl) ⟨bI0,bN0,K',bI8,cH2⟩ λi r k h S=>by
 cases h with
 |e=>exact λat_=>⟨64,_,_,rfl,(λX I=>I 64 r _ rfl S)⟩
 |k h=>
  revert S
  exact eW (P:=λi=>k (.d (.int i)) [.cur r]->lK wd (Op p) [.ref 0] [.cur (UR p i::r)] k) h
   ⟨λS at_=>⟨127,_,_,rfl,⟨127,_,_,rfl,(λX I=>I _ (-1) r (.head _) S)⟩⟩,λS at_=>⟨126,_,_,rfl,⟨126,_,_,rfl,(λX I=>I _ (-2) r (.tail _ (.head _)) S)⟩⟩,λS at_=>⟨112,_,_,rfl,⟨112,_,_,rfl,(λX I=>I _ (-16) r (.tail _ (.tail _ (.head _))) S)⟩⟩,λS at_=>⟨111,_,_,rfl,⟨111,_,_,rfl,(λX I=>I _ (-17) r (.tail _ (.tail _ (.tail _ (.head _)))) S)⟩⟩,cH2⟩
 |@x m h=>
   intro at_;obtain⟨b,l,e,h1,h2⟩:=bN4 (p:=p) h r;have n64:decide ((b:aa)=64)=ak:=kq λe=>have e:b=64:=zS (n:=64)|>.mp e;h2.elim (λz=>sq z e) λz=>absurd z (by rw[e];decide)
   have bN6:decide (uc (b:aa) 192=64)=ak:=by
    have:=bN2 b h1 h2;rw[show(192:aa)=((192:H):aa)from rfl,bN3]
    exact kq λh=>sJ this (zS.mp h)
   refine⟨b,l,_,e,?_⟩
   conv=>whnf
   refine jb n64 ⟨b,l,_,e,?_⟩
   conv=>whnf
   exact jb bN6 ⟨(m:aa),r,bN1 h,S⟩
def Os(l:J H):J (J H)->aD
 |[]=>ak
 |a::r=>jj (DO l a) (Os l r)
def OB(l:J H):aD:=Os l [[98],[105],[108],[114],[],[117],[97,117]]
def Ft(p:H):Tr:=λa_ o_ k_=>∀P_:Tr,(∀(f l a r){k},LF f l a->OB l=ah->k (.d (.tup (a.map .int))) [.cur r]->P_ [.ref 0,.d (.str f)] [.cur (xF p a l a r)] k)->(∀(f l a ts){k},LF f l a->OB l=ak->k (.d .none) [.cur ts]->P_ [.ref 0,.d (.str f)] [.cur ts] k)->P_ a_ o_ k_
theorem Ft.a{p:H}(f l a r){k}(f5:LF f l a)(lg:OB l=ah)(t7:k (.d (.tup (a.map .int))) [.cur r]):Ft p [.ref 0,.d (.str f)] [.cur (xF p a l a r)] k:=λP_ c_ u_=>c_ f l a r f5 lg t7
theorem Ft.b{p:H}(f l a ts){k}(f5:LF f l a)(lg:OB l=ak)(t7:k (.d .none) [.cur ts]):Ft p [.ref 0,.d (.str f)] [.cur ts] k:=λP_ u_ c_=>c_ f l a ts f5 lg t7
noncomputable def bN7(p:H):J (H×Tr):=[(mF,mR p),(LX,On p),(Rn,CO 32 p),(Rp,CO 64 p),(LZ,NM p),(Ek,OA)]
theorem bN8:aQ (aU x) (n+7) L3 (Ft p):=fc x (q:=bx4) (l:=bN7 p) (by kernel_rfl) ⟨oO,bN5,bI7,bI9,bM8,Vj,cH2⟩ λX I u2 g=>g _
 (λf l a r k h e S=>by
  obtain⟨m,h⟩:=h;cases h with
  |@b i h=>exact eW (m:f∈[Ac]) ⟨⟨i,r,h,S⟩,cH2⟩
  |@i i h=>exact eW (m:f∈[DW]) ⟨⟨i,r,h,S⟩,cH2⟩
  |@l i h=>exact eW (m:f∈[DX]) ⟨⟨i,r,h,S⟩,cH2⟩
  |@r i h=>exact eW (m:f∈[D5]) ⟨⟨i,r,h,S⟩,cH2⟩
  |o=>exact eW (m:f∈[qe]) ⟨S,cH2⟩
  |@u i h=>exact eW (m:f∈[DZ,BE,BG,DV,yi,GR,GS]) ⟨⟨i,r,h,S⟩,⟨i,r,h,S⟩,⟨i,r,h,S⟩,⟨i,r,h,S⟩,⟨i,r,h,S⟩,⟨i,r,h,S⟩,⟨i,r,h,S⟩,cH2⟩
  |@au i j h g=>exact eW (m:f∈[D3]) ⟨⟨(i,j),r,⟨h,g⟩,S⟩,cH2⟩
  |_=>cases e)
 λf l a ts k h e S=>by
  obtain⟨m,h⟩:=h;cases h with
  |k=>exact eW (m:f∈[DY]) ⟨S,cH2⟩
  |t=>exact eW (m:f∈[D0]) ⟨S,cH2⟩
  |z=>exact eW (m:f∈[BH]) ⟨S,cH2⟩
  |uz=>exact eW (m:f∈[D4]) ⟨S,cH2⟩
  |zz=>exact eW (m:f∈[BI]) ⟨S,cH2⟩
  |uu=>exact eW (m:f∈[BF,D7,D6]) ⟨S,S,S,cH2⟩
  |_=>cases e
def Oy(p:H):Tr:=λa_ o_ k_=>∀P_:Tr,(∀(f l a r){k},LF f l a->k (.d (.tup (a.map .int))) [.cur r]->P_ [.ref 0,.d (.str f)] [.cur (xF p a l a r)] k)->P_ a_ o_ k_
noncomputable def bN9(p:H):J (H×Tr):=[(L3,Ft p),(mF,mR p),(L1,NE p),(w4,Vm p),(LY,N0)]
theorem bO0:aQ (aU x) (n+8) L4 (Oy p):=fc x (q:=bx5) (l:=bN9 p) (by kernel_rfl) ⟨bN8,oO,bM7,Nw,bM9,cH2⟩ λX I u2 g=>g _ λf l a r k hf S=>by
 have m:=hf.m;cases hf.a with
 |b h=>exact .a f _ _ r hf rfl S
 |i h=>exact .a f _ _ r hf rfl S
 |l h=>exact .a f _ _ r hf rfl S
 |r h=>exact .a f _ _ r hf rfl S
 |o=>exact .a f _ _ r hf rfl S
 |u h=>exact .a f _ _ r hf rfl S
 |au h g=>exact .a f _ _ r hf rfl S
 |k h g=>exact .b f _ _ _ hf rfl (by obtain rfl:=fN.mp m;exact⟨id,a,r,⟨bR h (by decide),g⟩,S⟩)
 |@t i a h g=>exact .b f _ _ _ hf rfl (by
   obtain rfl:=fN.mp m;have g1:=g i (.head _)
   match a,h,S,g with
   |[],X,S,g=>exact⟨([],i),r,⟨⟨qw _,nofun⟩,g1⟩,S⟩
   |[b],X,S,g=>exact⟨([i],b),r,⟨⟨(by decide:1<=1000),gv.mpr ⟨g1,nofun⟩⟩,g b (.tail _ (.head _))⟩,S⟩
   |[b,c],X,S,g=>exact⟨([i,b],c),r,⟨⟨(by decide:2<=1000),gv.mpr ⟨g1,gv.mpr ⟨g b (.tail _ (.head _)),nofun⟩⟩⟩,g c (.tail _ (.tail _ (.head _)))⟩,S⟩
   |X::I::u2::u3,h,u4,u5=>exact absurd h (by simp))
 |z=>exact .b f _ _ _ hf rfl (by obtain rfl:=fN.mp m;exact(λX I=>I r S))
 |@uz i h=>exact .b f _ _ _ hf rfl (by obtain rfl:=fN.mp m;exact⟨i,_,h,(λX I=>I r S)⟩)
 |zz=>exact .b f _ _ _ hf rfl (by obtain rfl:=fN.mp m;exact(λX I=>I _ (λX I=>I r S)))
 |@uu i j h g=>exact .b f _ _ _ hf rfl (eW (m:f∈[BF,D7,D6]) ⟨⟨i,_,h,j,r,g,S⟩,⟨i,_,h,j,r,g,S⟩,⟨i,_,h,j,r,g,S⟩,cH2⟩)
noncomputable def OC:J (aa×aa):=[(42,43),(56,57),(67,68),(91,102),(139,166),(168,171),(174,191),(64512,64519)]
noncomputable def Jp(c:aa)(r:aa×aa):aD:=bC (decide (r.1<=c)) (decide (c<=r.2)) ak
noncomputable def OK(r:aa×aa):D:=.tup [.int r.1,.int r.2]
def Vn(c:aa):aD:=bC (decide (c=253)) ah (OC.any (Jp c))
def Pi:Tr:=nZ i1 kC λc=>.d (.bool (Vn c))
theorem bO1{c:aa}:∀(rs:J (aa×aa))(K:J V->J O->Prop),K (rs.map λr=>.d (.bool (Jp c r))) [.cell (N (.d (.int c)))]->
  jW [fQ,f7] ak [(fQ,.L ao),(f7,.L ao),(d8,.C 0)] (nW (vc ⟨dO,d_ []⟩ 37).t []) ((vc ⟨dO,d_ []⟩ 37).e (.o4 .LtE (.Y fQ) (.Y d8) (.Y f7))) (rs.map OK) [.cell (N (.d (.int c)))] K:=λi_=>by
 induction i_ with
 |nil=>exact λK h=>h
 |cons r rs ih=>
  intro K h
  show jW _ _ _ _ _ (OK r::_) _ _
  conv=>whnf
  exact qX (P:=λb=>K (.d (.bool b)::rs.map λr=>.d (.bool (Jp c r))) [.cell (N (.d (.int c)))]) h (λX h=>ih _ h) λX h=>ih _ h
theorem bO2:aQ (aU x) (n+1) Lz Pi:=k7 (q:=br4) (l:=[]) (by kernel_rfl) trivial λc k X S=>by
 conv=>whnf
 refine qX (P:=λb=>k (.d (.bool b)) []) S (λX h=>h) λX S=>?_;have g:=bO1 (c:=c) OC (λvs o=>iC ak vs o λv o=>MG .any ak [v] o λv o=>B4 0 v o k) (by
  show iC _ _ _ _
  unfold iC;rw[E7 (λr=>D.bool (Jp c r)) OC];exact y6 (f:=Jp c) OC (λq=>B4 0 (.d (.bool q)) [.cell (N (.d (.int c)))] k) S)
 conv at g=>whnf
 conv=>whnf
 exact g
def Pl:Tr:=nZ i1 kC λc=>.d (.bool (v5 c))
theorem bO3:aQ (aU x) (n+1) Ly Pl:=k7 (q:=br2) (l:=[]) (by kernel_rfl) trivial λc k X S=>S
structure Pm(c:aa):Prop where
 f:∃f,U_ c=.d (.str f)
 l:Vn c=ak
 r:jj (bz (decide (0<=c)) (decide (c<252))) (bz (decide (64512<=c)) (decide (c<=64529)))=ah
def bO4(c:aa):aD:=bz (QT (Ot c)) (bz (k6 (Vn c)) (jj (bz (decide (0<=c)) (decide (c<252))) (bz (decide (64512<=c)) (decide (c<=64529)))))
theorem bO5:kP bO4 (11::5::qF)=ah:=by kernel_rfl
theorem Vo{c:aa}(h:c∈11::5::qF):Pm c:=by have g:=lE bO5 _ h;exact⟨⟨_,bQ V.d (IH (ck g))⟩,yO.mp (ck (bf g)),bf (bf g)⟩
def Ps(p:H):Tr:=jr Pm (pR p) .int
noncomputable def bO6(p:H):J (H×Tr):=[(qg,xH),(mF,mR p),(Lz,Pi),(D8,Ou)]
theorem bO7:aQ (aU x) (n+5) L5 (Ps p):=k9 (q:=bx6) (l:=bO6 p) (by kernel_rfl) ⟨yV,oO,bO2,U',cH2⟩ λc r k h S=>by
 obtain⟨⟨f,h1⟩,h2,h3⟩:=h;rcases Cv h3 with h|h
 ·obtain⟨c,rfl⟩:=Ds (gy (ck h));have hc:(c:aa)<252:=gy (bf h);have e:pR p c r=cB c r:=by
   unfold pR;rw[nL (sN hc (by decide))];rfl
  rw[e];intro at_;refine⟨c,r,cH2,?_⟩
  conv=>whnf
  refine jb (kq (Int.ne_of_lt hc)) ⟨(c:aa),cH2,?_⟩
  conv=>whnf
  exact jb h2 ⟨((c:aa),V.d (D.str f)),h1,S⟩
 ·obtain⟨m,e⟩:=Ds (QE (gy (ck h)));obtain rfl:c=64512+(m:aa):=by rw[<-e,Ku,cs8]
  have hm:m<18:=dF.mp (by have:=gy (bf h);omega)
  have e2:pR p (64512+(m:aa)) r=cB 252 (cU p m r):=by unfold pR;rw[kq (by omega),e];rfl
  rw[e2];refine λat_=>⟨252,_,cH2,m,r,mD hm (by decide),?_⟩
  conv=>whnf
  refine jb (kq (by omega)) ⟨64512+(m:aa),cH2,?_⟩
  conv=>whnf
  exact jb h2 ⟨(64512+(m:aa),V.d (D.str f)),h1,S⟩
def Vp(c:aa):aD:=bz (k6 (decide (c=11))) (k6 (decide (c=5)))
theorem Pt:kP Vp qF=ah:=by kernel_rfl
noncomputable def xM:J aa->J D
 |[]=>[]
 |i::r=>xM r++[.int i]
theorem Jq:∀l,(xM l).length=l.length
 |[]=>rfl
 |i::r=>by rw[xM,f6,Jq r];rfl
theorem Pv{α:Type}:∀(l:J α)(a:α),f9 (l++[a])=ak
 |[],X=>rfl
 |X::I,u2=>rfl
def bO8(hc:aD)(i:fj):Prop:=i.mP/\(hc=ah\/qm i=ak)
inductive Vq(p:H)(hc:aD)(b:iR)(r:Ts):H->St->Prop
 |mk (fX:iR) (acc:J D) (mS:J aa):acc++fX.map fj.d=b.map fj.d->(∀i∈fX,bO8 hc i)->mS.length+fX.length<=13->nest mS fX=N []->
  Vq p hc b r fX.length ⟨[(bx,.L (N (.ref 0))),(Ld,.L (N (.d (.bool hc)))),(z6,.L (N (.ref 2))),(cD,.L none),(dK,.L (N (.ref 1))),(d8,.L none)],[.cur (oN p fX r),.dl acc,.dl (xM mS)]⟩
def Fv(p:H):Tr:=λa_ o_ k_=>∀P_:Tr,(∀(b hc r){k},oH b->(hc=ah\/∀i∈b,qm i=ak)->k (.d (gA b)) [.cur r]->P_ [.ref 0,.d (.bool hc)] [.cur (oN p b r)] k)->P_ a_ o_ k_
theorem Fv.mk{p:H}(b hc r){k}(f5:oH b)(lg:(hc=ah\/∀i∈b,qm i=ak))(t7:k (.d (gA b)) [.cur r]):Fv p [.ref 0,.d (.bool hc)] [.cur (oN p b r)] k:=λP_ c_=>c_ b hc r f5 lg t7
noncomputable def bO9(p:H):J (H×Tr):=[(L5,Ps p),(L4,Oy p),(D8,Ou),(Ly,Pl)]
theorem bP0{α:Type}{a b c:J α}{y:α}(e:a++y::b=c):a++[y]++b=c:=(jx ..).trans e
theorem bP1{l:J H}{a:J aa}(h:j5 l a):a.length<=3:=by
 cases h with
 |k h X=>exact xT h
 |t h X=>rw[cO];exact lB h
 |_=>exact PZ rfl
theorem PH:aQ (aU x) (n+9) Hl (Fv p):=fc x (q:=bx7) (l:=bO9 p) (by kernel_rfl) ⟨bO7,bO0,U',bO3,cH2⟩ λX I u2 g=>g _ λb hc r k hb hu S=>by
 refine⟨Vq p hc b r,b.length,.mk b [] [0] rfl (λi h=>⟨hb.ins i h,hu.imp id λg=>g i h⟩) (sI hb.len 1) hb.nest,?_⟩;intro m Z h;cases h with|mk fX acc mS he ho hl hn=>
 have la:acc.length<1000:=by
  have h1:=bQ al0 he;rw[f6,cO,cO]at h1
  exact eZ (bR (gF ..) (bR (jm h1) hb.len)) (by decide)
 have lA:acc.length<1048576:=mD la (by decide)
 induction mS using eT with
 |nil=>induction fX using eT with
  |nil=>have he:acc=b.map fj.d:=(j3 acc).symm.trans he;subst he;exact S
  |cons i fX=>cases hn
 |cons j mS=>induction fX using eT with
  |nil=>cases hn
  |cons i fX=>
   have lS:(xM (j::mS)).length<1048576:=eZ (bR (jm (Jq _)) (bR (gF ..) hl)) (by decide)
   have hl:mS.length+fX.length+2<=13:=by simp only[zK]at hl;lia
   have ho2:=λi h=>ho i (.tail _ h);have cH:=λmS (h1:mS.length+fX.length<=13) h2=>Vq.mk (p:=p) (r:=r) fX (acc++[i.d]) mS (bP0 he) ho2 h1 h2;have hi:=ho i (.head _)
   conv=>whnf
   refine AJ (bQ (!·) (Pv (xM mS) (.int j))) ?_;cases hi.1 with
   |e=>exact λat_=>⟨11,_,Vo (.head _),_,_,rfl,lA,fX.length,m7 _,cH mS (by lia) hn⟩
   |l=>
    intro at_;refine⟨5,_,Vo (.tail _ (.head _)),_,_,rfl,?_⟩
    conv=>whnf
    have hn:bC (decide (j=4)) (nest (5::mS) fX) ao=N []:=hn;by_cases q:j=4
    ·rw[nL q]at hn
     refine jb (by show(!decide (j=4))=ak;rw[nL q];rfl) ?_
     exact⟨_,_,rfl,lA,fX.length,m7 _,cH (5::mS) (by simp only[zK];lia) hn⟩
    ·rw[kq q]at hn
     cases hn
   |i h=>
    have o:=lE Pt _ h.c;have o1:decide (i.c=11)=ak:=yO.mp (ck o);have o2:decide (i.c=5)=ak:=yO.mp (bf o);obtain⟨f,hf⟩:=IN hi.1;have hn:bC (decide (i.c=11)) (nest mS fX) (bC (decide (i.c=5)) (bC (decide (j=4)) (nest (5::mS) fX) ao) (bC (v5 i.c) (nest (i.c::j::mS) fX) (nest (j::mS) fX)))=N []:=hn;rw[o1,o2]at hn
    refine λat_=>⟨i.c,_,Vo (.tail _ (.tail _ h.c)),?_⟩
    conv=>whnf
    refine jb o1 ?_
    conv=>whnf
    refine jb o2 ?_
    conv=>whnf
    refine IK (λq c=>?_) ⟨(i.c,V.d (D.str f)),hf.e,(λX I=>I f (n_ i.c) i.a _ hf.a ?_)⟩
    ·exact jb (hi.2.elim (λe=>bQ (!·) e) λe=>absurd (q.symm.trans e) gr) c
    ·refine⟨by rw[f6,cO];exact bR (sI (bP1 hf.a.a) 1) (by decide:4<=1048576),lA,i.c,cH2,?_⟩
     conv=>whnf
     cases q:v5 i.c with
     |true=>
      rw[q]at hn
      exact⟨lS,fX.length,m7 _,cH (i.c::j::mS) (by simp only[zK];lia) hn⟩
     |false=>
      rw[q]at hn
      exact⟨fX.length,m7 _,cH (j::mS) (by simp only[zK];lia) hn⟩
def OD(p:H):Tr:=jr oH (oN p) gA
theorem OE:aQ (aU x) (n+10) BV (OD p):=k9 (q:=bx8) (l:=[(Hl,Fv p)]) (by kernel_rfl) ⟨PH,cH2⟩ λb r k h S=>(λX I=>I b ah r h (.inl rfl) S)
def bP2{α:Type}(c:aR)(ar:α->J D)(fs:α->J (ai×V)):Tr:=λa_ o_ k_=>∀P_:Tr,(∀(a:α){k},k (.d .none) [.inst c (fs a)]->P_ (.ref 0::(ar a).map .d) [.inst c []] k)->P_ a_ o_ k_
def uW{α:Type}(c:aR)(ar:α->J D)(fs:α->J (ai×V)):Tr:=λa_ o_ k_=>∀P_:Tr,(∀(a:α){k},k (.ref 0) [.inst c (fs a)]->P_ ((ar a).map .d) [] k)->P_ a_ o_ k_
theorem uW.mk{α:Type}{c:aR}{ar:α->J D}{fs:α->J (ai×V)}(a:α){k}(f5:k (.ref 0) [.inst c (fs a)]):uW c ar fs ((ar a).map .d) [] k:=λP_ c_=>c_ a f5
theorem Fw{α:Type}{q:Fn}{c:aR}{ar:α->J D}{fs:α->J (ai×V)}(hd:AI (kF w.params) q ah)(h:∀a k,k (.d .none) [.inst c (fs a)]->lK q [] (.ref 0::(ar a).map .d) [.inst c []] k)(hc:yA (kF w.params) c q.a=ah):aQ (aU x) (n+2) c (uW c ar fs):=
 (CC (T:=bP2 c ar fs) x (fc x hd (l:=[]) trivial λargs o k g=>g _ λa X S=>h a _ S) hc).of λargs o k g=>g _ λa X S=>(λX I=>I a S)
def Vr:Tr:=uW Ad (λi:fh=>[.str i.p,.str i.n,.int i.a.sort,i.a.d]) λi=>[(dM,.d (.str i.p)),(dX,.d (.str i.n)),(fR,.d (.int i.a.sort)),(i6,.d i.a.d)]
theorem PP:aQ (aU x) (n+2) Ad Vr:=Fw (q:=br5) (by kernel_rfl) (λa k S=>S) (by kernel_rfl)
def Vs:Tr:=uW Ae (λf:cW=>[.int f.k,oG f.l,gA f.b]) λf=>[(bW,.d (.int f.k)),(z8,.d (oG f.l)),(dK,.d (gA f.b))]
theorem P2:aQ (aU x) (n+2) Ae Vs:=Fw (q:=br7) (by kernel_rfl) (λa k S=>S) (by kernel_rfl)
def Vt:Tr:=uW Af (λg:iy=>[.int g.g.k,.int g.g.m,gA g.b]) λg=>[(bW,.d (.int g.g.k)),(jT,.d (.int g.g.m)),(dK,.d (gA g.b))]
theorem P3:aQ (aU x) (n+2) Af Vt:=Fw (q:=br9) (by kernel_rfl) (λa k S=>S) (by kernel_rfl)
def Vu:Tr:=uW yk (λc:dB=>[.str c.n,.bytes c.c,.int c.b]) λc=>[(dX,.d (.str c.n)),(bH,.d (.bytes c.c)),(rK,.d (.int c.b))]
theorem Qb:aQ (aU x) (n+2) yk Vu:=Fw (q:=bs5) (by kernel_rfl) (λa k S=>S) (by kernel_rfl)
def Vv:Tr:=uW Ah (λe:eV=>[.int e.m,.int e.y,rU e.b,.bytes e.c]) λe=>[(fZ,.d (.int e.m)),(nh,.d (.int e.y)),(iA,.d (rU e.b)),(bH,.d (.bytes e.c))]
theorem Qr:aQ (aU x) (n+2) Ah Vv:=Fw (q:=bs3) (by kernel_rfl) (λa k S=>S) (by kernel_rfl)
noncomputable def QP(e:dz):D:=.list (e.i.map λi=>gA (i.b e.k))
def Vw:Tr:=uW Ag (λe:dz=>[.int e.m.m,.int e.m.t,rU e.m.o,.int e.k,QP e]) λe=>[(fZ,.d (.int e.m.m)),(kY,.d (.int e.m.t)),(iA,.d (rU e.m.o)),(bW,.d (.int e.k)),(kr,.d (QP e))]
theorem QQ:aQ (aU x) (n+2) Ag Vw:=Fw (q:=bs1) (by kernel_rfl) (λa k S=>S) (by kernel_rfl)
def bP3(p:H):Tr:=jr iy.ok (Jb p) iy.d
theorem bP4:aQ (aU x) (n+11) LW (bP3 p):=k9 (q:=bx0) (l:=[(Hj,Vk),(BV,OD p),(Af,Vt)]) (by kernel_rfl) ⟨M',OE,P3,cH2⟩ λg r k h S=>⟨g.g,_,h.1,⟨g.b,r,h.2,(λX I=>I g S)⟩⟩
def bP5(p:H):Tr:=jr fh.ok (I_ p) fh.d
noncomputable def bP6(p:H):J (H×Tr):=[(GZ,Oz p),(qg,xH),(mF,mR p),(Ad,Vr),(Hh,Md p),(Hi,Jo p),(Hj,Vk)]
theorem bP7:aQ (aU x) (n+8) LU (bP5 p):=k9 (q:=bw8) (l:=bP6 p) (by kernel_rfl) ⟨Ve,yV,oO,PP,Mo,M2,M',cH2⟩ λi r k h S=>by
 obtain⟨pl,m,a⟩:=i;induction a with
 |f i=>exact⟨pl,_,h.1,m,_,h.2.1,λat_=>⟨0,_,cH2,⟨i,r,h.2.2,(λX I=>I (fh.mk pl m (.f i)) S)⟩⟩⟩
 |t i=>exact⟨pl,_,h.1,m,_,h.2.1,λat_=>⟨1,_,cH2,⟨i,r,h.2.2,(λX I=>I (fh.mk pl m (.t i)) S)⟩⟩⟩
 |m i=>exact⟨pl,_,h.1,m,_,h.2.1,λat_=>⟨2,_,cH2,⟨i,r,h.2.2,(λX I=>I (fh.mk pl m (.m i)) S)⟩⟩⟩
 |g i=>exact⟨pl,_,h.1,m,_,h.2.1,λat_=>⟨3,_,cH2,⟨i,r,h.2.2,(λX I=>I (fh.mk pl m (.g i)) S)⟩⟩⟩
def bP8(p:H):Tr:=jr eV.ok (Je p) eV.d
noncomputable def bP9(p:H):J (H×Tr):=[(mF,mR p),(BN,Fe),(BV,OD p),(Ah,Vv)]
theorem bQ0:aQ (aU x) (n+11) L8 (bP8 p):=k9 (q:=by1) (l:=bP9 p) (by kernel_rfl) ⟨oO,Oe,OE,Qr,cH2⟩ λe r k h S=>by
 obtain⟨o,c⟩:=e;have hc:cY c.length:=eZ h.2.1 (by decide)
 induction o with
 |none=>exact λat_=>⟨1,_,(by decide:1<4294967296),⟨c.length,_,hc,⟨c,r,(λX I=>I (eV.mk ao c) S)⟩⟩⟩
 |some o=>
  obtain⟨y,b⟩:=o;obtain⟨h1,h2⟩:=h.1 _ rfl
  show lK _ _ _ [.cur (bC (bz (bX y 0) (bX p 0)) _ _)] _
  cases q:bz (bX y 0) (bX p 0)with
  |true=>obtain rfl:=mV (ck q);exact λat_=>⟨0,_,(by decide:0<4294967296),⟨b,_,h2,⟨c.length,_,hc,⟨c,r,(λX I=>I (eV.mk (N (0,b)) c) S)⟩⟩⟩⟩
  |false=>exact λat_=>⟨2,_,(by decide:2<4294967296),⟨y,_,h1,⟨b,_,h2,⟨c.length,_,hc,⟨c,r,(λX I=>I (eV.mk (N (y,b)) c) S)⟩⟩⟩⟩⟩
def QR:Tr:=jr (kC (α:=rq)) (λX r=>cB 0 r) λX=>.int (-16)
theorem bQ1:aQ (aU x) (n+3) L6 QR:=k9 (q:=bx9) (l:=[(qg,xH)]) (by kernel_rfl) ⟨yV,cH2⟩ λX r k h S at_=>⟨0,r,cH2,S⟩
theorem aQ.or{f:Cf}{n:H}{a:aR}{T U:Tr}(h:aQ f n a T)(g:aQ f n a U):aQ f n a (λargs o k=>T args o k\/U args o k):=⟨h.keep,λargs o k z=>z.elim (λz=>h.sc args o k z) λz=>g.sc args o k z⟩
def bQ2(p:H):Tr:=λargs o k=>q8 p BV oH (oN p) gA args o k\/q8 p Ei cY (cU p) dN args o k
noncomputable def Vx(p:H):J (H×Tr):=[(mF,mR p),(BV,OD p),(Ek,OA),(L6,QR),(Ag,Vw),(w4,bQ2 p)]
theorem bQ3(i:aa)(h:i∈[35,210,208]):i∈qF/\Vp i=ah/\v5 i=ak:=(by decide:∀i∈[(35:aa),210,208],i∈qF/\Vp i=ah/\v5 i=ak) i h
theorem bQ4{c:aa}{a:J aa}(h:c∈[35,210,208]):nest [0] [⟨c,a⟩,iE]=N []:=eW (P:=λc=>nest [0] [⟨c,a⟩,iE]=N []) h ⟨rfl,rfl,rfl,cH2⟩
theorem bQ5{k:aa}(S:x6 k){i:er}(h:i.ok):oH (i.b k):=by
 have go:∀{c:aa}{a:J aa},c∈[35,210,208]->j5 (n_ c) a->oH [⟨c,a⟩,iE]:=λhc ha=>⟨gv.mpr ⟨.i ⟨(bQ3 _ hc).1,ha⟩,gv.mpr ⟨.e,nofun⟩⟩,(by decide:2<=12),bQ4 hc⟩
 induction i with
 |f i=>exact go (.tail _ (.head _)) (.u h)
 |g i=>exact go (.head _) (.u h)
 |n=>exact go (.tail _ (.tail _ (.head _))) (.r S)
noncomputable def bQ6(at_ B f m t o k w:D):Fm:=[(bx,.L (N (.ref 0))),(cD,.L (N (.d at_))),(uy,.L (N (.d B))),(gz,.L (N (.d f))),(kr,.L ao),(bW,.L (N (.d k))),(fZ,.L (N (.d m))),(iA,.L (N (.d o))),(kY,.L (N (.d t))),(gS,.L (N (.d w)))]
theorem Q1{e:dz}(h:lM e=ak):e.k=-16/\∀i∈e.i,nf i=ak:=by
 obtain⟨h1,h2⟩:=aq0.mp h;refine⟨gy (by cases q:decide (e.k=-16)with|true=>rfl|false=>rw[q]at h1;cases h1),λi hi=>?_⟩
 cases q:nf i with
 |false=>rfl
 |true=>exact absurd (wD.mpr ⟨i,hi,q⟩) (by rw[h2];exact gr)
theorem bQ7{e:dz}{B:aD}{a f w':D}{r:Ts}{k:V->J O->Prop}(he:e.ok)(hB:B=ak->lM e=ak)(S:k (.d e.d) [.cur r]):
  l8 ⟨dO,d_ (Vx p)⟩ (vc ⟨dO,d_ (Vx p)⟩ 39) (wf.drop 9) ⟨bQ6 a (.bool B) f (.int e.m.m) (.int e.m.t) (rU e.m.o) (.int e.k) w',[.cur (CM p B e r)]⟩ (mJ 1 k):=by
 induction B with
 |true=>exact .inl ⟨er.b e.k,e.i,r,⟨bR he.2.2.1 (by decide),λi h=>bQ5 he.2.1 (he.2.2.2 i h)⟩,(λX I=>I e S)⟩
 |false=>
  obtain⟨h1,h2⟩:=Q1 (hB rfl);have bQ8:∀i∈e.i,cY i.x:=λi h=>by
   have:=he.2.2.2 i h;induction i with
   |f i=>exact this
   |_=>exact(by decide:0<4294967296)
  refine .inr ⟨er.x,e.i,r,⟨bR he.2.2.1 (by decide),bQ8⟩,?_⟩
  have eq:(e.i.map λi:er=>D.list [.tup [.int 210,dN i.x],.tup [.int 11]])=e.i.map λi=>gA (i.b e.k):=ao1 λi h=>by
   have:=h2 i h;induction i with
   |f i=>rfl
   |_=>cases this
  refine pB (f:=λi:er=>dN i.x) (g:=λi=>D.list [.tup [.int 210,dN i.x],.tup [.int 11]]) (by exact λi k h=>h) e.i ?_
  rw[eq];exact(λX I=>I e S)
def bQ9(p:H):Tr:=jr dz.ok (CN p) dz.d
theorem bR0:aQ (aU x) (n+15) L7 (bQ9 p):=k9 (q:=by0) (l:=Vx p) (by kernel_rfl) ⟨oO,OE,Vj,bQ1,QQ,(r7 OE (by decide)).or (r7 Vl (by decide)),cH2⟩ λe r k h S=>by
 have hB:∀B,jj (lM e) (bX p 1)=B->B=ak->lM e=ak:=λB q h=>by
  rw[h]at q
  cases b:lM e with
  |false=>rfl
  |true=>rw[b]at q;cases q
 unfold CN;generalize jj (lM e) (bX p 1)=B at hB
 have cH:=λa f w=>@bQ7 p e B a f w r k h (hB B rfl) S;have kd:=λhb=>(Q1 (hB B rfl hb)).1;clear hB;obtain⟨m,kk,is⟩:=e;induction m with
 |p=>induction B with
  |true=>exact λat_=>⟨5,_,(by decide:5<4294967296),by decide,by decide,oh rfl ⟨kk,_,h.2.1,cH _ _ _⟩⟩
  |false=>obtain rfl:kk=-16:=kd rfl;exact λat_=>⟨1,_,(by decide:1<4294967296),by decide,by decide,oh rfl ⟨(),_,cH2,cH _ _ _⟩⟩
 |d=>induction B with
  |true=>exact λat_=>⟨7,_,(by decide:7<4294967296),by decide,by decide,oh rfl ⟨kk,_,h.2.1,cH _ _ _⟩⟩
  |false=>obtain rfl:kk=-16:=kd rfl;exact λat_=>⟨3,_,(by decide:3<4294967296),by decide,by decide,oh rfl ⟨(),_,cH2,cH _ _ _⟩⟩
 |a y b=>
  obtain⟨h1,h2⟩:=h.1
  show lK _ _ _ [.cur (bC (bz (bX y 0) (bz (decide (kk=-16)) (bX p 0))) _ _)] _
  cases q:bz (bX y 0) (bz (decide (kk=-16)) (bX p 0))with
  |true=>
   obtain rfl:=mV (ck q);obtain rfl:kk=-16:=gy (ck (bf q));induction B with
   |true=>
    refine λat_=>⟨4,_,(by decide:4<4294967296),by decide,by decide,λy hy=>?_⟩
    cases hy;refine⟨b,_,h2,?_⟩;have cH:=cH (.int at_) (.int 4) (.int 0)
    conv at cH=>whnf
    conv=>whnf
    exact cH
   |false=>
    refine λat_=>⟨0,_,(by decide:0<4294967296),by decide,by decide,λy hy=>?_⟩
    cases hy;refine⟨b,_,h2,?_⟩;have cH:=cH (.int at_) (.int 0) (.int 0)
    conv at cH=>whnf
    conv=>whnf
    exact cH
  |false=>induction B with
   |true=>exact λat_=>⟨6,_,(by decide:6<4294967296),by decide,by decide,oh rfl ⟨y,_,h1,b,_,h2,kk,_,h.2.1,cH _ _ _⟩⟩
   |false=>obtain rfl:kk=-16:=kd rfl;exact λat_=>⟨2,_,(by decide:2<4294967296),by decide,by decide,oh rfl ⟨y,_,h1,b,_,h2,(),_,cH2,cH _ _ _⟩⟩
end
section
open Wh (cu)
variable{w:bU}{bJ s:aE}{x:cu w bJ s}{n:H}
noncomputable def v_{α:Type}(f:α->D):J α->J D
 |[]=>[]
 |a::l=>v_ f l++[f a]
theorem OF{α:Type}{f:α->D}:∀l:J α,v_ f l=l.reverse.map f:=λi_=>by
 induction i_ with
 |nil=>exact rfl
 |cons a l ih=>exact by rw[Dk,zO,<-ih];rfl
theorem Vy{α:Type}{f:α->D}(l:J α):(v_ f l).length=l.length:=by rw[OF,cO,Gf]
noncomputable def Re:Fm:=[(fY,.L (N (.ref 0))),(dK,.L (N (.ref 1))),(d9,.L ao),(aM,.L ao),(yc,.L (N (.ref 2)))]
noncomputable def Rs(ns:J aa)(p:iR)(Z:J aa)(n0:aa):J O:=[.dl (ns.map .int),.dl (v_ fj.d p),.dl (xM Z),.dl [.int n0]]
structure yZ(p:iR)(Z:J aa)(j:H):Prop where
 ok:∀i∈p,i.mP
 len:p.length+j<=4
 op:Z.length<=p.length
 RF:∀fX,nest [0] (p.reverse++fX)=nest (Z++[0]) fX
theorem yZ.snoc{p:iR}{Z b9:J aa}{j:H}{i:fj}(h:yZ p Z (j+1))(hi:i.mP)(hl:b9.length<=Z.length+1)(hn:∀fX,nest (Z++[0]) (i::fX)=nest (b9++[0]) fX):yZ (i::p) b9 j:=
 ⟨gv.mpr ⟨hi,h.ok⟩,bR (jm (A6 ..)) h.len,bR hl (lB h.op),λfX=>by rw[Dk,jx,<-hn,<-h.RF];rfl⟩
theorem Sc{i:fj}(h:i.ok)(Z fX):∀(x:aa)(r:J aa),Z++[0]=x::r->nest (Z++[0]) (i::fX)=bC (v5 i.c) (nest (i.c::Z++[0]) fX) (nest (Z++[0]) fX):=λx r e=>by
 have o:=lE Pt _ h.c;have h1:=ck o;have h2:=bf o
 show nest (Z++[0]) (i::fX)=bC (v5 i.c) (nest (i.c::(Z++[0])) fX) (nest (Z++[0]) fX)
 rw[e]
 show bC (decide (i.c=11)) _ (bC (decide (i.c=5)) _ _)=_
 cases q1:decide (i.c=11)with
 |true=>rw[q1]at h1;cases h1
 |false=>cases q2:decide (i.c=5)with
  |true=>rw[q2]at h2;cases h2
  |false=>rfl
theorem Sr{i:fj}(h:i.ok)(Z fX):nest (Z++[0]) (i::fX)=bC (v5 i.c) (nest (i.c::Z++[0]) fX) (nest (Z++[0]) fX):=by
 induction Z using eT with
 |nil=>exact Sc h [] fX 0 [] rfl
 |cons x r=>exact Sc h (x::r) fX x (r++[0]) rfl
def SB:Tr:=UE oH gA
noncomputable def SF:J (H×Tr):=[(Aj,CG),(oq,qp),(Mc,C')]
theorem bR1{n0:aa}{K:dZ->St->Prop}(hK:∀ns p Z,yZ p Z 0->K .next ⟨Re,Rs ns p Z n0⟩)(xs:J D):∀(ns:J aa)(p:iR)(Z:J aa),yZ p Z xs.length->
  gT [d9,aM] [d9] ah 4 ((vc ⟨dO,d_ SF⟩ 39).s wt) xs ⟨Re,Rs ns p Z n0⟩ K:=by
 induction xs with
 |nil=>exact hK
 |cons d xs ih=>
  intro ns p Z h;have lp:(v_ fj.d p).length<1048576:=by rw[Vy];exact eZ (bR (gF ..) h.len) (by decide)
  have ls:(xM Z).length<1048576:=by rw[Jq];exact eZ (bR h.op (bR (gF ..) h.len)) (by decide)
  have SL:∀i:fj,i.ok->v5 i.c=ah->yZ (i::p) (i.c::Z) xs.length:=λi hi hb=>h.snoc (.i hi) (jO _) λfX=>by rw[Sr hi,hb];rfl
  have no:∀i:fj,i.ok->v5 i.c=ak->yZ (i::p) Z xs.length:=λi hi hb=>h.snoc (.i hi) (Bj _) λfX=>by rw[Sr hi,hb];rfl
  have cls:∀x r,Z=x::r->yZ (iE::p) r xs.length:=λx r e=>h.snoc .e (by rw[e];exact xT (Bj _)) λfX=>by rw[e];rfl
  have els:∀r,Z=4::r->yZ (iL::p) (5::r) xs.length:=λr e=>h.snoc .l (by rw[e];exact Bj _) λfX=>by rw[e];rfl
  clear h hK;refine⟨ns,λi0 we=>?_⟩;induction Z using eT with
  |nil=>
   refine⟨(),i0,cH2,λi i1 hi=>⟨lp,?_⟩⟩
   conv=>whnf
   refine⟨_,_,rfl,?_⟩
   conv=>whnf
   refine gZ (λq=>⟨_,_,rfl,ls,ih we _ _ (SL i hi q)⟩) λq=>ih we _ _ (no i hi q)
  |cons y r=>
   conv=>whnf
   refine AJ (bQ (!·) (Pv (xM r) (.int y))) ⟨3,i0,(by decide),λj i1 hj=>?_⟩
   conv=>whnf
   refine gZ (λX=>⟨_,_,rfl,?_⟩) λX=>⟨(),i1,cH2,λi i2 hi=>⟨lp,_,_,rfl,?_⟩⟩
   ·conv=>whnf
    refine gZ (λq=>⟨2,i1,(by decide),λj i2 hj=>?_⟩) λX=>⟨lp,_,_,rfl,ih we _ _ (cls y r rfl)⟩
    obtain rfl:y=4:=gy q
    conv=>whnf
    exact gZ (λX=>⟨lp,_,_,rfl,ih we _ _ (els r rfl)⟩) λX=>⟨lp,_,_,rfl,ih we _ _ (cls 4 r rfl)⟩
   ·conv=>whnf
    exact gZ (λq=>⟨_,_,rfl,ls,ih we _ _ (SL i hi q)⟩) λq=>ih we _ _ (no i hi q)
theorem SU:∀Z:J aa,nest Z (vh Z.length iE)=N []
 |[]=>rfl
 |x::r=>SU r
theorem Vz(i:aa){m:H}(h:0<m):∃j:H,xZ i m=j/\j<m:=by have p:(0:aa)<m:=dF.mpr h;have e:=Bo (cA2 i p);exact⟨(xZ i m).toNat,e.symm,dF.mp (e.symm▸cA1 i p)⟩
theorem bR2:aQ (aU x) (n+5) Me SB:=qo (q:=bA2) (l:=SF) (by kernel_rfl) ⟨IX,rX,bF4,cH2⟩ λX l k I S=>by
 refine⟨l,λi0 l1=>⟨by decide,?_⟩⟩
 refine b_ (Vz (1+i0) (m:=5) (by decide)) λj hx=>?_
 have e:=hx.1;have hj:=hx.2
 conv=>whnf
 rw[show xZ (1+i0) 5=(j:aa)from e]
 refine⟨uS (bR (mX hj) (by decide)),?_⟩
 refine bR1 (λns p Z h=>?_) _ l1 [] [] ⟨nofun,?_,jO _,λfX=>rfl⟩
 ·have e:v_ fj.d p++vh (((xM Z).length:H)+1:aa).toNat (D.tup [D.int 11])=(p.reverse++vh (Z.length+1) iE).map fj.d:=by
   rw[zO,List.map_replicate,OF,Jq];rfl
  have lst:Z.length<=4:=bR h.op (bR (gF ..) h.len);have len:(p.reverse++vh (Z.length+1) iE).length<=12:=by rw[f6,Gf,cB5];exact bR (cB6 h.len (lB lst)) (by decide)
  have g:=S (p.reverse++vh (Z.length+1) iE) ns ⟨λi hi=>?_,len,?_⟩
  ·unfold gA at g
   rw[<-e]at g
   refine⟨?_,?_,g⟩
   ·rw[Jq];exact⟨ji (by decide) (nn (n:=Z.length+1)),iN.mpr (bR (lB lst) (by decide))⟩
   ·rw[e,cO];exact bR len (by decide)
  ·rcases gK.mp hi with hi|hi
   ·exact h.ok i (Xh.mp hi)
   ·rw[List.eq_of_mem_replicate hi];exact .e
  ·rw[h.RF];have:=SU (Z++[0])
   rwa [f6]at this
 ·rw[iz];exact bR (jm (mW _)) (rC hj)
def OG:Tr:=xC oH gA
theorem bR3:∀c∈[(65:aa),66,35,106],c∈qF:=by decide
theorem SZ{b:iR}(h:∀i∈b,i.ok)(hl:b.length<=3)(hn:nest [0] (b++[iE])=N []):oH (b++[iE]):=
 ⟨λi hi=>(gK.mp hi).elim (λhi=>.i (h i hi)) λhi=>by rw[fN.mp hi];exact .e,by rw[f6];exact bR (lB hl) (by decide),hn⟩
theorem Fx{c:aa}{a:J aa}(h:c∈[(65:aa),66,35,106])(g:j5 (n_ c) a):fj.ok ⟨c,a⟩:=⟨bR3 c h,g⟩
theorem VA{i:fj}(h:i.ok)(hn:nest [0] ([i]++[iE])=N []):oH ([i]++[iE]):=SZ (λX hj=>by rw[fN.mp hj];exact h) (by decide:1<=3) hn
theorem VB:aQ (aU x) (n+3) Em OG:=qo (q:=bA3) (l:=[(oq,qp),(Hs,UG),(uF,xD)]) (by kernel_rfl) ⟨rX,AT,yR,cH2⟩ λX i k I S=>by
 refine⟨4,i,(by decide),λa i1 ha=>?_⟩
 conv=>whnf
 refine gZ (λX=>⟨32,i1,.head _,λb i2 hb=>S [⟨65,[b]⟩,iE] i2 (VA (Fx (.head _) (.i hb)) rfl)⟩) λX=>?_
 conv=>whnf
 refine gZ (λX=>⟨64,i1,.tail _ (.head _),λb i2 hb=>S [⟨66,[b]⟩,iE] i2 (VA (Fx (.tail _ (.head _)) (.l hb)) rfl)⟩) λX=>?_
 conv=>whnf
 refine gZ (λX=>⟨(),i1,cH2,λb i2 hb=>S [⟨35,[(b:aa)]⟩,iE] i2 (VA (Fx (.tail _ (.tail _ (.head _))) (.u hb)) rfl)⟩) λX=>⟨(),i1,cH2,λb i2 hb=>⟨32,i2,.head _,λc i3 hc=>S [⟨35,[(b:aa)]⟩,⟨65,[c]⟩,⟨106,[]⟩,iE] i3 (SZ (b:=[⟨35,[(b:aa)]⟩,⟨65,[c]⟩,⟨106,[]⟩]) (gv.mpr ⟨Fx (.tail _ (.tail _ (.head _))) (.u hb),gv.mpr ⟨Fx (.head _) (.i hc),gv.mpr ⟨Fx (.tail _ (.tail _ (.tail _ (.head _)))) .o,nofun⟩⟩⟩) (by decide:3<=3) rfl)⟩⟩
theorem Ta:∀c<2,c∈[0,1]:=by decide
def Tl:Tr:=xC fh.ok fh.d
noncomputable def bR4:J (H×Tr):=[(oq,qp),(uF,xD),(Hu,UI),(BW,IY),(Hr,UJ),(Ad,Vr)]
theorem bR5:aQ (aU x) (n+4) Mf Tl:=qo (q:=bA4) (l:=bR4) (by kernel_rfl) ⟨rX,yR,Bn,N2,BM,PP,cH2⟩ λX i k I S=>by
 refine⟨4,i,(by decide),λa i1 ha=>?_⟩
 match a,dF.mp ha with
 |0,X=>exact⟨(),i1,cH2,λb i2 hb=>⟨(),i2,cH2,λy i3 hy=>⟨(),i3,cH2,λz i4 hz=>(λX I=>I (fh.mk y z (.f b)) (S (fh.mk y z (.f b)) i4 ⟨hy,hz,hb⟩))⟩⟩⟩
 |1,X=>
  refine⟨2,i1,(by decide),λj i2 hj=>⟨nn,hj,λy hy=>?_⟩⟩
  obtain⟨kd,y9,rfl⟩:=yT (f:=.int) (l:=[-16,-17]) hy;exact⟨(),i2,cH2,λl i3 hl=>⟨(show 3<=1048576 by decide),(),i3,cH2,λy i3 hy=>⟨(),i3,cH2,λz i4 hz=>(λX I=>I (fh.mk y z (.t ⟨kd,l⟩)) (S (fh.mk y z (.t ⟨kd,l⟩)) i4 ⟨hy,hz,y9,hl⟩))⟩⟩⟩
 |2,X=>exact⟨(),i1,cH2,λb i2 hb=>⟨(),i2,cH2,λy i3 hy=>⟨(),i3,cH2,λz i4 hz=>(λX I=>I (fh.mk y z (.m b)) (S (fh.mk y z (.m b)) i4 ⟨hy,hz,hb⟩))⟩⟩⟩
 |3,X=>exact⟨(),i1,cH2,λb i2 hb=>⟨2,i2,(by decide),λc i3 hc=>⟨(),i3,cH2,λy i3 hy=>⟨(),i3,cH2,λz i4 hz=>(λX I=>I (fh.mk y z (.g ⟨b,c⟩)) (S (fh.mk y z (.g ⟨b,c⟩)) i4 ⟨hy,hz,hb,Ta c (dF.mp hc)⟩))⟩⟩⟩⟩
 |X+4,h=>exact absurd h (QB (xY 4 _))
def Tm:Tr:=UE cW.ok cW.d
noncomputable def bR6:J (H×Tr):=[(Aj,CG),(uF,xD),(oq,qp),(Me,SB),(Ae,Vs)]
theorem bR7:aQ (aU x) (n+6) Mg Tm:=qo (q:=bA5) (l:=bR6) (by kernel_rfl) ⟨IX,yR,rX,bR2,P2,cH2⟩ λX l k I S=>by
 refine⟨l,λi l1=>⟨(),i,cH2,λkd i1 y9=>⟨5,i1,(by decide),λm i2 hm=>⟨uS (bR (mX (dF.mp hm)) (by decide)),?_⟩⟩⟩⟩
 refine E9 (f:=.int) (ok:=(·∈[-1,-2])) (Z:=λn=>[.dl (l1.map .int),.cell (N (.ref 2)),.dl [.int n]]) (λX I=>rfl) (λd a K h=>⟨2,a,(by decide),λj a' hj=>⟨nn,hj,λy hy=>?_⟩⟩) _ i2 λls i3 h1 h2=>?_
 ·exact⟨(),l1,cH2,λb l2 hb=>(λX I=>I (cW.mk kd ls b) (S (cW.mk kd ls b) l2 ⟨y9,⟨rC (eZ (jm (h1.trans iz)) (dF.mp hm)),h2⟩,hb⟩))⟩
 ·obtain⟨kd,y9,rfl⟩:=yT (f:=.int) (l:=[-1,-2]) hy;exact h kd a' y9
def Tx:Tr:=xC dz.ok dz.d
noncomputable def Fy:J (H×Tr):=[(oq,qp),(uF,xD),(Em,OG),(Ag,Vw)]
noncomputable def TB(kd m:aa)(t:H)(b:aD)(s:jA):Fm:=[(aM,.L (N (.ref 0))),(sZ,.L ao),(lF,.L ao),(kr,s),(BB,.L (N (.d (.bool b)))),(d9,.L ao),(bW,.L (N (.d (.int kd)))),(fZ,.L (N (.d (.int m)))),(kY,.L (N (.d (.int t))))]
noncomputable def VC(kd:aa)(i:er):D:=gA (i.b kd)
noncomputable def OH(kd n:aa)(l:J er):J O:=[.dl [.int n],.dl (v_ (VC kd) l)]
theorem bR8{kd m:aa}{t:H}{b:aD}{K:dZ->St->Prop}(hK:∀n(l:J er),fO 2 er.ok l->K .next ⟨TB kd m t b (.L (N (.ref 1))),OH kd n l⟩)(xs:J D):∀(n:aa)(l:J er),(∀i∈l,i.ok)->l.length+xs.length<=2->
  gT [sZ,lF,d9] [d9] ah 2 ((vc ⟨dO,d_ Fy⟩ 39).s wv) xs ⟨TB kd m t b (.L (N (.ref 1))),OH kd n l⟩ K:=by
 induction xs with
 |nil=>exact λn l h1 h2=>hK n l ⟨h2,h1⟩
 |cons y xs ih=>
  intro n l h1 h2;have ll:(v_ (VC kd) l).length<1048576:=by rw[Vy];exact eZ (bR (gF ..) h2) (by decide)
  have next:=λn (i:er) hi=>ih n (i::l) (gv.mpr ⟨hi,h1⟩) (bR (jm (A6 ..)) h2);clear ih hK h2;refine⟨(),n,cH2,λi n1 hi=>?_⟩
  conv=>whnf
  refine gZ (λX=>⟨ll,next n1 (.f i) hi⟩) λX=>⟨3,n1,(by decide),λj n2 hj=>⟨nn,hj,λy hy=>?_⟩⟩
  obtain⟨z,hz,rfl⟩:=yT (f:=fj.d) (l:=[⟨208,[kd]⟩,⟨35,[(i:aa)]⟩,⟨210,[(i:aa)]⟩]) hy;have ex:∀z∈[(⟨208,[kd]⟩:fj),⟨35,[(i:aa)]⟩,⟨210,[(i:aa)]⟩],∃e:er,e.ok/\VC kd e=.list [z.d,iE.d]:=gv.mpr ⟨⟨.n,cH2,rfl⟩,gv.mpr ⟨⟨.g i,hi,rfl⟩,gv.mpr ⟨⟨.f i,hi,rfl⟩,nofun⟩⟩⟩;obtain⟨e,he,ee⟩:=ex z hz;have g:=next n2 e he;unfold OH v_ at g
  rw[ee]at g
  exact⟨ll,g⟩
noncomputable def bR9(kd m:aa)(t:H)(b:aD):Fm:=[(aM,.L (N (.ref 0))),(sZ,.L ao),(lF,.L ao),(kr,.L ao),(BB,.L (N (.d (.bool b)))),(d9,.L ao),(bW,.L (N (.d (.int kd)))),(fZ,.L (N (.d (.int m)))),(kY,.L (N (.d (.int t))))]
theorem TC{k:V->J O->Prop}(S:∀(e:dz) i,e.ok->k (.d e.d) (rD i)){m:aa}{t:H}(hm:m∈[1,0,2])(ht:cY t)(h0:decide (m=1)=ak->t=0)(b:aD){kd:aa}(hr:x6 kd)(i:aa):
  l8 ⟨dO,d_ Fy⟩ (vc ⟨dO,d_ Fy⟩ 39) (Uq.drop 4) ⟨bR9 kd m t b,rD i⟩ (mJ 1 k):=by
 refine⟨3,i,(by decide),λa i1 ha=>⟨by decide,?_⟩⟩
 refine b_ (Vz (1+(a:aa)) (m:=3) (by decide)) λj hx=>?_
 have e:=hx.1;have hj:=hx.2
 conv=>whnf
 rw[show xZ (1+(a:aa)) 3=(j:aa)from e]
 refine⟨uS (bR (mX hj) (by decide)),bR8 (λi2 l hl=>?_) _ i1 [] nofun ?_⟩
 ·have hl:fO 2 er.ok l.reverse:=⟨by rw[Gf];exact hl.1,λi h=>hl.2 i (Xh.mp h)⟩
  unfold OH;rw[OF];generalize l.reverse=l at hl
  clear e ha hj
  conv=>whnf
  refine gZ (λq=>?_) λq=>?_
  ·obtain rfl:m=1:=gy q;exact⟨(),i2,cH2,λbd i3 hb=>(λX I=>I (dz.mk (.a t bd) kd l) (S (dz.mk (.a t bd) kd l) i3 ⟨⟨ht,hb⟩,hr,hl⟩))⟩
  ·obtain rfl:=h0 q;have hm:=(iV.mp hm).resolve_left (sJ q);rcases iV.mp hm with e|e
   ·subst e;exact(λX I=>I (dz.mk .p kd l) (S (dz.mk .p kd l) i2 ⟨cH2,hr,hl⟩))
   ·obtain rfl:=fN.mp e;exact(λX I=>I (dz.mk .d kd l) (S (dz.mk .d kd l) i2 ⟨cH2,hr,hl⟩))
 ·rw[iz];exact bR (jm (mW _)) (rC hj)
theorem bS0:aQ (aU x) (n+4) Mh Tx:=qo (q:=bA6) (l:=Fy) (by kernel_rfl) ⟨rX,yR,VB,QQ,cH2⟩ λX i k I S=>by
 refine⟨3,i,(by decide),λa i1 ha=>⟨nn,ha,λy hy=>?_⟩⟩
 obtain⟨m,hm,rfl⟩:=yT (f:=.int) (l:=[1,0,2]) hy;clear hy ha;have dg:∀(t:H),cY t->(decide (m=1)=ak->t=0)->∀i,l8 ⟨dO,d_ Fy⟩ (vc ⟨dO,d_ Fy⟩ 39) (Uq.drop 2) ⟨[(aM,.L (N (.ref 0))),(sZ,.L ao),(lF,.L ao),(kr,.L ao),(BB,.L ao),(d9,.L ao),(bW,.L ao),(fZ,.L (N (.d (.int m)))),(kY,.L (N (.d (.int t))))],rD i⟩ (mJ 1 k):=λt ht h0 i=>by
  refine⟨2,i,(by decide),λa i1 ha=>?_⟩
  conv=>whnf
  refine gZ (λX=>?_) λX=>⟨2,i1,(by decide),λb i2 hb=>⟨nn,hb,λy hy=>?_⟩⟩
  ·have T:=TC S hm ht h0 (decide ((a:aa)=0)) (.head _) i1
   conv at T=>whnf
   conv=>whnf
   exact T
  ·obtain⟨kd,y9,rfl⟩:=yT (f:=.int) (l:=[-16,-17]) hy;have T:=TC S hm ht h0 (decide ((a:aa)=0)) y9 i2
   conv at T=>whnf
   conv=>whnf
   exact T
 conv=>whnf
 refine gZ (λq=>⟨2,i1,(by decide),λb i2 hb=>?_⟩) λq=>?_
 ·conv=>whnf
  refine gZ (λX=>⟨(),i2,cH2,λt i3 ht=>?_⟩) λX=>?_
  ·have T:=dg t ht (λe=>by rw[e]at q;cases q) i3
   conv at T=>whnf
   conv=>whnf
   exact T
  ·have T:=dg 0 (jc _) (λX=>rfl) i2
   conv at T=>whnf
   conv=>whnf
   exact T
 ·have T:=dg 0 (jc _) (λX=>rfl) i1
  conv at T=>whnf
  conv=>whnf
  exact T
def TD:Tr:=xC eV.ok eV.d
noncomputable def VD:J (H×Tr):=[(oq,qp),(uF,xD),(Em,OG),(Ah,Vv)]
theorem bS1:aQ (aU x) (n+4) Mi TD:=qo (q:=bA7) (l:=VD) (by kernel_rfl) ⟨rX,yR,VB,Qr,cH2⟩ λX i k I S=>by
 refine⟨2,i,(by decide),λa i1 ha=>⟨nn,ha,λy hy=>?_⟩⟩
 obtain⟨m,hm,rfl⟩:=yT (f:=.int) (l:=[1,0]) hy;clear hy ha;have dg:∀(t:H),cY t->(decide (m=1)=ak->t=0)->∀i,l8 ⟨dO,d_ VD⟩ (vc ⟨dO,d_ VD⟩ 39) (ww.drop 2) ⟨[(aM,.C 1),(nh,.L (N (.d (.int t)))),(fZ,.L (N (.d (.int m)))),(bH,.L ao)],[.dl [.int i],.cell (N (.ref 0))]⟩ (mJ 1 k):=λt ht h0 i=>by
  refine⟨4,i,(by decide),λa i1 ha=>⟨uS (bR (mX (dF.mp ha)) (by decide)),?_⟩⟩
  refine E9 (f:=yQ) (ok:=λi=>i<256) (Z:=λn=>[.dl [.int n],.cell (N (.ref 0))]) (λX I=>rfl) (λd a K h=>⟨256,a,(by decide),λj a' hj=>h j a' (dF.mp hj)⟩) _ i1 λl i2 h1 h2=>⟨l,rfl,h2,?_⟩
  have hl:fO 3 (·<256) l:=⟨rC (eZ (jm (h1.trans iz)) (dF.mp ha)),h2⟩;clear h1 h2 ha
  conv=>whnf
  refine gZ (λq=>?_) λq=>?_
  ·obtain rfl:m=1:=gy q;exact⟨(),i2,cH2,λbd i3 hb=>(λX I=>I (eV.mk (N (t,bd)) l) (S (eV.mk (N (t,bd)) l) i3 ⟨λX e=>by cases e;exact⟨ht,hb⟩,hl⟩))⟩
  ·obtain rfl:=h0 q;obtain rfl:=fN.mp ((iV.mp hm).resolve_left (sJ q));exact(λX I=>I (eV.mk ao l) (S (eV.mk ao l) i2 ⟨nofun,hl⟩))
 conv=>whnf
 refine gZ (λq=>⟨2,i1,(by decide),λb i2 hb=>?_⟩) λq=>?_
 ·conv=>whnf
  refine gZ (λX=>⟨(),i2,cH2,λt i3 ht=>?_⟩) λX=>?_
  ·have T:=dg t ht (λe=>by rw[e]at q;cases q) i3
   conv at T=>whnf
   conv=>whnf
   exact T
  ·have T:=dg 0 (jc _) (λX=>rfl) i2
   conv at T=>whnf
   conv=>whnf
   exact T
 ·have T:=dg 0 (jc _) (λX=>rfl) i1
  conv at T=>whnf
  conv=>whnf
  exact T
def r8:Tr:=λa_ o_ k_=>∀P_:Tr,(∀(l:J aa)(r:H){k},(∀(m r':H)(l':J aa),m<=2->r=r'+m->k (.d (.int m)) [.dl (l'.map .int),.dl [.int r']])->P_ [.ref 0,.ref 1] [.dl (l.map .int),.dl [.int r]] k)->P_ a_ o_ k_
theorem r8.mk(l:J aa)(r:H){k}(f5:(∀(m r':H)(l':J aa),m<=2->r=r'+m->k (.d (.int m)) [.dl (l'.map .int),.dl [.int r']])):r8 [.ref 0,.ref 1] [.dl (l.map .int),.dl [.int r]] k:=λP_ c_=>c_ l r f5
theorem bS2:aQ (aU x) (n+2) Mj r8:=fc x (q:=bA8) (l:=[(Aj,CG)]) (by kernel_rfl) ⟨IX,cH2⟩ λX I u2 g=>g _ λl r k S=>by
 refine⟨l,λi l1=>⟨by decide,?_⟩⟩
 refine b_ (Vz (1+i) (m:=3) (by decide)) λj hx=>?_
 have e:=hx.1;have hj:=hx.2
 conv=>whnf
 rw[show xZ (1+i) 3=(j:aa)from e]
 have vm:∀a b:H,b<=a->(a:aa) -b=((a -b:H):aa):=λa b h=>(Int.ofNat_sub h).symm;refine gZ (λq=>⟨jc _,?_⟩) λq=>⟨jc _,?_⟩
 ·have q:=dF.mp (gy q);have g:=S r 0 l1 (rC (mD q hj)) (mW r).symm;rw[show((0:H):aa)=(r:aa) -r from(Int.sub_self _).symm]at g
  exact g
 ·have q:=Qq λh=>sJ q (dF.mpr h);have g:=S j (r -j) l1 (rC hj) (cB2 q).symm;rw[<-vm r j q]at g
  exact g
theorem bS3(m:Fm)(o:J O):(jJ (len o) ⟨m,o⟩).o=o:=by
 unfold jJ
 split
 ·exact Uw o
 ·split
  ·show l7 _ o=o
   rw[Sy,ct8 (by rw[<-nc];exact ZF _ _)]
  ·rfl
theorem OI{α:Type}{f:α->D}{b:α->aD}{P:α->Prop}{ts:J ai}{one:aD}{m:Fm}{t:PE->St->(aD->St->Prop)->Prop}{te:PE}{aY:St->(V->St->Prop)->Prop}{o:J O}(bM:α->St)(hS:∀a,(bM a).o=o)
  (h1:∀a k,P a->k (b a) (bM a)->jL ts one (.d (f a)) ⟨m,o⟩ λZ=>t te Z k)(h2:∀a(k:V->St->Prop),k (.d (f a)) (bM a)->aY (bM a) k):
  ∀(l:J α)(K:J V->J O->Prop),(∀a∈l,P a)->K ((l.filter b).map λa=>.d (f a)) o->jW ts one m (nW t [te]) aY (l.map f) o K:=λi_=>by
 induction i_ with
 |nil=>exact λK X h=>h
 |cons a l ih=>
  intro K hp h;refine h1 a _ (hp a (.head _)) ?_;have next:=λK=>ih K λa h=>hp a (.tail _ h);cases q:b a with
  |true=>
   rw[cB7 q]at h
   refine h2 a _ ?_
   show lV (nt (len o) (.d (f a)) ⟨m,(bM a).o⟩).o _
   rw[hS,o5,IL];exact next _ h
  |false=>
   rw[cB8 (by rw[q];exact nofun)]at h
   show lV (jJ (len o) ⟨m,(bM a).o⟩).o _
   rw[hS,o5,bS3];exact next _ h
noncomputable def AR(m:b6)(c:V):O:=.inst s7 [(fy,.d (.list (m.k.map mO))),(p_,.d (.list (m.i.map fh.d))),(mE,.d (.list (m.f.map cW.d))),(qd,.d (.list (m.t.map iZ.d))),(qc,.d (.list (m.m.map nE))),(pZ,.d (.list (m.g.map iy.d))),(pY,.d (.list (m.e.map ju.d))),(nR,.d (jq m.s)),(pX,.d (.list (m.l.map dz.d))),(nO,.d (.list (m.d.map eV.d))),(qK,c)]
noncomputable def OJ(m:b6):J H:=cV.filter (jI m)
noncomputable def Fz(m:b6):D:=.list ((OJ m).map fW)
def FA(m:b6):Prop:=fO 14 (λf:cW=>f.b.length<=12) m.f
def AS:Tr:=λa_ o_ k_=>∀P_:Tr,(∀(m:b6){k},FA m->k (.d (Fz m)) []->P_ [.d m.D] [] k)->(∀(m:b6)(cs){k},FA m->k (.d (Fz m)) [AR m (.ref 1),.dl cs]->P_ [.ref 0] [AR m (.ref 1),.dl cs] k)->P_ a_ o_ k_
theorem AS.fz(m:b6){k}(f5:FA m)(lg:k (.d (Fz m)) []):AS [.d m.D] [] k:=λP_ c_ u_=>c_ m f5 lg
theorem AS.lv(m:b6)(cs){k}(f5:FA m)(lg:k (.d (Fz m)) [AR m (.ref 1),.dl cs]):AS [.ref 0] [AR m (.ref 1),.dl cs] k:=λP_ u_ c_=>c_ m cs f5 lg
noncomputable def y_(l:J cW):J fj:=l.flatMap λf=>f.b.filter qm
theorem bS4{T:Tb}{o:J O}:∀(l:J cW)(acc:J V)(K:J V->J O->Prop),(∀f∈l,f.b.length<=12)->acc.length+12*l.length<=1000->K (acc++(y_ l).map λi=>.d i.d) o->
  xd lR aM [(lR,.L ao),(aM,.L ao)] (As (vc T 38).e (.aG (.Y lR) dK)) (nW (vc T 38).t [.cmp .In (.sub (.Y aM) (.cI 0)) (.tup [.cI 64520,.cI 64521])]) ((vc T 38).e (.Y aM)) (l.map cW.d) acc o K:=λi_=>by
 induction i_ with
 |nil=>
  intro acc K X I h;rw[show y_ []=[]from rfl,X_,j3]at h
  exact h
 |cons f l ih=>
  intro acc K hb hl h;have h1:=hb f (.head _);have Nx:acc.length+12+12*l.length<=1000:=by rw[wB,rB 12];exact hl
  show xd _ _ _ _ _ _ (f.d::_) _ _ _
  refine⟨?_,?_⟩
  ·rw[cO];exact bR (bR (sI h1 _) (bR (gF ..) Nx)) (by decide)
  refine OI (P:=kC) (b:=qm) (λi:fj=>⟨[(lR,.L ao),(aM,.L (N (.d i.d)))],o⟩) (λX=>rfl) (λi k X h=>?_) (λi k h=>h) f.b _ (λX I=>trivial) ?_
  ·exact h
  ·refine ih _ K (λf h=>hb f (.tail _ h)) ?_ ?_
   ·rw[f6,cO];exact bR (Kr (sI (bR (aq1 ..) h1) _) _) Nx
   ·rw[show y_ (f::l)=f.b.filter qm++y_ l from rfl,zO,<-jx]at h
    exact h
theorem TE{α:Type}{f:α->D}{l:J α}:f9 (l.map f)=f9 l:=by cases l<;>rfl
theorem bS5{α:Type}{a b:J α}:f9 (a++b)=bz (f9 a) (f9 b):=by cases a<;>rfl
theorem TI{α:Type}{b:α->aD}:∀l:J α,(!f9 (l.filter b))=l.any b:=λi_=>by
 induction i_ with
 |nil=>exact rfl
 |cons a l ih=>
  rw[ao9,<-ih];cases q:b a with
  |true=>rw[cB7 q];rfl
  |false=>rw[cB8 (by rw[q];exact nofun)];rfl
theorem bS6(l:J cW):(!f9 (y_ l))=l.any λf=>f.b.any qm:=by
 induction l with
 |nil=>rfl
 |cons f l ih=>
  rw[ao9,<-ih,<-TI,show y_ (f::l)=f.b.filter qm++y_ l from rfl,bS5]
  cases f9 (f.b.filter qm)<;>rfl
noncomputable def AU(m:b6)(sl us:J D):V:=.nN [(1,(.list (m.k.map mO))),(2,(.list (m.i.map fh.d))),(3,(.list (m.f.map cW.d))),(4,(.list (m.t.map iZ.d))),(5,(.list (m.m.map nE))),(6,(.list (m.g.map iy.d))),(7,(.list (m.e.map ju.d))),(8,(.list sl)),(9,(.list (m.l.map dz.d))),(10,(.list (m.f.map cW.d))),(11,(.list (m.d.map eV.d))),(12,(.list us))]
noncomputable def OL:PE:=.cmp .NotEq (.sub (.Y wV) (.Y bw)) (.lst ak [])
noncomputable def OM(h:H)(o:J O)(n:H):St:=⟨[(bw,.L (N (.d (fW n)))),(wV,.C h)],o⟩
noncomputable def ON(m:b6):bq (J D)->J O->J O
 |none,r=>r
 |some cs,r=>AR m (.ref 1)::.dl cs::r
noncomputable def OO:bq (J D)->H
 |none=>0
 |some X=>2
theorem bS7{T:Tb}{m:b6}{sl us:J D}{ho:bq (J D)}(h8:(!f9 sl)=jI m 8)(FD:(!f9 us)=jI m 12)(n:H)(k:aD->St->Prop)(hn:n∈cV)(S:k (jI m n) (OM (OO ho) (ON m ho [.cell (N (AU m sl us))]) n)):jL [bw] ah (.d (fW n)) ⟨[(bw,.L ao),(wV,.C (OO ho))],ON m ho [.cell (N (AU m sl us))]⟩ λZ=>(vc T 38).t OL Z k:=by
 revert S
 have h8:∀{P:aD->Prop},P (jI m 8)->P (!f9 sl):=λh=>h8▸h;have FD:∀{P:aD->Prop},P (jI m 12)->P (!f9 us):=λh=>FD▸h;induction ho with
 |none=>exact eW (P:=λn=>k (jI m n) (OM 0 [.cell (N (AU m sl us))] n)->jL [bw] ah (.d (fW n)) ⟨[(bw,.L ao),(wV,.C 0)],[.cell (N (AU m sl us))]⟩ λZ=>(vc T 38).t OL Z k) hn ⟨λS=>⟨_,rfl,S⟩,λS=>⟨_,rfl,S⟩,λS=>⟨_,rfl,S⟩,λS=>⟨_,rfl,S⟩,λS=>⟨_,rfl,S⟩,λS=>⟨_,rfl,S⟩,λS=>⟨_,rfl,S⟩,λS=>⟨_,rfl,h8 (P:=λb=>k b _) S⟩,λS=>⟨_,rfl,S⟩,λS=>⟨_,rfl,FD (P:=λb=>k b _) S⟩,λS=>⟨_,rfl,S⟩,λS=>⟨_,rfl,S⟩,cH2⟩
 |some cs=>exact eW (P:=λn=>k (jI m n) (OM 2 [AR m (.ref 1),.dl cs,.cell (N (AU m sl us))] n)->jL [bw] ah (.d (fW n)) ⟨[(bw,.L ao),(wV,.C 2)],[AR m (.ref 1),.dl cs,.cell (N (AU m sl us))]⟩ λZ=>(vc T 38).t OL Z k) hn ⟨λS=>⟨_,rfl,S⟩,λS=>⟨_,rfl,S⟩,λS=>⟨_,rfl,S⟩,λS=>⟨_,rfl,S⟩,λS=>⟨_,rfl,S⟩,λS=>⟨_,rfl,S⟩,λS=>⟨_,rfl,S⟩,λS=>⟨_,rfl,h8 (P:=λb=>k b _) S⟩,λS=>⟨_,rfl,S⟩,λS=>⟨_,rfl,FD (P:=λb=>k b _) S⟩,λS=>⟨_,rfl,S⟩,λS=>⟨_,rfl,S⟩,cH2⟩
theorem CT{α:Type}{g:α->D}{l:J α}{o:J O}{k:V->J O->Prop}(h:k (.d (.list (l.map g))) o):iC ak (l.map λa=>.d (g a)) o k:=by unfold iC;rw[E7];exact h
theorem TK{T:Tb}{o:J O}{m:b6}(h:FA m){k:V->J O->Prop}(S:k (.d (.list ((y_ m.f).map fj.d))) o):xd lR aM [(lR,.L ao),(aM,.L ao)] (As (vc T 38).e (.aG (.Y lR) dK)) (nW (vc T 38).t [.cmp .In (.sub (.Y aM) (.cI 0)) (.tup [.cI 64520,.cI 64521])]) ((vc T 38).e (.Y aM)) (m.f.map cW.d) [] o λvs o=>iC ak vs o k:=
 bS4 m.f [] _ h.2 (bR (sI (zT 12 h.1) 0) (by decide)) (CT S)
theorem OP{T:Tb}{m:b6}{sl us:J D}{ho:bq (J D)}(h8:(!f9 sl)=jI m 8)(FD:(!f9 us)=jI m 12){k:V->J O->Prop}(S:k (.d (Fz m)) (ON m ho [.cell (N (AU m sl us))])):
  jW [bw] ah [(bw,.L ao),(wV,.C (OO ho))] (nW (vc T 38).t [OL]) ((vc T 38).e (.Y bw)) (cV.map fW) (ON m ho [.cell (N (AU m sl us))]) λvs o=>iC ak vs o k:=
 OI (P:=(·∈cV)) (OM (OO ho) _) (λX=>rfl) (λn k h g=>bS7 h8 FD n k h g) (λn k h=>h) cV _ (λn h=>h) (CT S)
theorem OQ{m:b6}{sl:J D}(h:f9 sl=(jq m.s).o6):(!f9 sl)=jI m 8:=bQ (!·) h
theorem OS(m:b6):(!f9 ((y_ m.f).map fj.d))=jI m 12:=(bQ (!·) TE).trans (bS6 m.f)
theorem TO:aQ (aU x) (n+1) Hv AS:=fc x (q:=bB0) (l:=[]) (by kernel_rfl) trivial λX I u2 g=>by
 refine g _ (λm k h S=>?_) λm cs k h S=>?_
 ·refine TK (T:=⟨dO,d_ []⟩) h ?_
  conv=>whnf
  refine gZ (λq=>?_) λq=>?_
  ·conv=>whnf
   refine OP (T:=⟨dO,d_ []⟩) (m:=m) (sl:=[]) (ho:=none) (OQ q.symm) (OS m) ?_;exact S
  ·conv=>whnf
   refine OP (T:=⟨dO,d_ []⟩) (m:=m) (sl:=[jq m.s]) (ho:=none) (OQ q.symm) (OS m) ?_;exact S
 ·refine TK (T:=⟨dO,d_ []⟩) h ?_
  conv=>whnf
  refine gZ (λq=>?_) λq=>?_
  ·conv=>whnf
   refine OP (T:=⟨dO,d_ []⟩) (m:=m) (sl:=[]) (ho:=(N cs)) (OQ q.symm) (OS m) ?_;exact S
  ·conv=>whnf
   refine OP (T:=⟨dO,d_ []⟩) (m:=m) (sl:=[jq m.s]) (ho:=(N cs)) (OQ q.symm) (OS m) ?_;exact S
theorem OT{α:Type}{f g:α->D}{y:ai}{M:Fm}{t:PE->St->(aD->St->Prop)->Prop}{aY:St->(V->St->Prop)->Prop}{o:J O}{P:α->Prop}{k:V->J O->Prop}(gQ:∀(a:α)(k:V->St->Prop),P a->k (.d (g a)) ⟨(y,.L (N (.d (f a))))::M,o⟩->aY ⟨(y,.L (N (.d (f a))))::M,o⟩ k):
  ∀(l:J α)(K:J V->J O->Prop),(∀a∈l,P a)->K (l.map λa=>.d (g a)) o->jW [y] ah ((y,.L ao)::M) (nW t []) aY (l.map f) o K:=λi_=>by
 induction i_ with
 |nil=>exact λK X h=>h
 |cons a l ih=>
  intro K hp h;refine QS (u:=.d (f a)) ?_;refine gQ a _ (hp a (.head _)) ?_
  show lV _ _
  rw[o5,IL];exact ih _ (λb h=>hp b (.tail _ h)) h
theorem TT{α:Type}{g:α->D}{l:J α}{o:J O}{k:V->J O->Prop}(h:k (.ref (len o)) (o++[.dl (l.map g)])):iC ah (l.map λa=>.d (g a)) o k:=by unfold iC;rw[E7];exact h
noncomputable def AV(i:aa)(j t:H):aa:=xZ (zQ i (128^t)) 128+bC (decide ((t:aa)<(j:aa) -1)) 128 0
theorem bS8(j:H):∀i:aa,fJ (ny i j)=(kJ j).map λt=>.int (AV i j t):=by
 have c1:∀t j:H,decide (((t+1:H):aa)<((j+1:H):aa) -1)=decide (t+1<j):=λt j=>by
  rw[show((j+1:H):aa) -1=j from uh (j:aa) 1]
  exact X6.mpr dF
 have fd:∀(i:aa)(t:H),zQ i (128^t)=i/128^t:=λi t=>QC _ (Int.pow_nonneg (by decide))
 have fm:∀i:aa,xZ i 128=i% 128:=λi=>cB9 _ (by decide)
 have tn:∀i:aa,(((i% 128).toNat:H):aa)=i% 128:=λi=>Bo (QD _ (by decide))
 induction j with
 |zero=>exact λX=>rfl
 |succ j ih=>
  intro i;rw[List.range_succ_eq_map,ai7,n9];have z:AV i (j+1) 0=i% 128+bC (decide (0<j)) 128 0:=by
   unfold AV;rw[fd,fm,Int.pow_zero,cs6,show((j+1:H):aa) -1=j from uh (j:aa) 1]
   congr 2;exact X6.mpr dF
  have sc:∀t,AV i (j+1) (t+1)=AV (i/128) j t:=λt=>by
   unfold AV;rw[fd,fd,fm,fm,c1,XZ,X0,<-Int.ediv_ediv_of_nonneg (by decide)]
   congr 2;refine X6.mpr ⟨λh=>?_,λh=>?_⟩
   ·exact Int.lt_sub_right_of_add_lt (dF.mpr h)
   ·exact dF.mp (Int.add_lt_of_lt_sub_right h)
  rw[z];induction j using jh with
  |zero=>
   show[D.int ((i% 128).toNat:H)]=_
   rw[tn]
   show _=[D.int (i% 128+0)]
   rw[Qv]
  |succ j=>
   show D.int (((i% 128).toNat+128:H):aa)::fJ (ny (i/128) (j+1))=_
   rw[ih,DB,tn];exact bQ (_::·) (ao1 λt X=>bQ D.int (sc t).symm)
theorem VE:∀(j n:H),ny n j=tG n j
 |0,X=>rfl
 |1,n=>rfl
 |j+2,n=>bQ (_::·) (VE (j+1) (n/128))
theorem TW:∀t<10,(128:aa)^t≠0/\((128:aa)^t).natAbs<2^128/\((128:aa)^t).natAbs<2^64:=by decide
theorem OU{t:H}(h:t<=100):0<=(t:aa)/\(t:aa)<=100000/\Int.natAbs 128<2^64:=⟨nn,iN.mpr (bR h (by decide)),by decide⟩
def VF:Tr:=λa_ o_ k_=>∀P_:Tr,(∀(i z:aa)(j:H){k},z=j->j<=10->k (.ref 0) [.dl (fJ (ny i j))]->P_ [.d (.int i),.d (.int z)] [] k)->P_ a_ o_ k_
theorem T0:aQ (aU x) (n+1) Ho VF:=fc x (q:=bz2) (l:=[]) (by kernel_rfl) trivial λX I u2 g=>g _ λi z j k e hj S=>by
 subst e;refine⟨uS (bR hj (by decide)),?_⟩
 refine OT (k:=k) (g:=λt=>.int (AV i j t)) (f:=λt:H=>.int t) (P:=(·<j)) (o:=[.cell (N (.d (.int i))),.cell (N (.d (.int j)))]) (λt K ht h=>?_) (kJ (j:aa).toNat) _ (λt h=>Bf.mp h) ?_
 ·have p:=TW t (pN ht hj);refine⟨OU (bR (mX ht) (bR hj (by decide))),⟨p.1,p.2.1⟩,by decide,?_⟩
  unfold AV at h
  exact qX (P:=λz=>K (.d (.int (xZ (zQ i (128^t)) 128+z))) _) h (λX h=>h) λX h=>h
 ·rw[bS8]at S
  refine TT ?_;exact S
theorem bS9{n t:H}(h:n<128^(t+1)):nG n<=t+1:=(Oi t n h).elim λj h=>h.1.symm▸lB h.2.1
theorem T1{n:H}(h:cY n):nG n<=5/\n<128^nG n/\1<=nG n:=(Oi 4 n (mD h (by decide))).elim λj h=>by rw[h.1];exact⟨lB h.2.1,h.2.2,jc _⟩
def T2:Tr:=λa_ o_ k_=>∀P_:Tr,(∀(n p:H)(z:aa){k},z=n->cY n->k (.ref 0) [.dl (fJ (tU p n).oct)]->P_ [.d (.int z),.d (.int p)] [] k)->P_ a_ o_ k_
noncomputable def bT0(n p t:H):Fm:=[(bw,.L (N (.d (.int n)))),(cy,.L (N (.d (.int p)))),(d7,.L (N (.d (.int t))))]
inductive Uf(n p:H):H->St->Prop
 |mk (t j:H):1<=t->t+j=nG n->Uf n p j ⟨bT0 n p t,[]⟩
theorem UF(t:H):((128:aa)^t)=((128^t:H):aa):=(Gm 128 t).symm
theorem UV{a b:H}(q:decide (((b:H):aa)<(a:aa))=ah):(b:aa)=((min a b:H):aa):=by rw[Qp (mX (dF.mp (gy q)))]
theorem U2{a b:H}(q:decide (((b:H):aa)<(a:aa))=ak):(a:aa)=((min a b:H):aa):=by rw[Qo (Qq λg=>sJ q (dF.mpr g))]
theorem V':aQ (aU x) (n+2) s9 T2:=fc x (q:=bB1) (l:=[(Ho,VF)]) (by kernel_rfl) ⟨T0,cH2⟩ λX I u2 g=>g _ λn p z k e h S=>by
 subst e;obtain⟨m5,mf,m1⟩:=T1 h;refine⟨Uf n p,nG n -1,.mk 1 _ (jO _) (cA3 m1),?_⟩;intro j Z h;cases h with|mk t j h1 h2=>
 have t5:t<=5:=bR (h2▸gF ..) m5;refine⟨OU (bR t5 (by decide)),?_⟩
 conv=>whnf
 refine gZ (λq=>?_) λq=>?_
 ·have q:(128:aa)^t<=n:=gy q;rw[UF]at q
  induction j using jh with
  |zero=>exact absurd (iN.mp q) (Gp ((show t=nG n from h2)▸mf))
  |succ j=>exact⟨j,m7 _,.mk (t+1) j (jc _) ((xW ..).trans h2)⟩
 ·have q:¬(128:aa)^t<=n:=sJ q;rw[UF]at q
  have q:=W8 λh=>q (iN.mpr h);obtain rfl:nG n=t:=cC0 (by cases t with|zero=>cases h1|succ t=>exact bS9 q) (h2▸gF ..)
  have S:k (.ref 0) [.dl (fJ (ny n (min 5 (nG n+p))))]:=by rw[VE];exact S
  have le:min 5 (nG n+p)<=10:=bR (DC ..) (by decide)
  conv=>whnf
  exact gZ (λq=>(λX I=>I n _ _ (UV (b:=nG n+p) q) le S)) λq=>(λX I=>I n _ _ (U2 (b:=nG n+p) q) le S)
def Wp:Tr:=λa_ o_ k_=>∀P_:Tr,(∀(i:aa)(b p:H){k},b∈[32,33,64]->ql b i->k (.d (.list (fJ (tS b p i).oct))) []->P_ [.d (.int i),.d (.int b),.d (.int p)] [] k)->P_ a_ o_ k_
noncomputable def OV(i:aa)(b p t:H):Fm:=[(bw,.L (N (.d (.int i)))),(qJ,.L (N (.d (.int b)))),(cy,.L (N (.d (.int p)))),(d7,.L (N (.d (.int t))))]
inductive Jr(i:aa)(b p:H):H->St->Prop
 |mk (t j:H):t+1+j=rW i->Jr i b p j ⟨OV i b p (t+1),[]⟩
def VG(i:aa)(t:H):Prop:=-(64*128^t)<=i/\i<64*128^t
theorem WF{b:H}(hb:b∈[32,33,64]):zQ ((b:aa)+6) 7=(((b+6)/7:H):aa)/\(b+6)/7<=10/\∃c,(b+6)/7=c+1/\((2:aa)^(b -1)<=64*128^c):=
 eW (P:=λb:H=>zQ ((b:aa)+6) 7=(((b+6)/7:H):aa)/\(b+6)/7<=10/\∃c,(b+6)/7=c+1/\((2:aa)^(b -1)<=64*128^c)) hb ⟨⟨rfl,by decide,4,rfl,by decide⟩,⟨rfl,by decide,4,rfl,by decide⟩,⟨rfl,by decide,9,rfl,by decide⟩,cH2⟩
theorem bT1:aQ (aU x) (n+2) Ml Wp:=fc x (q:=bB2) (l:=[(Ho,VF)]) (by kernel_rfl) ⟨T0,cH2⟩ λX I u2 g=>g _ λi b p k hb hi S=>by
 have hx:=WF hb;have e7:=hx.1;have VH:=hx.2.1;refine b_ hx.2.2 λc hx=>?_;have ec:=hx.1;have p2:=hx.2;have fit:VG i c:=⟨ji (Qc p2) hi.1,Bp hi.2 p2⟩;refine b_ (Jg i c fit.1 fit.2) λj0 hx=>?_;have f1:=hx.1;have f2:=hx.2.1;have f3:=hx.2.2;have low:∀t,VG i t->rW i<=t+1:=λt h=>(Jg i t h.1 h.2).elim λj h=>h.1.symm▸lB h.2.1;have j10:j0<10:=pN (ap7 f2) (bR (jm ec.symm) VH);have S:∀m,m=min ((b+6)/7) (rW i+p)->k (.d (.list (fJ (ny i m)))) []:=λm e=>e▸S;clear hb hi fit ec p2;refine⟨Jr i b p,j0,.mk 0 _ ((rB ..).trans f1.symm),?_⟩;intro j Z h;cases h with|mk t j h=>
 have t9:t<10:=eZ (Kl (bR (gF ..) (jm (h.trans f1)))) j10;have pk:=TW t t9;have e1:((t+1:H):aa) -1=t:=uh (t:aa) 1;have more:¬VG i t->Jr i b p j ⟨OV i b p (t+1),[]⟩->∃m,m<j/\Jr i b p m ⟨OV i b p (t+2),[]⟩:=λnf X=>by
  induction j using jh with
  |zero=>exact absurd ⟨f3.1,f3.2⟩ ((zJ (h.trans f1):t=j0)▸nf)
  |succ j=>exact⟨j,m7 _,.mk (t+1) j ((xW ..).trans h)⟩
 have JW:Jr i b p j ⟨OV i b p (t+1),[]⟩:=.mk t j h
 conv=>whnf
 rw[e1];refine⟨OU (bR (mX t9) (by decide)),⟨by decide,pk.2.2⟩,?_⟩
 conv=>whnf
 refine gZ (λq=>more (λf=>?_) JW) λq=>?_
 ·have q:i< -64*128^t:=gy q;rw[X7]at q
  exact XY _ (Bp q f.1)
 conv=>whnf
 rw[e1];refine⟨OU (bR (mX t9) (by decide)),⟨by decide,pk.2.2⟩,?_⟩
 conv=>whnf
 refine gZ (λq2=>more (λf=>XY _ (Qt (gy q2) f.2)) JW) λq2=>⟨by decide,?_⟩
 have q:¬i< -64*128^t:=sJ q;rw[X7]at q
 obtain e:rW i=t+1:=cC0 (low t ⟨pP.mp q,Gn.mp (sJ q2)⟩) (h▸gF ..);rw[e]at S
 conv=>whnf
 rw[show zQ ((b:aa)+6) 7=(((b+6)/7:H):aa)from e7]
 exact gZ (λq=>(λX I=>I i _ _ (UV (b:=t+1+p) q) (bR (DC ..) VH) (S _ rfl))) λq=>(λX I=>I i _ _ (U2 (b:=t+1+p) q) (bR (DC ..) VH) (S _ rfl))
def dG(l:J D):Prop:=l.length<=1000000
theorem cZ{a b:J D}(h:dG (a++b)):dG a:=bR (by rw[f6];exact gF ..) h
theorem fC{a b:J D}(h:dG (a++b)):dG b:=bR (by rw[f6];exact xY ..) h
theorem dW{l:J D}(h:dG l):l.length<=1048576:=bR h (by decide)
theorem za{l:J D}{d:D}(h:dG (l++[d])):l.length<1048576:=eZ (cZ h) (by decide)
noncomputable def oF(p n:H):J D:=fJ (tU p n).oct
noncomputable def app(a b:J D):J D:=a++b
noncomputable def oL(p:H)(ps:J (J D)):J D:=ps.foldl app (oF p ps.length)
theorem VI:∀(ps:J (J D))(a:J D),dG (ps.foldl app a)->dG a
 |[],X,h=>h
 |b::ps,a,h=>cZ (VI ps (a++b) h)
def AW:Tr:=λa_ o_ k_=>∀P_:Tr,(∀(ps:J (J D))(p:H){k},cY ps.length->dG (oL p ps)->k (.d (.list (oL p ps))) []->P_ [.d (.list (ps.map .list)),.d (.int p)] [] k)->P_ a_ o_ k_
theorem FE:aQ (aU x) (n+3) w5 AW:=fc x (q:=bB3) (l:=[(s9,T2)]) (by kernel_rfl) ⟨V',cH2⟩ λX I u2 g=>g _ λps p k h hf S=>by
 have e:(ps.map D.list).length=ps.length:=cO ..;unfold oL at hf S
 rw[<-e]at h hf S
 refine(λX I=>I ((ps.map D.list).length) p _ rfl h ?_);refine AK (f:=D.list) (w:=app) (bM:=λt=>⟨[(lH,.L (N (.d (.list (ps.map .list))))),(cy,.L (N (.d (.int p)))),(bH,.L (N (.ref 0))),(fK,.L ao)],[.dl t]⟩) (bG:=λys t=>dG (ys.foldl app t)) (λy ys t next hI hn=>?_) ps _ hf λX=>?_
 ·exact⟨dW (VI ys _ hI),hn hI⟩
 ·exact S
noncomputable def pH(c:H):J D:=[.int c]
noncomputable def oW(p:H)(y:ai):J D:=oL p ((pQ y).map pH)
noncomputable def Js(l:J H):D:=.list (fJ l)
noncomputable def bT2:V:=.uq [(az [],(Js [])),(az [97],(Js [97])),(az [233,98],(Js [195,169,98])),(az [8364],(Js [226,130,172])),(az [66376],(Js [240,144,141,136]))]
def VJ:Tr:=nZ IW kC λX=>bT2
theorem bT3:aQ (aU x) (n+1) Hq VJ:=k7 (q:=bz4) (l:=[]) (by kernel_rfl) trivial λX k I S=>S
def OW:Tr:=λa_ o_ k_=>∀P_:Tr,(∀(y:ai)(p:H){k},kQ y->dG (oW p y)->k (.d (.list (oW p y))) []->P_ [.d (.str y),.d (.int p)] [] k)->P_ a_ o_ k_
theorem VK:aQ (aU x) (n+4) En OW:=fc x (q:=xi) (l:=[(Hq,VJ),(w5,AW)]) (by kernel_rfl) ⟨bT3,FE,cH2⟩ λX I u2 g=>g _ λy p k h=>
 eW (P:=λy=>dG (oW p y)->k (.d (.list (oW p y))) []->lK xi [(Hq,VJ),(w5,AW)] [.d (.str y),.d (.int p)] [] k) h
  ⟨λhf S=>⟨(),cH2,⟨_,⟨rfl,(λX I=>I [[.int (97:H)]] p (by decide:1<4294967296) hf S)⟩⟩⟩,
  λhf S=>⟨(),cH2,⟨_,⟨rfl,(λX I=>I [] p (by decide:0<4294967296) hf S)⟩⟩⟩,
  λhf S=>⟨(),cH2,⟨_,⟨rfl,(λX I=>I [[.int (195:H)],[.int (169:H)],[.int (98:H)]] p (by decide:3<4294967296) hf S)⟩⟩⟩,
  λhf S=>⟨(),cH2,⟨_,⟨rfl,(λX I=>I [[.int (226:H)],[.int (130:H)],[.int (172:H)]] p (by decide:3<4294967296) hf S)⟩⟩⟩,
  λhf S=>⟨(),cH2,⟨_,⟨rfl,(λX I=>I [[.int (240:H)],[.int (144:H)],[.int (141:H)],[.int (136:H)]] p (by decide:4<4294967296) hf S)⟩⟩⟩,cH2⟩
noncomputable def CU(i:aa):J D:=[.int (128+i)]
noncomputable def oK(p:H)(l:J aa):J D:=oL p (l.map CU)
def VL:Tr:=λa_ o_ k_=>∀P_:Tr,(∀(l:J aa)(p:H){k},cY l.length->dG (oK p l)->k (.d (.list (oK p l))) []->P_ [.d (oG l),.d (.int p)] [] k)->P_ a_ o_ k_
theorem WP:aQ (aU x) (n+4) Hw VL:=fc x (q:=bB4) (l:=[(w5,AW)]) (by kernel_rfl) ⟨FE,cH2⟩ λX I u2 g=>g _ λl p k h hf S=>pB (f:=.int) (g:=λi=>.list (CU i)) (o:=[]) (λi k h=>h) l (by have e:l.map (λi=>D.list (CU i))=(l.map CU).map .list:=(n9 ..).symm;rw[e];exact(λX I=>I (l.map CU) p ((cO CU).symm▸h) hf S))
def W':Tr:=λa_ o_ k_=>∀P_:Tr,(∀(c:aa)(ls){k},n_ c=ls->k (.d (.str (az ls))) []->P_ [.d (.int c)] [] k)->P_ a_ o_ k_
noncomputable def bT4(c:aa):Fm:=[(d8,.L (N (.d (.int c)))),(fQ,.L ao),(vI,.L ao),(f7,.L ao)]
abbrev KX:=J (aa×aa×J H)
noncomputable def Jt(rs:KX):J (H×Tr):=[(Hp,nZ IW kC λX=>.d (.tup (rs.map IJ)))]
theorem bT5{c:aa}{k:V->J O->Prop}{r0:KX}:∀rs:KX,k (.d (.str (az (NW c rs)))) []->gT [fQ,vI,f7] [fQ,f7,vI] ak 0 ((vc ⟨dO,d_ (Jt r0)⟩ 39).s xk) (rs.map IJ) ⟨bT4 c,[]⟩ (yE (l8 ⟨dO,d_ (Jt r0)⟩ (vc ⟨dO,d_ (Jt r0)⟩ 39) [.ret (.cS t_)]) (mJ 0 k)):=λi_=>by
 induction i_ with
 |nil=>exact λh=>h
 |cons r rs ih=>
  intro h
  show gT _ _ _ _ _ (IJ r::_) _ _
  conv=>whnf
  refine Uv (P:=λl=>k (.d (.str (az l))) []) (A:=decide (r.1<=c)) (B:=decide (c<=r.2.1)) h (λh=>h) (λh=>?_) λh=>?_
  ·have T:=ih h
   conv=>whnf
   exact T
  ·have T:=ih h
   conv=>whnf
   exact T
theorem bT6{c:aa}{k:V->J O->Prop}(rs:KX)(S:k (.d (.str (az (NW c rs)))) []):lK xl (Jt rs) [.d (.int c)] [] k:=by
 have T:=bT5 (r0:=rs) rs S;refine⟨(),cH2,?_⟩
 conv=>whnf
 exact T
theorem bT7:aQ (aU x) (n+2) Mm W':=fc x (q:=xl) (l:=Jt x7) (by kernel_rfl) ⟨B2,cH2⟩ λX I u2 g=>g _ λc ls k e S=>by subst e;exact bT6 x7 S
end
section
open Wh (cu)
variable{w:bU}{bJ s:aE}{x:cu w bJ s}{n p:H}
noncomputable def rep(s:J D)(r:l5):J D:=s++vh (r.1:aa).toNat (.int r.2)
noncomputable def uX(t:aa)(r:l5):aa:=t+(r.1:H)
structure AX(R:J l5)(s:J D)(l:J aa):Prop where
 e:R.foldl rep s=s++l.map .int
 t:∀t,R.foldl uX t=t+(l.length:H)
 k:∀r∈R,r.2∈[-1,-2]
 n:R.length<=l.length+1
theorem bT8{R:J l5}{k:aa}{s:J D}{l:J aa}(h:AX R.reverse s l)(S:k∈[-1,-2]):AX (CK R k).reverse s (l++[k]):=by
 have eY:AX (((1,k)::R).reverse) s (l++[k]):=by
  rw[Dk];refine⟨?_,λt=>?_,λr hr=>?_,?_⟩
  ·rw[Yb,h.e,zO,<-jx];rfl
  ·rw[Yb,h.t,f6,DB,<-zR];rfl
  ·rcases gK.mp hr with hr|hr
   ·exact h.k r hr
   ·rw[fN.mp hr];exact S
  ·rw[f6,f6];exact Kr h.n 1
 induction R using eT with
 |nil=>exact eY
 |cons r R=>
  show AX (List.reverse (bC (decide (r.2=k)) ((r.1+1,k)::R) ((1,k)::r::R))) s (l++[k])
  cases q:decide (r.2=k)with
  |false=>exact eY
  |true=>
   obtain⟨h1,h2,h3,h4⟩:=h;obtain⟨m,i⟩:=r;obtain rfl:k=i:=(gy q).symm;rw[Dk]at h1 h2 h3 h4
   show AX (((m+1,k)::R).reverse) s (l++[k])
   rw[Dk];refine⟨?_,λt=>?_,λr hr=>?_,?_⟩
   ·rw[Yb]at h1|-
    have e:∀z:J D,rep z (m+1,k)=rep z (m,k)++[.int k]:=λz=>(bQ (z++·) List.replicate_succ').trans (jx ..).symm
    show rep _ (m+1,k)=_
    rw[e,zO,<-jx,<-h1];rfl
   ·have h2:=h2 t;rw[Yb]at h2|-
    have e:∀z:aa,uX z (m+1,k)=uX z (m,k)+1:=λz=>(zR z m 1).symm
    show uX _ (m+1,k)=_
    rw[e,f6,DB,<-zR,<-h2];rfl
   ·rcases gK.mp hr with hr|hr
    ·exact h3 r (iM _ hr)
    ·rw[fN.mp hr];exact S
   ·rw[f6]at h4|-
    rw[f6];exact xT h4
theorem bT9{s:J D}:∀(l a:J aa)(R:J l5),(∀k∈l,k∈[-1,-2])->AX R.reverse s a->AX (l.foldl CK R).reverse s (a++l):=λi_=>by
 induction i_ with
 |nil=>exact λa R X h=>by rw[j3];exact h
 |cons k l ih=>
  intro a R S h;have:=ih (a++[k]) (CK R k) (λi hi=>S i (.tail _ hi)) (bT8 h (S k (.head _)));rw[jx]at this
  exact this
theorem bU0:∀(l:J aa)(s:J D),(∀k∈l,k∈[-1,-2])->(l.map λk=>((1:H),k)).foldl rep s=s++l.map .int/\∀t,(l.map λk=>((1:H),k)).foldl uX t=t+(l.length:H):=λi_=>by
 induction i_ with
 |nil=>exact λs X=>⟨(j3 s).symm,λt=>(Qv t).symm⟩
 |cons k l ih=>intro s h;obtain⟨h1,h2⟩:=ih (s++[.int k]) λi hi=>h i (.tail _ hi);exact⟨h1.trans (jx ..),λt=>(h2 (t+1)).trans (by rw[zK,DB,zR,Ku 1];rfl)⟩
theorem bU1(p:H){l:J aa}(h:∀k∈l,k∈[-1,-2]):AX (tX p l) [] l:=by
 unfold tX;cases bX p 0 with
 |true=>exact bT9 l [] [] h ⟨rfl,λt=>(Qv t).symm,nofun,qw _⟩
 |false=>
  obtain⟨h1,h2⟩:=bU0 l [] h;refine⟨h1,λt=>(h2 (t+0)).trans (by rw[Qv]),λr hr=>?_,lB (jm (cO ..))⟩
  rcases iV.mp hr with rfl|hr
  ·exact .tail _ (.head _)
  ·obtain⟨k,S,rfl⟩:=qA.mp hr;exact h k S
theorem Xt:∀(R:J l5)(t:aa),t<=R.foldl uX t
 |[],t=>zU t
 |r::R,t=>ji (ap2 nn) (Xt R _)
theorem XB:∀(R:J l5)(s:J D),s.length<=(R.foldl rep s).length
 |[],s=>jO _
 |r::R,s=>bR (by unfold rep;rw[f6];exact gF ..) (XB R _)
def bU2(p:H):Tr:=λargs o k=>mR p args o k\/mR 0 args o k
noncomputable def XP(p:H):J (H×Tr):=[(mF,bU2 p),(Ej,Vh)]
noncomputable def XV(tg:aa):Fm:=[(bx,.L (N (.ref 0))),(f7,.L (N (.d (.int 50000)))),(cD,.L ao),(dQ,.L ao),(bW,.L ao),(d7,.L ao),(kX,.L (N (.ref 1))),(Aa,.L (N (.d (.int tg)))),(rM,.L ao)]
theorem bU3{k:aa}(h:k∈[-1,-2]):pA k:=eW (P:=pA) h ⟨.head _,.tail _ (.head _),cH2⟩
theorem bU4{r:Ts}{K:dZ->St->Prop}:∀(R:J l5)(xs acc:J D)(tg:aa),xs.length=R.length->(∀r∈R,r.2∈[-1,-2])->0<=tg->R.foldl uX tg<=1000->acc.length+R.length<=1000->K .next ⟨XV (R.foldl uX tg),[.cur r,.dl (acc++R.map xG)]⟩->
  gT [cD,d7,rM] [rM] ah 2 ((vc ⟨dO,d_ (XP p)⟩ 39).s wi) xs ⟨XV tg,[.cur (tL Fd R r),.dl acc]⟩ K:=by
 intro R;induction R with
 |nil=>
  intro xs acc tg hl _ _ _ _ h;rw[X_,j3]at h
  induction xs using eT with
  |nil=>exact h
  |cons X I=>cases hl
 |cons q R ih=>
  intro xs acc tg hl S h0 ht hn h;induction xs using eT with
  |nil=>cases hl
  |cons z xs=>
   have t1:tg+(q.1:H)<=1000:=ji (Xt R (uX tg q)) ht;have hq:cY q.1:=dF.mp (Qt (ji (cA9 h0) t1) (by decide))
   have next:=ih xs (acc++[xG q]) (uX tg q) (zJ hl) (λy h=>S y (.tail _ h)) (Qy h0 nn) ht (by rw[f6,wB,rB _ R.length];exact hn) (by rw[jx];exact h)
   refine λat_=>.inr ⟨q.1,_,hq,q.2,_,bU3 (S q (.head _)),mD (pN (xV (jc _)) hn) (by decide),?_⟩
   conv=>whnf
   exact jb (kq (pP.mpr (ji t1 (by decide)))) next
def Ju(p:H):Tr:=λa_ o_ k_=>∀P_:Tr,(∀(l r){k},fO 4 (·∈[-1,-2]) l->k (.d (oG l)) [.cur r]->P_ [.ref 0,.d (.int 50000)] [.cur (Ja p l r)] k)->P_ a_ o_ k_
theorem Ju.mk{p:H}(l r){k}(f5:fO 4 (·∈[-1,-2]) l)(lg:k (.d (oG l)) [.cur r]):Ju p [.ref 0,.d (.int 50000)] [.cur (Ja p l r)] k:=λP_ c_=>c_ l r f5 lg
theorem bU5:aQ (aU x) (n+7) L_ (Ju p):=fc x (q:=by2) (l:=XP p) (by kernel_rfl) ⟨oO.or oO,Vi,cH2⟩ λX I u2 g=>g _ λl r k h S=>by
 have g:=bU1 p h.2;unfold Ja;generalize tX p l=R at g
 have l4:(l.length:aa)<=4:=iN.mpr h.1;have t4:R.foldl uX 0<=4:=by rw[g.t,Ks];exact l4
 have n5:R.length<=5:=bR g.n (lB h.1);refine .inl ⟨R.length,_,eZ n5 (by decide),⟨ji (by decide) nn,iN.mpr (bR n5 (by decide))⟩,?_⟩
 refine bU4 R _ [] 0 (by rw[cO,Qu,sF]) g.k (zU _) (ji t4 (by decide)) (by rw[Dv,mW];exact bR n5 (by decide)) ?_
 conv=>whnf
 refine jb (kq (pP.mpr (ji t4 (by decide)))) ?_
 have e:=g.e;rw[cC1]at e
 have el:(R.foldl rep []).length<=4:=by rw[e,cO];exact h.1
 refine AK (f:=xG) (w:=rep) (bM:=λs=>⟨[(bx,.L (N (.ref 0))),(f7,.L (N (.d (.int 50000)))),(cD,.L ao),(dQ,.L (N (.ref 2))),(bW,.L ao),(d7,.L ao),(kX,.L (N (.ref 1))),(Aa,.L (N (.d (.int (R.foldl uX 0))))),(rM,.L ao)],[.cur r,.gone,.dl s]⟩) (bG:=λys s=>(ys.foldl rep s).length<=4) (λq ys s next hI hn=>?_) R [] el λX=>?_
 ·have b1:(rep s q).length<=4:=bR (XB ys _) hI;have b2:q.1<=4:=by
   unfold rep at b1
   rw[f6,cB5]at b1
   exact bR (xY ..) b1
  exact⟨⟨ji (by decide) nn,iN.mpr (bR b2 (by decide))⟩,bR b1 (by decide),hn hI⟩
 ·have S:k (.d (.tup (R.foldl rep []))) [.cur r]:=by rw[e];exact S
  exact S
end
section
open Wh (cu)
variable{w:bU}{bJ s:aE}{x:cu w bJ s}{n:H}
def Jv(g:iy)(t:J H):J H:=oQ g.b (Jk g.g t)
def X9:Tr:=jv (λg:iy=>[g.d]) iy.ok Jv
theorem bU6:aQ (aU x) (n+7) Ec X9:=jG (q:=bu1) (l:=[(G7,U8),(BU,Jm)]) (by kernel_rfl) ⟨H4,Ox,cH2⟩ λg l k h hf S=>⟨g.g,l,h.1,mw _ hf,g.b,_,h.2.ins,hf,S⟩
def X':Tr:=jv (λf:cW=>[f.d]) kC λf=>wU f.k
theorem bU7:aQ (aU x) (n+2) Eh X':=jG (q:=bv3) (l:=[(qh,mu)]) (by kernel_rfl) ⟨t6,cH2⟩ λf l k h hf S=>⟨(f.k:aa),l,nn,hf,S⟩
def Ya:vZ->J H->J H
 | .f i=>wU i
 | .t t=>CS t
 | .m l=>yY l
 | .g g=>Jk g
def Jw(i:fh)(t:J H):J H:=Ya i.a (w8 i.a.sort (wN i.n (wN i.p t)))
noncomputable def bU8:J (H×Tr):=[(G1,Oo),(s8,uU),(qh,mu),(BQ,U6),(BS,U7),(G7,U8)]
def Yf:Tr:=jv (λi:fh=>[i.d]) fh.ok Jw
theorem bU9:aQ (aU x) (n+4) Ea Yf:=jG (q:=bt9) (l:=bU8) (by kernel_rfl) ⟨U1,v8,t6,H1,H3,H4,cH2⟩ λi l k h hf S=>by
 obtain⟨p,m,a⟩:=i;induction a with
 |f i=>exact⟨p,l,h.1,CQ _ (lq _ (gJ _ hf)),m,_,h.2.1,lq _ (gJ _ hf),0,_,by decide,gJ _ hf,(i:aa),_,nn,hf,S⟩
 |t i=>exact⟨p,l,h.1,CQ _ (lq _ (Jj _ hf)),m,_,h.2.1,lq _ (Jj _ hf),1,_,by decide,Jj _ hf,i,_,h.2.2,hf,S⟩
 |m i=>exact⟨p,l,h.1,CQ _ (lq _ (CR _ hf)),m,_,h.2.1,lq _ (CR _ hf),2,_,by decide,CR _ hf,i,_,h.2.2,hf,S⟩
 |g i=>exact⟨p,l,h.1,CQ _ (lq _ (Jl _ hf)),m,_,h.2.1,lq _ (Jl _ hf),3,_,by decide,Jl _ hf,i,_,h.2.2,hf,S⟩
def Jx(e:ju)(t:J H):J H:=wU e.i (w8 e.s (wN e.n t))
def YP:Tr:=jv (λe:ju=>[e.d]) ju.ok Jx
theorem bV0:aQ (aU x) (n+3) Eb YP:=jG (q:=bu0) (l:=[(G1,Oo),(s8,uU),(qh,mu)]) (by kernel_rfl) ⟨U1,v8,t6,cH2⟩ λe l k h hf S=>⟨e.n,l,h.1,lq _ (gJ _ hf),(e.s:aa),_,⟨nn,dF.mpr (mD h.2.1 (by decide))⟩,gJ _ hf,(e.i:aa),_,nn,hf,S⟩
def FF(e:eV)(t:J H):J H:=wR e.c (wU (e.c.length:H) (match e.o with
 |none=>wU 1 t
 |some p=>oQ p.2 (bC (bX p.1 0) (wU 0 t) (wU p.1 (wU 2 t)))))
theorem bV1{e:eV}:jw (FF e):=λt h=>by
 obtain⟨o,c⟩:=e;have h:=gJ _ (uV _ h);induction o with
 |none=>exact gJ _ h
 |some p=>exact rZ (f:=wU 0) (mw _ h) (gJ t) λh=>gJ t (gJ _ h)
def ZB:Tr:=jv (λe:eV=>[e.d]) eV.ok FF
noncomputable def bV2:J (H×Tr):=[(qh,mu),(BU,Jm),(Ai,mu),(G0,Om)]
theorem bV3:aQ (aU x) (n+7) Ef ZB:=jG (q:=bu9) (l:=bV2) (by kernel_rfl) ⟨t6,Ox,Fg,UY,cH2⟩ λe l k h hf S=>by
 obtain⟨o,c⟩:=e;induction o with
 |none=>exact⟨1,l,by decide,gJ _ (uV _ hf),_,_,nn,uV _ hf,c,_,cH2,hf,S⟩
 |some p=>
  obtain⟨y,b⟩:=p;obtain⟨h1,h2⟩:=h.1 _ rfl;induction y using jh with
  |zero=>exact⟨0,l,by decide,mw _ (gJ _ (uV _ hf)),b,_,h2.ins,gJ _ (uV _ hf),_,_,nn,uV _ hf,c,_,cH2,hf,S⟩
  |succ m=>exact⟨2,l,by decide,gJ _ (mw _ (gJ _ (uV _ hf))),_,_,nn,mw _ (gJ _ (uV _ hf)),b,_,h2.ins,gJ _ (uV _ hf),_,_,nn,uV _ hf,c,_,cH2,hf,S⟩
def CV:J l5->J D
 |[]=>[]
 |r::R=>CV R++[xG r]
theorem VM:∀R,CV R=R.reverse.map xG
 |[]=>rfl
 |r::R=>by rw[Dk,zO,<-VM R];rfl
theorem bV4(R:J l5):(CV R).length=R.length:=by rw[VM,cO,Gf]
theorem bV5:∀(R:J l5)(k:aa),(CK R k).length<=R.length+1
 |[],X=>jO _
 |r::R,k=>by
  show al0 (bC (decide (r.2=k)) ((r.1+1,k)::R) ((1,k)::r::R))<=_
  cases decide (r.2=k)
  ·exact jO _
  ·exact Bj _
theorem bV6{α:Type}:∀(l:J α)(a:α),f9 (l++[a])=ak
 |[],X=>rfl
 |X::I,u2=>rfl
def Z':Tr:=nZ (λl:J aa=>[oG l]) (·.length<1000) λl=>.d (.list ((qG l).map xG))
theorem bV7:aQ (aU x) (n+1) LK Z':=k7 (q:=bv0) (l:=[]) (by kernel_rfl) trivial λl k h S=>by
 refine AK (f:=.int) (w:=CK) (bM:=λR=>⟨[(fy,.L (N (.d (oG l)))),(bW,.L ao),(kX,.L (N (.ref 0)))],[.dl (CV R)]⟩) (bG:=λys R=>R.length+ys.length<1000) (λi ys R next hI hn=>?_) l [] (by rw[Dv,mW];exact h) λX=>?_
 ·have hn:=hn (eZ (Kr (bV5 R i) _) (by rw[A6];exact hI))
  induction R using eT with
  |nil=>exact⟨by decide,hn⟩
  |cons r R=>
   conv=>whnf
   refine AJ (bQ (!·) (bV6 (CV R) (xG r))) ⟨_,_,rfl,?_⟩
   conv=>whnf
   exact qX (P:=λR=>next ⟨_,[.dl (CV R)]⟩) hn (λX h=>⟨_,_,rfl,_,_,rfl,h⟩) λX h=>⟨eZ (jm (bV4 (r::R))) (mD (eZ (gF ..) hI) (by decide)),h⟩
 ·have e:CV (l.foldl CK [])=(qG l).map xG:=VM _
  show B4 _ _ _ _
  exact(bQ (λds=>k (.d (.list ds)) []) e).mpr S
def OX(r:l5)(t:J H):J H:=w7 r.2 (wU r.1 t)
def aa0(l:J aa)(t:J H):J H:=wL OX (qG l) (wU (((qG l).map xG).length:H) t)
theorem aa1{r:l5}:jw (OX r):=λt h=>gJ t (qq _ h)
def aa2:Tr:=jv (λl=>[oG l]) (·.length<1000) aa0
theorem bV8:aQ (aU x) (n+3) LL aa2:=jG (q:=bv1) (l:=[(LK,Z'),(Ai,mu),(qh,mu),(wY,AQ)]) (by kernel_rfl) ⟨bV7,Fg,t6,CP,cH2⟩ λks l k h hf S=>⟨ks,h,_,l,nn,pG (λX=>aa1) _ _ hf,Fi (ok:=kC) (λX=>aa1) (by exact λr l X h hf hn=>⟨(r.1:aa),l,nn,qq _ hf,r.2,_,cH2,hf,hn⟩) (qG ks) _ (λX I=>trivial) hf S⟩
def aa3(f:cW):J H:=oQ f.b (aa0 f.l [])
def Jy(f:cW):J H->J H:=wZ (aa3 f)
theorem Jz{a b:J H}(h:gV (a++b)):gV b:=bR (by rw[f6];exact xY ..) h
theorem JA{r:J H}:jw (wZ r):=λt h=>gJ t (uV _ h)
def aa4:Tr:=jv (λf:cW=>[f.d]) cW.ok Jy
theorem bV9:aQ (aU x) (n+7) Eg aa4:=jG (q:=bv2) (l:=[(qM,AP),(LL,aa2),(BU,Jm),(G2,yX)]) (by kernel_rfl) ⟨Ol,bV8,Ox,U3,cH2⟩ λf l k h hf S=>(λX I=>I ⟨f.l,[],eZ h.2.1.1 (by decide),mw _ (Jz hf),⟨f.b,_,h.2.2.ins,Jz hf,yX.mk (aa3 f) l hf S⟩⟩)
noncomputable def zb:er->D
 | .f i=>.int i
 |X=>.none
def aa5:Tr:=nZ (λp:aa×er=>[gA (p.2.b p.1)]) kC λp=>.d (zb p.2)
theorem bW0:aQ (aU x) (n+1) LJ aa5:=k7 (q:=bu7) (l:=[]) (by kernel_rfl) trivial λp k X S=>by
 obtain⟨j,i⟩:=p;induction i with
 |f i=>exact⟨⟨rfl,λv hv=>by rw[fN.mp hv];trivial⟩,S⟩
 |_=>exact S
noncomputable def er.j:er->aa
 | .f i=>(i:H)
 |X=>0
def FG(B:aD)(e:dz)(t:J H):J H:=bC B (wL (λi:er=>oQ (i.b e.k)) e.i (wU ((e.i.map λi=>gA (i.b e.k)).length:H) t)) (wL wU (e.i.map er.j) (wU ((e.i.map λi=>gA (i.b e.k)).length:H) t))
def JB(B:aD)(e:dz)(t:J H):J H:=bC B (w7 e.k t) (w8 0 t)
def wHd(B:aD)(e:dz)(t:J H):J H:=match e.m with
 | .p=>JB B e (wU (bC B 5 1) t)
 | .d=>JB B e (wU (bC B 7 3) t)
 | .a y b=>bC (bz (bX y 0) (decide (e.k=-16))) (oQ b (wU (bC B 4 0) t)) (JB B e (oQ b (wU y (wU (bC B 6 2) t))))
def OY(B:aD)(e:dz)(t:J H):J H:=FG B e (wHd B e t)
def CW(e:dz):J H->J H:=OY (lM e) e
theorem aa6{B:aD}{e:dz}:jw (FG B e):=λt h=>rZ (f:=λt=>wL _ e.i (wU _ t)) h (λh=>gJ t (pG (λX=>mw) _ _ h)) λh=>gJ t (pG (λX=>gJ) _ _ h)
theorem VN{B:aD}{e:dz}:jw (JB B e):=λt h=>rZ h (qq t) (lq t)
theorem bW1{e:dz}:jw (CW e):=λt h=>by
 have h:=aa6 _ h;obtain⟨m,k,i⟩:=e;induction m with
 |p=>exact gJ _ (VN _ h)
 |d=>exact gJ _ (VN _ h)
 |a y b=>exact rZ (f:=λt=>oQ b (wU _ t)) h (λh=>gJ t (mw _ h)) λh=>gJ t (gJ _ (mw _ (VN _ h)))
noncomputable def CX:J (H×Tr):=[(LJ,aa5),(qh,mu),(BU,Jm),(wY,AQ),(s8,uU),(Ai,mu),(G8,Vc)]
theorem aa7:∀(is:J er)(K:aD->Prop),K (is.any nf)->yy .none (is.map zb) K
 |[],K,h=>h
 |i::is,K,h=>by
  show MD (zb i) .none λq=>yy .none (is.map zb) λq'=>K (q||q')
  induction i with
  |_=>exact aa7 is _ h
theorem OZ{k:aa}(S:x6 k){i:er}(h:i.ok):∀j∈i.b k,j.mP:=by
 induction i with
 |f i=>exact gv.mpr ⟨.i ⟨(by decide:(210:aa)∈qF),.u h⟩,gv.mpr ⟨.e,nofun⟩⟩
 |g i=>exact gv.mpr ⟨.i ⟨(by decide:(35:aa)∈qF),.u h⟩,gv.mpr ⟨.e,nofun⟩⟩
 |n=>exact gv.mpr ⟨.i ⟨(by decide:(208:aa)∈qF),.r S⟩,gv.mpr ⟨.e,nofun⟩⟩
def aa8(e B bG p w:D):Fm:=[(bK,.L (N (.ref 0))),(aM,.L (N (.d e))),(uy,.L (N (.d B))),(DQ,.L (N (.d bG))),(lG,.L ao),(GJ,.L (N (.d p))),(gS,.L (N (.d w)))]
theorem aa9:∀{is:J er},is.any nf=ak->is.map zb=(is.map er.j).map .int
 |[],X=>rfl
 | .f i::is,h=>bQ (D.int i::·) (aa9 h)
theorem bW2{e:dz}{B:aD}{p w:D}{t:J H}{k:V->J O->Prop}(he:e.ok)(hB:B=ak->e.i.any nf=ak)(hf:gV (FG B e t))(S:k (.d .none) (gB (FG B e t))):
  l8 ⟨dO,d_ CX⟩ (vc ⟨dO,d_ CX⟩ 39) (NR.drop 8) ⟨aa8 e.d (.bool B) (.list (e.i.map zb)) p w,gB t⟩ (mJ 2 k):=by
 induction B with
 |true=>exact⟨_,t,nn,pG (λX=>mw) _ _ hf,Fi (w:=λi:er=>oQ (i.b e.k)) (ok:=er.ok) (λX=>mw) (by exact λi l X h hf hn=>⟨i.b e.k,l,OZ he.2.1 h,hf,hn⟩) e.i _ he.2.2.2 hf S⟩
 |false=>
  rw[aa9 (hB rfl)];refine⟨_,t,nn,pG (λX=>gJ) _ _ hf,(ak,e.i.map er.j),_,?_,hf,S⟩;intro j h;change j∈e.i.map er.j at h
  obtain⟨i,g,rfl⟩:=qA.mp h;have:=he.2.2.2 i g;induction i with
  |f i=>exact nn
  |_=>exact zU _
def ab0:Tr:=jv (λe:dz=>[e.d]) dz.ok CW
theorem ab1{e:dz}{B:aD}{t:J H}{k:V->J O->Prop}(he:e.ok)(hB:B=ak->e.i.any nf=ak)(hf:gV (OY B e t))(S:k (.d .none) (gB (OY B e t))):
  l8 ⟨dO,d_ CX⟩ (vc ⟨dO,d_ CX⟩ 39) (NR.drop 2) ⟨[(bK,.L (N (.ref 0))),(aM,.L (N (.d e.d))),(uy,.L (N (.d (.bool B)))),(DQ,.L (N (.d (.list (e.i.map zb))))),(lG,.L ao),(GJ,.L ao),(gS,.L ao)],gB t⟩ (mJ 2 k):=by
 have cH:∀{t'},wHd B e t=t'->gV t'/\∀p w,l8 ⟨dO,d_ CX⟩ (vc ⟨dO,d_ CX⟩ 39) (NR.drop 8) ⟨aa8 e.d (.bool B) (.list (e.i.map zb)) p w,gB t'⟩ (mJ 2 k):=λq=>q▸⟨aa6 _ hf,λp w=>bW2 he hB hf S⟩;obtain⟨m,kk,is⟩:=e;have Ck:=he.2.1;induction m with
 |p=>induction B with
  |true=>obtain⟨h0,cH⟩:=cH (t':=w7 kk (wU 5 t)) rfl;exact⟨.int 1,rfl,5,t,by decide,qq _ h0,kk,_,cH2,h0,cH _ _⟩
  |false=>obtain⟨h0,cH⟩:=cH (t':=w8 0 (wU 1 t)) rfl;exact⟨.int 1,rfl,1,t,by decide,lq _ h0,0,_,by decide,h0,cH _ _⟩
 |d=>induction B with
  |true=>obtain⟨h0,cH⟩:=cH (t':=w7 kk (wU 7 t)) rfl;exact⟨.int 3,rfl,7,t,by decide,qq _ h0,kk,_,cH2,h0,cH _ _⟩
  |false=>obtain⟨h0,cH⟩:=cH (t':=w8 0 (wU 3 t)) rfl;exact⟨.int 3,rfl,3,t,by decide,lq _ h0,0,_,by decide,h0,cH _ _⟩
 |a y b=>
  obtain⟨hy,hb⟩:=he.1;induction y using jh with
  |zero=>
   rcases iV.mp Ck with rfl|Ck
   ·induction B with
    |true=>
     obtain⟨h0,cH⟩:=cH (t':=oQ b (wU 4 t)) (by kernel_rfl)
     refine⟨4,t,by decide,mw _ h0,b,_,hb.ins,h0,?_⟩
     have cH:=cH (.bool ah) (.int 0)
     conv at cH=>whnf
     conv=>whnf
     exact cH
    |false=>
     obtain⟨h0,cH⟩:=cH (t':=oQ b (wU 0 t)) (by kernel_rfl)
     refine⟨0,t,by decide,mw _ h0,b,_,hb.ins,h0,?_⟩
     have cH:=cH (.bool ah) (.int 0)
     conv at cH=>whnf
     conv=>whnf
     exact cH
   ·obtain rfl:=fN.mp Ck;induction B with
    |true=>
     obtain⟨h0,cH⟩:=cH (t':=w7 (-17) (oQ b (wU 0 (wU 6 t)))) (by kernel_rfl)
     exact⟨.int 2,rfl,6,t,by decide,gJ _ (mw _ (qq _ h0)),0,_,by decide,mw _ (qq _ h0),b,_,hb.ins,qq _ h0,-17,_,cH2,h0,cH _ _⟩
    |false=>
     obtain⟨h0,cH⟩:=cH (t':=w8 0 (oQ b (wU 0 (wU 2 t)))) (by kernel_rfl)
     exact⟨.int 2,rfl,2,t,by decide,gJ _ (mw _ (lq _ h0)),0,_,by decide,mw _ (lq _ h0),b,_,hb.ins,lq _ h0,0,_,by decide,h0,cH _ _⟩
  |succ y=>induction B with
   |true=>
    obtain⟨h0,cH⟩:=cH (t':=w7 kk (oQ b (wU (y+1:H) (wU 6 t)))) (by kernel_rfl)
    exact⟨.int 2,rfl,6,t,by decide,gJ _ (mw _ (qq _ h0)),_,_,nn,mw _ (qq _ h0),b,_,hb.ins,qq _ h0,kk,_,cH2,h0,cH _ _⟩
   |false=>
    obtain⟨h0,cH⟩:=cH (t':=w8 0 (oQ b (wU (y+1:H) (wU 2 t)))) (by kernel_rfl)
    exact⟨.int 2,rfl,2,t,by decide,gJ _ (mw _ (lq _ h0)),_,_,nn,mw _ (lq _ h0),b,_,hb.ins,lq _ h0,0,_,by decide,h0,cH _ _⟩
theorem bW3:aQ (aU x) (n+7) Ed ab0:=jG (q:=bu8) (l:=CX) (by kernel_rfl) ⟨bW0,t6,Ox,CP,v8,Fg,Jn,cH2⟩ λe t k h hf S=>by
 have hB:∀B,lM e=B->B=ak->e.i.any nf=ak:=λB e h=>(aq0.mp (e.trans h)).2;obtain⟨m,kk,is⟩:=e
 conv=>whnf
 refine pB (f:=λi=>gA (er.b kk i)) (g:=zb) (by exact λi k h=>⟨(kk,i),cH2,h⟩) is ?_
 rcases iV.mp h.2.1 with rfl|Ck
 ·conv=>whnf
  exact aa7 is _ (ab1 (e:=⟨m,-16,is⟩) h (hB _ rfl) hf S)
 ·obtain rfl:=fN.mp Ck;exact ab1 (e:=⟨m,-17,is⟩) (B:=true) h nofun hf S
inductive rF:aR->D->(J H->J H)->Prop
 |fk (f:Fk):rF D_ (mO f) (Fl f)
 |imp {i:fh}:i.ok->rF Ea i.d (Jw i)
 |fi {f:cW}:rF Eh f.d (wU f.k)
 |tab {t:iZ}:t.ok->rF BQ t.d (CS t)
 |mem {l:qk}:tP l->rF BS (nE l) (yY l)
 |glo {g:iy}:g.ok->rF Ec g.d (Jv g)
 |exp {e:ju}:e.ok->rF Eb e.d (Jx e)
 |ele {e:dz}:e.ok->rF Ed e.d (CW e)
 |fn {f:cW}:f.ok->rF Eg f.d (Jy f)
 |dat {e:eV}:e.ok->rF Ef e.d (FF e)
def q9{α:Type}(f:α->D)(wr:α->J H->J H)(ys:J α)(t:J H):J H:=wL wr ys (wU ((ys.map f).length:H) t)
noncomputable def ab2:J (H×Tr):=[(Ai,mu),(D_,H0),(Ea,Yf),(Eh,X'),(BQ,U6),(BS,U7),(Ec,X9),(Eb,YP),(Ed,ab0),(Eg,aa4),(Ef,ZB)]
def ab3(d:D)(a:aR):Fm:=[(bK,.L (N (.ref 0))),(z_,.L (N (.d d))),(yf,.L (N (.d (.glob a)))),(yh,.L ao)]
theorem bW4{d t:D}{a:aR}{wr:J H->J H}{l:J H}{next:St->Prop}{K:dZ->St->Prop}(h:rF a t wr)(hf:gV (wr l))(hn:next ⟨ab3 d a,gB (wr l)⟩):jL [yh] ah (.d t) ⟨ab3 d a,gB l⟩ λZ=>(vc ⟨dO,d_ ab2⟩ 39).s ut Z (zW [yh] 2 next K):=by
 cases h with
 |fk f=>exact⟨f,l,cH2,hf,hn⟩
 |imp h=>exact⟨_,l,h,hf,hn⟩
 |@fi f=>exact⟨f,l,cH2,hf,hn⟩
 |tab h=>exact⟨_,l,h,hf,hn⟩
 |mem h=>exact⟨_,l,h,hf,hn⟩
 |glo h=>exact⟨_,l,h,hf,hn⟩
 |exp h=>exact⟨_,l,h,hf,hn⟩
 |ele h=>exact⟨_,l,h,hf,hn⟩
 |fn h=>exact⟨_,l,h,hf,hn⟩
 |dat h=>exact⟨_,l,h,hf,hn⟩
theorem bW5:∀{a:vZ},jw (Ya a)
 | .f X=>gJ
 | .t X=>Jj
 | .m X=>CR
 | .g X=>Jl
def q_:Tr:=λa_ o_ k_=>∀P_:Tr,(∀{α:Type}(a:aR)(f:α->D)(wr:α->J H->J H)(ys:J α)(l){k},(∀y∈ys,rF a (f y) (wr y))->(∀y,jw (wr y))->gV (q9 f wr ys l)->k (.d .none) (gB (q9 f wr ys l))->P_ [.ref 0,.d (.list (ys.map f)),.d (.glob a)] (gB l) k)->P_ a_ o_ k_
theorem q_.mk{α:Type}(a:aR)(f:α->D)(wr:α->J H->J H)(ys:J α)(l){k}(f5:(∀y∈ys,rF a (f y) (wr y)))(lg:(∀y,jw (wr y)))(t7:gV (q9 f wr ys l))(VO:k (.d .none) (gB (q9 f wr ys l))):q_ [.ref 0,.d (.list (ys.map f)),.d (.glob a)] (gB l) k:=λP_ c_=>c_ a f wr ys l f5 lg t7 VO
theorem bW6:aQ (aU x) (n+8) G9 q_:=fc x (q:=bv4) (l:=ab2) (by kernel_rfl) ⟨Fg,bJ9,bU9,bU7,H1,H3,bU6,bV0,bW3,bV9,bV3,cH2⟩ λX I u2 g=>g _ λa f wr ys l X h m hf S=>⟨_,l,nn,pG m _ _ hf,Fi (ok:=λy=>rF a (f y) (wr y)) m (λy l X h hf hn=>bW4 h hf hn) ys _ h hf S⟩
def oM(m:b6):J D:=[m.D]
def JC:Tr:=nZ oM kC λm=>.d (.list (m.f.map λf=>gA f.b))
theorem bW7:aQ (aU x) (n+1) D9 JC:=k7 (q:=bs9) (l:=[]) (by kernel_rfl) trivial λm k X S=>pB (f:=cW.d) (g:=λf=>gA f.b) (by exact λi k h=>h) m.f S
def VP:Tr:=nZ oM kC λm=>.d (.bool (NX m))
theorem bW8{d:D}{k:V->J O->Prop}:∀(fs:J cW),k (.d (.bool (fs.any λf=>f.b.any qm))) []->
  gT [dK] [dK] ah 0 ((vc ⟨dO,d_ [(D9,JC)]⟩ 39).s ul) (fs.map λf=>gA f.b) ⟨[(bI,.L (N (.d d))),(dK,.L ao)],[]⟩ (yE (l8 ⟨dO,d_ [(D9,JC)]⟩ (vc ⟨dO,d_ [(D9,JC)]⟩ 39) [.ret (.cB ak)]) (mJ 0 k)):=λi_=>by
 induction i_ with
 |nil=>exact λh=>h
 |cons f fs ih=>
  intro h
  show gT _ _ _ _ _ (gA f.b::_) _ _
  conv=>whnf
  refine pB (f:=fj.d) (g:=λi=>.bool (qm i)) (by exact λi k h=>h) f.b ?_
  conv=>whnf
  refine y6 f.b _ ?_;have h:k (.d (.bool (f.b.any qm||fs.any λf=>f.b.any qm))) []:=h;cases e:f.b.any qm with
  |true=>rw[e]at h;exact h
  |false=>rw[e]at h;exact ih h
theorem bW9:aQ (aU x) (n+2) G4 VP:=k7 (q:=bt1) (l:=[(D9,JC)]) (by kernel_rfl) ⟨bW7,cH2⟩ λm k X S=>⟨m,cH2,bW8 m.f S⟩
abbrev MN:=b6×H
def O0(p:MN):J D:=[p.1.D,.int p.2]
def xN:Tr:=nZ O0 (λp=>p.2∈cV) λp=>.d (.bool (jI p.1 p.2))
theorem ab4:aQ (aU x) (n+3) uE xN:=k7 (q:=vi) (l:=[(G4,VP)]) (by kernel_rfl) ⟨bW9,cH2⟩ λp k h=>by obtain⟨m,i⟩:=p;exact eW (P:=λi=>k (.d (.bool (jI m i))) []->lK vi [(G4,VP)] [.d m.D,.d (.int (i:H))] [] k) h ⟨λh=>h,λh=>h,λh=>h,λh=>h,λh=>h,λh=>h,λh=>h,λh=>h,λh=>h,λh=>⟨m,cH2,h⟩,λh=>h,λh=>h,cH2⟩
def VQ:Tr:=nZ O0 (λp=>p.2=0\/p.2∈cV/\jI p.1 p.2=ah) λp=>.d (.int p.2)
theorem bX0{m:b6}{i:H}(hi:i∈cV)(hn:jI m i=ah){k:V->J O->Prop}(S:k (.d (.int i)) []):∀(ps:J H)(f:aa),(∀p∈ps,p∈cV)->
  gT [dM] [dM] ah 0 ((vc ⟨dO,d_ [(uE,xN)]⟩ 39).s Uo) ((ps++[i]).map fW) ⟨[(bI,.L (N (.d m.D))),(bw,.L (N (.d (.int i)))),(dQ,.L (N (.d (.int f)))),(dM,.L ao)],[]⟩ (yE (l8 ⟨dO,d_ [(uE,xN)]⟩ (vc ⟨dO,d_ [(uE,xN)]⟩ 39) [.ret (.Y dQ)]) (mJ 0 k)):=λi_=>by
 induction i_ with
 |nil=>
  intro f X
  show gT _ _ _ _ _ (fW i::_) _ _
  refine⟨(m,i),hi,?_⟩
  conv=>whnf
  exact AJ hn S
 |cons p ps ih=>
  intro f hp
  show gT _ _ _ _ _ (fW p::_) _ _
  refine⟨(m,p),hp p (.head _),?_⟩;have ih:=λf=>ih f λp h=>hp p (.tail _ h)
  conv=>whnf
  exact gZ (λX=>ih p) λX=>ih f
theorem ab5:aQ (aU x) (n+4) G_ VQ:=k7 (q:=vk) (l:=[(uE,xN)]) (by kernel_rfl) ⟨ab4,cH2⟩ λp k h=>by
 obtain⟨m,i⟩:=p;rcases h with h|⟨h,ht⟩
 ·obtain rfl:i=0:=h;exact λh=>h
 ·have h:i∈cV:=h;have go:=λps hp S=>bX0 (k:=k) h ht S ps 0 hp
  revert ht go
  exact eW (P:=λi=>jI m i=ah->(∀ps:J H,(∀p∈ps,p∈cV)->k (.d (.int i)) []->gT [dM] [dM] ah 0 ((vc ⟨dO,d_ [(uE,xN)]⟩ 39).s Uo) ((ps++[i]).map fW) ⟨[(bI,.L (N (.d m.D))),(bw,.L (N (.d (.int i)))),(dQ,.L (N (.d (.int 0)))),(dM,.L ao)],[]⟩ (yE (l8 ⟨dO,d_ [(uE,xN)]⟩ (vc ⟨dO,d_ [(uE,xN)]⟩ 39) [.ret (.Y dQ)]) (mJ 0 k)))->k (.d (.int i)) []->lK vk [(uE,xN)] [.d m.D,.d (.int (i:H))] [] k) h
   ⟨λX g h=>⟨0,⟨rfl,by decide,tY (by decide)⟩,by decide,tQ (g [] (by decide) h)⟩,
   λX g h=>⟨1,⟨rfl,by decide,tY (by decide)⟩,by decide,tQ (g [1] (by decide) h)⟩,
   λX g h=>⟨2,⟨rfl,by decide,tY (by decide)⟩,by decide,tQ (g [1,2] (by decide) h)⟩,
   λX g h=>⟨3,⟨rfl,by decide,tY (by decide)⟩,by decide,tQ (g [1,2,3] (by decide) h)⟩,
   λX g h=>⟨4,⟨rfl,by decide,tY (by decide)⟩,by decide,tQ (g [1,2,3,4] (by decide) h)⟩,
   λX g h=>⟨5,⟨rfl,by decide,tY (by decide)⟩,by decide,tQ (g [1,2,3,4,5] (by decide) h)⟩,
   λX g h=>⟨6,⟨rfl,by decide,tY (by decide)⟩,by decide,tQ (g [1,2,3,4,5,6] (by decide) h)⟩,
   λX g h=>⟨7,⟨rfl,by decide,tY (by decide)⟩,by decide,tQ (g [1,2,3,4,5,6,7] (by decide) h)⟩,
   λX g h=>⟨8,⟨rfl,by decide,tY (by decide)⟩,by decide,tQ (g [1,2,3,4,5,6,7,8] (by decide) h)⟩,
   λX g h=>⟨9,⟨rfl,by decide,tY (by decide)⟩,by decide,tQ (g [1,2,3,4,5,6,7,8,9] (by decide) h)⟩,
   λX g h=>⟨10,⟨rfl,by decide,tY (by decide)⟩,by decide,tQ (g [1,2,3,4,5,6,7,8,9,12] (by decide) h)⟩,
   λX g h=>⟨11,⟨rfl,by decide,tY (by decide)⟩,by decide,tQ (g [1,2,3,4,5,6,7,8,9,12,10] (by decide) h)⟩,cH2⟩
def CY(m:b6):H->J H->J H:=kB id [id,q9 mO Fl m.k,q9 fh.d Jw m.i,q9 cW.d (λf=>wU f.k) m.f,q9 iZ.d CS m.t,q9 nE yY m.m,q9 iy.d Jv m.g,q9 ju.d Jx m.e,wU (m.s.getD 0:H),q9 dz.d CW m.l,q9 cW.d Jy m.f,q9 eV.d FF m.d,wU ((m.d.map eV.d).length:H)]
def ab6(p:MN):Prop:=p.2∈cV/\jI p.1 p.2=ah/\p.1.ok
def ab7:Tr:=jv O0 ab6 λp=>CY p.1 p.2
theorem bX1:aQ (aU x) (n+9) LN ab7:=jG (q:=vr) (l:=[(G9,q_),(qh,mu)]) (by kernel_rfl) ⟨bW6,t6,cH2⟩ λp l k h=>by
 obtain⟨m,i⟩:=p;obtain⟨hi,ht,hm⟩:=h
 revert ht
 exact eW (P:=λi=>jI m i=ah->gV (CY m i l)->k (.d .none) (gB (CY m i l))->lK vr [(G9,q_),(qh,mu)] [.ref 0,.d m.D,.d (.int (i:H))] (gB l) k) hi
  ⟨λX hf S=>(q_.mk D_ mO Fl m.k l (λy X=>.fk y) (λy=>bK0) hf S),
  λX hf S=>(q_.mk Ea fh.d Jw m.i l (λy h=>.imp (hm.i.2 y h)) (λy t h=>CQ t (CQ _ (lq _ (bW5 _ h)))) hf S),
  λX hf S=>(q_.mk Eh cW.d (λf=>wU f.k) m.f l (λy h=>.fi) (λy=>gJ) hf S),
  λX hf S=>(q_.mk BQ iZ.d CS m.t l (λy h=>.tab (hm.t.2 y h)) (λy=>Jj) hf S),
  λX hf S=>(q_.mk BS nE yY m.m l (λy h=>.mem (hm.m.2 y h)) (λy=>CR) hf S),
  λX hf S=>(q_.mk Ec iy.d Jv m.g l (λy h=>.glo (hm.g.2 y h)) (λy t h=>Jl t (mw _ h)) hf S),
  λX hf S=>(q_.mk Eb ju.d Jx m.e l (λy h=>.exp (hm.e.2 y h)) (λy t h=>CQ t (lq _ (gJ _ h))) hf S),
  λht hf S=>by
   obtain⟨k,i,f,t,m,g,e,Z,ls,d,c⟩:=m;induction Z with
   |none=>exact nomatch ht
   |some j=>exact⟨(j:aa),l,nn,hf,S⟩,
  λX hf S=>(q_.mk Ed dz.d CW m.l l (λy h=>.ele (hm.l.2 y h)) (λy=>bW1) hf S),
  λX hf S=>⟨_,l,nn,hf,S⟩,
  λX hf S=>(q_.mk Eg cW.d Jy m.f l (λy h=>.fn (hm.f.2 y h)) (λy=>JA) hf S),
  λX hf S=>(q_.mk Ef eV.d FF m.d l (λy h=>.dat (hm.d.2 y h)) (λy=>bV1) hf S),cH2⟩
def VS(m:b6)(n:H)(t:J H):J H:=wZ (CY m n []) (w8 (n:H) t)
def ab8:Tr:=jv O0 ab6 λp=>VS p.1 p.2
theorem bX2:aQ (aU x) (n+10) LO ab8:=jG (q:=bv5) (l:=[(qM,AP),(LN,ab7),(s8,uU),(G2,yX)]) (by kernel_rfl) ⟨Ol,bX1,v8,U3,cH2⟩ λp l k h hf S=>(λX I=>I ⟨p,[],h,Jz hf,⟨(p.2:aa),l,⟨nn,(by decide:∀i∈cV,((i:H):aa)<256) _ h.1⟩,JA _ hf,yX.mk (CY p.1 p.2 []) _ hf S⟩⟩)
def ab9(c:dB):J H:=wR c.c (wN c.n [])
def AY(n:H)(c:dB)(t:J H):J H:=bC (decide ((c.b:aa)=(n:aa))) (wZ (ab9 c) (w8 0 t)) t
noncomputable def ac0:J (H×Tr):=[(qM,AP),(G1,Oo),(G0,Om),(s8,uU),(G2,yX)]
def VT(m p:D)(n:aa):Fm:=[(bK,.L (N (.ref 0))),(bI,.L (N (.d m))),(ye,.L (N (.d p))),(bw,.L (N (.d (.int n)))),(jS,.L ao),(kU,.L ao),(dM,.L ao)]
theorem VU{n:H}{c:dB}:jw (AY n c):=λt h=>rZ (f:=λt=>wZ _ (w8 0 t)) (g:=λt=>t) h (λh=>lq t (JA _ h)) λh=>h
noncomputable def CZ(c:dB):D:=.int (c.b:H)
theorem bX3{m p:D}{i:H}{ds es:J D}{K:dZ->St->Prop}:∀(cs:J dB)(l:J H),(∀c∈cs,kQ c.n)->gV (wL (AY i) cs l)->K .next ⟨VT m p i,gB (wL (AY i) cs l)⟩->
  yD [jS,kU,dM] jS dM 2 (λo=>g9 (.d (.list ds)) o=N (ds.map .d)/\g9 (.d (.list es)) o=N (es.map .d)) ((vc ⟨dO,d_ ac0⟩ 39).s vw) ((cs.map dB.d).map .d) ((cs.map CZ).map .d) ⟨VT m p i,gB l⟩ K:=λi_=>by
 induction i_ with
 |nil=>exact λX I u2 hK=>hK
 |cons c cs ih=>
  intro l hc hf hK;have h:=hc c (.head _)
  show yD _ _ _ _ _ _ (.d c.d::_) (.d (CZ c)::_) _ _
  have ih:=ih
  conv=>whnf
  refine qX (P:=λt=>gV t/\gV (wL (AY i) cs t)/\K .next ⟨VT m p i,gB (wL (AY i) cs t)⟩) ⟨pG (λX=>VU) cs _ hf,hf,hK⟩ (λX g=>?_) λX g=>⟨⟨rfl,rfl⟩,ih l (λc h=>hc c (.tail _ h)) g.2.1 g.2.2⟩;exact(λX I=>I ⟨c.n,[],h,uV _ (Jz g.1),⟨c.c,_,cH2,Jz g.1,⟨0,l,by decide,JA _ g.1,yX.mk (ab9 c) _ g.1 ⟨⟨rfl,rfl⟩,ih _ (λc h=>hc c (.tail _ h)) g.2.1 g.2.2⟩⟩⟩⟩)
def JD(m:b6)(n:H):J H->J H:=wL (AY n) m.c
def ac1:Tr:=jv (λp:MN=>[p.1.D,.list (p.1.c.map CZ),.int p.2]) (λp=>∀c∈p.1.c,kQ c.n) λp=>JD p.1 p.2
theorem bX4:aQ (aU x) (n+3) LP ac1:=jG (q:=bv6) (l:=ac0) (by kernel_rfl) ⟨Ol,U1,UY,v8,U3,cH2⟩ λp l k h hf S=>by refine bX3 (m:=p.1.D) (p:=.list (p.1.c.map CZ)) (i:=p.2) (ds:=p.1.c.map dB.d) (es:=p.1.c.map CZ) p.1.c l h hf ?_;exact S
noncomputable def FH:J (H×Tr):=[(qM,AP),(G0,Om),(G_,VQ),(LP,ac1),(uE,xN),(LO,ab8)]
def bX5(p:D):Fm:=[(bI,.C 0),(bw,.L ao),(ye,.L (N (.d p))),(bK,.L (N (.ref 1)))]
def VV(m:D)(l:J H):J O:=[.cell (N (.d m)),.inst qM [(bH,.ref 2)],.ba l]
def AZ(m:b6)(n:H)(t:J H):J H:=bC (jI m n) (JD m n (VS m n t)) t
def VW(m:b6):J H:=wL (AZ m) cV (JD m 0 [0,97,115,109,1,0,0,0])
theorem ac2{m:b6}{n:H}:jw (AZ m n):=λt h=>rZ (f:=λt=>JD m n (VS m n t)) (g:=λt=>t) h (λh=>lq t (JA _ (pG (λX=>VU) _ _ h))) λh=>h
def VX:Tr:=nZ oM (λm=>m.ok/\gV (VW m)) λm=>.d (.bytes (VW m))
theorem bX6{m:b6}{l:J H}:∀(cs:J dB)(K:J V->J O->Prop),(∀c∈cs,uP m c.b)->K (cs.map λc=>.d (CZ c)) (VV m.D l)->
  jW [jS] ah [(jS,.L ao),(bI,.C 0)] (nW (vc ⟨dO,d_ FH⟩ 38).t []) ((vc ⟨dO,d_ FH⟩ 38).e (.call (.gl 62) [.Y bI,.aG (.Y jS) rK])) (cs.map dB.d) (VV m.D l) K:=λi_=>by
 induction i_ with
 |nil=>exact λK X hK=>hK
 |cons c cs ih=>
  intro K hc hK
  show jW _ _ _ _ _ (c.d::_) _ _
  refine⟨(m,c.b),hc c (.head _),?_⟩;exact ih _ (λc h=>hc c (.tail _ h)) hK
theorem bX7:aQ (aU x) (n+11) LQ VX:=k7 (q:=bv7) (l:=FH) (by kernel_rfl) ⟨Ol,UY,ab5,bX4,ab4,bX2,cH2⟩ λm k h S=>by
 have hm:=h.1;have hf:=h.2;have hc:∀c∈m.c,kQ c.n:=λc h=>(hm.c.2 c h).1;have h0:=pG (λX=>ac2) _ _ hf;have loop:∀(ps:J H)(t:J H),(∀p∈ps,p∈cV)->gV (wL (AZ m) ps t)->k (.d (.bytes (wL (AZ m) ps t))) []->gT [bw] [bw] ah 3 ((vc ⟨dO,d_ FH⟩ 39).s vx) (ps.map fW) ⟨bX5 (.list (m.c.map CZ)),VV m.D t⟩ (yE (l8 ⟨dO,d_ FH⟩ (vc ⟨dO,d_ FH⟩ 39) (vy.drop 6)) (mJ 0 k)):=by
  intro ps;induction ps with
  |nil=>exact λt X I S=>S
  |cons p ps ih=>
   intro t hp hf S
   show gT _ _ _ _ _ (fW p::_) _ _
   refine⟨(m,p),hp p (.head _),?_⟩
   conv=>whnf
   refine qX (P:=λt=>gV t/\gV (wL (AZ m) ps t)/\k (.d (.bytes (wL (AZ m) ps t))) []) ⟨pG (λX=>ac2) _ _ hf,hf,S⟩ (λq h=>?_) λX h=>ih t (λp h=>hp p (.tail _ h)) h.2.1 h.2.2;exact⟨(m,p),t,⟨hp p (.head _),q,hm⟩,pG (λX=>VU) _ _ h.1,(m,p),_,hc,h.1,ih _ (λp h=>hp p (.tail _ h)) h.2.1 h.2.2⟩
 refine(AP.mk ⟨[0,97,115,109],[],cH2,(by decide:4<=1048576),[1,0,0,0],_,cH2,(by decide:8<=1048576),?_⟩)
 conv=>whnf
 refine bX6 m.c _ (λc h=>(hm.c.2 c h).2.2) ?_
 show iC _ _ _ _
 unfold iC;rw[E7];refine⟨(m,0),_,hc,h0,?_⟩
 conv=>whnf
 exact loop cV _ (λp h=>h) hf S
end
section
open Wh (cu)
variable{w:bU}{bJ s:aE}{x:cu w bJ s}{n p:H}
noncomputable def A0(r:Ts):Ts:=cR [0,97,115,109] (cR [1,0,0,0] r)
def ac3:Tr:=λa_ o_ k_=>∀P_:Tr,(∀(r){k},k (.d .none) [.cur r]->P_ [.ref 0] [.cur (A0 r)] k)->P_ a_ o_ k_
theorem bX8:aQ (aU x) (n+3) Lu ac3:=fc x (q:=bq4) (l:=[(BN,Fe)]) (by kernel_rfl) ⟨Oe,cH2⟩ λX I u2 g=>g _ λr X S=>⟨[0,97,115,109],_,⟨rfl,cH2⟩,[1,0,0,0],r,⟨rfl,cH2⟩,S⟩
noncomputable def pI(c:H)(p:aa):O:=.inst BJ [(bx,.ref c),(dM,.d (.int p))]
def bX9:Tr:=λa_ o_ k_=>∀P_:Tr,(∀(r){k},k (.d .none) [pI 1 (-1),.cur r]->P_ [.ref 0,.d (.bytes (c8 (A0 r)))] [.inst BJ []] k)->P_ a_ o_ k_
theorem bY0:aQ (aU x) (n+4) Zo bX9:=fc x (q:=bq7) (l:=[(qf,UX),(Lu,ac3)]) (by kernel_rfl) ⟨bI1,bX8,cH2⟩ λX I u2 g=>g _ λr X S=>⟨A0 r,(λX I=>I r S)⟩
def ac4:Tr:=λa_ o_ k_=>∀P_:Tr,(∀(r){k},k (.ref 0) [pI 1 (-1),.cur r]->P_ [.d (.bytes (c8 (A0 r)))] [] k)->P_ a_ o_ k_
theorem bY1:aQ (aU x) (n+5) BJ ac4:=(CC x bY0 (by kernel_rfl)).of λX I u2 g=>g _ λr X S=>(λX I=>I r S)
def uY:Tr:=λa_ o_ k_=>∀P_:Tr,(∀(p ts){k},k (.d (.bool (f9 (c8 ts)))) [pI 1 p,.cur ts]->P_ [.ref 0] [pI 1 p,.cur ts] k)->P_ a_ o_ k_
theorem uY.mk(p ts){k}(f5:k (.d (.bool (f9 (c8 ts)))) [pI 1 p,.cur ts]):uY [.ref 0] [pI 1 p,.cur ts] k:=λP_ c_=>c_ p ts f5
theorem bY2:aQ (aU x) (n+2) Rq uY:=fc x (q:=bq8) (l:=[(GV,Og)]) (by kernel_rfl) ⟨FX,cH2⟩ λX I u2 g=>g _ λp ts X S=>⟨ts,S⟩
structure VY(n q:H):Prop where
 e:cV[q]?=N n
 b:n<=12/\1<=n
 f:∀m,m<q->cV[m]?≠N n
def wg(p:H):Tr:=λa_ o_ k_=>∀P_:Tr,(∀(i:aa)(t r){k},cY (c8 t).length->k (.pr (.int (0:H)) 2) [pI 1 i,.cur r,.cur t]->P_ [.ref 0] [pI 1 i,.cur (cB 0 (tZ p t r))] k)->(∀(i:aa)(n q:H)(t r){k},cY (c8 t).length->VY n q->i<q->k (.pr (.int n) 2) [pI 1 q,.cur r,.cur t]->P_ [.ref 0] [pI 1 i,.cur (cB n (tZ p t r))] k)->P_ a_ o_ k_
theorem wg.c{p:H}(i:aa)(t r){k}(f5:cY (c8 t).length)(lg:k (.pr (.int (0:H)) 2) [pI 1 i,.cur r,.cur t]):wg p [.ref 0] [pI 1 i,.cur (cB 0 (tZ p t r))] k:=λP_ c_ u_=>c_ i t r f5 lg
theorem wg.sS{p:H}(i:aa)(n q:H)(t r){k}(f5:cY (c8 t).length)(lg:VY n q)(t7:i<q)(VO:k (.pr (.int n) 2) [pI 1 q,.cur r,.cur t]):wg p [.ref 0] [pI 1 i,.cur (cB n (tZ p t r))] k:=λP_ u_ c_=>c_ i n q t r f5 lg t7 VO
noncomputable def bY3(p:H):J (H×Tr):=[(qg,xH),(mF,mR p),(GX,Oh)]
theorem bY4:aQ (aU x) (n+5) Rr (wg p):=fc x (q:=bq9) (l:=bY3 p) (by kernel_rfl) ⟨yV,oO,Gc,cH2⟩ λX I u2 g=>g _
 (λi t r X ht S at_=>⟨0,_,cH2,(c8 t).length,_,ht,t,r,_,rfl,S⟩)
 λi m q t r X ht hq hi S at_=>by
  refine⟨m,_,cH2,?_⟩
  conv=>whnf
  refine jb (kq (pP.mpr (iN.mpr hq.b.1))) ⟨(c8 t).length,_,ht,t,r,_,rfl,?_⟩
  conv=>whnf
  refine AJ (bQ (!·) (kq λe=>vg 0 (aq2 hq.b.2 (zS.mp e)))) ⟨q,⟨?_,?_,tY hq.f⟩,?_⟩
  ·show(cV.map fW)[q]?=_
   rw[mC,hq.e];rfl
  ·exact gv.mpr ⟨rfl,(cB3.mpr λX I=>rfl:∀y∈cV.map fW,yC y=ah)⟩
  ·conv=>whnf
   exact jb (kq (Gn.mpr hi)) S
noncomputable def bY5:J PS:=[.dm (.Y aK) fy (.lst ak []),.dm (.Y aK) p_ (.lst ak []),.dm (.Y aK) mE (.lst ah []),.dm (.Y aK) qd (.lst ak []),.dm (.Y aK) qc (.lst ak []),.dm (.Y aK) pZ (.lst ak []),.dm (.Y aK) pY (.lst ak []),.dm (.Y aK) nR .cN,.dm (.Y aK) pX (.lst ak []),.dm (.Y aK) nO (.lst ak []),.dm (.Y aK) qK (.lst ah [])]
noncomputable def bY6:Fn:=⟨LA,bY5,pa [aK],[(aK,.local)]⟩
noncomputable def jg{α:Type}(dn:J H)(n:H)(f:α->D)(l:J α):J D:=bC (eK n dn) (l.map f) []
noncomputable def zc{α:Type}(dn:J H)(n:H)(f:α->D)(l:J α):V:=.d (.list (jg dn n f l))
noncomputable def zd(m:b6)(Z:D)(dn:J H)(a b:H):O:=.inst s7 [(fy,zc dn 1 mO m.k),(p_,zc dn 2 fh.d m.i),(mE,.ref a),(qd,zc dn 4 iZ.d m.t),(qc,zc dn 5 nE m.m),(pZ,zc dn 6 iy.d m.g),(pY,zc dn 7 ju.d m.e),(nR,.d Z),(pX,zc dn 9 dz.d m.l),(nO,zc dn 11 eV.d m.d),(qK,.ref b)]
def ac5:Tr:=λa_ o_ k_=>∀P_:Tr,(∀(m:b6){k},k (.ref 0) [zd m .none [] 1 2,.dl [],.dl []]->P_ [] [] k)->P_ a_ o_ k_
theorem bY7:aQ (aU x) (n+1) LA λargs o k=>∃m,args=[.ref 0]/\o=[.inst s7 []]/\k (.d .none) [zd m .none [] 1 2,.dl [],.dl []]:=fc x (q:=bY6) (l:=[]) (by kernel_rfl) trivial λargs o k ⟨m,h1,h2,S⟩=>by subst h1 h2;exact S
theorem bY8:aQ (aU x) (n+2) s7 ac5:=(CC x bY7 (by kernel_rfl)).of λX I u2 g=>g _ λm X S=>⟨m,rfl,rfl,S⟩
noncomputable def uZ(a:dB)(b:H):O:=.inst yk [(dX,.d (.str a.n)),(bH,.d (.bytes a.c)),(rK,.d (.int b))]
noncomputable def xO(c:dB):aa:=(j6 c.b:aa) -1
noncomputable def zY(c:dB):D:=.int (xO c)
noncomputable def FI:J dB->H
 |[]=>6
 |[X]=>7
 |X=>8
noncomputable def cuO(f:dB->H):J dB->J O->J O
 |[],r=>.dl []::r
 |[a],r=>.vl [.ref 6]::uZ a (f a)::r
 |a::b::X,r=>.vl [.ref 6,.ref 7]::uZ a (f a)::uZ b (f b)::r
noncomputable def kD(f:cW):D:=.int f.k
noncomputable def VZ(n:H)(m:b6)(q:aD)(ks:J D)(hc:aD):O:=.inst BK [(BD,.ref 1),(uC,.d (.int 50000)),(bI,.ref 3),(fy,.d (.list ks)),(GH,.d (.bool hc)),(By,.d (bC q (.int m.d.length) .none)),(GF,.ref n)]
noncomputable def f0(_:dB):H:=0
noncomputable def r9(m:b6)(Z:D)(f:dB->H)(c:J dB)(p:aa)(t:Ts)(dn:J H)(q:aD)(ks:J D)(hc:aD)(fs:J D)(z:J O):J O:=VZ (FI c) m q ks hc::pI 2 p::.cur t::zd m Z dn 4 5::.dl fs::cuO f c (.dl (c.map zY)::z)
noncomputable def qs(m:b6)(f:dB->H)(c:J dB)(p:aa)(t:Ts)(dn:J H)(z:J O):J O:=r9 m (bC (eK 8 dn) (jq m.s) .none) f c p t dn (eK 12 dn) (jg dn 3 kD m.f) (eK 10 dn) (jg dn 10 cW.d m.f) z
def bY9:Tr:=λa_ o_ k_=>∀P_:Tr,(∀(m r){k},k (.d .none) (qs m f0 [] (-1) r [] [])->P_ [.ref 0,.d (.bytes (c8 (A0 r))),.d (.int 50000)] [.inst BK []] k)->P_ a_ o_ k_
theorem bZ0:aQ (aU x) (n+6) Zp bY9:=fc x (q:=by3) (l:=[(BJ,ac4),(s7,ac5)]) (by kernel_rfl) ⟨bY1,bY8,cH2⟩ λX I u2 g=>g _ λm r X S=>(λX I=>I r (λX I=>I m S))
def JE:Tr:=λa_ o_ k_=>∀P_:Tr,(∀(m r){k},k (.ref 0) (qs m f0 [] (-1) r [] [])->P_ [.d (.bytes (c8 (A0 r))),.d (.int 50000)] [] k)->P_ a_ o_ k_
theorem JE.mk(m r){k}(f5:k (.ref 0) (qs m f0 [] (-1) r [] [])):JE [.d (.bytes (c8 (A0 r))),.d (.int 50000)] [] k:=λP_ c_=>c_ m r f5
theorem bZ1:aQ (aU x) (n+7) BK JE:=(CC x bZ0 (by kernel_rfl)).of λX I u2 g=>g _ λm r X S=>(λX I=>I m r S)
def V0:Tr:=λa_ o_ k_=>∀P_:Tr,(∀(m Z f c p t dn q ks hc fs)(i:aa){k},eK 11 dn=ah\/q=ak\/m.d=[]->k (.d .none) (r9 m Z f c p t dn q ks hc fs [])->P_ [.ref 0,.d (.int i)] (r9 m Z f c p t dn q ks hc fs []) k)->P_ a_ o_ k_
theorem ac6:aQ (aU x) (n+1) Ma V0:=fc x (q:=by7) (l:=[]) (by kernel_rfl) trivial λX I u2 g=>g _ λm Z f c p t dn q ks hc fs i k h S=>by
 induction q with
 |false=>rcases c with _|⟨a,_|⟨b,c⟩⟩<;>exact S
 |true=>
  have ne:(!decide ((m.d.length:aa)=((jg dn 11 eV.d m.d).length:H)))=ak:=by
   have e:(jg dn 11 eV.d m.d).length=m.d.length:=by
    unfold jg;rcases h with h|h|h
    ·rw[h];exact cO ..
    ·cases h
    ·rw[h];cases eK 11 dn<;>rfl
   rw[e,nL rfl];rfl
  clear h;rcases c with _|⟨a,_|⟨b,c⟩⟩<;>exact jb ne S
noncomputable def ac7(p:H):J (H×Tr):=[(mF,mR p),(GX,Oh),(L_,Ju p),(Hl,Fv p),(G3,v9),(Ae,Vs)]
noncomputable def ac8(n:H)(i:aa):Fm:=[(aK,.L (N (.ref 0))),(fK,.L (N (.ref n))),(cD,.L (N (.d (.int i)))),(dK,.L ao),(kU,.L ao),(bW,.L ao),(fy,.L ao)]
def smF(p:H)(f:cW):Prop:=cY (c8 (UU p f)).length
structure C0(p:H)(q:aD)(f:cW):Prop where
 o:f.ok
 s:smF p f
 u:q=ah\/∀i∈f.b,qm i=ak
theorem bZ2{m:b6}{Z:D}{c:J dB}{pl:aa}{t:Ts}{dn:J H}{q:aD}{ks:J D}{i:aa}{K:dZ->St->Prop}(fl:J cW):∀(acc:J D),(∀f∈fl,C0 p q f)->acc.length+fl.length<=1000->
  K .next ⟨ac8 (FI c+1) i,r9 m Z f0 c pl t dn q ks ah (acc++fl.map cW.d) [.cur []]⟩->
  gT [dK,kU,bW,fy] [bW] ah (FI c+2) ((vc ⟨dO,d_ (ac7 p)⟩ 39).s wn) (fl.map kD) ⟨ac8 (FI c+1) i,r9 m Z f0 c pl t dn q ks ah acc [.cur (tL (CL p) fl [])]⟩ K:=by
 induction fl with
 |nil=>
  intro acc _ _ h;rw[X_,j3]at h
  exact h
 |cons f fl ih=>
  intro acc hf hl h;have g:=hf f (.head _);have al:acc.length<1048576:=eZ (bR (gF ..) hl) (by decide)
  have next:=ih (acc++[f.d]) (λy h=>hf y (.tail _ h)) (by rw[f6,wB,rB _ fl.length];exact hl) (by rw[jx];exact h)
  clear h ih hl hf;rcases g with⟨o,sm,u⟩
  cases q<;>rcases c with _|⟨a,_|⟨b,c⟩⟩<;>exact⟨_,_,sm,⟨UU p f,tL (CL p) fl [],_,rfl,Ju.mk f.l (oN p f.b []) o.2.1 (Fv.mk f.b _ [] o.2.2 u (v9.mk (uW.mk f ⟨al,next⟩)))⟩⟩
inductive V1(p:H):Tr
 |mk (m Z c pl t dn q) {k}:m.ok->(∀f∈m.f,C0 p q f)->k (.d .none) (r9 m Z f0 c pl t dn q (m.f.map kD) ah (m.f.map cW.d) [.cur []])->V1 p [.ref 0,.ref (FI c+1)] (r9 m Z f0 c pl t dn q (m.f.map kD) ak [] [.cur (q7 p (CL p) m.f [])]) k
theorem bZ3:aQ (aU x) (n+10) RC (V1 p):=fc x (q:=by6) (l:=ac7 p) (by kernel_rfl) ⟨oO,Gc,bU5,PH,KF,P2,cH2⟩ λX I u2 g=>g.rec λm Z c pl t dn q k hm hf S=>by
 have hl:=hm.f.1;have ne:(!decide (((m.f.length:H):aa)=((m.f.map kD).length:H)))=ak:=by rw[cO,nL rfl];rfl
 have li:cY m.f.length:=eZ hl (by decide)
 have lp:=λat_ K=>bZ2 (m:=m) (Z:=Z) (c:=c) (pl:=pl) (t:=t) (dn:=dn) (q:=q) (ks:=m.f.map kD) (i:=at_) (K:=K) m.f [] hf (by rw[Dv,mW];exact bR hl (by decide))
 clear hm hl hf;rcases c with _|⟨a,_|⟨b,c⟩⟩<;>(
  intro at_;refine⟨m.f.length,tL (CL p) m.f [],li,?_⟩
  conv=>whnf
  refine jb ne ?_
  conv=>whnf
  exact lp at_ _ S)
inductive wh(p:H):Tr->Prop
 |k:wh p (q8 p LS No (I9 p) mO)
 |i:wh p (q8 p LU fh.ok (I_ p) fh.d)
 |f:wh p (q8 p Ei cY (cU p) dN)
 |t:wh p (q8 p Hh iZ.ok (Fc p) iZ.d)
 |m:wh p (q8 p Hi tP (CJ p) nE)
 |g:wh p (q8 p LW iy.ok (Jb p) iy.d)
 |e:wh p (q8 p LV ju.ok (Jc p) ju.d)
 |l:wh p (q8 p L7 dz.ok (CN p) dz.d)
 |d:wh p (q8 p L8 eV.ok (Je p) eV.d)
inductive V2(p:H):Tr
 |mk (T:Tr) {args o k}:wh p T->T args o k->V2 p args o k
theorem aQ.all{f:Cf}{n:H}{a:aR}{P:Tr->Prop}{T:Tr}(h0:aQ f n a T)(h:∀T,P T->aQ f n a T){ff:Tr}(hX:∀args o k,ff args o k->∃T,P T/\T args o k):aQ f n a ff:=
 ⟨h0.keep,λargs o k g=>(hX args o k g).elim λT g=>(h T g.1).sc args o k g.2⟩
theorem bZ4:aQ (aU x) (n+16) w4 (V2 p):=aQ.all (P:=wh p) (r7 (p:=p) (NA (p:=p)) rfl) (λX g=>g.rec (r7 (p:=p) NA rfl) (r7 (p:=p) bP7 rfl) (r7 (p:=p) Vl rfl) (r7 (p:=p) Mo rfl) (r7 (p:=p) M2 rfl) (r7 (p:=p) bP4 rfl) (r7 (p:=p) bM3 rfl) (r7 (p:=p) bR0 rfl) (r7 (p:=p) bQ0 rfl)) λX I u2 g=>g.rec λT X I u2 h g=>⟨T,h,g⟩
theorem ki{α:Type}{P:α->Prop}{l:J α}(h:fO 14 P l):fO 1000 P l:=⟨bR h.1 (by decide),h.2⟩
structure pre(p:H)(m:b6)(dn:J H)(n:H):Prop where
 a:n=8->∃i,m.s=N i
 b:n=10->eK 3 dn=ah/\eK 10 dn=ak/\∀f∈m.f,C0 p (eK 12 dn) f
inductive V3(p:H):Tr
 |mk (m c pl t dn n) {k}:n∈cV->m.ok->pre p m dn n->k (.d .none) (qs m f0 c pl t (n::dn) [.cur []])->V3 p [.ref 0,.d (.int n),.ref (FI c+1)] (qs m f0 c pl t dn [.cur (pF p m n)]) k
noncomputable def O1(p:H):J (H×Tr):=[(w4,V2 p),(mF,mR p),(RC,V1 p),(Ma,V0)]
theorem bZ5:aQ (aU x) (n+17) RB (V3 p):=fc x (q:=NS) (l:=O1 p) (by kernel_rfl) ⟨bZ4,oO,bZ3,ac6,cH2⟩ λX I u2 g=>g.rec λm c pl t dn n k hn hm hp=>by
 have li:cY m.d.length:=eZ hm.d.1 (by decide)
 have lm:n=8->cY (m.s.getD 0)/\jq m.s=.int (m.s.getD 0:H):=λe=>by obtain⟨i,e⟩:=hp.a e;have:=hm.s i e;rw[e];exact⟨this,rfl⟩
 have h10:n=10->(∀f∈m.f,C0 p (eK 12 dn) f)/\jg dn 3 kD m.f=m.f.map kD/\eK 10 dn=ak/\jg dn 10 cW.d m.f=[]:=λe=>by
  obtain⟨h1,h2,h3⟩:=hp.b e;refine⟨h3,?_,h2,?_⟩<;>unfold jg
  ·rw[h1];rfl
  ·rw[h2];rfl
 clear hp
 revert lm h10
 rcases c with _|⟨a,_|⟨b,c⟩⟩
 ·refine eW (P:=λn=>(n=8->cY (m.s.getD 0)/\jq m.s=.int (m.s.getD 0:H))->(n=10->(∀f∈m.f,C0 p (eK 12 dn) f)/\jg dn 3 kD m.f=m.f.map kD/\eK 10 dn=ak/\jg dn 10 cW.d m.f=[])->k (.d .none) (qs m f0 [] pl t (n::dn) [.cur []])->lK NS (O1 p) [.ref 0,.d (.int n),.ref 7] (qs m f0 [] pl t dn [.cur (pF p m n)]) k) hn ⟨λX I S=>⟨_,.k,λy=>y,m.k,[],ki hm.k,S⟩,λX I S=>⟨_,.i,λy=>y,m.i,[],ki hm.i,S⟩,λX I S=>⟨_,.f,cW.k,m.f,[],ki ⟨hm.f.1,λf h=>(hm.f.2 f h).1⟩,S⟩,λX I S=>⟨_,.t,λy=>y,m.t,[],ki hm.t,S⟩,λX I S=>⟨_,.m,λy=>y,m.m,[],ki hm.m,S⟩,λX I S=>⟨_,.g,λy=>y,m.g,[],ki hm.g,S⟩,λX I S=>⟨_,.e,λy=>y,m.e,[],ki hm.e,S⟩,λh X S=>?_,λX I S=>⟨_,.l,λy=>y,m.l,[],ki hm.l,S⟩,λX I S=>⟨m.d.length,[],li,S⟩,λX h S=>?_,λX I S at_=>⟨_,.d,⟨λy=>y,m.d,[],ki hm.d,(λX I=>I m _ f0 [] pl t (11::dn) _ _ _ _ at_ (.inl rfl) S)⟩⟩,cH2⟩
  ·have S:k (.d .none) (r9 m (jq m.s) f0 [] pl t (8::dn) (eK 12 dn) (jg dn 3 kD m.f) (eK 10 dn) (jg dn 10 cW.d m.f) [.cur []]):=S;rw[(h rfl).2]at S
   exact⟨m.s.getD 0,[],(h rfl).1,S⟩
  ·obtain⟨h1,h2,h3,h4⟩:=h rfl;have S:k (.d .none) (r9 m (bC (eK 8 dn) (jq m.s) .none) f0 [] pl t dn (eK 12 dn) (jg dn 3 kD m.f) ah (m.f.map cW.d) [.cur []]):=S;rw[h2]at S
   unfold qs;rw[h2,h3,h4];exact⟨m,_,[],pl,t,dn,eK 12 dn,hm,h1,S⟩
 ·refine eW (P:=λn=>(n=8->cY (m.s.getD 0)/\jq m.s=.int (m.s.getD 0:H))->(n=10->(∀f∈m.f,C0 p (eK 12 dn) f)/\jg dn 3 kD m.f=m.f.map kD/\eK 10 dn=ak/\jg dn 10 cW.d m.f=[])->k (.d .none) (qs m f0 [a] pl t (n::dn) [.cur []])->lK NS (O1 p) [.ref 0,.d (.int n),.ref 8] (qs m f0 [a] pl t dn [.cur (pF p m n)]) k) hn ⟨λX I S=>⟨_,.k,λy=>y,m.k,[],ki hm.k,S⟩,λX I S=>⟨_,.i,λy=>y,m.i,[],ki hm.i,S⟩,λX I S=>⟨_,.f,cW.k,m.f,[],ki ⟨hm.f.1,λf h=>(hm.f.2 f h).1⟩,S⟩,λX I S=>⟨_,.t,λy=>y,m.t,[],ki hm.t,S⟩,λX I S=>⟨_,.m,λy=>y,m.m,[],ki hm.m,S⟩,λX I S=>⟨_,.g,λy=>y,m.g,[],ki hm.g,S⟩,λX I S=>⟨_,.e,λy=>y,m.e,[],ki hm.e,S⟩,λh X S=>?_,λX I S=>⟨_,.l,λy=>y,m.l,[],ki hm.l,S⟩,λX I S=>⟨m.d.length,[],li,S⟩,λX h S=>?_,λX I S at_=>⟨_,.d,⟨λy=>y,m.d,[],ki hm.d,(λX I=>I m _ f0 [a] pl t (11::dn) _ _ _ _ at_ (.inl rfl) S)⟩⟩,cH2⟩
  ·have S:k (.d .none) (r9 m (jq m.s) f0 [a] pl t (8::dn) (eK 12 dn) (jg dn 3 kD m.f) (eK 10 dn) (jg dn 10 cW.d m.f) [.cur []]):=S;rw[(h rfl).2]at S
   exact⟨m.s.getD 0,[],(h rfl).1,S⟩
  ·obtain⟨h1,h2,h3,h4⟩:=h rfl;have S:k (.d .none) (r9 m (bC (eK 8 dn) (jq m.s) .none) f0 [a] pl t dn (eK 12 dn) (jg dn 3 kD m.f) ah (m.f.map cW.d) [.cur []]):=S;rw[h2]at S
   unfold qs;rw[h2,h3,h4];exact⟨m,_,[a],pl,t,dn,eK 12 dn,hm,h1,S⟩
 ·refine eW (P:=λn=>(n=8->cY (m.s.getD 0)/\jq m.s=.int (m.s.getD 0:H))->(n=10->(∀f∈m.f,C0 p (eK 12 dn) f)/\jg dn 3 kD m.f=m.f.map kD/\eK 10 dn=ak/\jg dn 10 cW.d m.f=[])->k (.d .none) (qs m f0 (a::b::c) pl t (n::dn) [.cur []])->lK NS (O1 p) [.ref 0,.d (.int n),.ref 9] (qs m f0 (a::b::c) pl t dn [.cur (pF p m n)]) k) hn ⟨λX I S=>⟨_,.k,λy=>y,m.k,[],ki hm.k,S⟩,λX I S=>⟨_,.i,λy=>y,m.i,[],ki hm.i,S⟩,λX I S=>⟨_,.f,cW.k,m.f,[],ki ⟨hm.f.1,λf h=>(hm.f.2 f h).1⟩,S⟩,λX I S=>⟨_,.t,λy=>y,m.t,[],ki hm.t,S⟩,λX I S=>⟨_,.m,λy=>y,m.m,[],ki hm.m,S⟩,λX I S=>⟨_,.g,λy=>y,m.g,[],ki hm.g,S⟩,λX I S=>⟨_,.e,λy=>y,m.e,[],ki hm.e,S⟩,λh X S=>?_,λX I S=>⟨_,.l,λy=>y,m.l,[],ki hm.l,S⟩,λX I S=>⟨m.d.length,[],li,S⟩,λX h S=>?_,λX I S at_=>⟨_,.d,⟨λy=>y,m.d,[],ki hm.d,(λX I=>I m _ f0 (a::b::c) pl t (11::dn) _ _ _ _ at_ (.inl rfl) S)⟩⟩,cH2⟩
  ·have S:k (.d .none) (r9 m (jq m.s) f0 (a::b::c) pl t (8::dn) (eK 12 dn) (jg dn 3 kD m.f) (eK 10 dn) (jg dn 10 cW.d m.f) [.cur []]):=S;rw[(h rfl).2]at S
   exact⟨m.s.getD 0,[],(h rfl).1,S⟩
  ·obtain⟨h1,h2,h3,h4⟩:=h rfl;have S:k (.d .none) (r9 m (bC (eK 8 dn) (jq m.s) .none) f0 (a::b::c) pl t dn (eK 12 dn) (jg dn 3 kD m.f) ah (m.f.map cW.d) [.cur []]):=S;rw[h2]at S
   unfold qs;rw[h2,h3,h4];exact⟨m,_,a::b::c,pl,t,dn,eK 12 dn,hm,h1,S⟩
end
section
open Wh (cu)
noncomputable def O2:V->aD
 | .d .none=>ah
 | .d (.bool X)=>ah
 | .d (.int X)=>ah
 | .d (.str X)=>ah
 |X=>ak
def bZ6(o:J O)(k:V->J O->Prop)(v:V)(o':J O):Prop:=o'=[]/\O2 v=ah/\k v o
inductive O3(T:Tr)(args:J V)(o:J O)(k:V->J O->Prop):Prop
 |mk (ds:J D):args.map (tC o 20)=ds.map N->tw (len o) (Al args++lU o)=ah->T (ds.map .d) [] (bZ6 o k)->O3 T args o k
theorem bZ7{w:bU}{r r':bP}{F F':bN}{v:V}{u:aA}(h:O2 v=ah)(y:VR w r F v u):VR w r' F' v u:=
 y.rec (motive:=λv u X=>O2 v=ah->VR w r' F' v u) (λy=>y.out.rec (motive:=λx u X=>O2 (.d x)=ah->VR w r' F' (.d x) u) (λX=>.d .none) (λX=>.d .bool) (λX=>.d .int) (λX=>.d .str) (λX=>gr) gr (λX I u2=>gr) (λX I u2=>gr) λX I u2 u3=>gr) (λX=>gr) (λX I u2=>gr) (λX I u2=>gr) (λX I u2=>gr) h
theorem bZ8{f:Cf}{n:H}{g:aA}{T:Tr}(h:SC f n g T):SC f n g (O3 T):=by
 intro args o k ⟨ds,he,h0,hT⟩ A s F E r ws ok el m y;have nB:=Cb.mp h0;rw[nc]at nB
 have sl:=FZ.le (h:=s.heap) m.jf;have y':gh f.w [] (FZ (own (r.zip o)) s.heap F) (ds.map .d) ws:=by
  have hl:∀a∈Al args,a<o.length:=λa ha=>nB a (iM _ ha);have cl:∀a∈lU o,a<o.length:=λa ha=>nB a (kj _ ha);clear hT h0 nB;induction y generalizing ds with
  |nil=>induction ds using eT with|nil=>exact .nil|cons X I=>cases he
  |cons y1 y2 ih=>
   induction ds using eT with
   |nil=>cases he
   |cons d ds=>obtain⟨e1,e2⟩:=PB he;exact .cons (.d (de m el cl (λa ha=>hl a (iM _ ha)) y1 e1)) (ih ds e2 λa ha=>hl a (kj _ ha))
 refine gG (h _ _ _ hT A s _ E [] ws ok rfl m.dk y') (λu s' p=>?_) λX I z=>z;obtain⟨v,o',r',tN,⟨rfl,hs,S⟩,yv,l,m2,t⟩:=p;exact⟨v,o,r,F,S,bZ7 hs yv,el,⟨λa x e=>m2.sub a x (t.grow a x (sl a x e)),m.base,λp hp=>(m.live p hp).step (.refl _) (.refl _) λb hb x e=>m2.sub b x (t.grow b x (FZ.at_ (rz.mpr ⟨p,hp,hb⟩) e)),m.jf,m.nd⟩,
  ⟨.refl _,t.same,.refl _,λX I e=>.inl e,λX h=>.inl h,λa x X e=>t.kept a x vt e⟩⟩
theorem aQ.bZ9{f:Cf}{n:H}{a:aR}{T:Tr}(h:aQ f n a T):aQ f n a (O3 T):=⟨h.keep,bZ8 h.sc⟩
variable{w:bU}{bJ s:aE}
def ca0(k:V->J O->Prop)(v:V)(o:J O):Prop:=∃x,tC o 20 v=N x/\tw (len o) (v.refs++lU o)=ah/\k (.d x) []
inductive V4(T:Tr)(args:J V)(o:J O)(k:V->J O->Prop):Prop
 |mk:o=[]->T args [] (ca0 k)->V4 T args o k
theorem ca1{f:Cf}{n:H}{g:aA}{T:Tr}(h:SC f n g T):SC f n g (V4 T):=by
 intro args o k ⟨ho,hT⟩ A s F E r ws ok el m y;subst ho;obtain rfl:r=[]:=Xy.mp el;refine gG (h _ _ _ hT A s F E [] ws ok rfl m y) (λu s' p=>?_) λX I z=>z;obtain⟨v,o,r,F',⟨x,he,nB,S⟩,yv,el,m,t⟩:=p;have nB:=Cb.mp nB;rw[nc]at nB
 exact⟨.d x,[],[],_,S,.d (de m el (λa h=>nB a (kj _ h)) (λa h=>nB a (iM _ h)) yv he),rfl,m.dk,
  ⟨.refl _,t.same,t.grow.trans (FZ.le m.jf),λa z e=>(FZ.cs e).elim (λe=>.inr (t.tK a e.1)) (t.vP a z),λa ha=>(vt ha).elim,t.kept⟩⟩
theorem aQ.HW{f:Cf}{n:H}{a:aR}{T:Tr}(h:aQ f n a T):aQ f n a (V4 T):=⟨h.keep,ca1 h.sc⟩
end
section
open Wh (cu)
variable{w:bU}{bJ s:aE}{x:cu w bJ s}{n p:H}
noncomputable def ac9(p c:H)(i:aa):J D:=bC (jj (bX c 114) (bz (bX c 98) (decide (i<0)))) [.int (128+i)] (bC (jj (bX c 117) (bX c 97)) (oF p i.toNat) (fJ (tS (bC (bX c 105) 32 (bC (bX c 108) 64 33)) p i).oct))
noncomputable def FJ(p:H)(t:J D)(i:aa):J D:=t++oF p i.toNat
noncomputable def pJ(p:H)(all:J aa):J H->J aa->J D->J D
 |[],X,t=>t
 |c::l,a,t=>bC (bX c 122) (pJ p all l a (t++[.int 0])) (bC (bX c 107) (pJ p all l a (t++oK p all)) (bC (bX c 116) (pJ p all l a (all.foldl (FJ p) (t++oF p (all.length -1)))) (pJ p all l a.tail (t++ac9 p c (a.headD 0)))))
noncomputable def V5(p:H)(c:aa):J D:=bC (decide (c<64512)) [.int c] ([.int 252]++oF p (c -64512).toNat)
noncomputable def FL(p:H)(t:J D)(i:fj):J D:=pJ p i.a (n_ i.c) i.a (t++V5 p i.c)
noncomputable def lN(p:H)(b:iR)(t:J D):J D:=b.foldl (FL p) t
def ze:Tr:=λa_ o_ k_=>∀P_:Tr,(∀(n p:H)(z:aa){k},z=n->cY n->k (.d (.list (oF p n))) []->P_ [.d (.int z),.d (.int p)] [] k)->P_ a_ o_ k_
theorem A1:aQ (aU x) (n+2) s9 ze:=V'.HW.of λX I u2 g=>g _ λn p z k e h S=>⟨rfl,(λX I=>I n p z e h ⟨_,rfl,rfl,S⟩)⟩
noncomputable def ad0:J (H×Tr):=[(s9,ze),(Mm,W'),(Hw,VL),(Ml,Wp)]
noncomputable def O4(b d:D)(p:H)(c:aa)(pl:aa):Fm:=[(dK,.L (N (.d b))),(cy,.L (N (.d (.int p)))),(d8,.L (N (.d (.int c)))),(lT,.L (N (.d d))),(uB,.L ao),(i7,.L ao),(bw,.L ao),(bH,.L (N (.ref 0))),(dM,.L (N (.d (.int pl))))]
theorem ad1{b:D}{c:aa}{K:dZ->St->Prop}{ls:J H}{a:J aa}(h:j5 ls a)(t:J D):dG (pJ p a ls a t)->(∀pl,K .next ⟨O4 b (.tup (.int c::a.map .int)) p c pl,[.dl (pJ p a ls a t)]⟩)->
  gT [uB,i7,bw] [i7] ah 1 ((vc ⟨dO,d_ ad0⟩ 38).s xn) (ls.map N3) ⟨O4 b (.tup (.int c::a.map .int)) p c 1,[.dl t]⟩ K:=by
 have l2:(1:aa)<((2:H):aa):=by decide
 have l31:(1:aa)<((3:H):aa):=by decide
 have l32:(2:aa)<((3:H):aa):=by decide
 cases h with
 |o=>exact λX hK=>hK 1
 |z=>exact λhf hK=>⟨za hf,hK 1⟩
 |zz=>exact λhf hK=>⟨za (cZ hf),za hf,hK 1⟩
 |u h=>exact λhf hK=>⟨by decide,l2,oh rfl (λX I=>I _ p _ rfl h ⟨dW hf,hK 2⟩)⟩
 |i h=>exact λhf hK=>⟨by decide,l2,oh rfl ⟨_,⟨rfl,(λX I=>I _ 32 p (.head _) h ⟨dW hf,hK 2⟩)⟩⟩⟩
 |l h=>exact λhf hK=>⟨by decide,l2,oh rfl ⟨_,⟨rfl,(λX I=>I _ 64 p (.tail _ (.tail _ (.head _))) h ⟨dW hf,hK 2⟩)⟩⟩⟩
 |r h=>exact λhf hK=>⟨by decide,l2,oh rfl ⟨za hf,hK 2⟩⟩
 |k h g=>exact λhf hK=>⟨⟨zU _,iN.mpr (jc _)⟩,(λX I=>I a p (eZ h (by decide)) (fC hf) ⟨dW hf,hK 1⟩)⟩
 |@t i a h g=>
  intro hf hK;have e2:(((D.int c::((i::a).map sL).map D.int).length:H):aa) -2=(((i::a).map (sL:H->aa)).length -1:H):=by rw[zK,cO,cO];exact uh (a.length:aa) 2
  have l0:cY (((i::a).map (sL:H->aa)).length -1):=by rw[cO];exact eZ h (by decide)
  have fit:∀(ys:J aa)(t:J D),dG (ys.foldl (FJ p) t)->dG t:=λys=>by
   induction ys with
   |nil=>exact λX h=>h
   |cons y ys ih=>exact λt h=>cZ (ih _ h)
  refine(λX I=>I _ p _ e2 l0 ⟨dW (fit _ _ hf),⟨zU _,iN.mpr (jc _)⟩,?_⟩);refine tQ (AK (f:=D.int) (w:=FJ p) (bM:=λz=>⟨[(dK,.L (N (.d b))),(cy,.L (N (.d (.int p)))),(d8,.L (N (.d (.int c)))),(lT,.L (N (.d (.tup (.int c::((i::a).map sL).map .int))))),(uB,.L ao),(i7,.L (N (.d (N3 116)))),(bw,.L ao),(bH,.L (N (.ref 0))),(dM,.L (N (.d (.int 1))))],[.dl z]⟩) (bG:=λys z=>dG (ys.foldl (FJ p) z)/\∀y∈ys,∃n:H,y=n/\cY n) (λy ys z next hI hn=>?_) ((i::a).map sL) _ ⟨hf,λy hy=>?_⟩ λX=>?_)
  ·obtain⟨j,e,hj⟩:=hI.2 y (.head _);subst e;exact(λX I=>I j p _ rfl hj ⟨dW (fit ys _ hI.1),hn ⟨hI.1,λy h=>hI.2 y (.tail _ h)⟩⟩)
  ·obtain⟨j,hj,rfl⟩:=qA.mp hy;exact⟨j,rfl,g j hj⟩
  ·exact hK 1
 |@b i h=>
  intro hf hK;have hS:decide (i<0)=ak->ql 33 i:=λq=>by
   cases h with
   |e=>cases q
   |k h=>exact absurd (eW (P:=λi:aa=>i<0) h ⟨by decide,by decide,by decide,by decide,cH2⟩) (sJ q)
   |x h=>exact⟨ji (by decide) nn,dF.mpr h⟩
  have g:dG (t++bC (decide (i<0)) [.int (128+i)] (fJ (tS 33 p i).oct))/\∀pl,K .next ⟨O4 b (.tup [.int c,.int i]) p c pl,[.dl (t++bC (decide (i<0)) [.int (128+i)] (fJ (tS 33 p i).oct))]⟩:=⟨hf,hK⟩;refine⟨by decide,l2,λy hy=>?_⟩
  cases hy
  conv=>whnf
  exact qX (P:=λl=>dG (t++l)/\∀pl,K .next ⟨O4 b (.tup [.int c,.int i]) p c pl,[.dl (t++l)]⟩) g (λX g=>⟨za g.1,g.2 2⟩) λq g=>⟨_,⟨rfl,(λX I=>I i 33 p (.tail _ (.head _)) (hS q) ⟨dW g.1,g.2 2⟩)⟩⟩
 |uz h=>exact λhf hK=>⟨by decide,l2,oh rfl (λX I=>I _ p _ rfl h ⟨dW (cZ hf),za hf,hK 2⟩)⟩
 |uu h g=>exact λhf hK=>⟨by decide,l31,oh rfl (λX I=>I _ p _ rfl h ⟨dW (cZ hf),by decide,l32,λy hy=>by cases hy;exact(λX I=>I _ p _ rfl g ⟨dW hf,hK 3⟩)⟩)⟩
 |au h g=>exact λhf hK=>⟨by decide,l31,oh rfl (λX I=>I _ p _ rfl (mD h (by decide)) ⟨dW (cZ hf),by decide,l32,λy hy=>by cases hy;exact(λX I=>I _ p _ rfl g ⟨dW hf,hK 3⟩)⟩)⟩
theorem ca2:kP (λc=>decide (c<65536)) (11::5::qF)=ah:=by kernel_rfl
structure ca3(i:fj):Prop where
 l:j5 (n_ i.c) i.a
 c:i.c<65536
theorem V6{i:fj}(h:i.mP):ca3 i:=by
 cases h with
 |i h=>exact⟨h.a,gy (lE ca2 _ (.tail _ (.tail _ h.c)))⟩
 |e=>exact⟨(show n_ 11=[] by decide)▸ .o,by decide⟩
 |l=>exact⟨(show n_ 5=[] by decide)▸ .o,by decide⟩
theorem ad2{ls:J H}{a:J aa}(h:j5 ls a):ls.length<=1048576:=by cases h<;>decide
theorem O5{all:J aa}:∀(ls:J H)(a:J aa)(t:J D),dG (pJ p all ls a t)->dG t:=λi_=>by
 induction i_ with
 |nil=>exact λX I h=>h
 |cons c ls ih=>
  intro a t h;have h:dG (bC (bX c 122) (pJ p all ls a (t++[.int 0])) (bC (bX c 107) (pJ p all ls a (t++oK p all)) (bC (bX c 116) (pJ p all ls a (all.foldl (FJ p) (t++oF p (all.length -1)))) (pJ p all ls a.tail (t++ac9 p c (a.headD 0)))))):=h;have fit:∀(ys:J aa)(t:J D),dG (ys.foldl (FJ p) t)->dG t:=λys=>by
   induction ys with
   |nil=>exact λX h=>h
   |cons y ys ih=>exact λt h=>cZ (ih _ h)
  revert h
  cases bX c 122 with
  |true=>exact λh=>cZ (ih _ _ h)
  |false=>cases bX c 107 with
   |true=>exact λh=>cZ (ih _ _ h)
   |false=>cases bX c 116 with
    |true=>exact λh=>cZ (fit _ _ (ih _ _ h))
    |false=>exact λh=>cZ (ih _ _ h)
theorem ca4:∀(ys:iR)(t:J D),dG (ys.foldl (FL p) t)->dG t:=λi_=>by
 induction i_ with
 |nil=>exact λX h=>h
 |cons i ys ih=>exact λt h=>cZ (O5 _ _ _ (ih _ h))
def JF:Tr:=λa_ o_ k_=>∀P_:Tr,(∀(b:iR)(p:H){k},(∀i∈b,i.mP)->dG (lN p b [])->k (.d (.list (lN p b []))) []->P_ [.d (gA b),.d (.int p)] [] k)->P_ a_ o_ k_
theorem O6:aQ (aU x) (n+5) BX JF:=fc x (q:=bB5) (l:=ad0) (by kernel_rfl) ⟨A1,bT7,WP,bT1,cH2⟩ λX I u2 g=>g _ λb p k hb hf S=>by
 refine AK (f:=fj.d) (w:=FL p) (bM:=λt=>⟨[(dK,.L (N (.d (gA b)))),(cy,.L (N (.d (.int p)))),(d8,.L ao),(lT,.L ao),(uB,.L ao),(i7,.L ao),(bw,.L ao),(bH,.L (N (.ref 0))),(dM,.L ao)],[.dl t]⟩) (bG:=λys t=>dG (ys.foldl (FL p) t)/\∀i∈ys,i.mP) (λi ys t next hI hn=>?_) b [] ⟨hf,hb⟩ λX=>?_
 ·have iL:=V6 (hI.2 i (.head _));have g:=hn ⟨hI.1,λi h=>hI.2 i (.tail _ h)⟩;have hf:=ca4 ys _ hI.1
  revert g hf
  unfold FL V5;obtain⟨c,a⟩:=i;have hl:j5 (n_ c) a:=iL.l;have hc:c<65536:=iL.c;clear hI hn iL S;generalize hL:n_ c=ls at hl
  intro g hf;have g:dG (pJ p a ls a (t++bC (decide (c<64512)) [.int c] ([.int 252]++oF p (c -64512).toNat)))/\next ⟨[(dK,.L (N (.d (gA b)))),(cy,.L (N (.d (.int p)))),(d8,.L ao),(lT,.L ao),(uB,.L ao),(i7,.L ao),(bw,.L ao),(bH,.L (N (.ref 0))),(dM,.L ao)],[.dl (pJ p a ls a (t++bC (decide (c<64512)) [.int c] ([.int 252]++oF p (c -64512).toNat)))]⟩:=by exact⟨hf,g⟩
  clear hf
  conv=>whnf
  refine qX (P:=λl=>dG (pJ p a ls a (t++l))/\next ⟨[(dK,.L (N (.d (gA b)))),(cy,.L (N (.d (.int p)))),(d8,.L ao),(lT,.L ao),(uB,.L ao),(i7,.L ao),(bw,.L ao),(bH,.L (N (.ref 0))),(dM,.L ao)],[.dl (pJ p a ls a (t++l))]⟩) g (λq g=>⟨dW (O5 ls a _ g.1),(λX I=>I c ls hL ⟨ad2 hl,?_⟩)⟩) λq g=>?_
  ·refine ad1 hl _ g.1 λpl=>?_;exact g.2
  ·have q:=pP.mp (sJ q);have e:=Bo (QE q);have lt:cY (c -64512).toNat:=dF.mp (e.symm▸Qt (Int.sub_le_self c (by decide)) (sN hc (by decide)))
   refine(λX I=>I ((c -64512).toNat) p _ e.symm lt ⟨dW (fC (O5 ls a _ g.1)),⟨dW (O5 ls a _ g.1),(λX I=>I c ls hL ⟨ad2 hl,?_⟩)⟩⟩);refine ad1 hl _ g.1 λpl=>?_;exact g.2
 ·exact S
noncomputable def A2(p:H):qk->J D
 |(a,ao)=>[.int 0]++oF p a
 |(a,N m)=>[.int 1]++oF p a++oF p m
def V7:Tr:=λa_ o_ k_=>∀P_:Tr,(∀(l:qk)(p:H){k},tP l->dG (A2 p l)->k (.d (.list (A2 p l))) []->P_ [.d (nE l),.d (.int p)] [] k)->P_ a_ o_ k_
theorem ad3:aQ (aU x) (n+3) Hx V7:=fc x (q:=bB6) (l:=[(s9,ze)]) (by kernel_rfl) ⟨A1,cH2⟩ λX I u2 g=>g _ λl p k h hf S=>by
 obtain⟨a,m⟩:=l;induction m with
 |none=>exact(λX I=>I a p _ rfl h.1 ⟨dW hf,S⟩)
 |some m=>exact(λX I=>I a p _ rfl h.1 ⟨dW (cZ hf),(λX I=>I m p _ rfl (h.2 m rfl) ⟨dW hf,S⟩)⟩)
noncomputable def JG(p:H)(i:fh):J D:=match i.a with
 | .f a=>oW p i.p++oW p i.n++[.int (0:H)]++oF p a
 | .t t=>oW p i.p++oW p i.n++[.int (1:H)]++[.int (128+t.k)]++A2 p t.l
 | .m l=>oW p i.p++oW p i.n++[.int (2:H)]++A2 p l
 | .g g=>oW p i.p++oW p i.n++[.int (3:H)]++[.int (128+g.k),.int g.m]
def ad4:Tr:=λa_ o_ k_=>∀P_:Tr,(∀(i:fh)(p:H){k},i.ok->dG (JG p i)->k (.d (.list (JG p i))) []->P_ [.d i.d,.d (.int p)] [] k)->P_ a_ o_ k_
noncomputable def ca5:J (H×Tr):=[(En,OW),(s9,ze),(Hx,V7)]
theorem ca6:aQ (aU x) (n+5) Mn ad4:=fc x (q:=bB7) (l:=ca5) (by kernel_rfl) ⟨VK,A1,ad3,cH2⟩ λX I u2 g=>g _ λi p k h hf S=>by
 obtain⟨y,z,a⟩:=i;obtain⟨h1,h2,h3⟩:=h;induction a with
 |f a=>exact(λX I=>I y p h1 (cZ (cZ (cZ hf))) (λX I=>I z p h2 (fC (cZ (cZ hf))) ⟨dW (cZ (cZ hf)),⟨dW (cZ hf),(λX I=>I a p _ rfl h3 ⟨dW hf,S⟩)⟩⟩))
 |t t=>exact(λX I=>I y p h1 (cZ (cZ (cZ (cZ hf)))) (λX I=>I z p h2 (fC (cZ (cZ (cZ hf)))) ⟨dW (cZ (cZ (cZ hf))),⟨dW (cZ (cZ hf)),⟨dW (cZ hf),⟨⟨zU _,iN.mpr (jc _)⟩,(λX I=>I t.l p h3.2 (fC hf) ⟨dW hf,S⟩)⟩⟩⟩⟩))
 |m l=>exact(λX I=>I y p h1 (cZ (cZ (cZ hf))) (λX I=>I z p h2 (fC (cZ (cZ hf))) ⟨dW (cZ (cZ hf)),⟨dW (cZ hf),(λX I=>I l p h3 (fC hf) ⟨dW hf,S⟩)⟩⟩))
 |g g=>exact(λX I=>I y p h1 (cZ (cZ (cZ hf))) (λX I=>I z p h2 (fC (cZ (cZ hf))) ⟨dW (cZ (cZ hf)),dW (cZ hf),dW hf,S⟩))
noncomputable def V8(p:H)(e:eV):J D:=oL p (e.c.map pH)
noncomputable def JH(p:H)(e:eV):J D:=match e.o with
 |none=>oF p 1++V8 p e
 |some o=>bC (bz (decide ((o.1:aa)=0)) (decide ((p:aa)=0))) ([.int (0:H)]++lN p o.2 []++V8 p e) (oF p 2++oF p o.1++lN p o.2 []++V8 p e)
def ad5:Tr:=λa_ o_ k_=>∀P_:Tr,(∀(e:eV)(p:H){k},e.ok->dG (JH p e)->k (.d (.list (JH p e))) []->P_ [.d e.d,.d (.int p)] [] k)->P_ a_ o_ k_
noncomputable def ca7:J (H×Tr):=[(w5,AW),(s9,ze),(BX,JF)]
theorem ca8:aQ (aU x) (n+6) Mr ad5:=fc x (q:=bC0) (l:=ca7) (by kernel_rfl) ⟨FE,A1,O6,cH2⟩ λX I u2 g=>g _ λe p k h hf S=>by
 obtain⟨o,c⟩:=e;have lc:cY (c.map pH).length:=by rw[cO];exact eZ h.2.1 (by decide)
 have e1:c.map (λi:H=>D.list (pH i))=(c.map pH).map .list:=(n9 ..).symm;induction o with
 |none=>refine pB (f:=λi:H=>.int i) (g:=λi:H=>.list (pH i)) (o:=[]) (λi k h=>h) c ?_;rw[e1];exact(λX I=>I (c.map pH) p lc (fC hf) (λX I=>I 1 p _ rfl (cC2 (by decide)) ⟨dW hf,S⟩))
 |some o=>
  obtain⟨m,b⟩:=o;have hm:=h.1 (m,b) rfl;refine pB (f:=λi:H=>.int i) (g:=λi:H=>.list (pH i)) (o:=[]) (λi k h=>h) c ?_;rw[e1];have g:∀l,bC (bz (decide ((m:aa)=0)) (decide ((p:aa)=0))) ([.int (0:H)]++lN p b []++oL p (c.map pH)) (oF p 2++oF p m++lN p b []++oL p (c.map pH))=l->dG l/\k (.d (.list l)) []:=λl e=>e▸⟨hf,S⟩;have fl:dG (oL p (c.map pH)):=by
   revert g
   cases bz (decide ((m:aa)=0)) (decide ((p:aa)=0))with
   |true=>exact λg=>fC (g _ rfl).1
   |false=>exact λg=>fC (g _ rfl).1
  have g:=g _ rfl;refine(λX I=>I (c.map pH) p lc fl ?_)
  conv=>whnf
  have b2:cY 2:=cC2 (by decide)
  refine Uv (P:=λl=>dG l/\k (.d (.list l)) []) g (λg=>(λX I=>I b p hm.2.ins (fC (cZ g.1)) ⟨dW (cZ g.1),dW g.1,g.2⟩)) (λg=>?_) λg=>?_
  ·exact(λX I=>I 2 p _ rfl b2 (λX I=>I m p _ rfl hm.1 ⟨dW (cZ (cZ g.1)),(λX I=>I b p hm.2.ins (fC (cZ g.1)) ⟨dW (cZ g.1),dW g.1,g.2⟩)⟩))
  ·exact(λX I=>I 2 p _ rfl b2 (λX I=>I m p _ rfl hm.1 ⟨dW (cZ (cZ g.1)),(λX I=>I b p hm.2.ins (fC (cZ g.1)) ⟨dW (cZ g.1),dW g.1,g.2⟩)⟩))
noncomputable def vd(p:H)(e8:aD)(w:H):J D:=bC e8 (oF p w) (oF p (w+4))
noncomputable def zf(e8:aD)(k:aa):J D:=bC e8 [.int 0] [.int (128+k)]
noncomputable def pK(p:H)(e8:aD)(e:dz):J (J D):=bC e8 (e.i.map λi=>oF p i.x) (e.i.map λi=>lN p (i.b e.k) [])
noncomputable def O7(p:H)(e:dz)(e8:aD):J D:=match e.m with
 | .p=>vd p e8 1++zf e8 e.k++oL p (pK p e8 e)
 | .d=>vd p e8 3++zf e8 e.k++oL p (pK p e8 e)
 | .a t b=>bC (bz (decide ((t:aa)=0)) (bz (decide (e.k=-16)) (decide ((p:aa)=0)))) (vd p e8 0++lN p b []++oL p (pK p e8 e)) (vd p e8 2++oF p t++lN p b []++zf e8 e.k++oL p (pK p e8 e))
noncomputable def C1(p:H)(e:dz):J D:=O7 p e (bz (!lM e) (!decide ((p:aa)=1)))
def ad6:Tr:=λa_ o_ k_=>∀P_:Tr,(∀(e:dz)(p:H){k},e.ok->dG (C1 p e)->k (.d (.list (C1 p e))) []->P_ [.d e.d,.d (.int p)] [] k)->P_ a_ o_ k_
noncomputable def V9:J (H×Tr):=[(s9,ze),(BX,JF),(w5,AW)]
noncomputable def zg(e:dz)(ii:aD)(kd oc pa wy:bq D):Fm:=[(oi,.L (N (.d e.d))),(cy,.C 0),(Le,.L (N (.d (.bool ii)))),(bW,.L (kd.map .d)),(bH,.L (oc.map .d)),(lH,.L (pa.map .d)),(gS,.L (wy.map .d))]
def zh(j:H)(k:V->J O->Prop)(p:H)(M:Fm):Prop:=l8 ⟨dO,d_ V9⟩ (vc ⟨dO,d_ V9⟩ 39) (xv.drop j) ⟨M,[.cell (N (.d (.int p)))]⟩ (mJ 0 k)
theorem ca9{A B:aD}{P:aD->Prop}{ff lZ eF:Prop}(h:P (bz A B))(f:A=ah->P ah->ff)(g:P ak->lZ)(g':P ak->eF):@Bool.rec (λX=>Prop) eF (@Bool.rec (λX=>Prop) lZ ff B) A:=by
 cases A
 ·exact g' h
 ·cases B;exact g h;exact f rfl h
theorem br3{A B C:aD}{P:aD->Prop}{ff Y1 Y2 Y3:Prop}(h:P (bz A (bz B C)))(f:P ah->ff)(g1:P ak->Y1)(g2:P ak->Y2)(g3:P ak->Y3):@Bool.rec (λX=>Prop) Y1 (@Bool.rec (λX=>Prop) Y2 (@Bool.rec (λX=>Prop) Y3 ff C) B) A:=by
 cases A
 ·exact g1 h
 ·cases B
  ·exact g2 h
  ·cases C;exact g3 h;exact f h
theorem ad7{e:dz}(h:lM e=ak):e.k=-16/\∀i∈e.i,nf i=ak:=by
 have g:=aq0.mp h;refine⟨?_,λi hi=>?_⟩
 ·have:=g.1;cases q:decide (e.k=-16)with
  |true=>exact gy q
  |false=>rw[q]at this;cases this
 ·cases q:nf i with
  |false=>rfl
  |true=>have:=g.2;rw[wD.mpr ⟨i,hi,q⟩]at this;cases this
theorem O8:∀(ps:J (J D))(a:J D),dG (ps.foldl app a)->∀q∈ps,dG q
 |b::ps,a,h,q,hq=>by
  rcases iV.mp hq with e|hq
  ·rw[e];exact fC (VI ps (a++b) h)
  ·exact O8 ps _ h q hq
theorem V_{α:Type}{F:α->J D}{l:J α}:l.map (λa=>D.list (F a))=(l.map F).map .list:=(n9 ..).symm
theorem cb0{α:Type}{F:α->J D}{l:J α}(h:l.length<=2):cY (l.map F).length:=by rw[cO];exact eZ h (by decide)
theorem O9{e:dz}{k:V->J O->Prop}(h:e.ok){ii:aD}(hi:ii=!lM e)(w:H)(hw:cY (w+4)){J0:aD}(hJ:J0=bz ii (!decide ((p:aa)=1)))(hf:dG (oL p (pK p J0 e)))
  (go:zh 4 k p (zg e ii (N (.list (zf J0 e.k))) (N (.list (vd p J0 w))) (N (.list ((pK p J0 e).map .list))) (N (.int w)))):zh 3 k p (zg e ii ao ao ao (N (.int w))):=by
 have g:dG (oL p (pK p J0 e))/\zh 4 k p (zg e ii (N (.list (zf J0 e.k))) (N (.list (vd p J0 w))) (N (.list ((pK p J0 e).map .list))) (N (.int w))):=⟨hf,go⟩;clear hf go;rw[hJ]at g
 obtain⟨m,kd,is⟩:=e;refine ca9 (P:=λe8=>dG (oL p (pK p e8 ⟨m,kd,is⟩))/\zh 4 k p (zg ⟨m,kd,is⟩ ii (N (.list (zf e8 kd))) (N (.list (vd p e8 w))) (N (.list ((pK p e8 ⟨m,kd,is⟩).map .list))) (N (.int w)))) g (λq g=>?_) (λg=>?_) λg=>?_
 ·have nb:=ad7 (e:=⟨m,kd,is⟩) (by cases q2:lM ⟨m,kd,is⟩with|false=>rfl|true=>rw[q,q2]at hi;cases hi)
  subst q;refine(λX I=>I w p _ rfl (eZ (gF w 4) hw) ?_);refine OT (k:=k) (f:=λi:er=>gA (i.b kd)) (g:=λi:er=>.list (oF p i.x)) (P:=λi=>nf i=ak/\i.ok) (o:=[.cell (N (.d (.int p)))]) (λi k hi h=>?_) is _ (λi hi=>⟨nb.2 i hi,h.2.2.2 i hi⟩) (CT ?_)
  ·induction i with
   |f j=>exact(λX I=>I j p _ rfl hi.2 h)
   |g j=>cases hi.1
   |n=>cases hi.1
  ·rw[V_];have T:=g.2
   conv at T=>whnf
   conv=>whnf
   exact T
 all_goals
  refine(λX I=>I (w+4) p _ rfl hw ?_);refine OT (k:=k) (f:=λi:er=>gA (i.b kd)) (g:=λi:er=>.list (lN p (i.b kd) [])) (P:=λi=>i.ok/\dG (lN p (i.b kd) [])) (o:=[.cell (N (.d (.int p)))]) (λi k hi S=>(λX I=>I (i.b kd) p (OZ h.2.1 hi.1) hi.2 S)) is _ (λi hi=>⟨h.2.2.2 i hi,?_⟩) (CT ?_)
  ·exact O8 _ _ g.1 _ (qA.mpr ⟨i,hi,rfl⟩)
  ·rw[V_];have T:=g.2
   conv at T=>whnf
   conv=>whnf
   exact T
theorem cb1{kd:aa}{is:J er}{ii:aD}{k:V->J O->Prop}{A Kd:J D}{ps:J (J D)}(hl:cY ps.length)(hf:dG (A++Kd++oL p ps))(S:k (.d (.list (A++Kd++oL p ps))) []):zh 4 k p (zg ⟨.p,kd,is⟩ ii (N (.list Kd)) (N (.list A)) (N (.list (ps.map .list))) (N (.int (1:H)))):=
 ⟨dW (cZ hf),(λX I=>I ps p hl (fC hf) ⟨dW hf,S⟩)⟩
theorem cb2{kd:aa}{is:J er}{ii:aD}{k:V->J O->Prop}{A Kd:J D}{ps:J (J D)}(hl:cY ps.length)(hf:dG (A++Kd++oL p ps))(S:k (.d (.list (A++Kd++oL p ps))) []):zh 4 k p (zg ⟨.d,kd,is⟩ ii (N (.list Kd)) (N (.list A)) (N (.list (ps.map .list))) (N (.int (3:H)))):=
 ⟨dW (cZ hf),(λX I=>I ps p hl (fC hf) ⟨dW hf,S⟩)⟩
theorem cb3{t:H}{b:iR}{kd:aa}{is:J er}{ii:aD}{k:V->J O->Prop}{A Kd:J D}{ps:J (J D)}(hb:oH b)(hl:cY ps.length)(hf:dG (A++lN p b []++oL p ps))(S:k (.d (.list (A++lN p b []++oL p ps))) []):zh 4 k p (zg ⟨.a t b,kd,is⟩ ii (N (.list Kd)) (N (.list A)) (N (.list (ps.map .list))) (N (.int (0:H)))):=
 (λX I=>I b p hb.ins (fC (cZ hf)) ⟨dW (cZ hf),(λX I=>I ps p hl (fC hf) ⟨dW hf,S⟩)⟩)
theorem cb4{t:H}{b:iR}{kd:aa}{is:J er}{ii:aD}{k:V->J O->Prop}{A Kd:J D}{ps:J (J D)}(ht:cY t)(hb:oH b)(hl:cY ps.length)(hf:dG (A++oF p t++lN p b []++Kd++oL p ps))(S:k (.d (.list (A++oF p t++lN p b []++Kd++oL p ps))) []):zh 4 k p (zg ⟨.a t b,kd,is⟩ ii (N (.list Kd)) (N (.list A)) (N (.list (ps.map .list))) (N (.int (2:H)))):=
 (λX I=>I t p _ rfl ht ⟨dW (cZ (cZ (cZ hf))),(λX I=>I b p hb.ins (fC (cZ (cZ hf))) ⟨dW (cZ (cZ hf)),⟨dW (cZ hf),(λX I=>I ps p hl (fC hf) ⟨dW hf,S⟩)⟩⟩)⟩)
theorem cb5{e8:aD}{e:dz}(h:e.i.length<=2):cY (pK p e8 e).length:=by cases e8<;>exact cb0 h
theorem cb6{e:dz}{k:V->J O->Prop}(h:e.ok){ii:aD}(hi:ii=!lM e)(hf:dG (C1 p e))(S:k (.d (.list (C1 p e))) []):zh 1 k p (zg e ii ao ao ao ao):=by
 have g0:dG (O7 p e (bz ii (!decide ((p:aa)=1))))/\k (.d (.list (O7 p e (bz ii (!decide ((p:aa)=1)))))) []:=by rw[hi];exact⟨hf,S⟩
 clear hf S;obtain⟨m,kd,is⟩:=e;generalize hJ:bz ii (!decide ((p:aa)=1))=e8 at g0
 have hl:cY (pK p e8 ⟨m,kd,is⟩).length:=cb5 h.2.2.1;induction m with
 |p=>
  have T:=O9 h hi 1 (by decide:5<4294967296) hJ.symm (fC g0.1) (cb1 hl g0.1 g0.2)
  refine⟨(show(0:aa)<=0 by decide),(show(0:aa)<((3:H):aa) by decide),λy hy=>?_⟩
  cases hy
  conv at T=>whnf
  conv=>whnf
  exact T
 |d=>
  have T:=O9 h hi 3 (by decide:7<4294967296) hJ.symm (fC g0.1) (cb2 hl g0.1 g0.2)
  refine⟨(show(0:aa)<=2 by decide),(show(2:aa)<((3:H):aa) by decide),λy hy=>?_⟩
  cases hy
  conv at T=>whnf
  conv=>whnf
  exact T
 |a t b=>
  have hb:=h.1;refine⟨(show(0:aa)<=1 by decide),(show(1:aa)<((3:H):aa) by decide),λy hy=>?_⟩
  cases hy
  conv=>whnf
  have no:=λg1 g2=>O9 (k:=k) h hi 2 (by decide:6<4294967296) hJ.symm (fC g1) (cb4 hb.1 hb.2 hl g1 g2)
  refine br3 (P:=λW=>dG (bC W (vd p e8 0++lN p b []++oL p (pK p e8 ⟨.a t b,kd,is⟩)) (vd p e8 2++oF p t++lN p b []++zf e8 kd++oL p (pK p e8 ⟨.a t b,kd,is⟩)))/\k (.d (.list (bC W (vd p e8 0++lN p b []++oL p (pK p e8 ⟨.a t b,kd,is⟩)) (vd p e8 2++oF p t++lN p b []++zf e8 kd++oL p (pK p e8 ⟨.a t b,kd,is⟩))))) []) g0 (λg0=>?_) (λg0=>?_) (λg0=>?_) λg0=>?_
  ·have T:=O9 h hi 0 (by decide:4<4294967296) hJ.symm (fC g0.1) (cb3 hb.2 hl g0.1 g0.2)
   conv at T=>whnf
   conv=>whnf
   exact T
  all_goals
   have T:=no g0.1 g0.2
   conv at T=>whnf
   conv=>whnf
   exact T
theorem cb7:aQ (aU x) (n+6) Mq ad6:=fc x (q:=bB9) (l:=V9) (by kernel_rfl) ⟨A1,O6,FE,cH2⟩ λX I u2 g=>g _ λe p k h hf S=>by
 have T:=λii hi=>cb6 (ii:=ii) (p:=p) h hi hf S;clear hf S;obtain⟨m,kd,is⟩:=e
 conv=>whnf
 refine gZ (λq=>?_) λq=>?_
 ·refine OI (b:=nf) (P:=kC) (f:=λi:er=>gA (i.b kd)) (λi=>⟨[(lG,.L (N (.d (gA (i.b kd)))))],[.cell (N (.d (.int p)))]⟩) (λX=>rfl) (λi k X h=>?_) (λi k h=>h) is _ (λX I=>trivial) ?_
  ·cases i<;>exact h
  ·refine CT ?_;have T:=T (f9 ((is.filter nf).map λi=>gA (i.b kd))) (by
    show f9 _=!(!decide (kd=-16)||is.any nf)
    rw[show decide (kd=-16)=ah from q,TE,<-TI]
    exact(Bool.not_not _).symm)
   conv at T=>whnf
   conv=>whnf
   exact T
 ·have T:=T (decide (kd=-16)) (by
   show decide (kd=-16)=!(!decide (kd=-16)||is.any nf)
   rw[show decide (kd=-16)=ak from q];rfl)
  conv at T=>whnf
  conv=>whnf
  exact T
noncomputable def zj(r:l5):J D:=[.int r.1,.int (128+r.2)]
noncomputable def O_(p:H)(f:cW):J D:=oL p ((tX p f.l).map zj)++lN p f.b []
noncomputable def C2(p:H)(f:cW):J D:=oF p (O_ p f).length++O_ p f
def ad8:Tr:=λa_ o_ k_=>∀P_:Tr,(∀(f:cW)(p:H){k},f.ok->dG (C2 p f)->k (.d (.list (C2 p f))) []->P_ [.d f.d,.d (.int p)] [] k)->P_ a_ o_ k_
noncomputable def Wa:J (H×Tr):=[(w5,AW),(BX,JF),(s9,ze)]
def Pa(k:V->J O->Prop)(f:cW)(p:H)(hd:bq D)(rs:J (J D)):Prop:=l8 ⟨dO,d_ Wa⟩ (vc ⟨dO,d_ Wa⟩ 39) (xp.drop 3) ⟨[(lR,.L (N (.d f.d))),(cy,.L (N (.d (.int p)))),(z7,.C 0),(fy,.C 1),(bH,.L ao),(kX,.L (N (.d (.list (rs.map .list)))))],[.cell (hd.map .d),.cell (N (.d (oG f.l)))]⟩ (mJ 0 k)
theorem cb8{f:cW}{k:V->J O->Prop}{hd:bq D}(hl:cY ((tX p f.l).map zj).length)(h:f.ok)(hf:dG (C2 p f))(S:k (.d (.list (C2 p f))) []):Pa k f p hd ((tX p f.l).map zj):=by
 have hi:cY (O_ p f).length:=eZ (fC hf) (by decide)
 induction hd with
 |none=>exact(λX I=>I _ p hl (cZ (fC hf)) (λX I=>I f.b p h.2.2.ins (fC (fC hf)) ⟨dW (fC hf),(λX I=>I _ p _ rfl hi ⟨dW hf,S⟩)⟩))
 |some d=>exact(λX I=>I _ p hl (cZ (fC hf)) (λX I=>I f.b p h.2.2.ins (fC (fC hf)) ⟨dW (fC hf),(λX I=>I _ p _ rfl hi ⟨dW hf,S⟩)⟩))
noncomputable def zk(l:J aa)(t:H):aD:=jj (decide ((t:aa)=0)) (!decide (kB 0 l t=kB 0 l (t -1)))
noncomputable def zm(l:J aa):J H:=(kJ l.length).filter (zk l)++[l.length]
noncomputable abbrev rG(eE:J H)(l:J aa)(t:H):aa×aa:=((((kB 0 eE (t+1):H):aa) -((kB 0 eE t:H):aa)),kB 0 l (kB 0 eE t))
noncomputable def Pb(r:aa×aa):J D:=[.int r.1,.int (128+r.2)]
noncomputable def kl:H->J (J aa)
 |0=>[[]]
 |n+1=>(kl n).flatMap λl=>[-1::l,-2::l]
theorem cb9:∀l:J aa,(∀i∈l,i∈[-1,-2])->l∈kl l.length:=λi_=>by
 induction i_ with
 |nil=>exact λX=>.head _
 |cons i l ih=>exact λh=>rz.mpr ⟨l,ih λj hj=>h j (.tail _ hj),eW (P:=λi=>i::l∈[-1::l,-2::l]) (h i (.head _)) ⟨.head _,.tail _ (.head _),cH2⟩⟩
theorem cc0:∀n∈kJ 5,∀l∈kl n,(qG l).length<=4/\(∀r∈qG l,r.1<128/\-128<=r.2/\r.2<0)/\(kJ ((zm l).length -1)).map (rG (zm l) l)=(qG l).map λr=>((r.1:aa),r.2):=by decide+kernel
theorem JI{l:J aa}(h:fO 4 (·∈[-1,-2]) l):(qG l).length<=4/\(∀r∈qG l,r.1<128/\-128<=r.2/\r.2<0)/\(kJ ((zm l).length -1)).map (rG (zm l) l)=(qG l).map λr=>((r.1:aa),r.2):=cc0 _ (Bf.mpr (ap7 h.1)) l (cb9 l h.2)
theorem FN{α:Type}{f:α->D}{d:α}{y:D}:∀{l:J α}{i:H},(l.map f)[i]?=N y->y=f (kB d l i):=@λi_=>by
 induction i_ with
 |nil=>exact@λi h=>by cases i<;>cases h
 |cons a l ih=>
  intro i h;cases i with
  |zero=>exact(fU h).symm
  |succ i=>exact ih h
theorem cc1{α:Type}{d:α}{b:J α}:∀{a:J α}{t:H},t<a.length->kB d (a++b) t=kB d a t:=@λi_=>by
 induction i_ with
 |nil=>exact@λX h=>absurd h (xU _)
 |cons X a ih=>
  intro t h;cases t with
  |zero=>rfl
  |succ t=>exact ih (F7 h)
theorem cc2{α:Type}{d:α}:∀{a:J α}{t:H},t<a.length->kB d a t∈a:=@λi_=>by
 induction i_ with
 |nil=>exact@λX h=>absurd h (xU _)
 |cons X a ih=>
  intro t h;cases t with
  |zero=>exact .head _
  |succ t=>exact .tail _ (ih (F7 h))
theorem cc3{A B:aD}{P:aD->Prop}{ff lZ:Prop}(h:P (jj A B))(f:P ah->ff)(g:A=ak->P B->lZ):@Bool.rec (λX=>Prop) lZ ff A:=by
 cases A
 ·exact g rfl h
 ·exact f h
theorem brV{A:aD}{P:aD->Prop}(h:P A):@Bool.rec (λX=>Prop) (P ak) (P ah) A:=by cases A<;>exact h
theorem cc4:aQ (aU x) (n+6) Mp ad8:=fc x (q:=bB8) (l:=Wa) (by kernel_rfl) ⟨FE,O6,A1,cH2⟩ λX I u2 g=>g _ λf p k h hf S=>by
 obtain⟨r4,_,re⟩:=JI h.2.1;obtain⟨fk,l,b⟩:=f;have l4:l.length<=4:=h.2.1.1;have cH:∀(hd:bq D) R,R=(tX p l).map zj->cY R.length->Pa k ⟨fk,l,b⟩ p hd R:=λhd R e hl=>by subst e;exact cb8 hl h hf S
 clear hf S h
 conv=>whnf
 refine gZ (λq=>?_) λq=>?_
 ·have e:tX p l=(0,-2)::l.map λk=>(1,k):=by
   induction p using jh with
   |zero=>cases q
   |succ=>rfl
  refine pB (f:=.int) (g:=λk:aa=>.list [.int (1:H),.int (128+k)]) (λi k h=>h) l ?_;have T:=cH ao (zj (0,-2)::(l.map λk=>((1:H),k)).map zj) (by rw[e];rfl) (by rw[zK,cO,cO];exact eZ (lB l4) (by decide))
  unfold Pa at T
  rw[ai7,n9,n9]at T
  refine⟨by rw[f6,cO];exact bR (sI l4 1) (by decide),?_⟩
  conv at T=>whnf
  conv=>whnf
  exact T
 ·have e:tX p l=qG l:=by
   induction p using jh with
   |zero=>rfl
   |succ=>exact absurd (dF.mpr (jc _)) (sJ q)
  rw[e]at cH
  clear e q;have el:(l.map D.int).length=l.length:=cO ..;refine⟨uS (m:=(l.map D.int).length) (bR (jm el) (bR l4 (by decide))),?_⟩
  refine OI (f:=fW) (b:=zk l) (P:=(·<l.length)) (λt=>⟨[(d9,.L (N (.d (fW t)))),(fy,.C 1)],[.cell ao,.cell (N (.d (oG l)))]⟩) (λX=>rfl) (λt k ht h=>?_) (λi k h=>h) (kJ (((l.map D.int).length:H):aa).toNat) _ (λt h=>by rw[sF,el]at h;exact Bf.mp h) (CT ?_)
  ·have lt:(t:aa)<(((l.map D.int).length:H):aa):=dF.mpr (el.symm▸ht)
   conv=>whnf
   refine cc3 (P:=(k · _)) h (λh=>h) λq h=>⟨nn,lt,λy hy=>?_⟩;cases FN (f:=D.int) (d:=0) hy;induction t using jh with
   |zero=>cases q
   |succ t=>
    have e1:((t+1:H):aa) -1=t:=uh (t:aa) 1
    conv=>whnf
    rw[e1];refine⟨nn,sN (dF.mpr (m7 t)) lt,λy hy=>?_⟩;cases FN (f:=D.int) (d:=0) hy
    conv=>whnf
    exact brV (P:=(k · _)) h
  ·have e3:(kJ (((l.map D.int).length:H):aa).toNat).filter (zk l)=(kJ l.length).filter (zk l):=by rw[sF,el]
   have e4:(((kJ l.length).filter (zk l)).map fW)++[D.int (((l.map D.int).length:H):aa)]=(zm l).map fW:=by rw[el];exact(zO (f:=fW) (l₂:=[l.length])).symm
   have nB:∀t<((kJ l.length).filter (zk l)).length,kB 0 (zm l) t<l.length:=λt ht=>by unfold zm;rw[cc1 ht];exact Bf.mp (F6.mp (cc2 ht)).1
   have se:(zm l).length=((kJ l.length).filter (zk l)).length+1:=f6;have j4:((kJ l.length).filter (zk l)).length<=4:=bR (aq1 ..) (by rw[Qu];exact l4)
   rw[e3]
   conv=>whnf
   rw[e4];clear e3 e4;generalize((kJ l.length).filter (zk l)).length=j at nB se j4
   generalize zm l=eE at re nB se
   have eH:(eE.map fW).length=j+1:=(cO _).trans se;refine⟨eH▸bR (lB j4) (by decide),?_⟩
   conv=>whnf
   rw[eH,show((j+1:H):aa) -1=j from uh (j:aa) 1]
   refine⟨uS (bR j4 (by decide)),?_⟩
   refine OT (k:=k) (f:=fW) (g:=λt=>.list (Pb (rG eE l t))) (P:=(·<j)) (o:=[.cell (N (.d (.list (eE.map fW)))),.cell (N (.d (oG l)))]) (λt k ht h=>?_) (kJ (j:aa).toNat) _ (λt h=>Bf.mp h) (CT ?_)
   ·have l1:((t+1:H):aa)<((eE.map fW).length:H):=dF.mpr (eH.symm▸ao8 ht);have l0:(t:aa)<((eE.map fW).length:H):=sN (dF.mpr (m7 t)) l1;refine⟨nn (n:=t+1),l1,λy hy=>?_⟩;cases FN (f:=fW) (d:=0) hy;refine⟨nn,l0,λy hy=>?_⟩;cases FN (f:=fW) (d:=0) hy;refine⟨nn,l0,λy hy=>?_⟩;cases FN (f:=fW) (d:=0) hy;refine⟨nn,dF.mpr (el.symm▸nB t ht),λy hy=>?_⟩;cases FN (f:=D.int) (d:=0) hy;exact h
   ·have e5:(kJ (j:aa).toNat).map (λt=>Pb (rG eE l t))=(qG l).map zj:=by
     rw[se]at re
     have re:=bQ (List.map Pb) re;rw[n9,n9]at re
     exact re
    have T:=cH (N (.list (eE.map fW))) ((kJ (j:aa).toNat).map λt=>Pb (rG eE l t)) e5 (by rw[cO,Qu];exact eZ j4 (by decide))
    unfold Pa at T
    rw[n9]at T
    conv at T=>whnf
    conv=>whnf
    exact T
noncomputable def C3(p:H)(f:Fk):J D:=[.int 96]++oK p f.1++oK p f.2
noncomputable def oFi(p:H)(f:cW):J D:=oF p f.k
noncomputable def Wb(p:H)(t:iZ):J D:=[.int (128+t.k)]++A2 p t.l
noncomputable def Wc(p:H)(g:iy):J D:=[.int (128+g.g.k),.int g.g.m]++lN p g.b []
noncomputable def Wd(p:H)(e:ju):J D:=oW p e.n++[.int e.s]++oF p e.i
noncomputable def rj{α:Type}(p:H)(F:α->J D)(l:J α):J D:=oL p (l.map F)
noncomputable def r_(p:H)(m:b6):H->J D:=kB [] [[],rj p (C3 p) m.k,rj p (JG p) m.i,rj p (oFi p) m.f,rj p (Wb p) m.t,rj p (A2 p) m.m,rj p (Wc p) m.g,rj p (Wd p) m.e,oF p (m.s.getD 0),rj p (C1 p) m.l,rj p (C2 p) m.f,rj p (JH p) m.d,oF p m.d.length]
theorem cc5{α:Type}{f g:α->D}{ts:J ai}{one:aD}{m:Fm}{t:PE->St->(aD->St->Prop)->Prop}{aY:St->(V->St->Prop)->Prop}{o:J O}{P:α->Prop}(bM:α->St)(hS:∀a,(bM a).o=o)(gQ:∀(a:α)(k:V->St->Prop),P a->k (.d (g a)) (bM a)->jL ts one (.d (f a)) ⟨m,o⟩ λZ=>aY Z k):
  ∀(l:J α)(K:J V->J O->Prop),(∀a∈l,P a)->K (l.map λa=>.d (g a)) o->jW ts one m (nW t []) aY (l.map f) o K:=λi_=>by
 induction i_ with
 |nil=>exact λK X h=>h
 |cons a l ih=>
  intro K hp h;refine gQ a _ (hp a (.head _)) ?_
  show lV (nt (len o) (.d (g a)) ⟨m,(bM a).o⟩).o _
  rw[hS,o5,IL];exact ih _ (λb h=>hp b (.tail _ h)) h
theorem zo{α:Type}{f:α->D}{F:α->J D}{ok:α->Prop}{ts:J ai}{one:aD}{m:Fm}{t:PE->St->(aD->St->Prop)->Prop}{aY:St->(V->St->Prop)->Prop}{o:J O}{k:V->J O->Prop}(bM:α->St)(hS:∀a,(bM a).o=o){l:J α}(hl:fO 14 ok l)(hf:dG (rj p F l))
  (gQ:∀(a:α)(k:V->St->Prop),ok a->dG (F a)->k (.d (.list (F a))) (bM a)->jL ts one (.d (f a)) ⟨m,o⟩ λZ=>aY Z k)(h:cY (l.map F).length->k (.ref (len o)) (o++[.dl ((l.map F).map .list)])):jW ts one m (nW t []) aY (l.map f) o λvs o=>iC ah vs o k:=
 cc5 (P:=λa=>ok a/\dG (F a)) (g:=λa=>.list (F a)) bM hS (λa k h=>gQ a k h.1 h.2) l _ (λa h=>⟨hl.2 a h,O8 _ _ hf _ (aq3 h)⟩) (TT (by rw[V_];exact h (by rw[cO];exact eZ hl.1 (by decide))))
noncomputable def ad9:J (H×Tr):=[(s9,ze),(Hw,VL),(Mn,ad4),(Hx,V7),(BX,JF),(En,OW),(Mq,ad6),(Mp,ad8),(Mr,ad5),(w5,AW)]
def ae0:Tr:=λa_ o_ k_=>∀P_:Tr,(∀(m:b6)(i p:H){k},i∈cV->m.ok->(i=8->m.s≠ao)->dG (r_ p m i)->k (.d (.list (r_ p m i))) []->P_ [.d m.D,.d (.int i),.d (.int p)] [] k)->P_ a_ o_ k_
theorem cc6:aQ (aU x) (n+7) Ms ae0:=fc x (q:=xz) (l:=ad9) (by kernel_rfl) ⟨A1,WP,ca6,ad3,O6,VK,cb7,cc4,ca8,FE,cH2⟩ λX I u2 g=>g _ λm i p k hi hm h8 hf S=>by
 revert h8 hf S
 refine eW (P:=λi=>(i=8->m.s≠ao)->dG (r_ p m i)->k (.d (.list (r_ p m i))) []->lK xz ad9 [.d m.D,.d (.int i),.d (.int p)] [] k) hi ⟨?_,?_,?_,?_,?_,?_,?_,?_,?_,?_,?_,?_,cH2⟩
 ·intro _ hf S;have e:∀(l:J Fk)(t:J D),l.foldl (λt f=>t++[D.list (C3 p f)]) t=t++(l.map (C3 p)).map .list:=λl=>by
   induction l with
   |nil=>exact λt=>(j3 t).symm
   |cons f l ih=>exact λt=>(ih _).trans (jx ..)
  conv=>whnf
  refine AK (f:=mO) (w:=λt f=>t++[D.list (C3 p f)]) (bM:=λt=>⟨[(bI,.L (N (.d m.D))),(bw,.L (N (.d (.int (1:H))))),(cy,.C 0),(kW,.L ao),(lH,.L (N (.ref 1))),(om,.L ao)],[.cell (N (.d (.int p))),.dl t]⟩)
   (bG:=λys t=>(∀f∈ys,(rV f.1/\rV f.2)/\dG (C3 p f))/\t.length+ys.length<=14) (λf ys t next hI hn=>?_) m.k [] ⟨λf h=>⟨hm.k.2 f h,O8 _ _ hf _ (aq3 h)⟩,by rw[Dv,mW];exact hm.k.1⟩ λX=>?_
  ·have g:=hI.1 f (.head _);have hn:=hn ⟨λf h=>hI.1 f (.tail _ h),by rw[f6,wB,rB [_].length];exact hI.2⟩
   have lt:t.length<1048576:=eZ (bR (gF ..) hI.2) (by decide)
   exact(λX I=>I f.1 p (eZ g.1.1.1 (by decide)) (fC (cZ g.2)) ⟨dW (cZ g.2),(λX I=>I f.2 p (eZ g.1.2.1 (by decide)) (fC g.2) ⟨dW g.2,lt,hn⟩)⟩)
  ·rw[e];exact(λX I=>I (m.k.map (C3 p)) p (by rw[cO];exact eZ hm.k.1 (by decide)) hf S)
 ·intro _ hf S
  conv=>whnf
  refine zo (F:=JG p) (ok:=fh.ok) (λi=>⟨[(aM,.L (N (.d i.d))),(cy,.C 0)],[.cell (N (.d (.int p))),.dl []]⟩) (λX=>rfl) hm.i hf (λi k h hf S=>?_) λhl=>?_
  ·exact(λX I=>I i p h hf S)
  ·exact(λX I=>I _ p hl hf S)
 ·intro _ hf S
  conv=>whnf
  refine zo (F:=oFi p) (ok:=cW.ok) (λi=>⟨[(lR,.L (N (.d i.d))),(cy,.C 0)],[.cell (N (.d (.int p))),.dl []]⟩) (λX=>rfl) hm.f hf (λi k h hf S=>?_) λhl=>?_
  ·exact(λX I=>I i.k p _ rfl h.1 S)
  ·exact(λX I=>I _ p hl hf S)
 ·intro _ hf S
  conv=>whnf
  refine zo (F:=Wb p) (ok:=iZ.ok) (λi=>⟨[(aM,.L (N (.d i.d))),(cy,.C 0)],[.cell (N (.d (.int p))),.dl []]⟩) (λX=>rfl) hm.t hf (λi k h hf S=>?_) λhl=>?_
  ·exact⟨⟨zU _,iN.mpr (jc _)⟩,(λX I=>I i.l p h.2 (fC hf) ⟨dW hf,S⟩)⟩
  ·exact(λX I=>I _ p hl hf S)
 ·intro _ hf S
  conv=>whnf
  refine zo (F:=A2 p) (ok:=tP) (λi=>⟨[(aM,.L (N (.d (nE i)))),(cy,.C 0)],[.cell (N (.d (.int p))),.dl []]⟩) (λX=>rfl) hm.m hf (λi k h hf S=>?_) λhl=>?_
  ·exact(λX I=>I i p h hf S)
  ·exact(λX I=>I _ p hl hf S)
 ·intro _ hf S
  conv=>whnf
  refine zo (F:=Wc p) (ok:=iy.ok) (λi=>⟨[(aM,.L (N (.d i.d))),(cy,.C 0)],[.cell (N (.d (.int p))),.dl []]⟩) (λX=>rfl) hm.g hf (λi k h hf S=>?_) λhl=>?_
  ·exact(λX I=>I i.b p h.2.ins (fC hf) ⟨dW hf,S⟩)
  ·exact(λX I=>I _ p hl hf S)
 ·intro _ hf S
  conv=>whnf
  refine zo (F:=Wd p) (ok:=ju.ok) (λi=>⟨[(dX,.L (N (.d (.str i.n)))),(fR,.L (N (.d (.int i.s)))),(lF,.L (N (.d (.int i.i)))),(cy,.C 0)],[.cell (N (.d (.int p))),.dl []]⟩) (λX=>rfl) hm.e hf (λi k h hf S=>?_) λhl=>?_
  ·exact(λX I=>I i.n p h.1 (cZ (cZ hf)) ⟨dW (cZ hf),(λX I=>I i.i p _ rfl h.2.2 ⟨dW hf,S⟩)⟩)
  ·exact(λX I=>I _ p hl hf S)
 ·intro h8 hf S;obtain⟨mk,mi,mf,mt,mm,mg,me,Z,ml,md,mc⟩:=m;induction Z with
  |none=>exact absurd rfl (h8 rfl)
  |some j=>exact(λX I=>I j p _ rfl (hm.s j rfl) S)
 ·intro _ hf S
  conv=>whnf
  refine zo (F:=C1 p) (ok:=dz.ok) (λi=>⟨[(oi,.L (N (.d i.d))),(cy,.C 0)],[.cell (N (.d (.int p))),.dl []]⟩) (λX=>rfl) hm.l hf (λi k h hf S=>?_) λhl=>?_
  ·exact(λX I=>I i p h hf S)
  ·exact(λX I=>I _ p hl hf S)
 ·intro _ hf S;exact(λX I=>I _ p _ rfl (by rw[cO];exact eZ hm.d.1 (by decide)) (by rw[cO];exact S))
 ·intro _ hf S
  conv=>whnf
  refine zo (F:=C2 p) (ok:=cW.ok) (λi=>⟨[(lR,.L (N (.d i.d))),(cy,.C 0)],[.cell (N (.d (.int p))),.dl []]⟩) (λX=>rfl) hm.f hf (λi k h hf S=>?_) λhl=>?_
  ·exact(λX I=>I i p h hf S)
  ·exact(λX I=>I _ p hl hf S)
 ·intro _ hf S
  conv=>whnf
  refine zo (F:=JH p) (ok:=eV.ok) (λi=>⟨[(vH,.L (N (.d i.d))),(cy,.C 0)],[.cell (N (.d (.int p))),.dl []]⟩) (λX=>rfl) hm.d hf (λi k h hf S=>?_) λhl=>?_
  ·exact(λX I=>I i p h hf S)
  ·exact(λX I=>I _ p hl hf S)
noncomputable def oZ(p:H)(o:J D):J D:=oF p o.length++o
noncomputable def ae1(p:H)(c:dB):J D:=oW p c.n++fJ c.c
noncomputable def ve(p n:H)(t:J D)(c:dB):J D:=bC (decide ((c.b:aa)=(n:aa))) (t++[.int 0]++oZ p (ae1 p c)) t
noncomputable def We(m:b6)(n:H):aD:=(OJ m).any λj=>decide ((j:aa)=n)
noncomputable def Wf(n:H):aD:=decide ((0:aa)=n)||(decide ((8:aa)=n)||ak)
noncomputable def zq(p:H)(m:b6)(n:H):aD:=jj (We m n) (bz (decide ((p:aa)>0)) (!Wf n))
noncomputable def zu(p:H)(m:b6)(t:J D)(n:H):J D:=m.c.foldl (ve p n) (bC (zq p m n) (t++[.int n]++oZ p (r_ p m n)) t)
noncomputable def QU(p:H)(m:b6):J D:=(0::cV).foldl (zu p m) (fJ [0,97,115,109,1,0,0,0])
noncomputable def JJ:J (H×Tr):=[(Hv,AS),(Ms,ae0),(s9,ze),(En,OW)]
noncomputable def zw(m:b6)(p:H)(n:bq V):Fm:=[(bI,.L (N (.d m.D))),(cy,.L (N (.d (.int p)))),(uA,.L ao),(jS,.L ao),(bw,.L n),(bH,.L (N (.ref 0))),(Ab,.L (N (.d (Fz m))))]
def Wg:Tr:=λa_ o_ k_=>∀P_:Tr,(∀(m:b6)(p:H)(l:J H){k},m.ok->dG (QU p m)->QU p m=fJ l->(∀b∈l,b<256)->k (.d (.bytes l)) []->P_ [.d m.D,.d (.int p)] [] k)->P_ a_ o_ k_
theorem JK{α:Type}{w:J D->α->J D}(h:∀t y,dG (w t y)->dG t):∀(ys:J α)(t:J D),dG (ys.foldl w t)->dG t:=λi_=>by
 induction i_ with
 |nil=>exact λX g=>g
 |cons y ys ih=>exact λt g=>h t y (ih _ g)
theorem JL{A:aD}{t s u:J D}(h:dG (bC A (t++s++u) t)):dG t:=by
 cases A
 ·exact h
 ·exact cZ (cZ h)
theorem ae2{n:H}:∀(l:J H)(K:aD->Prop),K (l.any λj=>decide ((j:aa)=n))->yy (.int n) (l.map fW) K
 |[],K,h=>h
 |j::l,K,h=>ae2 l (λq'=>K (decide ((j:aa)=n)||q')) h
theorem Wi{l:J D}(h:dG l):cY l.length:=eZ h (by decide)
theorem Pc{m:b6}{i:H}{K:dZ->St->Prop}(hm:m.ok)(t:J D)(hf:dG (m.c.foldl (ve p i) t))(hK:K .next ⟨zw m p (N (.d (.int i))),[.dl (m.c.foldl (ve p i) t)]⟩):
  gT [uA,jS] [jS] ah 1 ((vc ⟨dO,d_ JJ⟩ 38).s xI) (m.c.map dB.d) ⟨zw m p (N (.d (.int i))),[.dl t]⟩ K:=
 AK (f:=dB.d) (w:=ve p i) (bM:=λt=>⟨zw m p (N (.d (.int i))),[.dl t]⟩) (bG:=λys t=>dG (ys.foldl (ve p i) t)/\∀c∈ys,kQ c.n) (λc ys t next hI hn=>by
  have h:=hI.2 c (.head _)
  conv=>whnf
  refine qX (P:=λt=>dG t/\next ⟨zw m p (N (.d (.int i))),[.dl t]⟩) ⟨JK (λX I=>JL) ys _ hI.1,hn ⟨hI.1,λc h=>hI.2 c (.tail _ h)⟩⟩ (λX g=>?_) λX g=>g.2;exact(λX I=>I c.n p h (cZ (fC (fC g.1))) ⟨dW (fC (fC g.1)),⟨za (cZ g.1),(λX I=>I _ p _ rfl (Wi (fC (fC g.1))) ⟨dW (fC g.1),dW g.1,g.2⟩)⟩⟩)) m.c t ⟨hf,λc h=>(hm.c.2 c h).1⟩ λX=>hK
theorem cc7{A B C:aD}{P:aD->Prop}{X1 X2 Y1 Y2:Prop}(h:P (jj A (bz B C)))(f:jj A (bz B C)=ah->P ah->X1)(f2:jj A (bz B C)=ah->P ah->X2)(g:P ak->Y1)(g2:P ak->Y2):@Bool.rec (λX=>Prop) (@Bool.rec (λX=>Prop) Y1 (@Bool.rec (λX=>Prop) Y2 X2 C) B) X1 A:=by
 cases A
 ·cases B
  ·exact g h
  ·cases C;exact g2 h;exact f2 rfl h
 ·exact f rfl h
theorem ae3{m:b6}{i:H}(hi:i∈0::cV)(h:zq p m i=ah):i∈cV/\(i=8->m.s≠ao):=by
 rcases Cv h with h|h
 ·obtain⟨j,hj,e⟩:=wD.mp h;have e:=zS.mp (gy e);subst e;obtain⟨h1,h2⟩:=F6.mp hj;refine⟨h1,λe q=>?_⟩;subst e;have h2:(!(jq m.s).o6)=ah:=h2;rw[q]at h2
  cases h2
 ·have h:=bf h;rcases iV.mp hi with e|hi
  ·subst e;cases h
  ·exact⟨hi,λe=>by subst e;cases h⟩
theorem cc8{m:b6}{K:dZ->St->Prop}(hm:m.ok)(ns:J H)(t:J D)(hn:∀i∈ns,i∈0::cV)(hf:dG (ns.foldl (zu p m) t))(hK:K .next ⟨zw m p ao,[.dl (ns.foldl (zu p m) t)]⟩):
  gT [uA,jS,bw] [bw] ah 1 ((vc ⟨dO,d_ JJ⟩ 39).s xL) (ns.map fW) ⟨zw m p ao,[.dl t]⟩ K:=
 AK (f:=fW) (w:=zu p m) (bM:=λt=>⟨zw m p ao,[.dl t]⟩) (bG:=λys t=>dG (ys.foldl (zu p m) t)/\∀i∈ys,i∈0::cV) (λi ys t next hI hn=>by
  have hi:=hI.2 i (.head _);have g:dG (m.c.foldl (ve p i) (bC (zq p m i) (t++[.int i]++oZ p (r_ p m i)) t))/\next ⟨zw m p ao,[.dl (m.c.foldl (ve p i) (bC (zq p m i) (t++[.int i]++oZ p (r_ p m i)) t))]⟩:=⟨JK (λX I g=>JL (JK (λX I=>JL) _ _ g)) ys _ hI.1,hn ⟨hI.1,λc h=>hI.2 c (.tail _ h)⟩⟩
  conv=>whnf
  refine ae2 (OJ m) _ ?_
  conv=>whnf
  refine cc7 (P:=λb=>dG (m.c.foldl (ve p i) (bC b (t++[D.int i]++oZ p (r_ p m i)) t))/\next ⟨zw m p ao,[.dl (m.c.foldl (ve p i) (bC b (t++[D.int i]++oZ p (r_ p m i)) t))]⟩) g (λq g=>?_) (λq g=>?_) (λg=>?_) λg=>?_
  ·have h:=ae3 hi q;have f1:dG (t++[.int i]++oZ p (r_ p m i)):=JK (λX I=>JL) _ _ g.1;refine(λX I=>I m i p h.1 hm h.2 (fC (fC f1)) ⟨za (cZ f1),(λX I=>I _ p _ rfl (Wi (fC (fC f1))) ⟨dW (fC f1),dW f1,?_⟩)⟩);exact Pc hm _ g.1 g.2
  ·have h:=ae3 hi q;have f1:dG (t++[.int i]++oZ p (r_ p m i)):=JK (λX I=>JL) _ _ g.1;refine(λX I=>I m i p h.1 hm h.2 (fC (fC f1)) ⟨za (cZ f1),(λX I=>I _ p _ rfl (Wi (fC (fC f1))) ⟨dW (fC f1),dW f1,?_⟩)⟩);exact Pc hm _ g.1 g.2
  ·exact Pc hm _ g.1 g.2
  ·exact Pc hm _ g.1 g.2) ns t ⟨hf,hn⟩ λX=>hK
theorem cc9:aQ (aU x) (n+8) Mu Wg:=fc x (q:=bC1) (l:=JJ) (by kernel_rfl) ⟨TO,cc6,A1,VK,cH2⟩ λX I u2 g=>g _ λm p l k hm hf e cd0 S=>by
 have T:=cc8 (p:=p) (K:=yE (l8 ⟨dO,d_ JJ⟩ (vc ⟨dO,d_ JJ⟩ 39) (x3.drop 3)) (mJ 0 k)) hm (0::cV) (fJ [0,97,115,109,1,0,0,0]) (λX h=>h) hf ⟨l,e,cd0,S⟩;refine .fz m ⟨hm.f.1,λf h=>(hm.f.2 f h).2.2.len⟩ ?_
 conv at T=>whnf
 conv=>whnf
 exact T
end
section
def Pd(l:J H):Prop:=∀b∈l,b<256
structure A3(cC:H)(t:Ts->Ts)(l:J H):Prop where
 t:∀r,c8 (t r)=l++c8 r
 n:l.length<=cC
 b:Pd l
inductive Oc(cC:H)(a:J D)(t:Ts->Ts):Prop
 |mk (l:J H):a=fJ l->A3 cC t l->Oc cC a t
inductive Oa(cC:H)(f:J D->J D)(t:Ts->Ts):Prop
 |mk (l:J H):(∀z,f z=z++fJ l)->A3 cC t l->Oa cC f t
variable{cC M p:H}{a b:J D}{f g:J D->J D}{s t:Ts->Ts}
theorem ae4(a b:J H):fJ (a++b)=fJ a++fJ b:=zO
theorem A3.app{k l:J H}(h:A3 cC s k)(g:A3 M t l):A3 (cC+M) (λr=>s (t r)) (k++l):=
 ⟨λr=>by rw[h.t,g.t,jx],by rw[f6];exact cB6 h.n g.n,List.forall_mem_append.mpr ⟨h.b,g.b⟩⟩
theorem A3.nil:A3 0 (λr=>r) []:=⟨λX=>rfl,jO _,nofun⟩
theorem Oc.app(h:Oc cC a s)(g:Oc M b t):Oc (cC+M) (a++b) (λr=>s (t r)):=h.rec λk e S=>g.rec λl e2 hl=>.mk (k++l) (by rw[e,e2,ae4]) (S.app hl)
theorem Oc.le(h:Oc cC a s)(l:cC<=M):Oc M a s:=h.rec λk e S=>.mk k e ⟨S.t,bR S.n l,S.b⟩
theorem Oa.le(h:Oa cC f s)(l:cC<=M):Oa M f s:=h.rec λk e S=>.mk k e ⟨S.t,bR S.n l,S.b⟩
theorem Oa.comp(h:Oa cC f s)(g':Oa M g t):Oa (cC+M) (λz=>g (f z)) (λr=>s (t r)):=h.rec λk e S=>g'.rec λl e2 hl=>.mk (k++l) (λz=>by rw[e2,e,jx,ae4]) (S.app hl)
theorem Oa.id:Oa 0 (λz=>z) (λr=>r):=.mk [] (λz=>(j3 z).symm) .nil
theorem Oc.acc(h:Oc cC a s):Oa cC (λz=>z++a) s:=h.rec λk e S=>.mk k (λX=>by rw[e]) S
theorem Oa.at(h:Oa cC f s):Oc cC (f []) s:=h.rec λk e S=>.mk k (e []) S
theorem Oa.fold{α:Type}{F:J D->α->J D}{T:α->Ts->Ts}:∀{l:J α},(∀y∈l,Oa cC (F · y) (T y))->Oa (cC*l.length) (l.foldl F) (tL T l)
 |[],X=>.id
 |y::l,h=>((h y (.head _)).comp (Oa.fold λy m=>h y (.tail _ m))).le (jm (by rw[zK,Nat.mul_succ,rB]))
theorem cd1(k:H):∀n,Pd (tG n k):=by
 induction k with
 |zero=>exact λX I h=>(vt h).elim
 |succ k ih=>cases k with
  |zero=>exact λn=>cC3.mpr (mD (QA _ (by decide)) (by decide:128<256))
  |succ k=>exact λn=>gv.mpr ⟨Qw (QA _ (by decide)) 128,ih _⟩
theorem ae5(k:H):∀n,Pd (ny n k):=by
 induction k with
 |zero=>exact λX I h=>(vt h).elim
 |succ k ih=>cases k with
  |zero=>exact λn=>cC3.mpr (mD (xE n).2.2.2 (by decide:128<256))
  |succ k=>exact λn=>gv.mpr ⟨Qw (xE n).2.2.2 128,ih _⟩
theorem Wj:∀(k:H)(n:aa),(ny n k).length=k
 |0,X=>rfl
 |1,X=>rfl
 |k+2,n=>bQ (·+1) (Wj (k+1) (n/128))
theorem cd2(k n:H):(tG n k).length=k:=by rw[<-VE,Wj]
theorem jM(n:H):Oc 5 (oF p n) (cU p n):=.mk _ rfl ⟨λX=>rfl,(cd2 ..).symm▸DC ..,cd1 _ _⟩
theorem Wn(b:H)(i:aa):Oc ((b+6)/7) (fJ (tS b p i).oct) (tS b p i::·):=.mk _ rfl ⟨λX=>rfl,(Wj ..).symm▸DC ..,ae5 _ _⟩
theorem qt{n:H}(h:n<256):Oc 1 [.int n] (cB n):=.mk [n] rfl ⟨λX=>rfl,jO _,gv.mpr ⟨h,nofun⟩⟩
theorem zx{i:aa}(h:-128<=i/\i<0):Oc 1 [.int (128+i)] (c7 i):=by
 have e:128+i=((i% 128).toNat:H):=by have h0:0<=128+i:=Int.add_le_add_left h.1 128;have g:(128+i)% 128=i% 128:=Int.add_emod_left ..;rw[<-g,X8 h0 (show 128+i<128 from Int.add_lt_add_left h.2 128),Bo h0]
 rw[e];exact .mk [(i% 128).toNat] rfl ⟨λX=>rfl,jO _,ae5 1 i⟩
theorem JM{α:Type}{F:α->J D}{T:α->Ts->Ts}{l:J α}(h:∀y∈l,Oc cC (F y) (T y)):Oc (5+cC*l.length) (rj p F l) (q7 p T l):=by
 have g:=(jM (p:=p) l.length).acc.comp (Oa.fold (F:=λz y=>z++F y) λy m=>(h y m).acc);have e:rj p F l=l.foldl (λz y=>z++F y) ([]++oF p l.length):=by unfold rj oL;rw[cC4,cO];rfl
 rw[e];exact g.at
theorem ae6{c:J H}(h:fO cC (·<256) c):Oc (5+cC) (oL p (c.map pH)) λr=>cU p c.length (cR c r):=by
 have e:∀(c:J H)(z:J D),c.foldl (λz y=>z++pH y) z=z++fJ c:=λc=>by
  induction c with
  |nil=>exact λz=>(j3 z).symm
  |cons y c ih=>exact λz=>(ih _).trans (jx ..)
 unfold oL;rw[cC4,cO,show(λz y=>app z (pH y))=λz y=>z++pH y from rfl,e]
 exact(jM _).app (.mk c rfl ⟨λX=>rfl,h.1,h.2⟩)
theorem JN{i:aa}(h:pA i):-128<=i/\i<0:=eW (P:=λi:aa=>-128<=i/\i<0) h ⟨by decide,by decide,by decide,by decide,cH2⟩
theorem Pe{i:aa}(h:x6 i):-128<=i/\i<0:=eW (P:=λi:aa=>-128<=i/\i<0) h ⟨by decide,by decide,cH2⟩
theorem Wo{l:J aa}(h:rV l):Oc 7 (oK p l) (I8 p l):=(JM (F:=CU) λy m=>zx (JN (h.2 y m))).le (by rw[cq9];exact sI h.1 5)
theorem ae7:∀y∈names,(pQ y).length<=4/\∀b∈pQ y,b<256:=by decide
theorem Pf{y:ai}(h:kQ y):Oc 9 (oW p y) (tW p y):=ae6 (cC:=4) (c:=pQ y) (ae7 y h)
theorem cd3{ls:J H}{a:J aa}(h:j5 ls a):Oa 20 (pJ p a ls a) (xF p a ls a):=by
 cases h with
 |o=>exact Oa.id.le (by decide)
 |z=>exact(qt (n:=0) (by decide)).acc.le (by decide)
 |zz=>exact((qt (n:=0) (by decide)).acc.comp (qt (n:=0) (by decide)).acc).le (by decide)
 |@u i h=>exact(jM i).acc.le (by decide)
 |@i i h=>exact(Wn 32 i).acc.le (by decide)
 |@l i h=>exact(Wn 64 i).acc.le (by decide)
 |@r i h=>exact(zx (Pe h)).acc.le (by decide)
 |k h g=>exact(Wo ⟨h,g⟩).acc.le (by decide)
 |@t i a h g=>exact((jM _).acc.comp (Oa.fold (T:=US p) λy m=>(jM y.toNat).acc)).le (by rw[cO];exact sI (zT 5 (lB h)) 5)
 |@b i h=>
  show Oa 20 (λz=>z++bC (decide (i<0)) [.int (128+i)] (fJ (tS 33 p i).oct)) (bC (decide (i<0)) (.s i 1) (tS 33 p i)::·)
  cases q:decide (i<0)with
  |false=>exact(Wn 33 i).acc.le (by decide)
  |true=>exact(zx (by cases h with|e=>decide|k h=>exact JN h|@x i h=>exact absurd (gy q) (pP.mpr nn))).acc.le (by decide)
 |@uz i h=>exact((jM i).acc.comp (qt (n:=0) (by decide)).acc).le (by decide)
 |@uu i j h g=>exact((jM i).acc.comp (jM j).acc).le (by decide)
 |@au i j h g=>exact((jM i).acc.comp (jM j).acc).le (by decide)
theorem ae8:kP (λc=>decide (0<=c)&&(decide (c<256)||decide (64512<=c))) (11::5::qF)=ah:=by kernel_rfl
theorem ae9{i:fj}(h:i.mP):i.c∈11::5::qF:=by
 cases h with
 |i h=>exact .tail _ (.tail _ h.c)
 |e=>exact .head _
 |l=>exact .tail _ (.head _)
theorem cd4{i:fj}(h:i.mP):Oc 6 (V5 p i.c) (pR p i.c):=by
 have g:=PG.mp (lE ae8 _ (ae9 h));have g0:=gy g.1
 show Oc 6 (bC (decide (i.c<64512)) _ _) λr=>bC (decide (i.c<64512)) _ _
 cases q:decide (i.c<64512)with
 |false=>exact(qt (n:=252) (by decide)).app (jM _)
 |true=>
  have lt:i.c.toNat<256:=by
   rcases Bool.or_eq_true_iff.mp g.2 with h|h
   ·have:=gy h;omega
   ·exact absurd (gy q) (pP.mpr (gy h))
  rw[<-Bo g0];exact(qt lt).le (by decide)
theorem af0{i:fj}(h:i.mP):Oa 26 (FL p · i) (UT p i):=(cd4 h).acc.comp (cd3 (V6 h).l)
theorem Pg{c:iR}(h:oH c):Oc 312 (lN p c []) (oN p c):=((Oa.fold λy m=>af0 (h.ins y m)).le (zT 26 h.len)).at
theorem Ph:∀l:qk,Oc 11 (A2 p l) (CJ p l)
 |(a,ao)=>((qt (n:=0) (by decide)).app (jM a)).le (by decide)
 |(a,N m)=>((qt (n:=1) (by decide)).app (jM a)).app (jM m)
theorem cd5{i:fh}(h:i.ok):Oc 40 (JG p i) (I_ p i):=by
 obtain⟨y,z,a⟩:=i;obtain⟨h1,h2,h3⟩:=h;have g:=λn (h:n<256)=>((Pf (p:=p) h1).app (Pf (p:=p) h2)).app (qt h);induction a with
 |f a=>exact((g 0 (by decide)).app (jM a)).le (by decide)
 |t t=>exact(((g 1 (by decide)).app (zx (Pe h3.1))).app (Ph t.l)).le (by decide)
 |m l=>exact((g 2 (by decide)).app (Ph l)).le (by decide)
 |g q=>exact((g 3 (by decide)).app ((zx (JN h3.1)).app (qt (eW (P:=(·<256)) h3.2 ⟨by decide,by decide,cH2⟩)))).le (by decide)
theorem cd6{f:Fk}(h:rV f.1/\rV f.2):Oc 15 (C3 p f) (I9 p f):=((qt (n:=96) (by decide)).app (Wo h.1)).app (Wo h.2)
theorem cd7{t:iZ}(h:t.ok):Oc 12 (Wb p t) (Fc p t):=(zx (Pe h.1)).app (Ph t.l)
theorem cd8{g:iy}(h:g.ok):Oc 314 (Wc p g) (Jb p g):=((zx (JN h.1.1)).app (qt (eW (P:=(·<256)) h.1.2 ⟨by decide,by decide,cH2⟩))).app (Pg h.2)
theorem cd9{e:ju}(h:e.ok):Oc 15 (Wd p e) (Jc p e):=((Pf h.1).app (qt (mD h.2.1 (by decide)))).app (jM e.i)
theorem Pj(n:H):decide ((n:aa)=0)=bX n 0:=by cases n<;>rfl
theorem oF0:oF 0 0=[.int (0:H)]:=by unfold oF tU;rw[E4,dP (by decide)];rfl
theorem ce0{e:eV}(h:e.ok):Oc 340 (JH p e) (Je p e):=by
 obtain⟨o,c⟩:=e;have hc:Oc 8 (oL p (c.map pH)) _:=ae6 h.2;induction o with
 |none=>exact((jM 1).app hc).le (by decide)
 |some o=>
  have hb:=Pg (p:=p) (h.1 o rfl).2
  show Oc 340 (bC (bz (decide ((o.1:aa)=0)) (decide ((p:aa)=0))) _ _) λr=>bC (bz (bX o.1 0) (bX p 0)) _ _
  rw[Pj,Pj];cases q:bz (bX o.1 0) (bX p 0)with
  |false=>exact((((jM 2).app (jM o.1)).app hb).app hc).le (by decide)
  |true=>
   induction p using jh with
   |zero=>exact(((oF0▸jM 0:Oc 5 [.int (0:H)] (cU 0 0)).app hb).app hc).le (by decide)
   |succ p=>cases(bf q)
end
section
open Wh (cu)
variable{w:bU}{bJ s:aE}{x:cu w bJ s}{n p:H}
noncomputable def Pk(m:b6)(f:dB->H)(c:J dB)(p:aa)(t:Ts)(q hc:aD)(ks:J D):J O:=r9 m (jq m.s) f c p t cV q ks hc (m.f.map cW.d) []
def C4:Tr:=λa_ o_ k_=>∀P_:Tr,(∀(m c p t q hc ks){k},hc=ah\/ks=[]->fO 2 (λc=>uP m c.b) c->k (.d .none) (Pk m dB.b c p t q hc ks)->P_ [.ref 0] (Pk m f0 c p t q hc ks) k)->P_ a_ o_ k_
theorem C4.mk(m c p t q hc ks){k}(f5:hc=ah\/ks=[])(lg:fO 2 (λc=>uP m c.b) c)(t7:k (.d .none) (Pk m dB.b c p t q hc ks)):C4 [.ref 0] (Pk m f0 c p t q hc ks) k:=λP_ c_=>c_ m c p t q hc ks f5 lg t7
noncomputable def ce1:J (H×Tr):=[(Ma,V0),(G_,O3 VQ)]
theorem ce2:∀n∈cV,1<=j6 n/\j6 n<=12/\cV[j6 n -1]?=N n:=by decide
theorem ce3{m:b6}{i:H}(h:uP m i){a b:Prop}(h0:i=0->b)(h1:(0<=(j6 i:aa) -1/\(j6 i:aa) -1<12/\∀y,(cV.map fW)[((j6 i:aa) -1).toNat]?=N y->y=fW i)->a):@Bool.rec (λX=>Prop) b a (decide (0<=(j6 i:aa) -1)):=by
 rcases h with h|h
 ·have h:i=0:=h;subst h;exact h0 rfl
 ·have h:=ce2 i h.1;generalize j6 i=j at h h1
  induction j using jh with
  |zero=>cases h.1
  |succ j=>
   have e:((j+1:H):aa) -1=j:=uh (j:aa) 1;rw[e]at h1|-
   rw[nL nn];refine h1 ⟨nn,dF.mpr h.2.1,λy hy=>?_⟩;rw[mC,show cV[(j:aa).toNat]?=N i from h.2.2]at hy
   exact(fU hy).symm
theorem Wq{A:aD}{C ff lZ:Prop}(h:A=ah\/C)(f:C->ff->lZ)(r:ff):@Bool.rec (λX=>Prop) ff lZ (!A):=by
 cases A
 ·exact f (h.resolve_left nofun) r
 ·exact r
noncomputable def FO(m:b6)(c:J dB):b6:=⟨m.k,m.i,m.f,m.t,m.m,m.g,m.e,m.s,m.l,m.d,c⟩
theorem Ws{m:b6}{i:H}(h:uP m i){K:D->Prop}{a b:Prop}(g:K (fW i))(ea:(0<=(j6 i:aa) -1/\(j6 i:aa) -1<12/\∀y,(cV.map fW)[((j6 i:aa) -1).toNat]?=N y->K y)->a)(eb:K (.int 0)->b):@Bool.rec (λX=>Prop) b a (decide (0<=(j6 i:aa) -1)):=
 ce3 h (λe=>eb (by subst e;exact g)) λe=>ea ⟨e.1,e.2.1,λy z=>e.2.2 y z▸g⟩
@[elab_as_elim] theorem ce4{α:Type}{P:α->Prop}{M:J α->Prop}{l:J α}(h:fO 2 P l)(h0:M [])(h1:∀a,P a->M [a])(h2:∀a b,P a->P b->M [a,b]):M l:=by
 cases l with
 |nil=>exact h0
 |cons a l=>
  have g:=gv.mp h.2;cases l with
  |nil=>exact h1 a g.1
  |cons b l=>
   cases l with
   |nil=>exact h2 a b g.1 (g.2 b (.head _))
   |cons c l=>exact absurd h.1 (Gp (xY 3 _))
theorem ce5:aQ (aU x) (n+5) RD C4:=fc x (q:=by8) (l:=ce1) (by kernel_rfl) ⟨ac6,ab5.bZ9,cH2⟩ λX I u2 g=>g _ λm c p t q hc ks k h hb=>by
 refine ce4 hb ?_ (λa hb=>?_) λa b hb hj=>?_
 ·intro S
  conv=>whnf
  refine Wq (C:=ks=[]) h ?_ λat_=>(λX I=>I m _ f0 [] p t cV q ks hc _ at_ (.inl rfl) S);intro e r;subst e
  conv at r=>whnf
  conv=>whnf
  exact r
 ·cases a with|mk y u i=>
  have hb:uP m i:=hb;intro S
  conv=>whnf
  refine Wq (C:=ks=[]) h ?_ λat_=>(λX I=>I m _ f0 [⟨y,u,i⟩] p t cV q ks hc _ at_ (.inl rfl) ?_)
  ·intro e r;subst e
   conv at r=>whnf
   conv=>whnf
   exact r
  conv=>whnf
  exact Ws hb ⟨[b6.D (FO m [⟨y,u,0⟩]),.int i],rfl,rfl,(FO m [⟨y,u,0⟩],i),hb,rfl,rfl,⟨rfl,rfl⟩,S⟩ (λh=>h) λh=>h
 ·cases a with|mk y u i=>
  cases b with|mk z v j=>
  have hj:uP m j:=hj;have hb:uP m i:=hb;intro S
  conv=>whnf
  refine Wq (C:=ks=[]) h ?_ λat_=>(λX I=>I m _ f0 [⟨y,u,i⟩,⟨z,v,j⟩] p t cV q ks hc _ at_ (.inl rfl) ?_)
  ·intro e r;subst e
   conv at r=>whnf
   conv=>whnf
   exact r
  conv=>whnf
  refine Ws hb ⟨[b6.D (FO m [⟨y,u,0⟩,⟨z,v,0⟩]),.int i],rfl,rfl,(FO m [⟨y,u,0⟩,⟨z,v,0⟩],i),hb,rfl,rfl,⟨rfl,rfl⟩,?_⟩ (λh=>h) λh=>h
  conv=>whnf
  exact Ws hj ⟨[b6.D (FO m [⟨y,u,i⟩,⟨z,v,0⟩]),.int j],rfl,rfl,(FO m [⟨y,u,i⟩,⟨z,v,0⟩],j),hj,rfl,rfl,⟨rfl,rfl⟩,S⟩ (λh=>h) λh=>h
inductive It where
 |sec (n:H)
 |A4 (c:dB)
noncomputable def JO(p:H)(m:b6)(i:It)(r:Ts):Ts:=match i with
 | .sec n=>cB n (tZ p (pF p m n) r)
 | .A4 c=>Jf p c r
noncomputable def nH(p:H)(m:b6)(l:J It):Ts:=tL (JO p m) l []
def YE(m:b6)(dn:J H):Prop:=∀n∈cV,jI m n=ah->eK n dn=ah
structure Pn(p:H)(a:dB):Prop where
 n:kQ a.n
 s:cY (c8 (tW p a.n (cR a.c []))).length
def vC(m:b6)(p:H)(l:J It):J dB->aa->J H->Prop:=l.rec (λc _ dn=>c=m.c/\YE m dn) λi _ ih c pl dn=>i.rec (λn=>∃q,VY n q/\pl<(q:H)/\n∈cV/\pre p m dn n/\cY (c8 (pF p m n)).length/\ih c q (n::dn)) λa=>pl=xO a/\Pn p a/\c.length<2/\ih (c++[a]) (xO a) dn
noncomputable def reG(m:b6)(Z:D)(c:J dB)(pl:aa)(t:Ts)(dn:J H)(q:aD)(ks:J D)(hc:aD)(fs:J D):J O:=VZ 6 m q ks hc::pI 2 pl::.cur t::zd m Z dn 4 5::.dl fs::(match c with
 |[]=>[.dl [],.dl []]
 |[a]=>[.vl [.ref 8],.dl [zY a],.cur [],uZ a 0]
 |a::b::c=>[.vl [.ref 8,.ref 10],.dl ((a::b::c).map zY),.cur [],uZ a 0,.cur [],uZ b 0])
noncomputable def Wt(m:b6)(c:J dB)(pl:aa)(t:Ts)(dn:J H):J O:=reG m (bC (eK 8 dn) (jq m.s) .none) c pl t dn (eK 12 dn) (jg dn 3 kD m.f) (eK 10 dn) (jg dn 10 cW.d m.f)
noncomputable def af1:Fm:=[(aK,.L (N (.ref 0))),(dX,.L ao),(bw,.L ao),(bH,.L ao),(fK,.L ao)]
inductive Wu(m:b6)(p:H):H->St->Prop
 |mk (l c pl dn):vC m p l c pl dn->Wu m p l.length ⟨af1,Wt m c pl (nH p m l) dn⟩
noncomputable def ce6(p:H):J (H×Tr):=[(Rq,uY),(Rr,wg p),(Lv,Fq p),(yk,Vu),(RB,V3 p),(G3,v9),(RD,C4)]
noncomputable def Po(m:b6)(pl:aa)(q hc:aD)(ks:J D):J O:=VZ 6 m q ks hc::pI 2 pl::.cur []::zd m (jq m.s) cV 4 5::.dl (m.f.map cW.d)::(match m.c with
 |[]=>[.dl [],.dl []]
 |[a]=>[.vl [.ref 7],.dl [zY a],uZ a a.b]
 |a::b::c=>[.vl [.ref 7,.ref 8],.dl ((a::b::c).map zY),uZ a a.b,uZ b b.b])
def JP(p:H):Tr:=λa_ o_ k_=>∀P_:Tr,(∀(m:b6)(l:J It){k},vC m p l [] (-1) []->m.ok->(∀pl q hc ks,k (.ref 3) (Po m pl q hc ks))->P_ [.ref 0] (qs m f0 [] (-1) (nH p m l) [] []) k)->P_ a_ o_ k_
theorem JP.mk{p:H}(m:b6)(l:J It){k}(f5:vC m p l [] (-1) [])(lg:m.ok)(t7:(∀pl q hc ks,k (.ref 3) (Po m pl q hc ks))):JP p [.ref 0] (qs m f0 [] (-1) (nH p m l) [] []) k:=λP_ c_=>c_ m l f5 lg t7
theorem Wv{α:Type}{f:α->D}{l:J α}{dn:J H}{n:H}(h:(!f9 (l.map f))=ah->eK n dn=ah):jg dn n f l=l.map f:=by
 unfold jg;induction l using eT with
 |nil=>cases eK n dn<;>rfl
 |cons a l=>rw[h rfl];rfl
structure ce7(m:b6)(dn:J H):Prop where
 a:∀Z a b,zd m Z dn a b=zd m Z cV a b
 b:bC (eK 8 dn) (jq m.s) .none=jq m.s
 c:jg dn 10 cW.d m.f=m.f.map cW.d
 d:eK 10 dn=ah\/jg dn 3 kD m.f=[]
theorem ce8{m:b6}{dn:J H}(h:YE m dn):ce7 m dn:=by
 have g:∀{α:Type}{f:α->D}{l:J α}(n:H),n∈cV->jI m n=(!f9 (l.map f))->jg dn n f l=jg cV n f l:=λn hn e=>by rw[Wv λq=>h n hn (e.trans q),Wv λX=>HR.mpr hn]
 refine⟨λZ a b=>?_,?_,Wv λq=>h 10 (by decide) q,?_⟩
 ·unfold zd zc;rw[g 1 (by decide) rfl,g 2 (by decide) rfl,g 4 (by decide) rfl,g 5 (by decide) rfl,g 6 (by decide) rfl,g 7 (by decide) rfl,g 9 (by decide) rfl,g 11 (by decide) rfl]
 ·have g:=h 8 (by decide)
  cases e:m.s with
  |none=>cases eK 8 dn<;>rfl
  |some i=>rw[g (by show(!(jq m.s).o6)=ah;rw[e];rfl)];rfl
 ·have g:=h 10 (by decide)
  cases e:m.f with
  |nil=>exact .inr (by unfold jg;cases eK 3 dn<;>rfl)
  |cons f l=>exact .inl (g (by show(!f9 (m.f.map cW.d))=ah;rw[e];rfl))
theorem ce9:aQ (aU x) (n+18) RA (JP p):=fc x (q:=by5) (l:=ce6 p) (by kernel_rfl) ⟨bY2,bY4,bM4,Qb,bZ5,KF,ce5,cH2⟩ λX I u2 g=>g _ λm l k hl hm S=>by
 conv=>whnf
 refine⟨Wu m p,l.length,.mk l [] (-1) [] hl,?_⟩;intro j Z h;cases h with|mk l c pl dn h=>
 cases l with
 |nil=>
  cases h.1;have e:=ce8 h.2;have hc:=hm.c;have S:=S pl (eK 12 dn) (eK 10 dn);unfold Wt reG;rw[e.a,e.b,e.c];have ed:=e.d;clear e h hl
  revert ed
  generalize jg dn 3 kD m.f=ks;intro ed;have S:=S ks;unfold Po at S
  have hb:fO 2 (λc=>uP m c.b) m.c:=⟨hc.1,λc h=>(hc.2 c h).2.2⟩;clear hc
  revert hb S
  generalize m.c=c;intro S hb;rcases c with _|⟨a,_|⟨b,c⟩⟩
  ·exact(uY.mk pl [] (C4.mk m [] pl [] (eK 12 dn) (eK 10 dn) ks ed hb S))
  ·exact(uY.mk pl [] (C4.mk m [a] pl [] (eK 12 dn) (eK 10 dn) ks ed hb S))
  ·exact(uY.mk pl [] (C4.mk m (a::b::c) pl [] (eK 12 dn) (eK 10 dn) ks ed hb S))
 |cons i l=>
 cases i with
 |sec n=>
  refine b_ h λq h=>?_;have ne:decide ((n:aa)=0)=ak:=kq λe=>vg 0 (aq2 h.1.b.2 (zS.mp e));have hi:Wu m p l.length ⟨af1,Wt m c q (nH p m l) (n::dn)⟩:=.mk l c q (n::dn) h.2.2.2.2.2
  revert hi
  rcases c with _|⟨a,_|⟨b,c⟩⟩
  ·exact λhi=>(uY.mk pl (nH p m (.sec n::l)) (wg.sS pl n q (pF p m n) (nH p m l) h.2.2.2.2.1 h.1 h.2.1 (jb ne ⟨m,[],q,nH p m l,dn,n,h.2.2.1,hm,h.2.2.2.1,v9.mk ⟨l.length,m7 _,hi⟩⟩)))
  ·exact λhi=>(uY.mk pl (nH p m (.sec n::l)) (wg.sS pl n q (pF p m n) (nH p m l) h.2.2.2.2.1 h.1 h.2.1 (jb ne ⟨m,[a],q,nH p m l,dn,n,h.2.2.1,hm,h.2.2.2.1,v9.mk ⟨l.length,m7 _,hi⟩⟩)))
  ·exact λhi=>(uY.mk pl (nH p m (.sec n::l)) (wg.sS pl n q (pF p m n) (nH p m l) h.2.2.2.2.1 h.1 h.2.1 (jb ne ⟨m,a::b::c,q,nH p m l,dn,n,h.2.2.1,hm,h.2.2.2.1,v9.mk ⟨l.length,m7 _,hi⟩⟩)))
 |A4 a=>
  cases h.1;rcases c with _|⟨d,_|⟨b,c⟩⟩
  ·exact(uY.mk (xO a) (nH p m (.A4 a::l)) (wg.c (xO a) (tW p a.n (cR a.c [])) (nH p m l) h.2.1.s (Fq.mk a.n a.c h.2.1.n (uW.mk (dB.mk a.n a.c 0) ⟨(by decide),v9.mk ⟨l.length,m7 _,.mk l [a] (xO a) dn h.2.2.2⟩⟩))))
  ·exact(uY.mk (xO a) (nH p m (.A4 a::l)) (wg.c (xO a) (tW p a.n (cR a.c [])) (nH p m l) h.2.1.s (Fq.mk a.n a.c h.2.1.n (uW.mk (dB.mk a.n a.c 0) ⟨(show 1<1048576 by decide),(show 1<1048576 by decide),v9.mk ⟨l.length,m7 _,.mk l [d,a] (xO a) dn h.2.2.2⟩⟩))))
  ·exact absurd h.2.2.1 (QB (xY 2 _))
end
section
noncomputable def mU(n:H)(l:J dB):J It:=l.foldr (λc r=>bC (bX c.b n) (.A4 c::r) r) []
noncomputable def itP(p:H)(m:b6)(n:H)(r:J It):J It:=bC (mq p m n) (.sec n::(mU n m.c++r)) (mU n m.c++r)
noncomputable def A5(p:H)(m:b6)(l:J H):J It:=l.foldr (itP p m) []
noncomputable def eX(p:H)(m:b6):J It:=mU 0 m.c++A5 p m cV
theorem af2{α:Type}{t:α->Ts->Ts}(a b:J α)(r:Ts):tL t (a++b) r=tL t a (tL t b r):=List.foldr_append ..
theorem af3{p:H}{m:b6}{n:H}(r:Ts):∀l:J dB,tL (JO p m) (mU n l) r=uT p n l r:=λi_=>by
 induction i_ with
 |nil=>exact rfl
 |cons c l ih=>
  show tL (JO p m) (bC (bX c.b n) (.A4 c::mU n l) (mU n l)) r=bC (bX c.b n) (Jf p c (uT p n l r)) (uT p n l r)
  rw[<-ih];cases bX c.b n<;>rfl
theorem cf0{p:H}{m:b6}:∀l:J H,tL (JO p m) (A5 p m l) []=tL (AN p m) l []:=λi_=>by
 induction i_ with
 |nil=>exact rfl
 |cons n l ih=>
  show tL (JO p m) (bC (mq p m n) (.sec n::(mU n m.c++A5 p m l)) (mU n m.c++A5 p m l)) []=bC (mq p m n) (cB n (tZ p (pF p m n) (uT p n m.c (tL (AN p m) l [])))) (uT p n m.c (tL (AN p m) l []))
  rw[<-ih,<-af3,<-af2];cases mq p m n<;>rfl
theorem cf1(p:H)(m:b6):AO p m=A0 (nH p m (eX p m)):=by unfold nH eX;rw[af2,cf0,af3];rfl
noncomputable def pf(c:dB):H:=j6 c.b
noncomputable def nq(q:H):H:=kB 0 cV q
theorem cf2:∀q<12,nq q∈cV/\cV.drop q=nq q::cV.drop (q+1)/\(cV[q]?=N (nq q)/\(nq q<=12/\1<=nq q)/\∀m,m<q->cV[m]?≠N (nq q))/\j6 (nq q)=q+1/\(nq q=10->3∈cV.take q/\12∈cV.take q/\10∉cV.take q)/\cV.take (q+1)=cV.take q++[nq q]:=by decide
theorem af4:∀a∈0::cV,∀b∈0::cV,j6 a=j6 b->a=b:=by decide
structure Sm(p:H)(m:b6):Prop where
 f:∀f∈m.f,smF p f
 s:∀n∈cV,cY (c8 (pF p m n)).length
 c:∀c∈m.c,Pn p c
structure Gs(p:H)(m:b6)(q:H)(cd cr:J dB)(dn:J H):Prop where
 e:m.c=cd++cr
 s:(cr.map pf).Pairwise (·<=·)
 r:∀c∈cr,q<pf c
 d:∀c∈cd,pf c<=q
 n:∀j,eK j dn=ah↔j∈cV.take q/\mq p m j=ah
theorem af5{p:H}{m:b6}{l:J It}{dn:J H}{j n:H}(h2:m.c.length<=2)(hc:∀c∈m.c,Pn p c/\(c.b=n↔pf c=j))(cr:J dB):∀(cd:J dB)(pl:aa),m.c=cd++cr->(cr.map pf).Pairwise (·<=·)->(∀c∈cr,j<=pf c)->(∀c∈cd,pf c<=j)->(∀c∈cr,pf c=j->xO c=pl)->
  (∀cd cr,m.c=cd++cr->(cr.map pf).Pairwise (·<=·)->(∀c∈cr,j<pf c)->(∀c∈cd,pf c<=j)->vC m p l cd pl dn)->vC m p (mU n cr++l) cd pl dn:=by
 induction cr with
 |nil=>exact λcd pl e s g d X k=>k cd [] e s nofun d
 |cons c cr ih=>
  intro cd pl e s g d hp k;have g1:=hc c (e▸kj _ (.head _));have s':=DE.mp s
  show vC m p (bC (bX c.b n) (.A4 c::mU n cr) (mU n cr)++l) cd pl dn
  cases q:bX c.b n with
  |true=>
   have ej:=g1.2.mp (mV q);have e1:=hp c (.head _) ej;subst e1;refine⟨rfl,g1.1,?_,ih _ _ (by rw[jx];exact e) s'.2 (λy h=>g y (.tail _ h)) (λy h=>?_) (λy h=>hp y (.tail _ h)) k⟩
   ·rw[e,f6]at h2
    exact pN (xV (jc _)) h2
   ·rcases gK.mp h with h|h
    ·exact d y h
    ·rw[fN.mp h,ej];exact jO _
  |false=>
   have nj:j<pf c:=cC5 (g c (.head _)) λe=>PV q (g1.2.mpr e.symm);have all:∀y∈c::cr,j<pf y:=gv.mpr ⟨nj,λy h=>pN nj (s'.1 _ (aq3 h))⟩;have no:mU n cr=[]:=by
    have go:∀cr:J dB,(∀y∈cr,bX y.b n=ak)->mU n cr=[]:=λcr=>by
     induction cr with
     |nil=>exact λX=>rfl
     |cons y cr ih=>
      intro h
      show bC (bX y.b n) _ _=_
      rw[h y (.head _)];exact ih λy z=>h y (.tail _ z)
    refine go cr λy h=>?_;cases q:bX y.b n with
    |false=>rfl
    |true=>exact absurd ((hc y (e▸kj _ (.tail _ h))).2.mp (mV q)) (Kv (all y (.tail _ h)))
   show vC m p (mU n cr++l) cd pl dn
   rw[no];exact k cd (c::cr) e s all d
theorem af6(n:H)(b:J dB){a:J dB}:(∀c∈a,bX c.b n=ak)->mU n (a++b)=mU n b:=by
 induction a with
 |nil=>exact λX=>rfl
 |cons c a ih=>exact λh=>(bQ (bC · (.A4 c::mU n (a++b)) (mU n (a++b))) (h c (.head _))).trans (ih λy z=>h y (.tail _ z))
section
variable{p:H}{m:b6}{q n:H}{cd cr:J dB}{dn:J H}
theorem af7(hm:m.ok)(hn:1<=n)(t:mq p m n=ak)(c:dB)(hc:c∈m.c):bX c.b n=ak:=
 zL.mpr λe=>by
  have e:=mV e;rcases(hm.c.2 c hc).2.2 with g|g
  ·exact absurd hn (Gp ((e▸g:n=0)▸Nat.zero_lt_one))
  ·rw[e]at g;unfold mq at t;rw[g.2]at t;cases t
theorem cf3(hm:m.ok)(hs:Sm p m)(h:Gs p m q cd cr dn)(h7:n=10->3∈cV.take q/\12∈cV.take q/\10∉cV.take q)(t:mq p m n=ah):pre p m dn n:=by
 refine⟨λe=>?_,λe=>?_⟩
 ·subst e;have t:(jj (!(jq m.s).o6) (bz (k6 (bX p 0)) ak))=ah:=t;cases e:m.s with
  |some i=>exact⟨i,rfl⟩
  |none=>rw[e]at t;cases q:k6 (bX p 0)<;>rw[q]at t<;>cases t
 ·have g:=h7 e;subst e;refine⟨(h.n 3).mpr ⟨g.1,t⟩,zL.mpr λq=>absurd ((h.n 10).mp q).1 g.2.2,λf hf=>⟨hm.f.2 f hf,hs.f f hf,?_⟩⟩;cases u:mq p m 12 with
  |true=>exact .inl ((h.n 12).mpr ⟨g.2.1,u⟩)
  |false=>refine .inr λi hi=>zL.mpr λe=>?_;have hu:NX m=ah:=wD.mpr ⟨f,hf,wD.mpr ⟨i,hi,e⟩⟩;have u:jj (NX m) _=ak:=u;rw[hu]at u;cases u
theorem cf4(h:Gs p m q cd cr dn)(h8:cV.take (q+1)=cV.take q++[n])(t:mq p m n=ah)(i:H):eK i (n::dn)=ah↔i∈cV.take (q+1)/\mq p m i=ah:=by
 rw[h8,gK,fN]
 show(match bX i n with|true=>ah|false=>eK i dn)=ah↔_
 cases e:bX i n with
 |true=>have e:=mV e;exact⟨λX=>⟨.inr e,e▸t⟩,λX=>rfl⟩
 |false=>exact(h.n i).trans (and_congr_left' ⟨.inl,λz=>z.resolve_right (PV e)⟩)
theorem cf5(h:Gs p m q cd cr dn)(h8:cV.take (q+1)=cV.take q++[n])(t:mq p m n=ak)(i:H):eK i dn=ah↔i∈cV.take (q+1)/\mq p m i=ah:=by rw[h8,gK,fN];refine(h.n i).trans ⟨λz=>⟨.inl z.1,z.2⟩,λz=>⟨z.1.resolve_right λe=>?_,z.2⟩⟩;have t2:=z.2;rw[e,t]at t2;cases t2
theorem cf6(hm:m.ok)(h:Gs p m 12 cd cr dn):cr=[]:=by
 induction cr using eT with
 |nil=>rfl
 |cons c cr=>
  have b:=(hm.c.2 c (h.e▸kj _ (.head _))).2.2;have le:∀n∈0::cV,j6 n<=12:=by decide
  exact absurd (le c.b (b.elim (λe=>e▸ .head _) λe=>.tail _ e.1)) (Gp (h.r c (.head _)))
theorem cf7(hm:m.ok)(hs:Sm p m){j:H}:∀q,q+j=12->∀(cd cr:J dB)(pl:aa)(dn:J H),Gs p m q cd cr dn->pl<q->vC m p (A5 p m (cV.drop q)) cd pl dn:=by
 induction j with
 |zero=>
  intro q hq cd cr pl dn h hl;have hq:q=12:=hq;subst hq;have e2:=h.e;rw[cf6 hm h,j3]at e2
  exact e2▸⟨rfl,λn hn ht=>(h.n n).mpr ⟨hn,by unfold mq;rw[ht];rfl⟩⟩
 |succ j next=>
  intro q hq cd cr pl dn h hl;have a:=cf2 q (aq2 (xV (jc j)) hq);have next:=next (q+1) ((A6 ..).trans hq);generalize nq q=n at a
  have ok:∀c∈m.c,Pn p c/\(c.b=n↔pf c=q+1):=λc hc=>⟨hs.c c hc,λe=>(bQ j6 e).trans a.2.2.2.1,λe=>af4 _ ((hm.c.2 c hc).2.2.elim (λe=>e▸ .head _) λe=>.tail _ e.1) _ (.tail _ a.1) (e.trans a.2.2.2.1.symm)⟩;rw[a.2.1]
  show vC m p (bC (mq p m n) (.sec n::(mU n m.c++A5 p m (cV.drop (q+1)))) (mU n m.c++A5 p m (cV.drop (q+1)))) cd pl dn
  cases t:mq p m n with
  |true=>
   refine⟨q,⟨a.2.2.1.1,a.2.2.1.2.1,a.2.2.1.2.2⟩,hl,a.1,cf3 hm hs h a.2.2.2.2.1 t,hs.s n a.1,?_⟩
   show vC m p (mU n m.c++A5 p m (cV.drop (q+1))) cd q (n::dn)
   rw[h.e,af6 n cr λc hc=>zL.mpr λe=>absurd (h.d c hc) (Gp (((ok c (h.e▸iM _ hc)).2.mp (mV e))▸m7 q))];exact af5 (j:=q+1) hm.c.1 ok cr cd q h.e h.s h.r (λc hc=>xT (h.d c hc)) (λc hc e=>(bQ (λz:H=>(z:aa) -1) e).trans (uh (q:aa) 1)) λcd cr e s r d=>next cd cr q (n::dn) ⟨e,s,r,d,cf4 h a.2.2.2.2.2 t⟩ (cC6 (zU _))
  |false=>
   have no:=af6 n [] (af7 hm a.2.2.1.2.1.2 t);rw[j3]at no
   rw[no];exact next cd cr pl dn ⟨h.e,h.s,λc hc=>cC5 (h.r c hc) λe=>absurd ((bQ (bX · n) ((ok c (h.e▸kj _ hc)).2.mpr e.symm)).trans (WZ n)) (zL.mp (af7 hm a.2.2.1.2.1.2 t c (h.e▸kj _ hc))),λc hc=>xT (h.d c hc),cf5 h a.2.2.2.2.2 t⟩ (sN hl (cC6 (zU _)))
end
theorem cf8{p:H}{m:b6}(hm:m.ok)(hs:Sm p m):vC m p (eX p m) [] (-1) []:=by
 have b0:∀c∈m.c,c.b∈0::cV:=λc hc=>(hm.c.2 c hc).2.2.elim (λe=>e▸ .head _) λe=>.tail _ e.1;exact af5 (j:=0) (n:=0) hm.c.1 (λc hc=>⟨hs.c c hc,λe=>bQ j6 e,λe=>af4 _ (b0 c hc) 0 (.head _) e⟩) m.c [] (-1) rfl hm.cs (λX I=>qw _) nofun (λc hc e=>by
  show((pf c:H):aa) -1=-1
  rw[e];rfl) λcd cr e s r d=>cf7 hm hs (j:=12) 0 rfl cd cr (-1) [] ⟨e,s,r,d,λj=>⟨nofun,λz=>absurd z.1 nofun⟩⟩ (by decide)
end
section
variable{cC M p:H}{a b:J D}{f g:J D->J D}{s t:Ts->Ts}
theorem cf9{c:iR}(h:∀i∈c,i.mP):Oc (26*c.length) (lN p c []) (oN p c):=(Oa.fold λy m=>af0 (h y m)).at
theorem cg0{e:dz}(h:e.ok):∀e8,Oc 109 (oL p (pK p e8 e)) (CM p (!e8) e)
 |true=>(JM (F:=λi:er=>oF p i.x) λi m=>jM i.x).le (bR (sI (zT 5 h.2.2.1) 5) (by decide))
 |false=>(JM (cC:=52) (F:=λi:er=>lN p (i.b e.k) []) λi m=>(cf9 (OZ h.2.1 (h.2.2.2 i m))).le (by cases i<;>exact jO 52)).le (sI (zT 52 h.2.2.1) 5)
theorem cg1(w:H):∀e8,Oc 5 (vd p e8 w) λr=>cU p (bC (!e8) (w+4) w) r
 |true=>jM w
 |false=>jM (w+4)
theorem cg2{e:dz}(h:e.ok):∀e8,Oc 1 (zf e8 e.k) (Jd (!e8) e.k)
 |true=>qt (n:=0) (by decide)
 |false=>zx (Pe h.2.1)
theorem cg3{e:dz}(h:e.ok)(e8:aD):Oc 432 (O7 p e e8) (FR p (!e8) e):=by
 have hf:=cg0 (p:=p) h e8;have S:=cg2 h e8;have hd:=λw=>cg1 (p:=p) w e8;obtain⟨m,k,is⟩:=e;induction m with
 |p=>exact(((hd 1).app S).app hf).le (by decide)
 |d=>exact(((hd 3).app S).app hf).le (by decide)
 |a y c=>
  have hb:=Pg (p:=p) h.1.2
  show Oc 432 (bC (bz (decide ((y:aa)=0)) (bz (decide (k=-16)) (decide ((p:aa)=0)))) _ _) λr=>bC (bz (bX y 0) (bz (decide (k=-16)) (bX p 0))) _ _
  rw[Pj,Pj];cases bz (bX y 0) (bz (decide (k=-16)) (bX p 0))with
  |false=>exact(((((hd 2).app (jM y)).app hb).app S).app hf).le (by decide)
  |true=>exact(((hd 0).app hb).app hf).le (by decide)
theorem Ww(a b:H):decide ((a:aa)=b)=bX a b:=PW.mpr ⟨λh=>Nat.beq_eq.mpr (zS.mp (gy h)),λh=>nL (bQ _ (mV h))⟩
theorem cg4{e:dz}(h:e.ok):Oc 432 (C1 p e) (CN p e):=by
 have g:=cg3 (p:=p) h (bz (!lM e) (!decide ((p:aa)=1)));rw[show(!bz (!lM e) (!decide ((p:aa)=1)))=jj (lM e) (bX p 1)from by
  rw[show decide ((p:aa)=1)=bX p 1 from Ww p 1]
  cases lM e<;>cases bX p 1<;>rfl]at g
 exact g
inductive FP(cC:H)(a:J D)(ts:Ts):Prop
 |mk:a=fJ (c8 ts)->(c8 ts).length<=cC->Pd (c8 ts)->FP cC a ts
theorem Oc.c(h:Oc cC a t):FP cC a (t []):=h.rec λl e hl=>by have e2:c8 (t [])=l:=(hl.t []).trans (j3 l);subst e2;exact⟨e,hl.n,hl.b⟩
theorem Wx{ts:Ts}(h:FP cC a ts):Oc (5+cC) (oZ p a) (tZ p ts):=h.rec λe hn hb=>by
 subst e;refine(show Oc 5 (oF p (fJ (c8 ts)).length) (cU p (c8 ts).length)from ?_).app (.mk (c8 ts) rfl ⟨λr=>rfl,hn,hb⟩)
 rw[show(fJ (c8 ts)).length=(c8 ts).length from cO ..]
 exact jM _
theorem oF1{n:H}(h:n<128):oF 0 n=[.int n]:=by
 unfold oF tU;rw[E4,dP h]
 show[D.int ((n% 128:H):aa)]=_
 rw[zN h]
theorem cg5{l:J aa}(h:fO 4 (·∈[-1,-2]) l):∀r∈tX p l,Oc 6 (zj r) (Fd r):=by
 have one:∀r:l5,r.1<128/\-128<=r.2/\r.2<0->Oc 6 (zj r) (Fd r):=λr h=>(oF1 h.1▸jM r.1:Oc 5 [.int (r.1:H)] (cU 0 r.1)).app (zx h.2);induction p using jh with
 |zero=>exact λr m=>one r ((JI h).2.1 r m)
 |succ p=>
  intro r m;rcases iV.mp m with e|m
  ·exact one r (e▸by decide)
  ·refine b_ (qA.mp m) λk hx=>?_;have S:=hx.1;have e:=hx.2;exact one r (e▸eW (P:=λk:aa=>(1<128/\-128<=k/\k<0)) (h.2 k S) ⟨by decide,by decide,cH2⟩)
theorem cg6{l:J aa}(h:fO 4 (·∈[-1,-2]) l):(tX p l).length<=5:=by
 induction p using jh with
 |zero=>exact xT (JI h).1
 |succ p=>exact lB (bR (jm (cO ..)) h.1)
theorem Wy{f:cW}(h:f.ok):Oc 347 (O_ p f) λr=>Ja p f.l (oN p f.b r):=((JM (cg5 h.2.1)).le (sI (zT 6 (cg6 h.2.1)) 5)).app (Pg h.2.2)
theorem cg7{f:cW}(h:f.ok):Oc 352 (C2 p f) (CL p f):=Wx (Wy h).c
theorem xP{α:Type}{F:α->J D}{T:α->Ts->Ts}{ok:α->Prop}{l:J α}(hl:fO 14 ok l)(hN:cC<=500)(h:∀y,ok y->Oc cC (F y) (T y)):Oc 7005 (rj p F l) (q7 p T l):=
 (JM λy m=>h y (hl.2 y m)).le (sI (Nat.mul_le_mul hN hl.1) 5)
theorem af8{m:b6}(hm:m.ok){i:H}(hi:i∈cV):FP 7005 (r_ p m i) (pF p m i):=eW (P:=λi=>FP 7005 (r_ p m i) (pF p m i)) hi
 ⟨(xP hm.k (by decide) λX=>cd6).c,(xP hm.i (by decide) λX=>cd5).c,(xP hm.f (by decide) λf X=>jM f.k).c,(xP hm.t (by decide) λX=>cd7).c,(xP hm.m (by decide) λX I=>Ph _).c,(xP hm.g (by decide) λX=>cd8).c,(xP hm.e (by decide) λX=>cd9).c,
 ((jM (m.s.getD 0)).le (by decide)).c,(xP hm.l (by decide) λX=>cg4).c,((jM m.d.length).le (by decide)).c,(xP hm.f (by decide) λX=>cg7).c,(xP hm.d (by decide) λX=>ce0).c,cH2⟩
theorem Wz{c:dB}(h:kQ c.n/\fO 2 (·<256) c.c):Oc 11 (ae1 p c) (λr=>tW p c.n (cR c.c r)):=(Pf h.1).app (.mk c.c rfl ⟨λX=>rfl,h.2.1,h.2.2⟩)
theorem cg8{i:H}{c:dB}(h:kQ c.n/\fO 2 (·<256) c.c):Oa 17 (ve p i · c) (λr=>bC (bX c.b i) (Jf p c r) r):=by
 unfold ve;rw[Ww];cases bX c.b i with
 |false=>exact Oa.id.le (by decide)
 |true=>exact(qt (n:=0) (by decide)).acc.comp (Wx (Wz h).c).acc
theorem af9{m:b6}(hm:m.ok)(i:H):Oa 34 (m.c.foldl (ve p i) ·) (uT p i m.c):=(Oa.fold λc h=>cg8 ⟨(hm.c.2 c h).1,(hm.c.2 c h).2.1⟩).le (zT 17 hm.c.1)
theorem cg9:∀i∈cV,(!Wf i)=k6 (jj (bX i 0) (bX i 8)):=by decide
theorem ch0:decide ((p:aa)>0)=k6 (bX p 0):=by
 induction p using jh with
 |zero=>rfl
 |succ p=>exact nL (dF.mpr (jc p))
theorem ch1{m:b6}{i:H}(hi:i∈cV):We m i=jI m i:=PW.mpr ⟨λh=>by refine b_ (wD.mp h) λj hx=>?_;have hj:=hx.1;have e:=hx.2;have e:=zS.mp (gy e);exact e▸(F6.mp hj).2,λh=>wD.mpr ⟨i,F6.mpr ⟨hi,h⟩,nL rfl⟩⟩
theorem ch2{m:b6}(hm:m.ok){i:H}(hi:i∈cV):Oa 7045 (zu p m · i) (AN p m i):=by
 have e:zq p m i=mq p m i:=by unfold zq mq;rw[ch1 hi,ch0,cg9 i hi]
 refine(Oa.comp (cC:=7011) (f:=λt=>bC (zq p m i) (t++[.int i]++oZ p (r_ p m i)) t) (s:=N_ p m i) ?_ (af9 hm i)).le (by decide:7011+34<=7045)
 unfold N_;rw[e];cases mq p m i with
 |false=>exact Oa.id.le (by decide)
 |true=>exact(qt ((by decide:∀i∈cV,i<256) i hi)).acc.comp (Wx (af8 hm hi)).acc
theorem ag0{m:b6}(hm:m.ok):FP 90000 (QU p m) (AO p m):=by
 have h0:Oa 34 (zu p m · 0) (uT p 0 m.c):=by
  unfold zu;rw[show zq p m 0=ak from by
   unfold zq;rw[show Wf 0=ah from rfl,show We m 0=ak from zL.mpr λh=>by obtain⟨j,hj,e⟩:=wD.mp h;have e:=zS.mp (gy e);subst e;exact absurd (F6.mp hj).1 (by decide)]
   cases decide ((p:aa)>0)<;>rfl]
  exact af9 hm 0
 have g:=(h0.comp (Oa.fold (F:=zu p m) (T:=AN p m) (l:=cV) λi hi=>ch2 hm hi));have hd:Oc 8 (fJ [0,97,115,109,1,0,0,0]) (λr=>cR [0,97,115,109] (cR [1,0,0,0] r)):=.mk _ rfl ⟨λX=>rfl,by decide,(by decide:∀b∈[0,97,115,109,1,0,0,0],b<256)⟩
 exact((hd.acc.comp g).at.le (by decide)).c
theorem ag1{m:b6}(hm:m.ok):Sm p m:=⟨λf h=>(Wy (p:=p) (hm.f.2 f h)).c.rec λX g I=>eZ g (by decide),
 λi hi=>(af8 (p:=p) hm hi).rec λX g I=>eZ g (by decide),
 λc h=>⟨(hm.c.2 c h).1,(Wz (p:=p) ⟨(hm.c.2 c h).1,(hm.c.2 c h).2.1⟩).c.rec λX g I=>eZ g (by decide)⟩⟩
end
section
def Wr(w:J H->J H)(t:Ts->Ts):Prop:=∀z r,w z++c8 r=z++c8 (t r)
variable{w v:J H->J H}{s t u:Ts->Ts}
theorem Wr.c(h:Wr w s)(g:Wr v u):Wr (λz=>v (w z)) (λr=>s (u r)):=λz r=>(g _ r).trans (h z _)
theorem WA:Wr (λz=>z) (λr=>r):=λX I=>rfl
theorem sd(n:H):Wr (w8 n) (cB n):=λz r=>jx ..
theorem WB(l:J H):Wr (wR l) (cR l):=λz r=>jx ..
theorem C5(i:aa):Wr (w7 i) (c7 i):=λz r=>by unfold w7;rw[Qx];exact jx ..
theorem jH{n:H}(h:cY n):Wr (wU n) (cU 0 n):=λz r=>by
 show z++yW n++c8 r=z++(tG n (min 5 (nG n))++c8 r)
 rw[Qp (T1 h).1,jx];rfl
theorem WD{b:H}{i:aa}(hb:b∈[32,33,64])(h:ql b i):Wr (wS i) (tS b 0 i::·):=λz r=>by
 have hx:=WF hb;refine b_ hx.2.2 λc hx=>?_;have ec:=hx.1;have p2:=hx.2;refine b_ (Jg i c (ji (Qc p2) h.1) (Bp h.2 p2)) λj hx=>?_;have f1:=hx.1;have f2:=hx.2.1
 show z++ny i (rW i)++c8 r=z++(ny i (min ((b+6)/7) (rW i))++c8 r)
 rw[Qp (by rw[f1,ec];exact lB f2),jx]
theorem JQ{α:Type}{W:α->J H->J H}{T:α->Ts->Ts}:∀{l:J α},(∀y∈l,Wr (W y) (T y))->Wr (wL W l) (tL T l):=@λi_=>by
 induction i_ with
 |nil=>exact λX=>WA
 |cons y l ih=>exact λh=>(h y (.head _)).c (ih λy m=>h y (.tail _ m))
theorem JR{α:Type}{f:α->D}{W:α->J H->J H}{T:α->Ts->Ts}{l:J α}(hl:cY l.length)(h:∀y∈l,Wr (W y) (T y)):Wr (λz=>wL W l (wU ((l.map f).length:H) z)) (q7 0 T l):=by rw[cO];exact(jH hl).c (JQ h)
theorem C6{α:Type}{P:α->Prop}{l:J α}{n:H}(h:fO n P l)(hn:n<4294967296):cY l.length:=eZ h.1 hn
theorem WG{l:J aa}(h:cY l.length):Wr (Bu l) (I8 0 l):=JR h λy X=>C5 y
theorem Pp{y:ai}(h:kQ y):Wr (wN y) (tW 0 y):=(jH (eZ (ae7 y h).1 (by decide))).c (WB (pQ y))
theorem WH:∀{l:qk},tP l->Wr (yY l) (CJ 0 l)
 |(X,ao),h=>(sd 0).c (jH h.1)
 |(X,N m),h=>((sd 1).c (jH h.1)).c (jH (h.2 m rfl))
theorem ch3{ls:J H}{a:J aa}(h:j5 ls a):Wr (rY a ls a) (xF 0 a ls a):=by
 cases h with
 |o=>exact WA
 |z=>exact sd 0
 |zz=>exact(sd 0).c (sd 0)
 |u h=>exact jH h
 |i h=>exact WD (.head _) h
 |l h=>exact WD (.tail _ (.tail _ (.head _))) h
 |@r i h=>exact C5 i
 |k h g=>exact WG (eZ h (by decide))
 |@t i a h g=>
  have e:((((i::a).map (sL:H->aa)).map D.int).length:aa) -1=((((i::a).map (sL:H->aa)).length -1:H):aa):=by rw[cO,cO];exact uh (a.length:aa) 1
  show Wr (λz=>wL wU _ (wU (((((i::a).map (sL:H->aa)).map D.int).length:aa) -1) z)) _
  rw[e];refine(jH (by rw[cO];exact eZ h (by decide))).c (JQ (T:=US 0) λy hy=>?_)
  refine b_ (qA.mp hy) λj hx=>?_;have hj:=hx.1;have e:=hx.2;exact e▸jH (g j hj)
 |@b i h=>
  show Wr (λz=>bC (decide (i<0)) (w7 i z) (wS i z)) (bC (decide (i<0)) (.s i 1) (tS 33 0 i)::·)
  cases q:decide (i<0)with
  |true=>exact C5 i
  |false=>exact WD (.tail _ (.head _)) (by
   cases h with
   |e=>cases q
   |k h=>exact absurd (JN h).2 (sJ q)
   |x h=>exact⟨ji (by decide) nn,dF.mpr h⟩)
 |uz h=>exact(jH h).c (sd 0)
 |uu h g=>exact(jH h).c (jH g)
 |au h g=>exact(jH (mD h (by decide))).c (jH g)
theorem ch4{i:fj}(h:i.mP):Wr (Ow i) (UT 0 i):=by
 have hl:=V6 h;have g0:=gy (PG.mp (lE ae8 _ (ae9 h))).1;refine Wr.c (w:=Ov i.c) (s:=pR 0 i.c) ?_ (ch3 hl.l)
 show Wr (λz=>bC (decide (i.c<64512)) (w8 i.c z) (wU (i.c -64512) (w8 252 z))) λr=>bC (decide (i.c<64512)) _ _
 cases q:decide (i.c<64512)with
 |true=>exact λz r=>jx ..
 |false=>
  have e:i.c -64512=((i.c -64512).toNat:H):=(Bo (QE (pP.mp (sJ q)))).symm
  show Wr (λz=>wU (i.c -64512) (w8 252 z)) λr=>cB 252 (cU 0 (i.c -64512).toNat r)
  generalize(i.c -64512).toNat=j at e
  have:=hl.c;rw[e];exact(sd 252).c (jH (dF.mp (e▸sN (Int.sub_lt_self i.c (by decide)) (sN hl.c (by decide)))))
theorem ag2{b:iR}(h:∀i∈b,i.mP):Wr (oQ b) (oN 0 b):=JQ λi m=>ch4 (h i m)
theorem JS{b:iR}(h:oH b):Wr (oQ b) (oN 0 b):=ag2 h.ins
theorem ch5{f:Fk}(h:rV f.1/\rV f.2):Wr (Fl f) (I9 0 f):=((sd 96).c (WG (C6 h.1 (by decide)))).c (WG (C6 h.2 (by decide)))
theorem ag3{t:iZ}(h:t.ok):Wr (CS t) (Fc 0 t):=(C5 t.k).c (WH h.2)
theorem ag4(g:Gk):Wr (Jk g) (N9 g):=(C5 g.k).c (sd g.m)
theorem ch6{i:fh}(h:i.ok):Wr (Jw i) (I_ 0 i):=by
 obtain⟨y,z,a⟩:=i;obtain⟨h1,h2,h3⟩:=h;have g:=λn=>((Pp h1).c (Pp h2)).c (sd n);cases a with
 |f a=>exact(g 0).c (jH h3)
 |t t=>exact(g 1).c (ag3 h3)
 |m l=>exact(g 2).c (WH h3)
 |g q=>exact(g 3).c (ag4 q)
theorem ch7{g:iy}(h:g.ok):Wr (Jv g) (Jb 0 g):=(ag4 g.g).c (JS h.2)
theorem ch8{e:ju}(h:e.ok):Wr (Jx e) (Jc 0 e):=((Pp h.1).c (sd e.s)).c (jH h.2.2)
theorem ch9{e:eV}(h:e.ok):Wr (FF e) (Je 0 e):=by
 obtain⟨o,c⟩:=e;have hc:Wr (λz=>wR c (wU (c.length:H) z)) λr=>cU 0 c.length (cR c r):=(jH (C6 h.2 (by decide))).c (WB c)
 induction o with
 |none=>exact(jH (n:=1) (by decide:1<4294967296)).c hc
 |some o=>
  obtain⟨h1,h2⟩:=h.1 o rfl;obtain⟨y,b⟩:=o;induction y using jh with
  |zero=>exact((jH (n:=0) (by decide:0<4294967296)).c (JS h2)).c hc
  |succ y=>exact(((jH (n:=2) (by decide:2<4294967296)).c (jH h1)).c (JS h2)).c hc
theorem WJ{w:J H->J H}{t:Ts->Ts}(h:Wr w t)(hl:cY (c8 (t [])).length):Wr (wZ (w [])) (tZ 0 (t [])):=by
 have e:w []=c8 (t []):=by
  have g:=h [] [];rw[FS,j3,cC1]at g
  exact g
 rw[e];exact(jH hl).c λz r=>jx ..
theorem ci0{r:l5}(h:r.1<128):Wr (OX r) (Fd r):=(jH (mD h (by decide))).c (C5 r.2)
theorem ci1{f:cW}(h:f.ok):Wr (Jy f) (CL 0 f):=WJ ((JR (f:=xG) (W:=OX) (T:=Fd) (l:=qG f.l) (eZ (JI h.2.1).1 (by decide)) λr m=>ci0 ((JI h.2.1).2.1 r m).1).c (JS h.2.2)) ((Wy (p:=0) h).c.rec λX g I=>eZ g (by decide))
theorem ci2{e:dz}(h:e.ok):∀B,(B=ak->∀i∈e.i,nf i=ak)->Wr (FG B e) (CM 0 B e)
 |true,X=>JR (f:=λi:er=>gA (i.b e.k)) (C6 h.2.2 (by decide)) λi m=>ag2 (OZ h.2.1 (h.2.2.2 i m))
 |false,g=>by
  have e1:∀(l:J er)(z:J H),wL wU (l.map er.j) z=wL (λi:er=>wU i.j) l z:=λl=>by
   induction l with
   |nil=>exact λX=>rfl
   |cons i l ih=>exact λz=>ih _
  show Wr (λz=>wL wU (e.i.map er.j) (wU _ z)) _
  rw[show wL wU (e.i.map er.j)=wL (λi:er=>wU i.j) e.i from funext (e1 e.i)]
  refine JR (T:=λi:er=>cU 0 i.x) (f:=λi:er=>gA (i.b e.k)) (C6 h.2.2 (by decide)) λi m=>?_
  have g:=g rfl i m;have hi:=h.2.2.2 i m;induction i with
  |f j=>exact jH hi
  |g j=>cases g
  |n=>cases g
theorem Pq(n m:H)(hn:cY n)(hm:cY m):∀B,Wr (wU (bC B (n:aa) m)) λr=>cU 0 (bC B n m) r
 |true=>jH hn
 |false=>jH hm
theorem ci3(e:dz):∀B,Wr (JB B e) (Jd B e.k)
 |true=>C5 e.k
 |false=>sd 0
theorem ci4{e:dz}(h:e.ok):Wr (CW e) (CN 0 e):=by
 unfold CN;rw[show jj (lM e) (bX 0 1)=lM e from by cases lM e<;>rfl]
 have hf:=ci2 h (lM e) λq=>(ad7 q).2;have S:=ci3 e (lM e);unfold CW OY;generalize lM e=B at hf S
 obtain⟨m,k,is⟩:=e;induction m with
 |p=>exact((Pq 5 1 (by decide:5<4294967296) (by decide:1<4294967296) B).c S).c hf
 |d=>exact((Pq 7 3 (by decide:7<4294967296) (by decide:3<4294967296) B).c S).c hf
 |a y c=>
  have hb:=JS h.1.2
  show Wr (λz=>FG B ⟨.a y c,k,is⟩ (bC (bz (bX y 0) (decide (k=-16))) _ _)) λr=>bC (bz (bX y 0) (bz (decide (k=-16)) ah)) _ _
  rw[show bz (decide (k=-16)) ah=decide (k=-16)from by cases decide (k=-16)<;>rfl]
  cases bz (bX y 0) (decide (k=-16))with
  |true=>exact((Pq 4 0 (by decide:4<4294967296) (by decide:0<4294967296) B).c hb).c hf
  |false=>exact((((Pq 6 2 (by decide:6<4294967296) (by decide:2<4294967296) B).c (jH h.1.1)).c hb).c S).c hf
theorem xQ{α:Type}{f:α->D}{W:α->J H->J H}{T:α->Ts->Ts}{ok:α->Prop}{l:J α}(hl:fO 14 ok l)(h:∀y,ok y->Wr (W y) (T y)):∃t:Ts->Ts,Wr (q9 f W l) t/\q7 0 T l []=t []:=⟨_,JR (C6 hl (by decide)) λy m=>h y (hl.2 y m),rfl⟩
theorem ci5{m:b6}(hm:m.ok){i:H}(hi:i∈cV):∃t:Ts->Ts,Wr (CY m i) t/\pF 0 m i=t []:=eW (P:=λi=>∃t:Ts->Ts,Wr (CY m i) t/\pF 0 m i=t []) hi
 ⟨xQ hm.k λX=>ch5,xQ hm.i λX=>ch6,xQ hm.f λf h=>jH h.1,xQ hm.t λX=>ag3,xQ hm.m λX=>WH,xQ hm.g λX=>ch7,xQ hm.e λX=>ch8,
 ⟨_,jH (by cases q:m.s with|none=>exact(by decide:0<4294967296)|some j=>exact hm.s j q),rfl⟩,xQ hm.l λX=>ci4,⟨cU 0 m.d.length,by
  show Wr (wU ((m.d.map eV.d).length:H)) _
  rw[cO];exact jH (C6 hm.d (by decide)),rfl⟩,xQ hm.f λX=>ci1,xQ hm.d λX=>ch9,cH2⟩
theorem ci6{i:H}{c:dB}(h:kQ c.n/\fO 2 (·<256) c.c):Wr (AY i c) (λr=>bC (bX c.b i) (Jf 0 c r) r):=by
 unfold AY;rw[Ww];cases bX c.b i with
 |false=>exact WA
 |true=>exact(sd 0).c (WJ ((Pp h.1).c (WB c.c)) ((Wz (p:=0) h).c.rec λX g I=>eZ g (by decide)))
theorem ag5{m:b6}(hm:m.ok)(i:H):Wr (JD m i) (uT 0 i m.c):=JQ λc h=>ci6 ⟨(hm.c.2 c h).1,(hm.c.2 c h).2.1⟩
theorem ci7{m:b6}(hm:m.ok){i:H}(hi:i∈cV):Wr (AZ m i) (AN 0 m i):=by
 unfold AZ AN N_;rw[show mq 0 m i=jI m i from by unfold mq;cases jI m i<;>rfl]
 cases q:jI m i with
 |true=>
  refine b_ (ci5 hm hi) λt hx=>?_;have h:=hx.1;have e:=hx.2;have l:cY (c8 (pF 0 m i)).length:=(ag1 hm).s i hi;rw[e]at l|-
  exact((sd i).c (WJ h l)).c (ag5 hm i)
 |false=>
  have no:∀cs:J dB,(∀c∈cs,uP m c.b)->∀r,uT 0 i cs r=r:=λcs=>by
   induction cs with
   |nil=>exact λX I=>rfl
   |cons c cs ih=>
    intro h r;have g:=ih (λc m=>h c (.tail _ m)) r
    show bC (bX c.b i) _ (uT 0 i cs r)=r
    cases q2:bX c.b i with
    |false=>exact g
    |true=>
     have e:=mV q2;subst e;rcases h c (.head _)with e|h
     ·rw[e]at hi;exact absurd hi (by decide)
     ·rw[h.2]at q;cases q
  exact λz r=>bQ (λr=>z++c8 r) (no m.c (λc h=>(hm.c.2 c h).2.2) r).symm
theorem ag6{m:b6}(hm:m.ok):VW m=c8 (AO 0 m):=by
 have g:=(ag5 hm 0).c (JQ λi h=>ci7 hm h) [0,97,115,109,1,0,0,0] [];rw[FS,j3]at g
 exact g
end
section
open Wh (cu)
variable{w:bU}{bJ s:aE}{x:cu w bJ s}{n p:H}
noncomputable def ci8(m:b6)(c:J dB):J O:=zd m (jq m.s) cV 1 2::.dl (m.f.map cW.d)::(match c with
 |[]=>[.dl []]
 |[a]=>[.vl [.ref 3],uZ a a.b]
 |a::b::X=>[.vl [.ref 3,.ref 4],uZ a a.b,uZ b b.b])
def ci9(p:H):Tr:=λa_ o_ k_=>∀P_:Tr,(∀(m:b6){k},m.ok->Sm p m->k (.ref 0) (ci8 m m.c)->P_ [.d (.bytes (c8 (AO p m)))] [] k)->P_ a_ o_ k_
theorem cj0:aQ (aU x) (n+19) El (ci9 p):=by
 refine Uu x (q:=by9) (l:=[(BK,JE),(RA,JP p)]) 1199 (Wh.tu [.int 50000 1707]) (by kernel_rfl) (by kernel_rfl) (λargs b hb r F ws hv=>?_) ⟨bZ1,ce9,cH2⟩ λX I u2 g=>g _ λm k hm hs S=>?_
 ·cases hv with
  |nil=>cases hb
  |cons v1 hv=>cases hv with
   |nil=>cases hb;exact⟨[(bH,_),(uC,.int 50000 1707)],by kernel_rfl,by kernel_rfl,.cons v1 (.cons (.d .int) .nil)⟩
   |cons v2 hv=>cases hv with
    |nil=>cases hb;exact⟨[(bH,_),(uC,_)],by kernel_rfl,by kernel_rfl,.cons v1 (.cons v2 .nil)⟩
    |cons X I=>cases hb
 ·rw[cf1];refine JE.mk m (nH p m (eX p m)) (JP.mk m (eX p m) (cf8 hm hs) hm λpl q hc ks=>?_);clear hs hm;unfold Po
  revert S
  generalize m.c=c;intro S;rcases c with _|⟨a,_|⟨b,c⟩⟩
  ·exact S
  ·exact S
  ·exact S
def cj1(p:H):Tr:=λa_ o_ k_=>∀P_:Tr,(∀(m:b6){k},m.ok->Sm p m->k (.d m.D) []->P_ [.d (.bytes (c8 (AO p m)))] [] k)->P_ a_ o_ k_
theorem ag7:aQ (aU x) (n+19) El (cj1 p):=cj0.HW.of λX I u2 g=>g _ λm k hm hs S=>⟨rfl,(λX I=>I m hm hs ⟨m.D,by
 have l2:=hm.c.1;obtain⟨mk,mi,mf,mt,mm,mg,me,ms,ml,md,c⟩:=m
 match c,l2 with
 |[],X=>exact⟨rfl,rfl,S⟩
 |[a],X=>exact⟨rfl,rfl,S⟩
 |[a,b],X=>exact⟨rfl,rfl,S⟩
 |X::I::u2::u3,l=>exact absurd l (Gp (xY 3 _))⟩)⟩
end
section
open Wh (cu)
variable{w:bU}{bJ s:aE}{x:cu w bJ s}{n:H}
noncomputable def ag8(b:H)(Z:D):O:=.inst s7 [(fy,.ref b),(p_,.ref (b+1)),(mE,.ref (b+2)),(qd,.ref (b+3)),(qc,.ref (b+4)),(pZ,.ref (b+5)),(pY,.ref (b+6)),(nR,.d Z),(pX,.ref (b+7)),(nO,.ref (b+8)),(qK,.ref (b+9))]
noncomputable def WK:J O:=[ag8 1 .none,.dl [],.dl [],.dl [],.dl [],.dl [],.dl [],.dl [],.dl [],.dl [],.dl []]
def JT:Tr:=λa_ o_ k_=>∀P_:Tr,(∀{k},k (.ref 0) WK->P_ [] [] k)->P_ a_ o_ k_
theorem JT.mk{k}(f5:k (.ref 0) WK):JT [] [] k:=λP_ c_=>c_ f5
def cj2:Tr:=λa_ o_ k_=>∀P_:Tr,(∀{k},k (.d .none) WK->P_ [.ref 0] [.inst s7 []] k)->P_ a_ o_ k_
theorem cj3:aQ (aU x) (n+1) LA cj2:=fc x (q:=bs7) (l:=[]) (by kernel_rfl) trivial λX I u2 g=>g _ λS=>S
theorem cj4:aQ (aU x) (n+2) s7 JT:=(CC x cj3 (by kernel_rfl)).of λX I u2 g=>g _ λS=>(λX I=>I S)
structure LM where
 k:J D
 i:J D
 f:J D
 t:J D
 m:J D
 g:J D
 e:J D
 s:D
 l:J D
 d:J D
noncomputable def xR(ns:J aa)(r:H)(L:LM)(z:J O)(c:bq V):J O:=.dl (ns.map .int)::.cell (N (.ref 0))::.cell c::.cell ao::.dl [.int r]::ag8 6 L.s::.dl L.k::.dl L.i::.dl L.f::.dl L.t::.dl L.m::.dl L.g::.dl L.e::.dl L.l::.dl L.d::.dl []::z
noncomputable def JU:Fm:=[(fY,.C 1),(d9,.L ao),(bW,.L ao),(bI,.L (N (.ref 5))),(jT,.L ao),(dX,.L ao),(bH,.L ao),(aM,.C 2),(GK,.L ao),(kW,.L ao),(dM,.L ao),(nQ,.L (N (.ref 4))),(BC,.C 3),(fR,.L ao)]
noncomputable def ag9:J (H×Tr):=[(s7,JT),(Mj,r8),(Aj,CG),(oq,qp),(Ht,UH),(Mf,Tl),(Mg,Tm),(Hu,UI),(BW,IY),(Em,OG),(Af,Vt),(Hr,UJ),(uF,xD),(Mh,Tx),(Mi,TD),(Hv,AS),(yk,Vu)]
noncomputable abbrev zy:Tb:=⟨dO,d_ ag9⟩
def wJ{α:Type}(f:α->D)(ok:α->Prop)(Ob:J aa->J D->J O)(fg:J ai)(fS:H)(body:J PS):Prop:=
 ∀(y:D)(ns:J aa)(ds:J D)(Q:St->Prop)(K:dZ->St->Prop),ds.length<1048576->(∀a ja,ok a->Q ⟨JU,Ob ja (ds++[f a])⟩)->jL [d9] ah (.d y) ⟨JU,Ob ns ds⟩ λZ=>(vc zy 39).s body Z (zW fg fS Q K)
theorem zA{α:Type}{f:α->D}{ok:α->Prop}{Ob:J aa->J D->J O}{fg:J ai}{fS:H}{body:J PS}(WU:wJ f ok Ob fg fS body){K:dZ->St->Prop}(hK:∀ns(l:J α),fO 14 ok l->K .next ⟨JU,Ob ns (l.map f)⟩)(xs:J D):
  ∀(ns:J aa)(l:J α),l.length+xs.length<=14->(∀a∈l,ok a)->gT fg [d9] ah fS ((vc zy 39).s body) xs ⟨JU,Ob ns (v_ f l)⟩ K:=by
 induction xs with
 |nil=>intro ns l h1 h2;rw[OF];exact hK ns l.reverse ⟨by rw[Gf];exact h1,λa h=>h2 a (Xh.mp h)⟩
 |cons y xs ih=>intro ns l h1 h2;exact WU y ns (v_ f l) _ K (by rw[Vy];exact eZ (bR (gF ..) h1) (by decide)) λa ja ha=>ih ja (a::l) (bR (jm (A6 ..)) h1) (gv.mpr ⟨ha,h2⟩)
variable{r:H}{L:LM}{z:J O}{c:bq V}
def cj5(f:Fk):Prop:=rV f.1/\rV f.2
theorem le2{m:H}(h:(m:aa)<3):m<3:=dF.mp h
theorem k_few{l:J aa}{m:H}(hm:(m:aa)<3)(h:l.length=m/\∀i∈l,pA i):rV l:=⟨h.1▸rC (dF.mp hm),h.2⟩
theorem cj6:wJ mO cj5 (λns ds=>xR ns r {L with k:=ds} [] ao) [d9,aM,kW] 16 wx:=λy ns ds Q K hl h=>⟨ns,λi ja=>⟨3,i,(by decide),λa i1 ha=>⟨a,i1,le2 ha,λk1 i2 h1=>⟨3,i2,(by decide),λb i3 hb=>⟨b,i3,le2 hb,λk2 i4 h2=>⟨hl,h (k1,k2) ja ⟨k_few ha h1,k_few hb h2⟩⟩⟩⟩⟩⟩⟩
theorem cj7:wJ fh.d fh.ok (λns ds=>xR ns r {L with i:=ds} [] ao) [d9] 16 wE:=λy ns ds Q K hl h=>⟨ns,λi ja=>⟨(),i,cH2,λa i1 ha=>⟨hl,h a ja ha⟩⟩⟩
theorem cj8:wJ cW.d cW.ok (λns ds=>xR ns r {L with f:=ds} [] ao) [d9] 16 wP:=λy ns ds Q K hl h=>⟨(),ns,cH2,λa ja ha=>⟨hl,h a ja ha⟩⟩
theorem cj9:wJ iZ.d iZ.ok (λns ds=>xR ns r {L with t:=ds} [] ao) [d9,aM] 16 wT:=λy ns ds Q K hl h=>⟨ns,λi ja=>⟨2,i,(by decide),λa i1 ha=>⟨nn,ha,λy hy=>by obtain⟨kd,y9,rfl⟩:=yT (f:=.int) (l:=[-16,-17]) hy;exact⟨(),i1,cH2,λl i2 Ez=>⟨(show 3<=1048576 by decide),hl,h ⟨kd,l⟩ ja ⟨y9,Ez⟩⟩⟩⟩⟩⟩
theorem ck0:wJ nE tP (λns ds=>xR ns r {L with m:=ds} [] ao) [d9] 16 w0:=λy ns ds Q K hl h=>⟨ns,λi ja=>⟨(),i,cH2,λa i1 ha=>⟨hl,h a ja ha⟩⟩⟩
theorem ck1:wJ iy.d iy.ok (λns ds=>xR ns r {L with g:=ds} [] ao) [d9,bW,jT,aM] 16 w3:=λy ns ds Q K hl h=>⟨ns,λi ja=>⟨(),i,cH2,λa i1 ha=>⟨2,i1,(by decide),λb i2 hb=>⟨(),i2,cH2,λd i3 hd=>(λX I=>I (iy.mk ⟨a,b⟩ d) ⟨hl,h ⟨⟨a,b⟩,d⟩ ja ⟨⟨ha,Ta b (dF.mp hb)⟩,hd⟩⟩)⟩⟩⟩⟩
theorem ck2:wJ ju.d ju.ok (λns ds=>xR ns r {L with e:=ds} [] ao) [d9,dX,aM,fR] 16 xa:=λy ns ds Q K hl h=>⟨ns,λi ja=>⟨(),i,cH2,λa i1 ha=>⟨4,i1,(by decide),λb i2 hb=>⟨(),i2,cH2,λd i3 hd=>⟨hl,h ⟨a,b,d⟩ ja ⟨ha,dF.mp hb,hd⟩⟩⟩⟩⟩⟩
theorem ck3{n0:aa}:wJ dz.d dz.ok (λns ds=>xR ns r {L with l:=ds} [.dl [.int n0]] (N (.ref 16))) [d9] 17 xb:=λy ns ds Q K hl h=>⟨ns,λi ja=>⟨(),i,cH2,λa i1 ha=>⟨hl,h a ja ha⟩⟩⟩
theorem ck4{n0:aa}:wJ eV.d eV.ok (λns ds=>xR ns r {L with d:=ds} [.dl [.int n0]] (N (.ref 16))) [d9] 17 xc:=λy ns ds Q K hl h=>⟨ns,λi ja=>⟨(),i,cH2,λa i1 ha=>⟨hl,h a ja ha⟩⟩⟩
end
section
open Wh (cu)
variable{w:bU}{bJ s:aE}{x:cu w bJ s}{n:H}
inductive Od where
 |one (a:aa)
 |two (a b:aa)
noncomputable def Od.v:Od->V
 | .one X=>.ref 18
 | .two X I=>.ref 19
noncomputable def Od.o:Od->J O->J O
 | .one a,z=>.dl [.int a]::.vl [.ref 17]::z
 | .two a b,z=>.dl [.int a]::.dl [.int b]::.vl [.ref 17,.ref 18]::z
noncomputable def Od.m:Od->H
 | .one X=>19
 | .two X I=>20
noncomputable def lO(m:b6):J H:=0::OJ m
noncomputable def Pr(v:V):Fm:=[(fY,.C 1),(d9,.L ao),(bW,.L ao),(bI,.L (N (.ref 5))),(jT,.L ao),(dX,.L ao),(bH,.L ao),(aM,.C 2),(GK,.L (N v)),(kW,.L ao),(dM,.L ao),(nQ,.L (N (.ref 4))),(BC,.C 3),(fR,.L ao)]
noncomputable def FQ(c:bq V)(n0:aa)(ns:J aa)(r:H)(m:b6)(cs:J D)(z:J O):J O:=.dl (ns.map .int)::.cell (N (.ref 0))::.cell c::.cell (N (.d (.list ((lO m).map fW))))::.dl [.int r]::AR m (.ref 15)::.gone::.gone::.gone::.gone::.gone::.gone::.gone::.gone::.gone::.dl cs::.dl [.int n0]::z
theorem ah0{l:J H}{i:H}{y:D}(h:(l.map fW)[i]?=N y):y=fW (kB 0 l i):=by
 induction l generalizing i with
 |nil=>cases i<;>cases h
 |cons a l ih=>induction i using jh with
  |zero=>exact(fU h).symm
  |succ i=>exact ih h
noncomputable def WL:J ai:=[dX,bH,aM,dM]
theorem WM{m:b6}{ot:Od}{n0:aa}{r:H}(a:H)(ha:a<(lO m).length)(ns:J aa)(ds:J D)(Q:St->Prop)(K:dZ->St->Prop)(hl:ds.length<1048576)(h:∀(y:ai)(l:J H) ja,kQ y->fO 2 (·<256) l->Q ⟨Pr ot.v,FQ ao n0 ja r m (ds++[dB.d ⟨y,l,kB 0 (lO m) a⟩]) (ot.o [])⟩):
  jL [dM] ah (.d (fW a)) ⟨Pr ot.v,FQ ao n0 ns r m ds (ot.o [])⟩ λZ=>(vc zy 39).s NT Z (zW WL ot.m Q K):=by
 have la:((a:H):aa)<(((lO m).map fW).length:H):=by rw[cO];exact dF.mpr ha
 have end_:∀(l:J H)(j:H),(j:aa)<3->l.length=((kJ (j:aa).toNat).map λ(n:H)=>D.int n).length->(∀v∈l,v<256)->fO 2 (·<256) l:=λl j hj h1 h2=>⟨rC (eZ (jm (h1.trans iz)) (dF.mp hj)),h2⟩;induction ot with
 |one a0=>
  refine⟨ns,λi ja=>⟨(),i,cH2,λy i1 hy=>⟨3,i1,(by decide),λj i2 hj=>⟨uS (bR (mX (dF.mp hj)) (by decide)),?_⟩⟩⟩⟩
  refine E9 (f:=yQ) (ok:=λi=>i<256) (Z:=λa=>FQ (N (.ref 19)) n0 ja r m ds [.dl [.int a0],.vl [.ref 17],.dl [.int a]]) (λX I=>rfl) (λd a K h=>⟨256,a,(by decide),λj a' hj=>h j a' (dF.mp hj)⟩) _ i2 λl i3 h1 h2=>⟨l,rfl,h2,?_⟩
  have g:=h y l ja hy (end_ l j hj h1 h2);clear h1 h2 hj end_ h
  conv=>whnf
  refine⟨nn,la,λz hz=>?_⟩;cases ah0 hz;exact(λX I=>I (dB.mk y l (kB 0 (lO m) a)) ⟨hl,g⟩)
 |two a0 b0=>
  refine⟨ns,λi ja=>⟨(),i,cH2,λy i1 hy=>⟨3,i1,(by decide),λj i2 hj=>⟨uS (bR (mX (dF.mp hj)) (by decide)),?_⟩⟩⟩⟩
  refine E9 (f:=yQ) (ok:=λi=>i<256) (Z:=λa=>FQ (N (.ref 20)) n0 ja r m ds [.dl [.int a0],.dl [.int b0],.vl [.ref 17,.ref 18],.dl [.int a]]) (λX I=>rfl) (λd a K h=>⟨256,a,(by decide),λj a' hj=>h j a' (dF.mp hj)⟩) _ i2 λl i3 h1 h2=>⟨l,rfl,h2,?_⟩
  have g:=h y l ja hy (end_ l j hj h1 h2);clear h1 h2 hj end_ h
  conv=>whnf
  refine⟨nn,la,λz hz=>?_⟩;cases ah0 hz;exact(λX I=>I (dB.mk y l (kB 0 (lO m) a)) ⟨hl,g⟩)
theorem QV{m:b6}:∀(l:J H)(a:H),a<l.length->kB 0 l a∈l
 |[],X,h=>absurd h (xU _)
 |b::l,0,X=>.head _
 |b::l,a+1,h=>.tail _ (QV (m:=m) l a (F7 h))
theorem ck5{f:H->H}{l:J H}:∀a b:H,l.Pairwise (λx y=>f x<=f y)->a<=b->b<l.length->f (kB 0 l a)<=f (kB 0 l b):=by
 induction l with
 |nil=>exact λX I u2 u3 h=>absurd h (xU _)
 |cons x l ih=>
  intro a b h Cd hb;cases b with
  |zero=>rw[cB4.mp Cd];exact jO _
  |succ b=>
   cases a with
   |zero=>exact(DE.mp h).1 _ (QV (m:=⟨[],[],[],[],[],[],[],ao,[],[],[]⟩) l b (F7 hb))
   |succ a=>exact ih a b (DE.mp h).2 (Kl Cd) (F7 hb)
theorem ck6(m:b6):(lO m).Pairwise λx y=>j6 x<=j6 y:=
 DE.mpr ⟨λb X=>qw _,cG6 List.filter_sublist (by decide:cV.Pairwise λ(a b:H)=>j6 a<=j6 b)⟩
theorem ck7{m:b6}{a:H}(h:a<(lO m).length):uP m (kB 0 (lO m) a):=by
 have g:=QV (m:=m) (lO m) a h;rcases iV.mp g with g|g
 ·exact .inl g
 ·exact .inr (F6.mp g)
theorem ck8(m:b6):0<(lO m).length/\(lO m).length<=13:=⟨jc _,lB (aq1 (jI m) cV)⟩
noncomputable def mz(m:b6)(l:J dz)(d:J eV)(c:J dB):b6:=⟨m.k,m.i,m.f,m.t,m.m,m.g,m.e,m.s,l,d,c⟩
noncomputable def WN(m:b6)(l d:J D):LM:=⟨m.k.map mO,m.i.map fh.d,m.f.map cW.d,m.t.map iZ.d,m.m.map nE,m.g.map iy.d,m.e.map ju.d,jq m.s,l,d⟩
def ah1(m:b6):Prop:=∀l d c,fO 14 dz.ok l->fO 14 eV.ok d->fO 2 (dB.ok (mz m l d [])) c->(c.map λc=>j6 c.b).Pairwise (·<=·)->(mz m l d c).ok
theorem zB{m:H}(h:m<=2):-4611686018427387904<=(m:aa)/\(m:aa)<=1048576:=uS (bR h (by decide))
theorem zC{m:H}(h:m<=2):0+((kJ (m:aa).toNat).map λ(n:H)=>D.int n).length<=14:=by rw[iz,mW];exact bR h (by decide)
def ah2(k:V->J O->Prop):dZ->St->Prop:=yE (l8 zy (vc zy 39) [.ret (.fz (.Y bI))]) (mJ 1 k)
theorem ck9{k:V->J O->Prop}(S:∀(m:b6) ns,m.ok->k (.d m.D) (N1 ns)){m:b6}{l:J dz}{d:J eV}(hq:∀c,fO 2 (dB.ok (mz m l d [])) c->(c.map λc=>j6 c.b).Pairwise (·<=·)->(mz m l d c).ok){n0:aa}{r:H}:
  (∀(i:aa)(a:H) ns,a<(lO (mz m l d [])).length->gT WL [dM] ah 19 ((vc zy 39).s NT) ([(a:aa)].map .int) ⟨Pr (.ref 18),FQ ao n0 ns r (mz m l d []) [] [.dl [.int i],.vl [.ref 17]]⟩ (ah2 k))/\
  ∀(i j:aa)(a b:H) ns,a<=b->b<(lO (mz m l d [])).length->gT WL [dM] ah 20 ((vc zy 39).s NT) ([(a:aa),(b:aa)].map .int) ⟨Pr (.ref 19),FQ ao n0 ns r (mz m l d []) [] [.dl [.int i],.dl [.int j],.vl [.ref 17,.ref 18]]⟩ (ah2 k):=by
 have ok:∀{y:ai}{u:J H}{a},kQ y->fO 2 (·<256) u->a<(lO (mz m l d [])).length->dB.ok (mz m l d []) ⟨y,u,kB 0 (lO (mz m l d [])) a⟩:=λhy hu ha=>⟨hy,hu,ck7 ha⟩;refine⟨λi a ns ha=>WM (ot:=.one i) a ha ns [] _ _ (by decide) λy u ja hy hu=>?_,λi j a b ns Cd hb=>WM (ot:=.two i j) a (eZ Cd hb) ns [] _ _ (by decide) λy u ja hy hu=>WM (ot:=.two i j) b hb ja [_] _ _ (show 1<1048576 by decide) λz v cl0 hz hv=>?_⟩
 ·exact S _ ja (hq [⟨y,u,_⟩] ⟨(by decide:1<=2),gv.mpr ⟨ok hy hu ha,nofun⟩⟩ (DE.mpr ⟨nofun,.nil⟩))
 ·exact S _ cl0 (hq [⟨y,u,_⟩,⟨z,v,_⟩] ⟨(by decide:2<=2),gv.mpr ⟨ok hy hu (eZ Cd hb),gv.mpr ⟨ok hz hv hb,nofun⟩⟩⟩ (DE.mpr ⟨λn h=>by rw[fN.mp h];exact ck5 a b (ck6 _) Cd hb,DE.mpr ⟨nofun,.nil⟩⟩))
theorem cl1{a b:aa}{l:J aa}(h:l.Perm [a,b])(hs:l.Pairwise (·<=·)):(l=[a,b]/\a<=b)\/l=[b,a]/\b<=a:=by
 match l,h.length_eq with
 |[c,d],X=>
  have hs:=(DE.mp hs).1 d (.head _);have hc:c∈[a,b]:=h.mem_iff.mp (.head _);rcases iV.mp hc with e|e
  ·subst e;have:=(cC7 c).mp h;cases aq4.mp this;exact .inl ⟨rfl,hs⟩
  ·have e:=fN.mp e;rw[e]at h hs|-
   have:=(cC7 b).mp (h.trans (.swap b a []));cases aq4.mp this;exact .inr ⟨rfl,hs⟩
theorem ah3{k:V->J O->Prop}(S:∀(m:b6) ns,m.ok->k (.d m.D) (N1 ns)){m:b6}(hp:ah1 m)(hf:FA m)(n0:aa)(ns:J aa)(r:H):
  l8 zy (vc zy 39) (xf.drop 11) ⟨JU,xR ns r (WN m [] []) [.dl [.int n0]] (N (.ref 16))⟩ (mJ 1 k):=by
 refine(r8.mk ns r (λm1 r1 we h1 X=>⟨zB h1,zA (ck3 (L:=WN m [] [])) (λWQ l hl=>?_) _ we [] (zC h1) yS⟩));refine(r8.mk WQ r1 (λm2 r2 wQ h2 X=>⟨zB h2,zA (ck4 (L:=WN m (l.map dz.d) [])) (λWR d hd=>?_) _ wQ [] (zC h2) yS⟩))
 conv=>whnf
 refine AS.lv (mz m l d []) [] hf ?_;have hq:=λc=>hp l d c hl hd;have Pu:=ck8 (mz m l d []);have ends:=λr=>ck9 S hq (n0:=n0) (r:=r);have pk:(0:aa)<(((lO (mz m l d [])).map fW).length:H)/\((((lO (mz m l d [])).map fW).length:H):aa).natAbs<2^128:=by rw[cO];exact⟨dF.mpr Pu.1,eZ Pu.2 (by decide)⟩
 have lt:∀i:H,(i:aa)<(((lO (mz m l d [])).map fW).length:H)->i<(lO (mz m l d [])).length:=λi h=>by
  rw[cO]at h
  exact dF.mp h
 have nil:=hq [] ⟨qw _,nofun⟩ .nil;clear hp hl hd h1 h2 hq;refine⟨?_,r8.mk WR r2 (λm3 r3 JV h3 X=>?_)⟩
 ·show((lO (mz m l d [])).map fW).length<=_
  rw[cO];exact bR Pu.2 (by decide)
 ·clear Pu;induction m3 using jh with
  |zero=>
   refine⟨⟨by decide,by decide⟩,rfl,[],⟨rfl,jc _⟩,λis hp hs=>?_⟩
   obtain rfl:=hp.eq_nil;exact S (mz m l d []) JV nil
  |succ m3=>induction m3 using jh with
   |zero=>
    refine⟨⟨by decide,by decide⟩,JV,λp0 q0=>⟨rfl,((((lO (mz m l d [])).map fW).length:H):aa),p0,pk,λi0 z0 X=>⟨rfl,[(i0:aa)],⟨rfl,(show 1<64 by decide)⟩,λis hp hs=>?_⟩⟩⟩
    have e:=aq4.mp hp;have g:=(ends r3).1 z0 i0 q0 (lt i0 X);rw[<-e]at g
    conv=>whnf
    exact g
   |succ m3=>induction m3 using jh with
    |zero=>
     refine⟨⟨by decide,by decide⟩,JV,λp0 q0=>⟨q0,λp1 q1=>⟨rfl,((((lO (mz m l d [])).map fW).length:H):aa),p0,pk,λi0 z0 X=>⟨rfl,((((lO (mz m l d [])).map fW).length:H):aa),p1,pk,λi1 z1 I=>⟨rfl,[(i0:aa),(i1:aa)],⟨rfl,(show 2<64 by decide)⟩,λis hp hs=>?_⟩⟩⟩⟩⟩
     conv=>whnf
     rcases cl1 hp hs with⟨e,h⟩|⟨e,h⟩
     ·have g:=(ends r3).2 z0 z1 i0 i1 q1 (iN.mp h) (lt i1 I);rw[<-e]at g
      exact g
     ·have g:=(ends r3).2 z0 z1 i1 i0 q1 (iN.mp h) (lt i0 X);rw[<-e]at g
      exact g
    |succ m3=>exact absurd h3 (Gp (xY 3 _))
def ah4:Tr:=UE b6.ok b6.D
theorem cl2:aQ (aU x) (n+7) Mk ah4:=qo (q:=bA9) (l:=ag9) (by kernel_rfl) ⟨cj4,bS2,IX,rX,A',bR5,bR7,Bn,N2,VB,P3,BM,yR,bS0,bS1,TO,Qb,cH2⟩ λX l ct I S=>by
 refine JT.mk (r8.mk l 14 λm0 r0 ns0 h0 X=>⟨zB h0,zA (cj6 (L:=⟨[],[],[],[],[],[],[],.none,[],[]⟩)) (λwe k gk=>?_) _ ns0 [] (zC h0) yS⟩);refine r8.mk we r0 λm1 r1 WQ h1 X=>⟨zB h1,zA (cj7 (L:=⟨k.map mO,[],[],[],[],[],[],.none,[],[]⟩)) (λwQ i gi=>?_) _ WQ [] (zC h1) yS⟩;refine r8.mk wQ r1 λm2 r2 WR h2 X=>⟨zB h2,zA (cj8 (L:=⟨k.map mO,i.map fh.d,[],[],[],[],[],.none,[],[]⟩)) (λJV f gf=>?_) _ WR [] (zC h2) yS⟩;refine r8.mk JV r2 λm3 r3 ns6 h3 X=>⟨zB h3,zA (cj9 (L:=⟨k.map mO,i.map fh.d,f.map cW.d,[],[],[],[],.none,[],[]⟩)) (λns7 t gt=>?_) _ ns6 [] (zC h3) yS⟩;refine r8.mk ns7 r3 λm4 r4 ns8 h4 X=>⟨zB h4,zA (ck0 (L:=⟨k.map mO,i.map fh.d,f.map cW.d,t.map iZ.d,[],[],[],.none,[],[]⟩)) (λns9 m gm=>?_) _ ns8 [] (zC h4) yS⟩;refine r8.mk ns9 r4 λm5 r5 cl3 h5 X=>⟨zB h5,zA (ck1 (L:=⟨k.map mO,i.map fh.d,f.map cW.d,t.map iZ.d,m.map nE,[],[],.none,[],[]⟩)) (λcl4 g gg=>?_) _ cl3 [] (zC h5) yS⟩;refine r8.mk cl4 r5 λm6 r6 cl5 h6 X=>⟨zB h6,zA (ck2 (L:=⟨k.map mO,i.map fh.d,f.map cW.d,t.map iZ.d,m.map nE,g.map iy.d,[],.none,[],[]⟩)) (λcl6 e ge=>?_) _ cl5 [] (zC h6) yS⟩;clear h0 h1 h2 h3 h4 h5 h6;have ok:∀Z:bq H,(∀i,Z=N i->cY i)->ah1 ⟨k,i,f,t,m,g,e,Z,[],[],[]⟩:=λZ vQ l d c hl hd hc hs=>⟨gk,gi,gf,gt,gm,gg,ge,vQ,hl,hd,hc,hs⟩;have fo:fO 14 (λf:cW=>f.b.length<=12) f:=⟨gf.1,λz h=>(gf.2 z h).2.2.len⟩;clear gk gi gf gt gm gg ge;refine⟨cl6,λa ah5=>⟨2,a,(by decide),λb a1 hb=>?_⟩⟩
 conv=>whnf
 refine gZ (λX=>⟨(),a1,cH2,λZ a2 vQ=>?_⟩) λX=>?_
 ·have T:=ah3 (k:=ct) S (ok (N Z) λX e=>by cases e;exact vQ) fo a2 ah5 r6
  conv at T=>whnf
  conv=>whnf
  exact T
 ·have T:=ah3 (k:=ct) S (ok ao nofun) fo a1 ah5 r6
  conv at T=>whnf
  conv=>whnf
  exact T
theorem ah6{m:b6}{p:H}(hm:m.ok){k:V->J O->Prop}(h:k (.d (.bytes (c8 (AO p m)))) []):Wg [.d m.D,.d (.int p)] [] k:=
 (ag0 (p:=p) hm).rec λe hn hb=>(λX I=>I m p _ hm (by rw[e];exact bR (jm (cO ..)) (bR hn (by decide))) e hb h)
theorem ah7{m:b6}(hm:m.ok){k:V->J O->Prop}(h:k (.d (.bytes (c8 (AO 0 m)))) []):VX [.d m.D] [] k:=
 ⟨m,⟨hm,by rw[ag6 hm];exact(ag0 (p:=0) hm).rec λe hn hb=>bR hn (by decide)⟩,by rw[ag6 hm];exact h⟩
def ah8:Tr:=λa_ o_ k_=>∀P_:Tr,(∀(p:H)(m:b6){k},m.ok->k (.d m.D) []->P_ [.d (.bytes (c8 (AO p m)))] [] k)->P_ a_ o_ k_
theorem cl7:aQ (aU x) (n+19) El ah8:=⟨(ag7 (n:=n) (p:=0)).keep,λargs o k g=>g _ λp m X hm S=>(ag7 (p:=p)).sc _ _ _ (λX I=>I m hm (ag1 hm) S)⟩
noncomputable def cl8:J (H×Tr):=[(Aj,CG),(Mk,ah4),(Mw,mQ b6.D (IU ak)),(Rz,mQ b6.D (IU ah)),(Mu,Wg),(LQ,VX),(El,ah8)]
theorem cl9(i:aa):∃p:H,1+xZ i 2=p:=⟨(1+xZ i 2).toNat,by
 rw[cB9 _ (by decide)]
 exact(Bo (Qy (by decide) (QD i (by decide)))).symm⟩
def cm0:Tr:=λa_ o_ k_=>∀P_:Tr,(∀(l:J aa){k},k (.d (.bool ah)) []->P_ [.d (.list (l.map .int))] [] k)->P_ a_ o_ k_
theorem cm1:aQ (aU x) (n+20) Zq cm0:=fc x (q:=bC5) (l:=cl8) (by kernel_rfl) ⟨IX,cl2,bD7,bE6,cc9,bX7,cl7,cH2⟩ λX I u2 g=>g _ λl k S=>by
 refine⟨l,λi l1=>⟨by decide,?_⟩⟩
 obtain⟨p,hp⟩:=cl9 i
 conv=>whnf
 rw[hp];refine⟨(),l1,cH2,λm l2 hm=>?_⟩;have pf:=z' ak m;have pp:=z' ah m;refine⟨m,cH2,m,cH2,ah6 hm ?_⟩
 conv=>whnf
 refine ah7 hm ⟨⟨rfl,cH2⟩,⟨m,cH2,⟨⟨rfl,pf⟩,(λX I=>I 0 m hm ⟨m,cH2,⟨rfl,pf⟩,m,cH2,⟨rfl,pp⟩,ah6 (p:=p) hm ?_⟩)⟩⟩⟩;refine(λX I=>I p m hm ⟨m,cH2,⟨rfl,pf⟩,m,cH2,⟨rfl,pp⟩,ah7 hm ⟨⟨rfl,cH2⟩,S⟩⟩)
end
section
open Wh (cu)
variable{w:bU}{bJ s:aE}
theorem cm2{F:bN}(xs:J (aa×H)):eU F ((xs.map (·.1)).map .int) (xs.map λx=>Xn x.1 x.2):=by
 induction xs with
 |nil=>exact .nil
 |cons x xs ih=>exact .cons .int ih
theorem cm3:Wh.Zz:=by
 intro w bJ s aF x JY hg a xs n gN ho hln;have ok:Ok 20 PT:=⟨rfl,by decide+kernel,by decide+kernel⟩
 have m:l_ (aU x) [] aF aF.heap.get? (([]:bP).zip []):=⟨λX I e=>e,λb y e=>JY b y e,λp hp=>(nomatch hp),λb hb=>(nomatch hb),.nil⟩;have y:VR (aU x).w [] aF.heap.get? (.d (.list ((xs.map (·.1)).map .int))) (.ref a):=.d (.list ho (by rw[ak4];exact cm2 xs) (by rw[cO,cO];lia))
 refine gG ((cm1 (n:=0) (x:=x)).sc [.d (.list ((xs.map (·.1)).map .int))] [] (λv o=>v=.d (.bool ah)/\o=[]) (λX I=>I (xs.map (·.1)) ⟨rfl,rfl⟩) PT aF aF.heap.get? _ [] [.ref a] ok rfl m (.cons y .nil)) (λu s' p=>?_) λX I z=>z;obtain⟨v,o',r',F',⟨rfl,rfl⟩,yv,_,m',t⟩:=p;obtain⟨h',tk,rfl⟩:=t.same;refine⟨?_,.of_keep λb o e=>t.kept b o (λh=>nomatch h) e,rfl,?_⟩
 ·exact yv.HQ.e rfl
 ·show Xm aF.gens
  rw[hg];exact .empty
end
end Wm
namespace Wh
theorem cm4(l:OpenLaw)(h1:l.row.wellSaid=ah)(h2:(decide (l.foot<=(Dd l.prog).length)&&l.footing.all footLine)=ah)(h3:noClassBlock l.prog l.footing=ah)
  (h4:(l.most.all (λn=>decide (63<=n))&&l.bound.all (λn=>decide (2^63<=n)))=ah)(h5:Yc {strict:=true,foot:=N l.bound',writes:=l.writes,may:=l.may} l.footing=ah)
  (h6:defStands l.about l.above=ah)(h7:l.namesIt=ah)(h8:(["type","isinstance","issubclass","getattr","hasattr"]:J ai).all (λn=>l.about !=[n])=ah)
  (h9:l.bound'.all (λn=>!Yd n||l.about==[n]||!l.reads n)=ah)(ha:(!l.writes||(l.prog.main.body.flatMap Ye).all λn=>!l.reads n)=ah)
  (hb:(l.prog.main.body.flatMap Ye).all (λn=>!l.reads n||(drawsOf n l.prog.main.body).all λmn=>mn.2 !=("attrgetter":ai)&&mn.2 !=("methodcaller":ai))=ah)
  (hc:DF l.prog l.footing (λsc n=>(!(["type","isinstance","issubclass","getattr","hasattr"]:J ai).contains n||sc.names.lookup n==N .globalImplicit)&&
   (l.may !=N n||sc.kind== .module||sc.names.lookup n==N .globalImplicit))=ah)
  (hd:l.own.contains l.name=ah)(he:(l.own.eraseDups.length==l.own.length)=ah)(hf:l.own.all (λn=>!Yd n)=ah)
  (hg:DF l.prog l.above (λX n=>!l.own.contains n)=ah)(hi:DF l.prog l.footing (λsc n=>sc.kind== .module||sc.names.lookup n !=N .globalExplicit)=ah):l.wellSaid=ah:=by
 unfold OpenLaw.wellSaid;rw[PG]at h2 h4
 simp only[Kw];exact⟨⟨⟨⟨⟨⟨⟨⟨⟨⟨⟨⟨⟨⟨⟨⟨⟨⟨h1,h2.1⟩,h2.2⟩,h3⟩,h4.1⟩,h4.2⟩,h5⟩,h6⟩,h7⟩,h8⟩,h9⟩,ha⟩,hb⟩,hc⟩,hd⟩,he⟩,hf⟩,hg⟩,hi⟩
noncomputable abbrev fP:=zF
theorem cm5(p:iU)(h1:sreFenced p.main=ah)(h2:((Yg p.main.body).isEmpty||lookedIntoSs (Yg p.main.body) p.main.body)=ah)(h3:namesResolve p=ah)
  (h4:p.boundNames.all (λn=>!worldNames.contains n)=ah)
  (h5:Yc {strict:=!(W6 p.main.body).all aq5.contains,foot:=none,bare:=(["vars","dir","locals"]:J ai).filter (aq6 p p.main.body)} p.main.body=ah)
  (h6:DF p p.main.body (λX n=>attrL n)=ah):looksOpen p=ah:=by
 unfold looksOpen;simp only[Kw];exact⟨⟨⟨⟨⟨h1,h2⟩,h3⟩,h4⟩,h5⟩,h6⟩
theorem q1:sreFenced fP.row.prog.main=ah:=by rw[cG7];kernel_rfl
theorem q2:((Yg fP.row.prog.main.body).isEmpty||lookedIntoSs (Yg fP.row.prog.main.body) fP.row.prog.main.body)=ah:=by kernel_rfl
theorem q3:namesResolve fP.row.prog=ah:=by rw[cG8];kernel_rfl
theorem q4:fP.row.prog.boundNames.all (λn=>!worldNames.contains n)=ah:=by kernel_rfl
theorem q5a:(!(W6 fP.row.prog.main.body).all aq5.contains)=ak:=by kernel_rfl
theorem q5b:(["vars","dir","locals"]:J ai).filter (aq6 fP.row.prog fP.row.prog.main.body)=[]:=by kernel_rfl
theorem q5:Yc {strict:=!(W6 fP.row.prog.main.body).all aq5.contains,foot:=none,bare:=(["vars","dir","locals"]:J ai).filter (aq6 fP.row.prog fP.row.prog.main.body)} fP.row.prog.main.body=ah:=by rw[q5a,q5b,cC8];kernel_rfl
theorem q6:DF fP.row.prog fP.row.prog.main.body (λX n=>attrL n)=ah:=by rw[Yh];kernel_rfl
theorem p1:fP.row.wellSaid=ah:=by unfold OpenRow.wellSaid OpenRow.partSaid;rw[cm5 fP.row.prog q1 q2 q3 q4 q5 q6];kernel_rfl
theorem p2:(decide (fP.foot<=(Dd fP.prog).length)&&fP.footing.all footLine)=ah:=by kernel_rfl
theorem p3:noClassBlock fP.prog fP.footing=ah:=by rw[cG9];kernel_rfl
theorem p4:(fP.most.all (λn=>decide (63<=n))&&fP.bound.all (λn=>decide (2^63<=n)))=ah:=by decide+kernel
theorem p6:defStands fP.about fP.above=ah:=by rw[cH0];kernel_rfl
theorem p7:fP.namesIt=ah:=by rw[cH1];kernel_rfl
theorem p8:(["type","isinstance","issubclass","getattr","hasattr"]:J ai).all (λn=>fP.about !=[n])=ah:=by kernel_rfl
theorem pa:(!fP.writes||(fP.prog.main.body.flatMap Ye).all λn=>!fP.reads n)=ah:=by kernel_rfl
theorem pb:(fP.prog.main.body.flatMap Ye).all (λn=>!fP.reads n||(drawsOf n fP.prog.main.body).all λmn=>mn.2 !=("attrgetter":ai)&&mn.2 !=("methodcaller":ai))=ah:=by kernel_rfl
theorem pd:fP.own.contains fP.name=ah:=by kernel_rfl
theorem pe:(fP.own.eraseDups.length==fP.own.length)=ah:=by kernel_rfl
theorem pf:fP.own.all (λn=>!Yd n)=ah:=by kernel_rfl
theorem p5:Yc {strict:=true,foot:=N fP.bound',writes:=false,may:=none} fP.footing=ah:=by rw[cC8];kernel_rfl
theorem pc:DF fP.prog fP.footing (λsc n=>(!(["type","isinstance","issubclass","getattr","hasattr"]:J ai).contains n||sc.names.lookup n==N .globalImplicit)&&
   (fP.may !=N n||sc.kind== .module||sc.names.lookup n==N .globalImplicit))=ah:=by rw[Yh];kernel_rfl
theorem pg:DF fP.prog fP.above (λX n=>!fP.own.contains n)=ah:=by rw[Yh];kernel_rfl
theorem pi:DF fP.prog fP.footing (λsc n=>sc.kind== .module||sc.names.lookup n !=N .globalExplicit)=ah:=by rw[Yh];kernel_rfl
theorem p9:fP.bound'.all (λn=>!Yd n||fP.about==[n]||!fP.reads n)=ah:=by kernel_rfl
theorem cE0:zF.Holds:=
 aE2 (cm4 _ p1 p2 p3 p4 p5 p6 p7 p8 p9 pa pb pc pd pe pf pg pi) p1 Wm.cm3
end Wh
end Internal
theorem PySem.Challenge.cw_nm0177_01_holds : PySem.Challenge.rw_nm0177_01.Holds :=
 Internal.Wh.cE0
