import PyProof.Rows.All
import KE.BitLaws
import Open.Head
import OpenK.KLine
import KE.KxBytes
import KE.BytesMake
import KE.KBytesWalk
import KE.KTurns
import Wide.FinOn
import OpenK.AllK
import Wide.All
import Lean
import PySem.Challenge.RW_nm0177_01
set_option Elab.async false
set_option tactic.hygienic false
set_option bootstrap.genMatcherCode false
set_option linter.all false
set_option maxRecDepth 100000
set_option maxHeartbeats 0
set_option genSizeOf false
set_option genInjectivity false
set_option genCtorIdx false
set_option autoImplicit true
noncomputable section
open _root_ renaming List->J,Nat->H,Int->aa,Bool->aD,Option->bq,cond->bC,congrArg->bR,False->bV,if_neg->cF,Array->cT,if_pos->dM,of_decide_eq_true->gy,UInt8->iX,String->jZ,decide_eq_false->kq,decide_eq_true->nL,True->oV,beq_self_eq_true->qy,Unit->rt,of_decide_eq_false->sJ,bool->F2,beq_false_of_ne->Kg,DecidableEq->Ks,if_false->PT,dif_neg->Ql,congrFun->W9,Decidable->Xc,beq_iff_eq->Xx,decide_eq_true_eq->XZ,decide_eq_decide->X8,ForInStep->an1
open Option renaming some->N,none->ao,map_eq_some_iff->wm,map->Di,none_or->ai5,bind_eq_some_iff->aj1,getD->al4,bind_some->am6,isSome_iff_exists->co1,none->cq0
open Bool renaming true->ah,false->ak,noConfusion->gr,false_ne_true->rq,eq_false_iff->zM,and_eq_true->Ky,and_eq_true_iff->PI,eq_iff_iff->PX,or_false->aj6,false_eq_true->ak3,or_eq_false_iff->aq2,false_and->cr2,not_eq_true'->cv3
open PySem renaming Str->ai,Value->aA,Shared->aE,model->aP,Addr->aR,Expr->aT,World->bU,NameKind->cJ,Env->cL,eval->cM,Around->cQ,Heap->dH,Sem->dJ,Stmt->eg,call->fF,Params->fG,Obj->fH,Pos->gq,step->gQ,Builtin->gW,sizeLine->gX,Program->iU,DictEntry->jN,Model->jP,OsState->kH,Scope->ly,starEach->lQ,table->nK,Result->nM,backTo->n9,Thread->oU,isTrue->oY,Code->pN,denote->pO,foldedSetIterable->pP,mainGlobals->qx,entryFor->qC,spliced->ru,pyIter->ry,again->sq,ret->su,standAt->sy,assign->sC,wpAny_specialOf->sF,exec->t8,wpAny_bind->ud,typeLookup->ue,typeLookup_type->uf,builtinLookup_eq_fast->ug,callWith->vn,builtinsNs->wo,evalEach->wu,swapsWith->wz,findBy->wC,argsOk->wG,sysModules->xZ,unsupported->zG,wpAny_load->zK,holding->A9,execs->A_,wpAny_newObj_type->Bc,bindArgs->Be,plainId_quiet->Bk,Flow->C6,Fin->C7,FuncData->C9,wpAny->Dd,allTrue->De,noteFrame->Df,relabel->Dh,call_meets->Dl,boolOp->Dm,seqIndex?->Dp,checkBuiltinCall->Dw,load->F0,storeName->F3,binaryOp->F4,cLine->F7,intKind->F8,strKind->F9,getItem->F_,wpAny_typeOf->Gb,compEnvC->Gh,getMethod_builtin->Gi,retInt->Gj,bm_if_false->Gl,evalPairs->Gm,cStatics->J3,operate->J5,bindName->J6,loadName->J7,compareOp->J8,behindInMarks->J9,truthy->J_,evalPart->J',letOwnedTupleGo->Ka,Comprehension->Kc,evalArgs->Ke,mem_of_lookup->Kh,wpAny_truthy_bool->Kq,Slot->KC,isSubtype_type->KD,entryFor_of_tree->KG,isInstance->KI,mainNs->PA,assignInOrder->PK,backToKw->PL,keywordEach->PN,theTreesLotGoes->PO,callerA->PU,Meets->P8,wpAny_pure->P9,subscripted->Qa,wpAny_updateSeq->Qe,compTurn->Qh,cellsFrom->Qk,withoutEnding?->Qm,treeTable->W5,importedModules->W8,Operator->Xa,BoolOp->Xb,lastMarks->Xd,markedEach->Xe,wpAny_release->Xf,swappedStores->Xg,compStart->Xh,comprehension->Xi,wpAny_field->Xk,keeperOf->Xl,assignEach->Xm,outcomeOf->Xn,hashInt->Xr,wpAny_call_entry->XE,KeyKind->XG,rawInt->XI,wpAny_pyIter_list->XJ,typeOf->XK,wpAny_mkInt->XW,importedNames->Yh,moduleNames->Yi,fenceModules?->aj0,wpAny_askSetting->aj7,closureFor->aj8,newFunctionEnv->aj9,wpAny_comp_letGo->ak0,callFunction->ak2,leftWithCleanup->ak4,signature?_of->an3,specialOf->ao1,bm_if_true->ao7,callType_codes->ao8,table_eq_tree->cn9,bltViewBooted->co2,codeAny->co6,wpAny_rule->co8,wpAny_execs_nil->co9,markedBehindIn_of_false->cp0,swapsWithSole->cp1,theWindowsPlace->cp2,recursionLimit->cp3,wpAny_unpackItems_tuple->cp4,leftWithCleanup_false_of_bare->cp5,call->cp6,wpAny_holding->cs1,markedBehindIn->cs3,letTemporaryGo->cs4,wpAny_letTemporaryGo->cs5,wpAny_sequenceKey->ct3,wpAny_callSpecial?_slot->ct4,slot_list_getitem->ct7,attributeBase->cu2,wpAny_loadPart->cu4,wpAny_lookBehind->cu5,wpAny_setSeqItemAt->cu9,slot_list_setitem->cv0,eval_ListComp->cv8,builtinType_eq_fast->cv9,updateBytearray->cw6,entryFor_of_fast->cx1,methodCallForm->cx6,methodCallPos->cx7,call_list_seq->cy2,codeAny_builtin->cy4,object_init_meets->cz1,wpAny_of_eq->cz4,wpAny_typeOf->cz6
open Nat renaming le_trans->bN,beq->bX,lt_of_le_of_lt->eZ,le_add_right->gF,le_of_eq->iW,succ_pos->jd,casesOn->ji,le_refl->jO,succ_le_succ->lB,lt_trans->mE,eq_of_beq_eq_true->mV,zero_add->mW,le_of_lt->mX,lt_succ_self->m7,ble->nJ,lt_of_lt_of_le->oX,zero_le->qw,le_of_lt_succ->qD,add_comm->rC,add_le_add_left->rD,ne_of_lt->sr,cast->sL,lt_irrefl->vg,not_lt->vj,succ->vo,add_assoc->wB,le_succ->wF,le_succ_of_le->xU,not_lt_zero->xV,lt_add_of_pos_right->xW,add_right_comm->xX,succ_add->xY,le_add_left->x6,mod_eq_of_lt->zQ,mul_le_mul_left->zV,toUInt8->Bl,min_le_left->DB,lt_of_succ_lt_succ->F6,not_le_of_lt->Gq,add_sub_cancel_left->Kl,le_of_succ_le_succ->Km,add_le_add_right->Ku,ne_of_gt->Kw,pow_succ->KN,ne_of_beq_eq_false->PW,le_of_ble_eq_true->P0,min_eq_left->Qq,min_eq_right->Qs,le_of_not_lt->Qt,add_lt_add_right->Qx,mul_comm->QA,mod_lt->QB,not_lt_of_le->QC,beq_refl->W0,le_of_succ_le->W2,lt_of_not_le->W_,mod_mod->X6,add_mod_right->X7,div_lt_of_lt_mul->ai9,sub_self->am7,succ_lt_succ->ap0,div_lt_self->ap2,pow_le_pow_right->ap3,lt_succ_of_le->ap8,le_min->ap9,pow_zero->aq0,add_le_add->aq1,lt_of_lt_of_eq->aq4,lt_succ_of_lt->cn6,lt_succ_iff_lt_or_eq->cn8,strongRecOn->co7,ble_eq_true_of_le->cp8,exists_eq_add_of_le->cq8,lt_of_add_lt_add_left->cq9,one_mul->cr1,log2_lt->cr4,succ_le_of_lt->cr6,min_self->cv1,le_total->cz9,blt_eq->cA1,add_sub_cancel'->cA4,mul_assoc->cA5,succ_min_succ->cB1,mul_one->cB2,sub_add_cancel->cB3,le_zero->cB5,le_antisymm->cC0,lt_of_succ_lt->cC2,lt_of_le_of_ne->cC5
open Exists renaming elim->b_
open List renaming length_map->cO,casesOn->eT,mem_singleton->fN,length_append->f6,forall_mem_cons->gv,mem_append->gK,mem_append_left->iN,mem_cons->iV,append_assoc->jx,append_nil->j3,mem_append_right->kj,range->kJ,getElem?_map->mD,getElem?_eq_getElem->mZ,map_map->n_,nodup_cons->o4,nodup_append->qz,mem_map->qA,mem_flatMap->rA,replicate->vh,getElem?_eq_some_iff->vq,not_mem_nil->vt,any_eq_true->wD,map_append->zR,lookup_cons->Bf,mem_range->Bg,reverse_cons->Dj,length_nil->Du,pairwise_cons->DC,mem_filter->F5,length_reverse->Gf,length_cons->Kn,mem_of_getElem?->Ko,drop_length->Kz,size_toArray->PJ,getElem?_append_left->PY,Sublist->PZ,perm_middle->P1,getElem?_append_right->P4,getElem?_zip_eq_some->P5,zip_cons_cons->P6,forIn_cons->Qg,length_range->Qv,mem_reverse->Xj,getElem?_take_of_lt->Xv,length_take->Xw,length_eq_zero_iff->XA,map_nil->Yc,foldl_append->Yd,map_cons->ai8,mem_of_mem_take->ak1,toList_toArray->ak5,map_id''->ak6,zip_append->ak7,getElem_mem->ak9,mem_iff_getElem?->al0,length->al3,all_eq_true->al7,find?_toArray->al9,length_zip->am8,map_congr_left->ao3,any_cons->ap1,length_filter_le->aq3,mem_map_of_mem->aq5,perm_singleton->aq6,cons->co5,flatMap_map->cq1,range'->cq2,length_set->cq3,getElem?_set_ne->cq4,Perm->cq5,of_mem_zip->cq6,zip_map_right->cq7,getElem?_range'->cr0,replicate_succ->cr7,foldl_cons->cr8,find?_cons->cs2,take_of_length_le->ct9,length_drop->cu0,filterMap_cons->cv2,drop_eq_getElem_cons->cv7,contains_iff_mem->cw5,take_length->cx2,range'_succ->cx4,drop->cA0,forall_mem_map->cB4,length_replicate->cB6,filter_cons_of_pos->cB7,filter_cons_of_neg->cB8,nil_append->cC1,forall_mem_singleton->cC3,foldl_map->cC4,perm_cons->cC7
open Int renaming ofNat_lt->dF,ofNat_le->iz,le_trans->jj,not_lt->nN,toNat_natCast->sG,lt_trans->sN,add_sub_cancel->uh,fmod->x7,toNat_of_nonneg->zO,fdiv->zS,add_assoc->zT,ofNat_inj->zU,le_refl->zW,lt_of_lt_of_le->Bo,natCast_nonneg->Dn,eq_ofNat_of_zero_le->Dr,natCast_add->Dz,zero_add->Ga,lt_of_le_of_lt->Gg,natCast_pow->Gn,not_le->Gp,add_comm->Kv,natCast_mul->KL,neg_le_neg->Qd,le_of_lt->Qf,sub_le_sub_right->Qu,add_zero->Qw,add_nonneg->Qz,fdiv_eq_ediv_of_nonneg->QD,emod_nonneg->QE,sub_nonneg_of_le->QF,toNat_lt->XR,lt_irrefl->X0,pow_succ->X3,mul_comm->X4,le_add_of_nonneg_right->X5,neg_mul->X_,emod_eq_of_lt->Yb,mul_one->am1,emod_lt_of_pos->ap5,add_le_add_right->ap6,mul_assoc->ap7,natAbs_eq_zero->cr3,min_eq_left->cs7,ediv_one->cs8,sub_zero->cs9,sub_add_cancel->ct0,fmod_lt_of_pos->cA2,fmod_nonneg_of_pos->cA3,le_ediv_iff_mul_le->cA6,ediv_lt_iff_lt_mul->cA7,add_lt_add_right->cA8,add_mul->cA9,le_add_of_nonneg_left->cB0,fmod_eq_emod_of_nonneg->cB9,lt_add_one_of_le->cC6
open Option.some renaming inj->fW
open UInt8 renaming toNat->iY,toNat_ofNat'->cw7
open PySem.Heap renaming get?_push_of_some->ko,lt_size->kI,get?_push_size->lY,get?_update_self->Bj,SameBut->Dg,size_push->J2,get?_eq_some->aj3,get?_update_other->ao2
open PySem.W renaming dictOf->mY,boot_heap->qv,Frag->qB,instObj->sI,sub->vm,emptyDict->vz,Looks->wA,inst->A8,topFrame->C8,behindTheImports->Dc,findIn->Dk,typeIs_bytes->Dq,putL->Ds,keepIn->Dv,namesMeet->DE,boot_o_4->F1,getL->Gd,layAllW->Kf,topStub->PB,stepOk->WZ,restOf->W3,through->W4,boot_drawn->W6,boot_toks->W7,plainGet->Xs,typeIn->Xu,InstAt->XH,noRoadLSs->Ye,builtinNamed->Yg,boot_o_0->ai6,boot_o_2->ai7,ReadsAllW->aj5,plainOver->ak8,cThrough->aq7,readsOut->aq8
open Array renaming length_toList->o5,getElem?_toList->rB,getElem?_eq_getElem->Kp,mem_toList_iff->Kr,toList_push->Qj,toList_append->Xy,any_toList->XC,getElem?_eq_some_iff->ai3,getD_eq_getD_getElem?->ao6,getElem?_modify->cn5,toList_inj->cp7,isEmpty_iff->cs0,eraseIdxIfInBounds->cu6,isEmpty_iff_size_eq_zero->cu7,size_push->cu8,mem_iff_getElem->cx5,getElem?_eq_none->cz8
open And renaming intro->rz
open PySem.Obj renaming mapSeq->sH,mapBytearray->wH,putName->cu3
open PySem.Builtin renaming bitAnd->uc,bitOr->PV,divisionGoesByPylong->cr5
open PySem.Challenge renaming rw_nm0177_01->zH,pw_nm0177_01->cE3
open PyProof.Rows renaming subscriptTail->zJ,slot_tuple_getitem->Qc,bitAnd_m7->Qy,AllBare->Xo,tupleItemsOf_->am2,call_len_slot->ao4,bitAnd_pp->ap4,slicePart_none->ct2,getItem_tuple->ct8
open Nat.succ renaming inj->zL
open PySem.Value renaming ref->zN,type->Bh,int->Xp,none->al8,str->am4,bytes->cw9,builtin->cx8
open PySem.Builtin.Bytes renaming buffer?->Bm,payload->Qn,ownRelease->Qo,exported->XM,checkResize->XN,write->XO,byteValue->XQ,takeBufferQuiet?->XT,slotIsOwn->XU,exportsOf->an7,takeBuffer?->an9,payload?->ao0,lengthHint->cx0,decodersThatHold->cF2,newBytearray->cF7,bindOptional->cG3
open PySem.PyData renaming keyHash->C_
open PySem.NameKind renaming free->Dt,cell->an2
open PySem.Code renaming builtin->Dy,quiet_builtin->cy0
open Ne renaming symm->FY
open PySem.Heap.SameBut renaming update->Ge
open PySem.Sem renaming wp_mono->J4,casesOn->cn4
open Prod.mk renaming inj->KA
open PySem.Around renaming under_plainId->KH
open PySem.F renaming bm_called->KJ,bm_plain->XY,plainAttrs_list->an4,slot_list_extend->an5,slot_list_pop->an6,slot_int_rmul->cr9,slot_list_append->cw0,slot_tuple_index->cw1,entry_list_pop->cw2,entry_list_extend->cw3,args_list_extend_2->cw4,slot_tuple_len->cy1,bm_newCall->cy3,bm_entry->cy5,bm_sub->cy6,bm_bind->cy7,bm_typeCall->cy8,entry_object_init->cy9,args_object_init_2->cz0
open List.cons renaming inj->PD
open PySem.W.WShape renaming has->PG
open PySem.Env renaming kindOf->PR,blockKind->al5
open PySem.Builtin.Int renaming intBits->P7
open Eq renaming trans->Qi
open PySem.SeqAt renaming EqAt->Qp
open PySem.Heap.Ns renaming of_isNs->Xq
open PySem.Builtin.List renaming listFitsIndex->Xz,listTooLong->al6,listExtendWith->ao9,listLengthHint->cz5,listItems->cz7,listUpdate->cG4,listSameRef->cG5
open PySem.Builtin.Slice renaming slicePlaces->XD,sliceAdjust->am0,sliceApplied->ct1,sliceFields->cF4
open PySem.Builtin.Tuple renaming tupleExact->XF,tupleItemsOf->ct5,tupleIsExact->ct6
open PySem.W.KBy renaming special_eq->XS,look_buffer->an8,picked->cu1,own_buffer->cw8
open PySem.callAny renaming viaDunder->XX
open PySem.W.Fast renaming te17119622794617984870->Yj,te8326940854005059898->cC8,tw11892475500146522536->cE4,tw14364793385576792824->cE5,te11892475500146522536->cE6,te14364793385576792824->cE7,te11788848310118352699->cG7,te8377067652309620493->cG8,te8179353310426384613->cG9,te9558739934217749035->cH0,te16286561074155671207->cH1
open PySem.Step renaming go->ai4
open PySem.Shared renaming asleep_of_life->aj2,rest_eq->co3
open PySem.Pin renaming globalOf_eq->aj4
open PySem.W.FB renaming slot_bytes_getitem->am3,slot_bytes_len->ao5
open PySem.AutoSeq1 renaming idx_int->am5
open PySem.Walks renaming list->am9
open ForInStep renaming yield->an0
open PySem.Str renaming ofString->cn7
open Prod renaming fst->co0
open PySem.W.ReadsW renaming casesOn->co4
open Decidable renaming em->cp9
open PySem.Expr renaming casesOn->cs6
open PySem.Flow renaming next->cv4
open PySem.W.KBw renaming walks->cv5,pyIter_bytes->cv6
open PySem.Builtin.Str renaming glued->cx3
open PySem.W.Looks renaming ld->cx9
open String renaming splitOn->cz2,splitOnAux->cz3
open PySem.AfterImport renaming of_importEnds->cE8,unique->cE9
open PySem.W.WData.list renaming inj->cF0
open PySem.W.WData renaming casesOn->cF1
open List.Sublist renaming refl->cF3
open PySem.Heap.IsSliceOf renaming new->cF5
open PySem.Builtin.Bytes.exported renaming match_1->cF6
open Std.Legacy.Range renaming forIn_eq_forIn_range'->cF8
open PySem.SeqAt.EqAt renaming int_int->cF9,int_str->cG0,str_int->cG1,str_str->cG2
open List.Pairwise renaming sublist->cG6
open True renaming intro->cH2
namespace Internal
open PySem PySem.W PyProof.Rows PySem.Calls
namespace Wh
theorem kK{P:Prop}(h:∀b4:Prop,(P->b4)->b4):P:=h P id
abbrev PM:=J (aR×fH)
noncomputable def look(a:aR):PM->bq fH
 |[]=>ao
 |(b,o)::r=>match bX a b with|true=>N o|false=>look a r
noncomputable def put(a:aR)(f:fH->fH):PM->PM
 |[]=>[]
 |(b,o)::r=>match bX a b with|true=>(b,f o)::r|false=>(b,o)::put a f r
noncomputable def live(o:fH):aD:=match o.data with| .freed=>ak|X=>ah
structure PS where
 mem:PM
 n:H
 toks:H
def Gv(den:pN->dJ Fin)(p:iU)(w:bU)(os:kH):PS->oU->bq (PS×oU)
 |⟨mem,n,toks⟩,⟨cur,code,pos,stack⟩=>match cur with
  | .load a X k=>match look a mem with
   |some o=>match live o with
    |true=>N (⟨mem,n,toks⟩,⟨k o,code,pos,stack⟩)
    |false=>ao
   |none=>ao
  | .update a X f k=>match look a mem with
   |some o=>match live o with
    |true=>N (⟨put a f mem,n,toks⟩,⟨k (),code,pos,stack⟩)
    |false=>ao
   |none=>ao
  | .alloc o k=>N (⟨mem++[(n,o)],n+1,toks⟩,⟨k n,code,pos,stack⟩)
  | .loadIfAlive a k=>match look a mem with
   |some o=>match live o with
    |true=>N (⟨mem,n,toks⟩,⟨k (N o),code,pos,stack⟩)
    |false=>ao
   |none=>ao
  | .fresh k=>N (⟨mem,n,toks+1⟩,⟨k toks,code,pos,stack⟩)
  | .rule X k=>N (⟨mem,n,toks⟩,⟨k (),code,pos,stack⟩)
  | .at q k=>N (⟨mem,n,toks⟩,⟨k (),code,q,stack⟩)
  | .point X k=>N (⟨mem,n,toks⟩,⟨k (),code,pos,stack⟩)
  | .ask k=>N (⟨mem,n,toks⟩,⟨k ⟨p,w.params⟩,code,pos,stack⟩)
  | .choose ..| .os ..| .newGen ..| .genState ..| .resume ..| .yield ..| .thread ..=>ao
  |c=>match gQ den p w ⟨{},#[],{},0,os⟩ ⟨c,code,pos,stack⟩with
   | .go X t'=>N (⟨mem,n,toks⟩,t')
   | .halt X I=>ao
def rH(den:pN->dJ Fin)(p:iU)(w:bU)(kR:H)(lu:bq aA)(os:kH)(b:H):H->PS->oU->bq (C6×PS×pN×gq)
 |0,X,I=>ao
 |k+1,s,t=>match endAt b t with
  |some f=>N (f,s,t.code,t.pos)
  |none=>match WZ kR lu t with
   |false=>ao
   |true=>match Gv den p w os s t with
    |some (s',t')=>rH den p w kR lu os b k s' t'
    |none=>ao
section
theorem YH{α:Type}(a b:H)(x y:α):(match bX a b with|true=>x|false=>y)=if a=b then x else y:=by
 by_cases h:a=b
 ·subst h;rw[W0,dM rfl]
 ·rw[cF h];cases z:bX a b with
  |false=>rfl
  |true=>exact absurd (mV z) h
theorem YI(a:aR):look a []=ao:=rfl
theorem sQ(a b:aR)(o:fH)(r:PM):look a ((b,o)::r)=if a=b then N o else look a r:=YH ..
theorem aw3(a b:aR)(o:fH)(f:fH->fH)(r:PM):put a f ((b,o)::r)=if a=b then(b,f o)::r else(b,o)::put a f r:=YH ..
theorem Gw{a c:aR}{x:fH}{r:PM}{P:bq fH->Prop}(h:a=c->P (N x))(g:a≠c->P (look a r)):P (look a ((c,x)::r)):=by
 rw[sQ]
 split
 ·exact h (by assumption)
 ·exact g (by assumption)
theorem YJ{f:fH->fH}{a:aR}{o:fH}(b:aR){m:PM}:look a m=N o->look b (put a f m)=if b=a then N (f o)else look b m:=by
 induction m with
 |nil=>exact λh=>nomatch h
 |cons p r ih=>
  obtain⟨c,x⟩:=p;rw[aw3];refine Gw (P:=λz=>z=N o->_) (λe h=>?_) λe h=>?_
  ·rw[dM e,sQ,sQ,fW h,e]
   split<;>rfl
  ·rw[cF e,sQ,sQ,ih h];by_cases q:b=c
   ·rw[dM q,dM q,cF (λz:b=a=>e (z.symm.trans q))]
   ·rw[cF q,cF q]
theorem KZ(a:aR)(m':PM)(m:PM):look a (m++m')=(look a m).or (look a m'):=by
 induction m with
 |nil=>rfl
 |cons p r ih=>obtain⟨c,x⟩:=p;exact Gw (P:=λz=>z=(look a ((c,x)::r)).or (look a m')) (λq=>by rw[sQ,dM q];rfl) λq=>by rw[sQ,cF q];exact ih
structure m9(os:kH)(h:dH)(x:PS)(s:aE):Prop where
 size:s.heap.objs.size=x.n
 toks:s.toks=x.toks
 gens:s.gens=#[]
 drawn:s.drawn={}
 os:s.os=os
 life:s.heap.life=h.life
 at_:∀a o,look a x.mem=N o->s.heap.objs[a]?=N o
 rest:∀b,look b x.mem=none->s.heap.objs[b]?=h.objs[b]?
 low:h.objs.size<=x.n
theorem aw4{s:aE}(h:s.heap.objs[a]?=N o)(l:live o=ah):s.heap.get? a=N o:=
 Heap.get?_some_iff.mpr ⟨h,by obtain⟨c,d,dt,sl⟩:=o;cases dt<;>first|rfl|cases l⟩
def Yk:dJ C7->Prop
 | .pure _| .raise _| .unsupported _| .finish _| .register ..| .call ..| .handled ..| .stack ..| .fork ..| .await ..=>oV
 |X=>bV
def K0(σ:aE)(a b:Step):Prop:=match a with
 | .go X t=>b=.go σ t
 | .halt X I=>oV
theorem QX(h:K0 σ a d)(g:K0 σ b d):K0 σ (if c=ah then a else b) d:=by cases c;exact g;exact h
theorem aw5{den:pN->dJ Fin}{p:iU}{w:bU}{os:kH}{eE:dH}{tk:H}{cur:dJ Fin}{code:pN}{pos:gq}{stack:J Frame}(hc:Yk cur):
  K0 ⟨eE,#[],{},tk,os⟩ (gQ den p w ⟨{},#[],{},0,os⟩ ⟨cur,code,pos,stack⟩) (gQ den p w ⟨eE,#[],{},tk,os⟩ ⟨cur,code,pos,stack⟩):=by
 induction cur using cn4 with
 |pure f=>
  induction f with
  |done f=>induction stack using eT with
   |nil=>exact QX trivial trivial
   |cons fr r=>cases fr<;>exact rfl
  |again c=>exact rfl
 |raise e=>induction stack using eT with
  |nil=>exact QX trivial trivial
  |cons fr r=>cases fr<;>exact rfl
 |unsupported|register|fork|await=>trivial
 |finish e=>exact QX trivial trivial
 |call|stack|handled=>exact rfl
 |_=>exact hc.elim
def Bu(den:pN->dJ Fin)(p:iU)(w:bU)(os:kH)(h:dH)(s:aE)(t:oU)(y:bq (PS×oU)):Prop:=match y with
 |none=>oV
 |some z=>∃s',gQ den p w s t=.go s' z.2/\m9 os h z.1 s'
section
variable{den:pN->dJ Fin}{p:iU}{w:bU}{os:kH}{h:dH}{s:aE}{t:oU}{mem:PM}{n:H}{a:aR}
theorem QY{Q:fH->bq (PS×oU)}(r:m9 os h ⟨mem,n,s.toks⟩ s)(g:∀o,look a mem=N o->s.heap.get? a=N o->Bu den p w os h s t (Q o)):Bu den p w os h s t (match look a mem with|some o=>(match live o with|true=>Q o|false=>ao)|none=>ao):=by
 cases z:look a mem with
 |none=>trivial
 |some o=>
  show Bu den p w os h s t (match live o with|true=>Q o|false=>ao)
  cases l:live o with
  |false=>trivial
  |true=>exact g o z (aw4 (r.at_ a o z) l)
theorem m9.upd(r:m9 os h ⟨mem,n,s.toks⟩ s)(z:look a mem=N o):m9 os h ⟨put a f mem,n,s.toks⟩ {s with heap:=s.heap.update a f}:=by
 have ga:=r.at_ a o z;refine⟨(Heap.size_after_update ..).trans r.size,rfl,r.gens,r.drawn,r.os,?_,λb y hb=>?_,λb hb=>?_,r.low⟩
 ·exact r.life
 ·show(s.heap.objs.modify a f)[b]?=N y
  rw[cn5];have hb:look b (put a f mem)=N y:=hb;rw[YJ _ z]at hb
  by_cases q:b=a
  ·subst q;rw[dM rfl]at hb|-;rw[ga];exact hb
  ·rw[cF q]at hb;rw[cF (FY q)];exact r.at_ b y hb
 ·show(s.heap.objs.modify a f)[b]?=_
  rw[cn5];have hb:look b (put a f mem)=ao:=hb;rw[YJ _ z]at hb
  by_cases q:b=a
  ·subst q;rw[dM rfl]at hb;cases hb
  ·rw[cF q]at hb;rw[cF (FY q)];exact r.rest b hb
theorem m9.push(r:m9 os h ⟨mem,n,s.toks⟩ s):m9 os h ⟨mem++[(n,o)],n+1,s.toks⟩ {s with heap:=s.heap.push o}:=by
 have hs:s.heap.objs.size=n:=r.size;have hl:look n mem=ao:=by
  cases z:look n mem with
  |none=>rfl
  |some y=>exact absurd (ai3.mp (r.at_ n y z)).1 (hs▸vg _)
 have lo:∀b,look b (mem++[(n,o)])=if b=n then N o else look b mem:=λb=>by
  rw[KZ,sQ];by_cases q:b=n
  ·subst q;rw[hl,dM rfl,dM rfl];rfl
  ·rw[cF q,cF q];exact Option.or_none
 have gt:∀b,(s.heap.push o).objs[b]?=if b=n then N o else s.heap.objs[b]?:=λb=>by
  show(s.heap.objs.push o)[b]?=_
  rw[Array.getElem?_push,hs]
 refine⟨(J2 ..).trans (bR (·+1) hs),rfl,r.gens,r.drawn,r.os,r.life,λb y hb=>?_,λb hb=>?_,xU r.low⟩
 ·rw[gt];have hb:look b (mem++[(n,o)])=N y:=hb;rw[lo]at hb
  by_cases q:b=n
  ·rw[dM q]at hb|-;exact hb
  ·rw[cF q]at hb|-;exact r.at_ b y hb
 ·rw[gt];have hb:look b (mem++[(n,o)])=ao:=hb;rw[lo]at hb
  by_cases q:b=n
  ·rw[dM q]at hb;cases hb
  ·rw[cF q]at hb|-;exact r.rest b hb
theorem YK{x:PS}(r:m9 os h x s):Bu den p w os h s t (Gv den p w os x t):=by
 obtain⟨eE,lP,drawn,toks,rI⟩:=s;obtain⟨mem,n,tk⟩:=x;obtain⟨cur,code,pos,stack⟩:=t;cases r.gens;cases r.drawn;cases r.os;cases r.toks;have other:∀c:dJ C7,Yk c->Bu den p w rI h ⟨eE,#[],{},toks,rI⟩ ⟨c,code,pos,stack⟩ (match gQ den p w ⟨{},#[],{},0,rI⟩ ⟨c,code,pos,stack⟩with| .go X t'=>N ((⟨mem,n,toks⟩:PS),t')| .halt X I=>ao):=λc hc=>by
  have g:=aw5 (den:=den) (p:=p) (w:=w) (os:=rI) (eE:=eE) (tk:=toks) (code:=code) (pos:=pos) (stack:=stack) hc
  revert g
  generalize gQ den p w ⟨{},#[],{},0,rI⟩ ⟨c,code,pos,stack⟩=q;induction q with
  |halt=>exact λX=>trivial
  |go bJ ai1=>exact λg=>⟨_,g,r⟩
 induction cur using cn4 with
 |load a q k=>exact QY (s:=⟨eE,#[],{},toks,rI⟩) r λo z g=>⟨_,by
   show(match eE.get? a with|some o=>ai4 (⟨eE,#[],{},toks,rI⟩:aE) (⟨k o,code,pos,stack⟩:oU)|none=>_)=_
   rw[g],r⟩
 |loadIfAlive a k=>exact QY (s:=⟨eE,#[],{},toks,rI⟩) r λo z g=>⟨_,bR (λo=>ai4 (⟨eE,#[],{},toks,rI⟩:aE) (⟨k o,code,pos,stack⟩:oU)) g,r⟩
 |update a q f k=>exact QY (s:=⟨eE,#[],{},toks,rI⟩) r λo z g=>⟨_,dM (by rw[g];rfl),m9.upd (s:=⟨eE,#[],{},toks,rI⟩) r z⟩
 |alloc o k=>exact⟨_,bR (λn=>ai4 (⟨eE.push o,#[],{},toks,rI⟩:aE) (⟨k n,code,pos,stack⟩:oU)) r.size,m9.push (s:=⟨eE,#[],{},toks,rI⟩) r⟩
 |fresh k=>exact⟨⟨eE,#[],{},toks+1,rI⟩,rfl,r.size,rfl,rfl,rfl,rfl,r.life,r.at_,r.rest,r.low⟩
 |rule|«at»|point|ask=>exact⟨_,rfl,r⟩
 |choose|os|newGen|genState|resume|«yield»|thread=>trivial
 |pure f=>exact other _ trivial
 |raise f=>exact other _ trivial
 |unsupported f=>exact other _ trivial
 |finish f=>exact other _ trivial
 |register f k=>exact other _ trivial
 |call c m g l k=>exact other _ trivial
 |handled o k=>exact other _ trivial
 |stack k=>exact other _ trivial
 |fork c k=>exact other _ trivial
 |await a b c d k=>exact other _ trivial
end
theorem YL{p:iU}{w:bU}{os:kH}{h:dH}(k:H):∀{x:PS}{s:aE}{t:oU}{z:C6×PS×pN×gq},
  rH (pO tb) p w kR lu os b k x t=N z->m9 os h x s->∃s',segRun tb p w kR lu b k s t=N (z.1,s',z.2.2)/\m9 os h z.2.1 s':=by
 induction k with
 |zero=>exact λe=>nomatch e
 |succ k ih=>
  intro x s t z e r;have go:∀(y:bq C6)(c:aD)(v:bq (PS×oU))(Z:Step),(match y with|some f=>N (f,x,t.code,t.pos)|none=>match c with|false=>ao|true=>match v with|some (x',t')=>rH (pO tb) p w kR lu os b k x' t'|none=>ao)=N z->(∀x',v=N x'->∃s',Z=.go s' x'.2/\m9 os h x'.1 s')->
    ∃s',(match(generalizing:=false) y with|some f=>N (f,s,t.code,t.pos)|none=>match c with|false=>ao|true=>match Z with| .go s' t'=>segRun tb p w kR lu b k s' t'| .halt X I=>ao)=N (z.1,s',z.2.2)/\m9 os h z.2.1 s':=λy c v Z=>by
   induction y with
   |some f=>exact λe X=>⟨s,by cases e;rfl,by cases e;exact r⟩
   |none=>induction c with
    |false=>exact λe=>nomatch e
    |true=>induction v with
     |none=>exact λe=>nomatch e
     |some xt=>exact λe g=>(g xt rfl).elim λaF g=>g.1▸ih e g.2
  exact go (endAt b t) (WZ kR lu t) (Gv (pO tb) p w os x t) (gQ (pO tb) p w s t) e λx' q=>(q▸YK r:Bu (pO tb) p w os h s t (N x'))
noncomputable def qI(a:H):aD:=match a with
 |0|2|3|4|12|13|37|38=>ah
 |X=>ak
def sel:J H->PM->PM
 |[],X=>[]
 |a::r,m=>match look a m with|some o=>(a,o)::sel r m|none=>sel r m
def DK:PM->aD
 |[]=>ah
 |(a,X)::r=>match qI a with|true=>DK r|false=>ak
noncomputable def vA:H->PM->aD
 |X,[]=>ah
 |n,(a,X)::r=>match bX a n with|true=>vA (n+1) r|false=>ak
def vD:PM->PM
 |[]=>[]
 |(a,o)::r=>match qI a with|true=>vD r|false=>(a,o)::vD r
theorem QZ:look a (sel as m)=N o->look a m=N o:=by
 induction as with
 |nil=>exact λh=>nomatch h
 |cons b r ih=>
  have go:∀z,look b m=z->look a (match z with|some o=>(b,o)::sel r m|none=>sel r m)=N o->look a m=N o:=λz=>by
   induction z with
   |none=>exact λX=>ih
   |some x=>
    intro z h;rw[sQ]at h
    by_cases q:a=b
    ·rw[dM q]at h;exact q▸z.trans h
    ·rw[cF q]at h;exact ih h
  exact go _ rfl
theorem YM:DK m=ah->qI a=ak->look a m=ao:=by
 induction m with
 |nil=>exact λX I=>rfl
 |cons p r ih=>
  intro h ha;have go:∀z,qI p.1=z->(match z with|true=>DK r|false=>ak)=ah->look a (p::r)=ao:=λz=>by
   induction z with
   |false=>exact λX h=>nomatch h
   |true=>
    intro z h;rw[show look a (p::r)=if a=p.1 then N p.2 else look a r from sQ ..,cF (λe:a=p.1=>nomatch (ha.symm.trans (e▸z):ak=ah))]
    exact ih h ha
  exact go _ rfl h
theorem Q0{p:aR×fH}(h:vA n (p::r)=ah):p.1=n/\vA (n+1) r=ah:=by
 have go:∀z,bX p.1 n=z->(match z with|true=>vA (n+1) r|false=>ak)=ah->p.1=n/\vA (n+1) r=ah:=λz=>by
  induction z with
  |false=>exact λX h=>nomatch h
  |true=>exact λz h=>⟨mV z,h⟩
 exact go _ rfl h
theorem aw6:∀{n:H},vA n m=ah->a<n->look a m=ao:=by
 induction m with
 |nil=>exact λX I=>rfl
 |cons p r ih=>
  intro n h ha;have h:=Q0 h;rw[show look a (p::r)=if a=p.1 then N p.2 else look a r from sQ ..,cF (h.1▸sr ha)]
  exact ih h.2 (cn6 ha)
theorem aw7{p:aR×fH}:∀{n:H},vA n m=ah->p∈m->look p.1 m=N p.2/\n<=p.1:=by
 induction m with
 |nil=>exact λX=>nofun
 |cons q r ih=>
  intro n h hp;have h:=Q0 h;have e:look p.1 (q::r)=if p.1=q.1 then N q.2 else look p.1 r:=sQ ..
  rcases iV.mp hp with z|hp
  ·exact⟨by rw[e,z,dM rfl],iW (z▸h.1.symm)⟩
  ·have g:=ih h.2 hp;exact⟨by rw[e,cF (λe:p.1=q.1=>Nat.not_succ_le_self n ((e.trans h.1)▸g.2))];exact g.1,W2 g.2⟩
theorem aw8{p:aR×fH}:p∈vD m->p∈m/\qI p.1=ak:=by
 induction m with
 |nil=>exact nofun
 |cons q r ih=>
  have go:∀z,qI q.1=z->p∈(match z with|true=>vD r|false=>(q.1,q.2)::vD r:PM)->p∈q::r/\qI p.1=ak:=λz=>by
   induction z with
   |true=>exact λX h=>⟨.tail _ (ih h).1,(ih h).2⟩
   |false=>exact λz h=>(iV.mp h).elim (λe=>⟨e▸ .head _,e▸z⟩) λh=>⟨.tail _ (ih h).1,(ih h).2⟩
  exact go _ rfl
structure wM(os:kH)(lf:Life)(j7 wO:PM)(n toks:H)(s:aE):Prop where
 size:s.heap.objs.size=n
 toks:s.toks=toks
 gens:s.gens=#[]
 drawn:s.drawn={}
 os:s.os=os
 life:s.heap.life=lf
 j7:∀a o,look a j7=N o->s.heap.objs[a]?=N o
 wO:∀p∈wO,s.heap.objs[p.1]?=N p.2/\p.1<n/\qI p.1=ak
variable{tb:jZ->bq gW}{p:iU}{w:bU}{kR:H}{lu:bq aA}{G:cL}{q:gq}{os:kH}{lf:Life}
theorem wM.aw9{j7 wO pre xT eY Gy:PM}{ts hs:J H}{n n' tk Bv k:H}{s:aE}{t:oU}{f:C6}{c:pN}{pos:gq}(a:wM os lf j7 wO n tk s)
  (e:rH (pO tb) p w kR lu os 1 k ⟨pre,n,tk⟩ t=N (f,⟨xT++eY,n',Bv⟩,c,pos))(h1:sel ts j7=pre)(h2:sel hs (xT++eY++j7)=Gy)(h3:DK xT=ah)(h4:vA n eY=ah):
  ∃s',segRun tb p w kR lu 1 k s t=N (f,s',c,pos)/\wM os lf Gy (vD eY++wO) n' Bv s':=by
 subst h1 h2;obtain⟨s',h,r⟩:=YL (h:=s.heap) k e ⟨a.size,a.toks,a.gens,a.drawn,a.os,rfl,λb o hb=>a.j7 b o (QZ hb),λX I=>rfl,iW a.size⟩;have low:=r.low;have sz:=r.size;have sz0:=a.size;dsimp only at low sz
 refine⟨s',h,r.size,r.toks,r.gens,r.drawn,r.os,r.life.trans a.life,λb o hb=>?_,λy hy=>?_⟩
 ·have hb:=QZ hb;rw[KZ]at hb
  cases z:look b (xT++eY)with
  |some x=>rw[z]at hb;cases hb;exact r.at_ b _ z
  |none=>rw[z,ai5]at hb;exact(r.rest b z).trans (a.j7 b o hb)
 ·rcases gK.mp hy with hy|hy
  ·obtain⟨m,hh⟩:=aw8 hy;obtain⟨l,ge⟩:=aw7 h4 m;have:look y.1 (xT++eY)=N y.2:=by rw[KZ,YM h3 hh,ai5];exact l
   have at_:=r.at_ _ _ this;exact⟨at_,sz▸(ai3.mp at_).1,hh⟩
  ·obtain⟨o,lt,hh⟩:=a.wO y hy;have:look y.1 (xT++eY)=ao:=by rw[KZ,YM h3 hh,ai5];exact aw6 h4 lt
   exact⟨(r.rest _ this).trans o,oX lt (sz0▸low),hh⟩
def zX(tb:jZ->bq gW)(p:iU)(w:bU)(kR:H)(lu:bq aA)(P:aE->Prop)(s:aE)(t:oU):Prop:=∃cC r,topRun tb p w kR lu cC s t=N r/\P r
theorem zX.Z{P:aE->Prop}{j7 wO pre xT eY Gy:PM}{ts hs:J H}{n n' tk Bv k:H}{ss:J eg}{Z:eg}{dg:J eg}{c:pN}{pos qu:gq}(he:ss=Z::dg)
  (e:rH (pO tb) p w kR lu os 1 k ⟨pre,n,tk⟩ (pieceOf Z G c pos [C8 q])=N (.next,⟨xT++eY,n',Bv⟩,c,qu))
  (h1:sel ts j7=pre)(h2:sel hs (xT++eY++j7)=Gy)(h3:DK xT=ah)(h4:vA n eY=ah)
  (h:∀s,wM os lf Gy (vD eY++wO) n' Bv s->zX tb p w kR lu P s (W3 dg G c qu [C8 q]))(s:aE)(a:wM os lf j7 wO n tk s):
  zX tb p w kR lu P s (W3 ss G c pos [C8 q]):=by
 subst he;refine b_ (a.aw9 e h1 h2 h3 h4) λs' hx=>?_;have hs:=hx.1;have a':=hx.2;refine b_ (h s' a') λcC hx=>?_;refine b_ hx λr hx=>?_;have hr:=hx.1;have hp:=hx.2;exact⟨k+cC,r,piece_cons hs hr,hp⟩
theorem zX.fin(s:aE)(h:P s):zX tb p w kR lu P s (W3 [] G c pos [C8 q]):=by obtain⟨eE,g,d,t,os⟩:=s;exact⟨3,⟨eE,g,d,t,os⟩,rfl,h⟩
end
def K1(den:pN->dJ C7)(p:iU)(w:bU)(kR:H)(lu:bq aA)(os:kH):H->PS->oU->bq (PS×oU)
 |0,s,t=>N (s,t)
 |k+1,s,t=>match W4 t with
  |true=>ao
  |false=>match WZ kR lu t with
   |false=>ao
   |true=>match Gv den p w os s t with
    |some (s',t')=>K1 den p w kR lu os k s' t'
    |none=>ao
theorem ax0{tb:jZ->bq gW}{p:iU}{w:bU}{kR:H}{lu:bq aA}{os:kH}{h:dH}(k:H):∀{x:PS}{s:aE}{t:oU}{z:PS×oU},
  K1 (pO tb) p w kR lu os k x t=N z->m9 os h x s->∃s',topGo tb p w kR lu k s t=N (s',z.2)/\m9 os h z.1 s':=by
 induction k with
 |zero=>exact λe r=>⟨_,by cases e;rfl,by cases e;exact r⟩
 |succ k ih=>
  intro x s t z e r;have go:∀(y c:aD)(v:bq (PS×oU))(Z:Step),(match y with|true=>ao|false=>match c with|false=>ao|true=>match v with|some (x',t')=>K1 (pO tb) p w kR lu os k x' t'|none=>ao)=N z->(∀x',v=N x'->∃s',Z=.go s' x'.2/\m9 os h x'.1 s')->
    ∃s',(match(generalizing:=false) y with|true=>ao|false=>match(generalizing:=false) c with|false=>ao|true=>match(generalizing:=false) Z with| .go s' t'=>topGo tb p w kR lu k s' t'| .halt X I=>ao)=N (s',z.2)/\m9 os h z.1 s':=λy c v Z=>by
   induction y with
   |true=>exact λe=>nomatch e
   |false=>induction c with
    |false=>exact λe=>nomatch e
    |true=>induction v with
     |none=>exact λe=>nomatch e
     |some xt=>exact λe g=>(g xt rfl).elim λaF g=>g.1▸ih e g.2
  exact go (W4 t) (WZ kR lu t) (Gv (pO tb) p w os x t) (gQ (pO tb) p w s t) e λx' q=>(q▸YK r:Bu (pO tb) p w os h s t (N x'))
noncomputable abbrev bM:=cn7
noncomputable abbrev pw:=cE3
noncomputable def YN:eg:=.Pass ⟨0,0,0,0⟩
def sA(i:H):eg:=pw.main.body.getD i YN
inductive SV where
 |fn (name:ai) (args:Arguments) (body:J eg) (sc:ly)
 |cls (name:ai) (body:J eg) (ws:J ai)
 |asg (l:J aT)
 |o
noncomputable def sv(Z:eg):SV:=Z.casesOn (λn a b X I u2 sc u3 u4 u5=>.fn n a b sc) (λX I u2 u3 u4 u5 u6 u7 u8 u9=>.o) (λn X I b u2 u3 u4 u5 u6 w u7=>.cls n b w) (λX I=>.o) (λX I=>.o) (λl X I=>.asg l) (λX I u2 u3 u4 u5 u6=>.o) (λX I u2 u3=>.o) (λX I u2 u3 u4=>.o) (λX I u2 u3 u4=>.o) (λX I u2 u3 u4=>.o) (λX I u2 u3=>.o) (λX I u2 u3=>.o) (λX I u2=>.o) (λX I u2=>.o) (λX I u2=>.o) (λX I u2=>.o) (λX I u2 u3 u4=>.o) (λX I u2 u3 u4=>.o) (λX I u2=>.o) (λX I=>.o) (λX I u2 u3=>.o) (λX I=>.o) (λX I=>.o) (λX I=>.o) (λX=>.o) (λX=>.o) (λX=>.o)
def ax1(Z:eg):J eg:=match sv Z with| .cls X b I=>b| .fn X I u2 u3=>[]| .asg X=>[]| .o=>[]
def sM(i k:H):eg:=(ax1 (sA i)).getD k YN
def fD(Z:eg)(cm8:ai)(dV kV doc pm:aA)(an:bq aR)(cd ct:aA)(gl bi:aR):C9:=match sv Z with
 | .fn name args body scope=>⟨name,cm8,args,.stmts body,scope,gl,[],dV,kV,doc,pm,an,cd,ct,bi⟩
 | .cls X I u2=>default| .asg X=>default| .o=>default
noncomputable def en(P:fG)(x:ai)(t:H)(v:aA):jN:=⟨C_ P x,.str x t,v⟩
noncomputable abbrev s(x:jZ)(t:H):aA:=.str (bM x) t
noncomputable abbrev j(i:aa):aA:=.int i 0
noncomputable abbrev r(a:H):aA:=.ref a
noncomputable def tu(l:J aA):fH:=⟨.type "tuple",ao,.seq l.toArray 0,#[]⟩
noncomputable def pl(l:J aA):fH:=⟨.none,ao,.fields l.toArray,#[]⟩
def fr(Z:eg)(q:ai):fH:=⟨.none,ao,.func (fD Z q .none .none .none .none ao .none .none 0 0),#[]⟩
noncomputable def co(l:J aA):fH:=⟨.type "code",ao,.fields l.toArray,#[]⟩
noncomputable def fu(f:C9):fH:=⟨.type "function",ao,.func f,#[]⟩
noncomputable def di(l:J jN)(n:H):fH:=⟨.type "dict",ao,.dict l.toArray n,#[]⟩
def ax2(Z:eg):gq:=match sv Z with
 | .asg l=>(match l with|e::X=>e.pos|[]=>⟨0,0,0,0⟩)
 | .o=>⟨0,0,0,0⟩
 | .fn X I u2 u3=>Z.pos| .cls X I u2=>Z.pos
def QG:H->gq
 |0=>⟨0,0,0,0⟩
 |i+1=>ax2 (sA i)
noncomputable def yc(k n:H):J H:=Nat.rec (λX=>[]) (λX ih n=>n% 4096::ih (n/4096)) k n
def nT:J H:=yc 210 0x5b15aa5a55a059959258d58858357e57757056956255d55855154a54353e53953252d52652151a51350c5075004f94f44ed4e64df4d84d14ca4c54be4b74b74af47747046946445d45644f44844143a43342c42541e4174104094023fb3f43ed3e63df3d83d13ca3c33bc3bc3bc3bc3bc3bb3ba3ba3ba3ba3ba3b53ae3a73a039939238b38437d37636f36836335c35534e34734033933232b32431d31630f3083012fa2f32ec2ec2ec2ec2ec2e72e226f25323721d2011e51c91c91c91c91c91c41bd1b61af18a18717e17616916916916916916916916916916916916916916916916916916916916916916916916916916916916916916916916916916916916916916916916916916916916916916916916916916916916914613f13813113113113013013013012812111a0d405c05c05003d02a01601600f
def tT:J H:=yc 210 0x95094193b93592e92191b91590f9099008f68e78dd8d78d18c78bd8b48ae8a889f89988a88487b87386886285a85284c84583c83482d82782181b81480b8098017a979a78e78878077976d76375975174974073872f72671c7117077006f66ec6e26d96d26c86c06b96af6ad6ab6a56a269d69c69a69869669468e68167766e66465c65264a64163662d62561f61860f6055fc5f35eb5e35db5d05c85be5b45a959f59658d58558358157f57d5775714e04b848e46343b4133e93e73e53e33e13db3d43cd3c23a935434332d2fc2fa2f82f62f42f22f02ee2ec2ea2e82e62e42e22e02de2dc2da2d82d62d42d22d02ce2cc2ca2c82c62c42c22c02be2bc2ba2b82b62b42b22b02ae2ac2aa2a82a62a42a22a029d29a29729429126125925224b24924723a23823623422521d2131be1271251150fb0e10c40c20bb
def kT:J H:=yc 210 0xd20d10d00cf0ce0cd0cc0cb0ca0c90c80c70c60c50c40c30c20c10c00bf0be0bd0bc0bb0ba0b90b80b70b60b50b40b30b20b10b00af0ae0ad0ac0ab0aa0aa0a90a80a70a60a50a40a30a20a10a009f09e09d09c09b09a09909809709609509409309209109008f08e08d08c08b08a08908808708608508408408308208108007f07e07d07c07b07a07907807707607507407307207107006f06e06d06c06b06a06906806706606506406306306206106005f05e05d05c05b05a05905805705705605505405305205105004f04e04d04c04b04a04904804704604504404304204104003f03e03d03c03b03a03903803703603503403303203103002f02e02d02c02b02a02902802702602502402302202202102001f01e01d01c01b01a01901801701601501401301301201101000f00e00e00d00c00b00a00a009
def mT:J H:=yc 210 0x17a17717417116e16b16816516215f15c15915615315014d14a14714414113e13b13813513212f12c12912612312011d11a11711411110e10b1081051021020ff0fc0f90f60f30f00ed0ea0e70e40e10de0db0d80d50d20cf0cc0c90c60c30c00bd0ba0b70b40b10ae0ab0ab0ab0ab0ab0ab0ab0ab0ab0ab0ab0a80a50a209f09c09909609309008d08a08708408107e07b07807507206f06c06906606306005d05a05705405105105105105104e04b04804504203f03c03903603603603603603303002d02a02a02a02a02a02a02a02a02a02a02a02a02a02a02a02a02a02a02a02a02a02a02a02a02a02a02a02a02a02a02a02a02a02a02a02a02a02a02a02a02a02a02a02a02a02a02a02a02a02a02a02a02a02a02a02a02a02702402101e01e01e01e01e01e01e01b01801501200f00f00c009006003003000
def vT:J H:=yc 210 0x8008008008008008008008008008008008008008008008008008008008008008008008008008008008008008008008008008008008008008008008008007007007007007007007007007007007007007007007007007007007007007007007007007007007007007007007007007007007007007007007006006006006006006006006006006006006006006006006006006006006006006006006006006006006006006006006006006005005005005005005005005005005005005005004004004004004004004004004004004004004004004004004004004004004004004004004004004004004004004004004004004004004004004004004004004004004004004004004004004004004004003003003003003003003003003003003003003003003003002002002002002002001001001001001000000
noncomputable def vN:J aA:=[s "__main__" 164,s "wasmcore.faults" 194,s "wasmcore.octets" 293,s "wasmcore.binsections" 564,s "wasmcore.codes" 674,s "wasmcore.modules" 993,s "wasmcore.binwrite" 1405,s "wasmcore.binread" 1684,s "law_nm0177_01" 2057]
noncomputable def z3:J H->J aA
 |a::b::l=>.int a 0::.int 0 0::.ref b::z3 l
 |X=>[]
def plE:J aA:=z3 (yc 252 0x5af50b5a85095a350759e5055974f75904db58b4d45864c05814b657c4ad5754a856e48f56748a56048855b48655648154f47c54847754147253c44953744553044052b43552443051f42451841b51140a50a3f45053ef4fe3ec4f73ea4f23e84eb3e14e43dc4dd3da4d63d84cf3d64c83d44c33d24bc3ce4b53cb47c38047537146e36846735646235145b34f45433b44d32e44631b43f30b43830743130142a2fd4232f241c2ef4152e840e2da4072d34002d13f92cd3f22c63eb2bf3e42b93dd2b73d62b03cf2ab3c82a93c12a43b828f3b32873ac2823a526939e26139724b39024738924538224037b23a37423236d22636621136120d35a20a35320334c1f13451ee33e1e83371e33301e03291db3221cd31b1c93141c630d1c23061bd2ff1b82f81b42f11b22ea1a92e51a727416825815f23c1552221492061401ea1371ce12d1c71251c21231bb11d1b411814b0ca1440c713d0c41360bf12e0aa1260a011f0910d906d06101705501404200f02f00a01b005014001)
noncomputable def ri(c:H)(n _:H):aA:=.ref (n -c)
noncomputable def ii(c:aa)(_ t:H):aA:=.int c (t -2)
noncomputable def bi(l:J iX)(_ t:H):aA:=.bytes l.toArray (t -2)
def aL:J (H->H->aA):=[bi [0,97,115,109],bi [1,0,0,0],ri 1,ii 0,ii 12,ii (-1),ii (-2),ii (-16),ii (-17),ii (-64),ii 0,ii 0,ii 1,ii 2,ii 3,ii 4,ii 5,ii 11,ii 12,ii 13,ii 14,ii 15,ii 16,ii 17,ii 18,ii 19,ii 26,ii 27,ii 28,ii 32,ii 33,ii 34,ii 35,ii 36,ii 37,ii 38,ii 63,ii 64,ii 65,ii 66,ii 208,ii 209,ii 210,ii 64520,ii 64521,ii 64522,ii 64523,ii 64524,ii 64525,ii 64526,ii 64527,ii 64528,ii 64529,ii 252,ii 253,ri 13,ri 8,ri 1,ri 3,ri 1,ii 0,ii 1,ii 2,ii 96,ii 64512,ii 127,ii 64,ii 0,ii 17,ri 1,ri 1,ii (-5),ii 4294967295,ii 50000,ii 31]
def Gz(P:fG):H->J eg->J H->J H->J H->J (H->H->aA)->J jN
 |i,Z::b,n::ns,t::ts,k::ks,al=>(match ks with
  |[]=>[]
  |k'::X=>(match bX k k' with
   |true=>Gz P (i+1) b ns ts ks al
   |false=>(match sv Z with
    | .fn x X I u2=>en P x (t -1) (.ref (n -1))::Gz P (i+1) b ns ts ks al
    | .cls x X I=>en P x (t -1) (.ref (n -bC (bX i 2) 4 (bC (nJ i 5) 3 5)))::Gz P (i+1) b ns ts ks al
    | .asg l=>(match al with
     |f::al=>en P ((oneName? l).getD (bM "")) (t -1) (f n t)::Gz P (i+1) b ns ts ks al
     |[]=>[])
    | .o=>[])))
 |X,I,u2,u3,u4,u5=>[]
def gE(P:fG):J jN:=en P (bM "__doc__") 166 .none::en P (bM "__package__") 167 .none::en P (bM "__loader__") 168 (.builtin "__main__.__loader__#opaque")::en P (bM "__spec__") 169 .none::en P (bM "__annotations__") 170 (r 6)::
 en P (bM "__builtins__") 171 (r 4)::en P (bM "__file__") 173 (s "/claim/cut.py" 172)::en P (bM "__cached__") 174 .none::Gz P 0 pw.main.body nT.tail tT.tail kT aL
def K2(P:fG)(k:H)(v:aA):fH:=⟨.type "dict",ao,.dict (en P (bM "__name__") 165 v::(gE P).take (k -1)).toArray k,#[]⟩
def Q2:fH:=co [s "<module>" 182,s "<module>" 183,s "/claim/cut.py" 184,j (1),j (0),j (0),j (0),j (0),r 11,.bool ak,j (181),r 12,.none,.none,.none,.none,j (185),j (1),s "/claim/cut.py" 186]
def K3(P:fG):fH:=⟨.none,ao,.dict #[en P (bM "type.__subclasses__.Exception.0") 221 (j (38)),en P (bM "type.__subclasses__.Exception.n") 222 (j (1))] 2,#[]⟩
def YO(P:fG):fH:=di [en P (bM "__module__") 203 (s "wasmcore.faults" 194),en P (bM "__firstlineno__") 207 (.int (5) 206),en P (bM "__init__") 215 (r 35),en P (bM "__static_attributes__") 217 (r 36),en P (bM "__weakref__") 219 (r 39),en P (bM "__doc__") 220 .none] 3
def YQ(i:H):fH:=⟨.type "type",ao,.cls ⟨bM "WasmFault",[.type "Exception"],[r 38,.type "Exception",.type "BaseException",.type "object"],37,bM "WasmFault",ah,[],[r 58,r 77,r 89].take (i -3),ak,ao,ak⟩,#[(N (r 22)),ao,(N (s "WasmFault" 196)),(N (s "WasmFault" 204)),(N (.builtin "Exception.__new__")),(N (.bool ah))]⟩
def YR(P:fG)(i:H):PM:=[(13,Q2),(12,pl (plE.take (mT.getD i 0))),(3,K2 P (kT.getD i 0) (vN.getD (vT.getD i 0) .none)),(4,F1 P),(0,ai6 P)]
def Q3(P:fG)(i:H):PM:=YR P i++(if nJ 3 i then(if bX 3 i then[(2,K3 P)]else[(2,K3 P),(38,YQ i),(37,YO P)])else[(2,ai7 P)])
def j7(P:fG)(i:H):PM:=YR P i++(if nJ 3 i then[(2,K3 P),(38,YQ i),(37,YO P)]else[(2,ai7 P)])
abbrev den:=cE4 cE5
noncomputable def K4:cL:={scope:=pw.main.scope,locals:=PA,globals:=PA,cells:=[],code:=.ref 13,frame:=N 14}
def pR:pN:=.body (Dc pw) K4
noncomputable def K5:J (ai×cJ)->J ai
 |[]=>[]
 |(x,.local)::r=>x::K5 r
 |X::r=>K5 r
noncomputable def QH:H->J ai->J aA
 |X,[]=>[]
 |t,x::r=>.str x t::QH (t+1) r
def GA(n t:H)(pm:aA)(Z:eg)(qn:ai->ai)(ax3:aD)(dv:aA):PM:=match sv Z with
 | .fn name args X scope=>
  let q:H->J aA->J aA:=λu l=>[.str name t,.str (qn name) (t+1),.str (bM "/claim/cut.py") (t+2),.int Z.pos.line 0,.int args.args.length 0,.int 0 0,.int 0 0,.int 3 0,.ref n,.bool ah,.int 181 0,.ref (n+1),.none]++l++[.int (t+u+3) 0,.int Z.pos.line 0,.str (bM "/claim/cut.py") (t+u+4)]
  (match ax3 with
  |true=>[(n,tu []),(n+1,pl []),(n+2,fr Z (qn name)),(n+3,co (q 0 [.none,.none,.ref (n+2)])),(n+4,fu (fD Z (qn name) dv .none .none pm ao (.ref (n+3)) .none 3 0))]
  |false=>
   let vs:=K5 scope.names
   [(n,tu []),(n+1,pl []),(n+2,tu (QH (t+3) vs)),(n+3,tu []),(n+4,fr Z (qn name)),(n+5,co (q vs.length [.ref (n+2),.ref (n+3),.ref (n+4)])),(n+6,fu (fD Z (qn name) dv .none .none pm ao (.ref (n+5)) .none 3 0))])
 | .cls X I u2=>[]| .asg X=>[]| .o=>[]
def ax4(n n' t:H)(pm:aA)(Z:eg):PM:=GA n t pm Z id (bX (n+5) n') .none
def K6(Z:eg):H:=match sv Z with| .fn X I u2 sc=>(K5 sc.names).length| .cls X I u2=>0| .asg X=>0| .o=>0
def Q4(Z:eg):ai:=match sv Z with| .fn n X I u2=>n| .cls n X I=>n| .asg X=>bM "" | .o=>bM ""
def K7(P:fG)(qn:ai->ai)(pm:aA)(k:PM->J jN->J aA->H->H->PM):J eg->J H->H->H->PM->J jN->J aA->PM
 |Z::b,f::fs,n,t,o,e,l=>(match f with
  |0=>K7 P qn pm k b fs (n+8) (t+7+K6 Z) (o++(n,tu [.int 0 t,.none])::GA (n+1) (t+1) pm Z qn ak (.ref n)) (e++[en P (Q4 Z) (t+6+K6 Z) (.ref (n+7))]) (l++[.int Z.pos.line 0,.int 4 0,.ref (n+6)])
  |5=>K7 P qn pm k b fs (n+5) (t+6) (o++GA n t pm Z qn ah .none) (e++[en P (Q4 Z) (t+5) (.ref (n+4))]) (l++[.int Z.pos.line 0,.int 4 0,.ref (n+3)])
  |X=>K7 P qn pm k b fs (n+7) (t+6+K6 Z) (o++GA n t pm Z qn ak .none) (e++[en P (Q4 Z) (t+5+K6 Z) (.ref (n+6))]) (l++[.int Z.pos.line 0,.int 4 0,.ref (n+5)]))
 |X,I,n,t,o,e,l=>k o e l n t
def gs(x y z:jZ)(c t:H):fH:=⟨.type "getset_descriptor",ao,.fields #[s x t,r c,.builtin y,bC (z== "") .none (.builtin z)],#[]⟩
def YS(P:fG)(n t:H)(pm:aA)(Z:eg)(fs:J H)(bs ms:J aA)(d:H):PM:=match sv Z with
 | .cls x b ws=>K7 P (λm=>⟨⟨x.cps.toList++46::m.cps.toList⟩⟩) pm (λo e l m u=>
  let f:aD:=bX d 2
  let c:=m+2
  let v:=u+ws.length
  let e0:=en P (bM "__module__") (t+7) pm
  let e1:=en P (bM "__firstlineno__") (t+11) (.int Z.pos.line (t+10))::e++[en P (bM "__static_attributes__") v (r m)]
  let e2:J jN:=match d with
   |0=>[en P (bM "__doc__") (v+1) .none]
   |1=>[en P (bM "__weakref__") (v+2) (r (m+3)),en P (bM "__doc__") (v+3) .none]
   |X=>[en P (bM "__dict__") (v+2) (r (m+3)),en P (bM "__weakref__") (v+4) (r (m+4)),en P (bM "__doc__") (v+5) .none]
  [(n,tu (bC f [] bs)),(n+1,⟨.type "builtin_function_or_method",ao,.fields #[.builtin "type.__prepare__",.type "type"],#[]⟩),(n+2,di (e0::en P (bM "__qualname__") (t+9) (.str x (t+8))::e1) (e.length+4)),(n+3,tu []),(n+4,pl l),
   (n+5,co [.str x (t+2),.str x (t+3),s "/claim/cut.py" (t+4),.int Z.pos.line 0,j 0,j 0,j 0,j 0,r (n+3),.bool ak,j 181,r (n+4),.none,.none,.none,.none,.int (t+5) 0,.int Z.pos.line 0,s "/claim/cut.py" (t+6)]),
   (n+6,⟨.type "frame",ao,.plain,#[N (r (n+5)),N (r 3),N (r (n+2)),ao,N pm,ao,N (r 0)]⟩)]++o++
  [(m,tu (QH u ws)),(m+1,di (e0::e1++e2) (d+2)),(c,⟨.type "type",ao,.cls ⟨x,bs,r c::ms,m+1,x,ah,[],[],ak,ao,ak⟩,#[bC f ao (N (r n)),ao,N (.str x t),N (.str x (t+8)),N (.builtin (bC f "object.__new__" "Exception.__new__")),N (.bool ah)]⟩)]++
  (match d with
   |0=>[]
   |1=>[(m+3,gs "__weakref__" "ExceptionGroup.__weakref__" "" c (v+1))]
   |X=>[(m+3,gs "__dict__" "function.__dict__" "function.__dict__#set" c (v+1)),(m+4,gs "__weakref__" "ExceptionGroup.__weakref__" "" c (v+3))])++
  [(c+d+1,⟨.type "super",ao,.fields #[r c,r c,r c],#[]⟩),(c+d+2,⟨.type "builtin_function_or_method",ao,.fields #[.builtin "object.__init_subclass__",r c],#[]⟩)]) b fs (n+7) (t+12) [] [] []
 | .fn X I u2 u3=>[]| .asg X=>[]| .o=>[]
noncomputable def tv(k n:H):J aA:=Nat.rec (λX=>[]) (λX ih n=>(match bX (n% 131072) 131071 with|true=>.ref (n/131072% 131072)|false=>.int (Int.sub (n% 131072:H) 64) (n/131072% 131072))::ih (n/131072/131072)) k n
def z4:H->J (H×H)->PM
 |X,[]=>[]
 |n,p::l=>(n,tu (tv p.1 p.2))::z4 (n+1) l
noncomputable def fE:J H->J aA->J jN
 |k::t::l,v::vs=>⟨.ofNat k,.int (.ofNat k) t,v⟩::fE l vs
 |X,I=>[]
noncomputable def sE:J H->J jZ->J aA
 |t::l,x::r=>s x t::sE l r
 |X,I=>[]
noncomputable def GB(k n:H):J H:=Nat.rec (λX=>[]) (λX ih n=>n% 131072::ih (n/131072)) k n
noncomputable def rE(k n:H):J aA:=Nat.rec (λX=>[]) (λX ih n=>.ref n::ih (n+1)) k n
def ax5:PM:=z4 304 [(12,0x1228012c0488004a0121801300484004901208012004800047011f80118047c0045011e8011004780043011d8010804740041)]
def ax6:PM:=[(361,di (fE (GB 24 0x18e800d406340034018b800cc062800320188800c4061c00300185800bc0610002e0182800b40604002c017f800a405f80028) (rE 12 362)) 12)]++z4 362 [(3,29633208581582349834765205567),(3,29749265460272109703697924158),(3,29865322634109774563004121151),(3,29981379217651629183864143935),(3,30097436391489294180609687615),(3,30213492975031148801469710399),(3,30329550148868813763855908926),(3,30445606732410668384715931710),(3,30561663906248333381461475390),(3,30677720489790188002321498174),(3,30793777663627853016246911038),(3,30909834247169707637106933822)]
def ax7:PM:=[(374,di (fE (GB 14 0x672003e019b800f4066a003c0199800ec0662003a0197800dc065a0036) (rE 7 375)) 7)]++z4 375 [(2,1832966216657141823),(2,1837469885004382270),(2,1841973364372275263),(2,1846476981179514943),(2,1850980563627409470),(2,1855484180434649150),(2,1859987814421758014)]
def ax8:PM:=z4 382 [(2,1882506482596315242),(2,1887010322742116472),(2,1891514111348310147),(2,1896018295091495067),(2,1900522994230755531),(2,1905026679757734120),(2,1909530622982750446),(2,1915139369235315776)]++[(390,⟨.type "list",ao,.seq #[(r 382),(r 383),(r 384),(r 385),(r 386),(r 387),(r 388),(r 389)] 0,#[]⟩)]
def ax9:PM:=[(391,di (fE (GB 84 0x17b3f04405e8fc1001793f03c05e0fc0e01773f03405d8fc0c01753f02c05d0fc0a01733f02405c8fc0801710034805c000d1016f0034005b80042016d0010405b00040016b000fc05a8002601690009405a0002401670008c05980022016500084059000200163000700588001b01610006805800013015f0004805780011015d000400570000f015b000380568000d0159000300560000b0157000140558000401550000c0550000201530000405480000) (sE (yc 42 0x39f39e39d39c39b39a39939839639439239038e38c38a38838638438238037e37c37a37837637437237036e36c36a36836636436236035e35c35a358356354) ["none","none","block","block","block","none","none","label","label","labels","none","func","indirect","func","indirect","none","none","kinds","local","local","local","global","global","table","table","memory","memory","i32","i64","refkind","none","func","memory_init","data","two_memories","memory","table_init","elem","table_copy","table","table","table"])) 42)]++[(392,di (fE (GB 34 0x5ccfc0901723f02005c400d201700034405bc00d0016e0010805b40041016c0010005ac003f016a0009805a40025016800090059c002301660008805940021016400080058c001c) (sE (yc 17 0x39639439239038e38c38a38838638438238037e37c37a378376) ["kinds","local","local","local","global","global","table","table","memory","memory","i32","i64","refkind","none","func","memory_init","data"])) 17)]++[(393,di (fE (GB 16 0x17b3f04405e8fc1001793f03c05e0fc0e01773f03405d8fc0c01753f02c05d0fc0a) (sE (yc 8 17935161734599855294073377688) ["two_memories","memory","table_init","elem","table_copy","table","table","table"])) 8)]
def ay0:PM:=z4 394 [(1,86245439),(1,86245439),(4,0xc5ffffc0315ffff01d50021407520085),(2,1481685359822897215),(1,86245439),(4,0xc77fffc031bffff01d60023c07560086),(1,86638654),(1,86245439),(4,0xc8ffffc0321ffff01d700240075a0090),(2,1488440742084476990),(1,86245439),(4,0xca7fffc0327ffff01d800268075e0091),(1,86245439),(1,86245439),(4,0xcbffffc032dffff01d9002a4076200a7),(2,1481685359822897215),(1,86245439),(4,0xcd7fffc0333ffff01da002e0076600aa),(1,86638654),(1,86638654),(4,0xceffffc0339ffff01db002ec076a00b9),(2,1488440742084476990),(1,86638654),(4,0xd07fffc033fffff01dc00328076e00bc),(1,86638654),(1,86245439),(4,0xd1ffffc0345ffff01dd0039c077200e7),(1,86245439),(1,86638654),(4,0xd37fffc034bffff01de003b4077600ec),(1,86245439),(1,86245439),(4,0xd4ffffc0351ffff01df00404077a0100),(1,86638654),(1,86638654),(4,0xd67fffc0357ffff01e000410077e0102),(12,0xd6ffffc0355ffff00d3ffffc0349ffff00d0ffffc033dffff00cdffffc0331ffff00caffffc0325ffff00c7ffffc0319ffff)]
def ay1:PM:=z4 954 [(2,1671945023702760520)]
def ay2:PM:=z4 955 [(2,3819053515024367677)]
noncomputable def wQ(k:H):J H:=vh k 7
def vE(P:fG)(i:H)(fs:J H):PM:=YS P (nT.getD i 0) (tT.getD i 0) (vN.getD (vT.getD i 0) .none) (sA i) fs [.type "object"] [.type "object"] 2
def K8(P:fG)(i:H)(fs:J H)(b:aA)(d:H):PM:=YS P (nT.getD i 0) (tT.getD i 0) (vN.getD (vT.getD i 0) .none) (sA i) fs [b] ((match d with|0=>[b]|X=>[])++[.type "Exception",.type "BaseException",.type "object"]) d
def YT(i:H)(t:H)(v:J aA):PM:=(nT.getD i 0,tu v)::GA (nT.getD i 0+1) t (vN.getD (vT.getD i 0) .none) (sA i) id ak (r (nT.getD i 0))
def nwL(P:fG):J (H×PM):=[(2,K8 P 2 [7] (.type "Exception") 1),(3,K8 P 3 [7] (r 38) 0),(4,K8 P 4 [7] (r 38) 0),(5,K8 P 5 [] (r 38) 0),(7,vE P 7 (0::wQ 14)),(8,vE P 8 (wQ 8)),(11,YT 11 550 [.int 0 549]),(15,ax5),(21,vE P 21 (wQ 3)),(73,ax6),(74,ax7),(75,ax8),(76,ax9),(77,ay0),(86,vE P 86 (wQ 2)),(87,vE P 87 (wQ 2)),(88,vE P 88 (wQ 2)),(89,vE P 89 [7,5]),(90,vE P 90 (wQ 2)),(91,vE P 91 (wQ 2)),(92,vE P 92 ([7,7,5]++wQ 9++[5,7,7])),(133,ay1),(134,ay2),(166,vE P 166 (wQ 6)),(167,YT 167 2049 [.int 50000 1707])]
def rJ(P:fG)(i:H):PM:=(nwL P).rec (ax4 (nT.getD i 0) (nT.getD (i+1) 0) (tT.getD i 0) (vN.getD (vT.getD i 0) .none) (sA i)) λp X ih=>match bX p.1 i with|true=>p.2|false=>ih
def sR(w:bU)(os:kH)(i:H):bq (C6×PS×pN×gq):=rH den pw w 11 (N (.ref 6)) os 1 900 ⟨j7 w.params i,nT.getD i 0,tT.getD i 0⟩ (pieceOf (sA i) K4 pR (QG i) [C8 ⟨0,0,0,0⟩])
def sU(w:bU)(i:H):bq (C6×PS×pN×gq):=N (.next,⟨Q3 w.params (i+1)++rJ w.params i,nT.getD (i+1) 0,tT.getD (i+1) 0⟩,pR,QG (i+1))
def PC(w:bU)(i:H):Prop:=∀os:kH,sR w os i=sU w i
def DL(P:fG):PM:=[(0,ai6 P),(1,boot_o_1 P),(2,ai7 P),(3,boot_o_3 P),(4,F1 P),(5,boot_o_5 P),(6,boot_o_6 P),(7,boot_o_7 P),(8,boot_o_8 P),(9,boot_o_9 P),(10,boot_o_10 P)]
noncomputable def YU:fH:=⟨.type "frame",ao,.plain,#[N (r 13),N (r 3),N (r 3),ao,N (s "__main__" 164),ao,N (r 0)]⟩
theorem ay3(w:bU)(os:kH):K1 den pw w 11 (N (.ref 6)) os 12 ⟨DL w.params,11,181⟩ (PB pw)=
  N (⟨DL w.params++[(11,tu []),(12,pl []),(13,Q2),(14,YU)],15,187⟩,⟨den pR,pR,⟨0,0,0,0⟩,[C8 ⟨0,0,0,0⟩]⟩):=by kernel_rfl
theorem ay4(w:bU)(os:kH):rH den pw w 11 (N (.ref 6)) os 1 3 ⟨[],15,187⟩ (blockOf (Dc pw) K4 pR ⟨0,0,0,0⟩ [C8 ⟨0,0,0,0⟩])=
  N (.next,⟨[],15,187⟩,pR,⟨0,0,0,0⟩):=by kernel_rfl
theorem ay5(P:fG):sel [13,12,3,4,0,2] (DL P++[(11,tu []),(12,pl []),(13,Q2),(14,YU)])=j7 P 0:=by kernel_rfl
theorem YV(P:fG):(qv P).objs=((DL P).map (·.2)).toArray:=by kernel_rfl
noncomputable def YW(i:H):J H:=if nJ 3 i then[13,12,3,4,0,2,38,37]else[13,12,3,4,0,2]
def YX(P:fG)(i:H):PM×PM×aD×aD×J eg:=(sel (YW i) (j7 P i),sel (YW (i+1)) (Q3 P (i+1)++rJ P i++j7 P i),DK (Q3 P (i+1)),vA (nT.getD i 0) (rJ P i),(Dc pw).drop i)
def YY(P:fG)(i:H):PM×PM×aD×aD×J eg:=(j7 P i,j7 P (i+1),ah,ah,sA i::(Dc pw).drop (i+1))
def SC(P:fG)(i:H):Prop:=YX P i=YY P i
def DM(P:fG):H->PM
 |0=>[]
 |i+1=>vD (rJ P i)++DM P i
theorem ay6:∀{k i:H},y∈vD (rJ P i)->i<k->y∈DM P k:=@λi_=>by
 induction i_ with
 |zero=>exact@λX I h=>absurd h (xV _)
 |succ k ih=>
  intro i m h;rcases cn8.mp h with h|rfl
  ·exact kj _ (ih m h)
  ·exact iN _ m
theorem aq9{w:bU}{os:kH}{lf:Life}{Q:aE->Prop}(Q5:∀i,i<209->PC w i)(Q6:∀i,i<209->SC w.params i)(ay7:(Dc pw).drop 209=[])
  (ay8:den=pO W5)(hq:∀s,wM os lf (j7 w.params 209) (DM w.params 209) (nT.getD 209 0) (tT.getD 209 0) s->Q s):
  ∀k i,i+k=209->∀s,wM os lf (j7 w.params i) (DM w.params i) (nT.getD i 0) (tT.getD i 0) s->
   zX W5 pw w 11 (N (.ref 6)) Q s (W3 ((Dc pw).drop i) K4 pR (QG i) [C8 ⟨0,0,0,0⟩]):=λi_=>by
 induction i_ with
 |zero=>intro i h s a;obtain rfl:i=209:=h;rw[ay7];exact .fin s (hq s a)
 |succ k ih=>
  intro i h s a;have lt:i<209:=h▸xW (jd k);have x:=Q6 i lt;have y:rH den pw w 11 (N (.ref 6)) os 1 900 _ _=_:=Q5 i lt os;rw[ay8]at y
  exact zX.Z (bR (·.2.2.2.2) x) y (bR (·.1) x) (bR (·.2.1) x) (bR (·.2.2.1) x) (bR (·.2.2.2.1) x) (λs a=>ih (i+1) ((xX i 1 k).trans h) s a) s a
def KO(Q:H->Prop):H->Prop
 |0=>oV
 |n+1=>KO Q n/\Q n
theorem KO.at:∀{n i:H},KO Q n->i<n->Q i
 |0,X,I,h=>absurd h (xV _)
 |n+1,i,⟨a,b⟩,h=>by
  rcases cn8.mp h with h|rfl
  ·exact a.at h
  ·exact b
theorem Q7:den=pO W5:=by unfold den;rw[<-cE6,<-cE7]
theorem ay9{m:PM}:∀{k:H},vA k m=ah->m.map (·.2)=l->∀a o,look a m=N o->l[a -k]?=N o/\k<=a:=by
 intro k h e a o ho;induction m generalizing k l with
 |nil=>rw[YI]at ho;cases ho
 |cons p r ih=>
  obtain⟨b,y⟩:=p;obtain⟨rfl,h⟩:=Q0 h;rw[sQ]at ho
  subst e;by_cases q:a=b
  ·rw[dM q]at ho;cases ho;subst q;simp
  ·rw[cF q]at ho
   obtain⟨h1,h2⟩:=ih h rfl ho;have h3:b<=a:=W2 h2;refine⟨?_,h3⟩;have:a -b=(a -(b+1))+1:=by have:b+1<=a:=h2;exact(Nat.succ_pred_eq_of_pos (Nat.sub_pos_of_lt this)).symm
   rw[ai8,this,List.getElem?_cons_succ];exact h1
theorem az0(w:bU)(os:kH)(Q5:∀i,i<209->PC w i)(Q6:∀i,i<209->SC w.params i):
  zX W5 pw w 11 (N (.ref 6)) (wM os (qv w.params).life (j7 w.params 209) (DM w.params 209) (nT.getD 209 0) (tT.getD 209 0)) ⟨qv w.params,Array.mk [],W6,W7,os⟩ (PB pw):=by
 have eo:=YV w.params;have r0:m9 os (qv w.params) ⟨DL w.params,11,181⟩ ⟨qv w.params,Array.mk [],W6,W7,os⟩:=by
  refine⟨by show(qv w.params).objs.size=11;rw[eo];rfl,rfl,rfl,rfl,rfl,rfl,λa o h=>?_,λX I=>rfl,by show(qv w.params).objs.size<=11;rw[eo];exact jO _⟩
  show(qv w.params).objs[a]?=N o
  rw[eo,List.getElem?_toArray];have:=(ay9 (k:=0) (m:=DL w.params) rfl rfl a o h).1;simpa using this
 have g:=ay3 w os;rw[Q7]at g
 refine b_ (ax0 12 g r0) λaF hx=>?_;have h1:=hx.1;have r1:=hx.2;have b:=ay4 w os;rw[Q7]at b
 refine b_ (YL (h:=aF.heap) 3 b ⟨r1.size,r1.toks,r1.gens,r1.drawn,r1.os,rfl,λX I h=>(by rw[YI]at h;cases h),λX I=>rfl,iW r1.size⟩) λcj hx=>?_
 have h2:=hx.1;have r2:=hx.2
 have a0:wM os (qv w.params).life (j7 w.params 0) [] 15 187 cj:=
  ⟨r2.size,r2.toks,r2.gens,r2.drawn,r2.os,r2.life.trans r1.life,λa o h=>(r2.rest a rfl).trans (r1.at_ a o (QZ (as:=[13,12,3,4,0,2]) (by rw[ay5];exact h))),λX h=>nomatch h⟩
 refine b_ (aq9 (os:=os) (lf:=(qv w.params).life) Q5 Q6 (by kernel_rfl) Q7 (λs h=>h) 209 0 rfl cj a0) λcC hx=>?_
 refine b_ hx λz hx=>?_;have hN:=hx.1;have hz:=hx.2;exact⟨12+(3+cC),z,go_top h1 (piece_block h2 hN),hz⟩
noncomputable def qE{β:Type}(f:H->β)(k:H):H->J β:=Nat.rec (λX=>[]) (λX ih i=>f i::ih (i+1)) k
def rK{β:Type}(f:H->β)(k:H)(i:H):J β:=qE f k i
theorem YZ{β:Type}{f g:H->β}{j:H}(k:H):∀i,qE f k i=rK g k i->i<=j->j<i+k->f j=g j:=by
 induction k with
 |zero=>exact λi X h l=>absurd l (vj.mpr h)
 |succ k ih=>exact λi e h l=>(Nat.eq_or_lt_of_le h).elim (λq=>q▸(PD e).1) λq=>ih (i+1) (PD e).2 q (xY i k▸l)
abbrev PQ(w:bU)(os:kH)(c:H):Prop:=qE (sR w os) 19 (19*c)=rK (sU w) 19 (19*c)
theorem pc0(w:bU)(os:kH):qE (sR w os) 19 (19*0)=rK (sU w) 19 (19*0):=by kernel_rfl
theorem pc1(w:bU)(os:kH):qE (sR w os) 19 (19*1)=rK (sU w) 19 (19*1):=by kernel_rfl
theorem pc2(w:bU)(os:kH):qE (sR w os) 19 (19*2)=rK (sU w) 19 (19*2):=by kernel_rfl
theorem pc3(w:bU):∀os,PQ w os 3:=byRow2 "special-get-raises" (P:=λw=>∀os,qE (sR w os) 19 (19*3)=rK (sU w) 19 (19*3)) (λw os=>by kernel_rfl) (λw os=>by kernel_rfl) w
theorem pc4(w:bU):∀os,PQ w os 4:=byRow2 "special-get-raises" (P:=λw=>∀os,qE (sR w os) 19 (19*4)=rK (sU w) 19 (19*4)) (λw os=>by kernel_rfl) (λw os=>by kernel_rfl) w
theorem pc5(w:bU)(os:kH):qE (sR w os) 19 (19*5)=rK (sU w) 19 (19*5):=by kernel_rfl
theorem pc6(w:bU)(os:kH):qE (sR w os) 19 (19*6)=rK (sU w) 19 (19*6):=by kernel_rfl
theorem pc7(w:bU)(os:kH):qE (sR w os) 19 (19*7)=rK (sU w) 19 (19*7):=by kernel_rfl
theorem pc8(w:bU)(os:kH):qE (sR w os) 19 (19*8)=rK (sU w) 19 (19*8):=by kernel_rfl
theorem pc9(w:bU)(os:kH):qE (sR w os) 19 (19*9)=rK (sU w) 19 (19*9):=by kernel_rfl
theorem az1(w:bU)(os:kH):qE (sR w os) 19 (19*10)=rK (sU w) 19 (19*10):=by kernel_rfl
theorem scs(P:fG):qE (YX P) 209 0=rK (YY P) 209 0:=by kernel_rfl
theorem az2(w:bU)(i:H)(h:i<209):PC w i:=λos=>YZ 19 (19*(i/19)) (KO.at (Q:=PQ w os) (n:=11) ⟨⟨⟨⟨⟨⟨⟨⟨⟨⟨⟨cH2,pc0 w os⟩,pc1 w os⟩,pc2 w os⟩,pc3 w os⟩,pc4 w os⟩,pc5 w os⟩,pc6 w os⟩,pc7 w os⟩,pc8 w os⟩,pc9 w os⟩,az1 w os⟩ (ai9 h)) (Nat.mul_div_le i 19) (Nat.lt_mul_div_succ i (by decide))
theorem az3(P:fG)(i:H)(h:i<209):SC P i:=YZ 209 0 (scs P) (qw i) ((mW 209).symm▸h)
theorem az4:opening pw=plainProg pw.main.scope.names:=by kernel_rfl
theorem Q8:W8 pw.main.body=[]:=by kernel_rfl
theorem az5:pw.main.body.any namesNumpy=ak:=by kernel_rfl
theorem az6(s:aE):aj0 pw s=N s:=by unfold aj0;rw[Q8,az5];rfl
structure cu(w:bU)(bJ s:aE):Prop where
 Z:bJ=⟨qv w.params,Array.mk [],W6,W7,bJ.os⟩
 at_:wM bJ.os (qv w.params).life (j7 w.params 209) (DM w.params 209) (nT.getD 209 0) (tT.getD 209 0) s
 old:∀b o,b<11->b≠PA->b≠J3->b≠6->bJ.heap.get? b=N o->s.heap.get? b=N o
theorem Y0(w:bU):(∃s,AfterRun (opening pw) w s)/\∀s,AfterRun (opening pw) w s->∃bJ,aj0 pw s=N bJ/\bJ.asleep/\∃aF,cu w bJ aF/\aF.asleep/\
  (∃m b8,schedN (pO nK) pw w m (.single bJ (PB pw))=.running (.single aF b8)/\W4 b8=ah)/\aF.heap.life=bJ.heap.life/\aF.os=bJ.os:=by
 have h:=boot_open (p:=pw) (N:=600) az4 rfl az6 w;unfold fencedOpening at h
 obtain⟨bJ,h2,h3⟩:=wm.mp h;obtain⟨s,h4,h5⟩:=aj1.mp h2;have Y4:=h4;rw[<-cn9]at h4
 have A:=cE8 h4;refine⟨⟨s,A⟩,λs' pS=>?_⟩;obtain rfl:s'=s:=cE9 pS A;have z:bJ.asleep:=aj2 (fence_lifeW h5) A.life;have e0:bJ=⟨qv w.params,Array.mk [],W6,W7,bJ.os⟩:=by
  obtain⟨hp,g,d,t,os⟩:=bJ;have a:=bR co0 h3;have b:=bR (λx=>x.2.1) h3;have c:=bR (λx=>x.2.2.1) h3;have d:=bR (λx=>x.2.2.2) h3;dsimp only at a b c d
  subst a b c d;rfl
 obtain⟨cC,aF,hr,hq⟩:=az0 w bJ.os (az2 w) (az3 w.params);rw[<-e0,<-cn9]at hr
 obtain⟨a,l,os,fr⟩:=topRun_spec cC bJ (PB pw) aF z hr;exact⟨bJ,h5,z,aF,⟨e0,hq,λb o h1 h2 h3 h4=>fr b o h1 h2 h3 (λe=>h4 (by cases e;rfl))⟩,aj2 l z,a,l,os⟩
section
theorem z5{h h':dH}(e:h.get? a=h'.get? a):h.isNs a=h'.isNs a:=by unfold Heap.isNs;rw[e]
theorem Q9{h h':dH}(e:h.get? a=h'.get? a):h.nsKeys a=h'.nsKeys a:=by unfold Heap.nsKeys;rw[e]
theorem z6{h h':dH}(e:h.get? a=h'.get? a):h.nsMap a=h'.nsMap a:=by funext x;unfold Heap.nsMap;rw[e]
theorem az7{h h':dH}(e:h.get? a=h'.get? a):h.nsPairs a=h'.nsPairs a:=by unfold Heap.nsPairs;rw[e]
def hF(P:fG):dH:={qv P with objs:=#[ai6 P,boot_o_1 P,K3 P,K2 P (kT.getD 209 0) (vN.getD (vT.getD 209 0) .none),F1 P]}
variable{w:bU}{bJ s:aE}
theorem cu.Y5(x:cu w bJ s){o:fH}(h:look a (j7 w.params 209)=N o)(h2:o.alive=ah):s.heap.get? a=N o:=(aj3 _ _ _).2 ⟨x.at_.j7 a o h,h2⟩
theorem cu.K9(x:cu w bJ s)(h:look a (j7 w.params 209)=(hF w.params).get? a)(h2:((hF w.params).get? a).isSome=ah):s.heap.get? a=(hF w.params).get? a:=
 (co1.mp h2).elim λo e=>(x.Y5 (h.trans e) ((aj3 _ _ _).1 e).2).trans e.symm
theorem cu.g0(x:cu w bJ s):s.heap.get? wo=(hF w.params).get? wo:=x.K9 (by kernel_rfl) (by kernel_rfl)
theorem cu.g2(x:cu w bJ s):s.heap.get? J3=(hF w.params).get? J3:=x.K9 (by kernel_rfl) (by kernel_rfl)
theorem cu.g3(x:cu w bJ s):s.heap.get? qx=(hF w.params).get? qx:=x.K9 (by kernel_rfl) (by kernel_rfl)
theorem cu.g4(x:cu w bJ s):s.heap.get? 4=(hF w.params).get? 4:=x.K9 (by kernel_rfl) (by kernel_rfl)
theorem az8(P:fG):(hF P).isNs qx=ah:=by kernel_rfl
theorem Y6(P:fG):(hF P).isNs J3=ah:=by kernel_rfl
theorem Y7(P:fG):(hF P).isNs wo=ah:=by kernel_rfl
theorem az9(P:fG):staticsOk [] (qv P) (hF P)=ah:=by kernel_rfl
theorem aA0(P:fG):(hF P).accountedOkI []=ah:=by kernel_rfl
theorem aA1(P:fG):(hF P).bltView=co2:=by kernel_rfl
theorem aA2(P:fG):(hF P).nsKeys qx=startupNames++pw.boundNames.eraseIdx 1:=by kernel_rfl
theorem aA3(P:fG):laidKept (qv P) (hF P)=ah:=by kernel_rfl
theorem aA4(P:fG):(hF P).nsMap qx "__builtins__"=N (.ref 4):=by kernel_rfl
theorem aA5(P:fG):(hF P).get? 4=N (F1 P):=by kernel_rfl
theorem aA6(P:fG):(F1 P).cls=.type "module" /\(F1 P).dict=N wo:=⟨by kernel_rfl,by kernel_rfl⟩
end
section
variable{w:bU}{bJ s:aE}
theorem aA7:look a m=N o->(a,o)∈m:=by
 induction m with
 |nil=>exact λh=>by cases h
 |cons p r ih=>exact Gw (P:=λz=>z=N o->(a,o)∈p::r) (λq h=>by cases h;subst q;exact .head _) λX h=>.tail _ (ih h)
theorem aA8(h:qI a=ak):(a,o)∈m->(a,o)∈vD m:=by
 induction m with
 |nil=>exact λh=>h
 |cons p r ih=>
  intro hm;unfold vD;refine(iV.mp hm).elim (λe=>?_) λhm=>?_
  ·cases e;rw[h];exact .head _
  ·cases qI p.1
   ·exact .tail _ (ih hm)
   ·exact ih hm
theorem cu.Q_(x:cu w bJ s)(i:H){o:fH}(hi:i<209)(h:look a (rJ w.params i)=N o)(hh:qI a=ak)(h2:o.alive=ah):s.heap.get? a=N o:=
 (aj3 _ _ _).2 ⟨(x.at_.wO (a,o) (ay6 (aA8 hh (aA7 h)) hi)).1,h2⟩
noncomputable def Bw:Arguments×J eg×ly:=(pw.theDef "law").getD default
def GC(P:fG):fH:=(look 1456 (rJ P 208)).getD default
theorem Y8(P:fG):look 1456 (rJ P 208)=N (GC P):=by kernel_rfl
theorem Y9(P:fG):(GC P).alive=ah:=by kernel_rfl
def uo(P:fG):C9:=match(GC P).data with| .func f=>f|X=>default
theorem aA9(P:fG):(GC P).data=.func (uo P):=by kernel_rfl
theorem aB0:pw.theDef "law"=N Bw:=by kernel_rfl
theorem Y_(P:fG):(hF P).nsMap qx "law"=N (.ref 1456):=by kernel_rfl
theorem aB1(P:fG):(uo P).name= "law" /\(uo P).qualname= "law" /\(uo P).params=Bw.1/\(uo P).body=.stmts (Bw.2.1)/\(uo P).scope=Bw.2.2/\
  (uo P).globals=PA/\(uo P).closure=[]/\(uo P).builtins=wo/\(Bw.1).defaults=[]/\(uo P).defaults=.none/\kwWritten? (Bw.1).kwonlyargs (Bw.1).kw_defaults=N []/\(uo P).kwdefaults=.none:=
 ⟨by kernel_rfl,by kernel_rfl,by kernel_rfl,by kernel_rfl,by kernel_rfl,by kernel_rfl,by kernel_rfl,by kernel_rfl,by kernel_rfl,by kernel_rfl,by kernel_rfl,by kernel_rfl⟩
theorem cu.wV(x:cu w bJ s):s.heap.isNs qx=ah:=(z5 x.g3).trans (az8 _)
theorem cu.aB2(x:cu w bJ s):isTheDefsW pw s.heap "law":=by
 obtain⟨a1,a2,a3,a4,a5,a6,a7,a8,a9,a10,a11,a12⟩:=aB1 w.params;exact⟨1456,GC w.params,uo w.params,_,_,_,(aj4 x.wV _).trans ((W9 (z6 x.g3) _).trans (Y_ _)),x.Q_ 208 (by decide) (Y8 _) rfl (Y9 _),aA9 _,aB0,
  a1,a2,a3,a4,a5,a6,a7,a8,.inl ⟨a9,a10⟩,[],a11,.inl ⟨rfl,a12⟩⟩
theorem cu.aB3(x:cu w bJ s)(h1:∃m b8,schedN (pO nK) pw w m (.single bJ (PB pw))=.running (.single s b8)/\W4 b8=ah)(h2:s.heap.life=bJ.heap.life)(h3:s.os=bJ.os):TopRan pw w bJ s:=by
 have e2:s.heap.isNs J3=ah:=(z5 x.g2).trans (Y6 _);have hb:s.heap.isNs wo=ah:=(z5 x.g0).trans (Y7 _);have s0:bJ.heap=qv w.params:=bR Shared.heap x.Z;refine⟨h1,h2,co3 h3,λb o hb hn=>?_,?_,?_,Pin.keysAreStrs_of x.wV,λn hn=>?_,⟨4,F1 w.params,?_,x.g4.trans (aA5 _),aA6 _⟩,?_,λn v hv=>?_,λn hn=>?_⟩
 ·refine x.old b o ?_ (λq=>hn (.inl q)) (λq=>hn (.inr (.inl q))) (λq=>hn (.inr (.inr ?_))) hb
  ·have:=kI hb;rw[s0,YV]at this
   exact this
  ·subst q;rw[s0];kernel_rfl
 ·rw[Q8];refine Heap.accountedI_of_ok ?_;have:=aA0 w.params;unfold Heap.accountedOkI at this|-
  rw[z5 x.g2,Q9 x.g2,z6 x.g2];exact this
 ·rw[Q8];refine statics_of_ok ?_;have:=az9 w.params;unfold staticsOk at this|-
  rw[z5 x.g2,Q9 x.g2,z6 x.g2,s0];exact this
 ·have e:s.heap.bltView=co2:=by
   rw[<-aA1 w.params];unfold Heap.bltView;rw[az7 x.g0]
  exact(Pin.builtinOf_eq hb n).trans (Heap.of_bltView hb e n hn)
 ·exact(aj4 x.wV _).trans ((W9 (z6 x.g3) _).trans (aA4 _))
 ·rw[x.at_.gens];intro g hg;simp at hg
 ·rw[aj4 x.wV]at hv
  by_cases S:n∈s.heap.nsKeys qx
  ·rw[Q9 x.g3,aA2]at S
   rcases gK.mp S with S|S
   ·exact .inl S
   ·exact .inr (List.mem_of_mem_eraseIdx S)
  ·rw[Heap.nsMap_none S]at hv;cases hv
 ·refine laid_of_kept (h₀:=bJ.heap) (h₁:=s.heap) ?_ n hn;have:=aA3 w.params;unfold laidKept at this|-
  rw[z5 x.g3,z6 x.g3,s0];exact this
end
noncomputable abbrev K_:ClaimW:=zH.row.toRowW.claim
theorem Za:zH.row.toRowW.promised:=⟨[.list []],by kernel_rfl,by kernel_rfl⟩
theorem aB4(a:ReadsW R cl h v d as):PG R d .int=ah->∃i t,v=.int i t:=by
 induction a using co4 with
 |int=>exact λX=>⟨_,_,rfl⟩
 |_=>exact λh=>absurd h rq
theorem aB5{h:dH}(a:ReadsW R cl h v d as):∀ds,d=.list ds->∃b vs n bs,v=.ref b/\as=b::bs/\(∃o,h.get? b=N o/\o.data=.seq vs n)/\aj5 R cl h vs.toList ds bs:=by
 induction a using co4 with
 |list g1 g2 g3 g4=>exact λds e=>⟨_,_,_,_,rfl,rfl,⟨_,g1,g3⟩,cF0 e▸g4⟩
 |_=>exact λds e=>nomatch e
theorem ints_of:∀{ds:J WData}{as:J aR},aj5 R cl h vs ds as->(ds.all λd=>PG R d .int)=ah->∃xs:J (aa×H),vs=xs.map (λx=>.int x.1 x.2)/\xs.length=ds.length:=by
 induction vs with
 |nil=>exact λq X=>by cases q;exact⟨[],rfl,rfl⟩
 |cons v vs ih=>
  intro ds as q h;cases q with|cons a b=>
  have h:=PI.mp h;exact(ih b h.2).elim λxs e=>(aB4 a h.1).elim λi f=>f.elim λt f=>⟨(i,t)::xs,congr (bR co5 f) e.1,bR (·+1) e.2⟩
theorem aB6:opensWell pw=ah:=by kernel_rfl
theorem aB7:pw.bare:=by refine⟨?_,?_,?_,?_,?_,?_⟩<;>kernel_rfl
theorem aB8(h:K_.pre args=ah):∃ds,args=[.list ds]/\(ds.all λd=>PG [] d .int)=ah/\ds.length<=63:=by
 obtain⟨h1,h2⟩:=pre_splitW (r:=zH.row.toRowW) h;obtain⟨d,r,rfl,h3,h4⟩:=hasAllW_cons (e:=.list .int) (es:=[]) h1;obtain rfl:=hasAllW_nil h4;have h3:PG [] d (.list .int)=ah:=h3;induction d using cF1 with
 |list ds=>
  have h3:(WShape.hasItems [] ds .int||ak)=ah:=h3;rw[aj6,hasItems_all]at h3
  refine⟨ds,rfl,h3,?_⟩;have h2:(WTm.and (.not (.lt (.lit (.int 63)) (.len (.arg 0)))) (.lit (.bool ah))).holds [] {args:=[.list ds]}=ah:=h2;by_cases q:ds.length<=63
  ·exact q
  ·have e:Num.less? (.int 63) (.int ds.length)=N ah:=by
    show N (decide ((63:aa)<ds.length))=N ah
    exact bR N (nL (dF.mpr (W_ q)))
   simp[WTm.holds,WTm.value,less?,e]at h2
 |none|bool|int|str|tuple|dict|float|bytes|bytearray|set|frozenset|obj=>exact absurd h3 rq
end Wh
section
namespace Wm
theorem kK{P:Prop}(h:∀b4:Prop,(P->b4)->b4):P:=h P id
set_option genCtorIdx true
inductive Bi where
 |len|tuple|list|bytes|min|any|sorted|ord|chr|bytearray
set_option genCtorIdx false
inductive D where
 |none
 |bool (b:aD)
 |int (i:aa)
 |str (x:ai)
 |bytes (l:J H)
 |tup (vs:J D)
 |list (vs:J D)
 |obj (c:aR) (fs:J (ai×D))
 |glob (a:aR)
noncomputable def D.ctorIdx(x:D):H:=D.casesOn x 0 (λX=>1) (λX=>2) (λX=>3) (λX=>4) (λX=>5) (λX=>6) (λX I=>7) (λX=>8)
inductive V where
 |d (x:D)
 |ref (h:H)
 |pr (x:D) (h:H)
 |nO (es:J (aa×D))
 |uq (es:J (ai×D))
noncomputable def V.ctorIdx(x:V):H:=V.casesOn x (λX=>0) (λX=>1) (λX I=>2) (λX=>3) (λX=>4)
inductive jA where
 |L (ov:bq V)
 |C (h:H)
noncomputable def jA.ctorIdx(x:jA):H:=jA.casesOn x (λX=>0) (λX=>1)
abbrev Fm:=J (ai×jA)
inductive Tk where
 |b (x:H)
 |u (n k:H)
 |s (i:aa) (k:H)
 |raw (l:J H)
 |Zb (ts:J Tk)
noncomputable def Tk.ctorIdx(x:Tk):H:=Tk.casesOn x (λX=>0) (λX I=>1) (λX I=>2) (λX=>3) (λX=>4)
inductive O where
 |dl (ds:J D)
 |vl (vs:J V)
 |ba (l:J H)
 |inst (c:aR) (fs:J (ai×V))
 |cur (ts:J Tk)
 |gone
 |cell (ov:bq V)
 |frame (cs:J (ai×aR)) (m:Fm)
noncomputable def O.ctorIdx(x:O):H:=O.casesOn x (λX=>0) (λX=>1) (λX=>2) (λX I=>3) (λX=>4) 5 (λX=>6) (λX I=>7)
structure St where
 m:Fm
 o:J O
inductive dZ where
 |next|brk|cont|ret (v:V)
noncomputable def dZ.ctorIdx(x:dZ):H:=dZ.casesOn x 0 1 2 (λX=>3)
noncomputable def az(l:J H):ai:=⟨⟨l⟩⟩
noncomputable def DN:J H->J H->aD
 |[],[]=>ah
 |a::r,b::t=>match bX a b with|true=>DN r t|false=>ak
 |X,I=>ak
def je(x y:ai):aD:=DN x.cps.toList y.cps.toList
def cG{α:Type}(x:ai):J (ai×α)->bq α
 |[]=>ao
 |(y,a)::r=>match je x y with|true=>N a|false=>cG x r
def pU{α:Type}(x:ai)(v:α):J (ai×α)->J (ai×α)
 |[]=>[(x,v)]
 |(y,a)::r=>match je x y with|true=>(y,v)::r|false=>(y,a)::pU x v r
set_option genCtorIdx false
set_option genCtorIdx false
inductive PE where
 |cI (i:aa)|cS (x:ai)|cN|cB (b:aD)
 |Y (x:ai)
 |gl (i:H)
 |bin (op:Xa) (a b:PE)
 |neg (a:PE)
 |not (a:PE)
 |gP (op:Xb) (l:J PE)
 |ite (t a b:PE)
 |cmp (op:CmpOp) (a b:PE)
 |o6 (op:CmpOp) (a b c:PE)
 |tup (l:J PE)
 |lst (lv:aD) (l:J PE)
 |z7 (l:J (PE×PE))
 |sub (a i:PE)
 |jB (a i:PE)
 |ur (a:PE) (lo hi:bq PE)
 |aG (a:PE) (x:ai)
 |call (f:PE) (l:J PE)
 |bi (b:Bi) (lv:aD) (l:J PE)
 |aV (a:PE) (x:ai) (l:J PE)
 |comp (lv:aD) (jC:J ai) (ts:J ai) (one:aD) (dI:PE) (bZ:J PE) (aY:PE)
 |qJ (lv:aD) (jC:J ai) (x1:ai) (uw:PE) (x2:ai) (pV:PE) (bZ:J PE) (aY:PE)
 |GD (lv:aD) (jC:J ai) (x:ai) (dI:PE) (aY:PE)
 |iA (a:PE)
 |fz (e:PE)
 |sV (e:PE) (x:ai)
inductive PS where
 |ret (e:PE)
 |ex (e:PE)
 |asg (x:ai) (e:PE)
 |pW (xs:J ai) (e:PE)
 |vF (xs:J ai) (es:J PE)
 |dm (a:PE) (x:ai) (e:PE)
 |ye (a i e:PE)
 |aug (x:ai) (e:PE)
 |ite (t:PE) (a b:J PS)
 |for (fg:J ai) (ts:J ai) (one:aD) (dI:PE) (body:J PS)
 |DO (fg:J ai) (x y:ai) (a b:PE) (body:J PS)
 |sW (fg:J ai) (t:PE) (body:J PS)
 |raise
end Wm
end
namespace Wm
noncomputable def vG:ai:=az [95,95,105,110,105,116,95,95]
noncomputable def i7:ai:=az [97,98,111,117,116]
noncomputable def Lc:ai:=az [97,108,105,103,110]
noncomputable def gp:ai:=az [97,112,112,101,110,100]
def z8:ai:=az [97,114,111,117,110,100]
def cD:ai:=az [97,116]
noncomputable def GF:ai:=az [98,97,99,107]
def sX:ai:=az [98,101,103,105,110]
def rL:ai:=az [98,101,104,105,110,100]
noncomputable def qK:ai:=az [98,105,116,115]
def Zc:ai:=az [98,111,100,105,101,115]
noncomputable def dK:ai:=az [98,111,100,121]
def uy:ai:=az [98,121,95,98,111,100,105,101,115]
noncomputable def d8:ai:=az [99,111,100,101]
def uA:ai:=az [99,111,110,116,101,110,116]
noncomputable def bx:ai:=az [99,117,114,115,111,114]
noncomputable def jS:ai:=az [99,117,115,116,111,109]
def GG:ai:=az [99,117,115,116,111,109,95,112,108,97,99,101,115]
def qL:ai:=az [99,117,115,116,111,109,115]
noncomputable def vH:ai:=az [100,97,116,97]
def Bx:ai:=az [100,97,116,97,95,99,111,117,110,116]
def nP:ai:=az [100,97,116,97,115]
def fY:ai:=az [100,105,103,105,116,115]
def oj:ai:=az [101,108,101,109]
def pX:ai:=az [101,108,101,109,115]
def sY:ai:=az [101,110,100]
def pY:ai:=az [101,120,112,111,114,116,115]
def om:ai:=az [101,120,116,101,110,100]
def GH:ai:=az [102,105,101,108,100,115]
noncomputable def Zd:ai:=az [102,105,110,105,115,104]
def sZ:ai:=az [102,105,114,115,116]
noncomputable def Ld:ai:=az [102,108,97,103]
noncomputable def By:ai:=az [102,111,108,108,111,119]
def gz:ai:=az [102,111,114,109]
def dQ:ai:=az [102,111,117,110,100]
noncomputable def wW:ai:=az [102,117,108,108]
noncomputable def lR:ai:=az [102,117,110,99]
def mF:ai:=az [102,117,110,99,115]
def pZ:ai:=az [103,108,111,98,97,108,115]
def GI:ai:=az [104,97,115,95,99,111,100,101]
def Le:ai:=az [104,97,115,95,99,111,117,110,116]
def z9:ai:=az [104,101,97,100,115]
def p_:ai:=az [105,109,112,111,114,116,115]
noncomputable def lF:ai:=az [105,110,100,101,120]
def DP:ai:=az [105,110,100,105,99,101,115]
def lG:ai:=az [105,110,105,116]
def kr:ai:=az [105,110,105,116,115]
def kU:ai:=az [105,110,110,101,114]
def lT:ai:=az [105,110,115,116,114,117,99,116,105,111,110]
def GJ:ai:=az [105,115,95,100,111,110,101]
def Lf:ai:=az [105,115,95,105,110,100,105,99,101,115]
def GK:ai:=az [105,115,95,112,108,97,105,110]
def BA:ai:=az [105,115,95,115,104,111,114,116]
def d9:ai:=az [107]
def bW:ai:=az [107,105,110,100]
def fy:ai:=az [107,105,110,100,115]
def uB:ai:=az [108,97,98,101,108]
def Lg:ai:=az [108,97,98,101,108,115]
def fQ:ai:=az [108,101,97,115,116]
def nQ:ai:=az [108,101,102,116]
def i8:ai:=az [108,101,116,116,101,114]
def vI:ai:=az [108,101,116,116,101,114,115]
def Ra:ai:=az [108,105,109,105,116,115]
def z_:ai:=az [108,111,99,97,108,115]
def DQ:ai:=az [108,111,99,97,108,115,95,110,111,119]
def d7:ai:=az [109,97,110,121]
def qc:ai:=az [109,101,109,111,114,105,101,115]
def nh:ai:=az [109,101,109,111,114,121]
def fZ:ai:=az [109,111,100,101]
def bI:ai:=az [109,111,100,117,108,101]
def f7:ai:=az [109,111,115,116]
def uC:ai:=az [109,111,115,116,95,108,111,99,97,108,115]
def jT:ai:=az [109,117,116,97,98,108,101]
def dX:ai:=az [110,97,109,101]
def bw:ai:=az [110,117,109,98,101,114]
def uD:ai:=az [110,117,109,98,101,114,115]
def eB:ai:=az [111,99,116,101,116]
def bH:ai:=az [111,99,116,101,116,115]
def iB:ai:=az [111,102,102,115,101,116]
def aM:ai:=az [111,110,101]
def GL:ai:=az [111,110,101,115]
def yf:ai:=az [111,112,101,110,101,100]
def GN:ai:=az [111,119,110]
def cy:ai:=az [112,97,100]
def kW:ai:=az [112,97,114,97,109,115]
def fK:ai:=az [112,97,114,116]
def lH:ai:=az [112,97,114,116,115]
def Lh:ai:=az [112,101,101,107]
def dO:ai:=az [112,108,97,99,101]
def yg:ai:=az [112,108,97,99,101,115]
def qM:ai:=az [112,108,97,105,110]
def j8:ai:=az [112,111,105,110,116]
noncomputable def Rb:ai:=az [112,111,112]
def yh:ai:=az [112,117,116]
def Ze:ai:=az [114,101,97,100]
def Zf:ai:=az [114,101,97,100,95,99,111,100,101,115]
def Zg:ai:=az [114,101,97,100,95,107,110,111,119,110]
def oq:ai:=az [114,101,115,117,108,116,115]
def nR:ai:=az [114,111,111,109]
def GO:ai:=az [114,111,119,115]
def kX:ai:=az [114,117,110,115]
noncomputable def Zh:ai:=az [115,51,50]
noncomputable def Zi:ai:=az [115,51,51]
noncomputable def Zj:ai:=az [115,54,52]
noncomputable def Rc:ai:=az [115,55]
def Rd:ai:=az [115,99,114,105,112,116]
noncomputable def aK:ai:=az [115,101,108,102]
def rM:ai:=az [115,104,105,102,116]
def GP:ai:=az [115,104,111,114,116]
def Li:ai:=az [115,105,103,110]
def Aa:ai:=az [115,105,103,110,101,100]
def GQ:ai:=az [115,105,103,110,115]
def bK:ai:=az [115,105,110,107]
def Lj:ai:=az [115,105,122,101,100]
def BB:ai:=az [115,108,111,116,115]
def fR:ai:=az [115,111,114,116]
def nU:ai:=az [115,116,97,114,116]
def Zk:ai:=az [115,116,101,112]
noncomputable def Lk:ai:=az [115,117,98]
def kY:ai:=az [116,97,98,108,101]
def qd:ai:=az [116,97,98,108,101,115]
def DT:ai:=az [116,97,107,101]
def yi:ai:=az [116,101,120,116]
def yk:ai:=az [116,104,105,110,103]
def Ab:ai:=az [116,104,105,110,103,115]
def Ac:ai:=az [116,111,103,101,116,104,101,114]
def Ad:ai:=az [116,111,108,100]
def rN:ai:=az [116,117,114,110]
def jU:ai:=az [117,51,50]
def l6:ai:=az [117,110,115,105,103,110,101,100]
def Rf:ai:=az [117,115,101,115]
def BC:ai:=az [119,97,108,107]
def Rg:ai:=az [119,97,110,116,95,100,97,116,97,95,99,111,117,110,116]
def gS:ai:=az [119,97,121]
def Zl:ai:=az [119,104,121]
noncomputable def t_:ai:=az []
def Ll:ai:=az [97]
noncomputable def Rh:ai:=az [97,117]
def GR:ai:=az [98]
def Ae:ai:=az [98,108,111,99,107]
def GS:ai:=az [100,97,116,97]
def GU:ai:=az [101,108,101,109]
def BD:ai:=az [102,117,110,99]
def DU:ai:=az [103,108,111,98,97,108]
noncomputable def Ri:ai:=az [105]
def DV:ai:=az [105,51,50]
def DW:ai:=az [105,54,52]
def BE:ai:=az [105,110,100,105,114,101,99,116]
def Rj:ai:=az [107]
def DX:ai:=az [107,105,110,100,115]
def Rk:ai:=az [108]
def DY:ai:=az [108,97,98,101,108]
def DZ:ai:=az [108,97,98,101,108,115]
def BF:ai:=az [108,111,99,97,108]
def D0:ai:=az [109,101,109,97,114,103]
def BG:ai:=az [109,101,109,111,114,121]
def D3:ai:=az [109,101,109,111,114,121,95,105,110,105,116]
def qe:ai:=az [110,111,110,101]
def Rl:ai:=az [114]
def D4:ai:=az [114,101,102,107,105,110,100]
def Rm:ai:=az [116]
def ym:ai:=az [116,97,98,108,101]
def D5:ai:=az [116,97,98,108,101,95,99,111,112,121]
def D6:ai:=az [116,97,98,108,101,95,105,110,105,116]
def BH:ai:=az [116,119,111,95,109,101,109,111,114,105,101,115]
def wX:ai:=az [117]
def Lm:ai:=az [117,117]
noncomputable def Rn:ai:=az [122]
abbrev qf:H:=207
noncomputable abbrev qN:H:=277
noncomputable abbrev BI:H:=356
noncomputable abbrev Af:H:=480
noncomputable abbrev Ag:H:=508
noncomputable abbrev Ah:H:=536
noncomputable abbrev Ai:H:=562
noncomputable abbrev Aj:H:=590
noncomputable abbrev yo:H:=618
noncomputable abbrev s7:H:=733
noncomputable abbrev BJ:H:=1194
noncomputable def jk(a b:aD):aD:=match a with
 |true=>ah
 |false=>b
noncomputable def oB{α:Type}(o:bq α)(p:α->aD):aD:=match o with
 |some a=>p a
 |none=>ak
theorem Ln{α:Type}{o:bq α}{p:α->aD}(h:oB o p=ah):∃a,o=N a/\p a=ah:=by
 cases o with
 |none=>exact nomatch h
 |some a=>exact⟨a,rfl,h⟩
def qO(y:ai):J ai->aD
 |[]=>ak
 |x::r=>jk (je x y) (qO y r)
noncomputable def wY{α:Type}(x:H):J (H×α)->bq α
 |[]=>ao
 |(y,a)::r=>match bX x y with|true=>N a|false=>wY x r
def Zm:J (H×J ai):=[(qf,[bH,cD,sY]),(qN,[bH]),(BI,[bx,dO]),(Af,[dO,dX,fR,i7]),(Ag,[bW,z_,dK]),(Ah,[bW,jT,dK]),(Ai,[fZ,kY,iB,bW,kr]),(Aj,[fZ,nh,iB,bH]),(yo,[dX,bH,rL]),(s7,[fy,p_,mF,qd,qc,pZ,pY,nU,pX,nP,qL]),(BJ,[BC,uC,bI,fy,GI,Bx,GG])]
def vJ(c:aR)(x:ai):aD:=oB (wY c Zm) (qO x)
def Zn:J (H×J (ai×H)):=[(qf,[(vG,106),(nQ,113),(GJ,120),(Lh,127),(eB,134),(DT,141),(fK,148),(l6,155),(Aa,162),(jU,169),(Rc,176),(Zh,183),(Zi,190),(Zj,197),(dX,204)]),(qN,[(vG,225),(eB,232),(yh,239),(l6,246),(Aa,253),(d7,260),(dX,267),(Lj,274)]),(BI,[(vG,339),(GJ,346),(Zk,353)]),(Af,[(vG,470),(qM,477)]),(Ag,[(vG,498),(qM,505)]),(Ah,[(vG,526),(qM,533)]),(Ai,[(vG,554),(qM,559)]),(Aj,[(vG,580),(qM,587)]),(yo,[(vG,608),(qM,615)]),(s7,[(vG,636),((az [105,109,112,111,114,116,101,100]),643),((az [97,98,111,117,116,115]),648),((az [102,117,110,99,95,107,105,110,100,115]),655),((az [116,97,98,108,101,95,107,105,110,100,115]),662),((az [109,101,109,111,114,121,95,107,105,110,100,115]),669),((az [103,108,111,98,97,108,95,107,105,110,100,115]),676),(d7,683),(lR,690),((az [107,105,110,100,95,111,102,95,102,117,110,99]),697),((az [101,120,112,111,114,116]),704),(qM,711),(Zc,716),((az [99,111,110,115,116,97,110,116,115]),723),((az [99,111,112,121]),730)]),(BJ,[(vG,1156),(Ze,1163),(Zg,1170),(Zf,1177),(Rg,1184),(Zd,1191)])]
def GV(c:aR)(x:ai):bq aR:=(wY c Zn).bind (cG x)
noncomputable abbrev Zo:H:=106
noncomputable abbrev BK:H:=113
noncomputable abbrev GW:H:=120
noncomputable abbrev GX:H:=127
noncomputable abbrev qg:H:=134
noncomputable abbrev BL:H:=141
noncomputable abbrev GY:H:=148
noncomputable abbrev Lo:H:=155
noncomputable abbrev BN:H:=162
noncomputable abbrev mG:H:=169
noncomputable abbrev GZ:H:=176
noncomputable abbrev Ro:H:=183
noncomputable abbrev Rp:H:=190
noncomputable abbrev Rq:H:=197
noncomputable abbrev G0:H:=204
noncomputable abbrev Zp:H:=225
noncomputable abbrev s8:H:=232
noncomputable abbrev G1:H:=239
noncomputable abbrev qh:H:=246
noncomputable abbrev Lq:H:=253
noncomputable abbrev Ak:H:=260
noncomputable abbrev G2:H:=267
noncomputable abbrev G3:H:=274
noncomputable abbrev Lr:H:=288
noncomputable abbrev Ls:H:=295
noncomputable abbrev Lu:H:=303
noncomputable abbrev Lv:H:=311
noncomputable abbrev G4:H:=318
noncomputable abbrev Lw:H:=325
noncomputable abbrev Zq:H:=339
noncomputable abbrev Rr:H:=346
noncomputable abbrev Rt:H:=353
noncomputable abbrev Ly:H:=437
noncomputable abbrev D7:H:=444
noncomputable abbrev Lz:H:=451
noncomputable abbrev LA:H:=456
noncomputable abbrev aB9:H:=470
noncomputable abbrev Ru:H:=477
noncomputable abbrev aC0:H:=498
noncomputable abbrev Rv:H:=505
noncomputable abbrev aC1:H:=526
noncomputable abbrev Rw:H:=533
noncomputable abbrev aC2:H:=554
noncomputable abbrev Rx:H:=559
noncomputable abbrev aC3:H:=580
noncomputable abbrev Ry:H:=587
noncomputable abbrev aC4:H:=608
noncomputable abbrev Rz:H:=615
noncomputable abbrev LB:H:=636
noncomputable abbrev RA:H:=711
noncomputable abbrev D8:H:=716
noncomputable abbrev LD:H:=742
noncomputable abbrev G5:H:=747
noncomputable abbrev w4:H:=754
noncomputable abbrev G6:H:=761
noncomputable abbrev G7:H:=768
noncomputable abbrev D9:H:=775
noncomputable abbrev BO:H:=782
noncomputable abbrev BQ:H:=789
noncomputable abbrev G8:H:=796
noncomputable abbrev D_:H:=803
noncomputable abbrev Ea:H:=810
noncomputable abbrev Eb:H:=817
noncomputable abbrev LG:H:=824
noncomputable abbrev LH:H:=831
noncomputable abbrev G9:H:=838
noncomputable abbrev LI:H:=845
noncomputable abbrev LJ:H:=852
noncomputable abbrev BS:H:=859
noncomputable abbrev LK:H:=866
noncomputable abbrev Ec:H:=871
noncomputable abbrev Ed:H:=878
noncomputable abbrev LL:H:=885
noncomputable abbrev LN:H:=892
noncomputable abbrev Ef:H:=899
noncomputable abbrev Eg:H:=906
noncomputable abbrev G_:H:=913
noncomputable abbrev uE:H:=920
noncomputable abbrev Hf:H:=927
noncomputable abbrev LO:H:=934
noncomputable abbrev LP:H:=941
noncomputable abbrev LQ:H:=948
noncomputable abbrev LR:H:=953
noncomputable abbrev w5:H:=962
noncomputable abbrev Eh:H:=969
noncomputable abbrev LS:H:=976
noncomputable abbrev Hg:H:=983
noncomputable abbrev Ei:H:=990
noncomputable abbrev Ej:H:=997
noncomputable abbrev LU:H:=1004
noncomputable abbrev Hh:H:=1011
noncomputable abbrev Hi:H:=1018
noncomputable abbrev Hj:H:=1025
noncomputable abbrev Hl:H:=1032
noncomputable abbrev LV:H:=1039
noncomputable abbrev LW:H:=1046
noncomputable abbrev LX:H:=1053
noncomputable abbrev LY:H:=1060
noncomputable abbrev LZ:H:=1067
noncomputable abbrev L1:H:=1074
noncomputable abbrev L3:H:=1081
noncomputable abbrev L4:H:=1088
noncomputable abbrev L5:H:=1095
noncomputable abbrev L6:H:=1102
noncomputable abbrev Ho:H:=1109
noncomputable abbrev BU:H:=1116
noncomputable abbrev L7:H:=1123
noncomputable abbrev L8:H:=1128
noncomputable abbrev L_:H:=1135
noncomputable abbrev Ma:H:=1142
noncomputable abbrev Zr:H:=1156
noncomputable abbrev RB:H:=1163
noncomputable abbrev RC:H:=1170
noncomputable abbrev RD:H:=1177
noncomputable abbrev Mb:H:=1184
noncomputable abbrev RE:H:=1191
noncomputable abbrev Ek:H:=1206
noncomputable abbrev ou:H:=1213
noncomputable abbrev Al:H:=1220
noncomputable abbrev Hp:H:=1225
noncomputable abbrev Hq:H:=1232
noncomputable abbrev Hr:H:=1239
noncomputable abbrev Hs:H:=1246
noncomputable abbrev uF:H:=1253
noncomputable abbrev Ht:H:=1260
noncomputable abbrev BV:H:=1267
noncomputable abbrev Hu:H:=1272
noncomputable abbrev Hv:H:=1279
noncomputable abbrev Mc:H:=1286
noncomputable abbrev Me:H:=1291
noncomputable abbrev Mf:H:=1298
noncomputable abbrev El:H:=1305
noncomputable abbrev Mg:H:=1312
noncomputable abbrev Mh:H:=1317
noncomputable abbrev Mi:H:=1324
noncomputable abbrev Mj:H:=1329
noncomputable abbrev Mk:H:=1336
noncomputable abbrev Ml:H:=1341
noncomputable abbrev Hw:H:=1346
noncomputable abbrev s9:H:=1353
noncomputable abbrev Mm:H:=1360
noncomputable abbrev w6:H:=1367
noncomputable abbrev Em:H:=1372
noncomputable abbrev Hx:H:=1377
noncomputable abbrev Mn:H:=1384
noncomputable abbrev BW:H:=1391
noncomputable abbrev Hy:H:=1398
noncomputable abbrev Mp:H:=1405
noncomputable abbrev Mq:H:=1410
noncomputable abbrev Mr:H:=1415
noncomputable abbrev Ms:H:=1420
noncomputable abbrev Mu:H:=1425
noncomputable abbrev Mv:H:=1432
noncomputable abbrev Hz:H:=1439
noncomputable abbrev Mw:H:=1444
noncomputable abbrev Mx:H:=1449
noncomputable abbrev Zs:H:=1456
section
noncomputable def Bp:J jZ:=cF2++["bytearray.__contains__","bytearray.__mod__","bytearray.__rmod__","_struct.pack_into.held","bytearray.find.held"]
def free(c:pN):aD:=match c with
 | .builtin id X=>!Bp.contains id
 |X=>ah
def wI(Γ:Ctx):Prop:=free Γ.code=ah/\∀x∈Γ.below,free x.1=ah
def av{α:Type}(M:jP)(A:cQ)(t:dJ α)(Q:α->aE->Prop)(E:aA->aE->Prop)(s:aE):Prop:=
 ∀Γ p,Γ.In A->wI Γ->Sem.wp M Γ t (λa X s'=>Q a s') (λe X s'=>E e s') p s
def eG(M:jP)(A:cQ)(c:pN)(R:nM->aE->Prop)(s:aE):Prop:=
 ∀Γ p,Γ.code=c->Γ.Below A->wI Γ->wpCode M Γ R p s
section
variable{α β:Type}{M:jP}{A:cQ}{E:aA->aE->Prop}{s:aE}{G:cL}
theorem aZ{t:dJ α}{Q:α->aE->Prop}(h:Dd M A t Q E s):av M A t Q E s:=λΓ p gY X=>h Γ p gY
theorem RG(h:co6 M A c R s):eG M A c R s:=λΓ p hc gY X=>h Γ p hc gY
theorem bg{a:α}{Q:α->aE->Prop}(h:Q a s):av M A (pure a) Q E s:=λX I u2 u3=>h
theorem iZ{t:dJ α}{a:α}{Q:α->aE->Prop}(e:t=pure a)(h:Q a s):av M A t Q E s:=e▸bg h
theorem gG{t:dJ α}{Q Q':α->aE->Prop}{E':aA->aE->Prop}(h:av M A t Q E s)(hQ:∀a s,Q a s->Q' a s)(hE:∀e s,E e s->E' e s):av M A t Q' E' s:=
 λΓ p gY hc=>J4 M Γ t (λa X s=>hQ a s) (λe X s=>hE e s) p s (h Γ p gY hc)
theorem Yl(h:eG M A c R s)(hR:∀r s,R r s->R' r s):eG M A c R' s:=λΓ p hc gY Am=>wpCode_mono hR (h Γ p hc gY Am)
theorem aJ{m:dJ α}{g:α->dJ β}{Q:β->aE->Prop}(h:av M A m (λa s'=>av M A (g a) Q E s') E s):av M A (m>>=g) Q E s:=λΓ p gY hc=>by rw[Sem.wp_bind'];exact J4 M Γ m (λa p' s' h'=>h' Γ p' gY hc) (λX I u2 h'=>h') p s (h Γ p gY hc)
theorem iP{vs:J aA}{m:dJ α}{Q:α->aE->Prop}(h:av M A m Q E s):av M A (A9 vs m) Q E s:=λΓ p gY hc=>by rw[Sem.wp_holding];exact h Γ p gY hc
theorem ar0{vs:J aA}{m:dJ α}{Q:α->aE->Prop}(h:av M A m Q E s):av M A (m.keep vs) Q E s:=λΓ p gY hc=>by rw[Sem.wp_keep];exact h Γ p gY hc
theorem DF(h:av M A m Q E s):av M A (J5 vs m) Q E s:=λΓ p gY hc=>by rw[Sem.wp_operate];exact h Γ p gY hc
theorem Ym{m:dJ α}{k:aA->dJ α}{Q:α->aE->Prop}(h:av M A m Q (λe s'=>av M A (k e) Q E s') s):av M A (tryCatch m k) Q E s:=λΓ p gY hc=>by rw[Sem.wp_tryCatch'];exact J4 M Γ m (λX I u2 h'=>h') (λe p' s' h'=>h' Γ p' gY hc) p s (h Γ p gY hc)
theorem DG{m:dJ α}{k:aA->dJ rt}{Q:α->aE->Prop}(h:av M A m Q (λe s'=>av M A (k e) (λX ni=>E e ni) E s') s):av M A (m.onRaise k) Q E s:=λΓ p gY hc=>by rw[Sem.wp_onRaise];exact J4 M Γ m (λX I u2 h'=>h') (λe p' s' h'=>h' Γ p' gY hc) p s (h Γ p gY hc)
theorem Yn{m:dJ α}{Q:Except aA α->aE->Prop}(h:av M A m (λa=>Q (.ok a)) (λe=>Q (.error e)) s):av M A m.attempt Q E s:=λΓ p gY hc=>by rw[Sem.wp_attempt];exact h Γ p gY hc
theorem KP{c:Prop}[Xc c]{a b:dJ α}{Q:α->aE->Prop}(h:if c then av M A a Q E s else av M A b Q E s):av M A (if c then a else b) Q E s:=by
 split at h
 ·rename_i q;rw[dM q];exact h
 ·rename_i q;rw[cF q];exact h
theorem Zt{c:Prop}[Xc c]{a b:dJ α}{Q:α->aE->Prop}(h:av M A a Q E s)(g:av M A b Q E s):av M A (if c then a else b) Q E s:=by
 by_cases q:c
 ·rw[dM q];exact h
 ·rw[cF q];exact g
theorem wI.enter{Γ:Ctx}(k:wI Γ)(hc:free c=ah):wI (Γ.enter c h p):=⟨hc,λx hx=>by
 rcases iV.mp hx with rfl|hx
 ·exact k.1
 ·exact k.2 x hx⟩
theorem wI.goto{Γ:Ctx}(k:wI Γ)(hc:free c=ah):wI (Γ.goto c):=⟨hc,k.2⟩
theorem nb:(ao:bq aA)≠N byPass:=nofun
theorem Yo(hf:free c=ah)(hc:eG M (A.mark h) c (λr s'=>match r with| .ok f=>Q f s'| .error e=>E e s') s)(RH:h≠N byPass):av M A (run c h) Q E s:=
 λΓ p gY S=>by rw[Sem.wp_run];exact hc _ p rfl (gY.enter c h p RH) (S.enter hf)
theorem ar1(hf:free c=ah)(hc:eG M A c (λr s'=>match r with| .ok (.ret v)=>Q v s'| .ok X=>bV| .error e=>E e s') s):av M A (runValue c) Q E s:=
 λΓ p gY S=>by rw[Sem.wp_runValue];exact hc _ p rfl (gY.enter c ao p (by intro x;cases x)) (S.enter hf)
theorem Bq(hc:eG M A (.call g ⟨pos,kw⟩) (λr s'=>match r with| .ok (.ret v)=>Q v s'| .ok X=>bV| .error e=>E e s') s):av M A (fF g pos kw) Q E s:=ar1 rfl hc
theorem m_(h:av M (A.under c) (M.den c) (λcH s'=>match cH with| .done f=>R (.ok f) s'| .again c'=>(c'.quiet=ah/\free c'=ah)/\eG M A c' R s') (λe s'=>R (.error e) s') s):
  eG M A c R s:=λΓ p hc gY S=>by
 rw[wpCode_iff_wp,hc];refine J4 M Γ _ (λcH p' s' h'=>?_) (λX I u2 h'=>h') p s (h Γ p (hc▸gY.in) S);induction cH with
 |done f=>exact h'
 |again c'=>exact⟨h'.1.1,h'.2 (Γ.goto c') p' rfl (gY.goto c') (S.goto h'.1.2)⟩
theorem ar2{c:pN}(hq:c.quiet=ah)(hf:free c=ah)(bG:H->aE->Prop)
  (WV:∀n s,bG n s->av M (A.under c) (M.den c) (λcH s'=>match cH with| .done f=>R (.ok f) s'| .again c'=>(c'=c/\∃m,m<n/\bG m s')\/((c'.quiet=ah/\free c'=ah)/\eG M A c' R s')) (λe s'=>R (.error e) s') s)
  (n:H)(h:bG n s):eG M A c R s:=by
 induction n using co7 generalizing s with
 |ind n ih=>
  refine m_ (gG (WV n s h) (λcH s' q=>?_) λX I q=>q);induction cH with
  |done f=>exact q
  |again c'=>
   rcases q with⟨rfl,m,hm,hI⟩|q
   ·exact⟨⟨hq,hf⟩,ih m hm hI⟩
   ·exact q
theorem qF(h:Q () s):av M A (sy pos) Q E s:=aZ (PySem.wpAny_standAt h)
theorem sO(h:Q () s):av M A (rule t) Q E s:=aZ (co8 h)
theorem KQ(h:Q () s):av M A point Q E s:=aZ (PySem.wpAny_point h)
theorem KR(h:av M A (F3 G x v) Q E s):av M A (J6 G x v) Q E s:=λΓ p gY hc=>by rw[Sem.wp_bindName];exact h Γ p gY hc
theorem ar3(h:av M A (F3 G x v) Q E s):av M A (J6 G x v) Q E s:=KR h
theorem QI(h:av M A (F3 G x v) Q E s):av M A (sC (.Name x pos) G v) Q E s:=
 show av M A (sy pos>>=λX=>J6 G x v) Q E s from aJ (qF (KR h))
theorem Gr{x pos}(h:av M A (J7 G x) Q E s)(hd:(x==("__debug__":ai))=ak):av M A (cM (.Name x pos) G) Q E s:=by rw[eval_Name G x pos hd];exact aJ (qF h)
theorem dR{m:dJ α}{g:α->dJ β}{Q:β->aE->Prop}{P:α->aE->Prop}(h:av M A m P E s)(k:∀a s',P a s'->av M A (g a) Q E s'):av M A (m>>=g) Q E s:=aJ (gG h k λX I z=>z)
theorem at_{pos:gq}{g:rt->dJ β}{Q:β->aE->Prop}(h:av M A (g ()) Q E s):av M A (sy pos>>=g) Q E s:=aJ (qF h)
theorem lI{vs:J aA}{m:dJ α}{g:α->dJ β}{Q:β->aE->Prop}{P:α->aE->Prop}(h:av M A m P E s)(k:∀a s',P a s'->av M A (g a) Q E s'):av M A (A9 vs m>>=g) Q E s:=dR (iP h) k
theorem Zu{vs:J aA}{m:dJ aA}{g:aA->dJ β}{Q:β->aE->Prop}{P:aA->aE->Prop}(h:av M A m P E s)(k:∀a s',P a s'->av M A (g a) Q E s'):av M A (J5 vs m>>=g) Q E s:=dR (DF h) k
theorem ar4{Z dg}(h:av M A (t8 Z G) (λf s'=>match f with| .next=>av M A (A_ dg G) Q E s'|f=>Q f s') E s):av M A (A_ (Z::dg) G) Q E s:=by rw[execs_cons];refine dR h λf s' q=>?_;cases f<;>first|exact q|exact bg q
theorem Yp(h:Q .next s):av M A (A_ [] G) Q E s:=aZ (co9 h)
theorem ar5{e pos}(h:av M A (cM e G) (λv=>Q (.ret v)) E s):av M A (t8 (.Return (N e) pos) G) Q E s:=by rw[exec_Return_some];exact at_ (dR h λv s' q=>bg q)
theorem ar6{nI body orelse pos}(h:av M A (oY nI G (cM nI G)) (λb cj=>if b then av M A (A_ body G) Q E cj else av M A (A_ orelse G) Q E cj) E s):av M A (t8 (.If nI body orelse pos) G) Q E s:=by rw[exec_If];exact at_ (dR h λb s' q=>by cases b<;>exact q)
theorem ar7(h:av M A (oY nI G (cM nI G)) (λb aF=>if b then av M A (cM body G) Q E aF else av M A (cM orelse G) Q E aF) E s):av M A (cM (.IfExp nI body orelse pos) G) Q E s:=by rw[arm_eval_IfExp];exact dR h λb s' q=>by cases b<;>exact q
theorem ar8(h:av M A (cM x G) (λv aF=>av M A (unaryOp op v) Q E aF) E s):av M A (cM (.UnaryOp op x pos) G) Q E s:=by rw[arm_eval_UnaryOp];exact dR h λv s' q=>at_ (iP q)
theorem ar9{l op r pos}(h:av M A (cM l G) (λa aF=>av M A (cM r G) (λb cj=>av M A (F4 op a b) Q E cj) E aF) E s):av M A (cM (.BinOp l op r pos) G) Q E s:=by rw[eval_BinOp];exact dR h λa aF q=>lI q λb cj q=>at_ (DF q)
theorem as1{l op r pos}(h:av M A (cM l G) (λa aF=>av M A (cM r G) (λb cj=>av M A (J8 op a b) Q E cj) E aF) E s)(hm:J9 op r=ak):
  av M A (cM (.Compare l [op] [r] pos) G) Q E s:=by
 rw[eval_Compare1,cp0 hm];exact dR h λa aF q=>lI q λb cj q=>at_ (DF q)
theorem as2{l op r pos oS}(h:av M A (cM l G) (λa aF=>av M A (cM r G) (λb cj=>av M A (J8 op a b) (λc dU=>av M A (J_ c) Q E dU) E cj) E aF) E s)
  (hm:J9 op r=ak):av M A (oY (.Compare l [op] [r] pos) G oS) Q E s:=by
 rw[isTrue_Compare1,cp0 hm];exact dR h λa aF q=>lI q λb cj q=>at_ (Zu q λc dU q=>iP q)
theorem as3{l HA HB ops bY iC rs pos oS}(h:av M A (cM l G) (λa aF=>av M A (testChain pos a (HA::HB::ops) (cM bY G::cM iC G::wu rs G)) Q E aF) E s)
  (hm:Xd (HA::HB::ops) (bY::iC::rs)=ak):av M A (oY (.Compare l (HA::HB::ops) (bY::iC::rs) pos) G oS) Q E s:=by
 show av M A (cM l G>>=λa=>testChain pos a (HA::HB::ops) (Xe (HA::HB::ops) (bY::iC::rs) (wu (bY::iC::rs) G))) Q E s
 rw[markedEach_of_false _ _ _ hm];exact aJ h
theorem as4{e:aT}(h:av M A oS (λv aF=>av M A (J_ v) Q E aF) E s)(he:oY e G oS=(do let v<-oS;sy e.pos;A9 [v] (J_ v))):av M A (oY e G oS) Q E s:=by rw[he];exact dR h λv aF q=>at_ (iP q)
theorem as5(h:av M A (oY x G (cM x G)) (λb aF=>Q (!b) aF) E s):av M A (oY (.UnaryOp .Not x pos) G oS) Q E s:=by rw[arm_isTrue_UnaryOp];exact dR h λb aF q=>bg q
theorem as6(h:av M A (De op values G) Q E s):av M A (oY (.BoolOp op values pos) G oS) Q E s:=by rw[arm_isTrue_BoolOp];exact h
theorem as7(h:av M A (oY x G (cM x G)) (λb aF=>if b then av M A (De .And dg G) Q E aF else Q ak aF) E s):av M A (De .And (x::dg) G) Q E s:=
 show av M A (oY x G (cM x G)>>=λb=>match BoolOp.And,b with| .And,ak=>pure ak| .Or,ah=>pure ah|X,I=>De .And dg G) Q E s from dR h λb aF q=>by cases b<;>first|exact q|exact bg q
theorem as8(h:av M A (oY x G (cM x G)) (λb aF=>if b then Q ah aF else av M A (De .Or dg G) Q E aF) E s):av M A (De .Or (x::dg) G) Q E s:=
 show av M A (oY x G (cM x G)>>=λb=>match BoolOp.Or,b with| .And,ak=>pure ak| .Or,ah=>pure ah|X,I=>De .Or dg G) Q E s from dR h λb aF q=>by cases b<;>first|exact q|exact bg q
theorem as9(h:av M A (cM e G) (λv aF=>av M A (ru (n9 pos (lQ dg G))) (λvs cj=>Q (v::vs) cj) E aF) E s)
  (he:lQ (e::dg) G=(ak,cM e G)::lQ dg G):av M A (ru (n9 pos (lQ (e::dg) G))) Q E s:=by
 rw[he]
 show av M A (cM e G>>=λv=>(pure [v]:dJ (J aA))>>=λJX=>A9 JX (ru (n9 pos (lQ dg G)))>>=λr=>pure (JX++r)) Q E s
 exact dR h λv aF q=>aJ (bg (lI q λvs cj q=>bg q))
theorem at0(h:Q [] s):av M A (ru (n9 pos (lQ [] G))) Q E s:=bg h
theorem Yq{k:H}
  (h:av M A (ru (n9 pos (lQ iM G))) (λvs aF=>vs.length<=gX/\Q (.ref aF.heap.objs.size) {aF with heap:=aF.heap.push {cls:=.type "tuple",data:=.seq vs.toArray}}) E s):av M A (cM (.Tuple iM k pos) G) Q E s:=by
 rw[arm_eval_Tuple];exact at_ (dR h λvs aF q=>aZ (Bc q.2 (by show vs.toArray.size<=gX;rw[PJ];exact q.1)))
theorem at1
  (h:av M A (ru (n9 pos (lQ iM G))) (λvs aF=>vs.length<=gX/\Q (.ref aF.heap.objs.size) {aF with heap:=aF.heap.push {cls:=.type "list",data:=.seq vs.toArray}}) E s):av M A (cM (.List iM pos) G) Q E s:=by
 rw[arm_eval_List];exact at_ (dR h λvs aF q=>aZ (Bc q.2 (by show vs.toArray.size<=gX;rw[PJ];exact q.1)))
theorem at3{lower upper gQ:bq aT}{p:gq}{Q:aA->aE->Prop}
  (h:av M A (J' lower G) (λl aF=>av M A (J' upper G) (λu cj=>av M A (J' gQ G) (λZ dU=>Q (.ref dU.heap.objs.size) {dU with heap:=dU.heap.push {cls:=.type "slice",data:=.fields #[l,u,Z]}}) E cj) E aF) E s):
  av M A (cM (.Slice lower upper gQ p) G) Q E s:=by
 rw[arm_eval_Slice];exact dR h λl aF q=>lI q λu cj q=>lI q λZ dU q=>aZ (Bc q)
theorem at4(h:av M A (cM e G) Q E s):av M A (J' (N e) G) Q E s:=h
theorem Yr(h:Q .none s):av M A (J' ao G) Q E s:=aZ (PySem.wpAny_evalPart_none h)
theorem QJ{fU n8 pos}(h:av M A (cM fU G) (λo aF=>av M A (cM n8 G) (λi cj=>av M A (zJ fU n8 o i) Q E cj) E aF) E s):av M A (cM (.Subscript fU n8 pos) G) Q E s:=by rw[PySem.eval_Subscript];exact dR h λo aF q=>lI q λi cj q=>at_ q
theorem at5{x qu fU pos}(h:av M A (cM fU G) (λv aF=>av M A (F3 G x v) (λX=>Q .next) E aF) E s)(hs:wz fU (N (.Name x qu)) pos.line G=pure ak):
  av M A (t8 (.Assign [.Name x qu] fU pos) G) Q E s:=by
 rw[exec_Assign_Name G x qu fU pos hs];exact at_ (dR h λv aF q=>at_ (dR (KR q) λX I q=>bg q))
theorem at6{o i qu fU pos}(h:av M A (cM fU G) (λv aF=>av M A (cM o G) (λov cj=>av M A (cM i G) (λiv dU=>av M A (setItem ov iv v) (λX=>Q .next) E dU) E cj) E aF) E s)
  (hs:wz fU (N (.Subscript o i qu)) pos.line G=pure ak):av M A (t8 (.Assign [.Subscript o i qu] fU pos) G) Q E s:=by
 rw[exec_Assign_Subscript o i qu fU pos hs];refine at_ (dR h λv aF q=>?_);rw[assign_Subscript];exact aJ (lI q λov cj q=>lI q λiv dU q=>at_ (lI q λX nV q=>aZ (Xf (bg q))))
theorem at7{o attr qu fU pos}(h:av M A (cM fU G) (λv aF=>av M A (cM o G) (λov cj=>av M A (setAttr ov attr v) (λX=>Q .next) E cj) E aF) E s)
  (hs:wz fU (N (.Attribute o attr qu)) pos.line G=pure ak):av M A (t8 (.Assign [.Attribute o attr qu] fU pos) G) Q E s:=by
 rw[plainObj_exec_Assign_Attribute o attr qu fU pos hs];refine at_ (dR h λv aF q=>?_);rw[assign_Attribute];exact aJ (lI q λov cj q=>at_ (lI q λX dU q=>aZ (Xf (bg q))))
theorem at8{x qu op fU pos}(h:av M A (J7 G x) (λwj aF=>av M A (cM fU G) (λv cj=>av M A (inplaceOp op wj v) (λr dU=>av M A (F3 G x r) (λX=>Q .next) E dU) E cj) E aF) E s):
  av M A (t8 (.AugAssign (.Name x qu) op fU pos) G) Q E s:=by
 rw[exec_AugAssign_Name];exact at_ (dR h λwj aF q=>lI q λv cj q=>at_ (Zu q λr dU q=>at_ (dR (KR q) λX I q=>bg q)))
theorem at9{e pos}(h:av (aP prog w) A (cM e G) (λX=>Q .next) E s)(hi:interactive G=ak)(hs:wz e ao pos.line G=pure ak):
  av (aP prog w) A (t8 (.Expr e pos) G) Q E s:=by
 rw[exec_Expr G e pos hi hs];exact at_ (dR h λv s' q=>aZ (wpAny_dropValue q))
theorem au0{iM k yp fU pos}(h:av M A (cM fU G) (λv aF=>av M A (sC (.Tuple iM k yp) G v) (λX=>Q .next) E aF) E s)
  (hs:cp1 [.Tuple iM k yp] fU pos.line G=pure ak)(hw:Xg [.Tuple iM k yp] fU G=pure ao):av M A (t8 (.Assign [.Tuple iM k yp] fU pos) G) Q E s:=by
 rw[exec_Assign,hs];refine at_ (aJ (bg ?_));rw[cF (by decide),hw]
 exact dR h λv aF q=>aJ (bg (show av M A (assignAll v [sC (.Tuple iM k yp) G]>>=λX=>pure .next) Q E aF from dR q λX I q=>bg q))
theorem au1{iM k yp fU pos}{names:J ai}(h:av M A (cM fU G) (λv aF=>av M A (unpackItems v names.length ao) (λeX cj=>av M A (PK (names.reverse.map λn=>J6 G n) eX.reverse) (λX=>Q .next) E cj) E aF) E s)
  (hs:cp1 [.Tuple iM k yp] fU pos.line G=pure ak)(hw:Xg [.Tuple iM k yp] fU G=pure (N names)):av M A (t8 (.Assign [.Tuple iM k yp] fU pos) G) Q E s:=by
 rw[exec_Assign,hs];refine at_ (aJ (bg ?_));rw[cF (by decide),hw]
 refine dR h λv aF q=>aJ (bg ?_)
 show av M A (rule "assign.swapped-stores" >>=λX=>unpackItems v names.length ao>>=λeX=>PK (names.reverse.map λn=>J6 G n) eX.reverse>>=λX=>pure .next) Q E aF
 exact aJ (sO (dR q λeX cj q=>dR q λX I q=>bg q))
theorem KS(h:av M A (cM (.Name x np) G) (λg aF=>av M A (vn pos g [] (n9 pos (lQ args G)) (PL pos (PN keywords G))) Q E aF) E s):
  av M A (cM (.Call (.Name x np) args keywords pos) G) Q E s:=show av M A (cM (.Name x np) G>>=λg=>vn pos g [] (n9 pos (lQ args G)) (PL pos (PN keywords G))) Q E s from aJ h
theorem au2(hs:lQ [e] G=[(ak,cM e G)])(h:av M A (cM (.Name x np) G) (λg aF=>av M A (vn pos g [] [(ak,cM e G)] []) Q E aF) E s):av M A (cM (.Call (.Name x np) [e] [] pos) G) Q E s:=by
 have:=KS (M:=M) (A:=A) (E:=E) (s:=s) (G:=G) (x:=x) (np:=np) (pos:=pos) (args:=[e]) (keywords:=[]) (Q:=Q) (by rw[hs];exact h)
 exact this
def QK(M:jP)(A:cQ)(G:cL)(E:aA->aE->Prop):aA->aE->Prop:=
 λx s'=>av M A (do
  if(<-field x 1)== .none then zG "frame.own-activation:exception-without-traceback"
  setFlight x G.frame) (λX ni=>E x ni) E s'
def DH(M:jP)(A:cQ)(G:cL)(E:aA->aE->Prop):aA->aE->Prop:=λx s'=>av M A (Df x G) (λX ni=>E x ni) E s'
theorem QL(hf:free c=ah)(hc:eG M (A.mark h) c (λr s'=>match r with| .ok f=>Q f s'| .error e=>QK M A G E e s') s)(RH:h≠N byPass):av M A (runOwn c G h) Q E s:=
 DG (Yo hf hc RH)
theorem KU{m:dJ α}{Q:α->aE->Prop}(h:av M A m Q (DH M A G E) s):av M A (m.onRaise λx=>do Df x G;PO x) Q E s:=
 DG (gG h (λX I q=>q) λX I hx=>aJ (gG hx (λX I e=>aZ (wpAny_theTreesLotGoes e)) λX I e=>e))
theorem au3{nI body orelse pos}(h:eG M A (.whileLoop nI body orelse G) (λr s'=>match r with| .ok f=>Q f s'| .error e=>QK M A G E e s') s):av M A (t8 (.While nI body orelse pos) G) Q E s:=by rw[exec_While];exact at_ (QL rfl h nb)
theorem Ys{dD dY body orelse pos}(h:av M A (cM dY G) (λx aF=>av M A (ry x) (λit cj=>eG M A (.forLoop dD it body orelse G) (λr s'=>match r with| .ok f=>Q f s'| .error e=>QK M A G E e s') cj) E aF) E s)
  (hs:∀x,pP dY G x=pure x):av M A (t8 (.For dD dY body orelse pos) G) Q E s:=by
 rw[exec_For];exact at_ (dR h λx aF q=>aJ (iZ (hs x) (at_ (lI q λit cj q=>QL rfl q nb))))
end
section
variable{prog:iU}{w:bU}{A:cQ}{E:aA->aE->Prop}{R:nM->aE->Prop}{s:aE}{G:cL}
theorem aC5(h:R (.ok .next) s):eG (aP prog w) A (.block [] G) R s:=RG (codeAny_block (co9 h))
def RI(R:nM->aE->Prop)(cC:aE->Prop)(f:C6)(s:aE):Prop:=match f with
 | .next| .cont=>cC s
 | .brk=>R (.ok .next) s
 | .ret v=>R (.ok (.ret v)) s
abbrev w9(M:jP)(A:cQ)(G:cL)(R:nM->aE->Prop):aA->aE->Prop:=DH M A G λe s'=>R (.error e) s'
def Zv(M:jP)(A:cQ)(G:cL)(body:J eg)(R:nM->aE->Prop)(cC:aE->Prop)(b:aD)(s:aE):Prop:=match b with
 |false=>R (.ok .next) s
 |true=>av M A (A_ body G) (RI R cC) (w9 M A G R) s
theorem RI.fin{M:jP}{c:pN}(hN:∀s,cC s->eG M A c R s)(hc:c.quiet=ah/\free c=ah)(h:RI R cC f s){E:aA->aE->Prop}:
  av M A (match f with| .next| .cont=>(pure (.again c):dJ Fin)| .brk=>pure (.done .next)| .ret v=>pure (.done (.ret v))) (λcH s'=>match cH with| .done f=>R (.ok f) s'| .again c'=>(c'.quiet=ah/\free c'=ah)/\eG M A c' R s') E s:=by
 induction f with
 |next=>exact bg ⟨hc,hN _ h⟩
 |cont=>exact bg ⟨hc,hN _ h⟩
 |_=>exact bg h
theorem aC6{nI body}(hN:∀s,cC s->eG (aP prog w) A (.whileLoop nI body [] G) R s)(h:av (aP prog w) A (oY nI G (cM nI G)) (Zv (aP prog w) A G body R cC) (w9 (aP prog w) A G R) s):
  eG (aP prog w) A (.whileLoop nI body [] G) R s:=by
 refine m_ ?_
 show av _ A ((whileTurn nI body [] G).onRaise (λx=>do Df x G;PO x)) _ _ s
 refine KU ?_;delta whileTurn;refine dR h λb cj q=>?_;induction b with
 |false=>exact aJ (Yp (bg q))
 |true=>exact dR q λf dU q=>q.fin hN ⟨rfl,rfl⟩
def Gs(M:jP)(A:cQ)(it:aA)(dD:aT)(G:cL)(P:aD->aE->Prop)(E:aA->aE->Prop)(s:aE):Prop:=
 av M A (pyNext it) (λr aF=>match r with
  |none=>P ak aF
  |some v=>av M A (Ka dD it v) (λX cj=>av M A (sC dD G v) (λX dU=>P ah dU) E cj) E aF) E s
theorem Zw{dD it body}(hN:∀s,cC s->eG (aP prog w) A (.forLoop dD it body [] G) R s)(h:Gs (aP prog w) A it dD G (Zv (aP prog w) A G body R cC) (w9 (aP prog w) A G R) s):
  eG (aP prog w) A (.forLoop dD it body [] G) R s:=by
 refine m_ ?_
 show av _ A ((forTurn dD it body [] G).onRaise (λx=>do Df x G;PO x)) _ _ s
 refine KU ?_;delta forTurn;refine at_ (aJ (DG (gG h (λr aF q=>?_) λX I q=>qF q)));induction r with
 |none=>exact bg ⟨⟨rfl,rfl⟩,aC5 q⟩
 |some v=>exact dR q λX Zx q=>dR q λX cj q=>dR q λf dU q=>q.fin hN ⟨rfl,rfl⟩
theorem au4{aY dD dY bZ dg scope pos it acc}(h0:eG (aP prog w) A (.compLoop (.ListComp aY (⟨dD,dY,bZ,0⟩::dg) scope pos) 0 it acc G) R s)
  (h:av (aP prog w) A (ry it) (λyq s'=>eG (aP prog w) A (.compLoop (.ListComp aY (⟨dD,dY,bZ,0⟩::dg) scope pos) 0 yq acc G) R s') (DH (aP prog w) A G λx s'=>R (.error x) s') s):
  eG (aP prog w) A (.compStart (.ListComp aY (⟨dD,dY,bZ,0⟩::dg) scope pos) 0 it acc G) R s:=by
 refine m_ ?_
 show av _ _ ((Xh (.ListComp aY (⟨dD,dY,bZ,0⟩::dg) scope pos) 0 it acc G).onRaise (λx=>do Df x G;sy cp2)) _ _ s
 refine DG (gG (E:=DH (aP prog w) A G λx s'=>R (.error x) s') ?_ (λX I q=>q) λX I hx=>aJ (gG hx (λX I e=>qF e) λX I e=>e));unfold Xh
 show av _ _ (ask>>=_) _ _ s
 refine aJ (aZ (aj7 (KP ?_)))
 split
 ·first
   |exact aJ (bg (bg (rz ⟨rfl,rfl⟩ h0)))
   |exact bg (rz ⟨rfl,rfl⟩ h0)
 ·first
   |exact aJ (bg (aJ (sO (at_ (dR h λyq s' q=>bg (rz ⟨rfl,rfl⟩ q))))))
   |exact aJ (sO (at_ (dR h λyq s' q=>bg (rz ⟨rfl,rfl⟩ q))))
   |(refine aJ (sO ?_);show av _ _ (sy dY.pos>>=_) _ _ s;exact at_ (dR h λyq s' q=>bg (rz ⟨rfl,rfl⟩ q)))
def KV(M:jP)(A:cQ)(E:aA->aE->Prop)(use:bq (aA->dJ rt))(Q:aA->aE->Prop)(acc:aA)(C:aR)(r:nM)(s':aE):Prop:=match r,use with
 | .ok X,ao=>∃m,s'.heap.Ns C m/\∀h',Dg C s'.heap h'->Q acc {s' with heap:=h'}
 | .ok X,N u=>av M A (u acc) (λX ni=>∃m,ni.heap.Ns C m/\∀h',Dg C ni.heap h'->Q .none {ni with heap:=h'}) E s'
 | .error x,X=>∃m,s'.heap.Ns C m/\∀h',Dg C s'.heap h'->∀cenv:cL,cenv.locals=C->av M A (passOn "comprehension.variables-let-go" x cenv:dJ aA) (λX I=>bV) E {s' with heap:=h'}
theorem Yt{M:jP}{scope:ly}{pos:gq}{g:Kc}{use:bq (aA->dJ rt)}{Q:aA->aE->Prop}
  (Am:clausesOf e=g::gs)(hs:∀x,pP g.iter G x=pure x)(aC7:aj8 scope G=pure cl)(RJ:scope.kind=.function)(aC8:∀x∈scope.names,x.2=.local->scope.names.lookup x.1=N .local)
  (h:av M A first (λx aF=>av M A (ry x) (λit cj=>av M A aC9 (λacc dU=>av M A (aj9 scope G.globals cl [] G.qual ao .none (N G)) (λcenv nV=>eG M A (.compStart e 0 it acc {cenv with scope:=Dh scope G}) (KV M A E use Q acc cenv.locals) nV) E dU) E cj) E aF) E s):
  av M A (Xi e scope G pos aC9 ak first use) Q E s:=by
 unfold Xi;rw[aC7,Am];refine dR h λx aF h₁=>at_ (aJ (iZ (hs x) (lI h₁ λit cj dw=>?_)));have body:∀{k:PUnit->dJ aA}{c:Prop}[Xc c]{ps:gq},av M A (k ()) Q E cj->av M A (if c then(sy ps>>=k)else k ()) Q E cj:=by
  intro k c _ ps q
  split
  ·exact at_ q
  ·exact q
 refine body (dR dw λacc dU ku=>aJ (bg (dR ku λcenv nV s_=>?_)));dsimp only
 have hv:∀x∈(scope.names.filter λx=>(x.2== .local||x.2== .cell)&&x.1 !=(".0":ai)).reverse,x.2=.local->PR {cenv with scope:=Dh scope G} x.1=N .local:=
  λx hx hl=>lookup_relabel_local (aC8 x (F5.mp (Xj.mp hx)).1 hl)
 refine iP (aJ (Yn (iP (Yo rfl (Yl s_ λr s' hr=>?_) nb))));induction r with
 |ok f=>
  induction use with
  |none=>refine b_ hr λm hx=>?_;have hn:=hx.1;have hr:=hx.2;exact aJ (iP (aZ (ak0 (cenv:={cenv with scope:=Dh scope G}) RJ _ s' m hv hn λh' m' X pS=>bg (hr h' pS))))
  |some u=>refine aJ (sO (lI hr λX ni HC=>?_));refine b_ HC λm hx=>?_;have hn:=hx.1;have HC:=hx.2;exact aJ (aZ (ak0 (cenv:={cenv with scope:=Dh scope G}) RJ _ ni m (λx hx hl=>(gK.mp hx).elim (λh1=>hv x (List.mem_of_mem_drop h1) hl) (λh1=>hv x (ak1 h1) hl)) hn λh' m' X pS=>bg (HC h' pS)))
 |error x=>
  have HC:∃m,s'.heap.Ns cenv.locals m/\∀h',Dg cenv.locals s'.heap h'->∀Zy:cL,Zy.locals=cenv.locals->av M A (passOn "comprehension.variables-let-go" x Zy:dJ aA) (λX I=>bV) E {s' with heap:=h'}:=by cases use<;>exact hr
  refine b_ HC λm hx=>?_;have hn:=hx.1;have hr:=hx.2;exact aJ (iP (aZ (ak0 (cenv:={cenv with scope:=Dh scope G}) RJ _ s' m hv hn λh' m' X pS=>gG (hr h' pS _ rfl) (λX I z=>z.elim) λX I y=>y)))
theorem au5{body}(h:av (aP prog w) (A.deeper G) (A_ body G) (λg s'=>R (.ok (.ret (match g with| .ret v=>v|X=>.none))) s')
   (λe s'=>av (aP prog w) (A.deeper G) (leaving G e) (λX ni=>R (.error e) ni) (λe' ni=>R (.error e') ni) s') s):eG (aP prog w) A (.func body G) R s:=by
 refine m_ ?_
 show av _ (A.deeper G) (point>>=λX=>(A_ body G).onRaise (leaving G)>>=λg=>match g with| .ret v=>su v|X=>su .none) _ _ s
 refine aJ (KQ (aJ (DG (gG h (λg s' q=>?_) λX I q=>q))));cases g<;>exact bg q
theorem au6{o:fH}{fd:C9}(aD0:A.depth<cp3)(ho:s.heap.get? a=N o)(RK:o.data=.func fd)(jV:fd.scope.isCoroutine=ak)(aD1:fd.scope.isGenerator=ak)(aD2:fd.body=.stmts body)(hcd:s.heap.CodeRec fd.code fd.qualname)
  (h:av (aP prog w) A.in1 (Be fd args) (λai2 aF=>av (aP prog w) A.in1 (aj9 fd.scope fd.globals fd.closure ai2 (fd.qualname++ ".<locals>.") (N a) fd.code ao fd.builtins)
    (λG cj=>cj.heap.NoLimit/\eG (aP prog w) A (.func body G) R cj) (λe s'=>R (.error e) s') aF) (λe s'=>R (.error e) s') s):eG (aP prog w) A (.call (.ref a) args) R s:=by
 refine m_ ?_
 show av _ A.in1 (F0 a>>=_) _ _ s
 refine aJ (aZ (zK ho ?_));refine b_ hcd λc hx=>?_;refine b_ hx λoc hx=>?_;refine b_ hx λvs hx=>?_;refine b_ hx λtq hx=>?_;have hc:=hx.1;have hoc:=hx.2.1;have hdc:=hx.2.2.1;have hq:=hx.2.2.2;rw[RK]
 show av _ A.in1 (ak2 a fd args) _ _ s
 delta ak2;rw[jV,aD1,aD2];rw[hc]at h|-
 refine aJ (m:=field (.ref c) 1) (aZ (Xk hoc hdc hq (aJ (bg ?_))));exact dR h λai2 aF q=>dR q λG cj q=>aJ (aZ (wpAny_enterFrame q.1 aD0 (bg (rz ⟨rfl,rfl⟩ q.2))))
theorem QM{M:jP}(h:av M A (ru ((ak,x)::dg)) (λvs s'=>Q ⟨vs,[]⟩ s') E s):av M A (Ke g ah ((ak,x)::dg) []) Q E s:=by
 unfold Ke
 show av M A (ru ((ak,x)::dg)>>=_) Q E s
 exact dR h λvs s' q=>iP (aJ (bg (aJ (bg (bg q)))))
theorem Zz{M:jP}(h:av M A (ru []) (λvs s'=>Q ⟨vs,[]⟩ s') E s):av M A (Ke g ah [] []) Q E s:=by
 unfold Ke
 show av M A (ru []>>=_) Q E s
 exact dR h λvs s' q=>aJ (bg (iP (aJ (bg (aJ (bg (bg q)))))))
theorem au7{M:jP}{g:aA}{first:J aA}{pos:gq}{Q:aA->aE->Prop}{P:dH->Prop}{args:J (aD×dJ aA)}{keywords:J (bq ai×dJ aA)}(RL:(args.any (·.1)||keywords.any (·.1.isNone))=ak)
  (S:∀h,P h->∃k,(k=Keeper.frame\/k=Keeper.machine\/k=Keeper.boundFrame)/\wA M h (Xl g) k)
  (h:av M A (Ke g ah args keywords) (λa aF=>P aF.heap/\av M A (fF g (first++a.pos) a.kw) Q E aF) E s):av M A (vn pos g first args keywords) Q E s:=by
 delta vn;rw[RL];refine lI h λa aF q=>at_ ?_;obtain⟨k,hk',L⟩:=S _ q.1;refine aJ (aZ (L.here ?_));have tail:∀{t:dJ aA},av M A t Q E aF->av M A (t>>=λr=>A9 [r] point>>=λX=>pure r) Q E aF:=λht=>dR ht λr cj q=>lI (KQ q) λX I q=>bg q;have marked (mk:aA):av M A (callMarked mk g (first++a.pos) a.kw) Q E aF:=ar0 q.2
 rcases hk' with rfl|rfl|rfl
 ·exact Zt (tail q.2) (tail (marked _))
 ·exact tail q.2
 ·exact Zt (tail q.2) (tail (marked _))
theorem ZA{M:jP}{args:J (aD×dJ aA)}(RL:args.any (·.1)=ak)(hg:Xl g=pure .machine)
  (h:av M A (Ke g ah args []) (λa aF=>av M A (fF g (first++a.pos) a.kw) Q E aF) E s):av M A (vn pos g first args []) Q E s:=by
 delta vn;rw[show(args.any (·.1)||([]:J (bq ai×dJ aA)).any (·.1.isNone))=ak by rw[RL];rfl,hg]
 exact lI h λa aF q=>at_ (aJ (bg (dR q λr cj q=>lI (KQ q) λX I q=>bg q)))
theorem au8{M:jP}(h:av M A x (λv aF=>av M A (ru dg) (λvs cj=>Q (v::vs) cj) E aF) E s):av M A (ru ((ak,x)::dg)) Q E s:=by rw[ru];refine dR h λv aF q=>?_;simp only[ak3,PT];exact aJ (bg (lI q λvs cj q=>bg q))
theorem au9{M:jP}(h:av M A t (λv aF=>av M A (fF (.type T) [v]) Q E aF) E s):av M A (vn pos (.type T) [] [(ak,t)] []) Q E s:=
 ZA rfl rfl (QM (au8 (gG h (λX I q=>bg q) λX I z=>z)))
theorem av0{x1}{pos:gq}{eX:cT aA}(hh:A.handled=ao)(ht:s.heap.IsTuple t eX)(hn:(Xm iM G).length=eX.size)(aD3:(Xm iM G).findIdx? (·.1)=ao)
  (h:∀h',Heap.ExtBut s.heap.objs.size s.heap h'->av (aP prog w) A (PK ((Xm iM G).map (·.2)) eX.toList) Q E {s with heap:=h'}):av (aP prog w) A (sC (.Tuple iM x1 pos) G (.ref t)) Q E s:=by
 rw[arm_assign_Tuple];refine at_ ?_;unfold unpack;rw[hn,aD3];exact aJ (iP (aZ (cp4 hh ht h)))
end
noncomputable def aD4:Ctx:=⟨.builtin "claim.caller" {},ao,ao,[],ao⟩
theorem aD5:wI aD4:=⟨by decide+kernel,λx hx=>nomatch hx⟩
theorem aD6{Γ:Ctx}{A:cQ}{M:jP}{t:dJ Fin}{R:nM->aE->Prop}{s:aE}(gY:Γ.In A)(hc:wI Γ)
  (h:av M A t (λcH s'=>∃f,cH=.done f/\R (.ok f) s') (λe s'=>R (.error e) s') s)(p:gq):Sem.wp M Γ t (Sem.finPost M Γ R) (λe X s'=>R (.error e) s') p s:=by
 refine J4 M Γ t (λcH p' s' ⟨f,e,h⟩=>?_) (λX I u2 h=>h) p s (h Γ p gY hc);subst e;exact h
theorem aD7{prog:iU}{w:bU}{t:dJ Fin}{s:aE}{R:nM->aE->Prop}(aD8:s.asleep)
  (h:av (aP prog w) PU t (λcH s'=>∃f,cH=.done f/\(R (.ok f) s'/\ak4 s'.gens=ak)) (λe s'=>R (.error e) s'/\ak4 s'.gens=ak) s):
  ∃n r s' ni,runN (pO nK) prog w n s ⟨t,.builtin "claim.caller" {},default,[]⟩=.halted (Xn r) s'/\
   schedN (pO nK) prog w n (.single s ⟨t,.builtin "claim.caller" {},default,[]⟩)=.halted (Xn r) s'/\s'.forget=ni.forget/\R r ni:=by
 refine kK λGx gI=>?_;obtain⟨n,r,aF,cj,hs,hn,hfo,hR⟩:=wp_halts_full (M:=aP prog w) (R:=R) aD8 (aD6 (R:=λr s'=>R r s'/\ak4 s'.gens=ak) caller_in aD5 h default);refine gI ?_;exact⟨n,r,cj,aF,hn,hs,hfo,hR⟩
theorem ex5{α β γ δ ε:Type}{A:α->β->Prop}{B:α->β->γ->δ->ε->Prop}(a:α)(b:β)(c:γ)(d:δ)(e:ε)(h:A a b)(g:B a b c d e):∃a b,A a b/\∃c d e,B a b c d e:=⟨a,b,h,c,d,e,g⟩
theorem aD9{c:ClaimW}{tree:J aA->dJ Fin}{w:bU}{s:aE}{free:aR->Prop}{lP:Prop}{JY:dH->Prop}(hz:s.asleep)(aE0:s.gens=#[])
  (aE1:∀args,c.pre args=ah->WData.layableAll args=ah->
   ∀ord:J jN->J jN,(∀l,(ord l).Perm l)->
   ∃vs aF,Kf c.records (classAt s.heap) w.params ord args s=N (vs,aF)/\
    av (aP c.prog w) PU (tree vs) (λcH s'=>∃f,cH=.done f/\(c.Ends s args vs aF (.ok f) s'/\s'.os=s.os/\Xo s'.gens/\JY s'.heap))
     (λe s'=>c.Ends s args vs aF (.error e) s'/\s'.os=s.os/\Xo s'.gens/\JY s'.heap) aF):
  c.CallFrom (λvs=>⟨tree vs,.builtin "claim.caller" {},default,[]⟩) w free lP JY s:=by
 intro args BX RM ord My;refine kK λb4 hG=>?_;refine(aE1 args BX RM ord My).elim λvs h=>h.elim λaF h=>?_;have HD:=layAllW_rest _ _ _ h.1;refine(aD7 (prog:=c.prog) (w:=w) (t:=tree vs) (s:=aF) (R:=λr s'=>c.Ends s args vs aF r s'/\s'.os=s.os/\JY s'.heap) (aj2 HD.2.2.2 hz)
  (gG h.2 (λcH s' g=>g.elim λf g=>⟨f,g.1,⟨g.2.1,g.2.2.1,g.2.2.2.2⟩,cp5 g.2.2.2.1⟩) λe s' g=>⟨⟨g.1,g.2.1,g.2.2.2⟩,cp5 g.2.2.1⟩)).elim λk g=>g.elim λr g=>g.elim λs' g=>g.elim λni g=>?_
 have q:=Shared.forget_eq g.2.2.1;refine hG (ex5 vs aF k _ s' h.1 ⟨g.2.1,?_,(λX i x hx=>by rw[aE0]at hx;simp at hx),(by first|exact q.1▸g.2.2.2.2.2|(rw[q.1];exact g.2.2.2.2.2)),bR (·.seen) ((runN_life _ _ _ g.1).trans HD.2.2.2),co3 (q.2.2.2.1▸g.2.2.2.2.1)⟩)
 exact(g.2.2.2.1.congr q.1).imp (λe=>e.imp λv e=>⟨bR Xn e.1,e.2.1,e.2.2.1,e.2.2.2.1,λb o y X=>e.2.2.2.2.1 b o y,e.2.2.2.2.2⟩) λe=>e.imp λx e=>e.imp λob e=>e.imp λcls e=>⟨bR Xn e.1,e.2.1,e.2.2.1,e.2.2.2.1,e.2.2.2.2.1,λb o y X=>e.2.2.2.2.2 b o y⟩
end
end Wm
namespace Wh
def ZC:Prop:=∀(w:bU)(bJ s aF:aE),cu w bJ s->(∀b o,s.heap.get? b=N o->aF.heap.get? b=N o)->aF.gens=#[]->
 ∀(a:aR)(xs:J (aa×H))(n:H),s.heap.objs.size<=a->aF.heap.get? a=N ⟨.type "list",ao,.seq (xs.map λx=>Xp x.1 x.2).toArray n,#[]⟩->xs.length<=63->
 Wm.av (aP pw w) PU (cp6 (.ref 1456) [.ref a]) (λv s'=>v=.bool ah/\OldK aF.heap s'.heap/\s'.os=aF.os/\Xo s'.gens) (λX I=>bV) aF
theorem aE2{R:WRecords}{cl:ai->bq aR}{P:fG}{ord:J jN->J jN}{ds:J WData}{s aF:aE}{vs:J aA}(h:Kf R cl P ord [.list ds] s=N (vs,aF)):
  ∃a ws n,vs=[.ref a]/\aF.heap.get? a=N ⟨.type "list",ao,.seq ws n,#[]⟩:=by
 unfold Kf layW at h
 cases e:Kf R cl P ord ds s with
 |none=>rw[e]at h;cases h
 |some r=>
  rw[e]at h
  simp[Kf]at h
  obtain⟨rfl,rfl⟩:=h;exact⟨_,r.1.toArray,_,rfl,lY _ rfl⟩
theorem aE3{R:WRecords}{cl:ai->bq aR}{P:fG}{ord:J jN->J jN}{ds:J WData}{s aF:aE}{vs:J aA}{as:J aR}(h:Kf R cl P ord [.list ds] s=N (vs,aF))(r:aj5 R cl aF.heap vs [.list ds] as)
  (Mz:∀a∈as,s.heap.objs.size<=a)(hd:(ds.all λd=>PG R d .int)=ah)(hl:ds.length<=63):
  ∃a,∃xs:J (aa×H),∃n:H,vs=[.ref a]/\s.heap.objs.size<=a/\aF.heap.get? a=N ⟨.type "list",ao,.seq (xs.map λx=>Xp x.1 x.2).toArray n,#[]⟩/\xs.length<=63:=by
 refine(aE2 h).elim λa g=>g.elim λws g=>g.elim λn g=>?_;have e:=g.1;subst e;cases r with
 |cons q r=>refine(aB5 q ds rfl).elim λb k=>k.elim λvs k=>k.elim λn' k=>k.elim λbs k=>k.2.2.1.elim λo k1=>(ints_of k.2.2.2 hd).elim λxs hx=>?_;have e:a=b:=Value.ref.inj k.1;subst e;have e2:=(bR (Di (·.data)) (g.2.symm.trans k1.1)).trans (bR N k1.2);have e3:ws=vs:=(Data.seq.inj (fW e2)).1;have e4:ws=(xs.map λx=>Xp x.1 x.2).toArray:=e3.trans (cp7.mp (hx.1.trans (ak5 ..).symm));exact⟨a,xs,n,rfl,Mz a (iN _ (k.2.1▸ .head _)),e4▸g.2,bN (iW hx.2) hl⟩
theorem aE4(aE5:zH.wellSaid=ah)(aE6:zH.row.wellSaid=ah)(fF:ZC):zH.Holds:=by
 refine⟨aE5,aE6,Za,⟨aB7,aB6,rfl⟩,Za.witness,λw=>⟨(Y0 w).1,λs' pS=>?_⟩⟩;refine kK λb4 hG=>?_;refine((Y0 w).2 s' pS).elim λbJ g=>g.2.2.elim λs g3=>?_;have hS:=g3.1;have hT:TopRan pw w bJ s:=hS.aB3 g3.2.2.1 g3.2.2.2.1 g3.2.2.2.2;refine hG ⟨bJ,g.1,by rw[hS.Z],s,hT,λn hn=>?_,λx hx=>(nomatch hx),λx hx=>(nomatch hx),?_⟩
 ·obtain rfl:n= "law":=fN.mp hn;exact hS.aB2
 refine Wm.aD9 (c:=K_) (tree:=λvs=>do match<-nsGet PA "law" with
   |some f=>do su (<-cp6 f vs)
   |none=>zG "claim.caller:no-such-global") g3.2.1 hS.at_.gens λargs BX RM ord My=>?_
 refine kK λb4 hG=>?_;refine(aB8 BX).elim λds d=>?_;have e:=d.1;subst e;refine(co1.mp (layAllW_isSome (R:=[]) (cl:=classAt s.heap) (P:=w.params) (ord:=ord) (λc hc=>by simp[WRecords.fields?]at hc) [.list ds] [.list .int] s (pre_splitW (r:=zH.row.toRowW) BX).1)).elim λp En=>?_
 have JZ:=layAllW_keeps _ _ _ En;have HD:=layAllW_rest _ _ _ En;refine(reads_layAllW My _ _ _ En RM p.2.heap (λX I e=>e)).elim λas rd=>?_;have L:Laid [] w s p.2 [.list ds] p.1 as:=⟨⟨ord,My,En⟩,rd.1,rd.2.1,rd.2.2,JZ,HD.1.trans hS.at_.gens,HD.2.2.1⟩;refine(aE3 En rd.1 (λa m=>(rd.2.1.2.2 a m).1) d.2.1 d.2.2).elim λa ll=>ll.elim λxs ll=>ll.elim λn ll=>?_;have hN:p.2.heap.Ns qx (s.heap.nsMap qx):=(Xq hS.wV).keeps JZ;have aE7:s.heap.nsMap qx "law"=N (.ref 1456):=(W9 (z6 hS.g3) _).trans (Y_ _);refine hG ⟨p.1,p.2,En,Wm.aJ (Wm.aZ (wpAny_nsGet hN ?_))⟩;rw[aE7,ll.1];refine Wm.aJ (Wm.gG (fF w bJ s p.2 hS JZ L.gens a xs n ll.2.1 ll.2.2.1 ll.2.2.2) (λu s' g=>?_) λX I x=>x.elim);have e:=g.1;subst e;have z:=GoodWG.laid (c:=K_) (g:=(⟨.inl ⟨.bool ah,.bool ah,[],rfl,λX=>rfl,.bool ah,by kernel_rfl,λX=>⟨.nil,λX h=>nomatch h⟩⟩,g.2.1,g.2.2.1,g.2.2.2⟩:GoodWG K_ (classAt s.heap) (ExcName.means s.heap) [.list ds] p.2 (.ok (.ret (.bool ah))) s')) rfl rfl (ident_freeW (r:=zH.row.toRowW) rfl rfl rfl) L
 rw[ll.1]at z
 exact Wm.bg ⟨_,rfl,z.1,z.2.1,z.2.2,λq=>nomatch q⟩
end Wh
namespace Wm
noncomputable def gw:H->J O->bq O
 |X,[]=>ao
 |0,o::X=>N o
 |n+1,X::r=>gw n r
noncomputable def eO(o:O):H->J O->J O
 |X,[]=>[]
 |0,X::r=>o::r
 |n+1,x::r=>x::eO o n r
noncomputable def uG:H->J H->H
 |X,[]=>0
 |0,o::X=>o
 |n+1,X::r=>uG n r
noncomputable def len{α:Type}:J α->H
 |[]=>0
 |X::r=>vo (len r)
noncomputable def eK(a:H):J H->aD
 |[]=>ak
 |b::r=>match bX a b with|true=>ah|false=>eK a r
noncomputable def qP(a:H):J H->H
 |[]=>0
 |b::r=>match bX a b with|true=>0|false=>vo (qP a r)
noncomputable def um:H->H->J H
 |X,0=>[]
 |a,n+1=>a::um (a+1) n
noncomputable def V.refs(v:V):J H:=match v with
 | .ref h=>[h]
 | .pr X h=>[h]
 |X=>[]
def RN(ov:bq V):J H:=match ov with
 |some v=>v.refs
 |none=>[]
def jA.refs(s:jA):J H:=match s with
 | .L ov=>RN ov
 | .C h=>[h]
def An(l:J V):J H:=l.flatMap V.refs
def RO(l:J (ai×V)):J H:=l.flatMap λp=>p.2.refs
def Ao(m:Fm):J H:=m.flatMap λp=>p.2.refs
def O.refs(o:O):J H:=match o with
 | .vl vs=>An vs
 | .inst X fs=>RO fs
 | .cell ov=>RN ov
 | .frame X m=>Ao m
 |X=>[]
noncomputable def tw(n:H):J H->aD
 |[]=>ah
 |a::r=>match nJ (vo a) n with|true=>tw n r|false=>ak
def lU(l:J O):J H:=l.flatMap O.refs
noncomputable def V.fL(f:H->H)(v:V):V:=match v with
 | .ref h=>.ref (f h)
 | .pr x h=>.pr x (f h)
 |v=>v
def MA(f:H->H)(ov:bq V):bq V:=match ov with
 |some v=>N (v.fL f)
 |none=>ao
def jA.fL(f:H->H)(s:jA):jA:=match s with
 | .L ov=>.L (MA f ov)
 | .C h=>.C (f h)
def BY(f:H->H)(l:J V):J V:=l.map (V.fL f)
def aE8(f:H->H)(p:ai×V):ai×V:=match p with|(x,v)=>(x,v.fL f)
def BZ(f:H->H)(l:J (ai×V)):J (ai×V):=l.map (aE8 f)
def aE9(f:H->H)(p:ai×jA):ai×jA:=match p with|(x,v)=>(x,v.fL f)
def ZD(f:H->H)(m:Fm):Fm:=m.map (aE9 f)
def O.fL(f:H->H)(o:O):O:=match o with
 | .vl vs=>.vl (BY f vs)
 | .inst c fs=>.inst c (BZ f fs)
 | .cell ov=>.cell (MA f ov)
 | .frame cs m=>.frame cs (ZD f m)
 |o=>o
def qQ(f:H->H)(l:J O):J O:=l.map (O.fL f)
def jQ(o:J O):J H->J O
 |[]=>[]
 |h::r=>(match gw h o with|some x=>x|none=>.gone)::jQ o r
def wJ(o:J O):H->J H->J H->J H
 |0,X,acc=>acc
 |X+1,[],acc=>acc
 |n+1,h::t,acc=>match eK h acc with
  |true=>wJ o n t acc
  |false=>wJ o n ((match gw h o with|some x=>x.refs|none=>[])++t) (acc++[h])
def MB:J H->aD
 |[]=>ah
 |a::r=>match eK a r with|true=>ak|false=>MB r
def HE(l m:J H):aD:=match l with
 |[]=>ah
 |a::r=>match eK a m with|true=>HE r m|false=>ak
def Aq:J H->J O->J O->J O
 |h::r,x::t,o=>Aq r t (eO x h o)
 |[],t,o=>o++t
 |X,[],o=>o
noncomputable def Eo:H:=200
noncomputable def l7{α:Type}:H->J α->J α
 |0,X=>[]
 |X+1,[]=>[]
 |n+1,x::r=>x::l7 n r
def tB:H->(H->Prop)->Prop
 |0,k=>k 0
 |n+1,k=>tB n λm=>k (vo m)
def B0{α:Type}(f:α->(α->Prop)->Prop):J α->(J α->Prop)->Prop
 |[],k=>k []
 |a::r,k=>f a λa=>B0 f r λr=>k (a::r)
def Ep:=B0 tB
def uH(v:V)(k:V->Prop):Prop:=match v with
 | .ref h=>tB h λh=>k (.ref h)
 | .pr x h=>tB h λh=>k (.pr x h)
 |v=>k v
def RP:=B0 uH
def RQ(ov:bq V)(k:bq V->Prop):Prop:=match ov with
 |some v=>uH v λv=>k (N v)
 |none=>k ao
def aF0(p:ai×V)(k:ai×V->Prop):Prop:=match p with|(x,v)=>uH v λv=>k (x,v)
def ZE(p:ai×jA)(k:ai×jA->Prop):Prop:=match p with
 |(x,s)=>(match s with
  | .L ov=>RQ ov λov=>k (x,.L ov)
  | .C h=>tB h λh=>k (x,.C h))
def ZF(o:O)(k:O->Prop):Prop:=match o with
 | .inst c fs=>B0 aF0 fs λfs=>k (.inst c fs)
 | .cell ov=>RQ ov λov=>k (.cell ov)
 |o=>k o
def lV:=B0 ZF
def rO(Z:St)(k:St->Prop):Prop:=B0 ZE Z.m λm=>lV Z.o λo=>k ⟨m,o⟩
theorem yt(n:H):∀k:H->Prop,tB n k=k n:=by
 induction n with
 |zero=>exact λX=>rfl
 |succ n ih=>exact λk=>ih _
theorem HF{α:Type}{f:α->(α->Prop)->Prop}(h:∀a k,f a k=k a)(l:J α):∀k:J α->Prop,B0 f l k=k l:=by
 induction l with
 |nil=>exact λX=>rfl
 |cons a r ih=>exact λk=>(h _ _).trans (ih _)
theorem HG(l:J H)(k:J H->Prop):Ep l k=k l:=HF yt ..
theorem w_(v:V)(k:V->Prop):uH v k=k v:=by
 induction v with
 |ref h=>exact yt h λh=>k (.ref h)
 |pr x h=>exact yt h λh=>k (.pr x h)
 |_=>rfl
theorem RS(l:J V)(k:J V->Prop):RP l k=k l:=HF w_ ..
theorem ZG(v:bq V)(k:bq V->Prop):RQ v k=k v:=by
 induction v with
 |none=>rfl
 |some v=>exact w_ v λv=>k (N v)
theorem aF1(p:ai×jA)(k:ai×jA->Prop):ZE p k=k p:=by
 obtain⟨x,s⟩:=p;induction s with
 |L ov=>exact ZG ov λov=>k (x,.L ov)
 |C h=>exact yt h λh=>k (x,.C h)
theorem aF2(o:O)(k:O->Prop):ZF o k=k o:=by
 induction o with
 |inst c fs=>exact HF (λp k=>w_ p.2 λv=>k (p.1,v)) fs λfs=>k (.inst c fs)
 |cell ov=>exact ZG ov λov=>k (.cell ov)
 |_=>rfl
theorem o7(l:J O)(k:J O->Prop):lV l k=k l:=HF aF2 ..
theorem yy(Z:St)(k:St->Prop):rO Z k=k Z:=(HF aF1 ..).trans (o7 ..)
abbrev Tr:=J V->J O->(V->J O->Prop)->Prop
def xd(o:J O)(args:J V)(ρ:J H):aD:=
 match MB ρ with
 |true=>(match tw (len o) ρ with
  |true=>(match HE (An args) ρ with
   |true=>HE (lU (jQ o ρ)) ρ
   |false=>ak)
  |false=>ak)
 |false=>ak
def RT(ρ:J H)(o:J O)(k:V->J O->Prop)(v:V)(o':J O):Prop:=
 match tw (len o') (v.refs++lU o')with
 |true=>Ep (ρ++um (len o) (len o' -len ρ)) λHH=>uH (v.fL λi=>uG i HH) λv=>lV (Aq ρ (qQ (λi=>uG i HH) o') o) λo=>k v o
 |false=>bV
def yz(T:Tr)(args:J V)(o:J O)(k:V->J O->Prop):Prop:=
 Ep (wJ o Eo (An args) []) λρ=>
 match xd o args ρ with
 |true=>RP (BY (λh=>qP h ρ) args) λargs=>lV (qQ (λh=>qP h ρ) (jQ o ρ)) λo1=>T args o1 (RT ρ o k)
 |false=>bV
def B3(m:H)(v:V)(o:J O)(k:V->J O->Prop):Prop:=
 Ep (wJ o Eo (v.refs++lU (l7 m o)) (um 0 m)) λρ=>
 match xd o [v] ρ with
 |true=>uH (v.fL λh=>qP h ρ) λv=>lV (qQ (λh=>qP h ρ) (jQ o ρ)) λo=>k v o
 |false=>bV
noncomputable def Ar:H->J H->H
 |m,[]=>m
 |m,a::r=>match nJ (vo a) m with|true=>Ar m r|false=>Ar (vo a) r
theorem ZH(l:J H):∀m:H,m<=Ar m l:=by
 induction l with
 |nil=>exact λX=>jO _
 |cons a r ih=>
  intro m;have go:∀q,nJ (vo a) m=q->m<=(match q with|true=>Ar m r|false=>Ar (vo a) r):=λq e=>by
   cases q
   ·exact bN (mX (W_ λh=>absurd ((cp8 h).symm.trans e) gr)) (ih _)
   ·exact ih _
  exact go _ rfl
def jJ(m:H)(Z:St):St:=match tw m (Ao Z.m++lU (l7 m Z.o))with
 |true=>⟨Z.m,l7 m Z.o⟩
 |false=>match tw (Ar m (Ao Z.m++lU (l7 m Z.o))) (Ao Z.m++lU (l7 (Ar m (Ao Z.m++lU (l7 m Z.o))) Z.o))with
  |true=>⟨Z.m,l7 (Ar m (Ao Z.m++lU (l7 m Z.o))) Z.o⟩
  |false=>Z
def nt(m:H)(v:V)(Z:St):St:=match tw m (v.refs++Ao Z.m++lU (l7 m Z.o))with
 |true=>⟨Z.m,l7 m Z.o⟩
 |false=>Z
noncomputable def nW:J V->bq (J D)
 |[]=>N []
 | .d x::r=>(match nW r with|some ds=>N (x::ds)|none=>ao)
 |X::I=>ao
noncomputable def rP{α β:Type}(g:α->bq β):J α->bq (J β)
 |[]=>N []
 |v::r=>match g v with
  |some x=>(rP g r).map (x::·)
  |none=>ao
noncomputable def ZI(g:V->bq D)(p:ai×V):bq (ai×D):=match p with|(a,v)=>(g v).map (a,·)
def ZJ(g:V->bq D)(y:O):bq D:=match y with
 | .dl ds=>N (.list ds)
 | .vl vs=>(rP g vs).map .list
 | .inst c fs=>(rP (ZI g) fs).map (.obj c)
 |X=>ao
def tC(o:J O):H->V->bq D
 |0,X=>ao
 |n+1,v=>match v with
  | .d x=>N x
  | .ref h=>(match gw h o with
   |some y=>ZJ (tC o n) y
   |none=>ao)
  |X=>ao
def mH:J H->J O->J O
 |[],o=>o
 |h::r,o=>mH r (eO .gone h o)
def HJ(v:V)(o:J O)(k:V->J O->Prop):Prop:=
 Ep (wJ o Eo v.refs []) λρ=>
 match xd o [v] ρ with
 |true=>(match tC o 20 v with
  |some x=>lV (mH ρ o) λo=>k (.d x) o
  |none=>bV)
 |false=>bV
def dh(q:aD)(a b:Prop):Prop:=@Bool.rec (λX=>Prop) b a q
theorem aF3{a b:Prop}(h:q=ah->a)(g:q=ak->b):dh q a b:=by cases q;exact g rfl;exact h rfl
theorem gZ{a b:Prop}(h:q=ah->a)(g:q=ak->b):@Bool.rec (λX=>Prop) b a q:=aF3 h g
noncomputable def fJ(l:J H):J D:=l.map λ(n:H)=>D.int n
noncomputable def uI{α:Type}:J α->H->bq α
 |[],X=>ao
 |v::X,0=>N v
 |X::r,n+1=>uI r n
noncomputable def f9{α:Type}:J α->aD
 |[]=>ah
 |X::I=>ak
def iD(x:D)(k:aa->Prop):Prop:=match x with| .int i=>k i|X=>bV
def sD(x:D)(k:ai->Prop):Prop:=match x with| .str i=>k i|X=>bV
def tD(x:D)(k:J D->Prop):Prop:=match x with| .tup i=>k i|X=>bV
def lD(x:D)(k:J D->Prop):Prop:=match x with| .list i=>k i|X=>bV
def iS(a:V)(k:D->Prop):Prop:=match a with| .d x=>k x|X=>bV
def jl(a:V)(k:aa->Prop):Prop:=iS a λx=>iD x k
def hO(a:V)(k:H->Prop):Prop:=match a with| .ref h=>k h|X=>bV
def oz(l:J V)(k:V->Prop):Prop:=match l with
 |[]=>bV
 |x::r=>(match r with|[]=>k x|X::I=>bV)
def Er(l:J V)(k:V->V->Prop):Prop:=match l with
 |[]=>bV
 |x::r=>oz r λy=>k x y
def MC(l:J V)(k:Prop):Prop:=match l with
 |[]=>k
 |X::I=>bV
def RU(vs:J V)(k:V->Prop):Prop:=match nW vs with
 |some ds=>k (.d (.tup ds))
 |none=>Er vs λa b=>iS a λx=>hO b λh=>k (.pr x h)
def jK{α:Type}(o:bq α)(k:α->Prop):Prop:=match o with|some x=>k x|none=>bV
def gO(h:H)(o:J O)(k:O->Prop):Prop:=jK (gw h o) k
def HK(x:O)(k:J D->Prop):Prop:=match x with| .dl ds=>k ds|X=>bV
def RV(x:O)(k:J H->Prop):Prop:=match x with| .ba ds=>k ds|X=>bV
noncomputable def ZK:V->aD
 | .d (.tup X)=>ah
 |X=>ak
noncomputable def isI:V->aD
 | .d (.int X)=>ah
 |X=>ak
def Br(v:V)(o:J O)(k:J D->Prop):Prop:=match v with
 | .d x=>lD x k
 | .ref h=>gO h o λx=>HK x k
 |X=>bV
def vK(v:V)(o:J O)(k:J D->Prop):Prop:=dh (ZK v) (iS v λx=>tD x k) (Br v o k)
noncomputable def isB:V->aD
 | .d (.bytes X)=>ah
 |X=>ak
def bD(x:D)(k:J H->Prop):Prop:=match x with| .bytes i=>k i|X=>bV
def HL(v:V)(o:J O)(k:J D->Prop):Prop:=dh (isB v) (iS v λx=>bD x λl=>k (fJ l)) (vK v o k)
def MD(ds:J D)(k:J H->Prop):Prop:=∃l,ds=fJ l/\(∀n∈l,n<256)/\k l
def QN(v:V)(o:J O)(k:J H->Prop):Prop:=match v with
 | .d x=>(match x with
  | .bytes l=>k l
  | .list ds=>MD ds k
  |X=>bV)
 | .ref h=>gO h o λx=>(match x with
  | .ba l=>k l
  | .dl ds=>MD ds k
  |X=>bV)
 |X=>bV
def ZL(op:Xa)(a b:aa)(k:aa->Prop):Prop:=match op with
 | .Add=>k (a+b)
 | .Sub=>k (a -b)
 | .Mult=>(a.natAbs<2^64/\b.natAbs<2^64)/\k (a*b)
 | .Mod=>b≠0/\k (a.fmod b)
 | .FloorDiv=>(b≠0/\b.natAbs<2^128)/\k (a.fdiv b)
 | .BitAnd=>k (uc a b)
 | .BitOr=>k (PV a b)
 | .RShift=>0<=b/\k (a.fdiv (2^b.toNat))
 | .LShift=>(0<=b/\b<=100000/\a.natAbs<2^64)/\k (a*2^b.toNat)
 | .Pow=>(0<=b/\b<=100000/\a.natAbs<2^64)/\k (a^b.toNat)
 |X=>bV
def aF4(ds:J D)(k:D->Prop):Prop:=match ds with
 |[]=>bV
 |x::r=>(match r with|[]=>k x|X::I=>bV)
def RW(op:Xa)(a b:V)(o:J O)(k:V->Prop):Prop:=dh (isI a) (jl a λi=>jl b λj=>ZL op i j λi=>k (.d (.int i))) (match op with
 | .Mult=>Br a o λds=>aF4 ds λx=>jl b λn=>(-(2^63)<=n/\n<=1048576)/\k (.d (.list (vh n.toNat x)))
 | .Add=>dh (ZK a) (iS a λx=>iS b λy=>tD x λa=>tD y λb=>(a++b).length<=1048576/\k (.d (.tup (a++b))))
  (Br a o λx=>Br b o λy=>(x++y).length<=1048576/\k (.d (.list (x++y))))
 |X=>bV)
def RX(E:D->Prop)(x:D):Prop:=match x with
 | .obj X I=>bV
 | .glob X=>bV
 | .tup vs=>∀v∈vs,E v
 | .list vs=>∀v∈vs,E v
 |X=>oV
def D.nu:H->D->Prop
 |0=>RX λX=>bV
 |n+1=>RX (D.nu n)
def ME(a b:D)(k:aD->Prop):Prop:=match a with
 | .int i=>(match b with| .int j=>k (decide (i=j))| .none=>k ak|X=>bV)
 | .str x=>sD b λy=>k (je x y)
 | .none=>(match b with| .none=>k ah| .int X=>k ak|X=>bV)
 |X=>bV
noncomputable def scl:D->aD
 | .int X=>ah
 | .str X=>ah
 | .none=>ah
 |X=>ak
def eqK(a b:D)(k:aD->Prop):Prop:=dh (scl a) (ME a b k) ((a=b/\a.nu 8)/\k ah)
def aF5:D->aD
 | .list ds=>f9 ds
 |X=>ak
def RY(a b:V)(o:J O)(k:aD->Prop):Prop:=iS b λy=>dh (aF5 y) (Br a o λds=>k (f9 ds)) (iS a λx=>eqK x y k)
def yC(x:D):J D->(aD->Prop)->Prop
 |[],k=>k ak
 |d::r,k=>ME d x λq=>yC x r λq'=>k (q||q')
noncomputable def qR{α:Type}(x:aa):J (aa×α)->bq α
 |[]=>ao
 |(y,a)::r=>match decide (x=y)with|true=>N a|false=>qR x r
def ZM{α:Type}(o:bq α)(k:Prop):Prop:=match o with|some X=>bV|none=>k
def MF{κ:Type}(a:D->(κ->Prop)->Prop)(lk:κ->J (κ×D)->bq D):J (D×D)->(J (κ×D)->Prop)->Prop
 |[],k=>k []
 |p::r,k=>a p.1 λi=>MF a lk r λl=>ZM (lk i l) (k ((i,p.2)::l))
def hdK(l:J (D×D))(k:D->Prop):Prop:=match l with
 |[]=>bV
 |p::X=>k p.1
def MG(es:J (D×D))(k:V->Prop):Prop:=hdK es λx=>match x with
 | .int X=>MF iD qR es λl=>k (.nO l)
 | .str X=>MF sD cG es λl=>k (.uq l)
 |X=>bV
noncomputable def yD{α:Type}:bq α->aD
 |some X=>ah
 |none=>ak
noncomputable def D.o8:D->aD
 | .none=>ah
 |X=>ak
def V.o8:V->aD
 | .d x=>x.o8
 |X=>ak
def tE(op:CmpOp)(a b:V)(o:J O)(k:aD->Prop):Prop:=match op with
 | .Eq=>RY a b o k
 | .NotEq=>RY a b o λq=>k (!q)
 | .Is=>dh b.o8 (k a.o8) bV
 | .IsNot=>dh b.o8 (k (!a.o8)) bV
 | .In=>(match b with
  | .nO es=>jl a λx=>k (yD (qR x es))
  | .uq es=>iS a λx=>sD x λx=>k (yD (cG x es))
  |b=>iS a λx=>vK b o λds=>yC x ds k)
 | .NotIn=>iS a λx=>vK b o λds=>yC x ds λq=>k (!q)
 | .Lt=>jl a λa=>jl b λb=>k (decide (a<b))
 | .LtE=>jl a λa=>jl b λb=>k (decide (a<=b))
 | .Gt=>jl a λa=>jl b λb=>k (decide (b<a))
 | .GtE=>jl a λa=>jl b λb=>k (decide (b<=a))
def As(v:V)(k:aD->Prop):Prop:=iS v λx=>match x with
 | .bool q=>k q
 | .int i=>k (!decide (i=0))
 |X=>bV
def ZN(a:V)(i:aa)(o:J O)(k:V->Prop):Prop:=match i with
 | .ofNat n=>HL a o λds=>jK (uI ds n) λx=>k (.d x)
 | .negSucc n=>dh (bX n 0) (vK a o λds=>∃l x,ds=l++[x]/\k (.d x)) bV
def RZ(a i:V)(o:J O)(k:V->Prop):Prop:=match a with
 | .nO es=>jl i λx=>∃v,qR x es=N v/\k (.d v)
 | .uq es=>iS i λx=>sD x λx=>∃v,cG x es=N v/\k (.d v)
 |a=>jl i λi=>ZN a i o k
def R0(a i:V)(o:J O)(k:V->Prop):Prop:=jl i λi=>HL a o λds=>0<=i/\i<ds.length/\∀x,ds[i.toNat]?=N x->k (.d x)
def ZO(ds:J D)(lo hi:bq aa)(k:V->Prop):Prop:=match lo with
 |some i=>(match hi with|none=>(1<=i/\i<=ds.length)/\k (.d (.tup (ds.drop i.toNat)))|some X=>bV)
 |none=>(match hi with|some i=>(0<=i/\i<=ds.length)/\k (.d (.tup (ds.take i.toNat)))|none=>bV)
def R1(a:V)(lo hi:bq aa)(k:V->Prop):Prop:=iS a λx=>match x with
 | .tup ds=>ZO ds lo hi k
 | .bytes l=>jK lo λi=>jK hi λj=>(0<=i/\i<=j/\j<=l.length)/\k (.d (.bytes ((l.take j.toNat).drop i.toNat)))
 |X=>bV
def oD(x:D)(k:J (ai×D)->Prop):Prop:=match x with| .obj X fs=>k fs|X=>bV
def R2(a:V)(x:ai)(o:J O)(k:V->Prop):Prop:=match a with
 | .d y=>oD y λfs=>jK (cG x fs) λv=>k (.d v)
 | .ref h=>gO h o λy=>(match y with
  | .inst X fs=>jK (cG x fs) k
  | .cur X=>dh (je x (az [97,116])) (∀i:aa,k (.d (.int i))) bV
  |X=>bV)
 |X=>bV
def HM:J D->(aD->Prop)->Prop
 |[],k=>k ak
 |x::r,k=>(match x with| .bool q=>HM r λq'=>k (q||q')|X=>bV)
def ZP(v:V)(o:J O)(k:H->Prop):Prop:=match v with
 | .d x=>(match x with
  | .tup ds=>k ds.length
  | .list ds=>k ds.length
  | .bytes ds=>k ds.length
  |X=>bV)
 | .ref h=>gO h o λy=>(match y with
  | .dl ds=>k ds.length
  | .vl ds=>k ds.length
  | .ba ds=>k ds.length
  |X=>bV)
 |X=>bV
def ZQ(l:J H)(k:H->Prop):Prop:=match l with
 |[]=>bV
 |x::r=>(match r with|[]=>k x|X::I=>bV)
def MH(b:Bi)(lv:aD)(args:J V)(o:J O)(k:V->J O->Prop):Prop:=match b with
 | .len=>oz args λv=>ZP v o λn=>k (.d (.int n)) o
 | .tuple=>oz args λv=>vK v o λds=>k (.d (.tup ds)) o
 | .list=>oz args λv=>HL v o λds=>dh lv (k (.ref (len o)) (o++[.dl ds])) (k (.d (.list ds)) o)
 | .bytes=>oz args λv=>QN v o λl=>k (.d (.bytes l)) o
 | .min=>Er args λa b=>jl a λa=>jl b λb=>dh (decide (b<a)) (k (.d (.int b)) o) (k (.d (.int a)) o)
 | .any=>oz args λa=>iS a λa=>lD a λds=>HM ds λq=>k (.d (.bool q)) o
 | .sorted=>oz args λa=>iS a λa=>lD a λds=>∃l:J aa,(ds=l.map .int/\l.length<64)/\∀l':J aa,l'.Perm l->l'.Pairwise (·<=·)->k (.d (.list (l'.map .int))) o
 | .ord=>oz args λa=>iS a λa=>sD a λx=>ZQ x.cps.toList λc=>k (.d (.int c)) o
 | .chr=>oz args λa=>jl a λi=>(0<=i/\i<=1114111)/\k (.d (.str (az [i.toNat]))) o
 | .bytearray=>MC args (k (.ref (len o)) (o++[.ba []]))
def R3:J D->(J H->Prop)->Prop
 |[],k=>k []
 |x::r,k=>sD x λx=>R3 r λl=>k (x.cps.toList++l)
noncomputable def yE:D->aD
 | .int X=>ah
 | .str X=>ah
 |X=>ak
structure Tb where
 gl:J (ai×V)
 fn:aR->Tr
inductive uJ where
 |fn (a:aR)|MI|MJ|MK|ML|MM|MO|MP
def R4(x:ai):bq uJ:=match je x (az [97,112,112,101,110,100])with
 |true=>N .MI
 |false=>(match je x (az [101,120,116,101,110,100])with
  |true=>N .MJ
  |false=>(match je x (az [112,111,112])with
   |true=>N .MK
   |false=>ao))
def ZR(x:ai):bq uJ:=match je x (az [97,112,112,101,110,100])with
 |true=>N .ML
 |false=>(match je x (az [101,120,116,101,110,100])with
  |true=>N .MM
  |false=>ao)
def MQ(c:aR)(x:ai):bq uJ:=match GV c x with|some f=>N (.fn f)|none=>ao
def HN(a:V)(x:ai)(o:J O):bq uJ:=match a with
 | .ref h=>(match gw h o with
  |some y=>(match y with
   | .dl X=>R4 x
   | .vl X=>R4 x
   | .ba X=>ZR x
   | .inst c X=>MQ c x
   | .cur X=>MQ qf x
   |X=>ao)
  |none=>ao)
 | .d y=>(match y with
  | .obj c X=>MQ c x
  | .tup X=>(match je x (az [105,110,100,101,120])with|true=>N .MO|false=>ao)
  | .str X=>(match je x (az [106,111,105,110])with|true=>N .MP|false=>ao)
  |X=>ao)
 |X=>ao
def MR(x:O)(k:aR->J (ai×V)->Prop):Prop:=match x with| .inst c fs=>k c fs|X=>bV
def ZT(x:O)(k:bq V->Prop):Prop:=match x with| .cell ov=>k ov|X=>bV
def aF6(ds:J D)(v:V)(h:H)(o:J O)(k:V->J O->Prop):Prop:=match v with
 | .d x=>ds.length<1048576/\k (.d .none) (eO (.dl (ds++[x])) h o)
 |v=>dh (f9 ds) (k (.d .none) (eO (.vl [v]) h o)) bV
def R5(a:V)(args:J V)(o:J O)(k:V->J O->Prop):Prop:=hO a λh=>oz args λv=>gO h o λy=>(match y with
 | .dl ds=>aF6 ds v h o k
 | .vl vs=>vs.length<1048576/\k (.d .none) (eO (.vl (vs++[v])) h o)
 |X=>bV)
def R6(a:V)(args:J V)(o:J O)(k:V->J O->Prop):Prop:=hO a λh=>oz args λv=>gO h o λy=>HK y λds=>vK v o λes=>(ds++es).length<=1048576/\k (.d .none) (eO (.dl (ds++es)) h o)
noncomputable def isZ:aa->aD
 | .ofNat n=>bX n 0
 | .negSucc X=>ak
def unc(ds:J D)(k:D->J D->Prop):Prop:=match ds with
 |[]=>bV
 |x::r=>k x r
def R7(a:V)(args:J V)(o:J O)(k:V->J O->Prop):Prop:=hO a λh=>gO h o λy=>HK y λds=>(match args with
 |[]=>∃l v,ds=l++[v]/\k (.d v) (eO (.dl l) h o)
 |i::r=>MC r (jl i λi=>dh (isZ i) (unc ds λv l=>k (.d v) (eO (.dl l) h o)) bV))
def R8(a:V)(args:J V)(o:J O)(k:V->J O->Prop):Prop:=hO a λh=>gO h o λy=>RV y λl=>oz args λv=>jl v λi=>(0<=i/\i<256/\l.length<1048576)/\k (.d .none) (eO (.ba (l++[i.toNat])) h o)
def R9(a:V)(args:J V)(o:J O)(k:V->J O->Prop):Prop:=hO a λh=>gO h o λy=>RV y λl=>oz args λv=>QN v o λl'=>(l++l').length<=1048576/\k (.d .none) (eO (.ba (l++l')) h o)
def R_(a:V)(args:J V)(o:J O)(k:V->J O->Prop):Prop:=iS a λx=>tD x λds=>oz args λv=>iS v λv=>∃n:H,(ds[n]?=N v/\(∀y∈v::ds,yE y=ah)/\∀m<n,ds[m]?≠N v)/\k (.d (.int n)) o
def Sa(a:V)(args:J V)(o:J O)(k:V->J O->Prop):Prop:=iS a λx=>sD x λs=>oz args λv=>dh (f9 s.cps.toList) (Br v o λds=>R3 ds λl=>l.length<=1048576/\k (.d (.str (az l))) o) bV
def ZU(T:Tb)(g:uJ)(a:V)(args:J V)(o:J O)(k:V->J O->Prop):Prop:=match g with
 | .fn f=>yz (T.fn f) (a::args) o k
 | .MI=>R5 a args o k
 | .MJ=>R6 a args o k
 | .MK=>R7 a args o k
 | .ML=>R8 a args o k
 | .MM=>R9 a args o k
 | .MO=>R_ a args o k
 | .MP=>Sa a args o k
def HO(v:V)(k:J D->Prop):Prop:=iS v λx=>match x with
 | .tup ds=>k ds
 | .list ds=>k ds
 | .bytes l=>k (fJ l)
 | .str x=>x.cps.toList.length<=1048576/\k (x.cps.toList.map λc=>.str (az [c]))
 |X=>bV
def ZV(a:V)(k:J D->Prop):Prop:=jl a λi=>(-4611686018427387904<=i/\i<=1048576)/\k ((kJ i.toNat).map λ(n:H)=>D.int n)
def g9(v:V)(o:J O):bq (J V):=match v with
 | .d x=>(match x with| .list ds=>N (ds.map .d)|X=>ao)
 | .ref h=>(match gw h o with
  |some y=>(match y with
   | .dl ds=>N (ds.map .d)
   | .vl vs=>N vs
   |X=>ao)
  |none=>ao)
 |X=>ao
def slL(s:jA)(k:Prop):Prop:=match s with
 | .L X=>k
 | .C X=>bV
def HP(x:ai)(v:V):Fm->(Fm->Prop)->Prop
 |[],X=>bV
 |p::r,k=>dh (je x p.1) (slL p.2 (k ((p.1,.L (N v))::r))) (HP x v r λr'=>k (p::r'))
def kZ(x:ai)(v:V)(Z:St)(k:St->Prop):Prop:=jK (cG x Z.m) λs=>match s with
 | .L X=>HP x v Z.m λm=>k ⟨m,Z.o⟩
 | .C h=>gO h Z.o λy=>ZT y λX=>k ⟨Z.m,eO (.cell (N v)) h Z.o⟩
def nv:J ai->J V->St->(St->Prop)->Prop
 |[],[],Z,k=>k Z
 |x::r,v::t,Z,k=>kZ x v Z λZ=>nv r t Z k
 |X,I,u2,u3=>bV
def forget(fg:J ai):Fm->Fm
 |[]=>[]
 |(y,s)::r=>(y,match s with
  | .L ov=>(match qO y fg with|true=>.L ao|false=>.L ov)
  | .C h=>.C h)::forget fg r
where qO (y:ai):J ai->aD
 |[]=>ak
 |x::r=>match je x y with|true=>ah|false=>qO y r
def qS(fg:J ai):Fm->J O->J O
 |[],o=>o
 |(X,.L I)::r,o=>qS fg r o
 |(y,.C h)::r,o=>match forget.qO y fg with
  |true=>(match gw h o with
   |some (.cell X)=>qS fg r (eO (.cell ao) h o)
   |X=>qS fg r o)
  |false=>qS fg r o
def j9(fg:J ai)(Z:St):St:=⟨forget fg Z.m,qS fg Z.m Z.o⟩
def jL(ts:J ai)(one:aD)(v:V)(Z:St)(k:St->Prop):Prop:=match one with
 |true=>(match ts with
  |[]=>bV
  |x::r=>(match r with|[]=>kZ x v Z k|X::I=>bV))
 |false=>(match v with
  | .d x=>tD x λds=>nv ts (ds.map .d) Z k
  | .pr x h=>nv ts [.d x,.ref h] Z k
  |X=>bV)
def B4(x:ai)(Z:St)(k:V->Prop):Prop:=jK (cG x Z.m) λs=>match s with
 | .L ov=>jK ov k
 | .C h=>gO h Z.o λy=>ZT y λov=>jK ov k
def jC(m:Fm):J ai->Fm
 |[]=>[]
 |x::r=>(match cG x m with|some s=>(x,s)::jC m r|none=>jC m r)
def j_(m:Fm):J ai->aD
 |[]=>ah
 |x::r=>(match cG x m with|some (.C X)=>j_ m r|X=>ak)
structure Ev where
 e:PE->St->(V->St->Prop)->Prop
 t:PE->St->(aD->St->Prop)->Prop
 s:J PS->St->(dZ->St->Prop)->Prop
def aF7(v:V)(k:J V->St->Prop)(vs:J V)(Z:St):Prop:=k (v::vs) Z
def kM(m:Fm)(k:V->St->Prop)(v:V)(o:J O):Prop:=k v ⟨m,o⟩
def kO(m:Fm)(k:dZ->St->Prop)(o:J O):Prop:=k .next ⟨m,o⟩
def kN(k:dZ->St->Prop)(Z:St):Prop:=k .next Z
def ZW(a b:St->Prop)(q:aD)(Z:St):Prop:=dh q (a Z) (b Z)
def aF8(k:aD->St->Prop)(q:aD)(Z:St):Prop:=k (!q) Z
def aF9(k:aD->St->Prop)(v:V)(Z:St):Prop:=As v λq=>k q Z
def aG0(k:dZ->St->Prop)(v:V)(Z:St):Prop:=k (.ret v) Z
def kEx(k:dZ->St->Prop)(_:V)(Z:St):Prop:=k .next Z
def aG1(x:ai)(k:dZ->St->Prop)(v:V)(Z:St):Prop:=kZ x v Z (kN k)
def aG2(xs:J ai)(k:dZ->St->Prop)(v:V)(Z:St):Prop:=jL xs ak v Z (kN k)
def Au(e:PE->St->(V->St->Prop)->Prop):J PE->St->(J V->St->Prop)->Prop
 |[],Z,k=>k [] Z
 |x::r,Z,k=>e x Z λv Z=>Au e r Z (aF7 v k)
def Sb(e:PE->St->(V->St->Prop)->Prop):J (PE×PE)->St->(J (D×D)->St->Prop)->Prop
 |[],Z,k=>k [] Z
 |(a,b)::r,Z,k=>e a Z λv Z=>e b Z λw Z=>iS v λx=>iS w λy=>dh (yE x) (Sb e r Z λvs Z=>k ((x,y)::vs) Z) bV
def MS(e:PE->St->(V->St->Prop)->Prop)(op:Xb):J PE->St->(V->St->Prop)->Prop
 |[],X,I=>bV
 |x::r,Z,k=>(match r with
  |[]=>e x Z k
  |X::I=>e x Z λv Z=>As v λq=>(match op with
   | .And=>dh q (MS e op r Z k) (k v Z)
   | .Or=>dh q (k v Z) (MS e op r Z k)))
def MT(t:PE->St->(aD->St->Prop)->Prop)(op:Xb):J PE->St->(aD->St->Prop)->Prop
 |[],Z,k=>(match op with| .And=>k ah Z| .Or=>k ak Z)
 |x::r,Z,k=>t x Z λq Z=>(match op with
   | .And=>dh q (MT t op r Z k) (k ak Z)
   | .Or=>dh q (k ah Z) (MT t op r Z k))
def Sd(e:PE->St->(V->St->Prop)->Prop)(x:bq PE)(Z:St)(k:bq aa->St->Prop):Prop:=match x with
 |none=>k ao Z
 |some x=>e x Z λv Z=>jl v λi=>k (N i) Z
def Av(e:PE->St->(V->St->Prop)->Prop)(x:PE)(Z:St)(k:J D->St->Prop):Prop:=match x with
 | .iA a=>e a Z λv Z=>ZV v λl=>k l Z
 |x=>e x Z λv Z=>HO v λl=>k l Z
def nX(t:PE->St->(aD->St->Prop)->Prop):J PE->St->(aD->St->Prop)->Prop
 |[],Z,k=>k ah Z
 |x::r,Z,k=>t x Z λq Z=>dh q (nX t r Z k) (k ak Z)
def zY(fg:J ai)(fS:H)(next:St->Prop)(k:dZ->St->Prop)(fl:dZ)(Z:St):Prop:=match fl with
 | .next=>rO (jJ fS (j9 fg Z)) next
 | .cont=>rO (jJ fS (j9 fg Z)) next
 | .brk=>k .next (jJ fS (j9 fg Z))
 | .ret v=>k (.ret v) Z
def gT(fg ts:J ai)(one:aD)(fS:H)(body:St->(dZ->St->Prop)->Prop):J D->St->(dZ->St->Prop)->Prop
 |[],Z,k=>k .next Z
 |x::l,Z,k=>jL ts one (.d x) Z λZ=>body Z (zY fg fS (λZ=>gT fg ts one fS body l Z k) k)
def Se(v:V)(k:J V->J O->Prop)(vs:J V)(o:J O):Prop:=k (v::vs) o
def Sf(n:H)(m:Fm)(next:V->J O->Prop)(v:V)(Z:St):Prop:=uH v λv=>lV (nt n v ⟨m,Z.o⟩).o λo=>next v o
def jW(ts:J ai)(one:aD)(m:Fm)(FQ:St->(aD->St->Prop)->Prop)(aY:St->(V->St->Prop)->Prop):J D->J O->(J V->J O->Prop)->Prop
 |[],o,k=>k [] o
 |x::l,o,k=>jL ts one (.d x) ⟨m,o⟩ λZ=>FQ Z λq Z=>dh q
   (aY Z (Sf (len o) m λv o=>jW ts one m FQ aY l o (Se v k)))
   (lV (jJ (len o) ⟨m,Z.o⟩).o λo=>jW ts one m FQ aY l o k)
def xe(x1 x2:ai)(m:Fm)(dI:St->(J D->St->Prop)->Prop)(FQ:St->(aD->St->Prop)->Prop)(aY:St->(V->St->Prop)->Prop):J D->J V->J O->(J V->J O->Prop)->Prop
 |[],acc,o,k=>k acc o
 |x::l,acc,o,k=>kZ x1 (.d x) ⟨m,o⟩ λZ=>dI Z λds Z=>acc.length+ds.length<=1048576/\jW [x2] ah m FQ aY ds Z.o λvs o=>xe x1 x2 m dI FQ aY l (acc++vs) o k
def B5(x:ai)(m:Fm)(xg:J O->Prop)(aY:St->(V->St->Prop)->Prop):J V->J O->(J V->J O->Prop)->Prop
 |[],o,k=>k [] o
 |v::l,o,k=>kZ x v ⟨m,o⟩ λZ=>aY Z λw Z=>uH w λw=>lV (nt (len o) w ⟨m,Z.o⟩).o λo=>xg o/\B5 x m xg aY l o λvs o=>k (w::vs) o
def yF(fg:J ai)(x y:ai)(fS:H)(xg:J O->Prop)(body:St->(dZ->St->Prop)->Prop):J V->J V->St->(dZ->St->Prop)->Prop
 |a::r,b::t,Z,k=>nv [x,y] [a,b] Z λZ=>body Z λfl Z=>(match fl with
   | .next=>rO (jJ fS (j9 fg Z)) λZ=>xg Z.o/\yF fg x y fS xg body r t Z k
   |X=>bV)
 |[],X,Z,k=>k .next Z
 |X::I,[],Z,k=>k .next Z
def iF(lv:aD)(vs:J V)(o:J O)(k:V->J O->Prop):Prop:=match nW vs with
 |some ds=>(match lv with
  |true=>k (.ref (len o)) (o++[.dl ds])
  |false=>k (.d (.list ds)) o)
 |none=>k (.ref (len o)) (o++[.vl vs])
def Sg(fl:ai)(v:V)(o:J O)(k:J O->Prop):Prop:=hO v λh=>gO h o λy=>MR y λX fs=>jK (cG fl fs) λw=>hO w λj=>HJ (.ref j) o λx o=>iS x λx=>gO h o λy=>MR y λc fs=>jK (cG fl fs) λw=>hO w λi=>dh (bX i j) (lV (eO (.inst c (pU fl (.d x) fs)) h o) k) bV
def gD(x:D)(k:aR->Prop):Prop:=match x with| .glob a=>k a|X=>bV
noncomputable def mJ(ts:J ai):Fm:=ts.map λx=>(x,.L ao)
def ZX(T:Tb)(ih:Ev)(x:PE)(Z:St)(k:V->St->Prop):Prop:=match x with
 | .cI i=>k (.d (.int i)) Z
 | .cS x=>k (.d (.str x)) Z
 | .cN=>k (.d .none) Z
 | .cB b=>k (.d (.bool b)) Z
 | .Y x=>B4 x Z λv=>k v Z
 | .gl i=>jK (uI T.gl i) λp=>k p.2 Z
 | .bin op a b=>ih.e a Z λa Z=>ih.e b Z λb Z=>RW op a b Z.o λv=>k v Z
 | .neg a=>ih.e a Z λa Z=>jl a λi=>k (.d (.int (-i))) Z
 | .gP op l=>MS ih.e op l Z k
 | .ite t a b=>ih.t t Z (ZW (λZ=>ih.e a Z k) (λZ=>ih.e b Z k))
 | .cmp op a b=>ih.e a Z λa Z=>ih.e b Z λb Z=>tE op a b Z.o λq=>k (.d (.bool q)) Z
 | .o6 o2 a b c=>ih.e a Z λa Z=>ih.e b Z λb Z=>tE .LtE a b Z.o λq=>dh q
   (ih.e c Z λc Z=>tE o2 b c Z.o λq=>k (.d (.bool q)) Z) (k (.d (.bool ak)) Z)
 | .tup l=>Au ih.e l Z λvs Z=>dh (nJ (len vs) 1000) (RU vs λv=>k v Z) bV
 | .lst lv l=>Au ih.e l Z λvs Z=>dh (nJ (len vs) 1000) (iF lv vs Z.o λv o=>k v ⟨Z.m,o⟩) bV
 | .z7 l=>Sb ih.e l Z λes Z=>MG es λv=>k v Z
 | .sub a i=>ih.e a Z λa Z=>ih.e i Z λi Z=>RZ a i Z.o λv=>k v Z
 | .jB a i=>ih.e a Z λa Z=>ih.e i Z λi Z=>R0 a i Z.o λv=>k v Z
 | .ur a lo hi=>ih.e a Z λa Z=>Sd ih.e lo Z λlo Z=>Sd ih.e hi Z λhi Z=>R1 a lo hi λv=>k v Z
 | .aG a x=>ih.e a Z λa Z=>R2 a x Z.o λv=>k v Z
 | .call f l=>ih.e f Z λf Z=>Au ih.e l Z λvs Z=>iS f λx=>gD x λa=>yz (T.fn a) vs Z.o (kM Z.m k)
 | .bi b lv l=>Au ih.e l Z λvs Z=>MH b lv vs Z.o (kM Z.m k)
 | .aV a x l=>ih.e a Z λa Z=>jK (HN a x Z.o) λg=>Au ih.e l Z λvs Z=>ZU T g a vs Z.o (kM Z.m k)
 | .comp lv cs ts one dI bZ aY=>dh (j_ Z.m cs) (Av ih.e dI Z λds Z=>dh (j_ Z.m cs)
   (jW ts one (mJ ts++jC Z.m cs) (nX ih.t bZ) (ih.e aY) ds Z.o λvs o=>iF lv vs o (kM Z.m k)) bV) bV
 | .qJ lv cs x1 uw x2 pV bZ aY=>dh (j_ Z.m cs) (Av ih.e uw Z λds Z=>dh (j_ Z.m cs)
   (xe x1 x2 (mJ [x1,x2]++jC Z.m cs) (Av ih.e pV) (nX ih.t bZ) (ih.e aY) ds [] Z.o λvs o=>iF lv vs o (kM Z.m k)) bV) bV
 | .GD lv cs x dI aY=>dh (j_ Z.m cs) (ih.e dI Z λva Z=>jK (g9 va Z.o) λvs=>dh (j_ Z.m cs)
   (nJ (len vs) 1000=ah/\B5 x (mJ [x]++jC Z.m cs) (λo=>g9 va o=N vs) (ih.e aY) vs Z.o λvs o=>iF lv vs o (kM Z.m k)) bV) bV
 | .fz e=>ih.e e Z λv Z=>HJ v Z.o (kM Z.m k)
 | .sV e x=>ih.e e Z λv Z=>Sg x v Z.o λo=>k v ⟨Z.m,o⟩
 | .not X=>bV
 | .iA X=>bV
def Yu(ih:Ev)(x:PE)(Z:St)(k:aD->St->Prop):Prop:=match x with
 | .not a=>ih.t a Z (aF8 k)
 | .gP op l=>MT ih.t op l Z k
 | .cmp op a b=>ih.e a Z λa Z=>ih.e b Z λb Z=>tE op a b Z.o λq=>k q Z
 | .o6 o2 a b c=>ih.e a Z λa Z=>ih.e b Z λb Z=>tE .LtE a b Z.o λq=>dh q
   (ih.e c Z λc Z=>tE o2 b c Z.o λq=>k q Z) (k ak Z)
 |x=>ih.e x Z (aF9 k)
def Sh(a:V)(x:ai)(v:V)(o:J O)(k:J O->Prop):Prop:=hO a λh=>gO h o λy=>MR y λc fs=>dh (vJ c x) (dh (nJ (len fs) 100) (k (eO (.inst c (pU x v fs)) h o)) bV) bV
noncomputable def Si(x:D):H->J D->J D
 |X,[]=>[]
 |0,X::r=>x::r
 |n+1,y::r=>y::Si x n r
def Sj(a i v:V)(o:J O)(k:J O->Prop):Prop:=hO a λh=>jl i λi=>iS v λx=>gO h o λy=>HK y λds=>(match i with
 | .ofNat n=>n<ds.length/\k (eO (.dl (Si x n ds)) h o)
 | .negSucc n=>dh (bX n 0) (∃l y,ds=l++[y]/\k (eO (.dl (l++[x])) h o)) bV)
def ZY(fg:J ai)(fS:H)(bG:H->St->Prop)(n:H)(k:dZ->St->Prop)(fl:dZ)(Z:St):Prop:=match fl with
 | .next=>∃m,m<n/\bG m (jJ fS (j9 fg Z))
 | .cont=>∃m,m<n/\bG m (jJ fS (j9 fg Z))
 | .brk=>k .next Z
 | .ret v=>k (.ret v) Z
def aG3(fg:J ai)(fS:H)(body:St->(dZ->St->Prop)->Prop)(bG:H->St->Prop)(n:H)(k:dZ->St->Prop)(q:aD)(Z:St):Prop:=dh q (body Z (ZY fg fS bG n k)) (k .next Z)
def Sk(T:Tb)(ih:Ev)(s:PS)(Z:St)(k:dZ->St->Prop):Prop:=match s with
 | .ret e=>ih.e e Z (aG0 k)
 | .ex e=>ih.e e Z (kEx k)
 | .asg x e=>ih.e e Z (aG1 x k)
 | .pW xs e=>ih.e e Z (aG2 xs k)
 | .vF xs es=>Au ih.e es Z λvs Z=>dh (nJ (len vs) 1000) (nv xs.reverse vs.reverse Z λZ=>k .next Z) bV
 | .dm a x e=>ih.e e Z λv Z=>ih.e a Z λa Z=>Sh a x v Z.o (kO Z.m k)
 | .ye a i e=>ih.e e Z λv Z=>ih.e a Z λa Z=>ih.e i Z λi Z=>Sj a i v Z.o (kO Z.m k)
 | .aug x e=>B4 x Z λa=>ih.e e Z λb Z=>jl a λa=>jl b λb=>kZ x (.d (.int (a+b))) Z λZ=>k .next Z
 | .ite t a b=>ih.t t Z (ZW (λZ=>ih.s a Z k) (λZ=>ih.s b Z k))
 | .for fg ts one dI body=>Av ih.e dI Z λds Z=>tB (len Z.o) λfS=>rO (j9 fg Z) λZ=>gT fg ts one fS (ih.s body) ds Z k
 | .DO fg x y a b body=>ih.e a Z λva Z=>ih.e b Z λvb Z=>jK (g9 va Z.o) λvs=>jK (g9 vb Z.o) λws=>tB (len Z.o) λfS=>rO (j9 fg Z) λZ=>yF fg x y fS (λo=>g9 va o=N vs/\g9 vb o=N ws) (ih.s body) vs ws Z k
 | .sW fg t body=>tB (len Z.o) λfS=>∃(bG:H->St->Prop)(n:H),bG n (jJ fS (j9 fg Z))/\
   ∀n b9,bG n b9->ih.t t b9 (aG3 fg fS (ih.s body) bG n k)
 | .raise=>bV
def yG(bM:St->(dZ->St->Prop)->Prop)(k:dZ->St->Prop)(fl:dZ)(Z:St):Prop:=match fl with
 | .next=>rO Z λZ=>bM Z k
 | .brk=>k .brk Z
 | .cont=>k .cont Z
 | .ret v=>k (.ret v) Z
def l8(T:Tb)(ih:Ev):J PS->St->(dZ->St->Prop)->Prop
 |[],Z,k=>k .next Z
 |s::r,Z,k=>Sk T ih s Z (yG (l8 T ih r) k)
noncomputable def vc(T:Tb)(n:H):Ev:=Nat.rec ⟨λX I u2=>bV,λX I u2=>bV,λX I u2=>bV⟩ (λX ih=>⟨ZX T ih,Yu ih,l8 T ih⟩) n
def yH(b:J (ai×V)):J (ai×cJ)->H->Fm
 |[],X=>[]
 |(x,k)::r,h=>(match k with
  | .local=>(x,.L (cG x b))::yH b r h
  | .cell=>(x,.C h)::yH b r (vo h)
  |X=>yH b r h)
def vL(b:J (ai×V)):J (ai×cJ)->J O
 |[]=>[]
 |(x,k)::r=>(match k with
  | .cell=>.cell (cG x b)::vL b r
  |X=>vL b r)
noncomputable def B6:J (ai×bq D)->J V->bq (J (ai×V))
 |[],a=>(match a with|[]=>N []|X::I=>ao)
 |p::r,a=>(match a with
  |v::t=>(match B6 r t with|some l=>N ((p.1,v)::l)|none=>ao)
  |[]=>(match p.2 with
   |some d=>(match B6 r []with|some l=>N ((p.1,.d d)::l)|none=>ao)
   |none=>ao))
def mK(n:H)(k:V->J O->Prop)(fl:dZ)(Z:St):Prop:=match fl with
 | .ret v=>B3 n v Z.o k
 | .next=>B3 n (.d .none) Z.o k
 |X=>bV
def ZZ(bM:St->(dZ->St->Prop)->Prop)(ps:J (ai×bq D))(nms:J (ai×cJ)):Tr:=λargs o k=>match B6 ps args with
 |some b=>tB (len o) λn=>rO ⟨yH b nms n,o++vL b nms⟩ λZ=>bM Z (mK n k)
 |none=>bV
section
theorem Z0:∀a b:J H,DN a b=ah↔a=b:=by
 intro a;induction a with
 |nil=>intro b;cases b;exact⟨λX=>rfl,λX=>rfl⟩;exact⟨gr,List.noConfusion rfl∘heq_of_eq⟩
 |cons a r ih=>
  intro b;induction b using eT with
  |nil=>exact⟨nofun,nofun⟩
  |cons b t=>
   have go:∀q,bX a b=q->((match q with|true=>DN r t|false=>ak)=ah↔a::r=b::t):=λq e=>by
    cases q
    ·exact⟨nofun,λh=>absurd (PD h).1 (PW e)⟩
    ·exact(ih t).trans ⟨λh=>mV e▸h▸rfl,λh=>(PD h).2⟩
   exact go _ rfl
theorem rQ(h:je x y=ah):x=y:=by obtain⟨⟨a⟩⟩:=x;obtain⟨⟨b⟩⟩:=y;exact(Z0 a b).mp h▸rfl
theorem MU(x:ai):je x x=ah:=(Z0 _ _).mpr rfl
theorem Sl(h:je x y=ak):x≠y:=λe=>gr (h.symm.trans ((bR (je x) e.symm).trans (MU x)))
theorem Sn(x y:ai):je x y=(x==y):=PX.mpr ⟨λh=>rQ h▸qy x,λh=>eq_of_beq h▸MU x⟩
theorem tF{α:Type}(x y:ai)(a:α)(r:J (ai×α)):cG x ((y,a)::r)=if x=y then N a else cG x r:=by
 have go:∀q,je x y=q->(match q with|true=>N a|false=>cG x r)=if x=y then N a else cG x r:=λq e=>by
  cases q
  ·exact(cF (Sl e)).symm
  ·exact(dM (rQ e)).symm
 exact go _ rfl
theorem Es{α:Type}{x y:ai}{a:α}{t:J (ai×α)}(h:x=y):cG x ((y,a)::t)=N a:=(tF ..).trans (dM h)
theorem yI{α:Type}{x y:ai}{a:α}{t:J (ai×α)}{o}(h:x≠y)(e:cG x t=o):cG x ((y,a)::t)=o:=((tF ..).trans (cF h)).trans e
theorem B7{α:Type}{x y:ai}{a:α}{t:J (ai×α)}{P:bq α->Prop}(h:x=y->P (N a))(g:x≠y->P (cG x t)):P (cG x ((y,a)::t)):=
 (cp9 (x=y)).elim (λq=>(Es q).symm▸h q) λq=>(yI q rfl).symm▸g q
theorem Z1{α β:Type}(g:α->β)(x:ai)(l:J (ai×α)):cG x (l.map λp=>(p.1,g p.2))=(cG x l).map g:=by
 induction l with
 |nil=>rfl
 |cons p l ih=>exact B7 (P:=λo=>o=(cG x ((p.1,p.2)::l)).map g) (λe=>(bR (Di g) (Es e)).symm) λe=>ih.trans (bR (Di g) (yI e rfl)).symm
theorem Aw{α:Type}(x:ai)(l:J (ai×α)):cG x l=l.lookup x:=by
 induction l with
 |nil=>rfl
 |cons p r ih=>exact B7 (P:=λo=>o=((p.1,p.2)::r).lookup x) (λe=>by rw[Bf,e,qy]) λe=>by rw[Bf,Kg e];exact ih
theorem Et{α:Type}{x y:ai}{v a:α}{r:J (ai×α)}{P:J (ai×α)->Prop}(h:x=y->P ((y,v)::r))(g:x≠y->P ((y,a)::pU x v r)):P (pU x v ((y,a)::r)):=by
 have go:∀q,je x y=q->P (match q with|true=>(y,v)::r|false=>(y,a)::pU x v r):=λq e=>by
  cases q
  ·exact g (Sl e)
  ·exact h (rQ e)
 exact go _ rfl
abbrev bP:=aR->bq fH
def iG(F b4:bP):Prop:=∀a o,F a=N o->b4 a=N o
theorem iG.refl(F:bP):iG F F:=λX I e=>e
theorem iG.trans{F b4 eE:bP}(x:iG F b4)(y:iG b4 eE):iG F eE:=λa o e=>y a o (x a o e)
abbrev bQ:=J (aR×aR)
def f_(r r':bQ):Prop:=∀(i:H)(p:aR×aR),r[i]?=N p->r'[i]?=N p
theorem f_.refl(r:bQ):f_ r r:=λX I e=>e
theorem f_.trans{r r' o9:bQ}(x:f_ r r')(y:f_ r' o9):f_ r o9:=λi p e=>y i p (x i p e)
theorem f_.app(r r':bQ):f_ r (r++r'):=λi p e=>by have:=(vq.mp e).1;rw[PY this];exact e
theorem f_.nil(r:bQ):f_ [] r:=λX I e=>by simp at e
inductive L2{α β:Type}(R:α->β->Prop):J α->J β->Prop
 |nil:L2 R [] []
 |cons {v w vs ws}:R v w->L2 R vs ws->L2 R (v::vs) (w::ws)
inductive Z2{α β:Type}(R:α->β->Prop)(a:α)(l:J α):J β->Prop
 |mk {b m}:R a b->L2 R l m->Z2 R a l (b::m)
section
variable{α β γ:Type}{R bM:α->β->Prop}{l:J α}{m:J β}
theorem L2.inv{a}(h:L2 R (a::l) m):Z2 R a l m:=by cases h with|cons x y=>exact⟨x,y⟩
theorem L2.HQ(h:L2 R [] m):m=[]:=by cases h;rfl
theorem L2.one{a}(h:L2 R [a] m):∃b,m=[b]/\R a b:=h.inv.rec λx z=>⟨_,bR _ z.HQ,x⟩
theorem L2.fL{bM:γ->β->Prop}{g:α->γ}(h:L2 R l m):(∀a∈l,∀b,R a b->bM (g a) b)->L2 bM (l.map g) m:=
 h.rec (λX=>.nil) λa X ih k=>.cons (k _ (.head _) _ a) (ih λa m=>k a (.tail _ m))
theorem L2.imp(h:L2 R l m)(k:∀a b,R a b->bM a b):L2 bM l m:=h.rec .nil λa X ih=>.cons (k _ _ a) ih
theorem L2.length(h:L2 R l m):l.length=m.length:=h.rec rfl λX I ih=>bR (·+1) ih
theorem L2.append{l' m'}(h:L2 R l m)(g:L2 R l' m'):L2 R (l++l') (m++m'):=h.rec g λa X ih=>.cons a ih
theorem L2.reverse(h:L2 R l m):L2 R l.reverse m.reverse:=by
 induction h with
 |nil=>exact .nil
 |cons a X ih=>rw[Dj,Dj];exact ih.append (.cons a .nil)
theorem L2.get(h:L2 R l m):∀{i:H}{v},l[i]?=N v->∃w,m[i]?=N w/\R v w:=by
 induction h with
 |nil=>exact λe=>nomatch e
 |cons a X ih=>exact λ{i v} e=>by cases i with|zero=>exact⟨_,rfl,fW e▸a⟩|succ i=>exact ih e
theorem L2.take(n:H)(h:L2 R l m):L2 R (l.take n) (m.take n):=by
 induction h generalizing n with
 |nil=>cases n<;>exact .nil
 |cons a X ih=>cases n;exact .nil;exact .cons a (ih _)
theorem L2.drop(n:H)(h:L2 R l m):L2 R (l.drop n) (m.drop n):=by
 induction h generalizing n with
 |nil=>cases n<;>exact .nil
 |cons a h ih=>cases n;exact .cons a h;exact ih _
theorem L2.erase(h:L2 R l m):L2 R (l.eraseIdx n) (m.eraseIdx n):=by
 induction h generalizing n with
 |nil=>exact .nil
 |cons a h ih=>cases n;exact h;exact .cons a ih
end
inductive EF{α:Type}(R:α->aA->Prop):ai×α->jN->Prop
 |mk {x v t h w}:R v w->EF R (x,v) ⟨h,.str x t,w⟩
theorem EF.mono{α β:Type}{R:α->aA->Prop}{bM:β->aA->Prop}{g:α->β}{p e}(k:∀b,R p.2 b->bM (g p.2) b)(h:EF R p e):EF bM (p.1,g p.2) e:=h.rec (motive:=λp e X=>(∀b,R p.2 b->bM (g p.2) b)->EF bM (p.1,g p.2) e) (λr k=>.mk (k _ r)) k
inductive DS(F:bP)(P:D->aA->Prop):D->aA->Prop
 |none:DS F P .none .none
 |bool {b}:DS F P (.bool b) (.bool b)
 |int {i t}:DS F P (.int i) (.int i t)
 |str {x t}:DS F P (.str x) (.str x t)
 |bytes {b:cT iX} {t}:b.size<=1048576->DS F P (.bytes (b.toList.map iY)) (.bytes b t)
 |glob {a}:DS F P (.glob a) (.ref a)
 |tup {a ws n vs}:F a=N ⟨.type "tuple",cq0,.seq ws n,#[]⟩->L2 P vs ws.toList->vs.length<=1048576->DS F P (.tup vs) (.ref a)
 |list {a ws n vs}:F a=N ⟨.type "list",cq0,.seq ws n,#[]⟩->L2 P vs ws.toList->vs.length<=1048576->DS F P (.list vs) (.ref a)
 |obj {a c d es n sl fs}:F a=N ⟨.ref c,N d,.plain,sl⟩->F d=N (mY es n)->L2 (EF P) fs es->((fs.map (·.1)).Nodup/\∀x∈fs.map (·.1),vJ c x=ah)->DS F P (.obj c fs) (.ref a)
section
variable{F b4:bP}{P Q:D->aA->Prop}{x:D}{u:aA}
theorem DS.mono(k:∀x u,P x u->Q x u)(h:DS F P x u):DS F Q x u:=
 h.rec .none .bool .int .str .bytes .glob (λe z l=>.tup e (z.imp k) l) (λe z l=>.list e (z.imp k) l) λe d z n=>.obj e d (z.imp λX I=>EF.mono (g:=id) λX=>k _ _) n
theorem DS.sub(k:iG F b4)(h:DS F P x u):DS b4 P x u:=
 h.rec .none .bool .int .str .bytes .glob (λe z l=>.tup (k _ _ e) z l) (λe z l=>.list (k _ _ e) z l) λe d z n=>.obj (k _ _ e) (k _ _ d) z n
def DR(F:bP)(x:D)(u:aA):Prop:=∀P:D->aA->Prop,(∀x u,DS F P x u->P x u)->P x u
theorem DR.mk(h:DS F (DR F) x u):DR F x u:=λP k=>k _ _ (h.mono λX I r=>r P k)
theorem DR.out(h:DR F x u):DS F (DR F) x u:=h _ λX I s=>s.mono λX I=>DR.mk
theorem DR.mono(k:iG F b4)(h:DR F x u):DR b4 x u:=h _ λX I s=>.mk (s.sub k)
theorem DR.none:DR F .none .none:=.mk .none
theorem DR.bool{b}:DR F (.bool b) (.bool b):=.mk .bool
theorem DR.int{i t}:DR F (.int i) (.int i t):=.mk .int
theorem DR.str{i t}:DR F (.str i) (.str i t):=.mk .str
theorem DR.glob{a}:DR F (.glob a) (.ref a):=.mk .glob
theorem DR.bytes{b:cT iX}{t}(h:b.size<=1048576):DR F (.bytes (b.toList.map iY)) (.bytes b t):=.mk (.bytes h)
end
abbrev eU(F:bP):=L2 (DR F)
abbrev So(F:bP):=L2 (EF (DR F))
noncomputable abbrev iH(ws:cT aA)(n:H):fH:=⟨.type "list",ao,.seq ws n,#[]⟩
noncomputable abbrev lJ(ws:cT aA)(n:H):fH:=⟨.type "tuple",ao,.seq ws n,#[]⟩
theorem DR.tup{F:bP}{a ws n vs}(e:F a=N (lJ ws n))(z:eU F vs ws.toList)(l:vs.length<=1048576):DR F (.tup vs) (.ref a):=.mk (.tup e z l)
theorem DR.list{F:bP}{a ws n vs}(e:F a=N (iH ws n))(z:eU F vs ws.toList)(l:vs.length<=1048576):DR F (.list vs) (.ref a):=.mk (.list e z l)
theorem DR.obj{F:bP}{a c d es n sl fs}(e:F a=N ⟨.ref c,N d,.plain,sl⟩)(g:F d=N (mY es n))(z:So F fs es)(h:(fs.map (·.1)).Nodup/\∀x∈fs.map (·.1),vJ c x=ah):DR F (.obj c fs) (.ref a):=.mk (.obj e g z h)
theorem L2.mono{F b4:bP}{vs ws}(h:eU F vs ws)(k:iG F b4):eU b4 vs ws:=L2.imp h λX I=>DR.mono k
inductive KE{κ:Type}(is:κ->aA->aD)(hs:κ->aa)(F:bP):κ×D->jN->Prop
 |mk {x v k u}:is x k=ah->DR F v u->KE is hs F (x,v) ⟨hs x,k,u⟩
abbrev Sp(F:bP):=L2 (KE Value.isInt Xr F)
abbrev Sq(w:bU)(F:bP):=L2 (KE Value.isStrOf (hashStr w) F)
inductive VR(w:bU)(r:bQ)(F:bP):V->aA->Prop
 |d {x v}:DR F x v->VR w r F (.d x) v
 |ref {h p}:r[h]?=N p->VR w r F (.ref h) (.ref p.1)
 |pr {a x h p n u}:F a=N (lJ #[u,.ref p.1] n)->DR F x u->r[h]?=N p->VR w r F (.pr x h) (.ref a)
 |nO {a es n vs}:F a=N (mY es n)->Sp F vs es->(a==xZ)=ak->VR w r F (.nO vs) (.ref a)
 |uq {a es n vs}:F a=N (mY es n)->Sq w F vs es->(a==xZ)=ak->VR w r F (.uq vs) (.ref a)
abbrev gh(w:bU)(r:bQ)(F:bP):=L2 (VR w r F)
abbrev mL(w:bU)(r:bQ)(F:bP):=L2 (EF (VR w r F))
def oA(f:H->H)(hs:J H)(r r':bQ):Prop:=∀h∈hs,∀p,r[h]?=N p->r'[f h]?=N p
theorem oA.at{α:Type}{f r r'}{g:α->J H}{l:J α}{a:α}(q:oA f (l.flatMap g) r r')(m:a∈l):oA f (g a) r r':=λh hm=>q h (rA.mpr ⟨a,m,hm⟩)
theorem aG4(f:H->H)(l):(BY f l).length=l.length:=cO _
theorem VR.HR{F:bP}{x u}(h:VR w r F (.d x) u):DR F x u:=by cases h with|d h=>exact h
section
variable{w:bU}{f:H->H}{r r':bQ}{F b4:bP}
theorem KE.mono{κ:Type}{is:κ->aA->aD}{hs:κ->aa}(k:iG F b4){p e}(h:KE is hs F p e):KE is hs b4 p e:=h.rec λi d=>.mk i (d.mono k)
theorem VR.fL(k:iG F b4){v u}(q:oA f v.refs r r')(h:VR w r F v u):VR w r' b4 (v.fL f) u:=
 h.rec (motive:=λv u X=>oA f v.refs r r'->VR w r' b4 (v.fL f) u) (λx X=>.d (x.mono k)) (λe q=>.ref (q _ (.head _) _ e)) (λe d z q=>.pr (k _ _ e) (d.mono k) (q _ (.head _) _ z))
  (λe z n X=>.nO (k _ _ e) (z.imp λX I=>KE.mono k) n) (λe z n X=>.uq (k _ _ e) (z.imp λX I=>KE.mono k) n) q
theorem L2.Z3(k:iG F b4){v u}(q:oA f (An v) r r')(h:gh w r F v u):gh w r' b4 (BY f v) u:=L2.fL h λX m I z=>z.fL k (q.at m)
theorem L2.BZ(k:iG F b4){v u}(q:oA f (RO v) r r')(h:mL w r F v u):mL w r' b4 (BZ f v) u:=L2.fL h λX m I z=>z.mono λX z=>z.fL k (q.at (g:=λp=>p.2.refs) m)
end
theorem V.vM(v:V):v.fL id=v:=by cases v<;>rfl
theorem aG5(v):BY id v=v:=ak6 V.vM v
theorem aG6(v):BZ id v=v:=ak6 (λp=>bR (p.1,·) (V.vM p.2)) v
theorem f_.fL{r r':bQ}(q:f_ r r')(hs:J H):oA id hs r r':=λh X p e=>q h p e
theorem VR.mono{w:bU}{r r':bQ}{F b4:bP}(q:f_ r r')(k:iG F b4){v u}(h:VR w r F v u):VR w r' b4 v u:=v.vM▸VR.fL (f:=id) k (q.fL _) h
theorem L2.Eu{w:bU}{r r':bQ}{F b4:bP}{v u}(h:gh w r F v u)(q:f_ r r')(k:iG F b4):gh w r' b4 v u:=L2.imp h λX I=>VR.mono q k
theorem Z4:∀{ds},nW vs=N ds->vs=ds.map .d:=by
 induction vs with
 |nil=>exact λe=>fW e▸rfl
 |cons v vs ih=>
  intro ds e;induction v with
  |d x=>
   have go:∀o,nW vs=o->(match o with|some ds=>N (x::ds)|none=>ao)=N ds->V.d x::vs=ds.map .d:=λo g=>by
    induction o with
    |none=>exact nofun
    |some l=>exact λe=>fW e▸bR (_::·) (ih g)
   exact go _ rfl e
  |_=>exact nomatch e
theorem L2.ofD{w:bU}{r:bQ}{F:bP}{ds ws}(h:eU F ds ws):gh w r F (ds.map .d) ws:=L2.fL h λX I u2=>.d
theorem L2.toD{w:bU}{r:bQ}{F:bP}{ds:J D}:∀{ws},gh w r F (ds.map .d) ws->eU F ds ws:=by
 induction ds with
 |nil=>exact λh=>h.HQ▸ .nil
 |cons d ds ih=>exact λh=>(L2.inv (l:=ds.map V.d) h).rec (motive:=λws X=>eU F (d::ds) ws) λa z=>.cons a.HR (ih z)
theorem L2.nW{w:bU}{r:bQ}{F:bP}{vs ws ds}(h:gh w r F vs ws)(e:nW vs=N ds):eU F ds ws:=L2.toD (Z4 e▸h)
section
variable{w:bU}{r:bQ}{F:bP}{a:V}{x:D}{u:aA}
theorem vO{P:Prop}{a b:Prop}(h:dh q a b)(g1:q=ah->a->P)(g2:q=ak->b->P):P:=by cases q;exact g2 rfl h;exact g1 rfl h
theorem l9{a:Prop}(h:dh q a bV):q=ah/\a:=by cases q;exact h.elim;exact⟨rfl,h⟩
theorem nY{P:Prop}{α:Type}{o:bq α}{k:α->Prop}(h:jK o k)(g:∀x,o=N x->k x->P):P:=by cases o;exact h.elim;exact g _ rfl h
theorem pn{P:Prop}{i:H}{o:J O}{k:O->Prop}(h:gO i o k)(g:∀x,gw i o=N x->k x->P):P:=nY (o:=gw i o) h g
def Z5(F:bP)(P:aA->Prop)(x:D):Prop:=match x with
 | .none=>P .none
 | .bool b=>P (.bool b)
 | .int i=>∀t,P (.int i t)
 | .str x=>∀t,P (.str x t)
 | .bytes l=>∀(b:cT iX) t,l=b.toList.map iY->b.size<=1048576->P (.bytes b t)
 | .tup ds=>∀l ws n,F l=N (lJ ws n)->eU F ds ws.toList->ds.length<=1048576->P (.ref l)
 | .list ds=>∀l ws n,F l=N (iH ws n)->eU F ds ws.toList->ds.length<=1048576->P (.ref l)
 | .obj c fs=>∀a d es n sl,F a=N ⟨.ref c,N d,.plain,sl⟩->F d=N (mY es n)->So F fs es->((fs.map (·.1)).Nodup/\∀x∈fs.map (·.1),vJ c x=ah)->P (.ref a)
 | .glob a=>P (.ref a)
@[elab_as_elim] theorem DR.e{P:aA->Prop}(h:DR F x u)(k:Z5 F P x):P u:=
 h.out.rec (motive:=λx u X=>Z5 F P x->P u) id id (λk=>k _) (λk=>k _) (λl k=>k _ _ rfl l) id (λa b c k=>k _ _ _ a b c) (λa b c k=>k _ _ _ a b c) (λa b c d k=>k _ _ _ _ _ a b c d) k
def Z6(w:bU)(r:bQ)(F:bP)(P:aA->Prop)(v:V):Prop:=match v with
 | .d x=>∀u,DR F x u->P u
 | .ref i=>∀p,r[i]?=N p->P (.ref p.1)
 | .pr x h=>∀a p n u,F a=N (lJ #[u,.ref p.1] n)->DR F x u->r[h]?=N p->P (.ref a)
 | .nO vs=>∀a es n,F a=N (mY es n)->Sp F vs es->(a==xZ)=ak->P (.ref a)
 | .uq vs=>∀a es n,F a=N (mY es n)->Sq w F vs es->(a==xZ)=ak->P (.ref a)
@[elab_as_elim] theorem VR.e{P:aA->Prop}(h:VR w r F a u)(k:Z6 w r F P a):P u:=
 h.rec (motive:=λv u X=>Z6 w r F P v->P u) (λh k=>k _ h) (λh k=>k _ h) (λa b c k=>k _ _ _ _ a b c) (λa b c k=>k _ _ _ a b c) (λa b c k=>k _ _ _ a b c) k
theorem jD{P:Prop}(y:VR w r F a u)(h:iS a k)(g:∀x,DR F x u->k x->P):P:=by
 induction a with
 |d x=>exact g _ y.HR h
 |_=>exact h.elim
@[elab_as_elim] theorem Z7{P:aA->Prop}(y:DR F x u)(h:iD x k)(g:∀i t,k i->P (.int i t)):P u:=by
 induction x using Wm.D.casesOn with
 |int i=>exact y.e λt=>g i t h
 |_=>exact h.elim
@[elab_as_elim] theorem jX{P:aA->Prop}(y:VR w r F a u)(h:jl a k)(g:∀i t,k i->P (.int i t)):P u:=jD y h λX y h=>Z7 y h g
@[elab_as_elim] theorem Ew{P:aA->Prop}(y:DR F x u)(h:sD x k)(g:∀i t,k i->P (.str i t)):P u:=by
 induction x using Wm.D.casesOn with
 |str i=>exact y.e λt=>g i t h
 |_=>exact h.elim
@[elab_as_elim] theorem B8{P:aA->Prop}(y:DR F x u)(h:tD x k)(g:∀ds l ws n,k ds->F l=N (lJ ws n)->eU F ds ws.toList->ds.length<=1048576->P (.ref l)):P u:=by
 induction x using Wm.D.casesOn with
 |tup ds=>exact y.e λl ws n=>g ds l ws n h
 |_=>exact h.elim
@[elab_as_elim] theorem Ss{P:aA->Prop}(y:DR F x u)(h:lD x k)(g:∀ds l ws n,k ds->F l=N (iH ws n)->eU F ds ws.toList->ds.length<=1048576->P (.ref l)):P u:=by
 induction x using Wm.D.casesOn with
 |list ds=>exact y.e λl ws n=>g ds l ws n h
 |_=>exact h.elim
@[elab_as_elim] theorem Z8{P:aA->Prop}(y:DR F x u)(h:bD x k)(g:∀(b:cT iX) t,k (b.toList.map iY)->b.size<=1048576->P (.bytes b t)):P u:=by
 induction x using Wm.D.casesOn with
 |bytes l=>exact y.e λb t e=>g b t (e▸h)
 |_=>exact h.elim
@[elab_as_elim] theorem Ax{P:aA->Prop}(y:VR w r F a u)(h:hO a k)(g:∀i p,r[i]?=N p->k i->P (.ref p.1)):P u:=by
 cases y with
 |ref e=>exact g _ _ e h
 |_=>exact h.elim
@[elab_as_elim] theorem Su{P:O->Prop}{x:O}(h:HK x k)(g:∀ds,k ds->P (.dl ds)):P x:=by
 induction x with
 |dl ds=>exact g _ h
 |_=>exact h.elim
@[elab_as_elim] theorem Z9{P:O->Prop}{x:O}(h:RV x k)(g:∀ds,k ds->P (.ba ds)):P x:=by
 induction x with
 |ba ds=>exact g _ h
 |_=>exact h.elim
@[elab_as_elim] theorem Sv{P:O->Prop}{x:O}(h:MR x k)(g:∀c fs,k c fs->P (.inst c fs)):P x:=by
 induction x with
 |inst c fs=>exact g _ _ h
 |_=>exact h.elim
@[elab_as_elim] theorem qT{P:J aA->Prop}{k:V->Prop}{vs:J V}{ws:J aA}(z:gh w r F vs ws)(h:oz vs k)(g:∀v u,VR w r F v u->k v->P [u]):P ws:=
 z.rec (motive:=λvs ws X=>oz vs k->(∀v u,VR w r F v u->k v->P [u])->P ws) (λh=>h.elim) (λy z X=>z.rec (motive:=λvs ws X=>oz (_::vs) k->(∀v u,VR w r F v u->k v->P [u])->P (_::ws)) (λh g=>g _ _ y h) λX I u2 h=>h.elim) h g
@[elab_as_elim] theorem Z_{P:J aA->Prop}{k:Prop}(z:gh w r F vs ws)(h:MC vs k)(g:k->P []):P ws:=
 z.rec (motive:=λvs ws X=>MC vs k->(k->P [])->P ws) (λh g=>g h) (λX I u2 h=>h.elim) h g
@[elab_as_elim] theorem Sw{P:J aA->Prop}(z:gh w r F vs ws)(h:Er vs k)(g:∀v u v' u',VR w r F v u->VR w r F v' u'->k v v'->P [u,u']):P ws:=
 z.rec (motive:=λvs ws X=>Er vs k->(∀v u v' u',VR w r F v u->VR w r F v' u'->k v v'->P [u,u'])->P ws) (λh=>h.elim) (λy z X h g=>@qT _ _ _ (λws=>P (_::ws)) _ _ _ z h λv' u' y' h=>g _ _ _ _ y y' h) h g
end
noncomputable def tG:H->H->J H
 |X,0=>[]
 |n,1=>[n% 128]
 |n,k+2=>(n% 128+128)::tG (n/128) (k+1)
noncomputable def ny:aa->H->J H
 |X,0=>[]
 |i,1=>[(i% 128).toNat]
 |i,k+2=>((i% 128).toNat+128)::ny (i/128) (k+1)
mutual
def Tk.oct:Tk->J H
 | .b x=>[x]
 | .u n k=>tG n k
 | .s i k=>ny i k
 | .raw l=>l
 | .Zb ts=>c8 ts
def c8:J Tk->J H
 |[]=>[]
 |t::r=>t.oct++c8 r
end
def MV(l:J H)(i e:H):J (ai×V):=[(bH,.d (.bytes l)),(cD,.d (.int i)),(sY,.d (.int e))]
abbrev uK:=J ((aR×aR)×O)
noncomputable def jR:(aR×aR)×O->J aR
 |(p,.dl X)=>[p.1]
 |(p,.vl X)=>[p.1]
 |(p,.ba X)=>[p.1]
 |(p,.inst X I)=>[p.1,p.2]
 |(p,.cur X)=>[p.1,p.2]
 |(X,.gone)=>[]
 |(p,.cell X)=>[p.1]
 |(p,.frame X I)=>[p.1]
def own(L:uK):J aR:=L.flatMap jR
theorem oE(p:(aR×aR)×O)(L:uK):own (p::L)=jR p++own L:=rfl
theorem jf(L M:uK):own (L++M)=own L++own M:=List.flatMap_append ..
abbrev B9(w:bU)(r:bQ)(F:bP)(ov:bq V)(ow:bq aA):Prop:=∀v,ov=N v->∃u,ow=N u/\VR w r F v u
def MW(w:bU)(r:bQ)(F:bP)(mc:ai->bq aA)(cs:J (ai×aR))(x:ai):jA->Prop
 | .L ov=>B9 w r F ov (mc x)
 | .C h=>∃p,r[h]?=N p/\cs.lookup x=N p.1
def xh(w:bU)(r:bQ)(F:bP)(h:dH)(p:aR×aR)(c:aR)(fs:J (ai×V)):Prop:=
 ∃es n sl,h.get? p.1=N ⟨.ref c,N p.2,.plain,sl⟩/\h.get? p.2=N (mY es n)/\mL w r F fs es/\(fs.map (·.1)).Nodup/\∀x∈fs.map (·.1),vJ c x=ah
def OR(w:bU)(r:bQ)(F:bP)(h:dH)(p:aR×aR)(o:O):Prop:=match o with
 | .dl vs=>∃ws n,h.get? p.1=N (iH ws n)/\eU F vs ws.toList/\vs.length<=1048576
 | .vl vs=>∃ws n,h.get? p.1=N (iH ws n)/\gh w r F vs ws.toList/\vs.length<=1048576
 | .ba l=>∃b,h.get? p.1=N ⟨.type "bytearray",ao,.bytearray b 0,#[]⟩/\b.toList.map iY=l/\l.length<=1048576
 | .inst c fs=>xh w r F h p c fs
 | .cur ts=>∃l i e,xh w r F h p qf (MV l i e)/\i<=e/\e<=l.length/\(l.take e).drop i=c8 ts
 | .gone=>oV
 | .cell ov=>∃ow,h.IsCell p.1 ow/\B9 w r F ov ow
 | .frame cs m=>∃mc,h.Ns p.1 mc/\∀x sl,cG x m=N sl->MW w r F mc cs x sl
theorem B_{α:Type}{x:ai}{l:J (ai×α)}{a:α}(e:cG x l=N a):(x,a)∈l:=Kh ((Aw ..).symm.trans e)
theorem ab(v:bq V):MA id v=v:=by
 induction v with
 |none=>rfl
 |some v=>exact bR N v.vM
theorem jA.vM(s:jA):s.fL id=s:=by
 induction s with
 |L v=>exact bR jA.L (ab v)
 |C X=>rfl
theorem aG7(m):ZD id m=m:=ak6 (λp=>bR (p.1,·) (jA.vM p.2)) m
theorem O.vM(o:O):o.fL id=o:=by
 induction o with
 |vl vs=>exact bR O.vl (aG5 vs)
 |inst c fs=>exact bR (O.inst c) (aG6 fs)
 |cell v=>exact bR O.cell (ab v)
 |frame cs m=>exact bR (O.frame cs) (aG7 m)
 |_=>rfl
theorem ag(f:H->H)(p:aR×aR)(o:O):jR (p,o.fL f)=jR (p,o):=by cases o<;>rfl
theorem aG8(f:H->H)(fs):(BZ f fs).map (·.1)=fs.map (·.1):=n_
section
variable{w:bU}{f:H->H}{r r':bQ}{F b4:bP}{h h':dH}{p:aR×aR}
theorem B9.fL(k:iG F b4){ov ow}(q:oA f (RN ov) r r')(y:B9 w r F ov ow):B9 w r' b4 (MA f ov) ow:=by
 induction ov with
 |none=>exact λv e=>nomatch e
 |some v=>exact λv' e=>(y v rfl).imp λu z=>⟨z.1,fW e▸z.2.fL k q⟩
theorem MW.fL(k:iG F b4){mc cs x sl}(q:oA f sl.refs r r')(y:MW w r F mc cs x sl):MW w r' b4 mc cs x (sl.fL f):=by
 induction sl with
 |L ov=>exact B9.fL k q y
 |C a=>exact y.imp λp z=>⟨q a (.head _) p z.1,z.2⟩
theorem xh.fL{c fs}(q:oA f (RO fs) r r')(k:iG F b4)(S:∀b∈[p.1,p.2],∀x,h.get? b=N x->h'.get? b=N x)(y:xh w r F h p c fs):xh w r' b4 h' p c (BZ f fs):=
 y.imp λes y=>y.imp λn y=>y.imp λsl y=>⟨S _ (.head _) _ y.1,S _ (.tail _ (.head _)) _ y.2.1,y.2.2.1.BZ k q,by rw[aG8];exact y.2.2.2⟩
theorem OR.fL(k:iG F b4){o:O}(q:oA f o.refs r r')(S:∀b∈jR (p,o),∀x,h.get? b=N x->h'.get? b=N x)(y:OR w r F h p o):OR w r' b4 h' p (o.fL f):=by
 induction o with
 |dl vs=>exact y.imp λws y=>y.imp λn y=>⟨S _ (.head _) _ y.1,y.2.1.mono k,y.2.2⟩
 |vl vs=>exact y.imp λws y=>y.imp λn y=>⟨S _ (.head _) _ y.1,y.2.1.Z3 k q,aG4 f vs▸y.2.2⟩
 |ba l=>exact y.imp λb y=>⟨S _ (.head _) _ y.1,y.2⟩
 |inst c fs=>exact xh.fL q k S y
 |cur ts=>exact y.imp λl y=>y.imp λi y=>y.imp λe y=>⟨xh.fL (f:=f) (λX m=>(vt m).elim) k S y.1,y.2⟩
 |gone=>exact y
 |cell ov=>exact y.imp λow y=>⟨y.1.imp λo y=>⟨S _ (.head _) _ y.1,y.2⟩,B9.fL k q y.2⟩
 |frame cs m=>
  refine y.imp λmc y=>⟨y.1.imp λo y=>y.imp λes y=>y.imp λep y=>⟨S _ (.head _) _ y.1,y.2⟩,λx sl e=>?_⟩;have e:(cG x m).map (jA.fL f)=N sl:=(Z1 (jA.fL f) x m).symm.trans e;cases g:cG x m with
  |none=>rw[g]at e;cases e
  |some tH=>rw[g]at e;exact fW e▸(y.2 x tH g).fL k (q.at (g:=λp:ai×jA=>p.2.refs) (B_ g))
theorem OR.step(q:f_ r r')(k:iG F b4)(S:∀b∈jR (p,o),∀x,h.get? b=N x->h'.get? b=N x)(y:OR w r F h p o):OR w r' b4 h' p o:=o.vM▸OR.fL (f:=id) k (q.fL _) S y
end
theorem Ex{h:dH}(e:h.get? a=N x)(m:b∈[a]):∃x,h.get? b=N x:=by rw[fN.mp m];exact⟨_,e⟩
theorem al2{h:dH}(e:h.get? a=N x)(g:h.get? c=N y)(m:b∈[a,c]):∃x,h.get? b=N x:=(iV.mp m).elim (λq=>q▸⟨_,e⟩) (Ex g)
theorem OR.alive{w:bU}{r:bQ}{F:bP}{h:dH}{p:aR×aR}(y:OR w r F h p o):∀b∈jR (p,o),∃x,h.get? b=N x:=by
 intro b m;have ins:∀{c fs},xh w r F h p c fs->b∈[p.1,p.2]->∃x,h.get? b=N x:=λy m=>y.elim λX y=>y.elim λX y=>y.elim λX y=>al2 y.1 y.2.1 m;induction o with
 |dl X=>exact y.elim λX y=>y.elim λX y=>Ex y.1 m
 |vl X=>exact y.elim λX y=>y.elim λX y=>Ex y.1 m
 |ba X=>exact y.elim λX y=>Ex y.1 m
 |inst X I=>exact ins y m
 |cur X=>exact y.elim λX y=>y.elim λX y=>y.elim λX y=>ins y.1 m
 |cell X=>exact y.elim λX y=>y.1.elim λX y=>Ex y.1 m
 |frame X I=>exact y.elim λX y=>y.1.elim λX y=>y.elim λX y=>y.elim λX y=>Ex y.1 m
 |gone=>cases m
structure Mt(w:bU)(B:bP)(r:bQ)(s:aE)(F:bP)(L:uK):Prop where
 sub:∀a o,F a=N o->s.heap.get? a=N o
 base:iG B F
 live:∀p∈L,OR w r F s.heap p.1 p.2
 jg:∀a∈own L,F a=none
 nd:(own L).Nodup
structure fB(r r':bQ)(s s':aE)(F F':bP)(o o':J aR):Prop where
 fM:f_ r r'
 same:∃h t,s'={s with heap:=h,toks:=t}
 grow:iG F F'
 vP:∀a x,F' a=N x->F a=N x\/a∈o\/s.heap.get? a=none
 tK:∀a∈o',a∈o\/s.heap.get? a=none
 kept:∀a x,a∉o->s.heap.get? a=N x->s'.heap.get? a=N x
theorem fB.refl(r:bQ)(s:aE)(F:bP)(o:J aR):fB r r s s F F o o:=
 ⟨.refl _,⟨_,_,rfl⟩,.refl _,λX I e=>.inl e,λX h=>.inl h,λX I u2 e=>e⟩
theorem fB.trans{r bY iC:bQ}{s aF cj:aE}{F cz iI:bP}{o Sx am:J aR}(x:fB r bY s aF F cz o Sx)(y:fB bY iC aF cj cz iI Sx am):fB r iC s cj F iI o am:=by
 have fr:∀a,aF.heap.get? a=ao->a∈o\/s.heap.get? a=ao:=λa e=>by
  by_cases h:a∈o
  ·exact .inl h
  ·right;cases q:s.heap.get? a with
   |none=>rfl
   |some v=>rw[x.kept a v h q]at e;cases e
 refine⟨x.fM.trans y.fM,?_,x.grow.trans y.grow,λa v e=>?_,λa h=>?_,λa v h e=>?_⟩
 ·obtain⟨h,t,rfl⟩:=x.same;obtain⟨h',t',rfl⟩:=y.same;exact⟨h',t',rfl⟩
 ·rcases y.vP a v e with e|e|e
  ·exact x.vP a v e
  ·exact .inr (x.tK a e)
  ·exact .inr (fr a e)
 ·rcases y.tK a h with e|e
  ·exact x.tK a e
  ·exact fr a e
 ·refine y.kept a v (λq=>?_) (x.kept a v h e);rcases x.tK a q with q|q
  ·exact h q
  ·rw[e]at q;cases q
theorem fB.weak{r r':bQ}{F:bP}{p:J aR}(x:fB r r' s s' F F' o o')(hr:f_ r q')(h:∀a∈o,a∈p)(h':∀a∈p',a∈o'\/a∈p):fB r q' s s' F F' p p':=
 ⟨hr,x.same,x.grow,λa v e=>(x.vP a v e).imp id λq=>q.imp (h a) id,λa q=>(h' a q).elim (λq=>(x.tK a q).imp (h a) id) .inl,λa v q e=>x.kept a v (λz=>q (h a z)) e⟩
section
variable{w:bU}{B:bP}{r r':bQ}{s s':aE}{F F':bP}{L L' M:uK}
theorem Mt.lt(m:Mt w B r s F L)(h:a∈own L):a<s.heap.objs.size:=by refine b_ (rA.mp h) λp hx=>?_;have hp:=hx.1;have ha:=hx.2;refine b_ ((m.live p hp).alive a ha) λx hx=>?_;have e:=hx;exact kI e
theorem Mt.part(m:Mt w B r s F (L++M)):Mt w B r s F L:=by
 have d:=m.jg;have n:=m.nd;rw[jf]at d n
 exact⟨m.sub,m.base,λp hp=>m.live p (iN _ hp),λa ha=>d a (iN _ ha),(qz.mp n).1⟩
theorem Mt.join(m:Mt w B r s F (L++M))(t:fB kc bY s s' F F' (own L) (own L'))(m':Mt w B r' s' F' L')(q:f_ r r'):Mt w B r' s' F' (L'++M):=by
 have d:=m.jg;have n:=m.nd;rw[jf]at d n
 have hx:=qz.mp n;have n1:=hx.1;have n2:=hx.2.1;have n3:=hx.2.2;have lt:∀a∈own M,s.heap.get? a≠ao:=λa ha e=>by refine b_ (rA.mp ha) λp hx=>?_;have hp:=hx.1;have hb:=hx.2;refine b_ ((m.live p (kj _ hp)).alive a hb) λx hx=>?_;have e':=hx;rw[e]at e';cases e'
 refine⟨m'.sub,m'.base,λp hp=>?_,λa ha=>?_,?_⟩
 ·rcases gK.mp hp with hp|hp
  ·exact m'.live p hp
  ·refine(m.live p (kj _ hp)).step q t.grow λb hb x e=>t.kept b x (λq=>?_) e;exact n3 b q b (rA.mpr ⟨p,hp,hb⟩) rfl
 ·rw[jf]at ha
  rcases gK.mp ha with ha|ha
  ·exact m'.jg a ha
  ·cases q:F' a with
   |none=>rfl
   |some x=>
    exfalso;rcases t.vP a x q with e|e|e
    ·rw[d a (kj _ ha)]at e;cases e
    ·exact n3 a e a ha rfl
    ·exact lt a ha e
 ·rw[jf];refine qz.mpr ⟨m'.nd,n2,λa ha b hb q=>?_⟩;subst q;rcases t.tK a ha with e|e
  ·exact n3 a e a hb rfl
  ·exact lt a hb e
theorem fB.frame{kc bY:bQ}(t:fB kc bY s s' F F' (own L) (own L'))(q:f_ r r'):fB r r' s s' F F' (own (L++M)) (own (L'++M)):=by
 refine⟨q,t.same,t.grow,λa x e=>?_,λa h=>?_,λa x h e=>?_⟩
 ·rw[jf];rcases t.vP a x e with e|e|e
  ·exact .inl e
  ·exact .inr (.inl (iN _ e))
  ·exact .inr (.inr e)
 ·rw[jf]at h|-
  rcases gK.mp h with h|h
  ·exact(t.tK a h).imp (iN _) id
  ·exact .inl (kj _ h)
 ·rw[jf]at h;exact t.kept a x (λq=>h (iN _ q)) e
theorem aw(p:L.Perm L'):(own L).Perm (own L'):=p.flatMap_right _
theorem fB.perm{p:J aR}(h:∀a,a∈o↔a∈p)(h':∀a,a∈o'↔a∈p')(t:fB r r' s s' F F' o o'):fB r r' s s' F F' p p':=
 ⟨t.fM,t.same,t.grow,λa x e=>(t.vP a x e).imp id λq=>q.imp (h a).mp id,λa q=>(t.tK a ((h' a).mpr q)).imp (h a).mp id,λa x q e=>t.kept a x (λr=>q ((h a).mp r)) e⟩
theorem ax{L:uK}(h:PZ cC L):PZ (own cC) (own L):=by
 induction h with
 |slnil=>exact .slnil
 |cons a X ih=>rw[oE];exact ih.trans (List.sublist_append_right _ _)
 |cons_cons a X ih=>rw[oE,oE];exact(cF3 _).append ih
theorem Mt.sel{f:H->H}{cC:uK}(m:Mt w B r s F L)(Sy:PZ cC L)(hq:∀p∈cC,oA f p.2.refs r r'):Mt w B r' s F (cC.map λp=>(p.1,p.2.fL f)):=by
 have eo:own (cC.map λp=>(p.1,p.2.fL f))=own cC:=by unfold own;rw[cq1];congr 1;funext p;exact ag f p.1 p.2
 have so:PZ (own cC) (own L):=ax Sy;refine⟨m.sub,m.base,λp hp=>?_,λa ha=>?_,?_⟩
 ·obtain⟨bb,h0,rfl⟩:=qA.mp hp;exact OR.fL (.refl _) (hq bb h0) (λX I u2 e=>e) (m.live bb (Sy.mem h0))
 ·rw[eo]at ha;exact m.jg a (so.mem ha)
 ·rw[eo];exact so.nodup m.nd
end
theorem nc{α:Type}(l:J α):len l=l.length:=by
 induction l with
 |nil=>rfl
 |cons X r ih=>exact bR vo ih
theorem rR(n:H)(l:J O):gw n l=l[n]?:=by
 induction l generalizing n with
 |nil=>cases n<;>rfl
 |cons X r ih=>cases n;rfl;exact ih _
theorem yJ(x:O)(n:H)(l:J O):eO x n l=l.set n x:=by
 induction l generalizing n with
 |nil=>cases n<;>rfl
 |cons y r ih=>cases n;rfl;exact bR (y::·) (ih _)
theorem Sz{α:Type}(n:H)(l:J α):l7 n l=l.take n:=by
 induction l generalizing n with
 |nil=>cases n<;>rfl
 |cons y r ih=>cases n;rfl;exact bR (y::·) (ih _)
theorem HS:eK a l=ah↔a∈l:=by
 induction l with
 |nil=>exact⟨(λh=>nomatch h),λh=>nomatch h⟩
 |cons b r ih=>
  have go:∀q,bX a b=q->((match q with|true=>ah|false=>eK a r)=ah↔a∈b::r):=λq e=>by
   cases q
   ·exact ih.trans ⟨.tail _,λm=>(iV.mp m).elim (λh=>absurd h (PW e)) id⟩
   ·exact⟨λX=>mV e▸ .head _,λX=>rfl⟩
  exact go _ rfl
theorem Ca:tw n l=ah↔∀a∈l,a<n:=by
 induction l with
 |nil=>exact⟨(λX a h=>nomatch h),λX=>rfl⟩
 |cons a r ih=>
  have go:∀q,nJ (vo a) n=q->((match q with|true=>tw n r|false=>ak)=ah↔∀b∈a::r,b<n):=λq e=>by
   cases q
   ·exact⟨(λh=>nomatch h),λh=>absurd ((cp8 (h a (.head _))).symm.trans e) gr⟩
   ·exact ih.trans ⟨λh=>gv.mpr ⟨P0 e,h⟩,λh=>(gv.mp h).2⟩
  exact go _ rfl
theorem aG9{l:J H}:MB l=ah↔l.Nodup:=by
 induction l with
 |nil=>exact⟨λX=>.nil,λX=>rfl⟩
 |cons a r ih=>
  have go:∀q,eK a r=q->((match q with|true=>ak|false=>MB r)=ah↔(a::r).Nodup):=λq e=>by
   cases q
   ·exact ih.trans ⟨λh=>o4.mpr ⟨λm=>absurd ((HS.mpr m).symm.trans e) gr,h⟩,λh=>(o4.mp h).2⟩
   ·exact⟨(λh=>nomatch h),λh=>absurd (HS.mp e) (o4.mp h).1⟩
  exact go _ rfl
theorem bc:HE l m=ah↔∀a∈l,a∈m:=by
 induction l with
 |nil=>exact⟨(λX a h=>nomatch h),λX=>rfl⟩
 |cons a r ih=>
  have go:∀q,eK a m=q->((match q with|true=>HE r m|false=>ak)=ah↔∀b∈a::r,b∈m):=λq e=>by
   cases q
   ·exact⟨(λh=>nomatch h),λh=>absurd ((HS.mpr (h a (.head _))).symm.trans e) gr⟩
   ·exact ih.trans ⟨λh=>gv.mpr ⟨HS.mp e,h⟩,λh=>(gv.mp h).2⟩
  exact go _ rfl
theorem aH0:a∈l->l[qP a l]?=N a:=by
 induction l with
 |nil=>exact λh=>nomatch h
 |cons b r ih=>
  have go:∀q,bX a b=q->a∈b::r->(b::r)[(match q with|true=>0|false=>vo (qP a r))]?=N a:=λq e h=>by
   cases q
   ·exact ih ((iV.mp h).elim (λh=>absurd h (PW e)) id)
   ·exact bR N (mV e).symm
  exact go _ rfl
theorem bj(n:H)(l:J H):uG n l=l[n]?.getD 0:=by
 induction l generalizing n with
 |nil=>cases n<;>rfl
 |cons X r ih=>cases n;rfl;exact ih _
theorem bm(a n:H):um a n=cq2 a n:=by
 induction n generalizing a with
 |zero=>rfl
 |succ n ih=>exact bR (a::·) (ih _)
theorem bn(o:J O)(ρ:J H):(jQ o ρ).length=ρ.length:=by
 induction ρ with
 |nil=>rfl
 |cons X r ih=>exact bR (·+1) ih
theorem HT(f:H->H)(l:J O):qQ f l=l.map (O.fL f):=rfl
theorem HU:h∈lU l↔∃o∈l,h∈o.refs:=rA
theorem aH1:∀{todo acc:J H},∃t,wJ o n todo acc=acc++t:=by
 induction n with
 |zero=>exact λ{X acc}=>⟨[],(j3 acc).symm⟩
 |succ n ih=>
  intro todo acc;induction todo using eT with
  |nil=>exact⟨[],(j3 acc).symm⟩
  |cons h t=>
   have go:∀q,∃t',(match q with|true=>wJ o n t acc|false=>wJ o n ((match gw h o with|some x=>x.refs|none=>[])++t) (acc++[h]))=acc++t':=λq=>by
    cases q
    ·exact ih.elim λt' e=>⟨h::t',e.trans (jx ..)⟩
    ·exact ih
   exact go _
noncomputable abbrev pk(r:bQ)(h:H):aR×aR:=r[h]?.getD (0,0)
theorem SA{o:J O}:∀{h:H}{r:bQ},r.length=o.length->h<o.length->∃E,∀x,(r.zip (eO x h o)).Perm ((pk r h,x)::E):=by
 induction o with
 |nil=>exact λX l=>absurd l (xV _)
 |cons y o ih=>
  intro h r e l;induction r using eT with
  |nil=>cases e
  |cons p r=>induction h using ji with
   |zero=>exact⟨r.zip o,λx=>.refl _⟩
   |succ h=>exact(ih (zL e) (F6 l)).elim λE q=>⟨(p,y)::E,λx=>((q x).cons _).trans (.swap ..)⟩
theorem aH2(e:gw h o=N x):eO x h o=o:=by
 rw[yJ];rw[rR]at e
 obtain⟨l,e⟩:=vq.mp e;exact e▸List.set_getElem_self l
theorem Ay(x:O)(h:H)(o:J O):(eO x h o).length=o.length:=by rw[yJ,cq3]
theorem aH3(n:h≠g)(o:J O):eO x h (eO y g o)=eO y g (eO x h o):=by rw[yJ,yJ,yJ,yJ];exact List.set_comm _ _ (FY n)
theorem bo:∀{o:J O},h∉ρ->mH ρ (eO x h o)=eO x h (mH ρ o):=by
 induction ρ with
 |nil=>exact λX=>rfl
 |cons g ρ ih=>exact λ{o} n=>(bR (mH ρ) (aH3 (λe:g=h=>n (e▸ .head _)) o)).trans (ih λm=>n (.tail _ m))
theorem SD(ρ:J H)(o:J O):(mH ρ o).length=o.length:=by
 induction ρ generalizing o with
 |nil=>rfl
 |cons g ρ ih=>exact(ih _).trans (Ay ..)
theorem aH4:h∉ρ->jQ (eO x h o) ρ=jQ o ρ:=by
 induction ρ with
 |nil=>exact λX=>rfl
 |cons g ρ ih=>exact λn=>(bR (_::·) (ih λm=>n (.tail _ m))).trans (bR (λz=>(match z with|some x=>x|none=>O.gone)::jQ o ρ) (by rw[rR,rR,yJ,cq4 λe:h=g=>n (e▸ .head _)]))
abbrev gn(r:bQ)(h:H):(aR×aR)×O:=(pk r h,.gone)
theorem bp(ρ:J H):own (ρ.map (gn r))=[]:=by
 induction ρ with
 |nil=>rfl
 |cons h ρ ih=>exact ih
theorem MX{r:bQ}{ρ:J H}:∀{o:J O},r.length=o.length->ρ.Nodup->(∀h∈ρ,h<o.length)->(r.zip o++ρ.map (gn r)).Perm ((ρ.map (pk r)).zip (jQ o ρ)++r.zip (mH ρ o)):=by
 induction ρ with
 |nil=>exact λ{o} X I u2=>(j3 (r.zip o)).symm▸ .refl _
 |cons h ρ ih=>
  intro o e nd lt;have hx:=o4.mp nd;have n1:=hx.1;have n2:=hx.2;have l:=lt h (.head _);have hy:gw h o=N o[h]:=by rw[rR];exact mZ l
  refine b_ (SA e l) λE hx=>?_;have q:=hx;have ih:=ih (o:=eO .gone h o) ((Ay ..).symm▸e) n2 λg m=>(Ay ..).symm▸lt g (.tail _ m);rw[aH4 n1]at ih
  have q1:=q o[h];rw[aH2 hy]at q1
  show cq5 _ ((pk r h,(match gw h o with|some x=>x|none=>O.gone))::((ρ.map (pk r)).zip (jQ o ρ)++_))
  rw[hy];exact(q1.append_right _).trans (.cons _ (P1.trans (((q .gone).symm.append_right _).trans ih)))
theorem bt{r c:bQ}{ρ:J H}:∀{xs o:J O},r.length=o.length->ρ.Nodup->(∀h∈ρ,h<o.length)->ρ.length+c.length=xs.length->
  ((r++c).zip (Aq ρ xs o)++ρ.map (gn r)).Perm ((ρ.map (pk r)++c).zip xs++r.zip (mH ρ o)):=by
 induction ρ with
 |nil=>
  intro xs o e _ _ _
  show((r++c).zip (o++xs)++[]).Perm (c.zip xs++r.zip o)
  rw[j3,ak7 e];exact List.perm_append_comm
 |cons h ρ ih=>
  intro xs o e nd lt e2;have hx:=o4.mp nd;have n1:=hx.1;have n2:=hx.2;induction xs using eT with
  |nil=>exact nomatch (xY ρ.length c.length).symm.trans e2
  |cons x xs=>
   have ih:=ih (xs:=xs) (o:=eO x h o) ((Ay ..).symm▸e) n2 (λg m=>(Ay ..).symm▸lt g (.tail _ m)) (zL ((xY ρ.length c.length).symm.trans e2));refine b_ (SA (h:=h) (e.trans (SD ρ o).symm) ((SD ρ o).symm▸lt h (.head _))) λE hx=>?_;have q:=hx;rw[bo n1]at ih
   show cq5 _ ((pk r h,x)::((ρ.map (pk r)++c).zip xs++r.zip (mH ρ (eO .gone h o))))
   rw[bo n1];exact P1.trans (((ih.trans ((q x).append_left _)).trans P1).cons _|>.trans ((List.Perm.swap ..).trans (.cons _ (P1.symm.trans ((q .gone).symm.append_left _)))))
theorem MY{r:bQ}{ρ:J H}{o:J O}(e:r.length=o.length)(nd:ρ.Nodup)(lt:∀h∈ρ,h<o.length):
  (own (r.zip o)).Perm (own ((ρ.map (pk r)).zip (jQ o ρ))++own (r.zip (mH ρ o))):=by
 have:=aw (MX e nd lt);rw[jf,jf,bp,j3]at this
 exact this
theorem aH5{r c:bQ}{ρ:J H}{xs o:J O}(e:r.length=o.length)(nd:ρ.Nodup)(lt:∀h∈ρ,h<o.length)(e2:ρ.length+c.length=xs.length):
  (own ((r++c).zip (Aq ρ xs o))).Perm (own ((ρ.map (pk r)++c).zip xs)++own (r.zip (mH ρ o))):=by
 have:=aw (bt e nd lt e2);rw[jf,jf,bp,j3]at this
 exact this
theorem SE{p:(aR×aR)×O}{ρ:J H}(h:(L++ρ.map (gn r)).Perm cC)(m:p∈cC):p.2=.gone\/p∈L:=
 (gK.mp (h.mem_iff.mpr m)).elim .inr λm=>(qA.mp m).elim λa q=>.inl (q.2▸rfl)
theorem aH6{r c:bQ}{ρ:J H}{xs o:J O}(e:r.length=o.length)(nd:ρ.Nodup)(lt:∀h∈ρ,h<o.length)(e2:ρ.length+c.length=xs.length)(m:p∈(r++c).zip (Aq ρ xs o)):p∈(ρ.map (pk r)++c).zip xs++r.zip (mH ρ o):=
 (bt e nd lt e2).mem_iff.mp (iN _ m)
theorem aH7{r:bQ}{o:J O}(l:h<o.length)(e:r.length=o.length)(m:p∈r.zip (eO x h o)):p=(pk r h,x)\/p∈r.zip (eO .gone h o):=
 (SA e l).elim λE q=>(iV.mp ((q x).mem_iff.mp m)).imp id λm=>(q .gone).mem_iff.mpr (.tail _ m)
theorem bv{r:bQ}{p:(aR×aR)×O}{ρ:J H}{o:J O}(e:r.length=o.length)(nd:ρ.Nodup)(lt:∀h∈ρ,h<o.length)(m:p∈r.zip (mH ρ o)):p.2=.gone\/p∈r.zip o:=
 SE (MX e nd lt) (kj _ m)
section
variable{w:bU}{B:bP}{r r':bQ}{s s':aE}{F F':bP}{L L' M cC:uK}
theorem Mt.SG(m:Mt w B r s F L)(e:(own L).Perm (own cC))(h:∀p∈cC,p.2=.gone\/p∈L):Mt w B r s F cC:=
 ⟨m.sub,m.base,λp hp=>by
  rcases h p hp with q|q
  ·rw[q];trivial
  ·exact m.live p q,λa ha=>m.jg a (e.mem_iff.mpr ha),e.nodup_iff.mp m.nd⟩
theorem Mt.ca{r0:bQ}(m:Mt w B r s F (r0.zip o))(hq:oA f (lU o) r r'):Mt w B r' s F (r0.zip (qQ f o)):=by have:=m.sel (cC:=r0.zip o) (f:=f) (r':=r') (.refl _) λp hp h hh=>hq h (HU.mpr ⟨p.2,(cq6 hp).2,hh⟩);rw[HT,cq7];exact this
theorem SH(f:H->H)(r0:bQ)(o:J O):own (r0.zip (qQ f o))=own (r0.zip o):=by rw[HT,cq7];unfold own;rw[cq1];congr 1;funext p;exact ag f p.1 p.2
theorem SI(l:h<r.length):r[h]?=N (pk r h):=by
 show r[h]?=N (r[h]?.getD (0,0))
 rw[mZ l];rfl
theorem SJ{ρ:J H}(h:∀a∈hs,a∈ρ):oA (λh=>qP h ρ) hs r (ρ.map (pk r)):=λa ha p e=>by
 have e2:(ρ.map (pk r))[qP a ρ]?=N (pk r a):=by rw[mD,aH0 (h a ha)];rfl
 refine e2.trans ?_
 show N (r[a]?.getD (0,0))=N p
 rw[e];rfl
end
structure cb(K:qB)(c:aR)(x:ai):Prop where
 pg:Xs K c x=ah
 hd:hasDictIn K c=ah
 fi:∃a,Dk K (.ref c) x=N a/\noGet K a=ah
 sa:Dk K (.ref c) "__setattr__"=N (N (.builtin "object.__setattr__"))
 po:ak8 K c=ah
 ti:takerIn K c x=N none
structure cc(K:qB)(c:aR)(x:ai)(a:aR):Prop where
 pg:Xs K c x=ah
 fi:Dk K (.ref c) x=N (N (.ref a))
 ty:Xu K (.ref a)=N (.type "function")
 fn:∃o fd,K.lookup a=N o/\o.data=.func fd
 na:vJ c x=ak
structure Cf where
 prog:iU
 w:bU
 h0:dH
 mg:ai->bq aA
 mb:ai->bq aA
 ng:h0.Ns qx mg
 nb:h0.Ns wo mb
 nl:h0.NoLimit
 sm:∃a o,xZ<a/\h0.get? a=N o
 K:qB
 ff:K.In h0
 aG:∀c x,vJ c x=ah->cb K c x
 ce:∀c x a,GV c x=N a->cc K c x a
noncomputable def Cf.g(c:Cf)(x:ai):bq aA:=match c.mg x with|some v=>N v|none=>c.mb x
noncomputable abbrev Cf.B(c:Cf):bP:=c.h0.get?
structure Ok(n:H)(A:cQ):Prop where
 hd:A.handled=none
 depth:A.depth+5*n<=900
 units:A.units+20*n<=9800
theorem Ok.room{n:H}{A:cQ}(h:Ok n A):A.depth<cp3:=eZ (bN (gF _ _) h.depth) (by decide)
abbrev l_(f:Cf)(r:bQ)(s:aE)(F:bP)(L:uK):Prop:=Mt f.w f.B r s F L
inductive SK(f:Cf)(o:J O)(k:V->J O->Prop)(r:bQ)(s:aE)(F:bP)(u:aA)(s':aE):Prop
 |mk (v o' r' F'):k v o'->VR f.w r' F' v u->r'.length=o'.length->l_ f r' s' F' (r'.zip o')->fB r r' s s' F F' (own (r.zip o)) (own (r'.zip o'))->SK f o k r s F u s'
def WC(f:Cf)(n:H)(g:aA)(args:J V)(o:J O)(k:V->J O->Prop):Prop:=∀A s F E r ws,Ok n A->r.length=o.length->l_ f r s F (r.zip o)->gh f.w r F args ws->
 av (aP f.prog f.w) A (fF g ws) (SK f o k r s F) E s
def SC(f:Cf)(n:H)(g:aA)(T:Tr):Prop:=∀args o k,T args o k->WC f n g args o k
theorem aH8{ρ:J H}(l:i<ρ.length)(t:J H):uG i (ρ++t)=ρ[i]:=by rw[bj,PY l,mZ l];rfl
theorem SM{o:J O}{ρ:J H}(h:xd o args ρ=ah):ρ.Nodup/\(∀a∈ρ,a<o.length)/\(∀a∈An args,a∈ρ)/\∀a∈lU (jQ o ρ),a∈ρ:=by
 unfold xd at h
 split at h;rotate_left;cases h
 rename_i h1
 split at h;rotate_left;cases h
 rename_i h2
 split at h;rotate_left;cases h
 rename_i h3;rw[nc]at h2
 exact⟨aG9.mp h1,Ca.mp h2,bc.mp h3,bc.mp h⟩
theorem Mt.cf{r:bQ}{s F}{o:J O}{ρ:J H}(m:l_ f r s F (r.zip o++M))(e:r.length=o.length)(nd:ρ.Nodup)(lt:∀a∈ρ,a<o.length)(vm:∀a∈lU (jQ o ρ),a∈ρ):
  l_ f (ρ.map (pk r)) s F ((ρ.map (pk r)).zip (qQ (λh=>qP h ρ) (jQ o ρ))):=by
 have g:=MY e nd lt;exact(m.part.SG ((jf ..)▸g) λp=>SE (MX e nd lt)).part.ca (SJ vm)
theorem f_.split:∀{b:bQ},f_ a b->∃c,b=a++c:=by
 induction a with
 |nil=>exact λ{b} X=>⟨b,rfl⟩
 |cons x a ih=>
  intro b h;induction b using eT with
  |nil=>exact nomatch h 0 x rfl
  |cons y b=>exact(ih λi p e=>h (i+1) p e).imp λc e=>by rw[e,fW (h 0 x rfl)];rfl
theorem aH9{r c:bQ}{ρ:J H}(lt:∀a∈ρ,a<r.length)(hh:∀a∈hs,a<ρ.length+c.length):oA (λi=>uG i (ρ++um r.length c.length)) hs (ρ.map (pk r)++c) (r++c):=by
 intro i hi p hp;have l3:=hh i hi;dsimp only;by_cases l:i<ρ.length
 ·have l2:ρ[i]<r.length:=lt _ (ak9 l);rw[PY (cO (pk r)▸l),mD,mZ l]at hp
  rw[aH8 l,PY l2];exact(SI l2).trans hp
 ·obtain⟨j,rfl⟩:=cq8 (vj.mp l);have lj:=cq9 l3;rw[P4 (cO (pk r)▸gF _ _),cO,Kl]at hp
  rw[bj,P4 (gF _ _),Kl,bm,cr0 lj,Option.getD_some,cr1,P4 (gF _ _),Kl];exact hp
theorem aI0(ρ:J H):∀(xs o:J O),ρ.length<=xs.length->(Aq ρ xs o).length=o.length+(xs.length -ρ.length):=by
 induction ρ with
 |nil=>exact λxs o X=>f6
 |cons h ρ ih=>
  intro xs o l;induction xs using eT with
  |nil=>exact absurd l (Nat.not_succ_le_zero _)
  |cons x xs=>exact(ih xs (eO x h o) (Km l)).trans (by rw[Ay,Kn,Kn,Nat.add_sub_add_right])
theorem aI1(h:SC f n g T)(S:yz T args o k):WC f n g args o k:=by
 intro A s F E r ws ok e m y;have go:∀ρ q,xd o args ρ=q->(match(generalizing:=false) q with
   |true=>RP (BY (λh=>qP h ρ) args) λargs=>lV (qQ (λh=>qP h ρ) (jQ o ρ)) λo1=>T args o1 (RT ρ o k)
   |false=>bV)->xd o args ρ=ah/\T (BY (λh=>qP h ρ) args) (qQ (λh=>qP h ρ) (jQ o ρ)) (RT ρ o k):=λρ q=>by
  cases q
  ·exact λX h=>h.elim
  ·exact λe h=>⟨e,((RS ..).trans (o7 ..)).mp h⟩
 have S:=go _ _ rfl ((HG ..).mp S);generalize wJ o Eo (An args) []=ρ at S
 obtain⟨nd,lt,s1,s2⟩:=SM S.1;have mg:=Mt.cf (M:=[]) (show l_ f r s F (r.zip o++[]) by rw[j3];exact m) e nd lt s2
 have g:=MY (r:=r) e nd lt;refine gG (h _ _ _ S.2 A s F E (ρ.map (pk r)) ws ok (by rw[cO,HT,cO,bn]) mg (y.Z3 (.refl _) (SJ s1))) (λu s' p=>?_) λX I z=>z
 induction p with
 |mk v o' r0 F' hq yv e2 m2 t=>
 obtain⟨c,rfl⟩:=t.fM.split;rw[f6,cO]at e2
 have go:∀q,tw (Wm.len o') (v.refs++lU o')=q->(match(generalizing:=false) q with
   |true=>Ep (ρ++um (Wm.len o) (Wm.len o' -Wm.len ρ)) λHH=>uH (v.fL λi=>uG i HH) λv=>lV (Aq ρ (qQ (λi=>uG i HH) o') o) λo=>k v o
   |false=>bV)->(∀a∈v.refs++lU o',a<ρ.length+c.length)/\k (v.fL λi=>uG i (ρ++um r.length c.length)) (Aq ρ (qQ (λi=>uG i (ρ++um r.length c.length)) o') o):=λq=>by
  cases q
  ·exact λX h=>h.elim
  ·intro a h;have h:=((HG ..).trans ((w_ ..).trans (o7 ..))).mp h;rw[nc,nc,nc,<-e2,Kl,<-e]at h
   rw[nc]at a
   exact⟨e2▸Ca.mp a,h⟩
 have hq:=go _ rfl hq;have ci:∀hs:J H,(∀a∈hs,a<ρ.length+c.length)->oA (λi=>uG i (ρ++um r.length c.length)) hs (ρ.map (pk r)++c) (r++c):=λhs=>aH9 (λa ha=>e▸lt a ha);have hv:=yv.fL (.refl _) (ci _ λa ha=>hq.1 a (iN _ ha));have cm:f_ r (r++c):=f_.app _ _;have SN:=m2.ca (ci _ λa ha=>hq.1 a (kj _ ha))
 have aI2:l_ f r s F ((ρ.map (pk r)).zip (jQ o ρ)++r.zip (mH ρ o)):=
  m.SG ((jf ..)▸g) λp=>SE (MX e nd lt)
 have hq:=hq.2;generalize(λi=>uG i (ρ++um r.length c.length))=ν at hq hv SN
 rw[(SH _ _ _:own ((ρ.map (pk r)).zip (qQ (λh=>qP h ρ) (jQ o ρ)))=own ((ρ.map (pk r)).zip (jQ o ρ))),<-(SH _ _ _:own ((ρ.map (pk r)++c).zip (qQ ν o'))=own ((ρ.map (pk r)++c).zip o'))]at t
 have lo:(qQ ν o').length=ρ.length+c.length:=by rw[HT,cO];exact e2.symm
 generalize qQ ν o'=x at hq SN t lo
 have sc:=aH5 (r:=r) (xs:=x) e nd lt lo.symm;exact⟨_,_,r++c,F',hq,hv,by rw[aI0 _ _ _ (lo▸gF _ _),f6,e,lo,Kl],(aI2.join t SN cm).SG (jf ..▸sc.symm) λp hp=>.inr (aH6 e nd lt lo.symm hp),
  (t.frame (M:=r.zip (mH ρ o)) cm).perm (λa=>by rw[jf];exact g.symm.mem_iff) λa=>by rw[jf];exact sc.symm.mem_iff⟩
noncomputable def jA.kind:jA->cJ
 | .L X=>.local
 | .C X=>.cell
structure g_(f:Cf)(Y:J (ai×cJ))(G:cL):Prop where
 kind:G.scope.kind=.function
 Y:G.scope.names=Y
 gl:G.globals=qx
 bi:G.builtins=wo
theorem g_.look{Y}{G:cL}(h:g_ f Y G)(e:cG x Y=N k):G.kindOf x=N k:=by unfold PR;rw[h.Y,<-Aw];exact e
def FK(Y:J (ai×cJ))(m:Fm):Prop:=∀x sl,cG x m=N sl->cG x Y=N sl.kind
noncomputable abbrev Cb(G:cL)(m:Fm):(aR×aR)×O:=((G.locals,G.locals),.frame G.cells m)
noncomputable abbrev eS(G:cL)(Z:St)(r:bQ):uK:=r.zip Z.o++[Cb G Z.m]
structure At(f:Cf)(Y:J (ai×cJ))(G:cL)(Z:St)(r:bQ)(s:aE)(F:bP):Prop where
 len:r.length=Z.o.length
 fk:FK Y Z.m
 mt:l_ f r s F (eS G Z r)
abbrev Go(G:cL)(Z b9:St)(r r':bQ)(s s':aE)(F F':bP):Prop:=fB r r' s s' F F' (own (eS G Z r)) (own (eS G b9 r'))
variable(f:Cf)(Y:J (ai×cJ))
inductive mh{α β:Type}(R:bQ->bP->α->β->Prop)(G:cL)(Z:St)(Q:α->St->Prop)(r:bQ)(s:aE)(F:bP)(w:β)(s':aE):Prop
 |mk (v b9 r' F'):Q v b9->R r' F' v w->At f Y G b9 r' s' F'->Go G Z b9 r r' s s' F F'->mh R G Z Q r s F w s'
abbrev rS:=mh f Y (λr F=>VR f.w r F)
inductive xj(w:bU)(r:bQ)(F:bP):dZ->C6->Prop
 |next:xj w r F .next .next
 |brk:xj w r F .brk .brk
 |cont:xj w r F .cont .cont
 |ret {v u}:VR w r F v u->xj w r F (.ret v) (.ret u)
def WX{α β:Type}(R:bQ->bP->α->β->Prop)(n:H)(t:cL->dJ β)(Z:St)(Q:α->St->Prop):Prop:=∀A s F G E r,Ok n A->g_ f Y G->At f Y G Z r s F->
 av (aP f.prog f.w) A (t G) (mh f Y R G Z Q r s F) E s
abbrev WE(n:H)(e:aT):=WX f Y (λr F=>VR f.w r F) n (λG=>cM e G)
abbrev qU(n:H)(es:J aT)(Z:St)(Q:J V->St->Prop):Prop:=∀pos,WX f Y (λr F=>gh f.w r F) n (λG=>ru (n9 pos (lQ es G))) Z Q
abbrev WT(n:H)(e:aT):=WX f Y (λX I (b:aD)(b':aD)=>b=b') n (λG=>oY e G (cM e G))
abbrev Az(n:H)(op:Xb)(es:J aT):=WX f Y (λX I (b:aD)(b':aD)=>b=b') n (λG=>De op es G)
abbrev WS(n:H)(ss:J eg):=WX f Y (λr F=>xj f.w r F) n (λG=>A_ ss G)
abbrev W1(n:H)(s1:eg):=WX f Y (λr F=>xj f.w r F) n (λG=>t8 s1 G)
variable{f Y}{n:H}{Z:St}{e:aT}
theorem Mt.stays{s:aE}(mt:l_ f r s F L):∀b o,f.h0.get? b=N o->s.heap.get? b=N o:=λb o e=>mt.sub b o (mt.base b o e)
theorem At.tok{G r s F}(a:At f Y G Z r s F)(t:H):At f Y G Z r {s with toks:=t} F:=⟨a.len,a.fk,a.mt.sub,a.mt.base,a.mt.live,a.mt.jg,a.mt.nd⟩
theorem fB.tok(r:bQ)(s:aE)(F:bP)(o:J aR)(t:H):fB r r s {s with toks:=t} F F o o:=
 ⟨.refl _,⟨_,_,rfl⟩,.refl _,λX I e=>.inl e,λX h=>.inl h,λX I u2 e=>e⟩
theorem mh.here{α β:Type}{R:bQ->bP->α->β->Prop}{G r s F}{Q:α->St->Prop}{v:α}{w:β}{t:H}(a:At f Y G Z r s F)(y:R r F v w)(q:Q v Z):mh f Y R G Z Q r s F w {s with toks:=t}:=
 ⟨v,Z,r,F,q,y,a.tok t,.tok ..⟩
theorem mh.oG{α β:Type}{R:bQ->bP->α->β->Prop}{G r s F}{Q:α->St->Prop}{v:α}{w:β}(a:At f Y G Z r s F)(y:R r F v w)(q:Q v Z):mh f Y R G Z Q r s F w s:=
 ⟨v,Z,r,F,q,y,a,.refl ..⟩
theorem mh.of{α β:Type}{R:bQ->bP->α->β->Prop}{G r bY s aF F cz}{aI:St}{Q:α->St->Prop}{w:β}{s':aE}(t:Go G Z aI r bY s aF F cz)(p:mh f Y R G aI Q bY aF cz w s'):mh f Y R G Z Q r s F w s':=
 p.rec λv b9 r' F' q y a t'=>⟨v,b9,r',F',q,y,a,t.trans t'⟩
theorem WX.mono{α β:Type}{R:bQ->bP->α->β->Prop}{t:cL->dJ β}{Q Q':α->St->Prop}(h:WX f Y R n t Z Q)(k:∀v b9,Q v b9->Q' v b9):WX f Y R n t Z Q':=
 λA s F G E r o i a=>gG (h A s F G E r o i a) (λX I p=>p.rec λv b9 r' F' q y a t=>⟨v,b9,r',F',k v b9 q,y,a,t⟩) λX I z=>z
theorem WX.run{α β:Type}{R:bQ->bP->α->β->Prop}{t:cL->dJ β}{Q:α->St->Prop}(h:WX f Y R n t Z Q){A s F G E r}{P:β->aE->Prop}(o:Ok n A)(i:g_ f Y G)(a:At f Y G Z r s F)
  (k:∀v w aI bY cz aF,Q v aI->R bY cz v w->At f Y G aI bY aF cz->Go G Z aI r bY s aF F cz->P w aF):av (aP f.prog f.w) A (t G) P E s:=
 gG (h A s F G E r o i a) (λw s' p=>p.rec λv b9 r' F' q y a' t=>k v w b9 r' F' s' q y a' t) λX I z=>z
theorem At.frame{G r s F}(a:At f Y G Z r s F):OR f.w r F s.heap (G.locals,G.locals) (.frame G.cells Z.m):=a.mt.live _ (kj _ (.head _))
theorem aI3{α β:Type}{a:α}{b:β}{i:H}{l:J α}{m:J β}(h:l[i]?=N a)(g:m[i]?=N b):(a,b)∈l.zip m:=
 al0.mpr ⟨i,P5.mpr ⟨h,g⟩⟩
theorem At.obj{G r s F}(a:At f Y G Z r s F)(e:r[h]?=N p)(e':gw h Z.o=N o):OR f.w r F s.heap p o:=
 a.mt.live _ (iN _ (aI3 e (by rw[<-rR];exact e')))
theorem At.fM{G r s F}(a:At f Y G Z r s F)(e':gw h Z.o=N o):∃p,r[h]?=N p:=by
 rw[rR]at e'
 have:=(vq.mp e').1;rw[<-a.len]at this
 exact⟨_,mZ this⟩
theorem HV{α β:Type}{a:α}{b:β}{l:J α}{m:J β}(h:l.length=m.length):(l++[a]).zip (m++[b])=l.zip m++[(a,b)]:=ak7 h
theorem pq(h:dH):h.get? h.objs.size=ao:=by
 cases e:h.get? h.objs.size with
 |none=>rfl
 |some x=>exact absurd (kI e) (vg _)
theorem aI4{s F}{o:fH}(mt:Mt w B r s F Lx)(ho:o.isFreed=ak):
  ∃F',F' s.heap.objs.size=N o/\Mt w B r {s with heap:=s.heap.push o} F' Lx/\fB r r s {s with heap:=s.heap.push o} F F' (own Lx) (own Lx):=by
 have hn:F s.heap.objs.size=ao:=by
  cases q:F s.heap.objs.size with
  |none=>rfl
  |some x=>exact absurd (kI (mt.sub _ _ q)) (vg _)
 refine⟨λa=>if a=s.heap.objs.size then N o else F a,dM rfl,⟨λa x e=>?_,λa x e=>?_,λp hp=>?_,λa ha=>?_,mt.nd⟩,⟨.refl _,⟨_,_,rfl⟩,λa x e=>?_,λa x e=>?_,λa h=>.inl h,λa x X e=>ko _ e⟩⟩
 ·by_cases h:a=s.heap.objs.size
  ·rw[dM h]at e;cases e;rw[h];exact lY _ ho
  ·rw[cF h]at e;exact ko _ (mt.sub a x e)
 ·have:a≠s.heap.objs.size:=λh=>by rw[h]at e;rw[mt.base _ _ e]at hn;cases hn
  show(if a=s.heap.objs.size then N o else F a)=N x
  rw[cF this];exact mt.base a x e
 ·refine(mt.live p hp).step (.refl _) (λa x e=>?_) λb X x e=>ko _ e;have:a≠s.heap.objs.size:=λh=>by rw[h]at e;rw[e]at hn;cases hn
  rw[cF this];exact e
 ·show(if a=s.heap.objs.size then N o else F a)=ao
  rw[cF (sr (mt.lt ha))];exact mt.jg a ha
 ·have:a≠s.heap.objs.size:=λh=>by rw[h]at e;rw[e]at hn;cases hn
  rw[cF this];exact e
 ·by_cases h:a=s.heap.objs.size
  ·exact .inr (.inr (h▸pq _))
  ·rw[cF h]at e;exact .inl e
theorem aI5{s F}{o:fH}(mt:Mt w B r s F (La++Lb))(ho:o.isFreed=ak)(hx:jR ((s.heap.objs.size,d),x)=[s.heap.objs.size])
  (hr:OR w r F (s.heap.push o) (s.heap.objs.size,d) x):
  Mt w B (r++[(s.heap.objs.size,d)]) {s with heap:=s.heap.push o} F (La++((s.heap.objs.size,d),x)::Lb)/\
   fB r (r++[(s.heap.objs.size,d)]) s {s with heap:=s.heap.push o} F F (own (La++Lb)) (own (La++((s.heap.objs.size,d),x)::Lb)):=by
 have k:∀b y,s.heap.get? b=N y->(s.heap.push o).get? b=N y:=λb y e=>ko _ e;have q:f_ r (r++[(s.heap.objs.size,d)]):=f_.app _ _;have MZ:∀a,a∈own (La++((s.heap.objs.size,d),x)::Lb)↔a∈own (La++Lb)\/a=s.heap.objs.size:=λa=>by
  rw[jf,oE,jf,hx];simp only[gK,fN];constructor
  ·rintro(h|h|h);exact .inl (.inl h);exact .inr h;exact .inl (.inr h)
  ·rintro((h|h)|h);exact .inl h;exact .inr (.inr h);exact .inr (.inl h)
 refine⟨⟨λa y e=>k a y (mt.sub a y e),mt.base,λp hp=>?_,λa ha=>?_,?_⟩,⟨q,⟨_,_,rfl⟩,.refl _,λX I e=>.inl e,λa h=>?_,λa y X e=>k a y e⟩⟩
 ·rcases gK.mp hp with hp|hp
  ·exact(mt.live p (iN _ hp)).step q (.refl _) λb X y e=>k b y e
  ·rcases iV.mp hp with rfl|hp
   ·exact hr.step q (.refl _) λX I u2 e=>e
   ·exact(mt.live p (kj _ hp)).step q (.refl _) λb X y e=>k b y e
 ·rcases(MZ a).mp ha with h|h
  ·exact mt.jg a h
  ·cases q:F a with
   |none=>rfl
   |some y=>exact absurd (kI (mt.sub _ _ q)) (by rw[h];exact vg _)
 ·have p:(own (La++((s.heap.objs.size,d),x)::Lb)).Perm (s.heap.objs.size::own (La++Lb)):=by
   rw[jf,oE,jf,hx];exact P1
  refine p.nodup_iff.mpr (o4.mpr ⟨λh=>absurd (mt.lt h) (vg _),mt.nd⟩)
 ·rcases(MZ a).mp h with h|h
  ·exact .inl h
  ·right;rw[h];exact pq _
theorem At.frozen{G r s F}{o:fH}(a:At f Y G Z r s F)(ho:o.isFreed=ak):
  ∃F',F' s.heap.objs.size=N o/\At f Y G Z r {s with heap:=s.heap.push o} F'/\Go G Z Z r r s {s with heap:=s.heap.push o} F F':=
 (aI4 a.mt ho).imp λF' g=>⟨g.1,⟨a.len,a.fk,g.2.1⟩,g.2.2⟩
theorem At.live{G r s F}{o:fH}(a:At f Y G Z r s F)(ho:o.isFreed=ak)(hx:jR ((s.heap.objs.size,s.heap.objs.size),x)=[s.heap.objs.size])
  (hr:OR f.w r F (s.heap.push o) (s.heap.objs.size,s.heap.objs.size) x):
  ∃r',VR f.w r' F (.ref (Wm.len Z.o)) (.ref s.heap.objs.size)/\At f Y G ⟨Z.m,Z.o++[x]⟩ r' {s with heap:=s.heap.push o} F/\Go G Z ⟨Z.m,Z.o++[x]⟩ r r' s {s with heap:=s.heap.push o} F F:=by
 obtain⟨m,t⟩:=aI5 (d:=s.heap.objs.size) a.mt ho hx hr;have z:eS G ⟨Z.m,Z.o++[x]⟩ (r++[(s.heap.objs.size,s.heap.objs.size)])=r.zip Z.o++((s.heap.objs.size,s.heap.objs.size),x)::[Cb G Z.m]:=by
  show(r++_).zip (Z.o++[x])++_=_
  rw[HV a.len,jx];rfl
 refine⟨r++[(s.heap.objs.size,s.heap.objs.size)],.ref (p:=(s.heap.objs.size,s.heap.objs.size)) ?_,⟨by simp[a.len],a.fk,by rw[z];exact m⟩,by unfold Go;rw[z];exact t⟩
 rw[nc,<-a.len];simp
theorem Mt.upd{s:aE}{t:H}(mt:Mt w B r s F (La++(p,o)::Lb))(ha:a∈jR (p,o))(ho:jR (p,o')=jR (p,o))
  (sb:Dg a s.heap h')(hr:OR w r F h' p o'):Mt w B r {s with heap:=h',toks:=t} F (La++(p,o')::Lb)/\fB r r s {s with heap:=h',toks:=t} F F (own (La++(p,o)::Lb)) (own (La++(p,o')::Lb)):=by
 have e:own (La++(p,o')::Lb)=own (La++(p,o)::Lb):=by rw[jf,oE,jf,oE,ho]
 have Mz:a∈own (La++(p,o)::Lb):=by rw[jf,oE];exact kj _ (iN _ ha)
 have nd:=mt.nd;rw[jf,oE]at nd
 have hx:=qz.mp nd;have n1:=hx.1;have n2:=hx.2.1;have n3:=hx.2.2;have hx:=qz.mp n2;have n4:=hx.1;have n5:=hx.2.1;have n6:=hx.2.2;have fa:F a=ao:=mt.jg a Mz;have nF:∀b x,F b=N x->b≠a:=λb x q z=>by rw[z,fa]at q;cases q
 refine⟨⟨λb x q=>(sb.2 b (nF b x q)).trans (mt.sub b x q),mt.base,λq hq=>?_,by rw[e];exact mt.jg,by rw[e];exact mt.nd⟩,
  ⟨.refl _,⟨_,_,rfl⟩,.refl _,λX I q=>.inl q,λb q=>.inl (by rw[e]at q;exact q),λb x hn q=>(sb.2 b (λz=>hn (z▸Mz))).trans q⟩⟩
 rcases gK.mp hq with hq|hq
 ·refine(mt.live q (iN _ hq)).step (.refl _) (.refl _) λb hb x z=>(sb.2 b λy=>?_).trans z;subst y;exact n3 b (rA.mpr ⟨q,hq,hb⟩) b (iN _ ha) rfl
 ·rcases iV.mp hq with rfl|hq
  ·exact hr
  ·refine(mt.live q (kj _ (.tail _ hq))).step (.refl _) (.refl _) λb hb x z=>(sb.2 b λy=>?_).trans z;subst y;exact n6 b ha b (rA.mpr ⟨q,hq,hb⟩) rfl
theorem cn{r:bQ}{o:J O}(e:r[h]?=N p)(e':gw h o=N x)(len:r.length=o.length):
  ∃La Lb,r.zip o=La++(p,x)::Lb/\∀y,r.zip (eO y h o)=La++(p,y)::Lb:=by
 induction h generalizing r o with
 |zero=>
  induction r using eT with
  |nil=>simp at e
  |cons q r=>induction o using eT with
   |nil=>simp at len
   |cons z o=>
    simp at e
    simp[gw]at e'
    subst e e';exact⟨[],r.zip o,rfl,λX=>rfl⟩
 |succ h ih=>
  induction r using eT with
  |nil=>simp at e
  |cons q r=>induction o using eT with
   |nil=>simp at len
   |cons z o=>
    refine b_ (ih (r:=r) (o:=o) (by simpa using e) (by simpa[gw]using e') (by simpa using len)) λLa hx=>?_
    refine b_ hx λLb hx=>?_;have h1:=hx.1;have h2:=hx.2;exact⟨(q,z)::La,Lb,by rw[P6,h1];rfl,λy=>by show(q,z)::r.zip (eO y h o)=_;rw[h2];rfl⟩
theorem At.chg{G r s F}{t:H}(at_:At f Y G Z r s F)(e:r[h]?=N p)(e':gw h Z.o=N x)(ha:a∈jR (p,x))(ho:jR (p,y)=jR (p,x))
  (sb:Dg a s.heap h')(hr:OR f.w r F h' p y):At f Y G ⟨Z.m,eO y h Z.o⟩ r {s with heap:=h',toks:=t} F/\Go G Z ⟨Z.m,eO y h Z.o⟩ r r s {s with heap:=h',toks:=t} F F:=by
 refine b_ (cn e e' at_.len) λLa hx=>?_;refine b_ hx λLb hx=>?_;have h1:=hx.1;have h2:=hx.2;have m:=at_.mt;have z1:eS G Z r=La++(p,x)::(Lb++[Cb G Z.m]):=by show r.zip Z.o++_=_;rw[h1,jx];rfl
 have z2:eS G ⟨Z.m,eO y h Z.o⟩ r=La++(p,y)::(Lb++[Cb G Z.m]):=by show r.zip (eO y h Z.o)++_=_;rw[h2,jx];rfl
 rw[z1]at m
 have hx:=m.upd (t:=t) ha ho sb hr;have m':=hx.1;have t':=hx.2;exact⟨⟨by rw[Ay];exact at_.len,at_.fk,by rw[z2];exact m'⟩,by unfold Go;rw[z1,z2];exact t'⟩
theorem At.aI6{G r s F}{t:H}(at_:At f Y G Z r s F)(fk:FK Y m')(sb:Dg G.locals s.heap h')(hr:OR f.w r F h' (G.locals,G.locals) (.frame G.cells m')):
  At f Y G ⟨m',Z.o⟩ r {s with heap:=h',toks:=t} F/\Go G Z ⟨m',Z.o⟩ r r s {s with heap:=h',toks:=t} F F:=by
 obtain⟨m,t'⟩:=at_.mt.upd (o':=.frame G.cells m') (t:=t) (a:=G.locals) (.head _) rfl sb hr;exact⟨⟨at_.len,fk,m⟩,t'⟩
end
section
variable{f:Cf}{Y:J (ai×cJ)}{n:H}{Z:St}{e:aT}{G:cL}{r:bQ}{s:aE}{F:bP}
theorem cq:∀{sl},cG x (forget fg m)=N sl->∃tH,cG x m=N tH/\(sl=tH\/sl=.L ao/\∃ov,tH=.L ov):=by
 induction m with
 |nil=>exact λh=>nomatch h
 |cons p m ih=>
  intro sl;obtain⟨y,q⟩:=p;have fgt:N (match q with| .L ov=>(match forget.qO y fg with|true=>.L ao|false=>.L ov)| .C h=>.C h)=N sl->(sl=q\/sl=.L ao/\∃ov,q=.L ov):=by
   cases q with
   |C a=>exact λh=>.inl (fW h).symm
   |L ov=>cases forget.qO y fg with
    |true=>exact λh=>.inr ⟨(fW h).symm,ov,rfl⟩
    |false=>exact λh=>.inl (fW h).symm
  exact B7 (P:=λo=>o=N sl->∃tH,cG x ((y,q)::m)=N tH/\(sl=tH\/sl=.L ao/\∃ov,tH=.L ov)) (λg h=>⟨q,Es g,fgt h⟩) λg h=>(ih h).imp λtH z=>⟨yI g z.1,z.2⟩
theorem nZ{G:cL}{Z:St}{r:bQ}:own (eS G Z r)=own (r.zip Z.o)++[G.locals]:=by rw[jf];rfl
theorem At.aI7(a:At f Y G ⟨m,o⟩ r s F)(e:gw h o=N (.cell ov)):At f Y G ⟨m,eO (.cell ao) h o⟩ r s F/\own (r.zip (eO (.cell ao) h o))=own (r.zip o):=by
 have hl:h<o.length:=by rw[rR]at e;exact(vq.mp e).1
 have eo:own (r.zip (eO (.cell ao) h o))=own (r.zip o):=by
  have go:∀(o:J O)(r:bQ)(h:H),gw h o=N (.cell ov)->own (r.zip (eO (.cell ao) h o))=own (r.zip o):=by
   intro o;induction o with
   |nil=>intro r h e;cases h<;>cases e
   |cons x o ih=>
    intro r h e;induction r using eT with
    |nil=>rfl
    |cons p r=>
     induction h using ji with
     |zero=>cases e;rfl
     |succ h=>
      show own ((p,x)::r.zip (eO (.cell ao) h o))=own ((p,x)::r.zip o)
      rw[oE,oE,ih r h e]
  exact go o r h e
 have cv:own (eS G ⟨m,eO (.cell ao) h o⟩ r)=own (eS G ⟨m,o⟩ r):=by rw[nZ,nZ,eo]
 refine⟨⟨by rw[Ay];exact a.len,a.fk,a.mt.sub,a.mt.base,λp hp=>?_,λb hb=>a.mt.jg b (cv▸hb),cv▸a.mt.nd⟩,eo⟩
 rcases gK.mp hp with hp|hp
 ·rcases aH7 hl a.len hp with rfl|hp
  ·have hr:h<r.length:=by rw[a.len];exact hl
   have:OR f.w r F s.heap (pk r h) (.cell ov):=a.mt.live (pk r h,.cell ov) (iN _ (al0.mpr ⟨h,by rw[P5];exact⟨SI hr,by rw[<-rR];exact e⟩⟩))
   refine b_ this λow hx=>?_;have h1:=hx.1;exact⟨ow,h1,λv q=>nomatch q⟩
  ·have HW:p∈r.zip (eO .gone h o):=hp;rcases bv (ρ:=[h]) a.len (o4.mpr ⟨(λh=>nomatch h),.nil⟩) (λg m=>fN.mp m▸hl) HW with e2|HW
   ·rw[e2];trivial
   ·exact a.mt.live p (iN _ HW)
 ·exact a.mt.live p (kj _ hp)
theorem cw(l:Fm):∀{o:J O},At f Y G ⟨m,o⟩ r s F->At f Y G ⟨m,qS fg l o⟩ r s F/\own (r.zip (qS fg l o))=own (r.zip o):=by
 induction l with
 |nil=>exact λa=>⟨a,rfl⟩
 |cons p l ih=>
  intro o a;obtain⟨y,sl⟩:=p;cases sl with
  |L ov=>exact ih a
  |C h=>
   have go:∀b z,gw h o=z->(λo':J O=>At f Y G ⟨m,o'⟩ r s F/\own (r.zip o')=own (r.zip o)) (match b with|true=>(match z with|some (.cell X)=>qS fg l (eO (.cell ao) h o)|X=>qS fg l o)|false=>qS fg l o):=λb z e=>by
    cases b with
    |false=>exact ih a
    |true=>cases z with
     |none=>exact ih a
     |some y=>cases y with
      |cell ov=>have g:=a.aI7 e;exact⟨(ih g.1).1,(ih g.1).2.trans g.2⟩
      |_=>exact ih a
   exact go _ _ rfl
theorem At.forget(a:At f Y G Z r s F):At f Y G (j9 fg Z) r s F:=by
 obtain⟨m,o⟩:=Z
 replace a:=(cw (fg:=fg) m a).1
 show At f Y G ⟨Wm.forget fg m,qS fg m o⟩ r s F
 refine⟨a.len,λx sl h=>?_,a.mt.sub,a.mt.base,λp hp=>?_,?_,?_⟩
 ·obtain⟨tH,h1,h2⟩:=cq h;have:=a.fk x tH h1;rcases h2 with rfl|⟨rfl,ov,rfl⟩
  ·exact this
  ·exact this
 ·rcases gK.mp hp with hp|hp
  ·exact a.mt.live p (iN _ hp)
  ·obtain rfl:=fN.mp hp;obtain⟨mc,hn,hv⟩:=a.frame;refine⟨mc,hn,λx sl h=>?_⟩;obtain⟨tH,h1,h2⟩:=cq h;rcases h2 with rfl|⟨rfl,ov,rfl⟩
   ·exact hv x _ h1
   ·exact λv q=>nomatch q
 ·intro b hb;exact a.mt.jg b (by rw[jf]at hb|-;exact hb)
 ·have:=a.mt.nd;rw[jf]at this|-;exact this
theorem At.SO(a:At f Y G Z r s F):own (eS G (j9 fg Z) r)=own (eS G Z r):=by obtain⟨m,o⟩:=Z;rw[nZ,nZ];exact bR (·++_) (cw (fg:=fg) m a).2
theorem aI8{α β:Type}(m:H)(a:J α)(b:J β):(a.take m).zip (b.take m)=(a.zip b).take m:=(List.take_zipWith ..).symm
theorem At.cut{kc:bQ}(a:At f Y G Z r s F)(h:∀h∈Ao Z.m++lU (l7 m Z.o),h<m)(q:f_ kc r)(l:kc.length<=m):
  At f Y G ⟨Z.m,l7 m Z.o⟩ (r.take m) s F/\f_ kc (r.take m)/\∀b∈own (eS G ⟨Z.m,l7 m Z.o⟩ (r.take m)),b∈own (eS G Z r):=by
 have hq:∀hs:J H,(∀h∈hs,h<m)->oA id hs r (r.take m):=λhs hh i hi p hp=>by
  show(r.take m)[i]?=N p
  rw[Xv (hh i hi)];exact hp
 have ez:(r.take m).zip (l7 m Z.o)=(r.zip Z.o).take m:=by rw[Sz];exact aI8 ..
 have vm:PZ (own ((r.take m).zip (l7 m Z.o))) (own (r.zip Z.o)):=by rw[ez];exact ax (List.take_sublist ..)
 have eo:∀b∈own (eS G ⟨Z.m,l7 m Z.o⟩ (r.take m)),b∈own (eS G Z r):=λb hb=>by
  rw[nZ]at hb|-
  rcases gK.mp hb with hb|hb
  ·exact iN _ (vm.mem hb)
  ·exact kj _ hb
 refine⟨⟨?_,a.fk,a.mt.sub,a.mt.base,λp hp=>?_,λb hb=>a.mt.jg b (eo b hb),?_⟩,λi p hp=>?_,eo⟩
 ·rw[Sz,Xw,Xw,a.len]
 ·rcases gK.mp hp with hp|hp
  ·have HW:p∈r.zip Z.o:=by rw[ez]at hp;exact ak1 hp
   have:=OR.fL (f:=id) (.refl _) (hq p.2.refs λi hi=>h i (kj _ (HU.mpr ⟨p.2,(cq6 hp).2,hi⟩))) (λX I u2 e=>e) (a.mt.live p (iN _ HW));rw[O.vM]at this
   exact this
  ·obtain rfl:=fN.mp hp;have:=OR.fL (f:=id) (.refl _) (hq (O.frame G.cells Z.m).refs λi hi=>h i (iN _ hi)) (λX I u2 e=>e) a.frame;rw[O.vM]at this
   exact this
 ·have nd:=a.mt.nd;rw[nZ]at nd|-
  exact(vm.append (.refl _)).nodup nd
 ·have:=(vq.mp hp).1;rw[Xv (oX this l)];exact q i p hp
theorem At.trim{kc:bQ}(a:At f Y G Z r s F)(q:f_ kc r)(l:kc.length<=m):
  ∃r',At f Y G (jJ m Z) r' s F/\f_ kc r'/\∀b∈own (eS G (jJ m Z) r'),b∈own (eS G Z r):=by
 unfold Wm.jJ
 split
 ·rename_i h;have hx:=a.cut (Ca.mp h) q l;have x:=hx.1;have y:=hx.2.1;have z:=hx.2.2;exact⟨_,x,y,z⟩
 ·split
  ·rename_i h;have hx:=a.cut (Ca.mp h) q (bN l (ZH _ _));have x:=hx.1;have y:=hx.2.1;have z:=hx.2.2;exact⟨_,x,y,z⟩
  ·exact⟨r,a,q,λX h=>h⟩
theorem At.nt{kc:bQ}(a:At f Y G Z r s F)(q:f_ kc r)(l:kc.length<=m)(y:VR f.w r F v u):
  ∃r',At f Y G (nt m v Z) r' s F/\f_ kc r'/\(∀b∈own (eS G (nt m v Z) r'),b∈own (eS G Z r))/\VR f.w r' F v u:=by
 unfold Wm.nt
 split
 ·rename_i h;have h:=Ca.mp h;have hx:=a.cut (λi hi=>h i (by rw[jx];exact kj _ hi)) q l
  have x:=hx.1;have y':=hx.2.1;have z:=hx.2.2;refine⟨_,x,y',z,?_⟩;have:=VR.fL (f:=id) (.refl F) (r':=r.take m) (λi hi p hp=>by
   show(r.take m)[i]?=N p
   rw[Xv (h i (iN _ (iN _ hi)))];exact hp) y
  rw[V.vM]at this
  exact this
 ·exact⟨r,a,q,λX h=>h,y⟩
section
variable{w:bU}{B:bP}{L:uK}
theorem aI9{o:J O}{ρ:J H}{h:H}{x:O}(m:h∈ρ)(e:gw h o=N x):x∈jQ o ρ:=by
 induction ρ with
 |nil=>cases m
 |cons g ρ ih=>
  unfold jQ;rcases iV.mp m with rfl|m
  ·rw[e];exact .head _
  ·exact .tail _ (ih m)
theorem aJ0{r:bQ}{ρ:J H}(m:h∈ρ)(e:gw h o=N x):(pk r h,x)∈(ρ.map (pk r)).zip (jQ o ρ):=by
 induction ρ with
 |nil=>cases m
 |cons g ρ ih=>
  show _∈(pk r g,_)::(ρ.map (pk r)).zip (jQ o ρ)
  rcases iV.mp m with rfl|m
  ·rw[e];exact .head _
  ·exact .tail _ (ih m)
theorem cx{α β γ δ:Type}{R:α->γ->Prop}{bM:β->γ->Prop}{g:α->bq β}{φ:α->δ}{ψ:β->δ}{vs ws}(z:L2 R vs ws):(∀v∈vs,∀u x,R v u->g v=N x->bM x u/\ψ x=φ v)->∀{ds},rP g vs=N ds->L2 bM ds ws/\ds.map ψ=vs.map φ:=by
 induction z with
 |nil=>exact λX I e=>fW e▸⟨.nil,rfl⟩
 |@cons v w vs ws a z ih=>
  intro k ds;have go:∀q,g v=q->(match q with|some x=>(rP g vs).map (x::·)|none=>ao)=N ds->L2 bM ds (w::ws)/\ds.map ψ=(v::vs).map φ:=λq e h=>by
   induction q with
   |none=>cases h
   |some x=>obtain⟨l,h1,h2⟩:=wm.mp h;have i:=ih (λv m=>k v (.tail _ m)) h1;have j:=k v (.head _) w x a e;exact h2▸⟨.cons j.1 i.1,congr (bR co5 j.2) i.2⟩
  exact go _ rfl
theorem aJ1:x∈jQ o ρ->x=.gone\/∃h,gw h o=N x:=by
 induction ρ with
 |nil=>exact λh=>(vt h).elim
 |cons a ρ ih=>
  have go:∀q,gw a o=q->x∈(match q with|some x=>x|none=>O.gone)::jQ o ρ->x=.gone\/∃h,gw h o=N x:=λq e h=>(iV.mp h).elim (λh=>by
   induction q with
   |none=>exact .inl h
   |some y=>exact .inr ⟨a,h▸e⟩) ih
  exact go _ rfl
theorem db{r:bQ}{F F':bP}{o:J O}{ρ:J H}{h:dH}(sl:iG F F')(cl:∀a∈lU (jQ o ρ),a∈ρ)(lv:∀a∈ρ,∀x,gw a o=N x->OR w r F h (pk r a) x)
  (ow:∀a∈ρ,∀x,gw a o=N x->∀b∈jR (pk r a,x),∀y,h.get? b=N y->F' b=N y){n:H}:
  ∀{v:V}{x:D}{u:aA},(∀a∈v.refs,a∈ρ)->VR w r F v u->tC o n v=N x->DR F' x u:=by
 induction n with
 |zero=>exact λX I e=>nomatch e
 |succ n ih=>
  intro v x u hm y e;have one:∀a,a∈ρ->∀z,gw a o=z->(match z with|some y=>ZJ (tC o n) y|none=>ao)=N x->DR F' x (.ref (pk r a).1):=λa ha z g e=>by
   induction z with
   |none=>cases e
   |some y=>
    have l:=lv a ha _ g;have w:=ow a ha _ g;have cl:=λb m=>cl b (HU.mpr ⟨_,aI9 ha g,m⟩);induction y with
    |dl ds=>exact l.elim λX l=>l.elim λX l=>fW e▸ .list (w _ (.head _) _ l.1) (l.2.1.mono sl) l.2.2
    |vl vs=>
     obtain⟨ds,e1,e2⟩:=wm.mp (show(rP (tC o n) vs).map D.list=N x from e)
     obtain⟨_,_,l⟩:=l;have q:=cx (bM:=DR F') (φ:=λX=>()) (ψ:=λX=>()) l.2.1 (λv m u x y e=>⟨ih (λb hb=>cl b (rA.mpr ⟨v,m,hb⟩)) y e,rfl⟩) e1;have q2:=bR al3 q.2;rw[cO,cO]at q2
     exact e2▸ .list (w _ (.head _) _ l.1) q.1 (q2▸l.2.2)
    |inst c fs=>
     obtain⟨ds,e1,e2⟩:=wm.mp (show(rP (ZI (tC o n)) fs).map (D.obj c)=N x from e)
     obtain⟨_,_,_,l⟩:=l;have q:=cx (bM:=EF (DR F')) (φ:=(·.1)) (ψ:=(·.1)) l.2.2.1 (λv m u x y e=>by
      obtain⟨d,e3,e4⟩:=wm.mp (show(tC o n v.2).map (v.1,·)=N x from e)
      exact e4▸⟨y.mono (g:=λX=>d) λb y=>ih (λb hb=>cl b (rA.mpr ⟨v,m,hb⟩)) y e3,rfl⟩) e1
     exact e2▸ .obj (w _ (.head _) _ l.1) (w _ (.tail _ (.head _)) _ l.2.1) q.1 (q.2▸l.2.2.2)
    |_=>cases e
  cases y with
  |d q=>exact fW e▸q.mono sl
  |@ref a p e1=>have e2:pk r a=p:=bR (al4 · (0,0)) e1;exact e2▸one a (hm a (.head _)) _ rfl e
  |_=>cases e
end
noncomputable def FZ(o:J aR)(h:dH)(F:bP):bP:=λb=>if b∈o then h.get? b else F b
section
variable{o:J aR}{h:dH}{b:aR}
theorem FZ.at_(m:b∈o)(e:h.get? b=z):FZ o h F b=z:=(dM m:FZ o h F b=h.get? b).trans e
theorem FZ.out(m:b∉o)(e:F b=z):FZ o h F b=z:=(cF m:FZ o h F b=F b).trans e
theorem FZ.le(d:∀a∈o,F a=ao):iG F (FZ o h F):=λb z e=>FZ.out (λm=>by rw[d b m]at e;cases e) e
theorem FZ.cs(e:FZ o h F b=N z):b∈o/\h.get? b=N z\/F b=N z:=
 (cp9 (b∈o)).elim (λm=>.inl ⟨m,(dM m:FZ o h F b=_).symm.trans e⟩) λm=>.inr ((cF m:FZ o h F b=_).symm.trans e)
end
theorem aJ2{o:J O}(h:HJ v o k):∃ρ x,xd o [v] ρ=ah/\tC o 20 v=N x/\k (.d x) (mH ρ o):=by
 have go:∀ρ q z,xd o [v] ρ=q->tC o 20 v=z->(match q with|true=>(match z with|some x=>lV (mH ρ o) λo=>k (.d x) o|none=>bV)|false=>bV)->∃ρ x,xd o [v] ρ=ah/\tC o 20 v=N x/\k (.d x) (mH ρ o):=λρ q z e1 e2 h=>by
  induction q with
  |false=>exact h.elim
  |true=>induction z with
   |none=>exact h.elim
   |some x=>exact⟨ρ,x,e1,e2,(o7 ..).mp h⟩
 exact go _ _ _ rfl rfl ((HG ..).mp h)
theorem At.HX(a:At f Y G Z r s F)(y:VR f.w r F v u)(h:HJ v Z.o k):
  ∃x o' F',k (.d x) o'/\DR F' x u/\At f Y G ⟨Z.m,o'⟩ r s F'/\Go G Z ⟨Z.m,o'⟩ r r s s F F':=by
 obtain⟨ρ,x,q,hx,h⟩:=aJ2 h;obtain⟨nd,lt,s1,s2⟩:=SM q;have g:=MY a.len nd lt;have de:=a.mt.nd;rw[nZ]at de
 obtain⟨nd1,nd2,df⟩:=qz.mp de;obtain⟨nd4,nd5,nd6⟩:=qz.mp (g.nodup_iff.mp nd1);have i1:∀b∈own ((ρ.map (pk r)).zip (jQ Z.o ρ)),b∈own (r.zip Z.o):=λb hb=>g.mem_iff.mpr (iN _ hb);have i2:∀b∈own (r.zip (mH ρ Z.o)),b∈own (r.zip Z.o):=λb hb=>g.mem_iff.mpr (kj _ hb);have SQ:∀b∈own (r.zip Z.o),b∈own (eS G Z r):=λb hb=>nZ▸iN _ hb;have sl:iG F (FZ (own ((ρ.map (pk r)).zip (jQ Z.o ρ))) s.heap F):=FZ.le λb hb=>a.mt.jg b (SQ b (i1 b hb));have hr:=db sl s2 (λb hb z e=>by obtain⟨p,hp⟩:=a.fM e;have q:pk r b=p:=bR (al4 · (0,0)) hp;exact q▸a.obj hp e) (λb hb z e c hc y hy=>FZ.at_ (rA.mpr ⟨_,aJ0 hb e,hc⟩) hy) (λb hb=>s1 b (iN _ hb)) y hx
 have SR:own (eS G ⟨Z.m,mH ρ Z.o⟩ r)=own (r.zip (mH ρ Z.o))++[G.locals]:=nZ;refine⟨x,_,_,h,hr,⟨a.len.trans (SD ..).symm,a.fk,λb z e=>(FZ.cs e).elim (·.2) (a.mt.sub b z),λb z e=>sl b z (a.mt.base b z e),λp hp=>?_,SR▸λb hb=>?_,SR▸qz.mpr ⟨nd5,nd2,λb hb=>df b (i2 b hb)⟩⟩,
  .refl _,⟨_,_,rfl⟩,sl,λb z e=>(FZ.cs e).symm.imp id λe=>.inl (SQ b (i1 b e.1)),SR▸λb hb=>.inl (nZ▸(gK.mp hb).elim (λhb=>iN _ (i2 b hb)) (kj _)),λX I u2 e=>e⟩
 ·refine(gK.mp hp).elim (λhp=>(bv a.len nd lt hp).elim (λe=>?_) λhp=>?_) λhp=>?_
  ·rw[e];trivial
  ·exact(a.mt.live p (iN _ hp)).step (.refl _) sl λX I u2 e=>e
  ·exact(a.mt.live p (kj _ hp)).step (.refl _) sl λX I u2 e=>e
 ·exact(gK.mp hb).elim (λhb=>FZ.out (λq=>nd6 b q b hb rfl) (a.mt.jg b (SQ b (i2 b hb)))) λhb=>FZ.out (λq=>df b (i1 b q) b hb rfl) (a.mt.jg b (nZ▸kj _ hb))
section
variable{o:J O}
theorem dk(m:l_ f r s F (r.zip o))(el:r.length=o.length)(cl:∀a∈lU o,a<o.length){n:H}{v:V}(hv:∀a∈v.refs,a<o.length)(y:VR f.w r F v u)(e:tC o n v=N x):DR (FZ (own (r.zip o)) s.heap F) x u:=by
 have dq:∀{a x},gw a o=N x->(pk r a,x)∈r.zip o:=λ{a x} e=>by
  rw[rR]at e
  have l:a<r.length:=el▸(vq.mp e).1;exact al0.mpr ⟨a,P5.mpr ⟨SI l,e⟩⟩
 refine db (ρ:=kJ o.length) (h:=s.heap) (FZ.le m.jg) (λa ha=>?_) (λa X x e=>m.live _ (dq e)) (λa X x e b hb y hy=>FZ.at_ (rA.mpr ⟨_,dq e,hb⟩) hy) (λa ha=>Bg.mpr (hv a ha)) y e;obtain⟨x,hx,SS⟩:=HU.mp ha;rcases aJ1 hx with e|⟨j,hj⟩
 ·rw[e]at SS;cases SS
 ·exact Bg.mpr (cl a (HU.mpr ⟨x,Ko (rR ..▸hj),SS⟩))
theorem Mt.dr(m:l_ f r s F (r.zip o)):l_ f [] s (FZ (own (r.zip o)) s.heap F) []:=
 ⟨λb z e=>(FZ.cs e).elim (·.2) (m.sub b z),λb z e=>FZ.le m.jg b z (m.base b z e),λX hp=>(vt hp).elim,λX hb=>(vt hb).elim,.nil⟩
end
noncomputable def M0:ai:= "__debug__"
theorem du(hs:B4 x Z k)(i:g_ f Y G)(a:At f Y G Z r s F)
  (h:∀v w,k v->VR f.w r F v w->Q w s):av (aP f.prog f.w) A (J7 G x) Q E s:=by
 refine b_ (a.frame) λmc hx=>?_;have SW:=hx.1;have hv:=hx.2;refine nY hs λsl q2 hs=>?_;have hv:=hv _ _ q2;have q2:=i.look (a.fk _ _ q2);induction sl with
 |L ov=>exact nY hs λv q hs=>(hv v q).elim λw g=>aZ<|wpAny_loadName_local i.kind q2 SW g.1 (h v w hs g.2)
 |C c=>
  refine pn hs λy q3 hs=>?_;induction y with
  |cell ov=>
   refine b_ hv λp hx=>?_;have e1:=hx.1;have e2:=hx.2;refine b_ (a.obj e1 q3) λow hx=>?_;have ic:=hx.1;have z:=hx.2;refine nY hs λv q hs=>?_;refine b_ (z v q) λw hx=>?_;have q4:=hx.1;have y:=hx.2;rw[q4]at ic
   exact aZ<|wpAny_loadName_cell i.kind q2 e2 ic (h v w hs y)
  |_=>exact hs.elim
theorem aJ3(hs:B4 x Z λv=>Q v Z)(hd:(x==M0)=ak):WE f Y n (.Name x pos) Z Q:=λA s F G E r o i a=>by refine Gr (du hs i a λv w q y=>mh.oG a y q) hd
theorem dA(S:G.scope.kind=.function)(hx:G.kindOf x=N .globalImplicit)
  (h:av M A (loadGlobal G x) Q E s):av M A (J7 G x) Q E s:=by
 unfold J7;simp only[al5,S,hx,ScopeKind.isAnnotationScope,cr2,ak3,PT];exact h
theorem M1(hg:f.g x=N u)(S:cG x Y=N .globalImplicit)(i:g_ f Y G)(a:At f Y G Z r s F)
  (h:Q u s):av (aP f.prog f.w) A (J7 G x) Q E s:=by
 have hb:=a.mt.stays;have gl:=i.gl;have bi:=i.bi;unfold Cf.g at hg
 cases q3:f.mg x with
 |some v=>
  rw[q3]at hg;cases hg
  exact dA i.kind (i.look S) (aZ<|loadGlobal_global (gl▸f.ng.keeps hb) q3 h)
 |none=>
  rw[q3]at hg
  exact dA i.kind (i.look S) (aZ<|loadGlobal_builtin (gl▸f.ng.keeps hb) q3 (bi▸f.nb.keeps hb) hg h)
theorem aJ4(hg:f.g x=N u)(hv:VR f.w [] f.B v u)(S:cG x Y=N .globalImplicit)(hd:(x==M0)=ak)(h:Q v Z):WE f Y n (.Name x pos) Z Q:=λA s F G E r o i a=>by refine Gr (M1 hg S i a (mh.oG a (hv.mono (.nil _) a.mt.base) h)) hd
theorem dE(h:HP x v m k):∃m',k m'/\∀y,cG y m'=if y=x then N (.L (N v))else cG y m:=by
 induction m generalizing k with
 |nil=>exact h.elim
 |cons p r ih=>
  refine vO (q:=je x p.1) h (λq h=>?_) λq h=>?_
  ·obtain⟨z,sl⟩:=p;induction sl with
   |L ov=>
    refine⟨_,h,λy=>?_⟩;rw[tF,tF,rQ q];by_cases g:y=z
    ·rw[dM g,dM g]
    ·rw[cF g,cF g,cF g]
   |C a=>exact h.elim
  ·refine b_ (ih h) λm' hx=>?_;have h1:=hx.1;have h2:=hx.2;refine⟨_,h1,λy=>?_⟩;rw[tF,tF,h2];by_cases g:y=p.1
   ·rw[dM g,dM g,cF (λe=>Sl q (e.symm.trans g))]
   ·rw[cF g,cF g]
theorem HY(hs:kZ x v Z k)(i:g_ f Y G)(a:At f Y G Z r s F)(hv:VR f.w r F v w)
  (h:∀b9 s',k b9->At f Y G b9 r s' F->Go G Z b9 r r s s' F F->Q () s'):av (aP f.prog f.w) A (F3 G x w) Q E s:=by
 refine b_ (a.frame) λmc hx=>?_;have SW:=hx.1;have hm:=hx.2;refine nY hs λsl q2 hs=>?_;have q3:=i.look (a.fk _ _ q2);induction sl with
 |L ov=>
  refine b_ (dE hs) λm' hx=>?_;have h1:=hx.1;have h2:=hx.2;have fk:FK Y m':=λy sl hy=>by
   rw[h2]at hy
   by_cases z:y=x
   ·rw[dM z]at hy;cases hy;subst z;have g:=a.fk _ _ q2;exact g
   ·rw[cF z]at hy;exact a.fk _ _ hy
  refine aZ<|wpAny_storeName_local q3 SW (λh' hn' sb=>?_) (by rw[i.kind];rfl)
  obtain⟨a',g'⟩:=a.aI6 (m':=m') (t:=s.toks+1) fk sb ⟨_,hn',λy sl hy=>by
   rw[h2]at hy
   by_cases z:y=x
   ·rw[dM z]at hy;cases hy
    intro u hu;cases hu;exact⟨w,dM z,hv⟩
   ·rw[cF z]at hy
    have g:=hm y _ hy;induction sl with
    |L ov'=>exact λu hu=>(g u hu).imp λw' e=>⟨(cF z).trans e.1,e.2⟩
    |C h=>exact g⟩
  exact h _ _ h1 a' g'
 |C c=>
  refine pn hs λy q4 hs=>?_;induction y with
  |cell ov=>
   refine b_ (hm _ _ q2) λp hx=>?_;have e1:=hx.1;have e2:=hx.2;refine b_ (a.obj e1 q4) λow hx=>?_;have ic:=hx.1;have z:=hx.2;refine aZ<|wpAny_storeName_cell i.kind q3 e2 ic λh' ic' sb=>?_;have hx:=a.chg (t:=s.toks) (y:=.cell (N v)) e1 q4 (.head _) rfl sb ⟨N w,ic',λv' q=>by cases q;exact⟨w,rfl,hv⟩⟩
   have a':=hx.1;have g':=hx.2;exact h _ _ hs a' g'
  |_=>exact hs.elim
theorem dL{a:aa}(h:a.natAbs<2^k):P7 a<=k:=by
 unfold P7;by_cases h0:a.natAbs=0
 ·simp[cr3.mp h0]
 ·have:=(cr4 h0).mpr h
  split<;>lia
theorem aJ5{a b:aa}(ha:a.natAbs<2^64):IntMulOk a b:=.of_left (dL ha)
theorem aJ6{a b:aa}(h:b.natAbs<2^128):cr5 a b=ak:=by
 unfold cr5;have d:(if(b==0)=ah then 0 else b.natAbs.log2/30+1)<=300:=by
  by_cases h0:(b==0)=ah
  ·rw[dM h0];exact qw _
  ·rw[cF h0];exact cr6 (eZ (Nat.div_le_div_right (mX ((cr4 λe=>h0 (Xx.mpr (cr3.mp e))).mpr h))) (by decide:128/30<300))
 exact Bool.and_eq_false_iff.mpr (.inl (kq (vj.mpr d)))
theorem aJ7{a b:aa}(h0:0<=b)(h1:b<=100000)(h:a.natAbs<2^64):(P7 a:aa)*b<=2^27:=by
 have h2:(P7 a:aa)<=64:=by have:=dL h;lia
 calc (P7 a:aa)*b<=64*b:=Int.mul_le_mul_of_nonneg_right h2 h0
  _<=2^27:=by lia
theorem aJ8{a b:aa}(h:ZL op a b λi=>Q (.d (.int i)) Z)(at_:At f Y G Z r s F):av (aP f.prog f.w) A (F4 op (.int a t) (.int b u)) (rS f Y G Z Q r s F) E s:=by
 induction op with
 |Add=>exact aZ<|add_int (.here at_ (.d .int) h)
 |Sub=>exact aZ<|sub_int (.here at_ (.d .int) h)
 |Mult=>exact aZ<|mul_int (.here at_ (.d .int) h.2) (aJ5 h.1.1)
 |Mod=>exact aZ<|mod_int' h.1 (.here at_ (.d .int) h.2)
 |FloorDiv=>exact aZ<|floordiv_int h.1.1 (.here at_ (.d .int) h.2) (.inl (aJ6 h.1.2))
 |BitAnd=>exact aZ<|and_int (.here at_ (.d .int) h)
 |BitOr=>exact aZ<|or_int (.here at_ (.d .int) h)
 |RShift=>exact aZ<|rshift_int h.1 (.here at_ (.d .int) h.2)
 |LShift=>exact aZ<|lshift_int_small h.1.1 (jj h.1.2.1 (by decide)) h.1.2.2 (.here at_ (.d .int) h.2)
 |Pow=>exact aZ<|pow_int h.1.1 (aJ7 h.1.1 h.1.2.1 h.1.2.2) (.here at_ (.d .int) h.2)
 |_=>exact h.elim
@[elab_as_elim] theorem AA{P:aA->Prop}{v:V}{u:aA}{k:J D->Prop}(y:VR f.w r F v u)(a:At f Y G Z r s F)(h:Br v Z.o k)(g:∀ds l ws m,k ds->s.heap.get? l=N (iH ws m)->eU F ds ws.toList->ds.length<=1048576->P (.ref l)):P u:=by
 cases y with
 |d y=>exact Ss y h λds l ws n h e=>g ds l ws n h (a.mt.sub _ _ e)
 |ref e=>
  refine pn h λx q h=>?_;induction x with
  |dl ds=>refine b_ (a.obj e q) λws hx=>?_;refine b_ hx λm hx=>?_;have h1:=hx.1;have h2:=hx.2.1;have h3:=hx.2.2;exact g ds _ ws m h h1 h2 h3
  |_=>exact h.elim
 |_=>exact h.elim
theorem eU.size{F:bP}{ds:J D}{ws:cT aA}(h:eU F ds ws.toList):ws.size=ds.length:=by have:=h.length;rw[o5]at this;exact this.symm
theorem SX{ds:J D}{ws:cT aA}{m:H}(a:At f Y G Z r s F)(y:eU F ds ws.toList)(l:ds.length<=1048576)(q:Q (.d (.list ds)) Z):
  rS f Y G Z Q r s F (.ref s.heap.objs.size) {s with heap:=s.heap.push (iH ws m)}:=by
 refine b_ (a.frozen (o:=iH ws m) rfl) λF' hx=>?_;have e:=hx.1;have a':=hx.2.1;have t':=hx.2.2;exact⟨_,Z,r,F',q,.d (.list e (y.mono t'.grow) l),a',t'⟩
theorem SY{ds:J D}{ws:cT aA}{m:H}(a:At f Y G Z r s F)(y:eU F ds ws.toList)(l:ds.length<=1048576)(q:Q (.d (.tup ds)) Z):
  rS f Y G Z Q r s F (.ref s.heap.objs.size) {s with heap:=s.heap.push (lJ ws m)}:=by
 refine b_ (a.frozen (o:=lJ ws m) rfl) λF' hx=>?_;have e:=hx.1;have a':=hx.2.1;have t':=hx.2.2;exact⟨_,Z,r,F',q,.d (.tup e (y.mono t'.grow) l),a',t'⟩
theorem aJ9{ws jE:cT aA}(a:At f Y G Z r s F)
  (h1:s.heap.get? l=N (iH ws m))(h2:s.heap.get? l'=N (iH jE m'))(y1:eU F x ws.toList)(y2:eU F y jE.toList)(hl:(x++y).length<=1048576)(q:Q (.d (.list (x++y))) Z):
  av (aP f.prog f.w) A (F4 .Add (.ref l) (.ref l')) (rS f Y G Z Q r s F) E s:=by
 have sz:ws.size+jE.size<=gX:=by unfold gX;rw[y1.size,y2.size,<-f6];exact bN hl (by decide)
 refine aZ<|concat_meets ⟨_,h1,rfl⟩ ⟨_,h2,rfl⟩ noFill_list_add seq_list_add PySem.F.slot_list_add PySem.F.entry_list_add (PySem.F.args_list_add_2 _ _) (list_addW l l' ws jE m m' ao ao #[] #[] sz) ⟨h1,h2,?_⟩;exact SX (ws:=ws++jE) (m:=0) a (by rw[Xy];exact y1.append y2) hl q
theorem aK0(x:aA):∀(k:H)(acc:cT aA),(List.foldl (λx1 x2=>x1++x2) acc (vh k #[x])).toList=acc.toList++vh k x:=λi_=>by
 induction i_ with
 |zero=>exact λacc=>by simp
 |succ k ih=>exact λacc=>by rw[cr7,cr8,ih,cr7];simp
theorem eU.rep{F:bP}(h:DR F x u):∀k,eU F (vh k x) (vh k u)
 |0=>.nil
 |k+1=>.cons h (eU.rep h k)
theorem aK1{ws:cT aA}{i:aa}(a:At f Y G Z r s F)
  (h1:s.heap.get? l=N (iH ws m))(y1:eU F [x] ws.toList)(lo:-(2^63:aa)<=i)(hl:i<=1048576)(q:Q (.d (.list (vh i.toNat x))) Z):
  av (aP f.prog f.w) A (F4 .Mult (.ref l) (.int i t)) (rS f Y G Z Q r s F) E s:=by
 obtain⟨u,hu,rfl⟩:∃u,DR F x u/\ws=#[u]:=by exact y1.one.imp λu h=>⟨h.2,cp7.mp h.1⟩
 refine aZ<|wpAny_binaryOp_repeat_ref (T:= "list") (U:= "int") (by decide) ⟨_,h1,rfl⟩ (λs'=>typeIs_int s' i t) noFill_list_mul PySem.F.fills_int_mul cr9 repeat_list PySem.F.slot_int_index.lookup
  (Dl cr9 (typeIs_int s i t) PySem.F.entry_int_rmul (PySem.F.args_int_rmul_2 _ _) (int___rmul___int_list i t l #[u] m)
   ⟨h1,rfl,⟨_,h1,rfl⟩,Dl PySem.F.slot_list_mul ⟨_,h1,rfl⟩ PySem.F.entry_list_mul (PySem.F.args_list_mul_2 _ _)
    (AutoListH.list___mul___list_int_3 l #[u] m i t (by simp[Xz];lia) (by simp;lia) (by simp[al6,gX];lia))
    ⟨h1,?_⟩⟩)
 refine SX (m:=0) a ?_ (by simp;lia) q
 have:(if#[u].isEmpty=ah then 0 else i.toNat)=i.toNat:=by simp
 rw[this,aK0];exact eU.rep hu _
theorem aK2{x y:J D}{ws jE:cT aA}(a:At f Y G Z r s F)
  (e1:F l=N (lJ ws m))(z1:eU F x ws.toList)(l1:x.length<=1048576)(e2:F l'=N (lJ jE m'))(z2:eU F y jE.toList)(l2:y.length<=1048576)(hl:(x++y).length<=1048576)(q:Q (.d (.tup (x++y))) Z):
  av (aP f.prog f.w) A (F4 .Add (.ref l) (.ref l')) (rS f Y G Z Q r s F) E s:=by
 have h1:=a.mt.sub _ _ e1;have h2:=a.mt.sub _ _ e2
 have gQ:∀{bM:PySem.Spec},P8 (gW.«tuple.__add__» ⟨[.ref l,.ref l'],[]⟩) bM->bM A (wants (rS f Y G Z Q r s F) E) s->av (aP f.prog f.w) A (F4 .Add (.ref l) (.ref l')) (rS f Y G Z Q r s F) E s:=
  λg h=>aZ<|concat_meets ⟨_,h1,rfl⟩ ⟨_,h2,rfl⟩ noFill_tuple_add seq_tuple_add PySem.F.slot_tuple_add PySem.F.entry_tuple_add (PySem.F.args_tuple_add_2 _ _) g h
 by_cases c0:ws.isEmpty=ah
 ·rw[cs0]at c0
  subst c0;obtain rfl:=XA.mp z1.size.symm;exact gQ (tuple_addW0 l l' #[] jE m m' ao ao #[] #[] rfl) ⟨h1,h2,mh.oG a (.d (.tup e2 z2 l2)) q⟩
 ·by_cases c1:jE.isEmpty=ah
  ·rw[cs0]at c1
   subst c1;obtain rfl:=XA.mp z2.size.symm;rw[j3]at q
   exact gQ (tuple_addW1 l l' ws #[] m m' ao ao #[] #[] c0 rfl) ⟨h1,h2,mh.oG a (.d (.tup e1 z1 l1)) q⟩
  ·exact gQ (tuple_addW2 l l' ws jE m m' ao ao #[] #[] c0 c1 (by unfold gX;rw[z1.size,z2.size,<-f6];exact bN hl (by decide))) ⟨h1,h2,SY (ws:=ws++jE) (m:=0) a (by rw[Xy];exact z1.append z2) hl q⟩
theorem aK3{op:Xa}{a b:V}{u v:aA}{Q:V->St->Prop}{A:cQ}{E:aA->aE->Prop}(h:RW op a b Z.o λv=>Q v Z)(at_:At f Y G Z r s F)(ra:VR f.w r F a u)(rb:VR f.w r F b v):av (aP f.prog f.w) A (F4 op u v) (rS f Y G Z Q r s F) E s:=by
 refine vO h (λX h=>jX ra h λi t h=>jX rb h λj t' h=>aJ8 h at_) λX h=>?_;induction op with
 |Mult=>
  refine AA ra at_ h λds l ws m h h2 h3 X=>?_;induction ds using eT with
  |nil=>exact h.elim
  |cons x ds=>induction ds using eT with
   |nil=>exact jX rb h λi t h=>aK1 at_ h2 h3 h.1.1 h.1.2 h.2
   |cons X I=>exact h.elim
 |Add=>refine vO h (λX h=>jD ra h λx ra h=>jD rb h λy rb h=>B8 ra h λds l ws n h e1 z1 l1=>B8 rb h λdT l' jE n' h e2 z2 l2=>aK2 at_ e1 z1 l1 e2 z2 l2 h.1 h.2) λX h=>?_;exact AA ra at_ h λx l ws m h h2 h3 X=>AA rb at_ h λy l' jE m' h g2 g3 X=>aJ9 at_ h2 g2 h3 g3 h.1 h.2
 |_=>exact h.elim
end
section
open SeqAt
variable{f:Cf}{Y:J (ai×cJ)}{n:H}{Z:St}{e:aT}{G:cL}{r:bQ}{s:aE}{F:bP}
theorem aK4{a b:J iX}(h:a.map iY=b.map iY):a=b:=(List.map_inj_right λX I h=>UInt8.toNat_inj.mp h).mp h
abbrev S0(A:cQ)(s:aE)(u v:aA)(q:aD):Prop:=RcAt A s u v q/\RcNeAt A s u v (!q)
abbrev AB(A:cQ)(s:aE)(u v:aA)(q:aD):Prop:=S0 A s u v q/\EqAt A s u v q
theorem S1:(kJ k).all (λX=>ah)=ah:=al7.mpr λX I=>rfl
theorem eU.at{F:bP}{ws jE:cT aA}(h:eU F ds ws.toList)(h':eU F ds jE.toList)(j1:j<ws.size)(j2:j<jE.size):∃d∈ds,DR F d ws[j]/\DR F d jE[j]:=by
 have l:j<ds.length:=h.size▸j1;have k:∀{ws:cT aA}(h:eU F ds ws.toList)(q:j<ws.size),DR F ds[j] ws[j]:=λh q=>by
  refine b_ (h.get (i:=j) (mZ l)) λu hx=>?_;have e:=hx.1;have y:=hx.2;rw[rB,Kp q]at e
  rw[fW e];exact y
 exact⟨ds[j],ak9 l,k h j1,k h' j2⟩
theorem aK5{a b:cT iX}(h:a.toList.map iY=b.toList.map iY):AB A s (.bytes a t) (.bytes b u) ah:=by
 have e:=aK4 h;have r:RcAt A s (.bytes a t) (.bytes b u) ah:=λprog w E Q q=>eq_bytes (by rw[e,qy];exact q)
 refine⟨⟨r,λprog w E Q q=>ne_bytes (by rw[e];simpa using q)⟩,λprog w E Q q=>?_⟩
 unfold eqBool;refine cs1 ?_;refine wpAny_ite_split (λCc=>?_) (λX=>?_)
 ·exact ud (co8 (P9 q))
 ·exact ud (r prog w E _ (Kq q))
theorem d0(h:S0 A s (.ref a) (.ref b) ah):AB A s (.ref a) (.ref b) ah:=⟨h,by
 by_cases q:a=b
 ·rw[q];exact EqAt.same _
 ·exact EqAt.of_refs q h.1⟩
theorem d3(i j:aa)(t t':H):AB A s (.int i t) (.int j t') (i==j):=⟨⟨RcAt.int_int _ _ _ _,RcNeAt.int_int _ _ _ _⟩,EqAt.int_int _ _ _ _⟩
theorem d4(i j:ai)(t t':H):AB A s (.str i t) (.str j t') (i==j):=⟨⟨RcAt.str_str _ _ _ _,RcNeAt.str_str _ _ _ _⟩,EqAt.str_str _ _ _ _⟩
theorem d5:AB A s .none .none ah:=⟨⟨RcAt.none_none,RcNeAt.none_none⟩,EqAt.same _⟩
theorem d6{A:cQ}(hF:∀a o,F a=N o->s.heap.get? a=N o)(hu:A.units<F7)(ih:∀d u v,E d->DR F d u->DR F d v->EqAt A.in1 s u v ah)(hd:RX E d)(y1:DR F d u)(y2:DR F d v):AB A s u v ah:=by
 have he:∀{ds:J D}{ws jE:cT aA},(∀d∈ds,E d)->eU F ds ws.toList->eU F ds jE.toList->∀j(h1:j<ws.size)(h2:j<jE.size),EqAt A.in1 s ws[j] jE[j] ah:=λhd z1 z2 j h1 h2=>(z1.at z2 h1 h2).elim λd g=>ih d _ _ (hd d g.1) g.2.1 g.2.2
 induction d using Wm.D.casesOn with
 |none=>exact y1.e (y2.e d5)
 |bool b=>exact y1.e (y2.e ⟨⟨by have h:=RcAt.bool_bool (A:=A) (s:=s) b b;rwa [qy]at h,by have h:=RcNeAt.bool_bool (A:=A) (s:=s) b b;rwa [qy]at h⟩,EqAt.same _⟩)
 |int i=>exact y1.e λt=>y2.e λt'=>by have h:=d3 (A:=A) (s:=s) i i t t';rwa [qy]at h
 |str x=>exact y1.e λt=>y2.e λt'=>by have h:=d4 (A:=A) (s:=s) x x t t';rwa [qy]at h
 |bytes l=>exact y1.e λb t e X=>y2.e λb' t' e' X=>aK5 (e.symm.trans e')
 |tup ds=>
  refine y1.e λl ws m e1 z1 X=>y2.e λl' jE m' e2 z2 X=>?_;have r1:=RcAt.tuples (A:=A) ⟨_,hF _ _ e1,rfl,_,rfl⟩ ⟨_,hF _ _ e2,rfl,_,rfl⟩ hu (e:=λX=>ah) (he hd z1 z2);have r2:=RcNeAt.tuples (A:=A) ⟨_,hF _ _ e1,rfl,_,rfl⟩ ⟨_,hF _ _ e2,rfl,_,rfl⟩ hu (e:=λX=>ah) (he hd z1 z2);rw[S1,z1.size,z2.size,qy]at r1 r2
  exact d0 ⟨r1,r2⟩
 |list ds=>
  refine y1.e λl ws m e1 z1 X=>y2.e λl' jE m' e2 z2 X=>?_;have r1:=RcAt.lists (A:=A) ⟨_,hF _ _ e1,rfl,_,rfl⟩ ⟨_,hF _ _ e2,rfl,_,rfl⟩ (z1.size.trans z2.size.symm) hu (e:=λX=>ah) (he hd z1 z2);have r2:=RcNeAt.lists (A:=A) ⟨_,hF _ _ e1,rfl,_,rfl⟩ ⟨_,hF _ _ e2,rfl,_,rfl⟩ (z1.size.trans z2.size.symm) hu (e:=λX=>ah) (he hd z1 z2);rw[S1]at r1 r2
  exact d0 ⟨r1,r2⟩
 |_=>exact hd.elim
theorem aK6(hF:∀a o,F a=N o->s.heap.get? a=N o)(n:H):∀{A:cQ}{d:D}{u v:aA},A.units+n<F7->d.nu n->DR F d u->DR F d v->AB A s u v ah:=by
 induction n with
 |zero=>exact λhu hd y1 y2=>d6 hF hu (λX I u2 h=>h.elim) hd y1 y2
 |succ n ih=>exact λ{A} X I u2 hu hd y1 y2=>d6 hF (eZ (gF _ _) hu) (λX I u2 h y1 y2=>(ih (A:=A.in1) (by show A.units+1+n<F7;rw[wB,rC 1];exact hu) h y1 y2).2) hd y1 y2
noncomputable def lW(x:D)(y:aA):aD:=match x with
 | .int i=>(match y with| .int j X=>j==i|X=>ak)
 | .str a=>(match y with| .str b X=>b==a|X=>ak)
 | .none=>(match y with| .none=>ah|X=>ak)
 |X=>ak
theorem eh(A:cQ)(h:ME a b k)(y1:DR F a u)(y2:DR F b v):k (lW b u)/\AB A s u v (lW b u):=by
 induction a using Wm.D.casesOn with
 |int i=>induction b using Wm.D.casesOn with
  |int j=>exact y1.e λt=>y2.e λt'=>⟨h,d3 _ _ _ _⟩
  |none=>exact y1.e λt=>y2.e ⟨h,⟨RcAt.int_none _ _,RcNeAt.int_none _ _⟩,EqAt.int_none _ _⟩
  |_=>exact h.elim
 |str x=>induction b using Wm.D.casesOn with
  |str y=>
   have h:k (je x y):=h;rw[Sn]at h
   exact y1.e λt=>y2.e λt'=>⟨h,d4 _ _ _ _⟩
  |_=>exact h.elim
 |none=>induction b using Wm.D.casesOn with
  |int j=>exact y1.e (y2.e λt'=>⟨h,⟨RcAt.none_int _ _,RcNeAt.none_int _ _⟩,EqAt.none_int _ _⟩)
  |none=>exact y1.e (y2.e ⟨h,d5⟩)
  |_=>exact h.elim
 |_=>exact h.elim
theorem et{P:Prop}{A:cQ}(h:RY a b Z.o k)(at_:At f Y G Z r s F)(y1:VR f.w r F a u)(y2:VR f.w r F b v)(hu:A.units+8<F7)(g:∀q,k q->S0 A s u v q->P):P:=by
 have M3:A.units<F7:=eZ (gF _ _) hu;refine jD y2 h λy y2 h=>vO h (λe h=>?_) λX h=>jD y1 h λx y1 h=>vO h (λX h=>have e:=eh (s:=s) A h y1 y2;g _ e.1 e.2.1) λX h=>?_
 ·induction y using Wm.D.casesOn with
  |list dT=>
   induction dT using eT with
   |cons X I=>exact gr e
   |nil=>
    revert g
    refine y2.e λl' jE m' e2 z2 X=>AA y1 at_ h λds l ws m h h1 z1 X g=>?_;have hl:s.heap.IsList l ws:=⟨_,h1,rfl,_,rfl⟩;have Ey:s.heap.IsList l' jE:=⟨_,at_.mt.sub _ _ e2,rfl,_,rfl⟩;have z0:jE.size=0:=z2.size;have z1:=z1.size;induction ds using eT with
    |nil=>
     have he:∀j(h1:j<ws.size)(h2:j<jE.size),EqAt A.in1 s ws[j] jE[j] ((λX=>ah) j):=λj h1 X=>absurd h1 (by rw[z1];exact xV _)
     have r1:=RcAt.lists (A:=A) hl Ey (z1.trans z0.symm) M3 he;have r2:=RcNeAt.lists (A:=A) hl Ey (z1.trans z0.symm) M3 he;rw[S1]at r1 r2
     exact g _ h ⟨r1,r2⟩
    |cons d ds=>
     have ne:(ws.size !=jE.size)=ah:=by rw[z0,z1];rfl
     exact g _ h ⟨RcAt.lists_lengths hl Ey ne M3,RcNeAt.lists_lengths hl Ey ne M3⟩
  |_=>exact gr e
 ·rw[h.1.1]at y1
  exact g _ h.2 (aK6 at_.mt.sub 8 hu (h.1.1▸h.1.2) y1 y2).1
theorem ew(A:cQ)(y:DR F x v){ws:J aA}(h:yC x ds k)(z:eU F ds ws):k (ws.any (lW x))/\∀u∈ws,EqAt A s u v (lW x u):=by
 induction z generalizing k with
 |nil=>exact⟨h,λX m=>nomatch m⟩
 |cons a z ih=>have h1:=eh (s:=s) A h a y;have h3:=ih h1.1;exact⟨h3.1,gv.mpr ⟨h1.2.2,h3.2⟩⟩
theorem ey(h:vK b Z.o λds=>yC x ds k)(a:At f Y G Z r s F)(y:DR F x v)(y2:VR f.w r F b u):
  ∃q,k q/\(∀Q:aA->aE->Prop,Q (.bool q) s->av (aP f.prog f.w) A (J8 .In v u) Q E s)/\∀Q:aA->aE->Prop,Q (.bool (!q)) s->av (aP f.prog f.w) A (J8 .NotIn v u) Q E s:=by
 refine vO h (λX h=>jD y2 h λX y2 h=>B8 y2 h λds l ws m h e z X=>?_) λX h=>AA y2 a h λds l ws m h e z X=>?_
 ·have g:=ew (s:=s) A.in1 y h z;have ht:s.heap.IsTuple l ws:=⟨_,a.mt.sub _ _ e,rfl,_,rfl⟩;have he:∀u∈ws,EqAt A.in1 s u v (lW x u):=λu hu=>g.2 u (Kr.mpr hu);have e:ws.toList.any (lW x)=ws.any (lW x):=XC ..;exact⟨_,g.1,λQ q=>aZ<|in_tupleAt (lW x) ht he (e▸q),λQ q=>aZ<|notIn_tupleAt (lW x) ht he (e▸q)⟩
 ·have g:=ew (s:=s) A.in1 y h z;have ht:s.heap.IsList l ws:=⟨_,e,rfl,_,rfl⟩;have he:∀u∈ws,EqAt A.in1 s u v (lW x u):=λu hu=>g.2 u (Kr.mpr hu);have e:ws.toList.any (lW x)=ws.any (lW x):=XC ..;exact⟨_,g.1,λQ q=>aZ<|in_listAt (lW x) ht he (e▸q),λQ q=>aZ<|notIn_listAt (lW x) ht he (e▸q)⟩
theorem S2{v:V}(y:VR f.w r F v u):(u==al8)=v.o8:=
 y.rec (motive:=λv u X=>(u==al8)=v.o8) (λy=>y.out.rec (motive:=λx u X=>(u==al8)=x.o8) rfl rfl rfl rfl (λX=>rfl) rfl (λX I u2=>rfl) (λX I u2=>rfl) λX I u2 u3=>rfl) (λX=>rfl) (λX I u2=>rfl) (λX I u2=>rfl) λX I u2=>rfl
theorem eA{α:Type}(x y:aa)(a:α)(r:J (aa×α)):qR x ((y,a)::r)=if x=y then N a else qR x r:=by
 rw[qR];by_cases h:x=y
 ·rw[dM h,nL h]
 ·rw[cF h,kq h]
section
variable{prog:iU}{w:bU}{κ:Type}[Ks κ]{knd:KeyKind prog w κ}{vs:J (κ×D)}{es:J jN}
theorem aK7{k x:κ}{kv u:aA}{h:aa}(i:knd.is x kv=ah):wC knd.is ((⟨h,kv,u⟩:jN)::es).toArray k=if k=x then N u else wC knd.is es.toArray k:=by
 unfold wC;rw[al9,al9,cs2];by_cases q:k=x
 ·rw[dM q,q,i];rfl
 ·rw[cF q,zM.mpr λj=>q (knd.inj _ _ _ j i)]
theorem L2.find{k:κ}{lk:J (κ×D)->bq D}(l0:lk []=ao)(l1:∀x a r,lk ((x,a)::r)=if k=x then N a else lk r)(z:L2 (KE knd.is knd.hash F) vs es):(yD (lk vs)=(wC knd.is es.toArray k).isSome)/\∀v,lk vs=N v->∃u,wC knd.is es.toArray k=N u/\DR F v u:=by
 induction z with
 |nil=>rw[l0];exact⟨rfl,λX h=>nomatch h⟩
 |cons a z ih=>
  refine a.rec λi d=>?_
  ·rw[aK7 i,l1]
   split
   ·exact⟨rfl,λv h=>⟨_,rfl,fW h▸d⟩⟩
   ·exact ih
theorem L2.keys(z:L2 (KE knd.is knd.hash F) vs es):KeysOf knd es.toArray:=by
 have:∀e∈es,∃k,knd.is k e.key=ah/\e.hash=knd.hash k:=by
  induction z with
  |nil=>exact λX h=>nomatch h
  |cons a z ih=>exact gv.mpr ⟨a.rec λi X=>⟨_,i,rfl⟩,ih⟩
 exact λe he=>this e (List.mem_toArray.mp he)
theorem M4(h:s.heap.get? a=N (mY es m))(z:L2 (KE knd.is knd.hash F) vs es):s.heap.MapOf knd a (λk=>wC knd.is es.toArray k):=
 ⟨_,es.toArray,m,h,⟨rfl,rfl,rfl⟩,rfl,z.keys,λX=>rfl⟩
end
theorem eC{w:bU}{prog:iU}{k:aa}{vs:J (aa×D)}{es:J jN}(z:Sp F vs es):(yD (qR k vs)=(wC (F8 prog w).is es.toArray k).isSome)/\∀v,qR k vs=N v->∃u,wC (F8 prog w).is es.toArray k=N u/\DR F v u:=L2.find (knd:=F8 prog w) rfl (eA k) z
theorem Yv{w:bU}{prog:iU}{vs:J (ai×D)}{es:J jN}(z:Sq w F vs es):(yD (cG k vs)=(wC (F9 prog w).is es.toArray k).isSome)/\∀v,cG k vs=N v->∃u,wC (F9 prog w).is es.toArray k=N u/\DR F v u:=L2.find (knd:=F9 prog w) rfl (tF k) z
theorem QO{prog:iU}{w:bU}(x:aa)(t:H):(F8 prog w).is x (.int x t)=ah:=qy x
theorem S3{prog:iU}{w:bU}(x:ai)(t:H):(F9 prog w).is x (.str x t)=ah:=qy x
theorem Ez{E:aA->aE->Prop}(h:tE op a b Z.o k)(o:Ok n A)(at_:At f Y G Z r s F)(y1:VR f.w r F a u)(y2:VR f.w r F b v)
  (g:∀q t,k q->Q (.bool q) {s with toks:=t}):av (aP f.prog f.w) A (J8 op u v) Q E s:=by
 have hu:A.units+8<F7:=eZ (Ku (bN (gF _ _) o.units) 8) (by decide:9800+8<F7)
 have eD:b.o8=ah->v=.none:=λq=>eq_of_beq ((S2 y2).trans q);induction op with
 |Eq=>exact et h at_ y1 y2 hu λq h e=>aZ<|e.1 f.prog f.w E Q (g q s.toks h)
 |NotEq=>exact et (k:=λq=>k (!q)) h at_ y1 y2 hu λq h e=>aZ<|e.2 f.prog f.w E Q (g (!q) s.toks h)
 |Is=>have h:=l9 h;rw[eD h.1];exact aZ<|is_none (by rw[S2 y1];exact g _ s.toks h.2)
 |IsNot=>have h:=l9 h;rw[eD h.1];exact aZ<|isNot_none (by rw[S2 y1];exact g _ s.toks h.2)
 |In=>
  have gen:(iS a λx=>vK b Z.o λds=>yC x ds k)->av (aP f.prog f.w) A (J8 .In u v) Q E s:=λh=>jD y1 h λx y1 h=>(ey (A:=A) (E:=E) h at_ y1 y2).elim λq e=>e.2.1 Q (g _ s.toks e.1);induction b with
  |nO es=>exact jX y1 h λi t h=>y2.e λa es n e z ne=>aZ<|wpAny_in_of (QO _ _) ne (M4 (knd:=F8 f.prog f.w) (at_.mt.sub _ _ e) z) (by rw[<-(eC (prog:=f.prog) (w:=f.w) z).1];exact g _ _ h)
  |uq es=>exact jD y1 h λx y1 h=>Ew y1 h λi t h=>y2.e λa es n e z ne=>aZ<|wpAny_in_of (S3 _ _) ne (M4 (knd:=F9 f.prog f.w) (at_.mt.sub _ _ e) z) (by rw[<-(Yv (prog:=f.prog) z).1];exact g _ _ h)
  |_=>exact gen h
 |NotIn=>exact jD y1 h λx y1 h=>(ey (A:=A) (E:=E) h at_ y1 y2).elim λq e=>e.2.2 Q (g _ s.toks e.1)
 |Lt=>exact jX y1 h λi t h=>jX y2 h λj t' h=>aZ<|lt_int (g _ s.toks h)
 |LtE=>exact jX y1 h λi t h=>jX y2 h λj t' h=>aZ<|le_int (g _ s.toks h)
 |Gt=>exact jX y1 h λi t h=>jX y2 h λj t' h=>aZ<|gt_int (g _ s.toks h)
 |GtE=>exact jX y1 h λi t h=>jX y2 h λj t' h=>aZ<|ge_int (g _ s.toks h)
theorem eI(h:As v k)(y:VR f.w r F v u)(g:∀q,k q->Q q s):av (aP f.prog f.w) A (J_ u) Q E s:=by
 refine jD y h λx y h=>?_;induction x using Wm.D.casesOn with
 |bool b=>exact y.e (aZ<|Kq (g _ h))
 |int i=>exact y.e λt=>aZ<|truthy_int (g _ h)
 |_=>exact h.elim
theorem aK8{a b:Prop}(h:dh q a b):(q=ah/\a)\/(q=ak/\b):=by cases q;exact .inr ⟨rfl,h⟩;exact .inl ⟨rfl,h⟩
theorem aK9{r:aT}
  (h:WE f Y n l Z λa aI=>WE f Y n r aI λb b3=>RW op a b b3.o λv=>Q v b3):WE f Y n (.BinOp l op r pos) Z Q:=λA s F G E r o i a=>
 ar9 (h.run o i a λv wa aI bY cz aF h₁ cX b7 b8=>h₁.run o i b7 λb wb b3 iC iI cj dw gU e_ c9=>gG (aK3 dw e_ (cX.mono c9.fM c9.grow) gU) (λw s' p=>.of b8 (.of c9 p)) λX I z=>z)
theorem aL0(h:WE f Y n x Z λa aI=>jl a λi=>Q (.d (.int (-i))) aI):WE f Y n (.UnaryOp .USub x pos) Z Q:=λA s F G E r o i a=>ar8 (h.run o i a λv wa aI bY cz aF h₁ cX b7 b8=>jX cX h₁ λi t h₁=>aZ<|neg_int (.of b8 (.here b7 (.d .int) h₁)))
theorem aL1{r:aT}
  (h:WE f Y n l Z λa aI=>WE f Y n r aI λb b3=>tE op a b b3.o λq=>Q (.d (.bool q)) b3)(hm:J9 op r=ak):
  WE f Y n (.Compare l [op] [r] pos) Z Q:=λA s F G E r o i a=>
 as1 (h.run o i a λv wa aI bY cz aF h₁ cX b7 b8=>h₁.run o i b7 λb wb b3 iC iI cj dw gU e_ c9=>Ez dw o e_ (cX.mono c9.fM c9.grow) gU λq t g=>.of b8 (.of c9 (.here e_ (.d .bool) g))) hm
theorem aL2{r:aT}
  (h:WE f Y n l Z λa aI=>WE f Y n r aI λb b3=>tE op a b b3.o λq=>Q q b3)(hm:J9 op r=ak):
  WT f Y n (.Compare l [op] [r] pos) Z Q:=λA s F G E r o i a=>
 as2 (h.run o i a λv wa aI bY cz aF h₁ cX b7 b8=>h₁.run o i b7 λb wb b3 iC iI cj dw gU e_ c9=>Ez dw o e_ (cX.mono c9.fM c9.grow) gU λq t g=>aZ<|Kq (.of b8 (.of c9 (.here e_ rfl g)))) hm
def eJ(f:Cf)(Y:J (ai×cJ))(n:H)(o1 o2:CmpOp)(e1 e2:aT)(a:V)(Z:St)(Q:aD->St->Prop):Prop:=
 WE f Y n e1 Z λb b3=>tE o1 a b b3.o λq=>dh q (WE f Y n e2 b3 λc iJ=>tE o2 b c iJ.o λq=>Q q iJ) (Q ak b3)
theorem aL3(h:WE f Y n l Z λa aI=>eJ f Y n o1 o2 e1 e2 a aI Q)(hm:Xd [o1,o2] [e1,e2]=ak):
  WT f Y n (.Compare l [o1,o2] [e1,e2] pos) Z Q:=λA s F G E r o i a=>by
 refine as3 (h.run o i a λv wa aI bY cz aF h₁ cX b7 b8=>?_) hm;refine aJ (iP (WX.run h₁ o i b7 λb wb b3 iC iI cj dw gU e_ c9=>?_));refine aJ (qF (aJ (iP (Ez dw o e_ (cX.mono c9.fM c9.grow) gU λq t g=>?_))));refine aJ (aZ<|Xf (aJ (iP (aZ<|Kq ?_))));induction q with
 |true=>rw[dM rfl];refine aJ (iP (WX.run g o i (e_.tok t) λc wc iJ i9 ja dU ku qV jo gx=>?_));exact aJ (qF (aJ (DF (Ez ku o jo (gU.mono gx.fM gx.grow) qV λq t' g=>iP (aZ<|Kq (.of b8 (.of c9 (.of (.tok ..) (.of gx (.here jo rfl g))))))))))
 |false=>rw[cF rq];exact bg (.of b8 (.of c9 (.here e_ rfl g)))
theorem aL4(h:WT f Y n x Z λb aI=>Q (!b) aI):WT f Y n (.UnaryOp .Not x pos) Z Q:=λA s F G E r o i a=>as5 (gG (h A s F G E r o i a) (λX I p=>p.rec λb b9 r' F' q e a' t=>⟨!b,b9,r',F',q,bR _ e,a',t⟩) λX I z=>z)
theorem aL5{es:J aT}(h:Az f Y n op es Z Q):WT f Y n (.BoolOp op es pos) Z Q:=λA s F G E r o i a=>as6 (h A s F G E r o i a)
theorem aL6(h:Q ah Z):Az f Y n .And [] Z Q:=λX I u2 u3 u4 u5 u6 u7 a=>aZ<|wpAny_allTrue_And_nil (.oG a rfl h)
theorem aL7(h:Q ak Z):Az f Y n .Or [] Z Q:=λX I u2 u3 u4 u5 u6 u7 a=>aZ<|wpAny_allTrue_Or_nil (.oG a rfl h)
theorem aL8(h:WT f Y n x Z λb aI=>dh b (Az f Y n .And l aI Q) (Q ak aI)):Az f Y n .And (x::l) Z Q:=λA s F G E r o i a=>by
 refine as7 (h.run o i a λb w aI bY cz aF h₁ cX b7 b8=>?_);rw[<-cX];cases b
 ·exact .of b8 (.oG b7 rfl h₁)
 ·exact gG (h₁ A aF cz G E bY o i b7) (λX I p=>.of b8 p) λX I z=>z
theorem aL9(h:WT f Y n x Z λb aI=>dh b (Q ah aI) (Az f Y n .Or l aI Q)):Az f Y n .Or (x::l) Z Q:=λA s F G E r o i a=>by
 refine as8 (h.run o i a λb w aI bY cz aF h₁ cX b7 b8=>?_);rw[<-cX];cases b
 ·exact gG (h₁ A aF cz G E bY o i b7) (λX I p=>.of b8 p) λX I z=>z
 ·exact .of b8 (.oG b7 rfl h₁)
theorem aM0(h:WE f Y n e Z λv aI=>As v λq=>Q q aI)
  (he:∀G oS,oY e G oS=(do let v<-oS;sy e.pos;A9 [v] (J_ v))):WT f Y n e Z Q:=λA s F G E r o i a=>
 as4 (h.run o i a λv wa aI bY cz aF h₁ cX b7 b8=>eI h₁ cX λq g=>.of b8 (.oG b7 rfl g)) (he _ _)
theorem aM1(h:WT f Y n t Z λq aI=>dh q (WE f Y n a aI Q) (WE f Y n b aI Q)):WE f Y n (.IfExp t a b pos) Z Q:=λA s F G E r o i a=>by refine ar7 (h.run o i a λq w aI bY cz aF h₁ cX b7 b8=>?_);rw[<-cX];cases q<;>exact gG (h₁ A aF cz G E bY o i b7) (λw s' p=>.of b8 p) λX I z=>z
end
section
variable{f:Cf}{Y:J (ai×cJ)}{n:H}{Z:St}{e:aT}{G:cL}{r:bQ}{s:aE}{F:bP}
theorem aM2{i:aa}(h:Q (.d (.int i)) Z):WE f Y n (.Constant (.int i) k pos) Z Q:=λX I u2 u3 u4 u5 u6 u7 a=>aZ<|wpAny_Constant_int (.here a (.d .int) h)
theorem aM3(h:Q (.d (.bool b)) Z):WE f Y n (.Constant (.bool b) k pos) Z Q:=λX s I u2 u3 u4 u5 u6 a=>aZ<|wpAny_Constant_bool (.oG a (.d .bool) h)
theorem aM4(h:Q (.d .none) Z):WE f Y n (.Constant .none k pos) Z Q:=λX s I u2 u3 u4 u5 u6 a=>aZ<|wpAny_Constant_none (.oG a (.d .none) h)
theorem aM5(h:Q (.d (.str x)) Z):WE f Y n (.Constant (.str x) k pos) Z Q:=λX I u2 u3 u4 u5 u6 u7 a=>aZ<|wpAny_Constant_str (.here a (.d .str) h)
theorem aM6(h:WE f Y n x Z Q):WX f Y (λr F=>VR f.w r F) n (λG=>Dm pos op (wu [x] G)) Z Q:=h
theorem aM7
  (h:WE f Y n x Z λv aI=>As v λq=>match op with
   | .And=>dh q (WX f Y (λr F=>VR f.w r F) n (λG=>Dm pos op (wu (y::l) G)) aI Q) (Q v aI)
   | .Or=>dh q (Q v aI) (WX f Y (λr F=>VR f.w r F) n (λG=>Dm pos op (wu (y::l) G)) aI Q)):
  WX f Y (λr F=>VR f.w r F) n (λG=>Dm pos op (wu (x::y::l) G)) Z Q:=λA s F G E r o i a=>by
 refine aJ (h.run o i a λv w aI bY cz aF h₁ cX b7 b8=>aJ (qF (aJ (iP (eI h₁ cX λq g1=>?_)))));have go:WX f Y (λr F=>VR f.w r F) n (λG=>Dm pos op (wu (y::l) G)) aI Q->av (aP f.prog f.w) A (Dm pos op (wu (y::l) G)) (mh f Y (λr F=>VR f.w r F) G Z Q r s F) E aF:=λg=>gG (g A aF cz G E bY o i b7) (λw s' p=>.of b8 p) λX I z=>z;have no:Q v aI->av (aP f.prog f.w) A (pure w) (mh f Y (λr F=>VR f.w r F) G Z Q r s F) E aF:=λg=>bg (.of b8 (.oG b7 cX g));induction op with
 |And=>induction q with
  |true=>exact go g1
  |false=>exact no g1
 |Or=>induction q with
  |true=>exact no g1
  |false=>exact go g1
theorem aM8(h:WX f Y (λr F=>VR f.w r F) n (λG=>Dm pos op (wu es G)) Z Q):WE f Y n (.BoolOp op es pos) Z Q:=h
theorem aM9{G:cL}(hm:Xd [o1,o2] [e1,e2]=ak):Xe [o1,o2] [e1,e2] (wu [e1,e2] G)=[cM e1 G,cM e2 G]:=by
 have:J9 o2 e2=ak:=hm
 show cM e1 G::Xe [o2] [e2] [cM e2 G]=_
 show cM e1 G::[cs3 o2 e2 (cM e2 G)]=_
 unfold cs3;rw[this]
theorem aN0(h:WE f Y n l Z λa aI=>eJ f Y n o1 o2 e1 e2 a aI λq Z=>Q (.d (.bool q)) Z)(hm:Xd [o1,o2] [e1,e2]=ak):
  WE f Y n (.Compare l [o1,o2] [e1,e2] pos) Z Q:=λA s F G E r o i a=>by
 show av _ A (do compareChain pos (<-cM l G) [o1,o2] (Xe [o1,o2] [e1,e2] (wu [e1,e2] G))) _ E s
 rw[aM9 hm];refine aJ (h.run o i a λv wa aI bY cz aF h₁ cX b7 b8=>?_);refine aJ (iP (WX.run h₁ o i b7 λb wb b3 iC iI cj dw gU e_ c9=>?_));refine aJ (qF (aJ (iP (Ez dw o e_ (cX.mono c9.fM c9.grow) gU λq t g=>?_))));refine aJ (aZ<|Xf (aJ (iP (aZ<|Kq ?_))));induction q with
 |true=>rw[dM rfl];refine aJ (iP (WX.run g o i (e_.tok t) λc wc iJ i9 ja dU ku qV jo gx=>?_));exact aJ (qF (DF (Ez ku o jo (gU.mono gx.fM gx.grow) qV λq t' g=>.of b8 (.of c9 (.of (.tok ..) (.of gx (.here jo (.d .bool) g)))))))
 |false=>rw[cF rq];exact bg (.of b8 (.of c9 (.here e_ (.d .bool) g)))
theorem eM(h:Q [] Z):qU f Y n [] Z Q:=λX I s F u2 u3 r u4 u5 a=>at0 ⟨[],Z,r,F,h,.nil,a,.refl ..⟩
def kd(l:J H)(e:aT):aD:=eK e.ctorIdx l
noncomputable def uL:aT:=.Name (az []) ⟨0,0,0,0⟩
structure EP where
 l:J aT
 ks:J aT:=[]
 n:H:=0
 s:ly:=default
def eP(x:aT):EP:=match x with
 | .BoolOp X l I=>⟨l,[],0,default⟩
 | .BinOp l X r I=>⟨[l,r],[],0,default⟩
 | .UnaryOp X x I=>⟨[x],[],0,default⟩
 | .IfExp t a b X=>⟨[t,a,b],[],0,default⟩
 | .Dict ks vs I=>⟨vs,ks.map (·.getD uL),0,default⟩
 | .ListComp e gs s I=>⟨e::gs.flatMap λg=>g.target::g.iter::g.ifs,[],0,s⟩
 | .Compare l X rs I=>⟨l::rs,[],0,default⟩
 | .Call f l X I=>⟨f::l,[],0,default⟩
 | .Constant X k I=>⟨[],[],k,default⟩
 | .Attribute v X I=>⟨[v],[],0,default⟩
 | .Subscript a i X=>⟨[a,i],[],0,default⟩
 | .List l X=>⟨l,[],0,default⟩
 | .Tuple l k I=>⟨l,[],k,default⟩
 | .Slice lo hi X I=>⟨[lo.getD uL,hi.getD uL],[],0,default⟩
 |X=>⟨[],[],0,default⟩
def xm(e:aT):aD:=!(kd [22] e)
theorem HZ{e:aT}{r:J aT}{G:cL}(h:xm e=ah):lQ (e::r) G=(ak,cM e G)::lQ r G:=by cases e<;>first|rfl|exact gr h
theorem S4(h:WE f Y n e Z λv aI=>qU f Y n l aI λvs b3=>Q (v::vs) b3)(hp:xm e=ah):qU f Y n (e::l) Z Q:=
 λpos A s F G E r o i a=>by
 refine as9 (h.run o i a λv wa aI bY cz aF h₁ cX b7 b8=>WX.run (h₁ pos) o i b7 λb wb b3 iC iI cj dw gU e_ c9=>?_) (HZ hp);exact⟨_,b3,iC,iI,dw,.cons (cX.mono c9.fM c9.grow) gU,e_,b8.trans c9⟩
theorem S5{α:Type}{l:J α}(h:nJ (len l) 1000=ah):l.length<=1000:=by rw[nc]at h;exact P0 h
theorem S6{vs:J V}{ds:J D}(e:nW vs=N ds):ds.length=vs.length:=Z4 e▸(cO _).symm
theorem aN1{vs:J V}{ws:J aA}(h:RU vs Q)(y:gh f.w r F vs ws)(hl:vs.length<=1048576)(e:F a=N (lJ ws.toArray m)):∃v,Q v/\VR f.w r F v (.ref a):=by
 have go:∀o,nW vs=o->(match o with|some ds=>Q (.d (.tup ds))|none=>Er vs λa b=>iS a λx=>hO b λh=>Q (.pr x h))->∃v,Q v/\VR f.w r F v (.ref a):=λo q h=>by
  induction o with
  |some ds=>exact⟨_,h,.d (.tup e (y.nW q) (S6 q▸hl))⟩
  |none=>
   revert e
   refine Sw y h λv u v' u' y y' h=>?_;refine jD y h λx y h=>?_;exact Ax y' h λi p q h e=>⟨_,h,.pr e y q⟩
 exact go _ rfl h
theorem aN2(h:qU f Y n es Z λvs aI=>dh (nJ (len vs) 1000) (RU vs λv=>Q v aI) bV):WE f Y n (.Tuple es k pos) Z Q:=λA s F G E r o i a=>by
 refine Yq ((h _).run o i a λvs ws aI bY cz aF h₁ cX b7 b8=>?_);have hx:=l9 h₁;have hl:=hx.1;have hq:=hx.2;have hl:=S5 hl;refine⟨by rw[<-cX.length];exact bN hl (by unfold gX;decide),?_⟩
 refine b_ (b7.frozen (o:=lJ ws.toArray 0) rfl) λF' hx=>?_;have e:=hx.1;have a':=hx.2.1;have t':=hx.2.2;refine b_ (aN1 hq (cX.Eu t'.fM t'.grow) (bN hl (by decide)) e) λv hx=>?_
 have hq:=hx.1;have y:=hx.2;exact⟨_,aI,bY,F',hq,y,a',b8.trans t'⟩
theorem aN3{vs:J V}{ws:cT aA}{m:H}(h:iF lv vs Z.o λv o=>Q v ⟨Z.m,o⟩)(a:At f Y G Z r s F)(y:gh f.w r F vs ws.toList)(hl:vs.length<=1048576):
  rS f Y G Z Q r s F (.ref s.heap.objs.size) {s with heap:=s.heap.push (iH ws m)}:=by
 cases q:nW vs with
 |some ds=>
  have hl:ds.length<=1048576:=by rw[S6 q];exact hl
  induction lv with
  |true=>
   rw[show iF ah vs Z.o (λv o=>Q v ⟨Z.m,o⟩)=(match nW vs with|some ds=>Q (.ref (Wm.len Z.o)) ⟨Z.m,Z.o++[.dl ds]⟩|none=>Q (.ref (Wm.len Z.o)) ⟨Z.m,Z.o++[.vl vs]⟩)from rfl,q]at h
   refine b_ (a.live (o:=iH ws m) (x:=.dl ds) rfl rfl ⟨ws,m,lY _ rfl,y.nW q,hl⟩) λr' hx=>?_;have v:=hx.1;have a':=hx.2.1;have t':=hx.2.2;exact⟨_,_,r',F,h,v,a',t'⟩
  |false=>
   rw[show iF ak vs Z.o (λv o=>Q v ⟨Z.m,o⟩)=(match nW vs with|some ds=>Q (.d (.list ds)) Z|none=>Q (.ref (Wm.len Z.o)) ⟨Z.m,Z.o++[.vl vs]⟩)from rfl,q]at h
   exact SX a (y.nW q) hl h
 |none=>
  have h:Q (.ref (Wm.len Z.o)) ⟨Z.m,Z.o++[.vl vs]⟩:=by unfold iF at h;rw[q]at h;exact h
  refine b_ (a.live (o:=iH ws m) (x:=.vl vs) rfl rfl ⟨ws,m,lY _ rfl,y,hl⟩) λr' hx=>?_;have v:=hx.1;have a':=hx.2.1;have t':=hx.2.2;exact⟨_,_,r',F,h,v,a',t'⟩
theorem aN4(h:qU f Y n es Z λvs aI=>dh (nJ (len vs) 1000) (iF lv vs aI.o λv o=>Q v ⟨aI.m,o⟩) bV):WE f Y n (.List es pos) Z Q:=λA s F G E r o i a=>by
 refine at1 ((h _).run o i a λvs ws aI bY cz aF h₁ cX b7 b8=>?_);have hx:=l9 h₁;have hl:=hx.1;have hq:=hx.2;have hl:=S5 hl;refine⟨by rw[<-cX.length];exact bN hl (by unfold gX;decide),.of b8 ?_⟩
 exact aN3 (ws:=ws.toArray) (m:=0) hq b7 cX (bN hl (by decide))
theorem aN5(h:WE f Y n e Z λv aI=>HJ v aI.o λv o=>Q v ⟨aI.m,o⟩):WE f Y n e Z Q:=λA s F G E r o i a=>by refine WX.run h o i a λv wa aI bY cz aF h₁ cX b7 b8=>?_;refine b_ (b7.HX cX h₁) λx hx=>?_;refine b_ hx λo' hx=>?_;refine b_ hx λF' hx=>?_;have q:=hx.1;have y:=hx.2.1;have a':=hx.2.2.1;have t':=hx.2.2.2;exact⟨_,_,bY,F',q,.d y,a',b8.trans t'⟩
end
end Wm
section
namespace Wm
variable{f:Cf}{Y:J (ai×cJ)}{n:H}{Z:St}{e:aT}{G:cL}{r:bQ}{s:aE}{F:bP}
section
variable{prog:iU}{w:bU}{A:cQ}{E:aA->aE->Prop}
theorem AD{fU n8:aT}{o i:aA}{T id:jZ}{Q:aA->aE->Prop}(hT:s.TypeIs o T)
  (hl:ue (.type T) "__getitem__"=pure (N (.builtin id)))(h:av (aP prog w) A (F_ o i) Q E s)
  (hs:Qa n8 ak o i=J5 [o,i] (F_ o i)\/Qa n8 ak o i=J5 [i,o] (F_ o i)):av (aP prog w) A (zJ fU n8 o i) Q E s:=by
 unfold zJ;refine aJ ?_;rw[getitemInPython_of_ne hT.not_modules];refine aJ (aZ<|sF hT hl ?_);have cH:av (aP prog w) A (Qa n8 ak o i) (λr dU=>av (aP prog w) A (cs4 fU o r>>=λX=>pure r) Q E dU) E s:=by
  rcases hs with hs|hs<;>rw[hs]<;>
  exact DF (gG h (λr dU ku=>aJ (aZ<|cs5 (bg ku))) λX I x=>x)
 first
  |exact bg (aJ cH)
  |exact aJ (bg (aJ cH))
  |exact aJ cH
theorem Cd(n8:aT)(o i:aA):Qa n8 ak o i=J5 [o,i] (F_ o i)\/Qa n8 ak o i=J5 [i,o] (F_ o i):=by
 induction n8 using cs6 with
 |Slice X I Z u2=>induction Z with
  |none=>exact .inr rfl
  |some X=>exact .inl rfl
 |_=>exact .inl rfl
end
end Wm
namespace Wl
variable{s:aE}
section
variable{prog:iU}{w:bU}{A:cQ}{E:aA->aE->Prop}
theorem aN6(b n:H)(hb:b<=n):am0 ao (N (b:aa)) 1 (n:aa)=(0,(b:aa)):=by
 unfold am0;have h1:¬((1:aa)<0):=by decide
 have h2:¬((b:aa)<0):=nN.mpr (Dn b);simp only[h1,h2,PT];congr 1;exact cs7 (iz.mpr hb)
theorem aN7(b:H):XD 0 (b:aa) 1=b:=by
 unfold XD;have h1:(1:aa)>0:=by decide
 simp only[h1,if_true,cs8];induction b using ji with
 |zero=>rfl
 |succ k=>rw[dM (show(0:aa)<((k.succ:H):aa)from dF.mpr (jd k)),cs9,ct0,sG]
theorem aN8{sl:aR}{b n:H}{u:Tok}{Q:aa×aa×H->aE->Prop}(hs:s.heap.IsSliceOf sl .none (.int b u) .none)(hb:b<=n)(h:Q (0,1,b) s):
  wpAny (aP prog w) A (ct1 (.ref sl) (pure (n:aa))) Q E s:=by
 refine b_ (id hs) λos hx=>?_;have H6:=hx.1;have eQ:=hx.2.1;have M5:=hx.2.2;unfold ct1 cF4;refine wpAny_bind (wpAny_bind (Xk H6 M5 (x:=.none) rfl (wpAny_bind (Xk H6 M5 (x:=.int b u) rfl (wpAny_bind (Xk H6 M5 (x:=.none) rfl (wpAny_pure ?_)))))));refine wpAny_bind (ct2 ?_)
 show wpAny _ _ (if((1:aa)==0)=ah then _ else _) _ _ s
 rw[cF (by decide)]
 refine wpAny_bind (ct2 (wpAny_bind (slicePart_int (wpAny_bind (wpAny_pure ?_)))))
 show wpAny _ _ (match am0 ao (N (b:aa)) 1 (n:aa)with|(lo,hi)=>pure (lo,(1:aa),XD lo hi 1)) _ _ s
 rw[aN6 b n hb]
 show wpAny _ _ (pure ((0:aa),(1:aa),XD 0 (b:aa) 1)) _ _ s
 rw[aN7 b];exact wpAny_pure h
theorem aN9(xs:cT aA)(b:H)(hb:b<=xs.size):((kJ b).filterMap λ(k:H)=>xs[((0:aa)+(k:aa)*1).toNat]?).toArray=(xs.toList.take b).toArray:=by
 have e:(λ(k:H)=>xs[((0:aa)+(k:aa)*1).toNat]?)=λk=>xs[0+k]?:=by
  funext k;have:((0:aa)+(k:aa)*1).toNat=0+k:=by rw[am1,Ga,sG,mW]
  rw[this]
 rw[e];have:=pick_run xs 0 b;rw[List.filterMap_map]at this
 have e2:((λx=>xs[x]?)∘λx=>0+x)=λk=>xs[0+k]?:=rfl;rw[e2]at this
 rw[this,List.drop_zero]
theorem aO0{t sl:aR}{items:cT aA}{b:H}{u:Tok}{Q:aA->aE->Prop}(ht:IsTup s.heap t items)(hs:s.heap.IsSliceOf sl .none (.int b u) .none)(hb:b<=items.size)
  (h0:b=items.size->Q (.ref t) s)
  (h:Q (.ref s.heap.objs.size) {s with heap:=s.heap.push {cls:=.type "tuple",data:=.seq (items.toList.take b).toArray}})
  (hsz:items.size<=gX):wpAny (aP prog w) A (F_ (.ref t) (.ref sl)) Q E s:=by
 have M6:sizeOk (.seq (items.toList.take b).toArray):=by
  show(items.toList.take b).toArray.size<=gX
  rw[PJ,Xw,o5];exact bN (Nat.min_le_right _ _) hsz
 refine b_ (id hs) λos hx=>?_;have H6:=hx.1;have eQ:=hx.2.1;have M5:=hx.2.2;have hTs:s.TypeIs (.ref sl) "slice":=⟨os,H6,eQ⟩;unfold F_
 try with_reducible refine wpAny_holding ?_
 first|refine wpAny_bind (wpAny_pure ?_)|skip
 refine wpAny_bind (ct3 ht.typeIs (by decide) ?_)
 refine wpAny_bind (ct4 (name:=cn7 "__getitem__") ht.typeIs Qc
  (XE Qc ht.typeIs entry_tuple_getitem ?_ (args_tuple_getitem _ _)))
 show wpAny _ _ (ct5 (.ref t)>>=_) _ _ s
 refine wpAny_bind (am2 ht ?_);refine wpAny_bind (Gb hTs ?_);rw[dM (by decide)]
 refine wpAny_bind (aN8 hs hb ?_)
 show wpAny _ _ (if((0:aa)==0&&(1:aa)==1&&b==items.size)=ah then _ else _) _ _ s
 by_cases q:b=items.size
 ·have hy:((0:aa)==0&&(1:aa)==1&&b==items.size)=ah:=by simp[q]
  rw[dM hy];refine wpAny_bind (m:=ct6 (.ref t)) ?_;unfold ct6;refine wpAny_bind (Gb ht.typeIs (wpAny_pure ?_));rw[dM (show((Bh "tuple" ==Bh "tuple")=ah)from by decide)]
  exact wpAny_bind (wpAny_rule (wpAny_pure ⟨_,rfl,wpAny_pure (h0 q)⟩))
 ·have H7:¬(((0:aa)==0&&(1:aa)==1&&b==items.size)=ah):=by simp[q]
  rw[cF H7,aN9 items b hb]
  first
   |exact wpAny_bind (m:=XF _) (Bc (wpAny_pure ⟨_,rfl,wpAny_pure h⟩) M6)
   |exact wpAny_bind (m:=XF _) (Bc (wpAny_bind (wpAny_pure (wpAny_pure ⟨_,rfl,wpAny_pure h⟩))) M6)
   |exact wpAny_bind (wpAny_bind (m:=XF _) (Bc (wpAny_pure (wpAny_pure ⟨_,rfl,wpAny_pure h⟩)) M6))
   |exact wpAny_bind (wpAny_bind (m:=XF _) (Bc (wpAny_pure ⟨_,rfl,wpAny_pure h⟩) M6))
end
end Wl
namespace Wm
end Wm
end
namespace Wm
section
variable{f:Cf}{Y:J (ai×cJ)}{n:H}{Z:St}{e:aT}{G:cL}{r:bQ}{s:aE}{F:bP}
theorem eR{α:Type}:∀(l:J α)(n:H),uI l n=l[n]?
 |[],n=>rfl
 |X::I,0=>rfl
 |X::r,n+1=>eR r n
theorem fb{i:aa}{n j:H}(e:(if i<0 then i+n else i)=(j:aa))(h:j<n):Dp i n=N j:=by
 show(if(decide (0<=(if i<0 then i+n else i))&&decide ((if i<0 then i+n else i)<(n:aa)))=ah then N (if i<0 then i+n else i).toNat else ao)=N j
 rw[e,nL (Dn j),nL (dF.mpr h)];rfl
theorem M7{n:H}(h:k<n):Dp (k:aa) n=N k:=fb (cF (nN.mpr (Dn k))) h
theorem ft(m:H):(-1:aa)+((m+1:H):aa)=m:=by rw[Int.natCast_succ,Kv,Int.add_neg_cancel_right]
theorem M8{n:H}(h:0<n):Dp (-1) n=N (n -1):=by
 induction n using ji with
 |zero=>exact absurd h (vg 0)
 |succ m=>exact fb ((dM (by decide)).trans (ft m)) (m7 m)
inductive H8(s:aE)(F:bP)(ds:J D):aA->Prop
 |list (l ws m):s.heap.get? l=N (iH ws m)->eU F ds ws.toList->ds.length<=1048576->H8 s F ds (.ref l)
 |tup (l ws m):s.heap.get? l=N (lJ ws m)->eU F ds ws.toList->ds.length<=1048576->H8 s F ds (.ref l)
 |bytes (b:cT iX) (t):ds=fJ (b.toList.map iY)->b.size<=1048576->H8 s F ds (.bytes b t)
theorem M9{P:Prop}(h:vK v Z.o k)(a:At f Y G Z r s F)(y:VR f.w r F v u)
  (g:∀ds l ws m,k ds->(s.heap.get? l=N (iH ws m)\/s.heap.get? l=N (lJ ws m))->eU F ds ws.toList->ds.length<=1048576->u=.ref l->P):P:=
 vO h (λX h=>jD y h λx y h=>by revert g;exact B8 y h λds l ws m h e q z g=>g ds l ws m h (.inr (a.mt.sub _ _ e)) q z rfl) λX h=>by revert g;exact AA y a h λds l ws m h e q z g=>g ds l ws m h (.inl e) q z rfl
theorem fv{P:Prop}(h:HL v Z.o k)(a:At f Y G Z r s F)(y:VR f.w r F v u)(g:∀ds,k ds->H8 s F ds u->P):P:=
 vO h (λX h=>jD y h λx y h=>by revert g;exact Z8 y h λb t h e g=>g _ h (.bytes b t rfl e)) λX h=>M9 h a y λds l ws m h e q z eu=>g ds h (eu▸e.elim (λe=>.list l ws m e q z) λe=>.tup l ws m e q z)
section
variable{A:cQ}{E Q:aA->aE->Prop}{fU n8:aT}
theorem Yw{ds:J D}{u:aA}{j t:H}{x:D}(h:H8 s F ds u)(hx:ds[j]?=N x)(g:∀w t',DR F x w->Q w {s with toks:=t'}):av (aP f.prog f.w) A (zJ fU n8 u (.int j t)) Q E s:=by
 have hj:j<ds.length:=(vq.mp hx).1;have j0:(0:aa)<=j:=Dn j;cases h with
 |list l ws m e z zl=>
  refine b_ (z.get hx) λw hx=>?_;have hw:=hx.1;have yw:=hx.2;rw[rB]at hw
  exact AD (T:= "list") ⟨_,e,rfl⟩ ct7.lookup (aZ<|wpAny_getItem_list ⟨_,e,rfl,_,rfl⟩ j0 (by lia) hw (g w s.toks yw)) (Cd _ _ _)
 |tup l ws m e z zl=>
  refine b_ (z.get hx) λw hx=>?_;have hw:=hx.1;have yw:=hx.2;rw[rB]at hw
  exact AD (T:= "tuple") ⟨_,e,rfl⟩ Qc.lookup (aZ<|ct8 ⟨_,e,rfl,_,rfl⟩ (by lia) (by lia) (M7 (by rw[z.size];exact hj)) hw (g w s.toks yw)) (Cd _ _ _)
 |bytes b t' e hb=>
  have S7:j<b.toList.length:=by rw[e]at hj;simpa[fJ]using hj
  have hx':x=D.int ((b.toList[j]).toNat:aa):=by
   rw[e]at hx
   unfold fJ at hx
   rw[mD,mD,mZ S7]at hx
   exact(fW hx).symm
  refine AD (Dq _ _ _) am3.lookup (aZ ?_) (Cd _ _ _);have q:=getItem_bytes (prog:=f.prog) (w:=f.w) (A:=A) (E:=E) (s:=s) (t:=t') (u:=t) (l:=b.toList) (i:=j) (Q:=Q) (by rw[o5];lia) j0 (dF.mpr S7)
  rw[Array.toArray_toList]at q
  refine q ?_;rw[sG,List.getD_eq_getElem?_getD,mZ S7];exact g _ _ (hx'▸ .int)
theorem av1{ws:cT aA}(h:s.heap.get? l=N (iH ws m)\/s.heap.get? l=N (lJ ws m))(z:eU F (ds++[x]) ws.toList)(g:∀w,DR F x w->Q w s):av (aP f.prog f.w) A (zJ fU n8 (.ref l) (.int (-1) t)) Q E s:=by
 have sz:ws.size=ds.length+1:=z.size.trans (by simp)
 refine b_ (z.get (i:=ds.length) (v:=x) (by simp)) λw hx=>?_
 have hw:=hx.1;have yw:=hx.2;rw[rB]at hw
 have e1:(-1:aa)+ws.size=ds.length:=by rw[sz];exact ft _
 rcases h with e|e
 ·exact AD (T:= "list") ⟨_,e,rfl⟩ ct7.lookup (aZ<|wpAny_getItem_list_neg ⟨_,e,rfl,_,rfl⟩ (by decide) (Qd (by rw[sz];exact iz.mpr (jd _))) (by decide) (by rw[e1];exact hw) (g w yw)) (Cd _ _ _)
 ·exact AD (T:= "tuple") ⟨_,e,rfl⟩ Qc.lookup (aZ<|ct8 ⟨_,e,rfl,_,rfl⟩ (by decide) (by decide) (M8 (sz▸jd _)) (by rw[sz];exact hw) (g w yw)) (Cd _ _ _)
theorem S8{a:V}{i:aa}{t:H}{u:aA}{k:V->Prop}(h:ZN a i Z.o k)(at_:At f Y G Z r s F)(y:VR f.w r F a u)(g:∀x w t',k x->VR f.w r F x w->Q w {s with toks:=t'}):av (aP f.prog f.w) A (zJ fU n8 u (.int i t)) Q E s:=by
 induction i with
 |ofNat n=>exact fv h at_ y λds h q=>nY h λx e h=>Yw q (eR ds n▸e) λw t' yw=>g _ w t' h (.d yw)
 |negSucc n=>obtain⟨e,h⟩:=l9 h;rw[mV e];exact M9 h at_ y λds l ws m h e q z eu=>by obtain⟨l',x,rfl,h⟩:=h;rw[eu];exact av1 e q λw yw=>g _ w s.toks h (.d yw)
theorem fw{κ:Type}[Ks κ]{knd:XG f.prog f.w κ}{vs:J (κ×D)}{es:J jN}{a:aR}{m:H}{k:κ}{kv:aA}{x:D}(e:s.heap.get? a=N (mY es m))(z:L2 (KE knd.is knd.hash F) vs es)(i:knd.is k kv=ah)(h:∃u,wC knd.is es.toArray k=N u/\DR F x u)(g:∀w t',DR F x w->Q w {s with toks:=t'}):av (aP f.prog f.w) A (zJ fU n8 (.ref a) kv) Q E s:=
 h.elim λw h=>AD (M4 e z).typeIs slot_dict_getitem.lookup (aZ<|wpAny_getItem_of i (M4 e z) h.1 (g w _ h.2)) (Cd _ _ _)
theorem aO1(h:RZ a b Z.o k)(at_:At f Y G Z r s F)(y1:VR f.w r F a u)(y2:VR f.w r F b v)(g:∀x w t',k x->VR f.w r F x w->Q w {s with toks:=t'}):av (aP f.prog f.w) A (zJ fU n8 u v) Q E s:=by
 induction a with
 |nO es=>refine jX y2 h λi t h=>y1.e λa es n e z ne=>?_;refine b_ h λx hx=>?_;have h1:=hx.1;have h2:=hx.2;exact fw (knd:=F8 f.prog f.w) (at_.mt.sub _ _ e) z (QO _ _) ((eC z).2 x h1) λw t' y=>g _ w t' h2 (.d y)
 |uq es=>refine jD y2 h λX y2 h=>Ew y2 h λi t h=>y1.e λa es n e z ne=>?_;refine b_ h λx hx=>?_;have h1:=hx.1;have h2:=hx.2;exact fw (knd:=F9 f.prog f.w) (at_.mt.sub _ _ e) z (S3 _ _) ((Yv z).2 x h1) λw t' y=>g _ w t' h2 (.d y)
 |pr X I=>exact jX y2 h λi t h=>S8 h at_ y1 g
 |d X=>exact jX y2 h λi t h=>S8 h at_ y1 g
 |ref X=>exact jX y2 h λi t h=>S8 h at_ y1 g
theorem aO2{a b:V}{u v:aA}{k:V->Prop}(h:R0 a b Z.o k)(at_:At f Y G Z r s F)(y1:VR f.w r F a u)(y2:VR f.w r F b v)(g:∀x w t',k x->VR f.w r F x w->Q w {s with toks:=t'}):av (aP f.prog f.w) A (zJ fU n8 u v) Q E s:=by refine jX y2 h λi t h=>fv h at_ y1 λds h q=>?_;obtain⟨h0,h1,S⟩:=h;obtain⟨j,rfl⟩:=Dr h0;have hx:ds[j]?=N ds[j]:=mZ (dF.mp h1);exact Yw q hx λw t' yw=>g _ w t' (S _ hx) (.d yw)
end
theorem aO3{Q:V->St->Prop}(h:WE f Y n a Z λa aI=>WE f Y n i aI λi b3=>RZ a i b3.o λv=>Q v b3):WE f Y n (.Subscript a i pos) Z Q:=λA s F G E r o i' a'=>QJ (h.run o i' a' λv wa aI bY cz aF h₁ cX b7 b8=>h₁.run o i' b7 λb wb b3 iC iI cj dw gU e_ c9=>aO1 dw e_ (cX.mono c9.fM c9.grow) gU λx w t' g1 g2=>.of b8 (.of c9 (.here e_ g2 g1)))
theorem aO4{Q:V->St->Prop}(h:WE f Y n a Z λa aI=>WE f Y n i aI λi b3=>R0 a i b3.o λv=>Q v b3):WE f Y n (.Subscript a i pos) Z Q:=λA s F G E r o i' a'=>QJ (h.run o i' a' λv wa aI bY cz aF h₁ cX b7 b8=>h₁.run o i' b7 λb wb b3 iC iI cj dw gU e_ c9=>aO2 dw e_ (cX.mono c9.fM c9.grow) gU λx w t' g1 g2=>.of b8 (.of c9 (.here e_ g2 g1)))
inductive Ce:bq aa->aA->Prop
 |none:Ce none .none
 |int {i t}:Ce (N i) (.int i t)
theorem Ce.is(h:Ce x v):IsPart v x:=by cases h;exact .none;exact .int ..
abbrev WO(f:Cf)(Y:J (ai×cJ))(n:H)(e:bq aT):=WX f Y (λX I=>Ce) n (λG=>J' e G)
theorem aO5{Q:bq aa->St->Prop}(h:Q ao Z):WO f Y n ao Z Q:=λA s F G E r o i a=>Yr (.oG a .none h)
theorem aO6{Q:bq aa->St->Prop}(h:WE f Y n e Z λv aI=>jl v λi=>Q (N i) aI):WO f Y n (N e) Z Q:=λA s F G E r o i a=>at4 (h.run o i a λv wa aI bY cz aF h₁ cX b7 b8=>jX cX h₁ λi t h₁=>.of b8 (.oG b7 .int h₁))
theorem fA{n:H}(h:k<=n):clipAt n (k:aa)=k:=by unfold clipAt;rw[cF (nN.mpr (Dn k)),cs7 (iz.mpr h),Int.max_eq_right (Dn k),sG]
noncomputable abbrev M_(vl vu:aA):fH:={cls:=.type "slice",data:=.fields #[vl,vu,.none]}
theorem aO7{a:V}{u:aA}{lo hi:bq aa}{vl vu:aA}{Q:V->St->Prop}{A:cQ}{E:aA->aE->Prop}{fU lower upper:aT}{el eu:bq aT}{p:gq}(h:R1 a lo hi λv=>Q v Z)(at_:At f Y G Z r s F)(y1:VR f.w r F a u)(hl:Ce lo vl)(hu:Ce hi vu):
  av (aP f.prog f.w) A (zJ fU (.Slice el eu ao p) u (.ref s.heap.objs.size)) (rS f Y G Z Q r s F) E {s with heap:=s.heap.push (M_ vl vu)}:=by
 obtain⟨cz,aO8,b7,b8⟩:=at_.frozen (o:=M_ vl vu) rfl;have sl:(s.heap.push (M_ vl vu)).IsSliceOf s.heap.objs.size vl vu .none:=cF5 ..;have Cg:=Cd (.Slice el eu ao p) u (.ref s.heap.objs.size);refine jD y1 h λx y h=>?_;induction x using Wm.D.casesOn with
 |tup ds=>
  revert Cg
  refine y.e λl ws m e z zl Cg=>?_;have sz:=z.size;have sw:ws.size<=gX:=by rw[sz];exact bN zl (by unfold gX;decide)
  have ht:IsTup (s.heap.push (M_ vl vu)) l ws:=⟨_,ko _ (at_.mt.sub _ _ e),rfl,_,rfl⟩;refine AD (s:={s with heap:=s.heap.push _}) ht.typeIs Qc.lookup (aZ ?_) Cg
  have h:ZO ds lo hi λv=>Q v Z:=h;clear Cg aO8;cases hl with
  |none=>cases hu with
   |none=>exact h.elim
   |@int i t=>
    obtain⟨⟨h1,h2⟩,h3⟩:=h;obtain⟨k,rfl⟩:=Dr h1;have h2:k<=ds.length:=iz.mp h2;refine Wl.aO0 (s:={s with heap:=s.heap.push _}) ht sl (by rw[sz];exact h2) (λq=>.of b8 ?_) (.of b8 ?_) sw
    ·have e3:ds.take (k:aa).toNat=ds:=ct9 (by rw[sG,q,sz];exact jO _)
     rw[e3]at h3
     exact .oG b7 (.d (.tup (b8.grow _ _ e) (z.mono b8.grow) zl)) h3
    ·refine SY (m:=0) b7 ?_ (bN (List.length_take_le' _ _) zl) h3;exact(z.take k).mono b8.grow
  |@int i t=>cases hu with
   |int=>exact h.elim
   |none=>
    obtain⟨⟨h1,h2⟩,h3⟩:=h;obtain⟨k,rfl⟩:=Dr (jj (by decide) h1)
    have h2:k<=ds.length:=iz.mp h2;refine getItem_tuple_from (s:={s with heap:=s.heap.push _}) ht sl (iz.mp h1) (by rw[sz];exact h2) (.of b8 ?_) sw
    refine SY (m:=0) b7 ?_ (by rw[cu0];exact bN (Nat.sub_le _ _) zl) h3
    exact(z.drop k).mono b8.grow
 |bytes l=>
  refine nY h λi ei h=>nY h λj ej h=>?_;obtain⟨⟨h1,h2,EA⟩,h3⟩:=h;have il:=hl.is;have iu:=hu.is;rw[ei]at il
  rw[ej]at iu
  revert Cg
  refine y.e λb t eb hb Cg=>?_;rw[eb]at EA h3
  rw[cO,o5]at EA
  obtain⟨i,rfl⟩:=Dr h1;obtain⟨j,rfl⟩:=Dr (jj h1 h2);have EA:=iz.mp EA;have hpk:cu1 b (N i) (N j)=((b.toList.take (j:aa).toNat).drop (i:aa).toNat).toArray:=by rw[KBc.picked_eq];simp only[Option.elim,fA EA,fA (bN (iz.mp h2) EA)];rw[List.drop_take,sG,sG]
  have hs:(cu1 b (N i) (N j)).size<=1048576:=bN (KBc.size_picked_le _ _ _) hb;refine AD (s:={s with heap:=s.heap.push _}) (Dq _ _ _) am3.lookup (aZ<|getItem_meets (Dq _ _ _) (by decide) am3 FB.entry_bytes_getitem (FB.args_bytes_getitem_2 _ _) (KBc.meets_slice2 b t _ il iu)
   ⟨sl,bN (m:=1048576) hs (by unfold gX;decide),λt' k=>.of b8 ?_⟩) Cg
  rw[<-List.map_take,<-List.map_drop,<-ak5 (as:=(b.toList.take (j:aa).toNat).drop (i:aa).toNat),<-hpk]at h3
  exact .here b7 (.d (.bytes hs)) h3
 |_=>exact h.elim
theorem aO9{Q:V->St->Prop}(h:WE f Y n a Z λa aI=>WO f Y n el aI λlo b3=>WO f Y n eu b3 λhi iJ=>R1 a lo hi λv=>Q v iJ):WE f Y n (.Subscript a (.Slice el eu ao p) pos) Z Q:=λA s F G E r o i a'=>
 QJ (h.run o i a' λv wa aI bY cz aF h₁ cX b7 b8=>at3 (h₁.run o i b7 λlo vl b3 iC iI cj dw gU e_ c9=>dw.run o i e_ λhi vu iJ i9 ja dU ku qV jo gx=>Yr
  (gG (aO7 (lower:=a) (upper:=a) ku jo ((cX.mono c9.fM c9.grow).mono gx.fM gx.grow) gU qV) (λX I p=>.of b8 (.of c9 (.of gx p))) λX I z=>z)))
end
end Wm
section
namespace Wm
variable{f:Cf}{Y:J (ai×cJ)}{n:H}{Z:St}{e:aT}{G:cL}{r:bQ}{s:aE}{F:bP}
def nm1:J aT->aD
 |[f]=>kd [23] f
 |X=>ak
def EB(e:aT):aD:=!(kd [16] e&&nm1 (eP e).l)
theorem f4{G:cL}(h:EB o=ah):cu2 o attr G oS=oS:=by
 induction o using cs6 with
 |Call f a k p=>
  induction a using eT with
  |nil=>cases f<;>first|rfl|exact gr h
  |cons _ _=>cases f<;>rfl
 |_=>rfl
theorem EC:(am4 x t).isStr y=ah↔x=y:=by simp[Value.isStr]
theorem mL.get(h:mL w r F fs es):(∀v,cG x fs=N v->∃u,Gd x es=N (N u)/\VR w r F v u)/\(cG x fs=ao->Gd x es=N ao):=by
 have f8:es.any (·.refKey)=ak:=h.rec (motive:=λX es I=>es.any (·.refKey)=ak) rfl λa X ih=>a.rec λX=>ih;have find:(∀v,cG x fs=N v->∃en,es.find? (λe=>e.key.isStr x)=N en/\VR w r F v en.val)/\(cG x fs=ao->es.find? (λe=>e.key.isStr x)=ao):=by
  clear f8;induction h with
  |nil=>exact⟨λv h=>(nomatch h),λX=>rfl⟩
  |cons a z ih=>
   refine a.rec λ{y v t X I} a=>?_;rw[tF,cs2];by_cases q:x=y
   ·rw[show(am4 y t).isStr x=ah from EC.mpr q.symm,dM q]
    exact⟨λv' e=>⟨_,rfl,fW e▸a⟩,λe=>nomatch e⟩
   ·rw[show(am4 y t).isStr x=ak from zM.mpr λh=>q (EC.mp h).symm,cF q]
    exact ih
 refine⟨λv e=>?_,λe=>?_⟩
 ·refine b_ (find.1 v e) λen hx=>?_;have g1:=hx.1;have g2:=hx.2;exact⟨_,by unfold Gd;rw[g1],g2⟩
 ·unfold Gd;rw[find.2 e,f8];rfl
theorem L2.toF{fs:J (ai×D)}(h:So F fs es):mL w r F (fs.map λp=>(p.1,.d p.2)) es:=L2.fL h λX I u2 z=>z.mono λX=>.d
theorem av2(y:VR w r F v u):handedIn u=ah:=
 y.rec (λy=>y.out.rec rfl rfl rfl rfl (λX=>rfl) rfl (λX I u2=>rfl) (λX I u2=>rfl) λX I u2 u3=>rfl) (λX=>rfl) (λX I u2=>rfl) (λX I u2=>rfl) λX I u2=>rfl
theorem aP0{α:Type}{c:aR}{x:ai}{v:α}{fs:J (ai×α)}(h:∀x∈fs.map (·.1),vJ c x=ah)(e:cG x fs=N v):vJ c x=ah:=by exact h x (qA.mpr ⟨_,B_ e,rfl⟩)
theorem uM(mt:l_ f r s F L):f.K.In s.heap:=f.ff.keeps mt.stays
theorem S9{WW:aD}{A:cQ}{E:aA->aE->Prop}(ff:f.K.In s.heap)(h:xh f.w r F s.heap p c fs)(e:cG x fs=N v)
  (q:∀u,VR f.w r F v u->Q u {s with toks:=s.toks+1}):av (aP f.prog f.w) A (getAttr (.ref p.1) x WW) Q E s:=by
 refine kK λGx gI=>?_;refine b_ h λes hx=>?_;refine b_ hx λm hx=>?_;refine b_ hx λsl hx=>?_;have h1:=hx.1;have h2:=hx.2.1;have y:=hx.2.2.1;have ha:=hx.2.2.2.2;refine b_ ((mL.get y).1 v e) λu hx=>?_;have g1:=hx.1;have g2:=hx.2;have af:=f.aG c x (aP0 ha e);refine b_ (af.fi) λb hx=>?_;have b1:=hx.1;have b2:=hx.2;refine gI ?_;have bG:XH s.heap p.1 ⟨.ref c,N p.2,.plain,sl⟩ c (N (mY es m)):=⟨h1,rfl,rfl,h2⟩;exact aZ<|get_value ff bG (plainGet_of af.pg).1 (findObj_own af.hd b1 b2 g1) (av2 g2) (q u g2)
theorem aP1{WW:aD}{A:cQ}{E:aA->aE->Prop}(h:R2 a x Z.o k)(at_:At f Y G Z r s F)(y:VR f.w r F a u)
  (g:∀v w,k v->VR f.w r F v w->Q w {s with toks:=s.toks+1}):av (aP f.prog f.w) A (getAttr u x WW) Q E s:=by
 induction a with
 |d z=>
  refine y.e λu y=>?_;induction z using Wm.D.casesOn with
  |obj c fs=>refine nY (k:=λv=>k (.d v)) h λv q h=>y.e λl d es m sl e1 e2 z nd=>?_;exact S9 (p:=(l,d)) (v:=.d v) (uM at_.mt) ⟨es,m,sl,at_.mt.sub _ _ e1,at_.mt.sub _ _ e2,L2.toF z,by rw[n_];exact nd.1,by rw[n_];exact nd.2⟩ (by rw[Z1,q];rfl) λw=>g _ w h
  |_=>exact h.elim
 |ref i=>
  refine y.e λp e1=>pn h λz q h=>?_;have ob:=at_.obj e1 q;induction z with
  |inst c fs=>exact nY (k:=k) h λv q h=>S9 (uM at_.mt) ob q λw=>g _ w h
  |cur ts=>refine kK λGx gI=>?_;have hx:=l9 h;have q2:=hx.1;have h:=hx.2;refine b_ ob λl hx=>?_;refine b_ hx λi hx=>?_;refine b_ hx λe hx=>?_;have z:=hx.1;refine gI ?_;exact S9 (v:=.d (.int i)) (uM at_.mt) z (by rw[rQ q2];rfl) λw=>g _ w (h i)
  |_=>exact h.elim
 |_=>exact h.elim
theorem aP2{pos:gq}{G:cL}(h:EB fU=ah):cM (.Attribute fU attr pos) G=(do
  let o<-cM fU G
  sy pos.atName
  let r<-A9 [o] (getAttr o attr ah)
  cs4 fU o r
  pure r):=by
 show(cu2 fU attr G (cM fU G)>>=_)=_
 rw[f4 h]
theorem aP3(h:WE f Y n a Z λa aI=>R2 a x aI.o λv=>Q v aI)(hs:EB a=ah):WE f Y n (.Attribute a x pos) Z Q:=λA s F G E r o i a'=>by
 show av _ A (cM (.Attribute a x pos) G) _ E s
 rw[aP2 hs];exact aJ (h.run o i a' λv wa aI bY cz aF h₁ cX b7 b8=>aJ (qF (aJ (iP (aP1 h₁ b7 cX λv' w g1 g2=>aJ (aZ<|cs5 (bg (.of b8 (.here b7 g2 g1)))))))))
end Wm
namespace Wl
variable{s:aE}
theorem aP4{prog:iU}{w:bU}{A:cQ}{K:qB}{ox:fH}{tk:H}(ff:K.In s.heap)
  (bG:XH s.heap x ox C (N (mY es m)))(hd:ox.dict=N dx)(hp:ak8 K C=ah)(ht:takerIn K C name=N ao)(hh:(clsIn K C).any (·.hasDict)=ah)(hl:(Gd name es).isSome=ah)(hz:(Ds name (C_ w.params name) (.str name s.toks) v es).length<=1000)
  (h:∀h',h'.get? dx=N (mY (Ds name (C_ w.params name) (.str name s.toks) v es) (putN name es m))->Dg dx s.heap h'->R (.ok (.ret .none)) {s with heap:=h',toks:=s.toks+1}):
  codeAny (aP prog w) A (.call (.builtin "object.__setattr__") ⟨[.ref x,.str name tk,v],[]⟩) R s:=by
 refine osa_open ff bG hp ht λb=>?_;refine b_ (any_some hh) λcd hx=>?_;have hc:=hx.1;have RK:=hx.2;obtain⟨hx,Am,hn,D⟩:=bG;obtain⟨oc,odi,oda,osl⟩:=ox;dsimp only at Am hd
 subst Am hd;have D:s.heap.get? dx=N (mY es m):=D;have D':(s.heap.update dx (cu3 name (C_ w.params name) (.str name s.toks) v)).get? dx=N (mY (Ds name (C_ w.params name) (.str name s.toks) v es) (putN name es m)):=by
  have:=Bj (cu3 name (C_ w.params name) (.str name s.toks) v) D (by rw[putName_dict];rfl)
  rw[putName_dict]at this
  exact this
 refine wpAny_bind (wpAny_pure (wpAny_bind (wpAny_bind (cu4 hx (wpAny_bind ((looks_clsIn ff hc).here ?_))))));rw[RK];refine wpAny_pure (a:=N dx) (wpAny_bind (wpAny_pure (wpAny_bind ?_)));unfold nsSet;refine wpAny_bind (wpAny_bind (aj7 (wpAny_pure (wpAny_bind (wpAny_mkText (wpAny_bind (cu4 D ?_)))))));unfold Gd at hl
 have c:(!es.toArray.any (·.key.isStr name)&&es.toArray.any (·.refKey))=ak:=by
  rw[<-XC,<-XC]
  show(!es.any _&&es.any _)=ak
  revert hl
  cases he:es.find? (λe=>e.key.isStr name)with
  |some en=>intro hl;rw[wD.mpr ⟨en,List.mem_of_find?_eq_some he,List.find?_some (p:=λe:jN=>e.key.isStr name) he⟩];rfl
  |none=>
   cases z:es.any (·.refKey)with
   |true=>exact λhl=>nomatch hl
   |false=>intro hl;rw[Bool.and_false]
 dsimp only;rw[aRefKeyMayBeTheName_at,c];refine wpAny_updatePart D ?_;refine wpAny_bind (cu5 D' (pastItsLine_dict (by rw[PJ,sizeLine_eq];omega)) ?_)
 exact wpAny_pure (h _ D' (Ge ..))
end Wl
end
section
namespace Wl
open Wm (M8 M7)
theorem Yx(items:cT aA)(k:H):(items.eraseIdxIfInBounds k).size<=items.size:=by
 unfold cu6
 split<;>simp
theorem aP5(l:aR)(items:cT aA)(n:H)(x:aA)(k:H)(S:k+1=items.size)(hx:items[k]?=N x)(xo:items.size<=gX):
  P8 (gW.«list.pop» ⟨[.ref l],[]⟩) (λX R s=>s.heap.get? l=N {cls:=.type "list",dict:=none,data:=.seq items n,slots:=#[]}/\R (.ok (.ret x)) {s with heap:=s.heap.update l (sH (·.eraseIdxIfInBounds k)),toks:=s.toks}):=
 .of_wp λprog w A R s h=>by
  obtain⟨hp,g,d,tk,os⟩:=s;obtain⟨hl,h⟩:=h;have Ci:(items.eraseIdxIfInBounds k).size<=gX+1:=xU (bN (Yx _ _) xo);have f1:=am5
  wp_walk using(Qe hl rfl (hz:=xo) (_hz':=Ci)),H9 hl
  refine wpAny_ite ?_;rw[cF λe=>absurd (cu7.mp e) (S▸Nat.succ_ne_zero _)];have e:(Dp (-1) items.size).bind (λk=>Di (λx=>(k,x)) items[k]?)=N (k,x):=by rw[M8 (S▸jd k),show items.size -1=k from S▸rfl,am6,hx];rfl
  rw[e];dsimp only
  wp_walk using(Qe hl rfl (hz:=xo) (_hz':=Ci)),H9 hl
  exact⟨_,rfl,h⟩
theorem aP6(l:aR)(items:cT aA)(n:H)(x:aA)(u:H)(S:0<items.size)(hx:items[0]?=N x)(xo:items.size<=gX):
  P8 (gW.«list.pop» ⟨[.ref l,.int 0 u],[]⟩) (λX R s=>s.heap.get? l=N {cls:=.type "list",dict:=none,data:=.seq items n,slots:=#[]}/\R (.ok (.ret x)) {s with heap:=s.heap.update l (sH (·.eraseIdxIfInBounds 0)),toks:=s.toks}):=
 .of_wp λprog w A R s h=>by
  obtain⟨hp,g,d,tk,os⟩:=s;obtain⟨hl,h⟩:=h;have Ci:(items.eraseIdxIfInBounds 0).size<=gX+1:=xU (bN (Yx _ _) xo);have f1:=am5
  wp_walk using(Qe hl rfl (hz:=xo) (_hz':=Ci)),H9 hl
  refine wpAny_ite ?_;rw[cF λe=>absurd (cu7.mp e) (Kw S)];have e:(Dp 0 items.size).bind (λk=>Di (λx=>(k,x)) items[k]?)=N (0,x):=by
   have:=M7 S;rw[show((0:H):aa)=0 from rfl]at this
   rw[this,am6,hx];rfl
  rw[e];dsimp only
  wp_walk using(Qe hl rfl (hz:=xo) (_hz':=Ci)),H9 hl
  exact⟨_,rfl,h⟩
theorem aP7(l:aR)(items:cT aA)(n:H)(x:aA)(xo:items.size<gX):
  P8 (gW.«list.append» ⟨[.ref l,x],[]⟩) (λX R s=>s.heap.get? l=N {cls:=.type "list",dict:=none,data:=.seq items n,slots:=#[]}/\R (.ok (.ret .none)) {s with heap:=s.heap.update l (sH (·.push x)),toks:=s.toks}):=
 .of_wp λprog w A R s h=>by
  obtain⟨hp,g,d,tk,os⟩:=s;obtain⟨hl,h⟩:=h;have Ci:(items.push x).size<=gX+1:=by rw[cu8];exact lB (mX xo)
  wp_walk using(Qe hl rfl (hz:=mX xo) (_hz':=Ci)),H9 hl
  exact⟨_,rfl,h⟩
theorem aP8(l:aR)(items:cT aA)(n:H)(i:aa)(u:Tok)(x:aA)(k:H)(S:k<items.size)(hi:Dp i items.size=N k)(hf:(!Xz i)=ak):
  P8 (gW.«list.__setitem__» ⟨[.ref l,.int i u,x],[]⟩) (λX R s=>s.heap.get? l=N {cls:=.type "list",dict:=none,data:=.seq items n,slots:=#[]}/\R (.ok (.ret .none)) {s with heap:=s.heap.update l (sH (·.setIfInBounds k x)),toks:=s.toks}):=
 .of_wp λprog w A R s h=>by
  obtain⟨hp,g,d,tk,os⟩:=s;obtain⟨hl,h⟩:=h;have f1:=am5
  wp_walk using H9 hl
  have hx:items[k]?=N items[k]:=Kp S;cases i with
  |ofNat j=>
   obtain rfl:j=k:=by
    unfold Dp at hi
    have h1:¬(Int.ofNat j<0):=by simp
    simp only[h1,PT]at hi
    split at hi
    ·exact fW hi
    ·cases hi
   dsimp only;refine wpAny_bind (wpAny_seqItemAt hl rfl (wpAny_pure ?_));rw[hx];exact wpAny_bind (cu9 hl rfl (wpAny_pure ⟨_,rfl,h⟩))
  |negSucc j=>refine wpAny_bind ?_;refine wpAny_bind (wpAny_seqItems hl rfl (wpAny_pure (wpAny_pure ?_)));rw[hi,am6,hx];exact wpAny_bind (cu9 hl rfl (wpAny_pure ⟨_,rfl,h⟩))
end Wl
namespace Wm
open Wl
variable{f:Cf}{Y:J (ai×cJ)}{n:H}{Z:St}{e:aT}{G:cL}{r:bQ}{s:aE}{F:bP}
theorem At.ext{h':dH}{t:H}(a:At f Y G Z r s F)(h:∀b o,s.heap.get? b=N o->h'.get? b=N o):At f Y G Z r {s with heap:=h',toks:=t} F/\Go G Z Z r r s {s with heap:=h',toks:=t} F F:=
 ⟨⟨a.len,a.fk,⟨λb o e=>h b o (a.mt.sub b o e),a.mt.base,λp hp=>(a.mt.live p hp).step (.refl _) (.refl _) λb X o e=>h b o e,a.mt.jg,a.mt.nd⟩⟩,
  ⟨.refl _,⟨_,_,rfl⟩,.refl _,λX I e=>.inl e,λX h=>.inl h,λb o X e=>h b o e⟩⟩
theorem mL.put{hs:aa}(y:VR w r F v u)(h:mL w r F fs es):mL w r F (pU x v fs) (Ds x hs (.str x t) u es):=by
 induction h with
 |nil=>exact .cons (.mk y) .nil
 |cons a b ih=>
  refine a.rec λ{z v' t' h' u'} a=>?_;refine Et (P:=λl=>mL w r F l (Ds x hs (.str x t) u (⟨h',.str z t',u'⟩::_))) (λq=>?_) λq=>?_
  ·unfold Ds;rw[dM (EC.mpr q.symm)];exact .cons (.mk y) b
  ·unfold Ds;rw[cF (λh=>q (EC.mp h).symm)];exact .cons (.mk a) ih
theorem gd{α:Type}{x:ai}{v:α}{fs:J (ai×α)}:∀y∈(pU x v fs).map (·.1),y=x\/y∈fs.map (·.1):=by
 induction fs with
 |nil=>exact λy m=>.inl (fN.mp m)
 |cons p fs ih=>exact Et (v:=v) (P:=λl=>∀y∈l.map (·.1),y=x\/y∈((p.1,p.2)::fs).map (·.1)) (λX y m=>.inr m) λX y m=>(iV.mp m).elim (λe=>.inr (e▸ .head _)) λm=>(ih y m).imp id λm=>.tail _ m
theorem aP9{α:Type}{x:ai}{v:α}{fs:J (ai×α)}:(fs.map (·.1)).Nodup->((pU x v fs).map (·.1)).Nodup:=by
 induction fs with
 |nil=>exact λX=>o4.mpr ⟨vt,.nil⟩
 |cons p fs ih=>exact λh=>Et (v:=v) (P:=λl=>(l.map (·.1)).Nodup) (λX=>h) λq=>o4.mpr ⟨λm=>(gd _ m).elim (λe=>q e.symm) (o4.mp h).1,ih (o4.mp h).2⟩
theorem aQ0{α:Type}{x:ai}{v:α}{fs:J (ai×α)}:(pU x v fs).length<=fs.length+1:=by
 induction fs with
 |nil=>exact jO _
 |cons p fs ih=>exact Et (v:=v) (P:=λl=>l.length<=fs.length+1+1) (λX=>wF _) λX=>lB ih
theorem aQ1(h:Sh a x v Z.o k)(at_:At f Y G Z r s F)(y1:VR f.w r F a u)(y2:VR f.w r F v w)
  (hq:∀o' s',k o'->At f Y G ⟨Z.m,o'⟩ r s' F->Go G Z ⟨Z.m,o'⟩ r r s s' F F->Q () s'):av (aP f.prog f.w) A (setAttr u x w) Q E s:=by
 refine Ax y1 h λhd p e1 h=>pn h λz q h=>?_
 revert q
 refine Sv h λc fs h q=>?_;obtain⟨q2,h⟩:=l9 h;obtain⟨q3,h⟩:=l9 h;have q3:fs.length<=100:=by rw[nc]at q3;exact P0 q3
 obtain⟨es,m,sl,g1,g2,z,nd,ha⟩:=at_.obj e1 q;have bG:XH s.heap p.1 ⟨.ref c,N p.2,.plain,sl⟩ c (N (mY es m)):=⟨g1,rfl,rfl,g2⟩;have af:=f.aG c x q2;have ff:=uM at_.mt;refine aZ<|set_plain ff bG af.sa ?_;have hg:(Gd x es).isSome=ah:=by
  cases q4:cG x fs with
  |none=>rw[(mL.get z).2 q4];rfl
  |some v'=>obtain⟨u',e',_⟩:=(mL.get z).1 v' q4;rw[e'];rfl
 have zp:=mL.put (hs:=C_ f.w.params x) (t:=s.toks+1) (x:=x) y2 z;have lp:(Ds x (C_ f.w.params x) (.str x (s.toks+1)) w es).length<=1000:=by rw[<-zp.length];exact bN aQ0 (bN (lB q3) (by decide))
 refine aP4 (s:={s with toks:=s.toks+1}) ff bG rfl af.po af.ti af.hd hg lp λh' hd2 sb=>?_
 have hp:p.1≠p.2:=by
  intro e;have nd:=at_.mt.nd;obtain⟨La,Lb,z1,_⟩:=cn e1 q at_.len;rw[nZ,z1,jf,oE]at nd
  have g:=(qz.mp (qz.mp (qz.mp nd).1).2.1).1;exact(o4.mp g).1 (e▸ .head _)
 obtain⟨a',t'⟩:=at_.chg (t:=s.toks+1+1) (y:=.inst c (pU x v fs)) e1 q (a:=p.2) (.tail _ (.head _)) rfl sb
  ⟨_,_,sl,(sb.2 _ hp).trans g1,hd2,zp,aP9 nd,λy hy=>(gd y hy).elim (λq=>q▸q2) (ha y)⟩
 exact hq _ _ h a' t'
theorem aQ2(x:D)(l:J D):∀n:H,Si x n l=l.set n x:=by
 induction l with
 |nil=>exact λn=>by cases n<;>rfl
 |cons y r ih=>exact λn=>by cases n with|zero=>rfl|succ n=>exact bR (y::·) (ih n)
theorem eU.set{ds:J D}{ws:J aA}(y:DR F x u)(h:eU F ds ws):∀n:H,eU F (ds.set n x) (ws.set n u):=by
 induction h with
 |nil=>exact λX=>.nil
 |cons a z ih=>exact λn=>by cases n with|zero=>exact .cons y z|succ n=>exact .cons a (ih n)
theorem aQ3(h:Sj a i v Z.o k)(at_:At f Y G Z r s F)(y1:VR f.w r F a ua)(y2:VR f.w r F i ui)(y3:VR f.w r F v uv)
  (hq:∀o' s',k o'->At f Y G ⟨Z.m,o'⟩ r s' F->Go G Z ⟨Z.m,o'⟩ r r s s' F F->Q () s'):av (aP f.prog f.w) A (setItem ua ui uv) Q E s:=by
 refine Ax y1 h λhd p e1 h=>jX y2 h λi u h=>jD y3 h λx y3 h=>pn h λz q h=>?_
 revert q
 refine Su h λds h q=>?_;obtain⟨ws,m,g1,g2,g3⟩:=at_.obj e1 q;have sz:=g2.size;have hT:s.TypeIs (.ref p.1) "list":=⟨_,g1,rfl⟩;have go:∀(k':H),k'<ds.length->Dp i ws.size=N k'->(!Xz i)=ak->k (eO (.dl (ds.set k' x)) hd Z.o)->av (aP f.prog f.w) A (setItem (.ref p.1) (.int i u) uv) Q E s:=by
  intro k' S hi hf Cj;refine iP (aJ (aZ<|ct3 hT (by decide) (aJ (aZ<|ct4 hT cv0 (Dl cv0 hT entry_list_setitem (args_list_setitem _ _ _) (aP8 p.1 ws m i u uv k' (by rw[sz];exact S) hi hf) ⟨g1,?_⟩)))))
  obtain⟨a',t'⟩:=at_.chg (t:=s.toks) (y:=.dl (ds.set k' x)) e1 q (a:=p.1) (.head _) rfl (Ge s.heap p.1 (sH (·.setIfInBounds k' uv)))
   ⟨ws.setIfInBounds k' uv,m,by rw[Bj _ g1 rfl];simp[sH],by rw[Array.toList_setIfInBounds];exact eU.set y3 g2 _,by rw[cq3];exact g3⟩
  exact bg (hq _ _ Cj a' t')
 induction i with
 |ofNat j=>exact go j h.1 (M7 (by rw[sz];exact h.1)) (by have:=h.1;simp[Xz];omega) (aQ2 ..▸h.2)
 |negSucc j=>
  obtain⟨e,l,y,rfl,h4⟩:=l9 h;obtain rfl:=mV e;have e:ws.size=l.length+1:=sz.trans (by rw[f6];rfl)
  refine go l.length (by rw[f6];exact m7 _) ((M8 (by rw[e];exact jd _)).trans (by rw[e];rfl)) (by decide) ?_
  rw[List.set_append_right _ _ (jO _),am7];exact h4
end Wm
end
namespace Wm
section
variable{f:Cf}{Y:J (ai×cJ)}{n:H}{Z:St}{e:aT}{G:cL}{r:bQ}{s:aE}{F:bP}
theorem aQ4(h:Q .next Z):WS f Y n [] Z Q:=λX s F I u2 r u3 u4 a=>Yp (.oG a .next h)
theorem aQ5(h:W1 f Y n s1 Z λfl aI=>match fl with| .next=>WS f Y n l aI Q| .brk=>Q .brk aI| .cont=>Q .cont aI| .ret v=>Q (.ret v) aI):WS f Y n (s1::l) Z Q:=λA s F G E r o i a=>by
 refine ar4 (gG (h A s F G E r o i a) (λw aF p=>?_) λX I z=>z);obtain⟨v,aI,bY,cz,q,y,b7,b8⟩:=p;cases y with
 |next=>exact gG (q A aF cz G E bY o i b7) (λX I p=>.of b8 p) λX I z=>z
 |brk=>exact⟨_,aI,bY,cz,q,.brk,b7,b8⟩
 |cont=>exact⟨_,aI,bY,cz,q,.cont,b7,b8⟩
 |ret y=>exact⟨_,aI,bY,cz,q,.ret y,b7,b8⟩
theorem aQ6(h:WE f Y n x Z λv aI=>Q (.ret v) aI):W1 f Y n (.Return (N x) pos) Z Q:=λA s F G E r o i a=>ar5 (h.run o i a λv w aI bY cz aF q y b7 b8=>⟨_,aI,bY,cz,q,.ret y,b7,b8⟩)
theorem aQ7(h:WT f Y n t Z λq aI=>dh q (WS f Y n b aI Q) (WS f Y n d aI Q)):W1 f Y n (.If t b d pos) Z Q:=λA s F G E r o i a=>by refine ar6 (h.run o i a λq w aI bY cz aF h₁ cX b7 b8=>?_);subst cX;cases q<;>exact gG (h₁ A aF cz G E bY o i b7) (λX I p=>.of b8 p) λX I z=>z
def ED(e:aT):aD:=!(kd [8,9,10] e)
theorem S_{e:aT}{G:cL}(h:ED e=ah):wz e t l G=pure ak:=by cases e<;>first|rfl|exact gr h
theorem aQ8(h:WE f Y n x Z λv aI=>Q .next aI)(hs:ED x=ah):W1 f Y n (.Expr x pos) Z Q:=λA s F G E r o i a=>at9 (h.run o i a λv w aI bY cz aF q y b7 b8=>⟨_,aI,bY,cz,q,.next,b7,b8⟩) (by unfold interactive;rw[i.kind];rfl) (S_ hs)
theorem aQ9(h:B4 x Z λa=>WE f Y n v Z λb aI=>jl a λa=>jl b λb=>kZ x (.d (.int (a+b))) aI λb3=>Q .next b3):W1 f Y n (.AugAssign (.Name x p) .Add v pos) Z Q:=λA s F G E r o i a=>at8 (du h i a λva wa h₁ cX=>h₁.run o i a λvb wb aI bY cz aF dw gU b7 b8=>jX (cX.mono b8.fM b8.grow) dw λia ta dw=>jX gU dw λib tb dw=>aZ<|iadd_int (HY dw i (b7.tok (aF.toks+1)) (.d .int) λiJ dU aR0 jo gx=>⟨_,iJ,bY,cz,aR0,.next,jo,b8.trans ((fB.tok ..).trans gx)⟩))
theorem aR1(h:WE f Y n v Z λv aI=>WE f Y n a aI λa b3=>Sh a x v b3.o λo=>Q .next ⟨b3.m,o⟩):W1 f Y n (.Assign [.Attribute a x p] v pos) Z Q:=λA s F G E r o i a'=>by
 refine at7 (h.run o i a' λu w aI bY cz aF h₁ cX b7 b8=>WX.run h₁ o i b7 λov ow b3 iC iI cj dw gU e_ c9=>?_) (by cases v<;>rfl)
 exact aQ1 dw e_ gU (cX.mono c9.fM c9.grow) λo' s' q jo gx=>⟨_,_,iC,iI,q,.next,jo,b8.trans (c9.trans gx)⟩
theorem aR2(h:WE f Y n v Z λv aI=>WE f Y n a aI λa b3=>WE f Y n ix b3 λi iJ=>Sj a i v iJ.o λo=>Q .next ⟨iJ.m,o⟩):W1 f Y n (.Assign [.Subscript a ix p] v pos) Z Q:=λA s F G E r o i a'=>by
 refine at6 (h.run o i a' λu w aI bY cz aF h₁ cX b7 b8=>WX.run h₁ o i b7 λov ow b3 iC iI cj dw gU e_ c9=>WX.run dw o i e_ λiv iw iJ i9 ja dU ku qV jo gx=>?_) (by cases v<;>rfl)
 exact aQ3 ku jo (gU.mono gx.fM gx.grow) qV ((cX.mono c9.fM c9.grow).mono gx.fM gx.grow) λo' s' q H_ AE=>⟨_,_,i9,ja,q,.next,H_,b8.trans (c9.trans (gx.trans AE))⟩
inductive qW:J aT->J ai->Prop
 |nil:qW [] []
 |cons {x p l xs}:qW l xs->qW (.Name x p::l) (x::xs)
theorem qW.trees{G:cL}{xs:J ai}(h:qW l xs):∃ps:J gq,ps.length=xs.length/\Xm l G=(xs.zip ps).map λx=>(ak,sC (.Name x.1 x.2) G):=by
 induction h with
 |nil=>exact⟨[],rfl,rfl⟩
 |@cons x p l xs X ih=>refine b_ ih λps hx=>?_;have e1:=hx.1;have e2:=hx.2;exact⟨p::ps,bR (·+1) e1,bR ((ak,sC (.Name x p) G)::·) e2⟩
theorem gL{xs:J ai}{vs:J V}{Z:St}(h:nv xs vs Z k):vs.length=xs.length:=by
 induction xs generalizing vs Z with
 |nil=>induction vs using eT with
  |nil=>rfl
  |cons X I=>exact h.elim
 |cons x xs ih=>
  induction vs using eT with
  |nil=>exact h.elim
  |cons v vs=>
   refine bR (·+1) (nY (show kZ x v Z (λZ=>nv xs vs Z k)from h) λsl X h=>?_)
   induction sl with
   |L X=>exact(dE h).elim λm' g=>ih g.1
   |C c=>
    refine pn h λy X h=>?_;induction y with
    |cell X=>exact ih h
    |_=>exact h.elim
theorem gN(i:g_ f Y G)(xs:J ai):∀(vs:J V)(ws:J aA)(tr:J (aA->dJ rt))(k:St->Prop)(Z:St)(s:aE),nv xs vs Z k->At f Y G Z r s F->gh f.w r F vs ws->
  tr.length=xs.length->(∀(j:H)(x:ai)(t:aA->dJ rt),xs[j]?=N x->tr[j]?=N t->∀v P s',av (aP f.prog f.w) A (F3 G x v) P E s'->av (aP f.prog f.w) A (t v) P E s')->
  (∀b9 s',k b9->At f Y G b9 r s' F->Go G Z b9 r r s s' F F->Q () s')->av (aP f.prog f.w) A (PK tr ws) Q E s:=by
 induction xs with
 |nil=>
  intro vs ws tr k Z s h a z el ht hq;induction tr using eT with
  |cons X I=>simp at el
  |nil=>
   induction vs using eT with
   |cons X I=>exact h.elim
   |nil=>cases z;exact bg (hq _ _ h a (.refl ..))
 |cons x xs ih=>
  intro vs ws tr k Z s h a z el ht hq;induction tr using eT with
  |nil=>simp at el
  |cons t tr=>
   induction vs using eT with
   |nil=>exact h.elim
   |cons v vs=>
    cases z with
    |cons y z=>refine aJ (iP (ht 0 x t rfl rfl _ _ _ (HY (k:=λZ=>nv xs vs Z k) h i a y λb9 s' h' a' t'=>?_)));exact ih vs _ tr k b9 s' h' a' z (by simpa using el) (λj x t hx hy=>ht (j+1) x t (by simpa using hx) (by simpa using hy)) λcD0 ni EE Ia Tc=>hq _ _ EE Ia (t'.trans Tc)
def Td(e:aT):aD:=!(kd [25] e)
theorem aR3{G:cL}(h:Td v=ah):Xg [.Tuple iM k tp] v G=pure ao:=by cases v<;>first|rfl|exact gr h
theorem Te{vs:J V}{l:aR}{ws:cT aA}{m:H}{xs:J ai}{iM:J aT}{kd:H}{tp:gq}{k:St->Prop}{A:cQ}{E:aA->aE->Prop}{Q:rt->aE->Prop}(h:nv xs vs Z k)(na:qW iM xs)(hh:A.handled=ao)(i:g_ f Y G)(a:At f Y G Z r s F)(g:s.heap.get? l=N (lJ ws m))(z:gh f.w r F vs ws.toList)
  (hq:∀b9 s',k b9->At f Y G b9 r s' F->Go G Z b9 r r s s' F F->Q () s'):av (aP f.prog f.w) A (sC (.Tuple iM kd tp) G (.ref l)) Q E s:=by
 obtain⟨ps,e1,e2⟩:=na.trees (G:=G);have zl:ws.size=xs.length:=by rw[<-o5,<-z.length,gL h]
 have lz:(xs.zip ps).length=xs.length:=by rw[am8,e1,cv1]
 refine av0 hh ⟨_,g,rfl,_,rfl⟩ (by rw[e2,cO,lz,zl]) (by rw[e2];simp[List.findIdx?_map,Function.comp_def,List.findIdx?_eq_none_iff]) λh' S=>?_
 obtain⟨a',t'⟩:=a.ext (t:=s.toks) (h':=h') λb o q=>S b o (λe=>by rw[e,pq]at q;cases q) q
 refine gN i xs _ _ _ _ _ _ h a' z (by rw[e2,cO,cO,lz]) (λj x t hx ht v P s' hp=>?_) λb9 s' h1 a1 t1=>hq _ _ h1 a1 (t'.trans t1)
 rw[e2,n_,mD]at ht
 obtain⟨⟨x',p⟩,g1,g2⟩:=wm.mp ht;rw[P5]at g1
 rw[<-g2,show x'=x from fW (g1.1.symm.trans hx)]
 exact QI hp
theorem hM{v:V}{u:aA}{xs:J ai}{iM:J aT}{kd:H}{tp:gq}{k:St->Prop}{A:cQ}{E:aA->aE->Prop}{Q:rt->aE->Prop}(h:jL xs ak v Z k)(na:qW iM xs)(hh:A.handled=ao)(i:g_ f Y G)(a:At f Y G Z r s F)(y:VR f.w r F v u)
  (hq:∀b9 s',k b9->At f Y G b9 r s' F->Go G Z b9 r r s s' F F->Q () s'):av (aP f.prog f.w) A (sC (.Tuple iM kd tp) G u) Q E s:=by
 induction v with
 |d x=>exact jD y (k:=λx=>tD x λds=>nv xs (ds.map .d) Z k) h λx y h=>B8 y h λds l ws m h e z X=>Te h na hh i a (a.mt.sub _ _ e) z.ofD hq
 |pr x j=>exact y.e λl p n u e d z=>Te (vs:=[.d x,.ref j]) h na hh i a (a.mt.sub _ _ e) (.cons (.d d) (.cons (.ref z) .nil)) hq
 |_=>exact h.elim
theorem aR4{xs:J ai}{iM:J aT}{kd:H}{tp pos:gq}{v:aT}{Q:dZ->St->Prop}(h:WE f Y n v Z λu aI=>jL xs ak u aI λb3=>Q .next b3)(na:qW iM xs)(hs:ED v=ah)(ht:Td v=ah):
  W1 f Y n (.Assign [.Tuple iM kd tp] v pos) Z Q:=λA s F G E r o i a=>
 au0 (h.run o i a λu w aI bY cz aF q y b7 b8=>hM q na o.hd i b7 y λb3 cj Ib e_ c9=>⟨_,b3,bY,cz,Ib,.next,e_,b8.trans c9⟩) (by show wz v (N (.Tuple iM kd tp)) pos.line G=pure ak;exact S_ hs) (aR3 ht)
def Na(Y:J (ai×cJ))(ts vs:J aT)(xs:J ai):aD:=
 (ts.length==2||ts.length==3)&&vs.length==ts.length&&vs.all xm&&
 (xs.all λx=>cG x Y==N .local)&&(ts.all λe=>e.pos.line==(ts.head?.map (·.pos.line)).getD 0)&&xs.length==ts.length&&xs.eraseDups.length==xs.length&&!(vs.all (foldedForSure 8))&&!(vs.all (constantsAlone 8))
theorem aR5(i:g_ f Y G)(hg:∀id pos,g (.Name id pos)=if G.kindOf id==N .local&&pos.line==line then N id else ao){ts:J aT}{xs:J ai}(na:qW ts xs)
  (h1:(xs.all λx=>cG x Y==N .local)=ah)(h2:(ts.all λe=>e.pos.line==line)=ah):ts.filterMap g=xs:=by
 induction na with
 |nil=>rfl
 |@cons x p l xs X ih=>
  rw[List.all_cons,Ky]at h1 h2
  have S:G.kindOf x=cG x Y:=by unfold PR;rw[i.Y,<-Aw]
  rw[cv2,hg,S,h1.1,show(p.line==line)=ah from h2.1,ih h1.2 h2.2]
  rfl
theorem aR6(i:g_ f Y G)(na:qW ts xs)(h:Na Y ts vs xs=ah):Xg [.Tuple ts k tp] (.Tuple vs k' vp) G=pure (N xs):=by
 unfold Na at h
 simp only[Ky,cv3]at h
 obtain⟨⟨⟨⟨⟨⟨⟨⟨h1,h2⟩,h3⟩,h4⟩,Y4⟩,h5⟩,h6⟩,h7⟩,h8⟩:=h;have hb:G.blockKind=.function:=by unfold al5;rw[i.kind];rfl
 have no:∀{b:aD},b=ak->¬b=ah:=λh g=>gr (h.symm.trans g);refine(cF (no ?_)).trans ((cF ?_).trans ?_)
 ·rw[h1,hb];simp only[bne,h2];rfl
 ·intro h;obtain⟨e,m,q⟩:=wD.mp h;have p:=al7.mp h3 e m;cases e<;>first|exact gr q|exact gr p
 ·dsimp only;rw[aR5 i (line:=(ts.head?.map (·.pos.line)).getD 0) (λX I=>rfl) na h4 Y4];exact(cF (no (by simp only[bne,h5,h6];rfl))).trans ((cF (no h7)).trans (cF (no h8)))
theorem aR7{xs:J ai}{ts vs:J aT}{kd k':H}{tp vp pos:gq}{Q:dZ->St->Prop}(h:qU f Y n vs Z λus aI=>dh (nJ (len us) 1000) (nv xs.reverse us.reverse aI λb3=>Q .next b3) bV)(na:qW ts xs)(hs:Na Y ts vs xs=ah):
  W1 f Y n (.Assign [.Tuple ts kd tp] (.Tuple vs k' vp) pos) Z Q:=λA s F G E r o i a=>by
 refine au1 (names:=xs) ?_ rfl (aR6 i na hs);refine Yq ((h _).run o i a λus ws aI bY cz aF h₁ cX b7 b8=>?_);rcases aK8 h₁ with⟨hl,hq⟩|⟨_,h⟩;rotate_left;exact h.elim
 have hl:=S5 hl;have yl:=cX.length;refine⟨by unfold gX;lia,?_⟩
 refine b_ (b7.frozen (o:=lJ ws.toArray 0) rfl) λF' hx=>?_;have e:=hx.1;have a':=hx.2.1;have t':=hx.2.2;have l2:=gL hq;rw[Gf,Gf]at l2
 have ht:({aF with heap:=aF.heap.push (lJ ws.toArray 0)}:aE).heap.IsTuple aF.heap.objs.size ws.toArray:=⟨_,lY _ rfl,rfl,_,rfl⟩
 have:=aZ<|cp4 (prog:=f.prog) (w:=f.w) (A:=A) (E:=E) (Q:=λeX cj=>av (aP f.prog f.w) A (PK (xs.reverse.map λn=>J6 G n) eX.reverse) (λX=>mh f Y (λr F=>xj f.w r F) G Z Q r s F cv4) E cj) o.hd ht (λh' S=>?_)
 ·rw[show ws.toArray.size=xs.length by rw[PJ];lia]at this
  exact this
 ·have hx:=a'.ext (t:=aF.toks) (h':=h') λb ob q=>S b ob (λe=>by rw[e,pq]at q;cases q) q
  have Ia:=hx.1;have Tc:=hx.2;have yr:gh f.w bY F' us.reverse ws.reverse:=(cX.Eu t'.fM t'.grow).reverse;refine gN i xs.reverse us.reverse ws.reverse _ _ _ _ hq Ia (by simpa using yr) (by simp) (λj x t hx ht v P s' hp=>?_) λb9 s' h1 a1 t1=>⟨_,b9,bY,F',h1,.next,a1,b8.trans (t'.trans (Tc.trans t1))⟩
  rw[mD,hx]at ht
  cases ht;exact ar3 hp
def Nb(e:aT):aD:=kd [23] e
structure Ic(f:Cf)(A:cQ)(bG:aR)(ds:J D)(F:bP)(h0 h:dH)(fp:J aR)(P:H->aA->Prop)(St:H->dH->Prop):Prop where
 W:Walks f.prog f.w A bG fp [bG] ds.length P St
 Z:St 0 h
 item:∀i v,i<ds.length->P i v->∃d,ds[i]?=N d/\DR F d v
 foot:∀b∈fp,b=bG\/∃o,F b=N o
 new:h0.get? bG=none
 old:∀b o,h0.get? b=N o->h.get? b=N o
 alive:∀i h,St i h->∃o,h.get? bG=N o
 big:ds.length<=1048576
 go:∀i v dD(s:aE) Q E,St i s.heap->Q () s->av (aP f.prog f.w) A (Ka dD (.ref bG) v) Q E s
theorem aR8(h:Nb dD=ah):Ka dD it v=pure ():=by cases dD<;>first|rfl|exact gr h
theorem Ie{o:fH}(ho:s.heap.get? bG=N o)(hc:o.cls=.type T)
  (hT:(["enumerate","zip","dict_itemiterator","dict_reverseitemiterator","odict_iterator","itertools.zip_longest","itertools.pairwise"].contains T)=ak)(hq:Q () s):av (aP prog w) A (Ka dD (.ref bG) v) Q E s:=by
 have go:av (aP prog w) A (do
   let(.ref r,.ref a):=(zN bG,v)|return
   let o<-F0 r
   match o.cls,o.data with
   | .type n,.fields vs=>
    if["enumerate","zip","dict_itemiterator","dict_reverseitemiterator","odict_iterator","itertools.zip_longest","itertools.pairwise"].contains n&&vs[0]?==N (XI a)then
     rule "for.unpacks-the-owned-tuple"
     updateField r 0 .none
   |X,I=>pure ()) Q E s:=by
  cases v<;>try exact bg hq
  refine aJ (aZ<|zK ho ?_);obtain⟨c,d,dt,sl⟩:=o;dsimp only at hc
  subst hc;cases dt<;>try exact bg hq
  dsimp only;rw[hT,cr2,cF (by decide)]
  exact bg hq
 cases dD<;>first|exact bg hq|exact go
abbrev yK(f:Cf)(A:cQ)(ds:J D)(F:bP)(h0:dH)(it:aA)(s:aE):Prop:=∃bG fp P St,it=.ref bG/\Ic f A bG ds F h0 s.heap fp P St
theorem av3{A:cQ}{E:aA->aE->Prop}{ws:cT aA}{ds:J D}(hh:A.handled=ao)(hF:F l=N (iH ws m))(hl:s.heap.get? l=N (iH ws m))(y:eU F ds ws.toList)(Px:ds.length<=1048576):
  av (aP f.prog f.w) A (ry (.ref l)) (λit s'=>(∃h' t,s'={s with heap:=h',toks:=t})/\yK f A ds F s.heap it s') E s:=by
 have sz:=y.size;have il:s.heap.IsList l ws:=⟨_,hl,rfl,_,rfl⟩;have ne:l≠s.heap.objs.size:=sr (kI hl);have W:=am9 (prog:=f.prog) (w:=f.w) hh s.heap.objs.size l ne ws;rw[sz]at W
 refine aZ<|XJ il ⟨⟨_,_,rfl⟩,s.heap.objs.size,_,_,_,rfl,⟨W,⟨⟨_,lY _ rfl,rfl,rfl⟩,il.push _⟩,λi v hi hv=>?_,λb hb=>?_,pq _,λb o e=>ko _ e,λX I ⟨⟨o,ho,_⟩,_⟩=>⟨o,ho⟩,Px,λi v dD s Q E hs hq=>?_⟩⟩
 ·have e:ws.toList[i]?=N v:=by rw[rB];exact hv
  obtain⟨u,e',yu⟩:=y.get (mZ hi);rw[e]at e';cases e'
  exact⟨_,mZ hi,yu⟩
 ·rcases iV.mp hb with rfl|hb
  ·exact .inl rfl
  ·right;obtain rfl:=fN.mp hb;exact⟨_,hF⟩
 ·obtain⟨⟨o,ho,hc,hd⟩,_⟩:=hs;exact Ie ho hc (by decide) hq
theorem av4{A:cQ}{E:aA->aE->Prop}{ws:cT aA}{ds:J D}(hh:A.handled=ao)(hF:F l=N (lJ ws m))(hl:s.heap.get? l=N (lJ ws m))(y:eU F ds ws.toList)(Px:ds.length<=1048576):
  av (aP f.prog f.w) A (ry (.ref l)) (λit s'=>(∃h' t,s'={s with heap:=h',toks:=t})/\yK f A ds F s.heap it s') E s:=by
 have sz:=y.size;have il:s.heap.IsTuple l ws:=⟨_,hl,rfl,_,rfl⟩;have ne:l≠s.heap.objs.size:=sr (kI hl);have W:=Walks.tuple (prog:=f.prog) (w:=f.w) hh s.heap.objs.size l ne ws;rw[sz]at W
 refine aZ<|wpAny_pyIter_tuple il ⟨⟨_,_,rfl⟩,s.heap.objs.size,_,_,_,rfl,⟨W,⟨⟨_,lY _ rfl,rfl,rfl⟩,il.push _⟩,λi v hi hv=>?_,λb hb=>?_,pq _,λb o e=>ko _ e,λX I ⟨⟨o,ho,_⟩,_⟩=>⟨o,ho⟩,Px,λi v dD s Q E hs hq=>?_⟩⟩
 ·have e:ws.toList[i]?=N v:=by rw[rB];exact hv
  obtain⟨u,e',yu⟩:=y.get (mZ hi);rw[e]at e';cases e'
  exact⟨_,mZ hi,yu⟩
 ·rcases iV.mp hb with rfl|hb
  ·exact .inl rfl
  ·right;obtain rfl:=fN.mp hb;exact⟨_,hF⟩
 ·obtain⟨⟨o,ho,hc,hd⟩,_⟩:=hs;exact Ie ho hc (by decide) hq
theorem aR9{A:cQ}{E:aA->aE->Prop}{b:cT iX}(hh:A.handled=ao)(hb:b.size<=1048576):
  av (aP f.prog f.w) A (ry (.bytes b t)) (λit s'=>(∃h' t,s'={s with heap:=h',toks:=t})/\yK f A (fJ (b.toList.map iY)) F s.heap it s') E s:=by
 have len:(fJ (b.toList.map iY)).length=b.size:=by simp[fJ]
 have W:=cv5 (prog:=f.prog) (w:=f.w) hh s.heap.objs.size b t;rw[<-len]at W
 refine aZ<|cv6 ⟨⟨_,_,rfl⟩,s.heap.objs.size,_,_,_,rfl,⟨W,⟨_,lY _ rfl,rfl,rfl⟩,λi v hi hv=>?_,λc hc=>?_,pq _,λb o e=>ko _ e,λX I ⟨o,ho,_⟩=>⟨o,ho⟩,by rw[len];exact hb,λi v dD s Q E hs hq=>?_⟩⟩
 ·obtain⟨c,u,e,rfl⟩:=hv;refine⟨.int (c.toNat:aa),?_,.int⟩;unfold fJ;rw[mD,mD,rB,e];rfl
 ·exact .inl (fN.mp hc)
 ·obtain⟨o,ho,hc,hd⟩:=hs;exact Ie ho hc (by decide) hq
theorem aS0{A:cQ}{E:aA->aE->Prop}{x:ai}(hh:A.handled=ao)(hb:x.cps.size<=1048576):
  av (aP f.prog f.w) A (ry (.str x t)) (λit s'=>(∃h' t,s'={s with heap:=h',toks:=t})/\yK f A (x.cps.toList.map λc=>.str (az [c])) F s.heap it s') E s:=by
 have len:(x.cps.toList.map λc=>D.str (az [c])).length=x.cps.size:=by simp
 have go:∀{o:fH}{T:jZ},(["enumerate","zip","dict_itemiterator","dict_reverseitemiterator","odict_iterator","itertools.zip_longest","itertools.pairwise"].contains T)=ak->o.isFreed=ak->Walks f.prog f.w A s.heap.objs.size [s.heap.objs.size] [s.heap.objs.size] x.cps.size (SignAt x) (λi h=>h.IsStrIter s.heap.objs.size T x t i)->(s.heap.push o).IsStrIter s.heap.objs.size T x t 0->
   ((∃h' t,({s with heap:=s.heap.push o}:aE)={s with heap:=h',toks:=t})/\yK f A (x.cps.toList.map λc=>.str (az [c])) F s.heap (.ref s.heap.objs.size) {s with heap:=s.heap.push o}):=by
  intro o T hT hf W vQ;rw[<-len]at W
  refine⟨⟨_,_,rfl⟩,s.heap.objs.size,_,_,_,rfl,⟨W,vQ,λi v hi hv=>?_,λc hc=>?_,pq _,λb o e=>ko _ e,λX I ⟨o,ho,_⟩=>⟨o,ho⟩,by rw[len];exact hb,λi v dD s Q E hs hq=>?_⟩⟩
  ·obtain⟨c,u,e,rfl⟩:=hv;refine⟨.str ⟨#[c]⟩,?_,.str⟩;rw[mD,rB,e];rfl
  ·exact .inl (fN.mp hc)
  ·obtain⟨o,ho,hc,hd⟩:=hs;exact Ie ho hc hT hq
 cases ha:x.cps.all (·<128)
 ·exact aZ<|wpAny_pyIter_wide ha (go (by decide) rfl (Walks.strWide hh _ x t) ⟨_,lY _ rfl,rfl,rfl⟩)
 ·exact aZ<|wpAny_pyIter_ascii ha (go (by decide) rfl (Walks.strAscii hh _ x t) ⟨_,lY _ rfl,rfl,rfl⟩)
theorem av5{A:cQ}{E:aA->aE->Prop}{i:aa}(hh:A.handled=ao)(hb:i<=1048576)(hU:-(2^62)<=i):
  av (aP f.prog f.w) A (fF (.type "range") [.int i t]) (λx aF=>(∃h' t,aF={s with heap:=h',toks:=t})/\(∀b o,s.heap.get? b=N o->aF.heap.get? b=N o)/\av (aP f.prog f.w) A (ry x) (λit s'=>(∃h' t,s'={aF with heap:=h',toks:=t})/\yK f A ((kJ i.toNat).map λ(n:H)=>D.int n) F aF.heap it s') E aF) E s:=by
 have len:((kJ i.toNat).map λ(n:H)=>D.int (n:aa)).length=i.toNat:=by simp
 refine aZ<|call_range_1 ⟨⟨_,_,rfl⟩,λb o e=>ko _ e,aZ<|wpAny_pyIter_range (IsRange.new ..) (small_one (by decide) (by decide) hU (Gg hb (by decide))) ⟨⟨_,_,rfl⟩,_,_,_,_,rfl,⟨len▸Walks.range (prog:=f.prog) (w:=f.w) hh _ 0 1 i.toNat,?_,λk v hi hv=>?_,λc hc=>.inl (fN.mp hc),pq _,λb o e=>ko _ e,λX I Z=>⟨_,Z⟩,by rw[len];lia,λi v dD s Q E hs hq=>?_⟩⟩⟩
 ·rw[rangeSize_one];have e1:(0:aa)+((0:H):aa)*1=0:=rfl;have e2:(if(0:aa)<i then i -0 else 0)=((i.toNat:H):aa) -((0:H):aa):=by
   by_cases h0:(0:aa)<i
   ·rw[dM h0,zO (Qf h0)];rfl
   ·rw[cF h0,Int.toNat_eq_zero.mpr (nN.mp h0)];rfl
  show IsRangeIter _ _ _ _ _
  rw[e1,e2,len];exact lY (o:={cls:=.type "range_iterator",dict:=none,data:=.fields #[XI 0,XI (((i.toNat:H):aa) -((0:H):aa)),XI 1],slots:=#[]}) _ rfl
 ·obtain⟨u,rfl⟩:=hv;have S:k<i.toNat:=by rw[len]at hi;exact hi
  refine⟨.int (k:aa),by rw[mD,List.getElem?_range S];rfl,?_⟩
  have e:(0:aa)+(k:aa)*1=k:=by rw[am1,Ga]
  rw[e];exact .int
 ·exact Ie hs rfl (by decide) hq
theorem Tf{Z:St}(h:rO Z k):k Z:=by rwa [yy]at h
structure iQ(bG:aR)(F:bP)(o:J aR):Prop where
 fr:F bG=none
 ow:bG∉o
theorem iQ.step{r:bQ}{s s':aE}{F:bP}(p:iQ bG F o)(h:s.heap.get? bG=N x)(t:fB r r' s s' F F' o o'):iQ bG F' o'/\s'.heap.get? bG=N x:=by
 refine⟨⟨?_,λq=>?_⟩,t.kept bG x p.ow h⟩
 ·cases q:F' bG with
  |none=>rfl
  |some y=>
   rcases t.vP bG y q with e|e|e
   ·rw[p.fr]at e;cases e
   ·exact absurd e p.ow
   ·rw[h]at e;cases e
 ·rcases t.tK bG q with e|e
  ·exact p.ow e
  ·rw[h]at e;cases e
theorem iQ.fresh(m:Mt w B r s F L)(h:s.heap.get? bG=ao):iQ bG F (own L):=by
 refine⟨?_,λq=>?_⟩
 ·cases q:F bG with
  |none=>rfl
  |some y=>have:=m.sub _ _ q;rw[h]at this;cases this
 ·obtain⟨p,hp,hb⟩:=rA.mp q;obtain⟨x,e'⟩:=(m.live p hp).alive bG hb;rw[h]at e';cases e'
theorem fB.vR{P:aR->Prop}{r r':bQ}{s aF:aE}{F F':bP}{o o':J aR}{h':dH}{t:H}(x:fB r r' s aF F F' o o')(hI:∀bG,P bG->bG∉o->s.heap.get? bG=ao)(k:∀b y,¬P b->aF.heap.get? b=N y->h'.get? b=N y):
  fB r r' s {aF with heap:=h',toks:=t} F F' o o':=
 ⟨x.fM,x.same.elim λX g=>g.elim λX e=>⟨h',t,e▸rfl⟩,x.grow,x.vP,x.tK,λa y q e=>k a y (λz=>nomatch (hI a z q).symm.trans e) (x.kept a y q e)⟩
theorem fB.hole{r:bQ}{s aF:aE}{F:bP}{h':dH}{t:H}(x:fB r r' s aF F F' o o')(hI:s.heap.get? bG=ao)(k:∀b y,b≠bG->aF.heap.get? b=N y->h'.get? b=N y):
  fB r r' s {aF with heap:=h',toks:=t} F F' o o':=x.vR (P:=(·=bG)) (λX e I=>e▸hI) k
theorem At.vR{P:aR->Prop}{h':dH}{t:H}(a:At f Y G Z r s F)(h1:∀bG,P bG->iQ bG F (own (eS G Z r)))(k:∀b y,¬P b->s.heap.get? b=N y->h'.get? b=N y):At f Y G Z r {s with heap:=h',toks:=t} F:=
 ⟨a.len,a.fk,λb o e=>k b o (λz=>nomatch (h1 b z).fr.symm.trans e) (a.mt.sub b o e),a.mt.base,λp hp=>(a.mt.live p hp).step (.refl _) (.refl _) λb hb x e=>k b x (λz=>(h1 b z).ow (rA.mpr ⟨p,hp,hb⟩)) e,a.mt.jg,a.mt.nd⟩
theorem At.hole{h':dH}{t:H}(a:At f Y G Z r s F)(h1:F bG=ao)(h2:bG∉own (eS G Z r))(k:∀b y,b≠bG->s.heap.get? b=N y->h'.get? b=N y):At f Y G Z r {s with heap:=h',toks:=t} F:=
 a.vR (P:=(·=bG)) (λX e=>e▸⟨h1,h2⟩) k
inductive xq:aT->J ai->aD->Prop
 |one {x p}:xq (.Name x p) [x] ah
 |tup {iM xs k p}:qW iM xs->xq (.Tuple iM k p) xs ak
theorem hV{A:cQ}(h:jL ts one v Z k)(hh:A.handled=ao)(i:g_ f Y G)(a:At f Y G Z r s F)(y:VR f.w r F v u)
  (ht:xq dD ts one)(hq:∀b9 s',k b9->At f Y G b9 r s' F->Go G Z b9 r r s s' F F->Q () s'):av (aP f.prog f.w) A (sC dD G u) Q E s:=by
 cases ht with
 |one=>exact QI (HY h i a y hq)
 |tup na=>exact hM h na hh i a y hq
def WI(f:Cf)(Y:J (ai×cJ))(n:H)(t:cL->dJ aA)(Z:St)(Q:J D->St->Prop):Prop:=∀A s F G E r(P:aA->aE->Prop),Ok n A->g_ f Y G->At f Y G Z r s F->
 (∀ds aI bY cz aF it cj,Q ds aI->At f Y G aI bY aF cz->Go G Z aI r bY s aF F cz->(∃h' t,cj={aF with heap:=h',toks:=t})->yK f A ds cz aF.heap it cj->P it cj)->
 av (aP f.prog f.w) A (t G) (λx aF=>av (aP f.prog f.w) A (ry x) P E aF) E s
theorem aS1{A:cQ}{E P:aA->aE->Prop}(h:HO v k)(hh:A.handled=ao)(vm:∀a o,F a=N o->s.heap.get? a=N o)(y:VR f.w r F v u)
  (hp:∀ds it s',k ds->(∃h' t,s'={s with heap:=h',toks:=t})->yK f A ds F s.heap it s'->P it s'):av (aP f.prog f.w) A (ry u) P E s:=by
 have go:∀{u:aA}{ds:J D},k ds->av (aP f.prog f.w) A (ry u) (λit s'=>(∃h' t,s'={s with heap:=h',toks:=t})/\yK f A ds F s.heap it s') E s->av (aP f.prog f.w) A (ry u) P E s:=λh w=>gG w (λit s' e=>hp _ it s' h e.1 e.2) λX I z=>z
 refine jD y h λx y h=>?_;induction x using Wm.D.casesOn with
 |tup ds=>exact y.e λl ws m e z zl=>go h (av4 hh e (vm _ _ e) z zl)
 |list ds=>exact y.e λl ws m e z zl=>go h (av3 hh e (vm _ _ e) z zl)
 |bytes l=>exact y.e λb t e hb=>go (e▸h) (aR9 hh hb)
 |str x=>exact y.e λt=>go h.2 (aS0 hh (o5▸h.1))
 |_=>exact h.elim
theorem aS2(h:WE f Y n x Z λv aI=>HO v λds=>Q ds aI):WI f Y n (λG=>cM x G) Z Q:=λA s F G E r P o i a hp=>WX.run h o i a λv u aI bY cz aF h₁ cX b7 b8=>aS1 h₁ o.hd b7.mt.sub cX λds it cj q e z=>hp ds aI bY cz aF it cj q b7 b8 e z
theorem Ig(h:WE f Y n x Z Q)(o:Ok n A)(i:g_ f Y G)(a:At f Y G Z r s F)
  (k:∀v w aI bY cz aF,Q v aI->VR f.w bY cz v w->At f Y G aI bY aF cz->Go G Z aI r bY s aF F cz->P w aF):av (aP f.prog f.w) A (cM x G) P E s:=WX.run h o i a k
noncomputable def EG:ai:=az [114,97,110,103,101]
theorem aS3(h:WE f Y n a Z λv aI=>ZV v λds=>Q ds aI)(hg:f.g EG=N (.type "range"))(S:cG EG Y=N .globalImplicit)(hp:xm a=ah):
  WI f Y n (λG=>cM (.Call (.Name EG p) [a] [] pos) G) Z Q:=λA s F G E r P o i at_ hP=>by
 refine au2 (G:=G) (HZ hp) (Gr (M1 hg S i at_ ?_) (by decide))
 refine au9 (Ig h o i at_ λv u aI bY cz aF h₁ cX b7 b8=>?_);refine jX cX h₁ λi t h₁=>gG (av5 (f:=f) (F:=cz) o.hd h₁.1.2 h₁.1.1) (λx cj q=>?_) λX I z=>z;obtain⟨⟨h',t,rfl⟩,k,w⟩:=q;obtain⟨e_,c9⟩:=b7.ext (t:=t) (h':=h') k;exact gG w (λit dU e=>hP _ aI bY cz _ it dU h₁.2 e_ (b8.trans c9) e.1 e.2) λX I z=>z
theorem At.EH(a:At f Y G Z r s F):r.length<=Wm.len Z.o:=by rw[a.len,nc];exact jO _
structure Bs where
 r:bQ
 s:aE
 F:bP
 o:J aR
 eF:aR->Prop
 b4:bP
structure Lp(f:Cf)(Y:J (ai×cJ))(G:cL)(B:Bs)(bM:dH->Prop)(Z:St)(r:bQ)(F:bP)(s:aE):Prop where
 a:At f Y G Z r s F
 t:fB B.r r B.s s B.F F B.o (own (eS G Z r))
 p:∀b,B.eF b->iQ b F (own (eS G Z r))
 l:∀b,B.eF b->∃y,s.heap.get? b=N y
 g:iG B.b4 F
 j:bM s.heap
def nA(eF:aR->Prop)(h h':dH):Prop:=∀b y,eF b->h.get? b=N y->h'.get? b=N y
def Ck(B:Bs)(ZS:aR->Prop)(bM:dH->Prop):Prop:=∀h h',bM h->nA (λb=>ZS b\/∃o,B.b4 b=N o) h h'->bM h'
def Bs.vS(B:Bs):Prop:=∀b,B.eF b->b∉B.o->B.s.heap.get? b=ao
section
variable{B:Bs}{bM S':dH->Prop}{ZS:aR->Prop}{b9:St}{r':bQ}{s':aE}{F':bP}
theorem Lp.kept(L:Lp f Y G B bM Z r F s)(t:Go G Z b9 r r' s s' F F'):nA B.eF s.heap s'.heap:=λb y z e=>t.kept b y (L.p b z).ow e
theorem Lp.step(hz:∀b,ZS b->B.eF b)(hs:Ck B ZS bM)(L:Lp f Y G B bM Z r F s)(a:At f Y G b9 r' s' F')(t:Go G Z b9 r r' s s' F F'):Lp f Y G B bM b9 r' F' s':=
 ⟨a,L.t.trans t,λb z=>(L.l b z).elim λy e=>((L.p b z).step e t).1,λb z=>(L.l b z).elim λy e=>⟨y,((L.p b z).step e t).2⟩,L.g.trans t.grow,
  hs _ _ L.j λb y z e=>z.elim (λz=>L.kept t b y (hz b z) e) λ⟨o,g⟩=>t.kept b y (λq=>nomatch (L.a.mt.jg b q).symm.trans (L.g b o g)) e⟩
theorem Lp.hole{h':dH}{tk:H}(eY:B.vS)(L:Lp f Y G B bM Z r F s)(k:nA (λb=>¬B.eF b) s.heap h')(l:∀b,B.eF b->∃y,h'.get? b=N y)(j:S' h'):Lp f Y G B S' Z r F {s with heap:=h',toks:=tk}:=
 ⟨L.a.vR L.p k,L.t.vR eY k,L.p,l,L.g,j⟩
theorem Lp.move(L:Lp f Y G B bM Z r F s)(a:At f Y G b9 r' s F)(q:f_ B.r r')(w:∀b∈own (eS G b9 r'),b∈own (eS G Z r)):Lp f Y G B bM b9 r' F s:=
 ⟨a,L.t.weak q (λX z=>z) λb hb=>.inl (w b hb),λb z=>⟨(L.p b z).fr,λh=>(L.p b z).ow (w b h)⟩,L.l,L.g,L.j⟩
theorem Lp.imp(L:Lp f Y G B bM Z r F s)(h:S' s.heap):Lp f Y G B S' Z r F s:=⟨L.a,L.t,L.p,L.l,L.g,h⟩
theorem Lp.trim(L:Lp f Y G B bM Z r F s)(hm:B.r.length<=m):∃r',Lp f Y G B bM (jJ m (j9 fg Z)) r' F s:=
 ((L.a.forget (fg:=fg)).trim L.t.fM hm).elim λEI g=>⟨EI,L.move g.1 g.2.1 λb hb=>L.a.SO (fg:=fg)▸g.2.2 b hb⟩
end
structure Hd{α:Type}(f:Cf)(Y:J (ai×cJ))(G:cL)(A:cQ)(B:Bs)(ZS:aR->Prop)(it:aA)(dD:aT)(bind:α->St->(St->Prop)->Prop)(C:J O->Prop)(bM:H->dH->Prop)(vs:J α):Prop where
 z:∀b,ZS b->B.eF b
 Z:∀j,Ck B ZS (bM j)
 item:∀{j v Z r F s k P E},vs[j]?=N v->C Z.o->bind v Z k->Lp f Y G B (bM j) Z r F s->
  (∀b9 F' s',k b9->iG F F'->Lp f Y G B (bM (j+1)) b9 r F' s'->nA (λb=>B.eF b/\¬ZS b) s.heap s'.heap->P ah s')->Gs (aP f.prog f.w) A it dD G P E s
 done:∀{Z r F s P E},C Z.o->Lp f Y G B (bM vs.length) Z r F s->(∀s',At f Y G Z r s' F->fB B.r r B.s s' B.F F B.o (own (eS G Z r))->nA (λb=>B.eF b/\¬ZS b) s.heap s'.heap->P ak s')->Gs (aP f.prog f.w) A it dD G P E s
theorem hY{α:Type}{A:cQ}{B:Bs}{ZS:aR->Prop}{it:aA}{dD:aT}{bind:α->St->(St->Prop)->Prop}{C:J O->Prop}{bM:H->dH->Prop}{vs:J α}{fg:J ai}{body:J eg}{fS:H}{Q:dZ->St->Prop}{R:nM->aE->Prop}{Φ:H->St->Prop}
  (eE:Hd f Y G A B ZS it dD bind C bM vs)(hm:B.r.length<=fS)(o:Ok n A)(i:g_ f Y G)(h0:∀Z,Φ vs.length Z->C Z.o/\Q .next Z)
  (h1:∀j v Z,vs[j]?=N v->Φ j Z->C Z.o/\bind v Z λb9=>WS f Y n body b9 (zY fg fS (Φ (j+1)) Q))
  (hR:∀fl b9 r' F' u s',Q fl b9->xj f.w r' F' fl u->At f Y G b9 r' s' F'->fB B.r r' B.s s' B.F F' B.o (own (eS G b9 r'))->R (.ok u) s'):
  ∀k j Z r F s,j+k=vs.length->Φ j Z->Lp f Y G B (bM j) Z r F s->eG (aP f.prog f.w) A (.forLoop dD it body [] G) R s:=by
 intro k;induction k with
 |zero=>intro j Z r F s e h L;subst e;have g:=h0 _ h;exact Zw (cC:=λX=>bV) (λX z=>z.elim) (eE.done g.1 L λs' a t X=>hR .next Z r F .next s' g.2 .next a t)
 |succ k ih=>
  intro j Z r F s e h L;have hj:j<vs.length:=e▸xW (jd k);have g:=h1 j _ Z (mZ hj) h;refine Zw (cC:=λs=>∃Z r F,Φ (j+1) Z/\Lp f Y G B (bM (j+1)) Z r F s) (λs z=>z.elim λZ z=>z.elim λr z=>z.elim λF z=>ih (j+1) Z r F s ((xY ..).trans e) z.1 z.2) (eE.item (mZ hj) g.1 g.2 L λb3 iI cj dw X lX I=>?_);refine WX.run dw o i lX.a λfl u iJ i9 ja dU ku qV jo gx=>?_;have iT:=lX.step eE.z (eE.Z _) jo gx;obtain⟨EI,xr⟩:=iT.trim (fg:=fg) hm;cases qV with
  |next=>exact⟨_,EI,ja,Tf ku,xr⟩
  |cont=>exact⟨_,EI,ja,Tf ku,xr⟩
  |brk=>exact hR _ _ EI ja _ dU ku .next xr.a xr.t
  |ret y=>exact hR _ iJ i9 ja _ dU ku (.ret y) iT.a iT.t
theorem Ic.hd{A:cQ}{B:Bs}{ds:J D}(dI:Ic f A bG ds B.b4 h0 h fp P vU)(hh:A.handled=ao)(i:g_ f Y G)(ht:xq dD ts one)(zI:B.eF bG)(eY:B.vS):
  Hd f Y G A B (·=bG) (.ref bG) dD (jL ts one) (λX=>oV) vU (ds.map .d):=by
 have Z:∀j,Ck B (·=bG) (vU j):=λj h h' hs k=>dI.W.frame j h h' hs λb hb y e=>k b y (dI.foot b hb) e;have zi:∀b,b=bG->B.eF b:=λb e=>e▸zI;refine⟨zi,Z,λ{j v aI r F s k P E} e X hb L hP=>?_,λ{aI r F s P E} X L hP=>?_⟩
 ·have hj:j<ds.length:=by
   have:=(vq.mp e).1
   rwa [cO]at this
  refine aZ<|dI.W.item j s _ _ hj L.j λu h' tk hp vQ S=>?_;have k:nA (λb=>b≠bG) s.heap h':=λb y z e=>S b y (λq=>z (fN.mp q)) e;have uN:=L.hole (tk:=tk) eY (λb y z e=>k b y (λq=>z (zi b q)) e) (λb z=>by
   by_cases q:b=bG
   ·exact q▸dI.alive _ _ vQ
   ·exact(L.l b z).elim λy e=>⟨y,k b y q e⟩) vQ
  refine dI.go _ _ _ _ _ _ vQ ?_;refine b_ (dI.item j u hj hp) λd hx=>?_;have ed:=hx.1;have yd:=hx.2;rw[mD,ed]at e
  cases e;exact hV hb hh i uN.a (.d (yd.mono L.g)) ht λb9 s' h a t=>hP b9 F s' h t.grow (uN.step zi (Z _) a t) λb y z e=>uN.kept t b y z.1 (k b y z.2 e)
 ·have L:Lp f Y G B (vU ds.length) aI r F s:=by rw[cO]at L;exact L
  refine aZ<|dI.W.done s _ _ L.j λh' tk S=>?_;have k:nA (λb=>b≠bG) s.heap h':=λb y z e=>S b y (λq=>z (fN.mp q)) e;have k2:nA (λb=>¬B.eF b) s.heap h':=λb y z e=>k b y (λq=>z (zi b q)) e;exact hP _ (L.a.vR L.p k2) (L.t.vR eY k2) λb y z e=>k b y z.2 e
theorem Tg{ds:J D}(e:(ds.map V.d)[j]?=N v):∃d,v=.d d/\ds.drop j=d::ds.drop (j+1):=by
 rw[mD]at e
 cases q:ds[j]? with
 |none=>rw[q]at e;cases e
 |some d=>
  rw[q]at e
  have g:=vq.mp q;exact⟨d,(fW e).symm,g.2▸cv7 g.1⟩
theorem aS4{fg ts:J ai}{one:aD}{dD dY:aT}{body:J eg}{pos:gq}{Q:dZ->St->Prop}(h:WI f Y n (λG=>cM dY G) Z λds aI=>gT fg ts one (Wm.len aI.o) (λZ k=>WS f Y n body Z k) ds (j9 fg aI) Q)
  (ht:xq dD ts one)(hs:∀x G,pP dY G x=pure x):W1 f Y n (.For dD dY body [] pos) Z Q:=λA s F G E r o i a=>by
 refine Ys (h A s F G E r _ o i a λds aI bY cz aF it cj hq b7 b8 e dI=>?_) (λx=>hs x G);obtain⟨bG,fp,P,vU,rfl,dI⟩:=dI;obtain⟨h',tk,rfl⟩:=e;obtain⟨e_,c9⟩:=b7.ext (t:=tk) (h':=h') dI.old;have e5:own (eS G (j9 fg aI) bY)=own (eS G aI bY):=b7.SO;have ap:=iQ.fresh b7.mt dI.new
 have L:Lp f Y G ⟨bY,aF,cz,own (eS G aI bY),(·=bG),cz⟩ (vU 0) (j9 fg aI) bY cz {aF with heap:=h',toks:=tk}:=
  ⟨e_.forget,c9.weak (.refl _) (λX z=>z) (λb hb=>.inl (e5▸hb)),λb e=>e▸⟨ap.fr,e5▸ap.ow⟩,λb e=>e▸dI.alive _ _ dI.Z,.refl _,dI.Z⟩
 refine hY (fg:=fg) (Φ:=λj Z=>gT fg ts one (Wm.len aI.o) (λZ k=>WS f Y n body Z k) (ds.drop j) Z Q) (dI.hd o.hd i ht rfl λb e X=>e▸dI.new) b7.EH o i (λZ h=>⟨cH2,?_⟩) (λj v Z e h=>⟨cH2,?_⟩) (λfl b9 r' F' u s' q y a' t'=>⟨fl,b9,r',F',q,y,a',b8.trans t'⟩) (ds.map V.d).length 0 (j9 fg aI) bY cz _ (mW _) hq L
 ·rw[cO,Kz]at h;exact h
 ·obtain⟨d,rfl,e2⟩:=Tg e;rw[e2]at h;exact h
theorem aS5{A:cQ}{B:Bs}{fg:J ai}{nI:aT}{body:J eg}{fS:H}{Q:dZ->St->Prop}{R:nM->aE->Prop}{bG:H->St->Prop}(hZ:∀b,¬B.eF b)(hm:B.r.length<=fS)(o:Ok n A)(i:g_ f Y G)
  (h:∀k b9,bG k b9->WT f Y n nI b9 λq aI=>dh q (WS f Y n body aI λfl b3=>match fl with
   | .next=>∃m,m<k/\bG m (jJ fS (j9 fg b3))
   | .cont=>∃m,m<k/\bG m (jJ fS (j9 fg b3))
   | .brk=>Q .next b3
   | .ret v=>Q (.ret v) b3) (Q .next aI))
  (hR:∀fl b9 r' F' u s',Q fl b9->xj f.w r' F' fl u->At f Y G b9 r' s' F'->fB B.r r' B.s s' B.F F' B.o (own (eS G b9 r'))->R (.ok u) s'):
  ∀k Z r F s,bG k Z->Lp f Y G B (λX=>oV) Z r F s->eG (aP f.prog f.w) A (.whileLoop nI body [] G) R s:=by
 intro k;induction k using co7 with|ind k ih=>
 intro Z r F s hi L;have ij:Ck B (λX=>bV) (λX=>oV):=λX I u2 u3=>trivial;refine aC6 (cC:=λs=>∃m Z r F,m<k/\bG m Z/\Lp f Y G B (λX=>oV) Z r F s) (λs z=>z.elim λm z=>z.elim λZ z=>z.elim λr z=>z.elim λF z=>ih m z.1 Z r F s z.2.1 z.2.2) (WX.run (h k Z hi) o i L.a λq b aI bY cz aF h₁ cX b7 b8=>?_);subst cX;have uN:=L.step (λX z=>z.elim) ij b7 b8;induction q with
 |false=>exact hR .next aI bY cz .next aF h₁ .next uN.a uN.t
 |true=>
  refine WX.run (show WS f Y n body aI _ from h₁) o i uN.a λfl u b3 iC iI cj dw gU e_ c9=>?_
  have lX:=uN.step (λX z=>z.elim) ij e_ c9;obtain⟨i9,iT⟩:=lX.trim (fg:=fg) hm;cases gU with
  |next=>exact dw.elim λm z=>⟨m,_,i9,iI,z.1,z.2,iT⟩
  |cont=>exact dw.elim λm z=>⟨m,_,i9,iI,z.1,z.2,iT⟩
  |brk=>exact hR .next b3 iC iI .next cj dw .next lX.a lX.t
  |ret y=>exact hR _ b3 iC iI _ cj dw (.ret y) lX.a lX.t
theorem aS6(bG:H->St->Prop)(k:H)(h0:bG k (jJ (Wm.len Z.o) (j9 fg Z)))
  (h:∀k b9,bG k b9->WT f Y n nI b9 λq aI=>dh q (WS f Y n body aI λfl b3=>match fl with
   | .next=>∃m,m<k/\bG m (jJ (Wm.len Z.o) (j9 fg b3))
   | .cont=>∃m,m<k/\bG m (jJ (Wm.len Z.o) (j9 fg b3))
   | .brk=>Q .next b3
   | .ret v=>Q (.ret v) b3) (Q .next aI)):W1 f Y n (.While nI body [] pos) Z Q:=λA s F G E r o i a=>by
 have L0:Lp f Y G ⟨r,s,F,own (eS G Z r),λX=>bV,λX=>ao⟩ (λX=>oV) Z r F s:=⟨a,.refl ..,λX z=>z.elim,λX z=>z.elim,(λX I z=>nomatch z:iG (λX=>ao) F),cH2⟩;obtain⟨r',L⟩:=L0.trim (fg:=fg) a.EH;exact au3 (aS5 (λX z=>z) a.EH o i h (λfl b9 r' F' u s' q y a' t'=>⟨fl,b9,r',F',q,y,a',t'⟩) k _ r' F s h0 L)
noncomputable abbrev Nc(bZ:J aT)(G:cL):dJ aD:=forIn bZ ah λc r=>if r=ah then do let ok<-oY c G (cM c G);pure (an0 ok)else pure (an0 r)
abbrev mO(f:Cf)(Y:J (ai×cJ))(n:H)(bZ:J aT):=WX f Y (λX I (b:aD)(b':aD)=>b=b') n (Nc bZ)
theorem aS7{α:Type}{g:α->aD->dJ (an1 aD)}(h:∀x,g x ak=pure (.yield ak)):∀l:J α,forIn l ak g=pure ak:=λi_=>by
 induction i_ with
 |nil=>exact rfl
 |cons x l ih=>exact by rw[Qg,h,pure_bind];exact ih
theorem ik(h:Q ah Z):mO f Y n [] Z Q:=λA s F G E r o i a=>bg (.oG a rfl h)
theorem aS8(h:WT f Y n c Z λq aI=>dh q (mO f Y n l aI Q) (Q ak aI)):mO f Y n (c::l) Z Q:=λA s F G E r o i a=>by
 show av _ _ (Nc (c::l) G) _ _ _
 simp only[Nc,Qg,if_true];refine aJ (aJ (WX.run h o i a λq b aI bY cz aF h₁ cX b7 b8=>bg ?_));subst cX;induction q with
 |true=>exact gG (h₁ A aF cz G E bY o i b7) (λX I p=>.of b8 p) λX I z=>z
 |false=>dsimp only;rw[aS7 (λX=>rfl)];exact bg ⟨ak,aI,bY,cz,h₁,rfl,b7,b8⟩
theorem aS9{dY:aT}{G:cL}(g0:lP[dp]?=N ⟨dD,dY,bZ,0⟩)(g1:lP[dp+1]?=ao):
  Qh (.ListComp aY lP scope pos) dp it acc G=(do
   sy dY.pos
   match<-pyNext it with
   |none=>pure (.done .next)
   |some v=>
    Ka dD it v
    sC dD G v
    let mut ok:=true
    for c in bZ do
     if ok then ok<-oY c G (cM c G)
    if ok then
     (do let _<-fF (.builtin "list.append") [acc,<-cM aY G])
    sq (.compLoop (.ListComp aY lP scope pos) dp it acc G)):=by
 delta Qh;dsimp only;rw[g0];dsimp only;rw[g1];rfl
def aT0(M:jP)(A:cQ)(G:cL)(bZ:J aT)(aY:aT)(acc:aA)(R:nM->aE->Prop)(cC:aE->Prop)(b:aD)(s:aE):Prop:=match b with
 |false=>R (.ok .next) s
 |true=>av M A (Nc bZ G) (λok cj=>match ok with
  |false=>cC cj
  |true=>av M A (cM aY G) (λx dU=>av M A (fF (.builtin "list.append") [acc,x]) (λX nV=>cC nV) (w9 M A G R) dU) (w9 M A G R) cj) (w9 M A G R) s
theorem im{G:cL}(g0:lP[dp]?=N ⟨dD,dY,bZ,0⟩)(g1:lP[dp+1]?=ao)
  (hN:∀s,cC s->eG (aP prog w) A (.compLoop (.ListComp aY lP scope pos) dp it acc G) R s)(h:Gs (aP prog w) A it dD G (aT0 (aP prog w) A G bZ aY acc R cC) (w9 (aP prog w) A G R) s):eG (aP prog w) A (.compLoop (.ListComp aY lP scope pos) dp it acc G) R s:=by
 refine m_ ?_
 show av _ A ((Qh (.ListComp aY lP scope pos) dp it acc G).onRaise (λx=>do Df x G;PO x)) _ _ s
 refine KU ?_;rw[aS9 g0 g1];refine at_ (dR h λr aF q=>?_);induction r with
 |none=>exact bg q
 |some v=>
  refine dR q λX Zx q=>dR q λX cj q=>dR q λok dU q=>?_;induction ok with
  |false=>exact bg ⟨⟨rfl,rfl⟩,hN _ q⟩
  |true=>exact aJ (dR q λx nV q=>dR q λX cD1 q=>bg (bg ⟨⟨rfl,rfl⟩,hN _ q⟩))
noncomputable def Ih(G:cL)(acc:J (ai×aR))(p:ai×cJ):J (ai×aR):=if p.2== .free then(p.1,(G.cells.lookup p.1).getD 0)::acc else acc
theorem aT1{α β:Type}{b:α->β->dJ (an1 β)}{g:β->α->β}:∀(l:J α)(r:β),(∀x∈l,∀r,b x r=pure (.yield (g r x)))->forIn l r b=(pure (l.foldl g r):dJ β):=λi_=>by
 induction i_ with
 |nil=>exact λX I=>rfl
 |cons x l ih=>intro r h;rw[Qg,h x (.head _),pure_bind];exact ih _ λy m=>h y (.tail _ m)
theorem aT2(ha:G.cells.lookup x=N a):∀(names:J (ai×cJ))(acc:J (ai×aR)),(x,Dt)∈names\/acc.lookup x=N a->(names.foldl (Ih G) acc).lookup x=N a:=λi_=>by
 induction i_ with
 |nil=>exact λacc h=>h.resolve_left nofun
 |cons p names ih=>exact λacc h=>ih _ (by
  have eY:((x,(G.cells.lookup x).getD 0)::acc).lookup x=N a:=by rw[ha,Bf,qy];rfl
  by_cases q:p=(x,.free)
  ·subst q;exact .inr eY
  ·refine h.imp (λh=>(iV.mp h).resolve_left (FY q)) λh=>?_;unfold Ih
   split
   ·by_cases e:p.1=x
    ·rw[e];exact eY
    ·rw[Bf,Kg (FY e)];exact h
   ·exact h)
theorem aT3{names:J (ai×cJ)}(h:∀x,(x,Dt)∈names->∃a,G.cells.lookup x=N a):
  ∃cl,(∀scope:ly,scope.names=names->aj8 scope G=pure cl)/\∀x a,(x,Dt)∈names->G.cells.lookup x=N a->cl.lookup x=N a:=by
 refine⟨names.foldl (Ih G) [],λscope e=>?_,λx a hx ha=>aT2 ha _ _ (.inl hx)⟩;subst e;refine Qi ?_ (pure_bind (scope.names.foldl (Ih G) []) λx=>(pure x:dJ _));refine bR (·>>=λx=>(pure x:dJ _)) (aT1 scope.names [] λp hp r=>?_);obtain⟨x,k⟩:=p;unfold Ih;induction k with
 |free=>
  obtain⟨a,e⟩:=h x hp
  show(cellOf G x>>=_)=_
  unfold cellOf;rw[e];rfl
 |_=>rfl
theorem Th:cG x (jC m cs)=N sl->x∈cs/\cG x m=N sl:=by
 induction cs with
 |nil=>exact λh=>nomatch h
 |cons y cs ih=>
  have go:∀o,cG y m=o->cG x (match o with|some s=>(y,s)::jC m cs|none=>jC m cs)=N sl->x∈y::cs/\cG x m=N sl:=λo=>by
   induction o with
   |none=>exact λX h=>⟨.tail _ (ih h).1,(ih h).2⟩
   |some z=>
    intro q h;rw[tF]at h
    by_cases g:x=y
    ·rw[dM g]at h;exact⟨g▸ .head _,g▸q.trans h⟩
    ·rw[cF g]at h;exact⟨.tail _ (ih h).1,(ih h).2⟩
  exact go _ rfl
theorem Nd:j_ m cs=ah->∀x∈cs,∃h,cG x m=N (.C h):=by
 induction cs with
 |nil=>exact λX=>nofun
 |cons y cs ih=>
  have go:∀o,cG y m=o->(match o with|some (.C X)=>j_ m cs|X=>ak)=ah->∀x∈y::cs,∃h,cG x m=N (.C h):=λo=>by
   induction o with
   |none=>exact λX h=>nomatch h
   |some sl=>induction sl with
    |L X=>exact λX h=>nomatch h
    |C c=>exact λq h=>gv.mpr ⟨⟨c,q⟩,ih h⟩
  exact go _ rfl
theorem Nf:cG x (mJ ts)=N sl->x∈ts/\sl=.L ao:=by
 induction ts with
 |nil=>exact λh=>nomatch h
 |cons y ts ih=>
  intro h;have h:cG x ((y,jA.L ao)::mJ ts)=N sl:=h;rw[tF]at h
  by_cases g:x=y
  ·rw[dM g]at h;exact⟨g▸ .head _,(fW h).symm⟩
  ·rw[cF g]at h;exact⟨.tail _ (ih h).1,(ih h).2⟩
theorem Ti{α:Type}{x:ai}{a:α}{m l:J (ai×α)}:cG x (l++m)=N a->cG x l=N a\/cG x m=N a:=by
 induction l with
 |nil=>exact .inr
 |cons p l ih=>
  intro h;rw[List.cons_append,tF]at h
  rw[tF];by_cases g:x=p.1
  ·rw[dM g]at h|-;exact .inl h
  ·rw[cF g]at h|-;exact ih h
def jt(Y names:J (ai×cJ)):J (ai×cJ):=names.map λp=>match p.2,cG p.1 Y with| .free,N .cell=>(p.1,.cell)|X,I=>p
theorem aT4{scope:ly}(i:g_ f Y G):(Dh scope G).names=jt Y scope.names:=by
 unfold Dh jt;dsimp only;congr 1;funext p;obtain⟨x,k⟩:=p;have S:G.kindOf x=cG x Y:=by unfold PR;rw[i.Y,<-Aw]
 rw[S,i.kind];dsimp only;induction k with
 |free=>
  cases cG x Y with
  |none=>rfl
  |some k'=>cases k'<;>rfl
 |_=>rfl
structure vV(Y:J (ai×cJ))(cs ts:J ai)(scope:ly):Prop where
 cell:∀y∈scope.names,y.2≠.cell
 kind:scope.kind=.function
 names:∀x∈scope.names,x.2=.local->scope.names.lookup x.1=N .local
 free:∀x,(x,Dt)∈scope.names->x∈cs
 jC:∀x∈cs,(x,Dt)∈scope.names/\cG x (jt Y scope.names)=N .cell
 aT5:∀x∈ts,cG x (jt Y scope.names)=N .local
theorem Mt.enter{h':dH}{t:H}(m:Mt w B r s F L)(k:∀b y,s.heap.get? b=N y->h'.get? b=N y)(hC:s.heap.get? C=ao)(ho:jR (p,o)=[C])(hr:OR w r F h' p o):
  Mt w B r {s with heap:=h',toks:=t} F (L++[(p,o)])/\fB r r s {s with heap:=h',toks:=t} F F (own L) (own (L++[(p,o)])):=by
 have ap:=iQ.fresh m hC;have e:own (L++[(p,o)])=own L++[C]:=by rw[jf,oE,ho];rfl
 refine⟨⟨λa y q=>k a y (m.sub a y q),m.base,λq hq=>?_,λa ha=>?_,?_⟩,⟨.refl _,⟨_,_,rfl⟩,.refl _,λX I q=>.inl q,λa q=>?_,λa y X q=>k a y q⟩⟩
 ·rcases gK.mp hq with hq|hq
  ·exact(m.live q hq).step (.refl _) (.refl _) λb X y e=>k b y e
  ·rw[fN.mp hq];exact hr
 ·rw[e]at ha
  rcases gK.mp ha with ha|ha
  ·exact m.jg a ha
  ·rw[fN.mp ha];exact ap.fr
 ·rw[e];refine qz.mpr ⟨m.nd,by simp,λa ha b hb q=>?_⟩
  rw[fN.mp hb]at q
  exact ap.ow (q▸ha)
 ·rw[e]at q
  rcases gK.mp q with q|q
  ·exact .inl q
  ·rw[fN.mp q];exact .inr hC
theorem Mt.Ng{w:bU}{B:bP}{L:uK}{D:aR}{o:fH}{kc:bQ}{bJ:aE}{Cm:bP}{ow:J aR}(m:Mt w B r s F L)(t:fB kc r bJ s Cm F ow (own L))(ap:iQ D F (own L))(e:s.heap.get? D=N o)(hD:bJ.heap.get? D=ao):
  ∃F',F' D=N o/\iG F F'/\(∀a,a≠D->F' a=F a)/\Mt w B r s F' L/\fB kc r bJ s Cm F' ow (own L):=by
 have sl:iG F (λa=>if a=D then N o else F a):=λa x q=>by
  have:a≠D:=λh=>by rw[h,ap.fr]at q;cases q
  show(if a=D then N o else F a)=N x
  rw[cF this];exact q
 refine⟨λa=>if a=D then N o else F a,dM rfl,sl,λa h=>cF h,⟨λa x q=>?_,λa x q=>sl a x (m.base a x q),λp hp=>(m.live p hp).step (.refl _) sl λX I u2 e=>e,λa ha=>?_,m.nd⟩,⟨t.fM,t.same,t.grow.trans sl,λa x q=>?_,t.tK,t.kept⟩⟩
 ·by_cases h:a=D
  ·subst h;have:N o=N x:=(dM rfl).symm.trans q;rw[e];exact this
  ·exact m.sub a x ((cF h).symm.trans q)
 ·have:a≠D:=λh=>ap.ow (h▸ha);exact(cF this).trans (m.jg a ha)
 ·by_cases h:a=D
  ·exact .inr (.inr (h▸hD))
  ·exact t.vP a x ((cF h).symm.trans q)
theorem Mt.io{w:bU}{B:bP}{o:J O}{D:aR}{x:O}{kc:bQ}{bJ:aE}{Cm:bP}{ow:J aR}(m:Mt w B r s F (r.zip o))(len:r.length=o.length)(t:fB kc r bJ s Cm F ow (own (r.zip o)))(ap:iQ D F (own (r.zip o)))(hx:jR ((D,D),x)=[D])
  (hr:OR w r F s.heap (D,D) x)(hD:bJ.heap.get? D=ao):Mt w B (r++[(D,D)]) s F ((r++[(D,D)]).zip (o++[x]))/\fB kc (r++[(D,D)]) bJ s Cm F ow (own ((r++[(D,D)]).zip (o++[x]))):=by
 have q:f_ r (r++[(D,D)]):=f_.app _ _;have e:own ((r++[(D,D)]).zip (o++[x]))=own (r.zip o)++[D]:=by rw[HV len,jf,oE,hx];rfl
 refine⟨⟨m.sub,m.base,λp hp=>?_,λa ha=>?_,?_⟩,⟨t.fM.trans q,t.same,t.grow,t.vP,λa ha=>?_,t.kept⟩⟩
 ·rw[HV len]at hp
  rcases gK.mp hp with hp|hp
  ·exact(m.live p hp).step q (.refl _) λX I u2 e=>e
  ·rw[fN.mp hp];exact hr.step q (.refl _) λX I u2 e=>e
 ·rw[e]at ha
  rcases gK.mp ha with ha|ha
  ·exact m.jg a ha
  ·rw[fN.mp ha];exact ap.fr
 ·rw[e];refine qz.mpr ⟨m.nd,by simp,λa ha b hb q=>?_⟩
  rw[fN.mp hb]at q
  exact ap.ow (q▸ha)
 ·rw[e]at ha
  rcases gK.mp ha with ha|ha
  ·exact t.tK a ha
  ·rw[fN.mp ha];exact .inr hD
theorem Ii{scope:ly}(i:g_ f Y G)(S:scope.kind=.function):g_ f (jt Y scope.names) (Gh scope cl C G):=
 ⟨S,aT4 i,i.gl,i.bi⟩
theorem aT6(k:H)(m:Fm)(o:J O):⟨m,(jJ k ⟨m,o⟩).o⟩=jJ k ⟨m,o⟩:=by
 unfold Wm.jJ;split
 ·rfl
 ·split<;>rfl
theorem aT7(k:H)(v:V)(m:Fm)(o:J O):⟨m,(nt k v ⟨m,o⟩).o⟩=nt k v ⟨m,o⟩:=by unfold Wm.nt;split<;>rfl
def Cn(m:Fm):Prop:=∀x sl,cG x m=N sl->sl=.L ao\/∃h,sl=.C h
section
variable{B:Bs}{bM:dH->Prop}{m:Fm}{o:J O}{iJ:St}{i9:bQ}{dU:aE}{ja:bP}
theorem At.back(hm:Cn m)(a:At f Y G ⟨m,o⟩ r s F)(jo:At f Y G iJ i9 dU ja)(q:f_ r i9):At f Y G ⟨m,iJ.o⟩ i9 dU ja/\own (eS G ⟨m,iJ.o⟩ i9)=own (eS G iJ i9):=by
 have eo:own (eS G ⟨m,iJ.o⟩ i9)=own (eS G iJ i9):=by rw[nZ,nZ]
 refine⟨⟨jo.len,a.fk,jo.mt.sub,jo.mt.base,λp hp=>(gK.mp hp).elim (λhp=>jo.mt.live p (iN _ hp)) λhp=>?_,λb hb=>jo.mt.jg b (eo▸hb),eo▸jo.mt.nd⟩,eo⟩;rw[fN.mp hp];refine jo.frame.elim λmc hn=>⟨mc,hn.1,λx sl e=>?_⟩;rcases hm x sl e with rfl|⟨h,rfl⟩
 ·exact λv q=>nomatch q
 ·exact a.frame.elim λX hv=>(hv.2 x _ e).elim λp h=>⟨p,q _ _ h.1,h.2⟩
theorem Lp.turn(hm:Cn m)(L:Lp f Y G B bM ⟨m,o⟩ r F s)(iT:Lp f Y G B Tj iJ i9 ja dU)(q:f_ r i9):∃uO,Lp f Y G B Tj ⟨m,(jJ (Wm.len o) ⟨m,iJ.o⟩).o⟩ uO ja dU/\f_ r uO:=by have b:=L.a.back hm iT.a q;refine(b.1.trim q L.a.EH).elim λuO g=>⟨uO,?_,g.2.1⟩;rw[aT6];exact iT.move g.1 (L.t.fM.trans g.2.1) λc hc=>b.2▸g.2.2 c hc
theorem Lp.aT8(hm:Cn m)(L:Lp f Y G B bM ⟨m,o⟩ r F s)(iT:Lp f Y G B Tj iJ i9 ja dU)(q:f_ r i9)(y:VR f.w i9 ja v u):∃uO,Lp f Y G B Tj ⟨m,(nt (Wm.len o) v ⟨m,iJ.o⟩).o⟩ uO ja dU/\f_ r uO/\VR f.w uO ja v u:=by have b:=L.a.back hm iT.a q;refine(b.1.nt q L.a.EH y).elim λuO g=>⟨uO,?_,g.2.1,g.2.2.2⟩;rw[aT7];exact iT.move g.1 (L.t.fM.trans g.2.1) λc hc=>b.2▸g.2.2.1 c hc
end
structure Cs(f:Cf)(Y:J (ai×cJ))(G:cL)(B:Bs)(bM:dH->Prop)(D:aR)(eF:aR->Prop)(h₀:dH)(us:J V)(Z:St)(r:bQ)(F:bP)(s:aE)(ys:cT aA):Prop where
 L:Lp f Y G B bM Z r F s
 v:gh f.w r F us ys.toList
 d:s.heap.PlainList D ys
 k:nA eF h₀ s.heap
inductive Nh(f:Cf)(Y:J (ai×cJ))(G:cL)(B:Bs)(bM:dH->Prop)(D:aR)(eF:aR->Prop)(h₀:dH)(m:Fm)(l:H)(P:J V->J O->Prop)(s:aE):Prop
 |mk (us o r F ys):us.length+l<=1048576->P us o->Cs f Y G B bM D eF h₀ us ⟨m,o⟩ r F s ys->Nh f Y G B bM D eF h₀ m l P s
theorem ip{α:Type}{cenv:cL}{A:cQ}{B:Bs}{ZS eF:aR->Prop}{it:aA}{bind:α->St->(St->Prop)->Prop}{C:J O->Prop}{bM:H->dH->Prop}{vs:J α}{aY dD dY:aT}{bZ:J aT}{lP:J Kc}{dp:H}{scope:ly}{pos:gq}{D:aR}{m:Fm}{R:nM->aE->Prop}{Φ:H->J V->J O->Prop}{K:J V->J O->Prop}{h₀:dH}
  (g0:lP[dp]?=N ⟨dD,dY,bZ,0⟩)(g1:lP[dp+1]?=ao)(eE:Hd f Y cenv A B ZS it dD bind C bM vs)(eY:B.vS)(zD:B.eF D)(nD:¬ZS D)(hZ:∀b,eF b->B.eF b/\¬ZS b/\b≠D)(hm:Cn m)(o:Ok n A)(i:g_ f Y cenv)
  (h0:∀us o,Φ vs.length us o->C o/\K us o)
  (h1:∀j v us o,vs[j]?=N v->Φ j us o->C o/\bind v ⟨m,o⟩ λZ=>mO f Y n bZ Z λq Z=>dh q (WE f Y n aY Z λu Z=>Φ (j+1) (us++[u]) (nt (Wm.len o) u ⟨m,Z.o⟩).o) (Φ (j+1) us (jJ (Wm.len o) ⟨m,Z.o⟩).o))
  (hR:∀us o' r' F' s' ys,K us o'->At f Y cenv ⟨m,o'⟩ r' s' F'->fB B.r r' B.s s' B.F F' B.o (own (eS cenv ⟨m,o'⟩ r'))->iQ D F' (own (eS cenv ⟨m,o'⟩ r'))->gh f.w r' F' us ys.toList->s'.heap.PlainList D ys->us.length<=1048576->(∀b,B.eF b->iQ b F' (own (eS cenv ⟨m,o'⟩ r')))->iG B.b4 F'->nA eF h₀ s'.heap->R (.ok .next) s'):
  ∀k j us o r F s ys,j+k=vs.length->us.length+k<=1048576->Φ j us o->Cs f Y cenv B (bM j) D eF h₀ us ⟨m,o⟩ r F s ys->eG (aP f.prog f.w) A (.compLoop (.ListComp aY lP scope pos) dp it (.ref D) cenv) R s:=by
 intro k;induction k with
 |zero=>intro j us ob r F s ys e hl h c;subst e;have g:=h0 us ob h;exact im g0 g1 (cC:=λX=>bV) (λX z=>z.elim) (eE.done g.1 c.L λs' a t k=>hR us ob r F s' ys g.2 a t (c.L.p D zD) c.v (c.d.at λX e=>k _ _ ⟨zD,nD⟩ e) hl c.L.p c.L.g λb y z e=>k b y ⟨(hZ b z).1,(hZ b z).2.1⟩ (c.k b y z e))
 |succ k ih=>
  intro j us ob r F s ys e hl h c;have hj:j<vs.length:=e▸xW (jd k);have g:=h1 j _ us ob (mZ hj) h;refine im g0 g1 (cC:=Nh f Y cenv B (bM (j+1)) D eF h₀ m k (Φ (j+1))) (λs z=>z.rec λus o r F ys h1 h2 h3=>ih (j+1) us o r F s ys ((xY ..).trans e) h1 h2 h3)
   (eE.item (mZ hj) g.1 g.2 c.L λb3 iI cj dw Tn lX FT=>?_)
  have kz:∀{s':aE},nA B.eF cj.heap s'.heap->nA eF h₀ s'.heap:=λq b y z e=>q b y (hZ b z).1 (FT b y ⟨(hZ b z).1,(hZ b z).2.1⟩ (c.k b y z e));have Ni:cj.heap.PlainList D ys:=c.d.at λX e=>FT _ _ ⟨zD,nD⟩ e;clear FT g h;refine WX.run dw o i lX.a λq b iJ i9 ja dU ku qV jo gx=>?_;subst qV;have iT:=lX.step eE.z (eE.Z _) jo gx;have To:=lX.kept gx;have iq:=Tn.trans gx.grow;have aT9:dU.heap.PlainList D ys:=Ni.at λX e=>To _ _ zD e;induction q with
  |false=>exact(c.L.turn hm iT gx.fM).elim λuO w=>⟨us,_,uO,ja,ys,W2 hl,ku,w.1,c.v.Eu w.2 iq,aT9,kz To⟩
  |true=>
   refine WX.run (show WE f Y n aY iJ _ from ku) o i jo λv u ir EI aU0 nV s_ aU1 H_ AE=>?_
   have xr:=iT.step eE.z (eE.Z _) H_ AE;have i5:nA B.eF cj.heap nV.heap:=λb y z e=>iT.kept AE b y z (To b y z e);have aU2:nV.heap.PlainList D ys:=Ni.at λX e=>i5 _ _ zD e;have hy:ys.size=us.length:=(c.v.length.trans o5).symm;refine aZ<|wpAny_list_append_plain (hsz:=by rw[hy];unfold gX;exact bN (bN (gF ..) hl) (by decide:1048576<=2^24)) aU2 λaU3 jp aU4=>?_
   have kD:nA (·≠D) nV.heap aU3:=λb y q e=>aU4.extBut b y q e;have aU5:=xr.hole (tk:=nV.toks) eY (λb y z e=>kD b y (λq=>z (q▸zD)) e) (λb z=>by
    by_cases q:b=D
    ·exact q▸jp.elim λn e=>⟨_,e⟩
    ·exact(xr.l b z).elim λy e=>⟨y,kD b y q e⟩) (eE.Z _ _ _ xr.j λb y z e=>kD b y (λq=>z.elim (λz=>nD (q▸z)) λ⟨x,z⟩=>nomatch (xr.p D zD).fr.symm.trans (xr.g D x (q▸z))) e)
   exact(c.L.aT8 hm aU5 (gx.fM.trans AE.fM) aU1).elim λaU6 w=>⟨us++[v],_,aU6,aU0,ys.push u,by rw[f6,wB,rC [v].length];exact hl,s_,w.1,by rw[Qj];exact(c.v.Eu w.2.1 (iq.trans AE.grow)).append (.cons w.2.2 .nil),jp,λb y z e=>kD b y (hZ b z).2.2 (kz i5 b y z e)⟩
def vW(f:Cf)(Y:J (ai×cJ))(n:H)(m:Fm)(ts:J ai)(one:aD)(bZ:J aT)(aY:aT)(ds:J D)(K:J V->J O->Prop)(j:H)(us:J V)(o:J O):Prop:=
 jW ts one m (λZ k=>mO f Y n bZ Z k) (λZ k=>WE f Y n aY Z k) (ds.drop j) o λvs o=>K (us++vs) o
section
variable{ts:J ai}{one:aD}{m:Fm}{bZ:J aT}{aY:aT}{ds:J D}{K:J V->J O->Prop}{us:J V}{o:J O}
theorem vW.end_(h:vW f Y n m ts one bZ aY ds K (ds.map V.d).length us o):K us o:=by
 unfold vW at h
 rw[cO,Kz]at h
 exact j3 us▸h
theorem vW.item(e:(ds.map V.d)[j]?=N v)(h:vW f Y n m ts one bZ aY ds K j us o):jL ts one v ⟨m,o⟩ λZ=>mO f Y n bZ Z λq Z=>dh q (WE f Y n aY Z λu Z=>vW f Y n m ts one bZ aY ds K (j+1) (us++[u]) (nt (Wm.len o) u ⟨m,Z.o⟩).o) (vW f Y n m ts one bZ aY ds K (j+1) us (jJ (Wm.len o) ⟨m,Z.o⟩).o):=by
 obtain⟨d,rfl,e2⟩:=Tg e;unfold vW at h
 rw[e2]at h
 have e9:∀(u:V)(o:J O),vW f Y n m ts one bZ aY ds K (j+1) (us++[u]) o=jW ts one m (λZ k=>mO f Y n bZ Z k) (λZ k=>WE f Y n aY Z k) (ds.drop (j+1)) o (Se u λvs o=>K (us++vs) o):=λu o=>bR (jW ts one m _ _ _ o) (funext λvs=>by funext o;rw[jx];rfl)
 have h:jL ts one (.d d) ⟨m,o⟩ λZ=>mO f Y n bZ Z λq Z=>dh q (WE f Y n aY Z (Sf (Wm.len o) m λv o=>jW ts one m (λZ k=>mO f Y n bZ Z k) (λZ k=>WE f Y n aY Z k) (ds.drop (j+1)) o (Se v λvs o=>K (us++vs) o))) (lV (jJ (Wm.len o) ⟨m,Z.o⟩).o λo=>vW f Y n m ts one bZ aY ds K (j+1) us o):=h;delta Sf at h
 simp only[w_,o7,<-e9]at h
 exact h
end
theorem js{B:Bs}{ts:J ai}{one:aD}{aY:aT}{bZ:J aT}{ds:J D}{m:Fm}{K:J V->J O->Prop}{us:J V}{ys:cT aA}
  (g0:lP[dp]?=N ⟨dD,dY,bZ,0⟩)(g1:lP[dp+1]?=ao)(dI:Ic f A bG ds B.b4 h₁ dw fp P vU)(ht:xq dD ts one)(eY:B.vS)(zI:B.eF bG)(zD:B.eF EJ)(nD:EJ≠bG)(hZ:∀b,eF b->B.eF b/\b≠bG/\b≠EJ)(hm:Cn m)(o:Ok n A)(i:g_ f Y cenv)
  (hR:∀us o' r' F' s' ys,K us o'->At f Y cenv ⟨m,o'⟩ r' s' F'->fB B.r r' B.s s' B.F F' B.o (own (eS cenv ⟨m,o'⟩ r'))->iQ EJ F' (own (eS cenv ⟨m,o'⟩ r'))->gh f.w r' F' us ys.toList->s'.heap.PlainList EJ ys->us.length<=1048576->(∀b,B.eF b->iQ b F' (own (eS cenv ⟨m,o'⟩ r')))->iG B.b4 F'->nA eF h₀ s'.heap->R (.ok .next) s')
  (hl:us.length+ds.length<=1048576)(h:jW ts one m (λZ k=>mO f Y n bZ Z k) (λZ k=>WE f Y n aY Z k) ds ob λvs o=>K (us++vs) o)(c:Cs f Y cenv B (vU 0) EJ eF h₀ us ⟨m,ob⟩ r F s ys):eG (aP f.prog f.w) A (.compLoop (.ListComp aY lP scope pos) dp (.ref bG) (.ref EJ) cenv) R s:=
 ip (Φ:=vW f Y n m ts one bZ aY ds K) g0 g1 (dI.hd o.hd i ht zI eY) eY zD nD hZ hm o i (λus o h=>⟨cH2,h.end_⟩) (λj v us o e h=>⟨cH2,h.item e⟩) hR (ds.map V.d).length 0 us ob r F s ys (mW _) (by rw[cO];exact hl) h c
theorem aU7{aY tM h_:aT}{bZ:J aT}{G:cL}:Qh (.ListComp aY [⟨.Name x1 p1,tM,[],0⟩,⟨EK,h_,bZ,0⟩] scope pos) 0 it acc G=(do
   sy tM.pos
   match<-pyNext it with
   |none=>pure (.done .next)
   |some v=>
    Ka (.Name x1 p1) it v
    sC (.Name x1 p1) G v
    let x<-cM h_ G
    sy h_.pos
    let x<-pP h_ G x
    let Nj<-A9 [x] (ry x)
    let _<-runOwn (.compStart (.ListComp aY [⟨.Name x1 p1,tM,[],0⟩,⟨EK,h_,bZ,0⟩] scope pos) 1 Nj acc G) G
    sq (.compLoop (.ListComp aY [⟨.Name x1 p1,tM,[],0⟩,⟨EK,h_,bZ,0⟩] scope pos) 0 it acc G)):=by
 rfl
theorem aU8{aY:aT}{bZ:J aT}(h0:eG (aP prog w) A (.compLoop (.ListComp aY [g1,⟨dD,dY,bZ,0⟩] scope pos) 1 it acc G) R s)
  (h:av (aP prog w) A (ry it) (λyq s'=>eG (aP prog w) A (.compLoop (.ListComp aY [g1,⟨dD,dY,bZ,0⟩] scope pos) 1 yq acc G) R s') (DH (aP prog w) A G λx s'=>R (.error x) s') s):
  eG (aP prog w) A (.compStart (.ListComp aY [g1,⟨dD,dY,bZ,0⟩] scope pos) 1 it acc G) R s:=by
 refine m_ ?_
 show av _ _ ((Xh (.ListComp aY [g1,⟨dD,dY,bZ,0⟩] scope pos) 1 it acc G).onRaise (λx=>do Df x G;sy cp2)) _ _ s
 refine DG (gG (E:=DH (aP prog w) A G λx s'=>R (.error x) s') ?_ (λX I q=>q) λX I hx=>aJ (gG hx (λX I e=>qF e) λX I e=>e));unfold Xh
 show av _ _ (ask>>=_) _ _ s
 refine aJ (aZ (aj7 (KP ?_)))
 split
 ·first
   |exact aJ (bg (bg (rz ⟨rfl,rfl⟩ h0)))
   |exact bg (rz ⟨rfl,rfl⟩ h0)
 ·first
   |exact aJ (bg (aJ (sO (at_ (dR h λyq s' q=>bg (rz ⟨rfl,rfl⟩ q))))))
   |exact aJ (sO (at_ (dR h λyq s' q=>bg (rz ⟨rfl,rfl⟩ q))))
   |(refine aJ (sO ?_);show av _ _ (sy dY.pos>>=_) _ _ s;exact at_ (dR h λyq s' q=>bg (rz ⟨rfl,rfl⟩ q)))
def aU9(M:jP)(A:cQ)(G:cL)(h_:aT)(e:aT)(acc:aA)(R:nM->aE->Prop)(cC:aE->Prop)(b:aD)(s:aE):Prop:=match b with
 |false=>R (.ok .next) s
 |true=>av M A (cM h_ G) (λx dU=>av M A (ry x) (λNj nV=>eG M A (.compStart e 1 Nj acc G) (λr s'=>r=.ok .next/\cC s') nV) (w9 M A G R) dU) (w9 M A G R) s
theorem ka{aY:aT}{bZ:J aT}{G:cL}(xu:∀x,pP h_ G x=pure x)
  (hN:∀s,cC s->eG (aP prog w) A (.compLoop (.ListComp aY [⟨.Name x1 p1,tM,[],0⟩,⟨EK,h_,bZ,0⟩] scope pos) 0 it acc G) R s)(h:Gs (aP prog w) A it (.Name x1 p1) G (aU9 (aP prog w) A G h_ (.ListComp aY [⟨.Name x1 p1,tM,[],0⟩,⟨EK,h_,bZ,0⟩] scope pos) acc R cC) (w9 (aP prog w) A G R) s):
  eG (aP prog w) A (.compLoop (.ListComp aY [⟨.Name x1 p1,tM,[],0⟩,⟨EK,h_,bZ,0⟩] scope pos) 0 it acc G) R s:=by
 refine m_ ?_
 show av _ A ((Qh (.ListComp aY [⟨.Name x1 p1,tM,[],0⟩,⟨EK,h_,bZ,0⟩] scope pos) 0 it acc G).onRaise (λx=>do Df x G;PO x)) _ _ s
 refine KU ?_;rw[aU7];refine at_ (dR h λr aF q=>?_);induction r with
 |none=>exact bg q
 |some v=>refine dR q λX Zx q=>dR q λX cj q=>dR q λx dU q=>at_ (aJ (iZ (xu x) (lI q λNj nV q=>?_)));refine dR (P:=λX s'=>cC s') (QL rfl (Yl q λr s' q=>?_) nb) λX s' q=>bg ⟨⟨rfl,rfl⟩,hN _ q⟩;rw[q.1];exact q.2
def Nk(f:Cf)(Y:J (ai×cJ))(n:H)(m:Fm)(x1 x2:ai)(h_:aT)(bZ:J aT)(aY:aT)(K:J V->J O->Prop)(ds:J D)(us:J V)(o:J O):Prop:=
 xe x1 x2 m (λZ k=>WI f Y n (λG=>cM h_ G) Z k) (λZ k=>mO f Y n bZ Z k) (λZ k=>WE f Y n aY Z k) ds us o K
theorem Cs.to2{cenv:cL}{B:Bs}{bM:dH->Prop}{D:aR}{us:J V}{ys:cT aA}{iJ:St}{i9:bQ}{ja:bP}{dU:aE}{ZS:aR->Prop}{xw:aR}{s_:dH}{tk:H}{m:Fm}{o:J O}{kb:dH->Prop}(zs:∀b,ZS b->B.eF b)(Z:Ck B ZS bM)(zD:B.eF D)(eY:B.vS)(hm:Cn m){aV0:dH->Prop}(L:Lp f Y cenv B aV0 ⟨m,o⟩ r F s)(iT:Lp f Y cenv B bM iJ i9 ja dU)(q:f_ r i9)(n2:dU.heap.get? xw=ao)(wj:∀b y,dU.heap.get? b=N y->s_.get? b=N y)(al:∃y,s_.get? xw=N y)(j:kb s_)(v:gh f.w i9 ja us ys.toList)(d:dU.heap.PlainList D ys):
  Cs f Y cenv ⟨B.r,B.s,B.F,B.o,λb=>b=xw\/B.eF b,ja⟩ kb D ZS dU.heap us ⟨m,iJ.o⟩ i9 ja {dU with heap:=s_,toks:=tk} ys/\(Bs.mk B.r B.s B.F B.o (λb=>b=xw\/B.eF b) ja).vS/\∀b,B.eF b->b≠xw:=by
 have bk:=L.a.back hm iT.a q;have ne:∀b,B.eF b->b≠xw:=λb z e=>(iT.l b z).elim λy h=>nomatch n2.symm.trans (e▸h:dU.heap.get? xw=N y);have ap:=iQ.fresh iT.a.mt n2;have Bv:fB B.r i9 B.s dU B.F ja B.o (own (eS cenv ⟨m,iJ.o⟩ i9)):=bk.2▸iT.t;have ex:=bk.1.ext (t:=tk) (h':=s_) wj;refine⟨⟨⟨ex.1,Bv.trans ex.2,λb z=>z.elim (λe=>e▸⟨ap.fr,bk.2▸ap.ow⟩) λz=>⟨(iT.p b z).fr,bk.2▸(iT.p b z).ow⟩,λb z=>z.elim (λe=>e▸al) λz=>(iT.l b z).elim λy h=>⟨y,wj b y h⟩,.refl _,j⟩,v,d.at λX e=>wj _ _ e,λb y X e=>wj b y e⟩,λb z hb=>z.elim (λe=>?_) λz=>eY b z hb,ne⟩;cases q:B.s.heap.get? b with
 |none=>rfl
 |some y=>exact nomatch n2.symm.trans (e▸iT.t.kept b y hb q:dU.heap.get? xw=N y)
theorem aV1{cenv:cL}{A:cQ}{B:Bs}{ZS:aR->Prop}{it:aA}{bM:H->dH->Prop}{ds:J D}{aY tM h_:aT}{bZ:J aT}{x1 x2:ai}{p1 p2:gq}{scope:ly}{pos:gq}{D:aR}{m:Fm}{R:nM->aE->Prop}{K:J V->J O->Prop}{h₀:dH}
  (xu:∀x,pP h_ cenv x=pure x)(eE:Hd f Y cenv A B ZS it (.Name x1 p1) (jL [x1] ah) (λX=>oV) bM (ds.map .d))(eY:B.vS)(zD:B.eF D)(nD:¬ZS D)(hB:∀b,B.eF b->ZS b\/b=D)(hm:Cn m)(o:Ok n A)(i:g_ f Y cenv)
  (hR:∀us o' r' F' s' ys,K us o'->At f Y cenv ⟨m,o'⟩ r' s' F'->fB B.r r' B.s s' B.F F' B.o (own (eS cenv ⟨m,o'⟩ r'))->iQ D F' (own (eS cenv ⟨m,o'⟩ r'))->gh f.w r' F' us ys.toList->s'.heap.PlainList D ys->us.length<=1048576->R (.ok .next) s'):
  ∀k j us o r F s ys,j+k=(ds.map V.d).length->us.length<=1048576->Nk f Y n m x1 x2 h_ bZ aY K (ds.drop j) us o->Cs f Y cenv B (bM j) D (λX=>bV) h₀ us ⟨m,o⟩ r F s ys->
   eG (aP f.prog f.w) A (.compLoop (.ListComp aY [⟨.Name x1 p1,tM,[],0⟩,⟨.Name x2 p2,h_,bZ,0⟩] scope pos) 0 it (.ref D) cenv) R s:=by
 intro k;induction k with
 |zero=>
  intro j us ob r F s ys e hl h c;have e:j=(ds.map V.d).length:=e;subst e;rw[cO,Kz]at h
  exact ka xu (cC:=λX=>bV) (λX z=>z.elim) (eE.done trivial c.L λs' a t k=>hR us ob r F s' ys h a t (c.L.p D zD) c.v (c.d.at λX e=>k _ _ ⟨zD,nD⟩ e) hl)
 |succ k ih=>
  intro j us ob r F s ys e hl h c;have hj:j<(ds.map V.d).length:=e▸xW (jd k);have ej:=mZ hj;refine kK λGx gI=>?_;obtain⟨d,ed,e2⟩:=Tg ej;refine gI ?_;rw[e2]at h
  rw[ed]at ej
  refine ka xu (cC:=Nh f Y cenv B (bM (j+1)) D (λX=>bV) h₀ m 0 (Nk f Y n m x1 x2 h_ bZ aY K (ds.drop (j+1))))
   (λs z=>z.rec λus o r F ys h1 h2 h3=>ih (j+1) us o r F s ys ((xY ..).trans e) h1 h2 h3) (eE.item ej trivial (show jL [x1] ah (.d d) ⟨m,ob⟩ _ from h) c.L λb3 iI cj dw Tn lX FT=>?_)
  have Ni:cj.heap.PlainList D ys:=c.d.at λX e=>FT _ _ ⟨zD,nD⟩ e;clear FT h ej;refine dw A cj iI cenv _ r _ o i lX.a λcD2 iJ i9 ja dU cE1 nV ku jo gx aV2 xx=>?_;refine kK λGx gI=>?_;obtain⟨xw,cD3,cD4,cD5,rfl,xx⟩:=xx;obtain⟨s_,ke,rfl⟩:=aV2;have iT:=lX.step eE.z (eE.Z _) jo gx;obtain⟨cn0,aV3,ne⟩:=Cs.to2 (tk:=ke) eE.z (eE.Z _) zD eY hm c.L iT gx.fM xx.new xx.old (xx.alive _ _ xx.Z) xx.Z (c.v.Eu gx.fM (Tn.trans gx.grow)) (Ni.at λX e=>lX.kept gx _ _ zD e);refine gI ?_;have inner:eG (aP f.prog f.w) A (.compLoop (.ListComp aY [⟨.Name x1 p1,tM,[],0⟩,⟨.Name x2 p2,h_,bZ,0⟩] scope pos) 1 (.ref xw) (.ref D) cenv) (λr s'=>r=.ok .next/\Nh f Y cenv B (bM (j+1)) D (λX=>bV) h₀ m 0 (Nk f Y n m x1 x2 h_ bZ aY K (ds.drop (j+1))) s') {dU with heap:=s_,toks:=ke}:=by
   refine js (K:=Nk f Y n m x1 x2 h_ bZ aY K (ds.drop (j+1))) rfl rfl xx .one aV3 (.inl rfl) (.inr zD) (ne D zD) (λb z=>⟨.inr (eE.z b z),ne b (eE.z b z),λe=>nD (e▸z)⟩) hm o i (λus' o' r' F' s' ys' h a t X v d l p g kk=>⟨rfl,us',o',r',F',ys',l,h,⟨⟨a,t,λb z=>p b (.inr z),λb z=>(hB b z).elim (λq=>(iT.l b z).elim λy e=>⟨y,kk b y q e⟩) (λq=>q▸d.elim λn e=>⟨_,e⟩),iT.g.trans g,eE.Z _ _ _ iT.j λb y z e=>?_⟩,v,d,λX I z=>z.elim⟩⟩) ku.1 ku.2 cn0
   ·refine z.elim (λz=>kk b y z e) λ⟨x,z⟩=>?_;have z:=iT.g b x z;rw[iT.a.mt.sub b x z]at e
    exact e▸a.mt.sub b x (g b x z)
  exact aU8 inner (aZ<|xx.W.self 0 _ _ _ xx.Z inner)
theorem fB.to{r:bQ}{s:aE}{F:bP}(t:fB r r' s s' F F' o o')(h:∀a∈p,a∈o'):fB r r' s s' F F' o p:=
 t.weak t.fM (λX h=>h) λa ha=>.inl (h a ha)
theorem Tp(jV:j_ Z.m cs=ah):∀x sl,cG x (mJ ts++jC Z.m cs)=N sl->sl=.L ao\/∃h,sl=.C h:=λx sl e=>by
 rcases Ti e with e|e
 ·exact .inl (Nf e).2
 ·obtain⟨h1,h2⟩:=Th e;obtain⟨hd,h3⟩:=Nd jV x h1;rw[h3]at h2;cases h2
  exact .inr ⟨hd,rfl⟩
def kf(f:Cf)(Y:J (ai×cJ))(A:cQ)(cenv:cL)(B:Bs)(e:aT)(it:aA)(D:aR)(m:Fm)(K:J V->J O->Prop)(s:aE):Prop:=
 ∀R:nM->aE->Prop,(∀us o' r' F' s' ys,K us o'->At f Y cenv ⟨m,o'⟩ r' s' F'->fB B.r r' B.s s' B.F F' B.o (own (eS cenv ⟨m,o'⟩ r'))->iQ D F' (own (eS cenv ⟨m,o'⟩ r'))->gh f.w r' F' us ys.toList->s'.heap.PlainList D ys->us.length<=1048576->R (.ok .next) s')->
  eG (aP f.prog f.w) A (.compLoop e 0 it (.ref D) cenv) R s
theorem aV4{lv:aD}{cenv:cL}{nm':J (ai×cJ)}{m:Fm}{o':J O}{r':bQ}{s':aE}{F':bP}{D:aR}{vs:J V}{ys:cT aA}{Q:V->St->Prop}{b4:Prop}(a:At f Y G Z r s F)(hC:s.heap.get? cenv.locals=ao)(hD:s.heap.get? D=ao)(Ij:D≠cenv.locals)
  (k:∀v qi o9 tN,Q v ⟨Z.m,qi⟩->VR f.w o9 tN v (.ref D)->At f Y G ⟨Z.m,qi⟩ o9 s' tN->Go G Z ⟨Z.m,qi⟩ r o9 s s' F tN->iQ cenv.locals tN (own (eS G ⟨Z.m,qi⟩ o9))->b4)
  (h:iF lv vs o' λv o=>Q v ⟨Z.m,o⟩)(a':At f nm' cenv ⟨m,o'⟩ r' s' F')(t':fB r r' s s' F F' (own (r.zip Z.o)) (own (eS cenv ⟨m,o'⟩ r')))(p':iQ D F' (own (eS cenv ⟨m,o'⟩ r')))(hv:gh f.w r' F' vs ys.toList)(hl:s'.heap.PlainList D ys)(hn:vs.length<=1048576):b4:=by
 have m1:l_ f r' s' F' (r'.zip o'):=a'.mt.part;have nd:=a'.mt.nd;have dC:=a'.mt.jg cenv.locals (by rw[nZ];exact kj _ (.head _))
 rw[nZ]at t' p' nd
 have t1:fB r r' s s' F F' (own (r.zip Z.o)) (own (r'.zip o')):=t'.to λb hb=>iN _ hb;have pD:iQ D F' (own (r'.zip o')):=⟨p'.fr,λq=>p'.ow (iN _ q)⟩;have pC:cenv.locals∉own (r'.zip o'):=λq=>(qz.mp nd).2.2 _ q _ (.head _) rfl;have nC:cenv.locals≠G.locals:=λe=>a.frame.elim λX h=>h.1.elim λob h=>h.elim λX h=>h.elim λX h=>nomatch (e▸hC).symm.trans h.1;have cH:∀{v:V}{qi:J O}{o9:bQ}{tN:bP},Q v ⟨Z.m,qi⟩->VR f.w o9 tN v (.ref D)->o9.length=qi.length->l_ f o9 s' tN (o9.zip qi)->fB r o9 s s' F tN (own (r.zip Z.o)) (own (o9.zip qi))->tN cenv.locals=ao->cenv.locals∉own (o9.zip qi)->b4:=λhq hv' l m t pf po=>
  k _ _ _ _ hq hv' ⟨l,a.fk,a.mt.join t m t.fM⟩ (t.frame (M:=[Cb G Z.m]) t.fM) ⟨pf,λq=>by
   rw[nZ]at q
   exact(gK.mp q).elim po λq=>nC (fN.mp q)⟩
 clear t' p' nd k a nC hC;have live:∀x:O,Q (.ref (Wm.len o')) ⟨Z.m,o'++[x]⟩->jR ((D,D),x)=[D]->OR f.w r' F' s'.heap (D,D) x->b4:=λx hq hx hr=>by
  obtain⟨m2,t2⟩:=m1.io a'.len t1 pD (x:=x) hx hr hD;refine cH hq (.ref (p:=(D,D)) ?_) (by rw[f6,f6,a'.len];rfl) m2 t2 dC λq=>?_
  ·rw[nc,<-a'.len,List.getElem?_concat_length]
  ·rw[HV a'.len,jf,oE,hx]at q
   exact(gK.mp q).elim pC λq=>Ij (fN.mp q).symm
 obtain⟨nD,Tq⟩:=hl;unfold iF at h
 cases q:nW vs with
 |none=>rw[q]at h;exact live _ h rfl ⟨ys,nD,Tq,hv,hn⟩
 |some ds=>
  rw[q]at h
  have yd:=hv.nW q;have ln:ds.length<=1048576:=S6 q▸hn;induction lv with
  |true=>exact live _ h rfl ⟨ys,nD,Tq,yd,ln⟩
  |false=>obtain⟨tN,e1,e2,e3,m2,t2⟩:=m1.Ng t1 pD Tq hD;exact cH h (.d (.list e1 (yd.mono e2) ln)) a'.len m2 t2 ((e3 _ (FY Ij)).trans dC) pC
abbrev yL(r:bQ)(s:aE)(F:bP)(o:J O)(bG D:aR)(b4:bP):Bs:=⟨r,s,F,own (r.zip o),λb=>b=bG\/b=D,b4⟩
theorem km{lv:aD}{aY dD dY:aT}{bZ:J aT}{dg:J Kc}{scope:ly}{pos:gq}{cl:J (ai×aR)}{A:cQ}{E:aA->aE->Prop}{Q:V->St->Prop}{h':dH}{tk:H}{RR:aA->aR->nM->aE->Prop}
  (sc:vV Y cs ts scope)(a:At f Y G Z r s F)(kn:s.heap.get? bG=ao)(kt:∀b o,s.heap.get? b=N o->h'.get? b=N o)(ky:∃o,h'.get? bG=N o)(hG:iG b4 F)
  (Am:∀x a,(x,Dt)∈scope.names->G.cells.lookup x=N a->cl.lookup x=N a)(jV:j_ Z.m cs=ah)
  (aV5:∀(D C:aR)(h₁:dH),D≠bG->(yL r s F Z.o bG D b4).vS->Cs f (jt Y scope.names) (Gh scope cl C G) (yL r s F Z.o bG D b4) (λh=>∀b y,h'.get? b=N y->h.get? b=N y) D (λX=>bV) h₁ [] ⟨mJ ts++jC Z.m cs,Z.o⟩ r F {s with heap:=h₁,toks:=tk} #[]->
   kf f (jt Y scope.names) A (Gh scope cl C G) (yL r s F Z.o bG D b4) (.ListComp aY (⟨dD,dY,bZ,0⟩::dg) scope pos) (.ref bG) D (mJ ts++jC Z.m cs) (λvs o=>iF lv vs o λv o=>Q v ⟨Z.m,o⟩) {s with heap:=h₁,toks:=tk})
  (self:∀(h₁:dH)(P:aA->aE->Prop)(E:aA->aE->Prop),(∀b y,h'.get? b=N y->h₁.get? b=N y)->P (.ref bG) {s with heap:=h₁,toks:=tk}->av (aP f.prog f.w) A (ry (.ref bG)) P E {s with heap:=h₁,toks:=tk})
  (hRR:∀D C v b9 r' F' s',Q v b9->VR f.w r' F' v D->At f Y G b9 r' s' F'->Go G Z b9 r r' s s' F F'->iQ C F' (own (eS G b9 r'))->(∃m,s'.heap.Ns C m)->s.heap.get? C=ao->RR D C (.ok .next) s'):
  av (aP f.prog f.w) A (newList []) (λacc dU=>av (aP f.prog f.w) A (aj9 scope G.globals cl [] G.qual ao .none (N G)) (λcenv nV=>eG (aP f.prog f.w) A (.compStart (.ListComp aY (⟨dD,dY,bZ,0⟩::dg) scope pos) 0 (.ref bG) acc {cenv with scope:=Dh scope G}) (RR acc cenv.locals) nV) E dU) E {s with heap:=h',toks:=tk}:=by
 refine aZ<|Bc (aZ<|wpAny_newFunctionEnv sc.cell (λy hy=>nomatch hy) (λh₁ Nl Nn=>?_) sc.kind);dsimp only at Nl Nn|-
 generalize Np:h'.push {cls:=.type "list",dict:=none,data:=.seq ([]:J aA).toArray}=H2 at Nl Nn|-
 have gH:∀b y,h'.get? b=N y->H2.get? b=N y:=λb y e=>Np▸ko _ e;have hC:H2.objs.size=h'.objs.size+1:=by rw[<-Np,J2]
 have kA:H2.get? h'.objs.size=N (iH #[] 0):=Np▸lY _ rfl;clear Np;have Ik:∀b y,H2.get? b=N y->h₁.get? b=N y:=λb y e=>Nn.extBut b y (sr (kI e)) (ko _ e);have fr:∀c,h'.objs.size<=c->s.heap.get? c=ao:=λc hc=>by
  cases e:s.heap.get? c with
  |none=>rfl
  |some o'=>exact absurd (kI (kt c o' e)) (vj.mpr hc)
 have ltI:bG<h'.objs.size:=ky.elim λX e=>kI e;generalize H2.objs.size=C at Nl hC|-
 generalize h'.objs.size=D at hC kA fr ltI|-
 have Ij:D≠C:=hC▸sr (m7 D);have Tt:=fr C (hC▸wF D);have Tu:=fr D (jO D);have yM:D≠bG:=FY (sr ltI);have hIC:bG≠C:=hC▸sr (cn6 ltI);clear Nn fr ltI hC;have fk:FK (jt Y scope.names) (mJ ts++jC Z.m cs):=λx sl e=>by
  rcases Ti e with e|e
  ·exact(Nf e).2▸sc.aT5 x (Nf e).1
  ·obtain⟨h1,h2⟩:=Th e;obtain⟨hd,h3⟩:=Nd jV x h1;exact fW (h3.symm.trans h2)▸(sc.jC x h1).2
 have hfr:OR f.w r F h₁ (C,C) (.frame cl (mJ ts++jC Z.m cs)):=⟨_,Nl,λx sl e=>by
  rcases Ti e with e|e
  ·exact(Nf e).2▸λv q=>nomatch q
  ·obtain⟨h1,h2⟩:=Th e;obtain⟨hd,h3⟩:=Nd jV x h1;have e3:=fW (h3.symm.trans h2);subst e3;exact a.frame.elim λX hv=>(hv.2 x _ h3).elim λp e=>⟨p,e.1,Am x _ (sc.jC x h1).1 e.2⟩⟩
 have mo:l_ f r s F (r.zip Z.o):=a.mt.part;obtain⟨mi,ti⟩:=Mt.enter (t:=tk) mo (λb y e=>Ik b y (gH b y (kt b y e))) Tt (p:=(C,C)) (o:=.frame cl (mJ ts++jC Z.m cs)) rfl hfr;have apart:∀b,s.heap.get? b=ao->b≠C->iQ b F (own (eS (Gh scope cl C G) ⟨mJ ts++jC Z.m cs,Z.o⟩ r)):=λb hb ne=>⟨(iQ.fresh mo hb).fr,λq=>by
  rw[nZ]at q
  exact(gK.mp q).elim (iQ.fresh mo hb).ow λq=>ne (fN.mp q)⟩
 have kS:=Ik _ _ kA
 have c:Cs f (jt Y scope.names) (Gh scope cl C G) (yL r s F Z.o bG D b4) (λh=>∀b y,h'.get? b=N y->h.get? b=N y) D (λX=>bV) h₁ [] ⟨mJ ts++jC Z.m cs,Z.o⟩ r F {s with heap:=h₁,toks:=tk} #[]:=
  ⟨⟨⟨a.len,fk,mi⟩,ti,λb z=>z.elim (λe=>e▸apart bG kn hIC) λe=>e▸apart D Tu Ij,λb z=>z.elim (λe=>e▸ky.elim λy h=>⟨y,Ik _ _ (gH _ _ h)⟩) λe=>e▸⟨_,kS⟩,hG,λb y e=>Ik b y (gH b y e)⟩,.nil,⟨_,kS⟩,λX I z=>z.elim⟩
 have loop:=aV5 D C h₁ yM (λb z X=>z.elim (λe=>e▸kn) λe=>e▸Tu) c (RR (.ref D) C) λvs o' r' F' s' ys h a' t' p' hv hl hn=>aV4 a Tt Tu Ij (λv qi o9 tN q y a t p=>hRR (.ref D) C v _ o9 tN s' q y a t p (a'.frame.elim λX h=>⟨_,h.1⟩) Tt) h a' t' p' hv hl hn
 exact au4 loop (self h₁ _ _ (λb y e=>Ik b y (gH b y e)) loop)
theorem k0{scope:ly}(sc:vV Y cs ts scope)(jV:j_ Z.m cs=ah)(a:At f Y G Z r s F):∃cl,aj8 scope G=pure cl/\∀x a,(x,Dt)∈scope.names->G.cells.lookup x=N a->cl.lookup x=N a:=by
 refine kK λGx gI=>?_;obtain⟨cl,h1,h2⟩:=aT3 (G:=G) (names:=scope.names) λx hx=>by obtain⟨h,e⟩:=Nd jV x (sc.free x hx);obtain⟨_,_,hv⟩:=a.frame;obtain⟨p,_,e2⟩:=hv x _ e;exact⟨_,e2⟩
 refine gI ?_;exact⟨cl,h1 scope rfl,h2⟩
def Il(f:Cf)(Y:J (ai×cJ))(n:H)(cs ts:J ai)(e:aT)(scope:ly)(ds:J D)(Z:St)(K:J V->J O->Prop):Prop:=
 ∀{A:cQ}{G:cL}{r:bQ}{s:aE}{F:bP}{bG D C:aR}{h' h₁:dH}{tk:H}{fp:J aR}{P:H->aA->Prop}{vU:H->dH->Prop}{cl:J (ai×aR)},g_ f Y G->Ok n A->j_ Z.m cs=ah->scope.kind=.function->Ic f A bG ds F s.heap h' fp P vU->D≠bG->(yL r s F Z.o bG D F).vS->
  Cs f (jt Y scope.names) (Gh scope cl C G) (yL r s F Z.o bG D F) (vU 0) D (λX=>bV) h₁ [] ⟨mJ ts++jC Z.m cs,Z.o⟩ r F {s with heap:=h₁,toks:=tk} #[]->
  kf f (jt Y scope.names) A (Gh scope cl C G) (yL r s F Z.o bG D F) e (.ref bG) D (mJ ts++jC Z.m cs) K {s with heap:=h₁,toks:=tk}
theorem k3{cs ts:J ai}{one:aD}{aY dD dY:aT}{bZ:J aT}{scope:ly}{pos:gq}{ds:J D}{K:J V->J O->Prop}(ht:xq dD ts one)
  (h:jW ts one (mJ ts++jC Z.m cs) (λZ k=>mO f (jt Y scope.names) n bZ Z k) (λZ k=>WE f (jt Y scope.names) n aY Z k) ds Z.o K):Il f Y n cs ts (.ListComp aY [⟨dD,dY,bZ,0⟩] scope pos) scope ds Z K:=
 λi o jV S dI yM eY c R hR=>js (eF:=λX=>bV) rfl rfl dI ht eY (.inl rfl) (.inr rfl) yM (λX z=>z.elim) (Tp jV) o (Ii i S) (λus o' r' F' s' ys h1 h2 h3 h4 h5 h6 h7 X I u2=>hR us o' r' F' s' ys h1 h2 h3 h4 h5 h6 h7) (by rw[Du,mW];exact dI.big) h c
theorem k4{cs:J ai}{x1 x2:ai}{p1 p2:gq}{aY tM h_:aT}{bZ:J aT}{scope:ly}{pos:gq}{ds:J D}{K:J V->J O->Prop}(xu:∀x G,pP h_ G x=pure x)
  (h:xe x1 x2 (mJ [x1,x2]++jC Z.m cs) (λZ k=>WI f (jt Y scope.names) n (λG=>cM h_ G) Z k) (λZ k=>mO f (jt Y scope.names) n bZ Z k) (λZ k=>WE f (jt Y scope.names) n aY Z k) ds [] Z.o K):Il f Y n cs [x1,x2] (.ListComp aY [⟨.Name x1 p1,tM,[],0⟩,⟨.Name x2 p2,h_,bZ,0⟩] scope pos) scope ds Z K:=
 λi o jV S dI yM eY c R hR=>aV1 (λx=>xu x _) (dI.hd (B:=yL _ _ _ _ _ _ _) o.hd (Ii i S) .one (.inl rfl) eY) eY (.inr rfl) yM (λX z=>z) (Tp jV) o (Ii i S) hR (ds.map V.d).length 0 [] Z.o _ _ _ #[] (mW _) (qw _) h c
def QS(f:Cf)(Y:J (ai×cJ))(A:cQ)(E:aA->aE->Prop)(G:cL)(Z:St)(r:bQ)(s:aE)(F:bP)(use:bq (aA->dJ rt))(Q:V->St->Prop)(Q':aA->aE->Prop):Prop:=
 ∀D C v b9 r' F' s',Q v b9->VR f.w r' F' v D->At f Y G b9 r' s' F'->iQ C F' (own (eS G b9 r'))->(∃m,s'.heap.Ns C m)->
  (∀{b3 iC cj iI h' tk},Go G b9 b3 r' iC s' cj F' iI->(∀b y,b≠C->cj.heap.get? b=N y->h'.get? b=N y)->Go G Z b3 r iC s {cj with heap:=h',toks:=tk} F iI)->KV (aP f.prog f.w) A E use Q' D C (.ok .next) s'
theorem end_none:QS f Y A E G Z r s F ao Q (mh f Y (λr F=>VR f.w r F) G Z Q r s F):=λD C v b9 r' F' s' q y a' ap hn hG=>hn.elim λm hn=>⟨m,hn,λh' sb=>⟨v,b9,r',F',q,y,a'.hole (t:=s'.toks) ap.fr ap.ow λb y q e=>sb.extBut b y q e,hG (tk:=s'.toks) (.refl ..) λb y q e=>sb.extBut b y q e⟩⟩
theorem aV6(i:g_ f Y G):QS f Y A E G Z r s F (N (sC (.Name x p) G)) (λu aI=>kZ x u aI λb3=>Q .next b3) (λX s'=>mh f Y (λr F=>xj f.w r F) G Z Q r s F cv4 s'):=λD C v b9 r' F' s' q y a' ap hn hG=>by
 refine b_ hn λm hx=>?_;refine b_ hx λob hx=>?_;refine b_ hx λes hx=>?_;refine b_ hx λep hx=>?_;have ho:=hx.1;have aV7:=hx.2
 show av _ A (sC (.Name x p) G D) _ _ _
 refine QI (HY q i a' y λb3 cj Ib e_ c9=>?_);have hx:=ap.step ho c9;have k5:=hx.1;have aV8:=hx.2;exact⟨m,⟨ob,es,ep,aV8,aV7⟩,λh' sb=>⟨.next,b3,r',F',Ib,.next,e_.hole (t:=cj.toks) k5.fr k5.ow λb y q e=>sb.extBut b y q e,hG (tk:=cj.toks) c9 λb y q e=>sb.extBut b y q e⟩⟩
theorem lb(o:Ok n A)(i:g_ f Y G)(a:At f Y G Z r s F)(jV:j_ Z.m cs=ah)
  (h:WI f Y n (λG=>cM dY G) Z λds aI=>dh (j_ aI.m cs) (Il f Y n cs ts (.ListComp aY (⟨dD,dY,bZ,0⟩::dg) scope pos) scope ds aI λvs o=>iF lv vs o λv o=>Q v ⟨aI.m,o⟩) bV)(sc:vV Y cs ts scope)(hs:∀x G,pP dY G x=pure x)(he:QS f Y A E G Z r s F use Q Q'):
  av (aP f.prog f.w) A (Xi (.ListComp aY (⟨dD,dY,bZ,0⟩::dg) scope pos) scope G p2 (newList []) ak (cM dY G) use) Q' E s:=by
 refine kK λGx gI=>?_;obtain⟨cl,Tv,Tw⟩:=k0 sc jV a;refine gI ?_;refine Yt rfl (λx=>hs x G) Tv sc.kind sc.names (h A s F G E r _ o i a λds aI bY cz aF it cj hq b7 b8 e dI=>?_);refine kK λGx gI=>?_;obtain⟨Im,hq⟩:=l9 hq;obtain⟨bG,fp,P,vU,rfl,dI⟩:=dI;obtain⟨h',tk,rfl⟩:=e;refine gI ?_;exact km (lv:=lv) (Q:=Q) (RR:=λacc C=>KV (aP f.prog f.w) A E use Q' acc C) sc b7 dI.new dI.old (dI.alive _ _ dI.Z) (.refl cz) Tw Im (λD C h₁ yM eY c=>hq i o Im sc.kind dI yM eY ⟨c.L.imp (dI.W.frame _ _ _ dI.Z λb X y e=>c.L.j b y e),c.v,c.d,c.k⟩)
  (λh₁ P' E' k hP=>aZ<|dI.W.self 0 _ _ _ (dI.W.frame _ _ _ dI.Z λb X y e=>k b y e) hP) λD C v b9 r' F' s' q y a' t' ap hn hC=>he D C v b9 r' F' s' q y a' ap hn λc9 k=>b8.trans ((t'.trans c9).hole hC k)
abbrev lh(f:Cf)(Y:J (ai×cJ))(n:H)(lv:aD)(cs ts:J ai)(one:aD)(aY:aT)(bZ:J aT)(scope:ly)(ds:J D)(Z:St)(Q:V->St->Prop):Prop:=
 dh (j_ Z.m cs) (jW ts one (mJ ts++jC Z.m cs) (λZ k=>mO f (jt Y scope.names) n bZ Z k) (λZ k=>WE f (jt Y scope.names) n aY Z k) ds Z.o λvs o=>iF lv vs o λv o=>Q v ⟨Z.m,o⟩) bV
abbrev lr(f:Cf)(Y:J (ai×cJ))(n:H)(lv:aD)(cs:J ai)(x1 x2:ai)(h_ aY:aT)(bZ:J aT)(scope:ly)(ds:J D)(Z:St)(Q:V->St->Prop):Prop:=
 dh (j_ Z.m cs) (xe x1 x2 (mJ [x1,x2]++jC Z.m cs) (λZ k=>WI f (jt Y scope.names) n (λG=>cM h_ G) Z k) (λZ k=>mO f (jt Y scope.names) n bZ Z k) (λZ k=>WE f (jt Y scope.names) n aY Z k) ds [] Z.o λvs o=>iF lv vs o λv o=>Q v ⟨Z.m,o⟩) bV
theorem Nq{a b:Prop}(h:dh q a bV)(g:a->b):dh q b bV:=by cases q;exact h;exact g h
theorem WI.mono(h:WI f Y n t Z Q)(k:∀ds b9,Q ds b9->Q' ds b9):WI f Y n t Z Q':=λA s F G E r P o i a hp=>h A s F G E r P o i a λds aI bY cz aF it cj q=>hp ds aI bY cz aF it cj (k ds aI q)
section
variable{lv:aD}{cs ts:J ai}{x1 x2 x:ai}{p p1 p2 qj pos:gq}{one:aD}{aY dD dY h_:aT}{bZ:J aT}{dg:J Kc}{scope:ly}{Q:V->St->Prop}{R:dZ->St->Prop}
theorem lw(jV:j_ Z.m cs=ah)(h:WI f Y n (λG=>cM dY G) Z λds aI=>dh (j_ aI.m cs) (Il f Y n cs ts (.ListComp aY (⟨dD,dY,bZ,0⟩::dg) scope pos) scope ds aI λvs o=>iF lv vs o λv o=>Q v ⟨aI.m,o⟩) bV)(sc:vV Y cs ts scope)(hs:∀x G,pP dY G x=pure x):WE f Y n (.ListComp aY (⟨dD,dY,bZ,0⟩::dg) scope pos) Z Q:=λA s F G E r o i a=>by
 show av _ _ (cM (.ListComp aY (⟨dD,dY,bZ,0⟩::dg) scope pos) G) _ _ _
 rw[cv8];exact lb o i a jV h sc hs end_none
theorem lx(jV:j_ Z.m cs=ah)(h:WI f Y n (λG=>cM dY G) Z λds aI=>dh (j_ aI.m cs) (Il f Y n cs ts (.ListComp aY (⟨dD,dY,bZ,0⟩::dg) scope pos) scope ds aI λvs o=>iF lv vs o λv o=>kZ x v ⟨aI.m,o⟩ λb3=>R .next b3) bV)(sc:vV Y cs ts scope)(hs:∀x G,pP dY G x=pure x)
  (Io:∀G:cL,g_ f Y G->wz (.ListComp aY (⟨dD,dY,bZ,0⟩::dg) scope pos) (N (.Name x p)) qj.line G=pure ah):W1 f Y n (.Assign [.Name x p] (.ListComp aY (⟨dD,dY,bZ,0⟩::dg) scope pos) qj) Z R:=λA s F G E r o i a=>by
 show av _ _ (t8 (.Assign [.Name x p] (.ListComp aY (⟨dD,dY,bZ,0⟩::dg) scope pos) qj) G) _ _ _
 rw[exec_Assign_Name_used _ _ _ _ (Io G i)];refine at_ (aJ ?_)
 show av _ A (Xi (.ListComp aY (⟨dD,dY,bZ,0⟩::dg) scope pos) scope G _ (newList []) ak (cM dY G) (N (sC (.Name x p) G))>>=_) _ _ s
 exact dR (lb o i a jV h sc hs (aV6 i)) λX s' hq=>bg (bg hq)
theorem aV9(jV:j_ Z.m cs=ah)(h:WI f Y n (λG=>cM dY G) Z λds aI=>lh f Y n lv cs ts one aY bZ scope ds aI Q)
  (ht:xq dD ts one)(sc:vV Y cs ts scope)(hs:∀x G,pP dY G x=pure x):WE f Y n (.ListComp aY [⟨dD,dY,bZ,0⟩] scope pos) Z Q:=lw jV (h.mono λds b9 h=>Nq h (k3 ht)) sc hs
theorem aW0(jV:j_ Z.m cs=ah)(h:WI f Y n (λG=>cM dY G) Z λds aI=>lr f Y n lv cs x1 x2 h_ aY bZ scope ds aI Q)
  (xu:∀x G,pP h_ G x=pure x)(sc:vV Y cs [x1,x2] scope)(hs:∀x G,pP dY G x=pure x):WE f Y n (.ListComp aY [⟨.Name x1 p1,dY,[],0⟩,⟨.Name x2 p2,h_,bZ,0⟩] scope pos) Z Q:=lw jV (h.mono λds b9 h=>Nq h (k4 xu)) sc hs
theorem aW1(jV:j_ Z.m cs=ah)(h:WI f Y n (λG=>cM dY G) Z λds aI=>lh f Y n lv cs ts one aY bZ scope ds aI λu aI=>kZ x u aI λb3=>R .next b3)
  (ht:xq dD ts one)(sc:vV Y cs ts scope)(hs:∀x G,pP dY G x=pure x)(Io:∀G:cL,g_ f Y G->wz (.ListComp aY [⟨dD,dY,bZ,0⟩] scope pos) (N (.Name x p)) qj.line G=pure ah):
  W1 f Y n (.Assign [.Name x p] (.ListComp aY [⟨dD,dY,bZ,0⟩] scope pos) qj) Z R:=lx jV (h.mono λds b9 h=>Nq h (k3 ht)) sc hs Io
theorem aW2(jV:j_ Z.m cs=ah)(h:WI f Y n (λG=>cM dY G) Z λds aI=>lr f Y n lv cs x1 x2 h_ aY bZ scope ds aI λu aI=>kZ x u aI λb3=>R .next b3)
  (xu:∀x G,pP h_ G x=pure x)(sc:vV Y cs [x1,x2] scope)(hs:∀x G,pP dY G x=pure x)(Io:∀G:cL,g_ f Y G->wz (.ListComp aY [⟨.Name x1 p1,dY,[],0⟩,⟨.Name x2 p2,h_,bZ,0⟩] scope pos) (N (.Name x p)) qj.line G=pure ah):
  W1 f Y n (.Assign [.Name x p] (.ListComp aY [⟨.Name x1 p1,dY,[],0⟩,⟨.Name x2 p2,h_,bZ,0⟩] scope pos) qj) Z R:=lx jV (h.mono λds b9 h=>Nq h (k4 xu)) sc hs Io
end
theorem Mt.In{f:Cf}(m:l_ f r s F L):f.K.In s.heap:=f.ff.keeps m.stays
theorem At.callC(h:WC f n g vs Z.o k)(o:Ok n A)(a:At f Y G Z r s F)(y:gh f.w r F vs ws):
  av (aP f.prog f.w) A (fF g ws) (rS f Y G Z (λv b9=>b9.m=Z.m/\k v b9.o) r s F) E s:=by
 refine gG (h A s F E r ws o a.len a.mt.part y) (λu s' p=>?_) λX I z=>z;obtain⟨v,o',r',F',q,yv,l,m',t⟩:=p;exact⟨v,⟨Z.m,o'⟩,r',F',⟨rfl,q⟩,yv,⟨l,a.fk,a.mt.join t m' t.fM⟩,t.frame (M:=[Cb G Z.m]) t.fM⟩
def tO(f:Cf)(n:H)(T:aR->Tr):Prop:=∀a args o k,T a args o k->Dv f.K (.ref a)=ah/\WC f n (.ref a) args o k
theorem aW3(h:yz T args o k):∃args o k,T args o k:=by
 unfold yz at h
 simp only[HG,w_,RS,o7,yy]at h
 split at h;rotate_left;exact h.elim
 exact⟨_,_,_,h⟩
theorem tO.lift(c:tO f n T)(h:yz (T a) args o k):Dv f.K (.ref a)=ah/\WC f n (.ref a) args o k:=by refine b_ (aW3 h) λux hx=>?_;refine b_ hx λux hx=>?_;refine b_ hx λux hx=>?_;have q:=hx;exact⟨(c a _ _ _ q).1,aI1 (λargs o k h=>(c a args o k h).2) h⟩
def rT:J aT->aD
 |[]=>ah
 |e::r=>(match xm e with|true=>rT r|false=>ak)
theorem Co{e:aT}(h:rT (e::l)=ah):xm e=ah/\rT l=ah:=by
 have h:(match xm e with|true=>rT l|false=>ak)=ah:=h
 cases q:xm e with
 |true=>rw[q]at h;exact⟨rfl,h⟩
 |false=>rw[q]at h;cases h
theorem Tz{G:cL}:∀{l:J aT},rT l=ah->(n9 pos (lQ l G)).any (·.1)=ak:=@λi_=>by
 induction i_ with
 |nil=>exact λX=>rfl
 |cons e l ih=>
  intro h;rw[HZ (Co h).1]
  show(ak||(n9 pos (lQ l G)).any (·.1))=ak
  rw[ih (Co h).2];rfl
theorem lL(h:qU f Y n args Z Q)(hp:rT args=ah)(o:Ok n A)(i:g_ f Y G)(a:At f Y G Z r s F)
  (hq:∀vs ws aI bY cz aF,Q vs aI->gh f.w bY cz vs ws->At f Y G aI bY aF cz->Go G Z aI r bY s aF F cz->Dv f.K g=ah/\av (aP f.prog f.w) A (fF g (first++ws)) P E aF):
  av (aP f.prog f.w) A (vn pos g first (n9 pos (lQ args G)) []) P E s:=by
 refine au7 (P:=λh=>f.K.In h/\Dv f.K g=ah) (by rw[Tz hp];rfl) (λh p=>keeps_K p.2 h p.1) ?_
 have gQ:av (aP f.prog f.w) A (ru (n9 pos (lQ args G))) (λvs aF=>(f.K.In aF.heap/\Dv f.K g=ah)/\av (aP f.prog f.w) A (fF g (first++vs)) P E aF) E s:=
  WX.run (h pos) o i a λvs ws aI bY cz aF q y b7 b8=>by obtain⟨h1,h2⟩:=hq vs ws aI bY cz aF q y b7 b8;exact⟨⟨Mt.In b7.mt,h1⟩,h2⟩
 induction args using eT with
 |nil=>exact Zz gQ
 |cons e l=>
  rw[HZ (Co hp).1]at gQ|-
  exact QM gQ
theorem aW4(h:WE f Y n (.Name fe fp) Z λg aI=>qU f Y n args aI λvs b3=>iS g λx=>gD x λa=>yz (T a) vs b3.o λv o=>Q v ⟨b3.m,o⟩)
  (c:tO f n T)(hp:rT args=ah):WE f Y n (.Call (.Name fe fp) args [] pos) Z Q:=λA s F G E r o i at_=>by
 refine KS (Ig h o i at_ λg w aI bY cz aF h₁ cX b7 b8=>lL h₁ hp o i b7 λvs ws b3 iC iI cj dw gU e_ c9=>jD cX dw λx y dw=>?_);induction x using Wm.D.casesOn with
 |glob a=>refine y.e ?_;obtain⟨k1,k2⟩:=c.lift dw;refine⟨k1,gG (At.callC k2 o e_ gU) (λu dU p=>?_) λX I z=>z⟩;obtain⟨v,⟨cD6,cD7⟩,i9,ja,⟨rfl,q⟩,qV,jo,gx⟩:=p;exact⟨v,_,i9,ja,q,qV,jo,b8.trans (c9.trans gx)⟩
 |_=>exact dw.elim
inductive BP:J (ai×bq D)->J V->J (ai×V)->Prop
 |nil:BP [] [] []
 |given {p r v t l}:BP r t l->BP (p::r) (v::t) ((p.1,v)::l)
 |TA {p d r l}:p.2=N d->BP r [] l->BP (p::r) [] ((p.1,.d d)::l)
def Nr{α:Type}(o:bq α)(P:α->Prop):Prop:=match o with|some b=>P b|none=>oV
theorem aW5(ps:J (ai×bq D)):∀args,Nr (B6 ps args) (BP ps args):=by
 induction ps with
 |nil=>intro a;cases a;exact .nil;trivial
 |cons p r ih=>
  have go (b:ai×V) (a a':J V) (k:∀l,BP r a' l->BP (p::r) a (b::l)):∀z,Nr z (BP r a')->Nr (match(generalizing:=false) z with|some l=>N (b::l)|none=>ao) (BP (p::r) a):=λz=>by cases z;exact id;exact k _
  intro a;cases a
  ·obtain⟨x,o⟩:=p;cases o;trivial;exact go _ _ _ (λX=>.TA rfl) _ (ih [])
  ·exact go _ _ _ (λX=>.given) _ (ih _)
theorem BP.eq{ps args b}(h:BP ps args b):B6 ps args=N b:=by
 induction h with
 |nil=>rfl
 |@given p r v t l X e=>exact bR (λz=>match(generalizing:=false) z with|some l=>N ((p.1,v)::l)|none=>ao) e
 |@TA p d r l g X e=>exact(bR (λz=>match(generalizing:=false) z with|some d=>(match(generalizing:=false) B6 r []with|some l=>N ((p.1,V.d d)::l)|none=>ao)|none=>ao) g).trans (bR (λz=>match(generalizing:=false) z with|some l=>N ((p.1,V.d d)::l)|none=>ao) e)
theorem BP.names{ps args b}(h:BP ps args b):b.map (·.1)=ps.map (·.1):=h.rec rfl (λX e=>bR (_::·) e) λX I e=>bR (_::·) e
inductive BR(w:bU)(r:bQ)(F:bP):J (ai×V)->J (ai×aA)->Prop
 |nil:BR w r F [] []
 |cons {x v u b l}:VR w r F v u->BR w r F b l->BR w r F ((x,v)::b) ((x,u)::l)
theorem BR.names{b l}(h:BR w r F b l):b.map (·.1)=l.map (·.1):=h.rec rfl λX I e=>bR (_::·) e
def Ip(w:bU)(r:bQ)(F:bP)(b:J (ai×V))(g:ai->bq aA)(x:ai):Prop:=∀v,cG x b=N v->∃u,g x=N u/\VR w r F v u
theorem BR.fold{w:bU}{x:ai}{b l}{g:J (ai×aA)->(ai->bq aA)->ai->bq aA}(h:BR w r F b l)(g0:∀m,g [] m=m)(g1:∀y v l m,∃m',g ((y,v)::l) m=g l m'/\(x=y->m' x=N v)/\(x≠y->m' x=m x)):
  (b.map (·.1)).Nodup->∀m,(x∉b.map (·.1)->g l m x=m x)/\Ip w r F b (g l m) x:=by
 induction h with
 |nil=>exact λX m=>⟨λX=>W9 (g0 m) x,λv e=>nomatch e⟩
 |@cons y v u b l a z ih=>exact λnd m=>(g1 y u l m).elim λm' q=>q.1▸⟨λh=>((ih (o4.mp nd).2 m').1 λi=>h (.tail _ i)).trans (q.2.2 λe=>h (e▸ .head _)),
   λv'=>B7 (P:=λo=>o=N v'->_) (λe i=>⟨u,((ih (o4.mp nd).2 m').1 (e▸(o4.mp nd).1)).trans (q.2.1 e),fW i▸a⟩) λe=>(ih (o4.mp nd).2 m').2 v'⟩
theorem BR.local{w:bU}{x:ai}{b l}{k:ai->bq cJ}{m}(h:BR w r F b l)(nd:(b.map (·.1)).Nodup)(S:k x=N .local):Ip w r F b (bindL k l m) x:=
 (h.fold (λX=>rfl) (λy v l m=>⟨_,rfl,λe=>by rw[dM (e▸S)];exact dM e,λe=>by split;exact cF e;rfl⟩) nd m).2
theorem BR.cell{w:bU}{x:ai}{b l}{k:ai->bq cJ}{m}(h:BR w r F b l)(nd:(b.map (·.1)).Nodup)(S:k x=N .cell):Ip w r F b (bindC k l m) x:=
 (h.fold (λX=>rfl) (λy v l m=>⟨_,rfl,λe=>by rw[cF (λq=>by rw[<-e,S]at q;cases q)];exact dM e,λe=>by split;rfl;exact cF e⟩) nd m).2
structure aW6(f:Cf)(a:aR)(fd:C9)(body:J eg)(ps:J (ai×bq D))(nms:J (ai×cJ)):Prop where
 obj:∃o,f.K.lookup a=N o/\o.data=.func fd
 code:codeIn f.K fd.code fd.qualname=ah
 body:fd.body=.stmts body
 clo:fd.closure=[]
 gl:fd.globals=qx
 bi:fd.builtins=wo
 co:fd.scope.isCoroutine=ak
 gen:fd.scope.isGenerator=ak
 kind:fd.scope.kind=.function
 bind:∀s:aE,(∀b o,f.h0.get? b=N o->s.heap.get? b=N o)->∀args b,BP ps args b->∀r F ws,iG f.B F->gh f.w r F args ws->∃l,BindsTo s fd ⟨ws,[]⟩ l/\BR f.w r F b l
 pnd:(ps.map (·.1)).Nodup
 pk:∀x∈ps.map (·.1),fd.scope.names.lookup x=N .local\/fd.scope.names.lookup x=N .cell
 nk:∀p∈nms,cG p.1 fd.scope.names=N p.2
 nlc:∀p∈nms,p.2=.local\/p.2=.cell
 nnd:(nms.map (·.1)).Nodup
theorem Ok.deeper{A:cQ}{G:cL}(h:Ok (n+1) A):Ok n (A.deeper G):=⟨h.hd,by show A.depth+1+5*n<=900;have:=h.depth;lia,by show A.units+3+20*n<=9800;have:=h.units;lia⟩
inductive LC:J (ai×cJ)->Prop
 |nil:LC []
 |l {x t}:LC t->LC ((x,.local)::t)
 |c {x t}:LC t->LC ((x,.cell)::t)
theorem LC.of(nms:J (ai×cJ)):(∀p∈nms,p.2=.local\/p.2=.cell)->LC nms:=by
 induction nms with
 |nil=>exact λX=>.nil
 |cons p t ih=>obtain⟨x,k⟩:=p;exact λh=>(h _ (.head _)).elim (λe=>(show k=.local from e)▸ .l (ih λp q=>h p (.tail _ q))) λe=>(show k=.cell from e)▸ .c (ih λp q=>h p (.tail _ q))
def cN(nms:J (ai×cJ)):J ai:=nms.rec [] λp X ih=>match p.2 with| .cell=>p.1::ih|X=>ih
noncomputable def cA(cells:J (ai×aR))(x:ai):aR×aR:=((cells.lookup x).getD 0,(cells.lookup x).getD 0)
def DI(cells:J (ai×aR))(nms:J (ai×cJ)):bQ:=(cN nms).map (cA cells)
theorem LC.vL{nms}(h:LC nms):vL b nms=(cN nms).map λx=>O.cell (cG x b):=h.rec rfl (λX e=>e) λX e=>bR (_::·) e
theorem LC.mem{nms}(h:LC nms):x∈cN nms->(x,an2)∈nms:=h.rec (λm=>nomatch m) (λX ih m=>.tail _ (ih m)) λX ih m=>(iV.mp m).elim (λe=>e▸ .head _) λm=>.tail _ (ih m)
theorem LC.sub{nms}(h:LC nms):(cN nms).Sublist (nms.map (·.1)):=h.rec .slnil (λX ih=>ih.cons _) λX ih=>ih.cons_cons _
inductive EL(b:J (ai×V))(nms:J (ai×cJ))(h:H)(x:ai):jA->Prop
 |l:cG x nms=N .local->EL b nms h x (.L (cG x b))
 |c (i):cG x nms=N .cell->(cN nms)[i]?=N x->EL b nms h x (.C (h+i))
theorem LC.look{nms}(lc:LC nms):∀{h},cG x (yH b nms h)=N sl->EL b nms h x sl:=by
 induction lc with
 |nil=>exact λe=>nomatch e
 |l z ih=>exact B7 (P:=λo=>o=N sl->_) (λg e=>fW e▸g▸ .l (Es rfl)) λg e=>(ih e).rec (λl=>.l (yI g l)) λi l c=>.c i (yI g l) c
 |c z ih=>exact λ{h}=>B7 (P:=λo=>o=N sl->_) (λg e=>fW e▸g▸ .c 0 (Es rfl) rfl) λg e=>(ih e).rec (λl=>.l (yI g l)) λi l c=>(show h+(i+1)=vo h+i by lia)▸ .c (i+1) (yI g l) c
theorem ma(names:J (ai×cJ)):∀(n:H)(acc:J (ai×aR)),(x,an2)∈names\/(∃a,acc.lookup x=N a)->∃a,(Qk n names acc).lookup x=N a:=by
 induction names with
 |nil=>exact λn acc h=>h.elim (λq=>by cases q) id
 |cons p t ih=>
  obtain⟨y,k⟩:=p;have self:∀n acc,∃a,((y,n)::acc:J (ai×aR)).lookup y=N a:=λn X=>⟨n,by rw[Bf,qy]⟩
  intro n acc h;by_cases S:(k== .cell)=ah
  ·rw[Qk,dM S];refine ih (n+1) ((y,n)::acc) ?_;by_cases g:x=y
   ·exact .inr (g▸self _ _)
   ·exact h.imp (λq=>(iV.mp q).elim (λe=>absurd (bR co0 e) g) id) λq=>q.imp λa e=>by rw[Bf,Kg g];exact e
  ·rw[Qk,cF S];exact ih n acc (h.imp (λq=>(iV.mp q).elim (λe:(x,an2)=(y,k)=>absurd (show(k== .cell)=ah from(KA e).2▸rfl) S) id) id)
theorem aW7{l:J ai}:own ((l.map (cA cells)).zip (l.map λx=>O.cell (cG x b)))=(l.map (cA cells)).map (·.1):=by
 induction l with
 |nil=>rfl
 |cons x t ih=>exact bR (_::·) ih
theorem aW8{cells:J (ai×aR)}(ap:cells.Pairwise λx y=>x.2≠y.2){l:J ai}(nd:l.Nodup)(h:∀x∈l,∃a,cells.lookup x=N a):((l.map (cA cells)).map (·.1)).Nodup:=by rw[n_];refine List.pairwise_map.mpr (nd.imp_of_mem λ{a b} ha hb ne (e:(cells.lookup a).getD 0=(cells.lookup b).getD 0)=>ne ?_);exact(h a ha).elim λX p=>(h b hb).elim λX q=>name_of_addr ap (Kh p) (Kh (q.trans (bR N (by rw[p,q]at e;exact e.symm))))
theorem aW9{C:bQ}{O':J O}{s':aE}{o:J O}(m:l_ f r s F (r.zip o))(el:r.length=o.length)(sm:∃h t,s'={s with heap:=h,toks:=t})(gC:∀a y,s.heap.get? a=N y->s'.heap.get? a=N y)(ec:C.length=O'.length)
  (cl:∀p∈C.zip O',OR f.w (r++C) F s'.heap p.1 p.2)(fr:OR f.w (r++C) F s'.heap (G.locals,G.locals) (.frame G.cells M))(ow:own (C.zip O')=C.map (·.1))(eY:∀c∈C.map (·.1)++[G.locals],s.heap.get? c=ao)(nd:(C.map (·.1)++[G.locals]).Nodup)(fk:FK Y M):
  At f Y G ⟨M,o++O'⟩ (r++C) s' F/\fB r (r++C) s s' F F (own (r.zip o)) (own (eS G ⟨M,o++O'⟩ (r++C))):=by
 have mv:f_ r (r++C):=f_.app _ _;have ez:(r++C).zip (o++O')=r.zip o++C.zip O':=ak7 el;have eo:own (eS G ⟨M,o++O'⟩ (r++C))=own (r.zip o)++(C.map (·.1)++[G.locals]):=by
  rw[jf]
  show own ((r++C).zip (o++O'))++_=_
  rw[ez,jf,ow,jx];rfl
 refine⟨⟨by rw[f6,el,ec];exact f6.symm,fk,λa y e=>gC a y (m.sub a y e),m.base,λp hp=>?_,λc hc=>?_,?_⟩,mv,sm,.refl _,λX I e=>.inl e,λc hc=>?_,λc y X e=>gC c y e⟩
 ·refine(gK.mp hp).elim (λhp=>(gK.mp (ez▸hp:p∈_++_)).elim (λhp=>(m.live p hp).step mv (.refl _) λb X y e=>gC b y e) (cl p)) λhp=>?_;exact fN.mp hp▸fr
 ·exact(gK.mp (eo▸hc)).elim (m.jg c) λhc=>(iQ.fresh m (eY c hc)).fr
 ·exact eo▸qz.mpr ⟨m.nd,nd,λa ha b hb q=>(iQ.fresh m (eY b hb)).ow (q▸ha)⟩
 ·exact(gK.mp (eo▸hc)).imp id (eY c)
theorem my{AF:J O}{kc:bQ}(h:B3 (Wm.len AF) v Z.o k)(a:At f Y G Z r s F)(y:VR f.w r F v u)(e:kc.length=AF.length)
  (t:fB kc r bJ s Cm F (own (kc.zip AF)) (own (eS G Z r))):SK f AF k kc bJ Cm u s:=by
 unfold B3 at h
 simp only[HG,w_,RS,o7,yy]at h
 split at h;rotate_left;exact h.elim
 rename_i q;obtain⟨tl,BX⟩:=aH1 (o:=Z.o) (n:=Eo) (todo:=v.refs++lU (l7 (Wm.len AF) Z.o)) (acc:=um 0 (Wm.len AF))
 revert q h
 generalize hρ:wJ Z.o Eo (v.refs++lU (l7 (Wm.len AF) Z.o)) (um 0 (Wm.len AF))=ρ;rw[hρ]at BX
 intro q h;obtain⟨nd,lt,s1,s2⟩:=SM q;have mg:=Mt.cf a.mt a.len nd lt s2;have g:=MY (r:=r) a.len nd lt;refine⟨_,_,ρ.map (pk r),F,h,y.fL (.refl _) (SJ λx hx=>s1 x (by show x∈v.refs++[];rw[j3];exact hx)),by rw[cO,HT,cO,bn],mg,?_⟩
 refine t.weak (λi p hp=>?_) (λX z=>z) λb hb=>.inl ?_
 ·have hi:=(vq.mp hp).1;have e1:ρ[i]?=N i:=by
   rw[BX,bm,PY (by rw[List.length_range',nc];exact e▸hi),cr0 (by rw[nc];exact e▸hi)]
   simp
  rw[mD,e1];have e2:=t.fM i p hp
  show N (r[i]?.getD (0,0))=N p
  rw[e2];rfl
 ·rw[SH]at hb
  rw[nZ];exact iN _ (g.mem_iff.mpr (iN _ hb))
theorem aX0{fd:C9}(D:aW6 f a fd body ps nms)(hb:∀Z Q,bM Z Q->WS f fd.scope.names n body Z Q):SC f (n+1) (.ref a) (ZZ bM ps nms):=by
 intro args o k h A s F E r ws ok el m y;have go:∀z,Nr z (BP ps args)->(match(generalizing:=false) z with|some b=>tB (Wm.len o) λn=>rO ⟨yH b nms n,o++vL b nms⟩ λZ=>bM Z (mK n k)|none=>bV)->∃b,BP ps args b/\bM ⟨yH b nms (Wm.len o),o++vL b nms⟩ (mK (Wm.len o) k):=λz q h=>by
  cases z
  ·exact h.elim
  ·exact⟨_,q,((yt ..).trans (yy ..)).mp h⟩
 refine(go _ (aW5 ps args) h).elim λb h=>(D.bind s m.stays args b h.1 r F ws m.base y).elim λl hl=>D.obj.elim λob ho=>?_;have lc:=LC.of _ D.nlc;have nb:=h.1.names;have nd:(b.map (·.1)).Nodup:=nb▸D.pnd;have S:∀x∈l,fd.scope.names.lookup x.1=N .local\/(fd.scope.names.lookup x.1=N .cell/\((Qk (s.heap.objs.size+1) fd.scope.names []).lookup x.1).isSome=ah):=λx hx=>(D.pk x.1 (nb▸hl.2.names▸qA.mpr ⟨x,hx,rfl⟩)).imp id λq=>⟨q,(ma fd.scope.names (s.heap.objs.size+1) [] (.inl (Kh q))).elim λc e=>by rw[e];rfl⟩
 refine Bq (au6 ok.room (uM m _ _ ho.1) ho.2 D.co D.gen D.body (codeRec_of (uM m) D.code) (aZ (hl.1 _ _ _ _ ?_)));rw[D.clo];refine aZ<|wpAny_newFunctionEnv_cells D.kind S λG he s' x=>?_;refine⟨f.nl.keeps λb o e=>x.toInCall.keep b o (m.stays b o e),au5 ?_⟩;have eL:G.locals=s.heap.objs.size:=by rw[he];rfl
 have ec:G.cells=Qk (s.heap.objs.size+1) fd.scope.names []:=by rw[he];rfl
 have en:G.scope=fd.scope:=by rw[he];rfl
 have ei:g_ f fd.scope.names G:=⟨by rw[en];exact D.kind,by rw[en],by rw[he];exact D.gl,by rw[he];exact D.bi⟩
 have look:∀{z:ai}{k:cJ},(z,k)∈nms->G.kindOf z=N k:=λe=>ei.look (D.nk _ e);have mA:∀x∈cN nms,∃a,G.cells.lookup x=N a:=λz hz=>by rw[ec];exact ma _ _ _ (.inl (B_ (D.nk _ (lc.mem hz))))
 clear he S en ec;have at_:∀z∈cN nms,G.cells.lookup z=N (cA G.cells z).1:=λz hz=>(mA z hz).elim λc e=>by unfold cA;rw[e];rfl
 have eY:∀c,s.heap.objs.size<=c->s.heap.get? c=ao:=λc hc=>Option.eq_none_iff_forall_ne_some.mpr λo e=>vj.mpr hc (kI e);have mB:∀c∈(DI G.cells nms).map (·.1),s.heap.objs.size<c:=λc hc=>by obtain⟨p,hp,rfl⟩:=qA.mp hc;obtain⟨z,hz,rfl⟩:=qA.mp hp;exact eL▸x.above z _ (Kh (at_ z hz))
 have lk:∀{z sl},cG z (yH b nms (Wm.len o))=N sl->EL b nms (Wm.len o) z sl:=lc.look;have mr:∀{g:ai->bq aA}{z},Ip f.w r F b g z->Ip f.w (r++DI G.cells nms) F b g z:=λq v e=>(q v e).imp λu w=>⟨w.1,w.2.mono (f_.app _ _) (.refl _)⟩;have ent:=aW9 (f:=f) (Y:=fd.scope.names) (G:=G) (C:=DI G.cells nms) (O':=vL b nms) (M:=yH b nms (Wm.len o)) m el (x.toInCall.same.imp λh q=>q.imp λt e=>e) x.toInCall.keep (by rw[lc.vL];unfold DI;rw[cO,cO])
  (λp hp=>by
   rw[lc.vL]at hp
   unfold DI at hp
   rw[List.zip_map']at hp
   obtain⟨z,hz,rfl⟩:=qA.mp hp;exact⟨_,x.cell z _ (at_ z hz),mr (hl.2.cell nd (look (lc.mem hz)))⟩)
  ⟨_,x.toInCall.ns,λz sl e=>(lk e).rec (λq=>mr (hl.2.local nd (look (B_ q)))) λi q g=>⟨cA G.cells z,by
   rw[P4 (by rw[nc];exact bN (iW el) (gF _ _)),show Wm.len o+i -r.length=i by rw[nc,el,Kl]]
   unfold DI;rw[mD,g];rfl,at_ z (Ko g)⟩⟩
  (by rw[lc.vL];exact aW7)
  (λc hc=>(gK.mp hc).elim (λhc=>eY c (mX (mB c hc))) λhc=>eY c (by rw[fN.mp hc,eL];exact jO _))
  (qz.mpr ⟨aW8 x.apart (D.nnd.sublist lc.sub) mA,by simp,λa ha b hb q=>by have:=mB a ha;rw[q,fN.mp hb,eL]at this;exact vg _ this⟩)
  λz sl e=>(lk e).rec (λq=>D.nk _ (B_ q)) λi q g=>D.nk _ (B_ q)
 refine WX.run (hb _ _ h.2) ok.deeper ei ent.1 λfl u aI bY cz aF h₁ cX b7 b8=>?_;cases cX with
 |next=>exact my h₁ b7 (.d .none) el (ent.2.trans b8)
 |brk=>exact h₁.elim
 |cont=>exact h₁.elim
 |ret y=>exact my h₁ b7 y el (ent.2.trans b8)
end
end Wm
section
namespace Wm
namespace Fb
theorem mI:PlainAttrs "bytearray":=
 ⟨⟨"bytearray.__getattribute__",by rw[uf,ug];kernel_rfl,by decide+kernel⟩,by rw[uf,ug];kernel_rfl⟩
theorem TF:Manifest.owners.lookup (String.ofList ['y','a','r','r','a','e','t','y','b'].reverse)=N Manifest.sig_bytearray:=by kernel_rfl
theorem mM:KC "bytearray" "append" "bytearray.append":=
 .of (owner:= "bytearray") (n:= "append") (by rw[uf,ug];kernel_rfl) (by decide+kernel) (by decide+kernel) (by decide+kernel)
  (by first|exact .inl (by decide+kernel)|exact .inr (by decide+kernel)) (by rw[KD];kernel_rfl)
theorem aX1:XK (.builtin "bytearray.append")=pure (.type "method_descriptor"):=by show builtinType _=_;rw[cv9];kernel_rfl
theorem aX2:qC nK "bytearray.append"=N gW.«bytearray.append»:=KG (by kernel_rfl)
theorem aX3(a b:aA):wG "bytearray.append" ⟨[a,b],[]⟩:=by unfold wG;rw[an3 (id:= "bytearray.append") (n:=['d','n','e','p','p','a']) (o:=['y','a','r','r','a','e','t','y','b']) (by kernel_rfl) TF];kernel_rfl
theorem Nt:KC "bytearray" "extend" "bytearray.extend":=
 .of (owner:= "bytearray") (n:= "extend") (by rw[uf,ug];kernel_rfl) (by decide+kernel) (by decide+kernel) (by decide+kernel)
  (by first|exact .inl (by decide+kernel)|exact .inr (by decide+kernel)) (by rw[KD];kernel_rfl)
theorem aX4:XK (.builtin "bytearray.extend")=pure (.type "method_descriptor"):=by show builtinType _=_;rw[cv9];kernel_rfl
theorem TG:qC nK "bytearray.extend"=N gW.«bytearray.extend»:=KG (by kernel_rfl)
theorem TH(a b:aA):wG "bytearray.extend" ⟨[a,b],[]⟩:=by unfold wG;rw[an3 (id:= "bytearray.extend") (n:=['d','n','e','t','x','e']) (o:=['y','a','r','r','a','e','t','y','b']) (by kernel_rfl) TF];kernel_rfl
end Fb
variable{f:Cf}{Y:J (ai×cJ)}{n:H}{Z:St}{e:aT}{G:cL}{r:bQ}{s:aE}{F:bP}
def aX5(g:uJ):aA:=match g with
 | .fn a=>.ref a
 | .MI=>.builtin "list.append"
 | .MJ=>.builtin "list.extend"
 | .MK=>.builtin "list.pop"
 | .ML=>.builtin "bytearray.append"
 | .MM=>.builtin "bytearray.extend"
 | .MO=>.builtin "tuple.index"
 | .MP=>.builtin "str.join"
abbrev Nu(f:Cf)(A:cQ)(E:aA->aE->Prop)(s:aE)(g:uJ)(u:aA)(x:ai):Prop:=∀(pl:dJ aD)(Q:aA×J aA->aE->Prop),Q (aX5 g,[u]) s->av (aP f.prog f.w) A (getMethod u x pl) Q E s
theorem Cp{P:Prop}{α:Type}{q:aD}{a:α}{o:bq α}{g:α}(h:(match q with|true=>N a|false=>o)=N g)(h1:q=ah->a=g->P)(h2:o=N g->P):P:=by
 induction q with
 |true=>exact h1 rfl (fW h)
 |false=>exact h2 h
theorem mN{A:cQ}{E:aA->aE->Prop}{l:aR}{ws:cT aA}{m:H}{x:ai}{g:uJ}(h:R4 x=N g)(e:s.heap.get? l=N (iH ws m)):Nu f A E s g (.ref l) x:=by
 have hT:s.TypeIs (.ref l) "list":=⟨_,e,rfl⟩;have hd:∀a,zN l=.ref a->∃o,s.heap.get? a=N o/\o.dict=ao:=λa q=>by cases q;exact⟨_,e,rfl⟩
 refine Cp h (λq h=>?_) λh=>Cp h (λq h=>?_) λh=>Cp h (λq h=>?_) λh=>nomatch h
 ·rw[rQ q,<-h];exact λpl Q hq=>aZ<|Gi hT an4 cw0 PySem.F.type_list_append hd hq
 ·rw[rQ q,<-h];exact λpl Q hq=>aZ<|Gi hT an4 an5 PySem.F.type_list_extend hd hq
 ·rw[rQ q,<-h];exact λpl Q hq=>aZ<|Gi hT an4 an6 PySem.F.type_list_pop hd hq
theorem aX6{A:cQ}{E:aA->aE->Prop}{l:aR}{b:cT iX}{x:ai}{g:uJ}(h:ZR x=N g)(e:s.heap.get? l=N ⟨.type "bytearray",ao,.bytearray b 0,#[]⟩):Nu f A E s g (.ref l) x:=by
 have hT:s.TypeIs (.ref l) "bytearray":=⟨_,e,rfl⟩;have hd:∀a,zN l=.ref a->∃o,s.heap.get? a=N o/\o.dict=ao:=λa q=>by cases q;exact⟨_,e,rfl⟩
 refine Cp h (λq h=>?_) λh=>Cp h (λq h=>?_) λh=>nomatch h
 ·rw[rQ q,<-h];exact λpl Q hq=>aZ<|Gi hT Fb.mI Fb.mM Fb.aX1 hd hq
 ·rw[rQ q,<-h];exact λpl Q hq=>aZ<|Gi hT Fb.mI Fb.Nt Fb.aX4 hd hq
theorem aX7{fs:J (ai×V)}(y:mL w r F fs es)(h:x∉fs.map (·.1)):shadowIn (N (mY es m)) x=N ak:=by
 have:cG x fs=ao:=by
  cases q:cG x fs with
  |none=>rfl
  |some v=>rw[Aw]at q;exact absurd (qA.mpr ⟨_,Kh q,rfl⟩) h
 have:=(mL.get y).2 this
 show(lookIn x (mY es m)).map (·.isSome)=N ak
 rw[lookIn_dict,this];rfl
theorem TJ{A:cQ}{E:aA->aE->Prop}{p:aR×aR}{c:aR}{fs:J (ai×V)}{x:ai}{g:uJ}(h:MQ c x=N g)(ff:f.K.In s.heap)(ob:xh f.w r F s.heap p c fs):Nu f A E s g (.ref p.1) x:=by
 refine b_ ob λes hx=>?_;refine b_ hx λm hx=>?_;refine b_ hx λsl hx=>?_;have h1:=hx.1;have h2:=hx.2.1;have y:=hx.2.2.1;have ha:=hx.2.2.2.2;have h:(match GV c x with|some f=>N (uJ.fn f)|none=>ao)=N g:=h
 cases q:GV c x with
 |none=>rw[q]at h;cases h
 |some a=>
  rw[q]at h
  rw[<-fW h];have M:=f.ce c x a q;have hx:=plainGet_of M.pg;have p1:=hx.1;have p2:=hx.2;have bG:XH s.heap p.1 ⟨.ref c,N p.2,.plain,sl⟩ c (N (mY es m)):=⟨h1,rfl,rfl,h2⟩;exact λpl Q hq=>aZ<|method_fn ff bG p1 p2 M.fi M.ty (aX7 (m:=m) y λhm=>gr ((ha x hm).symm.trans M.na)) hq
theorem aX8{a:V}{u:aA}{x:ai}{g:uJ}{A:cQ}{E:aA->aE->Prop}(h:HN a x Z.o=N g)(at_:At f Y G Z r s F)(y:VR f.w r F a u):Nu f A E s g u x:=by
 induction a with
 |ref i=>
  refine y.e λp e1=>?_;cases q:gw i Z.o with
  |none=>unfold HN at h;dsimp only at h;rw[q]at h;cases h
  |some z=>
   have ob:=at_.obj e1 q;unfold HN at h
   dsimp only at h
   rw[q]at h
   induction z with
   |dl ds=>obtain⟨ws,m,e,_⟩:=ob;exact mN h e
   |vl ds=>obtain⟨ws,m,e,_⟩:=ob;exact mN h e
   |ba ds=>obtain⟨b,e,_⟩:=ob;exact aX6 h e
   |inst c fs=>exact TJ h (uM at_.mt) ob
   |cur ts=>obtain⟨l,i,e,z,_⟩:=ob;exact TJ h (uM at_.mt) z
   |_=>cases h
 |d z=>
  refine y.e λu y=>?_;induction z using Wm.D.casesOn with
  |obj c fs=>exact y.e λl d es m sl e1 e2 z nd=>TJ (r:=r) (p:=(l,d)) h (uM at_.mt) ⟨es,m,sl,at_.mt.sub _ _ e1,at_.mt.sub _ _ e2,L2.toF z,by rw[n_];exact nd.1,by rw[n_];exact nd.2⟩
  |tup ds=>refine y.e λl ws m e X I=>Cp h (λq h=>?_) λh=>nomatch h;rw[rQ q,<-h];exact λpl Q hq=>aZ<|Gi ⟨_,at_.mt.sub _ _ e,rfl⟩ PySem.F.plainAttrs_tuple cw1 PySem.F.type_tuple_index (λa q=>by cases q;exact⟨_,at_.mt.sub _ _ e,rfl⟩) hq
  |str z=>refine y.e λt=>Cp h (λq h=>?_) λh=>nomatch h;rw[rQ q,<-h];exact λpl Q hq=>aZ<|Gi (typeIs_str s _ _) PySem.F.plainAttrs_str PySem.F.slot_str_join PySem.F.type_str_join (λa q=>nomatch q) hq
  |_=>cases h
 |_=>cases h
theorem TL(e:s.heap.get? l=N (iH ws m)):∃m',(s.heap.update l (sH g)).get? l=N (iH (g ws) m'):=by rw[Bj _ e rfl];exact⟨_,rfl⟩
abbrev ig(f:Cf)(Y:J (ai×cJ))(G:cL)(Z:St)(k:V->J O->Prop)(r:bQ)(s:aE)(F:bP):=rS f Y G Z (λv b9=>b9.m=Z.m/\k v b9.o) r s F
theorem aX9(h:R5 a vs Z.o k)(at_:At f Y G Z r s F)(y:VR f.w r F a u)(z:gh f.w r F vs ws):
  av (aP f.prog f.w) A (fF (.builtin "list.append") (u::ws)) (ig f Y G Z k r s F) E s:=by
 refine Ax y h λhd p e1 h=>qT z h λv x zv h=>pn h λo e2 h=>?_;have go:∀{jm:cT aA}{m:H}{n:H},n=jm.size->jR (p,o)=[p.1]->s.heap.get? p.1=N (iH jm m)->n<1048576->∀o':O,jR (p,o')=[p.1]->
   (∀h' m',h'.get? p.1=N (iH (jm.push x) m')->OR f.w r F h' p o')->k (.d .none) (eO o' hd Z.o)->av (aP f.prog f.w) A (fF (.builtin "list.append") [.ref p.1,x]) (ig f Y G Z k r s F) E s:=by
  intro jm m n sz e3 e4 e5 o' e6 e7 S;refine aZ<|Dl cw0 ⟨_,e4,rfl⟩ PySem.F.entry_list_append (PySem.F.args_list_append_2 _ _) (Wl.aP7 p.1 jm m x (sz▸oX e5 (by unfold gX;decide))) ⟨e4,?_⟩
  obtain⟨m',em⟩:=TL (g:=(·.push x)) e4;obtain⟨a',t'⟩:=at_.chg (y:=o') (t:=s.toks) (a:=p.1) (h':=s.heap.update p.1 (sH (·.push x))) e1 e2 (by rw[e3];exact .head _) (by rw[e6,e3]) (Ge ..) (e7 _ m' em)
  exact⟨.d .none,⟨Z.m,eO o' hd Z.o⟩,r,F,⟨rfl,S⟩,.d .none,a',t'⟩
 have ob:=at_.obj e1 e2;induction o with
 |dl ds=>
  obtain⟨jm,m,e4,yd,hl⟩:=ob;have sz:ds.length=jm.size:=yd.length.trans o5;have gen:∀v,VR f.w r F v x->dh (f9 ds) (k (.d .none) (eO (.vl [v]) hd Z.o)) bV->av (aP f.prog f.w) A (fF (.builtin "list.append") [.ref p.1,x]) (ig f Y G Z k r s F) E s:=λv zv h=>by
   obtain⟨e,h⟩:=l9 h;induction ds using eT with
   |cons X I=>cases e
   |nil=>exact go sz rfl e4 (by decide) (.vl _) rfl (λh' m' e=>⟨_,m',e,by rw[Qj,yd.HQ];exact .cons zv .nil,by show 1<=1048576;decide⟩) h
  induction v with
  |d x=>exact go sz rfl e4 h.1 (.dl _) rfl (λh' m' e=>⟨_,m',e,by rw[Qj];exact yd.append (.cons zv.HR .nil),by rw[f6];exact h.1⟩) h.2
  |_=>exact gen _ zv h
 |vl vs=>obtain⟨jm,m,e4,yd,hl⟩:=ob;exact go (yd.length.trans o5) rfl e4 h.1 (.vl _) rfl (λh' m' e=>⟨_,m',e,by rw[Qj];exact yd.append (.cons zv .nil),by rw[f6];exact h.1⟩) h.2
 |_=>exact h.elim
end Wm
end
namespace Wm
section
variable{f:Cf}{Y:J (ai×cJ)}{n:H}{Z:St}{e:aT}{G:cL}{r:bQ}{s:aE}{F:bP}
theorem av6{α:Type}(jm:cT α)(j:H):(jm.eraseIdxIfInBounds j).toList=jm.toList.eraseIdx j:=by
 unfold cu6
 split
 ·rw[Array.toList_eraseIdx]
 ·rw[List.eraseIdx_of_length_le (by rw[o5];exact vj.mp (by assumption))]
theorem aY0(h:R7 a vs Z.o k)(at_:At f Y G Z r s F)(y:VR f.w r F a u)(z:gh f.w r F vs ws):
  av (aP f.prog f.w) A (fF (.builtin "list.pop") (u::ws)) (ig f Y G Z k r s F) E s:=by
 refine Ax y h λhd p e1 h=>pn h λo q h=>?_
 revert q
 refine Su h λds h q=>?_;obtain⟨jm,m,e4,yd,hl⟩:=at_.obj e1 q;have sz:=yd.size;have zl:jm.size<=gX:=by rw[sz];exact bN hl (by unfold gX;decide)
 have post:∀{j:H}{x:D}{w:aA},DR F x w->k (.d x) (eO (.dl (ds.eraseIdx j)) hd Z.o)->ig f Y G Z k r s F w {s with heap:=s.heap.update p.1 (sH (·.eraseIdxIfInBounds j)),toks:=s.toks}:=by
  intro j x w yx S;obtain⟨m',em⟩:=TL (g:=(·.eraseIdxIfInBounds j)) e4;obtain⟨a',t'⟩:=at_.chg (y:=.dl (ds.eraseIdx j)) (t:=s.toks) (a:=p.1) (h':=s.heap.update p.1 (sH (·.eraseIdxIfInBounds j))) e1 q (.head _) rfl (Ge ..)
   ⟨_,m',em,by rw[av6];exact yd.erase,bN (List.length_eraseIdx_le ..) hl⟩
  exact⟨.d x,⟨Z.m,eO (.dl (ds.eraseIdx j)) hd Z.o⟩,r,F,⟨rfl,S⟩,.d yx,a',t'⟩
 induction vs using eT with
 |nil=>
  rw[z.HQ];obtain⟨l,v,rfl,S⟩:=h;have sz:jm.size=l.length+1:=sz.trans (by rw[f6];rfl)
  obtain⟨w,e5,yw⟩:=yd.get (i:=l.length) (v:=v) (by rw[P4 (jO _),am7];rfl)
  refine aZ<|Dl an6 ⟨_,e4,rfl⟩ cw2 (PySem.F.args_list_pop_1 _) (Wl.aP5 _ jm m w l.length sz.symm (by rw[<-rB];exact e5) zl) ⟨e4,post (j:=l.length) yw ?_⟩
  rw[List.eraseIdx_append_of_length_le (jO _),am7,List.eraseIdx_zero,List.tail_cons,j3];exact S
 |cons i vs=>
  cases z with|cons zi z=>
  refine Z_ z h λh=>jX zi h λi t h=>?_;obtain⟨e,h⟩:=l9 h;induction i with
  |negSucc X=>cases e
  |ofNat i=>
   obtain rfl:=mV e;induction ds using eT with
   |nil=>exact h.elim
   |cons v l=>obtain⟨w,e5,yw⟩:=yd.get (i:=0) (v:=v) rfl;exact aZ<|Dl an6 ⟨_,e4,rfl⟩ cw2 (PySem.F.args_list_pop_2 _ _) (Wl.aP6 _ jm m w _ (by rw[sz];exact jd _) (by rw[<-rB];exact e5) zl) ⟨e4,post (j:=0) yw h⟩
theorem aY1(h:R6 a vs Z.o k)(at_:At f Y G Z r s F)(y:VR f.w r F a u)(z:gh f.w r F vs ws):
  av (aP f.prog f.w) A (fF (.builtin "list.extend") (u::ws)) (ig f Y G Z k r s F) E s:=by
 refine Ax y h λhd p e1 h=>qT z h λv x zv h=>pn h λo q h=>?_
 revert q
 refine Su h λds h q=>M9 h at_ zv λes l ws m2 S h3 y2 h2 eu=>?_;rw[eu];refine b_ (at_.obj e1 q) λjm hx=>?_;refine b_ hx λm hx=>?_;have e4:=hx.1;have yd:=hx.2.1;have hl:=hx.2.2;have sf:jm.size+ws.size<=gX:=by rw[yd.size,y2.size,<-f6];exact bN S.1 (by unfold gX;decide)
 have post:ig f Y G Z k r s F .none {s with heap:=s.heap.update p.1 (sH λx=>x++ws),toks:=s.toks}:=by
  refine b_ (TL (g:=λx=>x++ws) e4) λm' hx=>?_;have em:=hx;obtain⟨a',t'⟩:=at_.chg (y:=.dl (ds++es)) (t:=s.toks) (a:=p.1) (h':=s.heap.update p.1 (sH λx=>x++ws)) e1 q (.head _) rfl (Ge ..)
   ⟨_,m',em,by rw[Xy];exact yd.append y2,S.1⟩
  exact⟨.d .none,⟨Z.m,eO (.dl (ds++es)) hd Z.o⟩,r,F,⟨rfl,S.2⟩,.d .none,a',t'⟩
 have c0:¬(!jm.isEmpty&&al6 (jm.size+ws.size))=ah:=by
  unfold al6 gX;unfold gX at sf
  simp;intro _;omega
 have b1:=bN (gF _ _) sf;rcases h3 with h3|h3
 ·exact aZ<|Dl an5 ⟨_,e4,rfl⟩ cw3 (cw4 _ _) (AutoSeq1.list_extend_list_list_0 p.1 jm m l ws m2 c0 b1 (xU sf)) ⟨e4,h3,post⟩
 ·exact aZ<|Dl an5 ⟨_,e4,rfl⟩ cw3 (cw4 _ _) (AutoSeq1.list_extend_list_tuple_0 p.1 jm m l ws m2 c0 b1 (xU sf)) ⟨e4,h3,post⟩
theorem aY2{id:jZ}{a:Args}(h:free (.builtin id a)=ah)(x:jZ)(hx:x∈Bp):id≠x:=by
 intro e;subst e;unfold free at h
 simp only[cv3]at h
 have:Bp.contains id=ah:=by rw[cw5];exact hx
 rw[h]at this;cases this
theorem nr(h:Q ak s):av M A (XM self) Q E s:=λΓ p gY hc=>by
 unfold XM
 show Q (List.any ((Γ.code,p)::Γ.below) _) s
 have:∀x∈(Γ.code,p)::Γ.below,free x.1=ah:=λx hx=>by
  rcases iV.mp hx with rfl|hx
  ·exact hc.1
  ·exact hc.2 x hx
 rw[List.any_eq_false.mpr]
 ·exact h
 ·intro x hx;have fx:=this x hx;obtain⟨c,q⟩:=x;induction c with
  |builtin id a=>
   have ne:∀y∈Bp,id≠y:=λy hy=>aY2 fx y hy;delta cF6 XM._sparseCasesOn_1;dsimp only;rw[Ql (ne _ (by decide+kernel)),Ql (ne _ (by decide+kernel)),Ql (ne _ (by decide+kernel)),Ql (ne _ (by decide+kernel)),Ql (ne _ (by decide+kernel))]
   obtain⟨args,kw⟩:=a;induction args using eT with
   |nil=>exact rq
   |cons v tl=>intro q;have q:=(Ky _ _▸q:_=ah/\_=ah);exact ne _ (iN _ (cw5.mp q.2)) rfl
  |_=>exact rq
noncomputable abbrev jY(b:cT iX):fH:=⟨.type "bytearray",ao,.bytearray b 0,#[]⟩
theorem nw(hl:s.heap.get? l=N (jY b))(h:Q () s):av M A (XN (.ref l)) Q E s:=by
 unfold XN;refine aJ ?_;unfold orM;refine aJ (nr ?_)
 show av M A (an7 (.ref l)>>=λn=>pure (decide (n>0))) _ _ _
 unfold an7;refine aJ (aJ (aZ<|zK hl ?_));exact bg (bg (bg h))
theorem nx{i:aa}(h:Q i s):av M A (asIndex (.int i t)) Q E s:=iZ (rfl:asIndex (.int i t)=pure i) h
theorem Nv(hl:s.heap.get? l=N (jY b))(hz:(g b).size<=1048576)(h:Q () {s with heap:=s.heap.update l (wH g)}):av M A (XO (.ref l) g) Q E s:=by
 show av M A (cw6 l g) Q E s
 unfold cw6;refine aJ (aZ<|zK hl ?_)
 show av M A (update l (wH g)>>=λX=>lookBehind l) Q E s
 refine aJ (aZ<|wpAny_update hl ?_);refine aZ<|cu5 (Bj (wH g) hl rfl) ?_ h
 show(if(g b).size>gX then N "bytearray:memory" else ao)=ao
 rw[cF (by unfold gX;lia)]
theorem aY3{M:jP}{A:cQ}{E:aA->aE->Prop}{b:cT iX}{i:aa}{t:H}(hl:s.heap.get? l=N (jY b))(h0:0<=i)(h1:i<256)(hz:b.size<1048576)
  (h:Q (.done (.ret .none)) {s with heap:=s.heap.update l (wH (·.push i.toNat.toUInt8))}):av M A (gW.«bytearray.append» ⟨[.ref l,.int i t],[]⟩) Q E s:=by
 show av M A (XQ (.int i t)>>=λc=>XN (.ref l)>>=λX=>XO (.ref l) (·.push c)>>=λX=>su .none) Q E s
 refine aJ ?_;unfold XQ;refine aJ (nx ?_);rw[cF (by simp;lia)]
 exact bg (aJ (nw hl (aJ (Nv hl (by simp;lia) (bg h)))))
theorem Iq{prog:iU}{w:bU}{A:cQ}{E:aA->aE->Prop}{T id:jZ}{name:ai}{B:gW}{self:aA}{dg:J aA}{Q:aA->aE->Prop}(FU:KC T name id)(hT:s.TypeIs self T)(J1:qC nK id=N B)(args:wG id ⟨self::dg,[]⟩)(hf:!Bp.contains id)
  (h:av (aP prog w) A.in1 (B ⟨self::dg,[]⟩) (λcH s'=>match cH with
   | .done (.ret v)=>Q v s'
   |X=>bV) E s):av (aP prog w) A (fF (.builtin id) (self::dg)) Q E s:=by
 refine Bq (m_ ?_)
 show av _ A.in1 (Dw id ⟨self::dg,[]⟩>>=λX=>sq (.builtin id ⟨self::dg,[]⟩)) _ _ s
 refine aJ (aZ (FU.check _ _ _ _ _ _ _ _ hT args (bg (rz ⟨Bk FU.plain _,hf⟩ (m_ ?_)))));rw[KH FU.plain _]
 show av _ A.in1 (match qC nK id with|some b=>b ⟨self::dg,[]⟩|none=>zG ((Qm id "#data").getD id)) _ _ s
 rw[J1];refine gG h (λcH s' q=>?_) λX I z=>z;induction cH with
 |done g=>cases g<;>first|exact q|exact q.elim
 |again c=>exact q.elim
theorem aY4{i:aa}(h0:0<=i)(h1:i<256):i.toNat.toUInt8.toNat=i.toNat:=by have:i.toNat<256:=(XR h0).mpr h1;simp[Bl,cw7,zQ this]
theorem aY5(h:R8 a vs Z.o k)(at_:At f Y G Z r s F)(y:VR f.w r F a u)(z:gh f.w r F vs ws):
  av (aP f.prog f.w) A (fF (.builtin "bytearray.append") (u::ws)) (ig f Y G Z k r s F) E s:=by
 refine Ax y h λhd p e1 h=>pn h λo q h=>?_
 revert q
 refine Z9 h λl h q=>qT z h λv x zv h=>jX zv h λi t h=>?_;obtain⟨b,e4,rfl,hl⟩:=at_.obj e1 q;obtain⟨⟨h0,h1,h2⟩,S⟩:=h;have hz:b.size<1048576:=by rw[cO,o5]at h2;exact h2
 refine Iq Fb.mM ⟨_,e4,rfl⟩ Fb.aX2 (Fb.aX3 _ _) (by decide+kernel) (aY3 e4 h0 h1 hz ?_)
 obtain⟨a',t'⟩:=at_.chg (y:=.ba (b.toList.map iY++[i.toNat])) (t:=s.toks) (a:=p.1) (h':=s.heap.update p.1 (wH (·.push i.toNat.toUInt8))) e1 q (.head _) rfl (Ge ..)
  ⟨b.push i.toNat.toUInt8,Bj _ e4 rfl,by rw[Qj,zR,List.map_singleton,aY4 h0 h1],by rw[f6];exact h2⟩
 exact⟨.d .none,⟨Z.m,eO (.ba (b.toList.map iY++[i.toNat])) hd Z.o⟩,r,F,⟨rfl,S⟩,.d .none,a',t'⟩
theorem aY6{id:jZ}{c:cT iX}{u:H}{full:aD}:Bm id (.bytes c u) full=pure (N c):=by unfold Bm;rw[XS an8,cw8,KBy.own_release];kernel_rfl
theorem aY7{id:jZ}{c:cT iX}{u:H}:an9 id (.bytes c u) 0=pure (N (c,ao)):=by unfold an9;rw[XS an8,cw8];simp only[aY6];kernel_rfl
theorem aY8{id:jZ}{c:cT iX}{u:H}:XT id (.bytes c u) 0=pure (N (c,ao)):=by unfold XT;rw[aY7];rfl
theorem Nx(hl:s.heap.get? l=N (jY b))(h:Q b s):av M A (Qn (.ref l)) Q E s:=by unfold Qn ao0;refine aJ (aJ (aZ<|zK hl ?_));exact bg (bg h)
theorem TM{M:jP}{A:cQ}{E:aA->aE->Prop}{b c:cT iX}(hl:s.heap.get? l=N (jY b))(hz:b.size+c.size<=1048576)
  (h:Q (.done (.ret .none)) {s with heap:=s.heap.update l (wH (·++c))}):av M A (do
   if !c.isEmpty then XN (.ref l)
   XO (.ref l) (·++c)
   su .none) Q E s:=by
 have w:=Nv (M:=M) (A:=A) (E:=E) (g:=(·++c)) (Q:=λX s'=>av M A (su .none) Q E s') hl (by simp;omega) (bg h)
 by_cases hc:(!c.isEmpty)=ah
 ·rw[dM hc];exact aJ (nw hl (aJ w))
 ·rw[cF hc];exact aJ w
theorem aY9{M:jP}{A:cQ}{E:aA->aE->Prop}{l:aR}{b c:cT iX}{u:H}{Q:Fin->aE->Prop}(hl:s.heap.get? l=N (jY b))(hz:b.size+c.size<=1048576)
  (h:Q (.done (.ret .none)) {s with heap:=s.heap.update l (wH (·++c))}):av M A (gW.«bytearray.extend» ⟨[.ref l,.bytes c u],[]⟩) Q E s:=by
 unfold gW.«bytearray.extend»;refine aJ (iZ (a:=(zN l,cw9 c u)) rfl ?_);dsimp only;refine aJ (iZ (XS an8) ?_);refine aJ (sO ?_);refine aJ (Nx hl ?_);refine aJ (iZ aY8 ?_);exact TM hl hz h
theorem xy:ue (.type "bytearray") "__buffer__"=pure (N (.builtin "bytearray.__buffer__")):=by rw[uf,ug];kernel_rfl
theorem TN:ue (.type "bytearray") "__release_buffer__"=pure (N (.builtin "bytearray.__release_buffer__")):=by rw[uf,ug];kernel_rfl
theorem Ir:isSubtype (.type "bytearray") (.type "bytearray")=pure ah:=by rw[KD];kernel_rfl
theorem Cq{name id:jZ}(hl:s.heap.get? l=N (jY b))(S:ue (.type "bytearray") (name:ai)=pure (N (.builtin id)))(he:(!id.endsWith ("." ++name))=ak)(hd:id.dropRight (name.length+1)= "bytearray")(h:Q ah s):
  av M A (XU (.ref l) name) Q E s:=by
 unfold XU;refine aJ (aZ<|sF ⟨_,hl,rfl⟩ S ?_);dsimp only;rw[he,cF rq,hd];unfold KI;exact aJ (aZ<|Gb ⟨_,hl,rfl⟩ (iZ Ir h))
theorem TP{M:jP}{A:cQ}{E:aA->aE->Prop}{l:aR}{b:cT iX}{id:jZ}{full:aD}{Q:bq (cT iX)->aE->Prop}(hl:s.heap.get? l=N (jY b))(h:Q (N b) s):av M A (Bm id (.ref l) full) Q E s:=by
 unfold Bm;refine aJ (aZ<|sF ⟨_,hl,rfl⟩ xy ?_);dsimp only;refine aJ (Cq hl xy (by decide+kernel) (by decide+kernel) ?_)
 rw[cF (by decide)]
 refine aJ (aZ<|sF ⟨_,hl,rfl⟩ xy ?_)
 show av M A (Qo (.ref l)>>=_) Q E s
 unfold Qo;refine aJ (aJ (Cq hl TN (by decide+kernel) (by decide+kernel) (bg ?_)))
 rw[cF (by decide)]
 exact aJ (Nx hl (bg h))
theorem aZ0{M:jP}{A:cQ}{E:aA->aE->Prop}{l:aR}{b:cT iX}{id:jZ}{Q:bq (cT iX×bq aA)->aE->Prop}(hl:s.heap.get? l=N (jY b))(h:Q (N (b,ao)) s):av M A (XT id (.ref l) 0) Q E s:=by
 unfold XT;refine aJ (Yn ?_);unfold an9;refine aJ (aZ<|sF ⟨_,hl,rfl⟩ xy ?_);dsimp only;refine aJ (Cq hl xy (by decide+kernel) (by decide+kernel) ?_)
 rw[cF (by decide)]
 refine aJ (aZ<|sF ⟨_,hl,rfl⟩ xy ?_)
 show av M A (Bm id (.ref l) _>>=_) _ _ s
 exact aJ (TP hl (bg (bg h)))
theorem aZ1{M:jP}{A:cQ}{E:aA->aE->Prop}{b c:cT iX}(hl:s.heap.get? l=N (jY b))(hc:s.heap.get? l'=N (jY c))(hz:b.size+c.size<=1048576)
  (h:Q (.done (.ret .none)) {s with heap:=s.heap.update l (wH (·++c))}):av M A (gW.«bytearray.extend» ⟨[.ref l,.ref l'],[]⟩) Q E s:=by
 unfold gW.«bytearray.extend»;refine aJ (iZ (a:=(zN l,zN l')) rfl ?_);dsimp only;refine aJ (aZ<|sF ⟨_,hc,rfl⟩ xy ?_);refine aJ (sO ?_);refine aJ (Nx hl ?_);refine aJ (aZ0 hc ?_);exact TM hl hz h
theorem aZ2:ue (.type "list") "__buffer__"=pure ao:=by rw[uf,ug];kernel_rfl
theorem aZ3:ue (.type "list") "__len__"=pure (N (.builtin "list.__len__")):=by rw[uf,ug];kernel_rfl
theorem aZ4:isSubtype (.type "list") (.type "list")=pure ah:=by rw[KD];kernel_rfl
theorem aZ5(id:jZ)(l:aR):∃(d:bq aA->dJ rt)(g:aD->dJ rt),cx0 id (.ref l)=(ao1 (.ref l) "__len__" >>=d)/\d (N (.builtin "list.__len__"))=(KI (.ref l) (.type "list")>>=g)/\g ah=pure ():=by
 have e:splitId "list.__len__"=N ("list","__len__"):=by decide+kernel
 refine⟨_,?g,rfl,?_,?_⟩
 rotate_left
 ·dsimp only;rw[e]
 ·kernel_rfl
theorem aZ6{M:jP}{A:cQ}{E:aA->aE->Prop}{id:jZ}{l:aR}{ws:cT aA}{m:H}{Q:rt->aE->Prop}(hl:s.heap.get? l=N (iH ws m))(h:Q () s):av M A (cx0 id (.ref l)) Q E s:=
 (aZ5 id l).elim λd q=>q.elim λg q=>q.1.symm▸aJ (aZ<|sF ⟨_,hl,rfl⟩ aZ3 (q.2.1.symm▸aJ (aJ (aZ<|Gb ⟨_,hl,rfl⟩ (iZ aZ4 (q.2.2.symm▸bg h))))))
theorem oa{prog:iU}{w:bU}{A:cQ}{R:nM->aE->Prop}{id:jZ}{B:gW}{args:Args}(hp:plainId id=ah)(J1:qC nK id=N B)
  (h:av (aP prog w) A.in1 (B args) (λcH s'=>match cH with| .done f=>R (.ok f) s'| .again c'=>(c'.quiet=ah/\free c'=ah)/\eG (aP prog w) A c' R s') (λe s'=>R (.error e) s') s):eG (aP prog w) A (.builtin id args) R s:=by
 refine m_ ?_;rw[KH hp _]
 show av _ A.in1 (match qC nK id with|some b=>b args|none=>zG ((Qm id "#data").getD id)) _ _ s
 rw[J1];exact h
theorem aZ7{prog:iU}{w:bU}{A:cQ}{E:aA->aE->Prop}{T id:jZ}{name:ai}{self:aA}{dg:J aA}{Q:aA->aE->Prop}(FU:KC T name id)(hT:s.TypeIs self T)(args:wG id ⟨self::dg,[]⟩)(hf:!Bp.contains id)
  (h:eG (aP prog w) A (.builtin id ⟨self::dg,[]⟩) (λr s'=>match r with| .ok (.ret v)=>Q v s'| .ok X=>bV| .error e=>E e s') s):av (aP prog w) A (fF (.builtin id) (self::dg)) Q E s:=by
 refine Bq (m_ ?_)
 show av _ A.in1 (Dw id ⟨self::dg,[]⟩>>=λX=>sq (.builtin id ⟨self::dg,[]⟩)) _ _ s
 exact aJ (aZ (FU.check _ _ _ _ _ _ _ _ hT args (bg (rz ⟨Bk FU.plain _,hf⟩ h))))
theorem Iu{id:jZ}{a:Args}(h:(!Bp.contains id)=ah):free (.builtin id a)=ah:=h
theorem aZ8:qC nK "bytearray.extend.loop"=N gW.«bytearray.extend.loop»:=cx1 (by kernel_rfl)
theorem aZ9:qC nK "bytearray.extend.end"=N gW.«bytearray.extend.end»:=cx1 (by kernel_rfl)
theorem ba0{i:aa}(h0:0<=i)(h1:i<256)(h:Q i.toNat.toUInt8 s):av M A (XQ (.int i t)) Q E s:=by
 unfold XQ;refine aJ (nx ?_);rw[cF (by simp;omega)]
 exact bg h
inductive Iv(s:aE)(bG bM l':aR)(bs:J iX)(k:H):aE->Prop
 |mk (j h₁ t):k+j=bs.length->(∀c o,s.heap.get? c=N o->h₁.get? c=N o)->h₁.IsListIter bG l' j->h₁.get? bM=N (jY (bs.take j).toArray)->Iv s bG bM l' bs k {s with heap:=h₁,toks:=t}
theorem ba1{A:cQ}{b:cT iX}{bs:J iX}{ws:cT aA}(hA:A.handled=ao)(hc:s.heap.get? l'=N (iH ws m))(hl:s.heap.get? l=N (jY b))(hsz:ws.size=bs.length)(hz:b.size+bs.length<=1048576)
  (hi:∀(i:H)(v:aA),ws[i]?=N v->∃(k:aa)(t:H),v=.int k t/\0<=k/\k<256/\bs[i]?=N k.toNat.toUInt8)(hI:bG=s.heap.objs.size)(hS:s.heap.objs.size<bM)(ec:c=.builtin "bytearray.extend.loop" ⟨[.ref l,.ref l',.ref bG,.ref bM],[]⟩)
  (h:∀(h₁:dH)(t:H),(∀c o,s.heap.get? c=N o->h₁.get? c=N o)->h₁.get? bM=N (jY bs.toArray)->eG (aP prog w) B (.builtin "bytearray.extend.end" ⟨[.ref l,.ref l',.ref bM],[]⟩) R {s with heap:=h₁,toks:=t})(k:H)(s':aE)(x:Iv s bG bM l' bs k s'):
  av (aP prog w) A (gW.«bytearray.extend.loop» ⟨[.ref l,.ref l',.ref bG,.ref bM],[]⟩) (λcH s'=>match cH with| .done f=>R (.ok f) s'| .again c'=>(c'=c/\∃m,m<k/\Iv s bG bM l' bs m s')\/((c'.quiet=ah/\free c'=ah)/\eG (aP prog w) B c' R s')) (λe s'=>R (.error e) s') s':=by
 have lt:∀{c o},s.heap.get? c=N o->c<bG:=λe=>hI▸kI e;have W:=am9 (prog:=prog) (w:=w) (A:=A) hA bG l' (sr (lt hc)) ws;have nS:bM≠bG:=Kw (hI▸hS);cases x with
 |mk j h₁ t e S vf og=>
  unfold gW.«bytearray.extend.loop»;induction k using ji with
  |succ k=>
   have hj:j<bs.length:=e▸Nat.lt_add_of_pos_left k.succ_pos;refine aJ (aZ<|W.item j _ _ _ (hsz▸hj) ⟨vf,⟨_,S _ _ hc,rfl,_,rfl⟩⟩ λv dw tk hv vQ yN=>?_);obtain⟨x,u,rfl,x0,x1,hb⟩:=hi j v hv;have yN:∀b o,b≠bG->h₁.get? b=N o->dw.get? b=N o:=λb o q e=>yN b o (λm=>q (fN.mp m)) e;have ol:=yN _ _ nS og;refine aJ (Ym (iP (ba0 x0 x1 (aJ (aZ<|wpAny_letGo (aJ (Nv (g:=(·.push x.toNat.toUInt8)) ol ?_ (bg (.inl ⟨ec.symm,k,m7 k,Iv.mk (j+1) _ tk ((Nat.succ_add_eq_add_succ k j).symm.trans e) (λc o e=>?_) ?_ ?_⟩)))))))))
   ·exact bN (iW (cu8 ..)) (bN (cr6 (eZ (List.length_take_le j bs) hj)) (bN (x6 ..) hz))
   ·exact(ao2 _ _ (Kw (mE (lt e) (hI▸hS)))).trans (yN _ _ (sr (lt e)) (S _ _ e))
   ·exact vQ.1.at λo e=>(ao2 _ _ nS).trans e
   ·rw[Bj _ ol rfl,List.take_add_one,hb];exact bR (λa=>N (jY a)) (List.push_toArray ..)
  |zero=>obtain rfl:j=bs.length:=(mW j).symm.trans e;refine aJ (aZ<|W.done _ _ _ (hsz▸⟨vf,⟨_,S _ _ hc,rfl,_,rfl⟩⟩) λdw tk yN=>?_);have yN:∀b o,b≠bG->h₁.get? b=N o->dw.get? b=N o:=λb o q e=>yN b o (λm=>q (fN.mp m)) e;exact bg (.inr ⟨⟨Bk (by decide+kernel) _,Iu (by decide+kernel)⟩,h dw tk (λc o e=>yN _ _ (sr (lt e)) (S _ _ e)) (by rw[yN _ _ nS og,cx2])⟩)
theorem ba2{prog:iU}{w:bU}{A:cQ}{b:cT iX}{bs:J iX}{ws:cT aA}(hh:A.handled=ao)(hl:s.heap.get? l=N (jY b))(hc:s.heap.get? l'=N (iH ws m))(hsz:ws.size=bs.length)(hz:b.size+bs.length<=1048576)
  (hi:∀(i:H)(v:aA),ws[i]?=N v->∃(k:aa)(t:H),v=.int k t/\0<=k/\k<256/\bs[i]?=N k.toNat.toUInt8)
  (h:∀(h₁:dH)(t:H),(∀c o,s.heap.get? c=N o->h₁.get? c=N o)->R (.ok (.ret .none)) {s with heap:=h₁.update l (wH (·++bs.toArray)),toks:=t}):
  eG (aP prog w) A (.builtin "bytearray.extend" ⟨[.ref l,.ref l'],[]⟩) R s:=by
 refine oa (by decide+kernel) Fb.TG ?_
 unfold gW.«bytearray.extend»;refine aJ (iZ (a:=(zN l,zN l')) rfl ?_);dsimp only;refine aJ (aZ<|sF ⟨_,hc,rfl⟩ aZ2 ?_);rw[cF (by decide)]
 refine aJ (Ym (aZ<|XJ ⟨_,hc,rfl,_,rfl⟩ ?_));have TQ:∀c o,s.heap.get? c=N o->(s.heap.push {cls:=.type "list_iterator",data:=.fields #[.ref l',.int 0 0]}).get? c=N o:=λc o e=>ko _ e;refine aJ (iP (aZ6 (TQ _ _ hc) ?_))
 show av _ _ (cF7 #[]>>=λcn1=>sq (.builtin "bytearray.extend.loop" ⟨[.ref l,.ref l',.ref s.heap.objs.size,cn1],[]⟩)) _ _ _
 refine aJ (aZ<|Bc (bg (rz ⟨Bk (by decide+kernel) _,Iu (by decide+kernel)⟩ ?_)))
 have hI:(s.heap.push {cls:=.type "list_iterator",data:=.fields #[.ref l',.int 0 0]}).IsListIter s.heap.objs.size l' 0:=⟨_,lY _ rfl,rfl,rfl⟩;have sz:(s.heap.push {cls:=.type "list_iterator",data:=.fields #[.ref l',.int 0 0]}).objs.size=s.heap.objs.size+1:=J2 ..;generalize(s.heap.push {cls:=.type "list_iterator",data:=.fields #[.ref l',.int 0 0]})=eE at TQ hI sz|-
 refine ar2 (Bk (by decide+kernel) _) (Iu (by decide+kernel)) (Iv s s.heap.objs.size eE.objs.size l' bs) (λk s' x=>?_) bs.length
  (.mk 0 _ s.toks rfl (λc o e=>ko _ (TQ c o e)) (hI.at λo e=>ko _ e) (lY _ rfl))
 rw[KH (by decide+kernel) _]
 show av _ _ (match qC nK "bytearray.extend.loop" with|some b=>b ⟨[.ref l,.ref l',.ref s.heap.objs.size,.ref eE.objs.size],[]⟩|none=>zG ((Qm "bytearray.extend.loop" "#data").getD "bytearray.extend.loop")) _ _ _
 rw[aZ8];exact ba1 (A:=A.in1) (B:=A) hh hc hl hsz hz hi rfl (by rw[sz];exact m7 _) rfl (λdw t S hS=>oa (by decide+kernel) aZ9 (by unfold gW.«bytearray.extend.end»;exact aJ (KQ (aJ (Nx hS (TM (S _ _ hl) hz (h dw t S))))))) k s' x
theorem ba3{l:J H}{ws:cT aA}(y:eU F (fJ l) ws.toList)(h:∀n∈l,n<256):ws.size=(l.map Bl).length/\∀(i:H)(v:aA),ws[i]?=N v->∃(k:aa)(t:H),v=.int k t/\0<=k/\k<256/\(l.map Bl)[i]?=N k.toNat.toUInt8:=by
 refine⟨by rw[y.size];simp[fJ],λi v hv=>?_⟩
 have hi:i<ws.size:=(ai3.mp hv).1;have hl:i<l.length:=by have:=y.size;simp[fJ]at this;omega
 obtain⟨u,e,yu⟩:=y.get (i:=i) (v:=.int (l[i]:aa)) (by unfold fJ;rw[mD,mZ hl];rfl)
 rw[rB,hv]at e
 cases e;have hn:=h l[i] (ak9 hl);exact yu.e λt=>⟨_,t,rfl,Dn _,by omega,by rw[mD,mZ hl];rfl⟩
theorem on{l:J H}(h:∀n∈l,n<256):(l.map Bl).map iY=l:=by
 rw[n_]
 conv=>rhs;rw[<-List.map_id l]
 refine ao3 λn hn=>?_;have:=h n hn;simp[Bl,cw7,zQ this]
theorem ba4{A:cQ}(hh:A.handled=ao)(h:R9 a vs Z.o k)(at_:At f Y G Z r s F)(y:VR f.w r F a u)(z:gh f.w r F vs ws):
  av (aP f.prog f.w) A (fF (.builtin "bytearray.extend") (u::ws)) (ig f Y G Z k r s F) E s:=by
 refine Ax y h λhd p e1 h=>pn h λo q h=>?_
 revert q
 refine Z9 h λl h q=>qT z h λv x zv h=>?_;obtain⟨b,e4,rfl,hl⟩:=at_.obj e1 q;have hT:s.TypeIs (.ref p.1) "bytearray":=⟨_,e4,rfl⟩;have sz:∀{c:cT iX},(b.toList.map iY++c.toList.map iY).length<=1048576->b.size+c.size<=1048576:=λh=>by rw[f6,cO,cO,o5,o5]at h;exact h
 have post:∀{c:cT iX}{h₁:dH}{t:H},(∀c o,s.heap.get? c=N o->h₁.get? c=N o)->(b.toList.map iY++c.toList.map iY).length<=1048576->k (.d .none) (eO (.ba (b.toList.map iY++c.toList.map iY)) hd Z.o)->
   ig f Y G Z k r s F .none {s with heap:=h₁.update p.1 (wH (·++c)),toks:=t}:=by
  intro c h₁ t gC hz S;obtain⟨a1,t1⟩:=at_.ext (t:=s.toks) gC;obtain⟨a',t'⟩:=a1.chg (y:=.ba (b.toList.map iY++c.toList.map iY)) (t:=t) (a:=p.1) (h':=h₁.update p.1 (wH (·++c))) e1 q (.head _) rfl (Ge ..)
   ⟨b++c,Bj _ (gC _ _ e4) rfl,by rw[Xy,zR],hz⟩
  exact⟨.d .none,⟨Z.m,eO (.ba (b.toList.map iY++c.toList.map iY)) hd Z.o⟩,r,F,⟨rfl,S⟩,.d .none,a',t1.trans t'⟩
 have lst:∀{l':aR}{jm:cT aA}{m:H}{ds:J D},s.heap.get? l'=N (iH jm m)->eU F ds jm.toList->MD ds (λEN=>(b.toList.map iY++EN).length<=1048576/\k (.d .none) (eO (.ba (b.toList.map iY++EN)) hd Z.o))->
   av (aP f.prog f.w) A (fF (.builtin "bytearray.extend") [.ref p.1,.ref l']) (ig f Y G Z k r s F) E s:=by
  rintro l' jm m ds g1 g2 ⟨EN,rfl,g3,g⟩
  rw[<-on g3,show(EN.map Bl).map iY=(EN.map Bl).toArray.toList.map iY from rfl]at g
  obtain⟨n1,n2⟩:=ba3 g2 g3;exact aZ7 Fb.Nt hT (Fb.TH _ _) (by decide+kernel) (ba2 (bs:=EN.map Bl) (ws:=jm) hh e4 g1 n1 (sz g.1) n2 λh₁ t gC=>post gC g.1 g.2)
 induction v with
 |d y=>
  revert zv
  intro zv;have zv:=zv.HR;induction y using Wm.D.casesOn with
  |bytes l2=>
   refine zv.e λc u e X=>?_;rw[e]at h
   exact Iq Fb.Nt hT Fb.TG (Fb.TH _ _) (by decide+kernel) (aY9 e4 (sz h.1) (post (t:=s.toks) (λX I e=>e) h.1 h.2))
  |list ds=>exact zv.e λl ws n g1 g2 X=>lst (at_.mt.sub _ _ g1) g2 h
  |_=>exact h.elim
 |ref i=>
  refine zv.e λp2 e6=>pn h λo q2 h=>?_;have ob:=at_.obj e6 q2;induction o with
  |ba l2=>obtain⟨c,e7,rfl,_⟩:=ob;exact Iq Fb.Nt hT Fb.TG (Fb.TH _ _) (by decide+kernel) (aZ1 e4 e7 (sz h.1) (post (t:=s.toks) (λX I e=>e) h.1 h.2))
  |dl ds=>obtain⟨jm,m,g1,g2,_⟩:=ob;exact lst g1 g2 h
  |_=>exact h.elim
 |_=>exact h.elim
theorem ba5(h:R3 ds k)(z:eU F ds ws):∃ys:J ai,StrsAre ws ys/\k (ys.flatMap λy=>y.cps.toList):=by
 induction z generalizing k with
 |nil=>exact⟨[],.nil,h⟩
 |cons a z ih=>exact Ew a h λx t h=>(ih h).elim λys h=>⟨x::ys,.cons x t h.1,h.2⟩
theorem ba6{x:ai}(hx:x.cps=#[])(ys:J ai):Txt.join x ys=az (ys.flatMap λy=>y.cps.toList):=by
 show cx3 x ys=_
 unfold cx3;have go:∀(ys:J ai)(acc:cT H),(ys.foldl (λacc p=>acc++x.cps++p.cps) acc).toList=acc.toList++ys.flatMap λy=>y.cps.toList:=by
  intro ys;induction ys with
  |nil=>intro acc;simp
  |cons y ys ih=>intro acc;rw[cr8,ih,hx];simp
 have:((ys.drop 1).foldl (λacc p=>acc++x.cps++p.cps) (ys.headD Str.empty).cps).toList=ys.flatMap λy=>y.cps.toList:=by
  rw[go];induction ys using eT with
  |nil=>rfl
  |cons y ys=>rfl
 unfold az;rw[<-this]
theorem ba7(h:Sa a vs Z.o k)(at_:At f Y G Z r s F)(y:VR f.w r F a u)(z:gh f.w r F vs ws):
  av (aP f.prog f.w) A (fF (.builtin "str.join") (u::ws)) (ig f Y G Z k r s F) E s:=by
 refine jD y h λx y h=>Ew y h λx t h=>qT z h λv u zv h=>?_;obtain⟨he,h⟩:=l9 h;have hx:x.cps=#[]:=by
  cases q:x.cps.toList with
  |nil=>exact Array.toList_eq_nil_iff.mp q
  |cons X I=>rw[q]at he;cases he
 refine AA zv at_ h λds l jm m S g1 g2 g3=>?_;obtain⟨ys,h1,h2⟩:=ba5 S g2;have hl:(ys.map (·.length)).sum<=1048576:=by rw[show(ys.map (·.length)).sum=(ys.flatMap λy=>y.cps.toList).length by rw[List.length_flatMap];congr 1];exact h2.1
 refine aZ<|join_list ⟨_,g1,rfl,_,rfl⟩ h1 (by show _+ys.length*x.cps.size<=_;rw[hx];exact bN hl (by decide)) λt' tk=>?_
 rw[ba6 hx ys];exact⟨_,Z,r,F,⟨rfl,h2.2⟩,.d .str,at_.tok tk,.tok ..⟩
theorem av7{ws:cT aA}{e:aA->aD}
  (hb:∀i(hi:i<ws.size) r,body i r=(eqBool ws[i] x>>=λb=>if b=ah then(Gj (i:aa)>>=λv=>pure (ForInStep.done (N v,())))else pure (an0 (ao,()))))(hj:j<ws.size)(vf:e ws[j]=ah)(H7:∀i(hi:i<ws.size),i<j->e ws[i]=ak)
  (he:∀(i:H)(hi:i<ws.size)(P:aD->aE->Prop),P (e ws[i]) s->av M A (eqBool ws[i] x) P E s)(h:Q (N (.done (.ret (.int j s.toks))),()) {s with toks:=s.toks+1})(k:H):
  ∀i c,i+k=j->i+c=ws.size->av M A (forIn (cq2 i c) ((ao,()):bq C7×rt) body) Q E s:=by
 induction k with
 |zero=>
  intro i c h1 h2;obtain rfl:i=j:=h1;induction c using ji with
  |zero=>exact absurd hj (vj.mpr (iW h2.symm))
  |succ c=>rw[cx4,Qg,hb _ hj];refine aJ (aJ (he _ hj _ ?_));rw[vf];exact aJ (aJ (aZ<|XW (bg (bg (bg h)))))
 |succ k ih=>
  intro i c h1 h2;have lt:i<j:=h1▸xW (jd k);have hi:=mE lt hj;induction c using ji with
  |zero=>exact absurd hi (vj.mpr (iW h2.symm))
  |succ c=>rw[cx4,Qg,hb _ hi];refine aJ (aJ (he _ hi _ ?_));rw[H7 i hi lt];exact bg (ih (i+1) c ((xY i k).trans h1) ((xY i c).trans h2))
theorem ba8{M:jP}{prog:iU}{w:bU}{E:aA->aE->Prop}{ws:cT aA}{e:aA->aD}(ht:s.heap.get? t=N (lJ ws m))(hj:j<ws.size)(vf:e ws[j]=ah)(H7:∀i(hi:i<ws.size),i<j->e ws[i]=ak)
  (he:∀y,y∈ws->Qp A s y x (e y))(h:Q (.done (.ret (.int j s.toks))) {s with toks:=s.toks+1}):av (aP prog w) A (gW.«tuple.index» ⟨[.ref t,x],[]⟩) Q E s:=by
 unfold gW.«tuple.index»;refine aJ (iZ (a:=(zN t,[x])) rfl (aJ (aZ<|am2 ⟨_,ht,rfl,_,rfl⟩ (aJ (bg (aJ (bg ?_)))))));dsimp only;rw[cF8];exact aJ (av7 (λi hi r=>by rw[Kp hi]) hj vf H7 (λi hi P h=>aZ<|he _ (Array.getElem_mem hi) prog w E _ h) (bg h) j 0 _ (mW j) ((mW _).trans ((Nat.div_one _).trans (cv1 _))))
theorem EO{P:D->Prop}{x:D}(h:yE x=ah)(h1:∀i,P (.int i))(h2:∀i,P (.str i)):P x:=by
 induction x using Wm.D.casesOn with
 |int i=>exact h1 i
 |str i=>exact h2 i
 |_=>exact gr h
theorem oo{x y:D}{u:aA}(a:DR F y u)(hx:yE x=ah)(hy:yE y=ah):lW x u=ah↔y=x:=by
 revert a
 refine EO (P:=λy=>DR F y u->(lW x u=ah↔y=x)) hy (λi a=>a.e λt=>?_) λi a=>a.e λt=>?_
 ·exact EO (P:=λx=>lW x (.int i t)=ah↔D.int i=x) hx (λj=>⟨λh=>by rw[eq_of_beq h],λh=>by cases h;exact qy i⟩) λj=>⟨λh=>gr h,λh=>nomatch h⟩
 ·exact EO (P:=λx=>lW x (.str i t)=ah↔D.str i=x) hx (λj=>⟨λh=>gr h,λh=>nomatch h⟩) λj=>⟨λh=>by rw[eq_of_beq h],λh=>by cases h;exact qy i⟩
theorem ba9(a:DR F y u)(b:DR F x v)(hx:yE x=ah)(hy:yE y=ah):Qp A s u v (lW x u):=by
 revert a b
 exact EO (P:=λy=>DR F y u->DR F x v->Qp A s u v (lW x u)) hy
  (λi a=>a.e λt=>EO (P:=λx=>DR F x v->Qp A s (.int i t) v (lW x (.int i t))) hx (λj b=>b.e λt'=>cF9 _ _ _ _) λj b=>b.e λt'=>cG0 _ _ _ _)
  λi a=>a.e λt=>EO (P:=λx=>DR F x v->Qp A s (.str i t) v (lW x (.str i t))) hx (λj b=>b.e λt'=>cG1 _ _ _ _) λj b=>b.e λt'=>cG2 _ _ _ _
theorem bb0(h:R_ a vs Z.o k)(at_:At f Y G Z r s F)(y:VR f.w r F a u)(z:gh f.w r F vs ws):
  av (aP f.prog f.w) A (fF (.builtin "tuple.index") (u::ws)) (ig f Y G Z k r s F) E s:=by
 refine jD y h λx y h=>B8 y h λds l jm m h g1 g2 g3=>qT z h λv' v zv h=>jD zv h λx zv h=>?_;obtain⟨j,⟨h1,h2,h3⟩,S⟩:=h;have oy:=at_.mt.sub _ _ g1;have hx:=h2 x (.head _);have ga:∀i(hi:i<jm.size),∃d,ds[i]?=N d/\DR F d jm[i]:=λi hi=>by
  have hd:i<ds.length:=g2.size▸hi;obtain⟨w,e1,e2⟩:=g2.get (mZ hd);rw[rB,Kp hi]at e1
  exact⟨_,mZ hd,fW e1▸e2⟩
 have hj:j<jm.size:=g2.size.symm▸(vq.mp h1).1;refine Iq cw1 ⟨_,oy,rfl⟩ (KG (by kernel_rfl)) (PySem.F.args_tuple_index_2 _ _) (by decide+kernel) (ba8 (M:=aP f.prog f.w) (e:=lW x) (j:=j) oy hj ?_ (λi hi nB=>?_) (λw hw=>?_) ?_)
 ·obtain⟨d,e1,e2⟩:=ga j hj;exact(oo e2 hx (h2 d (.tail _ (Ko e1)))).mpr (fW (e1.symm.trans h1))
 ·obtain⟨d,e1,e2⟩:=ga i hi;exact zM.mpr λq=>h3 i nB ((oo e2 hx (h2 d (.tail _ (Ko e1)))).mp q▸e1)
 ·obtain⟨i,hi,rfl⟩:=cx5.mp hw;obtain⟨d,e1,e2⟩:=ga i hi;exact ba9 e2 zv hx (h2 d (.tail _ (Ko e1)))
 ·exact⟨.d (.int j),Z,r,F,⟨rfl,S⟩,.d .int,at_.tok _,.tok ..⟩
theorem TR(hg:Xl g=pure .machine)(h:qU f Y n args Z Q)(hp:rT args=ah)(o:Ok n A)(i:g_ f Y G)(a:At f Y G Z r s F)
  (hq:∀vs ws aI bY cz aF,Q vs aI->gh f.w bY cz vs ws->At f Y G aI bY aF cz->Go G Z aI r bY s aF F cz->av (aP f.prog f.w) A (fF g (first++ws)) P E aF):
  av (aP f.prog f.w) A (vn pos g first (n9 pos (lQ args G)) []) P E s:=by
 refine ZA (Tz hp) hg ?_
 have gQ:av (aP f.prog f.w) A (ru (n9 pos (lQ args G))) (λvs aF=>av (aP f.prog f.w) A (fF g (first++vs)) P E aF) E s:=
  WX.run (h pos) o i a λvs ws aI bY cz aF q y b7 b8=>hq vs ws aI bY cz aF q y b7 b8
 induction args using eT with
 |nil=>exact Zz gQ
 |cons e l=>
  rw[HZ (Co hp).1]at gQ|-
  exact QM gQ
theorem ig.out(g:Go G b9 Z r' r s' s F' F)(h:av (aP f.prog f.w) A t (ig f Y G Z (λv o=>Q v ⟨Z.m,o⟩) r s F) E s):av (aP f.prog f.w) A t (rS f Y G b9 Q r' s' F') E s:=
 gG h (λu s' p=>by obtain⟨v,⟨cE2,Sx⟩,bY,cz,⟨rfl,q⟩,y,b7,b8⟩:=p;exact⟨v,_,bY,cz,q,y,b7,g.trans b8⟩) λX I z=>z
theorem bb1{Py pos:gq}{args:J aT}{T:Tb}(h:WE f Y n oe Z λa aI=>jK (HN a x aI.o) λg=>qU f Y n args aI λvs b3=>ZU T g a vs b3.o λv o=>Q v ⟨b3.m,o⟩)
  (c:tO f n T.fn)(hp:rT args=ah)(hs:EB oe=ah)(hl:decide (args.length<30)=ah)(bb2:(Py.endLine==pos.line)=ah):WE f Y n (.Call (.Attribute oe x Py) args [] pos) Z Q:=λA s F G E r o i at_=>by
 show av _ A (cM (.Call (.Attribute oe x Py) args [] pos) G) _ E s
 rw[arm_eval_Call,f4 hs];refine aJ (Ig h o i at_ λa u aI bY cz aF h₁ cX b7 b8=>aJ (qF (nY h₁ λg hg h₁=>?_)));have bb3:cx6 (args.length+([]:J Keyword).length) (n9 pos (lQ args G)) (PL pos (PN [] G))=ah:=by
  unfold cx6;have q:(n9 pos (lQ args G)).all (!·.1)=ah:=by rw[List.all_eq_not_any_not];simpa using Tz (pos:=pos) (G:=G) hp
  rw[q,show PL pos (PN [] G)=[]from rfl]
  simpa using hl
 unfold methodCall;rw[bb3];refine aJ (iP (aX8 (A:=A) (E:=E) hg b7 cX _ _ ?_));refine aJ (iZ (show cx7 ah oe G Py pos=pure pos by unfold cx7;simp[bb2]) ?_)
 have bi:∀{id:jZ}{P:V->J V->J O->(V->J O->Prop)->Prop},(∀{vs ws b3 iC cj iI}{k:V->J O->Prop},P a vs b3.o k->At f Y G b3 iC cj iI->VR f.w iC iI a u->gh f.w iC iI vs ws->av (aP f.prog f.w) A (fF (.builtin id) (u::ws)) (ig f Y G b3 k iC cj iI) E cj)->
   (qU f Y n args aI λvs b3=>P a vs b3.o λv o=>Q v ⟨b3.m,o⟩)->av (aP f.prog f.w) A (vn pos (.builtin id) [u] (n9 pos (lQ args G)) (PL pos (PN [] G))) (mh f Y (λr F=>VR f.w r F) G Z Q r s F) E aF:=
  λhP hW=>TR rfl hW hp o i b7 λvs ws b3 iC iI cj dw gU e_ c9=>ig.out (b8.trans c9) (hP dw e_ (cX.mono c9.fM c9.grow) gU)
 induction g with
 |fn b=>
  exact lL h₁ hp o i b7 λvs ws b3 iC iI cj dw gU e_ c9=>have k:=c.lift (show yz (T.fn b) (a::vs) b3.o (λv o=>Q v ⟨b3.m,o⟩)from dw)
   ⟨k.1,ig.out (b8.trans c9) (At.callC k.2 o e_ (.cons (cX.mono c9.fM c9.grow) gU))⟩
 |MI=>exact bi (P:=R5) (λh a y z=>aX9 h a y z) h₁
 |MJ=>exact bi (P:=R6) (λh a y z=>aY1 h a y z) h₁
 |MK=>exact bi (P:=R7) (λh a y z=>aY0 h a y z) h₁
 |ML=>exact bi (P:=R8) (λh a y z=>aY5 h a y z) h₁
 |MM=>exact bi (P:=R9) (λh a y z=>ba4 o.hd h a y z) h₁
 |MO=>exact bi (P:=R_) (λh a y z=>bb0 h a y z) h₁
 |MP=>exact bi (P:=Sa) (λh a y z=>ba7 h a y z) h₁
theorem ER{α:Type}{M:jP}{A:cQ}{E:aA->aE->Prop}{t:dJ α}{v:α}{Q:α->aE->Prop}(L:wA M s.heap t v)(h:Q v s):av M A t Q E s:=aZ (L.here h)
theorem bb4{prog:iU}{w:bU}{A bb5:cQ}{C:aR}{R:nM->aE->Prop}{dg:J aA}{wk:aA}(lZ:Makes (aP prog w) s.heap C)(hi:wA (aP prog w) s.heap (ue (.ref C) "__init__") (N wk))
  (hb:∀self,wA (aP prog w) s.heap (bindSpecial wk self) (wk,[self]))(Iw:(N wk !=N (cx8 "object.__init__"))=ah\/(dg=[]/\([]:J (ai×aA))=[]))
  (hq:av (aP prog w) A (fF wk (.ref (s.heap.objs.size+1)::dg)) (λv s'=>v=.none/\R (.ok (.ret (.ref (s.heap.objs.size+1)))) s') (λe s'=>R (.error e) s') {s with heap:=(s.heap.push vz).push (sI C s.heap.objs.size)}):
  av (aP prog w) A (gW.«type.__call__» ⟨.ref C::dg,[]⟩) (λcH s'=>match cH with| .done f=>R (.ok f) s'| .again c'=>(c'.quiet=ah/\free c'=ah)/\eG (aP prog w) bb5 c' R s') (λe s'=>R (.error e) s') s:=by
 have Y':=lZ;obtain⟨⟨oc,od,cd,sl,hC,e1,e2,e4⟩,cn2,cm9,self,top,oC,typ⟩:=lZ;obtain⟨hp,g,d,t,os⟩:=s;dsimp only at*
 have hm:wA (aP prog w) hp (mroOf (.ref C)) cd.mro:=((cx9 (part:=none) hC).andThen .now).andThen .now;have k:∀b o,hp.get? b=N o->((hp.push vz).push (sI C hp.objs.size)).get? b=N o:=λb o e=>ko _ (ko _ e);have hx:((hp.push vz).push (sI C hp.objs.size)).get? (hp.objs.size+1)=N (sI C hp.objs.size):=by
  have:=lY (hp.push vz) (o:=sI C hp.objs.size) rfl
  rwa [J2]at this
 have t1:wA (aP prog w) ((hp.push vz).push (sI C hp.objs.size)) (XK (.ref (hp.objs.size+1))) (.ref C):=(cx9 hx).andThen .now;have i1:wA (aP prog w) ((hp.push vz).push (sI C hp.objs.size)) (KI (.ref (hp.objs.size+1)) (.ref C)) ah:=t1.andThen (self.keeps k);have c1:wA (aP prog w) ((hp.push vz).push (sI C hp.objs.size)) (ao1 (.ref (hp.objs.size+1)) "__init__") (N wk):=t1.andThen (hi.keeps k);have b1:=(hb (.ref (hp.objs.size+1))).keeps k;unfold gW.«type.__call__»;dsimp only;rw[cF (show¬((zN C==Bh "type")=ah)from rq)]
 refine aJ (ER hm ?_);rw[cF (by rw[e4];decide)]
 refine aJ (ER cn2 ?_);dsimp only;refine aJ (bg (aJ (iP (Bq (RG (new_K Y' hi Iw ?_))))));refine aJ (ER i1 ?_);rw[cF (by decide)]
 refine aJ (iP ?_);unfold callSpecial?;refine aJ (ER c1 ?_);dsimp only;refine iP (aJ (ER b1 ?_));dsimp only;refine dR hq λv s' q=>?_;obtain⟨rfl,q⟩:=q;refine bg ?_;dsimp only;rw[cF (by decide)]
 exact bg q
theorem bb6{prog:iU}{w:bU}{A:cQ}{C:aR}{R:nM->aE->Prop}{dg:J aA}{oc:aA}{od:bq aR}{cd:ClassData}{sl:cT (bq aA)}(hC:s.heap.get? C=N ⟨oc,od,.cls cd,sl⟩)(oC:wA (aP prog w) s.heap (ao1 (.ref C) "__call__") (N (.builtin "type.__call__")))
  (h:eG (aP prog w) A (.call (.builtin "type.__call__") ⟨.ref C::dg,[]⟩) R s):eG (aP prog w) A (.call (.ref C) ⟨dg,[]⟩) R s:=by
 refine m_ ?_
 show av _ A.in1 (F0 C>>=λo=>match o.data with
   | .func fd=>ak2 C fd ⟨dg,[]⟩
   | .fields vs=>
    if o.cls== .type "method" ||o.cls== .type "builtin_function_or_method" ||o.cls== .type "method-wrapper" then(do
     let(N func,N self):=(vs[0]?,vs[1]?)|unsupported "internal:method-record"
     let all:Args:=⟨self::dg,[]⟩
     if let .builtin id:=func then
      if o.cls != .type "method" then
       checkBoundCall id all
       return<-sq (.builtin id all)
     sq (.call func all))
    else XX (.ref C) ⟨dg,[]⟩
   |X=>XX (.ref C) ⟨dg,[]⟩) _ _ s
 refine aJ (aZ<|zK hC ?_)
 show av _ A.in1 (XX (.ref C) ⟨dg,[]⟩) _ _ s
 unfold XX;refine aJ (ER oC ?_);dsimp only;rw[tc_bind];refine aJ (bg (aJ (bg ?_)));exact bg ⟨⟨rfl,rfl⟩,h⟩
theorem av8{prog:iU}{w:bU}{A:cQ}{R:nM->aE->Prop}{id:jZ}{args:Args}{B:gW}(hq:(Dy id args).quiet=ah)(hf:free (.builtin id args)=ah)(hb:qC nK id=N B)
  (h:av (aP prog w) A.in1 (Dw id args) (λX aF=>av (aP prog w) (A.under (.builtin id args)) (B args) (λcH s'=>match cH with| .done f=>R (.ok f) s'| .again c'=>(c'.quiet=ah/\free c'=ah)/\eG (aP prog w) A c' R s') (λe s'=>R (.error e) s') aF) (λe s'=>R (.error e) s') s):
  eG (aP prog w) A (.call (.builtin id) args) R s:=by
 refine m_ ?_
 show av _ A.in1 (Dw id args>>=λX=>sq (.builtin id args)) _ _ s
 refine dR h λX aF q=>bg (rz ⟨hq,hf⟩ (m_ ?_))
 show av _ _ (match qC nK id with|some b=>b args|none=>zG ((Qm id "#data").getD id)) _ _ aF
 rw[hb];exact q
theorem bb7{A:cQ}(typ:wA (aP prog w) s.heap (KI (.ref C) (.type "type")) ah)
  (h:av (aP prog w) (A.under (.builtin "type.__call__" ⟨.ref C::dg,[]⟩)) (gW.«type.__call__» ⟨.ref C::dg,[]⟩) (λcH s'=>match cH with| .done f=>R (.ok f) s'| .again c'=>(c'.quiet=ah/\free c'=ah)/\eG (aP prog w) A c' R s') (λe s'=>R (.error e) s') s):
  eG (aP prog w) A (.call (.builtin "type.__call__") ⟨.ref C::dg,[]⟩) R s:=
 av8 (cy0 _ (by decide+kernel)) (Iu (by decide+kernel)) entry_typeCall (aZ (check_slot tc_kind tc_split typ (tc_args _ _ _) h))
theorem bb8{A:cQ}(lZ:Makes (aP prog w) s.heap C)(hi:wA (aP prog w) s.heap (ue (.ref C) "__init__") (N wk))
  (hb:∀self,wA (aP prog w) s.heap (bindSpecial wk self) (wk,[self]))(Iw:(N wk !=N (cx8 "object.__init__"))=ah\/(dg=[]/\([]:J (ai×aA))=[]))
  (hq:av (aP prog w) (A.under (.builtin "type.__call__" ⟨.ref C::dg,[]⟩)) (fF wk (.ref (s.heap.objs.size+1)::dg)) (λv s'=>v=.none/\R (.ok (.ret (.ref (s.heap.objs.size+1)))) s') (λe s'=>R (.error e) s') {s with heap:=(s.heap.push vz).push (sI C s.heap.objs.size)}):
  eG (aP prog w) A (.call (.ref C) ⟨dg,[]⟩) R s:=by
 refine b_ (lZ.obj) λoc hx=>?_;refine b_ hx λod hx=>?_;refine b_ hx λcd hx=>?_;refine b_ hx λsl hx=>?_;have hC:=hx.1;refine bb6 hC lZ.call (bb7 lZ.typ ?_);exact bb4 lZ hi hb Iw hq
theorem Mt.bb9{h':dH}{t:H}(m:Mt w B r s F L)(q:f_ r r')(k:∀b y,s.heap.get? b=N y->h'.get? b=N y)(hC:∀c∈jR (p,o),s.heap.get? c=ao)(nd:(jR (p,o)).Nodup)(hr:OR w r' F h' p o):
  Mt w B r' {s with heap:=h',toks:=t} F (L++[(p,o)])/\fB r r' s {s with heap:=h',toks:=t} F F (own L) (own (L++[(p,o)])):=by
 have e:own (L++[(p,o)])=own L++jR (p,o):=by rw[jf,oE];simp[own]
 refine⟨⟨λa y q=>k a y (m.sub a y q),m.base,λq' hq=>?_,λa ha=>?_,?_⟩,⟨q,⟨_,_,rfl⟩,.refl _,λX I q=>.inl q,λa q=>?_,λa y X q=>k a y q⟩⟩
 ·rcases gK.mp hq with hq|hq
  ·exact(m.live q' hq).step q (.refl _) λb X y e=>k b y e
  ·rw[fN.mp hq];exact hr
 ·rw[e]at ha
  rcases gK.mp ha with ha|ha
  ·exact m.jg a ha
  ·exact(iQ.fresh m (hC a ha)).fr
 ·rw[e];refine qz.mpr ⟨m.nd,nd,λa ha b hb q=>?_⟩;subst q;exact(iQ.fresh m (hC a hb)).ow ha
 ·rw[e]at q
  rcases gK.mp q with q|q
  ·exact .inl q
  ·exact .inr (hC a q)
def TS(T:Tr)(C:aR):Tr:=λargs o k=>T (.ref (Wm.len o)::args) (o++[.inst C []]) λv o'=>iS v λx=>dh x.o8 (k (.ref (Wm.len o)) o') bV
theorem Ok.under{A:cQ}(h:Ok (n+1) A):Ok n (A.under (.builtin "type.__call__" ⟨.ref C::ws,[]⟩)):=by
 have w1:(Dy "type.__call__" ⟨.ref C::ws,[]⟩).weight<=5:=by
  have:(Dy "type.__call__" ⟨.ref C::ws,[]⟩).weight=1:=by rfl
  exact this▸by decide
 have w2:(Dy "type.__call__" ⟨.ref C::ws,[]⟩).cUnits<=20:=by
  have:(Dy "type.__call__" ⟨.ref C::ws,[]⟩).cUnits=1:=by rfl
  exact this▸by decide
 exact⟨h.hd,bN (Ku (rD w1 _) _) (by rw[wB,rC 5];exact h.depth),bN (Ku (rD w2 _) _) (by rw[wB,rC 20];exact h.units)⟩
theorem bc0(h:SC f n (.ref fI) T)(hm:makesIn f.K C=ah)(hi:Dk f.K (.ref C) "__init__"=N (N (.ref fI)))(ht:Xu f.K (.ref fI)=N (.type "function")):SC f (n+1) (.ref C) (TS T C):=by
 intro args o k S A s F E r ws ok el m y;unfold TS at S
 refine Bq (bb8 (makes_of (uM m) hm) (looks_findIn (uM m) hi) (λself=>bind_fn (uM m) self ht) (.inl rfl) ?_);have gC:∀b y,s.heap.get? b=N y->((s.heap.push vz).push (sI C s.heap.objs.size)).get? b=N y:=λb y e=>ko _ (ko _ e);have eY:∀c,s.heap.objs.size<=c->s.heap.get? c=ao:=λc hc=>by
  cases e:s.heap.get? c with
  |none=>rfl
  |some o'=>exact absurd (kI e) (vj.mpr hc)
 have hx:((s.heap.push vz).push (sI C s.heap.objs.size)).get? (s.heap.objs.size+1)=N (sI C s.heap.objs.size):=by
  have:=lY (s.heap.push vz) (o:=sI C s.heap.objs.size) rfl
  rwa [J2]at this
 have hd:((s.heap.push vz).push (sI C s.heap.objs.size)).get? s.heap.objs.size=N (mY [] 0):=ko _ (lY _ rfl);have q:f_ r (r++[(s.heap.objs.size+1,s.heap.objs.size)]):=f_.app _ _;obtain⟨m1,t1⟩:=Mt.bb9 (t:=s.toks) (o:=.inst C []) (p:=(s.heap.objs.size+1,s.heap.objs.size)) m q gC (λc hc=>by
   rcases iV.mp hc with rfl|hc
   ·exact eY _ (wF _)
   ·rw[fN.mp hc];exact eY _ (jO _)) (by simp[jR]) ⟨[],0,#[],hx,hd,.nil,by simp,λx h=>by simp at h⟩
 rw[<-HV el]at m1 t1
 have hr:(r++[(s.heap.objs.size+1,s.heap.objs.size)])[Wm.len o]?=N (s.heap.objs.size+1,s.heap.objs.size):=by rw[nc,<-el];simp
 refine gG (h _ _ _ S _ {s with heap:=(s.heap.push vz).push (sI C s.heap.objs.size)} F _ (r++[(s.heap.objs.size+1,s.heap.objs.size)]) (.ref (s.heap.objs.size+1)::ws) ok.under (by simp[el]) m1 (.cons (.ref hr) (y.Eu q (.refl _)))) (λu s' p=>?_) λX I z=>z
 obtain⟨v,o',r',F',hq,yv,l,m',t'⟩:=p;refine jD yv hq λx y hq=>?_;have hq:=l9 hq
 ·obtain rfl:u=.none:=by cases x<;>first|exact gr hq.1|exact y.e rfl
  have hq:=hq.2;exact⟨rfl,.ref (Wm.len o),o',r',F',hq,.ref (t'.fM _ _ hr),l,m',t1.trans t'⟩
end
end Wm
section
namespace Wl
variable{prog:iU}{w:bU}{A:cQ}{E:aA->aE->Prop}{s:aE}
theorem oI:KC "bytearray" "__len__" "bytearray.__len__":=
 .of (owner:= "bytearray") (n:= "__len__") (by rw[uf,ug];kernel_rfl) (by decide+kernel) (by decide+kernel) (by decide+kernel)
  (by first|exact .inl (by decide+kernel)|exact .inr (by decide+kernel)) (by rw[KD];kernel_rfl)
theorem bc1:qC nK "bytearray.__len__"=N gW.«bytearray.__len__»:=KG (by kernel_rfl)
theorem bc2(a:aA):wG "bytearray.__len__" ⟨[a],[]⟩:=by unfold wG;kernel_rfl
theorem bc3{b:cT iX}(hl:s.heap.get? l=N (Wm.jY b))(hz:b.size<=1048576)(h:Q (.int b.size (s.toks+1)) {s with toks:=s.toks+1+1}):wpAny (aP prog w) A (fF (.builtin "len") [.ref l]) Q E s:=by
 refine ao4 (T:= "bytearray") ⟨_,hl,rfl⟩ oI (λQ' q=>?_) (by omega) (by omega) h
 refine XE oI ⟨_,hl,rfl⟩ bc1 ?_ (bc2 _)
 show wpAny _ _ (Qn (.ref l)>>=λb=>Gj b.size) _ _ s
 refine wpAny_bind ?_;unfold Qn ao0;refine wpAny_bind (wpAny_bind (zK hl ?_));refine wpAny_pure (wpAny_pure ?_);unfold Gj;exact wpAny_bind (XW (wpAny_pure ⟨_,rfl,q⟩))
theorem bc4:qC nK "tuple.__len__"=N gW.«tuple.__len__»:=KG (by kernel_rfl)
theorem bc5(a:aA):wG "tuple.__len__" ⟨[a],[]⟩:=by unfold wG;kernel_rfl
theorem bc6{ws:cT aA}(hl:s.heap.get? l=N (Wm.lJ ws m))(hz:ws.size<=1048576)(h:Q (.int ws.size (s.toks+1)) {s with toks:=s.toks+1+1}):wpAny (aP prog w) A (fF (.builtin "len") [.ref l]) Q E s:=by
 refine ao4 (T:= "tuple") ⟨_,hl,rfl⟩ cy1 (λQ' q=>?_) (by omega) (by omega) h
 refine XE cy1 ⟨_,hl,rfl⟩ bc4 ?_ (bc5 _)
 show wpAny _ _ (ct5 (.ref l)>>=λxs=>Gj xs.size) _ _ s
 refine wpAny_bind (am2 ⟨_,hl,rfl,_,rfl⟩ ?_);unfold Gj;exact wpAny_bind (XW (wpAny_pure ⟨_,rfl,q⟩))
theorem cC9{b:cT iX}(hz:b.size<=1048576)(h:Q (.int b.size (s.toks+1)) {s with toks:=s.toks+1+1}):wpAny (aP prog w) A (fF (.builtin "len") [.bytes b t]) Q E s:=by
 refine ao4 (T:= "bytes") (Dq _ _ _) ao5 (λQ' q=>?_) (by omega) (by omega) h
 refine XE ao5 (Dq _ _ _) FB.entry_bytes_len ?_ (FB.args_bytes_len_1 _)
 show wpAny _ _ (Gj b.size) _ _ s
 unfold Gj;exact wpAny_bind (XW (wpAny_pure ⟨_,rfl,q⟩))
end Wl
namespace Wm
variable{f:Cf}{Y:J (ai×cJ)}{n:H}{Z:St}{e:aT}{G:cL}{r:bQ}{s:aE}{F:bP}
theorem bc7{A:cQ}{E:aA->aE->Prop}(h:ZP v Z.o λn=>k (.d (.int n)) Z.o)(at_:At f Y G Z r s F)(y:VR f.w r F v u):
  av (aP f.prog f.w) A (fF (.builtin "len") [u]) (ig f Y G Z k r s F) E s:=by
 have cH:∀{n:H},k (.d (.int n)) Z.o->ig f Y G Z k r s F (.int n (s.toks+1)) {s with toks:=s.toks+1+1}:=λ{n} h=>⟨.d (.int n),Z,r,F,⟨rfl,h⟩,.d .int,at_.tok _,.tok ..⟩
 have tup:∀{l:aR}{ws:cT aA}{m n:H},s.heap.get? l=N (lJ ws m)->n=ws.size->n<=1048576->k (.d (.int n)) Z.o->av (aP f.prog f.w) A (fF (.builtin "len") [.ref l]) (ig f Y G Z k r s F) E s:=λg e hl h=>by subst e;exact aZ (Wl.bc6 g hl (cH h))
 have lst:∀{l:aR}{ws:cT aA}{m n:H},s.heap.get? l=N (iH ws m)->n=ws.size->n<=1048576->k (.d (.int n)) Z.o->av (aP f.prog f.w) A (fF (.builtin "len") [.ref l]) (ig f Y G Z k r s F) E s:=λg e hl h=>by subst e;exact aZ (call_len_list ⟨_,g,rfl,_,rfl⟩ (by omega) (cH h))
 have bl:∀{b:cT iX},(b.toList.map iY).length=b.size:=by intro b;rw[cO,o5]
 induction v with
 |d x=>
  refine y.e λu y=>?_;induction x using Wm.D.casesOn with
  |tup ds=>exact y.e λl ws m e z zl=>tup (at_.mt.sub _ _ e) z.size.symm zl h
  |list ds=>exact y.e λl ws m e z zl=>lst (at_.mt.sub _ _ e) z.size.symm zl h
  |bytes l=>
   refine y.e λb t e hb=>?_;subst e;have h:k (.d (.int (b.toList.map iY).length)) Z.o:=h;rw[bl]at h
   exact aZ (Wl.cC9 hb (cH h))
  |_=>exact h.elim
 |ref i=>
  refine y.e λp e1=>pn h λo q h=>?_;have ob:=at_.obj e1 q;induction o with
  |dl ds=>obtain⟨ws,m,g1,g2,g3⟩:=ob;exact lst g1 g2.size.symm g3 h
  |vl ds=>obtain⟨ws,m,g1,g2,g3⟩:=ob;exact lst g1 (g2.length.trans o5) g3 h
  |ba l=>
   obtain⟨b,g1,rfl,g3⟩:=ob;have h:k (.d (.int (b.toList.map iY).length)) Z.o:=h;rw[bl]at h g3
   exact aZ (Wl.bc3 g1 g3 (cH h))
  |_=>exact h.elim
 |_=>exact h.elim
end Wm
end
namespace Wm
section
variable{f:Cf}{Y:J (ai×cJ)}{n:H}{Z:St}{e:aT}{G:cL}{r:bQ}{s:aE}{F:bP}
theorem bc8{a b:aa}{A:cQ}(hh:A.handled=ao)(h:dh (decide (b<a)) (k (.d (.int b)) Z.o) (k (.d (.int a)) Z.o))(at_:At f Y G Z r s F):
  av (aP f.prog f.w) A (fF (.builtin "min") [.int a t,.int b t']) (ig f Y G Z k r s F) E s:=by
 refine aZ<|min_two_ints hh λh' tk gC=>?_;obtain⟨a',t'⟩:=at_.ext (t:=tk) gC;refine vO h (λq S=>?_) λq S=>?_
 ·rw[dM (gy q)];exact⟨_,Z,r,F,⟨rfl,S⟩,.d .int,a',t'⟩
 ·rw[cF (sJ q)];exact⟨_,Z,r,F,⟨rfl,S⟩,.d .int,a',t'⟩
theorem At.oP{h':dH}{t:H}{D:aR}{o:fH}(a:At f Y G Z r s F)(gC:∀b y,s.heap.get? b=N y->h'.get? b=N y)(hD:s.heap.get? D=ao)(e:h'.get? D=N o):
  ∃F',F' D=N o/\iG F F'/\At f Y G Z r {s with heap:=h',toks:=t} F'/\Go G Z Z r r s {s with heap:=h',toks:=t} F F':=by
 have hx:=a.ext (t:=t) gC;have a1:=hx.1;have t1:=hx.2;refine b_ (a1.mt.Ng t1 (iQ.fresh a.mt hD) e hD) λF' hx=>?_;have e1:=hx.1;have e2:=hx.2.1;have m2:=hx.2.2.2.1;have t2:=hx.2.2.2.2;exact⟨F',e1,e2,⟨a.len,a.fk,m2⟩,t2⟩
theorem At.oT{h':dH}{t:H}{D:aR}{x:O}(a:At f Y G Z r s F)(gC:∀b y,s.heap.get? b=N y->h'.get? b=N y)(hD:s.heap.get? D=ao)(hx:jR ((D,D),x)=[D])(hr:OR f.w r F h' (D,D) x):
  ∃r',VR f.w r' F (.ref (Wm.len Z.o)) (.ref D)/\At f Y G ⟨Z.m,Z.o++[x]⟩ r' {s with heap:=h',toks:=t} F/\Go G Z ⟨Z.m,Z.o++[x]⟩ r r' s {s with heap:=h',toks:=t} F F:=by
 have m0:l_ f r s F (r.zip Z.o):=a.mt.part;have m1:l_ f r {s with heap:=h',toks:=t} F (r.zip Z.o):=⟨λb y e=>gC b y (m0.sub b y e),m0.base,λp hp=>(m0.live p hp).step (.refl _) (.refl _) λb X y e=>gC b y e,m0.jg,m0.nd⟩
 have t1:fB r r s {s with heap:=h',toks:=t} F F (own (r.zip Z.o)) (own (r.zip Z.o)):=⟨.refl _,⟨_,_,rfl⟩,.refl _,λX I e=>.inl e,λX h=>.inl h,λb y X e=>gC b y e⟩
 obtain⟨m2,t2⟩:=m1.io a.len t1 (iQ.fresh m0 hD) hx hr hD;refine⟨r++[(D,D)],.ref (p:=(D,D)) ?_,⟨by simp[a.len],a.fk,a.mt.join t2 m2 t2.fM⟩,t2.frame (M:=[Cb G Z.m]) t2.fM⟩
 rw[nc,<-a.len];simp
theorem bc9(h:vK v Z.o λds=>k (.d (.tup ds)) Z.o)(at_:At f Y G Z r s F)(y:VR f.w r F v u):
  av (aP f.prog f.w) A (fF (.type "tuple") [u]) (ig f Y G Z k r s F) E s:=by
 refine vO h (λX h=>jD y h λx y h=>B8 y h λds l ws m h e z zl=>?_) λX h=>AA y at_ h λds l ws m S g yd hl=>?_
 ·exact aZ<|call_tuple_same ⟨_,at_.mt.sub _ _ e,rfl,_,rfl⟩ ⟨_,Z,r,F,⟨rfl,h⟩,.d (.tup e z zl),at_,.refl ..⟩
 ·refine aZ<|call_tuple_list ⟨_,g,rfl,_,rfl⟩ (λh' gC=>?_) (by rw[yd.size];exact bN hl (by unfold gX;decide))
  have hx:=at_.ext (t:=s.toks) gC;have a':=hx.1;have t':=hx.2;refine b_ (a'.frozen (o:=lJ ws 0) rfl) λF' hx=>?_;have e:=hx.1;have a2:=hx.2.1;have t2:=hx.2.2;exact⟨_,Z,r,F',⟨rfl,S⟩,.d (.tup e (yd.mono t2.grow) hl),a2,t'.trans t2⟩
theorem TU{ds:J D}{ws:cT aA}{t:H}{h':dH}(h:dh lv (k (.ref (Wm.len Z.o)) (Z.o++[.dl ds])) (k (.d (.list ds)) Z.o))(at_:At f Y G Z r s F)(gC:∀b o',s.heap.get? b=N o'->h'.get? b=N o')(hD:h'.get? s.heap.objs.size=N (iH ws c))(yd:eU F ds ws.toList)(hl:ds.length<=1048576):
  ig f Y G Z k r s F (.ref s.heap.objs.size) {s with heap:=h',toks:=t}:=by
 induction lv with
 |true=>have h:k (.ref (Wm.len Z.o)) (Z.o++[.dl ds]):=h;refine b_ (at_.oT (t:=t) (x:=.dl ds) gC (pq _) rfl ⟨ws,c,hD,yd,hl⟩) λr' hx=>?_;have v:=hx.1;have a':=hx.2.1;have t':=hx.2.2;exact⟨_,⟨Z.m,Z.o++[.dl ds]⟩,r',F,⟨rfl,h⟩,v,a',t'⟩
 |false=>have h:k (.d (.list ds)) Z.o:=h;refine b_ (at_.oP (t:=t) gC (pq _) hD) λF' hx=>?_;have e:=hx.1;have sl:=hx.2.1;have a':=hx.2.2.1;have t':=hx.2.2.2;exact⟨_,Z,r,F',⟨rfl,h⟩,.d (.list e (yd.mono sl) hl),a',t'⟩
theorem bd0(h:vK v Z.o λds=>dh lv (k (.ref (Wm.len Z.o)) (Z.o++[.dl ds])) (k (.d (.list ds)) Z.o))(at_:At f Y G Z r s F)(y:VR f.w r F v u):
  av (aP f.prog f.w) A (fF (.type "list") [u]) (ig f Y G Z k r s F) E s:=
 M9 h at_ y λds l ws m S g yd hl eu=>by
  rw[eu];have sz:ws.size<=gX:=by rw[yd.size];exact bN hl (by unfold gX;decide)
  rcases g with g|g
  ·exact aZ<|cy2 l (.inl rfl) g rfl rfl (λh' c' gC hD=>TU S at_ gC hD yd hl) sz
  ·exact aZ<|cy2 l (.inr rfl) g rfl rfl (λh' c' gC hD=>TU S at_ gC hD yd hl) sz
theorem bd1{x:ai}(h:ZQ x.cps.toList λc=>k (.d (.int c)) Z.o)(at_:At f Y G Z r s F):
  av (aP f.prog f.w) A (fF (.builtin "ord") [.str x t]) (ig f Y G Z k r s F) E s:=by
 obtain⟨⟨l⟩⟩:=x;induction l using eT with
 |nil=>exact h.elim
 |cons c l=>induction l using eT with
  |nil=>exact aZ<|PySem.P.ord_of_char ⟨_,Z,r,F,⟨rfl,h⟩,.d .int,at_.tok _,.tok ..⟩
  |cons X I=>exact h.elim
theorem bd2{i:aa}(h:(0<=i/\i<=1114111)/\k (.d (.str (az [i.toNat]))) Z.o)(at_:At f Y G Z r s F):
  av (aP f.prog f.w) A (fF (.builtin "chr") [.int i t]) (ig f Y G Z k r s F) E s:=
 aZ<|PySem.P.chr_of_int (by simp;omega) ⟨_,Z,r,F,⟨rfl,h.2⟩,.d .str,at_.tok _,.tok ..⟩
theorem Yy{l:J aa}:∀{ws:J aA},eU F (l.map .int) ws->IntsAre ws l:=by
 induction l with
 |nil=>exact λy=>y.HQ▸ .nil
 |cons a l ih=>intro ws y;cases y with|cons a1 z=>exact a1.e λt=>.cons _ _ (ih z)
theorem ints_of{l:J H}(y:eU F (fJ l) ws):IntsAre ws (l.map λ(n:H)=>(n:aa)):=Yy (F:=F) (by rw[n_];exact y)
theorem av9{l:J H}{ws:cT aA}{A:cQ}(hh:A.handled=ao)(h:k (.d (.bytes l)) Z.o)(hl:∀n∈l,n<256)(hz:l.length<=1048576)(at_:At f Y G Z r s F)(g:s.heap.get? a=N (iH ws m))(y:eU F (fJ l) ws.toList):
  av (aP f.prog f.w) A (fF (.type "bytes") [.ref a]) (ig f Y G Z k r s F) E s:=by
 have hi:=ints_of y;refine aZ<|call_bytes_ints (vs:=ws.toList) ⟨_,g,rfl,_,rfl⟩ hi (λn hn=>?_) (by have:=y.length;simp[fJ]at this;simp;unfold gX;omega) hh λh' t tk gC=>?_
 ·obtain⟨j,hj,rfl⟩:=qA.mp hn;have:=hl j hj;omega
 ·obtain⟨a',t'⟩:=at_.ext (t:=tk) gC;refine⟨.d (.bytes l),Z,r,F,⟨rfl,h⟩,.d ?_,a',t'⟩;have e:(byteArr (l.map λ(n:H)=>(n:aa))).toList.map iY=l:=by
   unfold byteArr;have:(l.map λ(n:H)=>(n:aa)).map (λn=>n.toNat.toUInt8)=l.map Bl:=by rw[n_];congr 1
   show(((l.map λ(n:H)=>(n:aa)).map λn=>n.toNat.toUInt8)).map iY=l
   rw[this];exact on hl
  have:=DR.bytes (F:=F) (b:=byteArr (l.map λ(n:H)=>(n:aa))) (t:=t) (by rw[byteArr_size];simpa using hz)
  rw[e]at this
  exact this
noncomputable def Iz(v:aA):aD:=match v with| .bool b=>b|X=>ak
theorem bd3{ws:J aA}(h:HM ds k)(z:eU F ds ws):k (ws.any Iz)/\∀w∈ws,∃b,w=.bool b:=by
 induction z generalizing k with
 |nil=>exact⟨h,λX m=>nomatch m⟩
 |@cons d X I u2 a z ih=>
  induction d using Wm.D.casesOn with
  |bool q=>have g:=ih (k:=λq'=>k (q||q')) h;exact a.e ⟨g.1,gv.mpr ⟨⟨q,rfl⟩,g.2⟩⟩
  |_=>exact h.elim
theorem bd4{A:cQ}(hh:A.handled=ao)(h:HM ds λq=>k (.d (.bool q)) Z.o)(at_:At f Y G Z r s F){ws:cT aA}(e:F l=N (iH ws m))(z:eU F ds ws.toList):
  av (aP f.prog f.w) A (fF (.builtin "any") [.ref l]) (ig f Y G Z k r s F) E s:=by
 have g:=at_.mt.sub _ _ e;obtain⟨h1,h2⟩:=bd3 h z;have il:s.heap.IsList l ws:=⟨_,g,rfl,_,rfl⟩;refine aZ<|call_any_walk (XJ il ⟨s.heap.objs.size,_,_,_,_,_,λi=>Iz (ws.getD i .none),rfl,am9 (prog:=f.prog) (w:=f.w) (A:=A.in1) hh s.heap.objs.size l (sr (kI g)) ws,⟨⟨_,lY _ rfl,rfl,rfl⟩,il.push _⟩,?_,λh' tk gC=>?_⟩)
 ·intro i v s' Q' E' hv hQ;have hm:v∈ws.toList:=by rw[Kr];exact Array.mem_of_getElem? hv
  obtain⟨b,rfl⟩:=h2 v hm;have e3:Iz (ws.getD i .none)=b:=by rw[ao6,hv];rfl
  exact PySem.wpAny_truthy_bool (e3▸hQ)
 ·have bd5:∀b o,s.heap.get? b=N o->h'.get? b=N o:=λb o e=>gC b o (by simp;exact sr (kI e)) (ko _ e)
  obtain⟨a',t'⟩:=at_.ext (t:=tk) bd5;have e2:(kJ ws.size).any (λi=>Iz (ws.getD i .none))=ws.toList.any Iz:=by
   rw[PX,wD,wD];constructor
   ·rintro⟨i,hi,q⟩
    have hi:=Bg.mp hi;rw[ao6,Kp hi]at q
    exact⟨ws[i],by simp,q⟩
   ·rintro⟨x,hx,q⟩
    obtain⟨i,hi,rfl⟩:=cx5.mp (Kr.mp hx);exact⟨i,Bg.mpr hi,by rw[ao6,Kp hi];exact q⟩
  exact⟨.d (.bool _),Z,r,F,⟨rfl,e2▸h1⟩,.d .bool,a',t'⟩
end
end Wm
section
namespace Wl
variable{prog:iU}{w:bU}{A:cQ}{E:aA->aE->Prop}{s:aE}
theorem bd6:ue (.type "bytes") "__bytes__"=pure (N (.builtin "bytes.__bytes__")):=by rw[uf,ug];kernel_rfl
theorem bd7(hQ:Q (.bytes b t) s):codeAny (aP prog w) A (.call (.builtin "bytes.__new__") ⟨[.type "bytes",.bytes b t],[]⟩) (wants Q E) s:=by
 refine codeAny_of_tree ?_
 show wpAny _ A.in1 (do Dw "bytes.__new__" ⟨[.type "bytes",.bytes b t],[]⟩;sq (.builtin "bytes.__new__" ⟨[.type "bytes",.bytes b t],[]⟩)) _ _ s
 refine wpAny_bind (wpAny_of_eq (cy3 _) (wpAny_pure ⟨Bk XY _,cy4 cy5 ?_⟩));rw[KH XY _];unfold gW.«bytes.__new__»;refine wpAny_bind (wpAny_of_eq (a:=true) rfl ?_);refine Gl rfl ?_;refine wpAny_bind (wpAny_of_eq cy6 ?_);refine Gl rfl ?_;refine wpAny_bind (wpAny_of_eq (cy7 _) ?_);refine wpAny_bind (wpAny_of_eq (a:=()) rfl ?_);refine wpAny_bind (wpAny_of_eq (a:=()) rfl ?_);refine Gl rfl ?_;refine wpAny_bind (wpAny_of_eq (XS bd6) ?_);refine wpAny_bind (wpAny_rule ?_);refine wpAny_bind (Gb (Dq s b t) ?_);refine ao7 rfl ?_;exact wpAny_pure hQ
theorem bd8(hQ:Q (.bytes b t) s):wpAny (aP prog w) A (fF (.type "bytes") [.bytes b t]) Q E s:=by refine ao8 (Q₁:=λobj aF=>aF.TypeIs obj "bytes" /\Q obj aF) KJ (cy8 _) cy9 (bd7 ⟨Dq _ _ _,hQ⟩) λobj aF h₁=>?_;exact⟨h₁.1,cz0 obj _,cz1 KJ.init.lookup KJ.made (by decide) prog w A.in1 _ aF ⟨h₁.1,rfl,h₁.2⟩⟩
theorem bd9:ue (.type "bytearray") "__bytes__"=pure ao:=by rw[uf,ug];kernel_rfl
theorem be0:ue (.type "bytearray") "__index__"=pure ao:=by rw[uf,ug];kernel_rfl
theorem Cq{name id:jZ}(hl:s.heap.get? l=N (Wm.jY b))(S:ue (.type "bytearray") (name:ai)=pure (N (.builtin id)))(he:(!id.endsWith ("." ++name))=ak)(hd:id.dropRight (name.length+1)= "bytearray")(h:Q ah s):
  wpAny M A (XU (.ref l) name) Q E s:=by
 unfold XU;refine wpAny_bind (sF ⟨_,hl,rfl⟩ S ?_);dsimp only;rw[he,cF rq,hd];unfold KI;exact wpAny_bind (Gb ⟨_,hl,rfl⟩ (wpAny_of_eq Wm.Ir h))
theorem TP{M:jP}{l:aR}{b:cT iX}{id:jZ}{full:aD}{Q:bq (cT iX)->aE->Prop}(hl:s.heap.get? l=N (Wm.jY b))(h:Q (N b) s):wpAny M A (Bm id (.ref l) full) Q E s:=by
 unfold Bm;refine wpAny_bind (sF ⟨_,hl,rfl⟩ Wm.xy ?_);dsimp only;refine wpAny_bind (Cq hl Wm.xy (by decide+kernel) (by decide+kernel) ?_)
 rw[cF (by decide)]
 refine wpAny_bind (sF ⟨_,hl,rfl⟩ Wm.xy ?_)
 show wpAny M A (Qo (.ref l)>>=_) Q E s
 unfold Qo;refine wpAny_bind (wpAny_bind (Cq hl Wm.TN (by decide+kernel) (by decide+kernel) (wpAny_pure ?_)))
 rw[cF (by decide)]
 refine wpAny_bind ?_;unfold Qn ao0;refine wpAny_bind (wpAny_bind (zK hl ?_));exact wpAny_pure (wpAny_pure (wpAny_pure h))
theorem be1{l:aR}{b:cT iX}{Q:aA->aE->Prop}(hl:s.heap.get? l=N (Wm.jY b))(hz:b.size<=1048576)(hQ:Q (.bytes b s.toks) {s with toks:=s.toks+1}):codeAny (aP prog w) A (.call (.builtin "bytes.__new__") ⟨[.type "bytes",.ref l],[]⟩) (wants Q E) s:=by
 refine codeAny_of_tree ?_
 show wpAny _ A.in1 (do Dw "bytes.__new__" ⟨[.type "bytes",.ref l],[]⟩;sq (.builtin "bytes.__new__" ⟨[.type "bytes",.ref l],[]⟩)) _ _ s
 refine wpAny_bind (wpAny_of_eq (cy3 _) (wpAny_pure ⟨Bk XY _,cy4 cy5 ?_⟩));rw[KH XY _];have hT:s.TypeIs (.ref l) "bytearray":=⟨_,hl,rfl⟩;unfold gW.«bytes.__new__»;refine wpAny_bind (wpAny_of_eq (a:=true) rfl ?_);refine Gl rfl ?_;refine wpAny_bind (wpAny_of_eq cy6 ?_);refine Gl rfl ?_;refine wpAny_bind (wpAny_of_eq (cy7 _) ?_);refine wpAny_bind (wpAny_of_eq (a:=()) rfl ?_);refine wpAny_bind (wpAny_of_eq (a:=()) rfl ?_);refine Gl rfl ?_;refine wpAny_bind (sF hT bd9 ?_);refine wpAny_bind (wpAny_bind ?_)
 show wpAny _ _ (F0 l>>=_) _ _ _
 refine wpAny_bind (zK hl ?_);refine wpAny_pure (wpAny_pure ?_);refine Gl rfl ?_;refine wpAny_bind (sF hT be0 ?_);refine ao7 rfl ?_
 first
  |show wpAny _ _ (Bm "bytes.__new__" (.ref l) ah>>=_) _ _ _
  |(refine wpAny_bind ?_;show wpAny _ _ (Bm "bytes.__new__" (.ref l) ah>>=_) _ _ _)
 refine wpAny_bind (TP hl ?_);refine wpAny_bind (wpAny_rule ?_);refine wpAny_bind ?_;refine wpAny_mkBytes ?_ (show b.size<=gX by unfold gX;omega)
 refine ao7 rfl ?_
 first|exact wpAny_pure hQ|exact wpAny_pure (wpAny_pure hQ)|exact wpAny_bind (wpAny_pure (wpAny_pure hQ))|exact wpAny_bind (wpAny_pure (wpAny_pure (wpAny_pure hQ)))
theorem be2{b:cT iX}(hl:s.heap.get? l=N (Wm.jY b))(hz:b.size<=1048576)(hQ:Q (.bytes b s.toks) {s with toks:=s.toks+1}):wpAny (aP prog w) A (fF (.type "bytes") [.ref l]) Q E s:=by refine ao8 (Q₁:=λobj aF=>aF.TypeIs obj "bytes" /\Q obj aF) KJ (cy8 _) cy9 (be1 hl hz ⟨Dq _ _ _,hQ⟩) λobj aF h₁=>?_;exact⟨h₁.1,cz0 obj _,cz1 KJ.init.lookup KJ.made (by decide) prog w A.in1 _ aF ⟨h₁.1,rfl,h₁.2⟩⟩
end Wl
namespace Wm
variable{f:Cf}{Y:J (ai×cJ)}{n:H}{Z:St}{e:aT}{G:cL}{r:bQ}{s:aE}{F:bP}
theorem be3{A:cQ}{E:aA->aE->Prop}(hh:A.handled=ao)(h:QN v Z.o λl=>k (.d (.bytes l)) Z.o)(at_:At f Y G Z r s F)(y:VR f.w r F v u):
  av (aP f.prog f.w) A (fF (.type "bytes") [u]) (ig f Y G Z k r s F) E s:=by
 have lst:∀{a:aR}{ws:cT aA}{m:H}{ds:J D},s.heap.get? a=N (iH ws m)->eU F ds ws.toList->ds.length<=1048576->MD ds (λl=>k (.d (.bytes l)) Z.o)->av (aP f.prog f.w) A (fF (.type "bytes") [.ref a]) (ig f Y G Z k r s F) E s:=by
  rintro a ws m ds g y hl ⟨l,rfl,h1,h2⟩
  exact av9 hh h2 h1 (by unfold fJ at hl;rw[cO]at hl;exact hl) at_ g y
 induction v with
 |d x=>
  refine y.e λu y=>?_;induction x using Wm.D.casesOn with
  |bytes l=>exact y.e λb t e hb=>aZ (Wl.bd8 ⟨_,Z,r,F,⟨rfl,h⟩,.d (e▸ .bytes hb),at_,.refl ..⟩)
  |list ds=>exact y.e λl ws m e z zl=>lst (at_.mt.sub _ _ e) z zl h
  |_=>exact h.elim
 |ref i=>
  refine y.e λp e1=>pn h λo q h=>?_;have ob:=at_.obj e1 q;induction o with
  |ba l=>
   obtain⟨b,g,rfl,hl⟩:=ob;have hb:b.size<=1048576:=by rw[cO,o5]at hl;exact hl
   exact aZ (Wl.be2 g hb ⟨_,Z,r,F,⟨rfl,h⟩,.d (.bytes hb),at_.tok _,.tok ..⟩)
  |dl ds=>obtain⟨ws,m,g,z,l⟩:=ob;exact lst g z l h
  |_=>exact h.elim
 |_=>exact h.elim
end Wm
end
namespace Wm
section
variable{f:Cf}{Y:J (ai×cJ)}{n:H}{Z:St}{e:aT}{G:cL}{r:bQ}{s:aE}{F:bP}
theorem be4:∃(d:aR->aD->dJ C7)(g:aR->J (bq aA)->dJ C7)(h:aR->aD->dJ C7)(e:aR->rt->dJ C7),∀l:aR,
  gW.«bytearray.__init__» ⟨[.ref l],[]⟩=(Qo (.ref l)>>=d l)/\d l ak=(cG3 "bytearray.__init__" "bytearray" ["source","encoding","errors"] [] []>>=g l)/\
  g l [ao,ao,ao]=((XM (.ref l)<||>(do return (<-an7 (.ref l))>0))>>=h l)/\h l ak=(XO (.ref l) (λX=>#[])>>=e l)/\e l ()=pure (.done (.ret .none)):=
 ⟨_,_,_,_,λl=>⟨rfl,rfl,rfl,rfl,rfl⟩⟩
theorem be5(hl:s.heap.get? l=N (jY #[]))(h:Q (.done (.ret .none)) {s with heap:=s.heap.update l (wH λX=>#[])}):av M A (gW.«bytearray.__init__» ⟨[.ref l],[]⟩) Q E s:=by
 refine be4.elim λd q=>q.elim λg q=>q.elim λk q=>q.elim λe q=>(q l).1.symm▸aJ (aJ (Cq hl TN (by decide+kernel) (by decide+kernel) (bg ?_)))
 refine(q l).2.1.symm▸aJ (iZ (a:=[ao,ao,ao]) (by kernel_rfl) ((q l).2.2.1.symm▸aJ (aJ (nr ?_))))
 refine aJ (aJ (aZ<|zK hl (bg (bg ?_))));exact(q l).2.2.2.1.symm▸aJ (Nv hl (qw _) ((q l).2.2.2.2.symm▸bg h))
theorem be6:("bytearray.__new__".splitOn ".__new__").headD ""= "bytearray":=by simp+decide [cz2,cz3]
theorem be7:qC nK "bytearray.__new__"=N gW.«list.__new__»:=entryFor_alias (id':= "list.__new__") (by kernel_rfl) (by first|rfl|decide+kernel|(unfold cz2;simp+decide [cz3])) (by decide+kernel) (by kernel_rfl)
theorem o0:mroOf (.type "bytearray")=pure [.type "bytearray",.type "object"]:=by rw[mroOf_type];kernel_rfl
theorem be8:ue (.type "bytearray") "__new__"=pure (N (.builtin "bytearray.__new__")):=by rw[uf,ug];kernel_rfl
theorem o3:ue (.type "bytearray") "__init__"=pure (N (.builtin "bytearray.__init__")):=by rw[uf,ug];kernel_rfl
theorem be9:Bind.madeBy (.type "bytearray")=pure (N "bytearray.__new__"):=madeBy_type o0 be8 (by decide+kernel)
theorem bf0:qC nK "bytearray.__init__"=N gW.«bytearray.__init__»:=KG (by kernel_rfl)
theorem bf1:Dw "bytearray.__new__" ⟨[.type "bytearray"],[]⟩=pure ():=by kernel_rfl
theorem bf2:checkTypeCall "bytearray" ⟨[],[]⟩=pure ():=by kernel_rfl
theorem bf3(a:aA):wG "bytearray.__init__" ⟨[a],[]⟩:=by unfold wG;rw[an3 (id:= "bytearray.__init__") (n:=['_','_','t','i','n','i','_','_']) (o:=['y','a','r','r','a','e','t','y','b']) (by kernel_rfl) Fb.TF];kernel_rfl
theorem ph:KC "bytearray" "__init__" "bytearray.__init__":=
 .of (owner:= "bytearray") (n:= "__init__") o3 (by decide+kernel) (by decide+kernel) (by decide+kernel)
  (by first|exact .inl (by decide+kernel)|exact .inr (by decide+kernel)) Ir
theorem bf4{prog:iU}{w:bU}{A:cQ}{E:aA->aE->Prop}
  (h:Q₁ (.ref s.heap.objs.size) {s with heap:=s.heap.push {cls:=.type "bytearray",data:=.bytearray #[]}}):
  co6 (aP prog w) A (.call (.builtin "bytearray.__new__") ⟨[.type "bytearray"],[]⟩) (wants Q₁ E) s:=by
 refine PySem.codeAny_of_tree ?_
 show Dd _ A.in1 (do Dw "bytearray.__new__" ⟨[.type "bytearray"],[]⟩;sq (.builtin "bytearray.__new__" ⟨[.type "bytearray"],[]⟩)) _ _ s
 refine ud (cz4 bf1 (P9 ⟨Bk (by decide+kernel) _,PySem.codeAny_builtin_stack be7 rfl λp Z=>?_⟩))
 rw[KH (by decide+kernel) _]
 have Sy:=Ir;have MZ:=be6;obtain⟨hp,g,d,tk,os⟩:=s;simp only[MZ]
 wp_walk
 exact h
theorem bf5{A:cQ}(h:∀h':dH,(∀b o,s.heap.get? b=N o->h'.get? b=N o)->h'.get? s.heap.objs.size=N (jY #[])->R (.ok (.ret (.ref s.heap.objs.size))) {s with heap:=h'}):
  av (aP prog w) A.in1 (gW.«type.__call__» ⟨[.type "bytearray"],[]⟩) (λcH s'=>match cH with| .done f=>R (.ok f) s'| .again c'=>(c'.quiet=ah/\free c'=ah)/\eG (aP prog w) A c' R s') (λe s'=>R (.error e) s') s:=by
 have hT:∀h':dH,h'.get? s.heap.objs.size=N (jY #[])->({s with heap:=h'}:aE).TypeIs (.ref s.heap.objs.size) "bytearray":=λh' e=>⟨_,e,rfl⟩
 have hx:(s.heap.push (jY #[])).get? s.heap.objs.size=N (jY #[]):=lY _ rfl;have gC:∀b o,s.heap.get? b=N o->(s.heap.push (jY #[])).get? b=N o:=λb o e=>ko _ e;unfold gW.«type.__call__»;dsimp only;rw[cF (show¬((Bh "bytearray" ==Bh "type")=ah) by decide)]
 rw[cF (by decide+kernel)]
 refine aJ (iZ bf2 ?_);refine aJ (iZ o0 ?_);rw[cF (by decide)]
 refine aJ (iZ be9 ?_);dsimp only;refine aJ (bg (aJ (iP (Bq (RG (PySem.codeAny_mono (bf4 (E:=λX I=>bV) (Q₁:=λu s'=>u=.ref s.heap.objs.size/\s'={s with heap:=s.heap.push (jY #[])}) ⟨rfl,rfl⟩) ?_))))))
 intro r s' q;induction r with
 |error e=>exact q.elim
 |ok fl=>
  induction fl with
  |ret u=>
   obtain⟨rfl,rfl⟩:=q;dsimp only;refine aJ ?_;unfold KI;refine aJ (aZ<|Gb (hT _ hx) (iZ Ir ?_));rw[cF (by decide)]
   refine aJ (iP ?_);unfold callSpecial?;refine aJ (aZ<|sF (hT _ hx) o3 ?_);dsimp only;refine iP (aJ (iZ (ph.bind _) ?_));dsimp only;refine aJ (Iq ph (hT _ hx) bf0 (bf3 _) (by decide+kernel) (be5 hx ?_))
   refine bg ?_;dsimp only;rw[cF (by decide)]
   refine bg (h _ (λb o e=>?_) ?_)
   ·have ne:b≠s.heap.objs.size:=sr (kI e);rw[Heap.get?_update_ne _ _ _ _ ne];exact gC b o e
   ·exact Bj _ hx rfl
  |_=>exact q.elim
theorem bf6(T:jZ)(args:J aA)(kw:J (ai×aA)):(Dy "type.__call__" ⟨.type T::args,kw⟩).weight=0:=rfl
theorem bf7{prog:iU}{w:bU}{A:cQ}{R:nM->aE->Prop}{id:jZ}{B:gW}{args:Args}(h1:(Dy id args).weight=0)(h2:(Dy id args).cUnits=1)(J1:qC nK id=N B)
  (h:av (aP prog w) A.in1 (B args) (λcH s'=>match cH with| .done f=>R (.ok f) s'| .again c'=>(c'.quiet=ah/\free c'=ah)/\eG (aP prog w) A c' R s') (λe s'=>R (.error e) s') s):eG (aP prog w) A (.builtin id args) R s:=by
 refine m_ ?_;rw[Around.under_plain h1 h2]
 show av _ A.in1 (match qC nK id with|some b=>b args|none=>zG ((Qm id "#data").getD id)) _ _ s
 rw[J1];exact h
theorem bf8{k:V->J O->Prop}{A:cQ}{E:aA->aE->Prop}(h:k (.ref (Wm.len Z.o)) (Z.o++[.ba []]))(at_:At f Y G Z r s F):
  av (aP f.prog f.w) A (fF (.type "bytearray") []) (ig f Y G Z k r s F) E s:=by
 refine Bq (m_ ?_)
 show av _ _ (callAny (.type "bytearray") _) _ _ _
 refine bg (rz ⟨cy0 _ (by decide+kernel),Iu (by decide+kernel)⟩ (bf7 (bf6 "bytearray" [] []) rfl PySem.F.entry_type_call ?_))
 refine bf5 (R:=λkc s'=>match kc with| .ok (.ret v)=>ig f Y G Z k r s F v s'| .ok X=>bV| .error e=>E e s') λh' gC hD=>?_
 refine b_ (at_.oT (t:=s.toks) (x:=.ba []) gC (pq _) rfl ⟨#[],hD,rfl,by simp⟩) λr' hx=>?_
 have v:=hx.1;have a':=hx.2.1;have t':=hx.2.2;exact⟨_,⟨Z.m,Z.o++[.ba []]⟩,r',F,⟨rfl,h⟩,v,a',t'⟩
end
end Wm
section
namespace Wl
section
variable{prog:iU}{w:bU}{A:cQ}{E:aA->aE->Prop}{s:aE}{b:cT iX}{t:H}
theorem bf9(h:Q ak s):Dd (aP prog w) A (cz5 (.bytes b t)) Q E s:=by
 unfold cz5;refine ud (PySem.wpAny_specialOf (T:= "bytes") (v:=.bytes b t) rfl ao5.lookup ?_)
 wp_delta
 refine ud (PySem.wpAny_isInstance (T:= "bytes") (v:=.bytes b t) (b:=true) rfl (by rw[KD];kernel_rfl) ?_)
 show Dd _ A (XK (cw9 b t)>>=_) _ _ _
 refine ud (cz6 (T:= "bytes") (v:=.bytes b t) rfl ?_);exact P9 h
theorem bg0{Q:aA->aE->Prop}(hh:A.handled=ao)(hn:b.size<=gX)
  (hQ:∀h' tk ES c',(∀a o,s.heap.get? a=N o->h'.get? a=N o)->h'.get? s.heap.objs.size=N {cls:=.type "list",dict:=none,data:=.seq ES c',slots:=#[]}->ItemsOf (λi v=>∃c u,b[i]?=N c/\v=.int (c.toNat:aa) u) ES b.size->Q (.ref s.heap.objs.size) {s with heap:=h',toks:=tk}):
  Dd (aP prog w) A (fF (.type "list") [.bytes b t]) Q E s:=by
 refine ao8 (Q₁:=λobj aF=>obj=.ref s.heap.objs.size/\aF={s with heap:=s.heap.push {cls:=.type "list",data:=.seq #[]}}) PySem.F.called_list (PySem.F.typeCall_list_1 _) PySem.F.entry_list_init
  (code_list_new _ ⟨rfl,rfl⟩) λobj aF h₁=>?_
 obtain⟨rfl,rfl⟩:=h₁;have hS:(s.heap.push {cls:=.type "list",data:=.seq #[]}).get? s.heap.objs.size=N {cls:=.type "list",data:=.seq #[]}:=lY _ rfl;refine⟨⟨_,hS,rfl⟩,PySem.F.args_list_init_2 _ _,?_⟩;generalize hH:s.heap.push {cls:=.type "list",data:=.seq #[]}=eE at hS|-
 have hHs:eE.objs.size=s.heap.objs.size+1:=by rw[<-hH,J2]
 show Dd _ _ (do let wj<-cz7 (.ref s.heap.objs.size);cG4 (.ref s.heap.objs.size) (λX=>#[]);letGo wj.toList.reverse;ao9 (.ref s.heap.objs.size) (.bytes b t) .none) _ _ _
 refine ud ?_;unfold cz7;refine ud (PySem.wpAny_seqItems hS rfl (P9 ?_))
 show Dd _ _ (updateSeq s.heap.objs.size (λX=>#[])>>=λX=>letGo (#[]:cT aA).toList.reverse>>=λX=>ao9 (.ref s.heap.objs.size) (.bytes b t) .none) _ _ _
 refine ud (PySem.wpAny_updateSeq hS rfl ?_);have TV:=Bj (sH (λX=>(#[]:cT aA))) hS rfl;refine ud (PySem.wpAny_letGo ?_);have S:∀a o,s.heap.get? a=N o->(eE.update s.heap.objs.size (sH (λX=>(#[]:cT aA)))).get? a=N o:=λa o e=>(ao2 _ _ (Kw (kI e))).trans (hH▸ko _ e)
 generalize hG:eE.update s.heap.objs.size (sH (λX=>(#[]:cT aA)))=b4 at TV S|-
 have TX:s.heap.objs.size<b4.objs.size:=kI TV;unfold ao9;refine ud (cz6 (T:= "bytes") (v:=.bytes b t) rfl ?_);have h1:cG5 (.ref s.heap.objs.size) (.bytes b t)=ak:=rfl;have h2:(Bh "bytes" ==Bh "list")=ak:=by decide
 have h3:(Bh "bytes" ==Bh "tuple")=ak:=by decide
 simp only[h1,h2,h3,aj6,ak3,PT];refine ud (cv6 ?_);refine ud (cs1 (bf9 ?_));rw[cF (by decide)]
 have hSf:s.heap.objs.size∉[b4.objs.size]:=λhm=>by rw[fN.mp hm]at TX;exact vg _ TX
 refine P9 ⟨Bk PySem.F.plain_extend_loop _,codeAny_extend_loopS (cv5 (prog:=prog) (w:=w) (A:=A.in1.in1) hh b4.objs.size b t).toS hn _ hSf _ b.size 0 _ #[] _ rfl (qw _) ⟨_,lY _ rfl,rfl,rfl⟩ (ko _ TV) (ItemsOf.nil _) λs' ES c' hm hS' bg1=>?_⟩;rw[Moved.eq_with hm];refine⟨rfl,hQ _ _ ES c' (λa o e=>hm.heap a o (λbg2=>?_) (ko _ (S a o e))) hS' bg1⟩;have nB:=kI e;rcases iV.mp bg2 with h|h
 ·exact absurd nB (h▸vg _)
 ·rw[fN.mp h]at nB;exact absurd nB (vj.mpr (mX TX))
end
end Wl
namespace Wm
variable{f:Cf}{Y:J (ai×cJ)}{n:H}{Z:St}{e:aT}{G:cL}{r:bQ}{s:aE}{F:bP}
theorem eU.pt{F:bP}{ds:J D}:∀{ws:J aA},ds.length=ws.length->(∀(i:H) v,ws[i]?=N v->∃d,ds[i]?=N d/\DR F d v)->eU F ds ws:=by
 induction ds with
 |nil=>exact λ{ws} h g=>by cases ws with|nil=>exact .nil|cons _ _=>cases h
 |cons d ds ih=>
  intro ws h g;cases ws with
  |nil=>cases h
  |cons v ws=>exact .cons ((g 0 v rfl).elim λd' e=>fW e.1▸e.2) (ih (zL h) λi u e=>g (i+1) u e)
theorem bg3{A:cQ}{E:aA->aE->Prop}(hh:A.handled=ao)(h:HL v Z.o λds=>dh lv (k (.ref (Wm.len Z.o)) (Z.o++[.dl ds])) (k (.d (.list ds)) Z.o))(at_:At f Y G Z r s F)(y:VR f.w r F v u):
  av (aP f.prog f.w) A (fF (.type "list") [u]) (ig f Y G Z k r s F) E s:=
 vO h (λX h=>jD y h λx y h=>Z8 y h λb t h hb=>by
  refine aZ<|Wl.bg0 hh (bN hb (by unfold gX;decide)) λh' tk ES c' gC hD hi=>?_
  have len:(fJ (b.toList.map iY)).length=b.size:=by unfold fJ;rw[cO,cO,o5]
  exact TU h at_ gC hD (eU.pt (by rw[show ES.toList.length=b.size from hi.1,len]) λi v e=>by
   obtain⟨c,u,e2,rfl⟩:=hi.2 i v (by rw[<-rB];exact e)
   refine⟨.int (c.toNat:aa),?_,.int⟩;unfold fJ;rw[mD,mD,rB,e2];rfl) (len▸hb)) λX h=>bd0 h at_ y
end Wm
end
namespace Wm
section
variable{f:Cf}{Y:J (ai×cJ)}{n:H}{Z:St}{e:aT}{G:cL}{r:bQ}{s:aE}{F:bP}
theorem aw0{l:J aa}(h:IntsAre ws l):eU F (l.map .int) ws:=by
 induction h with
 |nil=>exact .nil
 |cons X I u2 ih=>exact .cons .int ih
theorem bg4{ds:J D}(h:∃l:J aa,(ds=l.map .int/\l.length<64)/\∀l':J aa,l'.Perm l->l'.Pairwise (·<=·)->k (.d (.list (l'.map .int))) Z.o)(at_:At f Y G Z r s F){ws:cT aA}(g:F a=N (iH ws m))(y:eU F ds ws.toList)(hl:ds.length<=1048576):
  av (aP f.prog f.w) A (fF (.builtin "sorted") [.ref a]) (ig f Y G Z k r s F) E s:=by
 obtain⟨l,⟨rfl,h64⟩,S⟩:=h;have sz:ws.toList.length=l.length:=y.length.symm.trans (cO _);refine aZ<|sorted_ints (vs:=ws.toList) (ns:=l) ⟨_,at_.mt.sub _ _ g,rfl,m,rfl⟩ (Yy y) (by rw[sz];exact h64) λFW jb h1 h2 h3=>?_
 refine b_ (sortedAll_at s.heap ws.toList FW) λc hx=>?_;have hc:=hx;have gC:∀b o,s.heap.get? b=N o->(sortedAll s.heap ws.toList FW).get? b=N o:=λb o e=>sortedAll_old e;have fr:s.heap.get? (s.heap.objs.size+1)=ao:=by
  cases q:s.heap.get? (s.heap.objs.size+1)with
  |none=>rfl
  |some o=>exact absurd (kI q) (vj.mpr (wF _))
 refine b_ (at_.oP (t:=s.toks) gC fr hc) λF' hx=>?_;have e:=hx.1;have sl:=hx.2.1;have a':=hx.2.2.1;have t':=hx.2.2.2;exact⟨_,Z,r,F',⟨rfl,S jb h2 h3⟩,.d (.list (n:=c) e (aw0 h1) (by rw[cO,h2.length_eq,<-cO (f:=D.int)];exact hl)),a',t'⟩
noncomputable def Cr:Bi->ai
 | .len=>az [108,101,110]
 | .tuple=>az [116,117,112,108,101]
 | .list=>az [108,105,115,116]
 | .bytes=>az [98,121,116,101,115]
 | .min=>az [109,105,110]
 | .any=>az [97,110,121]
 | .sorted=>az [115,111,114,116,101,100]
 | .ord=>az [111,114,100]
 | .chr=>az [99,104,114]
 | .bytearray=>az [98,121,116,101,97,114,114,97,121]
noncomputable def ET:Bi->aA
 | .len=>.builtin "len"
 | .tuple=>.type "tuple"
 | .list=>.type "list"
 | .bytes=>.type "bytes"
 | .min=>.builtin "min"
 | .any=>.builtin "any"
 | .sorted=>.builtin "sorted"
 | .ord=>.builtin "ord"
 | .chr=>.builtin "chr"
 | .bytearray=>.type "bytearray"
theorem bg5{A:cQ}(hh:A.handled=ao)(h:MH b lv vs Z.o k)(at_:At f Y G Z r s F)(y:gh f.w r F vs ws):
  av (aP f.prog f.w) A (fF (ET b) ws) (ig f Y G Z k r s F) E s:=by
 induction b with
 |len=>exact qT y h λv u y h=>bc7 h at_ y
 |tuple=>exact qT y h λv u y h=>bc9 h at_ y
 |list=>exact qT y h λv u y h=>bg3 hh h at_ y
 |bytes=>exact qT y h λv u y h=>be3 hh h at_ y
 |min=>exact Sw y h λv u v' u' y y' h=>jX y h λi t h=>jX y' h λj t' h=>bc8 hh h at_
 |any=>exact qT y h λv u y h=>jD y h λx y h=>Ss y h λds l ws n h e z X=>bd4 hh h at_ e z
 |sorted=>exact qT y h λv u y h=>jD y h λx y h=>Ss y h λds l ws n h e z zl=>bg4 h at_ e z zl
 |ord=>exact qT y h λv u y h=>jD y h λx y h=>Ew y h λx t h=>bd1 h at_
 |chr=>exact qT y h λv u y h=>jX y h λi t h=>bd2 h at_
 |bytearray=>exact Z_ y h λh=>bf8 h at_
theorem bg6(b:Bi):Xl (ET b)=pure .machine:=by cases b<;>rfl
theorem bg7(h:qU f Y n args Z λvs b3=>MH b lv vs b3.o λv o=>Q v ⟨b3.m,o⟩)
  (hg:f.g (Cr b)=N (ET b))(S:cG (Cr b) Y=N .globalImplicit)(hp:rT args=ah):WE f Y n (.Call (.Name (Cr b) fp) args [] pos) Z Q:=λA s F G E r o i at_=>by
 refine KS (Gr (M1 hg S i at_ ?_) (by cases b<;>decide))
 show av _ A (vn pos (ET b) [] (n9 pos (lQ args G)) []) _ E s
 exact TR (bg6 b) h hp o i at_ λvs ws b3 iC iI cj dw gU e_ c9=>ig.out c9 (bg5 o.hd dw e_ gU)
inductive IA(F:bP):D×D->aA×aA->Prop
 |mk {x y kv vv}:DR F x kv->DR F y vv->IA F (x,y) (kv,vv)
abbrev IB(f:Cf)(Y:J (ai×cJ))(n:H)(ks:J (bq aT))(vs:J aT)(pos:gq):=WX f Y (λr F=>L2 (IA F)) n (λG=>Gm (pairTrees ks vs G pos))
theorem bg8
  (h:av M A k (λkv aF=>av M A v (λvv cj=>av M A (Gm dg) (λvs dU=>Q ((kv,vv)::vs) dU) E cj) E aF) E s):av M A (Gm ((k,v)::dg)) Q E s:=by
 rw[Gm];exact dR h λkv aF h₁=>lI h₁ λvv cj dw=>lI dw λvs dU ku=>bg ku
theorem bg9{Pz:J (dJ aA×dJ aA)}(h:av M A (Gm Pz) Q E s):av M A (Gm Pz) (λvs s'=>vs.length=Pz.length/\Q vs s') E s:=
 λΓ p gY hc=>wp_evalPairs_len _ Γ Pz _ _ p s (h Γ p gY hc)
theorem bh0(h:Q [] Z):IB f Y n [] [] pos Z Q:=λA s F G E r o i a=>iZ (show Gm []=pure []from rfl) (.oG a .nil h)
theorem bh1(h:WE f Y n k Z λa aI=>WE f Y n v aI λb b3=>iS a λx=>iS b λy=>dh (yE x) (IB f Y n ks vs pos b3 λes iJ=>Q ((x,y)::es) iJ) bV):IB f Y n (N k::ks) (v::vs) pos Z Q:=λA s F G E r o i a=>by refine bg8 (Ig h o i a λx kx aI bY cz aF h₁ cX b7 b8=>aJ (Ig h₁ o i b7 λb vb b3 iC iI cj dw gU e_ c9=>aJ (qF (bg ?_))));refine jD cX dw λx cX dw=>jD gU dw λy gU dw=>WX.run (l9 dw).2 o i e_ λes ws iJ i9 ja dU ku qV jo gx=>?_;exact⟨_,iJ,i9,ja,ku,.cons (.mk (cX.mono (c9.grow.trans gx.grow)) (gU.mono gx.grow)) qV,jo,b8.trans (c9.trans gx)⟩
theorem bh2{κ:Type}[Ks κ]{i:κ}{lk:J (κ×D)->bq D}(l1:∀x a r,lk ((x,a)::r)=if i=x then N a else lk r){l:J (κ×D)}:lk l=ao->i∉l.map (·.1):=by
 induction l with
 |nil=>exact λX=>vt
 |cons p l ih=>
  intro h;rw[l1]at h
  have q:i≠p.1:=λe=>by rw[dM e]at h;cases h
  rw[cF q]at h
  exact λm=>(iV.mp m).elim q (ih h)
structure Yz{prog:iU}{w:bU}{κ:Type}[Ks κ](knd:XG prog w κ)(F:bP)(ws:J (aA×aA))(es:J (κ×D))(pA:J (κ×aA)):Prop where
 nd:(pA.map (·.1)).Nodup
 e:pA.map (·.1)=es.map (·.1)
 c:Carries knd ws pA
 p:∀ds:J jN,Pairs knd ds pA->(∀e∈ds,∃k,knd.is k e.key=ah/\e.hash=knd.hash k)->L2 (KE knd.is knd.hash F) es ds
theorem bh3{α:Type}{o:bq α}{P:Prop}(h:ZM o P):o=ao/\P:=by
 induction o with
 |none=>exact⟨rfl,h⟩
 |some X=>exact h.elim
theorem pj{prog:iU}{w:bU}{κ:Type}[Ks κ]{knd:XG prog w κ}{a:D->(κ->Prop)->Prop}{lk:κ->J (κ×D)->bq D}(l1:∀i x a r,lk i ((x,a)::r)=if i=x then N a else lk i r)(ha:∀{x kv}{k:κ->Prop},DR F x kv->a x k->∃i,knd.is i kv=ah/\k i){l ws}(z:L2 (IA F) l ws):
  ∀{k},MF a lk l k->∃es pA,k es/\Yz knd F ws es pA:=by
 induction z with
 |nil=>exact λh=>⟨[],[],h,.nil,rfl,cH2,λds p X=>by cases p;exact .nil⟩
 |cons q z ih=>
  intro k h;cases q with|mk dx dy=>
  obtain⟨i,hi,h⟩:=ha dx h;obtain⟨es,pA,h,g⟩:=ih h;have h:=bh3 h;refine⟨_,(i,_)::pA,h.2,o4.mpr ⟨λm=>bh2 (l1 i) h.1 (g.e▸m),g.nd⟩,bR (i::·) g.e,⟨hi,rfl,g.c⟩,λds p S=>?_⟩;cases p with|@cons e kv es pA p1 p2 p3=>
  obtain⟨k,e1,e2⟩:=S e (.head _);have e2:e.hash=knd.hash i:=e2.trans (bR _ (knd.inj _ _ _ e1 p1));obtain⟨hh,kk,vv⟩:=e;cases e2;cases p2;exact .cons (.mk p1 dy) (g.p _ p3 λe m=>S e (.tail _ m))
inductive pu(f:Cf)(r:bQ)(F:bP)(d:aR)(Q:V->Prop)(ws:J (aA×aA)):Prop
 |mk {κ:Type} [i:Ks κ] (knd:XG f.prog f.w κ) (v:V) (es:J (κ×D)) (pA):Q v->Yz knd F ws es pA->(∀{F':bP}{pv n},F' d=N (mY pv n)->L2 (KE knd.is knd.hash F') es pv->VR f.w r F' v (.ref d))->pu f r F d Q ws
theorem bh4{es ws}(h:MG es Q)(z:L2 (IA F) es ws)(ne:(d==xZ)=ak):pu f r F d Q ws:=by
 cases z with
 |nil=>exact h.elim
 |cons a z=>
  have z:=L2.cons a z;cases a with|@mk x=>
  induction x using Wm.D.casesOn with
  |int i=>
   refine b_ (pj (knd:=F8 f.prog f.w) (a:=iD) (k:=λl=>Q (.nO l)) eA (λ{X I k} d h=>by exact Z7 (k:=k) d h λi t h=>⟨i,QO i t,h⟩) z h) λes hx=>?_
   refine b_ hx λpA hx=>?_;have h:=hx.1;have g:=hx.2;exact⟨_,_,es,pA,h,g,λe z=>.nO e z ne⟩
  |str i=>
   refine b_ (pj (knd:=F9 f.prog f.w) (a:=sD) (k:=λl=>Q (.uq l)) tF (λ{X I k} d h=>by exact Ew (k:=k) d h λi t h=>⟨i,S3 i t,h⟩) z h) λes hx=>?_
   refine b_ hx λpA hx=>?_;have h:=hx.1;have g:=hx.2;exact⟨_,_,es,pA,h,g,λe z=>.uq e z ne⟩
  |_=>exact h.elim
theorem bh5(m:l_ f r s F L):(s.heap.objs.size==xZ)=ak:=by refine b_ (f.sm) λa hx=>?_;refine b_ hx λo hx=>?_;have h1:=hx.1;have h2:=hx.2;have:=kI (m.stays a o h2);have:xZ<s.heap.objs.size:=mE h1 this;exact Kg (Kw this)
theorem bh6{ks:J (bq aT)}{vs:J aT}(h:IB f Y n ks vs pos Z λes aI=>MG es λv=>Q v aI)(py:ks.all (·.isSome)=ah)(hl:ks.length=vs.length)(h0:ks≠[])(sf:ks.length<=15):
  WE f Y n (.Dict ks vs pos) Z Q:=λA s F G E r o i a=>by
 have hn:=pairTrees_length ks vs G pos py hl;have Iw:pairTrees ks vs G pos≠[]:=λe=>by rw[e]at hn;exact h0 (XA.mp hn.symm)
 show av _ A (cM (.Dict ks vs pos) G) _ E s
 rw[arm_eval_Dict,zip_pairTrees ks vs G pos py hl,dictDisplay_pairs _ Iw (by lia)]
 refine aJ (qF (aJ ?_));unfold subDict;refine aJ (aZ<|wpAny_alloc ?_);refine aJ (iP ?_);rw[dM (by lia)]
 have gC:∀b y,s.heap.get? b=N y->(s.heap.push {cls:=.type "dict",data:=.dict #[]}).get? b=N y:=λb o e=>ko _ e;have hD:(s.heap.push {cls:=.type "dict",data:=.dict #[]}).get? s.heap.objs.size=N (mY [] 0):=lY _ rfl;refine kK λGx gI=>?_;obtain⟨bh7,ai1⟩:=a.ext (t:=s.toks) gC;refine gI ?_;have bh8:=iQ.fresh a.mt (pq s.heap);refine aJ (gG (bg9 (WX.run h o i bh7 (P:=λws aF=>∃es aI bY cz,MG es (λv=>Q v aI)/\L2 (IA cz) es ws/\At f Y G aI bY aF cz/\Go G Z aI r bY {s with heap:=s.heap.push {cls:=.type "dict",data:=.dict #[]}} aF F cz) λes ws aI bY cz aF h₁ cX b7 b8=>⟨es,aI,bY,cz,h₁,cX,b7,b8⟩)) (λws aF p=>?_) λX I z=>z)
 refine kK λGx gI=>?_;obtain⟨wl,es,aI,bY,cz,h₁,cX,b7,b8⟩:=p;obtain⟨TY,bh9⟩:=bh8.step (s:={s with heap:=s.heap.push {cls:=.type "dict",data:=.dict #[]}}) hD b8
 refine gI ?_;obtain⟨knd,v,es,pA,hq,kp,hv⟩:=bh4 (f:=f) (r:=bY) (d:=s.heap.objs.size) h₁ cX (bh5 a.mt);have dn:aF.heap.DictOf knd s.heap.objs.size []:=⟨_,_,_,bh9,⟨rfl,rfl,rfl⟩,rfl,λe he=>(vt (Kr.mpr he)).elim,.nil,List.nodup_nil⟩;refine iP (aJ (aZ<|wpAny_storeAll (knd:=knd) ws pA [] aF _ kp.c dn (by rw[sizeLine_eq,Du,kp.c.length];lia) λh' hm hs=>?_))
 refine bg (bg (bg ?_));rw[merged_nil_of_nodup _ kp.nd]at hm
 refine kK λGx gI=>?_;obtain⟨ob,ds,ep,g1,⟨g2,g3,g4⟩,g5,g6,g7,g8⟩:=hm;obtain⟨oc,od,odt,osl⟩:=ob;refine gI ?_;dsimp only at g2 g3 g4 g5
 subst g2 g3 g4 g5;have sb:∀b y,b≠s.heap.objs.size->aF.heap.get? b=N y->h'.get? b=N y:=λb y q e=>hs.extBut b y q e;have e_:=b7.hole (t:=aF.toks+ws.length) TY.fr TY.ow sb;have c9:Go G Z aI r bY s {aF with heap:=h',toks:=aF.toks+ws.length} F cz:=(ai1.trans b8).hole (pq _) sb
 obtain⟨F',e1,e2,_,m2,t3⟩:=e_.mt.Ng c9 TY g1 (pq _);exact⟨v,aI,bY,F',hq,hv e1 ((kp.p ds.toList g7 λe he=>g6 e (Kr.mp he)).imp λX I=>KE.mono e2),⟨b7.len,b7.fk,m2⟩,t3⟩
theorem bi0(h:g9 (.d x) o=N vs):∃ds,x=.list ds/\vs=ds.map .d:=by
 induction x using Wm.D.casesOn with
 |list ds=>exact⟨ds,rfl,(fW h).symm⟩
 |_=>exact nomatch h
theorem bi1(h:g9 (.ref i) o=N vs):∃y,gw i o=N y/\(∀{w r F hp p},OR w r F hp p y->∃xs m,hp.get? p.1=N (iH xs m)/\gh w r F vs xs.toList):=by
 have h:(match gw i o with|some y=>(match y with| .dl ds=>N (ds.map V.d)| .vl vs=>N vs|X=>ao)|none=>ao)=N vs:=h
 cases q:gw i o with
 |none=>rw[q]at h;cases h
 |some y=>
  rw[q]at h
  refine⟨y,rfl,?_⟩;induction y with
  |dl ds=>exact λg=>g.elim λws g=>g.elim λm g=>⟨ws,m,g.1,fW h▸L2.ofD g.2.1⟩
  |vl ds=>exact λg=>g.elim λws g=>g.elim λm g=>⟨ws,m,g.1,fW h▸g.2.1⟩
  |_=>exact nomatch h
theorem yO(h:g9 v Z.o=N vs)(a:At f Y G Z r s F)(y:VR f.w r F v u):∃l xs m,u=.ref l/\s.heap.get? l=N (iH xs m)/\gh f.w r F vs xs.toList:=by
 induction v with
 |d x=>obtain⟨ds,e,e2⟩:=bi0 h;subst e e2;exact y.e λu y=>y.e λl ws m e z zl=>⟨l,ws,m,rfl,a.mt.sub _ _ e,z.ofD⟩
 |ref i=>exact(bi1 h).elim λo g=>y.e λp e1=>(g.2 (a.obj e1 g.1)).elim λxs g=>g.elim λm g=>⟨p.1,xs,m,rfl,g⟩
 |_=>exact nomatch h
structure vX(z l1 l2:aR)(j:H)(h:dH):Prop where
 o:IsZip h (z+4) (z+2) (z+3) .none
 p:IsPair h (z+2) (.ref z) (.ref (z+1))
 q:∃a b,IsPair h (z+3) a b
 a:h.IsListIter z l1 j
 b:h.IsListIter (z+1) l2 j
def zP(z:aR)(b:aR):Prop:=b=z\/b=z+1\/b=z+2\/b=z+3\/b=z+4
theorem zp:zP z (z+4)/\zP z (z+3)/\zP z z/\zP z (z+1)/\zP z (z+2):=⟨.inr (.inr (.inr (.inr rfl))),.inr (.inr (.inr (.inl rfl))),.inl rfl,.inr (.inl rfl),.inr (.inr (.inl rfl))⟩
theorem pz(h:zP z b):z<=b:=h.elim (λe=>iW e.symm) λh=>h.elim (λe=>e▸gF ..) λh=>h.elim (λe=>e▸gF ..) λh=>h.elim (λe=>e▸gF ..) λe=>e▸gF ..
theorem vX.keep{h h':dH}(x:vX z l1 l2 j h)(k:∀b y,zP z b->h.get? b=N y->h'.get? b=N y):vX z l1 l2 j h':=
 ⟨k _ _ zp.1 x.o,k _ _ zp.2.2.2.2 x.p,x.q.elim λa q=>q.elim λb q=>⟨a,b,k _ _ zp.2.1 q⟩,x.a.at λo e=>k _ o zp.2.2.1 e,x.b.at λo e=>k _ o zp.2.2.2.1 e⟩
theorem vX.alive{h:dH}(x:vX z l1 l2 j h)(b:aR)(hb:zP z b):∃y,h.get? b=N y:=
 hb.elim (λe=>e▸x.a.elim λy h=>⟨y,h.1⟩) λhb=>hb.elim (λe=>e▸x.b.elim λy h=>⟨y,h.1⟩) λhb=>hb.elim (λe=>e▸⟨_,x.p⟩) λhb=>hb.elim (λe=>e▸x.q.elim λX q=>q.elim λX q=>⟨_,q⟩) λe=>e▸⟨_,x.o⟩
theorem pE{vs ws:J V}{j:H}{v:V×V}(e:(vs.zip ws)[j]?=N v):vs[j]?=N v.1/\ws[j]?=N v.2:=P5.mp e
theorem bi2{A:cQ}{B:Bs}{x y:ai}{iM:J aT}{kd:H}{tp:gq}{va vb:V}{vs ws:J V}{l1 l2 z:aR}(hh:A.handled=ao)(na:qW iM [x,y])(i:g_ f Y G)(hz:B.s.heap.objs.size=z)(hZ:B.eF=zP z)(hl1:l1<z)(Ny:l2<z)(y1:VR f.w B.r B.F va (.ref l1))(y2:VR f.w B.r B.F vb (.ref l2)):
  Hd f Y G A B (zP z) (.ref (z+4)) (.Tuple iM kd tp) (λp:V×V=>nv [x,y] [p.1,p.2]) (λo=>g9 va o=N vs/\g9 vb o=N ws) (vX z l1 l2) (vs.zip ws):=by
 have nz:∀{b},z<=b->B.s.heap.get? b=ao:=λ{b} hb=>by
  cases e:B.s.heap.get? b with
  |none=>rfl
  |some o'=>exact absurd (kI e) (vj.mpr (hz▸hb))
 have eY:B.vS:=λb hb X=>nz (pz (hZ▸hb));have zi:∀b,zP z b->B.eF b:=λb h=>hZ▸h;have Z:∀j,Ck B (zP z) (vX z l1 l2 j):=λj h h' x k=>x.keep λb y q=>k b y (.inl q);have DA:ZipApart (z+4) (z+2) (z+3) z (z+1) l1 l2:=ktu_apart z l1 l2 hl1 Ny;have FW:∀{h h':dH},(∀b y,b≠z+4->b≠z+3->b≠z->b≠z+1->h.get? b=N y->h'.get? b=N y)->nA (λb=>¬B.eF b) h h':=λk b y nb e=>by
  rw[hZ]at nb
  exact k b y (λe=>nb (e▸zp.1)) (λe=>nb (e▸zp.2.1)) (λe=>nb (e▸zp.2.2.1)) (λe=>nb (e▸zp.2.2.2.1)) e
 have qr:∀{h h':dH},nA (λb=>B.eF b/\¬zP z b) h h':=λb X h I=>absurd (hZ▸h.1) h.2;refine⟨zi,Z,λ{j v aI r F s k P E} e c hb L hP=>?_,λ{aI r F s P E} c L hP=>?_⟩
 ·refine kK λGx gI=>?_;obtain⟨f1,f2⟩:=pE e;obtain⟨l1',xs,m1,e1,g1,v1⟩:=yO c.1 L.a (y1.mono L.t.fM L.t.grow);obtain⟨l2',ys,m2,e2,g2,v2⟩:=yO c.2 L.a (y2.mono L.t.fM L.t.grow);refine gI ?_;cases e1;cases e2;refine kK λGx gI=>?_;obtain⟨ua,ga,ya⟩:=v1.get f1;obtain⟨ub,gb,yb⟩:=v2.get f2;refine gI ?_;rw[rB]at ga gb
  clear f1 f2 v1 v2 c e;refine kK λGx gI=>?_;obtain⟨q1,q2,q3,q4,q5⟩:=L.j;obtain⟨qa,qb,q3⟩:=q3;refine gI ?_;refine aZ<|wpAny_pyNext_zip_item DA q1 q2 q3 q4 q5 ⟨_,g1,rfl,_,rfl⟩ ⟨_,g2,rfl,_,rfl⟩ ga gb λh' p1 p2 p3 p4 p5 p6 S=>?_;have p7:IsPair h' (z+2) (.ref z) (.ref (z+1)):=S _ _ DA.TIz DA.TITO DA.TIi1 DA.TIi2 q2;have k1:=FW S;clear q1 q2 q3 q4 q5 g1 g2 ga gb S;refine aZ<|wpAny_letOwnedTupleGo_zip p1 λEE p1' hs=>?_;have pS:∀b y,b≠z+4->h'.get? b=N y->EE.get? b=N y:=λb y q e=>hs.extBut b y q e;have TZ:vX z l1 l2 (j+1) EE:=⟨p1',pS _ _ DA.TIz p7,⟨_,_,pS _ _ DA.TOz p2⟩,p3.at λo e=>pS _ o DA.i1z e,p4.at λo e=>pS _ o DA.i2z e⟩;have zsz:z<s.heap.objs.size:=(L.j.alive z zp.2.2.1).elim λX e=>kI e;have nT:∀b,zP z b->b≠s.heap.objs.size:=λb q e=>(L.j.alive b q).elim λX h=>absurd (kI h) (e▸vg _);have pT:EE.get? s.heap.objs.size=N (lJ #[ua,ub] 0):=pS _ _ (λe=>nT _ zp.1 e.symm) p5;have lX:=L.hole (tk:=s.toks) eY (λb y nb e=>pS b y (λq=>nb (zi b (q▸zp.1))) (k1 b y nb e)) (λb q=>TZ.alive b (hZ▸q)) TZ;refine kK λGx gI=>?_;obtain⟨ja,I,u2,u3,m3,gx⟩:=lX.a.mt.Ng lX.t (iQ.fresh L.a.mt (pq _)) pT (nz (mX zsz));refine gI ?_;have iT:Lp f Y G B (vX z l1 l2 (j+1)) aI r ja {s with heap:=EE}:=⟨⟨lX.a.len,lX.a.fk,m3⟩,gx,λb q=>⟨(u3 b (nT b (hZ▸q))).trans (L.p b q).fr,(L.p b q).ow⟩,lX.l,lX.g.trans u2,TZ⟩
  exact Te hb na hh i iT.a (iT.a.mt.sub _ _ I) (.cons (ya.mono (.refl _) u2) (.cons (yb.mono (.refl _) u2) .nil)) λir nV s_ H_ AE=>hP ir ja nV s_ u2 (iT.step zi (Z _) H_ AE) qr
 ·refine kK λGx gI=>?_;obtain⟨l1',xs,m1,e1,g1,v1⟩:=yO c.1 L.a (y1.mono L.t.fM L.t.grow);obtain⟨l2',ys,m2,e2,g2,v2⟩:=yO c.2 L.a (y2.mono L.t.fM L.t.grow);refine gI ?_;cases e1;cases e2;refine kK λGx gI=>?_;obtain⟨q1,q2,⟨qa,qb,q3⟩,q4,q5⟩:=L.j;refine gI ?_;have none_of:∀{us:J V}{zs:cT aA},gh f.w r F us zs.toList->us.length<=(vs.zip ws).length->zs[(vs.zip ws).length]?=ao:=λv h=>cz8 (by rw[<-o5,<-v.length];exact h)
  refine aZ<|wpAny_pyNext_zip_end hh DA q1 q2 q3 q4 q5 ⟨_,g1,rfl,_,rfl⟩ ⟨_,g2,rfl,_,rfl⟩ ?_ λh' S=>hP {s with heap:=h'} (L.a.vR (t:=s.toks) L.p (FW S)) (L.t.vR (t:=s.toks) eY (FW S)) qr
  have e:(vs.zip ws).length=min vs.length ws.length:=am8 ..;rcases cz9 vs.length ws.length with h|h
  ·exact .inl (none_of v1 (by rw[e,Qq h];exact jO _))
  ·exact .inr (none_of v2 (by rw[e,Qs h];exact jO _))
theorem AG{a b a' b':Prop}(h:dh q a b)(f:a->a')(g:b->b'):dh q a' b':=by cases q;exact g h;exact f h
theorem bi3{x:ai}{v:V}{m:Fm}:∀{k k':Fm->Prop},HP x v m k->(∀m,k m->k' m)->HP x v m k':=by
 induction m with
 |nil=>exact λh X=>h
 |cons p r ih=>exact λh g=>AG (q:=je x p.1) h (λh=>by
  obtain⟨y,s⟩:=p;induction s with
  |L X=>exact g _ h
  |C X=>exact h) λh=>ih h λX h=>g _ h
theorem xA{α:Type}{o:bq α}{P Q:α->Prop}(h:jK o P)(k:∀g,P g->Q g):jK o Q:=by
 induction o with
 |none=>exact h
 |some g=>exact k g h
theorem IC{x:ai}{v:V}{Z:St}{k k':St->Prop}(h:kZ x v Z k)(g:∀Z,k Z->k' Z):kZ x v Z k':=by
 refine xA h λs h=>?_;induction s with
 |L X=>exact bi3 h λX h=>g _ h
 |C c=>
  refine xA (o:=gw c Z.o) h λy h=>?_;induction y with
  |cell X=>exact g _ h
  |_=>exact h.elim
theorem Nz:∀{vs:J V}{Z:St}{k k':St->Prop},nv xs vs Z k->(∀Z,k Z->k' Z)->nv xs vs Z k':=by
 induction xs with
 |nil=>
  intro vs;induction vs using eT with
  |nil=>exact λh g=>g _ h
  |cons X I=>exact λh X=>h
 |cons x xs ih=>
  intro vs;induction vs using eT with
  |nil=>exact λh X=>h
  |cons v vs=>exact λh g=>IC (show kZ x v _ _ from h) λZ h=>ih (vs:=vs) h g
theorem T3{α:Type}{l:J α}{j:H}{a:α}(h:l[j]?=N a):l.drop j=a::l.drop (j+1):=by have g:=vq.mp h;exact g.2▸cv7 g.1
def EU(f:Cf)(Y:J (ai×cJ))(n:H)(fg:J ai)(x y:ai)(fS:H)(va vb:V)(vs ws:J V)(body:J eg)(Q:dZ->St->Prop)(j:H)(Z:St):Prop:=
 (g9 va Z.o=N vs/\g9 vb Z.o=N ws)/\yF fg x y fS (λo=>g9 va o=N vs/\g9 vb o=N ws) (λZ k=>WS f Y n body Z k) (vs.drop j) (ws.drop j) Z Q
section
variable{fg:J ai}{x y:ai}{fS:H}{va vb:V}{vs ws:J V}{body:J eg}{Q:dZ->St->Prop}
theorem EU.end_(h:EU f Y n fg x y fS va vb vs ws body Q (vs.zip ws).length Z):Q .next Z:=by
 have e:(vs.zip ws).length=min vs.length ws.length:=am8 ..;have h:=h.2
 revert h
 rcases cz9 vs.length ws.length with l|l
 ·rw[e,Qq l,Kz];exact λh=>h
 ·rw[e,Qs l,Kz];cases vs.drop ws.length<;>exact λh=>h
theorem EU.item{v:V×V}(e:(vs.zip ws)[j]?=N v)(h:EU f Y n fg x y fS va vb vs ws body Q j Z):nv [x,y] [v.1,v.2] Z λb9=>WS f Y n body b9 (zY fg fS (EU f Y n fg x y fS va vb vs ws body Q (j+1)) Q):=by
 obtain⟨f1,f2⟩:=pE e;have h:=h.2;rw[T3 f1,T3 f2]at h
 refine Nz (show nv [x,y] [v.1,v.2] Z _ from h) λb9 h=>h.mono λfl b3 h=>?_
 induction fl with
 |next=>exact h
 |_=>exact h.elim
end
theorem bi4(e:gw g o=N (.cell ov)):g9 v (eO (.cell ao) g o)=g9 v o:=by
 induction v with
 |ref h=>
  have hl:g<o.length:=by rw[rR]at e;exact(vq.mp e).1
  show(match gw h (eO (.cell ao) g o)with|some y=>(match y with| .dl ds=>N (ds.map V.d)| .vl vs=>N vs|X=>ao)|none=>ao)=(match gw h o with|some y=>(match y with| .dl ds=>N (ds.map V.d)| .vl vs=>N vs|X=>ao)|none=>ao)
  by_cases q:g=h
  ·subst q;rw[e,rR,yJ,List.getElem?_set_self hl]
  ·rw[rR,yJ,cq4 q,rR]
 |d x=>cases x<;>rfl
 |_=>rfl
theorem rf{fg:J ai}:g9 v (qS fg l o)=g9 v o:=by
 induction l generalizing o with
 |nil=>rfl
 |cons p l ih=>
  obtain⟨y,sl⟩:=p;induction sl with
  |L ov=>exact ih
  |C h=>
   have go:∀b z,gw h o=z->g9 v (match b with|true=>(match z with|some (.cell X)=>qS fg l (eO (.cell ao) h o)|X=>qS fg l o)|false=>qS fg l o:J O)=g9 v o:=λb z q=>by
    induction b with
    |false=>exact ih
    |true=>induction z with
     |none=>exact ih
     |some z=>induction z with
      |cell ov=>exact ih.trans (bi4 q)
      |_=>exact ih
   exact go _ _ rfl
def EV:ai:=az [122,105,112]
theorem bi5{fg:J ai}{x y:ai}{iM:J aT}{kd:H}{tp fp cp pos:gq}{ae be:aT}{body:J eg}{Q:dZ->St->Prop}(h:WE f Y n ae Z λva aI=>WE f Y n be aI λvb b3=>jK (g9 va b3.o) λvs=>jK (g9 vb b3.o) λws=>yF fg x y (Wm.len b3.o) (λo=>g9 va o=N vs/\g9 vb o=N ws) (λZ k=>WS f Y n body Z k) vs ws (j9 fg b3) Q)(na:qW iM [x,y])(hg:f.g EV=N (.type "zip"))(S:cG EV Y=N .globalImplicit)(hp:rT [ae,be]=ah):W1 f Y n (.For (.Tuple iM kd tp) (.Call (.Name EV fp) [ae,be] [] cp) body [] pos) Z Q:=λA s F G E r o i a=>by
 refine Ys (KS (Gr (M1 hg S i a ?_) (by decide))) (λx=>rfl)
 have rg:qU f Y n [ae,be] Z λvs b3=>Er vs λva vb=>jK (g9 va b3.o) λvs=>jK (g9 vb b3.o) λws=>yF fg x y (Wm.len b3.o) (λo=>g9 va o=N vs/\g9 vb o=N ws) (λZ k=>WS f Y n body Z k) vs ws (j9 fg b3) Q:=S4 (h.mono λva aI h=>S4 (h.mono λvb b3 h=>eM h) (Co (Co hp).2).1) (Co hp).1
 show av _ A (vn cp (.type "zip") [] (n9 cp (lQ [ae,be] G)) []) _ E s
 refine TR rfl rg hp o i a λus zs aI bY cz aF h₁ cX b7 b8=>?_;refine Sw cX h₁ λva ua vb ub ya yb h₁=>nY h₁ λvs c1 h₁=>nY h₁ λws c2 h₁=>?_;clear h rg;refine kK λGx gI=>?_;obtain⟨l1,xs,m1,e1,g1,v1⟩:=yO c1 b7 ya;obtain⟨l2,ys,m2,e2,g2,v2⟩:=yO c2 b7 yb;refine gI ?_;subst e1 e2;refine aZ<|call_zip_2 ⟨_,g1,rfl,_,rfl⟩ ⟨_,g2,rfl,_,rfl⟩ λh' hz rh rk rl rn hsz S=>aZ<|wpAny_pyIter_zip hz ?_;have zs:vX aF.heap.objs.size l1 l2 0 h':=⟨hz,rh,⟨_,_,rk⟩,rl,rn⟩;clear hz rh rk rl rn;refine kK λGx gI=>?_;obtain⟨e_,c9⟩:=b7.ext (t:=aF.toks) S;refine gI ?_;have e5:own (eS G (j9 fg aI) bY)=own (eS G aI bY):=b7.SO
 have L:Lp f Y G ⟨bY,aF,cz,own (eS G aI bY),zP aF.heap.objs.size,λX=>ao⟩ (vX aF.heap.objs.size l1 l2 0) (j9 fg aI) bY cz {aF with heap:=h'}:=
  ⟨e_.forget,c9.weak (.refl _) (λX z=>z) λb hb=>.inl (e5▸hb),λb q=>by
   have ap:iQ b cz (own (eS G aI bY)):=iQ.fresh b7.mt (by
    cases e:aF.heap.get? b with
    |none=>rfl
    |some o'=>exact absurd (kI e) (vj.mpr (pz q)))
   exact⟨ap.fr,e5▸ap.ow⟩,zs.alive,(λX I z=>nomatch z:iG (λX=>ao) cz),zs⟩
 exact hY (fg:=fg) (Φ:=EU f Y n fg x y (Wm.len aI.o) va vb vs ws body Q) (bi2 o.hd na i rfl rfl (kI g1) (kI g2) ya yb) b7.EH o i (λZ h=>⟨h.1,h.end_⟩) (λj v Z e h=>⟨h.1,h.item e⟩)
  (λfl b9 r' F' u s' q y a' t'=>⟨fl,b9,r',F',q,y,a',b8.trans t'⟩) (vs.zip ws).length 0 _ bY cz _ (mW _) ⟨⟨rf.trans c1,rf.trans c2⟩,h₁⟩ L
theorem bi6{A:cQ}{B:Bs}(hh:A.handled=ao)(i:g_ f Y G)(zI:B.eF bG)(eY:B.vS)(y0:VR f.w B.r B.F va (.ref l)):
  Hd f Y G A B (·=bG) (.ref bG) (.Name x px) (jL [x] ah) (λo=>g9 va o=N vs) (λj h=>h.IsListIter bG l j) vs:=by
 have zi:∀b,b=bG->B.eF b:=λb e=>e▸zI;have Z:∀j,Ck B (·=bG) (λh=>h.IsListIter bG l j):=λj h h' hs k=>hs.at λo e=>k bG o (.inl rfl) e;refine⟨zi,Z,λ{j v aI r F s k P E} e c hb L hP=>?_,λ{aI r F s P E} c L hP=>?_⟩
 ·obtain⟨l',xs,m,e1,g,v1⟩:=yO c L.a (y0.mono L.t.fM L.t.grow);cases e1;obtain⟨u,gu,yu⟩:=v1.get e;rw[rB]at gu
  refine aZ<|wpAny_pyNext_list_item L.j ⟨_,g,rfl,_,rfl⟩ gu λh' vf hsb=>?_;have k:nA (λb=>b≠bG) s.heap h':=λb y q e=>hsb.extBut b y q e;have uN:=L.hole (S':=λh=>h.IsListIter bG l (j+1)) (tk:=s.toks) eY (λb y z e=>k b y (λq=>z (zi b q)) e) (λb z=>by
   by_cases q:b=bG
   ·exact q▸vf.elim λy h=>⟨y,h.1⟩
   ·exact(L.l b z).elim λy e=>⟨y,k b y q e⟩) vf
  refine iZ (aR8 rfl) ?_;exact hV hb hh i uN.a yu .one λb9 s' h a t=>hP b9 F s' h t.grow (uN.step zi (Z _) a t) λb y z e=>uN.kept t b y z.1 (k b y z.2 e)
 ·obtain⟨l',xs,m,e1,g,v1⟩:=yO c L.a (y0.mono L.t.fM L.t.grow);cases e1;refine aZ<|wpAny_pyNext_list_end hh L.j ⟨_,g,rfl,_,rfl⟩ (cz8 (iW (o5.symm.trans v1.length.symm))) λh' S=>?_;have k:nA (λb=>b≠bG) s.heap h':=λb y q e=>S b y q e;have k2:nA (λb=>¬B.eF b) s.heap h':=λb y z e=>k b y (λq=>z (zi b q)) e;exact hP {s with heap:=h'} (L.a.vR (t:=s.toks) L.p k2) (L.t.vR (t:=s.toks) eY k2) λb y z e=>k b y z.2 e
def yP(f:Cf)(Y:J (ai×cJ))(n:H)(x:ai)(m:Fm)(va:V)(vs:J V)(aY:aT)(K:J V->J O->Prop)(j:H)(us:J V)(o:J O):Prop:=
 g9 va o=N vs/\B5 x m (λo=>g9 va o=N vs) (λZ k=>WE f Y n aY Z k) (vs.drop j) o λvs o=>K (us++vs) o
theorem yP.item{x:ai}{m:Fm}{va v:V}{vs us:J V}{aY:aT}{K:J V->J O->Prop}{j:H}{o:J O}(e:vs[j]?=N v)(h:yP f Y n x m va vs aY K j us o):
  jL [x] ah v ⟨m,o⟩ λZ=>mO f Y n [] Z λq Z=>dh q (WE f Y n aY Z λu Z=>yP f Y n x m va vs aY K (j+1) (us++[u]) (nt (Wm.len o) u ⟨m,Z.o⟩).o) (yP f Y n x m va vs aY K (j+1) us (jJ (Wm.len o) ⟨m,Z.o⟩).o):=by
 have h:=h.2;rw[T3 e]at h
 have e9:∀u:V,(λEW qi=>K (us++[u]++EW) qi)=λEW qi=>K (us++u::EW) qi:=λu=>by funext EW qi;rw[jx];rfl
 have g:∀(Z:St)(u:V),(uH u λw=>lV (nt (Wm.len o) w ⟨m,Z.o⟩).o λo=>g9 va o=N vs/\B5 x m (λo=>g9 va o=N vs) (λZ k=>WE f Y n aY Z k) (vs.drop (j+1)) o λEW o=>K (us++w::EW) o)->yP f Y n x m va vs aY K (j+1) (us++[u]) (nt (Wm.len o) u ⟨m,Z.o⟩).o:=λZ u h=>by
  unfold yP;rw[e9];rw[w_,o7]at h
  exact h
 exact IC (show kZ x v ⟨m,o⟩ _ from h) λb9 h=>ik (Q:=λq Z=>dh q (WE f Y n aY Z λu Z=>yP f Y n x m va vs aY K (j+1) (us++[u]) (nt (Wm.len o) u ⟨m,Z.o⟩).o) (yP f Y n x m va vs aY K (j+1) us (jJ (Wm.len o) ⟨m,Z.o⟩).o)) (WX.mono h λu Z h=>g Z u h)
theorem bi7{scope:ly}(jV:j_ Z.m cs=ah)(h:WE f Y n dY Z λva aI=>jK (g9 va aI.o) λvs=>dh (j_ aI.m cs) (nJ (Wm.len vs) 1000=ah/\B5 x (mJ [x]++jC aI.m cs) (λo=>g9 va o=N vs) (λZ k=>WE f (jt Y scope.names) n aY Z k) vs aI.o λvs o=>iF lv vs o λv o=>Q v ⟨aI.m,o⟩) bV)(sc:vV Y cs [x] scope)(hs:∀x G,pP dY G x=pure x):WE f Y n (.ListComp aY [⟨.Name x px,dY,[],0⟩] scope pos) Z Q:=λA s F G E r o i a=>by
 show av _ _ (cM (.ListComp aY [⟨.Name x px,dY,[],0⟩] scope pos) G) _ _ _
 rw[cv8];refine kK λGx gI=>?_;obtain⟨cl,Tv,Tw⟩:=k0 sc jV a;refine gI ?_;refine Yt (use:=none) rfl (λx=>hs x G) Tv sc.kind sc.names (WX.run h o i a λva u aI bY cz aF h₁ cX b7 b8=>?_);refine nY h₁ λvs c1 h₁=>?_;refine kK λGx gI=>?_;obtain⟨Im,WY,h₁⟩:=l9 h₁;have WY:vs.length<=1000:=nc vs▸P0 WY;clear h;obtain⟨l,xs,mx,e,g1,v1⟩:=yO c1 b7 cX;refine gI ?_;subst e;refine aZ<|XJ ⟨_,g1,rfl,_,rfl⟩ ?_;have vf:(aF.heap.push {cls:=.type "list_iterator",data:=.fields #[.ref l,.int 0 0]}).IsListIter aF.heap.objs.size l 0:=⟨_,lY _ rfl,rfl,rfl⟩;exact km (lv:=lv) (Q:=Q) (tk:=aF.toks) (b4:=λX=>ao) (RR:=λacc C=>KV (aP f.prog f.w) A E ao (mh f Y (λr F=>VR f.w r F) G Z Q r s F) acc C) sc b7 (pq _) (λb o e=>ko _ e) ⟨_,lY _ rfl⟩ (λX I z=>nomatch z) Tw Im
  (λD C dw yM eY c R hR=>ip (B:=yL bY aF cz aI.o aF.heap.objs.size D λX=>ao) (eF:=λX=>bV) (Φ:=yP f (jt Y scope.names) n x (mJ [x]++jC aI.m cs) va vs aY λvs o=>iF lv vs o λv o=>Q v ⟨aI.m,o⟩) rfl rfl (bi6 o.hd (Ii i sc.kind) (.inl rfl) eY cX) eY (.inr rfl) yM (λX z=>z.elim) (Tp Im) o (Ii i sc.kind)
   (λus o h=>⟨h.1,by
    have h:=h.2;rw[Kz]at h
    exact j3 us▸h⟩) (λj v us o e h=>⟨h.1,h.item e⟩) (λus o' r' F' s' ys h1 h2 h3 h4 h5 h6 h7 X I u2=>hR us o' r' F' s' ys h1 h2 h3 h4 h5 h6 h7) vs.length 0 [] aI.o _ _ _ #[] (mW _) (by rw[Du,mW];exact bN WY (by decide)) ⟨c1,h₁⟩ ⟨c.L.imp (vf.at λo e=>c.L.j _ _ e),c.v,c.d,c.k⟩)
  (λdw P' E' k hP=>aZ<|wpAny_pyIter_listiter (vf.at λo e=>k _ _ e) hP) λD C v b9 r' F' s' q y a' t' ap hn hC=>end_none D C v b9 r' F' s' q y a' ap hn λc9 k=>b8.trans ((t'.trans c9).hole hC k)
theorem bi8{α:Type}{fl:ai}{v v':α}{fs:J (ai×α)}:cG fl fs=N v->(pU fl v' fs).map (·.1)=fs.map (·.1):=by
 induction fs with
 |nil=>exact λh=>nomatch h
 |cons p fs ih=>exact λh=>Et (v:=v') (P:=λl=>l.map (·.1)=p.1::fs.map (·.1)) (λX=>rfl) λq=>bR (p.1::·) (ih ((yI q rfl).symm.trans h))
theorem mL.anew(g:∀u,VR w r F v u->VR w r F v' u)(z:mL w r F fs es):cG fl fs=N v->mL w r F (pU fl v' fs) es:=by
 induction z with
 |nil=>exact λh=>nomatch h
 |cons a z ih=>refine a.rec λ{x bi9 t hs u} a=>?_;exact Et (P:=λl=>cG fl ((x,bi9)::_)=N v->mL w r F l (⟨hs,.str x t,u⟩::_)) (λq h=>.cons (.mk (g _ (fW ((Es q).symm.trans h)▸a))) z) λq h=>.cons (.mk a) (ih ((yI q rfl).symm.trans h))
@[elab_as_elim] theorem T4{P:V->Prop}{k:H->Prop}{a:V}(h:hO a k)(g:∀i,k i->P (.ref i)):P a:=by
 induction a with
 |ref i=>exact g _ h
 |_=>exact h.elim
theorem bj0{x:aT}{fl:ai}{Q:V->St->Prop}(h:WE f Y n x Z λv aI=>Sg fl v aI.o λo=>Q v ⟨aI.m,o⟩):WE f Y n x Z Q:=λA s F G E r o i a=>by
 refine WX.run h o i a λv u aI bY cz aF h₁ cX b7 b8=>?_;refine T4 (P:=λv=>Sg fl v aI.o (λo=>Q v ⟨aI.m,o⟩)->VR f.w bY cz v u->mh f Y (λr F=>VR f.w r F) G Z Q r s F u aF) (k:=λX=>oV) (a:=v) ?_ (λj X h₁ cX=>?_) h₁ cX
 ·induction v with
  |ref j=>trivial
  |_=>exact h₁.elim
 refine cX.e λp hp=>pn h₁ λy e0 h₁=>?_
 revert e0
 refine Sv h₁ λc0 fs0 h₁ e0=>nY h₁ λw NB h₁=>?_
 revert NB
 refine T4 h₁ λj' h₁ NB=>?_;obtain⟨uj,yj⟩:∃uj,VR f.w bY cz (.ref j') uj:=(b7.obj hp e0).elim λes g=>g.elim λm g=>g.elim λsl g=>((g.2.2.1.get (x:=fl)).1 _ NB).elim λu g=>⟨u,g.2⟩;obtain⟨x',o',F',dw,yd,e_,c9⟩:=b7.HX yj h₁;clear h₁ h e0 NB;refine pn dw λy e1 dw=>?_
 revert e1
 refine Sv dw λc fs dw e1=>nY dw λw ef dw=>?_
 revert ef
 refine T4 dw λcD8 dw ef=>?_;obtain⟨hij,hq⟩:=l9 dw;rw[mV hij]at ef
 rw[o7]at hq
 obtain⟨es,m,sl,g1,g2,g3,g4,g5⟩:=e_.obj hp e1;have ek:(pU fl (.d x') fs).map (·.1)=fs.map (·.1):=bi8 ef;have g6:OR f.w bY F' aF.heap p (.inst c (pU fl (.d x') fs)):=⟨es,m,sl,g1,g2,mL.anew (v:=.ref j') (λu' y'=>by
  cases y' with|ref e4=>
  cases yj with|ref e5=>
  rw[e4]at e5;cases e5
  exact .d yd) g3 ef,ek▸g4,ek▸g5⟩
 have cg:=e_.chg (y:=.inst c (pU fl (.d x') fs)) (h':=aF.heap) (t:=aF.toks) hp e1 (.head _) rfl ⟨rfl,λX I=>rfl⟩ g6;exact⟨.ref j,_,bY,F',hq,.ref hp,cg.1,(b8.trans c9).trans cg.2⟩
end
abbrev Nm:=J (ai×cJ)
noncomputable def k6:aD->aD
 |true=>ak
 |false=>ah
noncomputable def bz(a b:aD):aD:=match a with
 |true=>b
 |false=>ak
theorem ro:bz a b=ah↔a=ah/\b=ah:=by cases a<;>simp[bz]
theorem ck(h:bz a b=ah):a=ah:=(ro.mp h).1
theorem bf(h:bz a b=ah):b=ah:=(ro.mp h).2
theorem yQ:k6 a=ah↔a=ak:=by cases a<;>simp[k6]
noncomputable def kP{α:Type}(p:α->aD):J α->aD
 |[]=>ah
 |a::r=>bz (p a) (kP p r)
theorem lE{α:Type}{p:α->aD}:∀{l:J α},kP p l=ah->∀a∈l,p a=ah:=@λi_=>by
 induction i_ with
 |nil=>exact λX I h=>by cases h
 |cons b r ih=>
  intro h a m;rcases iV.mp m with rfl|m
  ·exact ck h
  ·exact ih (bf h) a m
def cD9(x:ai)(Y:Nm)(q:cJ->aD):aD:=match cG x Y with
 |some k=>q k
 |none=>ak
noncomputable def vB:cJ->H
 | .local=>0
 | .cell=>1
 | .free=>2
 | .globalExplicit=>3
 | .globalImplicit=>4
noncomputable def rp:H->cJ
 |0=>.local
 |1=>.cell
 |2=>.free
 |3=>.globalExplicit
 |X=>.globalImplicit
theorem NC(h:bX (vB a) (vB b)=ah):a=b:=by
 have e:∀k:cJ,rp (vB k)=k:=λk=>by cases k<;>rfl
 exact(e a).symm.trans ((bR rp (mV h)).trans (e b))
def Ct(k:cJ)(x:ai)(Y:Nm):aD:=match cG x Y with
 |some j=>bX (vB j) (vB k)
 |none=>ak
theorem ND(h:Ct k x Y=ah):cG x Y=N k:=by
 unfold Ct at h
 cases q:cG x Y with
 |none=>rw[q]at h;cases h
 |some j=>rw[q]at h;rw[NC h]
abbrev EX:=Ct .globalImplicit
abbrev AH:=Ct .local
abbrev T5:=Ct .cell
theorem NF(h:EX x Y=ah):cG x Y=N .globalImplicit:=ND h
theorem T6(h:AH x Y=ah):cG x Y=N .local:=ND h
theorem rr(h:T5 x Y=ah):cG x Y=N .cell:=ND h
noncomputable def ID:ai:=az [95,95,100,101,98,117,103,95,95]
theorem bj1:M0=ID:=by decide+kernel
theorem rv(h:k6 (je x ID)=ah):(x==M0)=ak:=by rw[bj1,<-Sn];exact yQ.mp h
theorem Cu(h:jk a b=ah):a=ah\/b=ah:=by cases a;exact .inr h;exact .inl rfl
theorem T7:∀{l:J ai},qO x l=ah->x∈l:=@λi_=>by
 induction i_ with
 |nil=>exact λh=>by cases h
 |cons y r ih=>exact λh=>(Cu h).elim (λq=>by rw[rQ q];exact .head _) λq=>.tail _ (ih q)
def T8(x:ai):Nm->aD
 |[]=>ak
 |p::r=>jk (bz (bX (vB p.2) 2) (je x p.1)) (T8 x r)
theorem bj2:∀{l:Nm},T8 x l=ah->(x,Dt)∈l:=@λi_=>by
 induction i_ with
 |nil=>exact λh=>by cases h
 |cons p r ih=>exact λh=>(Cu h).elim (λq=>by rw[<-show p.2=.free from NC (b:=.free) (ck q),rQ (bf q)];exact .head _) λq=>.tail _ (ih q)
noncomputable def Cv(a b:aD):aD:=match a with
 |true=>b
 |false=>ah
theorem T9(h:Cv a b=ah)(q:a=ah):b=ah:=by subst q;exact h
noncomputable def YA:ScopeKind->aD
 | .function=>ah
 |X=>ak
theorem bj3(h:YA k=ah):k=.function:=by cases k<;>first|rfl|cases h
def NG(Y:Nm)(cs ts:J ai)(sc:ly):aD:=
 bz (kP (λy=>k6 (bX (vB y.2) 1)) sc.names) (bz (YA sc.kind)
 (bz (kP (λy=>Cv (bX (vB y.2) 0) (AH y.1 sc.names)) sc.names)
 (bz (kP (λy=>Cv (bX (vB y.2) 2) (qO y.1 cs)) sc.names)
 (bz (kP (λx=>bz (T8 x sc.names) (T5 x (jt Y sc.names))) cs) (kP (λx=>AH x (jt Y sc.names)) ts)))))
theorem IE{Y:Nm}{cs ts:J ai}{sc:ly}(h:NG Y cs ts sc=ah):vV Y cs ts sc:=
 ⟨λy hy e=>by have:=yQ.mp (lE (ck h) y hy);rw[e]at this;exact gr this,
  bj3 (ck (bf h)),
  λy hy e=>by rw[<-Aw];exact T6 (T9 (lE (ck (bf (bf h))) y hy) (by rw[e];rfl)),
  λx hx=>T7 (T9 (lE (ck (bf (bf (bf h)))) _ hx) rfl),
  λx hx=>have q:=lE (ck (bf (bf (bf (bf h))))) x hx;⟨bj2 (ck q),rr (bf q)⟩,
  λx hx=>T6 (lE (bf (bf (bf (bf (bf h))))) x hx)⟩
def Cw(Y:Nm)(x:ai)(p vp:gq)(sc:ly):aD:=
 bz (AH x Y) (bz (bX p.line vp.line) (kP (λy=>k6 (bz (je x y.1) (match y.2 with| .local=>ah| .cell=>ah|X=>ak))) sc.names))
def ch(x:aT):J aT:=(eP x).l
def rx(x:aT):J aT:=(eP x).ks
def kE(x:aT):H:=(eP x).n
def pB(x:aT):ly:=(eP x).s
def T_:J aT->H->aT
 |[],X=>uL
 |x::X,0=>x
 |X::r,n+1=>T_ r n
def cE(x:aT)(i:H):aT:=T_ (ch x) i
structure SP where
 e:J aT
 a:J eg
 b:J eg
def sP(s:eg):SP:=match s with
 | .Return v X=>⟨[v.getD uL],[],[]⟩
 | .Expr e X=>⟨[e],[],[]⟩
 | .Assign ts v X=>⟨v::ts,[],[]⟩
 | .AugAssign t X v I=>⟨[v,t],[],[]⟩
 | .If t a b u2=>⟨[t],a,b⟩
 | .For t i b I u2=>⟨[i,t],b,[]⟩
 | .While t b I u2=>⟨[t],b,[]⟩
 |X=>⟨[],[],[]⟩
def cS(s:eg)(i:H):aT:=T_ (sP s).e i
def AI(s:eg):J eg:=(sP s).a
def si(s:eg):J eg:=(sP s).b
structure Bd where
 e:PE->aT->aT
 t:PE->aT->aT
 k:Nm->PE->aT->aD
 q:Nm->PE->aT->aD
def bL(g:PE->aT->aT):J PE->J aT->J aT
 |[],X=>[]
 |p::ps,l=>g p (l.headD uL)::bL g ps l.tail
def aL(g:PE->aT->aD):J PE->J aT->aD
 |[],X=>ah
 |p::ps,l=>bz (g p (l.headD uL)) (aL g ps l.tail)
noncomputable def bO(g:PE->aT->aT):bq PE->aT->bq aT
 |none,X=>ao
 |some p,x=>N (g p x)
noncomputable def aO(g:PE->aT->aD):bq PE->aT->aD
 |none,X=>ah
 |some p,x=>g p x
def Cx:J ai->J aT->J aT
 |[],X=>[]
 |x::xs,l=>.Name x (l.headD uL).pos::Cx xs l.tail
theorem IF:∀{xs:J ai}{l:J aT},qW (Cx xs l) xs
 |[],X=>.nil
 |X::I,u2=>.cons IF
def Ua(ts:J ai)(one:aD)(x:aT):aT:=match one with
 |true=>.Name (ts.headD (az [])) x.pos
 |false=>.Tuple (Cx ts (ch x)) (kE x) x.pos
noncomputable def Ub{α:Type}:J α->aD
 |[X]=>ah
 |X=>ak
theorem Uc(h:Cv one (Ub ts)=ah):xq (Ua ts one x) ts one:=by
 induction one with
 |false=>exact .tup IF
 |true=>induction ts using eT with
  |nil=>cases h
  |cons a r=>induction r using eT with
   |nil=>exact .one
   |cons X I=>cases h
def Cy(b:Bd)(p:PE)(x:aT):aT:=match p with
 | .iA a=>.Call (.Name EG (cE x 0).pos) [b.e a (cE x 1)] [] x.pos
 |p=>b.e p x
def EY(b:Bd)(Y:Nm)(p:PE)(x:aT):aD:=match p with
 | .iA a=>bz (EX EG Y) (b.k Y a (cE x 1))
 |p=>b.k Y p x
def Cz(gn:J ai)(i:H):ai:=(uI gn i).getD (az [])
def bE(gn:J ai)(b:Bd)(p:PE)(x:aT):aT:=match p with
 | .cI i=>.Constant (.int i) (kE x) x.pos
 | .cS s=>.Constant (.str s) (kE x) x.pos
 | .cN=>.Constant .none (kE x) x.pos
 | .cB q=>.Constant (.bool q) (kE x) x.pos
 | .Y y=>.Name y x.pos
 | .gl i=>.Name (Cz gn i) x.pos
 | .bin op a c=>.BinOp (b.e a (cE x 0)) op (b.e c (cE x 1)) x.pos
 | .neg a=>.UnaryOp .USub (b.e a (cE x 0)) x.pos
 | .gP op l=>.BoolOp op (bL b.e l (ch x)) x.pos
 | .ite t a c=>.IfExp (b.t t (cE x 0)) (b.e a (cE x 1)) (b.e c (cE x 2)) x.pos
 | .cmp op a c=>.Compare (b.e a (cE x 0)) [op] [b.e c (cE x 1)] x.pos
 | .o6 op a c d=>.Compare (b.e a (cE x 0)) [.LtE,op] [b.e c (cE x 1),b.e d (cE x 2)] x.pos
 | .tup l=>.Tuple (bL b.e l (ch x)) (kE x) x.pos
 | .lst X l=>.List (bL b.e l (ch x)) x.pos
 | .z7 l=>.Dict ((bL b.e (l.map (·.1)) (rx x)).map N) (bL b.e (l.map (·.2)) (ch x)) x.pos
 | .sub a i=>.Subscript (b.e a (cE x 0)) (b.e i (cE x 1)) x.pos
 | .jB a i=>.Subscript (b.e a (cE x 0)) (b.e i (cE x 1)) x.pos
 | .ur a lo hi=>.Subscript (b.e a (cE x 0)) (.Slice (bO b.e lo (cE (cE x 1) 0)) (bO b.e hi (cE (cE x 1) 1)) ao (cE x 1).pos) x.pos
 | .aG a y=>.Attribute (b.e a (cE x 0)) y x.pos
 | .call f l=>.Call (b.e f (cE x 0)) (bL b.e l (ch x).tail) [] x.pos
 | .bi f X l=>.Call (.Name (Cr f) (cE x 0).pos) (bL b.e l (ch x).tail) [] x.pos
 | .aV a y l=>.Call (.Attribute (b.e a (cE (cE x 0) 0)) y (cE x 0).pos) (bL b.e l (ch x).tail) [] x.pos
 | .comp X I ts one dI bZ aY=>.ListComp (b.e aY (cE x 0)) [⟨Ua ts one (cE x 1),Cy b dI (cE x 2),bL b.t bZ ((ch x).drop 3),0⟩] (pB x) x.pos
 | .qJ X I x1 s1 x2 s2 bZ aY=>.ListComp (b.e aY (cE x 0)) [⟨.Name x1 (cE x 1).pos,Cy b s1 (cE x 2),[],0⟩,⟨.Name x2 (cE x 3).pos,Cy b s2 (cE x 4),bL b.t bZ ((ch x).drop 5),0⟩] (pB x) x.pos
 | .GD X I y dI aY=>.ListComp (b.e aY (cE x 0)) [⟨.Name y (cE x 1).pos,b.e dI (cE x 2),[],0⟩] (pB x) x.pos
 | .fz p=>b.e p x
 | .sV p X=>b.e p x
 |X=>uL
def bT(b:Bd)(p:PE)(x:aT):aT:=match p with
 | .not a=>.UnaryOp .Not (b.t a (cE x 0)) x.pos
 | .gP op l=>.BoolOp op (bL b.t l (ch x)) x.pos
 | .cmp op a c=>.Compare (b.e a (cE x 0)) [op] [b.e c (cE x 1)] x.pos
 | .o6 op a c d=>.Compare (b.e a (cE x 0)) [.LtE,op] [b.e c (cE x 1),b.e d (cE x 2)] x.pos
 |p=>b.e p x
def Ud(e:aT):aD:=kd [23,20,16,21,2,19] e
noncomputable def NH{α:Type}:J α->H->aD
 |X,0=>ak
 |[],X+1=>ah
 |X::r,n+1=>NH r n
def NI(b:Bd)(Y:Nm)(p:PE)(x:aT):aD:=match p with
 | .Y y=>k6 (je y ID)
 | .bin X a c=>bz (b.k Y a (cE x 0)) (b.k Y c (cE x 1))
 | .neg a=>b.k Y a (cE x 0)
 | .gP X l=>aL (b.k Y) l (ch x)
 | .ite t a c=>bz (b.q Y t (cE x 0)) (bz (b.k Y a (cE x 1)) (b.k Y c (cE x 2)))
 | .cmp X a c=>bz (b.k Y a (cE x 0)) (b.k Y c (cE x 1))
 | .o6 X a c d=>bz (b.k Y a (cE x 0)) (bz (b.k Y c (cE x 1)) (b.k Y d (cE x 2)))
 | .tup l=>aL (b.k Y) l (ch x)
 | .lst X l=>aL (b.k Y) l (ch x)
 | .z7 l=>bz (aL (b.k Y) (l.map (·.1)) (rx x)) (bz (aL (b.k Y) (l.map (·.2)) (ch x)) (bz (NH l 16) (k6 (f9 l))))
 | .sub a i=>bz (b.k Y a (cE x 0)) (b.k Y i (cE x 1))
 | .jB a i=>bz (b.k Y a (cE x 0)) (b.k Y i (cE x 1))
 | .ur a lo hi=>bz (b.k Y a (cE x 0)) (bz (aO (b.k Y) lo (cE (cE x 1) 0)) (aO (b.k Y) hi (cE (cE x 1) 1)))
 | .aG a X=>bz (b.k Y a (cE x 0)) (EB (b.e a (cE x 0)))
 | .call f l=>bz (b.k Y f (cE x 0)) (bz (Nb (b.e f (cE x 0))) (aL (b.k Y) l (ch x).tail))
 | .bi f X l=>bz (EX (Cr f) Y) (aL (b.k Y) l (ch x).tail)
 | .aV a X l=>bz (b.k Y a (cE (cE x 0) 0)) (bz (EB (b.e a (cE (cE x 0) 0))) (bz (bX (cE x 0).pos.endLine x.pos.line) (bz (NH l 30) (aL (b.k Y) l (ch x).tail))))
 | .comp X cs ts one dI bZ aY=>bz (Cv one (Ub ts)) (bz (NG Y cs ts (pB x)) (bz (EY b Y dI (cE x 2)) (bz (aL (b.q (jt Y (pB x).names)) bZ ((ch x).drop 3)) (b.k (jt Y (pB x).names) aY (cE x 0)))))
 | .qJ X cs x1 s1 x2 s2 bZ aY=>bz (NG Y cs [x1,x2] (pB x)) (bz (EY b Y s1 (cE x 2)) (bz (EY b (jt Y (pB x).names) s2 (cE x 4)) (bz (aL (b.q (jt Y (pB x).names)) bZ ((ch x).drop 5)) (b.k (jt Y (pB x).names) aY (cE x 0)))))
 | .GD X cs y dI aY=>bz (NG Y cs [y] (pB x)) (bz (b.k Y dI (cE x 2)) (b.k (jt Y (pB x).names) aY (cE x 0)))
 | .fz p=>b.k Y p x
 | .sV p X=>b.k Y p x
 |X=>ah
def kG(gn:J ai)(Y:Nm)(p:PE):aD:=match p with
 | .gl i=>bz (EX (Cz gn i) Y) (k6 (je (Cz gn i) ID))
 |X=>ah
def kT(b:Bd)(Y:Nm)(p:PE)(x:aT):aD:=match p with
 | .not a=>b.q Y a (cE x 0)
 | .gP X l=>aL (b.q Y) l (ch x)
 | .cmp X a c=>bz (b.k Y a (cE x 0)) (b.k Y c (cE x 1))
 | .o6 X a c d=>bz (b.k Y a (cE x 0)) (bz (b.k Y c (cE x 1)) (b.k Y d (cE x 2)))
 |p=>bz (b.k Y p x) (Ud (b.e p x))
def bd(gn:J ai)(j:H):Bd:=Nat.rec ⟨λX I=>uL,λX I=>uL,λX I u2=>ak,λX I u2=>ak⟩ (λX b=>⟨bE gn b,bT b,λY p x=>bz (kG gn Y p) (NI b Y p x),kT b⟩) j
def Ue(Y:Nm)(x:ai)(p:gq)(v:aT):aD:=match bX v.ctorIdx 8 with
 |true=>k6 (Cw Y x p v.pos (pB v))
 |false=>ED v
def bS(b:Bd)(B:J PS->J eg->J eg)(p:PS)(s:eg):eg:=match p with
 | .ret e=>.Return (N (b.e e (cS s 0))) s.pos
 | .ex e=>.Expr (b.e e (cS s 0)) s.pos
 | .asg x e=>.Assign [.Name x (cS s 1).pos] (b.e e (cS s 0)) s.pos
 | .pW xs e=>.Assign [.Tuple (Cx xs (ch (cS s 1))) (kE (cS s 1)) (cS s 1).pos] (b.e e (cS s 0)) s.pos
 | .vF xs es=>.Assign [.Tuple (Cx xs (ch (cS s 1))) (kE (cS s 1)) (cS s 1).pos] (.Tuple (bL b.e es (ch (cS s 0))) (kE (cS s 0)) (cS s 0).pos) s.pos
 | .dm a y e=>.Assign [.Attribute (b.e a (cE (cS s 1) 0)) y (cS s 1).pos] (b.e e (cS s 0)) s.pos
 | .ye a i e=>.Assign [.Subscript (b.e a (cE (cS s 1) 0)) (b.e i (cE (cS s 1) 1)) (cS s 1).pos] (b.e e (cS s 0)) s.pos
 | .aug x e=>.AugAssign (.Name x (cS s 1).pos) .Add (b.e e (cS s 0)) s.pos
 | .ite t a c=>.If (b.t t (cS s 0)) (B a (AI s)) (B c (si s)) s.pos
 | .for X ts one dI body=>.For (Ua ts one (cS s 1)) (Cy b dI (cS s 0)) (B body (AI s)) [] s.pos
 | .DO X x y a c body=>.For (.Tuple (Cx [x,y] (ch (cS s 1))) (kE (cS s 1)) (cS s 1).pos) (.Call (.Name EV (cE (cS s 0) 0).pos) [b.e a (cE (cS s 0) 1),b.e c (cE (cS s 0) 2)] [] (cS s 0).pos) (B body (AI s)) [] s.pos
 | .sW X t body=>.While (b.t t (cS s 0)) (B body (AI s)) [] s.pos
 | .raise=>s
def aS(b:Bd)(B:J PS->J eg->aD)(Y:Nm)(p:PS)(s:eg):aD:=match p with
 | .ret e=>b.k Y e (cS s 0)
 | .ex e=>bz (b.k Y e (cS s 0)) (ED (b.e e (cS s 0)))
 | .asg x e=>bz (b.k Y e (cS s 0)) (match e with| .comp ..=>ah| .qJ ..=>ah|X=>Ue Y x (cS s 1).pos (b.e e (cS s 0)))
 | .pW xs e=>bz (b.k Y e (cS s 0)) (bz (ED (b.e e (cS s 0))) (Td (b.e e (cS s 0))))
 | .vF xs es=>bz (aL (b.k Y) es (ch (cS s 0))) (Na Y (Cx xs (ch (cS s 1))) (bL b.e es (ch (cS s 0))) xs)
 | .dm a y e=>bz (b.k Y e (cS s 0)) (b.k Y a (cE (cS s 1) 0))
 | .ye a i e=>bz (b.k Y e (cS s 0)) (bz (b.k Y a (cE (cS s 1) 0)) (b.k Y i (cE (cS s 1) 1)))
 | .aug x e=>b.k Y e (cS s 0)
 | .ite t a c=>bz (b.q Y t (cS s 0)) (bz (B a (AI s)) (B c (si s)))
 | .for X ts one dI body=>bz (Cv one (Ub ts)) (bz (EY b Y dI (cS s 0)) (B body (AI s)))
 | .DO X x y a c body=>bz (EX EV Y) (bz (b.k Y a (cE (cS s 0) 1)) (bz (b.k Y c (cE (cS s 0) 2)) (B body (AI s))))
 | .sW X t body=>bz (b.q Y t (cS s 0)) (B body (AI s))
 | .raise=>ah
noncomputable def sk:eg:=.Pass ⟨0,0,0,0⟩
def Ug(g:PS->eg->eg):J PS->J eg->J eg
 |[],X=>[]
 |p::ps,l=>g p (l.headD sk)::Ug g ps l.tail
def Uh(g:PS->eg->aD):J PS->J eg->aD
 |[],X=>ah
 |p::ps,l=>bz (g p (l.headD sk)) (Uh g ps l.tail)
def bB(gn:J ai)(j:H):J PS->J eg->J eg:=Nat.rec (λX I=>[]) (λj B=>Ug (bS (bd gn j) B)) j
def aB(gn:J ai)(Y:Nm)(j:H):J PS->J eg->aD:=Nat.rec (λX I=>ak) (λj B=>Uh (aS (bd gn j) B Y)) j
section
variable{f:Cf}{Y:J (ai×cJ)}{n:H}{T:Tb}{gn:J ai}{ev:Ev}{b:Bd}
structure yR(f:Cf)(T:Tb)(gn:J ai):Prop where
 nms:T.gl.map (·.1)=gn
 val:∀x v,(x,v)∈T.gl->∃u,f.g x=N u/\VR f.w [] f.B v u
structure xB(f:Cf):Prop where
 bi:∀b,f.g (Cr b)=N (ET b)
 iA:f.g EG=N (.type "range")
 zip:f.g EV=N (.type "zip")
def zZ(e:aT):aD:=!(kd [22,7] e)
theorem Ui(h:zZ e=ah):xm e=ah:=by cases e<;>first|rfl|exact gr h
theorem NJ(h:zZ e=ah):J9 op e=ak:=by cases e<;>first|rfl|exact gr h
theorem AJ(h:zZ e=ah):∀x G,pP e G x=pure x:=by intro x G;cases e<;>first|rfl|exact gr h
structure qX(f:Cf)(n:H)(ev:Ev)(b:Bd):Prop where
 e:∀Y p x,b.k Y p x=ah->∀Z k,ev.e p Z k->WE f Y n (b.e p x) Z k
 t:∀Y p x,b.q Y p x=ah->∀Z k,ev.t p Z k->WT f Y n (b.t p x) Z k
 n:∀p x,zZ (b.e p x)=ah
theorem bj4{α:Type}{a:α}:∀{l:J α}{i:H},uI l i=N a->a∈l:=@λi_=>by
 induction i_ with
 |nil=>exact@λX h=>by cases h
 |cons X r ih=>
  intro i h;cases i with
  |zero=>cases h;exact .head _
  |succ i=>exact .tail _ (ih h)
theorem bj5{α β:Type}{g:α->β}:∀{l:J α}{i:H},uI (l.map g) i=(uI l i).map g:=@λi_=>by
 induction i_ with
 |nil=>exact@λi=>rfl
 |cons X r ih=>
  intro i;cases i with
  |zero=>rfl
  |succ i=>exact ih
theorem sn{α:Type}{l:J α}:∀{n:H},NH l n=ah->l.length<n:=by
 induction l with
 |nil=>exact λ{n} h=>by cases n with|zero=>cases h|succ n=>exact jd _
 |cons a r ih=>exact λ{n} h=>by cases n with|zero=>cases h|succ n=>exact ap0 (ih h)
theorem NK:∀{l:J PE}{xs:J aT},(bL g l xs).length=l.length:=@λi_=>by
 induction i_ with
 |nil=>exact@λX=>rfl
 |cons p l ih=>exact@λX=>bR (·+1) ih
theorem NL(ih:qX f n ev b):∀{xs:J aT},rT (bL b.e l xs)=ah:=by
 induction l with
 |nil=>exact rfl
 |cons p l go=>
  intro xs
  show(match xm (b.e p (xs.headD uL))with|true=>rT _|false=>ak)=ah
  rw[Ui (ih.n _ _)];exact go
theorem EZ(ih:qX f n ev b):∀{xs:J aT},aL (b.k Y) l xs=ah->∀Z k,Au ev.e l Z k->qU f Y n (bL b.e l xs) Z k:=by
 induction l with
 |nil=>exact λX I u2 h=>eM h
 |cons p l go=>exact λh u3 u4 hv=>S4 ((ih.e _ _ _ (ck h) _ _ hv).mono λX I h'=>go (bf h) _ _ h') (Ui (ih.n _ _))
theorem sp(h:iS a k)(g:∀x,k x->k' x):iS a k':=by
 induction a with
 |d x=>exact g _ h
 |_=>exact h.elim
theorem bj6(ih:qX f n ev b){l:J (PE×PE)}:∀{ks vs:J aT},aL (b.k Y) (l.map (·.1)) ks=ah->aL (b.k Y) (l.map (·.2)) vs=ah->∀Z k,Sb ev.e l Z k->IB f Y n ((bL b.e (l.map (·.1)) ks).map N) (bL b.e (l.map (·.2)) vs) pos Z k:=by
 induction l with
 |nil=>exact λX I u2 u3 h=>bh0 h
 |cons p l go=>exact λh g X I hv=>bh1 ((ih.e _ _ _ (ck h) _ _ hv).mono λv X h'=>(ih.e _ _ _ (ck g) _ _ h').mono λX I h'=>sp h' λx h'=>sp h' λy h'=>AG h' (λh'=>go (bf h) (bf g) _ _ h') λh'=>h')
theorem sx(ih:qX f n ev b):∀{xs:J aT},aL (b.q Y) l xs=ah->∀Z k,nX ev.t l Z k->mO f Y n (bL b.t l xs) Z k:=by
 induction l with
 |nil=>exact λX I u2 h=>ik h
 |cons p l go=>exact λh u3 u4 hv=>aS8 ((ih.t _ _ _ (ck h) _ _ hv).mono λq X h'=>AG h' (go (bf h) _ _) id)
theorem bj7(ih:qX f n ev b):∀{xs:J aT},aL (b.q Y) l xs=ah->∀Z k,MT ev.t op l Z k->Az f Y n op (bL b.t l xs) Z k:=by
 induction l with
 |nil=>exact λX Z k h=>by cases op;exact aL6 h;exact aL7 h
 |cons p l go=>
  intro xs h Z k hv;have g:=(ih.t _ _ _ (ck h) _ _ hv);induction op with
  |And=>exact aL8 (g.mono λq aI h'=>AG h' (go (bf h) _ _) id)
  |Or=>exact aL9 (g.mono λq aI h'=>AG h' id (go (bf h) _ _))
theorem bj8(h:As v k)(g:∀q,k q->k' q):As v k':=by
 induction v with
 |d x=>cases x<;>first|exact g _ h|exact h.elim
 |_=>exact h.elim
theorem bj9(ih:qX f n ev b):∀{xs:J aT},aL (b.k Y) l xs=ah->∀Z k,MS ev.e op l Z k->WX f Y (λr F=>VR f.w r F) n (λG=>Dm pos op (wu (bL b.e l xs) G)) Z k:=by
 induction l with
 |nil=>exact λI u2 u3 h=>h.elim
 |cons p l go=>
  intro xs h Z k hv;induction l using eT with
  |nil=>exact aM6 (ih.e _ _ _ (ck h) _ _ hv)
  |cons p' l=>exact aM7 ((ih.e _ _ _ (ck h) _ _ hv).mono λv aI h'=>bj8 h' λq h'=>by
    cases op
    ·exact AG h' (go (bf h) _ _) id
    ·exact AG h' id (go (bf h) _ _))
theorem sB(ih:qX f n ev b){p:bq PE}{x:aT}(h:aO (b.k Y) p x=ah){Z:St}{k:bq aa->St->Prop}(hv:Sd ev.e p Z k):WO f Y n (bO b.e p x) Z k:=by
 induction p with
 |none=>exact aO5 hv
 |some p=>exact aO6 (ih.e _ _ _ h _ _ hv)
theorem CA(ih:qX f n ev b):zZ (Cy b p x)=ah:=by cases p<;>first|rfl|exact ih.n _ _
theorem E0(ih:qX f n ev b)(B:xB f){p:PE}{x:aT}(h:EY b Y p x=ah){Z:St}{k:J D->St->Prop}(hv:Av ev.e p Z k):WI f Y n (λG=>cM (Cy b p x) G) Z k:=by have gen:b.k Y p x=ah->(ev.e p Z λv Z=>HO v λl=>k l Z)->WI f Y n (λG=>cM (b.e p x) G) Z k:=λh1 h2=>aS2 (ih.e _ _ _ h1 _ _ h2);cases p<;>first|exact gen h hv|exact aS3 (ih.e _ _ _ (bf h) _ _ hv) B.iA (NF (ck h)) (Ui (ih.n _ _))
theorem bk0{e:aT}(h:Ud e=ah):∀G oS,oY e G oS=(do let v<-oS;sy e.pos;A9 [v] (J_ v)):=by intro G oS;cases e<;>first|rfl|exact gr h
theorem sK{ts:J ai}{one:aD}{v:V}{Z:St}{k k':St->Prop}(h:jL ts one v Z k)(g:∀Z,k Z->k' Z):jL ts one v Z k':=by
 induction one with
 |true=>induction ts using eT with
  |nil=>exact h
  |cons x r=>induction r using eT with
   |nil=>exact IC (show kZ x v Z k from h) g
   |cons X I=>exact h
 |false=>induction v with
  |d x=>cases x<;>first|exact h|exact Nz (show nv ts _ Z k from h) g
  |pr x i=>exact Nz (show nv ts [.d x,.ref i] Z k from h) g
  |_=>exact h
theorem fV(h:uH v k)(g:k v->k' v):uH v k':=(w_ v k').mpr (g ((w_ v k).mp h))
theorem Uj(h:lV v k)(g:k v->k' v):lV v k':=(o7 v k').mpr (g ((o7 v k).mp h))
theorem sT{ts:J ai}{one:aD}{m:Fm}{T T':St->(aD->St->Prop)->Prop}{e e':St->(V->St->Prop)->Prop}(hT:∀Z k k',T Z k->(∀q Z,k q Z->k' q Z)->T' Z k')(he:∀Z k k',e Z k->(∀q Z,k q Z->k' q Z)->e' Z k')
  {l:J D}:∀{o:J O}{k k':J V->J O->Prop},jW ts one m T e l o k->(∀vs o,k vs o->k' vs o)->jW ts one m T' e' l o k':=by
 induction l with
 |nil=>exact λh g=>g _ _ h
 |cons y l go=>exact λ{o k k'} h g=>sK (show jL ts one (.d y) ⟨m,o⟩ _ from h) λZ h=>hT _ _ _ h λq aI h=>AG h (λh=>he _ _ _ h λv b3 h=>fV h λh=>Uj h λh=>go h λvs o h=>g _ _ h) λh=>Uj h λh=>go h g
theorem s3(ih:qX f n ev b)(h1:aL (b.q Y) bZ xs=ah)(h2:b.k Y aY x=ah)
  (h:jW ts one m (nX ev.t bZ) (ev.e aY) l o k):jW ts one m (λZ k=>mO f Y n (bL b.t bZ xs) Z k) (λZ k=>WE f Y n (b.e aY x) Z k) l o k:=
 sT (T':=λZ k=>mO f Y n (bL b.t bZ xs) Z k) (e':=λZ k=>WE f Y n (b.e aY x) Z k) (λZ k k' h g=>(sx ih h1 _ _ h).mono g) (λZ k k' h g=>(ih.e _ _ _ h2 _ _ h).mono g) h λvs o h=>h
theorem s4(ih:qX f n ev b)(B:xB f){x1 x2:ai}{m:Fm}{pV:PE}{s5:aT}{bZ:J PE}{xs:J aT}{aY:PE}{x:aT}(h0:EY b Y pV s5=ah)(h1:aL (b.q Y) bZ xs=ah)(h2:b.k Y aY x=ah){l:J D}:∀{acc:J V}{o:J O}{k:J V->J O->Prop},
  xe x1 x2 m (Av ev.e pV) (nX ev.t bZ) (ev.e aY) l acc o k->xe x1 x2 m (λZ k=>WI f Y n (λG=>cM (Cy b pV s5) G) Z k) (λZ k=>mO f Y n (bL b.t bZ xs) Z k) (λZ k=>WE f Y n (b.e aY x) Z k) l acc o k:=by
 induction l with
 |nil=>exact λh=>h
 |cons y l go=>exact λ{acc o k} h=>IC (show kZ x1 (.d y) ⟨m,o⟩ _ from h) λZ h=>(E0 ih B h0 h).mono λds aI h=>⟨h.1,sT (T':=λZ k=>mO f Y n (bL b.t bZ xs) Z k) (e':=λZ k=>WE f Y n (b.e aY x) Z k) (λZ k k' h g=>(sx ih h1 _ _ h).mono g) (λZ k k' h g=>(ih.e _ _ _ h2 _ _ h).mono g) h.2 λvs o h=>go h⟩
theorem bk1(ih:qX f n ev b)(h2:b.k Y aY y=ah):∀{o:J O}{k:J V->J O->Prop},
  B5 x m xg (ev.e aY) l o k->B5 x m xg (λZ k=>WE f Y n (b.e aY y) Z k) l o k:=by
 induction l with
 |nil=>exact λh=>h
 |cons v l go=>exact λ{o k} h=>IC (show kZ x v ⟨m,o⟩ _ from h) λZ h=>(ih.e _ _ _ h2 _ _ h).mono λw b3 h=>fV h λh=>Uj h λh=>⟨h.1,go h.2⟩
theorem tc(h:jl a k)(g:∀i,k i->k' i):jl a k':=by
 induction a with
 |d x=>induction x using Wm.D.casesOn with
  |int i=>exact g _ h
  |_=>exact h.elim
 |_=>exact h.elim
theorem td{b:V}(h:tE .LtE a b o k)(g:∀q,k q->k' q):tE .LtE a b o k':=tc h λX h=>tc h λX h=>g _ h
theorem bk2(ih:qX f n ev b):∀Y p x,kT b Y p x=ah->∀Z k,Yu ev p Z k->WT f Y n (bT b p x) Z k:=by
 intro Y p x h Z k hv;have gen:bz (b.k Y p x) (Ud (b.e p x))=ah->(ev.e p Z λv Z=>As v λq=>k q Z)->WT f Y n (b.e p x) Z k:=λh h2=>aM0 (ih.e _ _ _ (ck h) _ _ h2) (bk0 (bf h))
 induction p using Wm.PE.casesOn with
 |not a=>exact aL4 (ih.t _ _ _ h _ _ hv)
 |gP op l=>exact aL5 (bj7 ih h _ _ hv)
 |cmp op a c=>exact aL2 ((ih.e _ _ _ (ck h) _ _ hv).mono λv aI h'=>ih.e _ _ _ (bf h) _ _ h') (NJ (ih.n _ _))
 |o6 op a c d=>
  exact aL3 (o1:=.LtE) ((ih.e _ _ _ (ck h) _ _ hv).mono λv aI h'=>(ih.e _ _ _ (ck (bf h)) _ _ h').mono λw b3 h'=>td h' λq h'=>by
   induction q with
   |true=>exact ih.e _ _ _ (bf (bf h)) _ _ h'
   |false=>exact h') (NJ (ih.n _ _))
 |_=>exact gen h hv
theorem bk3(h:Nb e=ah):∃y p,e=.Name y p:=by cases e<;>first|exact⟨_,_,rfl⟩|exact gr h
theorem bk4{f:Cf}{Y:J (ai×cJ)}{n:H}{Z:St}{g:aT}{args:J aT}{pos:gq}{T:aR->Tr}{Q:V->St->Prop}(h:WE f Y n g Z λg aI=>qU f Y n args aI λvs b3=>iS g λx=>gD x λa=>yz (T a) vs b3.o (kM b3.m Q))(c:tO f n T)(hp:rT args=ah)(hg:Nb g=ah):WE f Y n (.Call g args [] pos) Z Q:=by obtain⟨y,p,rfl⟩:=bk3 hg;exact aW4 h c hp
theorem IG{P P':Prop}(h:dh q P bV)(g:P->P'):dh q P' bV:=by cases q;exact h;exact g h
theorem bk5(b4:yR f T gn){i:H}{p:gq}(h:kG gn Y (.gl i)=ah){Z:St}{k:V->St->Prop}(hv:jK (uI T.gl i) λp=>k p.2 Z):WE f Y n (.Name (Cz gn i) p) Z k:=by
 have e:uI gn i=(uI T.gl i).map (·.1):=by rw[<-b4.nms,bj5]
 have h:bz (EX (Cz gn i) Y) (k6 (je (Cz gn i) ID))=ah:=h;unfold Cz at h|-
 refine nY hv λy q hv=>?_;rw[e,q]at h|-
 refine b_ (b4.val _ _ (bj4 q)) λu hx=>?_;have g1:=hx.1;have g2:=hx.2;exact aJ4 g1 g2 (NF (ck h)) (rv (bf h)) hv
theorem bk6(ih:qX f n ev b)(B:xB f)(b4:yR f T gn)(c:tO f n T.fn):∀Y p x,bz (kG gn Y p) (NI b Y p x)=ah->∀Z k,ZX T ev p Z k->WE f Y n (bE gn b p x) Z k:=by
 intro Y p x h0 Z k hv;have h:=bf h0;induction p using Wm.PE.casesOn with
 |cI i=>exact aM2 hv
 |cS x=>exact aM5 hv
 |cN=>exact aM4 hv
 |cB b=>exact aM3 hv
 |Y x=>exact aJ3 hv (rv h)
 |gl i=>exact bk5 b4 (ck h0) hv
 |bin op a c=>exact aK9 ((ih.e _ _ _ (ck h) _ _ hv).mono λX I h'=>ih.e _ _ _ (bf h) _ _ h')
 |neg a=>exact aL0 (ih.e _ _ _ h _ _ hv)
 |gP op l=>exact aM8 (bj9 ih h _ _ hv)
 |ite t a c=>exact aM1 ((ih.t _ _ _ (ck h) _ _ hv).mono λq X h'=>by
   induction q with
   |true=>exact ih.e _ _ _ (ck (bf h)) _ _ h'
   |false=>exact ih.e _ _ _ (bf (bf h)) _ _ h')
 |cmp op a c=>exact aL1 ((ih.e _ _ _ (ck h) _ _ hv).mono λv aI h'=>ih.e _ _ _ (bf h) _ _ h') (NJ (ih.n _ _))
 |o6 op a c d=>
  exact aN0 (o1:=.LtE) ((ih.e _ _ _ (ck h) _ _ hv).mono λv aI h'=>(ih.e _ _ _ (ck (bf h)) _ _ h').mono λw b3 h'=>td h' λq h'=>by
   induction q with
   |true=>exact ih.e _ _ _ (bf (bf h)) _ _ h'
   |false=>exact h') (NJ (ih.n _ _))
 |tup l=>exact aN2 (EZ ih h _ _ hv)
 |lst lv l=>exact aN4 (EZ ih h _ _ hv)
 |z7 l=>have h3:=bf (bf h);exact bh6 (bj6 ih (ck h) (ck (bf h)) _ _ hv) (by rw[List.all_map];exact al7.mpr λX I=>rfl) (by rw[cO,NK,NK,cO,cO]) (by cases l;exact gr (bf h3);exact List.cons_ne_nil _ _) (by rw[cO,NK,cO];exact qD (sn (ck h3)))
 |sub a i=>exact aO3 ((ih.e _ _ _ (ck h) _ _ hv).mono λv aI h'=>ih.e _ _ _ (bf h) _ _ h')
 |jB a i=>exact aO4 ((ih.e _ _ _ (ck h) _ _ hv).mono λv aI h'=>ih.e _ _ _ (bf h) _ _ h')
 |ur a lo hi=>exact aO9 ((ih.e _ _ _ (ck h) _ _ hv).mono λv aI h'=>(sB ih (ck (bf h)) h').mono λw b3 h'=>sB ih (bf (bf h)) h')
 |aG a x=>exact aP3 (ih.e _ _ _ (ck h) _ _ hv) (bf h)
 |call g l=>exact bk4 ((ih.e _ _ _ (ck h) _ _ hv).mono λv aI h'=>EZ ih (bf (bf h)) _ _ h') c (NL ih) (ck (bf h))
 |bi b lv l=>exact bg7 (EZ ih (bf h) _ _ hv) (B.bi b) (NF (ck h)) (NL ih)
 |aV a x l=>have h3:=bf (bf h);exact bb1 (T:=T) ((ih.e _ _ _ (ck h) _ _ hv).mono λv aI h'=>xA h' λg h'=>EZ ih (bf (bf h3)) _ _ h') c (NL ih) (ck (bf h)) (nL (by rw[NK];exact sn (ck (bf h3)))) (by rw[Xx];exact mV (ck h3))
 |comp lv cs ts one dI bZ aY=>have h3:=bf (bf h);have hv:=l9 hv;exact aV9 (lv:=lv) hv.1 ((E0 ih B (ck h3) hv.2).mono λds aI h'=>IG h' λh'=>s3 ih (ck (bf h3)) (bf (bf h3)) h') (Uc (ck h)) (IE (ck (bf h))) (AJ (CA ih))
 |qJ lv cs x1 uw x2 pV bZ aY=>have h3:=bf (bf h);have hv:=l9 hv;exact aW0 (lv:=lv) hv.1 ((E0 ih B (ck (bf h)) hv.2).mono λds aI h'=>IG h' λh'=>s4 ih B (ck h3) (ck (bf h3)) (bf (bf h3)) h') (AJ (CA ih)) (IE (ck h)) (AJ (CA ih))
 |GD lv cs x dI aY=>have hv:=l9 hv;refine bi7 (lv:=lv) hv.1 ((ih.e _ _ _ (ck (bf h)) _ _ hv.2).mono λva aI h'=>xA h' λvs h'=>IG h' λh'=>⟨h'.1,bk1 ih (bf (bf h)) h'.2⟩) (IE (ck h)) (AJ (ih.n _ _))
 |fz p=>exact aN5 (ih.e _ _ _ h _ _ hv)
 |sV p x=>exact bj0 (ih.e _ _ _ h _ _ hv)
 |_=>exact hv.elim
theorem tf(ih:∀p x,zZ (b.e p x)=ah)(p:PE)(x:aT):zZ (bE gn b p x)=ah:=by cases p<;>first|rfl|exact ih _ _
theorem th(j:H):∀p x,zZ ((bd gn j).e p x)=ah:=by
 induction j with
 |zero=>exact λX I=>rfl
 |succ j go=>exact tf go
theorem NN(B:xB f)(b4:yR f T gn)(c:tO f n T.fn)(m:H):∀j,qX f n (vc T m) (bd gn j):=by
 induction m with
 |zero=>exact λj=>⟨λX I u2 u3 u4 u5 h=>h.elim,λX I u2 u3 u4 u5 h=>h.elim,th j⟩
 |succ m go=>
  intro j;induction j using ji with
  |zero=>exact⟨λX I u2 h u3 u4 u5=>(rq h).elim,λX I u2 h u3 u4 u5=>(rq h).elim,th 0⟩
  |succ j=>exact⟨bk6 (go j) B b4 c,bk2 (go j),tf (go j).n⟩
theorem tj{x:ai}{p pos:gq}{v:aT}{Z:St}{Q:dZ->St->Prop}(h:WE f Y n v Z λu aI=>kZ x u aI λb3=>Q .next b3)(hs:∀G,g_ f Y G->wz v (N (.Name x p)) pos.line G=pure ak):W1 f Y n (.Assign [.Name x p] v pos) Z Q:=λA s F G E r o i a=>at5 (h.run o i a λu w aI bY cz aF q y b7 b8=>HY q i b7 y λb3 cj Ib e_ c9=>⟨_,b3,bY,cz,Ib,.next,e_,b8.trans c9⟩) (hs G i)
theorem bk7{α:Type}{p:α->aD}{q:α->aD}(hpq:∀a,p a=k6 (q a)){l:J α}:kP p l=!(l.any q):=by
 induction l with
 |nil=>rfl
 |cons a r ih=>
  show bz (p a) (kP p r)=_
  rw[ap1,ih,hpq];cases q a<;>rfl
theorem NO{x:ai}{p vp:gq}{sc:ly}{aY:aT}{lP:J Kc}{line:H}{G:cL}(i:g_ f Y G):wz (.ListComp aY lP sc vp) (N (.Name x p)) line G=pure (Cw Y x p vp sc):=by
 have S:G.kindOf x=cG x Y:=by unfold PR;rw[i.Y,<-Aw]
 have hb:G.blockKind=.function:=by unfold al5;rw[i.kind];rfl
 show pure (G.blockKind== .function&&G.kindOf x==N .local&&p.line==vp.line&&!(sc.names.any λ(n,k)=>n==x&&(k== .local||k== .cell)))=_
 congr 1;rw[hb,S];unfold Cw;rw[bk7 (q:=λy=>y.1==x&&(y.2== .local||y.2== .cell)) (λy=>by
  rw[Sn,show(x==y.1)=(y.1==x)from BEq.comm]
  obtain⟨y1,y2⟩:=y
  show k6 (bz (y1==x) _)=k6 ((y1==x)&&_)
  cases(y1==x)<;>cases y2<;>rfl)]
 have e2:(cG x Y==N NameKind.local)=AH x Y:=by
  unfold AH Ct;cases cG x Y with
  |none=>rfl
  |some k=>cases k<;>rfl
 have e3:(p.line==vp.line)=bX p.line vp.line:=PX.mpr ⟨λh=>by rw[Xx]at h;rw[h];exact W0 _,λh=>by rw[Xx];exact mV h⟩
 rw[e2,e3];cases AH x Y<;>cases bX p.line vp.line<;>rfl
theorem bk8(h:Ue Y x p v=ah):∀G,g_ f Y G->wz v (N (.Name x p)) line G=pure ak:=by intro G i;cases v<;>first|exact S_ h|exact(NO i).trans (bR pure (yQ.mp h))
theorem Uk{Z:St}{k k':St->Prop}(h:rO Z k)(g:k Z->k' Z):rO Z k':=(yy Z k').mpr (g ((yy Z k).mp h))
theorem bk9{fg ts:J ai}{one:aD}{fS:H}{body:J PS}{bd:J eg}(hB:∀Z k,ev.s body Z k->WS f Y n bd Z k){l:J D}:∀{Z:St}{k:dZ->St->Prop},gT fg ts one fS (ev.s body) l Z k->gT fg ts one fS (λZ k=>WS f Y n bd Z k) l Z k:=by
 induction l with
 |nil=>exact λh=>h
 |cons x l go=>
  refine λ{Z k} h=>sK (show jL ts one (.d x) Z _ from h) λZ h=>(hB _ _ h).mono λfl aI h=>?_
  induction fl with
  |next=>exact Uk (k:=λZ=>gT _ _ _ _ _ _ Z _) (k':=λZ=>gT _ _ _ _ _ _ Z _) h λh=>go h
  |cont=>exact Uk (k:=λZ=>gT _ _ _ _ _ _ Z _) (k':=λZ=>gT _ _ _ _ _ _ Z _) h λh=>go h
  |_=>exact h
theorem bl2{x:ai}{Z:St}{k k':V->Prop}(h:B4 x Z k)(g:∀v,k v->k' v):B4 x Z k':=by
 refine xA h λsl h=>?_;induction sl with
 |L ov=>exact xA (o:=ov) h g
 |C h'=>
  refine xA (o:=gw h' Z.o) h λy h=>?_;induction y with
  |cell ov=>exact xA (o:=ov) h g
  |_=>exact h.elim
theorem bl3{fg:J ai}{x y:ai}{fS:H}{xg:J O->Prop}{body:J PS}{bd:J eg}(hB:∀Z k,ev.s body Z k->WS f Y n bd Z k){l:J V}:∀{l':J V}{Z:St}{k:dZ->St->Prop},yF fg x y fS xg (ev.s body) l l' Z k->yF fg x y fS xg (λZ k=>WS f Y n bd Z k) l l' Z k:=by
 induction l with
 |nil=>exact λh=>h
 |cons a l go=>
  intro l' Z k h;induction l' using eT with
  |nil=>exact h
  |cons c l'=>
   refine Nz (show nv [x,y] [a,c] Z _ from h) λZ h=>(hB _ _ h).mono λfl aI h=>?_
   induction fl with
   |next=>exact Uk h λh=>⟨h.1,go h.2⟩
   |_=>exact h
abbrev tm(f:Cf)(Y:J (ai×cJ))(n:H)(ev:Ev)(Bb:J PS->J eg->J eg)(Ba:J PS->J eg->aD):Prop:=∀l ss,Ba l ss=ah->∀Z k,ev.s l Z k->WS f Y n (Bb l ss) Z k
theorem bl4(B:xB f)(b4:yR f T gn)(c:tO f n T.fn){m j lv cs ts one dI bZ aY x p qj y Z}{k:dZ->St->Prop}(h:(bd gn j).k Y (.comp lv cs ts one dI bZ aY) y=ah)(hs:Cw Y x p y.pos (pB y)=ah)
  (hv:(vc T m).e (.comp lv cs ts one dI bZ aY) Z λv Z=>kZ x v Z λZ=>k .next Z):W1 f Y n (.Assign [.Name x p] ((bd gn j).e (.comp lv cs ts one dI bZ aY) y) qj) Z k:=by
 induction m using ji with
 |zero=>exact hv.elim
 |succ m=>induction j using ji with
 |zero=>exact(rq h).elim
 |succ j=>have ih:=NN (f:=f) (n:=n) B b4 c m j;have h:NI (bd gn j) Y (.comp lv cs ts one dI bZ aY) y=ah:=bf (a:=kG gn Y (.comp lv cs ts one dI bZ aY)) h;have h3:=bf (bf h);have hv:=l9 hv;exact aW1 (lv:=lv) hv.1 ((E0 ih B (ck h3) hv.2).mono λds aI h'=>IG h' λh'=>s3 ih (ck (bf h3)) (bf (bf h3)) h') (Uc (ck h)) (IE (ck (bf h))) (AJ (CA ih)) λG i=>(NO i).trans (bR pure hs)
theorem bl5(B:xB f)(b4:yR f T gn)(c:tO f n T.fn){m j lv cs x1 uw x2 pV bZ aY x p qj y Z}{k:dZ->St->Prop}(h:(bd gn j).k Y (.qJ lv cs x1 uw x2 pV bZ aY) y=ah)(hs:Cw Y x p y.pos (pB y)=ah)
  (hv:(vc T m).e (.qJ lv cs x1 uw x2 pV bZ aY) Z λv Z=>kZ x v Z λZ=>k .next Z):W1 f Y n (.Assign [.Name x p] ((bd gn j).e (.qJ lv cs x1 uw x2 pV bZ aY) y) qj) Z k:=by
 induction m using ji with
 |zero=>exact hv.elim
 |succ m=>induction j using ji with
 |zero=>exact(rq h).elim
 |succ j=>have ih:=NN (f:=f) (n:=n) B b4 c m j;have h:NI (bd gn j) Y (.qJ lv cs x1 uw x2 pV bZ aY) y=ah:=bf (a:=kG gn Y (.qJ lv cs x1 uw x2 pV bZ aY)) h;have h3:=bf (bf h);have hv:=l9 hv;exact aW2 (lv:=lv) hv.1 ((E0 ih B (ck (bf h)) hv.2).mono λds aI h'=>IG h' λh'=>s4 ih B (ck h3) (ck (bf h3)) (bf (bf h3)) h') (AJ (CA ih)) (IE (ck h)) (AJ (CA ih)) λG i=>(NO i).trans (bR pure hs)
theorem tt{v:aT}{x:ai}{p qj vp:gq}{sc:ly}{aY:aT}{lP:J Kc}(e:v=.ListComp aY lP sc vp){Z:St}{k:dZ->St->Prop}(h1:WE f Y n v Z λu aI=>kZ x u aI λb3=>k .next b3)(h2:Cw Y x p vp sc=ah->W1 f Y n (.Assign [.Name x p] v qj) Z k):W1 f Y n (.Assign [.Name x p] v qj) Z k:=by
 cases q:Cw Y x p vp sc with
 |true=>exact h2 q
 |false=>subst e;exact tj h1 λG i=>(NO i).trans (bR pure q)
theorem bl6{lv cs ts one dI bZ aY y}(h:(bd gn j).k Y (.comp lv cs ts one dI bZ aY) y=ah):∃e g,(bd gn j).e (.comp lv cs ts one dI bZ aY) y=.ListComp e g (pB y) y.pos:=by
 induction j using ji with
 |zero=>exact(rq h).elim
 |succ j=>exact⟨_,_,rfl⟩
theorem bl7{lv cs x1 uw x2 pV bZ aY y}(h:(bd gn j).k Y (.qJ lv cs x1 uw x2 pV bZ aY) y=ah):∃e g,(bd gn j).e (.qJ lv cs x1 uw x2 pV bZ aY) y=.ListComp e g (pB y) y.pos:=by
 induction j using ji with
 |zero=>exact(rq h).elim
 |succ j=>exact⟨_,_,rfl⟩
theorem bl8(B:xB f)(b4:yR f T gn)(c:tO f n T.fn){m j:H}{x:ai}{p qj:gq}{e:PE}{y:aT}{Z:St}{k:dZ->St->Prop}(h:bz ((bd gn j).k Y e y) (match e with| .comp ..=>ah| .qJ ..=>ah|X=>Ue Y x p ((bd gn j).e e y))=ah)
  (hv:(vc T m).e e Z λv Z=>kZ x v Z λZ=>k .next Z):W1 f Y n (.Assign [.Name x p] ((bd gn j).e e y) qj) Z k:=by
 have ih:=NN B b4 c m j;have g:=ih.e _ _ _ (ck h) _ _ hv;induction e using Wm.PE.casesOn with
 |comp=>obtain⟨_,_,q⟩:=bl6 (ck h);exact tt q g λhs=>bl4 B b4 c (ck h) hs hv
 |qJ=>obtain⟨_,_,q⟩:=bl7 (ck h);exact tt q g λhs=>bl5 B b4 c (ck h) hs hv
 |_=>exact tj g (bk8 (bf h))
theorem bl9(B:xB f)(b4:yR f T gn)(c:tO f n T.fn)(II:tm f Y n (vc T m) Bb Ba)(p:PS)(s:eg)(h:aS (bd gn j) Ba Y p s=ah)(Z:St)(k:dZ->St->Prop)(hv:Sk T (vc T m) p Z k):W1 f Y n (bS (bd gn j) Bb p s) Z k:=by
 have ih:=NN (f:=f) (n:=n) B b4 c m j;induction p using Wm.PS.casesOn with
 |ret e=>exact aQ6 (ih.e _ _ _ h _ _ hv)
 |ex e=>exact aQ8 (ih.e _ _ _ (ck h) _ _ hv) (bf h)
 |asg x e=>exact bl8 B b4 c h hv
 |pW xs e=>exact aR4 (ih.e _ _ _ (ck h) _ _ hv) IF (ck (bf h)) (bf (bf h))
 |vF xs es=>exact aR7 (EZ ih (ck h) _ _ hv) IF (bf h)
 |dm a x e=>exact aR1 ((ih.e _ _ _ (ck h) _ _ hv).mono λv aI h'=>ih.e _ _ _ (bf h) _ _ h')
 |ye a i e=>exact aR2 ((ih.e _ _ _ (ck h) _ _ hv).mono λv aI h'=>(ih.e _ _ _ (ck (bf h)) _ _ h').mono λw b3 h'=>ih.e _ _ _ (bf (bf h)) _ _ h')
 |aug x e=>exact aQ9 (bl2 hv λv h'=>ih.e _ _ _ h _ _ h')
 |ite t a c=>exact aQ7 ((ih.t _ _ _ (ck h) _ _ hv).mono λq aI h'=>by
   induction q with
   |true=>exact II _ _ (ck (bf h)) _ _ h'
   |false=>exact II _ _ (bf (bf h)) _ _ h')
 |«for» fg ts one dI body=>exact aS4 ((E0 ih B (ck (bf h)) hv).mono λds aI h'=>bk9 (II _ _ (bf (bf h))) (by rw[yt,yy]at h';exact h')) (Uc (ck h)) (AJ (CA ih))
 |DO fg x y pa pb body=>exact bi5 (fg:=fg) ((ih.e _ _ _ (ck (bf h)) _ _ hv).mono λva aI h'=>(ih.e _ _ _ (ck (bf (bf h))) _ _ h').mono λvb b3 h'=>xA h' λvs h'=>xA h' λws h'=>bl3 (II _ _ (bf (bf (bf h)))) (by rw[yt,yy]at h';exact h')) IF B.zip (NF (ck h)) (NL ih (l:=[pa,pb]) (xs:=[_,_]))
 |sW fg t body=>
  have hv:=(yt _ _).mp hv;refine b_ hv λbG hx=>?_;refine b_ hx λj hx=>?_;have h0:=hx.1;have hI:=hx.2;exact aS6 bG j h0 λj b9 hi=>(ih.t _ _ _ (ck h) _ _ (hI j b9 hi)).mono λq aI h'=>by
   induction q with
   |true=>exact(II _ _ (bf h) _ _ h').mono λfl b3 h'=>by cases fl<;>exact h'
   |false=>exact h'
 |raise=>exact hv.elim
theorem bm0(h1:∀p s,a p s=ah->∀Z k,Sk T ev p Z k->W1 f Y n (g p s) Z k):∀{ss:J eg},Uh a l ss=ah->∀Z k,l8 T ev l Z k->WS f Y n (Ug g l ss) Z k:=by
 induction l with
 |nil=>exact λI Z k h=>aQ4 h
 |cons p l go=>
  refine λh Z k hv=>aQ5 ((h1 _ _ (ck h) _ _ hv).mono λfl aI h'=>?_);induction fl with
  |next=>exact go (bf h) _ _ (Tf (show rO aI (λZ=>l8 T ev l Z k)from h'))
  |_=>exact h'
theorem bm1(B:xB f)(b4:yR f T gn)(c:tO f n T.fn)(m:H):∀j,tm f Y n (vc T m) (bB gn j) (aB gn Y j):=by
 induction m with
 |zero=>exact λX I u2 u3 u4 u5 h=>h.elim
 |succ m go=>
  intro j;induction j using ji with
  |zero=>exact λX I h u2 u3 u4=>(rq h).elim
  |succ j=>exact λX I h u2 u3 hv=>bm0 (bl9 B b4 c (go j)) h _ _ hv
end
section
open Wh (sA sM look rJ qI cu hF)
noncomputable def kL:J (H×H):=[(20,0),(21,0),(34,2),(35,2),(54,3),(55,3),(57,3),(58,3),(73,4),(74,4),(76,4),(77,4),(88,5),(89,5),(99,7),(105,7),(106,7),(112,7),(113,7),(119,7),(120,7),(126,7),(127,7),(133,7),(134,7),(140,7),(141,7),(147,7),(148,7),(154,7),(155,7),(161,7),(162,7),(168,7),(169,7),(175,7),(176,7),(182,7),(183,7),(189,7),(190,7),(196,7),(197,7),(203,7),(204,7),(206,7),(207,7),(224,8),(225,8),(231,8),(232,8),(238,8),(239,8),(245,8),(246,8),(252,8),(253,8),(259,8),(260,8),(266,8),(267,8),(273,8),(274,8),(276,8),(277,8),(287,9),(288,9),(294,10),(295,10),(296,11),(302,11),(303,11),(304,15),(310,18),(311,18),(317,19),(318,19),(324,20),(325,20),(338,21),(339,21),(345,21),(346,21),(352,21),(353,21),(355,21),(356,21),(361,73),(362,73),(363,73),(364,73),(365,73),(366,73),(367,73),(368,73),(369,73),(370,73),(371,73),(372,73),(373,73),(374,74),(375,74),(376,74),(377,74),(378,74),(379,74),(380,74),(381,74),(382,75),(383,75),(384,75),(385,75),(386,75),(387,75),(388,75),(389,75),(390,75),(391,76),(392,76),(393,76),(394,77),(395,77),(396,77),(397,77),(398,77),(399,77),(400,77),(401,77),(402,77),(403,77),(404,77),(405,77),(406,77),(407,77),(408,77),(409,77),(410,77),(411,77),(412,77),(413,77),(414,77),(415,77),(416,77),(417,77),(418,77),(419,77),(420,77),(421,77),(422,77),(423,77),(424,77),(425,77),(426,77),(427,77),(428,77),(429,77),(430,77),(436,78),(437,78),(443,79),(444,79),(450,80),(451,80),(455,81),(456,81),(469,86),(470,86),(476,86),(477,86),(479,86),(480,86),(497,87),(498,87),(504,87),(505,87),(507,87),(508,87),(525,88),(526,88),(532,88),(533,88),(535,88),(536,88),(553,89),(554,89),(558,89),(559,89),(561,89),(562,89),(579,90),(580,90),(586,90),(587,90),(589,90),(590,90),(607,91),(608,91),(614,91),(615,91),(617,91),(618,91),(635,92),(636,92),(642,92),(643,92),(647,92),(648,92),(654,92),(655,92),(661,92),(662,92),(668,92),(669,92),(675,92),(676,92),(682,92),(683,92),(689,92),(690,92),(696,92),(697,92),(703,92),(704,92),(710,92),(711,92),(715,92),(716,92),(722,92),(723,92),(729,92),(730,92),(732,92),(733,92),(741,93),(742,93),(746,94),(747,94),(753,99),(754,99),(760,100),(761,100),(767,101),(768,101),(774,102),(775,102),(781,103),(782,103),(788,104),(789,104),(795,105),(796,105),(802,106),(803,106),(809,107),(810,107),(816,108),(817,108),(823,109),(824,109),(830,110),(831,110),(837,111),(838,111),(844,112),(845,112),(851,113),(852,113),(858,114),(859,114),(865,115),(866,115),(870,116),(871,116),(877,117),(878,117),(884,118),(885,118),(891,119),(892,119),(898,120),(899,120),(905,121),(906,121),(912,122),(913,122),(919,123),(920,123),(926,124),(927,124),(933,125),(934,125),(940,126),(941,126),(947,127),(948,127),(952,128),(953,128),(954,133),(955,134),(961,139),(962,139),(968,140),(969,140),(975,141),(976,141),(982,142),(983,142),(989,143),(990,143),(996,144),(997,144),(1003,145),(1004,145),(1010,146),(1011,146),(1017,147),(1018,147),(1024,148),(1025,148),(1031,149),(1032,149),(1038,150),(1039,150),(1045,151),(1046,151),(1052,152),(1053,152),(1059,153),(1060,153),(1066,154),(1067,154),(1073,155),(1074,155),(1080,156),(1081,156),(1087,157),(1088,157),(1094,158),(1095,158),(1101,159),(1102,159),(1108,160),(1109,160),(1115,161),(1116,161),(1122,162),(1123,162),(1127,163),(1128,163),(1134,164),(1135,164),(1141,165),(1142,165),(1155,166),(1156,166),(1162,166),(1163,166),(1169,166),(1170,166),(1176,166),(1177,166),(1183,166),(1184,166),(1190,166),(1191,166),(1193,166),(1194,166),(1199,167),(1205,167),(1206,167),(1212,169),(1213,169),(1219,170),(1220,170),(1224,171),(1225,171),(1231,172),(1232,172),(1238,173),(1239,173),(1245,174),(1246,174),(1252,175),(1253,175),(1259,176),(1260,176),(1266,177),(1267,177),(1271,178),(1272,178),(1278,179),(1279,179),(1285,180),(1286,180),(1290,181),(1291,181),(1297,182),(1298,182),(1304,183),(1305,183),(1311,184),(1312,184),(1316,185),(1317,185),(1323,186),(1324,186),(1328,187),(1329,187),(1335,188),(1336,188),(1340,189),(1341,189),(1345,190),(1346,190),(1352,191),(1353,191),(1359,192),(1360,192),(1366,193),(1367,193),(1371,194),(1372,194),(1376,195),(1377,195),(1383,196),(1384,196),(1390,197),(1391,197),(1397,198),(1398,198),(1404,199),(1405,199),(1409,200),(1410,200),(1414,201),(1415,201),(1419,202),(1420,202),(1424,203),(1425,203),(1431,204),(1432,204),(1438,205),(1439,205),(1443,206),(1444,206),(1448,207),(1449,207),(1455,208),(1456,208)]
def kF(P:fG):qB:=kL.map λp=>(p.1,(look p.1 (rJ P p.2)).getD default)
def kOk(P:fG)(p:H×H):aD:=oB (look p.1 (rJ P p.2)) λo=>bz (k6 (qI p.1)) (bz o.alive (Nat.blt p.2 209))
theorem bm2(P:fG):kP (kOk P) kL=ah:=by kernel_rfl
variable{w:bU}{bJ s:aE}
theorem Ul(x:cu w bJ s):(kF w.params).In s.heap:=λa o e=>by have m:=mem_of_lookupK e;obtain⟨p,h1,h2⟩:=qA.mp m;obtain⟨o',hl,q⟩:=Ln (lE (bm2 w.params) _ h1);have h2:(p.1,(look p.1 (rJ w.params p.2)).getD default)=(a,o):=h2;obtain⟨e1,e2⟩:=KA h2;have e3:o'=o:=(bR (al4 · default) hl).symm.trans e2;exact e1▸e3▸x.Q_ p.2 (Nat.ble_eq.mp (bf (bf q))) hl (yQ.mp (ck q)) (ck (bf q))
noncomputable def NP(a b:bq (bq aA)):aD:=decide (a=b)
def bm3(K:qB)(c:aR)(x:ai):aD:=bz (Xs K c x) (bz (hasDictIn K c) (bz (oB (Dk K (.ref c) x) (noGet K))
 (bz (NP (Dk K (.ref c) "__setattr__") (N (N (.builtin "object.__setattr__")))) (bz (ak8 K c) (NP (takerIn K c x) (N ao))))))
theorem bm4(P:fG):kP (λp=>kP (λx=>bm3 (kF P) p.1 x) p.2) Zm=ah:=by kernel_rfl
end
section
open Wh (sA sM look rJ qI cu hF)
noncomputable def YB:Data->aD
 | .func X=>ah
 |X=>ak
theorem bm5{d:Data}(h:YB d=ah):∃fd,d=.func fd:=by
 induction d with
 |func fd=>exact⟨fd,rfl⟩
 |_=>exact gr h
def bm6(K:qB)(c:aR)(x:ai)(a:aR):aD:=bz (Xs K c x) (bz (NP (Dk K (.ref c) x) (N (N (.ref a)))) (bz (decide (Xu K (.ref a)=N (.type "function")))
 (bz (oB (K.lookup a) λo=>YB o.data) (k6 (vJ c x)))))
theorem bm7(P:fG):kP (λp=>kP (λq=>bm6 (kF P) p.1 q.1 q.2) p.2) Zn=ah:=by kernel_rfl
theorem NQ{α:Type}{x:H}{a:α}{l:J (H×α)}:wY x l=N a->(x,a)∈l:=by
 induction l with
 |nil=>exact λh=>nomatch h
 |cons p l ih=>
  have go:∀q,bX x p.1=q->(match q with|true=>N p.2|false=>wY x l)=N a->(x,a)∈p::l:=λq e h=>by
   cases q
   ·exact .tail _ (ih h)
   ·rw[mV e,<-fW h];exact .head _
  exact go _ rfl
theorem bm8{P:fG}{c:aR}{x:ai}(h:vJ c x=ah):cb (kF P) c x:=by refine b_ (Ln h) λl hx=>?_;have e:=hx.1;have m:=hx.2;have q:=lE (lE (bm4 P) _ (NQ e)) x (T7 m);have q2:=bf (bf (bf q));exact⟨ck q,ck (bf q),Ln (ck (bf (bf q))),gy (ck q2),ck (bf q2),gy (bf (bf q2))⟩
theorem bm9{P:fG}{c:aR}{x:ai}{a:aR}(h:GV c x=N a):cc (kF P) c x a:=by refine b_ (aj1.mp h) λl hx=>?_;have e:=hx.1;have m:=hx.2;have q:=lE (lE (bm7 P) _ (NQ e)) _ (B_ m);have q2:=bf (bf q);exact⟨ck q,gy (ck (bf q)),gy (ck q2),(Ln (ck (bf q2))).elim λo z=>(bm5 z.2).elim λfd y=>⟨o,fd,z.1,y⟩,yQ.mp (bf (bf q2))⟩
noncomputable def DJ:J jN->J (ai×aA)
 |[]=>[]
 |e::r=>(match e.key with| .str x X=>(x,e.val)::DJ r|X=>DJ r)
theorem bn0{l:J jN}:nsFind l.toArray x=cG x (DJ l):=by
 have go:(l.find? λe=>e.key.isStr x).map (·.val)=cG x (DJ l):=by
  induction l with
  |nil=>rfl
  |cons e l ih=>
   obtain⟨h,k,v⟩:=e;induction k with
   |str y t=>exact B7 (P:=λo=>Di (·.val) (List.find? (λe=>e.key.isStr x) (⟨h,.str y t,v⟩::l))=o) (λq=>bR (Di (·.val)) (List.find?_cons_of_pos (p:=λe:jN=>e.key.isStr x) (EC.mpr q.symm))) λq=>(bR (Di (·.val)) (List.find?_cons_of_neg (p:=λe:jN=>e.key.isStr x) λz=>q (EC.mp z).symm)).trans ih
   |_=>exact ih
 rw[<-go];unfold nsFind wC;rw[al9]
def IJ(P:fG):J (ai×aA):=DJ (match(Wh.K2 P (Wh.kT.getD 209 0) (Wh.vN.getD (Wh.vT.getD 209 0) .none)).data with| .dict es X=>es.toList|X=>[])
def Um(g:aA->bq D)(c:aA)(ws:cT aA):bq D:=if ws.size<=1000 then(if c=.type "tuple" then(rP g ws.toList).map .tup else if c=.type "list" then(rP g ws.toList).map .list else ao)else ao
noncomputable def NR{α:Type}(o:fH)(d:α)(g:aA->cT aA->α)(h:aA->cT jN->α):α:=match o.dict with
 |none=>(match o.data with
  | .seq ws X=>if o.slots=#[]then g o.cls ws else d
  | .dict es X=>if o.slots=#[]then h o.cls es else d
  |X=>d)
 |some X=>d
def toD(K:qB)(n:H):aA->bq D:=Nat.rec (λX=>ao) (λX ih v=>match v with
 | .none=>N .none
 | .bool b=>N (.bool b)
 | .int i X=>N (.int i)
 | .str x X=>N (.str x)
 | .bytes b X=>if b.size<=1000 then N (.bytes (b.toList.map iY))else ao
 | .ref a=>(match K.lookup a with
  |some o=>NR o (N (.glob a)) (Um ih) λX I=>N (.glob a)
  |none=>N (.glob a))
 |X=>ao) n
def tx(K:qB)(e:jN):bq (aa×D):=match e.key with
 | .int i X=>if e.hash=Xr i then(toD K 4 e.val).map (i,·)else ao
 |X=>ao
def YC(K:qB)(v:aA):bq V:=match v with
 | .ref a=>(match K.lookup a with
  |some o=>NR o ((toD K 5 v).map .d) (λX I=>(toD K 5 v).map .d) λc es=>if c=.type "dict" /\(a==xZ)=ak then(rP (tx K) es.toList).map .nO else ao
  |none=>(toD K 5 v).map .d)
 |X=>(toD K 5 v).map .d
theorem tz{α:Type}{P:α->Prop}{c:Prop}[i:Xc c]{a b:α}(h:c->P a)(g:¬c->P b):P (ite c a b):=i.rec (motive:=λi=>P (@ite α c i a b)) g h
theorem tA{α:Type}{P:α->Prop}{o:fH}{d:α}{g:aA->cT aA->α}{h:aA->cT jN->α}(kg:∀ws n,o=⟨o.cls,ao,.seq ws n,#[]⟩->P (g o.cls ws))(kh:∀es n,o=⟨o.cls,ao,.dict es n,#[]⟩->P (h o.cls es))(kd:P d):P (NR o d g h):=by
 obtain⟨c,dt,da,sl⟩:=o;induction dt with
 |some X=>exact kd
 |none=>induction da with
  |seq ws n=>exact tz (P:=P) (λe=>kg ws n (e▸rfl)) λX=>kd
  |dict es n=>exact tz (P:=P) (λe=>kh es n (e▸rfl)) λX=>kd
  |_=>exact kd
theorem tI{α β:Type}{g:α->bq β}{l:J α}:∀{m},rP g l=N m->L2 (λb a=>g a=N b) m l:=by
 induction l with
 |nil=>exact λe=>fW e▸ .nil
 |cons a l ih=>
  intro m;have go:∀q,g a=q->(match q with|some x=>(rP g l).map (x::·)|none=>ao)=N m->L2 (λb a=>g a=N b) m (a::l):=λq e h=>by
   induction q with
   |none=>cases h
   |some x=>exact(wm.mp h).elim λr h=>h.2▸ .cons e (ih h.1)
  exact go _ rfl
variable{K:qB}{h:dH}
theorem bn1{g:aA->bq D}(hg:∀v d,g v=N d->DR h.get? d v){c:aA}{ws:cT aA}{a:aR}{n:H}{d:D}(e:h.get? a=N ⟨c,ao,.seq ws n,#[]⟩)(q:Um g c ws=N d):DR h.get? d (.ref a):=by
 have all:∀{ds},rP g ws.toList=N ds->ws.size<=1000->eU h.get? ds ws.toList/\ds.length<=1048576:=λq l=>by have z:=(tI q).imp λd v=>hg v d;exact⟨z,z.length▸bN l (by decide)⟩
 unfold Um at q
 by_cases l:ws.size<=1000
 ·rw[dM l]at q
  by_cases h1:c=.type "tuple"
  ·rw[dM h1]at q
   refine b_ (wm.mp q) λds hx=>?_;have q1:=hx.1;have q2:=hx.2;exact q2▸ .tup (h1▸e) (all q1 l).1 (all q1 l).2
  ·rw[cF h1]at q
   by_cases h2:c=.type "list"
   ·rw[dM h2]at q
    refine b_ (wm.mp q) λds hx=>?_;have q1:=hx.1;have q2:=hx.2;exact q2▸ .list (h2▸e) (all q1 l).1 (all q1 l).2
   ·rw[cF h2]at q;cases q
 ·rw[cF l]at q;cases q
theorem Gw{P:bq D->Prop}{f:fH->bq D}{d:bq D}{a:aR}(ff:K.In h)(k:∀o,h.get? a=N o->P (f o))(kd:P d):P (match K.lookup a with|some o=>f o|none=>d):=by
 have go:∀z,K.lookup a=z->P (match z with|some o=>f o|none=>d):=λz e=>by
  induction z with
  |none=>exact kd
  |some o=>exact k o (ff _ _ e)
 exact go _ rfl
theorem tJ(ff:K.In h)(n:H):∀v d,toD K n v=N d->DR h.get? d v:=by
 induction n with
 |zero=>exact λX I e=>nomatch e
 |succ n ih=>
  intro v d e;induction v with
  |none=>exact fW e▸ .none
  |bool b=>exact fW e▸ .bool
  |int b=>exact fW e▸ .int
  |str b=>exact fW e▸ .str
  |bytes b t=>
   have e:(if b.size<=1000 then N (D.bytes (b.toList.map iY))else ao)=N d:=e
   by_cases l:b.size<=1000
   ·rw[dM l]at e;exact fW e▸ .bytes (bN l (by decide))
   ·rw[cF l]at e;cases e
  |ref a=>have gl:N (D.glob a)=N d->DR h.get? d (.ref a):=λe=>fW e▸ .glob;exact Gw (P:=λq=>q=N d->_) ff (λo eo=>tA (P:=λq=>q=N d->_) (λws n z=>bn1 ih (eo.trans (bR N z))) (λX I u2=>gl) gl) gl e
  |_=>cases e
theorem bn2{w:bU}(ff:K.In h){v:aA}{x:V}(e:YC K v=N x):VR w [] h.get? x v:=by
 have dd:(toD K 5 v).map V.d=N x->VR w [] h.get? x v:=λe=>(wm.mp e).elim λd e=>e.2▸ .d (tJ ff 5 v d e.1);induction v with
 |ref a=>
  have go:∀z,K.lookup a=z->(match z with|some o=>NR o ((toD K 5 (.ref a)).map V.d) (λX I=>(toD K 5 (.ref a)).map V.d) λc es=>if c=.type "dict" /\(a==xZ)=ak then(rP (tx K) es.toList).map .nO else ao|none=>(toD K 5 (.ref a)).map V.d)=N x->VR w [] h.get? x (.ref a):=λz q=>by
   induction z with
   |none=>exact dd
   |some o=>
    refine tA (P:=λq=>q=N x->_) (λX I u2=>dd) (λes n eo e=>?_) dd;by_cases c:o.cls=.type "dict" /\(a==xZ)=ak
    ·rw[dM c]at e
     refine b_ (wm.mp e) λl hx=>?_;have e1:=hx.1;have e2:=hx.2;refine e2▸ .nO (es:=es.toList) (n:=n) ((ff _ _ q).trans (bR N (eo.trans ?_))) ((tI e1).imp λp en g=>?_) c.2
     ·rw[c.1]
     ·obtain⟨hh,k,u⟩:=en;induction k with
      |int i t=>
       have g:(if hh=Xr i then(toD K 4 u).map (i,·)else ao)=N p:=g
       by_cases q:hh=Xr i
       ·rw[dM q]at g
        exact(wm.mp g).elim λd g=>g.2▸q▸ .mk (qy i) (tJ ff 4 u d g.1)
       ·rw[cF q]at g;cases g
      |_=>cases g
    ·rw[cF c]at e;cases e
  exact go _ rfl e
 |_=>exact dd e
def dP:J (ai×V):=[((az [67,117,114,115,111,114]),.d (.glob qf)),
 ((az [116,101,120,116,95,111,102]),.d (.glob Lu)),
 ((az [117,116,102,56,95,111,102]),.d (.glob Lr)),
 ((az [104,101,97,100,95,111,102]),.d (.glob Ls)),
 ((az [77,65,71,73,67]),.d (.bytes [0,97,115,109])),
 ((az [86,69,82,83,73,79,78]),.d (.bytes [1,0,0,0])),
 ((az [114,101,97,100,95,104,101,97,100]),.d (.glob Lv)),
 ((az [76,65,83,84,95,83,69,67,84,73,79,78]),.d (.int 12)),
 ((az [67,85,83,84,79,77]),.d (.int 0)),
 ((az [80,76,65,67,69,83]),.d (.tup [.int 1,.int 2,.int 3,.int 4,.int 5,.int 6,.int 7,.int 8,.int 9,.int 12,.int 10,.int 11])),
 ((az [78,85,77,66,69,82,83]),.d (.tup [.tup [.int 69,.int 69,.tup [.int (-1)],.tup [.int (-1)]],.tup [.int 70,.int 79,.tup [.int (-1),.int (-1)],.tup [.int (-1)]],.tup [.int 80,.int 80,.tup [.int (-2)],.tup [.int (-1)]],.tup [.int 81,.int 90,.tup [.int (-2),.int (-2)],.tup [.int (-1)]],.tup [.int 103,.int 105,.tup [.int (-1)],.tup [.int (-1)]],.tup [.int 106,.int 120,.tup [.int (-1),.int (-1)],.tup [.int (-1)]],.tup [.int 121,.int 123,.tup [.int (-2)],.tup [.int (-2)]],.tup [.int 124,.int 138,.tup [.int (-2),.int (-2)],.tup [.int (-2)]],.tup [.int 167,.int 167,.tup [.int (-2)],.tup [.int (-1)]],.tup [.int 172,.int 173,.tup [.int (-1)],.tup [.int (-2)]],.tup [.int 192,.int 193,.tup [.int (-1)],.tup [.int (-1)]],.tup [.int 194,.int 196,.tup [.int (-2)],.tup [.int (-2)]]])),
 ((az [70,79,82,77,83]),.nO [(0,(.str qe)),(1,(.str qe)),(2,(.str Ae)),(3,(.str Ae)),(4,(.str Ae)),(5,(.str qe)),(11,(.str qe)),(12,(.str DY)),(13,(.str DY)),(14,(.str DZ)),(15,(.str qe)),(16,(.str BD)),(17,(.str BE)),(18,(.str BD)),(19,(.str BE)),(26,(.str qe)),(27,(.str qe)),(28,(.str DX)),(32,(.str BF)),(33,(.str BF)),(34,(.str BF)),(35,(.str DU)),(36,(.str DU)),(37,(.str ym)),(38,(.str ym)),(63,(.str BG)),(64,(.str BG)),(65,(.str DV)),(66,(.str DW)),(208,(.str D4)),(209,(.str qe)),(210,(.str BD)),(64520,(.str D3)),(64521,(.str GS)),(64522,(.str BH)),(64523,(.str BG)),(64524,(.str D6)),(64525,(.str GU)),(64526,(.str D5)),(64527,(.str ym)),(64528,(.str ym)),(64529,(.str ym))]),
 ((az [76,79,65,68,83]),.nO [(40,(.tup [.int (-1),.int 4,.int 0])),(41,(.tup [.int (-2),.int 8,.int 0])),(44,(.tup [.int (-1),.int 1,.int 1])),(45,(.tup [.int (-1),.int 1,.int 0])),(46,(.tup [.int (-1),.int 2,.int 1])),(47,(.tup [.int (-1),.int 2,.int 0])),(48,(.tup [.int (-2),.int 1,.int 1])),(49,(.tup [.int (-2),.int 1,.int 0])),(50,(.tup [.int (-2),.int 2,.int 1])),(51,(.tup [.int (-2),.int 2,.int 0])),(52,(.tup [.int (-2),.int 4,.int 1])),(53,(.tup [.int (-2),.int 4,.int 0]))]),
 ((az [83,84,79,82,69,83]),.nO [(54,(.tup [.int (-1),.int 4])),(55,(.tup [.int (-2),.int 8])),(58,(.tup [.int (-1),.int 1])),(59,(.tup [.int (-1),.int 2])),(60,(.tup [.int (-2),.int 1])),(61,(.tup [.int (-2),.int 2])),(62,(.tup [.int (-2),.int 4]))]),
 ((az [110,117,109,98,101,114,95,107,105,110,100]),.d (.glob Ly)),
 ((az [66,76,79,67,75]),.d (.int 2)),
 ((az [76,79,79,80]),.d (.int 3)),
 ((az [73,70]),.d (.int 4)),
 ((az [86,69,67,84,79,82,95,80,82,69,70,73,88]),.d (.int 253)),
 ((az [76,69,70,84,95,82,65,78,71,69,83]),.d (.list [.tup [.int 42,.int 43],.tup [.int 56,.int 57],.tup [.int 67,.int 68],.tup [.int 91,.int 102],.tup [.int 139,.int 166],.tup [.int 168,.int 171],.tup [.int 174,.int 191],.tup [.int 64512,.int 64519]])),
 ((az [112,97,114,116,115,95,111,102]),.d (.glob LD)),
 ((az [77,69,77,79,82,89,95,73,78,73,84]),.d (.int 64520)),
 ((az [68,65,84,65,95,68,82,79,80]),.d (.int 64521)),
 ((az [83,69,86,69,78]),.d (.int 127)),
 ((az [112,117,116,95,107,105,110,100]),.d (.glob w4)),
 ((az [70,85,78,67,95,70,79,82,77]),.d (.int 96)),
 ((az [112,117,116,95,107,105,110,100,115]),.d (.glob G6)),
 ((az [112,117,116,95,108,105,109,105,116,115]),.d (.glob G7)),
 ((az [112,117,116,95,116,97,98,108,101,95,107,105,110,100]),.d (.glob BO)),
 ((az [112,117,116,95,109,101,109,111,114,121,95,107,105,110,100]),.d (.glob BQ)),
 ((az [112,117,116,95,103,108,111,98,97,108,95,107,105,110,100]),.d (.glob G8)),
 ((az [119,114,105,116,101,95,98,111,100,121]),.d (.glob BS)),
 ((az [80,82,69,70,73,88,69,68]),.d (.int 64512)),
 ((az [77,65,78,89,95,80,82,69,70,73,88]),.d (.int 252)),
 ((az [112,117,116,95,98,108,111,99,107,95,107,105,110,100]),.d (.glob LG)),
 ((az [112,117,116,95,110,117,109,98,101,114,115]),.d (.glob G9)),
 ((az [102,111,114,109,95,111,102]),.d (.glob D7)),
 ((az [112,117,116,95,99,111,100,101]),.d (.glob LH)),
 ((az [112,117,116,95,105,109,109,101,100,105,97,116,101,115]),.d (.glob LI)),
 ((az [112,117,116,95,105,110,115,116,114,117,99,116,105,111,110]),.d (.glob LJ)),
 ((az [82,69,70,95,70,85,78,67]),.d (.int 210)),
 ((az [69,78,68]),.d (.int 11)),
 ((az [102,117,110,99,95,105,110,100,101,120,95,111,102]),.d (.glob LK)),
 ((az [70,85,78,67,82,69,70]),.d (.int (-16))),
 ((az [65,67,84,73,86,69]),.d (.int 1)),
 ((az [80,65,83,83,73,86,69]),.d (.int 0)),
 ((az [68,69,67,76,65,82,69,68]),.d (.int 2)),
 ((az [114,117,110,115,95,111,102]),.d (.glob LL)),
 ((az [83,105,110,107]),.d (.glob qN)),
 ((az [112,117,116,95,108,111,99,97,108,115]),.d (.glob LN)),
 ((az [104,97,115,95,100,97,116,97,95,117,115,101]),.d (.glob G5)),
 ((az [105,115,95,119,114,105,116,116,101,110]),.d (.glob uE)),
 ((az [112,117,116,95,108,105,115,116]),.d (.glob G_)),
 ((az [112,117,116,95,102,117,110,99,95,107,105,110,100]),.d (.glob D9)),
 ((az [112,117,116,95,105,109,112,111,114,116]),.d (.glob D_)),
 ((az [112,117,116,95,102,117,110,99,95,105,110,100,101,120]),.d (.glob Eg)),
 ((az [112,117,116,95,103,108,111,98,97,108]),.d (.glob Eb)),
 ((az [112,117,116,95,101,120,112,111,114,116]),.d (.glob Ea)),
 ((az [112,117,116,95,101,108,101,109]),.d (.glob Ec)),
 ((az [112,117,116,95,102,117,110,99]),.d (.glob Ef)),
 ((az [112,117,116,95,100,97,116,97]),.d (.glob Ed)),
 ((az [112,117,116,95,99,111,110,116,101,110,116]),.d (.glob LO)),
 ((az [98,101,104,105,110,100,95,111,102]),.d (.glob Hf)),
 ((az [112,117,116,95,99,117,115,116,111,109,115]),.d (.glob LQ)),
 ((az [112,117,116,95,115,101,99,116,105,111,110]),.d (.glob LP)),
 ((az [70,76,79,65,84,83]),.d (.tup [.int (-3),.int (-4)])),
 ((az [86,69,67,84,79,82]),.d (.int (-5))),
 ((az [119,97,110,116,95,107,101,112,116]),.d (.glob LS)),
 ((az [73,51,50]),.d (.int (-1))),
 ((az [73,54,52]),.d (.int (-2))),
 ((az [69,88,84,69,82,78,82,69,70]),.d (.int (-17))),
 ((az [116,111,108,100,95,107,105,110,100]),.d (.glob Hg)),
 ((az [108,105,115,116,95,97,116]),.d (.glob w5)),
 ((az [107,105,110,100,95,97,116]),.d (.glob Ei)),
 ((az [114,101,102,95,107,105,110,100,95,97,116]),.d (.glob Ej)),
 ((az [108,105,109,105,116,115,95,97,116]),.d (.glob Hh)),
 ((az [73,109,112,111,114,116]),.d (.glob Af)),
 ((az [116,97,98,108,101,95,107,105,110,100,95,97,116]),.d (.glob Hi)),
 ((az [109,101,109,111,114,121,95,107,105,110,100,95,97,116]),.d (.glob Hj)),
 ((az [103,108,111,98,97,108,95,107,105,110,100,95,97,116]),.d (.glob Hl)),
 ((az [71,108,111,98,97,108]),.d (.glob Ah)),
 ((az [99,111,110,115,116,97,110,116,95,97,116]),.d (.glob BU)),
 ((az [69,77,80,84,89,95,79,67,84,69,84]),.d (.int 64)),
 ((az [69,77,80,84,89]),.d (.int (-64))),
 ((az [71,82,69,65,84,69,83,84,95,65,76,73,71,78]),.d (.int 31)),
 ((az [105,110,100,101,120,95,97,116]),.d (.glob Eh)),
 ((az [98,108,111,99,107,95,107,105,110,100,95,97,116]),.d (.glob LY)),
 ((az [109,101,109,97,114,103,95,97,116]),.d (.glob L1)),
 ((az [102,105,114,115,116,95,105,109,109,101,100,105,97,116,101,115,95,97,116]),.d (.glob L4)),
 ((az [108,97,98,101,108,115,95,97,116]),.d (.glob L3)),
 ((az [119,97,110,116,95,122,101,114,111]),.d (.glob LZ)),
 ((az [76,65,83,84,95,83,85,66]),.d (.int 17)),
 ((az [105,115,95,108,101,102,116,95,111,117,116]),.d (.glob LA)),
 ((az [66,79,68,89]),.d (.int 0)),
 ((az [99,111,100,101,95,97,116]),.d (.glob L6)),
 ((az [69,76,83,69]),.d (.int 5)),
 ((az [68,65,84,65,95,67,79,68,69,83]),.d (.tup [.int 64520,.int 64521])),
 ((az [105,109,109,101,100,105,97,116,101,115,95,97,116]),.d (.glob L5)),
 ((az [105,115,95,98,108,111,99,107]),.d (.glob Lz)),
 ((az [98,111,100,121,95,97,116]),.d (.glob Ho)),
 ((az [101,108,101,109,95,107,105,110,100,95,97,116]),.d (.glob L7)),
 ((az [69,108,101,109]),.d (.glob Ai)),
 ((az [68,97,116,97]),.d (.glob Aj)),
 ((az [71,82,69,65,84,69,83,84,95,67,79,85,78,84]),.d (.int 4294967295)),
 ((az [83,101,99,116,105,111,110,87,97,108,107]),.d (.glob BI)),
 ((az [77,111,100,117,108,101]),.d (.glob s7)),
 ((az [99,117,115,116,111,109,95,97,116]),.d (.glob Lw)),
 ((az [67,117,115,116,111,109]),.d (.glob yo)),
 ((az [119,97,110,116,95,106,117,115,116]),.d (.glob G4)),
 ((az [102,117,110,99,95,107,105,110,100,95,97,116]),.d (.glob LU)),
 ((az [105,109,112,111,114,116,95,97,116]),.d (.glob LV)),
 ((az [103,108,111,98,97,108,95,97,116]),.d (.glob LX)),
 ((az [101,120,112,111,114,116,95,97,116]),.d (.glob LW)),
 ((az [101,108,101,109,95,97,116]),.d (.glob L8)),
 ((az [100,97,116,97,95,97,116]),.d (.glob L_)),
 ((az [108,111,99,97,108,115,95,97,116]),.d (.glob Ma)),
 ((az [70,117,110,99]),.d (.glob Ag)),
 ((az [66,105,110,97,114,121,82,101,97,100,101,114]),.d (.glob BJ)),
 ((az [95,108,97,119,95,112,105,99,107]),.d (.glob ou)),
 ((az [95,108,97,119,95,107,105,110,100]),.d (.glob BV)),
 ((az [95,108,97,119,95,105,110,100,101,120]),.d (.glob uF)),
 ((az [95,108,97,119,95,114,111,119,115]),.d (.glob Hq)),
 ((az [95,108,97,119,95,115,105,103,110,101,100]),.d (.glob Ht)),
 ((az [95,108,97,119,95,98,108,111,99,107]),.d (.glob Mc)),
 ((az [95,108,97,119,95,107,105,110,100,115]),.d (.glob Hu)),
 ((az [95,108,97,119,95,110,101,120,116]),.d (.glob Al)),
 ((az [95,108,97,119,95,105,110,115,116,114,117,99,116,105,111,110]),.d (.glob Me)),
 ((az [95,108,97,119,95,108,105,109,105,116,115]),.d (.glob Hv)),
 ((az [95,108,97,119,95,110,97,109,101]),.d (.glob Hs)),
 ((az [95,108,97,119,95,98,111,100,121]),.d (.glob Mf)),
 ((az [95,108,97,119,95,99,111,110,115,116,97,110,116]),.d (.glob El)),
 ((az [95,108,97,119,95,109,97,110,121]),.d (.glob Mk)),
 ((az [95,108,97,119,95,105,109,112,111,114,116]),.d (.glob Mg)),
 ((az [95,108,97,119,95,102,117,110,99]),.d (.glob Mh)),
 ((az [95,108,97,119,95,101,108,101,109]),.d (.glob Mi)),
 ((az [95,108,97,119,95,100,97,116,97]),.d (.glob Mj)),
 ((az [95,108,97,119,95,115,101,99,116,105,111,110,115]),.d (.glob Hw)),
 ((az [95,108,97,119,95,103,114,111,117,112,115]),.d (.glob Hp)),
 ((az [95,108,97,119,95,102,114,101,101]),.d (.glob s9)),
 ((az [95,108,97,119,95,108,105,115,116]),.d (.glob w6)),
 ((az [95,108,97,119,95,110,97,109,101,115]),.d (.glob Hr)),
 ((az [95,108,97,119,95,108,101,116,116,101,114,115]),.d (.glob Mn)),
 ((az [95,108,97,119,95,107,105,110,100,115,95,116,111,108,100]),.d (.glob Hx)),
 ((az [95,108,97,119,95,111,119,110]),.d (.glob Mm)),
 ((az [95,108,97,119,95,119,111,114,100]),.d (.glob Em)),
 ((az [95,108,97,119,95,108,105,109,105,116,115,95,116,111,108,100]),.d (.glob Hy)),
 ((az [95,108,97,119,95,99,111,100,101]),.d (.glob BW)),
 ((az [95,108,97,119,95,105,109,112,111,114,116,95,116,111,108,100]),.d (.glob Mp)),
 ((az [95,108,97,119,95,101,108,101,109,95,116,111,108,100]),.d (.glob Mr)),
 ((az [95,108,97,119,95,102,117,110,99,95,116,111,108,100]),.d (.glob Mq)),
 ((az [95,108,97,119,95,100,97,116,97,95,116,111,108,100]),.d (.glob Ms)),
 ((az [95,108,97,119,95,115,101,99,116,105,111,110]),.d (.glob Mu)),
 ((az [95,108,97,119,95,97,108,108]),.d (.glob Hz)),
 ((az [95,108,97,119,95,101,108,101,109,95,102,105,101,108,100,115]),.d (.glob Mw)),
 ((az [95,108,97,119,95,109,111,100,117,108,101]),.d (.glob Ml)),
 ((az [95,108,97,119,95,102,105,101,108,100,115]),.d (.glob Mx)),
 ((az [95,108,97,119,95,111,99,116,101,116,115]),.d (.glob Mv)),
 ((az [119,114,105,116,101,95,109,111,100,117,108,101]),.d (.glob LR)),
 ((az [114,101,97,100,95,109,111,100,117,108,101]),.d (.glob Ek))]
def Un(P:fG)(y:ai):bq aA:=match cG y (IJ P)with|some v=>N v|none=>(hF P).nsMap wo y
theorem bn3(P:fG):dP.map (λp=>(Un P p.1).bind (YC (kF P)))=dP.map λp=>N p.2:=by kernel_rfl
variable{w:bU}{bJ s:aE}
theorem cu.bn4(x:cu w bJ s):s.heap.Ns qx (λy=>cG y (IJ w.params)):=by
 have e:s.heap.get? qx=N (Wh.K2 w.params (Wh.kT.getD 209 0) (Wh.vN.getD (Wh.vT.getD 209 0) .none)):=x.Y5 (by kernel_rfl) (by kernel_rfl)
 obtain⟨o,es,ep,h1,h2,h3,h4⟩:=Xq x.wV;have t0:=h1;rw[e]at t0
 cases t0;refine⟨_,es,ep,h1,h2,h3,λy=>?_⟩;have:IJ w.params=DJ es.toList:=by unfold IJ;rw[h2]
 rw[this];exact bn0 (l:=es.toList)
def aU(x:cu w bJ s):Cf where
 prog:=Wh.pw
 w:=w
 h0:=s.heap
 mg:=λy=>cG y (IJ w.params)
 mb:=(hF w.params).nsMap wo
 ng:=cu.bn4 x
 nb:=by rw[<-Wh.z6 x.g0];exact Xq ((Wh.z5 x.g0).trans (Wh.Y7 _))
 nl:=⟨(hF w.params).nsMap J3,by rw[<-Wh.z6 x.g2];exact Xq ((Wh.z5 x.g2).trans (Wh.Y6 _)),by kernel_rfl⟩
 sm:=⟨1456,_,by decide,x.Q_ 208 (by decide) (Wh.Y8 _) rfl (Wh.Y9 _)⟩
 K:=kF w.params
 ff:=Ul x
 aG:=λX I h=>bm8 h
 ce:=λX I u2 h=>bm9 h
theorem bn5(P:fG)(b:Bi):Un P (Cr b)=N (ET b):=by cases b<;>kernel_rfl
theorem Uo(x:cu w bJ s)(y:ai):(aU x).g y=Un w.params y:=rfl
theorem bn6(x:cu w bJ s):xB (aU x):=
 ⟨λb=>(Uo x _).trans (bn5 ..),(Uo x _).trans (by kernel_rfl),(Uo x _).trans (by kernel_rfl)⟩
theorem bn7(x:cu w bJ s)(fn:aR->Tr):yR (aU x) ⟨dP,fn⟩ (dP.map (·.1)):=
 ⟨rfl,λy v h=>(aj1.mp (List.map_inj_left.mp (bn3 w.params) _ h)).elim λu q=>⟨u,q.1,bn2 (Ul x) q.2⟩⟩
end
theorem bn8{ns:J ai}{ws:J aA}(nd:ns.Nodup)(hl:ws.length=ns.length):(ns.filterMap λn=>((ns.zip ws).lookup n).map (n,·))=ns.zip ws:=by
 have go:∀(ns:J ai)(ws:J aA)(f:ai->bq aA),ns.Nodup->ws.length=ns.length->(∀n∈ns,f n=(ns.zip ws).lookup n)->(ns.filterMap λn=>(f n).map (n,·))=ns.zip ws:=by
  intro ns;induction ns with
  |nil=>exact λws f X I u2=>rfl
  |cons n ns ih=>
   intro ws f nd hl hp;induction ws using eT with
   |nil=>cases hl
   |cons v ws=>
    rw[o4]at nd
    have e1:=hp n (.head _);rw[P6,Bf,qy]at e1
    rw[cv2,e1,P6];refine bR ((n,v)::·) (ih ws f nd.2 (zL hl) λm hm=>?_);rw[hp m (.tail _ hm),P6,Bf,Kg λe:m=n=>nd.1 (e▸hm)]
 exact go ns ws _ nd hl λX I=>rfl
theorem bn9{ns:J ai}:∀{ws:J aA},ws.length=ns.length->n∈ns->((ns.zip ws).lookup n).isNone=ak:=by
 induction ns with
 |nil=>exact λX=>nofun
 |cons m ns ih=>
  intro ws hl h;induction ws using eT with
  |nil=>cases hl
  |cons v ws=>
   rw[P6,Bf];by_cases q:n=m
   ·rw[q,qy];rfl
   ·rw[Kg q];exact ih (zL hl) ((iV.mp h).resolve_left q)
theorem bo0{Y qn:ai}{as:J Arg}{kwd:J (bq aT)}{dfs:J aT}{bd:FuncBody}{sc:ly}{gl bi:aR}{cl:J (ai×aR)}{kd dc pm cd ct:aA}{an:bq aR}{ns:J ai}(h2:as.map (·.arg)=ns)(nd:ns.Nodup){ws:J aA}(hl:ws.length=ns.length):
  Be ⟨Y,qn,⟨[],as,ao,[],kwd,ao,dfs⟩,bd,sc,gl,cl,.none,kd,dc,pm,an,cd,ct,bi⟩ ⟨ws,[]⟩=pure (ns.zip ws):=by
 delta Be;dsimp only;rw[h2];refine(cF (by rw[hl];exact λh=>vg _ (gy (PI.mp h).1))).trans ?_
 refine(cF ?_).trans ?_
 ·refine λh=>nomatch (bR (!·) (?_:List.isEmpty _=ah)).symm.trans h;refine List.isEmpty_iff.mpr (List.filter_eq_nil_iff.mpr λn hn h=>?_);exact nomatch (bn9 hl (ak1 hn)).symm.trans h
 have e:∀(l:J ai)(k:H)(b:J (ai×aA))(f:ai×aA->J (ai×aA)->dJ (an1 (J (ai×aA)))),forIn (l.zip (cA0 k ([]:J aA))) b f=pure b:=λl k b f=>by rw[List.drop_nil,List.zip_nil_right];rfl
 refine(bR (·>>=_) (e _ _ _ _)).trans ?_;exact bR (pure:_->dJ _) ((bR (List.filterMap _) (j3 _)).trans (bn8 nd hl))
section
open PS renaming dm->eN,ret->bF,raise->gj,asg->aW,ex->bu,«for»->iO
open PE renaming cmp->aN,cN->jy,bi->dj,bin->bh,aG->aH,jB->lC,aV->aX,cI->aj,call->aC,gl->ay,gP->jz,tup->b5,neg->jn,lst->cP,cS->cK,sub->gM,comp->gR,fz->fq,iA->m8
open PySem.NameKind renaming «local»->aq
structure Fn where
 a:aR
 c:J PS
 ps:J (ai×bq D)
 nms:J (ai×cJ)
def pa(l:J ai):J (ai×bq D):=l.map λx=>(x,ao)
def bo1:Fn:=⟨Zo,[eN (.Y aK) bH (.Y bH),eN (.Y aK) cD (.Y cD),eN (.Y aK) sY (.ite (aN .Is (.Y sY) jy) (dj .len ak [.Y bH]) (.Y sY))],[(aK,ao),(bH,ao),(cD,N (.int 0)),(sY,N .none)],[(aK,aq),(bH,aq),(cD,aq),(sY,aq)]⟩
def bo2:Fn:=⟨BK,[bF (bh .Sub (aH (.Y aK) sY) (aH (.Y aK) cD))],pa [aK],[(aK,aq)]⟩
def bo3:Fn:=⟨GW,[bF (aN .GtE (aH (.Y aK) cD) (aH (.Y aK) sY))],pa [aK],[(aK,aq)]⟩
def bo4:Fn:=⟨GX,[.ite (aN .GtE (aH (.Y aK) cD) (aH (.Y aK) sY)) [gj] [],bF (lC (aH (.Y aK) bH) (aH (.Y aK) cD))],pa [aK],[(aK,aq)]⟩
def bo5:Fn:=⟨qg,[aW dQ (aX (.Y aK) Lh []),eN (.Y aK) cD (bh .Add (aH (.Y aK) cD) (aj 1)),bF (.Y dQ)],pa [aK],[(aK,aq),(dQ,aq)]⟩
def bo6:Fn:=⟨BL,[.ite (aN .Gt (.Y d7) (aX (.Y aK) nQ [])) [gj] [],aW dQ (dj .bytes ak [.ur (aH (.Y aK) bH) (N (aH (.Y aK) cD)) (N (bh .Add (aH (.Y aK) cD) (.Y d7)))]),eN (.Y aK) cD (bh .Add (aH (.Y aK) cD) (.Y d7)),bF (.Y dQ)],pa [aK,d7],[(aK,aq),(d7,aq),(dQ,aq)]⟩
def bo7:Fn:=⟨GY,[.ite (aN .Gt (.Y d7) (aX (.Y aK) nQ [])) [gj] [],aW dQ (aC (ay 0) [aH (.Y aK) bH,aH (.Y aK) cD,bh .Add (aH (.Y aK) cD) (.Y d7)]),eN (.Y aK) cD (bh .Add (aH (.Y aK) cD) (.Y d7)),bF (.Y dQ)],pa [aK,d7],[(aK,aq),(d7,aq),(dQ,aq)]⟩
def bo8:Fn:=⟨Lo,[.vF [dQ,rM,sX] [aj 0,aj 0,aH (.Y aK) cD],.sW [nQ,eB] (.cB ah) [aW eB (aX (.Y aK) eB []),aW nQ (bh .Sub (.Y qK) (.Y rM)),.ite (jz .And [aN .Lt (.Y nQ) (aj 7),aN .NotEq (bh .RShift (bh .BitAnd (.Y eB) (aj 127)) (.Y nQ)) (aj 0)]) [gj] [],.ite (jz .And [aN .LtE (.Y nQ) (aj 7),aN .GtE (.Y eB) (aj 128)]) [gj] [],aW dQ (bh .Add (.Y dQ) (bh .LShift (bh .BitAnd (.Y eB) (aj 127)) (.Y rM))),.ite (aN .Lt (.Y eB) (aj 128)) [bF (.Y dQ)] [],aW rM (bh .Add (.Y rM) (aj 7))]],pa [aK,qK],[(aK,aq),(qK,aq),(sX,aq),(dQ,aq),(nQ,aq),(eB,aq),(rM,aq)]⟩
def bo9:Fn:=⟨BN,[.vF [dQ,rM,sX] [aj 0,aj 0,aH (.Y aK) cD],.sW [nQ,eB] (.cB ah) [aW eB (aX (.Y aK) eB []),aW nQ (bh .Sub (.Y qK) (.Y rM)),.ite (jz .And [aN .Lt (.Y nQ) (aj 7),aN .NotIn (bh .RShift (bh .BitAnd (.Y eB) (aj 127)) (bh .Sub (.Y nQ) (aj 1))) (b5 [aj 0,bh .RShift (aj 127) (bh .Sub (.Y nQ) (aj 1))])]) [gj] [],.ite (jz .And [aN .LtE (.Y nQ) (aj 7),aN .GtE (.Y eB) (aj 128)]) [gj] [],aW dQ (bh .Add (.Y dQ) (bh .LShift (bh .BitAnd (.Y eB) (aj 127)) (.Y rM))),aW rM (bh .Add (.Y rM) (aj 7)),.ite (aN .Lt (.Y eB) (aj 128)) [bF (.ite (bh .BitAnd (.Y eB) (aj 64)) (bh .Sub (.Y dQ) (bh .LShift (aj 1) (.Y rM))) (.Y dQ))] []]],pa [aK,qK],[(aK,aq),(qK,aq),(sX,aq),(dQ,aq),(nQ,aq),(eB,aq),(rM,aq)]⟩
def bp0:Fn:=⟨mG,[bF (aX (.Y aK) l6 [aj 32])],pa [aK],[(aK,aq)]⟩
def bp1:Fn:=⟨GZ,[bF (aX (.Y aK) Aa [aj 7])],pa [aK],[(aK,aq)]⟩
def bp2:Fn:=⟨Ro,[bF (aX (.Y aK) Aa [aj 32])],pa [aK],[(aK,aq)]⟩
def bp3:Fn:=⟨Rp,[bF (aX (.Y aK) Aa [aj 33])],pa [aK],[(aK,aq)]⟩
def bp4:Fn:=⟨Rq,[bF (aX (.Y aK) Aa [aj 64])],pa [aK],[(aK,aq)]⟩
def bp5:Fn:=⟨G0,[aW d7 (aX (.Y aK) jU []),.ite (aN .Gt (.Y d7) (aX (.Y aK) nQ [])) [gj] [],aW sX (aH (.Y aK) cD),bF (aC (ay 1) [aX (.Y aK) DT [.Y d7],.Y sX])],pa [aK],[(aK,aq),(sX,aq),(d7,aq)]⟩
def bp6:Fn:=⟨Zp,[eN (.Y aK) bH (dj .bytearray ah [])],pa [aK],[(aK,aq)]⟩
def bp7:Fn:=⟨s8,[bu (aX (aH (.Y aK) bH) gp [.Y bw])],pa [aK,bw],[(aK,aq),(bw,aq)]⟩
def bp8:Fn:=⟨G1,[bu (aX (aH (.Y aK) bH) om [.Y bH])],pa [aK,bH],[(aK,aq),(bH,aq)]⟩
def bp9:Fn:=⟨qh,[.ite (aN .Lt (.Y bw) (aj 0)) [gj] [],.sW [] (aN .GtE (.Y bw) (aj 128)) [bu (aX (aH (.Y aK) bH) gp [bh .BitOr (bh .BitAnd (.Y bw) (aj 127)) (aj 128)]),aW bw (bh .RShift (.Y bw) (aj 7))],bu (aX (aH (.Y aK) bH) gp [.Y bw])],pa [aK,bw],[(aK,aq),(bw,aq)]⟩
def uk:J PS:=[bu (aX (aH (.Y aK) bH) gp [bh .BitOr (bh .BitAnd (.Y bw) (aj 127)) (aj 128)]),aW bw (bh .RShift (.Y bw) (aj 7))]
def bq0:Fn:=⟨Lq,[.sW [] (.not (.o6 .Lt (jn (aj 64)) (.Y bw) (aj 64))) uk,bu (aX (aH (.Y aK) bH) gp [bh .BitAnd (.Y bw) (aj 127)])],pa [aK,bw],[(aK,aq),(bw,aq)]⟩
def bq1:Fn:=⟨Ak,[bu (aX (.Y aK) l6 [.Y bw])],pa [aK,bw],[(aK,aq),(bw,aq)]⟩
def bq2:Fn:=⟨G2,[aW bH (aC (ay 2) [.Y yi]),bu (aX (.Y aK) l6 [dj .len ak [.Y bH]]),bu (aX (aH (.Y aK) bH) om [.Y bH])],pa [aK,yi],[(aK,aq),(yi,aq),(bH,aq)]⟩
def bq3:Fn:=⟨G3,[bu (aX (.Y aK) l6 [dj .len ak [aH (.Y bK) bH]]),bu (aX (aH (.Y aK) bH) om [aH (.Y bK) bH])],pa [aK,bK],[(aK,aq),(bK,aq)]⟩
def bq4:Fn:=⟨Lr,[aW dQ (dj .bytearray ah []),iO [j8,Li] [Li] ah (.Y yi) [aW j8 (dj .ord ak [.Y Li]),.ite (.o6 .Lt (aj 55296) (.Y j8) (aj 57344)) [gj] [],.ite (aN .Lt (.Y j8) (aj 128)) [bu (aX (.Y dQ) gp [.Y j8])] [.ite (aN .Lt (.Y j8) (aj 2048)) [bu (aX (.Y dQ) om [cP ak [bh .BitOr (aj 192) (bh .RShift (.Y j8) (aj 6)),bh .BitOr (aj 128) (bh .BitAnd (.Y j8) (aj 63))]])] [.ite (aN .Lt (.Y j8) (aj 65536)) [bu (aX (.Y dQ) om [cP ak [bh .BitOr (aj 224) (bh .RShift (.Y j8) (aj 12)),bh .BitOr (aj 128) (bh .BitAnd (bh .RShift (.Y j8) (aj 6)) (aj 63)),bh .BitOr (aj 128) (bh .BitAnd (.Y j8) (aj 63))]])] [bu (aX (.Y dQ) om [cP ak [bh .BitOr (aj 240) (bh .RShift (.Y j8) (aj 18)),bh .BitOr (aj 128) (bh .BitAnd (bh .RShift (.Y j8) (aj 12)) (aj 63)),bh .BitOr (aj 128) (bh .BitAnd (bh .RShift (.Y j8) (aj 6)) (aj 63)),bh .BitOr (aj 128) (bh .BitAnd (.Y j8) (aj 63))]])]]]],bF (dj .bytes ak [.Y dQ])],pa [yi],[(yi,aq),(dQ,aq),(j8,aq),(Li,aq)]⟩
def ul:Fn:=⟨Ls,[.ite (aN .Lt (.Y eB) (aj 128)) [bF (b5 [aj 0,.Y eB,aj 0])] [],.ite (.o6 .Lt (aj 192) (.Y eB) (aj 224)) [bF (b5 [aj 1,bh .BitAnd (.Y eB) (aj 31),aj 128])] [],.ite (.o6 .Lt (aj 224) (.Y eB) (aj 240)) [bF (b5 [aj 2,bh .BitAnd (.Y eB) (aj 15),aj 2048])] [],.ite (.o6 .Lt (aj 240) (.Y eB) (aj 248)) [bF (b5 [aj 3,bh .BitAnd (.Y eB) (aj 7),aj 65536])] [],gj],pa [eB,cD],[(eB,aq),(cD,aq)]⟩
def bq5:Fn:=⟨Lu,[.vF [GQ,cD] [cP ah [],aj 0],.sW [By,fQ,eB,j8] (aN .Lt (.Y cD) (dj .len ak [.Y bH])) [.pW [By,j8,fQ] (aC (ay 3) [lC (.Y bH) (.Y cD),bh .Add (.Y sX) (.Y cD)]),.ite (aN .GtE (bh .Add (.Y cD) (.Y By)) (dj .len ak [.Y bH])) [gj] [],iO [eB] [eB] ah (.ur (.Y bH) (N (bh .Add (.Y cD) (aj 1))) (N (bh .Add (bh .Add (.Y cD) (aj 1)) (.Y By)))) [.ite (aN .NotEq (bh .BitAnd (.Y eB) (aj 192)) (aj 128)) [gj] [],aW j8 (bh .BitOr (bh .LShift (.Y j8) (aj 6)) (bh .BitAnd (.Y eB) (aj 63)))],.ite (jz .Or [aN .Lt (.Y j8) (.Y fQ),aN .Gt (.Y j8) (aj 1114111),.o6 .Lt (aj 55296) (.Y j8) (aj 57344)]) [gj] [],bu (aX (.Y GQ) gp [dj .chr ak [.Y j8]]),aW cD (bh .Add (bh .Add (.Y cD) (aj 1)) (.Y By))],bF (aX (cK t_) (az [106,111,105,110]) [.Y GQ])],pa [bH,sX],[(bH,aq),(sX,aq),(cD,aq),(By,aq),(fQ,aq),(eB,aq),(j8,aq),(GQ,aq)]⟩
def bq6:Fn:=⟨Lv,[.ite (aN .NotEq (aX (.Y bx) DT [dj .len ak [ay 4]]) (ay 4)) [gj] [],.ite (aN .NotEq (aX (.Y bx) DT [dj .len ak [ay 5]]) (ay 5)) [gj] []],pa [bx],[(bx,aq)]⟩
def bq7:Fn:=⟨G4,[.ite (.not (aX (.Y fK) GJ [])) [gj] []],pa [fK],[(fK,aq)]⟩
def bq8:Fn:=⟨Lw,[aW dX (aX (.Y fK) dX []),bF (b5 [.Y dX,aX (.Y fK) DT [aX (.Y fK) nQ []]])],pa [fK],[(fK,aq),(dX,aq)]⟩
def bq9:Fn:=⟨Zq,[eN (.Y aK) bx (aC (ay 0) [.Y bH]),eN (.Y aK) dO (jn (aj 1)),bu (aC (ay 6) [aH (.Y aK) bx])],pa [aK,bH],[(aK,aq),(bH,aq)]⟩
def br0:Fn:=⟨Rr,[bF (aX (aH (.Y aK) bx) GJ [])],pa [aK],[(aK,aq)]⟩
def br1:Fn:=⟨Rt,[aW cD (aH (aH (.Y aK) bx) cD),aW bw (aX (aH (.Y aK) bx) eB []),.ite (aN .Gt (.Y bw) (ay 7)) [gj] [],aW fK (aX (aH (.Y aK) bx) fK [aX (aH (.Y aK) bx) jU []]),.ite (aN .NotEq (.Y bw) (ay 8)) [aW dO (aX (ay 9) lF [.Y bw]),.ite (aN .LtE (.Y dO) (aH (.Y aK) dO)) [gj] [],eN (.Y aK) dO (.Y dO)] [],bF (b5 [.Y bw,.Y fK])],pa [aK],[(aK,aq),(cD,aq),(bw,aq),(fK,aq),(dO,aq)]⟩
def un:J PS:=[.ite (.o6 .LtE (.Y fQ) (.Y d8) (.Y f7)) [bF (b5 [.Y kW,.Y oq])] []]
def br2:Fn:=⟨Ly,[iO [fQ,f7,kW,oq] [fQ,f7,kW,oq] ak (ay 10) un,bF jy],pa [d8],[(d8,aq),(fQ,aq),(f7,aq),(kW,aq),(oq,aq)]⟩
def br4:Fn:=⟨D7,[.ite (aN .In (.Y d8) (ay 11)) [bF (gM (ay 11) (.Y d8))] [],.ite (jz .Or [aN .In (.Y d8) (ay 12),aN .In (.Y d8) (ay 13)]) [bF (cK D0)] [],bF (.ite (aN .Is (aC (ay 14) [.Y d8]) jy) jy (cK qe))],pa [d8],[(d8,aq)]⟩
def br5:Fn:=⟨Lz,[bF (aN .In (.Y d8) (b5 [ay 15,ay 16,ay 17]))],pa [d8],[(d8,aq)]⟩
def br6:Fn:=⟨LA,[.ite (aN .Eq (.Y d8) (ay 18)) [bF (.cB ah)] [],bF (dj .any ak [gR ak [d8] [fQ,f7] ak (ay 19) [] (.o6 .LtE (.Y fQ) (.Y d8) (.Y f7))])],pa [d8],[(d8,.cell)]⟩
def br7:Fn:=⟨aB9,[eN (.Y aK) dO (.Y dO),eN (.Y aK) dX (.Y dX),eN (.Y aK) fR (.Y fR),eN (.Y aK) i7 (.Y i7)],pa [aK,dO,dX,fR,i7],[(aK,aq),(dO,aq),(dX,aq),(fR,aq),(i7,aq)]⟩
def br8:Fn:=⟨Ru,[bF (b5 [aH (.Y aK) dO,aH (.Y aK) dX,aH (.Y aK) fR,aH (.Y aK) i7])],pa [aK],[(aK,aq)]⟩
def br9:Fn:=⟨aC0,[eN (.Y aK) bW (.Y bW),eN (.Y aK) z_ (.Y DQ),eN (.Y aK) dK (.Y dK)],pa [aK,bW,DQ,dK],[(aK,aq),(bW,aq),(DQ,aq),(dK,aq)]⟩
def bs0:Fn:=⟨Rv,[bF (b5 [aH (.Y aK) bW,dj .tuple ak [aH (.Y aK) z_],dj .tuple ak [aH (.Y aK) dK]])],pa [aK],[(aK,aq)]⟩
def bs1:Fn:=⟨aC1,[eN (.Y aK) bW (.Y bW),eN (.Y aK) jT (.Y jT),eN (.Y aK) dK (.Y dK)],pa [aK,bW,jT,dK],[(aK,aq),(bW,aq),(jT,aq),(dK,aq)]⟩
def bs2:Fn:=⟨Rw,[bF (b5 [aH (.Y aK) bW,aH (.Y aK) jT,dj .tuple ak [aH (.Y aK) dK]])],pa [aK],[(aK,aq)]⟩
def bs3:Fn:=⟨aC2,[eN (.Y aK) fZ (.Y fZ),eN (.Y aK) kY (.Y kY),eN (.Y aK) iB (.Y iB),eN (.Y aK) bW (.Y bW),eN (.Y aK) kr (.Y kr)],pa [aK,fZ,kY,iB,bW,kr],[(aK,aq),(fZ,aq),(kY,aq),(iB,aq),(bW,aq),(kr,aq)]⟩
def bs4:Fn:=⟨Rx,[aW iB (.ite (aN .Is (aH (.Y aK) iB) jy) jy (dj .tuple ak [aH (.Y aK) iB])),bF (b5 [aH (.Y aK) fZ,aH (.Y aK) kY,.Y iB,aH (.Y aK) bW,dj .tuple ak [gR ak [] [dK] ah (aH (.Y aK) kr) [] (dj .tuple ak [.Y dK])]])],pa [aK],[(aK,aq),(iB,aq)]⟩
def bs5:Fn:=⟨aC3,[eN (.Y aK) fZ (.Y fZ),eN (.Y aK) nh (.Y nh),eN (.Y aK) iB (.Y iB),eN (.Y aK) bH (.Y bH)],pa [aK,fZ,nh,iB,bH],[(aK,aq),(fZ,aq),(nh,aq),(iB,aq),(bH,aq)]⟩
def bs6:Fn:=⟨Ry,[bF (b5 [aH (.Y aK) fZ,aH (.Y aK) nh,.ite (aN .Is (aH (.Y aK) iB) jy) jy (dj .tuple ak [aH (.Y aK) iB]),dj .bytes ak [aH (.Y aK) bH]])],pa [aK],[(aK,aq)]⟩
def bs7:Fn:=⟨aC4,[eN (.Y aK) dX (.Y dX),eN (.Y aK) bH (.Y bH),eN (.Y aK) rL (.Y rL)],pa [aK,dX,bH,rL],[(aK,aq),(dX,aq),(bH,aq),(rL,aq)]⟩
def bs8:Fn:=⟨Rz,[bF (b5 [aH (.Y aK) dX,dj .bytes ak [aH (.Y aK) bH],aH (.Y aK) rL])],pa [aK],[(aK,aq)]⟩
def bs9:Fn:=⟨LB,[eN (.Y aK) fy (cP ah []),eN (.Y aK) p_ (cP ah []),eN (.Y aK) mF (cP ah []),eN (.Y aK) qd (cP ah []),eN (.Y aK) qc (cP ah []),eN (.Y aK) pZ (cP ah []),eN (.Y aK) pY (cP ah []),eN (.Y aK) nU jy,eN (.Y aK) pX (cP ah []),eN (.Y aK) nP (cP ah []),eN (.Y aK) qL (cP ah [])],pa [aK],[(aK,aq)]⟩
def bt0:Fn:=⟨RA,[aW GN (cP ak [dj .tuple ak [aH (.Y aK) fy],aC (ay 20) [aH (.Y aK) p_],aC (ay 20) [aH (.Y aK) mF],dj .tuple ak [aH (.Y aK) qd]]),aW GN (bh .Add (.Y GN) (cP ak [dj .tuple ak [aH (.Y aK) qc],aC (ay 20) [aH (.Y aK) pZ],dj .tuple ak [aH (.Y aK) pY],aH (.Y aK) nU])),bF (dj .tuple ak [bh .Add (.Y GN) (cP ak [aC (ay 20) [aH (.Y aK) pX],aC (ay 20) [aH (.Y aK) nP],aC (ay 20) [aH (.Y aK) qL]])])],pa [aK],[(aK,aq),(GN,aq)]⟩
def bt1:Fn:=⟨D8,[bF (gR ak [] [lR] ah (aH (.Y aK) mF) [] (aH (.Y lR) dK))],pa [aK],[(aK,aq)]⟩
def bt2:Fn:=⟨LD,[bF (dj .tuple ak [gR ak [] [yk] ah (.Y Ab) [] (aX (.Y yk) qM [])])],pa [Ab],[(Ab,aq)]⟩
def ut:J PS:=[.ite (dj .any ak [gR ak [] [lT] ah (.Y dK) [] (aN .In (gM (.Y lT) (aj 0)) (b5 [ay 21,ay 22]))]) [bF (.cB ah)] []]
def bt3:Fn:=⟨G5,[iO [dK] [dK] ah (aX (.Y bI) Zc []) ut,bF (.cB ak)],pa [bI],[(bI,aq),(dK,aq)]⟩
def bt4:Fn:=⟨w4,[bu (aX (.Y bK) eB [bh .BitAnd (.Y bW) (ay 23)])],pa [bK,bW],[(bK,aq),(bW,aq)]⟩
def bt5:Fn:=⟨G6,[bu (aX (.Y bK) d7 [dj .len ak [.Y fy]]),iO [bW] [bW] ah (.Y fy) [bu (aC (ay 24) [.Y bK,.Y bW])]],pa [bK,fy],[(bK,aq),(fy,aq),(bW,aq)]⟩
def bt6:Fn:=⟨G7,[bu (aX (.Y bK) eB [.ite (aN .Is (.Y f7) jy) (aj 0) (aj 1)]),bu (aX (.Y bK) l6 [.Y fQ]),.ite (aN .IsNot (.Y f7) jy) [bu (aX (.Y bK) l6 [.Y f7])] []],pa [bK,fQ,f7],[(bK,aq),(fQ,aq),(f7,aq)]⟩
def bt7:Fn:=⟨D9,[.pW [kW,oq] (.Y bW),bu (aX (.Y bK) eB [ay 25]),bu (aC (ay 26) [.Y bK,.Y kW]),bu (aC (ay 26) [.Y bK,.Y oq])],pa [bK,bW],[(bK,aq),(bW,aq),(kW,aq),(oq,aq)]⟩
def bt8:Fn:=⟨BO,[.pW [bW,fQ,f7] (.Y i7),bu (aC (ay 24) [.Y bK,.Y bW]),bu (aC (ay 27) [.Y bK,.Y fQ,.Y f7])],pa [bK,i7],[(bK,aq),(i7,aq),(bW,aq),(fQ,aq),(f7,aq)]⟩
def bt9:Fn:=⟨BQ,[.pW [fQ,f7] (.Y i7),bu (aC (ay 27) [.Y bK,.Y fQ,.Y f7])],pa [bK,i7],[(bK,aq),(i7,aq),(fQ,aq),(f7,aq)]⟩
def bu0:Fn:=⟨G8,[.pW [bW,jT] (.Y i7),bu (aC (ay 24) [.Y bK,.Y bW]),bu (aX (.Y bK) eB [.Y jT])],pa [bK,i7],[(bK,aq),(i7,aq),(bW,aq),(jT,aq)]⟩
def bu1:Fn:=⟨D_,[bu (aX (.Y bK) dX [aH (.Y aM) dO]),bu (aX (.Y bK) dX [aH (.Y aM) dX]),bu (aX (.Y bK) eB [aH (.Y aM) fR]),.ite (aN .Eq (aH (.Y aM) fR) (aj 0)) [bu (aX (.Y bK) l6 [aH (.Y aM) i7])] [.ite (aN .Eq (aH (.Y aM) fR) (aj 1)) [bu (aC (ay 28) [.Y bK,aH (.Y aM) i7])] [.ite (aN .Eq (aH (.Y aM) fR) (aj 2)) [bu (aC (ay 29) [.Y bK,aH (.Y aM) i7])] [.ite (aN .Eq (aH (.Y aM) fR) (aj 3)) [bu (aC (ay 30) [.Y bK,aH (.Y aM) i7])] [gj]]]]],pa [bK,aM],[(bK,aq),(aM,aq)]⟩
def bu2:Fn:=⟨Ea,[.pW [dX,fR,lF] (.Y aM),bu (aX (.Y bK) dX [.Y dX]),bu (aX (.Y bK) eB [.Y fR]),bu (aX (.Y bK) l6 [.Y lF])],pa [bK,aM],[(bK,aq),(aM,aq),(lF,aq),(dX,aq),(fR,aq)]⟩
def bu3:Fn:=⟨Eb,[bu (aC (ay 30) [.Y bK,b5 [aH (.Y aM) bW,aH (.Y aM) jT]]),bu (aC (ay 31) [.Y bK,aH (.Y aM) dK])],pa [bK,aM],[(bK,aq),(aM,aq)]⟩
def bu4:Fn:=⟨LG,[.ite (aN .Lt (.Y bW) (aj 0)) [bu (aC (ay 24) [.Y bK,.Y bW])] [bu (aX (.Y bK) Aa [.Y bW])]],pa [bK,bW],[(bK,aq),(bW,aq)]⟩
def bu5:Fn:=⟨LH,[.ite (aN .Lt (.Y d8) (ay 32)) [bu (aX (.Y bK) eB [.Y d8])] [bu (aX (.Y bK) eB [ay 33]),bu (aX (.Y bK) l6 [bh .Sub (.Y d8) (ay 32)])]],pa [bK,d8],[(bK,aq),(d8,aq)]⟩
def bu6:Fn:=⟨G9,[iO [bw] [bw] ah (.Y uD) [bu (aX (.Y bK) l6 [.Y bw])]],pa [bK,uD],[(bK,aq),(uD,aq),(bw,aq)]⟩
def vi:Fn:=⟨LI,[.ite (aN .Eq (.Y gz) (cK Ae)) [bu (aC (ay 34) [.Y bK,gM (.Y uD) (aj 0)])] [.ite (aN .In (.Y gz) (b5 [cK DV,cK DW])) [bu (aX (.Y bK) Aa [gM (.Y uD) (aj 0)])] [.ite (aN .Eq (.Y gz) (cK D4)) [bu (aC (ay 24) [.Y bK,gM (.Y uD) (aj 0)])] [.ite (aN .Eq (.Y gz) (cK DX)) [bu (aC (ay 26) [.Y bK,.Y uD])] [.ite (aN .Eq (.Y gz) (cK DZ)) [bu (aX (.Y bK) d7 [bh .Sub (dj .len ak [.Y uD]) (aj 1)]),bu (aC (ay 35) [.Y bK,.Y uD])] [bu (aC (ay 35) [.Y bK,.Y uD]),.ite (aN .In (.Y gz) (b5 [cK BG,cK D3,cK BH])) [bu (aX (.Y bK) eB [aj 0])] [],.ite (aN .Eq (.Y gz) (cK BH)) [bu (aX (.Y bK) eB [aj 0])] []]]]]]],pa [bK,gz,uD],[(bK,aq),(gz,aq),(uD,aq)]⟩
def bu7:Fn:=⟨LJ,[aW d8 (gM (.Y lT) (aj 0)),aW gz (aC (ay 36) [.Y d8]),.ite (aN .Is (.Y gz) jy) [gj] [],bu (aC (ay 37) [.Y bK,.Y d8]),bu (aC (ay 38) [.Y bK,.Y gz,.ur (.Y lT) (N (aj 1)) ao])],pa [bK,lT],[(bK,aq),(lT,aq),(d8,aq),(gz,aq)]⟩
def bu8:Fn:=⟨BS,[iO [lT] [lT] ah (.Y dK) [bu (aC (ay 39) [.Y bK,.Y lT])]],pa [bK,dK],[(bK,aq),(dK,aq),(lT,aq)]⟩
def bu9:Fn:=⟨LK,[.ite (jz .And [aN .Eq (dj .len ak [.Y lG]) (aj 2),aN .Eq (gM (gM (.Y lG) (aj 0)) (aj 0)) (ay 40),aN .Eq (gM (.Y lG) (aj 1)) (b5 [ay 41])]) [bF (gM (gM (.Y lG) (aj 0)) (aj 1))] [],bF jy],pa [lG],[(lG,aq)]⟩
def NS:J PS:=[aW DP (gR ak [] [lG] ah (aH (.Y aM) kr) [] (aC (ay 42) [.Y lG])),aW uy (jz .Or [aN .NotEq (aH (.Y aM) bW) (ay 43),aN .In jy (.Y DP)]),aW GK (jz .And [aN .Eq (aH (.Y aM) fZ) (ay 44),aN .Eq (aH (.Y aM) kY) (aj 0),aN .Eq (aH (.Y aM) bW) (ay 43)]),aW gS (.ite (.Y GK) (aj 0) (gM (.z7 [((ay 45),(aj 1)),((ay 44),(aj 2)),((ay 46),(aj 3))]) (aH (.Y aM) fZ))),bu (aX (.Y bK) l6 [.ite (.Y uy) (bh .Add (.Y gS) (aj 4)) (.Y gS)]),.ite (aN .Eq (.Y gS) (aj 2)) [bu (aX (.Y bK) l6 [aH (.Y aM) kY])] [],.ite (aN .Eq (aH (.Y aM) fZ) (ay 44)) [bu (aC (ay 31) [.Y bK,aH (.Y aM) iB])] [],.ite (aN .NotEq (.Y gS) (aj 0)) [.ite (.Y uy) [bu (aC (ay 24) [.Y bK,aH (.Y aM) bW])] [bu (aX (.Y bK) eB [aj 0])]] [],bu (aX (.Y bK) d7 [dj .len ak [aH (.Y aM) kr]]),.ite (.Y uy) [iO [lG] [lG] ah (aH (.Y aM) kr) [bu (aC (ay 31) [.Y bK,.Y lG])]] [bu (aC (ay 35) [.Y bK,.Y DP])]]
def bv0:Fn:=⟨Ec,NS,pa [bK,aM],[(bK,aq),(aM,aq),(uy,aq),(DP,aq),(lG,aq),(GK,aq),(gS,aq)]⟩
def bv1:Fn:=⟨Ed,[.ite (aN .Eq (aH (.Y aM) fZ) (ay 45)) [bu (aX (.Y bK) l6 [aj 1])] [.ite (aN .Eq (aH (.Y aM) nh) (aj 0)) [bu (aX (.Y bK) l6 [aj 0])] [bu (aX (.Y bK) l6 [aj 2]),bu (aX (.Y bK) l6 [aH (.Y aM) nh])]],.ite (aN .Eq (aH (.Y aM) fZ) (ay 44)) [bu (aC (ay 31) [.Y bK,aH (.Y aM) iB])] [],bu (aX (.Y bK) d7 [dj .len ak [aH (.Y aM) bH]]),bu (aX (.Y bK) yh [aH (.Y aM) bH])],pa [bK,aM],[(bK,aq),(aM,aq)]⟩
def bv2:Fn:=⟨LL,[aW kX (cP ah []),iO [bW] [bW] ah (.Y fy) [.ite (jz .And [aN .NotEq (.Y kX) (cP ak []),aN .Eq (gM (gM (.Y kX) (jn (aj 1))) (aj 1)) (.Y bW)]) [.ye (.Y kX) (jn (aj 1)) (b5 [bh .Add (gM (gM (.Y kX) (jn (aj 1))) (aj 0)) (aj 1),.Y bW])] [bu (aX (.Y kX) gp [b5 [aj 1,.Y bW]])]],bF (fq (.Y kX))],pa [fy],[(fy,aq),(bW,aq),(kX,aq)]⟩
def bv3:Fn:=⟨LN,[aW kX (aC (ay 47) [.Y fy]),bu (aX (.Y bK) d7 [dj .len ak [.Y kX]]),iO [bW,d7] [d7,bW] ak (.Y kX) [bu (aX (.Y bK) l6 [.Y d7]),bu (aC (ay 24) [.Y bK,.Y bW])]],pa [bK,fy],[(bK,aq),(fy,aq),(bW,aq),(d7,aq),(kX,aq)]⟩
def bv4:Fn:=⟨Ef,[aW kU (aC (ay 48) []),bu (aC (ay 49) [.Y kU,aH (.Y aM) z_]),bu (aC (ay 31) [.Y kU,aH (.Y aM) dK]),bu (aX (.Y bK) Lj [.Y kU])],pa [bK,aM],[(bK,aq),(aM,aq),(kU,aq)]⟩
def bv5:Fn:=⟨Eg,[bu (aX (.Y bK) l6 [aH (.Y aM) bW])],pa [bK,aM],[(bK,aq),(aM,aq)]⟩
def vk:J PS:=[bu (aC (.Y yh) [.Y bK,.Y yk])]
def bv6:Fn:=⟨G_,[bu (aX (.Y bK) d7 [dj .len ak [.Y Ab]]),iO [yk] [yk] ah (.Y Ab) vk],pa [bK,Ab,yh],[(bK,aq),(Ab,aq),(yh,aq),(yk,aq)]⟩
def vr:Fn:=⟨uE,[.ite (aN .Eq (.Y bw) (aj 1)) [bF (aN .NotEq (aH (.Y bI) fy) (cP ak []))] [],.ite (aN .Eq (.Y bw) (aj 2)) [bF (aN .NotEq (aH (.Y bI) p_) (cP ak []))] [],.ite (aN .In (.Y bw) (b5 [aj 3,aj 10])) [bF (aN .NotEq (aH (.Y bI) mF) (cP ak []))] [],.ite (aN .Eq (.Y bw) (aj 4)) [bF (aN .NotEq (aH (.Y bI) qd) (cP ak []))] [],.ite (aN .Eq (.Y bw) (aj 5)) [bF (aN .NotEq (aH (.Y bI) qc) (cP ak []))] [],.ite (aN .Eq (.Y bw) (aj 6)) [bF (aN .NotEq (aH (.Y bI) pZ) (cP ak []))] [],.ite (aN .Eq (.Y bw) (aj 7)) [bF (aN .NotEq (aH (.Y bI) pY) (cP ak []))] [],.ite (aN .Eq (.Y bw) (aj 8)) [bF (aN .IsNot (aH (.Y bI) nU) jy)] [],.ite (aN .Eq (.Y bw) (aj 9)) [bF (aN .NotEq (aH (.Y bI) pX) (cP ak []))] [],.ite (aN .Eq (.Y bw) (aj 11)) [bF (aN .NotEq (aH (.Y bI) nP) (cP ak []))] [],bF (aC (ay 50) [.Y bI])],pa [bI,bw],[(bI,aq),(bw,aq)]⟩
def Up:J PS:=[.ite (aC (ay 51) [.Y bI,.Y dO]) [aW dQ (.Y dO)] []]
def vw:Fn:=⟨Hf,[aW dQ (aj 0),.ite (aN .Eq (.Y bw) (aj 0)) [bF (.Y dQ)] [],iO [dO] [dO] ah (.ur (ay 9) ao (N (bh .Add (aX (ay 9) lF [.Y bw]) (aj 1)))) Up,bF (.Y dQ)],pa [bI,bw],[(bI,aq),(bw,aq),(dQ,aq),(dO,aq)]⟩
def vx:Fn:=⟨LO,[.ite (aN .Eq (.Y bw) (aj 1)) [bu (aC (ay 52) [.Y bK,aH (.Y bI) fy,ay 53])] [.ite (aN .Eq (.Y bw) (aj 2)) [bu (aC (ay 52) [.Y bK,aH (.Y bI) p_,ay 54])] [.ite (aN .Eq (.Y bw) (aj 3)) [bu (aC (ay 52) [.Y bK,aH (.Y bI) mF,ay 55])] [.ite (aN .Eq (.Y bw) (aj 4)) [bu (aC (ay 52) [.Y bK,aH (.Y bI) qd,ay 28])] [.ite (aN .Eq (.Y bw) (aj 5)) [bu (aC (ay 52) [.Y bK,aH (.Y bI) qc,ay 29])] [.ite (aN .Eq (.Y bw) (aj 6)) [bu (aC (ay 52) [.Y bK,aH (.Y bI) pZ,ay 56])] [.ite (aN .Eq (.Y bw) (aj 7)) [bu (aC (ay 52) [.Y bK,aH (.Y bI) pY,ay 57])] [.ite (aN .Eq (.Y bw) (aj 8)) [bu (aX (.Y bK) l6 [aH (.Y bI) nU])] [.ite (aN .Eq (.Y bw) (aj 9)) [bu (aC (ay 52) [.Y bK,aH (.Y bI) pX,ay 58])] [.ite (aN .Eq (.Y bw) (aj 10)) [bu (aC (ay 52) [.Y bK,aH (.Y bI) mF,ay 59])] [.ite (aN .Eq (.Y bw) (aj 11)) [bu (aC (ay 52) [.Y bK,aH (.Y bI) nP,ay 60])] [bu (aX (.Y bK) l6 [dj .len ak [aH (.Y bI) nP]])]]]]]]]]]]]],pa [bK,bI,bw],[(bK,aq),(bI,aq),(bw,aq)]⟩
def bv7:Fn:=⟨LP,[aW kU (aC (ay 48) []),bu (aC (ay 61) [.Y kU,.Y bI,.Y bw]),bu (aX (.Y bK) eB [.Y bw]),bu (aX (.Y bK) Lj [.Y kU])],pa [bK,bI,bw],[(bK,aq),(bI,aq),(bw,aq),(kU,aq)]⟩
def vy:J PS:=[.ite (aN .Eq (.Y dO) (.Y bw)) [aW kU (aC (ay 48) []),bu (aX (.Y kU) dX [aH (.Y jS) dX]),bu (aX (.Y kU) yh [aH (.Y jS) bH]),bu (aX (.Y bK) eB [aj 0]),bu (aX (.Y bK) Lj [.Y kU])] []]
def bv8:Fn:=⟨LQ,[.DO [jS,kU,dO] jS dO (aH (.Y bI) qL) (.Y yg) vy],pa [bK,bI,yg,bw],[(bK,aq),(bI,aq),(yg,aq),(bw,aq),(jS,aq),(kU,aq),(dO,aq)]⟩
def v0:J PS:=[.ite (aC (ay 51) [.Y bI,.Y bw]) [bu (aC (ay 64) [.Y bK,.Y bI,.Y bw]),bu (aC (ay 63) [.Y bK,.Y bI,.Y yg,.Y bw])] []]
def v6:J PS:=[aW bK (aC (ay 48) []),bu (aX (.Y bK) yh [ay 4]),bu (aX (.Y bK) yh [ay 5]),aW yg (gR ak [bI] [jS] ah (aH (.Y bI) qL) [] (aC (ay 62) [.Y bI,aH (.Y jS) rL])),bu (aC (ay 63) [.Y bK,.Y bI,.Y yg,aj 0]),iO [bw] [bw] ah (ay 9) v0,bF (dj .bytes ak [aH (.Y bK) bH])]
def bv9:Fn:=⟨LR,v6,pa [bI],[(bI,.cell),(bw,aq),(yg,aq),(bK,aq)]⟩
def wd:J PS:=[bu (aX (.Y dQ) gp [aC (.Y fK) [.Y bx]])]
def bw0:Fn:=⟨w5,[aW dQ (cP ah []),iO [rN] [rN] ah (m8 (aX (.Y bx) jU [])) wd,bF (.Y dQ)],pa [bx,fK],[(bx,aq),(fK,aq),(dQ,aq),(rN,aq)]⟩
def bw1:Fn:=⟨Eh,[bF (aX (.Y bx) jU [])],pa [bx],[(bx,aq)]⟩
def wf:Fn:=⟨LS,[.ite (aN .In (.Y bW) (ay 65)) [gj] [],.ite (aN .Eq (.Y bW) (ay 66)) [gj] []],pa [bW,cD],[(bW,aq),(cD,aq)]⟩
def bw2:Fn:=⟨Hg,[aW cD (aH (.Y bx) cD),aW bW (aX (.Y bx) Rc []),bu (aC (ay 67) [.Y bW,.Y cD]),.ite (aN .NotIn (.Y bW) (b5 [ay 68,ay 69,ay 43,ay 70])) [gj] [],bF (.Y bW)],pa [bx,Zl],[(bx,aq),(Zl,aq),(cD,aq),(bW,aq)]⟩
def bw3:Fn:=⟨Ei,[bF (aC (ay 71) [.Y bx,cK (az [109,97,108,102,111,114,109,101,100,32,118,97,108,117,101,32,116,121,112,101])])],pa [bx],[(bx,aq)]⟩
def bw4:Fn:=⟨Ej,[aW cD (aH (.Y bx) cD),aW bW (aX (.Y bx) Rc []),.ite (aN .NotIn (.Y bW) (b5 [ay 43,ay 70])) [gj] [],bF (.Y bW)],pa [bx],[(bx,aq),(cD,aq),(bW,aq)]⟩
def bw5:Fn:=⟨LU,[aW cD (aH (.Y bx) cD),.ite (aN .NotEq (aX (.Y bx) eB []) (ay 25)) [gj] [],aW kW (dj .tuple ak [aC (ay 72) [.Y bx,ay 73]]),aW oq (dj .tuple ak [aC (ay 72) [.Y bx,ay 73]]),bF (b5 [.Y kW,.Y oq])],pa [bx],[(bx,aq),(cD,aq),(kW,aq),(oq,aq)]⟩
def bw6:Fn:=⟨Hh,[aW cD (aH (.Y bx) cD),aW Ld (aX (.Y bx) eB []),.ite (aN .Gt (.Y Ld) (aj 1)) [gj] [],aW fQ (aX (.Y bx) jU []),bF (b5 [.Y fQ,.ite (aN .Eq (.Y Ld) (aj 1)) (aX (.Y bx) jU []) jy])],pa [bx],[(bx,aq),(cD,aq),(Ld,aq),(fQ,aq)]⟩
def bw7:Fn:=⟨Hi,[aW bW (aC (ay 74) [.Y bx]),.pW [fQ,f7] (aC (ay 75) [.Y bx]),bF (b5 [.Y bW,.Y fQ,.Y f7])],pa [bx],[(bx,aq),(bW,aq),(fQ,aq),(f7,aq)]⟩
def bw8:Fn:=⟨Hj,[bF (aC (ay 75) [.Y bx])],pa [bx],[(bx,aq)]⟩
def bw9:Fn:=⟨Hl,[aW bW (aC (ay 73) [.Y bx]),aW cD (aH (.Y bx) cD),aW jT (aX (.Y bx) eB []),.ite (aN .Gt (.Y jT) (aj 1)) [gj] [],bF (b5 [.Y bW,.Y jT])],pa [bx],[(bx,aq),(cD,aq),(bW,aq),(jT,aq)]⟩
def bx0:Fn:=⟨LV,[aW dO (aX (.Y bx) dX []),aW dX (aX (.Y bx) dX []),aW cD (aH (.Y bx) cD),aW fR (aX (.Y bx) eB []),.ite (aN .Eq (.Y fR) (aj 0)) [bF (fq (aC (ay 76) [.Y dO,.Y dX,.Y fR,aX (.Y bx) jU []]))] [],.ite (aN .Eq (.Y fR) (aj 1)) [bF (fq (aC (ay 76) [.Y dO,.Y dX,.Y fR,aC (ay 77) [.Y bx]]))] [],.ite (aN .Eq (.Y fR) (aj 2)) [bF (fq (aC (ay 76) [.Y dO,.Y dX,.Y fR,aC (ay 78) [.Y bx]]))] [],.ite (aN .Eq (.Y fR) (aj 3)) [bF (fq (aC (ay 76) [.Y dO,.Y dX,.Y fR,aC (ay 79) [.Y bx]]))] [],gj],pa [bx],[(bx,aq),(cD,aq),(dX,aq),(dO,aq),(fR,aq)]⟩
def bx1:Fn:=⟨LW,[aW dX (aX (.Y bx) dX []),aW cD (aH (.Y bx) cD),aW fR (aX (.Y bx) eB []),.ite (aN .Gt (.Y fR) (aj 3)) [gj] [],bF (b5 [.Y dX,.Y fR,aX (.Y bx) jU []])],pa [bx],[(bx,aq),(cD,aq),(dX,aq),(fR,aq)]⟩
def bx2:Fn:=⟨LX,[.pW [bW,jT] (aC (ay 79) [.Y bx]),bF (fq (aC (ay 80) [.Y bW,.Y jT,aC (ay 81) [.Y bx]]))],pa [bx],[(bx,aq),(bW,aq),(jT,aq)]⟩
def wi:Fn:=⟨LY,[aW cD (aH (.Y bx) cD),.ite (aN .Eq (aX (.Y bx) Lh []) (ay 82)) [bu (aX (.Y bx) eB []),bF (ay 83)] [],.ite (aN .Eq (bh .BitAnd (aX (.Y bx) Lh []) (aj 192)) (aj 64)) [bF (aC (ay 71) [.Y bx,cK (az [109,97,108,102,111,114,109,101,100,32,98,108,111,99,107,32,116,121,112,101])])] [],aW lF (aX (.Y bx) Zi []),.ite (aN .Lt (.Y lF) (aj 0)) [gj] [],bF (.Y lF)],pa [bx],[(bx,aq),(cD,aq),(lF,aq)]⟩
def bx3:Fn:=⟨LZ,[aW cD (aH (.Y bx) cD),.ite (aN .NotEq (aX (.Y bx) eB []) (aj 0)) [gj] []],pa [bx],[(bx,aq),(cD,aq)]⟩
def bx4:Fn:=⟨L1,[aW cD (aH (.Y bx) cD),aW Lc (aX (.Y bx) jU []),.ite (aN .Gt (.Y Lc) (ay 84)) [gj] [],bF (b5 [.Y Lc,aX (.Y bx) jU []])],pa [bx],[(bx,aq),(Lc,aq),(cD,aq)]⟩
def bx5:Fn:=⟨L3,[aW Lg (aC (ay 72) [.Y bx,ay 85]),bu (aX (.Y Lg) gp [aX (.Y bx) jU []]),bF (dj .tuple ak [.Y Lg])],pa [bx],[(bx,aq),(Lg,aq)]⟩
def bx6:Fn:=⟨L4,[.ite (aN .Eq (.Y gz) (cK qe)) [bF (b5 [])] [],.ite (aN .In (.Y gz) (b5 [cK DY,cK BD,cK BF,cK DU,cK ym,cK GS,cK GU])) [bF (b5 [aX (.Y bx) jU []])] [],.ite (aN .Eq (.Y gz) (cK Ae)) [bF (b5 [aC (ay 86) [.Y bx]])] [],.ite (aN .Eq (.Y gz) (cK DV)) [bF (b5 [aX (.Y bx) Zh []])] [],.ite (aN .Eq (.Y gz) (cK DW)) [bF (b5 [aX (.Y bx) Zj []])] [],.ite (aN .Eq (.Y gz) (cK D0)) [bF (aC (ay 87) [.Y bx])] [],.ite (aN .Eq (.Y gz) (cK D4)) [bF (b5 [aC (ay 74) [.Y bx]])] [],bF jy],pa [bx,gz],[(bx,aq),(gz,aq)]⟩
def bx7:Fn:=⟨L5,[aW dQ (aC (ay 88) [.Y bx,.Y gz]),.ite (aN .IsNot (.Y dQ) jy) [bF (.Y dQ)] [],.ite (aN .Eq (.Y gz) (cK DZ)) [bF (aC (ay 89) [.Y bx])] [],.ite (aN .Eq (.Y gz) (cK DX)) [bF (dj .tuple ak [aC (ay 72) [.Y bx,ay 73]])] [],.ite (aN .In (.Y gz) (b5 [cK BE,cK D6,cK D5])) [aW sZ (aX (.Y bx) jU []),bF (b5 [.Y sZ,aX (.Y bx) jU []])] [],.ite (aN .Eq (.Y gz) (cK D3)) [aW sZ (aX (.Y bx) jU []),bu (aC (ay 90) [.Y bx]),bF (b5 [.Y sZ])] [],bu (aC (ay 90) [.Y bx]),.ite (aN .Eq (.Y gz) (cK BH)) [bu (aC (ay 90) [.Y bx])] [],bF (b5 [])],pa [bx,gz],[(bx,aq),(gz,aq),(sZ,aq),(dQ,aq)]⟩
def bx8:Fn:=⟨L6,[aW cD (aH (.Y bx) cD),aW d8 (aX (.Y bx) eB []),.ite (aN .Eq (.Y d8) (ay 33)) [aW Lk (aX (.Y bx) jU []),.ite (aN .Gt (.Y Lk) (ay 91)) [gj] [],aW d8 (bh .Add (ay 32) (.Y Lk))] [],.ite (aC (ay 92) [.Y d8]) [gj] [],.ite (aN .Is (aC (ay 36) [.Y d8]) jy) [gj] [],bF (.Y d8)],pa [bx],[(bx,aq),(cD,aq),(d8,aq),(Lk,aq)]⟩
def bx9:Fn:=⟨Ho,[.vF [dK,z8] [cP ah [],cP ah [ay 93]],.sW [cD,d8] (aN .NotEq (.Y z8) (cP ak [])) [aW cD (aH (.Y bx) cD),aW d8 (aC (ay 94) [.Y bx]),.ite (aN .Eq (.Y d8) (ay 41)) [bu (aX (.Y z8) Rb []),bu (aX (.Y dK) gp [b5 [ay 41]])] [.ite (aN .Eq (.Y d8) (ay 95)) [.ite (aN .NotEq (gM (.Y z8) (jn (aj 1))) (ay 17)) [gj] [],.ye (.Y z8) (jn (aj 1)) (ay 95),bu (aX (.Y dK) gp [b5 [ay 95]])] [.ite (jz .And [aN .In (.Y d8) (ay 96),.not (.Y Le)]) [gj] [],bu (aX (.Y dK) gp [bh .Add (b5 [.Y d8]) (aC (ay 97) [.Y bx,aC (ay 36) [.Y d8]])]),.ite (aC (ay 98) [.Y d8]) [bu (aX (.Y z8) gp [.Y d8])] []]]],bF (fq (.Y dK))],pa [bx,Le],[(bx,aq),(Le,aq),(z8,aq),(cD,aq),(dK,aq),(d8,aq)]⟩
def by0:Fn:=⟨BU,[bF (aC (ay 99) [.Y bx,.cB ah])],pa [bx],[(bx,aq)]⟩
def by1:Fn:=⟨L7,[aW cD (aH (.Y bx) cD),.ite (aN .NotEq (aX (.Y bx) eB []) (aj 0)) [gj] [],bF (ay 43)],pa [bx],[(bx,aq),(cD,aq)]⟩
def wn:J PS:=[aW cD (aH (.Y bx) cD),aW gz (aX (.Y bx) jU []),.ite (aN .Gt (.Y gz) (aj 7)) [gj] [],.vF [gS,uy] [bh .BitAnd (.Y gz) (aj 3),aN .Gt (.Y gz) (aj 3)],aW fZ (lC (b5 [ay 44,ay 45,ay 44,ay 46]) (.Y gS)),.vF [kY,iB,bW] [aj 0,jy,ay 43],.ite (aN .Eq (.Y gS) (aj 2)) [aW kY (aX (.Y bx) jU [])] [],.ite (aN .Eq (.Y fZ) (ay 44)) [aW iB (aC (ay 81) [.Y bx])] [],.ite (aN .NotEq (.Y gS) (aj 0)) [aW bW (.ite (.Y uy) (aC (ay 74) [.Y bx]) (aC (ay 100) [.Y bx]))] [],.ite (.Y uy) [bF (fq (aC (ay 101) [.Y fZ,.Y kY,.Y iB,.Y bW,fq (aC (ay 72) [.Y bx,ay 81])]))] [],aW kr (gR ak [] [lF] ah (fq (aC (ay 72) [.Y bx,ay 85])) [] (cP ak [b5 [ay 40,.Y lF],b5 [ay 41]])),bF (fq (aC (ay 101) [.Y fZ,.Y kY,.Y iB,.Y bW,.Y kr]))]
def by2:Fn:=⟨L8,wn,pa [bx],[(bx,aq),(cD,aq),(uy,aq),(gz,aq),(kr,aq),(bW,aq),(fZ,aq),(iB,aq),(kY,aq),(gS,aq)]⟩
def by3:Fn:=⟨L_,[aW cD (aH (.Y bx) cD),aW gz (aX (.Y bx) jU []),.ite (aN .Gt (.Y gz) (aj 2)) [gj] [],aW nh (.ite (aN .Eq (.Y gz) (aj 2)) (aX (.Y bx) jU []) (aj 0)),aW iB (.ite (aN .Eq (.Y gz) (aj 1)) jy (aC (ay 81) [.Y bx])),aW bH (aX (.Y bx) DT [aX (.Y bx) jU []]),bF (fq (aC (ay 102) [.ite (aN .Eq (.Y gz) (aj 1)) (ay 45) (ay 44),.Y nh,.Y iB,.Y bH]))],pa [bx],[(bx,aq),(cD,aq),(gz,aq),(nh,aq),(bH,aq),(iB,aq)]⟩
def wq:J PS:=[aW cD (aH (.Y bx) cD),aW d7 (aX (.Y bx) jU []),bu (aX (.Y kX) gp [b5 [.Y d7,aC (ay 73) [.Y bx]]]),aW Ac (bh .Add (.Y Ac) (.Y d7)),.ite (aN .Gt (.Y Ac) (ay 103)) [gj] []]
def by5:Fn:=⟨Ma,[.vF [kX,Ac] [cP ah [],aj 0],iO [cD,d7,rN] [rN] ah (m8 (aX (.Y bx) jU [])) wq,.ite (aN .Gt (.Y Ac) (.Y f7)) [gj] [],aW dQ (cP ah []),iO [bW,d7] [d7,bW] ak (fq (.Y kX)) [bu (aX (.Y dQ) om [bh .Mult (cP ak [.Y bW]) (.Y d7)])],bF (dj .tuple ak [.Y dQ])],pa [bx,f7],[(bx,aq),(f7,aq),(cD,aq),(dQ,aq),(bW,aq),(d7,aq),(kX,aq),(Ac,aq),(rN,aq)]⟩
def by6:Fn:=⟨Zr,[eN (.Y aK) BC (aC (ay 104) [.Y bH]),eN (.Y aK) uC (.Y uC),eN (.Y aK) bI (aC (ay 105) []),eN (.Y aK) fy (cP ak []),eN (.Y aK) GI (.cB ak),eN (.Y aK) Bx jy,eN (.Y aK) GG (cP ah [])],pa [aK,bH,uC],[(aK,aq),(bH,aq),(uC,aq)]⟩
def by7:Fn:=⟨RB,[.sW [dX,bw,bH,fK] (.not (aX (aH (.Y aK) BC) GJ [])) [.pW [bw,fK] (aX (aH (.Y aK) BC) Zk []),.ite (aN .Eq (.Y bw) (ay 8)) [.pW [dX,bH] (aC (ay 106) [.Y fK]),bu (aX (aH (aH (.Y aK) bI) qL) gp [aC (ay 107) [.Y dX,.Y bH,aj 0]]),bu (aX (aH (.Y aK) GG) gp [aH (aH (.Y aK) BC) dO])] [bu (aX (.Y aK) Zg [.Y bw,.Y fK])],bu (aC (ay 108) [.Y fK])],bu (aX (.Y aK) Zd []),bF (aH (.Y aK) bI)],pa [aK],[(aK,aq),(dX,aq),(bw,aq),(bH,aq),(fK,aq)]⟩
def NT:Fn:=⟨RC,[aW bI (aH (.Y aK) bI),.ite (aN .Eq (.Y bw) (aj 1)) [eN (.Y bI) fy (fq (aC (ay 72) [.Y fK,ay 109]))] [.ite (aN .Eq (.Y bw) (aj 2)) [eN (.Y bI) p_ (fq (aC (ay 72) [.Y fK,ay 110]))] [.ite (aN .Eq (.Y bw) (aj 3)) [eN (.Y aK) fy (fq (aC (ay 72) [.Y fK,ay 85]))] [.ite (aN .Eq (.Y bw) (aj 4)) [eN (.Y bI) qd (fq (aC (ay 72) [.Y fK,ay 77]))] [.ite (aN .Eq (.Y bw) (aj 5)) [eN (.Y bI) qc (fq (aC (ay 72) [.Y fK,ay 78]))] [.ite (aN .Eq (.Y bw) (aj 6)) [eN (.Y bI) pZ (fq (aC (ay 72) [.Y fK,ay 111]))] [.ite (aN .Eq (.Y bw) (aj 7)) [eN (.Y bI) pY (fq (aC (ay 72) [.Y fK,ay 112]))] [.ite (aN .Eq (.Y bw) (aj 8)) [eN (.Y bI) nU (aX (.Y fK) jU [])] [.ite (aN .Eq (.Y bw) (aj 9)) [eN (.Y bI) pX (fq (aC (ay 72) [.Y fK,ay 113]))] [.ite (aN .Eq (.Y bw) (aj 10)) [bu (aX (.Y aK) Zf [.Y fK])] [.ite (aN .Eq (.Y bw) (aj 11)) [aW cD (aH (.Y fK) cD),eN (.Y bI) nP (fq (aC (ay 72) [.Y fK,ay 114])),bu (aX (.Y aK) Rg [.Y cD])] [eN (.Y aK) Bx (aX (.Y fK) jU [])]]]]]]]]]]]],pa [aK,bw,fK],[(aK,aq),(bw,aq),(fK,aq),(cD,aq),(bI,aq)]⟩
def wt:J PS:=[aW kU (aX (.Y fK) fK [aX (.Y fK) jU []]),aW fy (aC (ay 115) [.Y kU,aH (.Y aK) uC]),aW dK (aC (ay 99) [.Y kU,aN .IsNot (aH (.Y aK) Bx) jy]),bu (aC (ay 108) [.Y kU]),bu (aX (aH (aH (.Y aK) bI) mF) gp [fq (aC (ay 116) [.Y bW,.Y fy,.Y dK])])]
def by8:Fn:=⟨RD,[aW cD (aH (.Y fK) cD),eN (.Y aK) GI (.cB ah),.ite (aN .NotEq (aX (.Y fK) jU []) (dj .len ak [aH (.Y aK) fy])) [gj] [],iO [dK,kU,bW,fy] [bW] ah (aH (.Y aK) fy) wt],pa [aK,fK],[(aK,aq),(fK,aq),(cD,aq),(dK,aq),(kU,aq),(bW,aq),(fy,aq)]⟩
def by9:Fn:=⟨Mb,[.ite (jz .And [aN .IsNot (aH (.Y aK) Bx) jy,aN .NotEq (aH (.Y aK) Bx) (dj .len ak [aH (aH (.Y aK) bI) nP])]) [gj] []],pa [aK,cD],[(aK,aq),(cD,aq)]⟩
def bz0:Fn:=⟨RE,[.ite (jz .And [.not (aH (.Y aK) GI),aN .NotEq (aH (.Y aK) fy) (cP ak [])]) [gj] [],bu (aX (.Y aK) Rg [aH (aH (aH (.Y aK) BC) bx) cD]),.DO [jS,dO] jS dO (aH (aH (.Y aK) bI) qL) (aH (.Y aK) GG) [eN (.Y jS) rL (aC (ay 62) [aH (.Y aK) bI,.ite (aN .GtE (.Y dO) (aj 0)) (lC (ay 9) (.Y dO)) (aj 0)])]],pa [aK],[(aK,aq),(jS,aq),(dO,aq)]⟩
def bz1:Fn:=⟨Ek,[bF (aX (aC (ay 117) [.Y bH,.Y uC]) Ze [])],[(bH,ao),(uC,N (.int 50000))],[(bH,aq),(uC,aq)]⟩
def bz2:Fn:=⟨ou,[aW dQ (bh .Mod (gM (.Y aM) (aj 0)) (.Y d7)),.ye (.Y aM) (aj 0) (bh .FloorDiv (gM (.Y aM) (aj 0)) (.Y d7)),bF (.Y dQ)],pa [aM,d7],[(aM,aq),(d7,aq),(dQ,aq)]⟩
def bz3:Fn:=⟨Al,[bF (cP ah [.ite (aN .NotEq (.Y fY) (cP ak [])) (aX (.Y fY) Rb [aj 0]) (aj 0)])],pa [fY],[(fY,aq)]⟩
def bz4:Fn:=⟨Hp,[bF (gR ah [bw,d7] [d9] ah (m8 (.Y d7)) [] (bh .Add (bh .Mod (bh .FloorDiv (.Y bw) (bh .Pow (aj 128) (.Y d9))) (aj 128)) (.ite (aN .Lt (.Y d9) (bh .Sub (.Y d7) (aj 1))) (aj 128) (aj 0))))],pa [bw,d7],[(bw,.cell),(d7,.cell)]⟩
def bz5:Fn:=⟨Hq,[bF (b5 [b5 [aj 65,aj 65,cK Ri],b5 [aj 2,aj 4,cK GR],b5 [aj 69,aj 90,cK t_],b5 [aj 4,aj 4,cK GR],b5 [aj 12,aj 13,cK wX],b5 [aj 14,aj 14,cK Rm],b5 [aj 16,aj 16,cK wX],b5 [aj 17,aj 17,cK Lm],b5 [aj 18,aj 18,cK wX],b5 [aj 19,aj 19,cK Lm],b5 [aj 0,aj 1,cK t_],b5 [aj 15,aj 15,cK t_],b5 [aj 26,aj 27,cK t_],b5 [aj 28,aj 28,cK Rj],b5 [aj 32,aj 38,cK wX],b5 [aj 40,aj 41,cK Rh],b5 [aj 44,aj 55,cK Rh],b5 [aj 58,aj 62,cK Rh],b5 [aj 63,aj 64,cK Rn],b5 [aj 66,aj 66,cK Rk],b5 [aj 103,aj 138,cK t_],b5 [aj 167,aj 167,cK t_],b5 [aj 172,aj 173,cK t_],b5 [aj 192,aj 196,cK t_],b5 [aj 208,aj 208,cK Rl],b5 [aj 209,aj 209,cK t_],b5 [aj 210,aj 210,cK wX],b5 [aj 64520,aj 64520,cK (az [117,122])],b5 [aj 64521,aj 64521,cK wX],b5 [aj 64522,aj 64522,cK (az [122,122])],b5 [aj 64523,aj 64523,cK Rn],b5 [aj 64524,aj 64524,cK Lm],b5 [aj 64525,aj 64525,cK wX],b5 [aj 64526,aj 64526,cK Lm],b5 [aj 64527,aj 64529,cK wX]])],pa [],[]⟩
def bz6:Fn:=⟨Hr,[bF (.z7 [((cK t_),(cP ak [])),((cK Ll),(cP ak [aj 97])),((cK (az [233,98])),(cP ak [aj 195,aj 169,aj 98])),((cK (az [8364])),(cP ak [aj 226,aj 130,aj 172])),((cK (az [66376])),(cP ak [aj 240,aj 144,aj 141,aj 136]))])],pa [],[]⟩
def bz7:Fn:=⟨Hs,[bF (lC (cP ak [cK Ll,cK t_,cK (az [233,98]),cK (az [8364]),cK (az [66376])]) (aC (ay 118) [.Y aM,aj 5]))],pa [aM],[(aM,aq)]⟩
def bz8:Fn:=⟨uF,[aW gS (aC (ay 118) [.Y aM,aj 3]),.ite (aN .Eq (.Y gS) (aj 0)) [bF (aC (ay 118) [.Y aM,aj 4])] [],bF (.ite (aN .Eq (.Y gS) (aj 1)) (lC (cP ak [aj 127,aj 128,aj 16383,aj 16384]) (aC (ay 118) [.Y aM,aj 4])) (aC (ay 118) [.Y aM,bh .Pow (aj 2) (aj 32)]))],pa [aM],[(aM,aq),(gS,aq)]⟩
def wv:Fn:=⟨Ht,[aW gS (aC (ay 118) [.Y aM,aj 3]),.ite (aN .Eq (.Y gS) (aj 0)) [bF (bh .Sub (aC (ay 118) [.Y aM,aj 5]) (aj 2))] [],.ite (aN .Eq (.Y gS) (aj 1)) [bF (lC (cP ak [aj 63,aj 64,jn (aj 64),jn (aj 65),aj 8191,aj 8192,jn (aj 8192),jn (aj 8193)]) (aC (ay 118) [.Y aM,aj 8]))] [],bF (bh .Sub (aC (ay 118) [.Y aM,bh .Pow (aj 2) (.Y qK)]) (bh .Pow (aj 2) (bh .Sub (.Y qK) (aj 1))))],pa [aM,qK],[(aM,aq),(qK,aq),(gS,aq)]⟩
def bz9:Fn:=⟨BV,[bF (lC (b5 [jn (aj 1),jn (aj 2),jn (aj 16),jn (aj 17)]) (aC (ay 118) [.Y aM,aj 4]))],pa [aM],[(aM,aq)]⟩
def bA0:Fn:=⟨Hu,[bF (dj .tuple ak [gR ak [aM] [d9] ah (m8 (.Y d7)) [] (aC (ay 119) [.Y aM])])],pa [aM,d7],[(aM,.cell),(d7,aq)]⟩
def bA1:Fn:=⟨Hv,[aW fQ (aC (ay 120) [.Y aM]),bF (b5 [.Y fQ,.ite (aN .Eq (aC (ay 118) [.Y aM,aj 2]) (aj 1)) (aC (ay 120) [.Y aM]) jy])],pa [aM],[(aM,aq),(fQ,aq)]⟩
def bA2:Fn:=⟨Mc,[aW gS (aC (ay 118) [.Y aM,aj 3]),.ite (aN .Eq (.Y gS) (aj 0)) [bF (jn (aj 64))] [],bF (.ite (aN .Eq (.Y gS) (aj 1)) (aC (ay 119) [.Y aM]) (aC (ay 120) [.Y aM]))],pa [aM],[(aM,aq),(gS,aq)]⟩
def Uq:J PS:=[.ite (aN .Eq (.Y i8) (cK wX)) [bu (aX (.Y dQ) gp [aC (ay 120) [.Y aM]])] [.ite (aN .Eq (.Y i8) (cK Ll)) [bu (aX (.Y dQ) gp [aC (ay 118) [.Y aM,aj 32]])] [.ite (aN .Eq (.Y i8) (cK Ri)) [bu (aX (.Y dQ) gp [aC (ay 122) [.Y aM,aj 32]])] [.ite (aN .Eq (.Y i8) (cK Rk)) [bu (aX (.Y dQ) gp [aC (ay 122) [.Y aM,aj 64]])] [.ite (aN .Eq (.Y i8) (cK Rl)) [bu (aX (.Y dQ) gp [lC (b5 [jn (aj 16),jn (aj 17)]) (aC (ay 118) [.Y aM,aj 2])])] [.ite (aN .Eq (.Y i8) (cK GR)) [bu (aX (.Y dQ) gp [aC (ay 123) [.Y aM]])] [.ite (aN .Eq (.Y i8) (cK Rj)) [bu (aX (.Y dQ) om [aC (ay 124) [.Y aM,aC (ay 118) [.Y aM,aj 3]]])] [.ite (aN .Eq (.Y i8) (cK Rm)) [bu (aX (.Y dQ) om [gR ak [aM] [d9] ah (m8 (bh .Add (aj 1) (aC (ay 118) [.Y aM,aj 3]))) [] (aC (ay 120) [.Y aM])])] []]]]]]]]]
def bA3:Fn:=⟨Me,[aW GO (aC (ay 121) []),.pW [fQ,f7,vI] (lC (.Y GO) (aC (ay 118) [.Y aM,dj .len ak [.Y GO]])),aW dQ (cP ah [bh .Add (.Y fQ) (aC (ay 118) [.Y aM,bh .Add (bh .Sub (.Y f7) (.Y fQ)) (aj 1)])]),iO [i8] [i8] ah (.Y vI) Uq,bF (dj .tuple ak [.Y dQ])],pa [aM],[(aM,.cell),(dQ,aq),(fQ,aq),(i8,aq),(vI,aq),(f7,aq),(GO,aq)]⟩
def ww:J PS:=[aW aM (aC (ay 125) [.Y fY]),.ite (jz .And [aN .NotEq (.Y yf) (cP ak []),aN .Eq (aC (ay 118) [.Y aM,aj 3]) (aj 2)]) [.ite (jz .And [aN .Eq (gM (.Y yf) (jn (aj 1))) (aj 4),aN .Eq (aC (ay 118) [.Y aM,aj 2]) (aj 1)]) [bu (aX (.Y dK) gp [b5 [aj 5]]),.ye (.Y yf) (jn (aj 1)) (aj 5)] [bu (aX (.Y dK) gp [b5 [aj 11]]),bu (aX (.Y yf) Rb [])]] [bu (aX (.Y dK) gp [aC (ay 126) [.Y aM]]),.ite (aN .In (gM (gM (.Y dK) (jn (aj 1))) (aj 0)) (b5 [aj 2,aj 3,aj 4])) [bu (aX (.Y yf) gp [gM (gM (.Y dK) (jn (aj 1))) (aj 0)])] []]]
def bA4:Fn:=⟨Mf,[aW dK (cP ah []),aW yf (cP ah []),iO [d9,aM] [d9] ah (m8 (bh .Mod (bh .Add (aj 1) (gM (aC (ay 125) [.Y fY]) (aj 0))) (aj 5))) ww,bF (bh .Add (.Y dK) (bh .Mult (cP ak [b5 [aj 11]]) (bh .Add (dj .len ak [.Y yf]) (aj 1))))],pa [fY],[(fY,aq),(dK,aq),(d9,aq),(aM,aq),(yf,aq)]⟩
def bA5:Fn:=⟨El,[aW gS (aC (ay 118) [.Y aM,aj 4]),.ite (aN .Eq (.Y gS) (aj 0)) [bF (cP ak [b5 [aj 65,aC (ay 122) [.Y aM,aj 32]],b5 [aj 11]])] [],.ite (aN .Eq (.Y gS) (aj 1)) [bF (cP ak [b5 [aj 66,aC (ay 122) [.Y aM,aj 64]],b5 [aj 11]])] [],.ite (aN .Eq (.Y gS) (aj 2)) [bF (cP ak [b5 [aj 35,aC (ay 120) [.Y aM]],b5 [aj 11]])] [],bF (cP ak [b5 [aj 35,aC (ay 120) [.Y aM]],b5 [aj 65,aC (ay 122) [.Y aM,aj 32]],b5 [aj 106],b5 [aj 11]])],pa [aM],[(aM,aq),(gS,aq)]⟩
def bA6:Fn:=⟨Mg,[aW fR (aC (ay 118) [.Y aM,aj 4]),aW i7 jy,.ite (aN .Eq (.Y fR) (aj 0)) [aW i7 (aC (ay 120) [.Y aM])] [.ite (aN .Eq (.Y fR) (aj 1)) [aW i7 (bh .Add (b5 [lC (b5 [jn (aj 16),jn (aj 17)]) (aC (ay 118) [.Y aM,aj 2])]) (aC (ay 127) [.Y aM]))] [.ite (aN .Eq (.Y fR) (aj 2)) [aW i7 (aC (ay 127) [.Y aM])] [aW i7 (b5 [aC (ay 119) [.Y aM],aC (ay 118) [.Y aM,aj 2]])]]],bF (fq (aC (ay 76) [aC (ay 128) [.Y aM],aC (ay 128) [.Y aM],.Y fR,.Y i7]))],pa [aM],[(aM,aq),(i7,aq),(fR,aq)]⟩
def bA7:Fn:=⟨Mh,[aW aM (aC (ay 125) [.Y fY]),aW bW (aC (ay 120) [.Y aM]),aW DQ (dj .tuple ak [gR ak [aM] [d9] ah (m8 (aC (ay 118) [.Y aM,aj 5])) [] (lC (b5 [jn (aj 1),jn (aj 2)]) (aC (ay 118) [.Y aM,aj 2]))]),bF (fq (aC (ay 116) [.Y bW,.Y DQ,aC (ay 129) [.Y fY]]))],pa [fY],[(fY,aq),(bW,aq),(DQ,aq),(aM,.cell)]⟩
def wx:J PS:=[aW lF (aC (ay 120) [.Y aM]),aW sZ (.ite (.Y BA) (b5 [aj 210,.Y lF]) (lC (cP ak [b5 [aj 208,.Y bW],b5 [aj 35,.Y lF],b5 [aj 210,.Y lF]]) (aC (ay 118) [.Y aM,aj 3]))),bu (aX (.Y kr) gp [cP ak [.Y sZ,b5 [aj 11]]])]
def Ur:J PS:=[aW fZ (lC (b5 [aj 1,aj 0,aj 2]) (aC (ay 118) [.Y aM,aj 3])),aW kY (.ite (jz .And [aN .Eq (.Y fZ) (aj 1),aN .Eq (aC (ay 118) [.Y aM,aj 2]) (aj 1)]) (aC (ay 120) [.Y aM]) (aj 0)),aW BA (aN .Eq (aC (ay 118) [.Y aM,aj 2]) (aj 0)),aW bW (.ite (.Y BA) (jn (aj 16)) (lC (b5 [jn (aj 16),jn (aj 17)]) (aC (ay 118) [.Y aM,aj 2]))),aW kr (cP ah []),iO [sZ,lF,d9] [d9] ah (m8 (bh .Mod (bh .Add (aj 1) (aC (ay 118) [.Y aM,aj 3])) (aj 3))) wx,bF (fq (aC (ay 101) [.Y fZ,.Y kY,.ite (aN .Eq (.Y fZ) (aj 1)) (aC (ay 130) [.Y aM]) jy,.Y bW,fq (.Y kr)]))]
def bA8:Fn:=⟨Mi,Ur,pa [aM],[(aM,aq),(sZ,aq),(lF,aq),(kr,aq),(BA,aq),(d9,aq),(bW,aq),(fZ,aq),(kY,aq)]⟩
def wE:J PS:=[aW fZ (lC (b5 [aj 1,aj 0]) (aC (ay 118) [.Y aM,aj 2])),aW nh (.ite (jz .And [aN .Eq (.Y fZ) (aj 1),aN .Eq (aC (ay 118) [.Y aM,aj 2]) (aj 1)]) (aC (ay 120) [.Y aM]) (aj 0)),aW bH (dj .bytes ak [gR ak [aM] [d9] ah (m8 (aC (ay 118) [.Y aM,aj 4])) [] (aC (ay 118) [.Y aM,aj 256])]),bF (fq (aC (ay 102) [.Y fZ,.Y nh,.ite (aN .Eq (.Y fZ) (aj 1)) (aC (ay 130) [.Y aM]) jy,.Y bH]))]
def bA9:Fn:=⟨Mj,wE,pa [aM],[(aM,.cell),(nh,aq),(fZ,aq),(bH,aq)]⟩
def bB0:Fn:=⟨Mk,[aW d7 (dj .min ak [bh .Mod (bh .Add (aj 1) (gM (aC (ay 125) [.Y fY]) (aj 0))) (aj 3),gM (.Y nR) (aj 0)]),.ye (.Y nR) (aj 0) (bh .Sub (gM (.Y nR) (aj 0)) (.Y d7)),bF (.Y d7)],pa [fY,nR],[(fY,aq),(nR,aq),(d7,aq)]⟩
def wP:J PS:=[aW aM (aC (ay 125) [.Y fY]),aW kW (aC (ay 124) [.Y aM,aC (ay 118) [.Y aM,aj 3]]),bu (aX (aH (.Y bI) fy) gp [b5 [.Y kW,aC (ay 124) [.Y aM,aC (ay 118) [.Y aM,aj 3]]]])]
def wT:J PS:=[bu (aX (aH (.Y bI) p_) gp [aC (ay 132) [aC (ay 125) [.Y fY]]])]
def w0:J PS:=[bu (aX (aH (.Y bI) mF) gp [aC (ay 133) [.Y fY]])]
def w3:J PS:=[aW aM (aC (ay 125) [.Y fY]),bu (aX (aH (.Y bI) qd) gp [bh .Add (b5 [lC (b5 [jn (aj 16),jn (aj 17)]) (aC (ay 118) [.Y aM,aj 2])]) (aC (ay 127) [.Y aM])])]
def xa:J PS:=[bu (aX (aH (.Y bI) qc) gp [aC (ay 127) [aC (ay 125) [.Y fY]]])]
def xb:J PS:=[aW aM (aC (ay 125) [.Y fY]),aW bW (aC (ay 119) [.Y aM]),aW jT (aC (ay 118) [.Y aM,aj 2]),bu (aX (aH (.Y bI) pZ) gp [fq (aC (ay 80) [.Y bW,.Y jT,aC (ay 130) [.Y aM]])])]
def xc:J PS:=[aW aM (aC (ay 125) [.Y fY]),aW dX (aC (ay 128) [.Y aM]),aW fR (aC (ay 118) [.Y aM,aj 4]),bu (aX (aH (.Y bI) pY) gp [b5 [.Y dX,.Y fR,aC (ay 120) [.Y aM]]])]
def xf:J PS:=[bu (aX (aH (.Y bI) pX) gp [aC (ay 134) [aC (ay 125) [.Y fY]]])]
def xi:J PS:=[bu (aX (aH (.Y bI) nP) gp [aC (ay 135) [aC (ay 125) [.Y fY]]])]
def NU:J PS:=[aW aM (aC (ay 125) [.Y fY]),aW dX (aC (ay 128) [.Y aM]),aW bH (dj .bytes ak [gR ak [aM] [d9] ah (m8 (aC (ay 118) [.Y aM,aj 3])) [] (aC (ay 118) [.Y aM,aj 256])]),bu (aX (aH (.Y bI) qL) gp [fq (aC (ay 107) [.Y dX,.Y bH,lC (.Y BB) (.Y dO)])])]
def xk:J PS:=[aW nR (cP ah [aj 14]),aW bI (aC (ay 105) []),iO [d9,aM,kW] [d9] ah (m8 (aC (ay 131) [.Y fY,.Y nR])) wP,iO [d9] [d9] ah (m8 (aC (ay 131) [.Y fY,.Y nR])) wT,iO [d9] [d9] ah (m8 (aC (ay 131) [.Y fY,.Y nR])) w0,iO [d9,aM] [d9] ah (m8 (aC (ay 131) [.Y fY,.Y nR])) w3,iO [d9] [d9] ah (m8 (aC (ay 131) [.Y fY,.Y nR])) xa,iO [d9,bW,jT,aM] [d9] ah (m8 (aC (ay 131) [.Y fY,.Y nR])) xb,iO [d9,dX,aM,fR] [d9] ah (m8 (aC (ay 131) [.Y fY,.Y nR])) xc,aW aM (aC (ay 125) [.Y fY]),.ite (aN .Eq (aC (ay 118) [.Y aM,aj 2]) (aj 0)) [eN (.Y bI) nU (aC (ay 120) [.Y aM])] [],iO [d9] [d9] ah (m8 (aC (ay 131) [.Y fY,.Y nR])) xf,iO [d9] [d9] ah (m8 (aC (ay 131) [.Y fY,.Y nR])) xi,aW BB (bh .Add (cP ak [aj 0]) (aC (ay 136) [.sV (.sV (.sV (.sV (.sV (.sV (.sV (.sV (.sV (.Y bI) fy) p_) mF) qd) qc) pZ) pY) pX) nP])),aW GL (gR ak [fY] [d9] ah (m8 (aC (ay 131) [.Y fY,.Y nR])) [] (aC (ay 125) [.Y fY])),iO [dX,bH,aM,dO] [dO] ah (dj .sorted ak [.GD ak [BB] aM (.Y GL) (aC (ay 118) [.Y aM,dj .len ak [.Y BB]])]) NU,bF (fq (.Y bI))]
def bB1:Fn:=⟨Ml,xk,pa [fY],[(fY,.cell),(d9,aq),(bW,aq),(bI,aq),(jT,aq),(dX,aq),(bH,aq),(aM,.cell),(GL,aq),(kW,aq),(dO,aq),(nR,aq),(BB,.cell),(fR,aq)]⟩
def bB2:Fn:=⟨Hw,[aW Rf (.qJ ak [] lR (aH (.Y bI) mF) aM (aH (.Y lR) dK) [aN .In (gM (.Y aM) (aj 0)) (b5 [aj 64520,aj 64521])] (.Y aM)),aW nU (.ite (aN .Is (aH (.Y bI) nU) jy) (cP ak []) (cP ak [aH (.Y bI) nU])),aW wW (.z7 [((aj 1),(aH (.Y bI) fy)),((aj 2),(aH (.Y bI) p_)),((aj 3),(aH (.Y bI) mF)),((aj 4),(aH (.Y bI) qd)),((aj 5),(aH (.Y bI) qc)),((aj 6),(aH (.Y bI) pZ)),((aj 7),(aH (.Y bI) pY)),((aj 8),(.Y nU)),((aj 9),(aH (.Y bI) pX)),((aj 10),(aH (.Y bI) mF)),((aj 11),(aH (.Y bI) nP)),((aj 12),(.Y Rf))]),bF (gR ak [wW] [bw] ah (b5 [aj 1,aj 2,aj 3,aj 4,aj 5,aj 6,aj 7,aj 8,aj 9,aj 12,aj 10,aj 11]) [aN .NotEq (gM (.Y wW) (.Y bw)) (cP ak [])] (.Y bw))],pa [bI],[(bI,aq),(wW,.cell),(nU,aq),(Rf,aq)]⟩
def bB3:Fn:=⟨s9,[aW d7 (aj 1),.sW [] (aN .GtE (.Y bw) (bh .Pow (aj 128) (.Y d7))) [.aug d7 (aj 1)],bF (aC (ay 137) [.Y bw,dj .min ak [aj 5,bh .Add (.Y d7) (.Y cy)]])],pa [bw,cy],[(bw,aq),(cy,aq),(d7,aq)]⟩
def bB4:Fn:=⟨Mm,[aW d7 (aj 1),.sW [] (jz .Or [aN .Lt (.Y bw) (bh .Mult (jn (aj 64)) (bh .Pow (aj 128) (bh .Sub (.Y d7) (aj 1)))),aN .GtE (.Y bw) (bh .Mult (aj 64) (bh .Pow (aj 128) (bh .Sub (.Y d7) (aj 1))))]) [.aug d7 (aj 1)],bF (fq (aC (ay 137) [.Y bw,dj .min ak [bh .FloorDiv (bh .Add (.Y qK) (aj 6)) (aj 7),bh .Add (.Y d7) (.Y cy)]]))],pa [bw,qK,cy],[(bw,aq),(qK,aq),(cy,aq),(d7,aq)]⟩
def bB5:Fn:=⟨w6,[aW bH (aC (ay 138) [dj .len ak [.Y lH],.Y cy]),iO [fK] [fK] ah (.Y lH) [bu (aX (.Y bH) om [.Y fK])],bF (fq (.Y bH))],pa [lH,cy],[(lH,aq),(cy,aq),(bH,aq),(fK,aq)]⟩
def xl:Fn:=⟨Em,[bF (aC (ay 139) [gR ak [] [eB] ah (gM (aC (ay 140) []) (.Y yi)) [] (cP ak [.Y eB]),.Y cy])],pa [yi,cy],[(yi,aq),(cy,aq)]⟩
def bB6:Fn:=⟨Hx,[bF (aC (ay 139) [gR ak [] [bW] ah (.Y fy) [] (cP ak [bh .Add (aj 128) (.Y bW)]),.Y cy])],pa [fy,cy],[(fy,aq),(cy,aq)]⟩
def xn:J PS:=[.ite (jz .And [aN .LtE (.Y fQ) (.Y d8),aN .LtE (.Y d8) (.Y f7)]) [bF (.Y vI)] []]
def xp:Fn:=⟨Mn,[iO [fQ,vI,f7] [fQ,f7,vI] ak (aC (ay 121) []) xn,bF (cK t_)],pa [d8],[(d8,aq),(fQ,aq),(vI,aq),(f7,aq)]⟩
def xv:J PS:=[.ite (aN .Eq (.Y i8) (cK Rn)) [bu (aX (.Y bH) gp [aj 0])] [.ite (aN .Eq (.Y i8) (cK Rj)) [bu (aX (.Y bH) om [aC (ay 142) [.ur (.Y lT) (N (aj 1)) ao,.Y cy]])] [.ite (aN .Eq (.Y i8) (cK Rm)) [bu (aX (.Y bH) om [fq (aC (ay 138) [bh .Sub (dj .len ak [.Y lT]) (aj 2),.Y cy])]),iO [uB] [uB] ah (.ur (.Y lT) (N (aj 1)) ao) [bu (aX (.Y bH) om [fq (aC (ay 138) [.Y uB,.Y cy])])]] [aW bw (lC (.Y lT) (.Y dO)),.aug dO (aj 1),.ite (jz .Or [aN .Eq (.Y i8) (cK Rl),jz .And [aN .Eq (.Y i8) (cK GR),aN .Lt (.Y bw) (aj 0)]]) [bu (aX (.Y bH) gp [bh .Add (aj 128) (.Y bw)])] [.ite (jz .Or [aN .Eq (.Y i8) (cK wX),aN .Eq (.Y i8) (cK Ll)]) [bu (aX (.Y bH) om [fq (aC (ay 138) [.Y bw,.Y cy])])] [bu (aX (.Y bH) om [aC (ay 143) [.Y bw,gM (.z7 [((cK Ri),(aj 32)),((cK Rk),(aj 64)),((cK GR),(aj 33))]) (.Y i8),.Y cy]])]]]]]]
def bB7:Fn:=⟨BW,[aW bH (cP ah []),iO [d8,lT,uB,i8,bw,dO] [lT] ah (.Y dK) [aW d8 (gM (.Y lT) (aj 0)),bu (aX (.Y bH) om [.ite (aN .Lt (.Y d8) (aj 64512)) (cP ak [.Y d8]) (bh .Add (cP ak [aj 252]) (fq (aC (ay 138) [bh .Sub (.Y d8) (aj 64512),.Y cy])))]),aW dO (aj 1),iO [uB,i8,bw] [i8] ah (aC (ay 141) [.Y d8]) xv],bF (fq (.Y bH))],pa [dK,cy],[(dK,aq),(cy,aq),(d8,aq),(lT,aq),(uB,aq),(i8,aq),(bw,aq),(bH,aq),(dO,aq)]⟩
def bB8:Fn:=⟨Hy,[.pW [fQ,f7] (.Y Ra),.ite (aN .Is (.Y f7) jy) [bF (bh .Add (cP ak [aj 0]) (fq (aC (ay 138) [.Y fQ,.Y cy])))] [],bF (bh .Add (bh .Add (cP ak [aj 1]) (fq (aC (ay 138) [.Y fQ,.Y cy]))) (fq (aC (ay 138) [.Y f7,.Y cy])))],pa [Ra,cy],[(Ra,aq),(cy,aq),(fQ,aq),(f7,aq)]⟩
def bB9:Fn:=⟨Mp,[aW bH (bh .Add (bh .Add (aC (ay 144) [aH (.Y aM) dO,.Y cy]) (aC (ay 144) [aH (.Y aM) dX,.Y cy])) (cP ak [aH (.Y aM) fR])),.ite (aN .Eq (aH (.Y aM) fR) (aj 0)) [bF (bh .Add (.Y bH) (fq (aC (ay 138) [aH (.Y aM) i7,.Y cy])))] [],.ite (aN .Eq (aH (.Y aM) fR) (aj 1)) [bF (bh .Add (bh .Add (.Y bH) (cP ak [bh .Add (aj 128) (gM (aH (.Y aM) i7) (aj 0))])) (aC (ay 145) [.ur (aH (.Y aM) i7) (N (aj 1)) ao,.Y cy]))] [],.ite (aN .Eq (aH (.Y aM) fR) (aj 2)) [bF (bh .Add (.Y bH) (aC (ay 145) [aH (.Y aM) i7,.Y cy]))] [],bF (bh .Add (.Y bH) (cP ak [bh .Add (aj 128) (gM (aH (.Y aM) i7) (aj 0)),gM (aH (.Y aM) i7) (aj 1)]))],pa [aM,cy],[(aM,aq),(cy,aq),(bH,aq)]⟩
def xz:J PS:=[aW fy (aH (.Y lR) z_),aW kX (cP ak []),.ite (aN .Gt (.Y cy) (aj 0)) [aW kX (bh .Add (cP ak [cP ak [aj 0,aj 126]]) (gR ak [] [bW] ah (.Y fy) [] (cP ak [aj 1,bh .Add (aj 128) (.Y bW)])))] [aW z9 (bh .Add (gR ak [fy] [d9] ah (m8 (dj .len ak [.Y fy])) [jz .Or [aN .Eq (.Y d9) (aj 0),aN .NotEq (lC (.Y fy) (.Y d9)) (lC (.Y fy) (bh .Sub (.Y d9) (aj 1)))]] (.Y d9)) (cP ak [dj .len ak [.Y fy]])),aW kX (gR ak [z9,fy] [d9] ah (m8 (bh .Sub (dj .len ak [.Y z9]) (aj 1))) [] (cP ak [bh .Sub (lC (.Y z9) (bh .Add (.Y d9) (aj 1))) (lC (.Y z9) (.Y d9)),bh .Add (aj 128) (lC (.Y fy) (lC (.Y z9) (.Y d9)))]))],aW bH (bh .Add (aC (ay 139) [.Y kX,.Y cy]) (aC (ay 146) [aH (.Y lR) dK,.Y cy])),bF (bh .Add (fq (aC (ay 138) [dj .len ak [.Y bH],.Y cy])) (.Y bH))]
def bC0:Fn:=⟨Mq,xz,pa [lR,cy],[(lR,aq),(cy,aq),(z9,.cell),(fy,.cell),(bH,aq),(kX,aq)]⟩
def xI:J PS:=[aW Lf (jz .And [aN .Eq (aH (.Y oj) bW) (jn (aj 16)),aN .Eq (gR ak [] [lG] ah (aH (.Y oj) kr) [aN .NotEq (gM (gM (.Y lG) (aj 0)) (aj 0)) (aj 210)] (.Y lG)) (cP ak [])]),aW gS (lC (b5 [aj 1,aj 2,aj 3]) (aH (.Y oj) fZ)),.ite (jz .And [aN .Eq (aH (.Y oj) fZ) (aj 1),aN .Eq (aH (.Y oj) kY) (aj 0),aN .Eq (aH (.Y oj) bW) (jn (aj 16)),aN .Eq (.Y cy) (aj 0)]) [aW gS (aj 0)] [],.ite (jz .And [.Y Lf,aN .NotEq (.Y cy) (aj 1)]) [aW bH (fq (aC (ay 138) [.Y gS,.Y cy])),aW bW (cP ak [aj 0]),aW lH (gR ak [cy] [lG] ah (aH (.Y oj) kr) [] (fq (aC (ay 138) [gM (gM (.Y lG) (aj 0)) (aj 1),.Y cy])))] [aW bH (fq (aC (ay 138) [bh .Add (.Y gS) (aj 4),.Y cy])),aW bW (cP ak [bh .Add (aj 128) (aH (.Y oj) bW)]),aW lH (gR ak [cy] [lG] ah (aH (.Y oj) kr) [] (aC (ay 146) [.Y lG,.Y cy]))],.ite (aN .Eq (.Y gS) (aj 2)) [aW bH (bh .Add (.Y bH) (fq (aC (ay 138) [aH (.Y oj) kY,.Y cy])))] [],.ite (aN .Eq (aH (.Y oj) fZ) (aj 1)) [aW bH (bh .Add (.Y bH) (aC (ay 146) [aH (.Y oj) iB,.Y cy]))] [],.ite (aN .NotEq (.Y gS) (aj 0)) [aW bH (bh .Add (.Y bH) (.Y bW))] [],bF (bh .Add (.Y bH) (aC (ay 139) [.Y lH,.Y cy]))]
def bC1:Fn:=⟨Mr,xI,pa [oj,cy],[(oj,aq),(cy,.cell),(Lf,aq),(bW,aq),(bH,aq),(lH,aq),(gS,aq)]⟩
def bC2:Fn:=⟨Ms,[aW bH (aC (ay 139) [gR ak [] [eB] ah (aH (.Y vH) bH) [] (cP ak [.Y eB]),.Y cy]),.ite (aN .Eq (aH (.Y vH) fZ) (aj 0)) [bF (bh .Add (fq (aC (ay 138) [aj 1,.Y cy])) (.Y bH))] [],.ite (jz .And [aN .Eq (aH (.Y vH) nh) (aj 0),aN .Eq (.Y cy) (aj 0)]) [bF (bh .Add (bh .Add (cP ak [aj 0]) (aC (ay 146) [aH (.Y vH) iB,.Y cy])) (.Y bH))] [],bF (bh .Add (bh .Add (bh .Add (fq (aC (ay 138) [aj 2,.Y cy])) (fq (aC (ay 138) [aH (.Y vH) nh,.Y cy]))) (aC (ay 146) [aH (.Y vH) iB,.Y cy])) (.Y bH))],pa [vH,cy],[(vH,aq),(cy,aq),(bH,aq)]⟩
def xL:Fn:=⟨Mu,[.ite (aN .Eq (.Y bw) (aj 8)) [bF (fq (aC (ay 138) [aH (.Y bI) nU,.Y cy]))] [],.ite (aN .Eq (.Y bw) (aj 12)) [bF (fq (aC (ay 138) [dj .len ak [aH (.Y bI) nP],.Y cy]))] [],aW lH (cP ah []),.ite (aN .Eq (.Y bw) (aj 1)) [iO [kW,oq] [kW,oq] ak (aH (.Y bI) fy) [bu (aX (.Y lH) gp [bh .Add (bh .Add (cP ak [aj 96]) (aC (ay 142) [.Y kW,.Y cy])) (aC (ay 142) [.Y oq,.Y cy])])]] [.ite (aN .Eq (.Y bw) (aj 2)) [aW lH (gR ah [cy] [aM] ah (aH (.Y bI) p_) [] (aC (ay 147) [.Y aM,.Y cy]))] [.ite (aN .Eq (.Y bw) (aj 3)) [aW lH (gR ah [cy] [lR] ah (aH (.Y bI) mF) [] (fq (aC (ay 138) [aH (.Y lR) bW,.Y cy])))] [.ite (aN .Eq (.Y bw) (aj 4)) [aW lH (gR ah [cy] [aM] ah (aH (.Y bI) qd) [] (bh .Add (cP ak [bh .Add (aj 128) (gM (.Y aM) (aj 0))]) (aC (ay 145) [.ur (.Y aM) (N (aj 1)) ao,.Y cy])))] [.ite (aN .Eq (.Y bw) (aj 5)) [aW lH (gR ah [cy] [aM] ah (aH (.Y bI) qc) [] (aC (ay 145) [.Y aM,.Y cy]))] [.ite (aN .Eq (.Y bw) (aj 6)) [aW lH (gR ah [cy] [aM] ah (aH (.Y bI) pZ) [] (bh .Add (cP ak [bh .Add (aj 128) (aH (.Y aM) bW),aH (.Y aM) jT]) (aC (ay 146) [aH (.Y aM) dK,.Y cy])))] [.ite (aN .Eq (.Y bw) (aj 7)) [aW lH (gR ah [cy] [dX,fR,lF] ak (aH (.Y bI) pY) [] (bh .Add (bh .Add (aC (ay 144) [.Y dX,.Y cy]) (cP ak [.Y fR])) (fq (aC (ay 138) [.Y lF,.Y cy]))))] [.ite (aN .Eq (.Y bw) (aj 9)) [aW lH (gR ah [cy] [oj] ah (aH (.Y bI) pX) [] (aC (ay 148) [.Y oj,.Y cy]))] [.ite (aN .Eq (.Y bw) (aj 10)) [aW lH (gR ah [cy] [lR] ah (aH (.Y bI) mF) [] (aC (ay 149) [.Y lR,.Y cy]))] [aW lH (gR ah [cy] [vH] ah (aH (.Y bI) nP) [] (aC (ay 150) [.Y vH,.Y cy]))]]]]]]]]],bF (aC (ay 139) [fq (.Y lH),.Y cy])],pa [bI,bw,cy],[(bI,aq),(bw,aq),(cy,.cell),(kW,aq),(lH,aq),(oq,aq)]⟩
def x3:J PS:=[.ite (aN .Eq (aH (.Y jS) rL) (.Y bw)) [aW uA (bh .Add (aC (ay 144) [aH (.Y jS) dX,.Y cy]) (dj .list ak [aH (.Y jS) bH])),bu (aX (.Y bH) gp [aj 0]),bu (aX (.Y bH) om [bh .Add (fq (aC (ay 138) [dj .len ak [.Y uA],.Y cy])) (.Y uA)])] []]
def x4:J PS:=[.ite (jz .Or [aN .In (.Y bw) (.Y Ad),jz .And [aN .Gt (.Y cy) (aj 0),aN .NotIn (.Y bw) (b5 [aj 0,aj 8])]]) [aW uA (aC (ay 151) [.Y bI,.Y bw,.Y cy]),bu (aX (.Y bH) gp [.Y bw]),bu (aX (.Y bH) om [bh .Add (fq (aC (ay 138) [dj .len ak [.Y uA],.Y cy])) (.Y uA)])] [],iO [uA,jS] [jS] ah (aH (.Y bI) qL) x3]
def x5:J PS:=[aW bH (cP ah [aj 0,aj 97,aj 115,aj 109,aj 1,aj 0,aj 0,aj 0]),aW Ad (aC (ay 136) [.Y bI]),iO [uA,jS,bw] [bw] ah (b5 [aj 0,aj 1,aj 2,aj 3,aj 4,aj 5,aj 6,aj 7,aj 8,aj 9,aj 12,aj 10,aj 11]) x4,bF (dj .bytes ak [.Y bH])]
def bC3:Fn:=⟨Mv,x5,pa [bI,cy],[(bI,aq),(cy,aq),(uA,aq),(jS,aq),(bw,aq),(bH,aq),(Ad,aq)]⟩
def bC4:Fn:=⟨Hz,[bF (.ite (aN .Is (.Y dK) jy) jy (dj .list ak [.Y dK]))],pa [dK],[(dK,aq)]⟩
def bC5:Fn:=⟨Mw,[bF (b5 [aH (.Y aM) fZ,aH (.Y aM) kY,aC (ay 152) [aH (.Y aM) iB],aH (.Y aM) bW,gR ak [] [lG] ah (aH (.Y aM) kr) [] (dj .list ak [.Y lG])])],pa [aM],[(aM,aq)]⟩
def bC6:Fn:=⟨Mx,[bF (cP ak [dj .list ak [aH (.Y bI) fy],gR ak [] [aM] ah (aH (.Y bI) p_) [] (b5 [aH (.Y aM) dO,aH (.Y aM) dX,aH (.Y aM) fR,aH (.Y aM) i7]),gR ak [] [aM] ah (aH (.Y bI) mF) [] (b5 [aH (.Y aM) bW,dj .tuple ak [aH (.Y aM) z_],dj .list ak [aH (.Y aM) dK]]),dj .list ak [aH (.Y bI) qd],dj .list ak [aH (.Y bI) qc],gR ak [] [aM] ah (aH (.Y bI) pZ) [] (b5 [aH (.Y aM) bW,aH (.Y aM) jT,dj .list ak [aH (.Y aM) dK]]),dj .list ak [aH (.Y bI) pY],aH (.Y bI) nU,gR ak [] [aM] ah (aH (.Y bI) pX) [] (aC (ay 153) [.Y aM]),gR ak [] [aM] ah (aH (.Y bI) nP) [] (b5 [aH (.Y aM) fZ,aH (.Y aM) nh,aC (ay 152) [aH (.Y aM) iB],dj .bytes ak [aH (.Y aM) bH]]),gR ak [] [aM] ah (aH (.Y bI) qL) [] (b5 [aH (.Y aM) dX,dj .bytes ak [aH (.Y aM) bH],aH (.Y aM) rL])])],pa [bI],[(bI,aq)]⟩
def bC7:Fn:=⟨Zs,[aW fY (dj .list ah [.Y Rd]),aW cy (bh .Add (aj 1) (bh .Mod (gM (aC (ay 125) [.Y fY]) (aj 0)) (aj 2))),aW bI (aC (ay 154) [.Y fY]),aW GH (aC (ay 155) [.Y bI]),aW qM (aX (.Y bI) qM []),aW GP (aC (ay 156) [.Y bI,aj 0]),.ite (jz .Or [aN .NotEq (aC (ay 157) [.Y bI]) (.Y GP),aN .NotEq (aC (ay 155) [.Y bI]) (.Y GH)]) [bF (.cB ak)] [],aW Ad (aC (ay 158) [.Y GP]),.ite (jz .Or [aN .NotEq (aC (ay 155) [.Y Ad]) (.Y GH),aN .NotEq (aX (.Y Ad) qM []) (.Y qM)]) [bF (.cB ak)] [],aW GF (aC (ay 158) [aC (ay 156) [.Y bI,.Y cy]]),bF (jz .And [aN .Eq (aC (ay 155) [.Y GF]) (.Y GH),aN .Eq (aX (.Y GF) qM []) (.Y qM),aN .Eq (aC (ay 157) [.Y GF]) (.Y GP)])],pa [Rd],[(Rd,aq),(GF,aq),(fY,aq),(GH,aq),(bI,aq),(cy,aq),(qM,aq),(GP,aq),(Ad,aq)]⟩
end
section
open Wh (cu)
variable{w:bU}{bJ s:aE}
structure aQ(f:Cf)(n:H)(a:aR)(T:Tr):Prop where
 keep:Dv f.K (.ref a)=ah
 sc:SC f n (.ref a) T
def d_(l:J (H×Tr))(a:aR):Tr:=λargs o k=>jK (wY a l) λT=>T args o k
def vY(f:Cf)(n:H):J (H×Tr)->Prop
 |[]=>oV
 |p::r=>aQ f n p.1 p.2/\vY f n r
theorem vY.mem:vY f n l->∀p∈l,aQ f n p.1 p.2:=by
 induction l with
 |nil=>exact λX p m=>(vt m).elim
 |cons p r ih=>exact λh=>gv.mpr ⟨h.1,ih h.2⟩
theorem bC8(h:vY f n l):tO f n (d_ l):=λa args o k q=>nY q λT e q=>⟨(h.mem _ (NQ e)).keep,(h.mem _ (NQ e)).sc _ _ _ q⟩
def lK(q:Fn)(l:J (H×Tr)):Tr:=ZZ ((vc ⟨dP,d_ l⟩ 40).s q.c) q.ps q.nms
def NV:J ai->aD
 |[]=>ah
 |x::r=>bz (k6 (qO x r)) (NV r)
theorem bC9(h:x∈l):qO x l=ah:=
 h.rec (motive:=λl X=>qO x l=ah) (λl=>bR (jk · (qO x l)) (MU x)) λy {l} X ih=>(bR (jk (je y x)) ih).trans (by cases je y x<;>rfl)
theorem Us{l:J ai}:NV l=ah->l.Nodup:=by
 induction l with
 |nil=>exact λX=>.nil
 |cons x r ih=>exact λh=>o4.mpr ⟨λm=>gr ((bC9 m).symm.trans (yQ.mp (ck h))),ih (bf h)⟩
noncomputable def yn{α:Type}:bq α->aD
 |none=>ah
 |some X=>ak
theorem bD0{α:Type}{o:bq α}(h:yn o=ah):o=ao:=by cases o;rfl;cases h
noncomputable def rU(K:qB)(a:aR):C9:=match((K.lookup a).getD default).data with
 | .func fd=>fd
 |X=>default
noncomputable def Ut:FuncBody->J eg
 | .stmts b=>b
 |X=>[]
noncomputable def bA:J (ai×bq D)->J Arg->J Arg
 |[],X=>[]
 |x::r,l=>{l.headD default with arg:=x.1}::bA r l.tail
theorem yA:∀{ps:J (ai×bq D)}{l:J Arg},(bA ps l).map (·.arg)=ps.map (·.1)
 |[],X=>rfl
 |X::I,u2=>bR (_::·) yA
def Uu:J ai:=dP.map (·.1)
def E1(K:qB)(q:Fn)(pl:aD):C9:={rU K q.a with
 body:=.stmts (bB Uu 40 q.c (Ut (rU K q.a).body))
 globals:=qx
 builtins:=wo
 closure:=[]
 scope:={(rU K q.a).scope with kind:=.function,isGenerator:=false,isCoroutine:=false}
 params:=match pl with|true=>{(rU K q.a).params with posonlyargs:=[],args:=bA q.ps (rU K q.a).params.args,kwonlyargs:=[],vararg:=none,kwarg:=none}|false=>(rU K q.a).params
 defaults:=match pl with|true=>.none|false=>(rU K q.a).defaults}
def aw1(Y:Nm)(x:ai):aD:=jk (AH x Y) (T5 x Y)
def okQ(K:qB)(q:Fn)(pl:aD):aD:=
 bz (codeIn K (rU K q.a).code (rU K q.a).qualname) (bz (aB Uu (rU K q.a).scope.names 40 q.c (Ut (rU K q.a).body)) (bz (Dv K (.ref q.a)) (bz (NV (q.ps.map (·.1))) (bz (NV (q.nms.map (·.1)))
 (bz (kP (aw1 (rU K q.a).scope.names) (q.ps.map (·.1))) (bz (kP (λp=>bz (Ct p.2 p.1 (rU K q.a).scope.names) (jk (bX (vB p.2) 0) (bX (vB p.2) 1))) q.nms) (Cv pl (kP (λp=>yn p.2) q.ps))))))))
def obQ(K:qB)(q:Fn)(pl:aD):fH:={(K.lookup q.a).getD default with data:=.func (E1 K q pl)}
abbrev AK(K:qB)(q:Fn)(pl:aD):Prop:=(N (obQ K q pl),okQ K q pl)=(K.lookup q.a,ah)
theorem BP.len{ps:J (ai×bq D)}{args:J V}{b:J (ai×V)}(h:BP ps args b):(∀p∈ps,p.2=ao)->args.length=ps.length:=
 h.rec (λX=>rfl) (λX ih q=>bR (·+1) (ih λp m=>q p (.tail _ m))) λe X I q=>nomatch e.symm.trans (q _ (.head _))
theorem BP.br{f:Cf}{r:bQ}{F:bP}{ps:J (ai×bq D)}{args:J V}{b:J (ai×V)}(h:BP ps args b):∀{ws:J aA},(∀p∈ps,p.2=ao)->gh f.w r F args ws->BR f.w r F b ((ps.map (·.1)).zip ws):=by
 induction h with
 |nil=>exact λX I=>.nil
 |given X ih=>exact λq v=>by cases v with|cons y z=>exact .cons y (ih (λp m=>q p (.tail _ m)) z)
 |TA e X I=>exact λq X=>nomatch e.symm.trans (q _ (.head _))
theorem yB(x:cu w bJ s){q:Fn}{pl:aD}{l:J (H×Tr)}{n:H}{ff:Tr}(hd:AK (kF w.params) q pl)
  (hb:∀t:aE,(∀b o,s.heap.get? b=N o->t.heap.get? b=N o)->∀args b,BP q.ps args b->∀r F ws,iG s.heap.get? F->gh w r F args ws->∃l,BindsTo t (E1 (kF w.params) q pl) ⟨ws,[]⟩ l/\BR w r F b l)
  (hl:vY (aU x) n l)(h:∀args o k,ff args o k->lK q l args o k):aQ (aU x) (n+1) q.a ff:=by
 have e:=(KA hd).1.symm;have c:=(KA hd).2;have c1:=ck c;have c3:=bf (bf c);have c5:=bf (bf c3);have c6:=bf c5;refine⟨ck c3,λargs o k S=>aX0 (a:=q.a) (fd:=E1 (kF w.params) q pl) (body:=bB Uu 40 q.c (Ut (rU (kF w.params) q.a).body)) (ps:=q.ps) (nms:=q.nms) (bM:=(vc ⟨dP,d_ l⟩ 40).s q.c)
  ⟨⟨_,e,rfl⟩,c1,rfl,rfl,rfl,rfl,rfl,rfl,rfl,hb,Us (ck (bf c3)),λx hx=>?_,λp hp=>ND (ck (lE (ck (bf c6)) p hp)),λp hp=>?_,Us (ck c5)⟩ (λZ Q hv=>bm1 (bn6 x) (bn7 x _) (bC8 hl) _ _ _ _ (ck (bf c)) _ _ hv) args o k (h args o k S)⟩
 ·have g:=Cu (lE (ck (bf c5)) x hx);rw[<-Aw];exact g.imp T6 rr
 ·exact(Cu (bf (lE (ck (bf (bf c5))) p hp))).imp (NC (b:=.local)) (NC (b:=.cell))
theorem fc(x:cu w bJ s){q:Fn}{l:J (H×Tr)}{n:H}{ff:Tr}(hd:AK (kF w.params) q ah)(hl:vY (aU x) n l)(h:∀args o k,ff args o k->lK q l args o k):aQ (aU x) (n+1) q.a ff:=by
 have c5:=bf (bf (bf (bf (KA hd).2)));have g7:∀p∈q.ps,p.2=ao:=λp hp=>bD0 (lE (T9 (bf (bf (bf c5))) rfl) p hp);refine yB x hd (λt ht args b hb r F ws hF hv=>?_) hl h;have len:ws.length=(q.ps.map (·.1)).length:=by rw[cO,<-hb.len g7,hv.length]
 exact⟨_,.of_eq (bo0 yA (Us (ck (bf (bf (bf (KA hd).2))))) len),hb.br (f:=aU x) g7 hv⟩
noncomputable def NW{α:Type}(t:dJ α)(o:fH):dJ α:=match t with
 | .load X I k=>k o
 |t=>t
theorem bD1{t:aE}(ho:t.heap.get? T=N o)(e:Be fd ⟨ws,[]⟩=(F0 T>>=NW (Be fd ⟨ws,[]⟩)))(h:NW (Be fd ⟨ws,[]⟩) o=pure bs):BindsTo t fd ⟨ws,[]⟩ bs:=
 λM A E Q hq=>(bR (λt=>Dd M A t Q E _) e).mpr (ud (PySem.wpAny_load ho (cz4 h hq)))
theorem Uv(x:cu w bJ s){q:Fn}(T:aR)(o:fH)(hd:AK (kF w.params) q ak)(hT:(kF w.params).lookup T=N o)
  (hb:∀args b,B6 q.ps args=N b->∀r F ws,gh w r F args ws->∃bs,Be (E1 (kF w.params) q ak) ⟨ws,[]⟩=(F0 T>>=NW (Be (E1 (kF w.params) q ak) ⟨ws,[]⟩))/\NW (Be (E1 (kF w.params) q ak) ⟨ws,[]⟩) o=pure bs/\BR w r F b bs)
  (hl:vY (aU x) n l)(h:∀args o k,ff args o k->lK q l args o k):aQ (aU x) (n+1) q.a ff:=
 yB x hd (λt ht args b h r F ws X hv=>(hb args b h.eq r F ws hv).elim λbs g=>⟨bs,bD1 (ht _ _ (Ul x _ _ hT)) g.1 g.2.1,g.2.2⟩) hl h
def y4(K:qB)(C fI:aR):aD:=bz (makesIn K C) (bz (NP (Dk K (.ref C) "__init__") (N (N (.ref fI)))) (bz (decide (Xu K (.ref fI)=N (.type "function"))) (Dv K (.ref C))))
theorem CB(x:cu w bJ s)(h:aQ (aU x) n fI T)(hc:y4 (kF w.params) C fI=ah):aQ (aU x) (n+1) C (TS T C):=by have q:=bf hc;exact⟨bf (bf q),bc0 h.sc (ck hc) (gy (ck q)) (gy (ck (bf q)))⟩
end
structure fj where
 c:aa
 a:J aa
noncomputable def fj.d(i:fj):D:=.tup (.int i.c::i.a.map .int)
abbrev iR:=J fj
noncomputable def gA(b:iR):D:=.list (b.map fj.d)
noncomputable def jq:bq H->D
 |none=>.none
 |some i=>.int i
noncomputable def rV:bq iR->D
 |none=>.none
 |some b=>gA b
noncomputable def oH(l:J aa):D:=.tup (l.map .int)
abbrev Fk:=J aa×J aa
noncomputable def mP(p:Fk):D:=.tup [oH p.1,oH p.2]
abbrev qk:=H×bq H
def nE(l:qk):D:=.tup [.int l.1,jq l.2]
structure i6 where
 k:aa
 l:qk
def i6.d(t:i6):D:=.tup [.int t.k,.int t.l.1,jq t.l.2]
structure Gk where
 k:aa
 m:H
noncomputable def Gk.d(g:Gk):D:=.tup [.int g.k,.int g.m]
inductive vZ where
 |f (i:H)|t (t:i6)|m (l:qk)|g (g:Gk)
noncomputable def vZ.sort:vZ->H
 | .f X=>0
 | .t X=>1
 | .m X=>2
 | .g X=>3
def vZ.d:vZ->D
 | .f x=>.int x
 | .t x=>x.d
 | .m x=>nE x
 | .g x=>x.d
structure fh where
 p:ai
 n:ai
 a:vZ
def fh.d(i:fh):D:=.obj Af [(dO,.str i.p),(dX,.str i.n),(fR,.int i.a.sort),(i7,i.a.d)]
structure cW where
 k:H
 l:J aa
 b:iR
def cW.d(f:cW):D:=.obj Ag [(bW,.int f.k),(z_,oH f.l),(dK,gA f.b)]
structure iy where
 g:Gk
 b:iR
def iy.d(g:iy):D:=.obj Ah [(bW,.int g.g.k),(jT,.int g.g.m),(dK,gA g.b)]
structure ju where
 n:ai
 s:H
 i:H
noncomputable def ju.d(e:ju):D:=.tup [.str e.n,.int e.s,.int e.i]
inductive EM where
 |p|a (t:H) (b:iR)|d
noncomputable def EM.m:EM->aa
 | .p=>0
 | .a X I=>1
 | .d=>2
noncomputable def EM.t:EM->H
 | .a t X=>t
 |X=>0
noncomputable def EM.o:EM->bq iR
 | .a X b=>N b
 |X=>ao
noncomputable def iE:fj:=⟨11,[]⟩
noncomputable def iL:fj:=⟨5,[]⟩
inductive er where
 |f (i:H)|g (i:H)|n
def er.b(k:aa):er->iR
 | .f i=>[⟨210,[i]⟩,iE]
 | .g i=>[⟨35,[i]⟩,iE]
 | .n=>[⟨208,[k]⟩,iE]
structure dz where
 m:EM
 k:aa
 i:J er
def dz.d(e:dz):D:=.obj Ai [(fZ,.int e.m.m),(kY,.int e.m.t),(iB,rV e.m.o),(bW,.int e.k),(kr,.list (e.i.map λi=>gA (i.b e.k)))]
structure eV where
 o:bq (H×iR)
 c:J H
noncomputable def eV.m(e:eV):aa:=match e.o with
 |none=>0
 |some X=>1
noncomputable def eV.y(e:eV):H:=match e.o with
 |none=>0
 |some p=>p.1
noncomputable def eV.b(e:eV):bq iR:=match e.o with
 |none=>ao
 |some p=>N p.2
def eV.d(e:eV):D:=.obj Aj [(fZ,.int e.m),(nh,.int e.y),(iB,rV e.b),(bH,.bytes e.c)]
structure dB where
 n:ai
 c:J H
 b:H
def dB.d(e:dB):D:=.obj yo [(dX,.str e.n),(bH,.bytes e.c),(rL,.int e.b)]
structure b6 where
 k:J Fk
 i:J fh
 f:J cW
 t:J i6
 m:J qk
 g:J iy
 e:J ju
 s:bq H
 l:J dz
 d:J eV
 c:J dB
def b6.D(m:b6):D:=.obj s7 [(fy,.list (m.k.map mP)),(p_,.list (m.i.map fh.d)),(mF,.list (m.f.map cW.d)),(qd,.list (m.t.map i6.d)),(qc,.list (m.m.map nE)),(pZ,.list (m.g.map iy.d)),
 (pY,.list (m.e.map ju.d)),(nU,jq m.s),(pX,.list (m.l.map dz.d)),(nP,.list (m.d.map eV.d)),(qL,.list (m.c.map dB.d))]
def pF(i:aa):Prop:=i∈[-1,-2,-16,-17]
def x8(i:aa):Prop:=i∈[-16,-17]
def cY(i:H):Prop:=i<4294967296
def ql(b:H)(i:aa):Prop:=-2^(b -1)<=i/\i<2^(b -1)
inductive E2:aa->Prop
 |e:E2 (-64)
 |k {i}:pF i->E2 i
 |x {i:H}:cY i->E2 i
noncomputable def names:J ai:=[az [97],az [],az [233,98],az [8364],az [66376]]
def kQ(x:ai):Prop:=x∈names
noncomputable def x9:J (aa×aa×J H):=[(65,65,[105]),(2,4,[98]),(69,90,[]),(4,4,[98]),(12,13,[117]),(14,14,[116]),(16,16,[117]),(17,17,[117,117]),(18,18,[117]),(19,19,[117,117]),(0,1,[]),(15,15,[]),(26,27,[]),(28,28,[107]),
 (32,38,[117]),(40,41,[97,117]),(44,55,[97,117]),(58,62,[97,117]),(63,64,[122]),(66,66,[108]),(103,138,[]),(167,167,[]),(172,173,[]),(192,196,[]),(208,208,[114]),(209,209,[]),(210,210,[117]),(64520,64520,[117,122]),(64521,64521,[117]),
 (64522,64522,[122,122]),(64523,64523,[122]),(64524,64524,[117,117]),(64525,64525,[117]),(64526,64526,[117,117]),(64527,64529,[117])]
noncomputable def IK(r:aa×aa×J H):D:=.tup [.int r.1,.int r.2.1,.str (az r.2.2)]
inductive j5:J H->J aa->Prop
 |b {i}:E2 i->j5 [98] [i]
 |i {i}:ql 32 i->j5 [105] [i]
 |l {i}:ql 64 i->j5 [108] [i]
 |r {i}:x8 i->j5 [114] [i]
 |k {a}:a.length<=2->(∀i∈a,pF i)->j5 [107] a
 |t {i:H} {a:J H}:a.length<=2->(∀j∈i::a,cY j)->j5 [116] ((i::a).map sL)
 |z:j5 [122] []
 |uz {i:H}:cY i->j5 [117,122] [i]
 |zz:j5 [122,122] []
 |o:j5 [] []
 |u {i:H}:cY i->j5 [117] [i]
 |uu {i j:H}:cY i->cY j->j5 [117,117] [i,j]
 |au {i j:H}:i<32->cY j->j5 [97,117] [i,j]
noncomputable def bD2(c:aa)(r:aa×aa×J H):aD:=bz (decide (r.1<=c)) (decide (c<=r.2.1))
def NX(c:aa):J (aa×aa×J H)->J H
 |[]=>[]
 |r::t=>bC (bD2 c r) r.2.2 (NX c t)
def oh(c:aa):J H:=NX c x9
noncomputable def KW(a:aa):H->J aa
 |0=>[]
 |n+1=>a::KW (a+1) n
noncomputable def qG:J aa:=x9.flatMap λr=>KW r.1 (r.2.1 -r.1+1).toNat
structure fj.ok(i:fj):Prop where
 c:i.c∈qG
 a:j5 (oh i.c) i.a
inductive fj.mQ:fj->Prop
 |i {i}:i.ok->fj.mQ i
 |e:fj.mQ iE
 |l:fj.mQ iL
noncomputable def v5(c:aa):aD:=decide (2=c)||(decide (3=c)||(decide (4=c)||ak))
noncomputable def nest:J aa->iR->bq (J aa)
 |Z,[]=>N Z
 |[],X::I=>ao
 |x::r,i::b=>bC (decide (i.c=11)) (nest r b) (bC (decide (i.c=5)) (bC (decide (x=4)) (nest (5::r) b) ao) (bC (v5 i.c) (nest (i.c::x::r) b) (nest (x::r) b)))
structure oJ(b:iR):Prop where
 ins:∀i∈b,i.mQ
 len:b.length<=12
 nest:nest [0] b=N []
def tP(l:qk):Prop:=cY l.1/\∀i,l.2=N i->cY i
def i6.ok(t:i6):Prop:=x8 t.k/\tP t.l
def Gk.ok(g:Gk):Prop:=pF g.k/\g.m∈[0,1]
def vZ.ok:vZ->Prop
 | .f x=>cY x
 | .t x=>x.ok
 | .m x=>tP x
 | .g x=>x.ok
def fh.ok(i:fh):Prop:=kQ i.p/\kQ i.n/\i.a.ok
def fO{α:Type}(n:H)(P:α->Prop)(l:J α):Prop:=l.length<=n/\∀a∈l,P a
def rW(l:J aa):Prop:=fO 2 pF l
def cW.ok(f:cW):Prop:=cY f.k/\fO 4 (·∈[-1,-2]) f.l/\oJ f.b
def iy.ok(g:iy):Prop:=g.g.ok/\oJ g.b
def ju.ok(e:ju):Prop:=kQ e.n/\e.s<4/\cY e.i
def EM.ok:EM->Prop
 | .a t b=>cY t/\oJ b
 |X=>oV
def er.ok:er->Prop
 | .f i=>cY i
 | .g i=>cY i
 | .n=>oV
def dz.ok(e:dz):Prop:=e.m.ok/\x8 e.k/\fO 2 er.ok e.i
def eV.ok(e:eV):Prop:=(∀p,e.o=N p->cY p.1/\oJ p.2)/\fO 3 (·<256) e.c
noncomputable def qm(i:fj):aD:=decide (64520=i.c)||(decide (64521=i.c)||ak)
noncomputable def NY(m:b6):aD:=m.f.any λf=>f.b.any qm
noncomputable def kB{α:Type}(d:α):J α->H->α
 |[],X=>d
 |a::X,0=>a
 |X::l,n+1=>kB d l n
def jI(m:b6):H->aD:=kB ak [ak,!f9 (m.k.map mP),!f9 (m.i.map fh.d),!f9 (m.f.map cW.d),!f9 (m.t.map i6.d),!f9 (m.m.map nE),!f9 (m.g.map iy.d),!f9 (m.e.map ju.d),!(jq m.s).o8,!f9 (m.l.map dz.d),!f9 (m.f.map cW.d),!f9 (m.d.map eV.d),NY m]
noncomputable def cV:J H:=[1,2,3,4,5,6,7,8,9,12,10,11]
def uP(m:b6)(n:H):Prop:=n=0\/n∈cV/\jI m n=ah
def dB.ok(m:b6)(c:dB):Prop:=kQ c.n/\fO 2 (·<256) c.c/\uP m c.b
noncomputable def j6(b:H):H:=bC (bX b 10) 11 (bC (bX b 11) 12 (bC (bX b 12) 10 b))
structure b6.ok(M:b6):Prop where
 k:fO 14 (λf=>rW f.1/\rW f.2) M.k
 i:fO 14 fh.ok M.i
 f:fO 14 cW.ok M.f
 t:fO 14 i6.ok M.t
 m:fO 14 tP M.m
 g:fO 14 iy.ok M.g
 e:fO 14 ju.ok M.e
 s:∀i,M.s=N i->cY i
 l:fO 14 dz.ok M.l
 d:fO 14 eV.ok M.d
 c:fO 2 (dB.ok M) M.c
 cs:(M.c.map λc=>j6 c.b).Pairwise (·<=·)
def YD{α:Type}(P:α->Prop):J α->Prop
 |[]=>oV
 |a::l=>P a/\YD P l
@[elab_as_elim] theorem eW{α:Type}{P:α->Prop}{l:J α}{y:α}(h:y∈l)(g:YD P l):P y:=by
 induction h with
 |head=>exact g.1
 |tail X I ih=>exact ih g.2
noncomputable def x_{α:Type}(q:α->aD)(s:α->α)(f:H):α->H:=f.rec (λX=>1) λX ih i=>bC (q i) 1 (ih (s i)+1)
theorem y5{α:Type}{q:α->aD}{s:α->α}{μ:α->H}(d:∀i,q i=ak->μ (s i)<μ i)(f:H):∀g i,μ i<=f->μ i<=g->x_ q s f i=x_ q s g i:=by
 have z:∀i,μ i<=0->q i=ah:=λi h=>Bool.of_not_eq_false λe=>absurd (oX (d i e) h) (xV _);have one:∀g i,q i=ah->x_ q s g i=1:=λg i e=>by
  cases g with
  |zero=>rfl
  |succ g=>exact bR (bC · 1 (x_ q s g (s i)+1)) e
 induction f with
 |zero=>exact λg i h X=>(one g i (z i h)).symm
 |succ f ih=>
  intro g i h h';cases e:q i with
  |true=>exact(one _ i e).trans (one g i e).symm
  |false=>
   have l:=d i e;cases g with
   |zero=>exact absurd (oX l h') (xV _)
   |succ g=>exact bR (bC (q i) 1<|·+1) (ih g (s i) (qD (oX l h)) (qD (oX l h')))
theorem y6{α:Type}{q:α->aD}{s:α->α}{μ:α->H}(d:∀i,q i=ak->μ (s i)<μ i)(i:α):x_ q s (μ i) i=if q i=ah then 1 else x_ q s (μ (s i)) (s i)+1:=by
 rw[y5 d (μ i) (μ i+1) i (jO _) (wF _)]
 show bC (q i) 1 (x_ q s (μ i) (s i)+1)=_
 cases e:q i with
 |true=>rfl
 |false=>exact bR (·+1) (y5 d _ _ _ (mX (d i e)) (jO _))
def nG(n:H):H:=x_ (λn=>Nat.blt n 128) (·/128) n n
theorem E3(n:H):nG n=if n<128 then 1 else nG (n/128)+1:=by
 refine(y6 (μ:=id) (λi h=>ap2 (oX (by decide) (Qt λl=>absurd ((cA1.mpr l).symm.trans h) gr)) (by decide)) n).trans ?_
 exact ite_congr cA1 (λX=>rfl) λX=>rfl
noncomputable def xC(i:aa):aD:=decide (-64<=i)&&decide (i<64)
theorem E4{i:aa}:xC i=ah↔-64<=i/\i<64:=by unfold xC;rw[Ky,XZ,XZ]
theorem y7{i:aa}(h:xC i=ak):(i/128).natAbs<i.natAbs:=by
 have lt:∀n,n≠0->n/128<n:=λn z=>ap2 (Nat.pos_of_ne_zero z) (by decide)
 cases i with
 |ofNat n=>exact lt n λe=>by rw[e]at h;exact absurd h (by decide)
 |negSucc n=>exact ap0 (lt n λe=>by rw[e]at h;exact absurd h (by decide))
def rX(i:aa):H:=x_ xC (·/128) i.natAbs i
theorem E5(i:aa):rX i=if xC i=ah then 1 else rX (i/128)+1:=y6 (λi h=>y7 h) i
noncomputable def bD3(c:H):J H:=if c<128 then[c]else if c<2048 then[192+c/64,128+c% 64]else if c<65536 then[224+c/4096,128+c/64% 64,128+c% 64]else[240+c/262144,128+c/4096% 64,128+c/64% 64,128+c% 64]
def pQ(x:ai):J H:=x.cps.toList.flatMap bD3
section
open Wh (cu)
variable{w:bU}{bJ s:aE}{x:cu w bJ s}{n:H}
theorem nn{n:H}:0<=(n:aa):=Dn n
def kC{α:Type}(_:α):Prop:=oV
theorem aQ.of{f:Cf}{n:H}{a:aR}{T ff:Tr}(h:aQ f n a T)(g:∀args o k,ff args o k->T args o k):aQ f n a ff:=⟨h.keep,λargs o k x=>h.sc args o k (g _ _ _ x)⟩
theorem AL{q:aD}{a b:Prop}(h:q=ah)(g:a):@Bool.rec (λX=>Prop) b a q:=h▸g
theorem jc{q:aD}{a b:Prop}(h:q=ak)(g:b):@Bool.rec (λX=>Prop) b a q:=h▸g
noncomputable def i1(i:aa):J D:=[.int i]
noncomputable def s1(y:ai):J D:=[.str y]
inductive n7{α:Type}(ds:α->J D)(ok:α->Prop)(rs:α->V):Tr
 |mk (a:α) {k}:ok a->k (rs a) []->n7 ds ok rs ((ds a).map .d) [] k
section
variable{q:Fn}{l:J (H×Tr)}{α:Type}{ds:α->J D}{ok:α->Prop}
theorem k7{rs:α->V}(hd:AK (kF w.params) q ah)(hl:vY (aU x) n l)(h:∀a k,ok a->k (rs a) []->lK q l ((ds a).map .d) [] k):aQ (aU x) (n+1) q.a (n7 ds ok rs):=
 fc x hd hl λargs o k g=>g.rec λa X h1 h2=>h a _ h1 h2
end
section
variable{A B:aD}{β:Type}{P:β->Prop}{T cC:β}{ff lZ eF:Prop}
theorem qY(h:P (bC A T cC))(f:A=ah->P T->ff)(g:A=ak->P cC->lZ):@Bool.rec (λX=>Prop) lZ ff A:=by cases A;exact g rfl h;exact f rfl h
theorem Uw(h:P (bC (bz A B) T cC))(f:P T->ff)(g:P cC->lZ)(g':P cC->eF):@Bool.rec (λX=>Prop) eF (@Bool.rec (λX=>Prop) lZ ff B) A:=by
 cases A
 ·exact g' h
 ·cases B;exact g h;exact f h
theorem bD4(h:P (bC (jk A B) T cC))(f:P T->ff)(f':P T->eF)(g:P cC->lZ):@Bool.rec (λX=>Prop) (@Bool.rec (λX=>Prop) lZ eF B) ff A:=by
 cases A
 ·cases B;exact g h;exact f' h
 ·exact f h
end
theorem IL{A:aD}{ff C:Prop}(h:A=ah->C->ff)(c:C):@Bool.rec (λX=>Prop) C ff A:=by cases A;exact c;exact h rfl c
theorem tQ{fg ts:J ai}{one:aD}{body:St->(dZ->St->Prop)->Prop}{ds:J D}{Z:St}{K:dZ->St->Prop}(h:gT fg ts one (len Z.o) body ds (j9 fg Z) K):HO (.d (.tup ds)) λl=>tB (len Z.o) λfS=>rO (j9 fg Z) λZ=>gT fg ts one fS body l Z K:=by
 show tB _ _
 rw[yt,yy];exact h
theorem AM{α σ:Type}{f:α->D}{bM:σ->St}{w:σ->α->σ}{bG:J α->σ->Prop}{fg ts:J ai}{one:aD}{fS:H}{body:St->(dZ->St->Prop)->Prop}{K:dZ->St->Prop}
  (gQ:∀y ys s next,bG (y::ys) s->(bG ys (w s y)->next (bM (w s y)))->jL ts one (.d (f y)) (bM s) λZ=>body Z (zY fg fS next K)):∀ys s,bG ys s->(bG [] (ys.foldl w s)->K .next (bM (ys.foldl w s)))->gT fg ts one fS body (ys.map f) (bM s) K:=λi_=>by
 induction i_ with
 |nil=>exact λX h k=>k h
 |cons y ys ih=>exact λs h k=>gQ y ys s _ h λh=>ih _ h k
theorem E6{α:Type}(g:α->D):∀l:J α,nW (l.map λa=>.d (g a))=N (l.map g):=λi_=>by
 induction i_ with
 |nil=>exact rfl
 |cons a l ih=>
  show(match nW (l.map λa=>.d (g a))with|some ds=>N (g a::ds)|none=>ao)=_
  rw[ih];rfl
theorem Ux{α:Type}:∀o:J α,l7 (len o) o=o
 |[]=>rfl
 |y::o=>bR (y::·) (Ux o)
theorem IM(v:V)(m:Fm)(o:J O):(nt (len o) v ⟨m,o⟩).o=o:=by
 show(match tw (len o) _ with|true=>_|false=>_:St).o=o
 cases tw (len o) _
 ·rfl
 ·exact Ux o
theorem QT{y:ai}{v u:V}{M:Fm}{o:J O}{k:St->Prop}(h:k ⟨(y,.L (N v))::M,o⟩):jL [y] ah v ⟨(y,.L ao)::M,o⟩ k:=by
 have e:je y y=ah:=MU y
 show jK (cG y ((y,jA.L ao)::M)) _
 unfold cG;rw[e]
 show dh (je y y) _ _
 rw[e];exact h
theorem bD5{α:Type}{f g:α->D}{y:ai}{M:Fm}{t:PE->St->(aD->St->Prop)->Prop}{aY:St->(V->St->Prop)->Prop}{o:J O}(gQ:∀(a:α)(k:V->St->Prop),k (.d (g a)) ⟨(y,.L (N (.d (f a))))::M,o⟩->aY ⟨(y,.L (N (.d (f a))))::M,o⟩ k):
  ∀(l:J α)(K:J V->J O->Prop),K (l.map λa=>.d (g a)) o->jW [y] ah ((y,.L ao)::M) (nX t []) aY (l.map f) o K:=λi_=>by
 induction i_ with
 |nil=>exact λK h=>h
 |cons a l ih=>
  intro K h;refine QT (u:=.d (f a)) ?_;refine gQ a _ ?_
  show lV _ _
  rw[o7,IM];exact ih _ h
theorem pG{α:Type}{f g:α->D}{y:ai}{M:Fm}{t:PE->St->(aD->St->Prop)->Prop}{aY:St->(V->St->Prop)->Prop}{o:J O}{k:V->J O->Prop}(gQ:∀(a:α)(k:V->St->Prop),k (.d (g a)) ⟨(y,.L (N (.d (f a))))::M,o⟩->aY ⟨(y,.L (N (.d (f a))))::M,o⟩ k)
  (l:J α)(h:k (.d (.list (l.map g))) o):jW [y] ah ((y,.L ao)::M) (nX t []) aY (l.map f) o λvs o=>iF ak vs o k:=
 bD5 gQ l _ (by show iF _ _ _ _;unfold iF;rw[E6];exact h)
theorem y8{α:Type}{f:α->aD}:∀(l:J α)(K:aD->Prop),K (l.any f)->HM (l.map λa=>.bool (f a)) K:=λi_=>by
 induction i_ with
 |nil=>exact λX h=>h
 |cons a l ih=>exact λK h=>ih (λq=>K (f a||q)) h
theorem oi{α:Type}{o:bq α}{a:α}{K:α->Prop}(e:o=N a)(h:K a)(y:α)(z:o=N y):K y:=fW (e.symm.trans z)▸h
noncomputable def Uy(b:iR):D:=.tup (b.map fj.d)
noncomputable def bD6:bq iR->D
 |none=>.none
 |some b=>Uy b
noncomputable def NZ(T:aD):iR->D:=bC T Uy gA
noncomputable def Uz(T:aD):bq iR->D:=bC T bD6 rV
noncomputable def tR(T:aD)(l:J D):D:=bC T (.tup l) (.list l)
def CC(T:aD)(e:dz):D:=.tup [.int e.m.m,.int e.m.t,Uz T e.m.o,.int e.k,tR T (e.i.map λi=>NZ T (i.b e.k))]
def IP(i:fh):D:=.tup [.str i.p,.str i.n,.int i.a.sort,i.a.d]
noncomputable def IQ(T:aD)(f:cW):D:=.tup [.int f.k,oH f.l,NZ T f.b]
noncomputable def IS(T:aD)(g:iy):D:=.tup [.int g.g.k,.int g.g.m,NZ T g.b]
def IT(T:aD)(d:eV):D:=.tup [.int d.m,.int d.y,Uz T d.b,.bytes d.c]
noncomputable def IU(c:dB):D:=.tup [.str c.n,.bytes c.c,.int c.b]
def IV(T:aD)(m:b6):D:=tR T [tR T (m.k.map mP),tR T (m.i.map IP),tR T (m.f.map (IQ T)),tR T (m.t.map i6.d),tR T (m.m.map nE),tR T (m.g.map (IS T)),tR T (m.e.map ju.d),jq m.s,tR T (m.l.map (CC T)),tR T (m.d.map (IT T)),tR T (m.c.map IU)]
def mR{α:Type}(f g:α->D):Tr:=n7 (λa=>[f a]) kC λa=>.d (g a)
theorem zn:aQ (aU x) (n+1) Hz (mR rV rV):=k7 (q:=bC4) (l:=[]) (by kernel_rfl) trivial λb k X S=>by
 induction b with
 |none=>exact S
 |some b=>exact S
theorem bD7:aQ (aU x) (n+2) Mw (mR dz.d (CC ak)):=k7 (q:=bC5) (l:=[(Hz,mR rV rV)]) (by kernel_rfl) ⟨zn,cH2⟩ λe k X S=>by refine⟨e.m.o,cH2,?_⟩;exact pG (f:=λi:er=>gA (i.b e.k)) (g:=λi:er=>gA (i.b e.k)) (o:=[]) (λX I h=>h) e.i S
noncomputable def bD8:J (H×Tr):=[(Hz,mR rV rV),(Mw,mR dz.d (CC ak))]
theorem bD9:aQ (aU x) (n+3) Mx (mR b6.D (IV ak)):=k7 (q:=bC6) (l:=bD8) (by kernel_rfl) ⟨zn,bD7,cH2⟩ λm k X S=>by
 refine pG (f:=fh.d) (g:=IP) (o:=[]) (λX I h=>h) m.i ?_;refine pG (f:=cW.d) (g:=IQ ak) (o:=[]) (λX I h=>h) m.f ?_;refine pG (f:=iy.d) (g:=IS ak) (o:=[]) (λX I h=>h) m.g ?_;refine pG (f:=dz.d) (g:=CC ak) (o:=[]) (λe X h=>?_) m.l ?_
 ·exact⟨e,cH2,h⟩
 refine pG (f:=eV.d) (g:=IT ak) (o:=[]) (λe X h=>?_) m.d ?_
 ·exact⟨e.b,cH2,h⟩
 exact pG (f:=dB.d) (g:=IU) (o:=[]) (λX I h=>h) m.c S
theorem bE0:aQ (aU x) (n+1) Ru (mR fh.d IP):=k7 (q:=br8) (l:=[]) (by kernel_rfl) trivial λy k X S=>S
theorem bE1:aQ (aU x) (n+1) Rv (mR cW.d (IQ ah)):=k7 (q:=bs0) (l:=[]) (by kernel_rfl) trivial λy k X S=>S
theorem bE2:aQ (aU x) (n+1) Rw (mR iy.d (IS ah)):=k7 (q:=bs2) (l:=[]) (by kernel_rfl) trivial λy k X S=>S
theorem bE3:aQ (aU x) (n+1) Rz (mR dB.d IU):=k7 (q:=bs8) (l:=[]) (by kernel_rfl) trivial λy k X S=>S
theorem bE4:aQ (aU x) (n+1) Ry (mR eV.d (IT ah)):=k7 (q:=bs6) (l:=[]) (by kernel_rfl) trivial λy k X S=>by
 obtain⟨o,c⟩:=y;induction o with
 |none=>exact S
 |some b=>exact S
theorem bE5:aQ (aU x) (n+1) Rx (mR dz.d (CC ah)):=k7 (q:=bs4) (l:=[]) (by kernel_rfl) trivial λe k X S=>by
 obtain⟨m,kd,is⟩:=e;induction m with
 |_=>exact pG (f:=λi:er=>gA (i.b kd)) (g:=λi:er=>Uy (i.b kd)) (o:=[]) (λX I h=>h) is S
inductive PF:{α:Type}->(α->D)->(α->D)->Prop
 |i:PF fh.d IP
 |f:PF cW.d (IQ ah)
 |g:PF iy.d (IS ah)
 |l:PF dz.d (CC ah)
 |d:PF eV.d (IT ah)
 |c:PF dB.d IU
inductive UA:Tr
 |mk {α:Type} (f g:α->D) (l:J α) {k}:PF f g->k (.d (.tup (l.map g))) []->UA [.d (.list (l.map f))] [] k
noncomputable def bE6:J (H×Tr):=[(Ru,mR fh.d IP),(Rv,mR cW.d (IQ ah)),(Rw,mR iy.d (IS ah)),(Rx,mR dz.d (CC ah)),(Ry,mR eV.d (IT ah)),(Rz,mR dB.d IU)]
theorem bE7:aQ (aU x) (n+2) LD UA:=fc x (q:=bt2) (l:=bE6) (by kernel_rfl) ⟨bE0,bE1,bE2,bE5,bE4,bE3,cH2⟩ λX I u2 g=>g.rec λf g l k h S=>by
 cases h with
 |_=>refine pG (o:=[]) (λy X h=>?_) l S;exact⟨y,cH2,h⟩
theorem bE8:aQ (aU x) (n+3) RA (mR b6.D (IV ah)):=k7 (q:=bt0) (l:=[(LD,UA)]) (by kernel_rfl) ⟨bE7,cH2⟩ λm k X S=>⟨_,_,m.i,.i,_,_,m.f,.f,_,_,m.g,.g,(by decide:8<=1048576),_,_,m.l,.l,_,_,m.d,.d,_,_,m.c,.c,(by decide:11<=1048576),S⟩
end
section
def CD(k:H)(l:J D):Prop:=∀v∈l,D.nu k v
variable{k:H}
theorem uQ:CD k []:=nofun
theorem gc{d:D}{l:J D}(h:d.nu k)(g:CD k l):CD k (d::l):=gv.mpr ⟨h,g⟩
theorem mj(i:aa):(D.int i).nu k:=by cases k<;>trivial
theorem N1(i:ai):(D.str i).nu k:=by cases k<;>trivial
theorem zr(i:J H):(D.bytes i).nu k:=by cases k<;>trivial
theorem UB:D.none.nu k:=by cases k<;>trivial
theorem qZ{l:J D}(h:CD k l):(D.tup l).nu (k+1):=h
theorem zt{l:J D}(h:CD k l):(D.list l).nu (k+1):=h
theorem uR{T:aD}{l:J D}(h:CD k l):(tR T l).nu (k+1):=by cases T;exact zt h;exact qZ h
theorem q7{α:Type}{f:α->D}(h:∀y,(f y).nu k)(l:J α):CD k (l.map f):=λv m=>by refine b_ (qA.mp m) λy hx=>?_;have e:=hx.2;exact e▸h y
theorem UC(o:bq H):(jq o).nu k:=by
 induction o with
 |none=>exact UB
 |some i=>exact mj i
theorem UD(l:J aa):(oH l).nu (k+1):=qZ (q7 mj l)
theorem z'(i:fj):i.d.nu (k+1):=qZ (gc (mj i.c) (q7 mj i.a))
theorem IW(T:aD)(b:iR):(NZ T b).nu (k+2):=by cases T;exact zt (q7 z' b);exact qZ (q7 z' b)
theorem Ap(T:aD)(o:bq iR):(Uz T o).nu (k+2):=by
 cases T
 ·induction o with
  |none=>exact UB
  |some b=>exact IW ak b
 ·induction o with
  |none=>exact UB
  |some b=>exact IW ah b
theorem UE(a:vZ):a.d.nu (k+1):=by
 induction a with
 |f i=>exact mj i
 |t t=>exact qZ (gc (mj _) (gc (mj _) (gc (UC _) uQ)))
 |m l=>exact qZ (gc (mj _) (gc (UC _) uQ))
 |g g=>exact qZ (gc (mj _) (gc (mj _) uQ))
theorem AC(T:aD)(m:b6):(IV T m).nu 8:=uR
 (gc (uR (q7 (λ(f:Fk)=>qZ (gc (UD f.1) (gc (UD f.2) uQ))) _))
 (gc (uR (q7 (λ(i:fh)=>qZ (gc (N1 i.p) (gc (N1 i.n) (gc (mj i.a.sort) (gc (UE i.a) uQ))))) _))
 (gc (uR (q7 (λ(f:cW)=>qZ (gc (mj f.k) (gc (UD f.l) (gc (IW T f.b) uQ)))) _))
 (gc (uR (q7 (λ(t:i6)=>UE (.t t)) _))
 (gc (uR (q7 (λ(l:qk)=>UE (.m l)) _))
 (gc (uR (q7 (λ(g:iy)=>qZ (gc (mj g.g.k) (gc (mj g.g.m) (gc (IW T g.b) uQ)))) _))
 (gc (uR (q7 (λ(e:ju)=>qZ (gc (N1 e.n) (gc (mj e.s) (gc (mj e.i) uQ)))) _))
 (gc (UC m.s)
 (gc (uR (q7 (λ(e:dz)=>qZ (gc (mj e.m.m) (gc (mj e.m.t) (gc (Ap T e.m.o) (gc (mj e.k) (gc (uR (q7 (λ(i:er)=>IW T (i.b e.k)) e.i)) uQ)))))) _))
 (gc (uR (q7 (λ(d:eV)=>qZ (gc (mj d.m) (gc (mj d.y) (gc (Ap T d.b) (gc (zr d.c) uQ))))) _))
 (gc (uR (q7 (λ(c:dB)=>qZ (gc (N1 c.n) (gc (zr c.c) (gc (mj c.b) uQ)))) _)) uQ)))))))))))
end
section
open Wh (cu)
variable{w:bU}{bJ s:aE}{x:cu w bJ s}{n:H}
inductive CE{σ β α:Type}(Z:σ->J O)(ds:β->J D)(pre:β->Prop)(ok:β->α->Prop)(d:α->D):Tr
 |mk (b:β) (n:σ) {k}:pre b->(∀a n',ok b a->k (.d (d a)) (Z n'))->CE Z ds pre ok d (.ref 0::(ds b).map .d) (Z n) k
theorem qo{q:Fn}{l:J (H×Tr)}{σ β α:Type}{Z:σ->J O}{ds:β->J D}{pre:β->Prop}{ok:β->α->Prop}{d:α->D}(hd:AK (kF w.params) q ah)(hl:vY (aU x) n l)(h:∀b m k,pre b->(∀a m',ok b a->k (.d (d a)) (Z m'))->lK q l (.ref 0::(ds b).map .d) (Z m) k):aQ (aU x) (n+1) q.a (CE Z ds pre ok d):=
 fc x hd hl λargs o k g=>g.rec λb m X h1 h2=>h b m _ h1 h2
noncomputable def rF(n:aa):J O:=[.dl [.int n]]
noncomputable def N2(l:J aa):J O:=[.dl (l.map .int)]
noncomputable def yS(n:H):D:=.int n
noncomputable def IX(_:rt):J D:=[]
abbrev xD{α:Type}(ok:α->Prop)(d:α->D):Tr:=CE rF IX kC (λX=>ok) d
abbrev UG{α:Type}(ok:α->Prop)(d:α->D):Tr:=CE N2 IX kC (λX=>ok) d
def qp:Tr:=CE rF i1 (λm=>0<m/\m.natAbs<2^128) (λm (i:H)=>(i:aa)<m) yS
theorem rY:aQ (aU x) (n+1) ou qp:=qo (q:=bz2) (l:=[]) (by kernel_rfl) trivial λm i k h S=>by
 have ne:m≠0:=λe=>X0 0 (e▸h.1);have h1:=cA2 i h.1;have e:=zO (cA3 i h.1);have g:=S (x7 i m).toNat (zS i m) (e.symm▸h1);unfold yS at g
 rw[e]at g
 exact⟨ne,⟨ne,h.2⟩,jd _,g⟩
inductive CF:Tr
 |mk (l:J aa) {k}:(∀(i:aa)(l':J aa),k (.ref 1) [.dl (l'.map .int),.dl [.int i]])->CF [.ref 0] (N2 l) k
theorem IY:aQ (aU x) (n+1) Al CF:=fc x (q:=bz3) (l:=[]) (by kernel_rfl) trivial λX I u2 g=>g.rec λl k S=>by
 induction l using eT with
 |nil=>exact S 0 []
 |cons i l=>exact S i l
theorem E7{α:Type}{f:α->D}(l:J α){i:H}{y:D}(P:D->Prop)(h:∀a∈l,P (f a))(hy:(l.map f)[i]?=N y):P y:=by
 rw[mD]at hy
 cases q:l[i]? with
 |none=>rw[q]at hy;cases hy
 |some a=>
  rw[q]at hy
  cases hy;exact h a (Ko q)
theorem AT{i:H}{m:H}(h:(i:aa)<(m:H))(g:m<=4294967296):cY i:=oX (dF.mp h) g
def xE:Tr:=xD cY yS
theorem yT:aQ (aU x) (n+2) uF xE:=qo (q:=bz8) (l:=[(ou,qp)]) (by kernel_rfl) ⟨rY,cH2⟩ λX i k I S=>by
 refine⟨3,i,(by decide),λa i1 ha=>?_⟩
 conv=>whnf
 refine gZ (λX=>⟨4,i1,(by decide),λb i2 hb=>S b i2 (AT hb (by decide))⟩) λX=>?_
 conv=>whnf
 refine gZ (λX=>⟨4,i1,(by decide),λb i2 hb=>⟨nn,hb,λy=>E7 (f:=yS) [127,128,16383,16384] (λy=>k (.d y) (rF i2)) (λj hj=>S j i2 ((by decide:∀j∈[127,128,16383,16384],j<4294967296) j hj))⟩⟩) λX=>⟨by decide,4294967296,i1,(by decide),λb i2 hb=>S b i2 (AT (m:=4294967296) hb (jO _))⟩
def UH:Tr:=CE rF (λb:H=>[.int b]) (·∈[32,64]) ql .int
theorem A'{b:H}{i:H}(h:(i:aa)<2^(b+1)):ql (b+1) ((i:aa) -2^b):=by
 have p0:(0:aa) -2^b=-2^b:=Int.zero_sub _;have p1:(2:aa)^(b+1) -2^b=2^b:=by rw[X3,X4,Int.two_mul];exact uh ..
 refine⟨p0▸Qu nn _,?_⟩;have:=Int.sub_lt_sub_right h (2^b);rw[p1]at this
 exact this
theorem Bn:aQ (aU x) (n+2) Ht UH:=qo (q:=wv) (l:=[(ou,qp)]) (by kernel_rfl) ⟨rY,cH2⟩ λb i k h=>by
 have go:∀b,31<=b->(∀j:aa,-8193<=j->j<=8192->ql (b+1) j):=λb h j h1 h2=>by
  have p:(2:aa)^31<=2^b:=by have:=iz.mpr (ap3 (n:=2) (by decide) h);rw[Gn,Gn]at this;exact this
  exact⟨jj (Qd p) (jj (by decide) h1),Gg h2 (Bo (by decide) p)⟩
 refine eW (P:=λb=>(∀a m',ql b a->k (.d (.int a)) (rF m'))->lK wv [(ou,qp)] [.ref 0,.d (.int (b:H))] (rF i) k) h ⟨λS=>?_,λS=>?_,cH2⟩
 ·refine⟨3,i,(by decide),λa i1 ha=>?_⟩
  conv=>whnf
  refine gZ (λX=>⟨5,i1,(by decide),λb i2 hb=>S _ i2 (go 31 (by decide) _ (jj (by decide) (Qu nn 2)) (jj (Qu (Qf hb) 2) (by decide)))⟩) λX=>?_
  conv=>whnf
  refine gZ (λX=>⟨8,i1,(by decide),λb i2 hb=>⟨nn,hb,λy=>E7 (f:=.int) [63,64,-64,-65,8191,8192,-8192,-8193] (λy=>k (.d y) (rF i2)) (λj hj=>S j i2 ((by decide:∀j∈[(63:aa),64,-64,-65,8191,8192,-8192,-8193],-2^31<=j/\j<2^31) j hj))⟩⟩) λX=>⟨by decide,4294967296,i1,(by decide),λb i2 hb=>⟨by decide,S _ i2 (A' hb)⟩⟩
 ·refine⟨3,i,(by decide),λa i1 ha=>?_⟩
  conv=>whnf
  refine gZ (λX=>⟨5,i1,(by decide),λb i2 hb=>S _ i2 (go 63 (by decide) _ (jj (by decide) (Qu nn 2)) (jj (Qu (Qf hb) 2) (by decide)))⟩) λX=>?_
  conv=>whnf
  refine gZ (λX=>⟨8,i1,(by decide),λb i2 hb=>⟨nn,hb,λy=>E7 (f:=.int) [63,64,-64,-65,8191,8192,-8192,-8193] (λy=>k (.d y) (rF i2)) (λj hj=>S j i2 ((by decide:∀j∈[(63:aa),64,-64,-65,8191,8192,-8192,-8193],-2^63<=j/\j<2^63) j hj))⟩⟩) λX=>⟨by decide,18446744073709551616,i1,(by decide),λb i2 hb=>⟨by decide,S _ i2 (A' hb)⟩⟩
def IZ:Tr:=xD pF .int
theorem N3:aQ (aU x) (n+2) BV IZ:=qo (q:=bz9) (l:=[(ou,qp)]) (by kernel_rfl) ⟨rY,cH2⟩ λX i k I S=>⟨4,i,(by decide),λb i2 hb=>⟨nn,hb,λy=>E7 (f:=.int) [-1,-2,-16,-17] (λy=>k (.d y) (rF i2)) (λj hj=>S j i2 hj)⟩⟩
theorem bE9{α σ:Type}{f:α->D}{y:ai}{M:Fm}{t:PE->St->(aD->St->Prop)->Prop}{aY:St->(V->St->Prop)->Prop}{Z:σ->J O}{ok:α->Prop}(sf:∀a b,len (Z a)=len (Z b))
  (gQ:∀(d:D)(a:σ)(K:V->St->Prop),(∀v a',ok v->K (.d (f v)) ⟨(y,.L (N (.d d)))::M,Z a'⟩)->aY ⟨(y,.L (N (.d d)))::M,Z a⟩ K):
  ∀(xs:J D)(a:σ)(K:J V->J O->Prop),(∀(vs:J α) a',vs.length=xs.length->(∀v∈vs,ok v)->K (vs.map λv=>.d (f v)) (Z a'))->jW [y] ah ((y,.L ao)::M) (nX t []) aY xs (Z a) K:=λi_=>by
 induction i_ with
 |nil=>exact λa K h=>h [] a rfl nofun
 |cons d xs ih=>
  intro a K h;refine QT (u:=.d d) ?_;refine gQ d a _ λv a' hv=>?_
  show lV _ _
  rw[o7,sf a a',IM];exact ih a' _ λvs Ia h1 h2=>h (v::vs) Ia (bR (·+1) h1) (gv.mpr ⟨hv,h2⟩)
theorem E8{α σ:Type}{f:α->D}{y:ai}{M:Fm}{t:PE->St->(aD->St->Prop)->Prop}{aY:St->(V->St->Prop)->Prop}{Z:σ->J O}{ok:α->Prop}{k:V->J O->Prop}(sf:∀a b,len (Z a)=len (Z b))
  (gQ:∀(d:D)(a:σ)(K:V->St->Prop),(∀v a',ok v->K (.d (f v)) ⟨(y,.L (N (.d d)))::M,Z a'⟩)->aY ⟨(y,.L (N (.d d)))::M,Z a⟩ K)(xs:J D)(a:σ)(h:∀(vs:J α) a',vs.length=xs.length->(∀v∈vs,ok v)->k (.d (.list (vs.map f))) (Z a')):
  jW [y] ah ((y,.L ao)::M) (nX t []) aY xs (Z a) λvs o=>iF ak vs o k:=
 bE9 sf gQ xs a _ λvs a' h1 h2=>by show iF _ _ _ _;unfold iF;rw[E6];exact h vs a' h1 h2
theorem yU{α:Type}{P:α->Prop}:∀a∈([]:J α),P a:=nofun
theorem iA{m:H}:((kJ (m:aa).toNat).map λ(n:H)=>D.int n).length=m:=by rw[cO,Qv,sG]
theorem uS{m:H}(h:m<=1000):-4611686018427387904<=(m:aa)/\(m:aa)<=1048576:=⟨jj (by decide) nn,iz.mpr (bN h (by decide))⟩
def UI:Tr:=CE rF (λm:H=>[.int m]) (·<3) (λm (l:J aa)=>l.length=m/\∀i∈l,pF i) oH
theorem Bz:aQ (aU x) (n+3) Hu UI:=qo (q:=bA0) (l:=[(BV,IZ)]) (by kernel_rfl) ⟨N3,cH2⟩ λm i k h S=>by
 refine⟨uS (bN (mX h) (by decide)),?_⟩
 exact E8 (f:=.int) (ok:=pF) (Z:=λi=>[.dl [.int i],.cell (N (.ref 0))]) (λX I=>rfl) (λd a K h=>⟨(),a,cH2,h⟩) _ i λl i' h1 h2=>S l i' ⟨h1.trans iA,h2⟩
def UJ:Tr:=xD tP nE
theorem BM:aQ (aU x) (n+3) Hv UJ:=qo (q:=bA1) (l:=[(ou,qp),(uF,xE)]) (by kernel_rfl) ⟨rY,yT,cH2⟩ λX i k I S=>by
 refine⟨(),i,cH2,λa i1 ha=>⟨2,i1,(by decide),λb i2 hb=>?_⟩⟩
 conv=>whnf
 exact gZ (λX=>⟨(),i2,cH2,λc i3 hc=>S (a,N c) i3 ⟨ha,λX e=>by cases e;exact hc⟩⟩) λX=>S (a,ao) i2 ⟨ha,nofun⟩
def B1:Tr:=xD E2 .int
theorem bF0:aQ (aU x) (n+3) Mc B1:=qo (q:=bA2) (l:=[(ou,qp),(uF,xE),(BV,IZ)]) (by kernel_rfl) ⟨rY,yT,N3,cH2⟩ λX i k I S=>by
 refine⟨3,i,(by decide),λa i1 ha=>?_⟩
 conv=>whnf
 refine gZ (λX=>S (-64) i1 .e) λX=>?_
 conv=>whnf
 exact gZ (λX=>⟨(),i1,cH2,λc i2 hc=>S c i2 (.k hc)⟩) λX=>⟨(),i1,cH2,λc i2 hc=>S c i2 (.x hc)⟩
def UK:Tr:=xD kQ .str
theorem B2:aQ (aU x) (n+2) Hs UK:=qo (q:=bz7) (l:=[(ou,qp)]) (by kernel_rfl) ⟨rY,cH2⟩ λX i k I S=>⟨5,i,(by decide),λb i2 hb=>⟨nn,hb,λy=>E7 (f:=.str) names (λy=>k (.d y) (rF i2)) (λj hj=>S j i2 hj)⟩⟩
def B':Tr:=n7 IX kC λX=>.d (.tup (x9.map IK))
theorem Ch:aQ (aU x) (n+1) Hq B':=k7 (q:=bz5) (l:=[]) (by kernel_rfl) trivial λX k I S=>S
noncomputable def UL:J (H×Tr):=[(ou,qp),(Hq,B'),(uF,xE),(Ht,UH),(Mc,B1),(Hu,UI)]
noncomputable def bF1(r:aa×aa×J H):aD:=bz (decide (0<r.2.1 -r.1+1)) (bz (decide (r.2.1 -r.1+1<65536)) (kP (λc=>decide (oh c=r.2.2)) (KW r.1 (r.2.1 -r.1+1).toNat)))
theorem C':kP bF1 x9=ah:=by kernel_rfl
theorem Da{i:H}:∀(n:H)(a:aa),i<n->a+i∈KW a n
 |0,X,h=>absurd h (xV _)
 |n+1,a,h=>by
  induction i using ji with
  |zero=>rw[show a+((0:H):aa)=a from Qw a];exact .head _
  |succ i=>
   have g:=Da n (a+1) (F6 h);rw[zT,Kv 1]at g
   exact .tail _ g
theorem bF2{r:aa×aa×J H}(h:r∈x9){i:H}(hi:(i:aa)<r.2.1 -r.1+1):r.1+i∈qG/\oh (r.1+i)=r.2.2:=by have g:=lE C' _ h;have m:=Da (i:=i) (r.2.1 -r.1+1).toNat r.1 (dF.mp (Bo hi (Int.self_le_toNat _)));refine⟨rA.mpr ⟨r,h,m⟩,?_⟩;have a:=lE (bf (bf g)) _ m;exact gy a
theorem yV{α:Type}{f:α->D}{l:J α}{i:H}{y:D}(hy:(l.map f)[i]?=N y):∃a,a∈l/\y=f a:=E7 l (λy=>∃a,a∈l/\y=f a) (λa h=>⟨a,h,rfl⟩) hy
noncomputable def UM:J (J H):=[[105],[98],[],[117],[116],[117,117],[107],[97,117],[122],[108],[114],[117,122],[122,122]]
theorem bF3:∀r∈x9,r.2.2∈UM:=by decide
noncomputable def N4(c:H):D:=.str (az [c])
noncomputable def N5(a b c d:D):Fm:=[(aM,.C 1),(dQ,.L (N (.ref 2))),(fQ,.L (N (.d a))),(i8,.L ao),(vI,.L (N (.d b))),(f7,.L (N (.d c))),(GO,.L (N (.d d)))]
noncomputable def I0(i c:aa)(l:J aa):J O:=[.dl [.int i],.cell (N (.ref 0)),.dl (.int c::l.map .int)]
theorem bF4{l:J H}{m:H}(h:l.length=1+m)(hm:m<3)(g:∀j∈l,cY j):j5 [116] (l.map sL):=by
 induction l using eT with
 |nil=>rw[rC]at h;cases h
 |cons i a=>exact .t (qD (eZ (iW (zL (h.trans (rC ..)))) hm)) g
theorem bF5{a b d e:D}{c:aa}{K:dZ->St->Prop}{ls:J H}(h:ls∈UM)(i:aa):(∀(l:J aa) i',j5 ls l->K .next ⟨N5 a b d e,I0 i' c l⟩)->
  gT [i8] [i8] ah 3 ((vc ⟨dP,d_ UL⟩ 39).s Uq) (ls.map N4) ⟨N5 a b d e,I0 i c []⟩ K:=by
 have d1:1<1048576:=by decide
 have d2:2<1048576:=by decide
 refine eW (P:=λls=>(∀(l:J aa) i',j5 ls l->K .next ⟨N5 a b d e,I0 i' c l⟩)->gT [i8] [i8] ah 3 ((vc ⟨dP,d_ UL⟩ 39).s Uq) (ls.map N4) ⟨N5 a b d e,I0 i c []⟩ K) h
  ⟨λhK=>⟨32,i,.head _,λa i1 ha=>⟨d1,hK [a] i1 (.i ha)⟩⟩,
  λhK=>⟨(),i,cH2,λa i1 ha=>⟨d1,hK [a] i1 (.b ha)⟩⟩,
  λhK=>hK [] i .o,
  λhK=>⟨(),i,cH2,λa i1 ha=>⟨d1,hK [(a:aa)] i1 (.u ha)⟩⟩,
  λhK=>⟨3,i,(by decide),λm i1 hm=>⟨uS (m:=1+m) (bN (rD (mX (dF.mp hm)) 1) (by decide)),?_⟩⟩,
  λhK=>⟨(),i,cH2,λa i1 ha=>⟨d1,(),i1,cH2,λb i2 hb=>⟨d2,hK [(a:aa),(b:aa)] i2 (.uu ha hb)⟩⟩⟩,
  λhK=>⟨3,i,(by decide),λm i1 hm=>⟨m,i1,dF.mp hm,λl i2 hl=>⟨?_,hK l i2 (.k (hl.1▸qD (dF.mp hm)) hl.2)⟩⟩⟩,
  λhK=>⟨32,i,(by decide),λa i1 ha=>⟨d1,(),i1,cH2,λb i2 hb=>⟨d2,hK [(a:aa),(b:aa)] i2 (.au (dF.mp ha) hb)⟩⟩⟩,
  λhK=>hK [] i .z,
  λhK=>⟨64,i,.tail _ (.head _),λa i1 ha=>⟨d1,hK [a] i1 (.l ha)⟩⟩,
  λhK=>⟨2,i,(by decide),λb i1 hb=>⟨nn,hb,λy hy=>?_⟩⟩,
  λhK=>⟨(),i,cH2,λa i1 ha=>⟨d1,hK [(a:aa)] i1 (.uz ha)⟩⟩,
  λhK=>hK [] i .zz,cH2⟩
 ·exact E8 (f:=yS) (ok:=cY) (Z:=λi=>[.dl [.int i],.cell (N (.ref 0)),.dl [.int c]]) (λX I=>rfl) (λd a K h=>⟨(),a,cH2,h⟩) _ i1 λl i2 h1 h2=>by
   have h1:l.length=1+m:=h1.trans (iA (m:=1+m));have g:=hK (l.map sL) i2 (bF4 h1 (dF.mp hm) h2);unfold I0 at g
   rw[n_]at g
   refine⟨?_,g⟩
   show(l.map yS).length+1<=1048576
   rw[cO,h1];exact bN (mX<|Qx (Nat.add_lt_add_left (dF.mp hm) 1) 1) (by decide)
 ·show(l.map D.int).length+1<=1048576
  rw[cO,hl.1];exact bN (mX<|Qx (dF.mp hm) 1) (by decide)
 ·obtain⟨j,hj,rfl⟩:=yV (f:=.int) (l:=[-16,-17]) hy;exact⟨d1,hK [j] i1 (.r hj)⟩
def Db:Tr:=xD fj.ok fj.d
theorem bF6:aQ (aU x) (n+4) Me Db:=qo (q:=bA3) (l:=UL) (by kernel_rfl) ⟨rY,Ch,yT,Bn,bF0,Bz,cH2⟩ λX i k I S=>by
 refine⟨(),cH2,35,i,(by decide),λa i1 ha=>⟨nn,ha,λy hy=>?_⟩⟩
 obtain⟨⟨f,t,ls⟩,hr,rfl⟩:=yV (f:=IK) (l:=x9) hy;have g:=lE C' _ hr;have p0:0<t -f+1:=gy (ck g);have p1:t -f+1<65536:=gy (ck (bf g));have fm:=bF3 _ hr;have rc:=λi=>bF2 (i:=i) hr;refine⟨t -f+1,i1,⟨p0,?_⟩,λc i2 hc=>?_⟩
 ·exact mE (dF.mp ((Int.natAbs_of_nonneg (Qf p0)).symm▸p1)) (by decide)
 ·have f3:ls.length<=2:=(by decide:∀l∈UM,l.length<=2) ls fm
  refine⟨bN f3 (by decide),?_⟩
  refine bF5 (c:=f+c) fm i2 λl i3 hl=>?_;exact S ⟨f+c,l⟩ i3 ⟨(rc c hc).1,(rc c hc).2.symm▸hl⟩
end
section
inductive AN:O->O->Prop
 |eq {a}:(∀ts,a≠.cur ts)->AN a a
 |cur {ts l i e}:i<=e->e<=l.length->(l.take e).drop i=c8 ts->AN (.cur ts) (.inst qf (MV l i e))
abbrev yW:=L2 AN
theorem AN.own{a b:O}(h:AN a b)(p:aR×aR):jR (p,a)=jR (p,b):=h.rec (λ_=>rfl) λ_ _ _=>rfl
theorem Do{l m:J O}(h:yW l m):∀r:bQ,own (r.zip l)=own (r.zip m):=by
 induction h with
 |nil=>exact λ_=>rfl
 |cons c _ ih=>exact λr=>by cases r with|nil=>rfl|cons p r=>exact(oE ..).trans ((congr (bR (·++·) (c.own p)) (ih r)).trans (oE ..).symm)
section
variable{w:bU}{r:bQ}{F:bP}{h:dH}
theorem AN.abs{p:aR×aR}{a b:O}(c:AN a b)(y:OR w r F h p b):OR w r F h p a:=by
 cases c with
 |eq=>exact y
 |cur h1 h2 h3=>exact⟨_,_,_,y,h1,h2,h3⟩
theorem OR.bF7{p:aR×aR}{a:O}(y:OR w r F h p a):∃b,AN a b/\OR w r F h p b:=by
 induction a with
 |cur ts=>exact y.elim λl y=>y.elim λi y=>y.elim λe y=>⟨_,.cur y.2.1 y.2.2.1 y.2.2.2,y.1⟩
 |_=>exact⟨_,.eq (λ_ q=>nomatch q),y⟩
theorem bF8{o:J O}:∀{q:bQ},q.length=o.length->(∀p∈q.zip o,OR w r F h p.1 p.2)->∃o1,yW o o1/\∀p∈q.zip o1,OR w r F h p.1 p.2:=by
 induction o with
 |nil=>exact λ_ h=>⟨[],.nil,h⟩
 |cons a o ih=>
  intro q l hh;induction q using eT with
  |nil=>cases l
  |cons p q=>exact(OR.bF7 (hh (p,a) (.head _))).elim λb g=>(ih (zL l) λx hx=>hh x (.tail _ hx)).elim λo1 g1=>⟨b::o1,.cons g.1 g1.1,gv.mpr ⟨g.2,g1.2⟩⟩
theorem bF9{o o1:J O}(z:yW o o1):∀{q:bQ},(∀p∈q.zip o1,OR w r F h p.1 p.2)->∀p∈q.zip o,OR w r F h p.1 p.2:=by
 induction z with
 |nil=>exact λh=>h
 |cons c z ih=>
  intro q hh;induction q using eT with
  |nil=>exact λ_ h=>(vt h).elim
  |cons p q=>exact gv.mpr ⟨c.abs (hh (p,_) (.head _)),ih λx hx=>hh x (.tail _ hx)⟩
end
def Dx(T:Tr):Tr:=λargs o k=>∀o1,yW o o1->T args o1 λv DD=>∃o',yW o' DD/\k v o'
theorem bG0{f:Cf}{n:H}{g:aA}{T:Tr}(h:SC f n g T):SC f n g (Dx T):=by intro args o k S A s F E r ws ok el m y;refine b_ (bF8 el m.live) λo1 hx=>?_;have c:=hx.1;have y1:=hx.2;have e1:=Do c r;have m1:l_ f r s F (r.zip o1):=⟨m.sub,m.base,y1,λa ha=>m.jg a (e1▸ha),e1▸m.nd⟩;refine gG (h _ _ _ (S o1 c) A s F E r ws ok (el.trans c.length) m1 y) (λu s' p=>?_) λ_ _ z=>z;obtain⟨v,DD,r',F',⟨o',c',hq⟩,yv,l,m',t⟩:=p;have e2:=Do c' r';refine⟨v,o',r',F',hq,yv,l.trans c'.length.symm,⟨m'.sub,m'.base,bF9 c' m'.live,λa ha=>m'.jg a (e2▸ha),e2▸m'.nd⟩,?_⟩;rw[e1,e2];exact t
theorem aQ.cur{f:Cf}{n:H}{a:aR}{T:Tr}(h:aQ f n a T):aQ f n a (Dx T):=⟨h.keep,bG0 h.sc⟩
theorem yW.v7{ts:J Tk}{o1:J O}(h:yW [.cur ts] o1):∃l i e,o1=[.inst qf (MV l i e)]/\i<=e/\e<=l.length/\(l.take e).drop i=c8 ts:=by
 obtain⟨b,e,c⟩:=h.one;cases c with
 |eq q=>exact absurd rfl (q ts)
 |cur h1 h2 h3=>exact⟨_,_,_,e,h1,h2,h3⟩
end
section
open Wh (cu)
variable{w:bU}{bJ s:aE}{x:cu w bJ s}{n:H}
def cI(l:J H)(i e:H):O:=.inst qf (MV l i e)
structure k8(l:J H)(i e:H)(r:J H):Prop where
 ie:i<=e
 el:e<=l.length
 r:(l.take e).drop i=r
theorem k8.len{l:J H}{i e:H}{r:J H}(h:k8 l i e r):i+r.length=e:=by rw[<-h.r,cu0,Xw,Qq h.el,cA4 h.ie]
theorem k8.app{l:J H}{i e:H}{a r:J H}(h:k8 l i e (a++r)):i+a.length<=e/\(l.take (i+a.length)).drop i=a/\k8 l (i+a.length) e r:=by
 have hl:=h.len;rw[f6,<-wB]at hl
 have le:i+a.length<=e:=hl▸gF _ _;refine⟨le,?_,⟨le,h.el,?_⟩⟩
 ·have h1:=bR (List.take a.length) h.r;rw[List.take_left' rfl,List.take_drop,List.take_take,Qq le]at h1
  exact h1
 ·have h1:=bR (cA0 a.length) h.r;rw[List.drop_left' rfl,List.drop_drop]at h1
  exact h1
theorem k8.cons{l:J H}{i e b:H}{r:J H}(h:k8 l i e (b::r)):i<e/\l[i]?=N b/\k8 l (i+1) e r:=by
 obtain⟨h1,h2,h3⟩:=k8.app (a:=[b]) h;refine⟨h1,?_,h3⟩;have h4:=bR (·[0]?) h2;rw[List.getElem?_drop,Nat.add_zero,Xv (show i<i+[b].length from m7 i)]at h4
 exact h4
def UN:Tr:=λa_ o_ k_=>∀P_:Tr,(∀(l i e){k},k (.d (.int ((e:aa) -i))) [cI l i e]->P_ [.ref 0] [cI l i e] k)->P_ a_ o_ k_
theorem UO:aQ (aU x) (n+1) BK UN:=fc x (q:=bo2) (l:=[]) (by kernel_rfl) trivial λX I u2 g=>g _ λl i e X h=>h
def bG1:Tr:=λa_ o_ k_=>∀P_:Tr,(∀(l i e){k},k (.d (.bool (decide ((e:aa)<=i)))) [cI l i e]->P_ [.ref 0] [cI l i e] k)->P_ a_ o_ k_
theorem bG2:aQ (aU x) (n+1) GW bG1:=fc x (q:=bo3) (l:=[]) (by kernel_rfl) trivial λX I u2 g=>g _ λl i e X h=>h
def D1:Tr:=λa_ o_ k_=>∀P_:Tr,(∀(l i e b r){k},k8 l i e (b::r)->k (.d (.int (b:H))) [cI l i e]->P_ [.ref 0] [cI l i e] k)->P_ a_ o_ k_
theorem bG3{l:J H}{i b:H}(h:l[i]?=N b){y:D}(g:(fJ l)[(i:aa).toNat]?=N y): .int b=y:=by
 have e:(fJ l)[i]?=N (.int b):=by unfold fJ;rw[mD,h];rfl
 exact fW (e.symm.trans g)
theorem D2:aQ (aU x) (n+1) GX D1:=fc x (q:=bo4) (l:=[]) (by kernel_rfl) trivial λX I u2 g=>g _ λl i e b r k hb S=>by
 have hx:=hb.cons;have h1:=hx.1;have h2:=hx.2.1
 conv=>whnf
 refine jc (kq (Gp.mpr (dF.mpr h1))) ⟨nn,?_,λy hy=>?_⟩
 ·unfold fJ;rw[cO];exact dF.mpr (oX h1 hb.el)
 ·cases bG3 h2 hy;exact S
def UP:Tr:=λa_ o_ k_=>∀P_:Tr,(∀(l i e b r){k},k8 l i e (b::r)->k (.d (.int (b:H))) [cI l (i+1) e]->P_ [.ref 0] [cI l i e] k)->P_ a_ o_ k_
theorem N6:aQ (aU x) (n+2) qg UP:=fc x (q:=bo5) (l:=[(GX,D1)]) (by kernel_rfl) ⟨D2,cH2⟩ λX I u2 g=>g _ λl i e b r k hb S=>(λX I=>I l i e b r hb S)
def bG4:Tr:=λa_ o_ k_=>∀P_:Tr,(∀(l i e a r){k},k8 l i e (a++r)->k (.d (.bytes a)) [cI l (i+a.length) e]->P_ [.ref 0,.d (.int ((a:J H).length:H))] [cI l i e] k)->P_ a_ o_ k_
theorem Ee{i e a:H}(h:i+a<=e):decide ((e:aa) -i<a)=ak:=kq (nN.mpr (Int.le_sub_left_of_add_le (iz.mpr h)))
theorem bG5:aQ (aU x) (n+2) BL bG4:=fc x (q:=bo6) (l:=[(BK,UN)]) (by kernel_rfl) ⟨UO,cH2⟩ λX I u2 g=>g _ λl i e a r k hb S=>by
 have hx:=hb.app;have h1:=hx.1;have h2:=hx.2.1;have h3:=hx.2.2;refine(λX I=>I l i e ?_)
 conv=>whnf
 refine jc (Ee h1) ⟨⟨nn,iz.mpr (gF ..),iz.mpr (bN h1 hb.el)⟩,?_⟩;have e:(l.take ((i:aa)+(a.length:H)).toNat).drop (i:aa).toNat=a:=h2;rw[e];exact S
def I4:Tr:=λa_ o_ k_=>∀P_:Tr,(∀(l){k},k (.d .none) [cI l 0 l.length]->P_ [.ref 0,.d (.bytes l)] [.inst qf []] k)->(∀(l)(i e:H){k},k (.d .none) [cI l i e]->P_ [.ref 0,.d (.bytes l),.d (.int i),.d (.int e)] [.inst qf []] k)->P_ a_ o_ k_
theorem I4.a(l){k}(f5:k (.d .none) [cI l 0 l.length]):I4 [.ref 0,.d (.bytes l)] [.inst qf []] k:=λP_ c_ u_=>c_ l f5
theorem I4.b(l)(i e:H){k}(f5:k (.d .none) [cI l i e]):I4 [.ref 0,.d (.bytes l),.d (.int i),.d (.int e)] [.inst qf []] k:=λP_ u_ c_=>c_ l i e f5
theorem bG6:aQ (aU x) (n+1) Zo I4:=by
 refine Uv x (q:=bo1) (l:=[]) 99 (Wh.tu [.int 0 307,.none]) (by kernel_rfl) (by kernel_rfl) (λargs b hb r F ws hv=>?_) trivial λX I u2 g=>g _ (λl X h=>h) λl i e X h=>h
 cases hv with
 |nil=>cases hb
 |cons v1 hv=>cases hv with
  |nil=>cases hb
  |cons v2 hv=>cases hv with
   |nil=>cases hb;exact⟨[(aK,_),(bH,_),(cD,.int 0 307),(sY,.none)],by kernel_rfl,by kernel_rfl,.cons v1 (.cons v2 (.cons (.d .int) (.cons (.d .none) .nil)))⟩
   |cons v3 hv=>cases hv with
    |nil=>cases hb;exact⟨[(aK,_),(bH,_),(cD,_),(sY,.none)],by kernel_rfl,by kernel_rfl,.cons v1 (.cons v2 (.cons v3 (.cons (.d .none) .nil)))⟩
    |cons v4 hv=>cases hv with
     |nil=>cases hb;exact⟨[(aK,_),(bH,_),(cD,_),(sY,_)],by kernel_rfl,by kernel_rfl,.cons v1 (.cons v2 (.cons v3 (.cons v4 .nil)))⟩
     |cons X I=>cases hb
def E9:Tr:=λa_ o_ k_=>∀P_:Tr,(∀(l){k},k (.ref 0) [cI l 0 l.length]->P_ [.d (.bytes l)] [] k)->(∀(l)(i e:H){k},k (.ref 0) [cI l i e]->P_ [.d (.bytes l),.d (.int i),.d (.int e)] [] k)->P_ a_ o_ k_
theorem E9.a(l){k}(f5:k (.ref 0) [cI l 0 l.length]):E9 [.d (.bytes l)] [] k:=λP_ c_ u_=>c_ l f5
theorem E9.b(l)(i e:H){k}(f5:k (.ref 0) [cI l i e]):E9 [.d (.bytes l),.d (.int i),.d (.int e)] [] k:=λP_ u_ c_=>c_ l i e f5
theorem EQ:aQ (aU x) (n+2) qf E9:=(CB x bG6 (by kernel_rfl)).of λX I u2 g=>g _ (λl X h=>.a l h) λl i e X h=>.b l i e h
def bG7:Tr:=λa_ o_ k_=>∀P_:Tr,(∀(l i e a r){k},k8 l i e (a++r)->k (.ref 1) [cI l (i+a.length) e,cI l i (i+a.length)]->P_ [.ref 0,.d (.int ((a:J H).length:H))] [cI l i e] k)->P_ a_ o_ k_
theorem bG8:aQ (aU x) (n+3) GY bG7:=fc x (q:=bo7) (l:=[(BK,UN),(qf,E9)]) (by kernel_rfl) ⟨UO,EQ,cH2⟩ λX I u2 g=>g _ λl i e a r k hb S=>by
 refine(λX I=>I l i e ?_)
 conv=>whnf
 exact jc (Ee hb.app.1) (.b l i (i+a.length) S)
noncomputable def oN(b:H):aa:=uc (b:aa) 127
def N7(a:H->aa->Prop)(sj sh:aa)(b:H):Prop:=(decide (sj -sh<7)=ah->a b (sj -sh))/\(decide (sj -sh<=7)=ah->(b:aa)<128)/\(0<=sh/\sh+7<=100000/\(oN b).natAbs<2^64)
def I5(a:H->aa->Prop)(sj sh:aa):J H->Prop
 |[]=>bV
 |b::r=>N7 a sj sh b/\bC (decide ((b:aa)<128)) (r=[]) (I5 a sj (sh+7) r)
def N8(b:H)(lf:aa):Prop:=0<=lf/\(oN b).fdiv (2^lf.toNat)=0
def CG(f sh:aa):J H->aa
 |[]=>f
 |b::r=>CG (f+oN b*2^sh.toNat) (sh+7) r
def bG9(b g f sh:aa):Fm:=[(aK,.L (N (.ref 0))),(qK,.L (N (.d (.int b)))),(sX,.L (N (.d (.int g)))),(dQ,.L (N (.d (.int f)))),(nQ,.L ao),(eB,.L ao),(rM,.L (N (.d (.int sh))))]
inductive UQ(a:H->aa->Prop)(acc:aa->aa->J H->aa)(sj g cC:aa)(l r:J H)(e8 e:H):H->St->Prop
 |mk (ds:J H) (f sh:aa) (i:H):I5 a sj sh ds->acc f sh ds=cC->i+ds.length=e8->k8 l i e (ds++r)->UQ a acc sj g cC l r e8 e ds.length ⟨bG9 sj g f sh,[cI l i e]⟩
def Fa(m:aa->Prop)(a:H->aa->Prop)(acc:aa->aa->J H->aa):Tr:=λa_ o_ k_=>∀P_:Tr,(∀(l i e b)(ds r){k},m b->I5 a b 0 ds->k8 l i e (ds++r)->k (.d (.int (acc 0 0 ds))) [cI l (i+ds.length) e]->P_ [.ref 0,.d (.int b)] [cI l i e] k)->P_ a_ o_ k_
theorem CH(b:H):oN b=((b% 128:H):aa):=by unfold oN;rw[Qy];rfl
theorem Fh{sh:aa}(h:sh+7<=100000):sh<=100000:=jj (X5 (by decide)) h
theorem bH0:aQ (aU x) (n+3) Lo (Fa kC N8 CG):=fc x (q:=bo8) (l:=[(qg,UP)]) (by kernel_rfl) ⟨N6,cH2⟩ λX I u2 g=>g _ λl tV e sj ds r k X h0 I6 S=>by
 conv=>whnf
 refine⟨UQ N8 CG sj tV (CG 0 0 ds) l r (tV+ds.length) e,ds.length,.mk ds 0 0 tV h0 rfl rfl I6,?_⟩;generalize CG 0 0 ds=cC at S
 generalize tV+ds.length=e8 at S
 clear h0 I6 ds;intro m Z h;cases h with|mk ds f sh i h1 h2 h3 h4=>cases ds with|nil=>exact h1.elim|cons b ds=>
 obtain⟨⟨c1,c2,c3⟩,c4⟩:=h1;refine(λX I=>I l i e b (ds++r) h4 ?_)
 conv=>whnf
 refine IL (λq c=>⟨(c1 q).1,jc (by show(!decide (zS (oN b) _=0))=ak;rw[(c1 q).2];rfl) c⟩) ?_
 conv=>whnf
 refine IL (λq c=>jc (kq (Gp.mpr (c2 q))) c) ⟨⟨c3.1,Fh c3.2.1,c3.2.2⟩,?_⟩
 conv=>whnf
 refine qY (P:=λp=>p) c4 (λq d=>?_) λq d=>?_
 ·subst d;have h3:i+1=e8:=h3;have h2:f+oN b*2^sh.toNat=cC:=h2;subst h3 h2;exact S
 ·exact⟨ds.length,m7 _,.mk ds _ _ (i+1) d h2 ((wB ..).trans ((bR (i+·) (rC ..)).trans h3)) h4.cons.2.2⟩
def I7(b:H)(lf:aa):Prop:=0<=lf -1/\(decide (0=(oN b).fdiv (2^(lf -1).toNat))||(decide (zS 127 (2^(lf -1).toNat)=(oN b).fdiv (2^(lf -1).toNat))||ak))=ah
noncomputable def N9(f sh:aa)(b:H):aa:=bC (!decide (uc (b:aa) 64=0)) (f -1*2^sh.toNat) f
def AO(f sh:aa):J H->aa
 |[]=>f
 |b::r=>bC (f9 r) (N9 (f+oN b*2^sh.toNat) (sh+7) b) (AO (f+oN b*2^sh.toNat) (sh+7) r)
def Fs(b:aa):Prop:=b∈[7,32,33,64]
theorem bH1:aQ (aU x) (n+3) BN (Fa Fs I7 AO):=fc x (q:=bo9) (l:=[(qg,UP)]) (by kernel_rfl) ⟨N6,cH2⟩ λX I u2 g=>g _ λl tV e sj ds r k X h0 I6 S=>by
 conv=>whnf
 refine⟨UQ I7 AO sj tV (AO 0 0 ds) l r (tV+ds.length) e,ds.length,.mk ds 0 0 tV h0 rfl rfl I6,?_⟩;generalize AO 0 0 ds=cC at S
 generalize tV+ds.length=e8 at S
 clear h0 I6 ds;intro m Z h;cases h with|mk ds f sh i h1 h2 h3 h4=>cases ds with|nil=>exact h1.elim|cons b ds=>
 obtain⟨⟨c1,c2,c3⟩,c4⟩:=h1;refine(λX I=>I l i e b (ds++r) h4 ?_)
 conv=>whnf
 refine IL (λq c=>⟨(c1 q).1,(c1 q).1,jc (bR (!·) (c1 q).2) c⟩) ?_
 conv=>whnf
 refine IL (λq c=>jc (kq (Gp.mpr (c2 q))) c) ⟨⟨c3.1,Fh c3.2.1,c3.2.2⟩,?_⟩
 conv=>whnf
 refine qY (P:=λp=>p) c4 (λq d=>?_) λq d=>?_
 ·subst d;have h3:i+1=e8:=h3;have h2:N9 (f+oN b*2^sh.toNat) (sh+7) b=cC:=h2;subst h3 h2
  conv=>whnf
  exact qY (P:=λv=>k (.d (.int v)) [cI l (i+1) e]) S (λX h=>⟨⟨Qz c3.1 (by decide),c3.2.1,by decide⟩,h⟩) λX h=>h
 ·have h2:AO (f+oN b*2^sh.toNat) (sh+7) ds=cC:=by cases ds with|nil=>exact d.elim|cons X I=>exact h2
  exact⟨ds.length,m7 _,.mk ds _ _ (i+1) d h2 ((wB ..).trans ((bR (i+·) (rC ..)).trans h3)) h4.cons.2.2⟩
end
theorem I8(t:H):((2:aa)^((7*t:H):aa).toNat)=((128^t:H):aa):=by rw[sG,Int.pow_mul,Gn];rfl
theorem bH2:∀(k t q:H)(f:aa),q<128^(k+1)->CG f ((7*t:H):aa) (tG q (k+1))=f+((q*128^t:H):aa):=λi_=>by
 induction i_ with
 |zero=>
  intro t q f h
  show f+oN (q% 128)*2^_=_
  rw[I8,CH,X6,zQ (by simpa using h),KL]
 |succ k ih=>
  intro t q f h;have ih:=ih (t+1) (q/128) (f+oN (q% 128+128)*2^((7*t:H):aa).toNat) (ai9 (by rw[KN,QA]at h;exact h))
  refine Qi ih ?_;have e:q% 128*128^t+q/128*128^(t+1)=q*128^t:=by rw[KN,QA (128^t) 128,<-cA5,<-Nat.add_mul,Nat.mod_add_div']
  rw[I8,CH,X7,X6,<-e,Dz,KL (q% 128),zT]
theorem Fu(b:H):(oN b).natAbs<2^64:=by rw[CH];exact mE (QB _ (by decide)) (by decide)
theorem bH3:∀t<5,(decide ((32:aa) -((7*t:H):aa)<7)=ah->t=4)/\(decide ((32:aa) -((7*t:H):aa)<=7)=ah->t=4)/\((7*t:H):aa)+7<=100000:=by decide
theorem FC{a:H}:¬((a+128:H):aa)<128:=λz=>absurd (dF.mp z) (QC (x6 _ _))
theorem bH4(k:H):∀t q:H,t+k<5->q*128^t<4294967296->I5 N8 32 ((7*t:H):aa) (tG q (k+1)):=by
 have Z:∀(t q b:H),t<5->q*128^t<4294967296->b% 128=q% 128->(t=4->b<128)->N7 N8 32 ((7*t:H):aa) b:=λt q b h1 h2 h3 h4=>by
  have f:=bH3 t h1;refine⟨λh=>?_,λh=>dF.mpr (h4 (f.2.1 h)),nn,f.2.2,Fu b⟩;cases f.1 h;have h5:q<16:=Nat.lt_of_mul_lt_mul_right (a:=128^4) h2;refine⟨by decide,?_⟩
  rw[CH,h3,zQ (mE h5 (by decide))]
  show zS q 16=0
  rw[QD _ (by decide)]
  exact bR sL (Nat.div_eq_of_lt h5)
 induction k with
 |zero=>exact λt q h g=>⟨Z t q _ h g (X6 _ _) λX=>QB _ (by decide),by rw[nL (p:=((q% 128:H):aa)<128) (dF.mpr (QB _ (by decide)))];rfl⟩
 |succ k ih=>exact λt q h g=>⟨Z t q _ (eZ (gF ..) h) g ((X7 ..).trans (X6 ..)) λe=>absurd (cq9 (n:=4) (m:=1) (by rw[e]at h;exact h)) (QC (lB (qw k))),by rw[kq FC];refine ih (t+1) (q/128) (eZ (iW (xY t k)) h) (eZ ?_ g);rw[KN,QA (128^t),<-cA5];exact Nat.mul_le_mul_right _ (Nat.div_mul_le_self q 128)⟩
theorem bH5{b:H}(h:b<128):decide (uc (b:aa) 64=0)=decide (b<64):=by
 rw[ap4 nn (by decide)]
 have:∀b<128,decide (b&&&64=0)=decide (b<64):=by decide
 refine Qi ?_ (this b h)
 show decide ((((b&&&64:H):aa))=0)=_
 rw[X8];exact zU (n:=0)
theorem xF(q:aa):0<=q% 128/\q% 128<128/\((q% 128).toNat:aa)=q% 128/\(q% 128).toNat<128:=
 have h:=QE q (by decide:(128:aa)≠0)
 have g:=ap5 q (by decide:(0:aa)<128)
 ⟨h,g,zO h,(XR h).mpr g⟩
theorem UR{q M cC:aa}(e:M*128=cC)(h:-cC<=q)(g:q<cC):-M<=q/128/\q/128<M:=
 ⟨(cA6 (by decide)).mpr (by rw[X_,e];exact h),(cA7 (by decide)).mpr (by rw[e];exact g)⟩
theorem FM{q:aa}(h:¬q<0)(g:q<128):q% 128=q:=Yb (nN.mp h) g
theorem FR{q:aa}(h:-128<=q)(g:q<0):q% 128=q+128:=(Int.add_emod_right q 128).symm.trans (Yb (ap6 h 128) (cA8 g 128))
theorem bH6(a b:aa):a+b+1 -a=b+1:=by rw[zT,Kv a,uh]
theorem bH7:∀(k t:H)(q f:aa),-(64*128^k)<=q->q<64*128^k->AO f ((7*t:H):aa) (ny q (k+1))=f+q*((128^t:H):aa):=λi_=>by
 induction i_ with
 |zero=>
  intro t q f h g;obtain⟨h1,h2,h3,h4⟩:=xF q;have e7:(2:aa)^(((7*t:H):aa)+7).toNat=128*((128^t:H):aa):=by
   have:=I8 (t+1);rw[KN,QA (128^t),KL]at this
   exact this
  show N9 (f+oN (q% 128).toNat*2^_) _ _=_
  unfold N9;rw[bH5 h4,I8,CH,zQ h4,h3,e7];generalize((128^t:H):aa)=M;have h:-64<=q:=h;have g:q<64:=g;by_cases n:q<0
  ·have e:q% 128=q+128:=FR (jj (by decide) h) n
   have e1:¬(q% 128).toNat<64:=λz=>nN.mpr (ap6 h 128) (by rw[<-e,<-h3];exact dF.mpr z)
   rw[kq e1,e,cA9]
   show f+_ -_=_
   rw[Int.one_mul,<-zT];exact uh _ _
  ·have e:q% 128=q:=FM n (sN g (by decide))
   rw[nL ((XR h1).mpr (e.symm▸g)),e];rfl
 |succ k ih=>
  intro t q f h g;obtain⟨h1,h2,h3,h4⟩:=xF q;have d:=UR ((ap7 ..).trans (bR (64*·) (X3 ..).symm)) h g;have ih:=ih (t+1) (q/128) (f+oN ((q% 128).toNat+128)*2^((7*t:H):aa).toNat) d.1 d.2;have ne:∀{a b:aa},bC (f9 (ny (q/128) (k+1))) a b=b:=λ{a b}=>by cases k<;>exact rfl
  refine Qi ne (Qi ih ?_);rw[I8,CH,X7,zQ h4,h3,KN,KL,zT,X4 ((128^t:H):aa),<-ap7,<-cA9];refine bR (λz=>f+z*_) ?_;exact Int.emod_add_ediv_mul q 128
theorem bH8:∀(k s:H)(q sh:aa),0<=sh->sh+7*(k+1)<=100000->7*k<=s->-2^s<=q->q<2^s->I5 I7 (sh+s+1) sh (ny q (k+1)):=by
 have up:∀s<6,∀b<128,(b<2^s\/128<=b+2^s)->b/2^s=0\/127/2^s=b/2^s:=by decide
 have Z:∀(s:H)(q sh:aa)(b:H),0<=sh->sh+7<=100000->b% 128=(q% 128).toNat->(s<7->b<128)->-2^s<=q->q<2^s->N7 I7 (sh+s+1) sh b:=λs q sh b h0 h1 h2 h3 h4 h5=>by
  unfold N7;rw[bH6];refine⟨λh=>?_,λh=>dF.mpr (h3 (dF.mp (gy h))),h0,h1,Fu b⟩;have s6:s<6:=dF.mp (Int.lt_of_add_lt_add_right (b:=1) (gy h));have p2:(2:aa)^s=((2^s:H):aa):=by rw[Gn];rfl
  have FS:((2^s:H):aa)<64:=dF.mpr (Nat.pow_lt_pow_right (by decide) s6)
  rw[p2]at h4 h5
  unfold I7;rw[uh,sG,CH,h2,p2,QD _ nn,QD _ nn];have h7:=xF q;refine⟨nn,?_⟩;have:=up s s6 _ h7.2.2.2 (by
   by_cases n:q<0
   ·refine .inr (iz.mp ?_);rw[Dz,h7.2.2.1,FR (jj (Qf (Int.neg_lt_neg (sN FS (by decide)))) h4) n,Int.add_right_comm]
    exact cB0 (jj (Int.le_of_eq (Int.add_left_neg _).symm) (ap6 h4 _))
   ·refine .inl (dF.mp ?_);rw[h7.2.2.1,FM n (sN h5 (sN FS (by decide)))]
    exact h5)
  rw[aj6,Bool.or_eq_true,XZ,XZ,<-Int.natCast_ediv];exact this.imp (λe=>(bR sL e).symm) λe=>bR sL e
 intro k;induction k with
 |zero=>exact λs q sh h0 h1 X h2 h3=>⟨Z s q sh _ h0 h1 (zQ (xF q).2.2.2) (λX=>(xF q).2.2.2) h2 h3,by rw[nL (p:=(((q% 128).toNat:H):aa)<128) (dF.mpr (xF q).2.2.2)];rfl⟩
 |succ k ih=>
   intro s q sh h0 h1 h4 h2 h3;have h1:sh+7+7*((k:aa)+1)<=100000:=by omega
   refine b_ (cq8 (bN (Nat.le_mul_of_pos_right 7 (jd k)) h4)) λs e=>?_;subst e;refine⟨Z _ q sh _ h0 (jj (X5 nn) h1) ((X7 ..).trans (zQ (xF q).2.2.2)) (λh=>absurd h (QC (gF ..))) h2 h3,?_⟩;rw[kq FC,Dz,<-zT];have d:=UR ((X4 ..).trans (Int.pow_add (2:aa) 7 s).symm) h2 h3;exact ih s (q/128) (sh+7) (Qz h0 (by decide)) h1 (Nat.le_of_add_le_add_left (a:=7) (bN (iW (rC ..)) h4)) d.1 d.2
abbrev Ts:=J Tk
def tU(p n:H):Tk:=.u n (min 5 (nG n+p))
def tS(b p:H)(i:aa):Tk:=.s i (min ((b+6)/7) (rX i+p))
def cU(p n:H)(r:Ts):Ts:=tU p n::r
noncomputable def c7(i:aa)(r:Ts):Ts:=.s i 1::r
noncomputable def tL{α:Type}(t:α->Ts->Ts)(l:J α)(r:Ts):Ts:=l.foldr t r
noncomputable def cB(n:H)(r:Ts):Ts:=.b n::r
noncomputable def cR(l:J H)(r:Ts):Ts:=.raw l::r
def I9(p:H)(l:J aa)(r:Ts):Ts:=cU p l.length (tL c7 l r)
def tW(p:H)(y:ai)(r:Ts):Ts:=cU p (pQ y).length (cR (pQ y) r)
def CI(p:H):qk->Ts->Ts
 |(a,ao),r=>cB 0 (cU p a r)
 |(a,N m),r=>cB 1 (cU p a (cU p m r))
def US(p:H)(i:aa):Tk:=bC (decide (i<0)) (.s i 1) (tS 33 p i)
def bH9(p c:H)(i:aa):Tk:=bC (jk (bX c 117) (bX c 97)) (tU p i.toNat) (bC (bX c 98) (US p i) (bC (bX c 114) (.s i 1) (tS (bC (bX c 105) 32 64) p i)))
def UT(p:H)(i:aa)(r:Ts):Ts:=cU p i.toNat r
def xG(p:H)(all:J aa):J H->J aa->Ts->Ts
 |[],X,r=>r
 |c::l,a,r=>bC (bX c 122) (cB 0 (xG p all l a r)) (bC (bX c 107) (I9 p all (xG p all l a r)) (bC (bX c 116) (cU p (all.length -1) (tL (UT p) all (xG p all l a r))) (bH9 p c (a.headD 0)::xG p all l a.tail r)))
def pR(p:H)(c:aa)(r:Ts):Ts:=bC (decide (c<64512)) (cB c.toNat r) (cB 252 (cU p (c -64512).toNat r))
def UU(p:H)(i:fj)(r:Ts):Ts:=pR p i.c (xG p i.a (oh i.c) i.a r)
def oO(p:H)(b:iR)(r:Ts):Ts:=tL (UU p) b r
def I_(p:H)(f:Fk)(r:Ts):Ts:=cB 96 (I9 p f.1 (I9 p f.2 r))
def E_(p:H)(t:i6)(r:Ts):Ts:=c7 t.k (CI p t.l r)
def N_(g:Gk)(r:Ts):Ts:=c7 g.k (cB g.m r)
def bI0(p:H):vZ->Ts->Ts
 | .f i,r=>cU p i r
 | .t t,r=>E_ p t r
 | .m l,r=>CI p l r
 | .g g,r=>N_ g r
def Ja(p:H)(i:fh)(r:Ts):Ts:=tW p i.p (tW p i.n (cB i.a.sort (bI0 p i.a r)))
abbrev l5:=H×aa
noncomputable def xH(r:l5):D:=.tup [.int r.1,.int r.2]
noncomputable def CJ(R:J l5)(k:aa):J l5:=match R with
 |[]=>[(1,k)]
 |r::R=>bC (decide (r.2=k)) ((r.1+1,k)::R) ((1,k)::r::R)
def qH(l:J aa):J l5:=(l.foldl CJ []).reverse
def tX(p:H)(l:J aa):J l5:=bC (bX p 0) (qH l) ((0,-2)::l.map λk=>(1,k))
def Fc(r:l5)(s:Ts):Ts:=cU 0 r.1 (c7 r.2 s)
def Jb(p:H)(l:J aa)(r:Ts):Ts:=cU p (tX p l).length (tL Fc (tX p l) r)
def tZ(p:H)(ts:Ts)(r:Ts):Ts:=cU p (c8 ts).length (.Zb ts::r)
def UW(p:H)(f:cW):Ts:=Jb p f.l (oO p f.b [])
def CK(p:H)(f:cW)(r:Ts):Ts:=tZ p (UW p f) r
def Jc(p:H)(g:iy)(r:Ts):Ts:=N_ g.g (oO p g.b r)
def Jd(p:H)(e:ju)(r:Ts):Ts:=tW p e.n (cB e.s (cU p e.i r))
noncomputable def nf:er->aD
 | .f X=>ak
 |X=>ah
def lM(e:dz):aD:=!decide (e.k=-16)||e.i.any nf
noncomputable def er.x:er->H
 | .f i=>i
 |X=>0
def CL(p:H)(B:aD)(e:dz)(r:Ts):Ts:=cU p e.i.length (bC B (tL (λi:er=>oO p (i.b e.k)) e.i r) (tL (λi:er=>cU p i.x) e.i r))
def Je(B:aD)(k:aa)(r:Ts):Ts:=bC B (c7 k r) (cB 0 r)
def FV(p:H)(B:aD)(e:dz)(r:Ts):Ts:=match e.m with
 | .p=>cU p (bC B 5 1) (Je B e.k (CL p B e r))
 | .d=>cU p (bC B 7 3) (Je B e.k (CL p B e r))
 | .a y b=>bC (bz (bX y 0) (bz (decide (e.k=-16)) (bX p 0))) (cU p (bC B 4 0) (oO p b (CL p B e r))) (cU p (bC B 6 2) (cU p y (oO p b (Je B e.k (CL p B e r)))))
def CM(p:H)(e:dz):Ts->Ts:=FV p (jk (lM e) (bX p 1)) e
def Jf(p:H)(e:eV)(r:Ts):Ts:=match e.o with
 |none=>cU p 1 (cU p e.c.length (cR e.c r))
 |some o=>bC (bz (bX o.1 0) (bX p 0)) (cU p 0 (oO p o.2 (cU p e.c.length (cR e.c r)))) (cU p 2 (cU p o.1 (oO p o.2 (cU p e.c.length (cR e.c r)))))
def q8{α:Type}(p:H)(t:α->Ts->Ts)(l:J α)(r:Ts):Ts:=cU p l.length (tL t l r)
def pH(p:H)(m:b6):H->Ts:=kB [] [[],q8 p (I_ p) m.k [],q8 p (Ja p) m.i [],q8 p (λf=>cU p f.k) m.f [],q8 p (E_ p) m.t [],q8 p (CI p) m.m [],q8 p (Jc p) m.g [],q8 p (Jd p) m.e [],cU p (m.s.getD 0) [],q8 p (CM p) m.l [],q8 p (CK p) m.f [],q8 p (Jf p) m.d [],cU p m.d.length []]
def mq(p:H)(m:b6)(n:H):aD:=jk (jI m n) (bz (k6 (bX p 0)) (k6 (jk (bX n 0) (bX n 8))))
def Oe(p:H)(m:b6)(n:H)(r:Ts):Ts:=bC (mq p m n) (cB n (tZ p (pH p m n) r)) r
def Jg(p:H)(c:dB)(r:Ts):Ts:=cB 0 (tZ p (tW p c.n (cR c.c [])) r)
def uT(p:H)(n:H)(cs:J dB)(r:Ts):Ts:=tL (λc r=>bC (bX c.b n) (Jg p c r) r) cs r
def AP(p:H)(m:b6)(n:H)(r:Ts):Ts:=Oe p m n (uT p n m.c r)
def AQ(p:H)(m:b6):Ts:=cR [0,97,115,109] (cR [1,0,0,0] (uT p 0 m.c (tL (AP p m) cV [])))
theorem FX:c8 []=[]:=rfl
noncomputable def fX(n:H):D:=.int n
theorem tY{i j:H}(h:∀m,m<j->cV[m]?≠N i):∀m,m<j->(cV.map fX)[m]?≠N (.int i):=λm hm e=>by
 rw[mD]at e
 cases q:cV[m]? with
 |none=>rw[q]at e;cases e
 |some p=>
  rw[q]at e
  injection fW e with e
  exact h m hm (q.trans (bR N (zU.mp e)))
section
open Wh (cu)
variable{w:bU}{bJ s:aE}{x:cu w bJ s}{n p:H}
theorem k8.con{l:J H}{i e:H}{ts:Ts}(h:k8 l i e (c8 ts)):yW [.cur ts] [cI l i e]:=.cons (.cur h.ie h.el h.r) .nil
@[elab_as_elim] theorem v7{ts:Ts}{P:J O->Prop}{o:J O}(c:yW [.cur ts] o)(h:∀l i e,k8 l i e (c8 ts)->P [cI l i e]):P o:=by obtain⟨l,i,e,rfl,h1,h2,h3⟩:=c.v7;exact h l i e ⟨h1,h2,h3⟩
inductive jr{α:Type}(ok:α->Prop)(t:α->Ts->Ts)(d:α->D):Tr
 |mk (a:α) (r:Ts) {k}:ok a->k (.d (d a)) [.cur r]->jr ok t d [.ref 0] [.cur (t a r)] k
theorem k9{q:Fn}{l:J (H×Tr)}{α:Type}{ok:α->Prop}{t:α->Ts->Ts}{d:α->D}(hd:AK (kF w.params) q ah)(hl:vY (aU x) n l)(h:∀a r k,ok a->k (.d (d a)) [.cur r]->lK q l [.ref 0] [.cur (t a r)] k):aQ (aU x) (n+1) q.a (jr ok t d):=
 fc x hd hl λargs o k g=>g.rec λa r X h1 h2=>h a r _ h1 h2
theorem bI1{α:Type}{ok:α->Prop}{t:α->Ts->Ts}{d:α->D}{a:aR}{T:Tr}(h:aQ (aU x) n a T)(g:∀y r l i e k,ok y->k8 l i e (c8 (t y r))->(∀j,k8 l j e (c8 r)->k (.d (d y)) [cI l j e])->T [.ref 0] [cI l i e] k):aQ (aU x) n a (jr ok t d):=
 h.cur.of λargs o k g'=>g'.rec λy r X hy S o1 c=>v7 c λl i e hb=>g y r l i e _ hy hb λj hj=>⟨_,hj.con,S⟩
noncomputable def dN(n:H):D:=.int n
def xJ:Tr:=jr (kC (α:=H)) cB dN
theorem yX:aQ (aU x) (n+2) qg xJ:=bI1 N6 λy r l i e k X hb S=>(λX I=>I l i e y (c8 r) hb (S _ hb.cons.2.2))
inductive UX:Tr
 |mk (b l ts) {k}:c8 ts=b::l->k (.d (.int (b:H))) [.cur ts]->UX [.ref 0] [.cur ts] k
theorem bI2:aQ (aU x) (n+1) GX UX:=D2.cur.of λX I u2 g=>g.rec λb r ts X e S o1 c=>v7 c λl i e' hb=>(λX I=>I l i e' b r (e▸hb) ⟨_,hb.con,S⟩)
inductive Fd:Tr
 |mk (a r) {k}:k (.d (.bytes a)) [.cur r]->Fd [.ref 0,.d (.int ((a:J H).length:H))] [.cur (cR a r)] k
theorem Of:aQ (aU x) (n+2) BL Fd:=bG5.cur.of λX I u2 g=>g.rec λa r X S o1 c=>v7 c λl i e hb=>(λX I=>I l i e a (c8 r) hb ⟨_,hb.app.2.2.con,S⟩)
inductive Og:Tr
 |mk (ts) {k}:k (.d (.int ((c8 ts).length:H))) [.cur ts]->Og [.ref 0] [.cur ts] k
theorem Gc:aQ (aU x) (n+1) BK Og:=UO.cur.of λX I u2 g=>g.rec λts k S o1 c=>v7 c λl i e hb=>(λX I=>I l i e ⟨_,hb.con,by have h:=hb.len;rw[<-h,Dz,Kv,uh];exact S⟩)
inductive Oh:Tr
 |mk (ts) {k}:k (.d (.bool (f9 (c8 ts)))) [.cur ts]->Oh [.ref 0] [.cur ts] k
theorem GE:aQ (aU x) (n+1) GW Oh:=bG2.cur.of λX I u2 g=>g.rec λts k S o1 c=>v7 c λl i e hb=>(λX I=>I l i e ⟨_,hb.con,by
 have h:=hb.len;have e1:decide ((e:aa)<=i)=f9 (c8 ts):=by
  generalize c8 ts=u at h
  induction u using eT with
  |nil=>exact nL (iz.mpr (iW h.symm))
  |cons a r=>exact kq (Gp.mpr (dF.mpr (h▸xW (jd _))))
 rw[e1];exact S⟩)
inductive Oi:Tr
 |mk (t r ts) {k}:c8 ts=c8 t++c8 r->k (.ref 1) [.cur r,.cur t]->Oi [.ref 0,.d (.int ((c8 t).length:H))] [.cur ts] k
theorem GM:aQ (aU x) (n+3) GY Oi:=bG8.cur.of λX I u2 g=>g.rec λt r ts k e S o1 c=>v7 c λl i e' hb=>by
 rw[e]at hb
 have hx:=hb.app;have g1:=hx.1;have g2:=hx.2.1;have g3:=hx.2.2;refine(λX I=>I l i e' (c8 t) (c8 r) hb ⟨[.cur r,.cur t],?_,S⟩);cases g3.con with
 |cons c1 X=>exact .cons c1 (k8.con ⟨gF ..,bN g1 hb.el,g2⟩)
inductive UY:Tr
 |mk (ts) {k}:k (.ref 0) [.cur ts]->UY [.d (.bytes (c8 ts))] [] k
theorem bI3:aQ (aU x) (n+2) qf UY:=EQ.cur.of λX I u2 g=>g.rec λts k S o1 c=>by cases c;exact .a (c8 ts) ⟨_,k8.con ⟨qw _,jO _,cx2⟩,S⟩
theorem Oj:∀(k n:H),n<128^(k+1)->∃j,nG n=j+1/\j<=k/\n<128^(j+1)
 |k,n,h=>by
  rw[E3];by_cases q:n<128
  ·exact⟨0,dM q,qw _,q⟩
  ·rw[cF q]
   match k,h with
   |0,h=>exact absurd h q
   |k+1,h=>
    refine b_ (Oj k (n/128) (ai9 (by rw[QA];exact h))) λj hx=>?_
    have h1:=hx.1;have h2:=hx.2.1;have h3:=hx.2.2;exact⟨j+1,by rw[h1],lB h2,by rw[KN];exact(Nat.div_lt_iff_lt_mul (by decide)).mp h3⟩
theorem bI4(p:H){n:H}(h:cY n):∃j,(tU p n).oct=tG n (j+1)/\j<5/\n<128^(j+1):=by
 refine b_ (Oj 4 n (mE h (by decide))) λj hx=>?_
 have h1:=hx.1;have h2:=hx.2.1;have h3:=hx.2.2;have e:j+1+p=j+p+1:=xX j 1 p;refine⟨min 4 (j+p),?_,ap8 (DB _ _),oX h3 (ap3 (by decide) (lB (ap9.mpr ⟨h2,gF _ _⟩)))⟩
 show tG n (min 5 (nG n+p))=_
 rw[h1,e];exact bR (tG n) (cB1 (x:=4) (y:=j+p))
theorem GT{l:J H}{i e:H}{a:J H}{r:Ts}{t:Tk}(h:k8 l i e (c8 (t::r)))(e':t.oct=a):k8 l i e (a++c8 r):=e'▸h
def G'(p:H):Tr:=λargs o k=>∃a:J V,args=a++[.d (.int 32)]/\jr cY (cU p) dN a o k
theorem bI5:aQ (aU x) (n+3) Lo (G' p):=bH0.cur.of λargs o k ⟨a,e,g⟩=>by
 subst e;exact g.rec λy r k hy S o1 c=>v7 c λl i e hb=>by
  obtain⟨j,h1,h2,h3⟩:=bI4 p hy;have hb:=GT hb h1;have e0:=bH2 j 0 y 0 h3;rw[aq0,cB2,Ga]at e0
  refine(λX I=>I l i e 32 (tG y (j+1)) (c8 r) trivial (bH4 j 0 y (by rw[mW];exact h2) (by rw[aq0,cB2];exact hy)) hb ⟨_,hb.app.2.2.con,?_⟩)
  show k (.d (.int (CG 0 ((7*0:H):aa) _))) _
  rw[e0];exact S
def mS(p:H):Tr:=jr cY (cU p) dN
theorem oQ:aQ (aU x) (n+4) mG (mS p):=k9 (q:=bp0) (l:=[(Lo,G' p)]) (by kernel_rfl) ⟨bI5,cH2⟩ λa r k h S=>⟨[.ref 0],rfl,a,r,h,S⟩
theorem Jh(i:aa):∀k,-(64*128^k)<=i->i<64*128^k->∃j,rX i=j+1/\j<=k/\-(64*128^j)<=i/\i<64*128^j:=by
 intro k;induction k generalizing i with
 |zero=>exact λh g=>⟨0,by rw[E5,dM (E4.mpr ⟨h,g⟩)],jO _,h,g⟩
 |succ k ih=>
  intro h g;rw[E5];by_cases q:xC i=ah
  ·have:=E4.mp q;exact⟨0,dM q,qw _,this⟩
  ·rw[cF q];have e:∀j,(64:aa)*128^j*128=64*128^(j+1):=λj=>(ap7 ..).trans (bR (64*·) (X3 ..).symm);have d:=UR (e k) h g;refine b_ (ih (i/128) d.1 d.2) λj hx=>?_;exact⟨j+1,by rw[hx.1],lB hx.2.1,by rw[<-e,<-X_];exact(cA6 (by decide)).mp hx.2.2.1,by rw[<-e];exact(cA7 (by decide)).mp hx.2.2.2⟩
def Ji(b p:H):Tr:=λargs o k=>∃a:J V,args=a++[.d (.int b)]/\jr (ql b) (λi r=>tS b p i::r) .int a o k
theorem bI6{b K ms p j:H}(g1:ms=j+1)(g2:j<=K -1)(hK:7*K<=b+6)(k1:1<=K):∃m,min K (ms+p)=m+1/\j<=m/\7*m+1<=b:=by have hj:j+1<=K:=Nat.add_le_of_le_sub k1 g2;have l:j+1<=min K (ms+p):=ap9.mpr ⟨hj,g1▸gF _ _⟩;obtain⟨m,e⟩:=Nat.exists_eq_add_of_le' (bN (lB (qw j)) l);exact⟨m,e,Km (bN l (iW e)),Nat.le_of_add_le_add_right (b:=6) (bN (zV 7 (e▸DB _ _:m+1<=K)) hK)⟩
theorem bI7{j m:H}{y:aa}(e:j<=m)(g3:-(64*128^j)<=y)(g4:y<64*128^j):-(64*128^m)<=y/\y<64*128^m:=by
 have pw:(64:aa)*128^j<=64*128^m:=by have:=iz.mpr (zV 64 (ap3 (n:=128) (by decide) e));rw[KL,KL,Gn,Gn]at this;exact this
 exact⟨jj (Qd pw) g3,Bo g4 pw⟩
theorem mle{K q m:H}(e:min K q=m+1)(k1:1<=K)(h:7*(K -1+1)<=100000):(0:aa)+7*((m:aa)+1)<=100000:=by have:7*(m+1)<=100000:=bN (zV 7 (e▸DB K q)) (cB3 k1▸h);exact(Ga _).symm▸iz.mpr this
theorem Ol{b:H}(hb:Fs (b+1))(h1:7*((b+7)/7)<=b+7)(hp:∀i,ql (b+1) i->-(64*128^((b+7)/7 -1))<=i/\i<64*128^((b+7)/7 -1))(h0:1<=(b+7)/7)(h2:7*((b+7)/7 -1+1)<=100000):aQ (aU x) (n+3) BN (Ji (b+1) p):=bH1.cur.of λargs o k ⟨a,e,g⟩=>by
 subst e;exact g.rec λy r k hy S o1 c=>v7 c λl i e hbf=>by
  refine b_ (Jh y _ (hp y hy).1 (hp y hy).2) λj hx=>?_;have g1:=hx.1;have g2:=hx.2.1;have g3:=hx.2.2.1;have g4:=hx.2.2.2;refine b_ (bI6 (b:=b+1) (p:=p) g1 g2 h1 h0) λm hx=>?_;have e1:=hx.1;have e2:=hx.2.1;have e3:=hx.2.2;have pf:=bI7 e2 g3 g4;have Ha:=GT (a:=ny y (m+1)) hbf (bR (ny y) e1);have e0:=bH7 m 0 y 0 pf.1 pf.2;have ok:=bH8 m b y 0 (zW _) (mle e1 h0 h2) (Km e3) hy.1 hy.2;rw[Ga]at ok
  refine(λX I=>I l i e ((b+1:H):aa) (ny y (m+1)) (c8 r) hb ok Ha ⟨_,Ha.app.2.2.con,?_⟩)
  show k (.d (.int (AO 0 ((7*0:H):aa) _))) _
  rw[e0,aq0,Ga]
  show k (.d (.int (y*1))) _
  rw[am1];exact S
def CN(b p:H):Tr:=jr (ql b) (λi r=>tS b p i::r) .int
theorem bI8:aQ (aU x) (n+4) GZ (CN 7 p):=k9 (q:=bp1) (l:=[(BN,Ji 7 p)]) (by kernel_rfl) ⟨Ol (.head _) (by decide) (λi h=>h) (by decide) (by decide),cH2⟩ λa r k h S=>⟨[.ref 0],rfl,a,r,h,S⟩
theorem bI9:aQ (aU x) (n+4) Ro (CN 32 p):=k9 (q:=bp2) (l:=[(BN,Ji 32 p)]) (by kernel_rfl) ⟨Ol (.tail _ (.head _)) (by decide) (λi h=>⟨jj (by decide) h.1,Bo h.2 (by decide)⟩) (by decide) (by decide),cH2⟩ λa r k h S=>⟨[.ref 0],rfl,a,r,h,S⟩
theorem bJ0:aQ (aU x) (n+4) Rp (CN 33 p):=k9 (q:=bp3) (l:=[(BN,Ji 33 p)]) (by kernel_rfl) ⟨Ol (.tail _ (.tail _ (.head _))) (by decide) (λi h=>⟨jj (by decide) h.1,Bo h.2 (by decide)⟩) (by decide) (by decide),cH2⟩ λa r k h S=>⟨[.ref 0],rfl,a,r,h,S⟩
theorem bJ1:aQ (aU x) (n+4) Rq (CN 64 p):=k9 (q:=bp4) (l:=[(BN,Ji 64 p)]) (by kernel_rfl) ⟨Ol (.tail _ (.tail _ (.tail _ (.head _)))) (by decide) (λi h=>⟨jj (by decide) h.1,Bo h.2 (by decide)⟩) (by decide) (by decide),cH2⟩ λa r k h S=>⟨[.ref 0],rfl,a,r,h,S⟩
end
section
open Wh (cu)
variable{w:bU}{bJ s:aE}{x:cu w bJ s}{n:H}
def yY(n:H):J H:=tG n (nG n)
def xK(i:aa):J H:=ny i (rX i)
theorem bJ2(n:H):∃k,nG n=k+1:=by
 rw[E3];by_cases h:n<128
 ·exact⟨0,dM h⟩
 ·exact⟨_,cF h⟩
theorem bJ3{n:H}(h:n<128):yY n=[n]:=by unfold yY;rw[E3,dM h];exact bR (·::[]) (zQ h)
theorem bJ4{n:H}(h:¬n<128):yY n=(n% 128+128)::yY (n/128):=by unfold yY;rw[E3,cF h];obtain⟨k,e⟩:=bJ2 (n/128);rw[e];rfl
theorem bJ5(i:aa):∃k,rX i=k+1:=by
 rw[E5];by_cases h:xC i=ah
 ·exact⟨0,dM h⟩
 ·exact⟨_,cF h⟩
theorem bJ6{i:aa}(h:xC i=ah):xK i=[(i% 128).toNat]:=by unfold xK;rw[E5,dM h];rfl
theorem bJ7{i:aa}(h:¬xC i=ah):xK i=((i% 128).toNat+128)::xK (i/128):=by unfold xK;rw[E5,cF h];obtain⟨k,e⟩:=bJ5 (i/128);rw[e];rfl
def gV(l:J H):Prop:=l.length<=1048576
theorem jF{a b:J H}(h:gV (a++b)):gV a:=bN (by rw[f6];exact gF ..) h
theorem Jj{a b:J H}{y:H}(h:gV (a++y::b)):a.length<1048576:=oX (by rw[f6];exact xW (jd _)) h
def gB(l:J H):J O:=[.inst qN [(bH,.ref 1)],.ba l]
inductive jv{α:Type}(ds:α->J D)(ok:α->Prop)(wr:α->J H->J H):Tr
 |mk (a:α) (l:J H) {k}:ok a->gV (wr a l)->k (.d .none) (gB (wr a l))->jv ds ok wr (.ref 0::(ds a).map .d) (gB l) k
section
variable{q:Fn}{l:J (H×Tr)}{α:Type}{ds:α->J D}{ok:α->Prop}
theorem jG{wr:α->J H->J H}(hd:AK (kF w.params) q ah)(hl:vY (aU x) n l)(h:∀a t k,ok a->gV (wr a t)->k (.d .none) (gB (wr a t))->lK q l (.ref 0::(ds a).map .d) (gB t) k):aQ (aU x) (n+1) q.a (jv ds ok wr):=
 fc x hd hl λargs o k g=>g.rec λa t X h1 h2 h3=>h a t _ h1 h2 h3
end
def bJ8:Tr:=λa_ o_ k_=>∀P_:Tr,(∀{k},k (.d .none) (gB [])->P_ [.ref 0] [.inst qN []] k)->P_ a_ o_ k_
theorem bJ9:aQ (aU x) (n+1) Zp bJ8:=fc x (q:=bp6) (l:=[]) (by kernel_rfl) trivial λX I u2 g=>g _ λh=>h
def AR:Tr:=λa_ o_ k_=>∀P_:Tr,(∀{k},k (.ref 0) (gB [])->P_ [] [] k)->P_ a_ o_ k_
theorem AR.mk{k}(f5:k (.ref 0) (gB [])):AR [] [] k:=λP_ c_=>c_ f5
theorem Om:aQ (aU x) (n+2) qN AR:=(CB x bJ9 (by kernel_rfl)).of λX I u2 g=>g _ λh=>(λX I=>I h)
noncomputable def w8(i:aa)(l:J H):J H:=l++[i.toNat]
def wU(i:aa)(l:J H):J H:=l++yY i.toNat
def wS(i:aa)(l:J H):J H:=l++xK i
def w7(i:aa)(l:J H):J H:=w8 (uc i 127) l
noncomputable def wR(r l:J H):J H:=l++r
def uU:Tr:=jv i1 (λi=>0<=i/\i<256) w8
theorem v8:aQ (aU x) (n+1) s8 uU:=jG (q:=bp7) (l:=[]) (by kernel_rfl) trivial λi l k h hf S=>⟨⟨h.1,h.2,Jj hf⟩,S⟩
def Oo:Tr:=jv (λr=>[.bytes r]) kC wR
theorem UZ:aQ (aU x) (n+1) G1 Oo:=jG (q:=bp8) (l:=[]) (by kernel_rfl) trivial λr l k h hf S=>⟨hf,S⟩
def mu:Tr:=jv i1 (0<=·) wU
theorem Hb(i:aa):0<=PV (uc i 127) 128/\PV (uc i 127) 128<256/\(PV (uc i 127) 128).toNat=(i% 128).toNat+128:=by
 have h:0<=i% 128/\i% 128<128:=⟨QE _ (by decide),ap5 _ (by decide)⟩
 have:∀y<128,y&&&128=0:=by decide
 have e:=this (i% 128).toNat ((XR h.1).mpr h.2);have g:PV (uc i 127) 128=i% 128+128:=by
  rw[Qy,bitOr_and,ap4 h.1 (by decide)]
  show i% 128+128 -(((i% 128).toNat&&&128:H):aa)=_
  rw[e];exact cs9 _
 rw[g];exact⟨Qz h.1 (by decide),cA8 h.2 128,Int.toNat_add h.1 (by decide)⟩
theorem Hc(x:aa):x.fdiv (2^(7:aa).toNat)=x/128:=QD x (b:=128) (by decide)
theorem He{a b l r:J H}{y:H}(e:a++y::b=l++r):a++[y]++b=l++r:=(jx ..).trans e
def Fe(i:aa):Fm:=[(aK,.L (N (.ref 0))),(bw,.L (N (.d (.int i))))]
theorem Hk{i j:aa}{t:J H}{a b:H}(h:i=j)(g:a=b):(⟨Fe i,gB (t++[a])⟩:St)=⟨Fe j,gB (t++[b])⟩:=h▸g▸rfl
theorem t6:aQ (aU x) (n+1) qh mu:=by
 refine jG (q:=bp9) (l:=[]) (by kernel_rfl) trivial λi l k h hf S=>?_
 obtain⟨i,rfl⟩:=Dr h
 conv=>whnf
 refine⟨λm Z=>∃t,t++yY m=l++yY i/\Z=⟨Fe m,gB t⟩,i,⟨l,rfl,rfl⟩,?_⟩
 rintro m Z ⟨t,e,rfl⟩
 conv=>whnf
 by_cases q:m<128
 ·rw[bJ3 q]at e
  refine jc (kq (Gp.mpr (dF.mpr q))) ?_;exact⟨⟨nn,sN (dF.mpr q) (by decide),Jj (e▸hf:gV (t++[m]))⟩,(e▸S:k _ (gB (t++[m])))⟩
 ·rw[bJ4 q]at e
  obtain⟨h1,h2,h3⟩:=Hb m;refine AL (nL (iz.mpr (Qt q))) ?_;exact⟨⟨h1,h2,Jj ((bR gV e).mpr hf)⟩,by decide,m/128,ap2 (oX (by decide) (Qt q)) (by decide),_,He e,Hk (Hc m) h3⟩
def U0:Tr:=jv i1 kC wS
theorem U1(i:aa):0<=uc i 127/\uc i 127<256:=by rw[Qy];exact⟨QE _ (by decide),sN (ap5 _ (by decide)) (by decide)⟩
theorem Hm:aQ (aU x) (n+1) Lq U0:=by
 refine jG (q:=bq0) (l:=[]) (by kernel_rfl) trivial λtV l k h hf S=>?_
 conv=>whnf
 refine⟨λm Z=>∃(j:aa)(t:J H),t++xK j=l++xK tV/\j.natAbs=m/\Z=⟨Fe j,gB t⟩,_,⟨tV,l,rfl,rfl,rfl⟩,?_⟩
 rintro _ Z ⟨i,t,e,rfl,rfl⟩
 have body:¬xC i=ah->∀K,(vc ⟨dP,d_ []⟩ 39).s uk ⟨Fe i,gB t⟩ (ZY [] 2 (λm Z=>∃(j:aa)(t:J H),t++xK j=l++xK tV/\j.natAbs=m/\Z=⟨Fe j,gB t⟩) i.natAbs K):=λq K=>by
  rw[bJ7 q]at e
  have hx:=Hb i;have h1:=hx.1;have h2:=hx.2.1;have h3:=hx.2.2;exact⟨⟨h1,h2,Jj ((bR gV e).mpr hf)⟩,by decide,_,y7 (zM.mpr q),i/128,_,He e,rfl,Hk (Hc i) h3⟩
 conv=>whnf
 by_cases q1:-64<=i
 ·refine AL (nL q1) ?_
  conv=>whnf
  by_cases q2:i<64
  ·rw[bJ6 (E4.mpr ⟨q1,q2⟩)]at e
   refine jc (by rw[nL q2];rfl) ?_
   have g:[(i% 128).toNat]=[(uc i 127).toNat]:=by rw[Qy]
   rw[g]at e
   exact⟨⟨(U1 i).1,(U1 i).2,Jj ((bR gV e).mpr hf)⟩,(e▸S:k _ (gB (t++_)))⟩
  ·refine AL (by rw[kq q2];rfl) ?_
   exact body (λz=>q2 (E4.mp z).2) _
 ·refine jc (kq q1) ?_;exact body (λz=>q1 (E4.mp z).1) _
theorem Ff:aQ (aU x) (n+2) Ak mu:=jG (q:=bq1) (l:=[(qh,mu)]) (by kernel_rfl) ⟨t6,cH2⟩ λi l k h hf S=>⟨i,l,h,hf,S⟩
def Hn:Tr:=n7 s1 kQ λy=>.d (.bytes (pQ y))
theorem bK0:aQ (aU x) (n+1) Lr Hn:=k7 (q:=bq4) (l:=[]) (by kernel_rfl) trivial λy k h=>eW h
 ⟨λS=>⟨by decide,⟨by decide,by decide,by decide⟩,S⟩,λS=>⟨by decide,S⟩,λS=>⟨by decide,by decide,[195,169],by kernel_rfl,by decide,by decide,⟨by decide,by decide,by decide⟩,S⟩,
 λS=>⟨by decide,by decide,by decide,[226,130,172],by kernel_rfl,by decide,by decide,S⟩,λS=>⟨by decide,by decide,by decide,by decide,[240,144,141,136],by kernel_rfl,by decide,by decide,S⟩,cH2⟩
def wN(y:ai)(l:J H):J H:=wR (pQ y) (wU ((pQ y).length:H) l)
def Oq:Tr:=jv s1 kQ wN
theorem U3:aQ (aU x) (n+2) G2 Oq:=jG (q:=bq2) (l:=[(Lr,Hn),(qh,mu)]) (by kernel_rfl) ⟨bK0,t6,cH2⟩ λy l k h hf S=>⟨y,h,_,l,nn,jF hf,hf,S⟩
def wZ(r l:J H):J H:=wR r (wU (r.length:H) l)
def yZ:Tr:=λa_ o_ k_=>∀P_:Tr,(∀(r l){k},gV (wZ r l)->k (.d .none) (gB (wZ r l)++[.inst qN [(bH,.ref 3)],.ba r])->P_ [.ref 0,.ref 2] (gB l++[.inst qN [(bH,.ref 3)],.ba r]) k)->P_ a_ o_ k_
theorem yZ.mk(r l){k}(f5:gV (wZ r l))(lg:k (.d .none) (gB (wZ r l)++[.inst qN [(bH,.ref 3)],.ba r])):yZ [.ref 0,.ref 2] (gB l++[.inst qN [(bH,.ref 3)],.ba r]) k:=λP_ c_=>c_ r l f5 lg
theorem U4:aQ (aU x) (n+2) G3 yZ:=fc x (q:=bq3) (l:=[(qh,mu)]) (by kernel_rfl) ⟨t6,cH2⟩ λX I u2 g=>g _ λr l X hf S=>⟨_,l,nn,jF hf,hf,S⟩
def AS:Tr:=jv i1 kC w7
theorem CO:aQ (aU x) (n+2) w4 AS:=jG (q:=bt4) (l:=[(s8,uU)]) (by kernel_rfl) ⟨v8,cH2⟩ λi l k h hf S=>⟨_,l,U1 i,hf,S⟩
noncomputable def wL{α:Type}(w:α->J H->J H)(ys:J α)(l:J H):J H:=ys.foldl (λl a=>w a l) l
def jw(w:J H->J H):Prop:=∀l,gV (w l)->gV l
theorem pI{α:Type}{w:α->J H->J H}(m:∀a,jw (w a)):∀ys,jw (wL w ys):=λi_=>by
 induction i_ with
 |nil=>exact λX h=>h
 |cons y ys ih=>exact λl h=>m y l (ih _ h)
theorem Fg{α:Type}{f:α->D}{ok:α->Prop}{w:α->J H->J H}{M:Fm}{fg ts:J ai}{one:aD}{body:St->(dZ->St->Prop)->Prop}{K:dZ->St->Prop}(cn3:∀a,jw (w a))
  (gQ:∀a l next,ok a->gV (w a l)->next ⟨M,gB (w a l)⟩->jL ts one (.d (f a)) ⟨M,gB l⟩ λZ=>body Z (zY fg 2 next K)):∀ys l,(∀a∈ys,ok a)->gV (wL w ys l)->K .next ⟨M,gB (wL w ys l)⟩->gT fg ts one 2 body (ys.map f) ⟨M,gB l⟩ K:=λi_=>by
 induction i_ with
 |nil=>exact λX I u2 h=>h
 |cons y ys ih=>exact λl ho hf h=>gQ y l _ (ho y (.head _)) (pI cn3 ys _ hf) (ih _ (λa m=>ho a (.tail _ m)) hf h)
noncomputable def iK(l:J aa):J D:=[oH l]
def Bt(ks:J aa)(l:J H):J H:=wL w7 ks (wU ((ks.map D.int).length:H) l)
theorem uV{r:J H}:jw (wR r):=λX h=>jF h
theorem lq{i:aa}:jw (w8 i):=λX h=>jF h
theorem qq{i:aa}:jw (w7 i):=λX h=>jF h
theorem gJ{i:aa}:jw (wU i):=λX h=>jF h
theorem HI{i:aa}:jw (wS i):=λX h=>jF h
theorem CP{y:ai}:jw (wN y):=λX h=>jF (jF h)
theorem Fi{ks:J aa}:jw (Bt ks):=λX h=>jF (pI (λX=>qq) ks _ h)
def U5:Tr:=jv iK kC Bt
theorem H0:aQ (aU x) (n+3) G6 U5:=jG (q:=bt5) (l:=[(Ak,mu),(w4,AS)]) (by kernel_rfl) ⟨Ff,CO,cH2⟩ λks l k h hf S=>⟨_,l,nn,pI (λX=>qq) ks _ hf,Fg (ok:=kC) (λX=>qq) (by exact λi l X h hf hn=>⟨i,l,h,hf,hn⟩) ks _ (λX I=>trivial) hf S⟩
def y9:qk->J H->J H
 |(a,ao),l=>wU a (w8 0 l)
 |(a,N m),l=>wU m (wU a (w8 1 l))
theorem CQ:∀{a:qk},jw (y9 a)
 |(X,ao),I,h=>jF (jF h)
 |(X,N I),u2,h=>jF (jF (jF h))
def U6:Tr:=jv (λl:qk=>[.int l.1,jq l.2]) tP y9
theorem H1:aQ (aU x) (n+2) G7 U6:=jG (q:=bt6) (l:=[(s8,uU),(qh,mu)]) (by kernel_rfl) ⟨v8,t6,cH2⟩ λ
 |(a,ao),l,k,h,hf,S=>⟨0,l,by decide,jF hf,(a:aa),_,nn,hf,S⟩
 |(a,N m),l,k,h,hf,S=>⟨1,l,by decide,jF (jF hf),(a:aa),_,nn,jF hf,(m:aa),_,nn,hf,S⟩
def Fj(f:J aa×J aa)(l:J H):J H:=Bt f.2 (Bt f.1 (w8 96 l))
def H3:Tr:=jv (λf=>[mP f]) kC Fj
theorem bK1:aQ (aU x) (n+4) D9 H3:=jG (q:=bt7) (l:=[(s8,uU),(G6,U5)]) (by kernel_rfl) ⟨v8,H0,cH2⟩ λf l k h hf S=>⟨96,l,by decide,Fi _ (Fi _ hf),f.1,_,cH2,Fi _ hf,f.2,_,cH2,hf,S⟩
theorem bK2{f}:jw (Fj f):=λX h=>jF (Fi _ (Fi _ h))
def CR(t:i6)(l:J H):J H:=y9 t.l (w7 t.k l)
theorem Jk{t}:jw (CR t):=λX h=>jF (CQ _ h)
def U7:Tr:=jv (λt:i6=>[t.d]) i6.ok CR
theorem H4:aQ (aU x) (n+3) BO U7:=jG (q:=bt8) (l:=[(w4,AS),(G7,U6)]) (by kernel_rfl) ⟨CO,H1,cH2⟩ λt l k h hf S=>⟨t.k,l,cH2,CQ _ hf,t.l,_,h.2,hf,S⟩
def U8:Tr:=jv (λl:qk=>[nE l]) tP y9
theorem H5:aQ (aU x) (n+3) BQ U8:=jG (q:=bt9) (l:=[(G7,U6)]) (by kernel_rfl) ⟨H1,cH2⟩ λa l k h hf S=>⟨a,l,h,hf,S⟩
def Jl(g:Gk)(l:J H):J H:=w8 g.m (w7 g.k l)
theorem Jm{g}:jw (Jl g):=λX h=>jF (jF h)
def U9:Tr:=jv (λg:Gk=>[g.d]) Gk.ok Jl
theorem bK3{g:Gk}(h:g.ok):0<=(g.m:aa)/\(g.m:aa)<256:=eW (P:=λm:H=>0<=(m:aa)/\(m:aa)<256) h.2 ⟨by decide,by decide,cH2⟩
theorem H':aQ (aU x) (n+3) G8 U9:=jG (q:=bu0) (l:=[(w4,AS),(s8,uU)]) (by kernel_rfl) ⟨CO,v8,cH2⟩ λg l k h hf S=>⟨g.k,l,cH2,jF hf,(g.m:aa),_,bK3 h,hf,S⟩
noncomputable def U_:J (aa×aa×D×D):=[(69,69,.tup [.int (-1)],.tup [.int (-1)]),(70,79,.tup [.int (-1),.int (-1)],.tup [.int (-1)]),(80,80,.tup [.int (-2)],.tup [.int (-1)]),(81,90,.tup [.int (-2),.int (-2)],.tup [.int (-1)]),(103,105,.tup [.int (-1)],.tup [.int (-1)]),(106,120,.tup [.int (-1),.int (-1)],.tup [.int (-1)]),
 (121,123,.tup [.int (-2)],.tup [.int (-2)]),(124,138,.tup [.int (-2),.int (-2)],.tup [.int (-2)]),(167,167,.tup [.int (-2)],.tup [.int (-1)]),(172,173,.tup [.int (-1)],.tup [.int (-2)]),(192,193,.tup [.int (-1)],.tup [.int (-1)]),(194,196,.tup [.int (-2)],.tup [.int (-2)])]
noncomputable def Ix(r:aa×aa×D×D):D:=.tup [.int r.1,.int r.2.1,r.2.2.1,r.2.2.2]
noncomputable def Ot(c:aa):J (aa×aa×D×D)->D
 |[]=>.none
 |r::t=>bC (bz (decide (r.1<=c)) (decide (c<=r.2.1))) (.tup [r.2.2.1,r.2.2.2]) (Ot c t)
def Iy:Tr:=n7 i1 kC λc=>.d (Ot c U_)
theorem bK4{c:aa}{k:V->J O->Prop}:∀rs,k (.d (Ot c rs)) []->gT [fQ,f7,kW,oq] [fQ,f7,kW,oq] ak 0 ((vc ⟨dP,d_ []⟩ 39).s un) (rs.map Ix) ⟨[(d8,.L (N (.d (.int c)))),(fQ,.L ao),(f7,.L ao),(kW,.L ao),(oq,.L ao)],[]⟩
  (yG (l8 ⟨dP,d_ []⟩ (vc ⟨dP,d_ []⟩ 39) [.ret .cN]) (mK 0 k)):=λi_=>by
 induction i_ with
 |nil=>exact λh=>h
 |cons r rs ih=>
  intro h
  show gT _ _ _ _ _ (Ix r::_) _ _
  conv=>whnf
  exact Uw (P:=λd=>k (.d d) []) h (λh=>h) (ih) (ih)
theorem bK5:aQ (aU x) (n+1) Ly Iy:=k7 (q:=br2) (l:=[]) (by kernel_rfl) trivial λc k X S=>by
 conv=>whnf
 exact bK4 U_ S
noncomputable def bK6:bq (ai×V)->J (aa×D)
 |some (X,.nO es)=>es
 |X=>[]
def Fl(i:H):J (aa×D):=bK6 (uI dP i)
def IH(c:aa):D:=bC (jk (yD (qR c (Fl 12))) (yD (qR c (Fl 13)))) (.str D0) (bC (Ot c U_).o8 .none (.str qe))
def Ou(c:aa):D:=(qR c (Fl 11)).getD (IH c)
def U'(c:aa):V:=.d (Ou c)
def Ov:Tr:=n7 (λp:aa×V=>i1 p.1) (λp=>U' p.1=p.2) λp=>p.2
theorem Va:aQ (aU x) (n+2) D7 Ov:=by
 refine k7 (q:=br4) (l:=[(Ly,Iy)]) (by kernel_rfl) ⟨bK5,cH2⟩ λp k e S=>?_
 have h:∀o,qR p.1 (Fl 11)=o->k (.d (o.getD (IH p.1))) []:=λo h=>by rw[<-h];exact(bR (k · []) e).mpr S
 conv=>whnf
 refine gZ (λq=>?_) λq=>?_
 ·cases e:qR p.1 (Fl 11)with
  |none=>exact absurd ((bR yD e).symm.trans q) gr
  |some v=>exact⟨_,e,h _ e⟩
 ·have h:=h ao (by cases e:qR p.1 (Fl 11)with|none=>rfl|some v=>exact absurd ((bR yD e).symm.trans q) gr)
  exact bD4 (P:=λd=>k (.d d) []) h (λh=>h) (λh=>h) λh=>⟨(p.1:aa),cH2,qY (P:=λd=>k (.d d) []) h (λX h=>h) λX h=>h⟩
def IN:J (J H×J ai):=[([98],[Ae]),([105],[DV]),([108],[DW]),([114],[D4]),([107],[DX]),([116],[DZ]),([122],[BG]),([117,122],[D3]),([122,122],[BH]),([],[qe]),([117],[DY,BD,BF,DU,ym,GS,GU]),([117,117],[BE,D6,D5]),([97,117],[D0])]
def Vb(l:J H):J (J H×J ai)->J ai
 |[]=>[]
 |p::r=>bC (DN l p.1) p.2 (Vb l r)
structure LF(f:ai)(l:J H)(a:J aa):Prop where
 m:f∈Vb l IN
 a:j5 l a
noncomputable def dS:D->ai
 | .str y=>y
 |X=>⟨#[]⟩
noncomputable def QU:D->aD
 | .str X=>ah
 |X=>ak
theorem IR{d:D}(h:QU d=ah):d=.str (dS d):=by cases d<;>first|rfl|exact gr h
noncomputable def KX(c:aa):aD:=bz (decide (0<=c)) (bz (decide (c<65536)) (jk (decide (c<256)) (decide (64512<=c))))
def bK7(c:aa):aD:=bz (QU (Ou c)) (bz (qO (dS (Ou c)) (Vb (oh c) IN)) (KX c))
theorem bK8:kP bK7 qG=ah:=by kernel_rfl
structure bK9(i:fj)(f:ai):Prop where
 e:U' i.c=.d (.str f)
 a:LF f (oh i.c) i.a
 c:KX i.c=ah
theorem I'{i:fj}(h:i.mQ):∃f,bK9 i f:=by
 cases h with
 |i h=>have g:=lE bK8 _ h.c;exact⟨_,bR V.d (IR (ck g)),⟨T7 (ck (bf g)),h.a⟩,bf (bf g)⟩
 |e=>exact⟨qe,by kernel_rfl,⟨.head _,.o⟩,by decide⟩
 |l=>exact⟨qe,by kernel_rfl,⟨.head _,.o⟩,by decide⟩
def Vc(i:aa)(t:J H):J H:=bC (decide (i<0)) (w7 i t) (wS i t)
def Wk(k:V->J O->Prop)(t:J H):Prop:=gV t/\k (.d .none) (gB t)
def Jn:Tr:=jv i1 kC Vc
theorem bL0:aQ (aU x) (n+3) LG Jn:=jG (q:=bu4) (l:=[(w4,AS),(Lq,U0)]) (by kernel_rfl) ⟨CO,Hm,cH2⟩ λi l k X hf S=>by
 conv=>whnf
 exact qY (P:=Wk k) ⟨hf,S⟩ (λX h=>⟨i,l,cH2,h.1,h.2⟩) λX h=>⟨i,l,cH2,h.1,h.2⟩
def Ow(c:aa)(t:J H):J H:=bC (decide (c<64512)) (w8 c t) (wU (c -64512) (w8 252 t))
def Kb:Tr:=jv i1 (KX ·=ah) Ow
theorem bL1:aQ (aU x) (n+2) LH Kb:=jG (q:=bu5) (l:=[(s8,uU),(qh,mu)]) (by kernel_rfl) ⟨v8,t6,cH2⟩ λc l k h hf S=>by
 have h0:=gy (ck h)
 conv=>whnf
 refine qY (P:=Wk k) ⟨hf,S⟩ (λe h=>⟨c,l,⟨h0,?_⟩,h.1,h.2⟩) λe h=>⟨252,l,by decide,jF h.1,c -64512,_,?_,h.1,h.2⟩
 ·refine(Cu (bf (bf ‹KX c=ah›))).elim (λq=>gy q) λq=>absurd (Gg (gy q) (gy e)) (X0 _)
 ·exact QF (nN.mp (sJ e))
def Vd:Tr:=jv (λp:aD×J aa=>[bC p.1 (.tup (p.2.map .int)) (.list (p.2.map .int))]) (λp=>∀i∈p.2,0<=i) λp=>wL wU p.2
theorem Ki:aQ (aU x) (n+2) G9 Vd:=jG (q:=bu6) (l:=[(qh,mu)]) (by kernel_rfl) ⟨t6,cH2⟩ λp l k h hf S=>by obtain⟨b,p⟩:=p;cases b<;>exact Fg (ok:=(0<=·)) (λX=>gJ) (by exact λi l X h hf hn=>⟨i,l,h,hf,hn⟩) p l h hf S
def Ve(c:H)(i:aa)(t:J H):J H:=bC (jk (bX c 117) (bX c 97)) (wU i t) (bC (bX c 98) (Vc i t) (bC (bX c 114) (w7 i t) (wS i t)))
def rZ(all:J aa):J H->J aa->J H->J H
 |[],X,t=>t
 |c::l,a,t=>bC (bX c 122) (rZ all l a (w8 0 t)) (bC (bX c 107) (rZ all l a (Bt all t)) (bC (bX c 116) (rZ all l a (wL wU all (wU (((all.map D.int).length:H) -1:aa) t))) (rZ all l a.tail (Ve c (a.headD 0) t))))
theorem r7{A:aD}{f g:J H->J H}{t t':J H}(h:gV (bC A (f t) (g t')))(a:gV (f t)->gV t)(b:gV (g t')->gV t):gV t:=by cases A;exact b h;exact a h
theorem bL2{i:aa}:jw (Vc i):=λt h=>r7 h (qq t) (HI t)
theorem bL3{c:H}{i:aa}:jw (Ve c i):=λt h=>r7 h (gJ t) λh=>r7 h (bL2 t) λh=>r7 h (qq t) (HI t)
theorem Kj{all:J aa}:∀{l a},jw (rZ all l a):=@λi_=>by
 induction i_ with
 |nil=>exact@λX I h=>h
 |cons c l ih=>exact@λa t h=>r7 (f:=λt=>rZ all l a (w8 0 t)) h (λh=>lq t (ih _ h)) λh=>r7 (f:=λt=>rZ all l a (Bt all t)) h (λh=>Fi t (ih _ h)) λh=>r7 (f:=λt=>rZ all l a (wL wU all (wU _ t))) (g:=λt=>rZ all l a.tail (Ve c (a.headD 0) t)) h (λh=>gJ t (pI (λX=>gJ) _ _ (ih _ h))) λh=>bL3 t (ih _ h)
noncomputable def Kk:J (H×Tr):=[(LG,Jn),(Lq,U0),(w4,AS),(G6,U5),(Ak,mu),(G9,Vd),(s8,uU)]
def Kt:Tr:=jv (λp:ai×J H×J aa=>[.str p.1,.tup (p.2.2.map .int)]) (λp=>LF p.1 p.2.1 p.2.2) λp=>rZ p.2.2 p.2.1 p.2.2
theorem bL4{f:ai}{l:J H}{a:J aa}(h:LF f l a){t:J H}{k:V->J O->Prop}(hf:gV (rZ a l a t))(S:k (.d .none) (gB (rZ a l a t))):lK vi Kk [.ref 0,.d (.str f),.d (.tup (a.map .int))] (gB t) k:=by
 obtain⟨m,h⟩:=h;have z2:∀{i j:H},∀z∈[(i:aa),(j:aa)],0<=z:=gv.mpr ⟨nn,gv.mpr ⟨nn,nofun⟩⟩;have z1:∀{i:H},∀z∈[(i:aa)],0<=z:=gv.mpr ⟨nn,nofun⟩;cases h with
 |@b i h=>exact eW (m:f∈[Ae]) ⟨⟨i,t,cH2,hf,S⟩,cH2⟩
 |@i i h=>exact eW (m:f∈[DV]) ⟨⟨i,t,cH2,hf,S⟩,cH2⟩
 |@l i h=>exact eW (m:f∈[DW]) ⟨⟨i,t,cH2,hf,S⟩,cH2⟩
 |@r i h=>exact eW (m:f∈[D4]) ⟨⟨i,t,cH2,hf,S⟩,cH2⟩
 |k h g=>exact eW (m:f∈[DX]) ⟨⟨a,t,cH2,hf,S⟩,cH2⟩
 |@t i a h g=>exact eW (m:f∈[DZ]) ⟨⟨_,t,QF (iz.mpr (lB (qw _))),pI (λX=>gJ) _ _ hf,(ah,(i::a).map sL),_,cB4.mpr λX I=>nn,hf,S⟩,cH2⟩
 |z=>exact eW (m:f∈[BG]) ⟨⟨(ah,[]),t,nofun,jF hf,0,_,by decide,hf,S⟩,cH2⟩
 |@uz i h=>exact eW (m:f∈[D3]) ⟨⟨(ah,[(i:aa)]),t,z1,jF hf,0,_,by decide,hf,S⟩,cH2⟩
 |zz=>exact eW (m:f∈[BH]) ⟨⟨(ah,[]),t,nofun,jF (jF hf),0,_,by decide,jF hf,0,_,by decide,hf,S⟩,cH2⟩
 |o=>exact eW (m:f∈[qe]) ⟨⟨(ah,[]),t,nofun,hf,S⟩,cH2⟩
 |@u i h=>exact eW (m:f∈[DY,BD,BF,DU,ym,GS,GU]) ⟨⟨(ah,[(i:aa)]),t,z1,hf,S⟩,⟨(ah,[(i:aa)]),t,z1,hf,S⟩,⟨(ah,[(i:aa)]),t,z1,hf,S⟩,⟨(ah,[(i:aa)]),t,z1,hf,S⟩,⟨(ah,[(i:aa)]),t,z1,hf,S⟩,⟨(ah,[(i:aa)]),t,z1,hf,S⟩,⟨(ah,[(i:aa)]),t,z1,hf,S⟩,cH2⟩
 |@uu i j h g=>exact eW (m:f∈[BE,D6,D5]) ⟨⟨(ah,[(i:aa),(j:aa)]),t,z2,hf,S⟩,⟨(ah,[(i:aa),(j:aa)]),t,z2,hf,S⟩,⟨(ah,[(i:aa),(j:aa)]),t,z2,hf,S⟩,cH2⟩
 |@au i j h g=>exact eW (m:f∈[D0]) ⟨⟨(ah,[(i:aa),(j:aa)]),t,z2,hf,S⟩,cH2⟩
theorem bL5:aQ (aU x) (n+4) LI Kt:=jG (q:=vi) (l:=Kk) (by kernel_rfl) ⟨bL0,Hm,CO,H0,Ff,Ki,v8,cH2⟩ λp l k h hf S=>bL4 h hf S
def Ox(i:fj)(t:J H):J H:=rZ i.a (oh i.c) i.a (Ow i.c t)
theorem bL6{c:aa}:jw (Ow c):=λt h=>r7 h (lq t) λh=>lq t (gJ _ h)
theorem Kx{i:fj}:jw (Ox i):=λt h=>bL6 t (Kj _ h)
def KB:Tr:=jv (λi:fj=>[i.d]) fj.mQ Ox
theorem bL7:aQ (aU x) (n+5) LJ KB:=jG (q:=bu7) (l:=[(D7,Ov),(LH,Kb),(LI,Kt)]) (by kernel_rfl) ⟨Va,bL1,bL5,cH2⟩ λi l k h hf S=>(I' h).elim λf g=>⟨(i.c,V.d (D.str f)),g.e,i.c,l,g.c,Kj _ hf,⟨by decide,iz.mpr (lB (qw _))⟩,(f,oh i.c,i.a),_,g.a,hf,S⟩
def oR(b:iR)(t:J H):J H:=wL Ox b t
theorem mw{b:iR}:jw (oR b):=pI (λX=>Kx) b
def Jo:Tr:=jv (λb=>[gA b]) (∀i∈·,i.mQ) oR
theorem Oz:aQ (aU x) (n+6) BS Jo:=jG (q:=bu8) (l:=[(LJ,KB)]) (by kernel_rfl) ⟨bL7,cH2⟩ λb l k h hf S=>Fg (ok:=fj.mQ) (λX=>Kx) (by exact λi l X h hf hn=>⟨i,l,h,hf,hn⟩) b l h hf S
end
section
open Wh (cu)
variable{w:bU}{bJ s:aE}{x:cu w bJ s}{n p:H}
noncomputable def YE(n:H):D:=bC (nJ n 127) (.tup [.int 0,.int n,.int 0]) (bC (nJ n 223) (.tup [.int 1,.int (n% 32:H),.int 128]) (bC (nJ n 239) (.tup [.int 2,.int (n% 16:H),.int 2048]) (.tup [.int 3,.int (n% 8:H),.int 65536])))
def KF:Tr:=λa_ o_ k_=>∀P_:Tr,(∀(m:H)(i:aa){k},m∈[97,98,195,226,240]->k (.d (YE m)) []->P_ [.d (.int m),.d (.int i)] [] k)->P_ a_ o_ k_
theorem bL8:aQ (aU x) (n+1) Ls KF:=fc x (q:=ul) (l:=[]) (by kernel_rfl) trivial λX I u2 g=>g _ λm i k h=>eW (P:=λm:H=>k (.d (YE m)) []->lK ul [] [.d (.int m),.d (.int i)] [] k) h ⟨λh=>h,λh=>h,λh=>h,λh=>h,λh=>h,cH2⟩
def KM:Tr:=λa_ o_ k_=>∀P_:Tr,(∀(y:ai)(i:aa){k},kQ y->k (.d (.str y)) []->P_ [.d (.bytes (pQ y)),.d (.int i)] [] k)->P_ a_ o_ k_
def xM(l:J H)(b at_:aa)(sg:J D):St:=⟨[(bH,.L (N (.d (.bytes l)))),(sX,.L (N (.d (.int b)))),(cD,.L (N (.d (.int at_)))),(By,.L ao),(fQ,.L ao),(eB,.L ao),(j8,.L ao),(GQ,.L (N (.ref 0)))],[.dl sg]⟩
def I1(a:H)(A:St)(m:H)(Z:St):Prop:=∀b4:H->St->Prop,b4 a A->b4 m Z
def I2(a:H)(A:St)(b:H)(B:St)(m:H)(Z:St):Prop:=∀b4:H->St->Prop,b4 a A->b4 b B->b4 m Z
def I3(a:H)(A:St)(b:H)(B:St)(c:H)(C:St)(m:H)(Z:St):Prop:=∀b4:H->St->Prop,b4 a A->b4 b B->b4 c C->b4 m Z
@[elab_as_elim] theorem I1.e{b4:H->St->Prop}{a A m Z}(h:I1 a A m Z)(p:b4 a A):b4 m Z:=h b4 p
@[elab_as_elim] theorem I2.e{b4:H->St->Prop}{a A b B m Z}(h:I2 a A b B m Z)(p:b4 a A)(q:b4 b B):b4 m Z:=h b4 p q
@[elab_as_elim] theorem I3.e{b4:H->St->Prop}{a A b B c C m Z}(h:I3 a A b B c C m Z)(p:b4 a A)(q:b4 b B)(r:b4 c C):b4 m Z:=h b4 p q r
noncomputable def Fo(n:H):D:=.str (az [n])
theorem bL9:aQ (aU x) (n+2) Lu KM:=by
 refine Uv x (q:=bq5) (l:=[(Ls,KF)]) 296 (Wh.tu [.int 0 549]) (by kernel_rfl) (by kernel_rfl) (λargs b hb r F ws hv=>?_) ⟨bL8,cH2⟩ λX I u2 g=>g _ λy i k hy=>?_
 ·cases hv with
  |nil=>cases hb
  |cons v1 hv=>cases hv with
   |nil=>cases hb
   |cons v2 hv=>cases hv with
    |nil=>cases hb;exact⟨[(bH,_),(sX,_)],by kernel_rfl,by kernel_rfl,.cons v1 (.cons v2 .nil)⟩
    |cons X I=>cases hb
 ·refine eW hy ⟨λS=>?_,λS=>?_,λS=>?_,λS=>?_,λS=>?_,cH2⟩
  ·exact⟨I2 1 (xM [97] i 0 []) 0 (xM [97] i 1 [Fo 97]),1,λb4 a b=>a,λm Z h=>h.e
    ⟨by decide,by decide,oi rfl (λX I=>I 97 _ (.head _) ⟨by decide,by decide,by decide,0,by decide,λb4 a b=>b⟩)⟩
    ⟨by decide,S⟩⟩
  ·exact⟨I1 0 (xM [] i 0 []),0,λb4 a=>a,λm Z h=>h.e ⟨by decide,S⟩⟩
  ·exact⟨I3 2 (xM [195,169,98] i 0 []) 1 (xM [195,169,98] i 2 [Fo 233]) 0 (xM [195,169,98] i 3 [Fo 233,Fo 98]),2,λb4 a b c=>a,λm Z h=>h.e
    ⟨by decide,by decide,oi rfl (λX I=>I 195 _ (by decide) ⟨by decide,by decide,by decide,by decide,1,by decide,λb4 a b c=>b⟩)⟩
    ⟨by decide,by decide,oi rfl (λX I=>I 98 _ (by decide) ⟨by decide,by decide,by decide,0,by decide,λb4 a b c=>c⟩)⟩
    ⟨by decide,S⟩⟩
  ·exact⟨I2 1 (xM [226,130,172] i 0 []) 0 (xM [226,130,172] i 3 [Fo 8364]),1,λb4 a b=>a,λm Z h=>h.e
    ⟨by decide,by decide,oi rfl (λX I=>I 226 _ (by decide) ⟨by decide,by decide,by decide,by decide,by decide,0,by decide,λb4 a b=>b⟩)⟩
    ⟨by decide,S⟩⟩
  ·exact⟨I2 1 (xM [240,144,141,136] i 0 []) 0 (xM [240,144,141,136] i 4 [Fo 66376]),1,λb4 a b=>a,λm Z h=>h.e
    ⟨by decide,by decide,oi rfl (λX I=>I 240 _ (by decide) ⟨by decide,by decide,by decide,by decide,by decide,by decide,0,by decide,λb4 a b=>b⟩)⟩
    ⟨by decide,S⟩⟩
def OA(p:H):Tr:=jr kQ (tW p) .str
theorem bM0{y:ai}(h:kQ y):cY (pQ y).length:=(by decide:∀y∈names,(pQ y).length<4294967296) y h
theorem aw2{a b:H}:decide (((a+b:H):aa)<(a:aa))=ak:=kq (nN.mpr (iz.mpr (gF ..)))
theorem Vf:aQ (aU x) (n+5) G0 (OA p):=k9 (q:=bp5) (l:=[(mG,mS p),(BK,Og),(BL,Fd),(Lu,KM)]) (by kernel_rfl) ⟨oQ,Gc,Of,bL9,cH2⟩ λy r k h S=>by
 refine⟨_,cR (pQ y) r,bM0 h,_,?_⟩;have e:(c8 (cR (pQ y) r)).length=(pQ y).length+(c8 r).length:=f6;rw[e]
 conv=>whnf
 refine jc aw2 λat_=>⟨_,r,(λX I=>I y at_ h S)⟩
def v9:Tr:=λa_ o_ k_=>∀P_:Tr,(∀{k},k (.d .none) [.cur []]->P_ [.ref 0] [.cur []] k)->P_ a_ o_ k_
theorem v9.mk{k}(f5:k (.d .none) [.cur []]):v9 [.ref 0] [.cur []] k:=λP_ c_=>c_ f5
theorem KT:aQ (aU x) (n+2) G4 v9:=fc x (q:=bq7) (l:=[(GW,Oh)]) (by kernel_rfl) ⟨GE,cH2⟩ λX I u2 g=>g _ λS=>⟨[],S⟩
def K':Tr:=n7 (λp:aa×aa=>[.int p.1,.int p.2]) (λp=>pF p.1) λX=>.d .none
theorem bM1:aQ (aU x) (n+1) LS K':=k7 (q:=wf) (l:=[]) (by kernel_rfl) trivial λq k h S=>by obtain⟨i,j⟩:=q;exact eW (P:=λi=>lK wf [] [.d (.int i),.d (.int j)] [] k) h ⟨S,S,S,S,cH2⟩
theorem YF{i:aa}(h:pF i):ql 7 i:=(by decide:∀i∈[(-1:aa),-2,-16,-17],-2^6<=i/\i<2^6) i h
def Vg:Tr:=jr (ql 7) c7 .int
theorem bM2{i:aa}(h:ql 7 i):tS 7 0 i=.s i 1:=by
 show Tk.s i (min 1 (rX i+0))=_
 rw[E5,dM (E4.mpr h)];rfl
theorem L9:aQ (aU x) (n+4) GZ Vg:=(bI8 (p:=0)).of λX I u2 g=>g.rec λa r k h S=>by unfold c7;rw[<-bM2 h];exact⟨a,r,h,S⟩
def Vh:Tr:=λa_ o_ k_=>∀P_:Tr,(∀(why:ai)(i r){k},pF i->k (.d (.int i)) [.cur r]->P_ [.ref 0,.d (.str why)] [.cur (c7 i r)] k)->P_ a_ o_ k_
theorem Md:aQ (aU x) (n+5) Hg Vh:=fc x (q:=bw2) (l:=[(GZ,Vg),(LS,K')]) (by kernel_rfl) ⟨L9,bM1,cH2⟩ λX I u2 g=>g _ λwhy i r k h S at_=>by
 refine⟨i,r,YF h,(i,at_),h,?_⟩
 conv=>whnf
 refine jc ?_ S;exact eW (P:=λi:aa=>(!(decide (-1=i)||(decide (-2=i)||(decide (-16=i)||(decide (-17=i)||ak)))))=ak) h ⟨rfl,rfl,rfl,rfl,cH2⟩
def Vi:Tr:=jr pF c7 .int
theorem Vj:aQ (aU x) (n+6) Ei Vi:=k9 (q:=bw3) (l:=[(Hg,Vh)]) (by kernel_rfl) ⟨Md,cH2⟩ λi r k h S=>(λX I=>I _ i r h S)
def OB:Tr:=jr x8 c7 .int
theorem bM3{i:aa}(h:x8 i):pF i:=.tail _ (.tail _ h)
theorem Vk:aQ (aU x) (n+5) Ej OB:=k9 (q:=bw4) (l:=[(GZ,Vg)]) (by kernel_rfl) ⟨L9,cH2⟩ λi r k h S at_=>by
 refine⟨i,r,YF (bM3 h),?_⟩
 conv=>whnf
 refine jc ?_ S;exact eW (P:=λi:aa=>(!(decide (-16=i)||(decide (-17=i)||ak)))=ak) h ⟨rfl,rfl,cH2⟩
def Jp(p:H):Tr:=jr tP (CI p) nE
theorem Mo:aQ (aU x) (n+5) Hh (Jp p):=k9 (q:=bw6) (l:=[(mG,mS p),(qg,xJ)]) (by kernel_rfl) ⟨oQ,yX,cH2⟩ λ
 |(a,ao),r,k,h,S=>λat_=>⟨0,_,cH2,a,_,h.1,S⟩
 |(a,N m),r,k,h,S=>λat_=>⟨1,_,cH2,a,_,h.1,m,_,h.2 m rfl,S⟩
def M2(p:H):Tr:=jr i6.ok (E_ p) i6.d
theorem M':aQ (aU x) (n+6) Hi (M2 p):=k9 (q:=bw7) (l:=[(Ej,OB),(Hh,Jp p)]) (by kernel_rfl) ⟨Vk,Mo,cH2⟩ λt r k h S=>⟨t.k,_,h.1,t.l,r,h.2,S⟩
theorem No:aQ (aU x) (n+6) Hj (Jp p):=k9 (q:=bw8) (l:=[(Hh,Jp p)]) (by kernel_rfl) ⟨Mo,cH2⟩ λl r k h S=>⟨l,r,h,S⟩
def Vl:Tr:=jr Gk.ok N_ Gk.d
theorem Nw:aQ (aU x) (n+7) Hl Vl:=k9 (q:=bw9) (l:=[(Ei,Vi),(qg,xJ)]) (by kernel_rfl) ⟨Vj,yX,cH2⟩ λg r k h S=>by
 refine⟨g.k,_,h.1,λat_=>⟨g.m,r,cH2,?_⟩⟩
 conv=>whnf
 refine jc ?_ S;exact eW (P:=λm:H=>decide ((1:aa)<m)=ak) h.2 ⟨rfl,rfl,cH2⟩
def bM4(p:H):Tr:=jr ju.ok (Jd p) ju.d
theorem bM5:aQ (aU x) (n+6) LW (bM4 p):=k9 (q:=bx1) (l:=[(G0,OA p),(qg,xJ),(mG,mS p)]) (by kernel_rfl) ⟨Vf,yX,oQ,cH2⟩ λe r k h S=>by
 refine⟨e.n,_,h.1,λat_=>⟨e.s,_,cH2,?_⟩⟩
 conv=>whnf
 exact jc (kq (nN.mpr (iz.mpr (qD h.2.1)))) ⟨e.i,r,h.2.2,S⟩
theorem Vm:aQ (aU x) (n+5) Eh (mS p):=k9 (q:=bw1) (l:=[(mG,mS p)]) (by kernel_rfl) ⟨oQ,cH2⟩ λi r k h S=>⟨i,r,h,S⟩
def Fp(p:H):Tr:=λa_ o_ k_=>∀P_:Tr,(∀(y:ai)(c:J H){k},kQ y->k (.d (.tup [.str y,.bytes c])) [.cur []]->P_ [.ref 0] [.cur (tW p y (cR c []))] k)->P_ a_ o_ k_
theorem Fp.mk{p:H}(y:ai)(c:J H){k}(f5:kQ y)(lg:k (.d (.tup [.str y,.bytes c])) [.cur []]):Fp p [.ref 0] [.cur (tW p y (cR c []))] k:=λP_ c_=>c_ y c f5 lg
theorem bM6:aQ (aU x) (n+6) Lw (Fp p):=fc x (q:=bq8) (l:=[(G0,OA p),(BK,Og),(BL,Fd)]) (by kernel_rfl) ⟨Vf,Gc,Of,cH2⟩ λX I u2 g=>g _ λy c k h S=>by refine⟨y,_,h,_,?_⟩;have e:c8 (cR c [])=c:=j3 c;rw[e];exact⟨c,[],S⟩
inductive q9{α:Type}(p:H)(a:aR)(ok:α->Prop)(t:α->Ts->Ts)(d:α->D):Tr
 |mk {β:Type} (g:β->α) (ys:J β) (r:Ts) {k}:fO 1000 (λy=>ok (g y)) ys->k (.ref 1) [.cur r,.dl (ys.map λy=>d (g y))]->q9 p a ok t d [.ref 0,.d (.glob a)] [.cur (cU p ys.length (tL (λy=>t (g y)) ys r))] k
theorem bM7{L:J (H×Tr)}{a:H}{α β:Type}{ok:α->Prop}{t:α->Ts->Ts}{d:α->D}{g:β->α}(hL:wY a L=N (jr ok t d)){r:Ts}{K:dZ->St->Prop}:∀(ys:J β)(xs acc:J D),xs.length=ys.length->(∀y∈ys,ok (g y))->acc.length+ys.length<=1000->K .next ⟨[(bx,.L (N (.ref 0))),(fK,.L (N (.d (.glob a)))),(dQ,.L (N (.ref 1))),(rN,.L ao)],[.cur r,.dl (acc++ys.map λy=>d (g y))]⟩->
  gT [rN] [rN] ah 2 ((vc ⟨dP,d_ L⟩ 39).s wd) xs ⟨[(bx,.L (N (.ref 0))),(fK,.L (N (.d (.glob a)))),(dQ,.L (N (.ref 1))),(rN,.L ao)],[.cur (tL (λy=>t (g y)) ys r),.dl acc]⟩ K:=by
 intro ys;induction ys with
 |nil=>
  intro xs acc hl _ _ h;rw[Yc,j3]at h
  induction xs using eT with
  |nil=>exact h
  |cons X I=>cases hl
 |cons y ys ih=>
  intro xs acc hl ho hn h;induction xs using eT with
  |nil=>cases hl
  |cons z xs=>
   have next:=ih xs (acc++[d (g y)]) (zL hl) (λy h=>ho y (.tail _ h)) (by rw[f6,wB,rC _ ys.length];exact hn) (by rw[jx];exact h)
   conv=>whnf
   rw[hL];exact⟨g y,_,ho y (.head _),mE (oX (xW (jd _)) hn) (by decide),next⟩
theorem r8{a:H}{α:Type}{ok:α->Prop}{t:α->Ts->Ts}{d:α->D}(h:aQ (aU x) (n+4) a (jr ok t d))(ha:bX a mG=ak):aQ (aU x) (n+5) w5 (q9 p a ok t d):=by
 have hL:wY a [(mG,mS p),(a,jr ok t d)]=N (jr ok t d):=by unfold wY;rw[ha];unfold wY;rw[W0]
 refine fc x (q:=bw0) (l:=[(mG,mS p),(a,jr ok t d)]) (by kernel_rfl) ⟨oQ,h,cH2⟩ λX I u2 g=>g.rec λg ys r k ho S=>?_
 have hl:ys.length<4294967296:=eZ ho.1 (by decide)
 refine⟨ys.length,tL (λy=>t (g y)) ys r,hl,⟨jj (by decide) nn,iz.mpr (bN ho.1 (by decide))⟩,?_⟩
 exact bM7 hL ys _ [] (by rw[cO,Qv,sG]) ho.2 (by rw[Du,mW];exact ho.1) S
theorem fO.le{α:Type}{P:α->Prop}{l:J α}{a b:H}(h:fO a P l)(q:a<=b):fO b P l:=⟨bN h.1 q,h.2⟩
def NA(f:Fk):Prop:=rW f.1/\rW f.2
def bM8(p:H):Tr:=jr NA (I_ p) mP
def Vn(p:H):Tr:=q9 p Ei pF c7 .int
theorem NE:aQ (aU x) (n+7) w5 (Vn p):=r8 Vj (by decide)
theorem NM:aQ (aU x) (n+8) LU (bM8 p):=k9 (q:=bw5) (l:=[(qg,xJ),(w5,Vn p)]) (by kernel_rfl) ⟨yX,NE,cH2⟩ λf r k h S at_=>⟨96,_,cH2,id,f.1,_,h.1.le (by decide),id,f.2,r,h.2.le (by decide),S⟩
abbrev Lbl:=J H×H
def N0(p:H):Tr:=jr (λl:Lbl=>fO 1000 cY l.1/\cY l.2) (λl r=>cU p l.1.length (tL (cU p) l.1 (cU p l.2 r))) λl=>.tup (l.1.map dN++[dN l.2])
theorem bM9:aQ (aU x) (n+7) L3 (N0 p):=k9 (q:=bx5) (l:=[(mG,mS p),(w5,q9 p Eh cY (cU p) dN)]) (by kernel_rfl) ⟨oQ,r8 Vm (by decide),cH2⟩ λl r k h S=>⟨id,l.1,_,h.1,l.2,r,h.2,by rw[cO];exact eZ h.1.1 (by decide),S⟩
def N'(p:H):Tr:=jr (λq:H×H=>q.1<32/\cY q.2) (λq r=>cU p q.1 (cU p q.2 r)) λq=>.tup [dN q.1,dN q.2]
theorem bN0:aQ (aU x) (n+5) L1 (N' p):=k9 (q:=bx4) (l:=[(mG,mS p)]) (by kernel_rfl) ⟨oQ,cH2⟩ λq r k h S at_=>by
 refine⟨q.1,_,mE h.1 (by decide),?_⟩
 conv=>whnf
 exact jc (kq (nN.mpr (iz.mpr (qD h.1)))) ⟨q.2,r,h.2,S⟩
def On:Tr:=λa_ o_ k_=>∀P_:Tr,(∀(r){k},k (.d .none) [.cur r]->P_ [.ref 0] [.cur (cB 0 r)] k)->P_ a_ o_ k_
theorem bN1:aQ (aU x) (n+3) LZ On:=fc x (q:=bx3) (l:=[(qg,xJ)]) (by kernel_rfl) ⟨yX,cH2⟩ λX I u2 g=>g _ λr X S at_=>⟨0,r,cH2,S⟩
def Op:Tr:=λa_ o_ k_=>∀P_:Tr,(∀(b r ts){k},c8 ts=b::c8 r->k (.d (.int (b:H))) [.cur r]->P_ [.ref 0] [.cur ts] k)->P_ a_ o_ k_
theorem bN2:aQ (aU x) (n+2) qg Op:=N6.cur.of λX I u2 g=>g _ λb r ts k e S o1 c=>v7 c λl i e' hb=>(λX I=>I l i e' b (c8 r) (e▸hb) ⟨_,(e▸hb:k8 l i e' (b::c8 r)).cons.2.2.con,S⟩)
def Os(p:H):Tr:=jr E2 (λi r=>US p i::r) .int
theorem bN3{m:H}(h:cY m):ql 33 m:=⟨jj (by decide) nn,dF.mpr h⟩
theorem bN4:∀b<256,(b<64\/128<=b)->decide ((b&&&192:H)=64)=ak:=by decide
theorem bN5{a b:H}:uc (a:aa) (b:aa)=((a&&&b:H):aa):=ap4 nn nn
theorem bN6{m:H}(h:cY m)(r:Ts):∃b l,c8 (tS 33 p m::r)=b::l/\b<256/\(b<64\/128<=b):=by
 obtain⟨j,e,_,_,g⟩:=Jh m 4 (jj (by decide) nn) (sN (dF.mpr h) (by decide))
 have hs:∀q,((m:aa)% 128).toNat=q->q<128:=λq e=>e▸(xF m).2.2.2
 show∃b l,ny m (min 5 (rX m+p))++c8 r=b::l/\_
 rw[e];obtain⟨q,e2⟩:∃q,min 5 (j+1+p)=q+1:=⟨min 4 (j+p),by rw[xX];exact cB1 ..⟩
 rw[e2];induction q using ji with
 |zero=>
  have hj:j+1+p<=1:=qD (W_ λh=>absurd (e2▸ap9.mpr ⟨(by decide:2<=5),h⟩:2<=0+1) (by decide))
  have:j=0:=cB5.mp (bN (gF j p) (Km (bN (iW (xX j p 1)) hj)));subst this;exact⟨_,_,rfl,mE (hs _ rfl) (by decide),.inl (by rw[Yb nn (sN g (by decide)),sG];exact dF.mp g)⟩
 |succ q=>exact⟨_,_,rfl,Qx (hs _ rfl) 128,.inr (x6 ..)⟩
noncomputable def Oy(p:H):J (H×Tr):=[(GX,UX),(qg,Op),(Hg,Vh),(Rp,CN 33 p)]
theorem bN7:aQ (aU x) (n+6) LY (Os p):=k9 (q:=wi) (l:=Oy p) (by kernel_rfl) ⟨bI2,bN2,Md,bJ0,cH2⟩ λi r k h S=>by
 cases h with
 |e=>exact λat_=>⟨64,_,_,rfl,(λX I=>I 64 r _ rfl S)⟩
 |k h=>
  revert S
  exact eW (P:=λi=>k (.d (.int i)) [.cur r]->lK wi (Oy p) [.ref 0] [.cur (US p i::r)] k) h
   ⟨λS at_=>⟨127,_,_,rfl,⟨127,_,_,rfl,(λX I=>I _ (-1) r (.head _) S)⟩⟩,λS at_=>⟨126,_,_,rfl,⟨126,_,_,rfl,(λX I=>I _ (-2) r (.tail _ (.head _)) S)⟩⟩,λS at_=>⟨112,_,_,rfl,⟨112,_,_,rfl,(λX I=>I _ (-16) r (.tail _ (.tail _ (.head _))) S)⟩⟩,λS at_=>⟨111,_,_,rfl,⟨111,_,_,rfl,(λX I=>I _ (-17) r (.tail _ (.tail _ (.tail _ (.head _)))) S)⟩⟩,cH2⟩
 |@x m h=>
   intro at_;obtain⟨b,l,e,h1,h2⟩:=bN6 (p:=p) h r;have n64:decide ((b:aa)=64)=ak:=kq λe=>have e:b=64:=zU (n:=64)|>.mp e;h2.elim (λz=>sr z e) λz=>absurd z (by rw[e];decide)
   have bN8:decide (uc (b:aa) 192=64)=ak:=by
    have:=bN4 b h1 h2;rw[show(192:aa)=((192:H):aa)from rfl,bN5]
    exact kq λh=>sJ this (zU.mp h)
   refine⟨b,l,_,e,?_⟩
   conv=>whnf
   refine jc n64 ⟨b,l,_,e,?_⟩
   conv=>whnf
   exact jc bN8 ⟨(m:aa),r,bN3 h,S⟩
def OK(l:J H):J (J H)->aD
 |[]=>ak
 |a::r=>jk (DN l a) (OK l r)
def OC(l:J H):aD:=OK l [[98],[105],[108],[114],[],[117],[97,117]]
def Fq(p:H):Tr:=λa_ o_ k_=>∀P_:Tr,(∀(f l a r){k},LF f l a->OC l=ah->k (.d (.tup (a.map .int))) [.cur r]->P_ [.ref 0,.d (.str f)] [.cur (xG p a l a r)] k)->(∀(f l a ts){k},LF f l a->OC l=ak->k (.d .none) [.cur ts]->P_ [.ref 0,.d (.str f)] [.cur ts] k)->P_ a_ o_ k_
theorem Fq.a{p:H}(f l a r){k}(f5:LF f l a)(lg:OC l=ah)(t7:k (.d (.tup (a.map .int))) [.cur r]):Fq p [.ref 0,.d (.str f)] [.cur (xG p a l a r)] k:=λP_ c_ u_=>c_ f l a r f5 lg t7
theorem Fq.b{p:H}(f l a ts){k}(f5:LF f l a)(lg:OC l=ak)(t7:k (.d .none) [.cur ts]):Fq p [.ref 0,.d (.str f)] [.cur ts] k:=λP_ u_ c_=>c_ f l a ts f5 lg t7
noncomputable def bN9(p:H):J (H×Tr):=[(mG,mS p),(LY,Os p),(Ro,CN 32 p),(Rq,CN 64 p),(L1,N' p),(Ej,OB)]
theorem bO0:aQ (aU x) (n+7) L4 (Fq p):=fc x (q:=bx6) (l:=bN9 p) (by kernel_rfl) ⟨oQ,bN7,bI9,bJ1,bN0,Vk,cH2⟩ λX I u2 g=>g _
 (λf l a r k h e S=>by
  obtain⟨m,h⟩:=h;cases h with
  |@b i h=>exact eW (m:f∈[Ae]) ⟨⟨i,r,h,S⟩,cH2⟩
  |@i i h=>exact eW (m:f∈[DV]) ⟨⟨i,r,h,S⟩,cH2⟩
  |@l i h=>exact eW (m:f∈[DW]) ⟨⟨i,r,h,S⟩,cH2⟩
  |@r i h=>exact eW (m:f∈[D4]) ⟨⟨i,r,h,S⟩,cH2⟩
  |o=>exact eW (m:f∈[qe]) ⟨S,cH2⟩
  |@u i h=>exact eW (m:f∈[DY,BD,BF,DU,ym,GS,GU]) ⟨⟨i,r,h,S⟩,⟨i,r,h,S⟩,⟨i,r,h,S⟩,⟨i,r,h,S⟩,⟨i,r,h,S⟩,⟨i,r,h,S⟩,⟨i,r,h,S⟩,cH2⟩
  |@au i j h g=>exact eW (m:f∈[D0]) ⟨⟨(i,j),r,⟨h,g⟩,S⟩,cH2⟩
  |_=>cases e)
 λf l a ts k h e S=>by
  obtain⟨m,h⟩:=h;cases h with
  |k=>exact eW (m:f∈[DX]) ⟨S,cH2⟩
  |t=>exact eW (m:f∈[DZ]) ⟨S,cH2⟩
  |z=>exact eW (m:f∈[BG]) ⟨S,cH2⟩
  |uz=>exact eW (m:f∈[D3]) ⟨S,cH2⟩
  |zz=>exact eW (m:f∈[BH]) ⟨S,cH2⟩
  |uu=>exact eW (m:f∈[BE,D6,D5]) ⟨S,S,S,cH2⟩
  |_=>cases e
def Pi(p:H):Tr:=λa_ o_ k_=>∀P_:Tr,(∀(f l a r){k},LF f l a->k (.d (.tup (a.map .int))) [.cur r]->P_ [.ref 0,.d (.str f)] [.cur (xG p a l a r)] k)->P_ a_ o_ k_
noncomputable def bO1(p:H):J (H×Tr):=[(L4,Fq p),(mG,mS p),(L3,N0 p),(w5,Vn p),(LZ,On)]
theorem bO2:aQ (aU x) (n+8) L5 (Pi p):=fc x (q:=bx7) (l:=bO1 p) (by kernel_rfl) ⟨bO0,oQ,bM9,NE,bN1,cH2⟩ λX I u2 g=>g _ λf l a r k hf S=>by
 have m:=hf.m;cases hf.a with
 |b h=>exact .a f _ _ r hf rfl S
 |i h=>exact .a f _ _ r hf rfl S
 |l h=>exact .a f _ _ r hf rfl S
 |r h=>exact .a f _ _ r hf rfl S
 |o=>exact .a f _ _ r hf rfl S
 |u h=>exact .a f _ _ r hf rfl S
 |au h g=>exact .a f _ _ r hf rfl S
 |k h g=>exact .b f _ _ _ hf rfl (by obtain rfl:=fN.mp m;exact⟨id,a,r,⟨bN h (by decide),g⟩,S⟩)
 |@t i a h g=>exact .b f _ _ _ hf rfl (by
   obtain rfl:=fN.mp m;have g1:=g i (.head _)
   match a,h,S,g with
   |[],X,S,g=>exact⟨([],i),r,⟨⟨qw _,nofun⟩,g1⟩,S⟩
   |[b],X,S,g=>exact⟨([i],b),r,⟨⟨(by decide:1<=1000),gv.mpr ⟨g1,nofun⟩⟩,g b (.tail _ (.head _))⟩,S⟩
   |[b,c],X,S,g=>exact⟨([i,b],c),r,⟨⟨(by decide:2<=1000),gv.mpr ⟨g1,gv.mpr ⟨g b (.tail _ (.head _)),nofun⟩⟩⟩,g c (.tail _ (.tail _ (.head _)))⟩,S⟩
   |X::I::u2::u3,h,u4,u5=>exact absurd h (by simp))
 |z=>exact .b f _ _ _ hf rfl (by obtain rfl:=fN.mp m;exact(λX I=>I r S))
 |@uz i h=>exact .b f _ _ _ hf rfl (by obtain rfl:=fN.mp m;exact⟨i,_,h,(λX I=>I r S)⟩)
 |zz=>exact .b f _ _ _ hf rfl (by obtain rfl:=fN.mp m;exact(λX I=>I _ (λX I=>I r S)))
 |@uu i j h g=>exact .b f _ _ _ hf rfl (eW (m:f∈[BE,D6,D5]) ⟨⟨i,_,h,j,r,g,S⟩,⟨i,_,h,j,r,g,S⟩,⟨i,_,h,j,r,g,S⟩,cH2⟩)
noncomputable def OD:J (aa×aa):=[(42,43),(56,57),(67,68),(91,102),(139,166),(168,171),(174,191),(64512,64519)]
noncomputable def Jq(c:aa)(r:aa×aa):aD:=bC (decide (r.1<=c)) (decide (c<=r.2)) ak
noncomputable def Pl(r:aa×aa):D:=.tup [.int r.1,.int r.2]
def Vo(c:aa):aD:=bC (decide (c=253)) ah (OD.any (Jq c))
def Pm:Tr:=n7 i1 kC λc=>.d (.bool (Vo c))
theorem bO3{c:aa}:∀(rs:J (aa×aa))(K:J V->J O->Prop),K (rs.map λr=>.d (.bool (Jq c r))) [.cell (N (.d (.int c)))]->
  jW [fQ,f7] ak [(fQ,.L ao),(f7,.L ao),(d8,.C 0)] (nX (vc ⟨dP,d_ []⟩ 37).t []) ((vc ⟨dP,d_ []⟩ 37).e (.o6 .LtE (.Y fQ) (.Y d8) (.Y f7))) (rs.map Pl) [.cell (N (.d (.int c)))] K:=λi_=>by
 induction i_ with
 |nil=>exact λK h=>h
 |cons r rs ih=>
  intro K h
  show jW _ _ _ _ _ (Pl r::_) _ _
  conv=>whnf
  exact qY (P:=λb=>K (.d (.bool b)::rs.map λr=>.d (.bool (Jq c r))) [.cell (N (.d (.int c)))]) h (λX h=>ih _ h) λX h=>ih _ h
theorem bO4:aQ (aU x) (n+1) LA Pm:=k7 (q:=br6) (l:=[]) (by kernel_rfl) trivial λc k X S=>by
 conv=>whnf
 refine qY (P:=λb=>k (.d (.bool b)) []) S (λX h=>h) λX S=>?_;have g:=bO3 (c:=c) OD (λvs o=>iF ak vs o λv o=>MH .any ak [v] o λv o=>B3 0 v o k) (by
  show iF _ _ _ _
  unfold iF;rw[E6 (λr=>D.bool (Jq c r)) OD];exact y8 (f:=Jq c) OD (λq=>B3 0 (.d (.bool q)) [.cell (N (.d (.int c)))] k) S)
 conv at g=>whnf
 conv=>whnf
 exact g
def Ps:Tr:=n7 i1 kC λc=>.d (.bool (v5 c))
theorem bO5:aQ (aU x) (n+1) Lz Ps:=k7 (q:=br5) (l:=[]) (by kernel_rfl) trivial λc k X S=>S
structure Pt(c:aa):Prop where
 f:∃f,U' c=.d (.str f)
 l:Vo c=ak
 r:jk (bz (decide (0<=c)) (decide (c<252))) (bz (decide (64512<=c)) (decide (c<=64529)))=ah
def bO6(c:aa):aD:=bz (QU (Ou c)) (bz (k6 (Vo c)) (jk (bz (decide (0<=c)) (decide (c<252))) (bz (decide (64512<=c)) (decide (c<=64529)))))
theorem bO7:kP bO6 (11::5::qG)=ah:=by kernel_rfl
theorem Vp{c:aa}(h:c∈11::5::qG):Pt c:=by have g:=lE bO7 _ h;exact⟨⟨_,bR V.d (IR (ck g))⟩,yQ.mp (ck (bf g)),bf (bf g)⟩
def Pv(p:H):Tr:=jr Pt (pR p) .int
noncomputable def bO8(p:H):J (H×Tr):=[(qg,xJ),(mG,mS p),(LA,Pm),(D7,Ov)]
theorem bO9:aQ (aU x) (n+5) L6 (Pv p):=k9 (q:=bx8) (l:=bO8 p) (by kernel_rfl) ⟨yX,oQ,bO4,Va,cH2⟩ λc r k h S=>by
 obtain⟨⟨f,h1⟩,h2,h3⟩:=h;rcases Cu h3 with h|h
 ·obtain⟨c,rfl⟩:=Dr (gy (ck h));have hc:(c:aa)<252:=gy (bf h);have e:pR p c r=cB c r:=by
   unfold pR;rw[nL (sN hc (by decide))];rfl
  rw[e];intro at_;refine⟨c,r,cH2,?_⟩
  conv=>whnf
  refine jc (kq (Int.ne_of_lt hc)) ⟨(c:aa),cH2,?_⟩
  conv=>whnf
  exact jc h2 ⟨((c:aa),V.d (D.str f)),h1,S⟩
 ·obtain⟨m,e⟩:=Dr (QF (gy (ck h)));obtain rfl:c=64512+(m:aa):=by rw[<-e,Kv,ct0]
  have hm:m<18:=dF.mp (Int.lt_of_add_lt_add_left (a:=64512) (Gg (gy (bf h)) (by decide:(64529:aa)<64512+(18:H))))
  have e2:pR p (64512+(m:aa)) r=cB 252 (cU p m r):=by unfold pR;rw[kq (nN.mpr (X5 nn)),e];rfl
  rw[e2];refine λat_=>⟨252,_,cH2,m,r,mE hm (by decide),?_⟩
  conv=>whnf
  refine jc (kq (nN.mpr (iz.mpr (qD hm)))) ⟨64512+(m:aa),cH2,?_⟩
  conv=>whnf
  exact jc h2 ⟨(64512+(m:aa),V.d (D.str f)),h1,S⟩
def Vq(c:aa):aD:=bz (k6 (decide (c=11))) (k6 (decide (c=5)))
theorem PH:kP Vq qG=ah:=by kernel_rfl
noncomputable def xN:J aa->J D
 |[]=>[]
 |i::r=>xN r++[.int i]
theorem Jr:∀l,(xN l).length=l.length
 |[]=>rfl
 |i::r=>by rw[xN,f6,Jr r];rfl
theorem PP{α:Type}:∀(l:J α)(a:α),f9 (l++[a])=ak
 |[],X=>rfl
 |X::I,u2=>rfl
def bP0(hc:aD)(i:fj):Prop:=i.mQ/\(hc=ah\/qm i=ak)
inductive Vr(p:H)(hc:aD)(b:iR)(r:Ts):H->St->Prop
 |mk (fT:iR) (acc:J D) (mz:J aa):acc++fT.map fj.d=b.map fj.d->(∀i∈fT,bP0 hc i)->mz.length+fT.length<=13->nest mz fT=N []->
  Vr p hc b r fT.length ⟨[(bx,.L (N (.ref 0))),(Le,.L (N (.d (.bool hc)))),(z8,.L (N (.ref 2))),(cD,.L none),(dK,.L (N (.ref 1))),(d8,.L none)],[.cur (oO p fT r),.dl acc,.dl (xN mz)]⟩
def Ft(p:H):Tr:=λa_ o_ k_=>∀P_:Tr,(∀(b hc r){k},oJ b->(hc=ah\/∀i∈b,qm i=ak)->k (.d (gA b)) [.cur r]->P_ [.ref 0,.d (.bool hc)] [.cur (oO p b r)] k)->P_ a_ o_ k_
theorem Ft.mk{p:H}(b hc r){k}(f5:oJ b)(lg:(hc=ah\/∀i∈b,qm i=ak))(t7:k (.d (gA b)) [.cur r]):Ft p [.ref 0,.d (.bool hc)] [.cur (oO p b r)] k:=λP_ c_=>c_ b hc r f5 lg t7
noncomputable def bP1(p:H):J (H×Tr):=[(L6,Pv p),(L5,Pi p),(D7,Ov),(Lz,Ps)]
theorem bP2{α:Type}{a b c:J α}{y:α}(e:a++y::b=c):a++[y]++b=c:=(jx ..).trans e
theorem bP3{l:J H}{a:J aa}(h:j5 l a):a.length<=3:=by
 cases h with
 |k h X=>exact xU h
 |t h X=>rw[cO];exact lB h
 |_=>exact P0 rfl
theorem P2:aQ (aU x) (n+9) Ho (Ft p):=fc x (q:=bx9) (l:=bP1 p) (by kernel_rfl) ⟨bO9,bO2,Va,bO5,cH2⟩ λX I u2 g=>g _ λb hc r k hb hu S=>by
 refine⟨Vr p hc b r,b.length,.mk b [] [0] rfl (λi h=>⟨hb.ins i h,hu.imp id λg=>g i h⟩) (rD hb.len 1) hb.nest,?_⟩;intro m Z h;cases h with|mk fT acc mz he ho hl hn=>
 have la:acc.length<1000:=by
  have h1:=bR al3 he;rw[f6,cO,cO]at h1
  exact eZ (bN (gF ..) (bN (iW h1) hb.len)) (by decide)
 have lA:acc.length<1048576:=mE la (by decide)
 induction mz using eT with
 |nil=>induction fT using eT with
  |nil=>have he:acc=b.map fj.d:=(j3 acc).symm.trans he;subst he;exact S
  |cons i fT=>cases hn
 |cons j mz=>induction fT using eT with
  |nil=>cases hn
  |cons i fT=>
   have lS:(xN (j::mz)).length<1048576:=eZ (bN (iW (Jr _)) (bN (gF ..) hl)) (by decide)
   have hl:mz.length+fT.length+2<=13:=bN (iW (Nat.add_add_add_comm mz.length fT.length 1 1)) hl;have ho2:=λi h=>ho i (.tail _ h);have cH:=λmz (h1:mz.length+fT.length<=13) h2=>Vr.mk (p:=p) (r:=r) fT (acc++[i.d]) mz (bP2 he) ho2 h1 h2;have hi:=ho i (.head _)
   conv=>whnf
   refine AL (bR (!·) (PP (xN mz) (.int j))) ?_;cases hi.1 with
   |e=>exact λat_=>⟨11,_,Vp (.head _),_,_,rfl,lA,fT.length,m7 _,cH mz (bN (aq1 (wF _) (wF _)) hl) hn⟩
   |l=>
    intro at_;refine⟨5,_,Vp (.tail _ (.head _)),_,_,rfl,?_⟩
    conv=>whnf
    have hn:bC (decide (j=4)) (nest (5::mz) fT) ao=N []:=hn;by_cases q:j=4
    ·rw[nL q]at hn
     refine jc (by show(!decide (j=4))=ak;rw[nL q];rfl) ?_
     exact⟨_,_,rfl,lA,fT.length,m7 _,cH (5::mz) (bN (rD (wF _) _) hl) hn⟩
    ·rw[kq q]at hn
     cases hn
   |i h=>
    have o:=lE PH _ h.c;have o1:decide (i.c=11)=ak:=yQ.mp (ck o);have o2:decide (i.c=5)=ak:=yQ.mp (bf o);obtain⟨f,hf⟩:=I' hi.1;have hn:bC (decide (i.c=11)) (nest mz fT) (bC (decide (i.c=5)) (bC (decide (j=4)) (nest (5::mz) fT) ao) (bC (v5 i.c) (nest (i.c::j::mz) fT) (nest (j::mz) fT)))=N []:=hn;rw[o1,o2]at hn
    refine λat_=>⟨i.c,_,Vp (.tail _ (.tail _ h.c)),?_⟩
    conv=>whnf
    refine jc o1 ?_
    conv=>whnf
    refine jc o2 ?_
    conv=>whnf
    refine IL (λq c=>?_) ⟨(i.c,V.d (D.str f)),hf.e,(λX I=>I f (oh i.c) i.a _ hf.a ?_)⟩
    ·exact jc (hi.2.elim (λe=>bR (!·) e) λe=>absurd (q.symm.trans e) gr) c
    ·refine⟨by rw[f6,cO];exact bN (rD (bP3 hf.a.a) 1) (by decide:4<=1048576),lA,i.c,cH2,?_⟩
     conv=>whnf
     cases q:v5 i.c with
     |true=>
      rw[q]at hn
      exact⟨lS,fT.length,m7 _,cH (i.c::j::mz) (bN (iW (xX _ 2 _)) hl) hn⟩
     |false=>
      rw[q]at hn
      exact⟨fT.length,m7 _,cH (j::mz) (bN (iW (xX _ 1 _)) (W2 hl)) hn⟩
def OE(p:H):Tr:=jr oJ (oO p) gA
theorem OF:aQ (aU x) (n+10) BU (OE p):=k9 (q:=by0) (l:=[(Ho,Ft p)]) (by kernel_rfl) ⟨P2,cH2⟩ λb r k h S=>(λX I=>I b ah r h (.inl rfl) S)
def bP4{α:Type}(c:aR)(ar:α->J D)(fs:α->J (ai×V)):Tr:=λa_ o_ k_=>∀P_:Tr,(∀(a:α){k},k (.d .none) [.inst c (fs a)]->P_ (.ref 0::(ar a).map .d) [.inst c []] k)->P_ a_ o_ k_
def uW{α:Type}(c:aR)(ar:α->J D)(fs:α->J (ai×V)):Tr:=λa_ o_ k_=>∀P_:Tr,(∀(a:α){k},k (.ref 0) [.inst c (fs a)]->P_ ((ar a).map .d) [] k)->P_ a_ o_ k_
theorem uW.mk{α:Type}{c:aR}{ar:α->J D}{fs:α->J (ai×V)}(a:α){k}(f5:k (.ref 0) [.inst c (fs a)]):uW c ar fs ((ar a).map .d) [] k:=λP_ c_=>c_ a f5
theorem Fv{α:Type}{q:Fn}{c:aR}{ar:α->J D}{fs:α->J (ai×V)}(hd:AK (kF w.params) q ah)(h:∀a k,k (.d .none) [.inst c (fs a)]->lK q [] (.ref 0::(ar a).map .d) [.inst c []] k)(hc:y4 (kF w.params) c q.a=ah):aQ (aU x) (n+2) c (uW c ar fs):=
 (CB (T:=bP4 c ar fs) x (fc x hd (l:=[]) trivial λargs o k g=>g _ λa X S=>h a _ S) hc).of λargs o k g=>g _ λa X S=>(λX I=>I a S)
def Vs:Tr:=uW Af (λi:fh=>[.str i.p,.str i.n,.int i.a.sort,i.a.d]) λi=>[(dO,.d (.str i.p)),(dX,.d (.str i.n)),(fR,.d (.int i.a.sort)),(i7,.d i.a.d)]
theorem P3:aQ (aU x) (n+2) Af Vs:=Fv (q:=br7) (by kernel_rfl) (λa k S=>S) (by kernel_rfl)
def Vt:Tr:=uW Ag (λf:cW=>[.int f.k,oH f.l,gA f.b]) λf=>[(bW,.d (.int f.k)),(z_,.d (oH f.l)),(dK,.d (gA f.b))]
theorem Qb:aQ (aU x) (n+2) Ag Vt:=Fv (q:=br9) (by kernel_rfl) (λa k S=>S) (by kernel_rfl)
def Vu:Tr:=uW Ah (λg:iy=>[.int g.g.k,.int g.g.m,gA g.b]) λg=>[(bW,.d (.int g.g.k)),(jT,.d (.int g.g.m)),(dK,.d (gA g.b))]
theorem Qr:aQ (aU x) (n+2) Ah Vu:=Fv (q:=bs1) (by kernel_rfl) (λa k S=>S) (by kernel_rfl)
def Vv:Tr:=uW yo (λc:dB=>[.str c.n,.bytes c.c,.int c.b]) λc=>[(dX,.d (.str c.n)),(bH,.d (.bytes c.c)),(rL,.d (.int c.b))]
theorem QP:aQ (aU x) (n+2) yo Vv:=Fv (q:=bs7) (by kernel_rfl) (λa k S=>S) (by kernel_rfl)
def Vw:Tr:=uW Aj (λe:eV=>[.int e.m,.int e.y,rV e.b,.bytes e.c]) λe=>[(fZ,.d (.int e.m)),(nh,.d (.int e.y)),(iB,.d (rV e.b)),(bH,.d (.bytes e.c))]
theorem QQ:aQ (aU x) (n+2) Aj Vw:=Fv (q:=bs5) (by kernel_rfl) (λa k S=>S) (by kernel_rfl)
noncomputable def QR(e:dz):D:=.list (e.i.map λi=>gA (i.b e.k))
def Vx:Tr:=uW Ai (λe:dz=>[.int e.m.m,.int e.m.t,rV e.m.o,.int e.k,QR e]) λe=>[(fZ,.d (.int e.m.m)),(kY,.d (.int e.m.t)),(iB,.d (rV e.m.o)),(bW,.d (.int e.k)),(kr,.d (QR e))]
theorem Q1:aQ (aU x) (n+2) Ai Vx:=Fv (q:=bs3) (by kernel_rfl) (λa k S=>S) (by kernel_rfl)
def bP5(p:H):Tr:=jr iy.ok (Jc p) iy.d
theorem bP6:aQ (aU x) (n+11) LX (bP5 p):=k9 (q:=bx2) (l:=[(Hl,Vl),(BU,OE p),(Ah,Vu)]) (by kernel_rfl) ⟨Nw,OF,Qr,cH2⟩ λg r k h S=>⟨g.g,_,h.1,⟨g.b,r,h.2,(λX I=>I g S)⟩⟩
def bP7(p:H):Tr:=jr fh.ok (Ja p) fh.d
noncomputable def bP8(p:H):J (H×Tr):=[(G0,OA p),(qg,xJ),(mG,mS p),(Af,Vs),(Hi,M2 p),(Hj,Jp p),(Hl,Vl)]
theorem bP9:aQ (aU x) (n+8) LV (bP7 p):=k9 (q:=bx0) (l:=bP8 p) (by kernel_rfl) ⟨Vf,yX,oQ,P3,M',No,Nw,cH2⟩ λi r k h S=>by
 obtain⟨pl,m,a⟩:=i;induction a with
 |f i=>exact⟨pl,_,h.1,m,_,h.2.1,λat_=>⟨0,_,cH2,⟨i,r,h.2.2,(λX I=>I (fh.mk pl m (.f i)) S)⟩⟩⟩
 |t i=>exact⟨pl,_,h.1,m,_,h.2.1,λat_=>⟨1,_,cH2,⟨i,r,h.2.2,(λX I=>I (fh.mk pl m (.t i)) S)⟩⟩⟩
 |m i=>exact⟨pl,_,h.1,m,_,h.2.1,λat_=>⟨2,_,cH2,⟨i,r,h.2.2,(λX I=>I (fh.mk pl m (.m i)) S)⟩⟩⟩
 |g i=>exact⟨pl,_,h.1,m,_,h.2.1,λat_=>⟨3,_,cH2,⟨i,r,h.2.2,(λX I=>I (fh.mk pl m (.g i)) S)⟩⟩⟩
def bQ0(p:H):Tr:=jr eV.ok (Jf p) eV.d
noncomputable def bQ1(p:H):J (H×Tr):=[(mG,mS p),(BL,Fd),(BU,OE p),(Aj,Vw)]
theorem bQ2:aQ (aU x) (n+11) L_ (bQ0 p):=k9 (q:=by3) (l:=bQ1 p) (by kernel_rfl) ⟨oQ,Of,OF,QQ,cH2⟩ λe r k h S=>by
 obtain⟨o,c⟩:=e;have hc:cY c.length:=eZ h.2.1 (by decide)
 induction o with
 |none=>exact λat_=>⟨1,_,(by decide:1<4294967296),⟨c.length,_,hc,⟨c,r,(λX I=>I (eV.mk ao c) S)⟩⟩⟩
 |some o=>
  obtain⟨y,b⟩:=o;obtain⟨h1,h2⟩:=h.1 _ rfl
  show lK _ _ _ [.cur (bC (bz (bX y 0) (bX p 0)) _ _)] _
  cases q:bz (bX y 0) (bX p 0)with
  |true=>obtain rfl:=mV (ck q);exact λat_=>⟨0,_,(by decide:0<4294967296),⟨b,_,h2,⟨c.length,_,hc,⟨c,r,(λX I=>I (eV.mk (N (0,b)) c) S)⟩⟩⟩⟩
  |false=>exact λat_=>⟨2,_,(by decide:2<4294967296),⟨y,_,h1,⟨b,_,h2,⟨c.length,_,hc,⟨c,r,(λX I=>I (eV.mk (N (y,b)) c) S)⟩⟩⟩⟩⟩
def Re:Tr:=jr (kC (α:=rt)) (λX r=>cB 0 r) λX=>.int (-16)
theorem bQ3:aQ (aU x) (n+3) L7 Re:=k9 (q:=by1) (l:=[(qg,xJ)]) (by kernel_rfl) ⟨yX,cH2⟩ λX r k h S at_=>⟨0,r,cH2,S⟩
theorem aQ.or{f:Cf}{n:H}{a:aR}{T U:Tr}(h:aQ f n a T)(g:aQ f n a U):aQ f n a (λargs o k=>T args o k\/U args o k):=⟨h.keep,λargs o k z=>z.elim (λz=>h.sc args o k z) λz=>g.sc args o k z⟩
def bQ4(p:H):Tr:=λargs o k=>q9 p BU oJ (oO p) gA args o k\/q9 p Eh cY (cU p) dN args o k
noncomputable def Vy(p:H):J (H×Tr):=[(mG,mS p),(BU,OE p),(Ej,OB),(L7,Re),(Ai,Vx),(w5,bQ4 p)]
theorem bQ5(i:aa)(h:i∈[35,210,208]):i∈qG/\Vq i=ah/\v5 i=ak:=(by decide:∀i∈[(35:aa),210,208],i∈qG/\Vq i=ah/\v5 i=ak) i h
theorem bQ6{c:aa}{a:J aa}(h:c∈[35,210,208]):nest [0] [⟨c,a⟩,iE]=N []:=eW (P:=λc=>nest [0] [⟨c,a⟩,iE]=N []) h ⟨rfl,rfl,rfl,cH2⟩
theorem bQ7{k:aa}(S:x8 k){i:er}(h:i.ok):oJ (i.b k):=by
 have go:∀{c:aa}{a:J aa},c∈[35,210,208]->j5 (oh c) a->oJ [⟨c,a⟩,iE]:=λhc ha=>⟨gv.mpr ⟨.i ⟨(bQ5 _ hc).1,ha⟩,gv.mpr ⟨.e,nofun⟩⟩,(by decide:2<=12),bQ6 hc⟩
 induction i with
 |f i=>exact go (.tail _ (.head _)) (.u h)
 |g i=>exact go (.head _) (.u h)
 |n=>exact go (.tail _ (.tail _ (.head _))) (.r S)
noncomputable def bQ8(at_ B f m t o k w:D):Fm:=[(bx,.L (N (.ref 0))),(cD,.L (N (.d at_))),(uy,.L (N (.d B))),(gz,.L (N (.d f))),(kr,.L ao),(bW,.L (N (.d k))),(fZ,.L (N (.d m))),(iB,.L (N (.d o))),(kY,.L (N (.d t))),(gS,.L (N (.d w)))]
theorem Rs{e:dz}(h:lM e=ak):e.k=-16/\∀i∈e.i,nf i=ak:=by
 obtain⟨h1,h2⟩:=aq2.mp h;refine⟨gy (by cases q:decide (e.k=-16)with|true=>rfl|false=>rw[q]at h1;cases h1),λi hi=>?_⟩
 cases q:nf i with
 |false=>rfl
 |true=>exact absurd (wD.mpr ⟨i,hi,q⟩) (by rw[h2];exact gr)
theorem bQ9{e:dz}{B:aD}{a f w':D}{r:Ts}{k:V->J O->Prop}(he:e.ok)(hB:B=ak->lM e=ak)(S:k (.d e.d) [.cur r]):
  l8 ⟨dP,d_ (Vy p)⟩ (vc ⟨dP,d_ (Vy p)⟩ 39) (wn.drop 9) ⟨bQ8 a (.bool B) f (.int e.m.m) (.int e.m.t) (rV e.m.o) (.int e.k) w',[.cur (CL p B e r)]⟩ (mK 1 k):=by
 induction B with
 |true=>exact .inl ⟨er.b e.k,e.i,r,⟨bN he.2.2.1 (by decide),λi h=>bQ7 he.2.1 (he.2.2.2 i h)⟩,(λX I=>I e S)⟩
 |false=>
  obtain⟨h1,h2⟩:=Rs (hB rfl);have bR0:∀i∈e.i,cY i.x:=λi h=>by
   have:=he.2.2.2 i h;induction i with
   |f i=>exact this
   |_=>exact(by decide:0<4294967296)
  refine .inr ⟨er.x,e.i,r,⟨bN he.2.2.1 (by decide),bR0⟩,?_⟩
  have eq:(e.i.map λi:er=>D.list [.tup [.int 210,dN i.x],.tup [.int 11]])=e.i.map λi=>gA (i.b e.k):=ao3 λi h=>by
   have:=h2 i h;induction i with
   |f i=>rfl
   |_=>cases this
  refine pG (f:=λi:er=>dN i.x) (g:=λi=>D.list [.tup [.int 210,dN i.x],.tup [.int 11]]) (by exact λi k h=>h) e.i ?_
  rw[eq];exact(λX I=>I e S)
def bR1(p:H):Tr:=jr dz.ok (CM p) dz.d
theorem bR2:aQ (aU x) (n+15) L8 (bR1 p):=k9 (q:=by2) (l:=Vy p) (by kernel_rfl) ⟨oQ,OF,Vk,bQ3,Q1,(r8 OF (by decide)).or (r8 Vm (by decide)),cH2⟩ λe r k h S=>by
 have hB:∀B,jk (lM e) (bX p 1)=B->B=ak->lM e=ak:=λB q h=>by
  rw[h]at q
  cases b:lM e with
  |false=>rfl
  |true=>rw[b]at q;cases q
 unfold CM;generalize jk (lM e) (bX p 1)=B at hB
 have cH:=λa f w=>@bQ9 p e B a f w r k h (hB B rfl) S;have kd:=λhb=>(Rs (hB B rfl hb)).1;clear hB;obtain⟨m,kk,is⟩:=e;induction m with
 |p=>induction B with
  |true=>exact λat_=>⟨5,_,(by decide:5<4294967296),by decide,by decide,oi rfl ⟨kk,_,h.2.1,cH _ _ _⟩⟩
  |false=>obtain rfl:kk=-16:=kd rfl;exact λat_=>⟨1,_,(by decide:1<4294967296),by decide,by decide,oi rfl ⟨(),_,cH2,cH _ _ _⟩⟩
 |d=>induction B with
  |true=>exact λat_=>⟨7,_,(by decide:7<4294967296),by decide,by decide,oi rfl ⟨kk,_,h.2.1,cH _ _ _⟩⟩
  |false=>obtain rfl:kk=-16:=kd rfl;exact λat_=>⟨3,_,(by decide:3<4294967296),by decide,by decide,oi rfl ⟨(),_,cH2,cH _ _ _⟩⟩
 |a y b=>
  obtain⟨h1,h2⟩:=h.1
  show lK _ _ _ [.cur (bC (bz (bX y 0) (bz (decide (kk=-16)) (bX p 0))) _ _)] _
  cases q:bz (bX y 0) (bz (decide (kk=-16)) (bX p 0))with
  |true=>
   obtain rfl:=mV (ck q);obtain rfl:kk=-16:=gy (ck (bf q));induction B with
   |true=>
    refine λat_=>⟨4,_,(by decide:4<4294967296),by decide,by decide,λy hy=>?_⟩
    cases hy;refine⟨b,_,h2,?_⟩;have cH:=cH (.int at_) (.int 4) (.int 0)
    conv at cH=>whnf
    conv=>whnf
    exact cH
   |false=>
    refine λat_=>⟨0,_,(by decide:0<4294967296),by decide,by decide,λy hy=>?_⟩
    cases hy;refine⟨b,_,h2,?_⟩;have cH:=cH (.int at_) (.int 0) (.int 0)
    conv at cH=>whnf
    conv=>whnf
    exact cH
  |false=>induction B with
   |true=>exact λat_=>⟨6,_,(by decide:6<4294967296),by decide,by decide,oi rfl ⟨y,_,h1,b,_,h2,kk,_,h.2.1,cH _ _ _⟩⟩
   |false=>obtain rfl:kk=-16:=kd rfl;exact λat_=>⟨2,_,(by decide:2<4294967296),by decide,by decide,oi rfl ⟨y,_,h1,b,_,h2,(),_,cH2,cH _ _ _⟩⟩
end
section
open Wh (cu)
variable{w:bU}{bJ s:aE}{x:cu w bJ s}{n:H}
noncomputable def v_{α:Type}(f:α->D):J α->J D
 |[]=>[]
 |a::l=>v_ f l++[f a]
theorem OG{α:Type}{f:α->D}:∀l:J α,v_ f l=l.reverse.map f:=λi_=>by
 induction i_ with
 |nil=>exact rfl
 |cons a l ih=>exact by rw[Dj,zR,<-ih];rfl
theorem Vz{α:Type}{f:α->D}(l:J α):(v_ f l).length=l.length:=by rw[OG,cO,Gf]
noncomputable def RF:Fm:=[(fY,.L (N (.ref 0))),(dK,.L (N (.ref 1))),(d9,.L ao),(aM,.L ao),(yf,.L (N (.ref 2)))]
noncomputable def Sc(ns:J aa)(p:iR)(Z:J aa)(n0:aa):J O:=[.dl (ns.map .int),.dl (v_ fj.d p),.dl (xN Z),.dl [.int n0]]
structure y_(p:iR)(Z:J aa)(j:H):Prop where
 ok:∀i∈p,i.mQ
 len:p.length+j<=4
 op:Z.length<=p.length
 Sr:∀fT,nest [0] (p.reverse++fT)=nest (Z++[0]) fT
theorem y_.snoc{p:iR}{Z b9:J aa}{j:H}{i:fj}(h:y_ p Z (j+1))(hi:i.mQ)(hl:b9.length<=Z.length+1)(hn:∀fT,nest (Z++[0]) (i::fT)=nest (b9++[0]) fT):y_ (i::p) b9 j:=
 ⟨gv.mpr ⟨hi,h.ok⟩,bN (iW (xX ..)) h.len,bN hl (lB h.op),λfT=>by rw[Dj,jx,<-hn,<-h.Sr];rfl⟩
theorem SB{i:fj}(h:i.ok)(Z fT):∀(x:aa)(r:J aa),Z++[0]=x::r->nest (Z++[0]) (i::fT)=bC (v5 i.c) (nest (i.c::Z++[0]) fT) (nest (Z++[0]) fT):=λx r e=>by
 have o:=lE PH _ h.c;have h1:=ck o;have h2:=bf o
 show nest (Z++[0]) (i::fT)=bC (v5 i.c) (nest (i.c::(Z++[0])) fT) (nest (Z++[0]) fT)
 rw[e]
 show bC (decide (i.c=11)) _ (bC (decide (i.c=5)) _ _)=_
 cases q1:decide (i.c=11)with
 |true=>rw[q1]at h1;cases h1
 |false=>cases q2:decide (i.c=5)with
  |true=>rw[q2]at h2;cases h2
  |false=>rfl
theorem SF{i:fj}(h:i.ok)(Z fT):nest (Z++[0]) (i::fT)=bC (v5 i.c) (nest (i.c::Z++[0]) fT) (nest (Z++[0]) fT):=by
 induction Z using eT with
 |nil=>exact SB h [] fT 0 [] rfl
 |cons x r=>exact SB h (x::r) fT x (r++[0]) rfl
def SL:Tr:=UG oJ gA
noncomputable def SU:J (H×Tr):=[(Al,CF),(ou,qp),(Me,Db)]
theorem bR3{n0:aa}{K:dZ->St->Prop}(hK:∀ns p Z,y_ p Z 0->K .next ⟨RF,Sc ns p Z n0⟩)(xs:J D):∀(ns:J aa)(p:iR)(Z:J aa),y_ p Z xs.length->
  gT [d9,aM] [d9] ah 4 ((vc ⟨dP,d_ SU⟩ 39).s ww) xs ⟨RF,Sc ns p Z n0⟩ K:=by
 induction xs with
 |nil=>exact hK
 |cons d xs ih=>
  intro ns p Z h;have lp:(v_ fj.d p).length<1048576:=by rw[Vz];exact eZ (bN (gF ..) h.len) (by decide)
  have ls:(xN Z).length<1048576:=by rw[Jr];exact eZ (bN h.op (bN (gF ..) h.len)) (by decide)
  have SZ:∀i:fj,i.ok->v5 i.c=ah->y_ (i::p) (i.c::Z) xs.length:=λi hi hb=>h.snoc (.i hi) (jO _) λfT=>by rw[SF hi,hb];rfl
  have no:∀i:fj,i.ok->v5 i.c=ak->y_ (i::p) Z xs.length:=λi hi hb=>h.snoc (.i hi) (wF _) λfT=>by rw[SF hi,hb];rfl
  have cls:∀x r,Z=x::r->y_ (iE::p) r xs.length:=λx r e=>h.snoc .e (by rw[e];exact xU (wF _)) λfT=>by rw[e];rfl
  have els:∀r,Z=4::r->y_ (iL::p) (5::r) xs.length:=λr e=>h.snoc .l (by rw[e];exact wF _) λfT=>by rw[e];rfl
  clear h hK;refine⟨ns,λi0 we=>?_⟩;induction Z using eT with
  |nil=>
   refine⟨(),i0,cH2,λi i1 hi=>⟨lp,?_⟩⟩
   conv=>whnf
   refine⟨_,_,rfl,?_⟩
   conv=>whnf
   refine gZ (λq=>⟨_,_,rfl,ls,ih we _ _ (SZ i hi q)⟩) λq=>ih we _ _ (no i hi q)
  |cons y r=>
   conv=>whnf
   refine AL (bR (!·) (PP (xN r) (.int y))) ⟨3,i0,(by decide),λj i1 hj=>?_⟩
   conv=>whnf
   refine gZ (λX=>⟨_,_,rfl,?_⟩) λX=>⟨(),i1,cH2,λi i2 hi=>⟨lp,_,_,rfl,?_⟩⟩
   ·conv=>whnf
    refine gZ (λq=>⟨2,i1,(by decide),λj i2 hj=>?_⟩) λX=>⟨lp,_,_,rfl,ih we _ _ (cls y r rfl)⟩
    obtain rfl:y=4:=gy q
    conv=>whnf
    exact gZ (λX=>⟨lp,_,_,rfl,ih we _ _ (els r rfl)⟩) λX=>⟨lp,_,_,rfl,ih we _ _ (cls 4 r rfl)⟩
   ·conv=>whnf
    exact gZ (λq=>⟨_,_,rfl,ls,ih we _ _ (SZ i hi q)⟩) λq=>ih we _ _ (no i hi q)
theorem Ta:∀Z:J aa,nest Z (vh Z.length iE)=N []
 |[]=>rfl
 |x::r=>Ta r
theorem VA(i:aa){m:H}(h:0<m):∃j:H,x7 i m=j/\j<m:=by have p:(0:aa)<m:=dF.mpr h;have e:=zO (cA3 i p);exact⟨(x7 i m).toNat,e.symm,dF.mp (e.symm▸cA2 i p)⟩
theorem bR4:aQ (aU x) (n+5) Mf SL:=qo (q:=bA4) (l:=SU) (by kernel_rfl) ⟨IY,rY,bF6,cH2⟩ λX l k I S=>by
 refine⟨l,λi0 l1=>⟨by decide,?_⟩⟩
 refine b_ (VA (1+i0) (m:=5) (by decide)) λj hx=>?_
 have e:=hx.1;have hj:=hx.2
 conv=>whnf
 rw[show x7 (1+i0) 5=(j:aa)from e]
 refine⟨uS (bN (mX hj) (by decide)),?_⟩
 refine bR3 (λns p Z h=>?_) _ l1 [] [] ⟨nofun,?_,jO _,λfT=>rfl⟩
 ·have e:v_ fj.d p++vh (((xN Z).length:H)+1:aa).toNat (D.tup [D.int 11])=(p.reverse++vh (Z.length+1) iE).map fj.d:=by
   rw[zR,List.map_replicate,OG,Jr];rfl
  have lst:Z.length<=4:=bN h.op (bN (gF ..) h.len);have len:(p.reverse++vh (Z.length+1) iE).length<=12:=by rw[f6,Gf,cB6];exact bN (aq1 h.len (lB lst)) (by decide)
  have g:=S (p.reverse++vh (Z.length+1) iE) ns ⟨λi hi=>?_,len,?_⟩
  ·unfold gA at g
   rw[<-e]at g
   refine⟨?_,?_,g⟩
   ·rw[Jr];exact⟨jj (by decide) (nn (n:=Z.length+1)),iz.mpr (bN (lB lst) (by decide))⟩
   ·rw[e,cO];exact bN len (by decide)
  ·rcases gK.mp hi with hi|hi
   ·exact h.ok i (Xj.mp hi)
   ·rw[List.eq_of_mem_replicate hi];exact .e
  ·rw[h.Sr];have:=Ta (Z++[0])
   rwa [f6]at this
 ·rw[iA];exact bN (iW (mW _)) (qD hj)
def OH:Tr:=xD oJ gA
theorem bR5:∀c∈[(65:aa),66,35,106],c∈qG:=by decide
theorem Tl{b:iR}(h:∀i∈b,i.ok)(hl:b.length<=3)(hn:nest [0] (b++[iE])=N []):oJ (b++[iE]):=
 ⟨λi hi=>(gK.mp hi).elim (λhi=>.i (h i hi)) λhi=>by rw[fN.mp hi];exact .e,by rw[f6];exact bN (lB hl) (by decide),hn⟩
theorem Fw{c:aa}{a:J aa}(h:c∈[(65:aa),66,35,106])(g:j5 (oh c) a):fj.ok ⟨c,a⟩:=⟨bR5 c h,g⟩
theorem VB{i:fj}(h:i.ok)(hn:nest [0] ([i]++[iE])=N []):oJ ([i]++[iE]):=Tl (λX hj=>by rw[fN.mp hj];exact h) (by decide:1<=3) hn
theorem VC:aQ (aU x) (n+3) El OH:=qo (q:=bA5) (l:=[(ou,qp),(Ht,UH),(uF,xE)]) (by kernel_rfl) ⟨rY,Bn,yT,cH2⟩ λX i k I S=>by
 refine⟨4,i,(by decide),λa i1 ha=>?_⟩
 conv=>whnf
 refine gZ (λX=>⟨32,i1,.head _,λb i2 hb=>S [⟨65,[b]⟩,iE] i2 (VB (Fw (.head _) (.i hb)) rfl)⟩) λX=>?_
 conv=>whnf
 refine gZ (λX=>⟨64,i1,.tail _ (.head _),λb i2 hb=>S [⟨66,[b]⟩,iE] i2 (VB (Fw (.tail _ (.head _)) (.l hb)) rfl)⟩) λX=>?_
 conv=>whnf
 refine gZ (λX=>⟨(),i1,cH2,λb i2 hb=>S [⟨35,[(b:aa)]⟩,iE] i2 (VB (Fw (.tail _ (.tail _ (.head _))) (.u hb)) rfl)⟩) λX=>⟨(),i1,cH2,λb i2 hb=>⟨32,i2,.head _,λc i3 hc=>S [⟨35,[(b:aa)]⟩,⟨65,[c]⟩,⟨106,[]⟩,iE] i3 (Tl (b:=[⟨35,[(b:aa)]⟩,⟨65,[c]⟩,⟨106,[]⟩]) (gv.mpr ⟨Fw (.tail _ (.tail _ (.head _))) (.u hb),gv.mpr ⟨Fw (.head _) (.i hc),gv.mpr ⟨Fw (.tail _ (.tail _ (.tail _ (.head _)))) .o,nofun⟩⟩⟩) (by decide:3<=3) rfl)⟩⟩
theorem Tm:∀c<2,c∈[0,1]:=by decide
def Tx:Tr:=xD fh.ok fh.d
noncomputable def bR6:J (H×Tr):=[(ou,qp),(uF,xE),(Hv,UJ),(BV,IZ),(Hs,UK),(Af,Vs)]
theorem bR7:aQ (aU x) (n+4) Mg Tx:=qo (q:=bA6) (l:=bR6) (by kernel_rfl) ⟨rY,yT,BM,N3,B2,P3,cH2⟩ λX i k I S=>by
 refine⟨4,i,(by decide),λa i1 ha=>?_⟩
 match a,dF.mp ha with
 |0,X=>exact⟨(),i1,cH2,λb i2 hb=>⟨(),i2,cH2,λy i3 hy=>⟨(),i3,cH2,λz i4 hz=>(λX I=>I (fh.mk y z (.f b)) (S (fh.mk y z (.f b)) i4 ⟨hy,hz,hb⟩))⟩⟩⟩
 |1,X=>
  refine⟨2,i1,(by decide),λj i2 hj=>⟨nn,hj,λy hy=>?_⟩⟩
  obtain⟨kd,za,rfl⟩:=yV (f:=.int) (l:=[-16,-17]) hy;exact⟨(),i2,cH2,λl i3 hl=>⟨(show 3<=1048576 by decide),(),i3,cH2,λy i3 hy=>⟨(),i3,cH2,λz i4 hz=>(λX I=>I (fh.mk y z (.t ⟨kd,l⟩)) (S (fh.mk y z (.t ⟨kd,l⟩)) i4 ⟨hy,hz,za,hl⟩))⟩⟩⟩
 |2,X=>exact⟨(),i1,cH2,λb i2 hb=>⟨(),i2,cH2,λy i3 hy=>⟨(),i3,cH2,λz i4 hz=>(λX I=>I (fh.mk y z (.m b)) (S (fh.mk y z (.m b)) i4 ⟨hy,hz,hb⟩))⟩⟩⟩
 |3,X=>exact⟨(),i1,cH2,λb i2 hb=>⟨2,i2,(by decide),λc i3 hc=>⟨(),i3,cH2,λy i3 hy=>⟨(),i3,cH2,λz i4 hz=>(λX I=>I (fh.mk y z (.g ⟨b,c⟩)) (S (fh.mk y z (.g ⟨b,c⟩)) i4 ⟨hy,hz,hb,Tm c (dF.mp hc)⟩))⟩⟩⟩⟩
 |X+4,h=>exact absurd h (QC (x6 4 _))
def TB:Tr:=UG cW.ok cW.d
noncomputable def bR8:J (H×Tr):=[(Al,CF),(uF,xE),(ou,qp),(Mf,SL),(Ag,Vt)]
theorem bR9:aQ (aU x) (n+6) Mh TB:=qo (q:=bA7) (l:=bR8) (by kernel_rfl) ⟨IY,yT,rY,bR4,Qb,cH2⟩ λX l k I S=>by
 refine⟨l,λi l1=>⟨(),i,cH2,λkd i1 za=>⟨5,i1,(by decide),λm i2 hm=>⟨uS (bN (mX (dF.mp hm)) (by decide)),?_⟩⟩⟩⟩
 refine E8 (f:=.int) (ok:=(·∈[-1,-2])) (Z:=λn=>[.dl (l1.map .int),.cell (N (.ref 2)),.dl [.int n]]) (λX I=>rfl) (λd a K h=>⟨2,a,(by decide),λj a' hj=>⟨nn,hj,λy hy=>?_⟩⟩) _ i2 λls i3 h1 h2=>?_
 ·exact⟨(),l1,cH2,λb l2 hb=>(λX I=>I (cW.mk kd ls b) (S (cW.mk kd ls b) l2 ⟨za,⟨qD (eZ (iW (h1.trans iA)) (dF.mp hm)),h2⟩,hb⟩))⟩
 ·obtain⟨kd,za,rfl⟩:=yV (f:=.int) (l:=[-1,-2]) hy;exact h kd a' za
def TC:Tr:=xD dz.ok dz.d
noncomputable def Fx:J (H×Tr):=[(ou,qp),(uF,xE),(El,OH),(Ai,Vx)]
noncomputable def TD(kd m:aa)(t:H)(b:aD)(s:jA):Fm:=[(aM,.L (N (.ref 0))),(sZ,.L ao),(lF,.L ao),(kr,s),(BA,.L (N (.d (.bool b)))),(d9,.L ao),(bW,.L (N (.d (.int kd)))),(fZ,.L (N (.d (.int m)))),(kY,.L (N (.d (.int t))))]
noncomputable def VD(kd:aa)(i:er):D:=gA (i.b kd)
noncomputable def OI(kd n:aa)(l:J er):J O:=[.dl [.int n],.dl (v_ (VD kd) l)]
theorem bS0{kd m:aa}{t:H}{b:aD}{K:dZ->St->Prop}(hK:∀n(l:J er),fO 2 er.ok l->K .next ⟨TD kd m t b (.L (N (.ref 1))),OI kd n l⟩)(xs:J D):∀(n:aa)(l:J er),(∀i∈l,i.ok)->l.length+xs.length<=2->
  gT [sZ,lF,d9] [d9] ah 2 ((vc ⟨dP,d_ Fx⟩ 39).s wx) xs ⟨TD kd m t b (.L (N (.ref 1))),OI kd n l⟩ K:=by
 induction xs with
 |nil=>exact λn l h1 h2=>hK n l ⟨h2,h1⟩
 |cons y xs ih=>
  intro n l h1 h2;have ll:(v_ (VD kd) l).length<1048576:=by rw[Vz];exact eZ (bN (gF ..) h2) (by decide)
  have next:=λn (i:er) hi=>ih n (i::l) (gv.mpr ⟨hi,h1⟩) (bN (iW (xX ..)) h2);clear ih hK h2;refine⟨(),n,cH2,λi n1 hi=>?_⟩
  conv=>whnf
  refine gZ (λX=>⟨ll,next n1 (.f i) hi⟩) λX=>⟨3,n1,(by decide),λj n2 hj=>⟨nn,hj,λy hy=>?_⟩⟩
  obtain⟨z,hz,rfl⟩:=yV (f:=fj.d) (l:=[⟨208,[kd]⟩,⟨35,[(i:aa)]⟩,⟨210,[(i:aa)]⟩]) hy;have ex:∀z∈[(⟨208,[kd]⟩:fj),⟨35,[(i:aa)]⟩,⟨210,[(i:aa)]⟩],∃e:er,e.ok/\VD kd e=.list [z.d,iE.d]:=gv.mpr ⟨⟨.n,cH2,rfl⟩,gv.mpr ⟨⟨.g i,hi,rfl⟩,gv.mpr ⟨⟨.f i,hi,rfl⟩,nofun⟩⟩⟩;obtain⟨e,he,ee⟩:=ex z hz;have g:=next n2 e he;unfold OI v_ at g
  rw[ee]at g
  exact⟨ll,g⟩
noncomputable def bS1(kd m:aa)(t:H)(b:aD):Fm:=[(aM,.L (N (.ref 0))),(sZ,.L ao),(lF,.L ao),(kr,.L ao),(BA,.L (N (.d (.bool b)))),(d9,.L ao),(bW,.L (N (.d (.int kd)))),(fZ,.L (N (.d (.int m)))),(kY,.L (N (.d (.int t))))]
theorem TE{k:V->J O->Prop}(S:∀(e:dz) i,e.ok->k (.d e.d) (rF i)){m:aa}{t:H}(hm:m∈[1,0,2])(ht:cY t)(h0:decide (m=1)=ak->t=0)(b:aD){kd:aa}(hr:x8 kd)(i:aa):
  l8 ⟨dP,d_ Fx⟩ (vc ⟨dP,d_ Fx⟩ 39) (Ur.drop 4) ⟨bS1 kd m t b,rF i⟩ (mK 1 k):=by
 refine⟨3,i,(by decide),λa i1 ha=>⟨by decide,?_⟩⟩
 refine b_ (VA (1+(a:aa)) (m:=3) (by decide)) λj hx=>?_
 have e:=hx.1;have hj:=hx.2
 conv=>whnf
 rw[show x7 (1+(a:aa)) 3=(j:aa)from e]
 refine⟨uS (bN (mX hj) (by decide)),bS0 (λi2 l hl=>?_) _ i1 [] nofun ?_⟩
 ·have hl:fO 2 er.ok l.reverse:=⟨by rw[Gf];exact hl.1,λi h=>hl.2 i (Xj.mp h)⟩
  unfold OI;rw[OG];generalize l.reverse=l at hl
  clear e ha hj
  conv=>whnf
  refine gZ (λq=>?_) λq=>?_
  ·obtain rfl:m=1:=gy q;exact⟨(),i2,cH2,λbd i3 hb=>(λX I=>I (dz.mk (.a t bd) kd l) (S (dz.mk (.a t bd) kd l) i3 ⟨⟨ht,hb⟩,hr,hl⟩))⟩
  ·obtain rfl:=h0 q;have hm:=(iV.mp hm).resolve_left (sJ q);rcases iV.mp hm with e|e
   ·subst e;exact(λX I=>I (dz.mk .p kd l) (S (dz.mk .p kd l) i2 ⟨cH2,hr,hl⟩))
   ·obtain rfl:=fN.mp e;exact(λX I=>I (dz.mk .d kd l) (S (dz.mk .d kd l) i2 ⟨cH2,hr,hl⟩))
 ·rw[iA];exact bN (iW (mW _)) (qD hj)
theorem bS2:aQ (aU x) (n+4) Mi TC:=qo (q:=bA8) (l:=Fx) (by kernel_rfl) ⟨rY,yT,VC,Q1,cH2⟩ λX i k I S=>by
 refine⟨3,i,(by decide),λa i1 ha=>⟨nn,ha,λy hy=>?_⟩⟩
 obtain⟨m,hm,rfl⟩:=yV (f:=.int) (l:=[1,0,2]) hy;clear hy ha;have dg:∀(t:H),cY t->(decide (m=1)=ak->t=0)->∀i,l8 ⟨dP,d_ Fx⟩ (vc ⟨dP,d_ Fx⟩ 39) (Ur.drop 2) ⟨[(aM,.L (N (.ref 0))),(sZ,.L ao),(lF,.L ao),(kr,.L ao),(BA,.L ao),(d9,.L ao),(bW,.L ao),(fZ,.L (N (.d (.int m)))),(kY,.L (N (.d (.int t))))],rF i⟩ (mK 1 k):=λt ht h0 i=>by
  refine⟨2,i,(by decide),λa i1 ha=>?_⟩
  conv=>whnf
  refine gZ (λX=>?_) λX=>⟨2,i1,(by decide),λb i2 hb=>⟨nn,hb,λy hy=>?_⟩⟩
  ·have T:=TE S hm ht h0 (decide ((a:aa)=0)) (.head _) i1
   conv at T=>whnf
   conv=>whnf
   exact T
  ·obtain⟨kd,za,rfl⟩:=yV (f:=.int) (l:=[-16,-17]) hy;have T:=TE S hm ht h0 (decide ((a:aa)=0)) za i2
   conv at T=>whnf
   conv=>whnf
   exact T
 conv=>whnf
 refine gZ (λq=>⟨2,i1,(by decide),λb i2 hb=>?_⟩) λq=>?_
 ·conv=>whnf
  refine gZ (λX=>⟨(),i2,cH2,λt i3 ht=>?_⟩) λX=>?_
  ·have T:=dg t ht (λe=>by rw[e]at q;cases q) i3
   conv at T=>whnf
   conv=>whnf
   exact T
  ·have T:=dg 0 (jd _) (λX=>rfl) i2
   conv at T=>whnf
   conv=>whnf
   exact T
 ·have T:=dg 0 (jd _) (λX=>rfl) i1
  conv at T=>whnf
  conv=>whnf
  exact T
def TI:Tr:=xD eV.ok eV.d
noncomputable def VE:J (H×Tr):=[(ou,qp),(uF,xE),(El,OH),(Aj,Vw)]
theorem bS3:aQ (aU x) (n+4) Mj TI:=qo (q:=bA9) (l:=VE) (by kernel_rfl) ⟨rY,yT,VC,QQ,cH2⟩ λX i k I S=>by
 refine⟨2,i,(by decide),λa i1 ha=>⟨nn,ha,λy hy=>?_⟩⟩
 obtain⟨m,hm,rfl⟩:=yV (f:=.int) (l:=[1,0]) hy;clear hy ha;have dg:∀(t:H),cY t->(decide (m=1)=ak->t=0)->∀i,l8 ⟨dP,d_ VE⟩ (vc ⟨dP,d_ VE⟩ 39) (wE.drop 2) ⟨[(aM,.C 1),(nh,.L (N (.d (.int t)))),(fZ,.L (N (.d (.int m)))),(bH,.L ao)],[.dl [.int i],.cell (N (.ref 0))]⟩ (mK 1 k):=λt ht h0 i=>by
  refine⟨4,i,(by decide),λa i1 ha=>⟨uS (bN (mX (dF.mp ha)) (by decide)),?_⟩⟩
  refine E8 (f:=yS) (ok:=λi=>i<256) (Z:=λn=>[.dl [.int n],.cell (N (.ref 0))]) (λX I=>rfl) (λd a K h=>⟨256,a,(by decide),λj a' hj=>h j a' (dF.mp hj)⟩) _ i1 λl i2 h1 h2=>⟨l,rfl,h2,?_⟩
  have hl:fO 3 (·<256) l:=⟨qD (eZ (iW (h1.trans iA)) (dF.mp ha)),h2⟩;clear h1 h2 ha
  conv=>whnf
  refine gZ (λq=>?_) λq=>?_
  ·obtain rfl:m=1:=gy q;exact⟨(),i2,cH2,λbd i3 hb=>(λX I=>I (eV.mk (N (t,bd)) l) (S (eV.mk (N (t,bd)) l) i3 ⟨λX e=>by cases e;exact⟨ht,hb⟩,hl⟩))⟩
  ·obtain rfl:=h0 q;obtain rfl:=fN.mp ((iV.mp hm).resolve_left (sJ q));exact(λX I=>I (eV.mk ao l) (S (eV.mk ao l) i2 ⟨nofun,hl⟩))
 conv=>whnf
 refine gZ (λq=>⟨2,i1,(by decide),λb i2 hb=>?_⟩) λq=>?_
 ·conv=>whnf
  refine gZ (λX=>⟨(),i2,cH2,λt i3 ht=>?_⟩) λX=>?_
  ·have T:=dg t ht (λe=>by rw[e]at q;cases q) i3
   conv at T=>whnf
   conv=>whnf
   exact T
  ·have T:=dg 0 (jd _) (λX=>rfl) i2
   conv at T=>whnf
   conv=>whnf
   exact T
 ·have T:=dg 0 (jd _) (λX=>rfl) i1
  conv at T=>whnf
  conv=>whnf
  exact T
def r9:Tr:=λa_ o_ k_=>∀P_:Tr,(∀(l:J aa)(r:H){k},(∀(m r':H)(l':J aa),m<=2->r=r'+m->k (.d (.int m)) [.dl (l'.map .int),.dl [.int r']])->P_ [.ref 0,.ref 1] [.dl (l.map .int),.dl [.int r]] k)->P_ a_ o_ k_
theorem r9.mk(l:J aa)(r:H){k}(f5:(∀(m r':H)(l':J aa),m<=2->r=r'+m->k (.d (.int m)) [.dl (l'.map .int),.dl [.int r']])):r9 [.ref 0,.ref 1] [.dl (l.map .int),.dl [.int r]] k:=λP_ c_=>c_ l r f5
theorem bS4:aQ (aU x) (n+2) Mk r9:=fc x (q:=bB0) (l:=[(Al,CF)]) (by kernel_rfl) ⟨IY,cH2⟩ λX I u2 g=>g _ λl r k S=>by
 refine⟨l,λi l1=>⟨by decide,?_⟩⟩
 refine b_ (VA (1+i) (m:=3) (by decide)) λj hx=>?_
 have e:=hx.1;have hj:=hx.2
 conv=>whnf
 rw[show x7 (1+i) 3=(j:aa)from e]
 have vm:∀a b:H,b<=a->(a:aa) -b=((a -b:H):aa):=λa b h=>(Int.ofNat_sub h).symm;refine gZ (λq=>⟨jd _,?_⟩) λq=>⟨jd _,?_⟩
 ·have q:=dF.mp (gy q);have g:=S r 0 l1 (qD (mE q hj)) (mW r).symm;rw[show((0:H):aa)=(r:aa) -r from(Int.sub_self _).symm]at g
  exact g
 ·have q:=Qt λh=>sJ q (dF.mpr h);have g:=S j (r -j) l1 (qD hj) (cB3 q).symm;rw[<-vm r j q]at g
  exact g
theorem bS5(m:Fm)(o:J O):(jJ (len o) ⟨m,o⟩).o=o:=by
 unfold jJ
 split
 ·exact Ux o
 ·split
  ·show l7 _ o=o
   rw[Sz,ct9 (by rw[<-nc];exact ZH _ _)]
  ·rfl
theorem OJ{α:Type}{f:α->D}{b:α->aD}{P:α->Prop}{ts:J ai}{one:aD}{m:Fm}{t:PE->St->(aD->St->Prop)->Prop}{te:PE}{aY:St->(V->St->Prop)->Prop}{o:J O}(bM:α->St)(hS:∀a,(bM a).o=o)
  (h1:∀a k,P a->k (b a) (bM a)->jL ts one (.d (f a)) ⟨m,o⟩ λZ=>t te Z k)(h2:∀a(k:V->St->Prop),k (.d (f a)) (bM a)->aY (bM a) k):
  ∀(l:J α)(K:J V->J O->Prop),(∀a∈l,P a)->K ((l.filter b).map λa=>.d (f a)) o->jW ts one m (nX t [te]) aY (l.map f) o K:=λi_=>by
 induction i_ with
 |nil=>exact λK X h=>h
 |cons a l ih=>
  intro K hp h;refine h1 a _ (hp a (.head _)) ?_;have next:=λK=>ih K λa h=>hp a (.tail _ h);cases q:b a with
  |true=>
   rw[cB7 q]at h
   refine h2 a _ ?_
   show lV (nt (len o) (.d (f a)) ⟨m,(bM a).o⟩).o _
   rw[hS,o7,IM];exact next _ h
  |false=>
   rw[cB8 (by rw[q];exact nofun)]at h
   show lV (jJ (len o) ⟨m,(bM a).o⟩).o _
   rw[hS,o7,bS5];exact next _ h
noncomputable def AU(m:b6)(c:V):O:=.inst s7 [(fy,.d (.list (m.k.map mP))),(p_,.d (.list (m.i.map fh.d))),(mF,.d (.list (m.f.map cW.d))),(qd,.d (.list (m.t.map i6.d))),(qc,.d (.list (m.m.map nE))),(pZ,.d (.list (m.g.map iy.d))),(pY,.d (.list (m.e.map ju.d))),(nU,.d (jq m.s)),(pX,.d (.list (m.l.map dz.d))),(nP,.d (.list (m.d.map eV.d))),(qL,c)]
noncomputable def OL(m:b6):J H:=cV.filter (jI m)
noncomputable def Fy(m:b6):D:=.list ((OL m).map fX)
def Fz(m:b6):Prop:=fO 14 (λf:cW=>f.b.length<=12) m.f
def AV:Tr:=λa_ o_ k_=>∀P_:Tr,(∀(m:b6){k},Fz m->k (.d (Fy m)) []->P_ [.d m.D] [] k)->(∀(m:b6)(cs){k},Fz m->k (.d (Fy m)) [AU m (.ref 1),.dl cs]->P_ [.ref 0] [AU m (.ref 1),.dl cs] k)->P_ a_ o_ k_
theorem AV.fz(m:b6){k}(f5:Fz m)(lg:k (.d (Fy m)) []):AV [.d m.D] [] k:=λP_ c_ u_=>c_ m f5 lg
theorem AV.lv(m:b6)(cs){k}(f5:Fz m)(lg:k (.d (Fy m)) [AU m (.ref 1),.dl cs]):AV [.ref 0] [AU m (.ref 1),.dl cs] k:=λP_ u_ c_=>c_ m cs f5 lg
noncomputable def zb(l:J cW):J fj:=l.flatMap λf=>f.b.filter qm
theorem bS6{T:Tb}{o:J O}:∀(l:J cW)(acc:J V)(K:J V->J O->Prop),(∀f∈l,f.b.length<=12)->acc.length+12*l.length<=1000->K (acc++(zb l).map λi=>.d i.d) o->
  xe lR aM [(lR,.L ao),(aM,.L ao)] (Av (vc T 38).e (.aG (.Y lR) dK)) (nX (vc T 38).t [.cmp .In (.sub (.Y aM) (.cI 0)) (.tup [.cI 64520,.cI 64521])]) ((vc T 38).e (.Y aM)) (l.map cW.d) acc o K:=λi_=>by
 induction i_ with
 |nil=>
  intro acc K X I h;rw[show zb []=[]from rfl,Yc,j3]at h
  exact h
 |cons f l ih=>
  intro acc K hb hl h;have h1:=hb f (.head _);have Ny:acc.length+12+12*l.length<=1000:=by rw[wB,rC 12];exact hl
  show xe _ _ _ _ _ _ (f.d::_) _ _ _
  refine⟨?_,?_⟩
  ·rw[cO];exact bN (bN (rD h1 _) (bN (gF ..) Ny)) (by decide)
  refine OJ (P:=kC) (b:=qm) (λi:fj=>⟨[(lR,.L ao),(aM,.L (N (.d i.d)))],o⟩) (λX=>rfl) (λi k X h=>?_) (λi k h=>h) f.b _ (λX I=>trivial) ?_
  ·exact h
  ·refine ih _ K (λf h=>hb f (.tail _ h)) ?_ ?_
   ·rw[f6,cO];exact bN (Ku (rD (bN (aq3 ..) h1) _) _) Ny
   ·rw[show zb (f::l)=f.b.filter qm++zb l from rfl,zR,<-jx]at h
    exact h
theorem TK{α:Type}{f:α->D}{l:J α}:f9 (l.map f)=f9 l:=by cases l<;>rfl
theorem bS7{α:Type}{a b:J α}:f9 (a++b)=bz (f9 a) (f9 b):=by cases a<;>rfl
theorem TO{α:Type}{b:α->aD}:∀l:J α,(!f9 (l.filter b))=l.any b:=λi_=>by
 induction i_ with
 |nil=>exact rfl
 |cons a l ih=>
  rw[ap1,<-ih];cases q:b a with
  |true=>rw[cB7 q];rfl
  |false=>rw[cB8 (by rw[q];exact nofun)];rfl
theorem bS8(l:J cW):(!f9 (zb l))=l.any λf=>f.b.any qm:=by
 induction l with
 |nil=>rfl
 |cons f l ih=>
  rw[ap1,<-ih,<-TO,show zb (f::l)=f.b.filter qm++zb l from rfl,bS7]
  cases f9 (f.b.filter qm)<;>rfl
noncomputable def AW(m:b6)(sl us:J D):V:=.nO [(1,(.list (m.k.map mP))),(2,(.list (m.i.map fh.d))),(3,(.list (m.f.map cW.d))),(4,(.list (m.t.map i6.d))),(5,(.list (m.m.map nE))),(6,(.list (m.g.map iy.d))),(7,(.list (m.e.map ju.d))),(8,(.list sl)),(9,(.list (m.l.map dz.d))),(10,(.list (m.f.map cW.d))),(11,(.list (m.d.map eV.d))),(12,(.list us))]
noncomputable def OM:PE:=.cmp .NotEq (.sub (.Y wW) (.Y bw)) (.lst ak [])
noncomputable def ON(h:H)(o:J O)(n:H):St:=⟨[(bw,.L (N (.d (fX n)))),(wW,.C h)],o⟩
noncomputable def OO(m:b6):bq (J D)->J O->J O
 |none,r=>r
 |some cs,r=>AU m (.ref 1)::.dl cs::r
noncomputable def OP:bq (J D)->H
 |none=>0
 |some X=>2
theorem bS9{T:Tb}{m:b6}{sl us:J D}{ho:bq (J D)}(h8:(!f9 sl)=jI m 8)(FA:(!f9 us)=jI m 12)(n:H)(k:aD->St->Prop)(hn:n∈cV)(S:k (jI m n) (ON (OP ho) (OO m ho [.cell (N (AW m sl us))]) n)):jL [bw] ah (.d (fX n)) ⟨[(bw,.L ao),(wW,.C (OP ho))],OO m ho [.cell (N (AW m sl us))]⟩ λZ=>(vc T 38).t OM Z k:=by
 revert S
 have h8:∀{P:aD->Prop},P (jI m 8)->P (!f9 sl):=λh=>h8▸h;have FA:∀{P:aD->Prop},P (jI m 12)->P (!f9 us):=λh=>FA▸h;induction ho with
 |none=>exact eW (P:=λn=>k (jI m n) (ON 0 [.cell (N (AW m sl us))] n)->jL [bw] ah (.d (fX n)) ⟨[(bw,.L ao),(wW,.C 0)],[.cell (N (AW m sl us))]⟩ λZ=>(vc T 38).t OM Z k) hn ⟨λS=>⟨_,rfl,S⟩,λS=>⟨_,rfl,S⟩,λS=>⟨_,rfl,S⟩,λS=>⟨_,rfl,S⟩,λS=>⟨_,rfl,S⟩,λS=>⟨_,rfl,S⟩,λS=>⟨_,rfl,S⟩,λS=>⟨_,rfl,h8 (P:=λb=>k b _) S⟩,λS=>⟨_,rfl,S⟩,λS=>⟨_,rfl,FA (P:=λb=>k b _) S⟩,λS=>⟨_,rfl,S⟩,λS=>⟨_,rfl,S⟩,cH2⟩
 |some cs=>exact eW (P:=λn=>k (jI m n) (ON 2 [AU m (.ref 1),.dl cs,.cell (N (AW m sl us))] n)->jL [bw] ah (.d (fX n)) ⟨[(bw,.L ao),(wW,.C 2)],[AU m (.ref 1),.dl cs,.cell (N (AW m sl us))]⟩ λZ=>(vc T 38).t OM Z k) hn ⟨λS=>⟨_,rfl,S⟩,λS=>⟨_,rfl,S⟩,λS=>⟨_,rfl,S⟩,λS=>⟨_,rfl,S⟩,λS=>⟨_,rfl,S⟩,λS=>⟨_,rfl,S⟩,λS=>⟨_,rfl,S⟩,λS=>⟨_,rfl,h8 (P:=λb=>k b _) S⟩,λS=>⟨_,rfl,S⟩,λS=>⟨_,rfl,FA (P:=λb=>k b _) S⟩,λS=>⟨_,rfl,S⟩,λS=>⟨_,rfl,S⟩,cH2⟩
theorem CS{α:Type}{g:α->D}{l:J α}{o:J O}{k:V->J O->Prop}(h:k (.d (.list (l.map g))) o):iF ak (l.map λa=>.d (g a)) o k:=by unfold iF;rw[E6];exact h
theorem TT{T:Tb}{o:J O}{m:b6}(h:Fz m){k:V->J O->Prop}(S:k (.d (.list ((zb m.f).map fj.d))) o):xe lR aM [(lR,.L ao),(aM,.L ao)] (Av (vc T 38).e (.aG (.Y lR) dK)) (nX (vc T 38).t [.cmp .In (.sub (.Y aM) (.cI 0)) (.tup [.cI 64520,.cI 64521])]) ((vc T 38).e (.Y aM)) (m.f.map cW.d) [] o λvs o=>iF ak vs o k:=
 bS6 m.f [] _ h.2 (bN (rD (zV 12 h.1) 0) (by decide)) (CS S)
theorem OQ{T:Tb}{m:b6}{sl us:J D}{ho:bq (J D)}(h8:(!f9 sl)=jI m 8)(FA:(!f9 us)=jI m 12){k:V->J O->Prop}(S:k (.d (Fy m)) (OO m ho [.cell (N (AW m sl us))])):
  jW [bw] ah [(bw,.L ao),(wW,.C (OP ho))] (nX (vc T 38).t [OM]) ((vc T 38).e (.Y bw)) (cV.map fX) (OO m ho [.cell (N (AW m sl us))]) λvs o=>iF ak vs o k:=
 OJ (P:=(·∈cV)) (ON (OP ho) _) (λX=>rfl) (λn k h g=>bS9 h8 FA n k h g) (λn k h=>h) cV _ (λn h=>h) (CS S)
theorem OS{m:b6}{sl:J D}(h:f9 sl=(jq m.s).o8):(!f9 sl)=jI m 8:=bR (!·) h
theorem OT(m:b6):(!f9 ((zb m.f).map fj.d))=jI m 12:=(bR (!·) TK).trans (bS8 m.f)
theorem TW:aQ (aU x) (n+1) Hw AV:=fc x (q:=bB2) (l:=[]) (by kernel_rfl) trivial λX I u2 g=>by
 refine g _ (λm k h S=>?_) λm cs k h S=>?_
 ·refine TT (T:=⟨dP,d_ []⟩) h ?_
  conv=>whnf
  refine gZ (λq=>?_) λq=>?_
  ·conv=>whnf
   refine OQ (T:=⟨dP,d_ []⟩) (m:=m) (sl:=[]) (ho:=none) (OS q.symm) (OT m) ?_;exact S
  ·conv=>whnf
   refine OQ (T:=⟨dP,d_ []⟩) (m:=m) (sl:=[jq m.s]) (ho:=none) (OS q.symm) (OT m) ?_;exact S
 ·refine TT (T:=⟨dP,d_ []⟩) h ?_
  conv=>whnf
  refine gZ (λq=>?_) λq=>?_
  ·conv=>whnf
   refine OQ (T:=⟨dP,d_ []⟩) (m:=m) (sl:=[]) (ho:=(N cs)) (OS q.symm) (OT m) ?_;exact S
  ·conv=>whnf
   refine OQ (T:=⟨dP,d_ []⟩) (m:=m) (sl:=[jq m.s]) (ho:=(N cs)) (OS q.symm) (OT m) ?_;exact S
theorem OU{α:Type}{f g:α->D}{y:ai}{M:Fm}{t:PE->St->(aD->St->Prop)->Prop}{aY:St->(V->St->Prop)->Prop}{o:J O}{P:α->Prop}{k:V->J O->Prop}(gQ:∀(a:α)(k:V->St->Prop),P a->k (.d (g a)) ⟨(y,.L (N (.d (f a))))::M,o⟩->aY ⟨(y,.L (N (.d (f a))))::M,o⟩ k):
  ∀(l:J α)(K:J V->J O->Prop),(∀a∈l,P a)->K (l.map λa=>.d (g a)) o->jW [y] ah ((y,.L ao)::M) (nX t []) aY (l.map f) o K:=λi_=>by
 induction i_ with
 |nil=>exact λK X h=>h
 |cons a l ih=>
  intro K hp h;refine QT (u:=.d (f a)) ?_;refine gQ a _ (hp a (.head _)) ?_
  show lV _ _
  rw[o7,IM];exact ih _ (λb h=>hp b (.tail _ h)) h
theorem T0{α:Type}{g:α->D}{l:J α}{o:J O}{k:V->J O->Prop}(h:k (.ref (len o)) (o++[.dl (l.map g)])):iF ah (l.map λa=>.d (g a)) o k:=by unfold iF;rw[E6];exact h
noncomputable def AX(i:aa)(j t:H):aa:=x7 (zS i (128^t)) 128+bC (decide ((t:aa)<(j:aa) -1)) 128 0
theorem bT0(j:H):∀i:aa,fJ (ny i j)=(kJ j).map λt=>.int (AX i j t):=by
 have c1:∀t j:H,decide (((t+1:H):aa)<((j+1:H):aa) -1)=decide (t+1<j):=λt j=>by
  rw[show((j+1:H):aa) -1=j from uh (j:aa) 1]
  exact X8.mpr dF
 have fd:∀(i:aa)(t:H),zS i (128^t)=i/128^t:=λi t=>QD _ (Int.pow_nonneg (by decide))
 have fm:∀i:aa,x7 i 128=i% 128:=λi=>cB9 _ (by decide)
 have tn:∀i:aa,(((i% 128).toNat:H):aa)=i% 128:=λi=>zO (QE _ (by decide))
 induction j with
 |zero=>exact λX=>rfl
 |succ j ih=>
  intro i;rw[List.range_succ_eq_map,ai8,n_];have z:AX i (j+1) 0=i% 128+bC (decide (0<j)) 128 0:=by
   unfold AX;rw[fd,fm,Int.pow_zero,cs8,show((j+1:H):aa) -1=j from uh (j:aa) 1]
   congr 2;exact X8.mpr dF
  have sc:∀t,AX i (j+1) (t+1)=AX (i/128) j t:=λt=>by
   unfold AX;rw[fd,fd,fm,fm,c1,X3,X4,<-Int.ediv_ediv_of_nonneg (by decide)]
   congr 2;refine X8.mpr ⟨λh=>?_,λh=>?_⟩
   ·exact Int.lt_sub_right_of_add_lt (dF.mpr h)
   ·exact dF.mp (Int.add_lt_of_lt_sub_right h)
  rw[z];induction j using ji with
  |zero=>
   show[D.int ((i% 128).toNat:H)]=_
   rw[tn]
   show _=[D.int (i% 128+0)]
   rw[Qw]
  |succ j=>
   show D.int (((i% 128).toNat+128:H):aa)::fJ (ny (i/128) (j+1))=_
   rw[ih,Dz,tn];exact bR (_::·) (ao3 λt X=>bR D.int (sc t).symm)
theorem VF:∀(j n:H),ny n j=tG n j
 |0,X=>rfl
 |1,n=>rfl
 |j+2,n=>bR (_::·) (VF (j+1) (n/128))
theorem T1:∀t<10,(128:aa)^t≠0/\((128:aa)^t).natAbs<2^128/\((128:aa)^t).natAbs<2^64:=by decide
theorem OV{t:H}(h:t<=100):0<=(t:aa)/\(t:aa)<=100000/\Int.natAbs 128<2^64:=⟨nn,iz.mpr (bN h (by decide)),by decide⟩
def VG:Tr:=λa_ o_ k_=>∀P_:Tr,(∀(i z:aa)(j:H){k},z=j->j<=10->k (.ref 0) [.dl (fJ (ny i j))]->P_ [.d (.int i),.d (.int z)] [] k)->P_ a_ o_ k_
theorem T2:aQ (aU x) (n+1) Hp VG:=fc x (q:=bz4) (l:=[]) (by kernel_rfl) trivial λX I u2 g=>g _ λi z j k e hj S=>by
 subst e;refine⟨uS (bN hj (by decide)),?_⟩
 refine OU (k:=k) (g:=λt=>.int (AX i j t)) (f:=λt:H=>.int t) (P:=(·<j)) (o:=[.cell (N (.d (.int i))),.cell (N (.d (.int j)))]) (λt K ht h=>?_) (kJ (j:aa).toNat) _ (λt h=>Bg.mp h) ?_
 ·have p:=T1 t (oX ht hj);refine⟨OV (bN (mX ht) (bN hj (by decide))),⟨p.1,p.2.1⟩,by decide,?_⟩
  unfold AX at h
  exact qY (P:=λz=>K (.d (.int (x7 (zS i (128^t)) 128+z))) _) h (λX h=>h) λX h=>h
 ·rw[bT0]at S
  refine T0 ?_;exact S
theorem bT1{n t:H}(h:n<128^(t+1)):nG n<=t+1:=(Oj t n h).elim λj h=>h.1.symm▸lB h.2.1
theorem Uf{n:H}(h:cY n):nG n<=5/\n<128^nG n/\1<=nG n:=(Oj 4 n (mE h (by decide))).elim λj h=>by rw[h.1];exact⟨lB h.2.1,h.2.2,jd _⟩
def UF:Tr:=λa_ o_ k_=>∀P_:Tr,(∀(n p:H)(z:aa){k},z=n->cY n->k (.ref 0) [.dl (fJ (tU p n).oct)]->P_ [.d (.int z),.d (.int p)] [] k)->P_ a_ o_ k_
noncomputable def bT2(n p t:H):Fm:=[(bw,.L (N (.d (.int n)))),(cy,.L (N (.d (.int p)))),(d7,.L (N (.d (.int t))))]
inductive UV(n p:H):H->St->Prop
 |mk (t j:H):1<=t->t+j=nG n->UV n p j ⟨bT2 n p t,[]⟩
theorem U2(t:H):((128:aa)^t)=((128^t:H):aa):=(Gn 128 t).symm
theorem V'{a b:H}(q:decide (((b:H):aa)<(a:aa))=ah):(b:aa)=((min a b:H):aa):=by rw[Qs (mX (dF.mp (gy q)))]
theorem Wp{a b:H}(q:decide (((b:H):aa)<(a:aa))=ak):(a:aa)=((min a b:H):aa):=by rw[Qq (Qt λg=>sJ q (dF.mpr g))]
theorem WF:aQ (aU x) (n+2) s9 UF:=fc x (q:=bB3) (l:=[(Hp,VG)]) (by kernel_rfl) ⟨T2,cH2⟩ λX I u2 g=>g _ λn p z k e h S=>by
 subst e;obtain⟨m5,mf,m1⟩:=Uf h;refine⟨UV n p,nG n -1,.mk 1 _ (jO _) (cA4 m1),?_⟩;intro j Z h;cases h with|mk t j h1 h2=>
 have t5:t<=5:=bN (h2▸gF ..) m5;refine⟨OV (bN t5 (by decide)),?_⟩
 conv=>whnf
 refine gZ (λq=>?_) λq=>?_
 ·have q:(128:aa)^t<=n:=gy q;rw[U2]at q
  induction j using ji with
  |zero=>exact absurd (iz.mp q) (Gq ((show t=nG n from h2)▸mf))
  |succ j=>exact⟨j,m7 _,.mk (t+1) j (jd _) ((xY ..).trans h2)⟩
 ·have q:¬(128:aa)^t<=n:=sJ q;rw[U2]at q
  have q:=W_ λh=>q (iz.mpr h);obtain rfl:nG n=t:=cC0 (by cases t with|zero=>cases h1|succ t=>exact bT1 q) (h2▸gF ..)
  have S:k (.ref 0) [.dl (fJ (ny n (min 5 (nG n+p))))]:=by rw[VF];exact S
  have le:min 5 (nG n+p)<=10:=bN (DB ..) (by decide)
  conv=>whnf
  exact gZ (λq=>(λX I=>I n _ _ (V' (b:=nG n+p) q) le S)) λq=>(λX I=>I n _ _ (Wp (b:=nG n+p) q) le S)
def WP:Tr:=λa_ o_ k_=>∀P_:Tr,(∀(i:aa)(b p:H){k},b∈[32,33,64]->ql b i->k (.d (.list (fJ (tS b p i).oct))) []->P_ [.d (.int i),.d (.int b),.d (.int p)] [] k)->P_ a_ o_ k_
noncomputable def OW(i:aa)(b p t:H):Fm:=[(bw,.L (N (.d (.int i)))),(qK,.L (N (.d (.int b)))),(cy,.L (N (.d (.int p)))),(d7,.L (N (.d (.int t))))]
inductive Js(i:aa)(b p:H):H->St->Prop
 |mk (t j:H):t+1+j=rX i->Js i b p j ⟨OW i b p (t+1),[]⟩
def VH(i:aa)(t:H):Prop:=-(64*128^t)<=i/\i<64*128^t
theorem W'{b:H}(hb:b∈[32,33,64]):zS ((b:aa)+6) 7=(((b+6)/7:H):aa)/\(b+6)/7<=10/\∃c,(b+6)/7=c+1/\((2:aa)^(b -1)<=64*128^c):=
 eW (P:=λb:H=>zS ((b:aa)+6) 7=(((b+6)/7:H):aa)/\(b+6)/7<=10/\∃c,(b+6)/7=c+1/\((2:aa)^(b -1)<=64*128^c)) hb ⟨⟨rfl,by decide,4,rfl,by decide⟩,⟨rfl,by decide,4,rfl,by decide⟩,⟨rfl,by decide,9,rfl,by decide⟩,cH2⟩
theorem bT3:aQ (aU x) (n+2) Mm WP:=fc x (q:=bB4) (l:=[(Hp,VG)]) (by kernel_rfl) ⟨T2,cH2⟩ λX I u2 g=>g _ λi b p k hb hi S=>by
 have hx:=W' hb;have e7:=hx.1;have VI:=hx.2.1;refine b_ hx.2.2 λc hx=>?_;have ec:=hx.1;have p2:=hx.2;have fit:VH i c:=⟨jj (Qd p2) hi.1,Bo hi.2 p2⟩;refine b_ (Jh i c fit.1 fit.2) λj0 hx=>?_;have f1:=hx.1;have f2:=hx.2.1;have f3:=hx.2.2;have low:∀t,VH i t->rX i<=t+1:=λt h=>(Jh i t h.1 h.2).elim λj h=>h.1.symm▸lB h.2.1;have j10:j0<10:=oX (ap8 f2) (bN (iW ec.symm) VI);have S:∀m,m=min ((b+6)/7) (rX i+p)->k (.d (.list (fJ (ny i m)))) []:=λm e=>e▸S;clear hb hi fit ec p2;refine⟨Js i b p,j0,.mk 0 _ ((rC ..).trans f1.symm),?_⟩;intro j Z h;cases h with|mk t j h=>
 have t9:t<10:=eZ (Km (bN (gF ..) (iW (h.trans f1)))) j10;have pk:=T1 t t9;have e1:((t+1:H):aa) -1=t:=uh (t:aa) 1;have more:¬VH i t->Js i b p j ⟨OW i b p (t+1),[]⟩->∃m,m<j/\Js i b p m ⟨OW i b p (t+2),[]⟩:=λnf X=>by
  induction j using ji with
  |zero=>exact absurd ⟨f3.1,f3.2⟩ ((zL (h.trans f1):t=j0)▸nf)
  |succ j=>exact⟨j,m7 _,.mk (t+1) j ((xY ..).trans h)⟩
 have JX:Js i b p j ⟨OW i b p (t+1),[]⟩:=.mk t j h
 conv=>whnf
 rw[e1];refine⟨OV (bN (mX t9) (by decide)),⟨by decide,pk.2.2⟩,?_⟩
 conv=>whnf
 refine gZ (λq=>more (λf=>?_) JX) λq=>?_
 ·have q:i< -64*128^t:=gy q;rw[X_]at q
  exact X0 _ (Bo q f.1)
 conv=>whnf
 rw[e1];refine⟨OV (bN (mX t9) (by decide)),⟨by decide,pk.2.2⟩,?_⟩
 conv=>whnf
 refine gZ (λq2=>more (λf=>X0 _ (Gg (gy q2) f.2)) JX) λq2=>⟨by decide,?_⟩
 have q:¬i< -64*128^t:=sJ q;rw[X_]at q
 obtain e:rX i=t+1:=cC0 (low t ⟨nN.mp q,Gp.mp (sJ q2)⟩) (h▸gF ..);rw[e]at S
 conv=>whnf
 rw[show zS ((b:aa)+6) 7=(((b+6)/7:H):aa)from e7]
 exact gZ (λq=>(λX I=>I i _ _ (V' (b:=t+1+p) q) (bN (DB ..) VI) (S _ rfl))) λq=>(λX I=>I i _ _ (Wp (b:=t+1+p) q) (bN (DB ..) VI) (S _ rfl))
def dG(l:J D):Prop:=l.length<=1000000
theorem cZ{a b:J D}(h:dG (a++b)):dG a:=bN (by rw[f6];exact gF ..) h
theorem fC{a b:J D}(h:dG (a++b)):dG b:=bN (by rw[f6];exact x6 ..) h
theorem dW{l:J D}(h:dG l):l.length<=1048576:=bN h (by decide)
theorem zc{l:J D}{d:D}(h:dG (l++[d])):l.length<1048576:=eZ (cZ h) (by decide)
noncomputable def oF(p n:H):J D:=fJ (tU p n).oct
noncomputable def app(a b:J D):J D:=a++b
noncomputable def oL(p:H)(ps:J (J D)):J D:=ps.foldl app (oF p ps.length)
theorem VJ:∀(ps:J (J D))(a:J D),dG (ps.foldl app a)->dG a
 |[],X,h=>h
 |b::ps,a,h=>cZ (VJ ps (a++b) h)
def AY:Tr:=λa_ o_ k_=>∀P_:Tr,(∀(ps:J (J D))(p:H){k},cY ps.length->dG (oL p ps)->k (.d (.list (oL p ps))) []->P_ [.d (.list (ps.map .list)),.d (.int p)] [] k)->P_ a_ o_ k_
theorem FD:aQ (aU x) (n+3) w6 AY:=fc x (q:=bB5) (l:=[(s9,UF)]) (by kernel_rfl) ⟨WF,cH2⟩ λX I u2 g=>g _ λps p k h hf S=>by
 have e:(ps.map D.list).length=ps.length:=cO ..;unfold oL at hf S
 rw[<-e]at h hf S
 refine(λX I=>I ((ps.map D.list).length) p _ rfl h ?_);refine AM (f:=D.list) (w:=app) (bM:=λt=>⟨[(lH,.L (N (.d (.list (ps.map .list))))),(cy,.L (N (.d (.int p)))),(bH,.L (N (.ref 0))),(fK,.L ao)],[.dl t]⟩) (bG:=λys t=>dG (ys.foldl app t)) (λy ys t next hI hn=>?_) ps _ hf λX=>?_
 ·exact⟨dW (VJ ys _ hI),hn hI⟩
 ·exact S
noncomputable def pJ(c:H):J D:=[.int c]
noncomputable def oW(p:H)(y:ai):J D:=oL p ((pQ y).map pJ)
noncomputable def Jt(l:J H):D:=.list (fJ l)
noncomputable def bT4:V:=.uq [(az [],(Jt [])),(az [97],(Jt [97])),(az [233,98],(Jt [195,169,98])),(az [8364],(Jt [226,130,172])),(az [66376],(Jt [240,144,141,136]))]
def VK:Tr:=n7 IX kC λX=>bT4
theorem bT5:aQ (aU x) (n+1) Hr VK:=k7 (q:=bz6) (l:=[]) (by kernel_rfl) trivial λX k I S=>S
def OX:Tr:=λa_ o_ k_=>∀P_:Tr,(∀(y:ai)(p:H){k},kQ y->dG (oW p y)->k (.d (.list (oW p y))) []->P_ [.d (.str y),.d (.int p)] [] k)->P_ a_ o_ k_
theorem VL:aQ (aU x) (n+4) Em OX:=fc x (q:=xl) (l:=[(Hr,VK),(w6,AY)]) (by kernel_rfl) ⟨bT5,FD,cH2⟩ λX I u2 g=>g _ λy p k h=>
 eW (P:=λy=>dG (oW p y)->k (.d (.list (oW p y))) []->lK xl [(Hr,VK),(w6,AY)] [.d (.str y),.d (.int p)] [] k) h
  ⟨λhf S=>⟨(),cH2,⟨_,⟨rfl,(λX I=>I [[.int (97:H)]] p (by decide:1<4294967296) hf S)⟩⟩⟩,
  λhf S=>⟨(),cH2,⟨_,⟨rfl,(λX I=>I [] p (by decide:0<4294967296) hf S)⟩⟩⟩,
  λhf S=>⟨(),cH2,⟨_,⟨rfl,(λX I=>I [[.int (195:H)],[.int (169:H)],[.int (98:H)]] p (by decide:3<4294967296) hf S)⟩⟩⟩,
  λhf S=>⟨(),cH2,⟨_,⟨rfl,(λX I=>I [[.int (226:H)],[.int (130:H)],[.int (172:H)]] p (by decide:3<4294967296) hf S)⟩⟩⟩,
  λhf S=>⟨(),cH2,⟨_,⟨rfl,(λX I=>I [[.int (240:H)],[.int (144:H)],[.int (141:H)],[.int (136:H)]] p (by decide:4<4294967296) hf S)⟩⟩⟩,cH2⟩
noncomputable def CT(i:aa):J D:=[.int (128+i)]
noncomputable def oK(p:H)(l:J aa):J D:=oL p (l.map CT)
def VM:Tr:=λa_ o_ k_=>∀P_:Tr,(∀(l:J aa)(p:H){k},cY l.length->dG (oK p l)->k (.d (.list (oK p l))) []->P_ [.d (oH l),.d (.int p)] [] k)->P_ a_ o_ k_
theorem Xt:aQ (aU x) (n+4) Hx VM:=fc x (q:=bB6) (l:=[(w6,AY)]) (by kernel_rfl) ⟨FD,cH2⟩ λX I u2 g=>g _ λl p k h hf S=>pG (f:=.int) (g:=λi=>.list (CT i)) (o:=[]) (λi k h=>h) l (by have e:l.map (λi=>D.list (CT i))=(l.map CT).map .list:=(n_ ..).symm;rw[e];exact(λX I=>I (l.map CT) p ((cO CT).symm▸h) hf S))
def XB:Tr:=λa_ o_ k_=>∀P_:Tr,(∀(c:aa)(ls){k},oh c=ls->k (.d (.str (az ls))) []->P_ [.d (.int c)] [] k)->P_ a_ o_ k_
noncomputable def bT6(c:aa):Fm:=[(d8,.L (N (.d (.int c)))),(fQ,.L ao),(vI,.L ao),(f7,.L ao)]
abbrev KY:=J (aa×aa×J H)
noncomputable def Ju(rs:KY):J (H×Tr):=[(Hq,n7 IX kC λX=>.d (.tup (rs.map IK)))]
theorem bT7{c:aa}{k:V->J O->Prop}{r0:KY}:∀rs:KY,k (.d (.str (az (NX c rs)))) []->gT [fQ,vI,f7] [fQ,f7,vI] ak 0 ((vc ⟨dP,d_ (Ju r0)⟩ 39).s xn) (rs.map IK) ⟨bT6 c,[]⟩ (yG (l8 ⟨dP,d_ (Ju r0)⟩ (vc ⟨dP,d_ (Ju r0)⟩ 39) [.ret (.cS t_)]) (mK 0 k)):=λi_=>by
 induction i_ with
 |nil=>exact λh=>h
 |cons r rs ih=>
  intro h
  show gT _ _ _ _ _ (IK r::_) _ _
  conv=>whnf
  refine Uw (P:=λl=>k (.d (.str (az l))) []) (A:=decide (r.1<=c)) (B:=decide (c<=r.2.1)) h (λh=>h) (λh=>?_) λh=>?_
  ·have T:=ih h
   conv=>whnf
   exact T
  ·have T:=ih h
   conv=>whnf
   exact T
theorem bT8{c:aa}{k:V->J O->Prop}(rs:KY)(S:k (.d (.str (az (NX c rs)))) []):lK xp (Ju rs) [.d (.int c)] [] k:=by
 have T:=bT7 (r0:=rs) rs S;refine⟨(),cH2,?_⟩
 conv=>whnf
 exact T
theorem bT9:aQ (aU x) (n+2) Mn XB:=fc x (q:=xp) (l:=Ju x9) (by kernel_rfl) ⟨Ch,cH2⟩ λX I u2 g=>g _ λc ls k e S=>by subst e;exact bT8 x9 S
end
section
open Wh (cu)
variable{w:bU}{bJ s:aE}{x:cu w bJ s}{n p:H}
noncomputable def rep(s:J D)(r:l5):J D:=s++vh (r.1:aa).toNat (.int r.2)
noncomputable def uX(t:aa)(r:l5):aa:=t+(r.1:H)
structure AZ(R:J l5)(s:J D)(l:J aa):Prop where
 e:R.foldl rep s=s++l.map .int
 t:∀t,R.foldl uX t=t+(l.length:H)
 k:∀r∈R,r.2∈[-1,-2]
 n:R.length<=l.length+1
theorem bU0{R:J l5}{k:aa}{s:J D}{l:J aa}(h:AZ R.reverse s l)(S:k∈[-1,-2]):AZ (CJ R k).reverse s (l++[k]):=by
 have eY:AZ (((1,k)::R).reverse) s (l++[k]):=by
  rw[Dj];refine⟨?_,λt=>?_,λr hr=>?_,?_⟩
  ·rw[Yd,h.e,zR,<-jx];rfl
  ·rw[Yd,h.t,f6,Dz,<-zT];rfl
  ·rcases gK.mp hr with hr|hr
   ·exact h.k r hr
   ·rw[fN.mp hr];exact S
  ·rw[f6,f6];exact Ku h.n 1
 induction R using eT with
 |nil=>exact eY
 |cons r R=>
  show AZ (List.reverse (bC (decide (r.2=k)) ((r.1+1,k)::R) ((1,k)::r::R))) s (l++[k])
  cases q:decide (r.2=k)with
  |false=>exact eY
  |true=>
   obtain⟨h1,h2,h3,h4⟩:=h;obtain⟨m,i⟩:=r;obtain rfl:k=i:=(gy q).symm;rw[Dj]at h1 h2 h3 h4
   show AZ (((m+1,k)::R).reverse) s (l++[k])
   rw[Dj];refine⟨?_,λt=>?_,λr hr=>?_,?_⟩
   ·rw[Yd]at h1|-
    have e:∀z:J D,rep z (m+1,k)=rep z (m,k)++[.int k]:=λz=>(bR (z++·) List.replicate_succ').trans (jx ..).symm
    show rep _ (m+1,k)=_
    rw[e,zR,<-jx,<-h1];rfl
   ·have h2:=h2 t;rw[Yd]at h2|-
    have e:∀z:aa,uX z (m+1,k)=uX z (m,k)+1:=λz=>(zT z m 1).symm
    show uX _ (m+1,k)=_
    rw[e,f6,Dz,<-zT,<-h2];rfl
   ·rcases gK.mp hr with hr|hr
    ·exact h3 r (iN _ hr)
    ·rw[fN.mp hr];exact S
   ·rw[f6]at h4|-
    rw[f6];exact xU h4
theorem bU1{s:J D}:∀(l a:J aa)(R:J l5),(∀k∈l,k∈[-1,-2])->AZ R.reverse s a->AZ (l.foldl CJ R).reverse s (a++l):=λi_=>by
 induction i_ with
 |nil=>exact λa R X h=>by rw[j3];exact h
 |cons k l ih=>
  intro a R S h;have:=ih (a++[k]) (CJ R k) (λi hi=>S i (.tail _ hi)) (bU0 h (S k (.head _)));rw[jx]at this
  exact this
theorem bU2:∀(l:J aa)(s:J D),(∀k∈l,k∈[-1,-2])->(l.map λk=>((1:H),k)).foldl rep s=s++l.map .int/\∀t,(l.map λk=>((1:H),k)).foldl uX t=t+(l.length:H):=λi_=>by
 induction i_ with
 |nil=>exact λs X=>⟨(j3 s).symm,λt=>(Qw t).symm⟩
 |cons k l ih=>intro s h;obtain⟨h1,h2⟩:=ih (s++[.int k]) λi hi=>h i (.tail _ hi);exact⟨h1.trans (jx ..),λt=>(h2 (t+1)).trans (by rw[Kn,Dz,zT,Kv 1];rfl)⟩
theorem bU3(p:H){l:J aa}(h:∀k∈l,k∈[-1,-2]):AZ (tX p l) [] l:=by
 unfold tX;cases bX p 0 with
 |true=>exact bU1 l [] [] h ⟨rfl,λt=>(Qw t).symm,nofun,qw _⟩
 |false=>
  obtain⟨h1,h2⟩:=bU2 l [] h;refine⟨h1,λt=>(h2 (t+0)).trans (by rw[Qw]),λr hr=>?_,lB (iW (cO ..))⟩
  rcases iV.mp hr with rfl|hr
  ·exact .tail _ (.head _)
  ·obtain⟨k,S,rfl⟩:=qA.mp hr;exact h k S
theorem XP:∀(R:J l5)(t:aa),t<=R.foldl uX t
 |[],t=>zW t
 |r::R,t=>jj (X5 nn) (XP R _)
theorem XV:∀(R:J l5)(s:J D),s.length<=(R.foldl rep s).length
 |[],s=>jO _
 |r::R,s=>bN (by unfold rep;rw[f6];exact gF ..) (XV R _)
def bU4(p:H):Tr:=λargs o k=>mS p args o k\/mS 0 args o k
noncomputable def X9(p:H):J (H×Tr):=[(mG,bU4 p),(Ei,Vi)]
noncomputable def X'(tg:aa):Fm:=[(bx,.L (N (.ref 0))),(f7,.L (N (.d (.int 50000)))),(cD,.L ao),(dQ,.L ao),(bW,.L ao),(d7,.L ao),(kX,.L (N (.ref 1))),(Ac,.L (N (.d (.int tg)))),(rN,.L ao)]
theorem bU5{k:aa}(h:k∈[-1,-2]):pF k:=eW (P:=pF) h ⟨.head _,.tail _ (.head _),cH2⟩
theorem bU6{r:Ts}{K:dZ->St->Prop}:∀(R:J l5)(xs acc:J D)(tg:aa),xs.length=R.length->(∀r∈R,r.2∈[-1,-2])->0<=tg->R.foldl uX tg<=1000->acc.length+R.length<=1000->K .next ⟨X' (R.foldl uX tg),[.cur r,.dl (acc++R.map xH)]⟩->
  gT [cD,d7,rN] [rN] ah 2 ((vc ⟨dP,d_ (X9 p)⟩ 39).s wq) xs ⟨X' tg,[.cur (tL Fc R r),.dl acc]⟩ K:=by
 intro R;induction R with
 |nil=>
  intro xs acc tg hl _ _ _ _ h;rw[Yc,j3]at h
  induction xs using eT with
  |nil=>exact h
  |cons X I=>cases hl
 |cons q R ih=>
  intro xs acc tg hl S h0 ht hn h;induction xs using eT with
  |nil=>cases hl
  |cons z xs=>
   have t1:tg+(q.1:H)<=1000:=jj (XP R (uX tg q)) ht;have hq:cY q.1:=dF.mp (Gg (jj (cB0 h0) t1) (by decide))
   have next:=ih xs (acc++[xH q]) (uX tg q) (zL hl) (λy h=>S y (.tail _ h)) (Qz h0 nn) ht (by rw[f6,wB,rC _ R.length];exact hn) (by rw[jx];exact h)
   refine λat_=>.inr ⟨q.1,_,hq,q.2,_,bU5 (S q (.head _)),mE (oX (xW (jd _)) hn) (by decide),?_⟩
   conv=>whnf
   exact jc (kq (nN.mpr (jj t1 (by decide)))) next
def Jv(p:H):Tr:=λa_ o_ k_=>∀P_:Tr,(∀(l r){k},fO 4 (·∈[-1,-2]) l->k (.d (oH l)) [.cur r]->P_ [.ref 0,.d (.int 50000)] [.cur (Jb p l r)] k)->P_ a_ o_ k_
theorem Jv.mk{p:H}(l r){k}(f5:fO 4 (·∈[-1,-2]) l)(lg:k (.d (oH l)) [.cur r]):Jv p [.ref 0,.d (.int 50000)] [.cur (Jb p l r)] k:=λP_ c_=>c_ l r f5 lg
theorem bU7:aQ (aU x) (n+7) Ma (Jv p):=fc x (q:=by5) (l:=X9 p) (by kernel_rfl) ⟨oQ.or oQ,Vj,cH2⟩ λX I u2 g=>g _ λl r k h S=>by
 have g:=bU3 p h.2;unfold Jb;generalize tX p l=R at g
 have l4:(l.length:aa)<=4:=iz.mpr h.1;have t4:R.foldl uX 0<=4:=by rw[g.t,Ga];exact l4
 have n5:R.length<=5:=bN g.n (lB h.1);refine .inl ⟨R.length,_,eZ n5 (by decide),⟨jj (by decide) nn,iz.mpr (bN n5 (by decide))⟩,?_⟩
 refine bU6 R _ [] 0 (by rw[cO,Qv,sG]) g.k (zW _) (jj t4 (by decide)) (by rw[Du,mW];exact bN n5 (by decide)) ?_
 conv=>whnf
 refine jc (kq (nN.mpr (jj t4 (by decide)))) ?_
 have e:=g.e;rw[cC1]at e
 have el:(R.foldl rep []).length<=4:=by rw[e,cO];exact h.1
 refine AM (f:=xH) (w:=rep) (bM:=λs=>⟨[(bx,.L (N (.ref 0))),(f7,.L (N (.d (.int 50000)))),(cD,.L ao),(dQ,.L (N (.ref 2))),(bW,.L ao),(d7,.L ao),(kX,.L (N (.ref 1))),(Ac,.L (N (.d (.int (R.foldl uX 0))))),(rN,.L ao)],[.cur r,.gone,.dl s]⟩) (bG:=λys s=>(ys.foldl rep s).length<=4) (λq ys s next hI hn=>?_) R [] el λX=>?_
 ·have b1:(rep s q).length<=4:=bN (XV ys _) hI;have b2:q.1<=4:=by
   unfold rep at b1
   rw[f6,cB6]at b1
   exact bN (x6 ..) b1
  exact⟨⟨jj (by decide) nn,iz.mpr (bN b2 (by decide))⟩,bN b1 (by decide),hn hI⟩
 ·have S:k (.d (.tup (R.foldl rep []))) [.cur r]:=by rw[e];exact S
  exact S
end
section
open Wh (cu)
variable{w:bU}{bJ s:aE}{x:cu w bJ s}{n:H}
def Jw(g:iy)(t:J H):J H:=oR g.b (Jl g.g t)
def Ya:Tr:=jv (λg:iy=>[g.d]) iy.ok Jw
theorem bU8:aQ (aU x) (n+7) Eb Ya:=jG (q:=bu3) (l:=[(G8,U9),(BS,Jo)]) (by kernel_rfl) ⟨H',Oz,cH2⟩ λg l k h hf S=>⟨g.g,l,h.1,mw _ hf,g.b,_,h.2.ins,hf,S⟩
def Yf:Tr:=jv (λf:cW=>[f.d]) kC λf=>wU f.k
theorem bU9:aQ (aU x) (n+2) Eg Yf:=jG (q:=bv5) (l:=[(qh,mu)]) (by kernel_rfl) ⟨t6,cH2⟩ λf l k h hf S=>⟨(f.k:aa),l,nn,hf,S⟩
def YP:vZ->J H->J H
 | .f i=>wU i
 | .t t=>CR t
 | .m l=>y9 l
 | .g g=>Jl g
def Jx(i:fh)(t:J H):J H:=YP i.a (w8 i.a.sort (wN i.n (wN i.p t)))
noncomputable def bV0:J (H×Tr):=[(G2,Oq),(s8,uU),(qh,mu),(BO,U7),(BQ,U8),(G8,U9)]
def ZB:Tr:=jv (λi:fh=>[i.d]) fh.ok Jx
theorem bV1:aQ (aU x) (n+4) D_ ZB:=jG (q:=bu1) (l:=bV0) (by kernel_rfl) ⟨U3,v8,t6,H4,H5,H',cH2⟩ λi l k h hf S=>by
 obtain⟨p,m,a⟩:=i;induction a with
 |f i=>exact⟨p,l,h.1,CP _ (lq _ (gJ _ hf)),m,_,h.2.1,lq _ (gJ _ hf),0,_,by decide,gJ _ hf,(i:aa),_,nn,hf,S⟩
 |t i=>exact⟨p,l,h.1,CP _ (lq _ (Jk _ hf)),m,_,h.2.1,lq _ (Jk _ hf),1,_,by decide,Jk _ hf,i,_,h.2.2,hf,S⟩
 |m i=>exact⟨p,l,h.1,CP _ (lq _ (CQ _ hf)),m,_,h.2.1,lq _ (CQ _ hf),2,_,by decide,CQ _ hf,i,_,h.2.2,hf,S⟩
 |g i=>exact⟨p,l,h.1,CP _ (lq _ (Jm _ hf)),m,_,h.2.1,lq _ (Jm _ hf),3,_,by decide,Jm _ hf,i,_,h.2.2,hf,S⟩
def Jy(e:ju)(t:J H):J H:=wU e.i (w8 e.s (wN e.n t))
def Z':Tr:=jv (λe:ju=>[e.d]) ju.ok Jy
theorem bV2:aQ (aU x) (n+3) Ea Z':=jG (q:=bu2) (l:=[(G2,Oq),(s8,uU),(qh,mu)]) (by kernel_rfl) ⟨U3,v8,t6,cH2⟩ λe l k h hf S=>⟨e.n,l,h.1,lq _ (gJ _ hf),(e.s:aa),_,⟨nn,dF.mpr (mE h.2.1 (by decide))⟩,gJ _ hf,(e.i:aa),_,nn,hf,S⟩
def FE(e:eV)(t:J H):J H:=wR e.c (wU (e.c.length:H) (match e.o with
 |none=>wU 1 t
 |some p=>oR p.2 (bC (bX p.1 0) (wU 0 t) (wU p.1 (wU 2 t)))))
theorem bV3{e:eV}:jw (FE e):=λt h=>by
 obtain⟨o,c⟩:=e;have h:=gJ _ (uV _ h);induction o with
 |none=>exact gJ _ h
 |some p=>exact r7 (f:=wU 0) (mw _ h) (gJ t) λh=>gJ t (gJ _ h)
def aa0:Tr:=jv (λe:eV=>[e.d]) eV.ok FE
noncomputable def bV4:J (H×Tr):=[(qh,mu),(BS,Jo),(Ak,mu),(G1,Oo)]
theorem bV5:aQ (aU x) (n+7) Ed aa0:=jG (q:=bv1) (l:=bV4) (by kernel_rfl) ⟨t6,Oz,Ff,UZ,cH2⟩ λe l k h hf S=>by
 obtain⟨o,c⟩:=e;induction o with
 |none=>exact⟨1,l,by decide,gJ _ (uV _ hf),_,_,nn,uV _ hf,c,_,cH2,hf,S⟩
 |some p=>
  obtain⟨y,b⟩:=p;obtain⟨h1,h2⟩:=h.1 _ rfl;induction y using ji with
  |zero=>exact⟨0,l,by decide,mw _ (gJ _ (uV _ hf)),b,_,h2.ins,gJ _ (uV _ hf),_,_,nn,uV _ hf,c,_,cH2,hf,S⟩
  |succ m=>exact⟨2,l,by decide,gJ _ (mw _ (gJ _ (uV _ hf))),_,_,nn,mw _ (gJ _ (uV _ hf)),b,_,h2.ins,gJ _ (uV _ hf),_,_,nn,uV _ hf,c,_,cH2,hf,S⟩
def CU:J l5->J D
 |[]=>[]
 |r::R=>CU R++[xH r]
theorem VN:∀R,CU R=R.reverse.map xH
 |[]=>rfl
 |r::R=>by rw[Dj,zR,<-VN R];rfl
theorem bV6(R:J l5):(CU R).length=R.length:=by rw[VN,cO,Gf]
theorem bV7:∀(R:J l5)(k:aa),(CJ R k).length<=R.length+1
 |[],X=>jO _
 |r::R,k=>by
  show al3 (bC (decide (r.2=k)) ((r.1+1,k)::R) ((1,k)::r::R))<=_
  cases decide (r.2=k)
  ·exact jO _
  ·exact wF _
theorem bV8{α:Type}:∀(l:J α)(a:α),f9 (l++[a])=ak
 |[],X=>rfl
 |X::I,u2=>rfl
def aa1:Tr:=n7 (λl:J aa=>[oH l]) (·.length<1000) λl=>.d (.list ((qH l).map xH))
theorem bV9:aQ (aU x) (n+1) LL aa1:=k7 (q:=bv2) (l:=[]) (by kernel_rfl) trivial λl k h S=>by
 refine AM (f:=.int) (w:=CJ) (bM:=λR=>⟨[(fy,.L (N (.d (oH l)))),(bW,.L ao),(kX,.L (N (.ref 0)))],[.dl (CU R)]⟩) (bG:=λys R=>R.length+ys.length<1000) (λi ys R next hI hn=>?_) l [] (by rw[Du,mW];exact h) λX=>?_
 ·have hn:=hn (eZ (Ku (bV7 R i) _) (by rw[xX];exact hI))
  induction R using eT with
  |nil=>exact⟨by decide,hn⟩
  |cons r R=>
   conv=>whnf
   refine AL (bR (!·) (bV8 (CU R) (xH r))) ⟨_,_,rfl,?_⟩
   conv=>whnf
   exact qY (P:=λR=>next ⟨_,[.dl (CU R)]⟩) hn (λX h=>⟨_,_,rfl,_,_,rfl,h⟩) λX h=>⟨eZ (iW (bV6 (r::R))) (mE (eZ (gF ..) hI) (by decide)),h⟩
 ·have e:CU (l.foldl CJ [])=(qH l).map xH:=VN _
  show B3 _ _ _ _
  exact(bR (λds=>k (.d (.list ds)) []) e).mpr S
def OY(r:l5)(t:J H):J H:=w7 r.2 (wU r.1 t)
def aa2(l:J aa)(t:J H):J H:=wL OY (qH l) (wU (((qH l).map xH).length:H) t)
theorem aa3{r:l5}:jw (OY r):=λt h=>gJ t (qq _ h)
def aa4:Tr:=jv (λl=>[oH l]) (·.length<1000) aa2
theorem bW0:aQ (aU x) (n+3) LN aa4:=jG (q:=bv3) (l:=[(LL,aa1),(Ak,mu),(qh,mu),(w4,AS)]) (by kernel_rfl) ⟨bV9,Ff,t6,CO,cH2⟩ λks l k h hf S=>⟨ks,h,_,l,nn,pI (λX=>aa3) _ _ hf,Fg (ok:=kC) (λX=>aa3) (by exact λr l X h hf hn=>⟨(r.1:aa),l,nn,qq _ hf,r.2,_,cH2,hf,hn⟩) (qH ks) _ (λX I=>trivial) hf S⟩
def aa5(f:cW):J H:=oR f.b (aa2 f.l [])
def Jz(f:cW):J H->J H:=wZ (aa5 f)
theorem JA{a b:J H}(h:gV (a++b)):gV b:=bN (by rw[f6];exact x6 ..) h
theorem JB{r:J H}:jw (wZ r):=λt h=>gJ t (uV _ h)
def aa6:Tr:=jv (λf:cW=>[f.d]) cW.ok Jz
theorem bW1:aQ (aU x) (n+7) Ef aa6:=jG (q:=bv4) (l:=[(qN,AR),(LN,aa4),(BS,Jo),(G3,yZ)]) (by kernel_rfl) ⟨Om,bW0,Oz,U4,cH2⟩ λf l k h hf S=>(λX I=>I ⟨f.l,[],eZ h.2.1.1 (by decide),mw _ (JA hf),⟨f.b,_,h.2.2.ins,JA hf,yZ.mk (aa5 f) l hf S⟩⟩)
noncomputable def zd:er->D
 | .f i=>.int i
 |X=>.none
def aa7:Tr:=n7 (λp:aa×er=>[gA (p.2.b p.1)]) kC λp=>.d (zd p.2)
theorem bW2:aQ (aU x) (n+1) LK aa7:=k7 (q:=bu9) (l:=[]) (by kernel_rfl) trivial λp k X S=>by
 obtain⟨j,i⟩:=p;induction i with
 |f i=>exact⟨⟨rfl,λv hv=>by rw[fN.mp hv];trivial⟩,S⟩
 |_=>exact S
noncomputable def er.j:er->aa
 | .f i=>(i:H)
 |X=>0
def FF(B:aD)(e:dz)(t:J H):J H:=bC B (wL (λi:er=>oR (i.b e.k)) e.i (wU ((e.i.map λi=>gA (i.b e.k)).length:H) t)) (wL wU (e.i.map er.j) (wU ((e.i.map λi=>gA (i.b e.k)).length:H) t))
def JC(B:aD)(e:dz)(t:J H):J H:=bC B (w7 e.k t) (w8 0 t)
def wHd(B:aD)(e:dz)(t:J H):J H:=match e.m with
 | .p=>JC B e (wU (bC B 5 1) t)
 | .d=>JC B e (wU (bC B 7 3) t)
 | .a y b=>bC (bz (bX y 0) (decide (e.k=-16))) (oR b (wU (bC B 4 0) t)) (JC B e (oR b (wU y (wU (bC B 6 2) t))))
def OZ(B:aD)(e:dz)(t:J H):J H:=FF B e (wHd B e t)
def CV(e:dz):J H->J H:=OZ (lM e) e
theorem aa8{B:aD}{e:dz}:jw (FF B e):=λt h=>r7 (f:=λt=>wL _ e.i (wU _ t)) h (λh=>gJ t (pI (λX=>mw) _ _ h)) λh=>gJ t (pI (λX=>gJ) _ _ h)
theorem VO{B:aD}{e:dz}:jw (JC B e):=λt h=>r7 h (qq t) (lq t)
theorem bW3{e:dz}:jw (CV e):=λt h=>by
 have h:=aa8 _ h;obtain⟨m,k,i⟩:=e;induction m with
 |p=>exact gJ _ (VO _ h)
 |d=>exact gJ _ (VO _ h)
 |a y b=>exact r7 (f:=λt=>oR b (wU _ t)) h (λh=>gJ t (mw _ h)) λh=>gJ t (gJ _ (mw _ (VO _ h)))
noncomputable def CW:J (H×Tr):=[(LK,aa7),(qh,mu),(BS,Jo),(w4,AS),(s8,uU),(Ak,mu),(G9,Vd)]
theorem aa9:∀(is:J er)(K:aD->Prop),K (is.any nf)->yC .none (is.map zd) K
 |[],K,h=>h
 |i::is,K,h=>by
  show ME (zd i) .none λq=>yC .none (is.map zd) λq'=>K (q||q')
  induction i with
  |_=>exact aa9 is _ h
theorem O0{k:aa}(S:x8 k){i:er}(h:i.ok):∀j∈i.b k,j.mQ:=by
 induction i with
 |f i=>exact gv.mpr ⟨.i ⟨(by decide:(210:aa)∈qG),.u h⟩,gv.mpr ⟨.e,nofun⟩⟩
 |g i=>exact gv.mpr ⟨.i ⟨(by decide:(35:aa)∈qG),.u h⟩,gv.mpr ⟨.e,nofun⟩⟩
 |n=>exact gv.mpr ⟨.i ⟨(by decide:(208:aa)∈qG),.r S⟩,gv.mpr ⟨.e,nofun⟩⟩
def ab0(e B bG p w:D):Fm:=[(bK,.L (N (.ref 0))),(aM,.L (N (.d e))),(uy,.L (N (.d B))),(DP,.L (N (.d bG))),(lG,.L ao),(GK,.L (N (.d p))),(gS,.L (N (.d w)))]
theorem ab1:∀{is:J er},is.any nf=ak->is.map zd=(is.map er.j).map .int
 |[],X=>rfl
 | .f i::is,h=>bR (D.int i::·) (ab1 h)
theorem bW4{e:dz}{B:aD}{p w:D}{t:J H}{k:V->J O->Prop}(he:e.ok)(hB:B=ak->e.i.any nf=ak)(hf:gV (FF B e t))(S:k (.d .none) (gB (FF B e t))):
  l8 ⟨dP,d_ CW⟩ (vc ⟨dP,d_ CW⟩ 39) (NS.drop 8) ⟨ab0 e.d (.bool B) (.list (e.i.map zd)) p w,gB t⟩ (mK 2 k):=by
 induction B with
 |true=>exact⟨_,t,nn,pI (λX=>mw) _ _ hf,Fg (w:=λi:er=>oR (i.b e.k)) (ok:=er.ok) (λX=>mw) (by exact λi l X h hf hn=>⟨i.b e.k,l,O0 he.2.1 h,hf,hn⟩) e.i _ he.2.2.2 hf S⟩
 |false=>
  rw[ab1 (hB rfl)];refine⟨_,t,nn,pI (λX=>gJ) _ _ hf,(ak,e.i.map er.j),_,?_,hf,S⟩;intro j h;change j∈e.i.map er.j at h
  obtain⟨i,g,rfl⟩:=qA.mp h;have:=he.2.2.2 i g;induction i with
  |f i=>exact nn
  |_=>exact zW _
def ab2:Tr:=jv (λe:dz=>[e.d]) dz.ok CV
theorem ab3{e:dz}{B:aD}{t:J H}{k:V->J O->Prop}(he:e.ok)(hB:B=ak->e.i.any nf=ak)(hf:gV (OZ B e t))(S:k (.d .none) (gB (OZ B e t))):
  l8 ⟨dP,d_ CW⟩ (vc ⟨dP,d_ CW⟩ 39) (NS.drop 2) ⟨[(bK,.L (N (.ref 0))),(aM,.L (N (.d e.d))),(uy,.L (N (.d (.bool B)))),(DP,.L (N (.d (.list (e.i.map zd))))),(lG,.L ao),(GK,.L ao),(gS,.L ao)],gB t⟩ (mK 2 k):=by
 have cH:∀{t'},wHd B e t=t'->gV t'/\∀p w,l8 ⟨dP,d_ CW⟩ (vc ⟨dP,d_ CW⟩ 39) (NS.drop 8) ⟨ab0 e.d (.bool B) (.list (e.i.map zd)) p w,gB t'⟩ (mK 2 k):=λq=>q▸⟨aa8 _ hf,λp w=>bW4 he hB hf S⟩;obtain⟨m,kk,is⟩:=e;have Cj:=he.2.1;induction m with
 |p=>induction B with
  |true=>obtain⟨h0,cH⟩:=cH (t':=w7 kk (wU 5 t)) rfl;exact⟨.int 1,rfl,5,t,by decide,qq _ h0,kk,_,cH2,h0,cH _ _⟩
  |false=>obtain⟨h0,cH⟩:=cH (t':=w8 0 (wU 1 t)) rfl;exact⟨.int 1,rfl,1,t,by decide,lq _ h0,0,_,by decide,h0,cH _ _⟩
 |d=>induction B with
  |true=>obtain⟨h0,cH⟩:=cH (t':=w7 kk (wU 7 t)) rfl;exact⟨.int 3,rfl,7,t,by decide,qq _ h0,kk,_,cH2,h0,cH _ _⟩
  |false=>obtain⟨h0,cH⟩:=cH (t':=w8 0 (wU 3 t)) rfl;exact⟨.int 3,rfl,3,t,by decide,lq _ h0,0,_,by decide,h0,cH _ _⟩
 |a y b=>
  obtain⟨hy,hb⟩:=he.1;induction y using ji with
  |zero=>
   rcases iV.mp Cj with rfl|Cj
   ·induction B with
    |true=>
     obtain⟨h0,cH⟩:=cH (t':=oR b (wU 4 t)) (by kernel_rfl)
     refine⟨4,t,by decide,mw _ h0,b,_,hb.ins,h0,?_⟩
     have cH:=cH (.bool ah) (.int 0)
     conv at cH=>whnf
     conv=>whnf
     exact cH
    |false=>
     obtain⟨h0,cH⟩:=cH (t':=oR b (wU 0 t)) (by kernel_rfl)
     refine⟨0,t,by decide,mw _ h0,b,_,hb.ins,h0,?_⟩
     have cH:=cH (.bool ah) (.int 0)
     conv at cH=>whnf
     conv=>whnf
     exact cH
   ·obtain rfl:=fN.mp Cj;induction B with
    |true=>
     obtain⟨h0,cH⟩:=cH (t':=w7 (-17) (oR b (wU 0 (wU 6 t)))) (by kernel_rfl)
     exact⟨.int 2,rfl,6,t,by decide,gJ _ (mw _ (qq _ h0)),0,_,by decide,mw _ (qq _ h0),b,_,hb.ins,qq _ h0,-17,_,cH2,h0,cH _ _⟩
    |false=>
     obtain⟨h0,cH⟩:=cH (t':=w8 0 (oR b (wU 0 (wU 2 t)))) (by kernel_rfl)
     exact⟨.int 2,rfl,2,t,by decide,gJ _ (mw _ (lq _ h0)),0,_,by decide,mw _ (lq _ h0),b,_,hb.ins,lq _ h0,0,_,by decide,h0,cH _ _⟩
  |succ y=>induction B with
   |true=>
    obtain⟨h0,cH⟩:=cH (t':=w7 kk (oR b (wU (y+1:H) (wU 6 t)))) (by kernel_rfl)
    exact⟨.int 2,rfl,6,t,by decide,gJ _ (mw _ (qq _ h0)),_,_,nn,mw _ (qq _ h0),b,_,hb.ins,qq _ h0,kk,_,cH2,h0,cH _ _⟩
   |false=>
    obtain⟨h0,cH⟩:=cH (t':=w8 0 (oR b (wU (y+1:H) (wU 2 t)))) (by kernel_rfl)
    exact⟨.int 2,rfl,2,t,by decide,gJ _ (mw _ (lq _ h0)),_,_,nn,mw _ (lq _ h0),b,_,hb.ins,lq _ h0,0,_,by decide,h0,cH _ _⟩
theorem bW5:aQ (aU x) (n+7) Ec ab2:=jG (q:=bv0) (l:=CW) (by kernel_rfl) ⟨bW2,t6,Oz,CO,v8,Ff,Ki,cH2⟩ λe t k h hf S=>by
 have hB:∀B,lM e=B->B=ak->e.i.any nf=ak:=λB e h=>(aq2.mp (e.trans h)).2;obtain⟨m,kk,is⟩:=e
 conv=>whnf
 refine pG (f:=λi=>gA (er.b kk i)) (g:=zd) (by exact λi k h=>⟨(kk,i),cH2,h⟩) is ?_
 rcases iV.mp h.2.1 with rfl|Cj
 ·conv=>whnf
  exact aa9 is _ (ab3 (e:=⟨m,-16,is⟩) h (hB _ rfl) hf S)
 ·obtain rfl:=fN.mp Cj;exact ab3 (e:=⟨m,-17,is⟩) (B:=true) h nofun hf S
inductive rG:aR->D->(J H->J H)->Prop
 |fk (f:Fk):rG D9 (mP f) (Fj f)
 |imp {i:fh}:i.ok->rG D_ i.d (Jx i)
 |fi {f:cW}:rG Eg f.d (wU f.k)
 |tab {t:i6}:t.ok->rG BO t.d (CR t)
 |mem {l:qk}:tP l->rG BQ (nE l) (y9 l)
 |glo {g:iy}:g.ok->rG Eb g.d (Jw g)
 |exp {e:ju}:e.ok->rG Ea e.d (Jy e)
 |ele {e:dz}:e.ok->rG Ec e.d (CV e)
 |fn {f:cW}:f.ok->rG Ef f.d (Jz f)
 |dat {e:eV}:e.ok->rG Ed e.d (FE e)
def q_{α:Type}(f:α->D)(wr:α->J H->J H)(ys:J α)(t:J H):J H:=wL wr ys (wU ((ys.map f).length:H) t)
noncomputable def ab4:J (H×Tr):=[(Ak,mu),(D9,H3),(D_,ZB),(Eg,Yf),(BO,U7),(BQ,U8),(Eb,Ya),(Ea,Z'),(Ec,ab2),(Ef,aa6),(Ed,aa0)]
def ab5(d:D)(a:aR):Fm:=[(bK,.L (N (.ref 0))),(Ab,.L (N (.d d))),(yh,.L (N (.d (.glob a)))),(yk,.L ao)]
theorem bW6{d t:D}{a:aR}{wr:J H->J H}{l:J H}{next:St->Prop}{K:dZ->St->Prop}(h:rG a t wr)(hf:gV (wr l))(hn:next ⟨ab5 d a,gB (wr l)⟩):jL [yk] ah (.d t) ⟨ab5 d a,gB l⟩ λZ=>(vc ⟨dP,d_ ab4⟩ 39).s vk Z (zY [yk] 2 next K):=by
 cases h with
 |fk f=>exact⟨f,l,cH2,hf,hn⟩
 |imp h=>exact⟨_,l,h,hf,hn⟩
 |@fi f=>exact⟨f,l,cH2,hf,hn⟩
 |tab h=>exact⟨_,l,h,hf,hn⟩
 |mem h=>exact⟨_,l,h,hf,hn⟩
 |glo h=>exact⟨_,l,h,hf,hn⟩
 |exp h=>exact⟨_,l,h,hf,hn⟩
 |ele h=>exact⟨_,l,h,hf,hn⟩
 |fn h=>exact⟨_,l,h,hf,hn⟩
 |dat h=>exact⟨_,l,h,hf,hn⟩
theorem bW7:∀{a:vZ},jw (YP a)
 | .f X=>gJ
 | .t X=>Jk
 | .m X=>CQ
 | .g X=>Jm
def rj:Tr:=λa_ o_ k_=>∀P_:Tr,(∀{α:Type}(a:aR)(f:α->D)(wr:α->J H->J H)(ys:J α)(l){k},(∀y∈ys,rG a (f y) (wr y))->(∀y,jw (wr y))->gV (q_ f wr ys l)->k (.d .none) (gB (q_ f wr ys l))->P_ [.ref 0,.d (.list (ys.map f)),.d (.glob a)] (gB l) k)->P_ a_ o_ k_
theorem rj.mk{α:Type}(a:aR)(f:α->D)(wr:α->J H->J H)(ys:J α)(l){k}(f5:(∀y∈ys,rG a (f y) (wr y)))(lg:(∀y,jw (wr y)))(t7:gV (q_ f wr ys l))(VP:k (.d .none) (gB (q_ f wr ys l))):rj [.ref 0,.d (.list (ys.map f)),.d (.glob a)] (gB l) k:=λP_ c_=>c_ a f wr ys l f5 lg t7 VP
theorem bW8:aQ (aU x) (n+8) G_ rj:=fc x (q:=bv6) (l:=ab4) (by kernel_rfl) ⟨Ff,bK1,bV1,bU9,H4,H5,bU8,bV2,bW5,bW1,bV5,cH2⟩ λX I u2 g=>g _ λa f wr ys l X h m hf S=>⟨_,l,nn,pI m _ _ hf,Fg (ok:=λy=>rG a (f y) (wr y)) m (λy l X h hf hn=>bW6 h hf hn) ys _ h hf S⟩
def oM(m:b6):J D:=[m.D]
def JD:Tr:=n7 oM kC λm=>.d (.list (m.f.map λf=>gA f.b))
theorem bW9:aQ (aU x) (n+1) D8 JD:=k7 (q:=bt1) (l:=[]) (by kernel_rfl) trivial λm k X S=>pG (f:=cW.d) (g:=λf=>gA f.b) (by exact λi k h=>h) m.f S
def VQ:Tr:=n7 oM kC λm=>.d (.bool (NY m))
theorem bX0{d:D}{k:V->J O->Prop}:∀(fs:J cW),k (.d (.bool (fs.any λf=>f.b.any qm))) []->
  gT [dK] [dK] ah 0 ((vc ⟨dP,d_ [(D8,JD)]⟩ 39).s ut) (fs.map λf=>gA f.b) ⟨[(bI,.L (N (.d d))),(dK,.L ao)],[]⟩ (yG (l8 ⟨dP,d_ [(D8,JD)]⟩ (vc ⟨dP,d_ [(D8,JD)]⟩ 39) [.ret (.cB ak)]) (mK 0 k)):=λi_=>by
 induction i_ with
 |nil=>exact λh=>h
 |cons f fs ih=>
  intro h
  show gT _ _ _ _ _ (gA f.b::_) _ _
  conv=>whnf
  refine pG (f:=fj.d) (g:=λi=>.bool (qm i)) (by exact λi k h=>h) f.b ?_
  conv=>whnf
  refine y8 f.b _ ?_;have h:k (.d (.bool (f.b.any qm||fs.any λf=>f.b.any qm))) []:=h;cases e:f.b.any qm with
  |true=>rw[e]at h;exact h
  |false=>rw[e]at h;exact ih h
theorem bX1:aQ (aU x) (n+2) G5 VQ:=k7 (q:=bt3) (l:=[(D8,JD)]) (by kernel_rfl) ⟨bW9,cH2⟩ λm k X S=>⟨m,cH2,bX0 m.f S⟩
abbrev MN:=b6×H
def O1(p:MN):J D:=[p.1.D,.int p.2]
def xO:Tr:=n7 O1 (λp=>p.2∈cV) λp=>.d (.bool (jI p.1 p.2))
theorem ab6:aQ (aU x) (n+3) uE xO:=k7 (q:=vr) (l:=[(G5,VQ)]) (by kernel_rfl) ⟨bX1,cH2⟩ λp k h=>by obtain⟨m,i⟩:=p;exact eW (P:=λi=>k (.d (.bool (jI m i))) []->lK vr [(G5,VQ)] [.d m.D,.d (.int (i:H))] [] k) h ⟨λh=>h,λh=>h,λh=>h,λh=>h,λh=>h,λh=>h,λh=>h,λh=>h,λh=>h,λh=>⟨m,cH2,h⟩,λh=>h,λh=>h,cH2⟩
def VS:Tr:=n7 O1 (λp=>p.2=0\/p.2∈cV/\jI p.1 p.2=ah) λp=>.d (.int p.2)
theorem bX2{m:b6}{i:H}(hi:i∈cV)(hn:jI m i=ah){k:V->J O->Prop}(S:k (.d (.int i)) []):∀(ps:J H)(f:aa),(∀p∈ps,p∈cV)->
  gT [dO] [dO] ah 0 ((vc ⟨dP,d_ [(uE,xO)]⟩ 39).s Up) ((ps++[i]).map fX) ⟨[(bI,.L (N (.d m.D))),(bw,.L (N (.d (.int i)))),(dQ,.L (N (.d (.int f)))),(dO,.L ao)],[]⟩ (yG (l8 ⟨dP,d_ [(uE,xO)]⟩ (vc ⟨dP,d_ [(uE,xO)]⟩ 39) [.ret (.Y dQ)]) (mK 0 k)):=λi_=>by
 induction i_ with
 |nil=>
  intro f X
  show gT _ _ _ _ _ (fX i::_) _ _
  refine⟨(m,i),hi,?_⟩
  conv=>whnf
  exact AL hn S
 |cons p ps ih=>
  intro f hp
  show gT _ _ _ _ _ (fX p::_) _ _
  refine⟨(m,p),hp p (.head _),?_⟩;have ih:=λf=>ih f λp h=>hp p (.tail _ h)
  conv=>whnf
  exact gZ (λX=>ih p) λX=>ih f
theorem ab7:aQ (aU x) (n+4) Hf VS:=k7 (q:=vw) (l:=[(uE,xO)]) (by kernel_rfl) ⟨ab6,cH2⟩ λp k h=>by
 obtain⟨m,i⟩:=p;rcases h with h|⟨h,ht⟩
 ·obtain rfl:i=0:=h;exact λh=>h
 ·have h:i∈cV:=h;have go:=λps hp S=>bX2 (k:=k) h ht S ps 0 hp
  revert ht go
  exact eW (P:=λi=>jI m i=ah->(∀ps:J H,(∀p∈ps,p∈cV)->k (.d (.int i)) []->gT [dO] [dO] ah 0 ((vc ⟨dP,d_ [(uE,xO)]⟩ 39).s Up) ((ps++[i]).map fX) ⟨[(bI,.L (N (.d m.D))),(bw,.L (N (.d (.int i)))),(dQ,.L (N (.d (.int 0)))),(dO,.L ao)],[]⟩ (yG (l8 ⟨dP,d_ [(uE,xO)]⟩ (vc ⟨dP,d_ [(uE,xO)]⟩ 39) [.ret (.Y dQ)]) (mK 0 k)))->k (.d (.int i)) []->lK vw [(uE,xO)] [.d m.D,.d (.int (i:H))] [] k) h
   ⟨λX g h=>⟨0,⟨rfl,by decide,tY (by decide)⟩,by decide,tQ (g [] (by decide) h)⟩,
   λX g h=>⟨1,⟨rfl,by decide,tY (by decide)⟩,by decide,tQ (g [1] (by decide) h)⟩,
   λX g h=>⟨2,⟨rfl,by decide,tY (by decide)⟩,by decide,tQ (g [1,2] (by decide) h)⟩,
   λX g h=>⟨3,⟨rfl,by decide,tY (by decide)⟩,by decide,tQ (g [1,2,3] (by decide) h)⟩,
   λX g h=>⟨4,⟨rfl,by decide,tY (by decide)⟩,by decide,tQ (g [1,2,3,4] (by decide) h)⟩,
   λX g h=>⟨5,⟨rfl,by decide,tY (by decide)⟩,by decide,tQ (g [1,2,3,4,5] (by decide) h)⟩,
   λX g h=>⟨6,⟨rfl,by decide,tY (by decide)⟩,by decide,tQ (g [1,2,3,4,5,6] (by decide) h)⟩,
   λX g h=>⟨7,⟨rfl,by decide,tY (by decide)⟩,by decide,tQ (g [1,2,3,4,5,6,7] (by decide) h)⟩,
   λX g h=>⟨8,⟨rfl,by decide,tY (by decide)⟩,by decide,tQ (g [1,2,3,4,5,6,7,8] (by decide) h)⟩,
   λX g h=>⟨9,⟨rfl,by decide,tY (by decide)⟩,by decide,tQ (g [1,2,3,4,5,6,7,8,9] (by decide) h)⟩,
   λX g h=>⟨10,⟨rfl,by decide,tY (by decide)⟩,by decide,tQ (g [1,2,3,4,5,6,7,8,9,12] (by decide) h)⟩,
   λX g h=>⟨11,⟨rfl,by decide,tY (by decide)⟩,by decide,tQ (g [1,2,3,4,5,6,7,8,9,12,10] (by decide) h)⟩,cH2⟩
def CX(m:b6):H->J H->J H:=kB id [id,q_ mP Fj m.k,q_ fh.d Jx m.i,q_ cW.d (λf=>wU f.k) m.f,q_ i6.d CR m.t,q_ nE y9 m.m,q_ iy.d Jw m.g,q_ ju.d Jy m.e,wU (m.s.getD 0:H),q_ dz.d CV m.l,q_ cW.d Jz m.f,q_ eV.d FE m.d,wU ((m.d.map eV.d).length:H)]
def ab8(p:MN):Prop:=p.2∈cV/\jI p.1 p.2=ah/\p.1.ok
def ab9:Tr:=jv O1 ab8 λp=>CX p.1 p.2
theorem bX3:aQ (aU x) (n+9) LO ab9:=jG (q:=vx) (l:=[(G_,rj),(qh,mu)]) (by kernel_rfl) ⟨bW8,t6,cH2⟩ λp l k h=>by
 obtain⟨m,i⟩:=p;obtain⟨hi,ht,hm⟩:=h
 revert ht
 exact eW (P:=λi=>jI m i=ah->gV (CX m i l)->k (.d .none) (gB (CX m i l))->lK vx [(G_,rj),(qh,mu)] [.ref 0,.d m.D,.d (.int (i:H))] (gB l) k) hi
  ⟨λX hf S=>(rj.mk D9 mP Fj m.k l (λy X=>.fk y) (λy=>bK2) hf S),
  λX hf S=>(rj.mk D_ fh.d Jx m.i l (λy h=>.imp (hm.i.2 y h)) (λy t h=>CP t (CP _ (lq _ (bW7 _ h)))) hf S),
  λX hf S=>(rj.mk Eg cW.d (λf=>wU f.k) m.f l (λy h=>.fi) (λy=>gJ) hf S),
  λX hf S=>(rj.mk BO i6.d CR m.t l (λy h=>.tab (hm.t.2 y h)) (λy=>Jk) hf S),
  λX hf S=>(rj.mk BQ nE y9 m.m l (λy h=>.mem (hm.m.2 y h)) (λy=>CQ) hf S),
  λX hf S=>(rj.mk Eb iy.d Jw m.g l (λy h=>.glo (hm.g.2 y h)) (λy t h=>Jm t (mw _ h)) hf S),
  λX hf S=>(rj.mk Ea ju.d Jy m.e l (λy h=>.exp (hm.e.2 y h)) (λy t h=>CP t (lq _ (gJ _ h))) hf S),
  λht hf S=>by
   obtain⟨k,i,f,t,m,g,e,Z,ls,d,c⟩:=m;induction Z with
   |none=>exact nomatch ht
   |some j=>exact⟨(j:aa),l,nn,hf,S⟩,
  λX hf S=>(rj.mk Ec dz.d CV m.l l (λy h=>.ele (hm.l.2 y h)) (λy=>bW3) hf S),
  λX hf S=>⟨_,l,nn,hf,S⟩,
  λX hf S=>(rj.mk Ef cW.d Jz m.f l (λy h=>.fn (hm.f.2 y h)) (λy=>JB) hf S),
  λX hf S=>(rj.mk Ed eV.d FE m.d l (λy h=>.dat (hm.d.2 y h)) (λy=>bV3) hf S),cH2⟩
def VT(m:b6)(n:H)(t:J H):J H:=wZ (CX m n []) (w8 (n:H) t)
def ac0:Tr:=jv O1 ab8 λp=>VT p.1 p.2
theorem bX4:aQ (aU x) (n+10) LP ac0:=jG (q:=bv7) (l:=[(qN,AR),(LO,ab9),(s8,uU),(G3,yZ)]) (by kernel_rfl) ⟨Om,bX3,v8,U4,cH2⟩ λp l k h hf S=>(λX I=>I ⟨p,[],h,JA hf,⟨(p.2:aa),l,⟨nn,(by decide:∀i∈cV,((i:H):aa)<256) _ h.1⟩,JB _ hf,yZ.mk (CX p.1 p.2 []) _ hf S⟩⟩)
def ac1(c:dB):J H:=wR c.c (wN c.n [])
def A0(n:H)(c:dB)(t:J H):J H:=bC (decide ((c.b:aa)=(n:aa))) (wZ (ac1 c) (w8 0 t)) t
noncomputable def ac2:J (H×Tr):=[(qN,AR),(G2,Oq),(G1,Oo),(s8,uU),(G3,yZ)]
def VU(m p:D)(n:aa):Fm:=[(bK,.L (N (.ref 0))),(bI,.L (N (.d m))),(yg,.L (N (.d p))),(bw,.L (N (.d (.int n)))),(jS,.L ao),(kU,.L ao),(dO,.L ao)]
theorem VV{n:H}{c:dB}:jw (A0 n c):=λt h=>r7 (f:=λt=>wZ _ (w8 0 t)) (g:=λt=>t) h (λh=>lq t (JB _ h)) λh=>h
noncomputable def CY(c:dB):D:=.int (c.b:H)
theorem bX5{m p:D}{i:H}{ds es:J D}{K:dZ->St->Prop}:∀(cs:J dB)(l:J H),(∀c∈cs,kQ c.n)->gV (wL (A0 i) cs l)->K .next ⟨VU m p i,gB (wL (A0 i) cs l)⟩->
  yF [jS,kU,dO] jS dO 2 (λo=>g9 (.d (.list ds)) o=N (ds.map .d)/\g9 (.d (.list es)) o=N (es.map .d)) ((vc ⟨dP,d_ ac2⟩ 39).s vy) ((cs.map dB.d).map .d) ((cs.map CY).map .d) ⟨VU m p i,gB l⟩ K:=λi_=>by
 induction i_ with
 |nil=>exact λX I u2 hK=>hK
 |cons c cs ih=>
  intro l hc hf hK;have h:=hc c (.head _)
  show yF _ _ _ _ _ _ (.d c.d::_) (.d (CY c)::_) _ _
  have ih:=ih
  conv=>whnf
  refine qY (P:=λt=>gV t/\gV (wL (A0 i) cs t)/\K .next ⟨VU m p i,gB (wL (A0 i) cs t)⟩) ⟨pI (λX=>VV) cs _ hf,hf,hK⟩ (λX g=>?_) λX g=>⟨⟨rfl,rfl⟩,ih l (λc h=>hc c (.tail _ h)) g.2.1 g.2.2⟩;exact(λX I=>I ⟨c.n,[],h,uV _ (JA g.1),⟨c.c,_,cH2,JA g.1,⟨0,l,by decide,JB _ g.1,yZ.mk (ac1 c) _ g.1 ⟨⟨rfl,rfl⟩,ih _ (λc h=>hc c (.tail _ h)) g.2.1 g.2.2⟩⟩⟩⟩)
def JE(m:b6)(n:H):J H->J H:=wL (A0 n) m.c
def ac3:Tr:=jv (λp:MN=>[p.1.D,.list (p.1.c.map CY),.int p.2]) (λp=>∀c∈p.1.c,kQ c.n) λp=>JE p.1 p.2
theorem bX6:aQ (aU x) (n+3) LQ ac3:=jG (q:=bv8) (l:=ac2) (by kernel_rfl) ⟨Om,U3,UZ,v8,U4,cH2⟩ λp l k h hf S=>by refine bX5 (m:=p.1.D) (p:=.list (p.1.c.map CY)) (i:=p.2) (ds:=p.1.c.map dB.d) (es:=p.1.c.map CY) p.1.c l h hf ?_;exact S
noncomputable def FG:J (H×Tr):=[(qN,AR),(G1,Oo),(Hf,VS),(LQ,ac3),(uE,xO),(LP,ac0)]
def bX7(p:D):Fm:=[(bI,.C 0),(bw,.L ao),(yg,.L (N (.d p))),(bK,.L (N (.ref 1)))]
def VW(m:D)(l:J H):J O:=[.cell (N (.d m)),.inst qN [(bH,.ref 2)],.ba l]
def A1(m:b6)(n:H)(t:J H):J H:=bC (jI m n) (JE m n (VT m n t)) t
def VX(m:b6):J H:=wL (A1 m) cV (JE m 0 [0,97,115,109,1,0,0,0])
theorem ac4{m:b6}{n:H}:jw (A1 m n):=λt h=>r7 (f:=λt=>JE m n (VT m n t)) (g:=λt=>t) h (λh=>lq t (JB _ (pI (λX=>VV) _ _ h))) λh=>h
def VY:Tr:=n7 oM (λm=>m.ok/\gV (VX m)) λm=>.d (.bytes (VX m))
theorem bX8{m:b6}{l:J H}:∀(cs:J dB)(K:J V->J O->Prop),(∀c∈cs,uP m c.b)->K (cs.map λc=>.d (CY c)) (VW m.D l)->
  jW [jS] ah [(jS,.L ao),(bI,.C 0)] (nX (vc ⟨dP,d_ FG⟩ 38).t []) ((vc ⟨dP,d_ FG⟩ 38).e (.call (.gl 62) [.Y bI,.aG (.Y jS) rL])) (cs.map dB.d) (VW m.D l) K:=λi_=>by
 induction i_ with
 |nil=>exact λK X hK=>hK
 |cons c cs ih=>
  intro K hc hK
  show jW _ _ _ _ _ (c.d::_) _ _
  refine⟨(m,c.b),hc c (.head _),?_⟩;exact ih _ (λc h=>hc c (.tail _ h)) hK
theorem bX9:aQ (aU x) (n+11) LR VY:=k7 (q:=bv9) (l:=FG) (by kernel_rfl) ⟨Om,UZ,ab7,bX6,ab6,bX4,cH2⟩ λm k h S=>by
 have hm:=h.1;have hf:=h.2;have hc:∀c∈m.c,kQ c.n:=λc h=>(hm.c.2 c h).1;have h0:=pI (λX=>ac4) _ _ hf;have loop:∀(ps:J H)(t:J H),(∀p∈ps,p∈cV)->gV (wL (A1 m) ps t)->k (.d (.bytes (wL (A1 m) ps t))) []->gT [bw] [bw] ah 3 ((vc ⟨dP,d_ FG⟩ 39).s v0) (ps.map fX) ⟨bX7 (.list (m.c.map CY)),VW m.D t⟩ (yG (l8 ⟨dP,d_ FG⟩ (vc ⟨dP,d_ FG⟩ 39) (v6.drop 6)) (mK 0 k)):=by
  intro ps;induction ps with
  |nil=>exact λt X I S=>S
  |cons p ps ih=>
   intro t hp hf S
   show gT _ _ _ _ _ (fX p::_) _ _
   refine⟨(m,p),hp p (.head _),?_⟩
   conv=>whnf
   refine qY (P:=λt=>gV t/\gV (wL (A1 m) ps t)/\k (.d (.bytes (wL (A1 m) ps t))) []) ⟨pI (λX=>ac4) _ _ hf,hf,S⟩ (λq h=>?_) λX h=>ih t (λp h=>hp p (.tail _ h)) h.2.1 h.2.2;exact⟨(m,p),t,⟨hp p (.head _),q,hm⟩,pI (λX=>VV) _ _ h.1,(m,p),_,hc,h.1,ih _ (λp h=>hp p (.tail _ h)) h.2.1 h.2.2⟩
 refine(AR.mk ⟨[0,97,115,109],[],cH2,(by decide:4<=1048576),[1,0,0,0],_,cH2,(by decide:8<=1048576),?_⟩)
 conv=>whnf
 refine bX8 m.c _ (λc h=>(hm.c.2 c h).2.2) ?_
 show iF _ _ _ _
 unfold iF;rw[E6];refine⟨(m,0),_,hc,h0,?_⟩
 conv=>whnf
 exact loop cV _ (λp h=>h) hf S
end
section
open Wh (cu)
variable{w:bU}{bJ s:aE}{x:cu w bJ s}{n p:H}
noncomputable def A2(r:Ts):Ts:=cR [0,97,115,109] (cR [1,0,0,0] r)
def ac5:Tr:=λa_ o_ k_=>∀P_:Tr,(∀(r){k},k (.d .none) [.cur r]->P_ [.ref 0] [.cur (A2 r)] k)->P_ a_ o_ k_
theorem bY0:aQ (aU x) (n+3) Lv ac5:=fc x (q:=bq6) (l:=[(BL,Fd)]) (by kernel_rfl) ⟨Of,cH2⟩ λX I u2 g=>g _ λr X S=>⟨[0,97,115,109],_,⟨rfl,cH2⟩,[1,0,0,0],r,⟨rfl,cH2⟩,S⟩
noncomputable def pK(c:H)(p:aa):O:=.inst BI [(bx,.ref c),(dO,.d (.int p))]
def bY1:Tr:=λa_ o_ k_=>∀P_:Tr,(∀(r){k},k (.d .none) [pK 1 (-1),.cur r]->P_ [.ref 0,.d (.bytes (c8 (A2 r)))] [.inst BI []] k)->P_ a_ o_ k_
theorem bY2:aQ (aU x) (n+4) Zq bY1:=fc x (q:=bq9) (l:=[(qf,UY),(Lv,ac5)]) (by kernel_rfl) ⟨bI3,bY0,cH2⟩ λX I u2 g=>g _ λr X S=>⟨A2 r,(λX I=>I r S)⟩
def ac6:Tr:=λa_ o_ k_=>∀P_:Tr,(∀(r){k},k (.ref 0) [pK 1 (-1),.cur r]->P_ [.d (.bytes (c8 (A2 r)))] [] k)->P_ a_ o_ k_
theorem bY3:aQ (aU x) (n+5) BI ac6:=(CB x bY2 (by kernel_rfl)).of λX I u2 g=>g _ λr X S=>(λX I=>I r S)
def uY:Tr:=λa_ o_ k_=>∀P_:Tr,(∀(p ts){k},k (.d (.bool (f9 (c8 ts)))) [pK 1 p,.cur ts]->P_ [.ref 0] [pK 1 p,.cur ts] k)->P_ a_ o_ k_
theorem uY.mk(p ts){k}(f5:k (.d (.bool (f9 (c8 ts)))) [pK 1 p,.cur ts]):uY [.ref 0] [pK 1 p,.cur ts] k:=λP_ c_=>c_ p ts f5
theorem bY4:aQ (aU x) (n+2) Rr uY:=fc x (q:=br0) (l:=[(GW,Oh)]) (by kernel_rfl) ⟨GE,cH2⟩ λX I u2 g=>g _ λp ts X S=>⟨ts,S⟩
structure VZ(n q:H):Prop where
 e:cV[q]?=N n
 b:n<=12/\1<=n
 f:∀m,m<q->cV[m]?≠N n
def wg(p:H):Tr:=λa_ o_ k_=>∀P_:Tr,(∀(i:aa)(t r){k},cY (c8 t).length->k (.pr (.int (0:H)) 2) [pK 1 i,.cur r,.cur t]->P_ [.ref 0] [pK 1 i,.cur (cB 0 (tZ p t r))] k)->(∀(i:aa)(n q:H)(t r){k},cY (c8 t).length->VZ n q->i<q->k (.pr (.int n) 2) [pK 1 q,.cur r,.cur t]->P_ [.ref 0] [pK 1 i,.cur (cB n (tZ p t r))] k)->P_ a_ o_ k_
theorem wg.c{p:H}(i:aa)(t r){k}(f5:cY (c8 t).length)(lg:k (.pr (.int (0:H)) 2) [pK 1 i,.cur r,.cur t]):wg p [.ref 0] [pK 1 i,.cur (cB 0 (tZ p t r))] k:=λP_ c_ u_=>c_ i t r f5 lg
theorem wg.sS{p:H}(i:aa)(n q:H)(t r){k}(f5:cY (c8 t).length)(lg:VZ n q)(t7:i<q)(VP:k (.pr (.int n) 2) [pK 1 q,.cur r,.cur t]):wg p [.ref 0] [pK 1 i,.cur (cB n (tZ p t r))] k:=λP_ u_ c_=>c_ i n q t r f5 lg t7 VP
noncomputable def bY5(p:H):J (H×Tr):=[(qg,xJ),(mG,mS p),(GY,Oi)]
theorem bY6:aQ (aU x) (n+5) Rt (wg p):=fc x (q:=br1) (l:=bY5 p) (by kernel_rfl) ⟨yX,oQ,GM,cH2⟩ λX I u2 g=>g _
 (λi t r X ht S at_=>⟨0,_,cH2,(c8 t).length,_,ht,t,r,_,rfl,S⟩)
 λi m q t r X ht hq hi S at_=>by
  refine⟨m,_,cH2,?_⟩
  conv=>whnf
  refine jc (kq (nN.mpr (iz.mpr hq.b.1))) ⟨(c8 t).length,_,ht,t,r,_,rfl,?_⟩
  conv=>whnf
  refine AL (bR (!·) (kq λe=>vg 0 (aq4 hq.b.2 (zU.mp e)))) ⟨q,⟨?_,?_,tY hq.f⟩,?_⟩
  ·show(cV.map fX)[q]?=_
   rw[mD,hq.e];rfl
  ·exact gv.mpr ⟨rfl,(cB4.mpr λX I=>rfl:∀y∈cV.map fX,yE y=ah)⟩
  ·conv=>whnf
   exact jc (kq (Gp.mpr hi)) S
noncomputable def bY7:J PS:=[.dm (.Y aK) fy (.lst ak []),.dm (.Y aK) p_ (.lst ak []),.dm (.Y aK) mF (.lst ah []),.dm (.Y aK) qd (.lst ak []),.dm (.Y aK) qc (.lst ak []),.dm (.Y aK) pZ (.lst ak []),.dm (.Y aK) pY (.lst ak []),.dm (.Y aK) nU .cN,.dm (.Y aK) pX (.lst ak []),.dm (.Y aK) nP (.lst ak []),.dm (.Y aK) qL (.lst ah [])]
noncomputable def bY8:Fn:=⟨LB,bY7,pa [aK],[(aK,.local)]⟩
noncomputable def jh{α:Type}(dn:J H)(n:H)(f:α->D)(l:J α):J D:=bC (eK n dn) (l.map f) []
noncomputable def ze{α:Type}(dn:J H)(n:H)(f:α->D)(l:J α):V:=.d (.list (jh dn n f l))
noncomputable def zf(m:b6)(Z:D)(dn:J H)(a b:H):O:=.inst s7 [(fy,ze dn 1 mP m.k),(p_,ze dn 2 fh.d m.i),(mF,.ref a),(qd,ze dn 4 i6.d m.t),(qc,ze dn 5 nE m.m),(pZ,ze dn 6 iy.d m.g),(pY,ze dn 7 ju.d m.e),(nU,.d Z),(pX,ze dn 9 dz.d m.l),(nP,ze dn 11 eV.d m.d),(qL,.ref b)]
def ac7:Tr:=λa_ o_ k_=>∀P_:Tr,(∀(m:b6){k},k (.ref 0) [zf m .none [] 1 2,.dl [],.dl []]->P_ [] [] k)->P_ a_ o_ k_
theorem bY9:aQ (aU x) (n+1) LB λargs o k=>∃m,args=[.ref 0]/\o=[.inst s7 []]/\k (.d .none) [zf m .none [] 1 2,.dl [],.dl []]:=fc x (q:=bY8) (l:=[]) (by kernel_rfl) trivial λargs o k ⟨m,h1,h2,S⟩=>by subst h1 h2;exact S
theorem bZ0:aQ (aU x) (n+2) s7 ac7:=(CB x bY9 (by kernel_rfl)).of λX I u2 g=>g _ λm X S=>⟨m,rfl,rfl,S⟩
noncomputable def uZ(a:dB)(b:H):O:=.inst yo [(dX,.d (.str a.n)),(bH,.d (.bytes a.c)),(rL,.d (.int b))]
noncomputable def xP(c:dB):aa:=(j6 c.b:aa) -1
noncomputable def z3(c:dB):D:=.int (xP c)
noncomputable def FH:J dB->H
 |[]=>6
 |[X]=>7
 |X=>8
noncomputable def cuO(f:dB->H):J dB->J O->J O
 |[],r=>.dl []::r
 |[a],r=>.vl [.ref 6]::uZ a (f a)::r
 |a::b::X,r=>.vl [.ref 6,.ref 7]::uZ a (f a)::uZ b (f b)::r
noncomputable def kD(f:cW):D:=.int f.k
noncomputable def V0(n:H)(m:b6)(q:aD)(ks:J D)(hc:aD):O:=.inst BJ [(BC,.ref 1),(uC,.d (.int 50000)),(bI,.ref 3),(fy,.d (.list ks)),(GI,.d (.bool hc)),(Bx,.d (bC q (.int m.d.length) .none)),(GG,.ref n)]
noncomputable def f0(_:dB):H:=0
noncomputable def r_(m:b6)(Z:D)(f:dB->H)(c:J dB)(p:aa)(t:Ts)(dn:J H)(q:aD)(ks:J D)(hc:aD)(fs:J D)(z:J O):J O:=V0 (FH c) m q ks hc::pK 2 p::.cur t::zf m Z dn 4 5::.dl fs::cuO f c (.dl (c.map z3)::z)
noncomputable def qs(m:b6)(f:dB->H)(c:J dB)(p:aa)(t:Ts)(dn:J H)(z:J O):J O:=r_ m (bC (eK 8 dn) (jq m.s) .none) f c p t dn (eK 12 dn) (jh dn 3 kD m.f) (eK 10 dn) (jh dn 10 cW.d m.f) z
def bZ1:Tr:=λa_ o_ k_=>∀P_:Tr,(∀(m r){k},k (.d .none) (qs m f0 [] (-1) r [] [])->P_ [.ref 0,.d (.bytes (c8 (A2 r))),.d (.int 50000)] [.inst BJ []] k)->P_ a_ o_ k_
theorem bZ2:aQ (aU x) (n+6) Zr bZ1:=fc x (q:=by6) (l:=[(BI,ac6),(s7,ac7)]) (by kernel_rfl) ⟨bY3,bZ0,cH2⟩ λX I u2 g=>g _ λm r X S=>(λX I=>I r (λX I=>I m S))
def JF:Tr:=λa_ o_ k_=>∀P_:Tr,(∀(m r){k},k (.ref 0) (qs m f0 [] (-1) r [] [])->P_ [.d (.bytes (c8 (A2 r))),.d (.int 50000)] [] k)->P_ a_ o_ k_
theorem JF.mk(m r){k}(f5:k (.ref 0) (qs m f0 [] (-1) r [] [])):JF [.d (.bytes (c8 (A2 r))),.d (.int 50000)] [] k:=λP_ c_=>c_ m r f5
theorem bZ3:aQ (aU x) (n+7) BJ JF:=(CB x bZ2 (by kernel_rfl)).of λX I u2 g=>g _ λm r X S=>(λX I=>I m r S)
def V1:Tr:=λa_ o_ k_=>∀P_:Tr,(∀(m Z f c p t dn q ks hc fs)(i:aa){k},eK 11 dn=ah\/q=ak\/m.d=[]->k (.d .none) (r_ m Z f c p t dn q ks hc fs [])->P_ [.ref 0,.d (.int i)] (r_ m Z f c p t dn q ks hc fs []) k)->P_ a_ o_ k_
theorem ac8:aQ (aU x) (n+1) Mb V1:=fc x (q:=by9) (l:=[]) (by kernel_rfl) trivial λX I u2 g=>g _ λm Z f c p t dn q ks hc fs i k h S=>by
 induction q with
 |false=>rcases c with _|⟨a,_|⟨b,c⟩⟩<;>exact S
 |true=>
  have ne:(!decide ((m.d.length:aa)=((jh dn 11 eV.d m.d).length:H)))=ak:=by
   have e:(jh dn 11 eV.d m.d).length=m.d.length:=by
    unfold jh;rcases h with h|h|h
    ·rw[h];exact cO ..
    ·cases h
    ·rw[h];cases eK 11 dn<;>rfl
   rw[e,nL rfl];rfl
  clear h;rcases c with _|⟨a,_|⟨b,c⟩⟩<;>exact jc ne S
noncomputable def ac9(p:H):J (H×Tr):=[(mG,mS p),(GY,Oi),(Ma,Jv p),(Ho,Ft p),(G4,v9),(Ag,Vt)]
noncomputable def ad0(n:H)(i:aa):Fm:=[(aK,.L (N (.ref 0))),(fK,.L (N (.ref n))),(cD,.L (N (.d (.int i)))),(dK,.L ao),(kU,.L ao),(bW,.L ao),(fy,.L ao)]
def smF(p:H)(f:cW):Prop:=cY (c8 (UW p f)).length
structure CZ(p:H)(q:aD)(f:cW):Prop where
 o:f.ok
 s:smF p f
 u:q=ah\/∀i∈f.b,qm i=ak
theorem bZ4{m:b6}{Z:D}{c:J dB}{pl:aa}{t:Ts}{dn:J H}{q:aD}{ks:J D}{i:aa}{K:dZ->St->Prop}(fl:J cW):∀(acc:J D),(∀f∈fl,CZ p q f)->acc.length+fl.length<=1000->
  K .next ⟨ad0 (FH c+1) i,r_ m Z f0 c pl t dn q ks ah (acc++fl.map cW.d) [.cur []]⟩->
  gT [dK,kU,bW,fy] [bW] ah (FH c+2) ((vc ⟨dP,d_ (ac9 p)⟩ 39).s wt) (fl.map kD) ⟨ad0 (FH c+1) i,r_ m Z f0 c pl t dn q ks ah acc [.cur (tL (CK p) fl [])]⟩ K:=by
 induction fl with
 |nil=>
  intro acc _ _ h;rw[Yc,j3]at h
  exact h
 |cons f fl ih=>
  intro acc hf hl h;have g:=hf f (.head _);have al:acc.length<1048576:=eZ (bN (gF ..) hl) (by decide)
  have next:=ih (acc++[f.d]) (λy h=>hf y (.tail _ h)) (by rw[f6,wB,rC _ fl.length];exact hl) (by rw[jx];exact h)
  clear h ih hl hf;rcases g with⟨o,sm,u⟩
  cases q<;>rcases c with _|⟨a,_|⟨b,c⟩⟩<;>exact⟨_,_,sm,⟨UW p f,tL (CK p) fl [],_,rfl,Jv.mk f.l (oO p f.b []) o.2.1 (Ft.mk f.b _ [] o.2.2 u (v9.mk (uW.mk f ⟨al,next⟩)))⟩⟩
inductive V2(p:H):Tr
 |mk (m Z c pl t dn q) {k}:m.ok->(∀f∈m.f,CZ p q f)->k (.d .none) (r_ m Z f0 c pl t dn q (m.f.map kD) ah (m.f.map cW.d) [.cur []])->V2 p [.ref 0,.ref (FH c+1)] (r_ m Z f0 c pl t dn q (m.f.map kD) ak [] [.cur (q8 p (CK p) m.f [])]) k
theorem bZ5:aQ (aU x) (n+10) RD (V2 p):=fc x (q:=by8) (l:=ac9 p) (by kernel_rfl) ⟨oQ,GM,bU7,P2,KT,Qb,cH2⟩ λX I u2 g=>g.rec λm Z c pl t dn q k hm hf S=>by
 have hl:=hm.f.1;have ne:(!decide (((m.f.length:H):aa)=((m.f.map kD).length:H)))=ak:=by rw[cO,nL rfl];rfl
 have li:cY m.f.length:=eZ hl (by decide)
 have lp:=λat_ K=>bZ4 (m:=m) (Z:=Z) (c:=c) (pl:=pl) (t:=t) (dn:=dn) (q:=q) (ks:=m.f.map kD) (i:=at_) (K:=K) m.f [] hf (by rw[Du,mW];exact bN hl (by decide))
 clear hm hl hf;rcases c with _|⟨a,_|⟨b,c⟩⟩<;>(
  intro at_;refine⟨m.f.length,tL (CK p) m.f [],li,?_⟩
  conv=>whnf
  refine jc ne ?_
  conv=>whnf
  exact lp at_ _ S)
inductive wh(p:H):Tr->Prop
 |k:wh p (q9 p LU NA (I_ p) mP)
 |i:wh p (q9 p LV fh.ok (Ja p) fh.d)
 |f:wh p (q9 p Eh cY (cU p) dN)
 |t:wh p (q9 p Hi i6.ok (E_ p) i6.d)
 |m:wh p (q9 p Hj tP (CI p) nE)
 |g:wh p (q9 p LX iy.ok (Jc p) iy.d)
 |e:wh p (q9 p LW ju.ok (Jd p) ju.d)
 |l:wh p (q9 p L8 dz.ok (CM p) dz.d)
 |d:wh p (q9 p L_ eV.ok (Jf p) eV.d)
inductive V3(p:H):Tr
 |mk (T:Tr) {args o k}:wh p T->T args o k->V3 p args o k
theorem aQ.all{f:Cf}{n:H}{a:aR}{P:Tr->Prop}{T:Tr}(h0:aQ f n a T)(h:∀T,P T->aQ f n a T){ff:Tr}(hX:∀args o k,ff args o k->∃T,P T/\T args o k):aQ f n a ff:=
 ⟨h0.keep,λargs o k g=>(hX args o k g).elim λT g=>(h T g.1).sc args o k g.2⟩
theorem bZ6:aQ (aU x) (n+16) w5 (V3 p):=aQ.all (P:=wh p) (r8 (p:=p) (NM (p:=p)) rfl) (λX g=>g.rec (r8 (p:=p) NM rfl) (r8 (p:=p) bP9 rfl) (r8 (p:=p) Vm rfl) (r8 (p:=p) M' rfl) (r8 (p:=p) No rfl) (r8 (p:=p) bP6 rfl) (r8 (p:=p) bM5 rfl) (r8 (p:=p) bR2 rfl) (r8 (p:=p) bQ2 rfl)) λX I u2 g=>g.rec λT X I u2 h g=>⟨T,h,g⟩
theorem ki{α:Type}{P:α->Prop}{l:J α}(h:fO 14 P l):fO 1000 P l:=⟨bN h.1 (by decide),h.2⟩
structure pre(p:H)(m:b6)(dn:J H)(n:H):Prop where
 a:n=8->∃i,m.s=N i
 b:n=10->eK 3 dn=ah/\eK 10 dn=ak/\∀f∈m.f,CZ p (eK 12 dn) f
inductive V4(p:H):Tr
 |mk (m c pl t dn n) {k}:n∈cV->m.ok->pre p m dn n->k (.d .none) (qs m f0 c pl t (n::dn) [.cur []])->V4 p [.ref 0,.d (.int n),.ref (FH c+1)] (qs m f0 c pl t dn [.cur (pH p m n)]) k
noncomputable def O2(p:H):J (H×Tr):=[(w5,V3 p),(mG,mS p),(RD,V2 p),(Mb,V1)]
theorem bZ7:aQ (aU x) (n+17) RC (V4 p):=fc x (q:=NT) (l:=O2 p) (by kernel_rfl) ⟨bZ6,oQ,bZ5,ac8,cH2⟩ λX I u2 g=>g.rec λm c pl t dn n k hn hm hp=>by
 have li:cY m.d.length:=eZ hm.d.1 (by decide)
 have lm:n=8->cY (m.s.getD 0)/\jq m.s=.int (m.s.getD 0:H):=λe=>by obtain⟨i,e⟩:=hp.a e;have:=hm.s i e;rw[e];exact⟨this,rfl⟩
 have h10:n=10->(∀f∈m.f,CZ p (eK 12 dn) f)/\jh dn 3 kD m.f=m.f.map kD/\eK 10 dn=ak/\jh dn 10 cW.d m.f=[]:=λe=>by
  obtain⟨h1,h2,h3⟩:=hp.b e;refine⟨h3,?_,h2,?_⟩<;>unfold jh
  ·rw[h1];rfl
  ·rw[h2];rfl
 clear hp
 revert lm h10
 rcases c with _|⟨a,_|⟨b,c⟩⟩
 ·refine eW (P:=λn=>(n=8->cY (m.s.getD 0)/\jq m.s=.int (m.s.getD 0:H))->(n=10->(∀f∈m.f,CZ p (eK 12 dn) f)/\jh dn 3 kD m.f=m.f.map kD/\eK 10 dn=ak/\jh dn 10 cW.d m.f=[])->k (.d .none) (qs m f0 [] pl t (n::dn) [.cur []])->lK NT (O2 p) [.ref 0,.d (.int n),.ref 7] (qs m f0 [] pl t dn [.cur (pH p m n)]) k) hn ⟨λX I S=>⟨_,.k,λy=>y,m.k,[],ki hm.k,S⟩,λX I S=>⟨_,.i,λy=>y,m.i,[],ki hm.i,S⟩,λX I S=>⟨_,.f,cW.k,m.f,[],ki ⟨hm.f.1,λf h=>(hm.f.2 f h).1⟩,S⟩,λX I S=>⟨_,.t,λy=>y,m.t,[],ki hm.t,S⟩,λX I S=>⟨_,.m,λy=>y,m.m,[],ki hm.m,S⟩,λX I S=>⟨_,.g,λy=>y,m.g,[],ki hm.g,S⟩,λX I S=>⟨_,.e,λy=>y,m.e,[],ki hm.e,S⟩,λh X S=>?_,λX I S=>⟨_,.l,λy=>y,m.l,[],ki hm.l,S⟩,λX I S=>⟨m.d.length,[],li,S⟩,λX h S=>?_,λX I S at_=>⟨_,.d,⟨λy=>y,m.d,[],ki hm.d,(λX I=>I m _ f0 [] pl t (11::dn) _ _ _ _ at_ (.inl rfl) S)⟩⟩,cH2⟩
  ·have S:k (.d .none) (r_ m (jq m.s) f0 [] pl t (8::dn) (eK 12 dn) (jh dn 3 kD m.f) (eK 10 dn) (jh dn 10 cW.d m.f) [.cur []]):=S;rw[(h rfl).2]at S
   exact⟨m.s.getD 0,[],(h rfl).1,S⟩
  ·obtain⟨h1,h2,h3,h4⟩:=h rfl;have S:k (.d .none) (r_ m (bC (eK 8 dn) (jq m.s) .none) f0 [] pl t dn (eK 12 dn) (jh dn 3 kD m.f) ah (m.f.map cW.d) [.cur []]):=S;rw[h2]at S
   unfold qs;rw[h2,h3,h4];exact⟨m,_,[],pl,t,dn,eK 12 dn,hm,h1,S⟩
 ·refine eW (P:=λn=>(n=8->cY (m.s.getD 0)/\jq m.s=.int (m.s.getD 0:H))->(n=10->(∀f∈m.f,CZ p (eK 12 dn) f)/\jh dn 3 kD m.f=m.f.map kD/\eK 10 dn=ak/\jh dn 10 cW.d m.f=[])->k (.d .none) (qs m f0 [a] pl t (n::dn) [.cur []])->lK NT (O2 p) [.ref 0,.d (.int n),.ref 8] (qs m f0 [a] pl t dn [.cur (pH p m n)]) k) hn ⟨λX I S=>⟨_,.k,λy=>y,m.k,[],ki hm.k,S⟩,λX I S=>⟨_,.i,λy=>y,m.i,[],ki hm.i,S⟩,λX I S=>⟨_,.f,cW.k,m.f,[],ki ⟨hm.f.1,λf h=>(hm.f.2 f h).1⟩,S⟩,λX I S=>⟨_,.t,λy=>y,m.t,[],ki hm.t,S⟩,λX I S=>⟨_,.m,λy=>y,m.m,[],ki hm.m,S⟩,λX I S=>⟨_,.g,λy=>y,m.g,[],ki hm.g,S⟩,λX I S=>⟨_,.e,λy=>y,m.e,[],ki hm.e,S⟩,λh X S=>?_,λX I S=>⟨_,.l,λy=>y,m.l,[],ki hm.l,S⟩,λX I S=>⟨m.d.length,[],li,S⟩,λX h S=>?_,λX I S at_=>⟨_,.d,⟨λy=>y,m.d,[],ki hm.d,(λX I=>I m _ f0 [a] pl t (11::dn) _ _ _ _ at_ (.inl rfl) S)⟩⟩,cH2⟩
  ·have S:k (.d .none) (r_ m (jq m.s) f0 [a] pl t (8::dn) (eK 12 dn) (jh dn 3 kD m.f) (eK 10 dn) (jh dn 10 cW.d m.f) [.cur []]):=S;rw[(h rfl).2]at S
   exact⟨m.s.getD 0,[],(h rfl).1,S⟩
  ·obtain⟨h1,h2,h3,h4⟩:=h rfl;have S:k (.d .none) (r_ m (bC (eK 8 dn) (jq m.s) .none) f0 [a] pl t dn (eK 12 dn) (jh dn 3 kD m.f) ah (m.f.map cW.d) [.cur []]):=S;rw[h2]at S
   unfold qs;rw[h2,h3,h4];exact⟨m,_,[a],pl,t,dn,eK 12 dn,hm,h1,S⟩
 ·refine eW (P:=λn=>(n=8->cY (m.s.getD 0)/\jq m.s=.int (m.s.getD 0:H))->(n=10->(∀f∈m.f,CZ p (eK 12 dn) f)/\jh dn 3 kD m.f=m.f.map kD/\eK 10 dn=ak/\jh dn 10 cW.d m.f=[])->k (.d .none) (qs m f0 (a::b::c) pl t (n::dn) [.cur []])->lK NT (O2 p) [.ref 0,.d (.int n),.ref 9] (qs m f0 (a::b::c) pl t dn [.cur (pH p m n)]) k) hn ⟨λX I S=>⟨_,.k,λy=>y,m.k,[],ki hm.k,S⟩,λX I S=>⟨_,.i,λy=>y,m.i,[],ki hm.i,S⟩,λX I S=>⟨_,.f,cW.k,m.f,[],ki ⟨hm.f.1,λf h=>(hm.f.2 f h).1⟩,S⟩,λX I S=>⟨_,.t,λy=>y,m.t,[],ki hm.t,S⟩,λX I S=>⟨_,.m,λy=>y,m.m,[],ki hm.m,S⟩,λX I S=>⟨_,.g,λy=>y,m.g,[],ki hm.g,S⟩,λX I S=>⟨_,.e,λy=>y,m.e,[],ki hm.e,S⟩,λh X S=>?_,λX I S=>⟨_,.l,λy=>y,m.l,[],ki hm.l,S⟩,λX I S=>⟨m.d.length,[],li,S⟩,λX h S=>?_,λX I S at_=>⟨_,.d,⟨λy=>y,m.d,[],ki hm.d,(λX I=>I m _ f0 (a::b::c) pl t (11::dn) _ _ _ _ at_ (.inl rfl) S)⟩⟩,cH2⟩
  ·have S:k (.d .none) (r_ m (jq m.s) f0 (a::b::c) pl t (8::dn) (eK 12 dn) (jh dn 3 kD m.f) (eK 10 dn) (jh dn 10 cW.d m.f) [.cur []]):=S;rw[(h rfl).2]at S
   exact⟨m.s.getD 0,[],(h rfl).1,S⟩
  ·obtain⟨h1,h2,h3,h4⟩:=h rfl;have S:k (.d .none) (r_ m (bC (eK 8 dn) (jq m.s) .none) f0 (a::b::c) pl t dn (eK 12 dn) (jh dn 3 kD m.f) ah (m.f.map cW.d) [.cur []]):=S;rw[h2]at S
   unfold qs;rw[h2,h3,h4];exact⟨m,_,a::b::c,pl,t,dn,eK 12 dn,hm,h1,S⟩
end
section
open Wh (cu)
noncomputable def O3:V->aD
 | .d .none=>ah
 | .d (.bool X)=>ah
 | .d (.int X)=>ah
 | .d (.str X)=>ah
 |X=>ak
def bZ8(o:J O)(k:V->J O->Prop)(v:V)(o':J O):Prop:=o'=[]/\O3 v=ah/\k v o
inductive O4(T:Tr)(args:J V)(o:J O)(k:V->J O->Prop):Prop
 |mk (ds:J D):args.map (tC o 20)=ds.map N->tw (len o) (An args++lU o)=ah->T (ds.map .d) [] (bZ8 o k)->O4 T args o k
theorem bZ9{w:bU}{r r':bQ}{F F':bP}{v:V}{u:aA}(h:O3 v=ah)(y:VR w r F v u):VR w r' F' v u:=
 y.rec (motive:=λv u X=>O3 v=ah->VR w r' F' v u) (λy=>y.out.rec (motive:=λx u X=>O3 (.d x)=ah->VR w r' F' (.d x) u) (λX=>.d .none) (λX=>.d .bool) (λX=>.d .int) (λX=>.d .str) (λX=>gr) gr (λX I u2=>gr) (λX I u2=>gr) λX I u2 u3=>gr) (λX=>gr) (λX I u2=>gr) (λX I u2=>gr) (λX I u2=>gr) h
theorem ca0{f:Cf}{n:H}{g:aA}{T:Tr}(h:SC f n g T):SC f n g (O4 T):=by
 intro args o k ⟨ds,he,h0,hT⟩ A s F E r ws ok el m y;have nB:=Ca.mp h0;rw[nc]at nB
 have sl:=FZ.le (h:=s.heap) m.jg;have y':gh f.w [] (FZ (own (r.zip o)) s.heap F) (ds.map .d) ws:=by
  have hl:∀a∈An args,a<o.length:=λa ha=>nB a (iN _ ha);have cl:∀a∈lU o,a<o.length:=λa ha=>nB a (kj _ ha);clear hT h0 nB;induction y generalizing ds with
  |nil=>induction ds using eT with|nil=>exact .nil|cons X I=>cases he
  |cons y1 y2 ih=>
   induction ds using eT with
   |nil=>cases he
   |cons d ds=>obtain⟨e1,e2⟩:=PD he;exact .cons (.d (dk m el cl (λa ha=>hl a (iN _ ha)) y1 e1)) (ih ds e2 λa ha=>hl a (kj _ ha))
 refine gG (h _ _ _ hT A s _ E [] ws ok rfl m.dr y') (λu s' p=>?_) λX I z=>z;obtain⟨v,o',r',tN,⟨rfl,hs,S⟩,yv,l,m2,t⟩:=p;exact⟨v,o,r,F,S,bZ9 hs yv,el,⟨λa x e=>m2.sub a x (t.grow a x (sl a x e)),m.base,λp hp=>(m.live p hp).step (.refl _) (.refl _) λb hb x e=>m2.sub b x (t.grow b x (FZ.at_ (rA.mpr ⟨p,hp,hb⟩) e)),m.jg,m.nd⟩,
  ⟨.refl _,t.same,.refl _,λX I e=>.inl e,λX h=>.inl h,λa x X e=>t.kept a x vt e⟩⟩
theorem aQ.ca1{f:Cf}{n:H}{a:aR}{T:Tr}(h:aQ f n a T):aQ f n a (O4 T):=⟨h.keep,ca0 h.sc⟩
variable{w:bU}{bJ s:aE}
def ca2(k:V->J O->Prop)(v:V)(o:J O):Prop:=∃x,tC o 20 v=N x/\tw (len o) (v.refs++lU o)=ah/\k (.d x) []
inductive V5(T:Tr)(args:J V)(o:J O)(k:V->J O->Prop):Prop
 |mk:o=[]->T args [] (ca2 k)->V5 T args o k
theorem ca3{f:Cf}{n:H}{g:aA}{T:Tr}(h:SC f n g T):SC f n g (V5 T):=by
 intro args o k ⟨ho,hT⟩ A s F E r ws ok el m y;subst ho;obtain rfl:r=[]:=XA.mp el;refine gG (h _ _ _ hT A s F E [] ws ok rfl m y) (λu s' p=>?_) λX I z=>z;obtain⟨v,o,r,F',⟨x,he,nB,S⟩,yv,el,m,t⟩:=p;have nB:=Ca.mp nB;rw[nc]at nB
 exact⟨.d x,[],[],_,S,.d (dk m el (λa h=>nB a (kj _ h)) (λa h=>nB a (iN _ h)) yv he),rfl,m.dr,
  ⟨.refl _,t.same,t.grow.trans (FZ.le m.jg),λa z e=>(FZ.cs e).elim (λe=>.inr (t.tK a e.1)) (t.vP a z),λa ha=>(vt ha).elim,t.kept⟩⟩
theorem aQ.HX{f:Cf}{n:H}{a:aR}{T:Tr}(h:aQ f n a T):aQ f n a (V5 T):=⟨h.keep,ca3 h.sc⟩
end
section
open Wh (cu)
variable{w:bU}{bJ s:aE}{x:cu w bJ s}{n p:H}
noncomputable def ad1(p c:H)(i:aa):J D:=bC (jk (bX c 114) (bz (bX c 98) (decide (i<0)))) [.int (128+i)] (bC (jk (bX c 117) (bX c 97)) (oF p i.toNat) (fJ (tS (bC (bX c 105) 32 (bC (bX c 108) 64 33)) p i).oct))
noncomputable def FI(p:H)(t:J D)(i:aa):J D:=t++oF p i.toNat
noncomputable def pL(p:H)(all:J aa):J H->J aa->J D->J D
 |[],X,t=>t
 |c::l,a,t=>bC (bX c 122) (pL p all l a (t++[.int 0])) (bC (bX c 107) (pL p all l a (t++oK p all)) (bC (bX c 116) (pL p all l a (all.foldl (FI p) (t++oF p (all.length -1)))) (pL p all l a.tail (t++ad1 p c (a.headD 0)))))
noncomputable def V6(p:H)(c:aa):J D:=bC (decide (c<64512)) [.int c] ([.int 252]++oF p (c -64512).toNat)
noncomputable def FJ(p:H)(t:J D)(i:fj):J D:=pL p i.a (oh i.c) i.a (t++V6 p i.c)
noncomputable def lN(p:H)(b:iR)(t:J D):J D:=b.foldl (FJ p) t
def zg:Tr:=λa_ o_ k_=>∀P_:Tr,(∀(n p:H)(z:aa){k},z=n->cY n->k (.d (.list (oF p n))) []->P_ [.d (.int z),.d (.int p)] [] k)->P_ a_ o_ k_
theorem A3:aQ (aU x) (n+2) s9 zg:=WF.HX.of λX I u2 g=>g _ λn p z k e h S=>⟨rfl,(λX I=>I n p z e h ⟨_,rfl,rfl,S⟩)⟩
noncomputable def ad2:J (H×Tr):=[(s9,zg),(Mn,XB),(Hx,VM),(Mm,WP)]
noncomputable def O5(b d:D)(p:H)(c:aa)(pl:aa):Fm:=[(dK,.L (N (.d b))),(cy,.L (N (.d (.int p)))),(d8,.L (N (.d (.int c)))),(lT,.L (N (.d d))),(uB,.L ao),(i8,.L ao),(bw,.L ao),(bH,.L (N (.ref 0))),(dO,.L (N (.d (.int pl))))]
theorem ad3{b:D}{c:aa}{K:dZ->St->Prop}{ls:J H}{a:J aa}(h:j5 ls a)(t:J D):dG (pL p a ls a t)->(∀pl,K .next ⟨O5 b (.tup (.int c::a.map .int)) p c pl,[.dl (pL p a ls a t)]⟩)->
  gT [uB,i8,bw] [i8] ah 1 ((vc ⟨dP,d_ ad2⟩ 38).s xv) (ls.map N4) ⟨O5 b (.tup (.int c::a.map .int)) p c 1,[.dl t]⟩ K:=by
 have l2:(1:aa)<((2:H):aa):=by decide
 have l31:(1:aa)<((3:H):aa):=by decide
 have l32:(2:aa)<((3:H):aa):=by decide
 cases h with
 |o=>exact λX hK=>hK 1
 |z=>exact λhf hK=>⟨zc hf,hK 1⟩
 |zz=>exact λhf hK=>⟨zc (cZ hf),zc hf,hK 1⟩
 |u h=>exact λhf hK=>⟨by decide,l2,oi rfl (λX I=>I _ p _ rfl h ⟨dW hf,hK 2⟩)⟩
 |i h=>exact λhf hK=>⟨by decide,l2,oi rfl ⟨_,⟨rfl,(λX I=>I _ 32 p (.head _) h ⟨dW hf,hK 2⟩)⟩⟩⟩
 |l h=>exact λhf hK=>⟨by decide,l2,oi rfl ⟨_,⟨rfl,(λX I=>I _ 64 p (.tail _ (.tail _ (.head _))) h ⟨dW hf,hK 2⟩)⟩⟩⟩
 |r h=>exact λhf hK=>⟨by decide,l2,oi rfl ⟨zc hf,hK 2⟩⟩
 |k h g=>exact λhf hK=>⟨⟨zW _,iz.mpr (jd _)⟩,(λX I=>I a p (eZ h (by decide)) (fC hf) ⟨dW hf,hK 1⟩)⟩
 |@t i a h g=>
  intro hf hK;have e2:(((D.int c::((i::a).map sL).map D.int).length:H):aa) -2=(((i::a).map (sL:H->aa)).length -1:H):=by rw[Kn,cO,cO];exact uh (a.length:aa) 2
  have l0:cY (((i::a).map (sL:H->aa)).length -1):=by rw[cO];exact eZ h (by decide)
  have fit:∀(ys:J aa)(t:J D),dG (ys.foldl (FI p) t)->dG t:=λys=>by
   induction ys with
   |nil=>exact λX h=>h
   |cons y ys ih=>exact λt h=>cZ (ih _ h)
  refine(λX I=>I _ p _ e2 l0 ⟨dW (fit _ _ hf),⟨zW _,iz.mpr (jd _)⟩,?_⟩);refine tQ (AM (f:=D.int) (w:=FI p) (bM:=λz=>⟨[(dK,.L (N (.d b))),(cy,.L (N (.d (.int p)))),(d8,.L (N (.d (.int c)))),(lT,.L (N (.d (.tup (.int c::((i::a).map sL).map .int))))),(uB,.L ao),(i8,.L (N (.d (N4 116)))),(bw,.L ao),(bH,.L (N (.ref 0))),(dO,.L (N (.d (.int 1))))],[.dl z]⟩) (bG:=λys z=>dG (ys.foldl (FI p) z)/\∀y∈ys,∃n:H,y=n/\cY n) (λy ys z next hI hn=>?_) ((i::a).map sL) _ ⟨hf,λy hy=>?_⟩ λX=>?_)
  ·obtain⟨j,e,hj⟩:=hI.2 y (.head _);subst e;exact(λX I=>I j p _ rfl hj ⟨dW (fit ys _ hI.1),hn ⟨hI.1,λy h=>hI.2 y (.tail _ h)⟩⟩)
  ·obtain⟨j,hj,rfl⟩:=qA.mp hy;exact⟨j,rfl,g j hj⟩
  ·exact hK 1
 |@b i h=>
  intro hf hK;have hS:decide (i<0)=ak->ql 33 i:=λq=>by
   cases h with
   |e=>cases q
   |k h=>exact absurd (eW (P:=λi:aa=>i<0) h ⟨by decide,by decide,by decide,by decide,cH2⟩) (sJ q)
   |x h=>exact⟨jj (by decide) nn,dF.mpr h⟩
  have g:dG (t++bC (decide (i<0)) [.int (128+i)] (fJ (tS 33 p i).oct))/\∀pl,K .next ⟨O5 b (.tup [.int c,.int i]) p c pl,[.dl (t++bC (decide (i<0)) [.int (128+i)] (fJ (tS 33 p i).oct))]⟩:=⟨hf,hK⟩;refine⟨by decide,l2,λy hy=>?_⟩
  cases hy
  conv=>whnf
  exact qY (P:=λl=>dG (t++l)/\∀pl,K .next ⟨O5 b (.tup [.int c,.int i]) p c pl,[.dl (t++l)]⟩) g (λX g=>⟨zc g.1,g.2 2⟩) λq g=>⟨_,⟨rfl,(λX I=>I i 33 p (.tail _ (.head _)) (hS q) ⟨dW g.1,g.2 2⟩)⟩⟩
 |uz h=>exact λhf hK=>⟨by decide,l2,oi rfl (λX I=>I _ p _ rfl h ⟨dW (cZ hf),zc hf,hK 2⟩)⟩
 |uu h g=>exact λhf hK=>⟨by decide,l31,oi rfl (λX I=>I _ p _ rfl h ⟨dW (cZ hf),by decide,l32,λy hy=>by cases hy;exact(λX I=>I _ p _ rfl g ⟨dW hf,hK 3⟩)⟩)⟩
 |au h g=>exact λhf hK=>⟨by decide,l31,oi rfl (λX I=>I _ p _ rfl (mE h (by decide)) ⟨dW (cZ hf),by decide,l32,λy hy=>by cases hy;exact(λX I=>I _ p _ rfl g ⟨dW hf,hK 3⟩)⟩)⟩
theorem ca4:kP (λc=>decide (c<65536)) (11::5::qG)=ah:=by kernel_rfl
structure ca5(i:fj):Prop where
 l:j5 (oh i.c) i.a
 c:i.c<65536
theorem V7{i:fj}(h:i.mQ):ca5 i:=by
 cases h with
 |i h=>exact⟨h.a,gy (lE ca4 _ (.tail _ (.tail _ h.c)))⟩
 |e=>exact⟨(show oh 11=[] by decide)▸ .o,by decide⟩
 |l=>exact⟨(show oh 5=[] by decide)▸ .o,by decide⟩
theorem ad4{ls:J H}{a:J aa}(h:j5 ls a):ls.length<=1048576:=by cases h<;>decide
theorem O6{all:J aa}:∀(ls:J H)(a:J aa)(t:J D),dG (pL p all ls a t)->dG t:=λi_=>by
 induction i_ with
 |nil=>exact λX I h=>h
 |cons c ls ih=>
  intro a t h;have h:dG (bC (bX c 122) (pL p all ls a (t++[.int 0])) (bC (bX c 107) (pL p all ls a (t++oK p all)) (bC (bX c 116) (pL p all ls a (all.foldl (FI p) (t++oF p (all.length -1)))) (pL p all ls a.tail (t++ad1 p c (a.headD 0)))))):=h;have fit:∀(ys:J aa)(t:J D),dG (ys.foldl (FI p) t)->dG t:=λys=>by
   induction ys with
   |nil=>exact λX h=>h
   |cons y ys ih=>exact λt h=>cZ (ih _ h)
  revert h
  cases bX c 122 with
  |true=>exact λh=>cZ (ih _ _ h)
  |false=>cases bX c 107 with
   |true=>exact λh=>cZ (ih _ _ h)
   |false=>cases bX c 116 with
    |true=>exact λh=>cZ (fit _ _ (ih _ _ h))
    |false=>exact λh=>cZ (ih _ _ h)
theorem ca6:∀(ys:iR)(t:J D),dG (ys.foldl (FJ p) t)->dG t:=λi_=>by
 induction i_ with
 |nil=>exact λX h=>h
 |cons i ys ih=>exact λt h=>cZ (O6 _ _ _ (ih _ h))
def JG:Tr:=λa_ o_ k_=>∀P_:Tr,(∀(b:iR)(p:H){k},(∀i∈b,i.mQ)->dG (lN p b [])->k (.d (.list (lN p b []))) []->P_ [.d (gA b),.d (.int p)] [] k)->P_ a_ o_ k_
theorem O7:aQ (aU x) (n+5) BW JG:=fc x (q:=bB7) (l:=ad2) (by kernel_rfl) ⟨A3,bT9,Xt,bT3,cH2⟩ λX I u2 g=>g _ λb p k hb hf S=>by
 refine AM (f:=fj.d) (w:=FJ p) (bM:=λt=>⟨[(dK,.L (N (.d (gA b)))),(cy,.L (N (.d (.int p)))),(d8,.L ao),(lT,.L ao),(uB,.L ao),(i8,.L ao),(bw,.L ao),(bH,.L (N (.ref 0))),(dO,.L ao)],[.dl t]⟩) (bG:=λys t=>dG (ys.foldl (FJ p) t)/\∀i∈ys,i.mQ) (λi ys t next hI hn=>?_) b [] ⟨hf,hb⟩ λX=>?_
 ·have iL:=V7 (hI.2 i (.head _));have g:=hn ⟨hI.1,λi h=>hI.2 i (.tail _ h)⟩;have hf:=ca6 ys _ hI.1
  revert g hf
  unfold FJ V6;obtain⟨c,a⟩:=i;have hl:j5 (oh c) a:=iL.l;have hc:c<65536:=iL.c;clear hI hn iL S;generalize hL:oh c=ls at hl
  intro g hf;have g:dG (pL p a ls a (t++bC (decide (c<64512)) [.int c] ([.int 252]++oF p (c -64512).toNat)))/\next ⟨[(dK,.L (N (.d (gA b)))),(cy,.L (N (.d (.int p)))),(d8,.L ao),(lT,.L ao),(uB,.L ao),(i8,.L ao),(bw,.L ao),(bH,.L (N (.ref 0))),(dO,.L ao)],[.dl (pL p a ls a (t++bC (decide (c<64512)) [.int c] ([.int 252]++oF p (c -64512).toNat)))]⟩:=by exact⟨hf,g⟩
  clear hf
  conv=>whnf
  refine qY (P:=λl=>dG (pL p a ls a (t++l))/\next ⟨[(dK,.L (N (.d (gA b)))),(cy,.L (N (.d (.int p)))),(d8,.L ao),(lT,.L ao),(uB,.L ao),(i8,.L ao),(bw,.L ao),(bH,.L (N (.ref 0))),(dO,.L ao)],[.dl (pL p a ls a (t++l))]⟩) g (λq g=>⟨dW (O6 ls a _ g.1),(λX I=>I c ls hL ⟨ad4 hl,?_⟩)⟩) λq g=>?_
  ·refine ad3 hl _ g.1 λpl=>?_;exact g.2
  ·have q:=nN.mp (sJ q);have e:=zO (QF q);have lt:cY (c -64512).toNat:=dF.mp (e.symm▸Gg (Int.sub_le_self c (by decide)) (sN hc (by decide)))
   refine(λX I=>I ((c -64512).toNat) p _ e.symm lt ⟨dW (fC (O6 ls a _ g.1)),⟨dW (O6 ls a _ g.1),(λX I=>I c ls hL ⟨ad4 hl,?_⟩)⟩⟩);refine ad3 hl _ g.1 λpl=>?_;exact g.2
 ·exact S
noncomputable def A4(p:H):qk->J D
 |(a,ao)=>[.int 0]++oF p a
 |(a,N m)=>[.int 1]++oF p a++oF p m
def V8:Tr:=λa_ o_ k_=>∀P_:Tr,(∀(l:qk)(p:H){k},tP l->dG (A4 p l)->k (.d (.list (A4 p l))) []->P_ [.d (nE l),.d (.int p)] [] k)->P_ a_ o_ k_
theorem ad5:aQ (aU x) (n+3) Hy V8:=fc x (q:=bB8) (l:=[(s9,zg)]) (by kernel_rfl) ⟨A3,cH2⟩ λX I u2 g=>g _ λl p k h hf S=>by
 obtain⟨a,m⟩:=l;induction m with
 |none=>exact(λX I=>I a p _ rfl h.1 ⟨dW hf,S⟩)
 |some m=>exact(λX I=>I a p _ rfl h.1 ⟨dW (cZ hf),(λX I=>I m p _ rfl (h.2 m rfl) ⟨dW hf,S⟩)⟩)
noncomputable def JH(p:H)(i:fh):J D:=match i.a with
 | .f a=>oW p i.p++oW p i.n++[.int (0:H)]++oF p a
 | .t t=>oW p i.p++oW p i.n++[.int (1:H)]++[.int (128+t.k)]++A4 p t.l
 | .m l=>oW p i.p++oW p i.n++[.int (2:H)]++A4 p l
 | .g g=>oW p i.p++oW p i.n++[.int (3:H)]++[.int (128+g.k),.int g.m]
def ad6:Tr:=λa_ o_ k_=>∀P_:Tr,(∀(i:fh)(p:H){k},i.ok->dG (JH p i)->k (.d (.list (JH p i))) []->P_ [.d i.d,.d (.int p)] [] k)->P_ a_ o_ k_
noncomputable def ca7:J (H×Tr):=[(Em,OX),(s9,zg),(Hy,V8)]
theorem ca8:aQ (aU x) (n+5) Mp ad6:=fc x (q:=bB9) (l:=ca7) (by kernel_rfl) ⟨VL,A3,ad5,cH2⟩ λX I u2 g=>g _ λi p k h hf S=>by
 obtain⟨y,z,a⟩:=i;obtain⟨h1,h2,h3⟩:=h;induction a with
 |f a=>exact(λX I=>I y p h1 (cZ (cZ (cZ hf))) (λX I=>I z p h2 (fC (cZ (cZ hf))) ⟨dW (cZ (cZ hf)),⟨dW (cZ hf),(λX I=>I a p _ rfl h3 ⟨dW hf,S⟩)⟩⟩))
 |t t=>exact(λX I=>I y p h1 (cZ (cZ (cZ (cZ hf)))) (λX I=>I z p h2 (fC (cZ (cZ (cZ hf)))) ⟨dW (cZ (cZ (cZ hf))),⟨dW (cZ (cZ hf)),⟨dW (cZ hf),⟨⟨zW _,iz.mpr (jd _)⟩,(λX I=>I t.l p h3.2 (fC hf) ⟨dW hf,S⟩)⟩⟩⟩⟩))
 |m l=>exact(λX I=>I y p h1 (cZ (cZ (cZ hf))) (λX I=>I z p h2 (fC (cZ (cZ hf))) ⟨dW (cZ (cZ hf)),⟨dW (cZ hf),(λX I=>I l p h3 (fC hf) ⟨dW hf,S⟩)⟩⟩))
 |g g=>exact(λX I=>I y p h1 (cZ (cZ (cZ hf))) (λX I=>I z p h2 (fC (cZ (cZ hf))) ⟨dW (cZ (cZ hf)),dW (cZ hf),dW hf,S⟩))
noncomputable def V9(p:H)(e:eV):J D:=oL p (e.c.map pJ)
noncomputable def JI(p:H)(e:eV):J D:=match e.o with
 |none=>oF p 1++V9 p e
 |some o=>bC (bz (decide ((o.1:aa)=0)) (decide ((p:aa)=0))) ([.int (0:H)]++lN p o.2 []++V9 p e) (oF p 2++oF p o.1++lN p o.2 []++V9 p e)
def ad7:Tr:=λa_ o_ k_=>∀P_:Tr,(∀(e:eV)(p:H){k},e.ok->dG (JI p e)->k (.d (.list (JI p e))) []->P_ [.d e.d,.d (.int p)] [] k)->P_ a_ o_ k_
noncomputable def ca9:J (H×Tr):=[(w6,AY),(s9,zg),(BW,JG)]
theorem cb0:aQ (aU x) (n+6) Ms ad7:=fc x (q:=bC2) (l:=ca9) (by kernel_rfl) ⟨FD,A3,O7,cH2⟩ λX I u2 g=>g _ λe p k h hf S=>by
 obtain⟨o,c⟩:=e;have lc:cY (c.map pJ).length:=by rw[cO];exact eZ h.2.1 (by decide)
 have e1:c.map (λi:H=>D.list (pJ i))=(c.map pJ).map .list:=(n_ ..).symm;induction o with
 |none=>refine pG (f:=λi:H=>.int i) (g:=λi:H=>.list (pJ i)) (o:=[]) (λi k h=>h) c ?_;rw[e1];exact(λX I=>I (c.map pJ) p lc (fC hf) (λX I=>I 1 p _ rfl (cC2 (by decide)) ⟨dW hf,S⟩))
 |some o=>
  obtain⟨m,b⟩:=o;have hm:=h.1 (m,b) rfl;refine pG (f:=λi:H=>.int i) (g:=λi:H=>.list (pJ i)) (o:=[]) (λi k h=>h) c ?_;rw[e1];have g:∀l,bC (bz (decide ((m:aa)=0)) (decide ((p:aa)=0))) ([.int (0:H)]++lN p b []++oL p (c.map pJ)) (oF p 2++oF p m++lN p b []++oL p (c.map pJ))=l->dG l/\k (.d (.list l)) []:=λl e=>e▸⟨hf,S⟩;have fl:dG (oL p (c.map pJ)):=by
   revert g
   cases bz (decide ((m:aa)=0)) (decide ((p:aa)=0))with
   |true=>exact λg=>fC (g _ rfl).1
   |false=>exact λg=>fC (g _ rfl).1
  have g:=g _ rfl;refine(λX I=>I (c.map pJ) p lc fl ?_)
  conv=>whnf
  have b2:cY 2:=cC2 (by decide)
  refine Uw (P:=λl=>dG l/\k (.d (.list l)) []) g (λg=>(λX I=>I b p hm.2.ins (fC (cZ g.1)) ⟨dW (cZ g.1),dW g.1,g.2⟩)) (λg=>?_) λg=>?_
  ·exact(λX I=>I 2 p _ rfl b2 (λX I=>I m p _ rfl hm.1 ⟨dW (cZ (cZ g.1)),(λX I=>I b p hm.2.ins (fC (cZ g.1)) ⟨dW (cZ g.1),dW g.1,g.2⟩)⟩))
  ·exact(λX I=>I 2 p _ rfl b2 (λX I=>I m p _ rfl hm.1 ⟨dW (cZ (cZ g.1)),(λX I=>I b p hm.2.ins (fC (cZ g.1)) ⟨dW (cZ g.1),dW g.1,g.2⟩)⟩))
noncomputable def vd(p:H)(e8:aD)(w:H):J D:=bC e8 (oF p w) (oF p (w+4))
noncomputable def zh(e8:aD)(k:aa):J D:=bC e8 [.int 0] [.int (128+k)]
noncomputable def pM(p:H)(e8:aD)(e:dz):J (J D):=bC e8 (e.i.map λi=>oF p i.x) (e.i.map λi=>lN p (i.b e.k) [])
noncomputable def O8(p:H)(e:dz)(e8:aD):J D:=match e.m with
 | .p=>vd p e8 1++zh e8 e.k++oL p (pM p e8 e)
 | .d=>vd p e8 3++zh e8 e.k++oL p (pM p e8 e)
 | .a t b=>bC (bz (decide ((t:aa)=0)) (bz (decide (e.k=-16)) (decide ((p:aa)=0)))) (vd p e8 0++lN p b []++oL p (pM p e8 e)) (vd p e8 2++oF p t++lN p b []++zh e8 e.k++oL p (pM p e8 e))
noncomputable def C0(p:H)(e:dz):J D:=O8 p e (bz (!lM e) (!decide ((p:aa)=1)))
def ad8:Tr:=λa_ o_ k_=>∀P_:Tr,(∀(e:dz)(p:H){k},e.ok->dG (C0 p e)->k (.d (.list (C0 p e))) []->P_ [.d e.d,.d (.int p)] [] k)->P_ a_ o_ k_
noncomputable def V_:J (H×Tr):=[(s9,zg),(BW,JG),(w6,AY)]
noncomputable def zj(e:dz)(ii:aD)(kd oc pa wy:bq D):Fm:=[(oj,.L (N (.d e.d))),(cy,.C 0),(Lf,.L (N (.d (.bool ii)))),(bW,.L (kd.map .d)),(bH,.L (oc.map .d)),(lH,.L (pa.map .d)),(gS,.L (wy.map .d))]
def zk(j:H)(k:V->J O->Prop)(p:H)(M:Fm):Prop:=l8 ⟨dP,d_ V_⟩ (vc ⟨dP,d_ V_⟩ 39) (xI.drop j) ⟨M,[.cell (N (.d (.int p)))]⟩ (mK 0 k)
theorem cb1{A B:aD}{P:aD->Prop}{ff lZ eF:Prop}(h:P (bz A B))(f:A=ah->P ah->ff)(g:P ak->lZ)(g':P ak->eF):@Bool.rec (λX=>Prop) eF (@Bool.rec (λX=>Prop) lZ ff B) A:=by
 cases A
 ·exact g' h
 ·cases B;exact g h;exact f rfl h
theorem br3{A B C:aD}{P:aD->Prop}{ff Y1 Y2 Y3:Prop}(h:P (bz A (bz B C)))(f:P ah->ff)(g1:P ak->Y1)(g2:P ak->Y2)(g3:P ak->Y3):@Bool.rec (λX=>Prop) Y1 (@Bool.rec (λX=>Prop) Y2 (@Bool.rec (λX=>Prop) Y3 ff C) B) A:=by
 cases A
 ·exact g1 h
 ·cases B
  ·exact g2 h
  ·cases C;exact g3 h;exact f h
theorem ad9{e:dz}(h:lM e=ak):e.k=-16/\∀i∈e.i,nf i=ak:=by
 have g:=aq2.mp h;refine⟨?_,λi hi=>?_⟩
 ·have:=g.1;cases q:decide (e.k=-16)with
  |true=>exact gy q
  |false=>rw[q]at this;cases this
 ·cases q:nf i with
  |false=>rfl
  |true=>have:=g.2;rw[wD.mpr ⟨i,hi,q⟩]at this;cases this
theorem O9:∀(ps:J (J D))(a:J D),dG (ps.foldl app a)->∀q∈ps,dG q
 |b::ps,a,h,q,hq=>by
  rcases iV.mp hq with e|hq
  ·rw[e];exact fC (VJ ps (a++b) h)
  ·exact O9 ps _ h q hq
theorem Wa{α:Type}{F:α->J D}{l:J α}:l.map (λa=>D.list (F a))=(l.map F).map .list:=(n_ ..).symm
theorem cb2{α:Type}{F:α->J D}{l:J α}(h:l.length<=2):cY (l.map F).length:=by rw[cO];exact eZ h (by decide)
theorem O_{e:dz}{k:V->J O->Prop}(h:e.ok){ii:aD}(hi:ii=!lM e)(w:H)(hw:cY (w+4)){J0:aD}(hJ:J0=bz ii (!decide ((p:aa)=1)))(hf:dG (oL p (pM p J0 e)))
  (go:zk 4 k p (zj e ii (N (.list (zh J0 e.k))) (N (.list (vd p J0 w))) (N (.list ((pM p J0 e).map .list))) (N (.int w)))):zk 3 k p (zj e ii ao ao ao (N (.int w))):=by
 have g:dG (oL p (pM p J0 e))/\zk 4 k p (zj e ii (N (.list (zh J0 e.k))) (N (.list (vd p J0 w))) (N (.list ((pM p J0 e).map .list))) (N (.int w))):=⟨hf,go⟩;clear hf go;rw[hJ]at g
 obtain⟨m,kd,is⟩:=e;refine cb1 (P:=λe8=>dG (oL p (pM p e8 ⟨m,kd,is⟩))/\zk 4 k p (zj ⟨m,kd,is⟩ ii (N (.list (zh e8 kd))) (N (.list (vd p e8 w))) (N (.list ((pM p e8 ⟨m,kd,is⟩).map .list))) (N (.int w)))) g (λq g=>?_) (λg=>?_) λg=>?_
 ·have nb:=ad9 (e:=⟨m,kd,is⟩) (by cases q2:lM ⟨m,kd,is⟩with|false=>rfl|true=>rw[q,q2]at hi;cases hi)
  subst q;refine(λX I=>I w p _ rfl (eZ (gF w 4) hw) ?_);refine OU (k:=k) (f:=λi:er=>gA (i.b kd)) (g:=λi:er=>.list (oF p i.x)) (P:=λi=>nf i=ak/\i.ok) (o:=[.cell (N (.d (.int p)))]) (λi k hi h=>?_) is _ (λi hi=>⟨nb.2 i hi,h.2.2.2 i hi⟩) (CS ?_)
  ·induction i with
   |f j=>exact(λX I=>I j p _ rfl hi.2 h)
   |g j=>cases hi.1
   |n=>cases hi.1
  ·rw[Wa];have T:=g.2
   conv at T=>whnf
   conv=>whnf
   exact T
 all_goals
  refine(λX I=>I (w+4) p _ rfl hw ?_);refine OU (k:=k) (f:=λi:er=>gA (i.b kd)) (g:=λi:er=>.list (lN p (i.b kd) [])) (P:=λi=>i.ok/\dG (lN p (i.b kd) [])) (o:=[.cell (N (.d (.int p)))]) (λi k hi S=>(λX I=>I (i.b kd) p (O0 h.2.1 hi.1) hi.2 S)) is _ (λi hi=>⟨h.2.2.2 i hi,?_⟩) (CS ?_)
  ·exact O9 _ _ g.1 _ (qA.mpr ⟨i,hi,rfl⟩)
  ·rw[Wa];have T:=g.2
   conv at T=>whnf
   conv=>whnf
   exact T
theorem cb3{kd:aa}{is:J er}{ii:aD}{k:V->J O->Prop}{A Kd:J D}{ps:J (J D)}(hl:cY ps.length)(hf:dG (A++Kd++oL p ps))(S:k (.d (.list (A++Kd++oL p ps))) []):zk 4 k p (zj ⟨.p,kd,is⟩ ii (N (.list Kd)) (N (.list A)) (N (.list (ps.map .list))) (N (.int (1:H)))):=
 ⟨dW (cZ hf),(λX I=>I ps p hl (fC hf) ⟨dW hf,S⟩)⟩
theorem cb4{kd:aa}{is:J er}{ii:aD}{k:V->J O->Prop}{A Kd:J D}{ps:J (J D)}(hl:cY ps.length)(hf:dG (A++Kd++oL p ps))(S:k (.d (.list (A++Kd++oL p ps))) []):zk 4 k p (zj ⟨.d,kd,is⟩ ii (N (.list Kd)) (N (.list A)) (N (.list (ps.map .list))) (N (.int (3:H)))):=
 ⟨dW (cZ hf),(λX I=>I ps p hl (fC hf) ⟨dW hf,S⟩)⟩
theorem cb5{t:H}{b:iR}{kd:aa}{is:J er}{ii:aD}{k:V->J O->Prop}{A Kd:J D}{ps:J (J D)}(hb:oJ b)(hl:cY ps.length)(hf:dG (A++lN p b []++oL p ps))(S:k (.d (.list (A++lN p b []++oL p ps))) []):zk 4 k p (zj ⟨.a t b,kd,is⟩ ii (N (.list Kd)) (N (.list A)) (N (.list (ps.map .list))) (N (.int (0:H)))):=
 (λX I=>I b p hb.ins (fC (cZ hf)) ⟨dW (cZ hf),(λX I=>I ps p hl (fC hf) ⟨dW hf,S⟩)⟩)
theorem cb6{t:H}{b:iR}{kd:aa}{is:J er}{ii:aD}{k:V->J O->Prop}{A Kd:J D}{ps:J (J D)}(ht:cY t)(hb:oJ b)(hl:cY ps.length)(hf:dG (A++oF p t++lN p b []++Kd++oL p ps))(S:k (.d (.list (A++oF p t++lN p b []++Kd++oL p ps))) []):zk 4 k p (zj ⟨.a t b,kd,is⟩ ii (N (.list Kd)) (N (.list A)) (N (.list (ps.map .list))) (N (.int (2:H)))):=
 (λX I=>I t p _ rfl ht ⟨dW (cZ (cZ (cZ hf))),(λX I=>I b p hb.ins (fC (cZ (cZ hf))) ⟨dW (cZ (cZ hf)),⟨dW (cZ hf),(λX I=>I ps p hl (fC hf) ⟨dW hf,S⟩)⟩⟩)⟩)
theorem cb7{e8:aD}{e:dz}(h:e.i.length<=2):cY (pM p e8 e).length:=by cases e8<;>exact cb2 h
theorem cb8{e:dz}{k:V->J O->Prop}(h:e.ok){ii:aD}(hi:ii=!lM e)(hf:dG (C0 p e))(S:k (.d (.list (C0 p e))) []):zk 1 k p (zj e ii ao ao ao ao):=by
 have g0:dG (O8 p e (bz ii (!decide ((p:aa)=1))))/\k (.d (.list (O8 p e (bz ii (!decide ((p:aa)=1)))))) []:=by rw[hi];exact⟨hf,S⟩
 clear hf S;obtain⟨m,kd,is⟩:=e;generalize hJ:bz ii (!decide ((p:aa)=1))=e8 at g0
 have hl:cY (pM p e8 ⟨m,kd,is⟩).length:=cb7 h.2.2.1;induction m with
 |p=>
  have T:=O_ h hi 1 (by decide:5<4294967296) hJ.symm (fC g0.1) (cb3 hl g0.1 g0.2)
  refine⟨(show(0:aa)<=0 by decide),(show(0:aa)<((3:H):aa) by decide),λy hy=>?_⟩
  cases hy
  conv at T=>whnf
  conv=>whnf
  exact T
 |d=>
  have T:=O_ h hi 3 (by decide:7<4294967296) hJ.symm (fC g0.1) (cb4 hl g0.1 g0.2)
  refine⟨(show(0:aa)<=2 by decide),(show(2:aa)<((3:H):aa) by decide),λy hy=>?_⟩
  cases hy
  conv at T=>whnf
  conv=>whnf
  exact T
 |a t b=>
  have hb:=h.1;refine⟨(show(0:aa)<=1 by decide),(show(1:aa)<((3:H):aa) by decide),λy hy=>?_⟩
  cases hy
  conv=>whnf
  have no:=λg1 g2=>O_ (k:=k) h hi 2 (by decide:6<4294967296) hJ.symm (fC g1) (cb6 hb.1 hb.2 hl g1 g2)
  refine br3 (P:=λW=>dG (bC W (vd p e8 0++lN p b []++oL p (pM p e8 ⟨.a t b,kd,is⟩)) (vd p e8 2++oF p t++lN p b []++zh e8 kd++oL p (pM p e8 ⟨.a t b,kd,is⟩)))/\k (.d (.list (bC W (vd p e8 0++lN p b []++oL p (pM p e8 ⟨.a t b,kd,is⟩)) (vd p e8 2++oF p t++lN p b []++zh e8 kd++oL p (pM p e8 ⟨.a t b,kd,is⟩))))) []) g0 (λg0=>?_) (λg0=>?_) (λg0=>?_) λg0=>?_
  ·have T:=O_ h hi 0 (by decide:4<4294967296) hJ.symm (fC g0.1) (cb5 hb.2 hl g0.1 g0.2)
   conv at T=>whnf
   conv=>whnf
   exact T
  all_goals
   have T:=no g0.1 g0.2
   conv at T=>whnf
   conv=>whnf
   exact T
theorem cb9:aQ (aU x) (n+6) Mr ad8:=fc x (q:=bC1) (l:=V_) (by kernel_rfl) ⟨A3,O7,FD,cH2⟩ λX I u2 g=>g _ λe p k h hf S=>by
 have T:=λii hi=>cb8 (ii:=ii) (p:=p) h hi hf S;clear hf S;obtain⟨m,kd,is⟩:=e
 conv=>whnf
 refine gZ (λq=>?_) λq=>?_
 ·refine OJ (b:=nf) (P:=kC) (f:=λi:er=>gA (i.b kd)) (λi=>⟨[(lG,.L (N (.d (gA (i.b kd)))))],[.cell (N (.d (.int p)))]⟩) (λX=>rfl) (λi k X h=>?_) (λi k h=>h) is _ (λX I=>trivial) ?_
  ·cases i<;>exact h
  ·refine CS ?_;have T:=T (f9 ((is.filter nf).map λi=>gA (i.b kd))) (by
    show f9 _=!(!decide (kd=-16)||is.any nf)
    rw[show decide (kd=-16)=ah from q,TK,<-TO]
    exact(Bool.not_not _).symm)
   conv at T=>whnf
   conv=>whnf
   exact T
 ·have T:=T (decide (kd=-16)) (by
   show decide (kd=-16)=!(!decide (kd=-16)||is.any nf)
   rw[show decide (kd=-16)=ak from q];rfl)
  conv at T=>whnf
  conv=>whnf
  exact T
noncomputable def zm(r:l5):J D:=[.int r.1,.int (128+r.2)]
noncomputable def Pa(p:H)(f:cW):J D:=oL p ((tX p f.l).map zm)++lN p f.b []
noncomputable def C1(p:H)(f:cW):J D:=oF p (Pa p f).length++Pa p f
def ae0:Tr:=λa_ o_ k_=>∀P_:Tr,(∀(f:cW)(p:H){k},f.ok->dG (C1 p f)->k (.d (.list (C1 p f))) []->P_ [.d f.d,.d (.int p)] [] k)->P_ a_ o_ k_
noncomputable def Wb:J (H×Tr):=[(w6,AY),(BW,JG),(s9,zg)]
def Pb(k:V->J O->Prop)(f:cW)(p:H)(hd:bq D)(rs:J (J D)):Prop:=l8 ⟨dP,d_ Wb⟩ (vc ⟨dP,d_ Wb⟩ 39) (xz.drop 3) ⟨[(lR,.L (N (.d f.d))),(cy,.L (N (.d (.int p)))),(z9,.C 0),(fy,.C 1),(bH,.L ao),(kX,.L (N (.d (.list (rs.map .list)))))],[.cell (hd.map .d),.cell (N (.d (oH f.l)))]⟩ (mK 0 k)
theorem cc0{f:cW}{k:V->J O->Prop}{hd:bq D}(hl:cY ((tX p f.l).map zm).length)(h:f.ok)(hf:dG (C1 p f))(S:k (.d (.list (C1 p f))) []):Pb k f p hd ((tX p f.l).map zm):=by
 have hi:cY (Pa p f).length:=eZ (fC hf) (by decide)
 induction hd with
 |none=>exact(λX I=>I _ p hl (cZ (fC hf)) (λX I=>I f.b p h.2.2.ins (fC (fC hf)) ⟨dW (fC hf),(λX I=>I _ p _ rfl hi ⟨dW hf,S⟩)⟩))
 |some d=>exact(λX I=>I _ p hl (cZ (fC hf)) (λX I=>I f.b p h.2.2.ins (fC (fC hf)) ⟨dW (fC hf),(λX I=>I _ p _ rfl hi ⟨dW hf,S⟩)⟩))
noncomputable def zo(l:J aa)(t:H):aD:=jk (decide ((t:aa)=0)) (!decide (kB 0 l t=kB 0 l (t -1)))
noncomputable def zq(l:J aa):J H:=(kJ l.length).filter (zo l)++[l.length]
noncomputable abbrev rH(eE:J H)(l:J aa)(t:H):aa×aa:=((((kB 0 eE (t+1):H):aa) -((kB 0 eE t:H):aa)),kB 0 l (kB 0 eE t))
noncomputable def Pc(r:aa×aa):J D:=[.int r.1,.int (128+r.2)]
noncomputable def kl:H->J (J aa)
 |0=>[[]]
 |n+1=>(kl n).flatMap λl=>[-1::l,-2::l]
theorem cc1:∀l:J aa,(∀i∈l,i∈[-1,-2])->l∈kl l.length:=λi_=>by
 induction i_ with
 |nil=>exact λX=>.head _
 |cons i l ih=>exact λh=>rA.mpr ⟨l,ih λj hj=>h j (.tail _ hj),eW (P:=λi=>i::l∈[-1::l,-2::l]) (h i (.head _)) ⟨.head _,.tail _ (.head _),cH2⟩⟩
theorem cc2:∀n∈kJ 5,∀l∈kl n,(qH l).length<=4/\(∀r∈qH l,r.1<128/\-128<=r.2/\r.2<0)/\(kJ ((zq l).length -1)).map (rH (zq l) l)=(qH l).map λr=>((r.1:aa),r.2):=by decide+kernel
theorem JJ{l:J aa}(h:fO 4 (·∈[-1,-2]) l):(qH l).length<=4/\(∀r∈qH l,r.1<128/\-128<=r.2/\r.2<0)/\(kJ ((zq l).length -1)).map (rH (zq l) l)=(qH l).map λr=>((r.1:aa),r.2):=cc2 _ (Bg.mpr (ap8 h.1)) l (cc1 l h.2)
theorem FL{α:Type}{f:α->D}{d:α}{y:D}:∀{l:J α}{i:H},(l.map f)[i]?=N y->y=f (kB d l i):=@λi_=>by
 induction i_ with
 |nil=>exact@λi h=>by cases i<;>cases h
 |cons a l ih=>
  intro i h;cases i with
  |zero=>exact(fW h).symm
  |succ i=>exact ih h
theorem cc3{α:Type}{d:α}{b:J α}:∀{a:J α}{t:H},t<a.length->kB d (a++b) t=kB d a t:=@λi_=>by
 induction i_ with
 |nil=>exact@λX h=>absurd h (xV _)
 |cons X a ih=>
  intro t h;cases t with
  |zero=>rfl
  |succ t=>exact ih (F6 h)
theorem cc4{α:Type}{d:α}:∀{a:J α}{t:H},t<a.length->kB d a t∈a:=@λi_=>by
 induction i_ with
 |nil=>exact@λX h=>absurd h (xV _)
 |cons X a ih=>
  intro t h;cases t with
  |zero=>exact .head _
  |succ t=>exact .tail _ (ih (F6 h))
theorem cc5{A B:aD}{P:aD->Prop}{ff lZ:Prop}(h:P (jk A B))(f:P ah->ff)(g:A=ak->P B->lZ):@Bool.rec (λX=>Prop) lZ ff A:=by
 cases A
 ·exact g rfl h
 ·exact f h
theorem brV{A:aD}{P:aD->Prop}(h:P A):@Bool.rec (λX=>Prop) (P ak) (P ah) A:=by cases A<;>exact h
theorem cc6:aQ (aU x) (n+6) Mq ae0:=fc x (q:=bC0) (l:=Wb) (by kernel_rfl) ⟨FD,O7,A3,cH2⟩ λX I u2 g=>g _ λf p k h hf S=>by
 obtain⟨r4,_,re⟩:=JJ h.2.1;obtain⟨fk,l,b⟩:=f;have l4:l.length<=4:=h.2.1.1;have cH:∀(hd:bq D) R,R=(tX p l).map zm->cY R.length->Pb k ⟨fk,l,b⟩ p hd R:=λhd R e hl=>by subst e;exact cc0 hl h hf S
 clear hf S h
 conv=>whnf
 refine gZ (λq=>?_) λq=>?_
 ·have e:tX p l=(0,-2)::l.map λk=>(1,k):=by
   induction p using ji with
   |zero=>cases q
   |succ=>rfl
  refine pG (f:=.int) (g:=λk:aa=>.list [.int (1:H),.int (128+k)]) (λi k h=>h) l ?_;have T:=cH ao (zm (0,-2)::(l.map λk=>((1:H),k)).map zm) (by rw[e];rfl) (by rw[Kn,cO,cO];exact eZ (lB l4) (by decide))
  unfold Pb at T
  rw[ai8,n_,n_]at T
  refine⟨by rw[f6,cO];exact bN (rD l4 1) (by decide),?_⟩
  conv at T=>whnf
  conv=>whnf
  exact T
 ·have e:tX p l=qH l:=by
   induction p using ji with
   |zero=>rfl
   |succ=>exact absurd (dF.mpr (jd _)) (sJ q)
  rw[e]at cH
  clear e q;have el:(l.map D.int).length=l.length:=cO ..;refine⟨uS (m:=(l.map D.int).length) (bN (iW el) (bN l4 (by decide))),?_⟩
  refine OJ (f:=fX) (b:=zo l) (P:=(·<l.length)) (λt=>⟨[(d9,.L (N (.d (fX t)))),(fy,.C 1)],[.cell ao,.cell (N (.d (oH l)))]⟩) (λX=>rfl) (λt k ht h=>?_) (λi k h=>h) (kJ (((l.map D.int).length:H):aa).toNat) _ (λt h=>by rw[sG,el]at h;exact Bg.mp h) (CS ?_)
  ·have lt:(t:aa)<(((l.map D.int).length:H):aa):=dF.mpr (el.symm▸ht)
   conv=>whnf
   refine cc5 (P:=(k · _)) h (λh=>h) λq h=>⟨nn,lt,λy hy=>?_⟩;cases FL (f:=D.int) (d:=0) hy;induction t using ji with
   |zero=>cases q
   |succ t=>
    have e1:((t+1:H):aa) -1=t:=uh (t:aa) 1
    conv=>whnf
    rw[e1];refine⟨nn,sN (dF.mpr (m7 t)) lt,λy hy=>?_⟩;cases FL (f:=D.int) (d:=0) hy
    conv=>whnf
    exact brV (P:=(k · _)) h
  ·have e3:(kJ (((l.map D.int).length:H):aa).toNat).filter (zo l)=(kJ l.length).filter (zo l):=by rw[sG,el]
   have e4:(((kJ l.length).filter (zo l)).map fX)++[D.int (((l.map D.int).length:H):aa)]=(zq l).map fX:=by rw[el];exact(zR (f:=fX) (l₂:=[l.length])).symm
   have nB:∀t<((kJ l.length).filter (zo l)).length,kB 0 (zq l) t<l.length:=λt ht=>by unfold zq;rw[cc3 ht];exact Bg.mp (F5.mp (cc4 ht)).1
   have sf:(zq l).length=((kJ l.length).filter (zo l)).length+1:=f6;have j4:((kJ l.length).filter (zo l)).length<=4:=bN (aq3 ..) (by rw[Qv];exact l4)
   rw[e3]
   conv=>whnf
   rw[e4];clear e3 e4;generalize((kJ l.length).filter (zo l)).length=j at nB sf j4
   generalize zq l=eE at re nB sf
   have eH:(eE.map fX).length=j+1:=(cO _).trans sf;refine⟨eH▸bN (lB j4) (by decide),?_⟩
   conv=>whnf
   rw[eH,show((j+1:H):aa) -1=j from uh (j:aa) 1]
   refine⟨uS (bN j4 (by decide)),?_⟩
   refine OU (k:=k) (f:=fX) (g:=λt=>.list (Pc (rH eE l t))) (P:=(·<j)) (o:=[.cell (N (.d (.list (eE.map fX)))),.cell (N (.d (oH l)))]) (λt k ht h=>?_) (kJ (j:aa).toNat) _ (λt h=>Bg.mp h) (CS ?_)
   ·have l1:((t+1:H):aa)<((eE.map fX).length:H):=dF.mpr (eH.symm▸ap0 ht);have l0:(t:aa)<((eE.map fX).length:H):=sN (dF.mpr (m7 t)) l1;refine⟨nn (n:=t+1),l1,λy hy=>?_⟩;cases FL (f:=fX) (d:=0) hy;refine⟨nn,l0,λy hy=>?_⟩;cases FL (f:=fX) (d:=0) hy;refine⟨nn,l0,λy hy=>?_⟩;cases FL (f:=fX) (d:=0) hy;refine⟨nn,dF.mpr (el.symm▸nB t ht),λy hy=>?_⟩;cases FL (f:=D.int) (d:=0) hy;exact h
   ·have e5:(kJ (j:aa).toNat).map (λt=>Pc (rH eE l t))=(qH l).map zm:=by
     rw[sf]at re
     have re:=bR (List.map Pc) re;rw[n_,n_]at re
     exact re
    have T:=cH (N (.list (eE.map fX))) ((kJ (j:aa).toNat).map λt=>Pc (rH eE l t)) e5 (by rw[cO,Qv];exact eZ j4 (by decide))
    unfold Pb at T
    rw[n_]at T
    conv at T=>whnf
    conv=>whnf
    exact T
noncomputable def C2(p:H)(f:Fk):J D:=[.int 96]++oK p f.1++oK p f.2
noncomputable def oFi(p:H)(f:cW):J D:=oF p f.k
noncomputable def Wc(p:H)(t:i6):J D:=[.int (128+t.k)]++A4 p t.l
noncomputable def Wd(p:H)(g:iy):J D:=[.int (128+g.g.k),.int g.g.m]++lN p g.b []
noncomputable def We(p:H)(e:ju):J D:=oW p e.n++[.int e.s]++oF p e.i
noncomputable def rm{α:Type}(p:H)(F:α->J D)(l:J α):J D:=oL p (l.map F)
noncomputable def sd(p:H)(m:b6):H->J D:=kB [] [[],rm p (C2 p) m.k,rm p (JH p) m.i,rm p (oFi p) m.f,rm p (Wc p) m.t,rm p (A4 p) m.m,rm p (Wd p) m.g,rm p (We p) m.e,oF p (m.s.getD 0),rm p (C0 p) m.l,rm p (C1 p) m.f,rm p (JI p) m.d,oF p m.d.length]
theorem cc7{α:Type}{f g:α->D}{ts:J ai}{one:aD}{m:Fm}{t:PE->St->(aD->St->Prop)->Prop}{aY:St->(V->St->Prop)->Prop}{o:J O}{P:α->Prop}(bM:α->St)(hS:∀a,(bM a).o=o)(gQ:∀(a:α)(k:V->St->Prop),P a->k (.d (g a)) (bM a)->jL ts one (.d (f a)) ⟨m,o⟩ λZ=>aY Z k):
  ∀(l:J α)(K:J V->J O->Prop),(∀a∈l,P a)->K (l.map λa=>.d (g a)) o->jW ts one m (nX t []) aY (l.map f) o K:=λi_=>by
 induction i_ with
 |nil=>exact λK X h=>h
 |cons a l ih=>
  intro K hp h;refine gQ a _ (hp a (.head _)) ?_
  show lV (nt (len o) (.d (g a)) ⟨m,(bM a).o⟩).o _
  rw[hS,o7,IM];exact ih _ (λb h=>hp b (.tail _ h)) h
theorem zu{α:Type}{f:α->D}{F:α->J D}{ok:α->Prop}{ts:J ai}{one:aD}{m:Fm}{t:PE->St->(aD->St->Prop)->Prop}{aY:St->(V->St->Prop)->Prop}{o:J O}{k:V->J O->Prop}(bM:α->St)(hS:∀a,(bM a).o=o){l:J α}(hl:fO 14 ok l)(hf:dG (rm p F l))
  (gQ:∀(a:α)(k:V->St->Prop),ok a->dG (F a)->k (.d (.list (F a))) (bM a)->jL ts one (.d (f a)) ⟨m,o⟩ λZ=>aY Z k)(h:cY (l.map F).length->k (.ref (len o)) (o++[.dl ((l.map F).map .list)])):jW ts one m (nX t []) aY (l.map f) o λvs o=>iF ah vs o k:=
 cc7 (P:=λa=>ok a/\dG (F a)) (g:=λa=>.list (F a)) bM hS (λa k h=>gQ a k h.1 h.2) l _ (λa h=>⟨hl.2 a h,O9 _ _ hf _ (aq5 h)⟩) (T0 (by rw[Wa];exact h (by rw[cO];exact eZ hl.1 (by decide))))
noncomputable def ae1:J (H×Tr):=[(s9,zg),(Hx,VM),(Mp,ad6),(Hy,V8),(BW,JG),(Em,OX),(Mr,ad8),(Mq,ae0),(Ms,ad7),(w6,AY)]
def ae2:Tr:=λa_ o_ k_=>∀P_:Tr,(∀(m:b6)(i p:H){k},i∈cV->m.ok->(i=8->m.s≠ao)->dG (sd p m i)->k (.d (.list (sd p m i))) []->P_ [.d m.D,.d (.int i),.d (.int p)] [] k)->P_ a_ o_ k_
theorem cc8:aQ (aU x) (n+7) Mu ae2:=fc x (q:=xL) (l:=ae1) (by kernel_rfl) ⟨A3,Xt,ca8,ad5,O7,VL,cb9,cc6,cb0,FD,cH2⟩ λX I u2 g=>g _ λm i p k hi hm h8 hf S=>by
 revert h8 hf S
 refine eW (P:=λi=>(i=8->m.s≠ao)->dG (sd p m i)->k (.d (.list (sd p m i))) []->lK xL ae1 [.d m.D,.d (.int i),.d (.int p)] [] k) hi ⟨?_,?_,?_,?_,?_,?_,?_,?_,?_,?_,?_,?_,cH2⟩
 ·intro _ hf S;have e:∀(l:J Fk)(t:J D),l.foldl (λt f=>t++[D.list (C2 p f)]) t=t++(l.map (C2 p)).map .list:=λl=>by
   induction l with
   |nil=>exact λt=>(j3 t).symm
   |cons f l ih=>exact λt=>(ih _).trans (jx ..)
  conv=>whnf
  refine AM (f:=mP) (w:=λt f=>t++[D.list (C2 p f)]) (bM:=λt=>⟨[(bI,.L (N (.d m.D))),(bw,.L (N (.d (.int (1:H))))),(cy,.C 0),(kW,.L ao),(lH,.L (N (.ref 1))),(oq,.L ao)],[.cell (N (.d (.int p))),.dl t]⟩)
   (bG:=λys t=>(∀f∈ys,(rW f.1/\rW f.2)/\dG (C2 p f))/\t.length+ys.length<=14) (λf ys t next hI hn=>?_) m.k [] ⟨λf h=>⟨hm.k.2 f h,O9 _ _ hf _ (aq5 h)⟩,by rw[Du,mW];exact hm.k.1⟩ λX=>?_
  ·have g:=hI.1 f (.head _);have hn:=hn ⟨λf h=>hI.1 f (.tail _ h),by rw[f6,wB,rC [_].length];exact hI.2⟩
   have lt:t.length<1048576:=eZ (bN (gF ..) hI.2) (by decide)
   exact(λX I=>I f.1 p (eZ g.1.1.1 (by decide)) (fC (cZ g.2)) ⟨dW (cZ g.2),(λX I=>I f.2 p (eZ g.1.2.1 (by decide)) (fC g.2) ⟨dW g.2,lt,hn⟩)⟩)
  ·rw[e];exact(λX I=>I (m.k.map (C2 p)) p (by rw[cO];exact eZ hm.k.1 (by decide)) hf S)
 ·intro _ hf S
  conv=>whnf
  refine zu (F:=JH p) (ok:=fh.ok) (λi=>⟨[(aM,.L (N (.d i.d))),(cy,.C 0)],[.cell (N (.d (.int p))),.dl []]⟩) (λX=>rfl) hm.i hf (λi k h hf S=>?_) λhl=>?_
  ·exact(λX I=>I i p h hf S)
  ·exact(λX I=>I _ p hl hf S)
 ·intro _ hf S
  conv=>whnf
  refine zu (F:=oFi p) (ok:=cW.ok) (λi=>⟨[(lR,.L (N (.d i.d))),(cy,.C 0)],[.cell (N (.d (.int p))),.dl []]⟩) (λX=>rfl) hm.f hf (λi k h hf S=>?_) λhl=>?_
  ·exact(λX I=>I i.k p _ rfl h.1 S)
  ·exact(λX I=>I _ p hl hf S)
 ·intro _ hf S
  conv=>whnf
  refine zu (F:=Wc p) (ok:=i6.ok) (λi=>⟨[(aM,.L (N (.d i.d))),(cy,.C 0)],[.cell (N (.d (.int p))),.dl []]⟩) (λX=>rfl) hm.t hf (λi k h hf S=>?_) λhl=>?_
  ·exact⟨⟨zW _,iz.mpr (jd _)⟩,(λX I=>I i.l p h.2 (fC hf) ⟨dW hf,S⟩)⟩
  ·exact(λX I=>I _ p hl hf S)
 ·intro _ hf S
  conv=>whnf
  refine zu (F:=A4 p) (ok:=tP) (λi=>⟨[(aM,.L (N (.d (nE i)))),(cy,.C 0)],[.cell (N (.d (.int p))),.dl []]⟩) (λX=>rfl) hm.m hf (λi k h hf S=>?_) λhl=>?_
  ·exact(λX I=>I i p h hf S)
  ·exact(λX I=>I _ p hl hf S)
 ·intro _ hf S
  conv=>whnf
  refine zu (F:=Wd p) (ok:=iy.ok) (λi=>⟨[(aM,.L (N (.d i.d))),(cy,.C 0)],[.cell (N (.d (.int p))),.dl []]⟩) (λX=>rfl) hm.g hf (λi k h hf S=>?_) λhl=>?_
  ·exact(λX I=>I i.b p h.2.ins (fC hf) ⟨dW hf,S⟩)
  ·exact(λX I=>I _ p hl hf S)
 ·intro _ hf S
  conv=>whnf
  refine zu (F:=We p) (ok:=ju.ok) (λi=>⟨[(dX,.L (N (.d (.str i.n)))),(fR,.L (N (.d (.int i.s)))),(lF,.L (N (.d (.int i.i)))),(cy,.C 0)],[.cell (N (.d (.int p))),.dl []]⟩) (λX=>rfl) hm.e hf (λi k h hf S=>?_) λhl=>?_
  ·exact(λX I=>I i.n p h.1 (cZ (cZ hf)) ⟨dW (cZ hf),(λX I=>I i.i p _ rfl h.2.2 ⟨dW hf,S⟩)⟩)
  ·exact(λX I=>I _ p hl hf S)
 ·intro h8 hf S;obtain⟨mk,mi,mf,mt,mm,mg,me,Z,ml,md,mc⟩:=m;induction Z with
  |none=>exact absurd rfl (h8 rfl)
  |some j=>exact(λX I=>I j p _ rfl (hm.s j rfl) S)
 ·intro _ hf S
  conv=>whnf
  refine zu (F:=C0 p) (ok:=dz.ok) (λi=>⟨[(oj,.L (N (.d i.d))),(cy,.C 0)],[.cell (N (.d (.int p))),.dl []]⟩) (λX=>rfl) hm.l hf (λi k h hf S=>?_) λhl=>?_
  ·exact(λX I=>I i p h hf S)
  ·exact(λX I=>I _ p hl hf S)
 ·intro _ hf S;exact(λX I=>I _ p _ rfl (by rw[cO];exact eZ hm.d.1 (by decide)) (by rw[cO];exact S))
 ·intro _ hf S
  conv=>whnf
  refine zu (F:=C1 p) (ok:=cW.ok) (λi=>⟨[(lR,.L (N (.d i.d))),(cy,.C 0)],[.cell (N (.d (.int p))),.dl []]⟩) (λX=>rfl) hm.f hf (λi k h hf S=>?_) λhl=>?_
  ·exact(λX I=>I i p h hf S)
  ·exact(λX I=>I _ p hl hf S)
 ·intro _ hf S
  conv=>whnf
  refine zu (F:=JI p) (ok:=eV.ok) (λi=>⟨[(vH,.L (N (.d i.d))),(cy,.C 0)],[.cell (N (.d (.int p))),.dl []]⟩) (λX=>rfl) hm.d hf (λi k h hf S=>?_) λhl=>?_
  ·exact(λX I=>I i p h hf S)
  ·exact(λX I=>I _ p hl hf S)
noncomputable def oZ(p:H)(o:J D):J D:=oF p o.length++o
noncomputable def ae3(p:H)(c:dB):J D:=oW p c.n++fJ c.c
noncomputable def ve(p n:H)(t:J D)(c:dB):J D:=bC (decide ((c.b:aa)=(n:aa))) (t++[.int 0]++oZ p (ae3 p c)) t
noncomputable def Wf(m:b6)(n:H):aD:=(OL m).any λj=>decide ((j:aa)=n)
noncomputable def Wg(n:H):aD:=decide ((0:aa)=n)||(decide ((8:aa)=n)||ak)
noncomputable def zw(p:H)(m:b6)(n:H):aD:=jk (Wf m n) (bz (decide ((p:aa)>0)) (!Wg n))
noncomputable def zx(p:H)(m:b6)(t:J D)(n:H):J D:=m.c.foldl (ve p n) (bC (zw p m n) (t++[.int n]++oZ p (sd p m n)) t)
noncomputable def QV(p:H)(m:b6):J D:=(0::cV).foldl (zx p m) (fJ [0,97,115,109,1,0,0,0])
noncomputable def JK:J (H×Tr):=[(Hw,AV),(Mu,ae2),(s9,zg),(Em,OX)]
noncomputable def zy(m:b6)(p:H)(n:bq V):Fm:=[(bI,.L (N (.d m.D))),(cy,.L (N (.d (.int p)))),(uA,.L ao),(jS,.L ao),(bw,.L n),(bH,.L (N (.ref 0))),(Ad,.L (N (.d (Fy m))))]
def Wi:Tr:=λa_ o_ k_=>∀P_:Tr,(∀(m:b6)(p:H)(l:J H){k},m.ok->dG (QV p m)->QV p m=fJ l->(∀b∈l,b<256)->k (.d (.bytes l)) []->P_ [.d m.D,.d (.int p)] [] k)->P_ a_ o_ k_
theorem JL{α:Type}{w:J D->α->J D}(h:∀t y,dG (w t y)->dG t):∀(ys:J α)(t:J D),dG (ys.foldl w t)->dG t:=λi_=>by
 induction i_ with
 |nil=>exact λX g=>g
 |cons y ys ih=>exact λt g=>h t y (ih _ g)
theorem JM{A:aD}{t s u:J D}(h:dG (bC A (t++s++u) t)):dG t:=by
 cases A
 ·exact h
 ·exact cZ (cZ h)
theorem ae4{n:H}:∀(l:J H)(K:aD->Prop),K (l.any λj=>decide ((j:aa)=n))->yC (.int n) (l.map fX) K
 |[],K,h=>h
 |j::l,K,h=>ae4 l (λq'=>K (decide ((j:aa)=n)||q')) h
theorem Wj{l:J D}(h:dG l):cY l.length:=eZ h (by decide)
theorem Pd{m:b6}{i:H}{K:dZ->St->Prop}(hm:m.ok)(t:J D)(hf:dG (m.c.foldl (ve p i) t))(hK:K .next ⟨zy m p (N (.d (.int i))),[.dl (m.c.foldl (ve p i) t)]⟩):
  gT [uA,jS] [jS] ah 1 ((vc ⟨dP,d_ JK⟩ 38).s x3) (m.c.map dB.d) ⟨zy m p (N (.d (.int i))),[.dl t]⟩ K:=
 AM (f:=dB.d) (w:=ve p i) (bM:=λt=>⟨zy m p (N (.d (.int i))),[.dl t]⟩) (bG:=λys t=>dG (ys.foldl (ve p i) t)/\∀c∈ys,kQ c.n) (λc ys t next hI hn=>by
  have h:=hI.2 c (.head _)
  conv=>whnf
  refine qY (P:=λt=>dG t/\next ⟨zy m p (N (.d (.int i))),[.dl t]⟩) ⟨JL (λX I=>JM) ys _ hI.1,hn ⟨hI.1,λc h=>hI.2 c (.tail _ h)⟩⟩ (λX g=>?_) λX g=>g.2;exact(λX I=>I c.n p h (cZ (fC (fC g.1))) ⟨dW (fC (fC g.1)),⟨zc (cZ g.1),(λX I=>I _ p _ rfl (Wj (fC (fC g.1))) ⟨dW (fC g.1),dW g.1,g.2⟩)⟩⟩)) m.c t ⟨hf,λc h=>(hm.c.2 c h).1⟩ λX=>hK
theorem cc9{A B C:aD}{P:aD->Prop}{X1 X2 Y1 Y2:Prop}(h:P (jk A (bz B C)))(f:jk A (bz B C)=ah->P ah->X1)(f2:jk A (bz B C)=ah->P ah->X2)(g:P ak->Y1)(g2:P ak->Y2):@Bool.rec (λX=>Prop) (@Bool.rec (λX=>Prop) Y1 (@Bool.rec (λX=>Prop) Y2 X2 C) B) X1 A:=by
 cases A
 ·cases B
  ·exact g h
  ·cases C;exact g2 h;exact f2 rfl h
 ·exact f rfl h
theorem ae5{m:b6}{i:H}(hi:i∈0::cV)(h:zw p m i=ah):i∈cV/\(i=8->m.s≠ao):=by
 rcases Cu h with h|h
 ·obtain⟨j,hj,e⟩:=wD.mp h;have e:=zU.mp (gy e);subst e;obtain⟨h1,h2⟩:=F5.mp hj;refine⟨h1,λe q=>?_⟩;subst e;have h2:(!(jq m.s).o8)=ah:=h2;rw[q]at h2
  cases h2
 ·have h:=bf h;rcases iV.mp hi with e|hi
  ·subst e;cases h
  ·exact⟨hi,λe=>by subst e;cases h⟩
theorem cd0{m:b6}{K:dZ->St->Prop}(hm:m.ok)(ns:J H)(t:J D)(hn:∀i∈ns,i∈0::cV)(hf:dG (ns.foldl (zx p m) t))(hK:K .next ⟨zy m p ao,[.dl (ns.foldl (zx p m) t)]⟩):
  gT [uA,jS,bw] [bw] ah 1 ((vc ⟨dP,d_ JK⟩ 39).s x4) (ns.map fX) ⟨zy m p ao,[.dl t]⟩ K:=
 AM (f:=fX) (w:=zx p m) (bM:=λt=>⟨zy m p ao,[.dl t]⟩) (bG:=λys t=>dG (ys.foldl (zx p m) t)/\∀i∈ys,i∈0::cV) (λi ys t next hI hn=>by
  have hi:=hI.2 i (.head _);have g:dG (m.c.foldl (ve p i) (bC (zw p m i) (t++[.int i]++oZ p (sd p m i)) t))/\next ⟨zy m p ao,[.dl (m.c.foldl (ve p i) (bC (zw p m i) (t++[.int i]++oZ p (sd p m i)) t))]⟩:=⟨JL (λX I g=>JM (JL (λX I=>JM) _ _ g)) ys _ hI.1,hn ⟨hI.1,λc h=>hI.2 c (.tail _ h)⟩⟩
  conv=>whnf
  refine ae4 (OL m) _ ?_
  conv=>whnf
  refine cc9 (P:=λb=>dG (m.c.foldl (ve p i) (bC b (t++[D.int i]++oZ p (sd p m i)) t))/\next ⟨zy m p ao,[.dl (m.c.foldl (ve p i) (bC b (t++[D.int i]++oZ p (sd p m i)) t))]⟩) g (λq g=>?_) (λq g=>?_) (λg=>?_) λg=>?_
  ·have h:=ae5 hi q;have f1:dG (t++[.int i]++oZ p (sd p m i)):=JL (λX I=>JM) _ _ g.1;refine(λX I=>I m i p h.1 hm h.2 (fC (fC f1)) ⟨zc (cZ f1),(λX I=>I _ p _ rfl (Wj (fC (fC f1))) ⟨dW (fC f1),dW f1,?_⟩)⟩);exact Pd hm _ g.1 g.2
  ·have h:=ae5 hi q;have f1:dG (t++[.int i]++oZ p (sd p m i)):=JL (λX I=>JM) _ _ g.1;refine(λX I=>I m i p h.1 hm h.2 (fC (fC f1)) ⟨zc (cZ f1),(λX I=>I _ p _ rfl (Wj (fC (fC f1))) ⟨dW (fC f1),dW f1,?_⟩)⟩);exact Pd hm _ g.1 g.2
  ·exact Pd hm _ g.1 g.2
  ·exact Pd hm _ g.1 g.2) ns t ⟨hf,hn⟩ λX=>hK
theorem cd1:aQ (aU x) (n+8) Mv Wi:=fc x (q:=bC3) (l:=JK) (by kernel_rfl) ⟨TW,cc8,A3,VL,cH2⟩ λX I u2 g=>g _ λm p l k hm hf e cd2 S=>by
 have T:=cd0 (p:=p) (K:=yG (l8 ⟨dP,d_ JK⟩ (vc ⟨dP,d_ JK⟩ 39) (x5.drop 3)) (mK 0 k)) hm (0::cV) (fJ [0,97,115,109,1,0,0,0]) (λX h=>h) hf ⟨l,e,cd2,S⟩;refine .fz m ⟨hm.f.1,λf h=>(hm.f.2 f h).2.2.len⟩ ?_
 conv at T=>whnf
 conv=>whnf
 exact T
end
section
def Pe(l:J H):Prop:=∀b∈l,b<256
structure A5(cC:H)(t:Ts->Ts)(l:J H):Prop where
 t:∀r,c8 (t r)=l++c8 r
 n:l.length<=cC
 b:Pe l
inductive Oc(cC:H)(a:J D)(t:Ts->Ts):Prop
 |mk (l:J H):a=fJ l->A5 cC t l->Oc cC a t
inductive Oa(cC:H)(f:J D->J D)(t:Ts->Ts):Prop
 |mk (l:J H):(∀z,f z=z++fJ l)->A5 cC t l->Oa cC f t
variable{cC M p:H}{a b:J D}{f g:J D->J D}{s t:Ts->Ts}
theorem ae6(a b:J H):fJ (a++b)=fJ a++fJ b:=zR
theorem A5.app{k l:J H}(h:A5 cC s k)(g:A5 M t l):A5 (cC+M) (λr=>s (t r)) (k++l):=
 ⟨λr=>by rw[h.t,g.t,jx],by rw[f6];exact aq1 h.n g.n,List.forall_mem_append.mpr ⟨h.b,g.b⟩⟩
theorem A5.nil:A5 0 (λr=>r) []:=⟨λX=>rfl,jO _,nofun⟩
theorem Oc.app(h:Oc cC a s)(g:Oc M b t):Oc (cC+M) (a++b) (λr=>s (t r)):=h.rec λk e S=>g.rec λl e2 hl=>.mk (k++l) (by rw[e,e2,ae6]) (S.app hl)
theorem Oc.le(h:Oc cC a s)(l:cC<=M):Oc M a s:=h.rec λk e S=>.mk k e ⟨S.t,bN S.n l,S.b⟩
theorem Oa.le(h:Oa cC f s)(l:cC<=M):Oa M f s:=h.rec λk e S=>.mk k e ⟨S.t,bN S.n l,S.b⟩
theorem Oa.comp(h:Oa cC f s)(g':Oa M g t):Oa (cC+M) (λz=>g (f z)) (λr=>s (t r)):=h.rec λk e S=>g'.rec λl e2 hl=>.mk (k++l) (λz=>by rw[e2,e,jx,ae6]) (S.app hl)
theorem Oa.id:Oa 0 (λz=>z) (λr=>r):=.mk [] (λz=>(j3 z).symm) .nil
theorem Oc.acc(h:Oc cC a s):Oa cC (λz=>z++a) s:=h.rec λk e S=>.mk k (λX=>by rw[e]) S
theorem Oa.at(h:Oa cC f s):Oc cC (f []) s:=h.rec λk e S=>.mk k (e []) S
theorem Oa.fold{α:Type}{F:J D->α->J D}{T:α->Ts->Ts}:∀{l:J α},(∀y∈l,Oa cC (F · y) (T y))->Oa (cC*l.length) (l.foldl F) (tL T l)
 |[],X=>.id
 |y::l,h=>((h y (.head _)).comp (Oa.fold λy m=>h y (.tail _ m))).le (iW (by rw[Kn,Nat.mul_succ,rC]))
theorem cd3(k:H):∀n,Pe (tG n k):=by
 induction k with
 |zero=>exact λX I h=>(vt h).elim
 |succ k ih=>cases k with
  |zero=>exact λn=>cC3.mpr (mE (QB _ (by decide)) (by decide:128<256))
  |succ k=>exact λn=>gv.mpr ⟨Qx (QB _ (by decide)) 128,ih _⟩
theorem ae7(k:H):∀n,Pe (ny n k):=by
 induction k with
 |zero=>exact λX I h=>(vt h).elim
 |succ k ih=>cases k with
  |zero=>exact λn=>cC3.mpr (mE (xF n).2.2.2 (by decide:128<256))
  |succ k=>exact λn=>gv.mpr ⟨Qx (xF n).2.2.2 128,ih _⟩
theorem Wn:∀(k:H)(n:aa),(ny n k).length=k
 |0,X=>rfl
 |1,X=>rfl
 |k+2,n=>bR (·+1) (Wn (k+1) (n/128))
theorem cd4(k n:H):(tG n k).length=k:=by rw[<-VF,Wn]
theorem jM(n:H):Oc 5 (oF p n) (cU p n):=.mk _ rfl ⟨λX=>rfl,(cd4 ..).symm▸DB ..,cd3 _ _⟩
theorem Wo(b:H)(i:aa):Oc ((b+6)/7) (fJ (tS b p i).oct) (tS b p i::·):=.mk _ rfl ⟨λX=>rfl,(Wn ..).symm▸DB ..,ae7 _ _⟩
theorem qt{n:H}(h:n<256):Oc 1 [.int n] (cB n):=.mk [n] rfl ⟨λX=>rfl,jO _,gv.mpr ⟨h,nofun⟩⟩
theorem zA{i:aa}(h:-128<=i/\i<0):Oc 1 [.int (128+i)] (c7 i):=by
 have e:128+i=((i% 128).toNat:H):=by have h0:0<=128+i:=Int.add_le_add_left h.1 128;have g:(128+i)% 128=i% 128:=Int.add_emod_left ..;rw[<-g,Yb h0 (show 128+i<128 from Int.add_lt_add_left h.2 128),zO h0]
 rw[e];exact .mk [(i% 128).toNat] rfl ⟨λX=>rfl,jO _,ae7 1 i⟩
theorem JN{α:Type}{F:α->J D}{T:α->Ts->Ts}{l:J α}(h:∀y∈l,Oc cC (F y) (T y)):Oc (5+cC*l.length) (rm p F l) (q8 p T l):=by
 have g:=(jM (p:=p) l.length).acc.comp (Oa.fold (F:=λz y=>z++F y) λy m=>(h y m).acc);have e:rm p F l=l.foldl (λz y=>z++F y) ([]++oF p l.length):=by unfold rm oL;rw[cC4,cO];rfl
 rw[e];exact g.at
theorem ae8{c:J H}(h:fO cC (·<256) c):Oc (5+cC) (oL p (c.map pJ)) λr=>cU p c.length (cR c r):=by
 have e:∀(c:J H)(z:J D),c.foldl (λz y=>z++pJ y) z=z++fJ c:=λc=>by
  induction c with
  |nil=>exact λz=>(j3 z).symm
  |cons y c ih=>exact λz=>(ih _).trans (jx ..)
 unfold oL;rw[cC4,cO,show(λz y=>app z (pJ y))=λz y=>z++pJ y from rfl,e]
 exact(jM _).app (.mk c rfl ⟨λX=>rfl,h.1,h.2⟩)
theorem JO{i:aa}(h:pF i):-128<=i/\i<0:=eW (P:=λi:aa=>-128<=i/\i<0) h ⟨by decide,by decide,by decide,by decide,cH2⟩
theorem Pf{i:aa}(h:x8 i):-128<=i/\i<0:=eW (P:=λi:aa=>-128<=i/\i<0) h ⟨by decide,by decide,cH2⟩
theorem Wq{l:J aa}(h:rW l):Oc 7 (oK p l) (I9 p l):=(JN (F:=CT) λy m=>zA (JO (h.2 y m))).le (by rw[cr1];exact rD h.1 5)
theorem ae9:∀y∈names,(pQ y).length<=4/\∀b∈pQ y,b<256:=by decide
theorem Pg{y:ai}(h:kQ y):Oc 9 (oW p y) (tW p y):=ae8 (cC:=4) (c:=pQ y) (ae9 y h)
theorem cd5{ls:J H}{a:J aa}(h:j5 ls a):Oa 20 (pL p a ls a) (xG p a ls a):=by
 cases h with
 |o=>exact Oa.id.le (by decide)
 |z=>exact(qt (n:=0) (by decide)).acc.le (by decide)
 |zz=>exact((qt (n:=0) (by decide)).acc.comp (qt (n:=0) (by decide)).acc).le (by decide)
 |@u i h=>exact(jM i).acc.le (by decide)
 |@i i h=>exact(Wo 32 i).acc.le (by decide)
 |@l i h=>exact(Wo 64 i).acc.le (by decide)
 |@r i h=>exact(zA (Pf h)).acc.le (by decide)
 |k h g=>exact(Wq ⟨h,g⟩).acc.le (by decide)
 |@t i a h g=>exact((jM _).acc.comp (Oa.fold (T:=UT p) λy m=>(jM y.toNat).acc)).le (by rw[cO];exact rD (zV 5 (lB h)) 5)
 |@b i h=>
  show Oa 20 (λz=>z++bC (decide (i<0)) [.int (128+i)] (fJ (tS 33 p i).oct)) (bC (decide (i<0)) (.s i 1) (tS 33 p i)::·)
  cases q:decide (i<0)with
  |false=>exact(Wo 33 i).acc.le (by decide)
  |true=>exact(zA (by cases h with|e=>decide|k h=>exact JO h|@x i h=>exact absurd (gy q) (nN.mpr nn))).acc.le (by decide)
 |@uz i h=>exact((jM i).acc.comp (qt (n:=0) (by decide)).acc).le (by decide)
 |@uu i j h g=>exact((jM i).acc.comp (jM j).acc).le (by decide)
 |@au i j h g=>exact((jM i).acc.comp (jM j).acc).le (by decide)
theorem af0:kP (λc=>decide (0<=c)&&(decide (c<256)||decide (64512<=c))) (11::5::qG)=ah:=by kernel_rfl
theorem af1{i:fj}(h:i.mQ):i.c∈11::5::qG:=by
 cases h with
 |i h=>exact .tail _ (.tail _ h.c)
 |e=>exact .head _
 |l=>exact .tail _ (.head _)
theorem cd6{i:fj}(h:i.mQ):Oc 6 (V6 p i.c) (pR p i.c):=by
 have g:=PI.mp (lE af0 _ (af1 h));have g0:=gy g.1
 show Oc 6 (bC (decide (i.c<64512)) _ _) λr=>bC (decide (i.c<64512)) _ _
 cases q:decide (i.c<64512)with
 |false=>exact(qt (n:=252) (by decide)).app (jM _)
 |true=>
  have lt:i.c.toNat<256:=by
   rcases Bool.or_eq_true_iff.mp g.2 with h|h
   ·exact(Int.toNat_lt' (by decide)).mpr (gy h)
   ·exact absurd (gy q) (nN.mpr (gy h))
  rw[<-zO g0];exact(qt lt).le (by decide)
theorem af2{i:fj}(h:i.mQ):Oa 26 (FJ p · i) (UU p i):=(cd6 h).acc.comp (cd5 (V7 h).l)
theorem Ph{c:iR}(h:oJ c):Oc 312 (lN p c []) (oO p c):=((Oa.fold λy m=>af2 (h.ins y m)).le (zV 26 h.len)).at
theorem Pj:∀l:qk,Oc 11 (A4 p l) (CI p l)
 |(a,ao)=>((qt (n:=0) (by decide)).app (jM a)).le (by decide)
 |(a,N m)=>((qt (n:=1) (by decide)).app (jM a)).app (jM m)
theorem cd7{i:fh}(h:i.ok):Oc 40 (JH p i) (Ja p i):=by
 obtain⟨y,z,a⟩:=i;obtain⟨h1,h2,h3⟩:=h;have g:=λn (h:n<256)=>((Pg (p:=p) h1).app (Pg (p:=p) h2)).app (qt h);induction a with
 |f a=>exact((g 0 (by decide)).app (jM a)).le (by decide)
 |t t=>exact(((g 1 (by decide)).app (zA (Pf h3.1))).app (Pj t.l)).le (by decide)
 |m l=>exact((g 2 (by decide)).app (Pj l)).le (by decide)
 |g q=>exact((g 3 (by decide)).app ((zA (JO h3.1)).app (qt (eW (P:=(·<256)) h3.2 ⟨by decide,by decide,cH2⟩)))).le (by decide)
theorem cd8{f:Fk}(h:rW f.1/\rW f.2):Oc 15 (C2 p f) (I_ p f):=((qt (n:=96) (by decide)).app (Wq h.1)).app (Wq h.2)
theorem cd9{t:i6}(h:t.ok):Oc 12 (Wc p t) (E_ p t):=(zA (Pf h.1)).app (Pj t.l)
theorem ce0{g:iy}(h:g.ok):Oc 314 (Wd p g) (Jc p g):=((zA (JO h.1.1)).app (qt (eW (P:=(·<256)) h.1.2 ⟨by decide,by decide,cH2⟩))).app (Ph h.2)
theorem ce1{e:ju}(h:e.ok):Oc 15 (We p e) (Jd p e):=((Pg h.1).app (qt (mE h.2.1 (by decide)))).app (jM e.i)
theorem Pk(n:H):decide ((n:aa)=0)=bX n 0:=by cases n<;>rfl
theorem oF0:oF 0 0=[.int (0:H)]:=by unfold oF tU;rw[E3,dM (by decide)];rfl
theorem ce2{e:eV}(h:e.ok):Oc 340 (JI p e) (Jf p e):=by
 obtain⟨o,c⟩:=e;have hc:Oc 8 (oL p (c.map pJ)) _:=ae8 h.2;induction o with
 |none=>exact((jM 1).app hc).le (by decide)
 |some o=>
  have hb:=Ph (p:=p) (h.1 o rfl).2
  show Oc 340 (bC (bz (decide ((o.1:aa)=0)) (decide ((p:aa)=0))) _ _) λr=>bC (bz (bX o.1 0) (bX p 0)) _ _
  rw[Pk,Pk];cases q:bz (bX o.1 0) (bX p 0)with
  |false=>exact((((jM 2).app (jM o.1)).app hb).app hc).le (by decide)
  |true=>
   induction p using ji with
   |zero=>exact(((oF0▸jM 0:Oc 5 [.int (0:H)] (cU 0 0)).app hb).app hc).le (by decide)
   |succ p=>cases(bf q)
end
section
open Wh (cu)
variable{w:bU}{bJ s:aE}{x:cu w bJ s}{n p:H}
noncomputable def Pn(m:b6)(f:dB->H)(c:J dB)(p:aa)(t:Ts)(q hc:aD)(ks:J D):J O:=r_ m (jq m.s) f c p t cV q ks hc (m.f.map cW.d) []
def C3:Tr:=λa_ o_ k_=>∀P_:Tr,(∀(m c p t q hc ks){k},hc=ah\/ks=[]->fO 2 (λc=>uP m c.b) c->k (.d .none) (Pn m dB.b c p t q hc ks)->P_ [.ref 0] (Pn m f0 c p t q hc ks) k)->P_ a_ o_ k_
theorem C3.mk(m c p t q hc ks){k}(f5:hc=ah\/ks=[])(lg:fO 2 (λc=>uP m c.b) c)(t7:k (.d .none) (Pn m dB.b c p t q hc ks)):C3 [.ref 0] (Pn m f0 c p t q hc ks) k:=λP_ c_=>c_ m c p t q hc ks f5 lg t7
noncomputable def ce3:J (H×Tr):=[(Mb,V1),(Hf,O4 VS)]
theorem ce4:∀n∈cV,1<=j6 n/\j6 n<=12/\cV[j6 n -1]?=N n:=by decide
theorem ce5{m:b6}{i:H}(h:uP m i){a b:Prop}(h0:i=0->b)(h1:(0<=(j6 i:aa) -1/\(j6 i:aa) -1<12/\∀y,(cV.map fX)[((j6 i:aa) -1).toNat]?=N y->y=fX i)->a):@Bool.rec (λX=>Prop) b a (decide (0<=(j6 i:aa) -1)):=by
 rcases h with h|h
 ·have h:i=0:=h;subst h;exact h0 rfl
 ·have h:=ce4 i h.1;generalize j6 i=j at h h1
  induction j using ji with
  |zero=>cases h.1
  |succ j=>
   have e:((j+1:H):aa) -1=j:=uh (j:aa) 1;rw[e]at h1|-
   rw[nL nn];refine h1 ⟨nn,dF.mpr h.2.1,λy hy=>?_⟩;rw[mD,show cV[(j:aa).toNat]?=N i from h.2.2]at hy
   exact(fW hy).symm
theorem Ws{A:aD}{C ff lZ:Prop}(h:A=ah\/C)(f:C->ff->lZ)(r:ff):@Bool.rec (λX=>Prop) ff lZ (!A):=by
 cases A
 ·exact f (h.resolve_left nofun) r
 ·exact r
noncomputable def FN(m:b6)(c:J dB):b6:=⟨m.k,m.i,m.f,m.t,m.m,m.g,m.e,m.s,m.l,m.d,c⟩
theorem Wt{m:b6}{i:H}(h:uP m i){K:D->Prop}{a b:Prop}(g:K (fX i))(ea:(0<=(j6 i:aa) -1/\(j6 i:aa) -1<12/\∀y,(cV.map fX)[((j6 i:aa) -1).toNat]?=N y->K y)->a)(eb:K (.int 0)->b):@Bool.rec (λX=>Prop) b a (decide (0<=(j6 i:aa) -1)):=
 ce5 h (λe=>eb (by subst e;exact g)) λe=>ea ⟨e.1,e.2.1,λy z=>e.2.2 y z▸g⟩
@[elab_as_elim] theorem ce6{α:Type}{P:α->Prop}{M:J α->Prop}{l:J α}(h:fO 2 P l)(h0:M [])(h1:∀a,P a->M [a])(h2:∀a b,P a->P b->M [a,b]):M l:=by
 cases l with
 |nil=>exact h0
 |cons a l=>
  have g:=gv.mp h.2;cases l with
  |nil=>exact h1 a g.1
  |cons b l=>
   cases l with
   |nil=>exact h2 a b g.1 (g.2 b (.head _))
   |cons c l=>exact absurd h.1 (Gq (x6 3 _))
theorem ce7:aQ (aU x) (n+5) RE C3:=fc x (q:=bz0) (l:=ce3) (by kernel_rfl) ⟨ac8,ab7.ca1,cH2⟩ λX I u2 g=>g _ λm c p t q hc ks k h hb=>by
 refine ce6 hb ?_ (λa hb=>?_) λa b hb hj=>?_
 ·intro S
  conv=>whnf
  refine Ws (C:=ks=[]) h ?_ λat_=>(λX I=>I m _ f0 [] p t cV q ks hc _ at_ (.inl rfl) S);intro e r;subst e
  conv at r=>whnf
  conv=>whnf
  exact r
 ·cases a with|mk y u i=>
  have hb:uP m i:=hb;intro S
  conv=>whnf
  refine Ws (C:=ks=[]) h ?_ λat_=>(λX I=>I m _ f0 [⟨y,u,i⟩] p t cV q ks hc _ at_ (.inl rfl) ?_)
  ·intro e r;subst e
   conv at r=>whnf
   conv=>whnf
   exact r
  conv=>whnf
  exact Wt hb ⟨[b6.D (FN m [⟨y,u,0⟩]),.int i],rfl,rfl,(FN m [⟨y,u,0⟩],i),hb,rfl,rfl,⟨rfl,rfl⟩,S⟩ (λh=>h) λh=>h
 ·cases a with|mk y u i=>
  cases b with|mk z v j=>
  have hj:uP m j:=hj;have hb:uP m i:=hb;intro S
  conv=>whnf
  refine Ws (C:=ks=[]) h ?_ λat_=>(λX I=>I m _ f0 [⟨y,u,i⟩,⟨z,v,j⟩] p t cV q ks hc _ at_ (.inl rfl) ?_)
  ·intro e r;subst e
   conv at r=>whnf
   conv=>whnf
   exact r
  conv=>whnf
  refine Wt hb ⟨[b6.D (FN m [⟨y,u,0⟩,⟨z,v,0⟩]),.int i],rfl,rfl,(FN m [⟨y,u,0⟩,⟨z,v,0⟩],i),hb,rfl,rfl,⟨rfl,rfl⟩,?_⟩ (λh=>h) λh=>h
  conv=>whnf
  exact Wt hj ⟨[b6.D (FN m [⟨y,u,i⟩,⟨z,v,0⟩]),.int j],rfl,rfl,(FN m [⟨y,u,i⟩,⟨z,v,0⟩],j),hj,rfl,rfl,⟨rfl,rfl⟩,S⟩ (λh=>h) λh=>h
inductive It where
 |sec (n:H)
 |A6 (c:dB)
noncomputable def JP(p:H)(m:b6)(i:It)(r:Ts):Ts:=match i with
 | .sec n=>cB n (tZ p (pH p m n) r)
 | .A6 c=>Jg p c r
noncomputable def nH(p:H)(m:b6)(l:J It):Ts:=tL (JP p m) l []
def YG(m:b6)(dn:J H):Prop:=∀n∈cV,jI m n=ah->eK n dn=ah
structure Po(p:H)(a:dB):Prop where
 n:kQ a.n
 s:cY (c8 (tW p a.n (cR a.c []))).length
def vC(m:b6)(p:H)(l:J It):J dB->aa->J H->Prop:=l.rec (λc _ dn=>c=m.c/\YG m dn) λi _ ih c pl dn=>i.rec (λn=>∃q,VZ n q/\pl<(q:H)/\n∈cV/\pre p m dn n/\cY (c8 (pH p m n)).length/\ih c q (n::dn)) λa=>pl=xP a/\Po p a/\c.length<2/\ih (c++[a]) (xP a) dn
noncomputable def reG(m:b6)(Z:D)(c:J dB)(pl:aa)(t:Ts)(dn:J H)(q:aD)(ks:J D)(hc:aD)(fs:J D):J O:=V0 6 m q ks hc::pK 2 pl::.cur t::zf m Z dn 4 5::.dl fs::(match c with
 |[]=>[.dl [],.dl []]
 |[a]=>[.vl [.ref 8],.dl [z3 a],.cur [],uZ a 0]
 |a::b::c=>[.vl [.ref 8,.ref 10],.dl ((a::b::c).map z3),.cur [],uZ a 0,.cur [],uZ b 0])
noncomputable def Wu(m:b6)(c:J dB)(pl:aa)(t:Ts)(dn:J H):J O:=reG m (bC (eK 8 dn) (jq m.s) .none) c pl t dn (eK 12 dn) (jh dn 3 kD m.f) (eK 10 dn) (jh dn 10 cW.d m.f)
noncomputable def af3:Fm:=[(aK,.L (N (.ref 0))),(dX,.L ao),(bw,.L ao),(bH,.L ao),(fK,.L ao)]
inductive Wv(m:b6)(p:H):H->St->Prop
 |mk (l c pl dn):vC m p l c pl dn->Wv m p l.length ⟨af3,Wu m c pl (nH p m l) dn⟩
noncomputable def ce8(p:H):J (H×Tr):=[(Rr,uY),(Rt,wg p),(Lw,Fp p),(yo,Vv),(RC,V4 p),(G4,v9),(RE,C3)]
noncomputable def Pp(m:b6)(pl:aa)(q hc:aD)(ks:J D):J O:=V0 6 m q ks hc::pK 2 pl::.cur []::zf m (jq m.s) cV 4 5::.dl (m.f.map cW.d)::(match m.c with
 |[]=>[.dl [],.dl []]
 |[a]=>[.vl [.ref 7],.dl [z3 a],uZ a a.b]
 |a::b::c=>[.vl [.ref 7,.ref 8],.dl ((a::b::c).map z3),uZ a a.b,uZ b b.b])
def JQ(p:H):Tr:=λa_ o_ k_=>∀P_:Tr,(∀(m:b6)(l:J It){k},vC m p l [] (-1) []->m.ok->(∀pl q hc ks,k (.ref 3) (Pp m pl q hc ks))->P_ [.ref 0] (qs m f0 [] (-1) (nH p m l) [] []) k)->P_ a_ o_ k_
theorem JQ.mk{p:H}(m:b6)(l:J It){k}(f5:vC m p l [] (-1) [])(lg:m.ok)(t7:(∀pl q hc ks,k (.ref 3) (Pp m pl q hc ks))):JQ p [.ref 0] (qs m f0 [] (-1) (nH p m l) [] []) k:=λP_ c_=>c_ m l f5 lg t7
theorem Ww{α:Type}{f:α->D}{l:J α}{dn:J H}{n:H}(h:(!f9 (l.map f))=ah->eK n dn=ah):jh dn n f l=l.map f:=by
 unfold jh;induction l using eT with
 |nil=>cases eK n dn<;>rfl
 |cons a l=>rw[h rfl];rfl
structure ce9(m:b6)(dn:J H):Prop where
 a:∀Z a b,zf m Z dn a b=zf m Z cV a b
 b:bC (eK 8 dn) (jq m.s) .none=jq m.s
 c:jh dn 10 cW.d m.f=m.f.map cW.d
 d:eK 10 dn=ah\/jh dn 3 kD m.f=[]
theorem cf0{m:b6}{dn:J H}(h:YG m dn):ce9 m dn:=by
 have g:∀{α:Type}{f:α->D}{l:J α}(n:H),n∈cV->jI m n=(!f9 (l.map f))->jh dn n f l=jh cV n f l:=λn hn e=>by rw[Ww λq=>h n hn (e.trans q),Ww λX=>HS.mpr hn]
 refine⟨λZ a b=>?_,?_,Ww λq=>h 10 (by decide) q,?_⟩
 ·unfold zf ze;rw[g 1 (by decide) rfl,g 2 (by decide) rfl,g 4 (by decide) rfl,g 5 (by decide) rfl,g 6 (by decide) rfl,g 7 (by decide) rfl,g 9 (by decide) rfl,g 11 (by decide) rfl]
 ·have g:=h 8 (by decide)
  cases e:m.s with
  |none=>cases eK 8 dn<;>rfl
  |some i=>rw[g (by show(!(jq m.s).o8)=ah;rw[e];rfl)];rfl
 ·have g:=h 10 (by decide)
  cases e:m.f with
  |nil=>exact .inr (by unfold jh;cases eK 3 dn<;>rfl)
  |cons f l=>exact .inl (g (by show(!f9 (m.f.map cW.d))=ah;rw[e];rfl))
theorem cf1:aQ (aU x) (n+18) RB (JQ p):=fc x (q:=by7) (l:=ce8 p) (by kernel_rfl) ⟨bY4,bY6,bM6,QP,bZ7,KT,ce7,cH2⟩ λX I u2 g=>g _ λm l k hl hm S=>by
 conv=>whnf
 refine⟨Wv m p,l.length,.mk l [] (-1) [] hl,?_⟩;intro j Z h;cases h with|mk l c pl dn h=>
 cases l with
 |nil=>
  cases h.1;have e:=cf0 h.2;have hc:=hm.c;have S:=S pl (eK 12 dn) (eK 10 dn);unfold Wu reG;rw[e.a,e.b,e.c];have ed:=e.d;clear e h hl
  revert ed
  generalize jh dn 3 kD m.f=ks;intro ed;have S:=S ks;unfold Pp at S
  have hb:fO 2 (λc=>uP m c.b) m.c:=⟨hc.1,λc h=>(hc.2 c h).2.2⟩;clear hc
  revert hb S
  generalize m.c=c;intro S hb;rcases c with _|⟨a,_|⟨b,c⟩⟩
  ·exact(uY.mk pl [] (C3.mk m [] pl [] (eK 12 dn) (eK 10 dn) ks ed hb S))
  ·exact(uY.mk pl [] (C3.mk m [a] pl [] (eK 12 dn) (eK 10 dn) ks ed hb S))
  ·exact(uY.mk pl [] (C3.mk m (a::b::c) pl [] (eK 12 dn) (eK 10 dn) ks ed hb S))
 |cons i l=>
 cases i with
 |sec n=>
  refine b_ h λq h=>?_;have ne:decide ((n:aa)=0)=ak:=kq λe=>vg 0 (aq4 h.1.b.2 (zU.mp e));have hi:Wv m p l.length ⟨af3,Wu m c q (nH p m l) (n::dn)⟩:=.mk l c q (n::dn) h.2.2.2.2.2
  revert hi
  rcases c with _|⟨a,_|⟨b,c⟩⟩
  ·exact λhi=>(uY.mk pl (nH p m (.sec n::l)) (wg.sS pl n q (pH p m n) (nH p m l) h.2.2.2.2.1 h.1 h.2.1 (jc ne ⟨m,[],q,nH p m l,dn,n,h.2.2.1,hm,h.2.2.2.1,v9.mk ⟨l.length,m7 _,hi⟩⟩)))
  ·exact λhi=>(uY.mk pl (nH p m (.sec n::l)) (wg.sS pl n q (pH p m n) (nH p m l) h.2.2.2.2.1 h.1 h.2.1 (jc ne ⟨m,[a],q,nH p m l,dn,n,h.2.2.1,hm,h.2.2.2.1,v9.mk ⟨l.length,m7 _,hi⟩⟩)))
  ·exact λhi=>(uY.mk pl (nH p m (.sec n::l)) (wg.sS pl n q (pH p m n) (nH p m l) h.2.2.2.2.1 h.1 h.2.1 (jc ne ⟨m,a::b::c,q,nH p m l,dn,n,h.2.2.1,hm,h.2.2.2.1,v9.mk ⟨l.length,m7 _,hi⟩⟩)))
 |A6 a=>
  cases h.1;rcases c with _|⟨d,_|⟨b,c⟩⟩
  ·exact(uY.mk (xP a) (nH p m (.A6 a::l)) (wg.c (xP a) (tW p a.n (cR a.c [])) (nH p m l) h.2.1.s (Fp.mk a.n a.c h.2.1.n (uW.mk (dB.mk a.n a.c 0) ⟨(by decide),v9.mk ⟨l.length,m7 _,.mk l [a] (xP a) dn h.2.2.2⟩⟩))))
  ·exact(uY.mk (xP a) (nH p m (.A6 a::l)) (wg.c (xP a) (tW p a.n (cR a.c [])) (nH p m l) h.2.1.s (Fp.mk a.n a.c h.2.1.n (uW.mk (dB.mk a.n a.c 0) ⟨(show 1<1048576 by decide),(show 1<1048576 by decide),v9.mk ⟨l.length,m7 _,.mk l [d,a] (xP a) dn h.2.2.2⟩⟩))))
  ·exact absurd h.2.2.1 (QC (x6 2 _))
end
section
noncomputable def mU(n:H)(l:J dB):J It:=l.foldr (λc r=>bC (bX c.b n) (.A6 c::r) r) []
noncomputable def itP(p:H)(m:b6)(n:H)(r:J It):J It:=bC (mq p m n) (.sec n::(mU n m.c++r)) (mU n m.c++r)
noncomputable def A7(p:H)(m:b6)(l:J H):J It:=l.foldr (itP p m) []
noncomputable def eX(p:H)(m:b6):J It:=mU 0 m.c++A7 p m cV
theorem af4{α:Type}{t:α->Ts->Ts}(a b:J α)(r:Ts):tL t (a++b) r=tL t a (tL t b r):=List.foldr_append ..
theorem af5{p:H}{m:b6}{n:H}(r:Ts):∀l:J dB,tL (JP p m) (mU n l) r=uT p n l r:=λi_=>by
 induction i_ with
 |nil=>exact rfl
 |cons c l ih=>
  show tL (JP p m) (bC (bX c.b n) (.A6 c::mU n l) (mU n l)) r=bC (bX c.b n) (Jg p c (uT p n l r)) (uT p n l r)
  rw[<-ih];cases bX c.b n<;>rfl
theorem cf2{p:H}{m:b6}:∀l:J H,tL (JP p m) (A7 p m l) []=tL (AP p m) l []:=λi_=>by
 induction i_ with
 |nil=>exact rfl
 |cons n l ih=>
  show tL (JP p m) (bC (mq p m n) (.sec n::(mU n m.c++A7 p m l)) (mU n m.c++A7 p m l)) []=bC (mq p m n) (cB n (tZ p (pH p m n) (uT p n m.c (tL (AP p m) l [])))) (uT p n m.c (tL (AP p m) l []))
  rw[<-ih,<-af5,<-af4];cases mq p m n<;>rfl
theorem cf3(p:H)(m:b6):AQ p m=A2 (nH p m (eX p m)):=by unfold nH eX;rw[af4,cf2,af5];rfl
noncomputable def pf(c:dB):H:=j6 c.b
noncomputable def nq(q:H):H:=kB 0 cV q
theorem cf4:∀q<12,nq q∈cV/\cV.drop q=nq q::cV.drop (q+1)/\(cV[q]?=N (nq q)/\(nq q<=12/\1<=nq q)/\∀m,m<q->cV[m]?≠N (nq q))/\j6 (nq q)=q+1/\(nq q=10->3∈cV.take q/\12∈cV.take q/\10∉cV.take q)/\cV.take (q+1)=cV.take q++[nq q]:=by decide
theorem af6:∀a∈0::cV,∀b∈0::cV,j6 a=j6 b->a=b:=by decide
structure Sm(p:H)(m:b6):Prop where
 f:∀f∈m.f,smF p f
 s:∀n∈cV,cY (c8 (pH p m n)).length
 c:∀c∈m.c,Po p c
structure Gu(p:H)(m:b6)(q:H)(cd cr:J dB)(dn:J H):Prop where
 e:m.c=cd++cr
 s:(cr.map pf).Pairwise (·<=·)
 r:∀c∈cr,q<pf c
 d:∀c∈cd,pf c<=q
 n:∀j,eK j dn=ah↔j∈cV.take q/\mq p m j=ah
theorem af7{p:H}{m:b6}{l:J It}{dn:J H}{j n:H}(h2:m.c.length<=2)(hc:∀c∈m.c,Po p c/\(c.b=n↔pf c=j))(cr:J dB):∀(cd:J dB)(pl:aa),m.c=cd++cr->(cr.map pf).Pairwise (·<=·)->(∀c∈cr,j<=pf c)->(∀c∈cd,pf c<=j)->(∀c∈cr,pf c=j->xP c=pl)->
  (∀cd cr,m.c=cd++cr->(cr.map pf).Pairwise (·<=·)->(∀c∈cr,j<pf c)->(∀c∈cd,pf c<=j)->vC m p l cd pl dn)->vC m p (mU n cr++l) cd pl dn:=by
 induction cr with
 |nil=>exact λcd pl e s g d X k=>k cd [] e s nofun d
 |cons c cr ih=>
  intro cd pl e s g d hp k;have g1:=hc c (e▸kj _ (.head _));have s':=DC.mp s
  show vC m p (bC (bX c.b n) (.A6 c::mU n cr) (mU n cr)++l) cd pl dn
  cases q:bX c.b n with
  |true=>
   have ej:=g1.2.mp (mV q);have e1:=hp c (.head _) ej;subst e1;refine⟨rfl,g1.1,?_,ih _ _ (by rw[jx];exact e) s'.2 (λy h=>g y (.tail _ h)) (λy h=>?_) (λy h=>hp y (.tail _ h)) k⟩
   ·rw[e,f6]at h2
    exact oX (xW (jd _)) h2
   ·rcases gK.mp h with h|h
    ·exact d y h
    ·rw[fN.mp h,ej];exact jO _
  |false=>
   have nj:j<pf c:=cC5 (g c (.head _)) λe=>PW q (g1.2.mpr e.symm);have all:∀y∈c::cr,j<pf y:=gv.mpr ⟨nj,λy h=>oX nj (s'.1 _ (aq5 h))⟩;have no:mU n cr=[]:=by
    have go:∀cr:J dB,(∀y∈cr,bX y.b n=ak)->mU n cr=[]:=λcr=>by
     induction cr with
     |nil=>exact λX=>rfl
     |cons y cr ih=>
      intro h
      show bC (bX y.b n) _ _=_
      rw[h y (.head _)];exact ih λy z=>h y (.tail _ z)
    refine go cr λy h=>?_;cases q:bX y.b n with
    |false=>rfl
    |true=>exact absurd ((hc y (e▸kj _ (.tail _ h))).2.mp (mV q)) (Kw (all y (.tail _ h)))
   show vC m p (mU n cr++l) cd pl dn
   rw[no];exact k cd (c::cr) e s all d
theorem af8(n:H)(b:J dB){a:J dB}:(∀c∈a,bX c.b n=ak)->mU n (a++b)=mU n b:=by
 induction a with
 |nil=>exact λX=>rfl
 |cons c a ih=>exact λh=>(bR (bC · (.A6 c::mU n (a++b)) (mU n (a++b))) (h c (.head _))).trans (ih λy z=>h y (.tail _ z))
section
variable{p:H}{m:b6}{q n:H}{cd cr:J dB}{dn:J H}
theorem af9(hm:m.ok)(hn:1<=n)(t:mq p m n=ak)(c:dB)(hc:c∈m.c):bX c.b n=ak:=
 zM.mpr λe=>by
  have e:=mV e;rcases(hm.c.2 c hc).2.2 with g|g
  ·exact absurd hn (Gq ((e▸g:n=0)▸Nat.zero_lt_one))
  ·rw[e]at g;unfold mq at t;rw[g.2]at t;cases t
theorem cf5(hm:m.ok)(hs:Sm p m)(h:Gu p m q cd cr dn)(h7:n=10->3∈cV.take q/\12∈cV.take q/\10∉cV.take q)(t:mq p m n=ah):pre p m dn n:=by
 refine⟨λe=>?_,λe=>?_⟩
 ·subst e;have t:(jk (!(jq m.s).o8) (bz (k6 (bX p 0)) ak))=ah:=t;cases e:m.s with
  |some i=>exact⟨i,rfl⟩
  |none=>rw[e]at t;cases q:k6 (bX p 0)<;>rw[q]at t<;>cases t
 ·have g:=h7 e;subst e;refine⟨(h.n 3).mpr ⟨g.1,t⟩,zM.mpr λq=>absurd ((h.n 10).mp q).1 g.2.2,λf hf=>⟨hm.f.2 f hf,hs.f f hf,?_⟩⟩;cases u:mq p m 12 with
  |true=>exact .inl ((h.n 12).mpr ⟨g.2.1,u⟩)
  |false=>refine .inr λi hi=>zM.mpr λe=>?_;have hu:NY m=ah:=wD.mpr ⟨f,hf,wD.mpr ⟨i,hi,e⟩⟩;have u:jk (NY m) _=ak:=u;rw[hu]at u;cases u
theorem cf6(h:Gu p m q cd cr dn)(h8:cV.take (q+1)=cV.take q++[n])(t:mq p m n=ah)(i:H):eK i (n::dn)=ah↔i∈cV.take (q+1)/\mq p m i=ah:=by
 rw[h8,gK,fN]
 show(match bX i n with|true=>ah|false=>eK i dn)=ah↔_
 cases e:bX i n with
 |true=>have e:=mV e;exact⟨λX=>⟨.inr e,e▸t⟩,λX=>rfl⟩
 |false=>exact(h.n i).trans (and_congr_left' ⟨.inl,λz=>z.resolve_right (PW e)⟩)
theorem cf7(h:Gu p m q cd cr dn)(h8:cV.take (q+1)=cV.take q++[n])(t:mq p m n=ak)(i:H):eK i dn=ah↔i∈cV.take (q+1)/\mq p m i=ah:=by rw[h8,gK,fN];refine(h.n i).trans ⟨λz=>⟨.inl z.1,z.2⟩,λz=>⟨z.1.resolve_right λe=>?_,z.2⟩⟩;have t2:=z.2;rw[e,t]at t2;cases t2
theorem cf8(hm:m.ok)(h:Gu p m 12 cd cr dn):cr=[]:=by
 induction cr using eT with
 |nil=>rfl
 |cons c cr=>
  have b:=(hm.c.2 c (h.e▸kj _ (.head _))).2.2;have le:∀n∈0::cV,j6 n<=12:=by decide
  exact absurd (le c.b (b.elim (λe=>e▸ .head _) λe=>.tail _ e.1)) (Gq (h.r c (.head _)))
theorem cf9(hm:m.ok)(hs:Sm p m){j:H}:∀q,q+j=12->∀(cd cr:J dB)(pl:aa)(dn:J H),Gu p m q cd cr dn->pl<q->vC m p (A7 p m (cV.drop q)) cd pl dn:=by
 induction j with
 |zero=>
  intro q hq cd cr pl dn h hl;have hq:q=12:=hq;subst hq;have e2:=h.e;rw[cf8 hm h,j3]at e2
  exact e2▸⟨rfl,λn hn ht=>(h.n n).mpr ⟨hn,by unfold mq;rw[ht];rfl⟩⟩
 |succ j next=>
  intro q hq cd cr pl dn h hl;have a:=cf4 q (aq4 (xW (jd j)) hq);have next:=next (q+1) ((xX ..).trans hq);generalize nq q=n at a
  have ok:∀c∈m.c,Po p c/\(c.b=n↔pf c=q+1):=λc hc=>⟨hs.c c hc,λe=>(bR j6 e).trans a.2.2.2.1,λe=>af6 _ ((hm.c.2 c hc).2.2.elim (λe=>e▸ .head _) λe=>.tail _ e.1) _ (.tail _ a.1) (e.trans a.2.2.2.1.symm)⟩;rw[a.2.1]
  show vC m p (bC (mq p m n) (.sec n::(mU n m.c++A7 p m (cV.drop (q+1)))) (mU n m.c++A7 p m (cV.drop (q+1)))) cd pl dn
  cases t:mq p m n with
  |true=>
   refine⟨q,⟨a.2.2.1.1,a.2.2.1.2.1,a.2.2.1.2.2⟩,hl,a.1,cf5 hm hs h a.2.2.2.2.1 t,hs.s n a.1,?_⟩
   show vC m p (mU n m.c++A7 p m (cV.drop (q+1))) cd q (n::dn)
   rw[h.e,af8 n cr λc hc=>zM.mpr λe=>absurd (h.d c hc) (Gq (((ok c (h.e▸iN _ hc)).2.mp (mV e))▸m7 q))];exact af7 (j:=q+1) hm.c.1 ok cr cd q h.e h.s h.r (λc hc=>xU (h.d c hc)) (λc hc e=>(bR (λz:H=>(z:aa) -1) e).trans (uh (q:aa) 1)) λcd cr e s r d=>next cd cr q (n::dn) ⟨e,s,r,d,cf6 h a.2.2.2.2.2 t⟩ (cC6 (zW _))
  |false=>
   have no:=af8 n [] (af9 hm a.2.2.1.2.1.2 t);rw[j3]at no
   rw[no];exact next cd cr pl dn ⟨h.e,h.s,λc hc=>cC5 (h.r c hc) λe=>absurd ((bR (bX · n) ((ok c (h.e▸kj _ hc)).2.mpr e.symm)).trans (W0 n)) (zM.mp (af9 hm a.2.2.1.2.1.2 t c (h.e▸kj _ hc))),λc hc=>xU (h.d c hc),cf7 h a.2.2.2.2.2 t⟩ (sN hl (cC6 (zW _)))
end
theorem cg0{p:H}{m:b6}(hm:m.ok)(hs:Sm p m):vC m p (eX p m) [] (-1) []:=by
 have b0:∀c∈m.c,c.b∈0::cV:=λc hc=>(hm.c.2 c hc).2.2.elim (λe=>e▸ .head _) λe=>.tail _ e.1;exact af7 (j:=0) (n:=0) hm.c.1 (λc hc=>⟨hs.c c hc,λe=>bR j6 e,λe=>af6 _ (b0 c hc) 0 (.head _) e⟩) m.c [] (-1) rfl hm.cs (λX I=>qw _) nofun (λc hc e=>by
  show((pf c:H):aa) -1=-1
  rw[e];rfl) λcd cr e s r d=>cf9 hm hs (j:=12) 0 rfl cd cr (-1) [] ⟨e,s,r,d,λj=>⟨nofun,λz=>absurd z.1 nofun⟩⟩ (by decide)
end
section
variable{cC M p:H}{a b:J D}{f g:J D->J D}{s t:Ts->Ts}
theorem cg1{c:iR}(h:∀i∈c,i.mQ):Oc (26*c.length) (lN p c []) (oO p c):=(Oa.fold λy m=>af2 (h y m)).at
theorem cg2{e:dz}(h:e.ok):∀e8,Oc 109 (oL p (pM p e8 e)) (CL p (!e8) e)
 |true=>(JN (F:=λi:er=>oF p i.x) λi m=>jM i.x).le (bN (rD (zV 5 h.2.2.1) 5) (by decide))
 |false=>(JN (cC:=52) (F:=λi:er=>lN p (i.b e.k) []) λi m=>(cg1 (O0 h.2.1 (h.2.2.2 i m))).le (by cases i<;>exact jO 52)).le (rD (zV 52 h.2.2.1) 5)
theorem cg3(w:H):∀e8,Oc 5 (vd p e8 w) λr=>cU p (bC (!e8) (w+4) w) r
 |true=>jM w
 |false=>jM (w+4)
theorem cg4{e:dz}(h:e.ok):∀e8,Oc 1 (zh e8 e.k) (Je (!e8) e.k)
 |true=>qt (n:=0) (by decide)
 |false=>zA (Pf h.2.1)
theorem cg5{e:dz}(h:e.ok)(e8:aD):Oc 432 (O8 p e e8) (FV p (!e8) e):=by
 have hf:=cg2 (p:=p) h e8;have S:=cg4 h e8;have hd:=λw=>cg3 (p:=p) w e8;obtain⟨m,k,is⟩:=e;induction m with
 |p=>exact(((hd 1).app S).app hf).le (by decide)
 |d=>exact(((hd 3).app S).app hf).le (by decide)
 |a y c=>
  have hb:=Ph (p:=p) h.1.2
  show Oc 432 (bC (bz (decide ((y:aa)=0)) (bz (decide (k=-16)) (decide ((p:aa)=0)))) _ _) λr=>bC (bz (bX y 0) (bz (decide (k=-16)) (bX p 0))) _ _
  rw[Pk,Pk];cases bz (bX y 0) (bz (decide (k=-16)) (bX p 0))with
  |false=>exact(((((hd 2).app (jM y)).app hb).app S).app hf).le (by decide)
  |true=>exact(((hd 0).app hb).app hf).le (by decide)
theorem Wx(a b:H):decide ((a:aa)=b)=bX a b:=PX.mpr ⟨λh=>Nat.beq_eq.mpr (zU.mp (gy h)),λh=>nL (bR _ (mV h))⟩
theorem cg6{e:dz}(h:e.ok):Oc 432 (C0 p e) (CM p e):=by
 have g:=cg5 (p:=p) h (bz (!lM e) (!decide ((p:aa)=1)));rw[show(!bz (!lM e) (!decide ((p:aa)=1)))=jk (lM e) (bX p 1)from by
  rw[show decide ((p:aa)=1)=bX p 1 from Wx p 1]
  cases lM e<;>cases bX p 1<;>rfl]at g
 exact g
inductive FO(cC:H)(a:J D)(ts:Ts):Prop
 |mk:a=fJ (c8 ts)->(c8 ts).length<=cC->Pe (c8 ts)->FO cC a ts
theorem Oc.c(h:Oc cC a t):FO cC a (t []):=h.rec λl e hl=>by have e2:c8 (t [])=l:=(hl.t []).trans (j3 l);subst e2;exact⟨e,hl.n,hl.b⟩
theorem Wy{ts:Ts}(h:FO cC a ts):Oc (5+cC) (oZ p a) (tZ p ts):=h.rec λe hn hb=>by
 subst e;refine(show Oc 5 (oF p (fJ (c8 ts)).length) (cU p (c8 ts).length)from ?_).app (.mk (c8 ts) rfl ⟨λr=>rfl,hn,hb⟩)
 rw[show(fJ (c8 ts)).length=(c8 ts).length from cO ..]
 exact jM _
theorem oF1{n:H}(h:n<128):oF 0 n=[.int n]:=by
 unfold oF tU;rw[E3,dM h]
 show[D.int ((n% 128:H):aa)]=_
 rw[zQ h]
theorem cg7{l:J aa}(h:fO 4 (·∈[-1,-2]) l):∀r∈tX p l,Oc 6 (zm r) (Fc r):=by
 have one:∀r:l5,r.1<128/\-128<=r.2/\r.2<0->Oc 6 (zm r) (Fc r):=λr h=>(oF1 h.1▸jM r.1:Oc 5 [.int (r.1:H)] (cU 0 r.1)).app (zA h.2);induction p using ji with
 |zero=>exact λr m=>one r ((JJ h).2.1 r m)
 |succ p=>
  intro r m;rcases iV.mp m with e|m
  ·exact one r (e▸by decide)
  ·refine b_ (qA.mp m) λk hx=>?_;have S:=hx.1;have e:=hx.2;exact one r (e▸eW (P:=λk:aa=>(1<128/\-128<=k/\k<0)) (h.2 k S) ⟨by decide,by decide,cH2⟩)
theorem cg8{l:J aa}(h:fO 4 (·∈[-1,-2]) l):(tX p l).length<=5:=by
 induction p using ji with
 |zero=>exact xU (JJ h).1
 |succ p=>exact lB (bN (iW (cO ..)) h.1)
theorem Wz{f:cW}(h:f.ok):Oc 347 (Pa p f) λr=>Jb p f.l (oO p f.b r):=((JN (cg7 h.2.1)).le (rD (zV 6 (cg8 h.2.1)) 5)).app (Ph h.2.2)
theorem cg9{f:cW}(h:f.ok):Oc 352 (C1 p f) (CK p f):=Wy (Wz h).c
theorem xQ{α:Type}{F:α->J D}{T:α->Ts->Ts}{ok:α->Prop}{l:J α}(hl:fO 14 ok l)(hN:cC<=500)(h:∀y,ok y->Oc cC (F y) (T y)):Oc 7005 (rm p F l) (q8 p T l):=
 (JN λy m=>h y (hl.2 y m)).le (rD (Nat.mul_le_mul hN hl.1) 5)
theorem ag0{m:b6}(hm:m.ok){i:H}(hi:i∈cV):FO 7005 (sd p m i) (pH p m i):=eW (P:=λi=>FO 7005 (sd p m i) (pH p m i)) hi
 ⟨(xQ hm.k (by decide) λX=>cd8).c,(xQ hm.i (by decide) λX=>cd7).c,(xQ hm.f (by decide) λf X=>jM f.k).c,(xQ hm.t (by decide) λX=>cd9).c,(xQ hm.m (by decide) λX I=>Pj _).c,(xQ hm.g (by decide) λX=>ce0).c,(xQ hm.e (by decide) λX=>ce1).c,
 ((jM (m.s.getD 0)).le (by decide)).c,(xQ hm.l (by decide) λX=>cg6).c,((jM m.d.length).le (by decide)).c,(xQ hm.f (by decide) λX=>cg9).c,(xQ hm.d (by decide) λX=>ce2).c,cH2⟩
theorem WA{c:dB}(h:kQ c.n/\fO 2 (·<256) c.c):Oc 11 (ae3 p c) (λr=>tW p c.n (cR c.c r)):=(Pg h.1).app (.mk c.c rfl ⟨λX=>rfl,h.2.1,h.2.2⟩)
theorem ch0{i:H}{c:dB}(h:kQ c.n/\fO 2 (·<256) c.c):Oa 17 (ve p i · c) (λr=>bC (bX c.b i) (Jg p c r) r):=by
 unfold ve;rw[Wx];cases bX c.b i with
 |false=>exact Oa.id.le (by decide)
 |true=>exact(qt (n:=0) (by decide)).acc.comp (Wy (WA h).c).acc
theorem ag1{m:b6}(hm:m.ok)(i:H):Oa 34 (m.c.foldl (ve p i) ·) (uT p i m.c):=(Oa.fold λc h=>ch0 ⟨(hm.c.2 c h).1,(hm.c.2 c h).2.1⟩).le (zV 17 hm.c.1)
theorem ch1:∀i∈cV,(!Wg i)=k6 (jk (bX i 0) (bX i 8)):=by decide
theorem ch2:decide ((p:aa)>0)=k6 (bX p 0):=by
 induction p using ji with
 |zero=>rfl
 |succ p=>exact nL (dF.mpr (jd p))
theorem ch3{m:b6}{i:H}(hi:i∈cV):Wf m i=jI m i:=PX.mpr ⟨λh=>by refine b_ (wD.mp h) λj hx=>?_;have hj:=hx.1;have e:=hx.2;have e:=zU.mp (gy e);exact e▸(F5.mp hj).2,λh=>wD.mpr ⟨i,F5.mpr ⟨hi,h⟩,nL rfl⟩⟩
theorem ch4{m:b6}(hm:m.ok){i:H}(hi:i∈cV):Oa 7045 (zx p m · i) (AP p m i):=by
 have e:zw p m i=mq p m i:=by unfold zw mq;rw[ch3 hi,ch2,ch1 i hi]
 refine(Oa.comp (cC:=7011) (f:=λt=>bC (zw p m i) (t++[.int i]++oZ p (sd p m i)) t) (s:=Oe p m i) ?_ (ag1 hm i)).le (by decide:7011+34<=7045)
 unfold Oe;rw[e];cases mq p m i with
 |false=>exact Oa.id.le (by decide)
 |true=>exact(qt ((by decide:∀i∈cV,i<256) i hi)).acc.comp (Wy (ag0 hm hi)).acc
theorem ag2{m:b6}(hm:m.ok):FO 90000 (QV p m) (AQ p m):=by
 have h0:Oa 34 (zx p m · 0) (uT p 0 m.c):=by
  unfold zx;rw[show zw p m 0=ak from by
   unfold zw;rw[show Wg 0=ah from rfl,show Wf m 0=ak from zM.mpr λh=>by obtain⟨j,hj,e⟩:=wD.mp h;have e:=zU.mp (gy e);subst e;exact absurd (F5.mp hj).1 (by decide)]
   cases decide ((p:aa)>0)<;>rfl]
  exact ag1 hm 0
 have g:=(h0.comp (Oa.fold (F:=zx p m) (T:=AP p m) (l:=cV) λi hi=>ch4 hm hi));have hd:Oc 8 (fJ [0,97,115,109,1,0,0,0]) (λr=>cR [0,97,115,109] (cR [1,0,0,0] r)):=.mk _ rfl ⟨λX=>rfl,by decide,(by decide:∀b∈[0,97,115,109,1,0,0,0],b<256)⟩
 exact((hd.acc.comp g).at.le (by decide)).c
theorem ag3{m:b6}(hm:m.ok):Sm p m:=⟨λf h=>(Wz (p:=p) (hm.f.2 f h)).c.rec λX g I=>eZ g (by decide),
 λi hi=>(ag0 (p:=p) hm hi).rec λX g I=>eZ g (by decide),
 λc h=>⟨(hm.c.2 c h).1,(WA (p:=p) ⟨(hm.c.2 c h).1,(hm.c.2 c h).2.1⟩).c.rec λX g I=>eZ g (by decide)⟩⟩
end
section
def Wr(w:J H->J H)(t:Ts->Ts):Prop:=∀z r,w z++c8 r=z++c8 (t r)
variable{w v:J H->J H}{s t u:Ts->Ts}
theorem Wr.c(h:Wr w s)(g:Wr v u):Wr (λz=>v (w z)) (λr=>s (u r)):=λz r=>(g _ r).trans (h z _)
theorem WB:Wr (λz=>z) (λr=>r):=λX I=>rfl
theorem se(n:H):Wr (w8 n) (cB n):=λz r=>jx ..
theorem WD(l:J H):Wr (wR l) (cR l):=λz r=>jx ..
theorem C4(i:aa):Wr (w7 i) (c7 i):=λz r=>by unfold w7;rw[Qy];exact jx ..
theorem jH{n:H}(h:cY n):Wr (wU n) (cU 0 n):=λz r=>by
 show z++yY n++c8 r=z++(tG n (min 5 (nG n))++c8 r)
 rw[Qs (Uf h).1,jx];rfl
theorem WG{b:H}{i:aa}(hb:b∈[32,33,64])(h:ql b i):Wr (wS i) (tS b 0 i::·):=λz r=>by
 have hx:=W' hb;refine b_ hx.2.2 λc hx=>?_;have ec:=hx.1;have p2:=hx.2;refine b_ (Jh i c (jj (Qd p2) h.1) (Bo h.2 p2)) λj hx=>?_;have f1:=hx.1;have f2:=hx.2.1
 show z++ny i (rX i)++c8 r=z++(ny i (min ((b+6)/7) (rX i))++c8 r)
 rw[Qs (by rw[f1,ec];exact lB f2),jx]
theorem JR{α:Type}{W:α->J H->J H}{T:α->Ts->Ts}:∀{l:J α},(∀y∈l,Wr (W y) (T y))->Wr (wL W l) (tL T l):=@λi_=>by
 induction i_ with
 |nil=>exact λX=>WB
 |cons y l ih=>exact λh=>(h y (.head _)).c (ih λy m=>h y (.tail _ m))
theorem JS{α:Type}{f:α->D}{W:α->J H->J H}{T:α->Ts->Ts}{l:J α}(hl:cY l.length)(h:∀y∈l,Wr (W y) (T y)):Wr (λz=>wL W l (wU ((l.map f).length:H) z)) (q8 0 T l):=by rw[cO];exact(jH hl).c (JR h)
theorem C5{α:Type}{P:α->Prop}{l:J α}{n:H}(h:fO n P l)(hn:n<4294967296):cY l.length:=eZ h.1 hn
theorem WH{l:J aa}(h:cY l.length):Wr (Bt l) (I9 0 l):=JS h λy X=>C4 y
theorem Pq{y:ai}(h:kQ y):Wr (wN y) (tW 0 y):=(jH (eZ (ae9 y h).1 (by decide))).c (WD (pQ y))
theorem WJ:∀{l:qk},tP l->Wr (y9 l) (CI 0 l)
 |(X,ao),h=>(se 0).c (jH h.1)
 |(X,N m),h=>((se 1).c (jH h.1)).c (jH (h.2 m rfl))
theorem ch5{ls:J H}{a:J aa}(h:j5 ls a):Wr (rZ a ls a) (xG 0 a ls a):=by
 cases h with
 |o=>exact WB
 |z=>exact se 0
 |zz=>exact(se 0).c (se 0)
 |u h=>exact jH h
 |i h=>exact WG (.head _) h
 |l h=>exact WG (.tail _ (.tail _ (.head _))) h
 |@r i h=>exact C4 i
 |k h g=>exact WH (eZ h (by decide))
 |@t i a h g=>
  have e:((((i::a).map (sL:H->aa)).map D.int).length:aa) -1=((((i::a).map (sL:H->aa)).length -1:H):aa):=by rw[cO,cO];exact uh (a.length:aa) 1
  show Wr (λz=>wL wU _ (wU (((((i::a).map (sL:H->aa)).map D.int).length:aa) -1) z)) _
  rw[e];refine(jH (by rw[cO];exact eZ h (by decide))).c (JR (T:=UT 0) λy hy=>?_)
  refine b_ (qA.mp hy) λj hx=>?_;have hj:=hx.1;have e:=hx.2;exact e▸jH (g j hj)
 |@b i h=>
  show Wr (λz=>bC (decide (i<0)) (w7 i z) (wS i z)) (bC (decide (i<0)) (.s i 1) (tS 33 0 i)::·)
  cases q:decide (i<0)with
  |true=>exact C4 i
  |false=>exact WG (.tail _ (.head _)) (by
   cases h with
   |e=>cases q
   |k h=>exact absurd (JO h).2 (sJ q)
   |x h=>exact⟨jj (by decide) nn,dF.mpr h⟩)
 |uz h=>exact(jH h).c (se 0)
 |uu h g=>exact(jH h).c (jH g)
 |au h g=>exact(jH (mE h (by decide))).c (jH g)
theorem ch6{i:fj}(h:i.mQ):Wr (Ox i) (UU 0 i):=by
 have hl:=V7 h;have g0:=gy (PI.mp (lE af0 _ (af1 h))).1;refine Wr.c (w:=Ow i.c) (s:=pR 0 i.c) ?_ (ch5 hl.l)
 show Wr (λz=>bC (decide (i.c<64512)) (w8 i.c z) (wU (i.c -64512) (w8 252 z))) λr=>bC (decide (i.c<64512)) _ _
 cases q:decide (i.c<64512)with
 |true=>exact λz r=>jx ..
 |false=>
  have e:i.c -64512=((i.c -64512).toNat:H):=(zO (QF (nN.mp (sJ q)))).symm
  show Wr (λz=>wU (i.c -64512) (w8 252 z)) λr=>cB 252 (cU 0 (i.c -64512).toNat r)
  generalize(i.c -64512).toNat=j at e
  have:=hl.c;rw[e];exact(se 252).c (jH (dF.mp (e▸sN (Int.sub_lt_self i.c (by decide)) (sN hl.c (by decide)))))
theorem ag4{b:iR}(h:∀i∈b,i.mQ):Wr (oR b) (oO 0 b):=JR λi m=>ch6 (h i m)
theorem JT{b:iR}(h:oJ b):Wr (oR b) (oO 0 b):=ag4 h.ins
theorem ch7{f:Fk}(h:rW f.1/\rW f.2):Wr (Fj f) (I_ 0 f):=((se 96).c (WH (C5 h.1 (by decide)))).c (WH (C5 h.2 (by decide)))
theorem ag5{t:i6}(h:t.ok):Wr (CR t) (E_ 0 t):=(C4 t.k).c (WJ h.2)
theorem ag6(g:Gk):Wr (Jl g) (N_ g):=(C4 g.k).c (se g.m)
theorem ch8{i:fh}(h:i.ok):Wr (Jx i) (Ja 0 i):=by
 obtain⟨y,z,a⟩:=i;obtain⟨h1,h2,h3⟩:=h;have g:=λn=>((Pq h1).c (Pq h2)).c (se n);cases a with
 |f a=>exact(g 0).c (jH h3)
 |t t=>exact(g 1).c (ag5 h3)
 |m l=>exact(g 2).c (WJ h3)
 |g q=>exact(g 3).c (ag6 q)
theorem ch9{g:iy}(h:g.ok):Wr (Jw g) (Jc 0 g):=(ag6 g.g).c (JT h.2)
theorem ci0{e:ju}(h:e.ok):Wr (Jy e) (Jd 0 e):=((Pq h.1).c (se e.s)).c (jH h.2.2)
theorem ci1{e:eV}(h:e.ok):Wr (FE e) (Jf 0 e):=by
 obtain⟨o,c⟩:=e;have hc:Wr (λz=>wR c (wU (c.length:H) z)) λr=>cU 0 c.length (cR c r):=(jH (C5 h.2 (by decide))).c (WD c)
 induction o with
 |none=>exact(jH (n:=1) (by decide:1<4294967296)).c hc
 |some o=>
  obtain⟨h1,h2⟩:=h.1 o rfl;obtain⟨y,b⟩:=o;induction y using ji with
  |zero=>exact((jH (n:=0) (by decide:0<4294967296)).c (JT h2)).c hc
  |succ y=>exact(((jH (n:=2) (by decide:2<4294967296)).c (jH h1)).c (JT h2)).c hc
theorem WK{w:J H->J H}{t:Ts->Ts}(h:Wr w t)(hl:cY (c8 (t [])).length):Wr (wZ (w [])) (tZ 0 (t [])):=by
 have e:w []=c8 (t []):=by
  have g:=h [] [];rw[FX,j3,cC1]at g
  exact g
 rw[e];exact(jH hl).c λz r=>jx ..
theorem ci2{r:l5}(h:r.1<128):Wr (OY r) (Fc r):=(jH (mE h (by decide))).c (C4 r.2)
theorem ci3{f:cW}(h:f.ok):Wr (Jz f) (CK 0 f):=WK ((JS (f:=xH) (W:=OY) (T:=Fc) (l:=qH f.l) (eZ (JJ h.2.1).1 (by decide)) λr m=>ci2 ((JJ h.2.1).2.1 r m).1).c (JT h.2.2)) ((Wz (p:=0) h).c.rec λX g I=>eZ g (by decide))
theorem ci4{e:dz}(h:e.ok):∀B,(B=ak->∀i∈e.i,nf i=ak)->Wr (FF B e) (CL 0 B e)
 |true,X=>JS (f:=λi:er=>gA (i.b e.k)) (C5 h.2.2 (by decide)) λi m=>ag4 (O0 h.2.1 (h.2.2.2 i m))
 |false,g=>by
  have e1:∀(l:J er)(z:J H),wL wU (l.map er.j) z=wL (λi:er=>wU i.j) l z:=λl=>by
   induction l with
   |nil=>exact λX=>rfl
   |cons i l ih=>exact λz=>ih _
  show Wr (λz=>wL wU (e.i.map er.j) (wU _ z)) _
  rw[show wL wU (e.i.map er.j)=wL (λi:er=>wU i.j) e.i from funext (e1 e.i)]
  refine JS (T:=λi:er=>cU 0 i.x) (f:=λi:er=>gA (i.b e.k)) (C5 h.2.2 (by decide)) λi m=>?_
  have g:=g rfl i m;have hi:=h.2.2.2 i m;induction i with
  |f j=>exact jH hi
  |g j=>cases g
  |n=>cases g
theorem Pr(n m:H)(hn:cY n)(hm:cY m):∀B,Wr (wU (bC B (n:aa) m)) λr=>cU 0 (bC B n m) r
 |true=>jH hn
 |false=>jH hm
theorem ci5(e:dz):∀B,Wr (JC B e) (Je B e.k)
 |true=>C4 e.k
 |false=>se 0
theorem ci6{e:dz}(h:e.ok):Wr (CV e) (CM 0 e):=by
 unfold CM;rw[show jk (lM e) (bX 0 1)=lM e from by cases lM e<;>rfl]
 have hf:=ci4 h (lM e) λq=>(ad9 q).2;have S:=ci5 e (lM e);unfold CV OZ;generalize lM e=B at hf S
 obtain⟨m,k,is⟩:=e;induction m with
 |p=>exact((Pr 5 1 (by decide:5<4294967296) (by decide:1<4294967296) B).c S).c hf
 |d=>exact((Pr 7 3 (by decide:7<4294967296) (by decide:3<4294967296) B).c S).c hf
 |a y c=>
  have hb:=JT h.1.2
  show Wr (λz=>FF B ⟨.a y c,k,is⟩ (bC (bz (bX y 0) (decide (k=-16))) _ _)) λr=>bC (bz (bX y 0) (bz (decide (k=-16)) ah)) _ _
  rw[show bz (decide (k=-16)) ah=decide (k=-16)from by cases decide (k=-16)<;>rfl]
  cases bz (bX y 0) (decide (k=-16))with
  |true=>exact((Pr 4 0 (by decide:4<4294967296) (by decide:0<4294967296) B).c hb).c hf
  |false=>exact((((Pr 6 2 (by decide:6<4294967296) (by decide:2<4294967296) B).c (jH h.1.1)).c hb).c S).c hf
theorem xR{α:Type}{f:α->D}{W:α->J H->J H}{T:α->Ts->Ts}{ok:α->Prop}{l:J α}(hl:fO 14 ok l)(h:∀y,ok y->Wr (W y) (T y)):∃t:Ts->Ts,Wr (q_ f W l) t/\q8 0 T l []=t []:=⟨_,JS (C5 hl (by decide)) λy m=>h y (hl.2 y m),rfl⟩
theorem ci7{m:b6}(hm:m.ok){i:H}(hi:i∈cV):∃t:Ts->Ts,Wr (CX m i) t/\pH 0 m i=t []:=eW (P:=λi=>∃t:Ts->Ts,Wr (CX m i) t/\pH 0 m i=t []) hi
 ⟨xR hm.k λX=>ch7,xR hm.i λX=>ch8,xR hm.f λf h=>jH h.1,xR hm.t λX=>ag5,xR hm.m λX=>WJ,xR hm.g λX=>ch9,xR hm.e λX=>ci0,
 ⟨_,jH (by cases q:m.s with|none=>exact(by decide:0<4294967296)|some j=>exact hm.s j q),rfl⟩,xR hm.l λX=>ci6,⟨cU 0 m.d.length,by
  show Wr (wU ((m.d.map eV.d).length:H)) _
  rw[cO];exact jH (C5 hm.d (by decide)),rfl⟩,xR hm.f λX=>ci3,xR hm.d λX=>ci1,cH2⟩
theorem ci8{i:H}{c:dB}(h:kQ c.n/\fO 2 (·<256) c.c):Wr (A0 i c) (λr=>bC (bX c.b i) (Jg 0 c r) r):=by
 unfold A0;rw[Wx];cases bX c.b i with
 |false=>exact WB
 |true=>exact(se 0).c (WK ((Pq h.1).c (WD c.c)) ((WA (p:=0) h).c.rec λX g I=>eZ g (by decide)))
theorem ag7{m:b6}(hm:m.ok)(i:H):Wr (JE m i) (uT 0 i m.c):=JR λc h=>ci8 ⟨(hm.c.2 c h).1,(hm.c.2 c h).2.1⟩
theorem ci9{m:b6}(hm:m.ok){i:H}(hi:i∈cV):Wr (A1 m i) (AP 0 m i):=by
 unfold A1 AP Oe;rw[show mq 0 m i=jI m i from by unfold mq;cases jI m i<;>rfl]
 cases q:jI m i with
 |true=>
  refine b_ (ci7 hm hi) λt hx=>?_;have h:=hx.1;have e:=hx.2;have l:cY (c8 (pH 0 m i)).length:=(ag3 hm).s i hi;rw[e]at l|-
  exact((se i).c (WK h l)).c (ag7 hm i)
 |false=>
  have no:∀cs:J dB,(∀c∈cs,uP m c.b)->∀r,uT 0 i cs r=r:=λcs=>by
   induction cs with
   |nil=>exact λX I=>rfl
   |cons c cs ih=>
    intro h r;have g:=ih (λc m=>h c (.tail _ m)) r
    show bC (bX c.b i) _ (uT 0 i cs r)=r
    cases q2:bX c.b i with
    |false=>exact g
    |true=>
     have e:=mV q2;subst e;rcases h c (.head _)with e|h
     ·rw[e]at hi;exact absurd hi (by decide)
     ·rw[h.2]at q;cases q
  exact λz r=>bR (λr=>z++c8 r) (no m.c (λc h=>(hm.c.2 c h).2.2) r).symm
theorem ag8{m:b6}(hm:m.ok):VX m=c8 (AQ 0 m):=by
 have g:=(ag7 hm 0).c (JR λi h=>ci9 hm h) [0,97,115,109,1,0,0,0] [];rw[FX,j3]at g
 exact g
end
section
open Wh (cu)
variable{w:bU}{bJ s:aE}{x:cu w bJ s}{n p:H}
noncomputable def cj0(m:b6)(c:J dB):J O:=zf m (jq m.s) cV 1 2::.dl (m.f.map cW.d)::(match c with
 |[]=>[.dl []]
 |[a]=>[.vl [.ref 3],uZ a a.b]
 |a::b::X=>[.vl [.ref 3,.ref 4],uZ a a.b,uZ b b.b])
def cj1(p:H):Tr:=λa_ o_ k_=>∀P_:Tr,(∀(m:b6){k},m.ok->Sm p m->k (.ref 0) (cj0 m m.c)->P_ [.d (.bytes (c8 (AQ p m)))] [] k)->P_ a_ o_ k_
theorem cj2:aQ (aU x) (n+19) Ek (cj1 p):=by
 refine Uv x (q:=bz1) (l:=[(BJ,JF),(RB,JQ p)]) 1199 (Wh.tu [.int 50000 1707]) (by kernel_rfl) (by kernel_rfl) (λargs b hb r F ws hv=>?_) ⟨bZ3,cf1,cH2⟩ λX I u2 g=>g _ λm k hm hs S=>?_
 ·cases hv with
  |nil=>cases hb
  |cons v1 hv=>cases hv with
   |nil=>cases hb;exact⟨[(bH,_),(uC,.int 50000 1707)],by kernel_rfl,by kernel_rfl,.cons v1 (.cons (.d .int) .nil)⟩
   |cons v2 hv=>cases hv with
    |nil=>cases hb;exact⟨[(bH,_),(uC,_)],by kernel_rfl,by kernel_rfl,.cons v1 (.cons v2 .nil)⟩
    |cons X I=>cases hb
 ·rw[cf3];refine JF.mk m (nH p m (eX p m)) (JQ.mk m (eX p m) (cg0 hm hs) hm λpl q hc ks=>?_);clear hs hm;unfold Pp
  revert S
  generalize m.c=c;intro S;rcases c with _|⟨a,_|⟨b,c⟩⟩
  ·exact S
  ·exact S
  ·exact S
def cj3(p:H):Tr:=λa_ o_ k_=>∀P_:Tr,(∀(m:b6){k},m.ok->Sm p m->k (.d m.D) []->P_ [.d (.bytes (c8 (AQ p m)))] [] k)->P_ a_ o_ k_
theorem ag9:aQ (aU x) (n+19) Ek (cj3 p):=cj2.HX.of λX I u2 g=>g _ λm k hm hs S=>⟨rfl,(λX I=>I m hm hs ⟨m.D,by
 have l2:=hm.c.1;obtain⟨mk,mi,mf,mt,mm,mg,me,ms,ml,md,c⟩:=m
 match c,l2 with
 |[],X=>exact⟨rfl,rfl,S⟩
 |[a],X=>exact⟨rfl,rfl,S⟩
 |[a,b],X=>exact⟨rfl,rfl,S⟩
 |X::I::u2::u3,l=>exact absurd l (Gq (x6 3 _))⟩)⟩
end
section
open Wh (cu)
variable{w:bU}{bJ s:aE}{x:cu w bJ s}{n:H}
noncomputable def ah0(b:H)(Z:D):O:=.inst s7 [(fy,.ref b),(p_,.ref (b+1)),(mF,.ref (b+2)),(qd,.ref (b+3)),(qc,.ref (b+4)),(pZ,.ref (b+5)),(pY,.ref (b+6)),(nU,.d Z),(pX,.ref (b+7)),(nP,.ref (b+8)),(qL,.ref (b+9))]
noncomputable def WL:J O:=[ah0 1 .none,.dl [],.dl [],.dl [],.dl [],.dl [],.dl [],.dl [],.dl [],.dl [],.dl []]
def JU:Tr:=λa_ o_ k_=>∀P_:Tr,(∀{k},k (.ref 0) WL->P_ [] [] k)->P_ a_ o_ k_
theorem JU.mk{k}(f5:k (.ref 0) WL):JU [] [] k:=λP_ c_=>c_ f5
def cj4:Tr:=λa_ o_ k_=>∀P_:Tr,(∀{k},k (.d .none) WL->P_ [.ref 0] [.inst s7 []] k)->P_ a_ o_ k_
theorem cj5:aQ (aU x) (n+1) LB cj4:=fc x (q:=bs9) (l:=[]) (by kernel_rfl) trivial λX I u2 g=>g _ λS=>S
theorem cj6:aQ (aU x) (n+2) s7 JU:=(CB x cj5 (by kernel_rfl)).of λX I u2 g=>g _ λS=>(λX I=>I S)
structure LM where
 k:J D
 i:J D
 f:J D
 t:J D
 m:J D
 g:J D
 e:J D
 s:D
 l:J D
 d:J D
noncomputable def xS(ns:J aa)(r:H)(L:LM)(z:J O)(c:bq V):J O:=.dl (ns.map .int)::.cell (N (.ref 0))::.cell c::.cell ao::.dl [.int r]::ah0 6 L.s::.dl L.k::.dl L.i::.dl L.f::.dl L.t::.dl L.m::.dl L.g::.dl L.e::.dl L.l::.dl L.d::.dl []::z
noncomputable def JV:Fm:=[(fY,.C 1),(d9,.L ao),(bW,.L ao),(bI,.L (N (.ref 5))),(jT,.L ao),(dX,.L ao),(bH,.L ao),(aM,.C 2),(GL,.L ao),(kW,.L ao),(dO,.L ao),(nR,.L (N (.ref 4))),(BB,.C 3),(fR,.L ao)]
noncomputable def ah1:J (H×Tr):=[(s7,JU),(Mk,r9),(Al,CF),(ou,qp),(Hu,UI),(Mg,Tx),(Mh,TB),(Hv,UJ),(BV,IZ),(El,OH),(Ah,Vu),(Hs,UK),(uF,xE),(Mi,TC),(Mj,TI),(Hw,AV),(yo,Vv)]
noncomputable abbrev zB:Tb:=⟨dP,d_ ah1⟩
def wK{α:Type}(f:α->D)(ok:α->Prop)(Ob:J aa->J D->J O)(fg:J ai)(fS:H)(body:J PS):Prop:=
 ∀(y:D)(ns:J aa)(ds:J D)(Q:St->Prop)(K:dZ->St->Prop),ds.length<1048576->(∀a jb,ok a->Q ⟨JV,Ob jb (ds++[f a])⟩)->jL [d9] ah (.d y) ⟨JV,Ob ns ds⟩ λZ=>(vc zB 39).s body Z (zY fg fS Q K)
theorem zC{α:Type}{f:α->D}{ok:α->Prop}{Ob:J aa->J D->J O}{fg:J ai}{fS:H}{body:J PS}(WV:wK f ok Ob fg fS body){K:dZ->St->Prop}(hK:∀ns(l:J α),fO 14 ok l->K .next ⟨JV,Ob ns (l.map f)⟩)(xs:J D):
  ∀(ns:J aa)(l:J α),l.length+xs.length<=14->(∀a∈l,ok a)->gT fg [d9] ah fS ((vc zB 39).s body) xs ⟨JV,Ob ns (v_ f l)⟩ K:=by
 induction xs with
 |nil=>intro ns l h1 h2;rw[OG];exact hK ns l.reverse ⟨by rw[Gf];exact h1,λa h=>h2 a (Xj.mp h)⟩
 |cons y xs ih=>intro ns l h1 h2;exact WV y ns (v_ f l) _ K (by rw[Vz];exact eZ (bN (gF ..) h1) (by decide)) λa jb ha=>ih jb (a::l) (bN (iW (xX ..)) h1) (gv.mpr ⟨ha,h2⟩)
variable{r:H}{L:LM}{z:J O}{c:bq V}
def cj7(f:Fk):Prop:=rW f.1/\rW f.2
theorem le2{m:H}(h:(m:aa)<3):m<3:=dF.mp h
theorem k_few{l:J aa}{m:H}(hm:(m:aa)<3)(h:l.length=m/\∀i∈l,pF i):rW l:=⟨h.1▸qD (dF.mp hm),h.2⟩
theorem cj8:wK mP cj7 (λns ds=>xS ns r {L with k:=ds} [] ao) [d9,aM,kW] 16 wP:=λy ns ds Q K hl h=>⟨ns,λi jb=>⟨3,i,(by decide),λa i1 ha=>⟨a,i1,le2 ha,λk1 i2 h1=>⟨3,i2,(by decide),λb i3 hb=>⟨b,i3,le2 hb,λk2 i4 h2=>⟨hl,h (k1,k2) jb ⟨k_few ha h1,k_few hb h2⟩⟩⟩⟩⟩⟩⟩
theorem cj9:wK fh.d fh.ok (λns ds=>xS ns r {L with i:=ds} [] ao) [d9] 16 wT:=λy ns ds Q K hl h=>⟨ns,λi jb=>⟨(),i,cH2,λa i1 ha=>⟨hl,h a jb ha⟩⟩⟩
theorem ck0:wK cW.d cW.ok (λns ds=>xS ns r {L with f:=ds} [] ao) [d9] 16 w0:=λy ns ds Q K hl h=>⟨(),ns,cH2,λa jb ha=>⟨hl,h a jb ha⟩⟩
theorem ck1:wK i6.d i6.ok (λns ds=>xS ns r {L with t:=ds} [] ao) [d9,aM] 16 w3:=λy ns ds Q K hl h=>⟨ns,λi jb=>⟨2,i,(by decide),λa i1 ha=>⟨nn,ha,λy hy=>by obtain⟨kd,za,rfl⟩:=yV (f:=.int) (l:=[-16,-17]) hy;exact⟨(),i1,cH2,λl i2 Ey=>⟨(show 3<=1048576 by decide),hl,h ⟨kd,l⟩ jb ⟨za,Ey⟩⟩⟩⟩⟩⟩
theorem ck2:wK nE tP (λns ds=>xS ns r {L with m:=ds} [] ao) [d9] 16 xa:=λy ns ds Q K hl h=>⟨ns,λi jb=>⟨(),i,cH2,λa i1 ha=>⟨hl,h a jb ha⟩⟩⟩
theorem ck3:wK iy.d iy.ok (λns ds=>xS ns r {L with g:=ds} [] ao) [d9,bW,jT,aM] 16 xb:=λy ns ds Q K hl h=>⟨ns,λi jb=>⟨(),i,cH2,λa i1 ha=>⟨2,i1,(by decide),λb i2 hb=>⟨(),i2,cH2,λd i3 hd=>(λX I=>I (iy.mk ⟨a,b⟩ d) ⟨hl,h ⟨⟨a,b⟩,d⟩ jb ⟨⟨ha,Tm b (dF.mp hb)⟩,hd⟩⟩)⟩⟩⟩⟩
theorem ck4:wK ju.d ju.ok (λns ds=>xS ns r {L with e:=ds} [] ao) [d9,dX,aM,fR] 16 xc:=λy ns ds Q K hl h=>⟨ns,λi jb=>⟨(),i,cH2,λa i1 ha=>⟨4,i1,(by decide),λb i2 hb=>⟨(),i2,cH2,λd i3 hd=>⟨hl,h ⟨a,b,d⟩ jb ⟨ha,dF.mp hb,hd⟩⟩⟩⟩⟩⟩
theorem ck5{n0:aa}:wK dz.d dz.ok (λns ds=>xS ns r {L with l:=ds} [.dl [.int n0]] (N (.ref 16))) [d9] 17 xf:=λy ns ds Q K hl h=>⟨ns,λi jb=>⟨(),i,cH2,λa i1 ha=>⟨hl,h a jb ha⟩⟩⟩
theorem ck6{n0:aa}:wK eV.d eV.ok (λns ds=>xS ns r {L with d:=ds} [.dl [.int n0]] (N (.ref 16))) [d9] 17 xi:=λy ns ds Q K hl h=>⟨ns,λi jb=>⟨(),i,cH2,λa i1 ha=>⟨hl,h a jb ha⟩⟩⟩
end
section
open Wh (cu)
variable{w:bU}{bJ s:aE}{x:cu w bJ s}{n:H}
inductive Od where
 |one (a:aa)
 |two (a b:aa)
noncomputable def Od.v:Od->V
 | .one X=>.ref 18
 | .two X I=>.ref 19
noncomputable def Od.o:Od->J O->J O
 | .one a,z=>.dl [.int a]::.vl [.ref 17]::z
 | .two a b,z=>.dl [.int a]::.dl [.int b]::.vl [.ref 17,.ref 18]::z
noncomputable def Od.m:Od->H
 | .one X=>19
 | .two X I=>20
noncomputable def lO(m:b6):J H:=0::OL m
noncomputable def Pu(v:V):Fm:=[(fY,.C 1),(d9,.L ao),(bW,.L ao),(bI,.L (N (.ref 5))),(jT,.L ao),(dX,.L ao),(bH,.L ao),(aM,.C 2),(GL,.L (N v)),(kW,.L ao),(dO,.L ao),(nR,.L (N (.ref 4))),(BB,.C 3),(fR,.L ao)]
noncomputable def FP(c:bq V)(n0:aa)(ns:J aa)(r:H)(m:b6)(cs:J D)(z:J O):J O:=.dl (ns.map .int)::.cell (N (.ref 0))::.cell c::.cell (N (.d (.list ((lO m).map fX))))::.dl [.int r]::AU m (.ref 15)::.gone::.gone::.gone::.gone::.gone::.gone::.gone::.gone::.gone::.dl cs::.dl [.int n0]::z
theorem ah2{l:J H}{i:H}{y:D}(h:(l.map fX)[i]?=N y):y=fX (kB 0 l i):=by
 induction l generalizing i with
 |nil=>cases i<;>cases h
 |cons a l ih=>induction i using ji with
  |zero=>exact(fW h).symm
  |succ i=>exact ih h
noncomputable def WM:J ai:=[dX,bH,aM,dO]
theorem WN{m:b6}{ot:Od}{n0:aa}{r:H}(a:H)(ha:a<(lO m).length)(ns:J aa)(ds:J D)(Q:St->Prop)(K:dZ->St->Prop)(hl:ds.length<1048576)(h:∀(y:ai)(l:J H) jb,kQ y->fO 2 (·<256) l->Q ⟨Pu ot.v,FP ao n0 jb r m (ds++[dB.d ⟨y,l,kB 0 (lO m) a⟩]) (ot.o [])⟩):
  jL [dO] ah (.d (fX a)) ⟨Pu ot.v,FP ao n0 ns r m ds (ot.o [])⟩ λZ=>(vc zB 39).s NU Z (zY WM ot.m Q K):=by
 have la:((a:H):aa)<(((lO m).map fX).length:H):=by rw[cO];exact dF.mpr ha
 have end_:∀(l:J H)(j:H),(j:aa)<3->l.length=((kJ (j:aa).toNat).map λ(n:H)=>D.int n).length->(∀v∈l,v<256)->fO 2 (·<256) l:=λl j hj h1 h2=>⟨qD (eZ (iW (h1.trans iA)) (dF.mp hj)),h2⟩;induction ot with
 |one a0=>
  refine⟨ns,λi jb=>⟨(),i,cH2,λy i1 hy=>⟨3,i1,(by decide),λj i2 hj=>⟨uS (bN (mX (dF.mp hj)) (by decide)),?_⟩⟩⟩⟩
  refine E8 (f:=yS) (ok:=λi=>i<256) (Z:=λa=>FP (N (.ref 19)) n0 jb r m ds [.dl [.int a0],.vl [.ref 17],.dl [.int a]]) (λX I=>rfl) (λd a K h=>⟨256,a,(by decide),λj a' hj=>h j a' (dF.mp hj)⟩) _ i2 λl i3 h1 h2=>⟨l,rfl,h2,?_⟩
  have g:=h y l jb hy (end_ l j hj h1 h2);clear h1 h2 hj end_ h
  conv=>whnf
  refine⟨nn,la,λz hz=>?_⟩;cases ah2 hz;exact(λX I=>I (dB.mk y l (kB 0 (lO m) a)) ⟨hl,g⟩)
 |two a0 b0=>
  refine⟨ns,λi jb=>⟨(),i,cH2,λy i1 hy=>⟨3,i1,(by decide),λj i2 hj=>⟨uS (bN (mX (dF.mp hj)) (by decide)),?_⟩⟩⟩⟩
  refine E8 (f:=yS) (ok:=λi=>i<256) (Z:=λa=>FP (N (.ref 20)) n0 jb r m ds [.dl [.int a0],.dl [.int b0],.vl [.ref 17,.ref 18],.dl [.int a]]) (λX I=>rfl) (λd a K h=>⟨256,a,(by decide),λj a' hj=>h j a' (dF.mp hj)⟩) _ i2 λl i3 h1 h2=>⟨l,rfl,h2,?_⟩
  have g:=h y l jb hy (end_ l j hj h1 h2);clear h1 h2 hj end_ h
  conv=>whnf
  refine⟨nn,la,λz hz=>?_⟩;cases ah2 hz;exact(λX I=>I (dB.mk y l (kB 0 (lO m) a)) ⟨hl,g⟩)
theorem QW{m:b6}:∀(l:J H)(a:H),a<l.length->kB 0 l a∈l
 |[],X,h=>absurd h (xV _)
 |b::l,0,X=>.head _
 |b::l,a+1,h=>.tail _ (QW (m:=m) l a (F6 h))
theorem ck7{f:H->H}{l:J H}:∀a b:H,l.Pairwise (λx y=>f x<=f y)->a<=b->b<l.length->f (kB 0 l a)<=f (kB 0 l b):=by
 induction l with
 |nil=>exact λX I u2 u3 h=>absurd h (xV _)
 |cons x l ih=>
  intro a b h Cc hb;cases b with
  |zero=>rw[cB5.mp Cc];exact jO _
  |succ b=>
   cases a with
   |zero=>exact(DC.mp h).1 _ (QW (m:=⟨[],[],[],[],[],[],[],ao,[],[],[]⟩) l b (F6 hb))
   |succ a=>exact ih a b (DC.mp h).2 (Km Cc) (F6 hb)
theorem ck8(m:b6):(lO m).Pairwise λx y=>j6 x<=j6 y:=
 DC.mpr ⟨λb X=>qw _,cG6 List.filter_sublist (by decide:cV.Pairwise λ(a b:H)=>j6 a<=j6 b)⟩
theorem ck9{m:b6}{a:H}(h:a<(lO m).length):uP m (kB 0 (lO m) a):=by
 have g:=QW (m:=m) (lO m) a h;rcases iV.mp g with g|g
 ·exact .inl g
 ·exact .inr (F5.mp g)
theorem cl0(m:b6):0<(lO m).length/\(lO m).length<=13:=⟨jd _,lB (aq3 (jI m) cV)⟩
noncomputable def mC(m:b6)(l:J dz)(d:J eV)(c:J dB):b6:=⟨m.k,m.i,m.f,m.t,m.m,m.g,m.e,m.s,l,d,c⟩
noncomputable def WQ(m:b6)(l d:J D):LM:=⟨m.k.map mP,m.i.map fh.d,m.f.map cW.d,m.t.map i6.d,m.m.map nE,m.g.map iy.d,m.e.map ju.d,jq m.s,l,d⟩
def ah3(m:b6):Prop:=∀l d c,fO 14 dz.ok l->fO 14 eV.ok d->fO 2 (dB.ok (mC m l d [])) c->(c.map λc=>j6 c.b).Pairwise (·<=·)->(mC m l d c).ok
theorem zE{m:H}(h:m<=2):-4611686018427387904<=(m:aa)/\(m:aa)<=1048576:=uS (bN h (by decide))
theorem zF{m:H}(h:m<=2):0+((kJ (m:aa).toNat).map λ(n:H)=>D.int n).length<=14:=by rw[iA,mW];exact bN h (by decide)
def ah4(k:V->J O->Prop):dZ->St->Prop:=yG (l8 zB (vc zB 39) [.ret (.fz (.Y bI))]) (mK 1 k)
theorem cl1{k:V->J O->Prop}(S:∀(m:b6) ns,m.ok->k (.d m.D) (N2 ns)){m:b6}{l:J dz}{d:J eV}(hq:∀c,fO 2 (dB.ok (mC m l d [])) c->(c.map λc=>j6 c.b).Pairwise (·<=·)->(mC m l d c).ok){n0:aa}{r:H}:
  (∀(i:aa)(a:H) ns,a<(lO (mC m l d [])).length->gT WM [dO] ah 19 ((vc zB 39).s NU) ([(a:aa)].map .int) ⟨Pu (.ref 18),FP ao n0 ns r (mC m l d []) [] [.dl [.int i],.vl [.ref 17]]⟩ (ah4 k))/\
  ∀(i j:aa)(a b:H) ns,a<=b->b<(lO (mC m l d [])).length->gT WM [dO] ah 20 ((vc zB 39).s NU) ([(a:aa),(b:aa)].map .int) ⟨Pu (.ref 19),FP ao n0 ns r (mC m l d []) [] [.dl [.int i],.dl [.int j],.vl [.ref 17,.ref 18]]⟩ (ah4 k):=by
 have ok:∀{y:ai}{u:J H}{a},kQ y->fO 2 (·<256) u->a<(lO (mC m l d [])).length->dB.ok (mC m l d []) ⟨y,u,kB 0 (lO (mC m l d [])) a⟩:=λhy hu ha=>⟨hy,hu,ck9 ha⟩;refine⟨λi a ns ha=>WN (ot:=.one i) a ha ns [] _ _ (by decide) λy u jb hy hu=>?_,λi j a b ns Cc hb=>WN (ot:=.two i j) a (eZ Cc hb) ns [] _ _ (by decide) λy u jb hy hu=>WN (ot:=.two i j) b hb jb [_] _ _ (show 1<1048576 by decide) λz v cl2 hz hv=>?_⟩
 ·exact S _ jb (hq [⟨y,u,_⟩] ⟨(by decide:1<=2),gv.mpr ⟨ok hy hu ha,nofun⟩⟩ (DC.mpr ⟨nofun,.nil⟩))
 ·exact S _ cl2 (hq [⟨y,u,_⟩,⟨z,v,_⟩] ⟨(by decide:2<=2),gv.mpr ⟨ok hy hu (eZ Cc hb),gv.mpr ⟨ok hz hv hb,nofun⟩⟩⟩ (DC.mpr ⟨λn h=>by rw[fN.mp h];exact ck7 a b (ck8 _) Cc hb,DC.mpr ⟨nofun,.nil⟩⟩))
theorem cl3{a b:aa}{l:J aa}(h:l.Perm [a,b])(hs:l.Pairwise (·<=·)):(l=[a,b]/\a<=b)\/l=[b,a]/\b<=a:=by
 match l,h.length_eq with
 |[c,d],X=>
  have hs:=(DC.mp hs).1 d (.head _);have hc:c∈[a,b]:=h.mem_iff.mp (.head _);rcases iV.mp hc with e|e
  ·subst e;have:=(cC7 c).mp h;cases aq6.mp this;exact .inl ⟨rfl,hs⟩
  ·have e:=fN.mp e;rw[e]at h hs|-
   have:=(cC7 b).mp (h.trans (.swap b a []));cases aq6.mp this;exact .inr ⟨rfl,hs⟩
theorem ah5{k:V->J O->Prop}(S:∀(m:b6) ns,m.ok->k (.d m.D) (N2 ns)){m:b6}(hp:ah3 m)(hf:Fz m)(n0:aa)(ns:J aa)(r:H):
  l8 zB (vc zB 39) (xk.drop 11) ⟨JV,xS ns r (WQ m [] []) [.dl [.int n0]] (N (.ref 16))⟩ (mK 1 k):=by
 refine(r9.mk ns r (λm1 r1 we h1 X=>⟨zE h1,zC (ck5 (L:=WQ m [] [])) (λWR l hl=>?_) _ we [] (zF h1) yU⟩));refine(r9.mk WR r1 (λm2 r2 wV h2 X=>⟨zE h2,zC (ck6 (L:=WQ m (l.map dz.d) [])) (λWU d hd=>?_) _ wV [] (zF h2) yU⟩))
 conv=>whnf
 refine AV.lv (mC m l d []) [] hf ?_;have hq:=λc=>hp l d c hl hd;have Pw:=cl0 (mC m l d []);have ends:=λr=>cl1 S hq (n0:=n0) (r:=r);have pk:(0:aa)<(((lO (mC m l d [])).map fX).length:H)/\((((lO (mC m l d [])).map fX).length:H):aa).natAbs<2^128:=by rw[cO];exact⟨dF.mpr Pw.1,eZ Pw.2 (by decide)⟩
 have lt:∀i:H,(i:aa)<(((lO (mC m l d [])).map fX).length:H)->i<(lO (mC m l d [])).length:=λi h=>by
  rw[cO]at h
  exact dF.mp h
 have nil:=hq [] ⟨qw _,nofun⟩ .nil;clear hp hl hd h1 h2 hq;refine⟨?_,r9.mk WU r2 (λm3 r3 JW h3 X=>?_)⟩
 ·show((lO (mC m l d [])).map fX).length<=_
  rw[cO];exact bN Pw.2 (by decide)
 ·clear Pw;induction m3 using ji with
  |zero=>
   refine⟨⟨by decide,by decide⟩,rfl,[],⟨rfl,jd _⟩,λis hp hs=>?_⟩
   obtain rfl:=hp.eq_nil;exact S (mC m l d []) JW nil
  |succ m3=>induction m3 using ji with
   |zero=>
    refine⟨⟨by decide,by decide⟩,JW,λp0 q0=>⟨rfl,((((lO (mC m l d [])).map fX).length:H):aa),p0,pk,λi0 z0 X=>⟨rfl,[(i0:aa)],⟨rfl,(show 1<64 by decide)⟩,λis hp hs=>?_⟩⟩⟩
    have e:=aq6.mp hp;have g:=(ends r3).1 z0 i0 q0 (lt i0 X);rw[<-e]at g
    conv=>whnf
    exact g
   |succ m3=>induction m3 using ji with
    |zero=>
     refine⟨⟨by decide,by decide⟩,JW,λp0 q0=>⟨q0,λp1 q1=>⟨rfl,((((lO (mC m l d [])).map fX).length:H):aa),p0,pk,λi0 z0 X=>⟨rfl,((((lO (mC m l d [])).map fX).length:H):aa),p1,pk,λi1 z1 I=>⟨rfl,[(i0:aa),(i1:aa)],⟨rfl,(show 2<64 by decide)⟩,λis hp hs=>?_⟩⟩⟩⟩⟩
     conv=>whnf
     rcases cl3 hp hs with⟨e,h⟩|⟨e,h⟩
     ·have g:=(ends r3).2 z0 z1 i0 i1 q1 (iz.mp h) (lt i1 I);rw[<-e]at g
      exact g
     ·have g:=(ends r3).2 z0 z1 i1 i0 q1 (iz.mp h) (lt i0 X);rw[<-e]at g
      exact g
    |succ m3=>exact absurd h3 (Gq (x6 3 _))
def ah6:Tr:=UG b6.ok b6.D
theorem cl4:aQ (aU x) (n+7) Ml ah6:=qo (q:=bB1) (l:=ah1) (by kernel_rfl) ⟨cj6,bS4,IY,rY,Bz,bR7,bR9,BM,N3,VC,Qr,B2,yT,bS2,bS3,TW,QP,cH2⟩ λX l ct I S=>by
 refine JU.mk (r9.mk l 14 λm0 r0 ns0 h0 X=>⟨zE h0,zC (cj8 (L:=⟨[],[],[],[],[],[],[],.none,[],[]⟩)) (λwe k gk=>?_) _ ns0 [] (zF h0) yU⟩);refine r9.mk we r0 λm1 r1 WR h1 X=>⟨zE h1,zC (cj9 (L:=⟨k.map mP,[],[],[],[],[],[],.none,[],[]⟩)) (λwV i gi=>?_) _ WR [] (zF h1) yU⟩;refine r9.mk wV r1 λm2 r2 WU h2 X=>⟨zE h2,zC (ck0 (L:=⟨k.map mP,i.map fh.d,[],[],[],[],[],.none,[],[]⟩)) (λJW f gf=>?_) _ WU [] (zF h2) yU⟩;refine r9.mk JW r2 λm3 r3 ns6 h3 X=>⟨zE h3,zC (ck1 (L:=⟨k.map mP,i.map fh.d,f.map cW.d,[],[],[],[],.none,[],[]⟩)) (λns7 t gt=>?_) _ ns6 [] (zF h3) yU⟩;refine r9.mk ns7 r3 λm4 r4 ns8 h4 X=>⟨zE h4,zC (ck2 (L:=⟨k.map mP,i.map fh.d,f.map cW.d,t.map i6.d,[],[],[],.none,[],[]⟩)) (λns9 m gm=>?_) _ ns8 [] (zF h4) yU⟩;refine r9.mk ns9 r4 λm5 r5 cl5 h5 X=>⟨zE h5,zC (ck3 (L:=⟨k.map mP,i.map fh.d,f.map cW.d,t.map i6.d,m.map nE,[],[],.none,[],[]⟩)) (λcl6 g gg=>?_) _ cl5 [] (zF h5) yU⟩;refine r9.mk cl6 r5 λm6 r6 cl7 h6 X=>⟨zE h6,zC (ck4 (L:=⟨k.map mP,i.map fh.d,f.map cW.d,t.map i6.d,m.map nE,g.map iy.d,[],.none,[],[]⟩)) (λcl8 e ge=>?_) _ cl7 [] (zF h6) yU⟩;clear h0 h1 h2 h3 h4 h5 h6;have ok:∀Z:bq H,(∀i,Z=N i->cY i)->ah3 ⟨k,i,f,t,m,g,e,Z,[],[],[]⟩:=λZ vQ l d c hl hd hc hs=>⟨gk,gi,gf,gt,gm,gg,ge,vQ,hl,hd,hc,hs⟩;have fo:fO 14 (λf:cW=>f.b.length<=12) f:=⟨gf.1,λz h=>(gf.2 z h).2.2.len⟩;clear gk gi gf gt gm gg ge;refine⟨cl8,λa ah7=>⟨2,a,(by decide),λb a1 hb=>?_⟩⟩
 conv=>whnf
 refine gZ (λX=>⟨(),a1,cH2,λZ a2 vQ=>?_⟩) λX=>?_
 ·have T:=ah5 (k:=ct) S (ok (N Z) λX e=>by cases e;exact vQ) fo a2 ah7 r6
  conv at T=>whnf
  conv=>whnf
  exact T
 ·have T:=ah5 (k:=ct) S (ok ao nofun) fo a1 ah7 r6
  conv at T=>whnf
  conv=>whnf
  exact T
theorem ah8{m:b6}{p:H}(hm:m.ok){k:V->J O->Prop}(h:k (.d (.bytes (c8 (AQ p m)))) []):Wi [.d m.D,.d (.int p)] [] k:=
 (ag2 (p:=p) hm).rec λe hn hb=>(λX I=>I m p _ hm (by rw[e];exact bN (iW (cO ..)) (bN hn (by decide))) e hb h)
theorem ah9{m:b6}(hm:m.ok){k:V->J O->Prop}(h:k (.d (.bytes (c8 (AQ 0 m)))) []):VY [.d m.D] [] k:=
 ⟨m,⟨hm,by rw[ag8 hm];exact(ag2 (p:=0) hm).rec λe hn hb=>bN hn (by decide)⟩,by rw[ag8 hm];exact h⟩
def ai0:Tr:=λa_ o_ k_=>∀P_:Tr,(∀(p:H)(m:b6){k},m.ok->k (.d m.D) []->P_ [.d (.bytes (c8 (AQ p m)))] [] k)->P_ a_ o_ k_
theorem cl9:aQ (aU x) (n+19) Ek ai0:=⟨(ag9 (n:=n) (p:=0)).keep,λargs o k g=>g _ λp m X hm S=>(ag9 (p:=p)).sc _ _ _ (λX I=>I m hm (ag3 hm) S)⟩
noncomputable def cm0:J (H×Tr):=[(Al,CF),(Ml,ah6),(Mx,mR b6.D (IV ak)),(RA,mR b6.D (IV ah)),(Mv,Wi),(LR,VY),(Ek,ai0)]
theorem cm1(i:aa):∃p:H,1+x7 i 2=p:=⟨(1+x7 i 2).toNat,by
 rw[cB9 _ (by decide)]
 exact(zO (Qz (by decide) (QE i (by decide)))).symm⟩
def cm2:Tr:=λa_ o_ k_=>∀P_:Tr,(∀(l:J aa){k},k (.d (.bool ah)) []->P_ [.d (.list (l.map .int))] [] k)->P_ a_ o_ k_
theorem cm3:aQ (aU x) (n+20) Zs cm2:=fc x (q:=bC7) (l:=cm0) (by kernel_rfl) ⟨IY,cl4,bD9,bE8,cd1,bX9,cl9,cH2⟩ λX I u2 g=>g _ λl k S=>by
 refine⟨l,λi l1=>⟨by decide,?_⟩⟩
 obtain⟨p,hp⟩:=cm1 i
 conv=>whnf
 rw[hp];refine⟨(),l1,cH2,λm l2 hm=>?_⟩;have pf:=AC ak m;have pp:=AC ah m;refine⟨m,cH2,m,cH2,ah8 hm ?_⟩
 conv=>whnf
 refine ah9 hm ⟨⟨rfl,cH2⟩,⟨m,cH2,⟨⟨rfl,pf⟩,(λX I=>I 0 m hm ⟨m,cH2,⟨rfl,pf⟩,m,cH2,⟨rfl,pp⟩,ah8 (p:=p) hm ?_⟩)⟩⟩⟩;refine(λX I=>I p m hm ⟨m,cH2,⟨rfl,pf⟩,m,cH2,⟨rfl,pp⟩,ah9 hm ⟨⟨rfl,cH2⟩,S⟩⟩)
end
section
open Wh (cu)
variable{w:bU}{bJ s:aE}
theorem cm4{F:bP}(xs:J (aa×H)):eU F ((xs.map (·.1)).map .int) (xs.map λx=>Xp x.1 x.2):=by
 induction xs with
 |nil=>exact .nil
 |cons x xs ih=>exact .cons .int ih
theorem cm5:Wh.ZC:=by
 intro w bJ s aF x JZ hg a xs n hU ho hln;have ok:Ok 20 PU:=⟨rfl,by decide+kernel,by decide+kernel⟩
 have m:l_ (aU x) [] aF aF.heap.get? (([]:bQ).zip []):=⟨λX I e=>e,λb y e=>JZ b y e,λp hp=>(nomatch hp),λb hb=>(nomatch hb),.nil⟩;have y:VR (aU x).w [] aF.heap.get? (.d (.list ((xs.map (·.1)).map .int))) (.ref a):=.d (.list ho (by rw[ak5];exact cm4 xs) (by rw[cO,cO];lia))
 refine gG ((cm3 (n:=0) (x:=x)).sc [.d (.list ((xs.map (·.1)).map .int))] [] (λv o=>v=.d (.bool ah)/\o=[]) (λX I=>I (xs.map (·.1)) ⟨rfl,rfl⟩) PU aF aF.heap.get? _ [] [.ref a] ok rfl m (.cons y .nil)) (λu s' p=>?_) λX I z=>z;obtain⟨v,o',r',F',⟨rfl,rfl⟩,yv,_,m',t⟩:=p;obtain⟨h',tk,rfl⟩:=t.same;refine⟨?_,.of_keep λb o e=>t.kept b o (λh=>nomatch h) e,rfl,?_⟩
 ·exact yv.HR.e rfl
 ·show Xo aF.gens
  rw[hg];exact .empty
end
end Wm
namespace Wh
theorem cm6(l:OpenLaw)(h1:l.row.wellSaid=ah)(h2:(decide (l.foot<=(Dc l.prog).length)&&l.footing.all footLine)=ah)(h3:noClassBlock l.prog l.footing=ah)
  (h4:(l.most.all (λn=>decide (63<=n))&&l.bound.all (λn=>decide (2^63<=n)))=ah)(h5:Ye {strict:=true,foot:=N l.bound',writes:=l.writes,may:=l.may} l.footing=ah)
  (h6:defStands l.about l.above=ah)(h7:l.namesIt=ah)(h8:(["type","isinstance","issubclass","getattr","hasattr"]:J ai).all (λn=>l.about !=[n])=ah)
  (h9:l.bound'.all (λn=>!Yg n||l.about==[n]||!l.reads n)=ah)(ha:(!l.writes||(l.prog.main.body.flatMap Yh).all λn=>!l.reads n)=ah)
  (hb:(l.prog.main.body.flatMap Yh).all (λn=>!l.reads n||(drawsOf n l.prog.main.body).all λmn=>mn.2 !=("attrgetter":ai)&&mn.2 !=("methodcaller":ai))=ah)
  (hc:DE l.prog l.footing (λsc n=>(!(["type","isinstance","issubclass","getattr","hasattr"]:J ai).contains n||sc.names.lookup n==N .globalImplicit)&&
   (l.may !=N n||sc.kind== .module||sc.names.lookup n==N .globalImplicit))=ah)
  (hd:l.own.contains l.name=ah)(he:(l.own.eraseDups.length==l.own.length)=ah)(hf:l.own.all (λn=>!Yg n)=ah)
  (hg:DE l.prog l.above (λX n=>!l.own.contains n)=ah)(hi:DE l.prog l.footing (λsc n=>sc.kind== .module||sc.names.lookup n !=N .globalExplicit)=ah):l.wellSaid=ah:=by
 unfold OpenLaw.wellSaid;rw[PI]at h2 h4
 simp only[Ky];exact⟨⟨⟨⟨⟨⟨⟨⟨⟨⟨⟨⟨⟨⟨⟨⟨⟨⟨h1,h2.1⟩,h2.2⟩,h3⟩,h4.1⟩,h4.2⟩,h5⟩,h6⟩,h7⟩,h8⟩,h9⟩,ha⟩,hb⟩,hc⟩,hd⟩,he⟩,hf⟩,hg⟩,hi⟩
noncomputable abbrev fP:=zH
theorem cm7(p:iU)(h1:sreFenced p.main=ah)(h2:((Yi p.main.body).isEmpty||lookedIntoSs (Yi p.main.body) p.main.body)=ah)(h3:namesResolve p=ah)
  (h4:p.boundNames.all (λn=>!worldNames.contains n)=ah)
  (h5:Ye {strict:=!(W8 p.main.body).all aq7.contains,foot:=none,bare:=(["vars","dir","locals"]:J ai).filter (aq8 p p.main.body)} p.main.body=ah)
  (h6:DE p p.main.body (λX n=>attrL n)=ah):looksOpen p=ah:=by
 unfold looksOpen;simp only[Ky];exact⟨⟨⟨⟨⟨h1,h2⟩,h3⟩,h4⟩,h5⟩,h6⟩
theorem q1:sreFenced fP.row.prog.main=ah:=by rw[cG7];kernel_rfl
theorem q2:((Yi fP.row.prog.main.body).isEmpty||lookedIntoSs (Yi fP.row.prog.main.body) fP.row.prog.main.body)=ah:=by kernel_rfl
theorem q3:namesResolve fP.row.prog=ah:=by rw[cG8];kernel_rfl
theorem q4:fP.row.prog.boundNames.all (λn=>!worldNames.contains n)=ah:=by kernel_rfl
theorem q5a:(!(W8 fP.row.prog.main.body).all aq7.contains)=ak:=by kernel_rfl
theorem q5b:(["vars","dir","locals"]:J ai).filter (aq8 fP.row.prog fP.row.prog.main.body)=[]:=by kernel_rfl
theorem q5:Ye {strict:=!(W8 fP.row.prog.main.body).all aq7.contains,foot:=none,bare:=(["vars","dir","locals"]:J ai).filter (aq8 fP.row.prog fP.row.prog.main.body)} fP.row.prog.main.body=ah:=by rw[q5a,q5b,cC8];kernel_rfl
theorem q6:DE fP.row.prog fP.row.prog.main.body (λX n=>attrL n)=ah:=by rw[Yj];kernel_rfl
theorem p1:fP.row.wellSaid=ah:=by unfold OpenRow.wellSaid OpenRow.partSaid;rw[cm7 fP.row.prog q1 q2 q3 q4 q5 q6];kernel_rfl
theorem p2:(decide (fP.foot<=(Dc fP.prog).length)&&fP.footing.all footLine)=ah:=by kernel_rfl
theorem p3:noClassBlock fP.prog fP.footing=ah:=by rw[cG9];kernel_rfl
theorem p4:(fP.most.all (λn=>decide (63<=n))&&fP.bound.all (λn=>decide (2^63<=n)))=ah:=by decide+kernel
theorem p6:defStands fP.about fP.above=ah:=by rw[cH0];kernel_rfl
theorem p7:fP.namesIt=ah:=by rw[cH1];kernel_rfl
theorem p8:(["type","isinstance","issubclass","getattr","hasattr"]:J ai).all (λn=>fP.about !=[n])=ah:=by kernel_rfl
theorem pa:(!fP.writes||(fP.prog.main.body.flatMap Yh).all λn=>!fP.reads n)=ah:=by kernel_rfl
theorem pb:(fP.prog.main.body.flatMap Yh).all (λn=>!fP.reads n||(drawsOf n fP.prog.main.body).all λmn=>mn.2 !=("attrgetter":ai)&&mn.2 !=("methodcaller":ai))=ah:=by kernel_rfl
theorem pd:fP.own.contains fP.name=ah:=by kernel_rfl
theorem pe:(fP.own.eraseDups.length==fP.own.length)=ah:=by kernel_rfl
theorem pf:fP.own.all (λn=>!Yg n)=ah:=by kernel_rfl
theorem p5:Ye {strict:=true,foot:=N fP.bound',writes:=false,may:=none} fP.footing=ah:=by rw[cC8];kernel_rfl
theorem pc:DE fP.prog fP.footing (λsc n=>(!(["type","isinstance","issubclass","getattr","hasattr"]:J ai).contains n||sc.names.lookup n==N .globalImplicit)&&
   (fP.may !=N n||sc.kind== .module||sc.names.lookup n==N .globalImplicit))=ah:=by rw[Yj];kernel_rfl
theorem pg:DE fP.prog fP.above (λX n=>!fP.own.contains n)=ah:=by rw[Yj];kernel_rfl
theorem pi:DE fP.prog fP.footing (λsc n=>sc.kind== .module||sc.names.lookup n !=N .globalExplicit)=ah:=by rw[Yj];kernel_rfl
theorem p9:fP.bound'.all (λn=>!Yg n||fP.about==[n]||!fP.reads n)=ah:=by kernel_rfl
theorem cE0:zH.Holds:=
 aE4 (cm6 _ p1 p2 p3 p4 p5 p6 p7 p8 p9 pa pb pc pd pe pf pg pi) p1 Wm.cm5
end Wh
end Internal
theorem PySem.Challenge.cw_nm0177_01_holds : PySem.Challenge.rw_nm0177_01.Holds :=
 Internal.Wh.cE0
