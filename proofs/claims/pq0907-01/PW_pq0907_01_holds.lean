import PyProof.Rows.All
import PySem.Syntax
import KE.KLam
import Wide.FinOn
import OpenK.AllK
import Wide.All
import Lean
import PySem.Challenge.RW_pq0907_01
set_option autoImplicit true
set_option genSizeOf false
set_option genInjectivity false
set_option maxRecDepth 1000000
set_option maxHeartbeats 0
set_option Elab.async false
set_option linter.all false
set_option compiler.extract_closed false
namespace Mine
def mcL (s : Lean.Syntax) : List String → List Lean.Syntax
  | [] => []
  | t :: r =>
    let l := mcL s r
    match t.toInt? with
    | some (.ofNat n) => if n < 9 then .node .none `null (.mk (l.take n)) :: l.drop n
      else .node .none ((if n < 20 then `Lean.Parser.Tactic else `Lean.Parser.Term) ++ l.head!.getId) (.mk ((l.drop 1).take (n % 20 % 9))) :: l.drop (n % 20 % 9 + 1)
    | some (.negSucc n) => l.head!.getArg n :: l.drop 1
    | none => (if t = "s" then s else if t = "+" then .atom .none t else Lean.mkIdent t.toName) :: l
def mcM (s : Lean.Syntax) (p : String) : Lean.MacroM Lean.Syntax := pure (mcL s (p.splitOn " ")).head!
end Mine
local macro_rules (kind := Lean.Parser.Tactic.show) | s => Mine.mcM s "11 refine . -2 s"
local macro_rules (kind := PySem.W.tacticK_go) | s => pure (.node .none `tacticKernel_rfl #[])
local macro_rules (kind := PySem.W.X.tacticZ_go) | s => Mine.mcM s "11 decide . 10 optConfig 1 10 configItem 11 posConfigItem + kernel"
local macro_rules (kind := PySem.W.X.tacticX_go) | s => Mine.mcM s "11 decide . 10 optConfig 0"
local macro_rules (kind := PySem.W.tacticK_lt_) | s => Mine.mcM s "11 subst . 1 -2 s"
local macro_rules (kind := PySem.W.tacticW_pre_) | s => Mine.mcM s "2 11 replace . 21 letDecl 25 letIdDecl 21 letId -2 s 0 0 . 22 app Eq.symm 1 -2 s 11 subst . 1 -2 s"
open Option renaming some->U,none->aa,isSome_iff_exists->qE,map_eq_some_iff->we,ne_none_iff_exists'->zF,isNone_iff_eq_none->zG,rec->AP,map_some->Rt,isSome->Sg
open Bool renaming true->ae,false->af,and_eq_true_iff->dx,false_ne_true->jl,not_eq_eq_eq_not->kI,or_eq_true_iff->kJ,and_eq_true->lL,not_not->wR,rec->Bv,eq_false_iff->Ge,not_eq_true'->Gj,noConfusion->GB,eq_iff_iff->GL,or_eq_false_iff->Qd,and_false->RT,or_false->Se
open PySem renaming Value->aj,Addr->ar,wpAny_bind->aw,Shared->ax,model->aN,wpAny->aQ,Expr->aT,wpAny_pure->aY,call->bv,Scope->bW,Around->b2,World->b3,eval->b5,rawInt->b8,Stmt->b_,Params->cj,wpAny_of_eq->dp,OsState->dO,mainGlobals->d2,execs->d3,sizeLine_eq->ez,Program->eP,Model->fa,holding->fo,wpAny_field->fB,standAt->fO,sizeLine->fY,argsOk->f3,builtinLookup_eq_fast->gm,typeLookup_type->gn,wpAny_specialOf->hh,builtinsNs->hj,wpAny_mono->hk,Operator->hp,intKind->hr,table->hs,markedEach->hE,DictEntry->hF,noteFrame->h4,entryFor->h5,Result->h6,wpAny_newObj_type->ip,ExceptHandler->iq,FuncData->iv,wpAny_rule->iU,NameKind->iV,Flow->ja,wpAny_holding->jn,notedBy->jo,CmpOp->jx,Slot->jG,isSubtype_type->jU,typeLookup->jZ,starEach->j2,cameBackBy->kR,pyIter->kZ,IsPart->k0,wpAny_call_entry->lK,codeAny_builtin->lM,wpAny_load->lP,byteArr->lW,rule->md,swappedStores->mJ,assignEach->mN,isInstance->mO,isSubtype->mR,setField->mU,codeAny->m1,isTrue->m5,typeOf->m6,wants->nf,plainId_quiet->nQ,closureFor->nU,codeAmong->nY,setFlight->nZ,callerA->n8,assign->oj,backTo->ol,foldedSetIterable->o0,entryFor_of_tree->o2,wpAny_setField->o4,handleBy->ph,binaryOp->pi,setItem->ps,pyNext->pF,cLine->pY,wpAny_setField_rec->qI,wpAny_askSetting->qK,checkBuiltinCall->qL,theTreesLotGoes->qN,behindInMarks->qQ,sysModules->qV,intKind_is->qX,wpAny_call->qZ,treeTable->q2,specialOf->q4,asIndex->rp,rawPart->rq,markedBehindIn_of_false->sV,codeAny_call_builtin->sZ,swapsWithSole->tj,compareOp->tC,getMethod->tE,bindArgs->tM,raiseNew->tN,spliced->t5,classAt->t6,exec->va,wpAny_callSpecial?_slot->wc,wpAny_setState_of->wv,letOwnedTupleGo->wB,wpAny_loadPart'->wD,newFunctionEnv->wG,assignInOrder->wH,wpAny_attempt->wI,attributeBase->wJ,foldedForSure->wL,passOn->wQ,typeIs_int->w4,Arguments->xa,TriplesOk->xb,truthy->xY,byPass->xZ,newExc->x0,slot_listiter_next->zU,wpAny_truthy_bool->zY,getMethod_builtin->z0,wpAny_isInstance->z5,leftWithCleanup->Ac,entryFor_alias->Ag,methodCallForm->Ai,comprehension->An,methodCallPos->Ap,checkTypeCall->Ar,call_meetsIn->Ay,wpAny_throw->AD,wpAny_mkInt->AE,wpAny_alloc->AG,handleWith->AQ,wpAny_Name->AR,loadGlobal->AS,methodCall->AT,cellsFrom->A_,callWith->Bx,compEnvC->By,tryStmt->B2,setAttr->B3,getItem->B4,delItem->B5,preSum->CA,point->Db,mroOf->Dd,wpAny_pyNext_list_item->FO,wpAny_letTemporaryGo->FY,entry_listiter_next->F3,builtinType_eq_fast->F6,args_listiter_next->Ga,wpAny_getItem_slot->Gc,wpAny_pyIter_slot->Gh,wpAny_pyIter_list->Gi,slot_list_getitem->Gl,slot_dict_getitem->Gm,codeAny_of_tree->GN,wpAny_seqItems->GY,wpAny_standAt->Ha,wpAny_mkBytes->Hb,unsupported->Hz,builtinType->HA,wpAny_letGo->HC,wpAny_nsGet->HF,TypeCalled->H0,refuseLoop->H1,storeName->IA,dropValue->IB,seqItems?->ID,seqIndex?->IE,ClassData->IG,GenState->Jl,cStatics->Jn,evalArgs->Jo,keeperOf->Jp,evalEach->Jq,without->KA,leftWithCleanup_false_of_bare->Pr,wpAny_getItem_list_slice->PI,wpAny_list_append_plain->PN,wpAny_storeName_local->PX,wpAny_loadName_local->P8,wpAny_pyIter_revIter->Qb,wpAny_newFunctionEnv->Qc,wpAny_setEntries_of->Qn,wpAt_of_wpAny->Qp,wpAny_functionCodeX->Qq,wpAny_setEpoch_of->QI,wpAny_sequenceKey->QN,wpAny_builtinsFor->QP,wpAny_comp_letGo->QW,wpAny_enterFrame->QX,slot_list_append->QZ,wpAny_lookBehind->Q0,sliceRange->Q1,importedModules->Re,wpAny_ite_split->Rh,arm_assign_Name->Ri,wpAny_updateSeq->Rm,wpAny_operating->Rr,wpAt_bind->Ru,recursionLimit->RN,letTemporaryGo->RO,firstArgMember->RR,wpAny_bindName->RS,wpAny_loadPart->RW,constantsAlone->RX,signature?_of->Sh,call_int_bool->Sm,arm_exec_Try->SR,wpAny_mkText->SU,firstIterPos->SW,wpAny_update->SX,wpAny_typeOf->SY,byteArr_size->SZ,interactive->Tu,unpackItems->Tz,sliceBounds->TB,excClassObj->TF
open Nat renaming beq->aK,blt->bw,le_trans->c7,succ->da,not_lt->d_,div->ef,ne_of_lt->ey,mod->eJ,lt_of_lt_of_le->e2,le_of_lt->fk,blt_eq->fD,rec->fM,add->fN,le_add_right->gB,zero_le->gD,le_of_eq->hi,lt_irrefl->h3,eq_of_beq_eq_true->iN,lt_succ_self->jm,lt_of_le_of_lt->jQ,add_comm->jV,ne_of_gt->jX,le_refl->jY,sub->j5,add_sub_cancel_left->kG,zero_add->kN,mod_lt->kQ,add_sub_cancel'->lH,lt_succ_of_lt->nN,pow_zero->nR,div_one->nS,mod_eq_of_lt->o1,lt_trans->o6,add_zero->o7,mul->pp,ble->pq,sub_le->qY,lt_of_succ_lt_succ->sW,sub_eq_zero_of_le->sX,add_le_add_left->s1,min_eq_left->td,le_add_left->te,le_antisymm->tf,add_assoc->ti,sub_self->tm,pow_one->ts,le_succ->tv,add_le_add_right->wi,add_lt_add_right->wj,add_right_comm->wr,succ_pos->wO,pow_add->wW,exists_eq_add_of_le->zK,le_of_succ_le_succ->zM,le_of_lt_succ->zX,succ_lt_succ->z4,succ_le_succ->z6,div_add_mod->z9,not_lt_zero->z_,sub_zero->Av,mul_comm->Aw,mul_add->AB,le_zero->AC,sub_lt_left_of_lt_add->FD,lt_add_of_pos_right->FH,mul_div_cancel_left->FI,div_div_eq_div_mul->FL,dvd_of_mod_eq_zero->FN,div_lt_iff_lt_mul->FQ,lt_of_le_of_ne->F7,pos_of_ne_zero->F8,add_sub_cancel->F9,lt_of_succ_lt->Gf,le_of_not_lt->Gs,lt_of_not_le->Gu,min_le_right->Gx,min_le_left->GO,mul_assoc->G_,pow_succ->Hk,min_self->Hl,mul_one->Hy,mod_two_eq_zero_or_one->Pt,mod_mul_right_div_self->Pu,le_of_add_le_add_left->Pz,succ_add_eq_add_succ->PF,sub_eq_zero_iff_le->PT,mod_mul_right_mod->PV,le_of_ble_eq_true->P3,sub_le_of_le_add->P6,add_le_of_le_sub->P_,not_succ_le_zero->Qh,sub_add_cancel->QC,lt_succ_of_le->QF,le_of_succ_le->QK,le_succ_of_le->QO,min_eq_right->QU,div_eq_of_lt->QV,le_of_not_le->Q2,succ_ne_self->Q4,strongRecOn->Rf,le_max_left->Ro,le_total->SM,mul_succ->SN,beq_refl->SP,zero_div->SS,sub_sub->Tt,two_pos->Tv,mul_two->Tw,one_pos->Tx,pow->Zv
open Or renaming elim->a8
open PySem.Str renaming ofString->bq
open List renaming mem_cons->bX,mem_cons_of_mem->cA,mem_cons_self->cF,mem_map->dy,length_map->dC,nodup_cons->dN,prefix_append->eS,range->eT,getElem?_eq_some_iff->e8,prefix_refl->fj,length_append->fW,map_cons->gC,mem_map_of_mem->hc,lookup_cons->hg,map_append->hD,mem_of_getElem?->h1,getElem?_map->iQ,map_map->iT,getElem?_eq_getElem->jP,append_assoc->jR,all_eq_true->jS,map->j1,replicate->kL,getElem?_drop->lI,mem_singleton->lJ,filter_cons->mG,mem_append->mI,append_nil->nO,mem_range->nP,getElem?_append_right->oY,getElem?_append_left->oZ,length_cons->o3,length_eq_zero_iff->qF,nodup_append->qJ,getD_eq_getElem?_getD->sT,mem_append_left->sY,forall_mem_cons->s0,filterMap_cons->s2,filter_eq_self->s6,mem_filterMap->s7,map_inj_left->s9,reverse_cons->s_,size_toArray->ta,length_range->tb,length_take->tc,mem_append_right->wf,perm_append_comm->wg,map_eq_cons_iff->wm,toList_toArray->wo,any_eq_true->wy,isEmpty_iff->wz,mem_filter->wC,drop_drop->wF,lookup->wX,take->xd,extract_eq_take_drop->zH,getElem?_cons_succ->zJ,length_eq_one_iff->zL,getElem?_toArray->zN,getElem?_range->zS,filterMap_nil->zW,cons_append->z7,nil_append->Aa,nodup_nil->Af,drop_zero->Ah,any_cons->Ao,length->AI,findIdx?_eq_some_iff_getElem->Fz,getElem?_eq_none_iff->FE,take_of_length_le->FP,length_filter_le->FS,contains_iff_mem->FV,pairwise_flatMap->FW,map_eq_nil_iff->F4,getElem_mem->Gv,length_drop->Gw,not_mem_nil->Gy,mem_flatMap->Gz,perm_middle->GA,forIn_cons->GJ,length_nil->GP,filter->HB,eraseIdx_eq_take_drop_succ->Pp,findIdx?_eq_none_iff->PB,mem_of_mem_eraseIdx->PE,mem_singleton_self->PM,length_replicate->PW,mem_iff_getElem?->PY,getElem?_eq_none->P1,mem_of_mem_drop->P7,length_eraseIdx->P9,replicate_succ->Qm,filter_sublist->Qr,contains_cons->Qw,zip_cons_cons->Qy,filterMap_map->Qz,filter_append->QB,pairwise_cons->QD,take_add_one->QM,mem_toArray->Q5,noConfusion->Q6,foldl_cons->Rg,range_zero->Rn,all_cons->Si,sum_cons->Sl,map_take->Sn,map_nil->S1,Nodup->Uj,drop->Vo
open Option.some renaming inj->bY
open Ne renaming symm->cX
open PySem.Heap renaming get?_push_of_some->c2,lt_size->ee,get?_push_size->er,SameBut->fA,get?_update_other->kH,size_push->kM,get?_update_self->lG,ExtBut->AH,get?->IF
open PySem.W renaming Frag->dQ,Looks->eY,SharedT->fm,nsIn->gX,findIn->iw,instObj->j6,tabObj->kc,CodeHd->ke,boot_heap->pc,typeIs_bytes->tp,typeIn->ui,GoodWG->uj,clsIn->uI,WData->uJ,looks_nsIn->w3,handedIn->xo,takerIn->xL,Ground->x1,typeIs_bytes->zR,looks_findIn->Az,emptyDict->Ba,kla_obj->B1,keepIn->Cz,behindTheImports->Gr,boot_drawn->HZ,isNs_of_in->H2,ns_none_of->H3,boot_toks->Iy,opensWell->Iz,chainsOk->Jm,RecFacts->Js,keeps_K->Kz,kia_one->KB,w_lit->So,putL->SV,layAllW_rest->S4,namesKept_of->S5,looks_clsIn->TG
open Array renaming length_toList->eo,getElem?_toList->iO,replicate->jT,ext'->qW,getElem?_eq_some_iff->sU,size_extract->s8,size_replicate->wk,size_append->wu,toList_push->ww,toArray_toList->zP,toList_extract->zQ,getElem?_extract->FM,getElem?_append->FR,mem_toList_iff->F0,empty_append->F_,getElem_mem->Gg,getElem?_setIfInBounds_self->Po,getElem?_eq_getElem->Py,getElem?_replicate->PC,size_setIfInBounds->PH,getElem?_eq_none->PQ,getElem_toList->Qf,append_empty->Qu,toList_inj->QY
open PySem.Value renaming ref->eU,type->nV,int->n0,none->tw,bytes->wY
open PySem.W.Fast renaming te14364793385576792824->gk,te10110043849684766642->gA,te5923862056798008813->Pn,te15667345088766844465->ahC,te11892475500146522536->ahD,te4187177175401517315->ahE
open Int renaming toNat_natCast->gN,natCast_nonneg->iP,le_trans->jW,ofNat->kT,negSucc->lO,le_of_lt->o5,negSucc_lt_zero->qH,ofNat_lt->tn,toNat->tD,not_lt->w2,sub->xK,ofNat_le->Au,toNat_le->Hn,fdiv_eq_ediv_of_nonneg->Pv,add_le_add_right->Qg,max_eq_right->QT,natCast_add->Rl,subNatNat->Sd,ofNat_sub->Sj,one_mul->TA,add->Zu
open PySem.NameKind renaming free->h2,cell->Aq
open PySem.SetTable renaming below->iR,grown->Aj
open ForInStep renaming yield->kK
open UInt8 renaming ofNat->kP,toNat_ofNat'->zT,ofNat_toNat->Gk,toNat_inj->GK
open PySem.Around renaming under_plainId->mF,mark_none->wx
open And renaming intro->mQ
open PySem.Builtin.Bytes renaming fitsIndex->nM,write->wq,subscript?->zI,decodersThatHold->FA,checkResize->FF,payload->FT,bindOptional->Px,ownRelease->PG,byteValue->PK,slotIsOwn->PL,exported->PS,sameRef->PZ,sliced->Qe,takeBufferQuiet?->ahF,containsIn->ahQ,sliceParts->ahU,exportsOf->ahY,buffer?->ah1
open Iff renaming rfl->n7
open PySem.Obj renaming mapSeq->o9,isFreed_of_fields->qG,data_mapFields->wt,mapFields->wK,cls_mapFields->QH
open PySem.Flow renaming next->q3,ret->Xc
open PySem.Heap.SameBut renaming update->s5
open PySem.W.KBy renaming special_eq->th,picked->QA,tooLong_not->Rp
open PySem.W.Looks renaming of_pure->tl,ld->tO
open PySem.Code renaming builtin->tq,quiet_builtin->zV
open PySem.Sem renaming wp_mono->tu,wp_bind'->wP,wp_holding->RL
open PyProof.Rows renaming News->u_,subscriptTail->As,IsTup->Dc,exec_Assign->FG,slot_tupleiter_next->F5,IsTupIter->IC,entry_tupleiter_next->Qa,args_tupleiter_next->Qo,assignInOrder_cons->Qx,call_abs_int->S3,lshift_int_small->ahG,getItem_tuple->ahL,floordiv_int->ahO,rshift_int->ahW,mod_int'->ah0,sub_int->ah3,xor_int->ah4,and_int->ah5,add_str->ah6,or_int->ah9,eq_str->ah_,ne_str->aia
open PySem.Challenge renaming rw_pq0907_01->wb,pw_pq0907_01->Ps
open PySem.Builtin.Range renaming rangeSize->wd,small->F1,rangeFitsLong->ahK
open Pure renaming pure->xc
open PySem.W.FB renaming slot_bytes_getitem->zO,args_bytes_contains_2->PD,entry_bytes_contains->PJ,args_bytes_getitem_2->PO,slot_bytes_contains->PR,entry_bytes_getitem->PU
open PySem.SetTable.below renaming go->zZ
open PySem.F renaming slot_int_index->z8,bm_plain_loop->Ab,bm_bind->A9,bm_sub->Bz,excBase_ValueError->FC,typeOf_object_class->FU,slot_list_remove->Gb,slot_dict_get->GM,slot_gs_get->Hc,bm_called->HD,slot_tuple_iterator_iter->Pw,slot_dict_delitem->PA,entry_type_call->QL,entry_dict_get->Q3,slot_set_iter->Rk,bm_entry_loop->Rq,plain_set_new->Rs,bm_no_buffer->RU,cmp_object->S0,called_set->S2,bm_plain->Uh
open PySem.W.WShape renaming hasItems->Ad
open PySem.PyData renaming keyHash->Ae
open PySem.ExcName renaming means->At
open PySem.SeqAt.EqAt renaming of_refs->Ax,same->Vp
open PySem.Bind renaming madeBy->AF
open PyProof.Rows.News renaming push->A8
open PySem.Fin renaming done->Bw
open Prod renaming fst->BA,ext->Xd,snd->Xe
open PyProof.Rows.F renaming plain_set_update_loop->FJ,entry_set_update_loop->PP
open Classical renaming propDecidable->FK,not_not->QJ
open PySem.Calls renaming Name_function_global->FZ,call_len_list->Sk
open PySem.comprehension renaming letGo->F2
open List.Sublist renaming refl->Gn
open PySem.W.WData renaming layableAll->GC
open PySem.Heap.Ns renaming of_isNs->GQ
open List.Perm renaming refl->GZ,append_left->P0,swap->RV
open PySem.Operator renaming rec->Hj
open PySem.pickOrder renaming go->Hm
open Nat.le renaming dest->Hx
open Prod.mk renaming inj->HE
open Eq renaming trans->Jr
open PySem.Builtin.Bytes.exported renaming match_1->Pq
open List.IsPrefix renaming trans->Qk
open PySem.Builtin.Int renaming intBits->Ql
open PySem.SeqAt.RcAt renaming lists_lengths->Qv,lists->Uf
open PySem.Keeper renaming boundFrame->QG,machine->RM,frame->SQ
open PySem.W.KBw renaming IsBytesIter->Rj
open PySem.Manifest renaming isStub->Rv
open PySem.Builtin renaming bitAnd->RP,bitXor->RQ
open Int.ofNat renaming inj->Sf
open PySem.Stmt renaming casesOn->SO
open PyProof.Rows.IntsAre renaming all->TC
open PySem.Shared renaming heap->TH
open PySem.W.CodeHd renaming of->Vq
open PySem.Builtin.Frozenset renaming updateFrom->ahH,newClass->ahN,sizeOf->ahS
open PySem.SeqRoads2 renaming notIn_meets->ahI,in_meets->ahR
open Lean.Omega.Int renaming ofNat_max->ahT
open PySem.Data.plain renaming elim->ah2
open PySem.MeetsSeq.EqGives renaming int->ah7
open PySem.EntryCells renaming newEntry->aib
open PySem.Heap.IsList renaming typeIs->aid
open PySem.Heap.IsSliceOf renaming new->aie
open PySem.AutoIntOps renaming pow_4->aim
open PySem.Expr.Tuple renaming elim->aiv
open PySem.Value.none renaming elim->aiw
noncomputable section
section
namespace Mine
def x02{bK bh:Prop}{P:Prop}(h:bK/\bh)(k:bK->bh->P):P:=by
 rcases h with⟨h0,bb⟩
 show k h0 bb
def x11.{d5}{d6:Sort d5}{bK:d6->Prop}{P:Prop}(h:∃aR,bK aR)(k:∀aR,bK aR->P):P:=by
 rcases h with⟨aR,h0⟩
 show k aR h0
def x03{bK bh bz:Prop}{P:Prop}(h:bK/\bh/\bz)(k:bK->bh->bz->P):P:=by
 rcases h with⟨h0,bb,bM⟩
 show k h0 bb bM
def x12.{d5}{d6:Sort d5}{bK bh:d6->Prop}{P:Prop}(h:∃aR,bK aR/\bh aR)(k:∀aR,bK aR->bh aR->P):P:=by
 rcases h with⟨aR,h0,bb⟩
 show k aR h0 bb
def x21.{d5,e5}{d6:Sort d5}{e6:Sort e5}{bK:d6->e6->Prop}{P:Prop}(h:∃aR au,bK aR au)(k:∀aR au,bK aR au->P):P:=by
 rcases h with⟨aR,au,h0⟩
 show k aR au h0
def x04{bK bh bz c0:Prop}{P:Prop}(h:bK/\bh/\bz/\c0)(k:bK->bh->bz->c0->P):P:=by
 rcases h with⟨h0,bb,bM,cz⟩
 show k h0 bb bM cz
def x13.{d5}{d6:Sort d5}{bK bh bz:d6->Prop}{P:Prop}(h:∃aR,bK aR/\bh aR/\bz aR)(k:∀aR,bK aR->bh aR->bz aR->P):P:=by
 rcases h with⟨aR,h0,bb,bM⟩
 show k aR h0 bb bM
def x22.{d5,e5}{d6:Sort d5}{e6:Sort e5}{bK bh:d6->e6->Prop}{P:Prop}(h:∃aR au,bK aR au/\bh aR au)(k:∀aR au,bK aR au->bh aR au->P):P:=by
 rcases h with⟨aR,au,h0,bb⟩
 show k aR au h0 bb
def x31.{d5,e5,gw}{d6:Sort d5}{e6:Sort e5}{gx:Sort gw}{bK:d6->e6->gx->Prop}{P:Prop}(h:∃aR au ak,bK aR au ak)(k:∀aR au ak,bK aR au ak->P):P:=by
 rcases h with⟨aR,au,ak,h0⟩
 show k aR au ak h0
def x05{bK bh bz c0 gy:Prop}{P:Prop}(h:bK/\bh/\bz/\c0/\gy)(k:bK->bh->bz->c0->gy->P):P:=by
 rcases h with⟨h0,bb,bM,cz,f_⟩
 show k h0 bb bM cz f_
def x14.{d5}{d6:Sort d5}{bK bh bz c0:d6->Prop}{P:Prop}(h:∃aR,bK aR/\bh aR/\bz aR/\c0 aR)(k:∀aR,bK aR->bh aR->bz aR->c0 aR->P):P:=by
 rcases h with⟨aR,h0,bb,bM,cz⟩
 show k aR h0 bb bM cz
def x23.{d5,e5}{d6:Sort d5}{e6:Sort e5}{bK bh bz:d6->e6->Prop}{P:Prop}(h:∃aR au,bK aR au/\bh aR au/\bz aR au)(k:∀aR au,bK aR au->bh aR au->bz aR au->P):P:=by
 rcases h with⟨aR,au,h0,bb,bM⟩
 show k aR au h0 bb bM
def x32.{d5,e5,gw}{d6:Sort d5}{e6:Sort e5}{gx:Sort gw}{bK bh:d6->e6->gx->Prop}{P:Prop}(h:∃aR au ak,bK aR au ak/\bh aR au ak)(k:∀aR au ak,bK aR au ak->bh aR au ak->P):P:=by
 rcases h with⟨aR,au,ak,h0,bb⟩
 show k aR au ak h0 bb
def x41.{d5,e5,gw,lm}{d6:Sort d5}{e6:Sort e5}{gx:Sort gw}{lp:Sort lm}{bK:d6->e6->gx->lp->Prop}{P:Prop}(h:∃aR au ak cR,bK aR au ak cR)(k:∀aR au ak cR,bK aR au ak cR->P):P:=by
 rcases h with⟨aR,au,ak,cR,h0⟩
 show k aR au ak cR h0
def x06{bK bh bz c0 gy jd:Prop}{P:Prop}(h:bK/\bh/\bz/\c0/\gy/\jd)(k:bK->bh->bz->c0->gy->jd->P):P:=by
 rcases h with⟨h0,bb,bM,cz,f_,kx⟩
 show k h0 bb bM cz f_ kx
def x33.{d5,e5,gw}{d6:Sort d5}{e6:Sort e5}{gx:Sort gw}{bK bh bz:d6->e6->gx->Prop}{P:Prop}(h:∃aR au ak,bK aR au ak/\bh aR au ak/\bz aR au ak)(k:∀aR au ak,bK aR au ak->bh aR au ak->bz aR au ak->P):P:=by
 rcases h with⟨aR,au,ak,h0,bb,bM⟩
 show k aR au ak h0 bb bM
def x42.{d5,e5,gw,lm}{d6:Sort d5}{e6:Sort e5}{gx:Sort gw}{lp:Sort lm}{bK bh:d6->e6->gx->lp->Prop}{P:Prop}(h:∃aR au ak cR,bK aR au ak cR/\bh aR au ak cR)(k:∀aR au ak cR,bK aR au ak cR->bh aR au ak cR->P):P:=by
 rcases h with⟨aR,au,ak,cR,h0,bb⟩
 show k aR au ak cR h0 bb
def x07{bK bh bz c0 gy jd mi:Prop}{P:Prop}(h:bK/\bh/\bz/\c0/\gy/\jd/\mi)(k:bK->bh->bz->c0->gy->jd->mi->P):P:=by
 rcases h with⟨h0,bb,bM,cz,f_,kx,vH⟩
 show k h0 bb bM cz f_ kx vH
def x34.{d5,e5,gw}{d6:Sort d5}{e6:Sort e5}{gx:Sort gw}{bK bh bz c0:d6->e6->gx->Prop}{P:Prop}(h:∃aR au ak,bK aR au ak/\bh aR au ak/\bz aR au ak/\c0 aR au ak)(k:∀aR au ak,bK aR au ak->bh aR au ak->bz aR au ak->c0 aR au ak->P):P:=by
 rcases h with⟨aR,au,ak,h0,bb,bM,cz⟩
 show k aR au ak h0 bb bM cz
def x43.{d5,e5,gw,lm}{d6:Sort d5}{e6:Sort e5}{gx:Sort gw}{lp:Sort lm}{bK bh bz:d6->e6->gx->lp->Prop}{P:Prop}(h:∃aR au ak cR,bK aR au ak cR/\bh aR au ak cR/\bz aR au ak cR)(k:∀aR au ak cR,bK aR au ak cR->bh aR au ak cR->bz aR au ak cR->P):P:=by
 rcases h with⟨aR,au,ak,cR,h0,bb,bM⟩
 show k aR au ak cR h0 bb bM
def x61.{d5,e5,gw,lm,E6,agv}{d6:Sort d5}{e6:Sort e5}{gx:Sort gw}{lp:Sort lm}{E7:Sort E6}{agw:Sort agv}{bK:d6->e6->gx->lp->E7->agw->Prop}{P:Prop}(h:∃aR au ak cR hS vI,bK aR au ak cR hS vI)(k:∀aR au ak cR hS vI,bK aR au ak cR hS vI->P):P:=by
 rcases h with⟨aR,au,ak,cR,hS,vI,h0⟩
 show k aR au ak cR hS vI h0
def x35.{d5,e5,gw}{d6:Sort d5}{e6:Sort e5}{gx:Sort gw}{bK bh bz c0 gy:d6->e6->gx->Prop}{P:Prop}(h:∃aR au ak,bK aR au ak/\bh aR au ak/\bz aR au ak/\c0 aR au ak/\gy aR au ak)(k:∀aR au ak,bK aR au ak->bh aR au ak->bz aR au ak->c0 aR au ak->gy aR au ak->P):P:=by
 rcases h with⟨aR,au,ak,h0,bb,bM,cz,f_⟩
 show k aR au ak h0 bb bM cz f_
def x44.{d5,e5,gw,lm}{d6:Sort d5}{e6:Sort e5}{gx:Sort gw}{lp:Sort lm}{bK bh bz c0:d6->e6->gx->lp->Prop}{P:Prop}(h:∃aR au ak cR,bK aR au ak cR/\bh aR au ak cR/\bz aR au ak cR/\c0 aR au ak cR)(k:∀aR au ak cR,bK aR au ak cR->bh aR au ak cR->bz aR au ak cR->c0 aR au ak cR->P):P:=by
 rcases h with⟨aR,au,ak,cR,h0,bb,bM,cz⟩
 show k aR au ak cR h0 bb bM cz
def x54.{d5,e5,gw,lm,E6}{d6:Sort d5}{e6:Sort e5}{gx:Sort gw}{lp:Sort lm}{E7:Sort E6}{bK bh bz c0:d6->e6->gx->lp->E7->Prop}{P:Prop}(h:∃aR au ak cR hS,bK aR au ak cR hS/\bh aR au ak cR hS/\bz aR au ak cR hS/\c0 aR au ak cR hS)(k:∀aR au ak cR hS,bK aR au ak cR hS->bh aR au ak cR hS->bz aR au ak cR hS->c0 aR au ak cR hS->P):P:=by
 rcases h with⟨aR,au,ak,cR,hS,h0,bb,bM,cz⟩
 show k aR au ak cR hS h0 bb bM cz
@[elab_as_elim]def rwr.{u}{α:Sort u}{a:α}{motive:α->Prop}{b:α}(h:b=a)(k:motive a):motive b:=h▸k
@[elab_as_elim]def rwb.{u}{α:Sort u}{a:α}{motive:α->Prop}{b:α}(h:a=b)(k:motive a):motive b:=h▸k
@[elab_as_elim]def iteE.{u}{c:Prop} [i:Decidable c]{α:Sort u}{a b:α}{motive:α->Prop}(bb:c->motive a)(bM:¬c->motive b):motive (ite c a b):=by
 by_cases h:c
 .show(if_pos h).symm▸bb h
 .show(if_neg h).symm▸bM h
def CB(k n:Nat):(max 0 (min (k:Int) (n:Int))).toNat=min k n:=by
 rcases SM k n with h |h
 .rw[Int.min_eq_left (Au.mpr h),QT (iP k),gN,td h]
 .rw[Int.min_eq_right (Au.mpr h),QT (iP n),gN,QU h]
def MS{k n:Nat}(h:k<n):lO k+(n:Int)=((n - 1 - k:Nat):Int):=by change Sd n (k+1)=_;rw[Int.subNatNat_of_le h,Tt,jV 1 k]
def abn{k n:Nat}(h:¬k<n):(max 0 (min (lO k+(n:Int)) (n:Int))).toNat=0:=by
 have e:lO k+(n:Int)<0\/lO k+(n:Int)=lO (k - n):= .inr (by change Sd n (k+1)=_;rw[Int.subNatNat_of_lt (QF (d_.mp h)),Nat.succ_sub (d_.mp h)];rfl)
 have q:min (lO k+(n:Int)) (n:Int)<=0:=jW (Int.min_le_left ..) (e.elim o5 λe=>e▸o5 (qH _));rw[Int.max_eq_left q];rfl
def ft(p q:Nat):p+q=2*(p/2+q/2)+(p % 2+q % 2):=by rw[AB,<-Nat.add_add_add_comm,z9,z9]
def MT{p q r s:Nat}(bb:p/2+q/2=r/2+s/2)(bM:p % 2+q % 2=r % 2+s % 2):p+q=r+s:=by rw[ft p q,ft r s,bb,bM]
def ac9{i j:Nat}(h:i % 2=0↔j % 2=0)(e:i/2=j/2):i=j:=by
 have m:i % 2=j % 2:=by
  rcases Pt i with a |a<;>rcases Pt j with b |b
  .rw[a,b]
  .show absurd ((h.mp a).symm.trans b) (by x_go)
  .show absurd ((h.mpr b).symm.trans a) (by x_go)
  .rw[a,b]
 rw[<-z9 i 2,<-z9 j 2,e,m]
def aeB{p a d i:Nat}(bb:d<=p)(bM:p<=a+d)(h:i<p - (d - (d - p))):i<a:=by rw[sX bb,Av]at h;show e2 h (P6 bM)
def NT{i j k:Nat}(h:j - i=k+1):i<j/\j - (i+1)=k:=⟨Nat.lt_of_sub_pos (h▸wO k),by rw[Nat.sub_succ,h];rfl⟩
def aeC{p q n:Nat}(iH:p<=n)(lq:q<=n):p+(q - p)<=n:=(SM p q).elim (λh=>(lH h).symm▸lq) λh=>(sX h).symm▸iH
def NU{i:Nat}(h0:i≠0)(bb:i≠1):2<=i:=F7 (F8 h0) (cX bb)
def NV{A B m n d c N:Nat}(h:A+m*(n+1)<N)(ik:B<=A+d)(cN:d+c<=m):B+c+m*n<N:=by show jQ (c7 (wi (wi ik c) (m*n)) ?_) h;rw[SN,ti A,ti A,jV (m*n)];show s1 (wi cN _) A
def NW{A B m n d N sr:Nat}(h:A+m*n<N)(ik:B<=A+d)(agx:N+d<=sr):B<sr:=jQ (c7 ik (wi (gB A _) d)) (e2 (wj h d) agx)
def MU{k m n:Nat}(h:k+m=n+1)(g6:k<n):n - k<m/\k+1+(n - k)=n+1:=⟨FD (fk g6) (h▸jm n),by rw[wr,lH (fk g6)]⟩
def L2{a b n m:Nat}(e:a=b)(h:b<=n)(k:n<=m):a<=m:=c7 (e▸h) k
def L8'{a k c:Nat}(h:a+k<c):a<c:=jQ (gB a k) h
def L10{i m:Nat}(h:i<m+2)(h0:¬i=m)(bb:¬i=m+1):i<m:=F7 (zX (F7 (zX h) bb)) h0
def L12{P:Prop}{i d a:Nat}(e:i=d)(h:i<a)(k:a<=d):P:=absurd (e▸h) (d_.mpr k)
def L12s{P:Prop}{i d a:Nat}(e:d=i)(h:i<a)(k:a<=d):P:=absurd (e▸h) (d_.mpr k)
def L14{P:Prop}{i a:Nat}(h:i<a)(k:a<=i):P:=absurd h (d_.mpr k)
def L15{q n N:Nat}(h:n<=q/\q+2<=N):q<N:=e2 (FH (by x_go)) h.2
def L17{i n l:Nat}(h:i<n)(e:l=n):i<l:=e▸h
def L17s{i n l:Nat}(h:i<n)(e:n=l):i<l:=e▸h
def L18{i n l:Nat}(e:n=l)(h:¬i<n):l<=i:=e▸d_.mp h
def ar11{i n j k:Nat}(g:n+k<=j)(h:i<n):i≠j:=ey (e2 h (c7 (gB ..) g))
def ar12{i n j k:Nat}(g:n+k<=j)(h:i<n):j≠i:=(ar11 g h).symm
def ar13{i n j:Nat}(g:n<=j)(h:i<n):i≠j:=ar11 (k:=0) g h
def ar14{i n j:Nat}(g:n<=j)(h:i<n):j≠i:=(ar13 g h).symm
def ar15{n k i:Nat}(g:n+(k+1)<=i):i≠n:=jX (e2 (FH (wO k)) g)
def ar16{n i:Nat}(g:n+2<=i):i≠n+1:=ar14 g (jm _)
def ar17{a b n m:Nat}(e:a=b)(h:b<n)(k:n<=m):a<m:=e▸e2 h k
def ar18{a b n m:Nat}(e:a=b)(h:b<n)(k:n<=m):a<=m:=fk (ar17 e h k)
def ar19{a b n m:Nat}(g:a<=b)(h:b<=n)(k:n<=m):a<=m:=c7 g (c7 h k)
def ar20{a b n m:Nat}(g:a<=b)(h:b<n)(k:n<=m):a<m:=jQ g (e2 h k)
def ar21{n k i:Nat}(g:n+k<=i):n<=i:=c7 (gB ..) g
def ar22{c n m:Nat}(g:m<=n)(h:c+1<=m):c≠n:=ey (c7 h g)
def ar23{P:Prop}{i j l n k:Nat}(e:i=j)(h:j<l)(q:l=n)(g:n+k<=i):P:=absurd e (ar12 g (q▸h))
def Vr(x:Int):max 0 x=((max 0 x).toNat:Int):=(Int.toNat_of_nonneg (Int.le_max_left 0 x)).symm
end Mine
end
section
namespace Mine.C
open PySem (Operator CmpOp)
structure dE where
 n:Nat
 x:Nat
inductive hT where
 |len |range |enumerate |reversed |min |int |bytes |bytearray |list |dict |set |sorted |sum |isinstance |str |abs |bad
inductive je where
 |f7 |append |remove |extend |get
set_option genCtorIdx false in
inductive V where
 |none |tt |aM
 |int (i:Int) |li (l:List Int)
 |aZ (b:dE) |ev (l:List dE) |any (n:Nat) |aW (n:Nat)
 |res (m r:Nat) |et
 |str (k:Nat) |h9 (n:Nat)
 |hA (k:Nat) |ref (i:Nat) |fn (k:Nat) |cls (k:Nat) |bi (k:hT)
 |lr (n:Nat)
noncomputable def V.ctorIdx(v:V):Nat:=v.casesOn 0 1 2 (λJ=>3) (λJ=>4) (λJ=>5) (λJ=>6) (λJ=>7) (λJ=>8) (λJ J=>9) 10 (λJ=>11) (λJ=>12) (λJ=>13) (λJ=>14) (λJ=>15) (λJ=>16) (λJ=>17) (λJ=>18)
inductive aL where
 |nil |cons (k:Nat) (v:V) (r:aL)
inductive aP where
 |nil |cons (k:Int) (v:V) (r:aP)
set_option genCtorIdx false in
inductive O where
 |nul
 |inst (c:Nat) (f:aL)
 |list (l:List V) |tup (l:List V)
 |dict (l:aP)
 |cb (d:Nat)
 |iA (d:Nat)
 |c3 (live:aP) (cL:Option Nat) (ch:Option Int) (lk:aP) (row cb:Nat)
 |ba (v:V)
 |cell (v:Option V)
 |lam (k:Nat) (cs:aL)
 |eZ (a b s:Int)
 |enum (j:Nat) |rev (j n:Nat)
 |set (l:List V)
 |tab
 |ig (k:Nat) (raw:Bool)
 |l0 (n:Nat)
noncomputable def O.ctorIdx(v:O):Nat:=v.casesOn 0 (λJ J=>1) (λJ=>2) (λJ=>3) (λJ=>4) (λJ=>5) (λJ=>6) (λJ J J J J J=>7) (λJ=>8) (λJ=>9) (λJ J=>10) (λJ J J=>11) (λJ=>12) (λJ J=>13) (λJ=>14) 15 (λJ J=>16) (λJ=>17)
inductive T where
 |lf |aB (o:O) (l r:T)
structure St where
 h:T
 nx:Nat
 fr:aL
 hf:Bool
set_option genCtorIdx false in
inductive R where
 |ok (v:V) (s:St)
 |args (l:List V) (s:St)
 |next (s:St) |brk (s:St) |ret (v:V) (s:St)
 |exc (c:Nat) (s:St)
 |stuck (w:Nat)
noncomputable def R.ctorIdx(v:R):Nat:=v.casesOn (λJ J=>0) (λJ J=>1) (λJ=>2) (λJ=>3) (λJ J=>4) (λJ J=>5) (λJ=>6)
set_option genCtorIdx false in
inductive X where
 |a6 (v:V) |loc (n:Nat) |bt (n:Nat) |bG (n:Nat) (v:V)
 |dh (l:X) |dJ (CC:Bool) (a r:X) |bin (o:hp) (a b:X) |not (a:X) |neg (a:X) |vb (t a b:X)
 |lst (l:X) |aeD (l:X) |r5
 |np (e qe it:X) (bk:List Nat) |rI (e qe it c:X) (bk:List Nat) |ac_ (n:Nat) (it c:X) (bk:List Nat)
 |cmp (a:X) (o:jx) (b:X) |ox (a:X) (o:jx) (b:X) (gK:jx) (c:X)
 |qf (f l:X) |NX (o:X) (m:Nat) (b:je) (l:X) |aX (o:X) (n:Nat) |sub (a i:X) |subs (a lo dd:X) |f7
 |lam (k:Nat) (b:X) |raw
 |nil |cons (a r:X)
 |aO (n:Nat) |kg (n:Nat) |bT (o:X) (n:Nat) |jy (a i:X) |uk (a lo dd:X) |ada (k:Nat) (l:X) |adb |abo (t r:X)
 |bx |fH (s r:X) |aS (e:X) |aH (t e:X) |aug (o:X) (n:Nat) (op:hp) (e:X) |del (o i:X)
 |bu (t a b:X) |vc (t b:X) |fP (tup:Bool) (t it b:X) |ret (e:X) |De |brk |cu (m:X)
 |yk (b h:X) |Df |hB (n c:Nat) (b r:X) |oy (b f:X) |aeE
noncomputable section
def aA{α:Type}(b:Bool)(y n:α):α:=Bv (motive:=λJ=>α) n y b
def a7{α:Type}(o:Option α)(w:Nat)(k:α->R):R:=AP (motive:=λJ=>R) (.stuck w) k o
def bs{α bA:Type}(o:Option α)(z:bA)(k:α->bA):bA:=AP (motive:=λJ=>bA) z k o
def ew{α bA:Type}(o:Option α)(k:α->Option bA):Option bA:=bs o aa k
def g7{α bA:Type}(o:Option α)(k:α->bA):Option bA:=bs o aa λa=>U (k a)
def ko{α:Type}(o q:Option α):Option α:=bs o q U
def cx{α:Type}(b:Bool)(o:Option α):Option α:=aA b o aa
def du{α:Type}(n:Nat)(k:Nat->α):α:=fM (motive:=λJ=>α) (k 0) (λm J=>k (da m)) n
def e7{α:Type}(i:Int)(p n:Nat->α):α:=Int.rec (motive:=λJ=>α) p n i
def lu{α:Type}(i:Int)(k:Int->α):α:=e7 i (λm=>du m λm=>k (.ofNat m)) λm=>du m λm=>k (.negSucc m)
def cH(a b:Int):Bool:=e7 a (λm=>e7 b (aK m) λJ=>af) λm=>e7 b (λJ=>af) (aK m)
def k_(a b:Int):Bool:=e7 a (λm=>e7 b (bw m) λJ=>af) λm=>e7 b (λJ=>ae) λn=>bw n m
def D8(a b:Int):Bool:=aA (k_ b a) af ae
def l7(a b:Int):Int:=e7 a (λm=>e7 b (λn=> .ofNat (fN m n)) λJ=>Zu a b) λJ=>Zu a b
def cr{α bA:Type}(z:bA)(c:α->List α->bA->bA)(l:List α):bA:=List.rec (motive:=λJ=>bA) z c l
def cU{α:Type}(l:List α):Nat:=cr 0 (λJ J n=>da n) l
def dj{α:Type}(l:List α):Nat->Option α:=cr (λJ=>aa) (λa J ih n=>fM (motive:=λJ=>Option α) (U a) (λm J=>ih m) n) l
def l8{α:Type}(l m:List α):List α:=cr m (λa J r=>a::r) l
def uK{α:Type}(l:List α):List α->List α:=cr (λacc=>acc) (λa J ih acc=>ih (a::acc)) l
def rz{α:Type}(l:List α):Nat->List α:=cr (λJ=> []) (λa J ih n=>fM (motive:=λJ=>List α) [] (λm J=>a::ih m) n) l
def pG{α:Type}(l:List α):Nat->List α:=cr (λJ=> []) (λa r ih n=>fM (motive:=λJ=>List α) (a::r) (λm J=>ih m) n) l
def CD{α:Type}(w:α)(l:List α):Nat->List α:=cr (λJ=> []) (λa r ih n=>fM (motive:=λJ=>List α) (w::r) (λm J=>a::ih m) n) l
def MV{α:Type}(k:Nat)(v:α):List α:=fM (motive:=λJ=>List α) [] (λJ l=>v::l) k
def kh{α:Type}(p:α->Bool)(l:List α):Bool:=cr ae (λa J ih=>aA (p a) ih af) l
def par(i:Nat):Bool:=aK (eJ i 2) 0
def vJ{α:Type}(z:α)(c:O->T->T->α)(t:T):α:=T.rec (motive:=λJ=>α) z (λo l r J J=>c o l r) t
def T.get(t:T):Nat->O:=T.rec (motive:=λJ=>Nat->O) (λJ=> .nul) (λo J J E8 ir i=>fM (motive:=λJ=>O) o (λj J=>aA (par j) (E8 (ef j 2)) (ir (ef j 2))) i) t
def T.fb{α:Type}(v:O)(f:Nat):Nat->T->(T->α)->α:=fM (motive:=λJ=>Nat->T->(T->α)->α) (λJ t k=>vJ (k (.aB v .lf .lf)) (λJ l r=>k (.aB v l r)) t)
 (λJ ih i t k=>fM (motive:=λJ=>α) (vJ (k (.aB v .lf .lf)) (λJ l r=>k (.aB v l r)) t)
  (λj J=>aA (par j) (vJ (ih (ef j 2) .lf λt=>k (.aB .nul t .lf)) (λo l r=>ih (ef j 2) l λt=>k (.aB o t r)) t)
   (vJ (ih (ef j 2) .lf λt=>k (.aB .nul .lf t)) (λo l r=>ih (ef j 2) r λt=>k (.aB o l t)) t)) i) f
def aL.get(f:aL)(n:Nat):Option V:=aL.rec (motive:=λJ=>Option V) aa (λk v J ih=>aA (aK k n) (U v) ih) f
def aL.pZ{α:Type}(n:Nat)(w:V)(f:aL):(aL->α)->α:=aL.rec (motive:=λJ=>(aL->α)->α) (λK=>K (.cons n w .nil)) (λk v r ih K=>aA (aK k n) (K (.cons k w r)) (ih λr=>K (.cons k v r))) f
def aP.get(f:aP)(n:Int):Option V:=aP.rec (motive:=λJ=>Option V) aa (λk v J ih=>aA (cH k n) (U v) ih) f
def aP.len(f:aP):Nat:=aP.rec (motive:=λJ=>Nat) 0 (λJ J J n=>da n) f
def aP.iZ{α:Type}(n:Int)(w:V)(f:aP):(aP->α)->α:=aP.rec (motive:=λJ=>(aP->α)->α) (λK=>K (.cons n w .nil)) (λk v r ih K=>aA (cH k n) (K (.cons k w r)) (ih λr=>K (.cons k v r))) f
def aP.k4{α:Type}(n:Int)(f:aP):(aP->α)->α:=aP.rec (motive:=λJ=>(aP->α)->α) (λK=>K .nil) (λk v J ih K=>aA (cH k n) (ih K) (ih λr=>K (.cons k v r))) f
def aL.app(a b:aL):aL:=aL.rec (motive:=λJ=>aL) b (λk v J r=> .cons k v r) a
def R.bind(r:R)(k:V->St->R):R:=R.rec (motive:=λJ=>R) k (λJ J=> .stuck 1) (λJ=> .stuck 1) (λJ=> .stuck 1) (λJ J=> .stuck 1) .exc .stuck r
def R.ea(r:R)(k:List V->St->R):R:=R.rec (motive:=λJ=>R) (λJ J=> .stuck 2) k (λJ=> .stuck 2) (λJ=> .stuck 2) (λJ J=> .stuck 2) .exc .stuck r
def R.seq(r:R)(k:St->R):R:=R.rec (motive:=λJ=>R) (λJ J=> .stuck 3) (λJ J=> .stuck 3) k .brk .ret .exc .stuck r
def St.alloc(L:St)(o:O)(k:V->St->R):R:=du L.nx λi=>T.fb o i i L.h λh=>k (.ref i) ⟨h,da i,L.fr,L.hf⟩
def St.put(L:St)(i:Nat)(o:O)(k:St->R):R:=T.fb o i i L.h λh=>k ⟨h,L.nx,L.fr,L.hf⟩
def St.f4(L:St)(n:Nat)(v:V)(k:St->R):R:=L.fr.pZ n v λfr=>k ⟨L.h,L.nx,fr,L.hf⟩
def St.eK(L:St)(fr:aL):St:=⟨L.h,L.nx,fr,L.hf⟩
def St.iB(L:St)(hf:Bool):St:=⟨L.h,L.nx,L.fr,hf⟩
def bV(b:Bool)(w:Nat)(r:R):R:=aA b r (.stuck w)
def dA(n:Nat)(r:R):R:=bV (bw n 5000) 5 r
def St.fZ(L:St)(l:List V):R:=dA (cU l) (L.alloc (.list l) .ok)
def St.B6(L:St)(l:List V)(k:V->St->R):R:=dA (cU l) (L.alloc (.tup l) k)
section
variable{α:Type}
def fS(z:α)(int:Int->α)(li:List Int->α)(aZ:dE->α)(ev:List dE->α)(any:Nat->α)(ref:Nat->α)(v:V):α:=V.rec (motive:=λJ=>α) z z z int li aZ ev any (λJ=>z) (λJ J=>z) z (λJ=>z) (λJ=>z) (λJ=>z) ref (λJ=>z) (λJ=>z) (λJ=>z) (λJ=>z) v
def b6(v:V)(k:Int->α)(z:α):α:=fS z k (λJ=>z) (λJ=>z) (λJ=>z) (λJ=>z) (λJ=>z) v
def eh(v:V)(k:Nat->α)(z:α):α:=b6 v (λi=>e7 i k λJ=>z) z
def ga(v:V)(k:dE->α)(z:α):α:=fS z (λJ=>z) (λJ=>z) k (λJ=>z) (λJ=>z) (λJ=>z) v
def bE(v:V)(k:Nat->α)(z:α):α:=fS z (λJ=>z) (λJ=>z) (λJ=>z) (λJ=>z) (λJ=>z) k v
def vK(v:V)(n t f:α)(lr:Nat->α)(z:α):α:=V.rec (motive:=λJ=>α) n t f (λJ=>z) (λJ=>z) (λJ=>z) (λJ=>z) (λJ=>z) (λJ=>z) (λJ J=>z) z (λJ=>z) (λJ=>z) (λJ=>z) (λJ=>z) (λJ=>z) (λJ=>z) (λJ=>z) lr v
def dS(v:V)(t f z:α):α:=vK v z t f (λJ=>z) z
def jr(v:V)(t z:α):α:=vK v t z z (λJ=>z) z
def mj(v:V)(aW:Nat->α)(res:Nat->Nat->α)(et:α)(str h9 fn cls:Nat->α)(bi:hT->α)(z:α):α:=V.rec (motive:=λJ=>α) z z z (λJ=>z) (λJ=>z) (λJ=>z) (λJ=>z) (λJ=>z) aW res et str h9 (λJ=>z) (λJ=>z) fn cls bi (λJ=>z) v
def ii(v:V)(k:Nat->α)(z:α):α:=mj v k (λJ J=>z) z (λJ=>z) (λJ=>z) (λJ=>z) (λJ=>z) (λJ=>z) z
def Dg(v:V)(k:Nat->Nat->α)(z:α):α:=mj v (λJ=>z) k z (λJ=>z) (λJ=>z) (λJ=>z) (λJ=>z) (λJ=>z) z
def rJ(v:V)(k z:α):α:=mj v (λJ=>z) (λJ J=>z) k (λJ=>z) (λJ=>z) (λJ=>z) (λJ=>z) (λJ=>z) z
def uL(v:V)(k:Nat->α)(z:α):α:=mj v (λJ=>z) (λJ J=>z) z k (λJ=>z) (λJ=>z) (λJ=>z) (λJ=>z) z
def CE(v:V)(k:Nat->α)(z:α):α:=mj v (λJ=>z) (λJ J=>z) z (λJ=>z) k (λJ=>z) (λJ=>z) (λJ=>z) z
def yT(v:V)(k:Nat->α)(z:α):α:=mj v (λJ=>z) (λJ J=>z) z (λJ=>z) (λJ=>z) k (λJ=>z) (λJ=>z) z
def rK(v:V)(k:Nat->α)(z:α):α:=mj v (λJ=>z) (λJ J=>z) z (λJ=>z) (λJ=>z) (λJ=>z) k (λJ=>z) z
def r6(v:V)(k:hT->α)(z:α):α:=mj v (λJ=>z) (λJ J=>z) z (λJ=>z) (λJ=>z) (λJ=>z) (λJ=>z) k z
def NY(v:V)(k:Nat->α)(z:α):α:=vK v z z z k z
def ml(z:α)(inst:Nat->aL->α)(list tup:List V->α)(dict:aP->α)(ba:V->α)(eZ:Int->Int->Int->α)(enum:Nat->α)(rev:Nat->Nat->α)(o:O):α:=O.rec (motive:=λJ=>α) z inst list tup dict (λJ=>z) (λJ=>z) (λJ J J J J J=>z) ba (λJ=>z) (λJ J=>z) eZ enum rev (λJ=>z) z (λJ J=>z) (λJ=>z) o
def gF(o:O)(k:Nat->aL->α)(z:α):α:=ml z k (λJ=>z) (λJ=>z) (λJ=>z) (λJ=>z) (λJ J J=>z) (λJ=>z) (λJ J=>z) o
def cJ(o:O)(k:List V->α)(z:α):α:=ml z (λJ J=>z) k (λJ=>z) (λJ=>z) (λJ=>z) (λJ J J=>z) (λJ=>z) (λJ J=>z) o
def i0(o:O)(k:List V->α)(z:α):α:=ml z (λJ J=>z) (λJ=>z) k (λJ=>z) (λJ=>z) (λJ J J=>z) (λJ=>z) (λJ J=>z) o
def e_(o:O)(k:aP->α)(z:α):α:=ml z (λJ J=>z) (λJ=>z) (λJ=>z) k (λJ=>z) (λJ J J=>z) (λJ=>z) (λJ J=>z) o
def fQ(o:O)(k:V->α)(z:α):α:=ml z (λJ J=>z) (λJ=>z) (λJ=>z) (λJ=>z) k (λJ J J=>z) (λJ=>z) (λJ J=>z) o
def p0(o:O)(k:Int->Int->Int->α)(z:α):α:=ml z (λJ J=>z) (λJ=>z) (λJ=>z) (λJ=>z) (λJ=>z) k (λJ=>z) (λJ J=>z) o
def LH(o:O)(k:Nat->α)(z:α):α:=ml z (λJ J=>z) (λJ=>z) (λJ=>z) (λJ=>z) (λJ=>z) (λJ J J=>z) k (λJ J=>z) o
def MW(o:O)(k:Nat->Nat->α)(z:α):α:=ml z (λJ J=>z) (λJ=>z) (λJ=>z) (λJ=>z) (λJ=>z) (λJ J J=>z) (λJ=>z) k o
def oR(z:α)(cb iA:Nat->α)(c3:aP->Option Nat->Option Int->aP->Nat->Nat->α)(cell:Option V->α)(lam:Nat->aL->α)(set:List V->α)(o:O):α:=O.rec (motive:=λJ=>α) z (λJ J=>z) (λJ=>z) (λJ=>z) (λJ=>z) cb iA c3 (λJ=>z) cell lam (λJ J J=>z) (λJ=>z) (λJ J=>z) set z (λJ J=>z) (λJ=>z) o
def oz(o:O)(k:Nat->α)(z:α):α:=oR z k (λJ=>z) (λJ J J J J J=>z) (λJ=>z) (λJ J=>z) (λJ=>z) o
def om(o:O)(k:Nat->α)(z:α):α:=oR z (λJ=>z) k (λJ J J J J J=>z) (λJ=>z) (λJ J=>z) (λJ=>z) o
def eW(o:O)(k:aP->Option Nat->Option Int->aP->Nat->Nat->α)(z:α):α:=oR z (λJ=>z) (λJ=>z) k (λJ=>z) (λJ J=>z) (λJ=>z) o
def m7(o:O)(k:Option V->α)(z:α):α:=oR z (λJ=>z) (λJ=>z) (λJ J J J J J=>z) k (λJ J=>z) (λJ=>z) o
def uM(o:O)(k:Nat->aL->α)(z:α):α:=oR z (λJ=>z) (λJ=>z) (λJ J J J J J=>z) (λJ=>z) k (λJ=>z) o
def zp(z:α)(ig:Nat->Bool->α)(ul:Nat->α)(o:O):α:=O.rec (motive:=λJ=>α) z (λJ J=>z) (λJ=>z) (λJ=>z) (λJ=>z) (λJ=>z) (λJ=>z) (λJ J J J J J=>z) (λJ=>z) (λJ=>z) (λJ J=>z) (λJ J J=>z) (λJ=>z) (λJ J=>z) (λJ=>z) z ig ul o
def p1(o:O)(k:Nat->Bool->α)(z:α):α:=zp z k (λJ=>z) o
def NZ(o:O)(k:Nat->α)(z:α):α:=zp z (λJ J=>z) k o
def yl(o:O)(k:List V->α)(z:α):α:=oR z (λJ=>z) (λJ=>z) (λJ J J J J J=>z) (λJ=>z) (λJ J=>z) k o
end
def gb(b:Bool):V:=aA b .tt .aM
def cC(n:Nat):Nat:=Zv 1024 n
def dc(x i:Nat):Nat:=eJ (ef x (cC i)) 1024
def ss(i:Int):Option Int:=lu i U
def lx(n x:Nat):Option dE:=du n λn=>du x λx=>U ⟨n,x⟩
def iE(v:V)(k:Nat):Option Int:=fS aa U (λl=>dj l k) (λJ=>aa) (λJ=>aa) (λJ=>aa) (λJ=>aa) v
def f8(v:V)(k:Nat):Option dE:=fS aa (λJ=>aa) (λJ=>aa) U (λl=>dj l k) (λJ=>aa) (λJ=>aa) v
def la(v:V)(k:Nat):Option (Option Int):=jr v (U aa) (g7 (iE v k) U)
def gY(v:V):Bool:=fS af (λJ=>af) (λJ=>ae) (λJ=>af) (λJ=>ae) (λJ=>af) (λJ=>af) v
def i1(a b:V):Bool:=aA (gY a) ae (gY b)
def tab{α:Type}(n:Nat)(f:Nat->Option α):List α->Option (List α):=fM (motive:=λJ=>List α->Option (List α)) U (λk ih acc=>bs (f k) aa λa=>ih (a::acc)) n
def jz{α:Type}(F:Nat)(fl:Bool)(f:Nat->Option α)(one:α->V)(many:List α->V):Option V:=aA fl (g7 (tab F f []) many) (g7 (f 0) one)
def eL(l:List Bool):Option Bool:=cr aa (λb r J=>cx (kh (λc=>aA b c (aA c af ae)) r) (U b)) l
def uN(F:Nat)(fl:Bool)(f:Nat->Option Bool):Option Bool:=aA fl (ew (tab F f []) eL) (f 0)
def vd(l:List Int):V:=cr (.li l) (λa r J=>aA (kh (cH a) r) (.int a) (.li l)) l
def nq(a b:dE):Bool:=aA (aK a.n b.n) (aK a.x b.x) af
def r7(l:List dE):V:=cr (.ev l) (λa r J=>aA (kh (nq a) r) (.aZ a) (.ev l)) l
def ly{α:Type}(a b:V)(f:Int->Int->Option α)(k:Nat):Option α:=ew (iE a k) λx=>ew (iE b k) λy=>f x y
def mm{α:Type}(a b:V)(f:dE->dE->Option α)(k:Nat):Option α:=ew (f8 a k) λx=>ew (f8 b k) λy=>f x y
def cm(x y:Int)(f:Nat->Nat->Option Int):Option Int:=e7 x (λm=>e7 y (f m) λJ=>aa) λJ=>aa
def jf(n:Nat):Option Int:=du n λn=>U (.ofNat n)
def lim(i:Int):Bool:=e7 i (λn=>bw n 18446744073709551616) λn=>bw n 18446744073709551615
def qg(o:hp)(x y:Int):Option Int:=Hj (motive:=λJ=>Option Int) (ss (l7 x y)) (ss (xK x y)) (cx (lim x) (cx (lim y) (ss (Int.mul x y)))) aa aa
 (cm x y λm n=>cx (bw 0 n) (jf (eJ m n))) (cm x y λm n=>cx (aK m 10) (cx (aK n 9) (U (.ofNat 1000000000))))
 (cm x y λm n=>cx (lim x) (cx (bw n 5000) (jf (Nat.shiftLeft m n)))) (cm x y λm n=>jf (Nat.shiftRight m n)) (cm x y λm n=>jf (Nat.lor m n)) (cm x y λm n=>jf (Nat.xor m n)) (cm x y λm n=>jf (Nat.land m n))
 (cm x y λm n=>cx (bw 0 n) (cx (bw n 5000) (jf (ef m n)))) o
def jA(F:Nat)(o:hp)(a b:V):Option V:=jz F (i1 a b) (ly a b (qg o)) .int vd
def adc(a b:dE):Option dE:=cx (bw (fN a.n b.n) 5000) (lx (fN a.n b.n) (fN a.x (pp b.x (cC a.n))))
def Dh(F:Nat)(a b:V):Option V:=jz F (i1 a b) (mm a b adc) .aZ r7
def ym(F:Nat)(a b:V):Option V:=jz F (i1 a b) (λk=>ew (f8 a k) λy=>ew (iE b k) λi=>e7 i (λk=>cx (aK y.n 1) (cx (bw k 5000) (lx k (pp y.x (ef (j5 (cC k) 1) 1023))))) λJ=>aa) .aZ r7
def Di(o:hp)(a b:V):Option V:=Dg a (λm r=>eh b (λy=>cx (bw 0 y) (cx (bw y 5000) (cx (aK (eJ m y) 0)
 (Hj (motive:=λJ=>Option V) aa aa aa aa aa (du (eJ r y) λz=>U (.int (.ofNat z))) aa aa aa aa aa aa (du (ef m y) λp=>du (ef r y) λq=>U (.res p q)) o)))) aa) aa
def KC(a b:V):Option V:=rJ a (b6 b (λJ=>U .et) aa) aa
def Zw(a b:V):Option V:=uL a (λk=>cx (bw k 100) (CE b (λn=>cx (bw n 5000) (du (fN 200 n) λn=>U (.h9 n))) aa)) aa
def yn(F:Nat)(a b:V):Option V:=ko (jA F .Add a b) (ko (Dh F a b) (ko (KC a b) (Zw a b)))
def c1(o:Option V)(w:Nat)(L:St):R:=a7 o w λv=> .ok v L
def ade(F:Nat)(a b:V)(L:St):R:=bE a (λi=>bE b (λj=>cJ (L.h.get i) (λl=>cJ (L.h.get j) (λm=>L.fZ (l8 l m)) (.stuck 1002)) (.stuck 1002)) (.stuck 1002)) (c1 (yn F a b) 1003 L)
def mulR(F:Nat)(a b:V)(L:St):R:=bE a (λi=>eh b (λk=>cJ (L.h.get i) (λl=>cr (.stuck 1004) (λv r J=>cr (dA k (L.alloc (.list (MV k v)) .ok)) (λJ J J=> .stuck 1005) r) l) (.stuck 1006)) (.stuck 1006))
 (c1 (ko (jA F .Mult a b) (ym F a b)) 1007 L)
def Dj(F:Nat)(o:hp)(a b:V)(L:St):R:=c1 (ko (jA F o a b) (Di o a b)) 1008 L
def oA(F:Nat)(o:hp)(a b:V)(L:St):R:=c1 (jA F o a b) 1009 L
def m8(F:Nat)(o:hp)(a b:V)(L:St):R:=Hj (motive:=λJ=>R) (ade F a b L) (oA F o a b L) (mulR F a b L) (.stuck 1000) (.stuck 1000) (Dj F o a b L) (oA F o a b L) (oA F o a b L) (oA F o a b L) (oA F o a b L) (oA F o a b L) (oA F o a b L) (Dj F o a b L) o
def yo(n:Nat):Nat->Nat->Option Bool:=fM (motive:=λJ=>Nat->Nat->Option Bool) (λJ J=>aa)
 (λJ ih x y=>aA (aA (aK (eJ x 1024) (eJ y 1024)) af (aA (bw (eJ x 1024) 256) (bw (eJ y 1024) 256) af)) (U af) (ih (ef x 1024) (ef y 1024))) n
def D9(a b:dE):Option Bool:=aA (aK a.n b.n) (aA (aK a.x b.x) (U ae) (yo a.n a.x b.x)) (U af)
def aeF(a b:V):Option Bool:=b6 a (λx=>NY b (λm=>cx (D8 (.ofNat m) x) (U af)) aa) aa
def ve(F:Nat)(a b:V):Option Bool:=ko (uN F (i1 a b) (ly a b λx y=>U (k_ x y))) (aeF a b)
def aeG(a b:V):Option Bool:=uL a (λi=>uL b (λj=>U (aK i j)) aa) aa
def nr(F:Nat)(a b:V):Option Bool:=ko (uN F (i1 a b) (ly a b λx y=>U (cH x y))) (ko (uN F (i1 a b) (mm a b D9)) (aeG a b))
def MX(a b:Option Bool):Option Bool:=ew a λx=>ew b λy=>U (aA x y af)
def D_(a b:Option Bool):Option Bool:=ew a λx=>ew b λy=>U (aA x ae y)
def p2(b:Option Bool):Option Bool:=g7 b λb=>aA b af ae
def yU(q:V->V->Option Bool)(l:List V):List V->Option Bool:=cr (λm=>cr (U ae) (λJ J J=>aa) m) (λa J ih m=>cr aa (λb m J=>MX (q a b) (ih m)) m) l
def vf(F:Nat)(h:T)(f:Nat):V->V->Option Bool:=fM (motive:=λJ=>V->V->Option Bool) (λJ J=>aa) (λJ ih a b=>
 bE a (λi=>bE b (λj=>cx (aA (aK i j) af ae) (i0 (h.get i) (λl=>i0 (h.get j) (λm=>yU ih l m) aa)
  (cJ (h.get i) (λl=>cJ (h.get j) (λm=>aA (aK (cU l) (cU m)) (yU ih l m) (U af)) aa) aa))) aa) (nr F a b)) f
def pt(q:V->V->Option Bool)(v:V)(l:List V):Option Bool:=cr (U af) (λa J ih=>D_ (q a v) ih) l
def Dk(n:Nat):Nat->Nat->Option Bool:=fM (motive:=λJ=>Nat->Nat->Option Bool) (λJ J=>U af)
 (λJ ih x k=>cx (bw (eJ x 1024) 256) (aA (aK (eJ x 1024) k) (U ae) (ih (ef x 1024) k))) n
def Ea(a b:V):Option Bool:=bE a (λi=>bE b (λj=>cx (aK i j) (U ae)) (jr b (U af) aa))
 (jr a (bE b (λJ=>U af) (b6 b (λJ=>U af) (jr b (U ae) aa))) (b6 a (λJ=>jr b (U af) aa) aa))
def MY(l:aP)(k:Int):Option Bool:=bs (l.get k) (U af) λv=>ii v (λJ=>aa) (U ae)
def Dl(F:Nat)(h:T)(a b:V):Option Bool:=bE b (λi=>cJ (h.get i) (pt (nr F) a) (i0 (h.get i) (pt (nr F) a) (e_ (h.get i) (λl=>b6 a (MY l) aa) aa)))
 (ga b (λy=>eh a (λk=>cx (bw k 256) (Dk y.n y.x k)) aa) aa)
def compare(F:Nat)(o:jx)(h:T)(a b:V):Option Bool:=jx.rec (motive:=λJ=>Option Bool) (vf F h 20 a b) (p2 (vf F h 20 a b)) (ve F a b) (p2 (ve F b a)) (ve F b a) (p2 (ve F a b))
 (Ea a b) (p2 (Ea a b)) (Dl F h a b) (p2 (Dl F h a b)) o
def gv(v:V):Bool:=fS af (λJ=>af) (λJ=>af) (λb=>bw b.n 5000) (λl=>kh (λb=>bw b.n 5000) l) (λn=>bw n 5000) (λJ=>af) v
def Dm(F:Nat)(v:V):Option V:=fS aa (λJ=>aa) (λJ=>aa) (λb=>U (.int (.ofNat b.n))) (λJ=>g7 (tab F (λk=>ew (f8 v k) λy=>U (.ofNat y.n)) []) vd) (λn=>U (.int (.ofNat n))) (λJ=>aa) v
def rL(F:Nat)(h:T)(v:V):Option V:=bE v (λi=>cJ (h.get i) (λl=>du (cU l) λn=>U (.int (.ofNat n))) (fQ (h.get i) (λv=>cx (gv v) (Dm F v)) (NZ (h.get i) (λm=>U (.lr m)) aa))) (cx (gv v) (Dm F v))
def k1(n:Nat)(i:Int):Option Nat:=e7 i (λk=>cx (bw k n) (U k)) λk=>cx (bw k n) (U (j5 (j5 n 1) k))
def p3(lf:List Int)(d:Nat):Option V:=aA (bw d 256) (du d λd=>U (.int (.ofNat d))) (cx (aK d 256) (U (.li lf)))
def rM(l:List Int):List Int->Bool:=cr (λm=>cr ae (λJ J J=>af) m) (λa J ih m=>cr af (λb m J=>aA (cH a b) (ih m) af) m) l
def yp(lf:List Int)(v:V):Option Nat:=fS aa (λi=>e7 i (λn=>cx (bw n 256) (U n)) λJ=>aa) (λl=>cx (rM l lf) (U 256)) (λJ=>aa) (λJ=>aa) (λJ=>aa) (λJ=>aa) v
def Dn(lf:List Int)(b i:V):Option V:=ga b (λy=>b6 i (λi=>ew (k1 y.n i) λk=>p3 lf (dc y.x k)) aa) aa
def js(n:Nat)(i:Option Int)(d:Nat):Nat:=bs i d λi=>e7 i (λk=>aA (bw k n) k n) λk=>aA (bw k n) (j5 (j5 n 1) k) 0
def eu(x a n:Nat):Nat:=eJ (ef x (cC a)) (cC n)
def pH(x a n y:Nat):Nat:=fN (eJ x (cC a)) (pp (fN y (pp (ef x (cC (fN a n))) (cC n))) (cC a))
def MZ(b:dE)(lo dd:Option Int):Option dE:=du (js b.n lo 0) λa=>du (j5 (js b.n dd b.n) a) λk=>lx k (eu b.x a k)
def M0(b:dE)(lo dd:Option Int)(y:dE):Option dE:=du (js b.n lo 0) λa=>cx (aK (js b.n dd b.n) (fN a y.n)) (lx b.n (pH b.x a y.n y.x))
def yq(a b c:V):Bool:=aA (gY a) ae (i1 b c)
def Do(F:Nat)(b lo dd:V):Option V:=jz F (yq b lo dd) (λk=>ew (f8 b k) λy=>ew (la lo k) λa=>ew (la dd k) λe=>MZ y a e) .aZ r7
def M1(F:Nat)(b lo dd w:V):Option V:=jz F (aA (gY w) ae (yq b lo dd)) (λk=>ew (f8 b k) λy=>ew (la lo k) λa=>ew (la dd k) λe=>ew (f8 w k) λz=>M0 y a e z) .aZ r7
def M2(b lo dd w:V):Option V:=fS aa (λJ=>aa) (λJ=>aa) (λJ=>aa) (λJ=>aa) (λn=>jr lo (jr dd (ga w (λy=>cx (aK n y.n) (U w)) aa) aa) aa) (λJ=>aa) b
def adf(l:List V)(lo dd:V):Option (List V):=ew (la lo 0) λa=>ew (la dd 0) λe=>cx (aA (i1 lo dd) af ae) (U (pG (rz l (js (cU l) e (cU l))) (js (cU l) a 0)))
def CF(l:List V)(i:Int):Option V:=ew (k1 (cU l) i) (dj l)
end
end Mine.C
end
section
namespace Mine.C
open PySem (Operator CmpOp)
inductive su where
 |no |init |get |release |LI |count |room
structure jJ where
 a2:List Nat
 ds:List V
 cells:List Nat
 free:List Nat
 ex:Bool
 body:X
 con:su
structure il where
 row:Nat
 num:Nat
 M3:Nat
 Zx:Nat
 most:Nat
 blocks:Nat
 size:Nat
 dead:Nat
 number:Nat
 data:Nat
 holders:Nat
 pins:Nat
 hits:Nat
 reads:Nat
 kS:Nat
 self:Nat
 reason:Nat
 on:Nat
structure eB where
 F:Nat
 lf:List Int
 fn:Nat->jJ
 init:Nat->Option Nat
 rN:Nat->Nat->Option Nat
 sub:Nat->Nat->Bool
 dB:il
abbrev Call:=Nat->List V->aL->St->R
abbrev S:=Call->St->R
abbrev D:=List V->S
inductive dv where
 |eZ (n:Nat) (a s:Int)
 |seq (i k:Nat)
 |ij (i k:Nat)
 |hO (i k:Nat)
 |aZ (n x:Nat)
 |st (l:List V)
inductive qq where
 |fn (k:Nat) |mn |oS |sv
noncomputable section
def bQ(l:List V)(k:V->R):R:=cr (.stuck 10) (λa r J=>cr (k a) (λJ J J=> .stuck 10) r) l
def cn(l:List V)(k:V->V->R):R:=cr (.stuck 11) (λa r J=>bQ r (k a)) l
def sw(l:List V)(k:R):R:=cr k (λJ J J=> .stuck 12) l
def h_(L:St)(r:R):R:=aA L.hf (.stuck 26) r
def p4(a b s:Int):Nat:=e7 (xK b a) (λd=>e7 s (λs=>fM (motive:=λJ=>Nat) 0 (λs J=>ef (fN d s) (da s)) s) λJ=>0) λJ=>0
def rO(n:Nat):Int->Int->List V:=fM (motive:=λJ=>Int->Int->List V) (λJ J=> []) (λJ ih a s=>lu (l7 a s) λb=> .int a::ih b s) n
def Eb(a b s:Int):Bool:=e7 a (λa=>e7 s (λs=>aA (bw a 5000) (aA (bw s 5000) (aA (bw 0 s) (aA (k_ (.negSucc 5000) b) (k_ b (.ofNat 5000)) af) af) af) af) λJ=>af) λJ=>af
def CG(a b s:Int)(L:St):R:=bV (Eb a b s) 13 (L.alloc (.eZ a b s) .ok)
def Jt(as:List V)(L:St):R:=cr (.stuck 14) (λa r J=>b6 a (λa=>cr (CG (.ofNat 0) a (.ofNat 1) L) (λb r J=>b6 b (λb=>cr (CG a b (.ofNat 1) L) (λc r J=>sw r (b6 c (λc=>CG a b c L) (.stuck 14))) r) (.stuck 14)) r) (.stuck 14)) as
def M4(F:Nat)(a b:V):Option V:=jz F (i1 a b) (ly a b λx y=>U (aA (k_ y x) y x)) .int vd
def CH(lf:List Int)(l:List V):Option Nat:=cr (U 0) (λv J ih=>ew (yp lf v) λd=>ew ih λx=>du (fN d (pp 1024 x)) U) l
def yV(lf:List Int)(h:T)(v:V):Option V:=fS aa (λi=>e7 i (λn=>cx (bw n 5000) (U (.aZ ⟨n,0⟩))) λJ=>aa) (λJ=>aa) (λJ=>cx (gv v) (U v)) (λJ=>cx (gv v) (U v)) (λJ=>cx (gv v) (U v))
 (λi=>fQ (h.get i) (λv=>cx (gv v) (U v)) (cJ (h.get i) (λl=>ew (CH lf l) λx=>du (cU l) λn=>cx (bw n 5000) (U (.aZ ⟨n,x⟩))) aa)) v
def p5(l:List V):Int->Option Int:=cr U (λv J ih a=>b6 v (λi=>lu (l7 a i) ih) aa) l
def yr(x:Int)(l:List V):List V:=cr [.int x] (λv r ih=>b6 v (λy=>aA (cH x y) (v::r) (v::ih)) (v::r)) l
def ys(l:List V):Option (List V):=cr (U []) (λv J ih=>b6 v (λx=>g7 ih (yr x)) aa) l
def M5(v:V)(L:St):R:=fS (.stuck 16) (λi=>e7 i (λn=>bV (bw n 5000) 16 (L.alloc (.ba (.aZ ⟨n,0⟩)) .ok)) λJ=> .stuck 16) (λJ=> .stuck 16) (λJ=>bV (gv v) 16 (L.alloc (.ba v) .ok)) (λJ=>bV (gv v) 16 (L.alloc (.ba v) .ok)) (λJ=>bV (gv v) 16 (L.alloc (.ba v) .ok)) (λJ=> .stuck 16) v
def r8(k:hT):Nat:=hT.rec (motive:=λJ=>Nat) 2 2 2 2 2 0 2 2 2 2 2 2 2 2 1 2 2 k
def Ec(v:V):Bool:=fS af (λJ=>af) (λJ=>af) (λJ=>ae) (λJ=>ae) (λJ=>ae) (λJ=>af) v
def M6(h:T)(v t:V):Option V:=r6 t (λk=>b6 v (λJ=>cx (aK (r8 k) 0) (U .tt)) (bE v (λi=>fQ (h.get i) (λJ=>cx (aK (r8 k) 1) (U .aM)) aa) (cx (Ec v) (cx (bw (r8 k) 2) (U .aM))))) aa
def ofList(L:St)(v:V)(w:Nat)(k:List V->R):R:=bE v (λi=>cJ (L.h.get i) k (.stuck w)) (.stuck w)
def builtin(ao:eB)(k:hT):List V->St->R:=hT.rec (motive:=λJ=>List V->St->R)
 (λas L=>bQ as λv=>c1 (rL ao.F L.h v) 15 L)
 Jt
 (λas L=>bQ as λv=>bE v (λj=>cJ (L.h.get j) (λJ=>L.alloc (.enum j) .ok) (.stuck 17)) (.stuck 17))
 (λas L=>bQ as λv=>bE v (λj=>cJ (L.h.get j) (λl=>du (cU l) λn=>L.alloc (.rev j n) .ok) (.stuck 18)) (.stuck 18))
 (λas L=>h_ L (cn as λa b=>c1 (M4 ao.F a b) 19 L))
 (λas L=>bQ as λv=>dS v (.ok (.int (.ofNat 1)) L) (.ok (.int (.ofNat 0)) L) (.stuck 20))
 (λas L=>bQ as λv=>c1 (yV ao.lf L.h v) 21 L)
 (λas L=>cr (L.alloc (.ba (.aZ ⟨0,0⟩)) .ok) (λv r J=>sw r (M5 v L)) as)
 (λas L=>bQ as λv=>bE v (λi=>cJ (L.h.get i) L.fZ (p0 (L.h.get i) (λa b s=>h_ L (L.fZ (rO (p4 a b s) a s))) (.stuck 22))) (.stuck 22))
 (λas L=>bQ as λv=>bE v (λi=>e_ (L.h.get i) (λl=>dA l.len (L.alloc (.dict l) .ok)) (.stuck 23)) (.stuck 23))
 (λas L=>h_ L (bQ as λv=>ofList L v 24 λl=>bV (bw (cU l) 4000) 24 (a7 (ys l) 24 λl=>L.alloc (.set l) .ok)))
 (λas L=>h_ L (bQ as λv=>bE v (λi=>e_ (L.h.get i) (λl=>aP.rec (motive:=λJ=>R) (L.alloc (.list []) .ok) (λJ J J J=> .stuck 25) l) (.stuck 25)) (.stuck 25)))
 (λas L=>h_ L (bQ as λv=>ofList L v 27 λl=>a7 (p5 l (.ofNat 0)) 27 λi=> .ok (.int i) L))
 (λas L=>cn as λv t=>c1 (M6 L.h v t) 28 L)
 (λas L=>bQ as λv=>eh v (λn=>bV (bw n 1000) 29 (.ok (.h9 1010) L)) (.stuck 29))
 (λas L=>bQ as λv=>b6 v (λi=>e7 i (λn=> .ok (.int (.ofNat n)) L) λn=>du (da n) λn=> .ok (.int (.ofNat n)) L) (.stuck 30))
 (λJ J=> .stuck 31) k
def pu(j:Nat)(l:aP):Bool:=aP.rec (motive:=λJ=>Bool) af (λJ v J ih=>bE v (λk=>aA (aK k j) ae ih) ih) l
def xp(h:T)(l:aP):Bool:=aP.rec (motive:=λJ=>Bool) ae (λJ v J ih=>bE v (λk=>gF (h.get k) (λJ J=>ih) af) af) l
def um(l:aP)(k:Int)(d:V):Option V:=bs (l.get k) (U d) λv=>ii v (λn=>ga d (λy=>aA (bw n 1000) (cx (aK n y.n) (U (.any n))) (cx (aK n (fN 1000 y.n)) (cx (aK y.x 0) (U d)))) aa) (U v)
def LJ(i:Nat)(v:V)(L:St):R:=cJ (L.h.get i) (λl=>dA (cU l) (L.put i (.list (l8 l [v])) (.ok .none)))
 (om (L.h.get i) (λd=>eW (L.h.get d) (λlive cL ch lk row cb=>bE v (λj=>a7 cL 32 λk=>bV (aK j k) 32 (bV (aK row i) 32 (bV (pu j live) 32 (L.put d (.c3 live aa ch lk row cb) (.ok .none))))) (.stuck 32)) (.stuck 32)) (.stuck 32))
def M7(i:Nat)(v:V)(L:St):R:=om (L.h.get i) (λd=>eW (L.h.get d) (λlive cL ch lk row cb=>bE v (λj=>bs cL (bV (aK row i) 33 (bV (pu j live) 33 (bV (xp L.h live) 33 (L.put d (.c3 live (U j) ch lk row cb) (.ok .none))))) λJ=> .stuck 33) (.stuck 33)) (.stuck 33)) (.stuck 33)
def LK(lf:List Int)(i:Nat)(v:V)(L:St):R:=fQ (L.h.get i) (λb=>ga b (λy=>dA y.n (a7 (yp lf v) 34 λd=>a7 (lx (da y.n) (fN y.x (pp d (cC y.n)))) 34 λz=>L.put i (.ba (.aZ z)) (.ok .none))) (.stuck 34)) (.stuck 34)
def flat(h:T)(v:V):V:=bE v (λj=>fQ (h.get j) (λb=>b) v) v
def M8(F:Nat)(i:Nat)(v:V)(L:St):R:=fQ (L.h.get i) (λb=>a7 (Dh F b (flat L.h v)) 35 λz=>L.put i (.ba z) (.ok .none)) (.stuck 35)
def LL(i:Nat)(k:V)(L:St):R:=b6 k (λk=>e_ (L.h.get i) (λl=>c1 (um l k .none) 36 L)
 (eW (L.h.get i) (λl J ch J J J=>bs (l.get k) (a7 ch 36 λn=>bV (cH n k) 36 (.ok .none L)) λv=> .ok v L) (.stuck 36))) (.stuck 36)
def LM(i:Nat)(k d:V)(L:St):R:=b6 k (λk=>e_ (L.h.get i) (λl=>c1 (um l k d) 37 L)
 (oz (L.h.get i) (λp=>eW (L.h.get p) (λJ J J lk J cb=>bV (aK cb i) 37 (c1 (um lk k d) 37 L)) (.stuck 37)) (.stuck 37))) (.stuck 37)
def jH{α:Type}(app rem ext get f7:α)(m:je):α:=je.rec (motive:=λJ=>α) f7 app rem ext get m
def B7(ao:eB)(t:qq)(o:V)(b:je)(as:List V)(call:Call)(L:St):R:=qq.rec (motive:=λJ=>R) (λk=>call k (o::as) .nil L)
 (bE o (λi=>jH (bQ as λv=>LJ i v L) (bQ as λv=>M7 i v L) (.stuck 38) (.stuck 38) (.stuck 38) b) (.stuck 38))
 (bE o (λi=>jH (bQ as λv=>LK ao.lf i v L) (.stuck 39) (bQ as λv=>M8 ao.F i v L) (.stuck 39) (.stuck 39) b) (.stuck 39))
 (bE o (λi=>jH (.stuck 40) (.stuck 40) (.stuck 40) (cr (.stuck 40) (λk r J=>cr (LL i k L) (λd r J=>sw r (LM i k d L)) r) as) (.stuck 40) b) (.stuck 40)) t
def uo(ao:eB)(o:V)(m:Nat)(b:je)(L:St):Option qq:=bE o (λi=>
 gF (L.h.get i) (λc f=>bs (f.get m) (g7 (ao.rN c m) .fn) λJ=>aa)
 (cJ (L.h.get i) (λJ=>jH (U .mn) (U .mn) aa aa aa b)
 (om (L.h.get i) (λd=>eW (L.h.get d) (λJ J J J row J=>cx (aK row i) (jH (U .mn) (U .mn) aa aa aa b)) aa)
 (fQ (L.h.get i) (λJ=>jH (U .oS) aa (U .oS) aa aa b)
 (e_ (L.h.get i) (λJ=>jH aa aa aa (U .sv) aa b)
 (oz (L.h.get i) (λd=>eW (L.h.get d) (λJ J J J J cb=>cx (aK cb i) (jH aa aa aa (U .sv) aa b)) aa)
 (eW (L.h.get i) (λJ J J J J J=>jH aa aa aa (U .sv) aa b) aa))))))) aa
def pI(v:V)(L:St)(k:dv->Option Nat->St->R):R:=bE v (λi=>
 cJ (L.h.get i) (λJ=>k (.seq i 0) aa L) (i0 (L.h.get i) (λJ=>k (.ij i 0) aa L) (p0 (L.h.get i) (λa b s=>du (p4 a b s) λn=>k (.eZ n a s) aa L)
 (LH (L.h.get i) (λj=>L.put i .nul λL=>k (.seq j 0) (U 0) L) (MW (L.h.get i) (λj n=>L.put i .nul λL=>k (.hO j n) aa L) (.stuck 41)))))) (ga v (λy=>k (.aZ y.n y.x) aa L) (.stuck 41))
def t7(l:List V)(k:Nat)(it:dv)(fin:R)(item:V->dv->R):R:=bs (dj l k) fin λv=>item v it
def n9(lf:List Int)(h:T)(it:dv)(fin:R)(item:V->dv->R):R:=dv.rec (motive:=λJ=>R)
 (λn a s=>fM (motive:=λJ=>R) fin (λn J=>lu (l7 a s) λb=>item (.int a) (.eZ n b s)) n)
 (λi k=>cJ (h.get i) (λl=>t7 l k (.seq i (da k)) fin item) (.stuck 42))
 (λi k=>i0 (h.get i) (λl=>t7 l k (.ij i (da k)) fin item) (.stuck 42))
 (λi k=>fM (motive:=λJ=>R) fin (λk J=>cJ (h.get i) (λl=>t7 l k (.hO i k) (.stuck 42) item) (.stuck 42)) k)
 (λn x=>fM (motive:=λJ=>R) fin (λn J=>du (ef x 1024) λy=>a7 (p3 lf (eJ x 1024)) 42 λv=>item v (.aZ n y)) n) (λl=>cr fin (λv r J=>item v (.st r)) l) it
def q5(e:Option Nat)(v:V)(L:St)(k:V->St->R):R:=bs e (k v L) λn=>L.B6 [.int (.ofNat n),v] k
def uO(e:Option Nat):Option Nat:=bs e aa λn=>du (da n) U
def R.eM(r:R)(k:St->R):R:=R.rec (motive:=λJ=>R) (λJ J=> .stuck 4) (λJ J=> .stuck 4) k .next .ret .exc .stuck r
def kV(lf:List Int)(qe body:D)(call:Call)(f:Nat):dv->Option Nat->St->R:=fM (motive:=λJ=>dv->Option Nat->St->R) (λJ J J=> .stuck 43) (λJ ih it e L=>n9 lf L.h it (.next L) λv it=>q5 e v L λv L=>(qe [v] call L).seq λL=>(body [] call L).eM λL=>ih it (uO e) L) f
def gp(lf:List Int)(qe:D)(cond:D)(el:D)(call:Call)(f:Nat):dv->List V->St->R:=fM (motive:=λJ=>dv->List V->St->R) (λJ J J=> .stuck 44) (λJ ih it acc L=>n9 lf L.h it (.args (uK acc []) L) λv it=>(qe [v] call L).seq λL=>(cond [] call L).bind λc L=>dS c ((el [] call L).bind λw L=>ih it (w::acc) L) (ih it acc L) (.stuck 45)) f
def kY(cond:D)(call:Call)(L:St)(n:Nat)(l:List V):(List V->R)->R:=cr (λk=>k []) (λv J ih k=>L.f4 n v λs=>(cond [] call s).bind λc J=>dS c (ih λm=>k (v::m)) (ih k) (.stuck 46)) l
def tx(t b:D)(call:Call)(f:Nat):St->R:=fM (motive:=λJ=>St->R) (λJ=> .stuck 47) (λJ ih L=>(t [] call L).bind λv L=>dS v ((b [] call L).eM ih) (.next L) (.stuck 48)) f
def R.nx(r:R):R:=R.rec (motive:=λJ=>R) .ok .args .next .brk .ret (λJ J=> .stuck 106) .stuck r
def KD(ao:eB)(o i:V)(L:St):R:=bE o (λk=>
 cJ (L.h.get k) (λl=>b6 i (λi=>c1 (CF l i) 51 L) (.stuck 51)) (i0 (L.h.get k) (λl=>b6 i (λi=>c1 (CF l i) 52 L) (.stuck 52)) (fQ (L.h.get k) (λb=>bV (gv b) 53 (c1 (Dn ao.lf b i) 53 L))
 (e_ (L.h.get k) (λl=>b6 i (λi=>a7 (l.get i) 54 λv=>ii v (λJ=> .stuck 54) (.ok v L)) (.stuck 54)) (.stuck 55))))) (bV (gv o) 56 (c1 (Dn ao.lf o i) 56 L))
def slice(ao:eB)(o lo dd:V)(L:St):R:=bE o (λk=>cJ (L.h.get k) (λl=>a7 (adf l lo dd) 57 L.fZ)
 (fQ (L.h.get k) (λb=>bV (gv b) 58 (a7 (Do ao.F b lo dd) 58 λb=>L.alloc (.ba b) .ok)) (.stuck 59))) (bV (gv o) 60 (c1 (Do ao.F o lo dd) 60 L))
def Ju(k:Nat)(i v:V)(L:St):R:=eW (L.h.get k) (λlive cL ch lk row cb=>a7 cL 61 λm=>a7 ch 61 λn=>b6 i (λi=>bE v (λj=>bV (aK m 0) 61 (bV (cH i n) 61 (bs (live.get i) (aA (pu j live) (.stuck 61) (bV (bw 0 j) 61 (live.iZ i v λlive=>L.put k (.c3 live (U j) aa lk row cb) .next))) λJ=> .stuck 61))) (.stuck 61)) (.stuck 61)) (.stuck 62)
def Vs(k:Nat)(i v:V)(L:St):R:=oz (L.h.get k) (λp=>b6 i (λi=>eW (L.h.get p) (λlive cL ch lk row cb=>a7 (live.get i) 63 λJ=>bV (aK cb k) 63 (dA lk.len (lk.iZ i v λlk=>L.put p (.c3 live cL ch lk row cb) .next))) (.stuck 63)) (.stuck 63)) (Ju k i v L)
def IH(ao:eB)(o i v:V)(L:St):R:=bE o (λk=>
 cJ (L.h.get k) (λl=>b6 i (λi=>a7 (k1 (cU l) i) 64 λn=>L.put k (.list (CD v l n)) .next) (.stuck 64)) (e_ (L.h.get k) (λl=>b6 i (λi=>dA l.len (l.iZ i v λl=>L.put k (.dict l) .next)) (.stuck 65))
 (fQ (L.h.get k) (λb=>ga b (λy=>dA y.n (b6 i (λi=>a7 (k1 y.n i) 66 λa=>a7 (yp ao.lf v) 66 λd=>a7 (lx y.n (pH y.x a 1 d)) 66 λz=>L.put k (.ba (.aZ z)) .next) (.stuck 66))) (.stuck 66)) (Vs k i v L)))) (.stuck 67)
def HG(ao:eB)(o lo dd v:V)(L:St):R:=bE o (λk=>fQ (L.h.get k) (λb=>bV (gv b) 68 (bV (gv v) 68 (a7 (ko (M1 ao.F b lo dd v) (M2 b lo dd v)) 68 λz=>L.put k (.ba z) .next))) (.stuck 69)) (.stuck 69)
def KF(o i:V)(L:St):R:=bE o (λk=>b6 i (λj=>e_ (L.h.get k) (λl=>dA l.len (a7 (l.get j) 70 λv=>ii v (λJ=> .stuck 70) (l.k4 j λl=>L.put k (.dict l) .next))) (cJ (L.h.get k) (λl=>dA (cU l) (a7 (k1 (cU l) j) 71 λn=>L.put k (.list (l8 (rz l n) (pG l (da n)))) .next)) (.stuck 71))) (.stuck 72)) (.stuck 72)
def getAttr(o:V)(n:Nat)(L:St):R:=bE o (λi=>gF (L.h.get i) (λJ f=>a7 (f.get n) 73 λv=> .ok v L) (.stuck 74)) (.stuck 74)
def rg(o:V)(n:Nat)(v:V)(L:St):R:=bE o (λi=>gF (L.h.get i) (λc f=>f.pZ n v λf=>L.put i (.inst c f) .next) (.stuck 75)) (.stuck 75)
def iW(fr:aL)(l:List Nat):Option aL:=cr (U .nil) (λn J ih=>ew (fr.get n) λv=>g7 ih (.cons n v)) l
def M9(a2:List Nat):List V->Option aL:=cr (λvs=>cr (U .nil) (λJ J J=>aa) vs) (λp J ih vs=>cr aa (λv vs J=>g7 (ih vs) (.cons p v)) vs) a2
def lT(a2:List Nat)(as ds:List V):Option aL:=M9 a2 (l8 as (pG ds (j5 (cU ds) (j5 (cU a2) (cU as)))))
def rh(l:List Nat):St->(St->R)->R:=cr (λL k=>k L) (λn J ih L k=>L.alloc (.cell (L.fr.get n)) λv L=>L.f4 n v λL=>ih L k) l
def R.gI(fr:aL)(r:R):R:=R.rec (motive:=λJ=>R) (λJ J=> .stuck 76) (λJ J=> .stuck 76) (λs=> .ok .none (s.eK fr)) (λJ=> .stuck 76) (λv s=> .ok v (s.eK fr)) (λc s=> .exc c (s.eK fr)) .stuck r
def R.uq(fr:aL)(r:R):R:=R.rec (motive:=λJ=>R) (λv s=> .ok v (s.eK fr)) (λJ J=> .stuck 77) (λJ=> .stuck 77) (λJ=> .stuck 77) (λJ J=> .stuck 77) (λc s=> .exc c (s.eK fr)) .stuck r
def ht(o:Option V)(k:Nat->R):R:=a7 o 130 λv=>bE v k (.stuck 130)
def inst(L:St)(v:V)(k:Nat->Nat->aL->R)(z:R):R:=bE v (λi=>gF (L.h.get i) (k i) z) z
def LN(ac:il)(self:V)(L:St)(k:St->R):R:=inst L self (λJ J f=>ht (f.get ac.row) λr=>ht (f.get ac.num) λd=>a7 (f.get ac.M3) 131 λdT=>inst L dT (λJ J g=>ht (g.get ac.Zx) λlt=>cJ (L.h.get r) (λl=>aA (aK d lt) (.stuck 132) (cr (e_ (L.h.get d) (λe=>aP.rec (motive:=λJ=>R) (e_ (L.h.get lt) (λlk=>L.put r (.iA d) λL=>L.put lt (.cb d) λL=>L.put d (.c3 .nil aa aa lk r lt) k) (.stuck 132)) (λJ J J J=> .stuck 132) e) (.stuck 132)) (λJ J J=> .stuck 132) l)) (.stuck 132)) (.stuck 131)) (.stuck 131)
def jg(f:aL)(k:Nat->V->Nat->V->Nat->V->Nat->V->R):R:=aL.rec (motive:=λJ=>R) (.stuck 133) (λa v f J=>aL.rec (motive:=λJ=>R) (.stuck 133) (λb w f J=>aL.rec (motive:=λJ=>R) (.stuck 133) (λc x f J=>aL.rec (motive:=λJ=>R) (.stuck 133) (λd y f J=>aL.rec (motive:=λJ=>R) (k a v b w c x d y) (λJ J J J=> .stuck 133) f) f) f) f) f
def r9(v:V):Bool:=b6 v (λi=>cH i (.ofNat 0)) af
def yt(l:List dE):List dE->Bool:=cr (λm=>cr ae (λJ J J=>af) m) (λa J ih m=>cr af (λb m J=>aA (nq a b) (ih m) af) m) l
def x2(v w:V):Bool:=fS af (λJ=>af) (λJ=>af) (λa=>ga w (λb=>nq a b) af) (λl=>fS af (λJ=>af) (λJ=>af) (λJ=>af) (λm=>yt l m) (λJ=>af) (λJ=>af) w) (λJ=>af) (λJ=>af) v
def zq(l:List Bool):Bool:=cr ae (λb J ih=>aA b ih af) l
def x3(lk:aP)(n:Int)(v:V):Bool:=bs (lk.get n) (ga v (λy=>aA (aK y.n 64) (aK y.x 0) af) af) λw=>aA (x2 w v) ae (ii w (λm=>aA (aK m 1064) (ga v (λy=>aA (aK y.n 64) (aK y.x 0) af) af) af) af)
def t8(ac:il)(self n:V)(L:St)(k:St->R):R:=b6 n (λn=>inst L self (λJ J f=>ht (f.get ac.num) λd=>eW (L.h.get d) (λlive cL ch lk r lt=>bs cL (bs ch (ht (live.get n) λb=>gF (L.h.get b) (λc f=>jg f λjh v1 gL v2 dF sx sy v4=>
 aA (aA (r9 sx) (r9 v4) af) (b6 v1 (λqr=>bE v2 (λbd=>fQ (L.h.get bd) (λx=>bV (zq [aK c ac.kS,aK jh ac.number,aK gL ac.data,aK dF ac.holders,aK sy ac.pins,cH qr n,x3 lk n x]) 134
  (L.put b .nul λL=>L.put bd .nul λL=>live.k4 n λlive=>L.put d (.c3 live aa aa lk r lt) k)) (.stuck 134)) (.stuck 134)) (.stuck 134)) (k L)) (.stuck 135)) λJ=> .stuck 136) λJ=> .stuck 136) (k L)) (.stuck 137)) (.stuck 137)
def t9(lk:aP)(n:Int):Option V:=bs (lk.get n) (U (.aZ ⟨64,0⟩)) λv=>ii v (λm=>aA (aK m 1064) (U (.aZ ⟨64,0⟩)) (cx (aK m 64) (U (.any m)))) (cx (Ec v) (U v))
def ng(v:V):Bool:=b6 v (λJ=>ae) (rJ v ae af)
def BB(ac:il)(h:T)(l:aP):Bool:=aP.rec (motive:=λJ=>Bool) ae (λJ v J ih=>bE v (λi=>gF (h.get i) (λc f=>aA (aK c ac.kS) (bs (f.get ac.holders) af λa=>bs (f.get ac.pins) af λb=>eh a (λa=>eh b (λb=>aA (aK (fN a b) 0) af ih) af) af) af) af) af) l
def abp(ac:il)(h:T)(live:aP):Bool:=aA (bw live.len 16) (BB ac h live) af
def me(a b:V):Bool:=V.rec (motive:=λJ=>Bool) (jr b ae af) (dS b ae af af) (dS b af ae af) (λi=>b6 b (cH i) af) (λl=>fS af (λJ=>af) (rM l) (λJ=>af) (λJ=>af) (λJ=>af) (λJ=>af) b)
 (λy=>ga b (nq y) af) (λl=>fS af (λJ=>af) (λJ=>af) (λJ=>af) (yt l) (λJ=>af) (λJ=>af) b) (λn=>fS af (λJ=>af) (λJ=>af) (λJ=>af) (λJ=>af) (aK n) (λJ=>af) b) (λn=>ii b (aK n) af)
 (λJ J=>af) (rJ b ae af) (λJ=>af) (λJ=>af) (λJ=>af) (λi=>bE b (aK i) af) (λJ=>af) (λJ=>af) (λJ=>af) (λJ=>af) a
def r_(e:Nat->Bool)(f:aL):aL->Bool:=aL.rec (motive:=λJ=>aL->Bool) (λg=>aL.rec (motive:=λJ=>Bool) ae (λJ J J J=>af) g) (λk v J ih g=>aL.rec (motive:=λJ=>Bool) af (λgL v2 g J=>aA (aK k gL) (aA (aA (e k) (aA (ng v) (ng v2) af) (me v v2)) (ih g) af) af) g) f
def vg(f:aP):aP->Bool:=aP.rec (motive:=λJ=>aP->Bool) (λg=>aP.rec (motive:=λJ=>Bool) ae (λJ J J J=>af) g) (λk v J ih g=>aP.rec (motive:=λJ=>Bool) af (λgL v2 g J=>aA (cH k gL) (aA (me v v2) (ih g) af) af) g) f
def l9(ac:il)(k:Nat):Bool:=aA (aK k ac.hits) ae (aK k ac.reads)
def uP(ac:il)(f:aL)(k:aL->R):R:=aL.rec (motive:=λJ=>(aL->R)->R) (λK=>K .nil) (λn v J ih K=>aA (l9 ac n) (ih λr=>K (.cons n .et r)) (ih λr=>K (.cons n v r))) f k
def x4(ac:il)(e:Bool)(c:Nat)(f:aL)(o:O)(r:R):R:=gF o (λc4 f2=>bV (aK c c4) 170 (bV (r_ (λk=>aA e (l9 ac k) af) f f2) 170 r)) (.stuck 170)
def LO(ac:il)(h bM:T)(l:aP)(r:R):R:=aP.rec (motive:=λJ=>R) r (λJ v J ih=>bE v (λi=>gF (h.get i) (λc f=>x4 ac af c f (bM.get i) ih) (.stuck 171)) (.stuck 171)) l
def Dp(h:T)(l:aP)(bM:T)(k:T->R):R:=aP.rec (motive:=λJ=>T->R) k (λJ v J ih bM=>bE v (λi=>T.fb (h.get i) i i bM ih) (.stuck 172)) l bM
structure iC where
 n:Int
 si:Nat
 c:Nat
 f:aL
 d:Nat
 live:aP
 lk:aP
 r:Nat
 lt:Nat
 dT:Nat
 cd:Nat
 g:aL
def seen(ac:il)(q:iC)(h:T)(nx:Nat)(y:V)(b:Nat)(bM:T)(k:R):R:=bV (pq nx b) 180 (gF (bM.get b) (λcc f1=>jg f1 λjh v1 gL v2 dF sx sy v4=>
 b6 v1 (λqr=>bE v2 (λj=>bV (zq [pq nx j,aK cc ac.kS,aK jh ac.number,aK gL ac.data,aK dF ac.holders,aK sy ac.pins,cH qr q.n,me sx (.int (.ofNat 1)),r9 v4]) 173
  (fQ (bM.get j) (λagy=>bV (me agy y) 174 (eW (bM.get q.d) (λabq abr aeH vh fT Ed=>bs abr (bs aeH (bV (zq [aK fT q.r,aK Ed q.lt,vg q.lk vh]) 175 (q.live.iZ q.n (.ref b) λlv=>bV (vg lv abq) 175
   (x4 ac ae q.c q.f (bM.get q.si) (x4 ac af q.cd q.g (bM.get q.dT) (LO ac h bM q.live k))))) λJ=> .stuck 176) λJ=> .stuck 176) (.stuck 176))) (.stuck 177))) (.stuck 178)) (.stuck 178)) (.stuck 178))
def yu(L:St)(q:iC)(k:T->R):R:=Dp L.h q.live .lf λh=>T.fb (.inst q.c q.f) q.si q.si h λh=>T.fb (.iA q.d) q.r q.r h λh=>T.fb (.cb q.d) q.lt q.lt h λh=>T.fb (.inst q.cd q.g) q.dT q.dT h λh=>T.fb .tab 0 0 h λh=>T.fb .tab 1 1 h k
def hu(ac:il)(n:Int)(j:Nat)(a:Int):O:= .inst ac.kS (.cons ac.number (.int n) (.cons ac.data (.ref j) (.cons ac.holders (.int a) (.cons ac.pins (.int (.ofNat 0)) .nil))))
def M_(ac:il)(self n:V)(L:St)(plain:St->R):R:=b6 n (λn=>inst L self (λsi c f=>bs (f.get ac.num) (plain L) λv=>bE v (λd=>eW (L.h.get d) (λlive cL ch lk r lt=>bs (live.get n) (bs ch
 (a7 (f.get ac.M3) 140 λdT=>inst L dT (λdT cd g=>bs cL (a7 (t9 lk n) 143 λy=>yu L ⟨n,si,c,f,d,live,lk,r,lt,dT,cd,g⟩ λh=>
  (T.fb (.c3 live aa (U n) lk r lt) d d h λbb=>plain ⟨bb,L.nx,L.fr,L.hf⟩).nx.bind λv2 aeI=>bE v2 (λb=>seen ac ⟨n,si,c,f,d,live,lk,r,lt,dT,cd,g⟩ L.h L.nx y b aeI.h
  ((live.iZ n (.ref L.nx) λlv=>T.fb (.c3 lv aa aa lk r lt) d d h λbb=>T.fb (hu ac n (da L.nx) (.ofNat 0)) L.nx L.nx bb λbb=>T.fb (.ba y) (da L.nx) (da L.nx) bb λbb=>plain ⟨bb,da (da L.nx),L.fr,L.hf⟩).nx.bind λsx yW=>bE sx (λzr=>bV (aK zr L.nx) 179
   (seen ac ⟨n,si,c,f,d,live,lk,r,lt,dT,cd,g⟩ L.h L.nx y L.nx yW.h
   (L.alloc (hu ac n (da L.nx) (.ofNat 1)) λb L=>L.alloc (.ba y) λJ L=>live.iZ n b λlive=>L.put d (.c3 live aa aa lk r lt) λL=>uP ac f λf=>L.put si (.inst c f) λL=> .ok b L))) (.stuck 144))) (.stuck 144)) λJ=> .stuck 144) (.stuck 145))
  λJ=>plain L) λJ=>plain L) (plain L)) (plain L)) (plain L)) (plain L)
def LP(ac:il)(self:V)(L:St)(z:R):R:=inst L self (λJ J f=>bs (f.get ac.num) z λv=>bE v (λd=>eW (L.h.get d) (λlive cL ch lk r lt=>ht (f.get ac.row) λfT=>a7 (f.get ac.most) 150 λmo=>eh mo (λm=>bs cL (a7 ch 150 λn=>bV (aK m 16) 150 (bV (aA (pq 2 r) (aK r fT) af) 150 (bV (abp ac L.h live) 150 (L.put d (.c3 live (U 0) (U n) lk r lt) (.ok .none))))) λJ=> .stuck 150) (.stuck 150)) z) z) z
def KG(ac:il)(self:V)(L:St)(z:R):R:=inst L self (λJ J f=>bs (f.get ac.num) z λv=>bE v (λd=>eW (L.h.get d) (λlive cL J J r J=>ht (f.get ac.row) λfT=>a7 (f.get ac.most) 151 λmo=>b6 mo (λJ=>bs cL (aP.rec (motive:=λJ=>R) (bV (aA (pq 2 r) (aK r fT) af) 151 (.ok mo L)) (λJ J J J=> .stuck 151) live) λJ=> .stuck 151) (.stuck 151)) z) z) z
def xq(call:Call)(c8:X->D)(a2:List Nat)(ds:List V)(cells:List Nat)(ex:Bool)(body:X)(as:List V)(cs:aL)(L:St):R:=a7 (lT a2 as ds) 78 λfl=>aA ex ((c8 body [] call (L.eK cs)).uq L.fr) (rh cells (L.eK (fl.app cs)) λs=>(c8 body [] call s).gI L.fr)
def field(L:St)(v:V)(n:Nat)(k:V->R):R:=inst L v (λJ J f=>a7 (f.get n) 160 k) (.stuck 160)
def uQ(call:Call)(L:St)(r:R):R:=(call 5000 [] .nil L).bind λJ J=>r
def CI(ac:il)(call:Call)(as:List V)(L:St)(r:St->R)(con:su):R:=su.rec (motive:=λJ=>R) (r L)
 (cr (.stuck 161) (λself J J=>(r L).bind λv L=>LN ac self L (.ok v)) as)
 (cn as λself n=>M_ ac self n L r)
 (cn as λself b=>field L b ac.number λn=>(r L).bind λv L=>t8 ac self n L (.ok v))
 (cn as λself n=>(r L).bind λv L=>t8 ac self n L (.ok v))
 (bQ as λself=>uQ call L (KG ac self L (r L)))
 (bQ as λself=>uQ call L (LP ac self L (r L))) con
def N0{α:Type}(k:List Nat->List V->List Nat->List Nat->Bool->X->su->α)(f:jJ):α:=jJ.rec (motive:=λJ=>α) k f
def t_(ao:eB)(call:Call)(c8:X->D)(k:Nat)(as:List V)(cs:aL)(L:St):R:=aA (aK k 5000) (.ok .none L) (N0 (λa2 ds cells J ex body con=>CI ao.dB call as L (xq call c8 a2 ds cells ex body as cs) con) (ao.fn k))
def B8(ao:eB)(f:V)(as:List V)(call:Call)(L:St):R:=yT f (λk=>aA (bw k 146) (call k as .nil L) (.stuck 79)) (r6 f (λk=>builtin ao k as L)
 (rK f (λc=>dA (cU as) (a7 (ao.init c) 79 λk=>L.alloc (aA (aK k ao.dB.on) (.ig c ae) (.inst c .nil)) λv L=>(call k (v::as) .nil L).bind λw L=>jr w (.ok v L) (.stuck 79)))
 (bE f (λi=>uM (L.h.get i) (λk cs=>sw as (aA (bw k 146) (.stuck 80) (aA (bw k 162) (call k [] cs L) (.stuck 80)))) (.stuck 80)) (.stuck 80))))
def dq(v:V):D:=λJ J L=> .ok v L
def b9(n:Nat):D:=λJ J L=>c1 (L.fr.get n) 81 L
def yv(n:Nat):D:=λJ J L=>ht (L.fr.get n) λi=>m7 (L.h.get i) (λv=>c1 v 82 L) (.stuck 82)
def sa(CC:Bool)(a r:D):D:=λJ call L=>(a [] call L).bind λv L=>dS v (aA CC (r [] call L) (.ok .tt L)) (aA CC (.ok .aM L) (r [] call L)) (.stuck 83)
def k5(ao:eB)(o:hp)(a b:D):D:=λJ call L=>(a [] call L).bind λv L=>(b [] call L).bind λw L=>m8 ao.F o v w L
def jB(a:D):D:=λJ call L=>(a [] call L).bind λv L=>dS v (.ok .aM L) (.ok .tt L) (.stuck 84)
def Dq(a:D):D:=λJ call L=>(a [] call L).bind λv L=>b6 v (λi=>lu (Int.neg i) λi=> .ok (.int i) L) (.stuck 85)
def oH(t a b:D):D:=λJ call L=>(t [] call L).bind λv L=>dS v (a [] call L) (b [] call L) (.stuck 86)
def ki(l:D):D:=λJ call L=>(l [] call L).ea λvs L=>L.fZ vs
def Dr(l:D):D:=λJ call L=>(l [] call L).ea λvs L=>L.B6 vs .ok
def Ds:D:=λJ J L=>L.alloc (.dict .nil) .ok
def hJ(ao:eB)(e qe it c:D)(bk:List Nat):D:=λJ call L=>(it [] call L).bind λv L=>pI v L λi m L=>bs m (a7 (iW L.fr bk) 87 λcs=>(gp ao.lf qe c e call 1000 i [] (L.eK cs)).nx.ea λvs s=>(s.eK L.fr).fZ vs) λJ=> .stuck 87
def rA(x:X):Bool:=X.rec (motive:=λJ=>Bool) (λJ=>ae) (λJ=>ae) (λJ=>ae) (λJ J=>ae) (λJ J=>af) (λJ J J J J=>af) (λJ J J J J=>af) (λJ J=>af) (λJ J=>af) (λJ J J J J J=>af) (λJ J=>af) (λJ J=>af) af (λJ J J J J J J=>af) (λJ J J J J J J J J=>af) (λJ J J J J J=>af) (λJ J J h k=>aA h k af) (λJ J J J J J J J=>af) (λJ J J J=>af) (λJ J J J J J=>af) (λJ J h=>h) (λJ J J J=>af) (λJ J J J J J=>af) af (λJ J J=>af) af af (λJ J J J=>af) (λJ=>af) (λJ=>af) (λJ J J=>af) (λJ J J J=>af) (λJ J J J J J=>af) (λJ J J=>af) af (λJ J J J=>af) af (λJ J J J=>af) (λJ J=>af) (λJ J J J=>af) (λJ J J J J J=>af) (λJ J J J=>af) (λJ J J J J J=>af) (λJ J J J=>af) (λJ J J J J J J=>af) (λJ J=>af) af af (λJ J=>af) (λJ J J J=>af) af (λJ J J J J J=>af) (λJ J J J=>af) af x
def uR(n:Nat)(it:D)(x:X)(c:D)(bk:List Nat):D:=λJ call L=>(it [] call L).bind λv L=>bE v (λi=>yl (L.h.get i) (λl=>bV (aA (rA x) (bw (cU l) 900) af) 88 (a7 (iW L.fr bk) 88 λcs=>L.put i .nul λs=>kY c call (s.eK cs) n l λm=>aA (bw (cU l) 2) (s.fZ m) (s.alloc (.l0 (cU l)) .ok))) (.stuck 88)) (.stuck 88)
def i2(ao:eB)(o:jx)(a b:D):D:=λJ call L=>(a [] call L).bind λv L=>(b [] call L).bind λw L=>a7 (compare ao.F o L.h v w) 90 λb=> .ok (gb b) L
def ur(ao:eB)(o gK:jx)(a b c:D):D:=λJ call L=>(a [] call L).bind λv L=>(b [] call L).bind λw L=>a7 (compare ao.F o L.h v w) 91 λt=>aA t ((c [] call L).bind λu L=>a7 (compare ao.F gK L.h w u) 91 λb=> .ok (gb b) L) (.ok .aM L)
def ia(ao:eB)(f l:D):D:=λJ call L=>(f [] call L).bind λv L=>(l [] call L).ea λvs L=>B8 ao v vs call L
def yw(ao:eB)(o:D)(m:Nat)(b:je)(l:D):D:=λJ call L=>(o [] call L).bind λv L=>a7 (uo ao v m b L) 92 λt=>(l [] call L).ea λvs L=>B7 ao t v b vs call L
def d4(o:D)(n:Nat):D:=λJ call L=>(o [] call L).bind λv L=>getAttr v n L
def hSub(ao:eB)(a i:D):D:=λJ call L=>(a [] call L).bind λv L=>(i [] call L).bind λw L=>KD ao v w L
def CJ(ao:eB)(a lo dd:D):D:=λJ call L=>(a [] call L).bind λv L=>(lo [] call L).bind λx L=>(dd [] call L).bind λy L=>slice ao v x y L
def Dt(ao:eB)(k:Nat):D:=λJ J L=>N0 (λJ J J free J J J=>a7 (iW L.fr free) 93 λcs=>L.alloc (.lam k cs) .ok) (ao.fn k)
def KH(w:Nat):D:=λJ J J=> .stuck w
def eC:D:=λJ J L=> .args [] L
def f5(a r:D):D:=λJ call L=>(a [] call L).bind λv L=>(r [] call L).ea λvs L=> .args (v::vs) L
def c5(n:Nat):D:=λvs J L=>bQ vs λv=>L.f4 n v .next
def CK(n:Nat):D:=λvs J L=>bQ vs λv=>ht (L.fr.get n) λi=>m7 (L.h.get i) (λJ=>L.put i (.cell (U v)) .next) (.stuck 94)
def CL(o:D)(n:Nat):D:=λvs call L=>bQ vs λv=>(o [] call L).bind λw s=>rg w n v s
def CM(ao:eB)(a i:D):D:=λvs call L=>bQ vs λv=>(a [] call L).bind λx s=>(i [] call s).bind λw s=>IH ao x w v s
def B9(ao:eB)(a lo dd:D):D:=λvs call L=>bQ vs λv=>(a [] call L).bind λw s=>(lo [] call s).bind λx s=>(dd [] call s).bind λy s=>HG ao w x y v s
def m9(n:Nat)(l:D):D:=λvs call L=>bQ vs λv=>bE v (λi=>i0 (L.h.get i) (λvs=>bV (aK (cU vs) n) 95 (l vs call L)) (.stuck 95)) (.stuck 95)
def l1:D:=λJ J L=> .next L
def jt:D:=λvs J L=>sw vs (.next L)
def hG(t r:D):D:=λvs call L=>cr (.stuck 96) (λv vs J=>(t [v] call L).seq λs=>r vs call s) vs
def jC(s r:D):D:=λJ call L=>(s [] call L).seq λL=>r [] call L
def Du(e:D):D:=λJ call L=>(e [] call L).bind λJ L=> .next L
def k6(t e:D):D:=λJ call L=>(e [] call L).bind λv L=>t [v] call L
def Dv(ao:eB)(o:D)(n:Nat)(op:hp)(e:D):D:=λJ call L=>(o [] call L).bind λv L=>(getAttr v n L).bind λold L=>(e [] call L).bind λw L=>a7 (ko (jA ao.F op old w) (KC old w)) 97 λr=>rg v n r L
def k7(o i:D):D:=λJ call L=>(o [] call L).bind λv L=>(i [] call L).bind λw L=>KF v w L
def yx(t b:D):D:=λJ call L=>tx t b call 2000 L
def rP(ao:eB)(tup:Bool)(t it b:D):D:=λJ call L=>(it [] call L).bind λv L=>pI v L λi e L=>bV (bs e ae λJ=>tup) 98 (kV ao.lf t b call 2000 i e L)
def Dw(e:D):D:=λJ call L=>(e [] call L).bind .ret
def us:D:=λJ J L=> .ret .none L
def Dx:D:=λJ J L=> .brk L
def yy(m:D):D:=λJ call L=>(m [] call L).bind λv L=>h_ L (bE v (λi=>p1 (L.h.get i) (λk b=>aA b (.stuck 107) (L.put i .nul (.exc k))) (.stuck 107)) (.stuck 107))
def fh(ao:eB)(r:Bool):D:=λJ J L=>ht (L.fr.get ao.dB.self) λi=>a7 (L.fr.get ao.dB.reason) 108 λJ=>p1 (L.h.get i) (λk b=>bV b 108 (L.put i (.ig k r) .next)) (.stuck 108)
def LQ(ao:eB):D:=jC (fh ao ae) (jC (fh ao af) l1)
def x5(b h:D):D:=λJ call L=>R.rec (motive:=λJ=>R) (λJ J=> .stuck 99) (λJ J=> .stuck 99) .next .brk .ret (λc s=>h [.cls c] call s) .stuck (b [] call L)
def CN:D:=λvs J L=>bQ vs λv=>rK v (λc=> .exc c L) (.stuck 100)
def yz(ao:eB)(d:Nat)(b r:D):D:=λvs call L=>bQ vs λv=>rK v (λc=>aA (ao.sub c d)
 (R.rec (motive:=λJ=>R) (λJ J=> .stuck 101) (λJ J=> .stuck 101) (λs=> .next (s.iB L.hf)) (λJ=> .stuck 101) (λv s=> .ret v (s.iB L.hf)) (λJ J=> .stuck 101) .stuck (b [] call (L.iB ae))) (r [v] call L)) (.stuck 101)
def x6(b f:D):D:=λJ call L=>R.rec (motive:=λJ=>R) (λJ J=> .stuck 102) (λJ J=> .stuck 102) (λs=>f [] call s) (λJ=> .stuck 102)
 (λv s=>R.rec (motive:=λJ=>R) (λJ J=> .stuck 105) (λJ J=> .stuck 105) (.ret v) (λJ=> .stuck 105) (λJ J=> .stuck 105) .exc .stuck (f [] call s))
 (λc s=>R.rec (motive:=λJ=>R) (λJ J=> .stuck 103) (λJ J=> .stuck 103) (λt=> .exc c (t.iB s.hf)) (λJ=> .stuck 103) (λJ J=> .stuck 103) (λJ J=> .stuck 103) .stuck (f [] call (s.iB ae))) .stuck (b [] call L)
def ju:D:=dq .tt
def c8(ao:eB)(x:X):D:=X.rec (motive:=λJ=>D) dq b9 yv (λJ v=>dq v) (λJ l=>l) (λk J J a r=>sa k a r) (λo J J a b=>k5 ao o a b) (λJ a=>jB a) (λJ a=>Dq a) (λJ J J t a b=>oH t a b)
 (λJ l=>ki l) (λJ l=>Dr l) Ds (λJ J J bk e t i=>hJ ao e t i ju bk) (λJ J J J bk e t i c=>hJ ao e t i c bk) (λn J x bk i c=>uR n i x c bk)
 (λJ o J a b=>i2 ao o a b) (λJ o J gK J a b c=>ur ao o gK a b c) (λJ J f l=>ia ao f l) (λJ m b J o l=>yw ao o m b l) (λJ n o=>d4 o n) (λJ J a i=>hSub ao a i) (λJ J J a lo dd=>CJ ao a lo dd) (dq .none)
 (λk J J=>Dt ao k) (KH 104) eC (λJ J a r=>f5 a r) c5 CK (λJ n o=>CL o n) (λJ J a i=>CM ao a i) (λJ J J a lo dd=>B9 ao a lo dd) (λk J l=>m9 k l) jt (λJ J t r=>hG t r)
 l1 (λJ J s r=>jC s r) (λJ e=>Du e) (λJ J t e=>k6 t e) (λJ n op J o e=>Dv ao o n op e) (λJ J o i=>k7 o i) (λJ J J t a b=>oH t a b) (λJ J t b=>yx t b) (λk J J J t i b=>rP ao k t i b)
 (λJ e=>Dw e) us Dx (λJ m=>yy m) (λJ J b h=>x5 b h) CN (λJ c J J b r=>yz ao c b r) (λJ J b f=>x6 b f) (LQ ao) x
def run(ao:eB)(n:Nat):Call:=fM (motive:=λJ=>Call) (λJ J J J=> .stuck 120) (λJ ih k as cs L=>t_ ao ih (c8 ao) k as cs L) n
end
end Mine.C
end
section
namespace Mine.G
open PySem (Pos Scope Str Operator CmpOp NameKind ScopeKind)
open Mine.C Mine.C.X
inductive jK(α:Type)where
 |lf |aB (a:α) (l r:jK α)
noncomputable def k(n:Nat):X:=a6 (.int (.ofNat n))
def cs(l:List X):X:=cr nil (λa J r=>cons a r) l
def av(l:List X):X:=cr bx (λa J r=>fH a r) l
def cf(n f:Nat)(l:List X):X:=qf (bG n (.fn f)) (cs l)
def bC(n:Nat)(f:hT)(l:List X):X:=qf (bG n (.bi f)) (cs l)
def ca(f:X)(l:List X):X:=qf f (cs l)
def aC(o:X)(n:Nat)(l:List X):X:=NX o n .f7 (cs l)
def aW(o:X)(n:Nat)(b:je)(l:List X):X:=NX o n b (cs l)
def ls(l:List X):X:=lst (cs l)
def a9(l:List X):X:=aeD (cs l)
def tt(n:Nat)(l:List X):X:=ada n (cr adb (λa J r=>abo a r) l)
noncomputable def ad(a b:X):X:=bin .Add a b
noncomputable def cp(n m:Nat):X:=bG n (.int (.ofNat m))
noncomputable def aJ(n:Nat):X:=aX (loc 7) n
noncomputable def be(p:List Nat)(x:X)(l r:jK jJ):jK jJ:= .aB ⟨p, [], [], [],af,x, .no⟩ l r
def Na:X:=cf 222 131 [bt 209]
def Nb:X:=cf 223 132 [bt 209,bt 12]
def Nc:X:=aC (aC (bt 209) 107 [a6 (.aZ ⟨2,102447⟩),cp 92 3,k 1,k 1]) 66 []
def Nd:X:=cf 241 138 [bt 236,bt 228]
def Nf:X:=cf 221 130 [bt 236,lam 149 Nd]
def Ng:X:=cf 242 139 [bt 236,bt 228]
def Nh:X:=cf 221 130 [bt 236,lam 151 Ng]
def Ni:X:=cf 243 140 [bt 236,bt 228]
def Nj:X:=cf 244 141 [bt 236,bt 228]
def Nk:X:=cf 221 130 [bt 236,lam 154 Nj]
def Nl:X:=aC (bt 236) 157 [a6 (.aZ ⟨2,104495⟩)]
noncomputable def Nm:X:=a6 .none
def Nn:X:=aC (aX (bt 209) 48) 153 [cp 94 2]
def No:X:=aC (bt 89) 63 [k 0,bin .Mult (a6 (.aZ ⟨1,55⟩)) (k 128)]
def Np:X:=aC (bt 89) 66 []
def Nq:X:=aC (bt 209) 230 [a6 (.aZ ⟨2,104495⟩)]
def N1:X:=av [ret (dh (dJ ae (cmp (aJ 49) .Eq (k 0)) (cmp (aJ 161) .Eq (k 0))))]
def N2:X:=av [bu (cmp (bC 81 .len [aJ 28]) .Lt (aJ 164)) (av [De]) bx,fP ae (tt 2 [aO 58,aO 85]) (bC 42 .enumerate [aJ 28]) (av [bu (aC (loc 85) 171 []) (av [del (aJ 165) (aX (loc 85) 46),del (aJ 28) (loc 58),De]) bx]),cu (ca (bG 83 (.cls 3)) [a6 (.str 38)])]
def Nr:X:=av [ret (bin .Sub (aJ 164) (bC 81 .len [rI (loc 85) (aO 85) (aJ 28) (not (aC (loc 85) 171 [])) []]))]
def sz:X:=aH (aO 248) (vb (cmp (loc 247) .Eq (ls [])) (ls [k 0]) (np (bin .Mod (bC 249 .abs [loc 235]) (bin .Pow (k 10) (k 9))) (aO 235) (subs (loc 247) f7 (k 8)) []))
def vL:X:=aH (aO 12) (bin .Mult (bC 45 .bytes [ls [ad (bin .Mod (bC 219 .sum [loc 248]) (k 250)) (k 1)]]) (ad (k 1) (bin .Mod (bC 219 .sum [loc 248]) (k 70))))
def oU:X:=aH (kg 209) (cf 250 134 [loc 12])
def sA:X:=fP af (aO 235) (loc 248) (av [bu (not (cf 251 143 [bt 209,loc 235])) (av [ret (a6 .aM)]) bx])
def vM:X:=aH (tt 2 [kg 89,aO 145]) (a9 [aC (bt 209) 157 [a6 (.aZ ⟨2,104495⟩)],aC (bt 209) 145 []])
def vN:X:=bu (dh (dJ af (cmp (aC (bt 89) 62 [k 0,k 99]) .NotEq (loc 12)) (cmp (aC (bt 209) 110 [loc 145]) .NotEq (ls [a6 (.aZ ⟨1,46⟩),a6 (.aZ ⟨2,47150⟩),a6 (.aZ ⟨1,102⟩),a6 (.aZ ⟨1,100⟩)])))) (av [ret (a6 .aM)]) bx
def vO:X:=aS (cf 221 130 [bt 209,lam 160 Np])
def vP:X:=aS (cf 221 130 [bt 209,lam 161 Nq])
noncomputable def vQ:X:=aH (aO 212) (aX (aX (bt 209) 48) 70)
def vi:X:=bu (dh (dJ af (cmp (aC (bt 209) 110 [loc 145]) .NotEq (ls [a6 (.aZ ⟨1,46⟩),a6 (.aZ ⟨2,47150⟩),a6 (.aZ ⟨1,100⟩)])) (cmp (aC (aX (bt 209) 48) 252 []) .NotEq (bin .Sub (bin .Sub (aX (loc 212) 20) (aX (loc 212) 36)) (k 1))))) (av [ret (a6 .aM)]) bx
def vj:X:=ret (dh (dJ af (cmp (k 5) .NotIn (np (bin .Mod (loc 235) (k 6)) (aO 235) (loc 248) [])) (cf 253 144 [])))
def rQ:X:=av [sz,vL,oU,sA,vM,vN,vO,vP,vQ,vi,vj]
def yX:jK jJ:=be [6] (av [vc (a6 .tt) (av [raw])]) (.aB ⟨[7,8],[(.str 0)],[],[],af,aeE,.no⟩ (be [12,13] (av [ret (bin .BitOr (sub (loc 12) (loc 13)) (bin .LShift (sub (loc 12) (ad (loc 13) (k 1))) (k 8)))]) (be [17,18] (av [ret (bin .FloorDiv (bin .Sub (ad (loc 17) (loc 18)) (k 1)) (loc 18))]) (be [7,48,46] (av [aH (bT (loc 7) 48) (loc 48),aH (bT (loc 7) 46) (loc 46),aH (bT (loc 7) 49) (k 1),aH (bT (loc 7) 50) (cp 51 0),aH (bT (loc 7) 52) (k 0),aH (bT (loc 7) 53) (k 0),aH (bT (loc 7) 54) (k 0),aH (bT (loc 7) 18) (k 0),aH (bT (loc 7) 55) (ls [])]) (.aB ⟨[7,50,52,53],[(.int (.ofNat 0)),(.int (.ofNat 0))],[],[],af,(av [bu (cmp (loc 50) .NotIn (a9 [cp 56 1,cp 94 2,cp 92 3])) (av [cu (ca (bG 26 (.cls 1)) [a6 (.str 11)])]) bx,fP af (aO 46) (bC 59 .range [k 1,aX (aJ 70) 21]) (av [bu (cmp (sub (aC (loc 7) 95 [loc 46]) (k 0)) .Eq (cp 51 0)) (av [aH (aO 89) (ca (bG 90 (.cls 8)) [loc 7,loc 46]),aH (tt 3 [bT (loc 89) 50,bT (loc 89) 52,bT (loc 89) 53]) (a9 [loc 50,loc 52,loc 53]),aH (bT (loc 89) 55) (bin .Mult (ls [k 0]) (ad (aX (aJ 70) 23) (k 1))),aS (aC (loc 7) 65 [loc 89]),aH (jy (aJ 74) (loc 46)) (loc 89),ret (loc 89)]) bx]),cu (ca (bG 83 (.cls 3)) [a6 (.str 12)])]),.no⟩ (be [7,89,121] (av [oy (av [aH (aO 40) (aC (loc 7) 143 [loc 89,loc 121]),bu (dh (dJ af (cmp (loc 40) .Is (a6 .none)) (cmp (aX (loc 89) 54) .Eq (k 0)))) (av [cu (ca (bG 124 (.cls 4)) [a6 (.str 25)])]) bx,ret (aW (aJ 48) 4 .get [sub (loc 40) (k 0)])]) (av [aS (aC (loc 89) 66 [])])]) (be [7,191,208] (av [fP ae (tt 2 [aO 58,aO 46]) (bC 42 .enumerate [loc 191]) (av [aH (aO 12) (aC (aJ 69) 206 [vb (loc 208) (ad (ad (aJ 113) (k 1)) (loc 58)) (loc 46)]),aS (aC (aJ 69) 205 [loc 46,loc 12])]),aS (aC (aJ 69) 173 [])]) .lf .lf) .lf) (.aB ⟨[7,46],[],[],[],af,(av [aH (aO 40) (aW (aJ 165) 4 .get [loc 46]),bu (dh (dJ af (cmp (loc 40) .Is (a6 .none)) (cmp (aX (loc 40) 161) .Eq (k 0)))) (av [cu (ca (bG 26 (.cls 1)) [a6 (.str 39)])]) bx,aug (loc 40) 161 .Sub (k 1)]),.LI⟩ (.aB ⟨[],[],[],[89],ae,No,.no⟩ .lf .lf) .lf)) (.aB ⟨[7,89],[],[7],[],af,(av [aH (aO 23) (aX (aX (bt 7) 70) 23),aH (aO 20) (rI (loc 46) (aO 46) (aX (loc 89) 55) (cmp (loc 46) .NotEq (k 0)) []),bu (cmp (sub (aX (loc 89) 55) (loc 23)) .NotEq (k 0)) (av [aH (aO 20) (ad (ad (subs (loc 20) f7 (neg (k 1))) (aC (bt 7) 119 [sub (aX (loc 89) 55) (loc 23)])) (subs (loc 20) (neg (k 1)) f7))]) bx,aS (aC (bt 7) 96 [ad (ls [sub (aC (aX (bt 7) 70) 84 [aX (loc 89) 46]) (k 0)]) (np (sub (aC (aX (bt 7) 70) 98 [loc 46]) (k 0)) (aO 46) (loc 20) [7])]),fP af (aO 46) (loc 20) (av [aS (aC (bt 7) 120 [loc 46])]),aH (bT (loc 89) 55) (bin .Mult (ls [k 0]) (ad (loc 23) (k 1))),aH (bT (loc 89) 18) (k 0),aS (aC (bt 7) 65 [loc 89])]),.no⟩ (be [7,58,17] (av [bu (dh (dJ af (cmp (loc 58) .Lt (k 0)) (dJ af (cmp (loc 17) .Lt (k 0)) (cmp (ad (loc 58) (loc 17)) .Gt (bC 81 .len [aJ 38]))))) (av [cu (ca (bG 26 (.cls 1)) [a6 (.str 33)])]) bx]) (.aB ⟨[209,235],[],[236,228],[],af,(av [aH (tt 2 [aO 231,kg 228]) (a9 [bin .Mod (loc 235) (k 6),bin .FloorDiv (loc 235) (k 6)]),aH (kg 236) (vb (cmp (loc 231) .Eq (k 4)) (cf 237 142 [loc 209,bt 228]) (loc 209)),aH (aO 238) (cf 239 135 [bt 236]),aH (tt 2 [aO 210,aO 240]) (sub (ls [a9 [lam 150 Nf,a6 (.str 55)],a9 [lam 152 Nh,a6 (.str 53)],a9 [lam 153 Ni,a6 (.str 56)],a9 [lam 155 Nk,a6 (.str 55)],a9 [lam 156 Nl,a6 (.str 54)],a9 [lam 157 Nm,a6 (.str 57)]]) (loc 231)),ret (dh (dJ ae (cmp (cf 245 136 [loc 210]) .Eq (loc 240)) (cmp (cf 239 135 [bt 236]) .Eq (loc 238))))]),.no⟩ .lf .lf) .lf) (be [7,17] (av [bu (cmp (loc 17) .Lt (k 0)) (av [cu (ca (bG 26 (.cls 1)) [a6 (.str 41)])]) bx,aH (bT (loc 7) 181) (ad (aJ 179) (loc 17))]) .lf .lf))) (be [7] (av [aS (aC (aJ 48) 65 [loc 7])]) (be [7,46] (av [aH (aO 85) (aW (aJ 69) 4 .get [loc 46]),aS (aC (loc 85) 104 []),aS (aC (aJ 67) 63 [loc 85]),aS (aC (aJ 69) 86 [loc 85])]) (.aB ⟨[7,155,156,144],[.none],[],[],af,(av [aH (aO 89) (aC (loc 7) 157 [loc 155,loc 144]),oy (av [bu (aC (loc 89) 131 []) (av [cu (ca (bG 124 (.cls 4)) [a6 (.str 29)])]) bx,aH (tt 2 [aO 150,aO 121]) (aC (loc 7) 151 [loc 156,loc 144]),oy (av [bu (cmp (aX (loc 150) 54) .Eq (k 0)) (av [cu (ca (bG 124 (.cls 4)) [a6 (.str 28)])]) bx,aS (aC (loc 7) 154 [loc 150,loc 121,aX (loc 89) 46])]) (av [aS (aC (loc 150) 66 [])]),aH (bT (loc 89) 54) (ad (aX (loc 89) 54) (k 1)),aS (aC (loc 89) 65 [])]) (av [aS (aC (loc 89) 66 [])])]),.no⟩ (.aB ⟨[209],[],[212,163],[],af,(av [aH (aO 48) (aX (loc 209) 48),aH (tt 2 [kg 212,kg 163]) (a9 [aX (loc 48) 70,aX (aX (loc 48) 69) 163]),aH (aO 20) (rI (aC (bt 163) 62 [loc 6]) (aO 6) (bC 59 .range [aX (bt 212) 20]) (not (ox (aX (bt 212) 31) .LtE (loc 6) .Lt (aX (bt 212) 33))) [163,212]),ret (a9 [loc 20,bC 224 .sorted [aX (loc 48) 74],aX (aX (loc 48) 67) 77,aC (aX (loc 48) 67) 82 [],aC (aX (loc 48) 69) 225 []])]),.no⟩ .lf .lf) .lf) (be [7,20,18] (av [bu (dh (dJ af (cmp (loc 20) .Lt (k 1)) (cmp (loc 18) .Lt (k 1)))) (av [cu (ca (bG 26 (.cls 1)) [a6 (.str 40)])]) bx,aH (bT (loc 7) 20) (loc 20),aH (bT (loc 7) 18) (loc 18),aH (bT (loc 7) 176) r5,aH (bT (loc 7) 177) r5,aH (bT (loc 7) 178) (ls []),aH (bT (loc 7) 9) (k 0),aH (bT (loc 7) 179) (k 0),aH (bT (loc 7) 180) (a6 .none),aH (bT (loc 7) 181) (a6 .none),aH (bT (loc 7) 182) (a6 .aM)]) .lf .lf)) (be [7] (av [ret (aW (aJ 48) 4 .get [cp 130 1])]) (be [7,58,15] (av [aS (cf 60 0 [k 7])]) (.aB ⟨[],[],[],[236,228],ae,Ng,.no⟩ .lf .lf) .lf) (be [7] (av [ret (cmp (ad (bC 81 .len [aJ 191]) (bin .Mult (ad (aJ 77) (k 1)) (aJ 193))) .LtE (aJ 164))]) .lf .lf)))) (be [7] (av [aH (aO 38) (bin .Sub (aJ 20) (aJ 36)),ret (ls [cp 39 270544960,aJ 20,loc 38,aJ 21,aJ 22,aJ 31,aJ 33,aJ 34,aJ 23])]) (be [7] (av [aS (cf 60 0 [k 0])]) (be [7] (av [aS (cf 60 0 [k 2])]) (.aB ⟨[7,122,144],[.none],[],[],af,(av [aH (aO 110) (cf 149 51 [loc 122]),bu (cmp (loc 110) .Eq (ls [])) (av [cu (ca (bG 124 (.cls 4)) [a6 (.str 27)])]) bx,aH (aO 150) (aC (loc 7) 148 [loc 122,subs (loc 110) f7 (neg (k 1)),loc 144]),bu (not (aC (loc 150) 131 [])) (av [aS (aC (loc 150) 66 []),cu (ca (bG 124 (.cls 4)) [a6 (.str 20)])]) bx,ret (a9 [loc 150,sub (loc 110) (neg (k 1))])]),.no⟩ (be [209] (av [aH (aO 89) (aC (aX (loc 209) 48) 153 [cp 56 1]),aH (bT (loc 89) 54) (k 1),aS (aC (loc 89) 65 []),aS (aC (loc 209) 154 [loc 89,a6 (.aZ ⟨1,46⟩),k 1]),aS (aC (loc 209) 154 [loc 89,a6 (.aZ ⟨2,47150⟩),k 1]),aS (aC (loc 89) 66 [])]) .lf .lf) .lf) (be [7,46,12] (av [aS (aC (loc 7) 168 [loc 46]),bu (cmp (bC 81 .len [loc 12]) .NotEq (aJ 18)) (av [cu (ca (bG 26 (.cls 1)) [a6 (.str 34)])]) bx,aH (aO 85) (aW (loc 7) 4 .get [loc 46]),aS (aC (loc 85) 174 [loc 12]),aS (aC (loc 7) 63 [loc 85]),aS (aC (loc 7) 86 [loc 85])]) .lf .lf)) (be [122] (av [aH (tt 2 [aO 40,aO 114]) (a9 [ls [],bC 41 .bytearray []]),fP af (aO 47) (ad (cf 125 49 [loc 122]) (a6 (.aZ ⟨1,47⟩))) (av [bu (cmp (loc 47) .NotEq (cp 127 47)) (av [aS (aW (loc 114) 1 .append [loc 47])]) (av [bu (cmp (bC 81 .len [loc 114]) .Gt (k 0)) (av [aS (aW (loc 40) 1 .append [cf 128 50 [loc 114]]),aH (aO 114) (bC 41 .bytearray [])]) bx])]),ret (loc 40)]) (be [7] (av [aH (uk (aJ 38) f7 f7) (bC 45 .bytes [bC 81 .len [aJ 38]])]) (.aB ⟨[],[],[],[12,209],ae,Nb,.no⟩ .lf .lf) .lf) (be [15] (av [bu (bC 123 .isinstance [loc 15,bG 73 (.bi .int)]) (av [cu (ca (bG 75 (.cls 2)) [a6 (.str 43)])]) bx,yk (av [ret (bC 45 .bytes [loc 15])]) raw]) .lf .lf))) (be [7,46] (av [bu (not (ox (k 1) .LtE (loc 46) .Lt (aX (aJ 70) 21))) (av [cu (ca (bG 75 (.cls 2)) [ad (a6 (.str 5)) (bC 76 .str [loc 46])])]) bx]) (be [7,110,106,107] (av [aH (aO 85) (aW (aJ 69) 4 .get [loc 110]),aH (aO 40) (cf 57 4 [aX (loc 85) 38,bin .Mult (k 4) (loc 106)]),aS (aC (aJ 69) 86 [loc 85]),bu (dh (dJ ae (cmp (loc 40) .Eq (k 0)) (loc 107))) (av [aH (aO 40) (aC (loc 7) 108 []),aH (aO 85) (aW (aJ 69) 4 .get [loc 110]),aS (cf 44 6 [aX (loc 85) 38,bin .Mult (k 4) (loc 106),loc 40]),aS (aC (aJ 67) 63 [loc 85]),aS (aC (aJ 69) 86 [loc 85])]) bx,ret (loc 40)]) (.aB ⟨[7,122,52,53,144],[.none],[],[],af,(av [aS (cf 60 0 [k 4])]),.no⟩ (be [209,228] (av [aH (tt 2 [aO 122,aO 231]) (a9 [sub (ls [a6 (.aZ ⟨2,47⟩),a6 (.aZ ⟨3,104495⟩),a6 (.aZ ⟨4,105226798127⟩),a6 (.aZ ⟨3,48230⟩)]) (bin .Mod (loc 228) (k 4)),bin .Mod (bin .FloorDiv (loc 228) (k 4)) (k 4)]),bu (cmp (loc 231) .Eq (k 0)) (av [aS (aC (loc 209) 107 [loc 122,cp 94 2])]) (av [bu (cmp (loc 231) .Eq (k 1)) (av [aS (aC (loc 209) 157 [loc 122])]) (av [bu (cmp (loc 231) .Eq (k 2)) (av [aS (aC (loc 209) 230 [loc 122])]) (av [aS (aC (loc 209) 232 [a6 (.aZ ⟨2,104495⟩),loc 122])])])])]) .lf .lf) .lf) (be [7,46,12] (av [aS (aC (loc 7) 184 []),aS (aC (loc 7) 168 [loc 46]),aH (aO 19) (cf 185 115 [loc 12]),bu (cmp (bC 81 .len [loc 19]) .NotEq (aJ 18)) (av [cu (ca (bG 75 (.cls 2)) [raw])]) bx,bu (dh (dJ ae (cmp (aJ 180) .IsNot (a6 .none)) (cmp (aJ 9) .GtE (aJ 180)))) (av [aS (aC (loc 7) 186 [])]) bx,aug (loc 7) 9 .Add (k 1),aH (jy (aJ 177) (loc 46)) (loc 19),aS (aW (aJ 178) 1 .append [a9 [loc 46,loc 19]])]) .lf .lf)) (be [7,89,121] (av [aH (aO 135) (cf 128 50 [loc 121]),fP ae (tt 3 [aO 58,aO 46,aO 136]) (aC (loc 7) 134 [loc 89]) (av [bu (dh (dJ ae (cmp (loc 46) .NotEq (k 0)) (cmp (loc 136) .Eq (loc 135)))) (av [ret (a9 [loc 46,loc 58])]) bx]),ret (a6 .none)]) (.aB ⟨[7,46],[],[],[],af,(av [aS (aC (loc 7) 168 [loc 46]),aH (aO 40) (aW (aJ 165) 4 .get [loc 46]),bu (cmp (loc 40) .Is (a6 .none)) (av [aS (aC (loc 7) 169 []),aH (aO 40) (ca (bG 170 (.cls 11)) [loc 46,aC (aJ 163) 62 [loc 46]]),aug (loc 7) 167 .Add (k 1),aH (jy (aJ 165) (loc 46)) (loc 40),aS (aW (aJ 28) 1 .append [loc 40])]) (av [aug (loc 7) 166 .Add (k 1)]),aug (loc 40) 49 .Add (k 1),ret (loc 40)]),.get⟩ (.aB ⟨[],[],[],[236,228],ae,Nk,.no⟩ .lf .lf) .lf) (be [7] (av [bu (cmp (aJ 77) .Eq (k 0)) (av [cu (ca (bG 26 (.cls 1)) [a6 (.str 52)])]) bx,aug (loc 7) 77 .Sub (k 1),bu (dh (dJ ae (cmp (aJ 77) .Eq (k 0)) (cmp (aJ 191) .NotEq (ls [])))) (av [aS (aC (loc 7) 200 [])]) bx]) .lf .lf))))) (be [12,13,15] (av [aH (jy (loc 12) (loc 13)) (bin .BitAnd (loc 15) (k 255)),aH (jy (loc 12) (ad (loc 13) (k 1))) (bin .BitAnd (bin .RShift (loc 15) (k 8)) (k 255))]) (be [7] (av [ret (ad (aJ 23) (aJ 30))]) (.aB ⟨[7,12,13,23],[],[12,13],[],af,(av [aH (bT (loc 7) 50) (cf 14 3 [bt 12,bt 13]),aH (bT (loc 7) 52) (cf 14 3 [bt 12,ad (bt 13) (k 2)]),aH (bT (loc 7) 53) (cf 14 3 [bt 12,ad (bt 13) (k 4)]),aH (bT (loc 7) 54) (cf 14 3 [bt 12,ad (bt 13) (k 6)]),aH (bT (loc 7) 18) (cf 57 4 [bt 12,ad (bt 13) (k 8)]),aH (bT (loc 7) 55) (np (cf 57 4 [bt 12,ad (ad (bt 13) (cp 24 12)) (bin .Mult (k 4) (loc 58))]) (aO 58) (bC 59 .range [ad (loc 23) (k 1)]) [13,12])]),.no⟩ (be [7,89] (av [aS (cf 60 0 [k 1])]) (be [7,122,110,144] (av [aH (aO 89) (aC (loc 7) 146 [loc 122,loc 144]),fP af (aO 121) (loc 110) (av [aH (aO 89) (aC (loc 7) 147 [loc 89,loc 121])]),ret (loc 89)]) (be [7] (av [aS (cf 60 0 [k 10])]) .lf .lf) .lf) (be [7] (av [aS (aC (aJ 163) 173 [])]) (.aB ⟨[],[],[],[209],ae,Nq,.no⟩ .lf .lf) .lf)) (be [122] (av [aH (aO 12) (vb (bC 123 .isinstance [loc 122,bG 76 (.bi .str)]) (aC (loc 122) 5 []) (bC 45 .bytes [loc 122])),bu (cmp (k 0) .In (loc 12)) (av [cu (ca (bG 124 (.cls 4)) [a6 (.str 19)])]) bx,ret (loc 12)]) (be [7,58,12] (av [aS (aC (loc 7) 162 [loc 58,bC 81 .len [loc 12]]),aH (uk (aJ 38) (loc 58) (ad (loc 58) (bC 81 .len [loc 12]))) (loc 12)]) (.aB ⟨[247],[],[89,209],[],af,rQ,.no⟩ .lf .lf) .lf) (be [7] (av [ret (aC (loc 7) 190 [bC 175 .list [bC 59 .range [bC 81 .len [aJ 178]]]])]) .lf .lf))) (be [7] (av [aS (aC (aJ 48) 66 [loc 7])]) (be [7] (av [aH (aO 40) (k 0),fP af (aO 46) (bC 59 .range [aX (aJ 70) 36,aX (aJ 70) 20]) (av [aH (tt 3 [aO 58,aO 13,aO 103]) (aC (aJ 70) 98 [loc 46]),aH (aO 85) (aW (aJ 69) 4 .get [loc 58]),bu (cmp (bin .BitAnd (sub (aX (loc 85) 38) (loc 13)) (loc 103)) .Eq (k 0)) (av [aH (aO 40) (ad (loc 40) (k 1))]) bx,aS (aC (aJ 69) 86 [loc 85])]),ret (loc 40)]) (be [7,150,46,58] (av [aH (aO 89) (aW (aJ 48) 4 .get [loc 46]),oy (av [bu (cmp (aX (loc 89) 54) .Lt (k 1)) (av [cu (ca (bG 75 (.cls 2)) [a6 (.str 31)])]) bx,bu (dh (dJ ae (aC (loc 89) 131 []) (not (aC (loc 7) 159 [loc 89])))) (av [cu (ca (bG 124 (.cls 4)) [a6 (.str 32)])]) bx,aS (aC (loc 7) 160 [loc 150,loc 58]),bu (aC (loc 89) 131 []) (av [aH (bT (loc 150) 54) (bin .Sub (aX (loc 150) 54) (k 1)),aS (aC (loc 150) 65 [])]) bx,aH (bT (loc 89) 54) (bin .Sub (aX (loc 89) 54) (k 1)),aS (aC (loc 89) 65 [])]) (av [aS (aC (loc 89) 66 [])])]) (be [48,226,227] (av [fP af (aO 6) (bC 59 .range [loc 227]) (av [aH (aO 85) (aW (aX (loc 48) 69) 4 .get [ad (loc 226) (loc 6)]),aS (aC (aX (loc 48) 67) 63 [loc 85]),aS (aC (aX (loc 48) 69) 86 [loc 85])])]) .lf .lf) .lf) (be [7,46] (av [bu (dh (dJ af (not (bC 123 .isinstance [loc 46,bG 73 (.bi .int)])) (not (ox (k 0) .LtE (loc 46) .Lt (aJ 20))))) (av [cu (ca (bG 75 (.cls 2)) [raw])]) bx]) .lf .lf)) (be [7,89] (av [aS (aC (loc 7) 132 [loc 89]),aH (aO 12) (aC (loc 89) 62 [k 0,aX (loc 89) 18]),aH (aO 40) (ls []),fP af (aO 58) (bC 59 .range [k 0,ad (bin .Sub (bC 81 .len [loc 12]) (cp 129 16)) (k 1),cp 129 16]) (av [aH (aO 28) (subs (loc 12) (loc 58) (ad (loc 58) (cp 129 16))),aS (aW (loc 40) 1 .append [a9 [loc 58,cf 14 3 [loc 28,k 0],cf 133 53 [loc 28]]])]),ret (loc 40)]) (be [7,46] (av [bu (dh (dJ af (not (bC 123 .isinstance [loc 46,bG 73 (.bi .int)])) (not (ox (k 0) .LtE (loc 46) .Lt (aX (aJ 163) 20))))) (av [cu (ca (bG 75 (.cls 2)) [a6 (.str 36)])]) bx]) (.aB ⟨[],[],[],[236,228],ae,Ni,.no⟩ .lf .lf) .lf) (be [7] (av [bu (not (aC (loc 7) 197 [])) (av [cu (ca (bG 83 (.cls 3)) [a6 (.str 48)])]) bx,aug (loc 7) 77 .Add (k 1)]) .lf .lf)))) (be [7,46] (av [ret (a9 [ad (aJ 33) (bin .FloorDiv (loc 46) (aJ 29)),bin .Mult (bin .Mod (loc 46) (aJ 29)) (aJ 28)])]) (be [7,61,12] (av [ret (aC (aJ 48) 63 [loc 7,loc 61,loc 12])]) (be [7,46] (av [aH (tt 3 [aO 58,aO 13,aO 103]) (aC (aJ 70) 98 [loc 46]),aH (aO 85) (aW (aJ 69) 4 .get [loc 58]),aH (jy (aX (loc 85) 38) (loc 13)) (bin .BitXor (sub (aX (loc 85) 38) (loc 13)) (loc 103)),aS (aC (aJ 67) 63 [loc 85]),aS (aC (aJ 69) 86 [loc 85])]) (be [7,46,50] (av [aH (aO 89) (aW (aJ 48) 4 .get [loc 46]),bu (dh (dJ ae (cmp (loc 50) .Eq (cp 94 2)) (cmp (aX (loc 89) 50) .In (a9 [cp 94 2,cp 92 3])))) (av [ret (loc 89)]) bx,aS (aC (loc 89) 66 []),cu (ca (bG 124 (.cls 4)) [a6 (.str 22)])]) (be [163,212] (av [ret (ca (bG 213 (.cls 10)) [ca (bG 214 (.cls 9)) [ca (bG 215 (.cls 14)) [ca (bG 216 (.cls 12)) [loc 163,k 16],aX (loc 212) 31,aX (loc 212) 22],loc 212]])]) .lf .lf) .lf) (.aB ⟨[7],[],[],[],af,Nr,.count⟩ .lf .lf)) (be [28] (av [aH (aO 40) (bC 41 .bytearray []),fP af (aO 47) (subs (loc 28) (k 2) (cp 129 16)) (av [bu (cmp (loc 47) .Eq (k 0)) (av [brk]) bx,aS (aW (loc 40) 1 .append [loc 47])]),ret (bC 45 .bytes [loc 40])]) (be [7,58,17,15] (av [aS (cf 60 0 [k 6])]) (.aB ⟨[],[],[],[236,228],ae,Nd,.no⟩ .lf .lf) .lf) (.aB ⟨[7,69,113,18,193],[.none],[],[],af,(av [bu (dh (dJ af (cmp (loc 113) .Lt (k 0)) (dJ af (cmp (loc 18) .Lt (k 2)) (cmp (ad (loc 113) (loc 18)) .Gt (aX (aX (loc 69) 163) 20))))) (av [cu (ca (bG 26 (.cls 1)) [a6 (.str 45)])]) bx,aH (bT (loc 7) 69) (loc 69),aH (bT (loc 7) 113) (loc 113),aH (bT (loc 7) 18) (loc 18),aH (bT (loc 7) 55) (bC 112 .min [bin .Sub (loc 18) (k 1),bin .Sub (bin .FloorDiv (aX (loc 69) 18) (cp 192 4)) (k 1)]),aH (bT (loc 7) 164) (bC 112 .min [aJ 55,bin .Sub (aX (loc 69) 164) (cp 194 4)]),bu (cmp (aJ 164) .Lt (k 1)) (av [cu (ca (bG 26 (.cls 1)) [a6 (.str 46)])]) bx,aH (bT (loc 7) 193) (vb (cmp (loc 193) .Is (a6 .none)) (bC 112 .min [cp 195 10,aJ 164]) (loc 193)),bu (not (ox (k 1) .LtE (aJ 193) .LtE (aJ 164))) (av [cu (ca (bG 26 (.cls 1)) [a6 (.str 47)])]) bx,aH (bT (loc 7) 191) (ls []),aH (bT (loc 7) 80) r5,aH (bT (loc 7) 77) (k 0),aH (bT (loc 7) 196) (k 0)]),.no⟩ .lf .lf))) (be [7,46] (av [aH (tt 2 [aO 19,aO 13]) (aC (aJ 70) 84 [loc 46]),aH (aO 85) (aW (aJ 69) 4 .get [loc 19]),aH (aO 40) (a9 [cf 14 3 [aX (loc 85) 38,loc 13],cf 14 3 [aX (loc 85) 38,ad (loc 13) (k 6)]]),aS (aC (aJ 69) 86 [loc 85]),ret (loc 40)]) (be [7,89,61,12] (av [bu (cmp (loc 61) .Lt (k 0)) (av [cu (ca (bG 26 (.cls 1)) [a6 (.str 18)])]) bx,bu (cmp (ad (loc 61) (bC 81 .len [loc 12])) .Gt (aC (aJ 70) 93 [])) (av [cu (ca (bG 83 (.cls 3)) [a6 (.str 17)])]) bx,aS (aC (loc 7) 96 [ls []]),aH (tt 2 [aO 116,aO 117]) (a9 [k 0,a6 .aM]),vc (dh (dJ ae (cmp (loc 116) .Lt (bC 81 .len [loc 12])) (cmp (aC (aJ 67) 82 []) .GtE (aJ 71)))) (av [aH (aO 117) (a6 .tt),aH (aO 114) (aC (loc 7) 118 [loc 89,ad (loc 61) (loc 116),loc 12,loc 116]),bu (cmp (loc 114) .Eq (k 0)) (av [brk]) bx,aH (aO 116) (ad (loc 116) (loc 114))]),bu (dh (dJ ae (cmp (loc 116) .Gt (k 0)) (cmp (ad (loc 61) (loc 116)) .Gt (aX (loc 89) 18)))) (av [aH (bT (loc 89) 18) (ad (loc 61) (loc 116))]) bx,bu (dh (dJ af (loc 117) (cmp (aC (aJ 67) 82 []) .Gt (k 0)))) (av [aS (aC (loc 7) 65 [loc 89])]) bx,ret (loc 116)]) (be [7] N1 (be [209,228] (av [aS (cf 229 137 [aX (loc 209) 48,ad (aX (aX (aX (loc 209) 48) 70) 36) (k 5),k 9]),aH (aO 89) (aC (loc 209) 157 [a6 (.aZ ⟨2,104495⟩)]),aS (aC (loc 89) 63 [bin .Mod (loc 228) (k 5),a6 (.aZ ⟨3,128050296⟩)]),aS (aC (loc 89) 66 []),aS (aC (aX (loc 209) 48) 153 [cp 94 2])]) .lf .lf) .lf) (be [7] (av [aS (aC (loc 7) 184 []),bu (dh (dJ ae (cmp (aJ 181) .IsNot (a6 .none)) (cmp (aJ 179) .GtE (aJ 181)))) (av [aS (aC (loc 7) 186 [])]) bx,aug (loc 7) 179 .Add (k 1),fP ae (tt 2 [aO 46,aO 12]) (aJ 178) (av [aH (jy (aJ 176) (loc 46)) (loc 12)]),aH (bT (loc 7) 178) (ls [])]) .lf .lf)) (be [7,89,58] (av [bu (cmp (aC (loc 89) 63 [loc 58,bC 45 .bytes [cp 129 16]]) .Lt (cp 129 16)) (av [cu (ca (bG 83 (.cls 3)) [a6 (.str 24)])]) bx]) (.aB ⟨[7,85],[],[],[],af,(av [aS (aC (loc 7) 172 [loc 85]),aug (loc 85) 49 .Sub (k 1),bu (cmp (aX (loc 85) 49) .Eq (k 0)) (av [aS (aW (aJ 28) 2 .remove [loc 85]),aS (aW (aJ 28) 1 .append [loc 85])]) bx]),.release⟩ (.aB ⟨[],[],[],[],ae,Nm,.no⟩ .lf .lf) .lf) (be [7] (av [fP ae (tt 2 [aO 58,aO 46]) (bC 42 .enumerate [aJ 191]) (av [aS (aC (aJ 69) 205 [ad (ad (aJ 113) (k 1)) (loc 58),aC (aJ 69) 206 [loc 46]])]),aS (aC (aJ 69) 173 [])]) .lf .lf)))))) (be [7,9] (av [aS (aC (bG 10 (.cls 0)) 11 [loc 7,raw]),aH (bT (loc 7) 9) (loc 9)]) (be [12,13] (av [ret (bin .BitOr (cf 14 3 [loc 12,loc 13]) (bin .LShift (cf 14 3 [loc 12,ad (loc 13) (k 2)]) (k 16)))]) (.aB ⟨[7,19,20,21,22,23],[(.int (.ofNat 12))],[],[],af,(av [bu (dh (dJ af (cmp (loc 23) .Lt (k 1)) (dJ af (cmp (loc 19) .Lt (ad (cp 24 12) (bin .Mult (k 4) (ad (loc 23) (k 1))))) (cmp (loc 19) .Lt (bin .Mult (k 4) (cp 25 9)))))) (av [cu (ca (bG 26 (.cls 1)) [a6 (.str 1)])]) bx,bu (cmp (bin .Mod (loc 19) (cp 27 16)) .NotEq (k 0)) (av [cu (ca (bG 26 (.cls 1)) [a6 (.str 2)])]) bx,bu (dh (dJ af (cmp (loc 21) .Lt (k 2)) (dJ af (cmp (loc 22) .Lt (k 2)) (cmp (loc 20) .Lt (k 1))))) (av [cu (ca (bG 26 (.cls 1)) [a6 (.str 3)])]) bx,aH (bT (loc 7) 19) (loc 19),aH (bT (loc 7) 20) (loc 20),aH (bT (loc 7) 21) (loc 21),aH (bT (loc 7) 22) (loc 22),aH (bT (loc 7) 23) (loc 23),aH (bT (loc 7) 28) (ad (cp 24 12) (bin .Mult (k 4) (ad (loc 23) (k 1)))),aH (bT (loc 7) 29) (bin .FloorDiv (loc 19) (aJ 28)),aH (bT (loc 7) 30) (bin .FloorDiv (loc 19) (k 4)),aH (bT (loc 7) 31) (cp 32 2),aH (bT (loc 7) 33) (ad (cp 32 2) (loc 22)),aH (bT (loc 7) 34) (ad (aJ 33) (cf 35 7 [loc 21,aJ 29])),aH (bT (loc 7) 36) (ad (aJ 34) (cf 35 7 [loc 20,bin .Mult (k 8) (loc 19)])),bu (cmp (aJ 36) .GtE (loc 20)) (av [cu (ca (bG 26 (.cls 1)) [a6 (.str 4)])]) bx]),.no⟩ (be [7] (av [ret (cmp (aJ 50) .Eq (cp 56 1))]) (be [7,89] (av [aH (tt 2 [aO 19,aO 13]) (aC (aJ 70) 84 [aX (loc 89) 46]),aS (aC (loc 7) 96 [ls [loc 19]]),aH (aO 85) (aW (aJ 69) 4 .get [loc 19]),aS (aC (loc 89) 97 [aX (loc 85) 38,loc 13]),aS (aC (aJ 67) 63 [loc 85]),aS (aC (aJ 69) 86 [loc 85])]) (be [7,122,144] (av [aH (aO 12) (cf 125 49 [loc 122]),bu (dh (dJ af (cmp (loc 144) .Is (a6 .none)) (cmp (subs (loc 12) f7 (k 1)) .Eq (a6 (.aZ ⟨1,47⟩))))) (av [ret (aC (loc 7) 145 [])]) bx,ret (aC (loc 144) 88 [])]) (be [7] (av [aS (cf 60 0 [k 9])]) .lf .lf) .lf) (be [7,85] (av [aS (aC (loc 7) 172 [loc 85]),aS (aC (aJ 163) 63 [aX (loc 85) 46,aC (loc 85) 12 []]),aug (loc 7) 9 .Add (k 1)]) (.aB ⟨[],[],[],[89],ae,Np,.no⟩ .lf .lf) .lf)) (.aB ⟨[7,46],[],[85],[],af,(av [aH (kg 85) (aW (aJ 69) 4 .get [loc 46]),aH (aO 40) (np (cf 57 4 [aX (bt 85) 38,bin .Mult (k 4) (loc 106)]) (aO 106) (bC 59 .range [aX (aJ 70) 30]) [85]),aS (aC (aJ 69) 86 [bt 85]),ret (rI (loc 121) (aO 121) (loc 40) (cmp (loc 121) .NotEq (k 0)) [])]),.no⟩ (be [7,58,17] (av [aS (aC (loc 7) 162 [loc 58,loc 17]),ret (bC 45 .bytes [subs (aJ 38) (loc 58) (ad (loc 58) (loc 17))])]) (.aB ⟨[],[],[89,209],[],af,(av [aH (aO 212) (ca (bG 218 (.cls 7)) [k 64,k 540,k 2,k 12,k 2]),aH (aO 163) (ca (bG 188 (.cls 13)) [aX (loc 212) 20,k 64]),aS (aC (loc 163) 63 [aX (loc 212) 34,bC 45 .bytes [ad (ls [k 255,k 255,k 143]) (bin .Mult (ls [k 255]) (k 61))]]),aS (aC (loc 163) 63 [ad (aX (loc 212) 34) (k 1),bC 45 .bytes [ad (ls [k 255,k 255,k 251]) (bin .Mult (ls [k 255]) (k 61))]]),aH (kg 209) (cf 220 133 [loc 163,loc 212]),aH (kg 89) (cf 221 130 [bt 209,lam 158 Nn]),aH (aO 246) (ls [cf 221 130 [bt 209,lam 159 No]]),fP af (aO 82) (a9 [k 4,k 5]) (av [aS (aC (aX (aX (bt 209) 48) 67) 211 []),aS (cf 229 137 [aX (bt 209) 48,k 30,bin .Sub (k 11) (loc 82)]),aS (aW (loc 246) 1 .append [aC (bt 89) 63 [k 128,a6 (.aZ ⟨5,126552399512686⟩)]]),aS (aC (aX (aX (bt 209) 48) 67) 111 [])]),ret (dh (dJ ae (cmp (loc 246) .Eq (ls [k 128,k 0,k 5])) (dJ ae (cmp (aC (bt 89) 62 [k 126,k 9]) .Eq (a6 (.aZ ⟨7,132699808871414291511⟩))) (dJ ae (cmp (aX (bt 89) 55) .Eq (ls [k 20,k 21,k 22])) (cmp (aC (aX (bt 209) 48) 119 [k 22]) .Eq (ls [k 530]))))))]),.no⟩ .lf .lf) .lf) (be [7,187] (av [aH (tt 2 [aO 40,aO 55]) (a9 [ca (bG 188 (.cls 13)) [aJ 20,aJ 18],bC 175 .list [loc 187]]),aH (bT (loc 40) 176) (bC 189 .dict [aJ 176]),fP af (aO 58) (loc 55) (av [bu (not (ox (k 0) .LtE (loc 58) .Lt (bC 81 .len [aJ 178]))) (av [cu (ca (bG 26 (.cls 1)) [a6 (.str 42)])]) bx]),fP ae (tt 2 [aO 58,tt 2 [aO 46,aO 12]]) (bC 42 .enumerate [aJ 178]) (av [bu (cmp (loc 58) .In (loc 55)) (av [aH (jy (aX (loc 40) 176) (loc 46)) (loc 12)]) bx]),aH (bT (loc 40) 177) (bC 189 .dict [aX (loc 40) 176]),ret (loc 40)]) .lf .lf))) (be [7] (av [aH (bT (loc 7) 49) (ad (aJ 49) (k 1)),ret (loc 7)]) (be [7,46] (av [bu (not (ox (aX (aJ 70) 36) .LtE (loc 46) .Lt (aX (aJ 70) 20))) (av [cu (ca (bG 75 (.cls 2)) [ad (a6 (.str 15)) (bC 76 .str [loc 46])])]) bx,aH (tt 3 [aO 58,aO 13,aO 103]) (aC (aJ 70) 98 [loc 46]),aH (aO 85) (aW (aJ 69) 4 .get [loc 58]),aH (aO 105) (cmp (bin .BitAnd (sub (aX (loc 85) 38) (loc 13)) (loc 103)) .NotEq (k 0)),aS (aC (aJ 69) 86 [loc 85]),bu (not (loc 105)) (av [cu (ca (bG 75 (.cls 2)) [ad (ad (a6 (.str 16)) (bC 76 .str [loc 46])) (a6 (.str 9))])]) bx,aS (aC (loc 7) 96 [ls [loc 58]]),aS (aC (loc 7) 100 [loc 46])]) (.aB ⟨[7,122,144],[.none],[],[],af,(av [aH (tt 2 [aO 150,aO 121]) (aC (loc 7) 151 [loc 122,loc 144]),oy (av [bu (cmp (loc 121) .In (a9 [bG 141 (.aZ ⟨1,46⟩),bG 142 (.aZ ⟨2,47150⟩)])) (av [cu (ca (bG 124 (.cls 4)) [a6 (.str 30)])]) bx,aH (aO 40) (aC (loc 7) 143 [loc 150,loc 121]),bu (cmp (loc 40) .Is (a6 .none)) (av [cu (ca (bG 124 (.cls 4)) [a6 (.str 25)])]) bx,aS (aC (loc 7) 158 [loc 150,sub (loc 40) (k 0),sub (loc 40) (k 1)])]) (av [aS (aC (loc 150) 66 [])])]),.no⟩ (be [210] (av [yk (av [aS (ca (loc 210) [])]) (hB 124 4 (av [ret (a6 (.str 53))]) (hB 75 2 (av [ret (a6 (.str 54))]) (hB 83 3 (av [ret (a6 (.str 55))]) (hB 26 1 (av [ret (a6 (.str 56))]) Df)))),ret (a6 (.str 57))]) .lf .lf) .lf) (be [7] (av [bu (aJ 182) (av [cu (ca (bG 183 (.cls 5)) [aJ 9])]) bx]) .lf .lf)) (be [7,89] (av [bu (not (aC (loc 89) 131 [])) (av [cu (ca (bG 124 (.cls 4)) [a6 (.str 20)])]) bx]) (.aB ⟨[7,163,164],[],[],[],af,(av [bu (cmp (loc 164) .Lt (k 1)) (av [cu (ca (bG 26 (.cls 1)) [a6 (.str 35)])]) bx,aH (bT (loc 7) 163) (loc 163),aH (bT (loc 7) 164) (loc 164),aH (bT (loc 7) 18) (aX (loc 163) 18),aH (bT (loc 7) 28) (ls []),aH (bT (loc 7) 165) r5,aH (bT (loc 7) 166) (k 0),aH (bT (loc 7) 167) (k 0),aH (bT (loc 7) 9) (k 0)]),.init⟩ (.aB ⟨[],[],[],[236,228],ae,Nh,.no⟩ .lf .lf) .lf) (be [7] (av [ret (bin .Sub (aJ 164) (bC 81 .len [aJ 191]))]) .lf .lf)))) (be [7] (av [aH (aO 40) (bC 41 .bytearray [aJ 19]),fP ae (tt 2 [aO 13,aO 15]) (bC 42 .enumerate [aC (loc 7) 43 []]) (av [aS (cf 44 6 [loc 40,bin .Mult (k 4) (loc 13),loc 15])]),ret (bC 45 .bytes [loc 40])]) (be [7,61,17] (av [ret (aC (aJ 48) 62 [loc 7,loc 61,loc 17])]) (be [7] (av [aH (aO 46) (aX (aJ 70) 36),vc (cmp (loc 46) .Lt (aX (aJ 70) 20)) (av [aH (aO 58) (sub (aC (aJ 70) 98 [loc 46]) (k 0)),aH (aO 85) (aW (aJ 69) 4 .get [loc 58]),aH (aO 46) (aC (loc 7) 99 [aX (loc 85) 38,loc 58,loc 46]),aS (aC (aJ 69) 86 [loc 85]),bu (dh (dJ ae (cmp (loc 46) .Lt (aX (aJ 70) 20)) (cmp (sub (aC (aJ 70) 98 [loc 46]) (k 0)) .Eq (loc 58)))) (av [aS (aC (loc 7) 96 [ls [loc 58,loc 46]]),aS (aC (loc 7) 100 [loc 46]),aS (aC (loc 7) 101 [loc 46]),ret (loc 46)]) bx]),cu (ca (bG 102 (.cls 6)) [a6 (.str 14)])]) (.aB ⟨[7,122,50,52,53,144],[(.int (.ofNat 0)),(.int (.ofNat 0)),.none],[],[],af,(av [aH (tt 2 [aO 150,aO 121]) (aC (loc 7) 151 [loc 122,loc 144]),oy (av [bu (cmp (aX (loc 150) 54) .Eq (k 0)) (av [cu (ca (bG 124 (.cls 4)) [a6 (.str 28)])]) bx,aH (aO 40) (aC (loc 7) 143 [loc 150,loc 121]),bu (cmp (loc 40) .IsNot (a6 .none)) (av [ret (aC (loc 7) 136 [sub (loc 40) (k 0),loc 50])]) bx,ret (aC (loc 7) 152 [loc 150,loc 121,loc 50,loc 52,loc 53])]) (av [aS (aC (loc 150) 66 [])])]),.no⟩ (be [209,12] (av [aH (aO 89) (aC (loc 209) 107 [a6 (.aZ ⟨2,104495⟩),cp 94 2]),aS (aC (loc 89) 63 [k 0,loc 12]),aS (aC (loc 89) 66 [])]) .lf .lf) .lf) (be [7] (av [ret (np (aX (loc 85) 46) (aO 85) (aJ 28) [])]) .lf .lf)) (be [46,121] (av [aH (aO 28) (bC 41 .bytearray [cp 129 16]),aS (cf 16 5 [loc 28,k 0,loc 46]),aH (uk (loc 28) (k 2) (ad (k 2) (bC 81 .len [loc 121]))) (loc 121),ret (bC 45 .bytes [loc 28])]) (be [7,58,17] (av [aS (cf 60 0 [k 5])]) (.aB ⟨[],[],[],[209],ae,Nc,.no⟩ .lf .lf) .lf) (.aB ⟨[191,18],[],[15],[],af,(av [bu (cmp (bin .Mult (cp 192 4) (ad (bC 81 .len [loc 191]) (k 1))) .Gt (loc 18)) (av [cu (ca (bG 26 (.cls 1)) [a6 (.str 44)])]) bx,aH (aO 40) (bC 41 .bytearray []),fP af (kg 15) (ad (ls [bC 81 .len [loc 191]]) (bC 175 .list [loc 191])) (av [aS (aW (loc 40) 3 .extend [bC 45 .bytes [np (bin .BitAnd (bin .RShift (bt 15) (bin .Mult (k 8) (loc 13))) (k 255)) (aO 13) (bC 59 .range [cp 192 4]) [15]]])]),ret (ad (bC 45 .bytes [loc 40]) (bC 45 .bytes [bin .Sub (loc 18) (bC 81 .len [loc 40])]))]),.no⟩ .lf .lf))) (.aB ⟨[7,20],[],[7],[],af,(av [bu (cmp (aX (aX (bt 7) 67) 77) .Eq (k 0)) (av [cu (ca (bG 26 (.cls 1)) [a6 (.str 6)])]) bx,aH (aO 78) (ac_ 19 (bC 79 .set [loc 20]) (cmp (loc 19) .NotIn (aX (aX (bt 7) 67) 80)) [7]),bu (cmp (bC 81 .len [loc 78]) .Gt (aC (aX (bt 7) 67) 82 [])) (av [cu (ca (bG 83 (.cls 3)) [a6 (.str 7)])]) bx]),.no⟩ (be [7,89,61,17] (av [bu (dh (dJ af (cmp (loc 61) .Lt (k 0)) (cmp (loc 17) .Lt (k 0)))) (av [cu (ca (bG 26 (.cls 1)) [a6 (.str 18)])]) bx,aH (aO 111) (bC 112 .min [aX (loc 89) 18,ad (loc 61) (loc 17)]),aH (aO 40) (bC 41 .bytearray []),vc (cmp (loc 61) .Lt (loc 111)) (av [aH (aO 113) (bin .Mod (loc 61) (aX (aJ 70) 19)),aH (aO 114) (bC 112 .min [bin .Sub (aX (aJ 70) 19) (loc 113),bin .Sub (loc 111) (loc 61)]),aH (aO 46) (aC (loc 7) 115 [loc 89,bin .FloorDiv (loc 61) (aX (aJ 70) 19),a6 .aM]),bu (cmp (loc 46) .Eq (k 0)) (av [aS (aW (loc 40) 3 .extend [bC 45 .bytes [loc 114]])]) (av [aH (aO 85) (aW (aJ 69) 4 .get [loc 46]),aS (aW (loc 40) 3 .extend [subs (aX (loc 85) 38) (loc 113) (ad (loc 113) (loc 114))]),aS (aC (aJ 69) 86 [loc 85])]),aH (aO 61) (ad (loc 61) (loc 114))]),ret (bC 45 .bytes [loc 40])]) (be [7,46,12] (av [aH (bT (loc 7) 46) (loc 46),aH (bT (loc 7) 38) (bC 41 .bytearray [loc 12]),aH (bT (loc 7) 49) (k 0),aH (bT (loc 7) 161) (k 0)]) (be [209,228] (av [aH (aO 89) (aC (loc 209) 157 [a6 (.aZ ⟨2,104495⟩)]),oy (av [bu (cmp (bin .Mod (loc 228) (k 4)) .Eq (k 0)) (av [aS (aC (aX (loc 209) 48) 153 [cp 94 2])]) (av [bu (cmp (bin .Mod (loc 228) (k 4)) .Eq (k 1)) (av [aS (aC (loc 89) 63 [bin .Mod (loc 228) (k 3),a6 (.aZ ⟨1,120⟩)])]) (av [bu (cmp (bin .Mod (loc 228) (k 4)) .Eq (k 2)) (av [aS (aC (loc 89) 64 [])]) (av [aS (aC (loc 89) 65 [])])])])]) (av [aS (aC (loc 89) 66 [])])]) .lf .lf) .lf) (be [7] (av [aH (bT (loc 7) 182) (a6 .tt),cu (ca (bG 183 (.cls 5)) [aJ 9])]) .lf .lf)) (be [7,89,121,46] (av [aH (aO 135) (cf 128 50 [loc 121]),bu (cmp (bC 81 .len [loc 135]) .Eq (k 0)) (av [cu (ca (bG 124 (.cls 4)) [a6 (.str 21)])]) bx,aH (aO 137) (bin .Sub (aX (loc 89) 18) (bin .Mod (aX (loc 89) 18) (cp 129 16))),fP ae (tt 3 [aO 58,aO 138,aO 136]) (bC 139 .reversed [aC (loc 7) 134 [loc 89]]) (av [bu (cmp (loc 138) .Eq (k 0)) (av [aH (aO 137) (loc 58)]) (av [bu (cmp (loc 136) .Eq (loc 135)) (av [cu (ca (bG 124 (.cls 4)) [a6 (.str 22)])]) bx])]),bu (cmp (aC (loc 89) 63 [loc 137,cf 140 52 [loc 46,loc 135]]) .Lt (cp 129 16)) (av [cu (ca (bG 83 (.cls 3)) [a6 (.str 23)])]) bx]) (.aB ⟨[7],[],[],[],af,N2,.room⟩ (.aB ⟨[],[],[],[236],ae,Nl,.no⟩ .lf .lf) .lf) (be [7] (av [aS (aC (loc 7) 201 []),aS (aC (loc 7) 202 [aJ 191]),aS (aC (loc 7) 203 [aJ 191,a6 .aM]),aS (aC (loc 7) 202 [ls []]),fP af (aO 46) (aJ 191) (av [aS (aC (aJ 69) 204 [loc 46])]),aH (bT (loc 7) 191) (ls []),aH (bT (loc 7) 80) r5,aug (loc 7) 196 .Add (k 1)]) .lf .lf))))) (be [12,13,15] (av [aS (cf 16 5 [loc 12,loc 13,bin .BitAnd (loc 15) (k 65535)]),aS (cf 16 5 [loc 12,ad (loc 13) (k 2),bin .BitAnd (bin .RShift (loc 15) (k 16)) (k 65535)])]) (be [7] (av [ret (bin .Mult (aJ 19) (aC (loc 7) 37 []))]) (be [7,12,13] (av [aS (cf 16 5 [loc 12,loc 13,aJ 50]),aS (cf 16 5 [loc 12,ad (loc 13) (k 2),aJ 52]),aS (cf 16 5 [loc 12,ad (loc 13) (k 4),aJ 53]),aS (cf 16 5 [loc 12,ad (loc 13) (k 6),aJ 54]),aS (cf 44 6 [loc 12,ad (loc 13) (k 8),aJ 18]),fP ae (tt 2 [aO 58,aO 46]) (bC 42 .enumerate [aJ 55]) (av [aS (cf 44 6 [loc 12,ad (ad (loc 13) (cp 24 12)) (bin .Mult (k 4) (loc 58)),loc 46])])]) (be [7,89] (av [bu (dh (dJ af (cmp (aX (loc 89) 49) .Lt (k 1)) (cmp (aW (aJ 74) 4 .get [aX (loc 89) 46]) .IsNot (loc 89)))) (av [cu (ca (bG 26 (.cls 1)) [a6 (.str 13)])]) bx,bu (cmp (aX (loc 89) 49) .Eq (k 1)) (av [bu (cmp (aX (loc 89) 54) .Eq (k 0)) (av [aS (aC (loc 7) 64 [loc 89]),aH (bT (loc 89) 50) (cp 51 0),aS (aC (loc 7) 65 [loc 89])]) bx,del (aJ 74) (aX (loc 89) 46)]) bx,aH (bT (loc 89) 49) (bin .Sub (aX (loc 89) 49) (k 1))]) (.aB ⟨[7,122,144],[.none],[],[],af,(av [bu (cmp (bC 81 .len [cf 125 49 [loc 122]]) .Eq (k 0)) (av [cu (ca (bG 124 (.cls 4)) [a6 (.str 26)])]) bx,ret (aC (loc 7) 148 [loc 122,cf 149 51 [loc 122],loc 144])]),.no⟩ (be [209,210] (av [aS (aC (aX (aX (loc 209) 48) 67) 211 []),oy (av [ret (ca (loc 210) [])]) (av [aS (aC (aX (aX (loc 209) 48) 67) 111 [])])]) .lf .lf) .lf) (be [7,46] (av [aH (aO 85) (aW (loc 7) 4 .get [loc 46]),aH (aO 12) (aC (loc 85) 12 []),aS (aC (loc 7) 86 [loc 85]),ret (loc 12)]) .lf .lf)) (be [121] (av [ret (subs (cf 125 49 [loc 121]) f7 (cp 126 14))]) (be [7,12] (av [bu (cmp (bC 81 .len [loc 12]) .NotEq (bC 81 .len [aJ 38])) (av [cu (ca (bG 26 (.cls 1)) [a6 (.str 34)])]) bx,aH (uk (aJ 38) f7 f7) (loc 12)]) (.aB ⟨[],[],[],[209],ae,Na,.no⟩ .lf .lf) .lf) (be [7] (av [aS (cf 60 0 [k 8])]) .lf .lf))) (be [7,67,68] (av [aH (bT (loc 7) 67) (loc 67),aH (bT (loc 7) 69) (aX (loc 67) 69),aH (bT (loc 7) 70) (loc 68),aH (bT (loc 7) 71) (ad (cp 72 4) (bC 73 .int [cmp (bin .Sub (aX (loc 68) 36) (aX (loc 68) 34)) .Gt (k 1)])),aH (bT (loc 7) 74) r5]) (be [7,89,106,107] (av [aH (aO 23) (aX (aJ 70) 23),bu (cmp (loc 106) .Lt (loc 23)) (av [bu (dh (dJ ae (cmp (sub (aX (loc 89) 55) (loc 106)) .Eq (k 0)) (loc 107))) (av [aH (jy (aX (loc 89) 55) (loc 106)) (aC (loc 7) 108 [])]) bx,ret (sub (aX (loc 89) 55) (loc 106))]) bx,bu (cmp (loc 106) .GtE (aC (aJ 70) 37 [])) (av [cu (ca (bG 83 (.cls 3)) [a6 (.str 17)])]) bx,bu (cmp (sub (aX (loc 89) 55) (loc 23)) .Eq (k 0)) (av [bu (not (loc 107)) (av [ret (k 0)]) bx,aH (jy (aX (loc 89) 55) (loc 23)) (aC (loc 7) 108 [])]) bx,ret (aC (loc 7) 109 [sub (aX (loc 89) 55) (loc 23),bin .Sub (loc 106) (loc 23),loc 107])]) (.aB ⟨[7,122,144],[.none],[],[],af,(av [aS (cf 60 0 [k 3])]),.no⟩ (be [209,228] (av [aS (cf 229 137 [aX (loc 209) 48,ad (aX (aX (aX (loc 209) 48) 70) 36) (k 5),ad (k 6) (bin .Mod (loc 228) (k 4))]),aS (aC (loc 209) 230 [sub (ls [a6 (.aZ ⟨2,104495⟩),a6 (.aZ ⟨2,102447⟩)]) (bin .Mod (bin .FloorDiv (loc 228) (k 4)) (k 2))])]) .lf .lf) .lf) (be [7,46] (av [aS (aC (loc 7) 184 []),aS (aC (loc 7) 168 [loc 46]),ret (aW (aJ 177) 4 .get [loc 46,bC 45 .bytes [aJ 18]])]) .lf .lf)) (be [7,89] (av [ret (rI (loc 121) (tt 3 [aO 58,aO 46,aO 121]) (aC (loc 7) 134 [loc 89]) (cmp (loc 46) .NotEq (k 0)) [])]) (be [7,85] (av [bu (dh (dJ af (cmp (aW (aJ 165) 4 .get [aX (loc 85) 46]) .IsNot (loc 85)) (cmp (aX (loc 85) 49) .Eq (k 0)))) (av [cu (ca (bG 26 (.cls 1)) [a6 (.str 37)])]) bx]) (.aB ⟨[],[],[],[236,228],ae,Nj,.no⟩ .lf .lf) .lf) (be [7,85] (av [bu (cmp (aJ 77) .Eq (k 0)) (av [cu (ca (bG 26 (.cls 1)) [a6 (.str 49)])]) bx,bu (aC (loc 7) 198 [aX (loc 85) 46]) (av [cu (ca (bG 26 (.cls 1)) [a6 (.str 50)])]) bx,bu (cmp (aX (loc 85) 46) .In (aJ 80)) (av [aS (aC (aJ 69) 172 [loc 85]),De]) bx,bu (cmp (bC 81 .len [aJ 191]) .GtE (aJ 164)) (av [cu (ca (bG 83 (.cls 3)) [a6 (.str 51)])]) bx,aS (aC (aJ 69) 199 [loc 85]),aH (jy (aJ 80) (aX (loc 85) 46)) (bC 81 .len [aJ 191]),aS (aW (aJ 191) 1 .append [aX (loc 85) 46])]) .lf .lf)))) (be [7,46] (av [aH (aO 47) (bin .RShift (loc 46) (k 3)),ret (a9 [ad (aJ 34) (bin .FloorDiv (loc 47) (aJ 19)),bin .Mod (loc 47) (aJ 19),bin .LShift (k 1) (bin .BitAnd (loc 46) (k 7))])]) (be [7] (av [aS (aC (aJ 48) 64 [loc 7])]) (be [7,38,58,46] (av [vc (cmp (loc 46) .Lt (aX (aJ 70) 20)) (av [aH (tt 3 [aO 19,aO 13,aO 103]) (aC (aJ 70) 98 [loc 46]),bu (dh (dJ af (cmp (loc 19) .NotEq (loc 58)) (cmp (bin .BitAnd (sub (loc 38) (loc 13)) (loc 103)) .Eq (k 0)))) (av [ret (loc 46)]) bx,aH (aO 46) (ad (loc 46) (k 1))]),ret (loc 46)]) (be [7,150,121,50,52,53] (av [aH (aO 89) (aC (aJ 48) 153 [loc 50,loc 52,loc 53]),aH (bT (loc 89) 54) (k 1),aS (aC (loc 89) 65 []),yk (av [bu (cmp (loc 50) .Eq (cp 56 1)) (av [aS (aC (loc 7) 154 [loc 89,bG 141 (.aZ ⟨1,46⟩),aX (loc 89) 46]),aS (aC (loc 7) 154 [loc 89,bG 142 (.aZ ⟨2,47150⟩),aX (loc 150) 46])]) bx,aS (aC (loc 7) 154 [loc 150,loc 121,aX (loc 89) 46])]) (hB 83 3 (av [aH (bT (loc 89) 54) (k 0),aS (aC (loc 89) 66 []),raw]) Df),bu (cmp (loc 50) .Eq (cp 56 1)) (av [aH (bT (loc 150) 54) (ad (aX (loc 150) 54) (k 1)),aS (aC (loc 150) 65 [])]) bx,ret (loc 89)]) (.aB ⟨[12],[],[12,217,209],[],af,(av [aH (aO 212) (ca (bG 218 (.cls 7)) [k 64,k 30,k 6,k 10,k 2]),aH (aO 163) (ca (bG 188 (.cls 13)) [aX (loc 212) 20,k 64]),aS (aC (loc 163) 63 [k 1,aC (loc 212) 12 []]),aH (kg 217) (bC 219 .sum [np (bin .LShift (k 1) (loc 46)) (aO 46) (bC 59 .range [aX (loc 212) 36]) []]),aS (aC (loc 163) 63 [aX (loc 212) 34,bC 45 .bytes [np (bin .BitAnd (bin .RShift (bt 217) (bin .Mult (k 8) (loc 13))) (k 255)) (aO 13) (bC 59 .range [k 64]) [217]]]),aS (aC (loc 163) 173 []),aH (kg 209) (cf 220 133 [loc 163,loc 212]),aS (cf 221 130 [bt 209,lam 146 Na]),aS (cf 221 130 [bt 209,lam 147 Nb]),aS (cf 221 130 [bt 209,lam 148 Nc]),ret (bt 209)]),.no⟩ .lf .lf) .lf) (be [7] (av [fP af (aO 85) (bC 175 .list [aJ 28]) (av [bu (aC (loc 85) 171 []) (av [del (aJ 165) (aX (loc 85) 46),aS (aW (aJ 28) 2 .remove [loc 85])]) bx])]) .lf .lf)) (be [7,48] (av [aH (bT (loc 7) 48) (loc 48)]) (be [7,58] (av [aS (aC (loc 7) 162 [bin .RShift (loc 58) (k 3),k 1]),ret (bin .BitAnd (bin .RShift (sub (aJ 38) (bin .RShift (loc 58) (k 3))) (bin .BitAnd (loc 58) (k 7))) (k 1))]) (.aB ⟨[],[],[],[236,228],ae,Nf,.no⟩ .lf .lf) .lf) (be [7,46] (av [ret (ox (aJ 113) .LtE (loc 46) .Lt (ad (aJ 113) (aJ 18)))]) .lf .lf))) (be [7,46] (av [aS (aC (loc 7) 87 [loc 46]),bu (cmp (loc 46) .In (aJ 74)) (av [ret (aC (sub (aJ 74) (loc 46)) 88 [])]) bx,aH (tt 2 [aO 19,aO 13]) (aC (aJ 70) 84 [loc 46]),aH (aO 89) (ca (bG 90 (.cls 8)) [loc 7,loc 46]),aH (aO 85) (aW (aJ 69) 4 .get [loc 19]),aS (aC (loc 89) 91 [aX (loc 85) 38,loc 13,aX (aJ 70) 23]),aS (aC (aJ 69) 86 [loc 85]),bu (cmp (aX (loc 89) 50) .Eq (cp 51 0)) (av [cu (ca (bG 75 (.cls 2)) [ad (ad (a6 (.str 8)) (bC 76 .str [loc 46])) (a6 (.str 9))])]) bx,bu (dh (dJ af (cmp (aX (loc 89) 50) .Gt (cp 92 3)) (cmp (aX (loc 89) 18) .Gt (aC (aJ 70) 93 [])))) (av [cu (ca (bG 75 (.cls 2)) [ad (a6 (.str 10)) (bC 76 .str [loc 46])])]) bx,aH (jy (aJ 74) (loc 46)) (loc 89),ret (loc 89)]) (be [7,89,61,12,116] (av [yk (av [aH (aO 46) (aC (loc 7) 115 [loc 89,bin .FloorDiv (loc 61) (aX (aJ 70) 19),a6 .tt])]) (hB 102 6 (av [ret (k 0)]) Df),aH (aO 113) (bin .Mod (loc 61) (aX (aJ 70) 19)),aH (aO 114) (bC 112 .min [bin .Sub (aX (aJ 70) 19) (loc 113),bin .Sub (bC 81 .len [loc 12]) (loc 116)]),aH (aO 85) (aW (aJ 69) 4 .get [loc 46]),aH (uk (aX (loc 85) 38) (loc 113) (ad (loc 113) (loc 114))) (subs (loc 12) (loc 116) (ad (loc 116) (loc 114))),aS (aC (aJ 67) 63 [loc 85]),aS (aC (aJ 69) 86 [loc 85]),ret (loc 114)]) (be [7] (av [ret (bC 45 .bytes [aJ 38])]) (be [209,228] (av [aH (aO 48) (aX (loc 209) 48),aH (tt 2 [aO 163,aO 233]) (a9 [aC (aX (aX (loc 48) 69) 163) 234 [],aC (aX (loc 48) 70) 84 [k 2]]),aH (aO 28) (bC 41 .bytearray [aC (loc 163) 62 [sub (loc 233) (k 0)]]),aH (jy (loc 28) (ad (sub (loc 233) (k 1)) (sub (ls [k 0,k 9]) (bin .Mod (loc 228) (k 2))))) (sub (ls [k 4,k 200]) (bin .Mod (loc 228) (k 2))),aS (aC (loc 163) 63 [sub (loc 233) (k 0),bC 45 .bytes [loc 28]]),ret (cf 220 133 [loc 163,aX (loc 48) 70])]) .lf .lf) .lf) (be [7,17] (av [bu (cmp (loc 17) .Lt (k 0)) (av [cu (ca (bG 26 (.cls 1)) [a6 (.str 41)])]) bx,aH (bT (loc 7) 180) (ad (aJ 9) (loc 17))]) .lf .lf)) (be [7,89] (av [ret (cmp (rI (loc 121) (aO 121) (aC (loc 7) 110 [loc 89]) (cmp (loc 121) .NotIn (a9 [bG 141 (.aZ ⟨1,46⟩),bG 142 (.aZ ⟨2,47150⟩)])) []) .Eq (ls []))]) (be [7,85] (av [aS (aC (loc 7) 172 [loc 85]),aug (loc 85) 161 .Add (k 1)]) (.aB ⟨[],[],[],[209],ae,Nn,.no⟩ .lf .lf) .lf) (be [7,191] (av [aS (aC (aJ 69) 205 [aJ 113,cf 207 116 [loc 191,aX (aJ 69) 18]]),aS (aC (aJ 69) 173 [])]) .lf .lf))))))
noncomputable def LR:List (Nat×Nat):= [(0,1),(1,1),(2,1),(3,1),(4,1),(6,1),(7,8),(8,15),(9,26),(10,54),(11,76),(12,88),(13,103),(14,117)]
noncomputable def LS:jK (List (Nat×Nat)):=(.aB [(11,1)] (.aB [(11,1)] (.aB [(11,1)] (.aB [(11,8),(12,12),(37,9),(43,11),(84,13),(93,10),(98,14)] .lf .lf) (.aB [(11,76),(12,78),(66,81),(103,86),(104,83),(162,79),(171,77),(174,82)] .lf .lf)) (.aB [(11,2)] (.aB [(4,30),(11,26),(62,44),(63,45),(64,47),(65,32),(66,34),(87,27),(95,29),(96,28),(99,38),(100,37),(101,39),(108,36),(109,43),(115,42),(118,46),(119,48),(120,40),(153,31),(252,41)] .lf .lf) (.aB [(11,103),(62,106),(63,107),(168,105),(173,109),(184,104),(186,108),(190,112),(234,113)] .lf .lf))) (.aB [(11,1)] (.aB [(11,1)] (.aB [(11,15),(62,20),(63,21),(64,22),(65,23),(66,25),(88,24),(91,17),(97,18),(131,16)] .lf .lf) (.aB [(4,91),(11,88),(63,96),(86,93),(136,100),(158,102),(168,89),(169,92),(172,90),(173,97),(199,94),(204,95),(205,99),(206,98),(225,101)] .lf .lf)) (.aB [(11,1)] (.aB [(11,54),(107,68),(110,58),(132,56),(134,57),(136,69),(143,59),(145,55),(146,64),(147,63),(148,65),(151,67),(152,70),(154,60),(157,66),(158,73),(159,62),(160,61),(230,72),(232,71)] .lf .lf) (.aB [(11,117),(63,122),(82,120),(111,123),(197,119),(198,118),(200,124),(201,125),(202,126),(203,127),(211,121)] .lf .lf))))
noncomputable def Nt:jK (List Nat):=(.aB [0] (.aB [0,1] (.aB [0,3] (.aB [7] .lf .lf) (.aB [11] .lf .lf)) (.aB [0,5] (.aB [9] .lf .lf) (.aB [13] .lf .lf))) (.aB [0,2] (.aB [0,4] (.aB [8] .lf .lf) (.aB [12] .lf .lf)) (.aB [0,3,6] (.aB [10] .lf .lf) (.aB [14] .lf .lf))))
noncomputable def sb:List Str:=j1 bq ["append0","append","remove","extend","get","encode","k","self","reason","writes","BoardError","__init__","octets","at","half_at","value","put_half","count","size","block","blocks","inodes","log","direct","HEAD","SUPER_WORDS","BadArgument","PIECE","row","rows","indirect","log_start","FIRST_LOG","inode_start","bitmap_start","rounded_up","data_start","most_blocks","data","MAGIC","found","bytearray","enumerate","words","put_word","bytes","number","octet","nodes","holders","kind","FREE","major","minor","links","places","DIRECTORY","word_at","place","range","_wall","offset","read","write","truncate","update","put","journal","super_block","cache","super","room","MOST_A_PIECE","int","table","BadDisk","str","calls","fresh","set","noted","len","left","NoRoom","row_of","buffer","release","need_number","hold","node","Node","take_row","DEVICE","most_size","FILE","kind_at","need_room","put_row","bit_of","free_bit","turn_bit","clear_block","NoBlock","bit","clear","was_taken","index","make","take_block","named_block","names","end","min","start","part","block_of","done","is_begun","write_part","names_in","give_block","name","path","isinstance","BadCall","octets_of","NAME","SLASH","cut_name","ROW","ROOT","is_directory","need_directory","name_in","all_rows","wanted","known","target","other","reversed","row_for","HERE","ABOVE","look","cwd","root","start_of","child","walk","parts_of","parent","find_parent","born","allocate","link","old","new","find","forget","is_empty","unlink","pins","need_part","disk","most","by_number","hits","reads","need_block","make_room","Buffer","is_free","need_held","flush","fill","list","kept","latest","unflushed","flushes","last","last_flush","is_dead","Crash","need_power","octets_in","fail","chosen","Disk","dict","after","numbers","NUMBER","each","SPARE","MOST_EACH","commits","has_room","is_own","pin","commit","fill_log","write_head","install","unpin","poke","peek","packed_head","from_log","paths","deed","begin","plan","Paths","Nodes","Journal","Cache","bits","Super","sum","_law_open","_law_in_call","_law_root","_law_file","sorted","free_count","first","many","rest","_law_filled","unlink_path","way","link_path","spot","copy","n","here","_law_spoilt","before","_law_state","due","_law_crowded","_law_at_path","_law_outside","_law_full","_law_heard","told","script","marks","abs","_law_used","_law_refused_right","free_blocks","_law_far_right"]
noncomputable def vk:List Str:=j1 bq ["","blocks that are too small","blocks that rows of directories do not fill","no root, no log or no blocks","no block for data","no inode has the number ","a change outside of a call","no room in the call's group","the inode "," is free","the row of the inode ","no kind of nodes","no inode is free","a node that nobody holds","no block is free","no block of data has the number ","the block ","a file that is too large","octets ahead of a file","an octet 0 in a path","no directory","no name","the name is there already","no block for a row of a directory","no room to free a row of a directory","no such file","an empty path","a path without a name","a directory that has no name any more","a directory has one name","a directory keeps itself and the one above","a name of a node without links","a directory that is not empty","a part that a block does not have","a block of another size","a cache without buffers","no such block","a buffer that is not held","all buffers are held","a block that is not pinned","a disk of no octets","a count below 0","no such write","a number in the place of octets","a head that is too long","a log that the disk does not have","too few buffers for a log","more blocks a call than the log has","the log","a write outside of a call","a write into the log itself","too many blocks for the log","no call is open","call","disk","room","argument","let"]
noncomputable def b0:il:=⟨28,165,163,177,164,20,18,182,46,38,49,161,166,167,11,7,8,1⟩
noncomputable def adg:List (PySem.Expr×PySem.Scope):= [((.Call (.Name (bq "_law_root") ⟨947,32,947,41⟩) [(.Name (bq "paths") ⟨947,42,947,47⟩)] [] ⟨947,32,947,48⟩),⟨.function, [(bq "paths", .free),(bq "_law_root", .globalImplicit)],af,af, []⟩),((.Call (.Name (bq "_law_file") ⟨948,32,948,41⟩) [(.Name (bq "paths") ⟨948,42,948,47⟩),(.Name (bq "octets") ⟨948,49,948,55⟩)] [] ⟨948,32,948,56⟩),⟨.function, [(bq "octets", .free),(bq "paths", .free),(bq "_law_file", .globalImplicit)],af,af, []⟩),((.Call (.Attribute (.Call (.Attribute (.Name (bq "paths") ⟨949,32,949,37⟩) (bq "make") ⟨949,32,949,42⟩) [(.Constant (.bytes [47,100]) 0 ⟨949,43,949,48⟩),(.Name (bq "DEVICE") ⟨949,50,949,56⟩),(.Constant (.int 1) 0 ⟨949,58,949,59⟩),(.Constant (.int 1) 0 ⟨949,61,949,62⟩)] [] ⟨949,32,949,63⟩) (bq "put") ⟨949,32,949,67⟩) [] [] ⟨949,32,949,69⟩),⟨.function, [(bq "paths", .free),(bq "DEVICE", .globalImplicit)],af,af, []⟩),((.Call (.Name (bq "_law_crowded") ⟨1018,8,1018,20⟩) [(.Name (bq "here") ⟨1018,21,1018,25⟩),(.Name (bq "rest") ⟨1018,27,1018,31⟩)] [] ⟨1018,8,1018,32⟩),⟨.function, [(bq "here", .free),(bq "rest", .free),(bq "_law_crowded", .globalImplicit)],af,af, []⟩),((.Call (.Name (bq "_law_in_call") ⟨1017,8,1017,20⟩) [(.Name (bq "here") ⟨1017,21,1017,25⟩),(.Lambda ⟨[], [],aa, [], [],aa, []⟩ (.Call (.Name (bq "_law_crowded") ⟨1018,8,1018,20⟩) [(.Name (bq "here") ⟨1018,21,1018,25⟩),(.Name (bq "rest") ⟨1018,27,1018,31⟩)] [] ⟨1018,8,1018,32⟩) ⟨.function, [(bq "here", .free),(bq "rest", .free),(bq "_law_crowded", .globalImplicit)],af,af, []⟩ ⟨1018,0,1018,32⟩)] [] ⟨1017,8,1018,34⟩),⟨.function, [(bq "here", .free),(bq "rest", .free),(bq "_law_in_call", .globalImplicit)],af,af, []⟩),((.Call (.Name (bq "_law_at_path") ⟨1020,8,1020,20⟩) [(.Name (bq "here") ⟨1020,21,1020,25⟩),(.Name (bq "rest") ⟨1020,27,1020,31⟩)] [] ⟨1020,8,1020,32⟩),⟨.function, [(bq "here", .free),(bq "rest", .free),(bq "_law_at_path", .globalImplicit)],af,af, []⟩),((.Call (.Name (bq "_law_in_call") ⟨1019,8,1019,20⟩) [(.Name (bq "here") ⟨1019,21,1019,25⟩),(.Lambda ⟨[], [],aa, [], [],aa, []⟩ (.Call (.Name (bq "_law_at_path") ⟨1020,8,1020,20⟩) [(.Name (bq "here") ⟨1020,21,1020,25⟩),(.Name (bq "rest") ⟨1020,27,1020,31⟩)] [] ⟨1020,8,1020,32⟩) ⟨.function, [(bq "here", .free),(bq "rest", .free),(bq "_law_at_path", .globalImplicit)],af,af, []⟩ ⟨1020,0,1020,32⟩)] [] ⟨1019,8,1020,34⟩),⟨.function, [(bq "here", .free),(bq "rest", .free),(bq "_law_in_call", .globalImplicit)],af,af, []⟩),((.Call (.Name (bq "_law_outside") ⟨1021,8,1021,20⟩) [(.Name (bq "here") ⟨1021,21,1021,25⟩),(.Name (bq "rest") ⟨1021,27,1021,31⟩)] [] ⟨1021,8,1021,32⟩),⟨.function, [(bq "here", .free),(bq "rest", .free),(bq "_law_outside", .globalImplicit)],af,af, []⟩),((.Call (.Name (bq "_law_full") ⟨1023,8,1023,17⟩) [(.Name (bq "here") ⟨1023,18,1023,22⟩),(.Name (bq "rest") ⟨1023,24,1023,28⟩)] [] ⟨1023,8,1023,29⟩),⟨.function, [(bq "here", .free),(bq "rest", .free),(bq "_law_full", .globalImplicit)],af,af, []⟩),((.Call (.Name (bq "_law_in_call") ⟨1022,8,1022,20⟩) [(.Name (bq "here") ⟨1022,21,1022,25⟩),(.Lambda ⟨[], [],aa, [], [],aa, []⟩ (.Call (.Name (bq "_law_full") ⟨1023,8,1023,17⟩) [(.Name (bq "here") ⟨1023,18,1023,22⟩),(.Name (bq "rest") ⟨1023,24,1023,28⟩)] [] ⟨1023,8,1023,29⟩) ⟨.function, [(bq "here", .free),(bq "rest", .free),(bq "_law_full", .globalImplicit)],af,af, []⟩ ⟨1023,0,1023,29⟩)] [] ⟨1022,8,1023,31⟩),⟨.function, [(bq "here", .free),(bq "rest", .free),(bq "_law_in_call", .globalImplicit)],af,af, []⟩),((.Call (.Attribute (.Name (bq "here") ⟨1024,8,1024,12⟩) (bq "find") ⟨1024,8,1024,17⟩) [(.Constant (.bytes [47,102]) 0 ⟨1024,18,1024,23⟩)] [] ⟨1024,8,1024,24⟩),⟨.function, [(bq "here", .free)],af,af, []⟩),((.Constant .none 0 ⟨1025,8,1025,12⟩),⟨.function, [],af,af, []⟩),((.Call (.Attribute (.Attribute (.Name (bq "paths") ⟨1033,39,1033,44⟩) (bq "nodes") ⟨1033,39,1033,50⟩) (bq "allocate") ⟨1033,39,1033,59⟩) [(.Name (bq "FILE") ⟨1033,60,1033,64⟩)] [] ⟨1033,39,1033,65⟩),⟨.function, [(bq "paths", .free),(bq "FILE", .globalImplicit)],af,af, []⟩),((.Call (.Attribute (.Name (bq "node") ⟨1034,40,1034,44⟩) (bq "write") ⟨1034,40,1034,50⟩) [(.Constant (.int 0) 0 ⟨1034,51,1034,52⟩),(.BinOp (.Constant (.bytes [55]) 0 ⟨1034,54,1034,58⟩) .Mult (.Constant (.int 128) 0 ⟨1034,61,1034,64⟩) ⟨1034,54,1034,64⟩)] [] ⟨1034,40,1034,65⟩),⟨.function, [(bq "node", .free)],af,af, []⟩),((.Call (.Attribute (.Name (bq "node") ⟨1051,32,1051,36⟩) (bq "put") ⟨1051,32,1051,40⟩) [] [] ⟨1051,32,1051,42⟩),⟨.function, [(bq "node", .free)],af,af, []⟩),((.Call (.Attribute (.Name (bq "paths") ⟨1052,32,1052,37⟩) (bq "unlink_path") ⟨1052,32,1052,49⟩) [(.Constant (.bytes [47,102]) 0 ⟨1052,50,1052,55⟩)] [] ⟨1052,32,1052,56⟩),⟨.function, [(bq "paths", .free)],af,af, []⟩)]
def jK.get{α:Type}(d:α)(t:jK α):Nat->α:=jK.rec (motive:=λJ=>Nat->α) (λJ=>d) (λa J J E8 ir i=>fM (motive:=λJ=>α) a (λj J=>aA (par j) (E8 (ef j 2)) (ir (ef j 2))) i) t
def x7(l:List (Nat×Nat))(n:Nat):Option Nat:=cr aa (λp J ih=>Prod.rec (motive:=λJ=>Option Nat) (λa b=>aA (aK a n) (U b) ih) p) l
def mem(l:List Nat)(n:Nat):Bool:=cr af (λp J ih=>aA (aK p n) ae ih) l
noncomputable def abt:List Int:= [1,2,3,4,5,6,7,8,9,10,11,12,13,14,15,16,17,18,19,20,21,22,23,24,25,26,27,28,29,30,31,32,33,34,35,36,37,38,39,40,41,42,43,44,45,46,47,48,49,50,51,52,53,54,55,56,57,58,59,60,61,62,63,64]
noncomputable def abu:List Int:= [65,66,67,68,69,70]
def jb(B:Bool):eB where
 F:=aA B 6 64
 lf:=aA B abu abt
 fn k:=yX.get ⟨[], [], [], [],af,nil, .no⟩ k
 init c:=x7 LR c
 rN c m:=x7 (LS.get [] c) m
 sub c d:=mem (Nt.get [] c) d
 dB:=b0
end Mine.G
end
section
namespace Mine.C
inductive Sel where
 |fr (n:Nat) |at(i n:Nat) |bt (i:Nat) |tab (i:Nat)
noncomputable section
def Dy(v:Option V)(k:Nat->Option Nat):Option Nat:=bs v aa λv=>bE v k aa
def yA(L:St)(m:List Nat)(s:Sel):Option Nat:=Sel.rec (motive:=λJ=>Option Nat) (λn=>Dy (L.fr.get n) λi=>du i U) (λj n=>bs (dj m j) aa λi=>gF (L.h.get i) (λJ f=>Dy (f.get n) λi=>du i U) aa)
 (λj=>bs (dj m j) aa λi=>m7 (L.h.get i) (λv=>Dy v λi=>du i U) aa) U s
def uS(L:St)(l:List Sel):List Nat->Option (List Nat):=cr U (λs J ih m=>bs (yA L m s) aa λi=>ih (l8 m [i])) l
def yY(n:Nat)(v:V):Bool:=fS af (λJ=>af) (λJ=>af) (λy=>aK y.n n) (λl=>kh (λy=>aK y.n n) l) (aK n) (λJ=>af) v
def x8(v:V):Bool:=bE v (λJ=>ae) af
def Nu(v:V)(k:Nat->Bool)(z:Bool):Bool:=fS z (λJ=>z) (λJ=>z) (λJ=>z) (λJ=>z) k (λJ=>z) v
def jD(m:List Nat)(v w:V):Bool:=bE w (λj=>bE v (λi=>bs (dj m j) af (aK i)) af) (rJ w (ng v) (Nu w (λn=>yY n v) (aA (x8 v) af (me v w))))
def yB(m:List Nat)(l:List V):List V->Bool:=cr (λk=>cr ae (λJ J J=>af) k) (λv J ih k=>cr af (λw k J=>aA (jD m v w) (ih k) af) k) l
def rR(m:List Nat)(f:aL):aL->Bool:=aL.rec (motive:=λJ=>aL->Bool) (λg=>aL.rec (motive:=λJ=>Bool) ae (λJ J J J=>af) g) (λk v J ih g=>aL.rec (motive:=λJ=>Bool) af (λgL w g J=>aA (aK k gL) (aA (jD m v w) (ih g) af) af) g) f
def Dz(m:List Nat)(v:Option V)(w:V):Bool:=ii w (λn=>bs v ae λv=>ii v (λk=>aK k n) (aA (bw n 1000) (yY n v) (ga v (λy=>aA (aK n (fN 1000 y.n)) (aK y.x 0) af) af))) (bs v af λv=>ii v (λJ=>af) (jD m v w))
def B_(b:aP)(a:aP):Bool:=aP.rec (motive:=λJ=>Bool) ae (λk J J ih=>bs (b.get k) af λJ=>ih) a
def uT(m:List Nat)(a b:aP):Bool:=aA (B_ b a) (aP.rec (motive:=λJ=>Bool) ae (λk w J ih=>aA (Dz m (a.get k) w) ih af) b) af
def Nv(m:List Nat)(v w:Option V):Bool:=bs w (bs v ae λJ=>af) λw=>bs v af λv=>jD m v w
def DA(l:aP):Bool:=aP.rec (motive:=λJ=>Bool) ae (λJ J J J=>af) l
def p6{α:Type}(o:Option α):Bool:=bs o ae λJ=>af
def DB(m:List Nat)(o:O)(cn:aP)(E9:Option Nat)(vR:Option Int)(vh:aP)(fT iI:Nat):Bool:=eW o (λbQ agz qr aeJ agA t1=>aA (DA bQ) (aA (DA cn) (aA (p6 agz) (aA (p6 E9) (aA (p6 qr) (aA (p6 vR) (aA (uT m aeJ vh) (aA (bs (dj m fT) af (aK agA)) (bs (dj m iI) af (aK t1)) af) af) af) af) af) af) af) af) af
def uU(m:List Nat)(o w:O):Bool:=O.rec (motive:=λJ=>Bool) ae (λc f=>gF o (λcc f1=>aA (aK cc c) (rR m f1 f) af) af) (λl=>cJ o (λbQ=>yB m bQ l) af) (λJ=>af) (λl=>e_ o (λbQ=>uT m bQ l) af)
 (λJ=>ae) (λJ=>ae) (λcn E9 vR vh fT iI=>DB m o cn E9 vR vh fT iI) (λJ=>af) (λv=>m7 o (λv1=>Nv m v1 v) af) (λJ J=>af) (λJ J J=>af) (λJ=>af) (λJ J=>af) (λJ=>af) af (λJ J=>af) (λJ=>af) w
def yC(x:Nat)(m:List Nat)(h:T)(t:T)(l:List Nat):Nat->Bool:=cr (λJ=>ae) (λi J ih j=>aA (aA (bw j 2) ae (aA (aK j x) ae (uU m (h.get i) (t.get j)))) (ih (da j)) af) l
def yZ(l:List Nat):Bool:=cr ae (λa r ih=>aA (kh (λb=>aA (aK a b) af ae) r) ih af) l
def yD(m:List Nat)(fr aeK:aL):Bool:=aL.rec (motive:=λJ=>Bool) ae (λn w J ih=>bs (fr.get n) af λv=>aA (jD m v w) ih af) aeK
def DC(x:Nat)(m:List Nat)(L:St)(t:T)(fr:aL):Bool:=aA (yZ m) (aA (kh (λi=>bw i L.nx) m) (aA (yC x m L.h t m 0) (yD m L.fr fr) af) af) af
def kp(x:Nat)(l:List Sel)(L:St)(t:T)(fr:aL):O×Bool:=bs (uS L l [0,1]) (.nul,af) λm=>(bs (dj m x) .nul L.h.get,DC x m L t fr)
def sd(l:List O):Nat->T->T:=cr (λJ t=>t) (λo J ih i t=>T.fb o i i t (ih (da i))) l
end
end Mine.C
end
section
namespace Mine.G
open Mine.C Mine.C.X
noncomputable section
noncomputable def uV(n:Nat):Nat:=pp 257 (ef (j5 (Zv 1024 n) 1) 1023)
noncomputable def yE(k:Nat):List dE:=j1 (λn=>⟨64,uV (n+1)⟩) (eT k)
def m_(B:Bool):V:= .ev (aA B (j1 (λn=>⟨n+65,uV (n+65)⟩) (eT 6)) (j1 (λn=>⟨n+1,uV (n+1)⟩) (eT 64)))
noncomputable def l2(x:O):T:= .aB .tab (.aB .tab (.aB (.cell aa) .lf .lf) .lf) (.aB (.cell aa) (.aB x .lf .lf) .lf)
def kq(B:Bool)(r:aL):aL:= .cons 12 (m_ B) (.cons 209 (.ref 2) (.cons 89 (.ref 3) (.cons 248 (.ref 4) r)))
def nt(B:Bool)(x:O):St:=⟨l2 x,5,kq B .nil,af⟩
noncomputable def DD:List Sel:= [.fr 209, .fr 89, .fr 248, .bt 2, .at 5 48, .at 6 67, .at 6 69, .at 6 70, .at 6 74, .at 7 191, .at 7 80, .at 8 163, .at 8 28, .at 8 165, .at 13 176, .at 13 177, .at 13 178]
def Nw(x:O):T:=(.aB .tab (.aB .tab (.aB (.cell aa) (.aB (.inst 14 (.cons 69 (.ref 8) (.cons 113 (.int (.ofNat 2)) (.cons 18 (.int (.ofNat 10)) (.cons 55 (.int (.ofNat 9)) (.cons 164 (.int (.ofNat 9)) (.cons 193 (.int (.ofNat 9)) (.cons 191 (.ref 11) (.cons 80 (.ref 12) (.cons 77 (.int (.ofNat 0)) (.cons 196 .et .nil))))))))))) (.aB (.c3 .nil aa aa (.cons (.ofNat 1) (.aZ ⟨64,4271974071870960198173450550567673501633592916415546124959296427502315924926629838840735499075648⟩) (.cons (.ofNat 2) (.aW 64) (.cons (.ofNat 3) (.aW 64) (.cons (.ofNat 4) (.aW 64) (.cons (.ofNat 5) (.aW 64) (.cons (.ofNat 6) (.aW 64) (.cons (.ofNat 7) (.aW 64) (.cons (.ofNat 8) (.aW 64) (.cons (.ofNat 9) (.aW 64) (.cons (.ofNat 10) (.aW 64) (.cons (.ofNat 11) (.aW 64) (.cons (.ofNat 12) (.aZ ⟨64,37576681324518034818567663770237159915241064871055453511382247216200809831197981504099145227242711729550917632⟩) (.cons (.ofNat 13) (.aZ ⟨64,2037037919005230990725854861333215109080406544827183192609639569471334084715553723441479682⟩) (.cons (.ofNat 15) (.aZ ⟨64,3407103⟩) (.cons (.ofNat 16) (.aZ ⟨64,327339070154859837949295663827551604601163121850329360911216699488402937793990696676331381663504325367590974481738117416894750971762936780187949600866305⟩) (.cons (.ofNat 17) (.ev (yE 64)) (.cons (.ofNat 21) (.aW 1064) (.cons (.ofNat 22) (.aW 1064) (.cons (.ofNat 23) (.aW 1064) (.cons (.ofNat 24) (.aW 1064) (.cons (.ofNat 25) (.aW 1064) (.cons (.ofNat 26) (.aW 1064) (.cons (.ofNat 27) (.aW 1064) (.cons (.ofNat 28) (.aW 1064) (.cons (.ofNat 29) (.aW 1064) .nil))))))))))))))))))))))))) 14 17) .lf .lf) .lf) (.aB (.list []) .lf .lf)) (.aB (.inst 10 (.cons 48 (.ref 6) .nil)) (.aB (.inst 7 (.cons 19 (.int (.ofNat 64)) (.cons 20 (.int (.ofNat 30)) (.cons 21 (.int (.ofNat 6)) (.cons 22 (.int (.ofNat 10)) (.cons 23 (.int (.ofNat 2)) (.cons 28 (.int (.ofNat 24)) (.cons 29 (.int (.ofNat 2)) (.cons 30 (.int (.ofNat 16)) (.cons 31 (.int (.ofNat 2)) (.cons 33 (.int (.ofNat 12)) (.cons 34 (.int (.ofNat 15)) (.cons 36 (.int (.ofNat 16)) .nil))))))))))))) (.aB (.cb 15) .lf .lf) .lf) (.aB (.inst 13 (.cons 20 (.int (.ofNat 30)) (.cons 18 (.int (.ofNat 64)) (.cons 176 (.ref 16) (.cons 177 (.ref 17) (.cons 178 (.ref 18) (.cons 9 .et (.cons 179 .et (.cons 180 .none (.cons 181 .none (.cons 182 .aM .nil))))))))))) .lf .lf))) (.aB (.cell (U (.ref 5))) (.aB x (.aB (.inst 12 (.cons 163 (.ref 13) (.cons 164 (.int (.ofNat 16)) (.cons 18 (.int (.ofNat 64)) (.cons 28 (.ref 14) (.cons 165 (.ref 15) (.cons 166 .et (.cons 167 .et (.cons 9 .et .nil))))))))) (.aB (.dict (.cons (.ofNat 1) (.aZ ⟨64,4271974071870960198173450550567673501633592916415546124959296427502315924926629838840735499075648⟩) (.cons (.ofNat 2) (.aW 64) (.cons (.ofNat 3) (.aW 64) (.cons (.ofNat 4) (.aW 64) (.cons (.ofNat 5) (.aW 64) (.cons (.ofNat 6) (.aW 64) (.cons (.ofNat 7) (.aW 64) (.cons (.ofNat 8) (.aW 64) (.cons (.ofNat 9) (.aW 64) (.cons (.ofNat 10) (.aW 64) (.cons (.ofNat 11) (.aW 64) (.cons (.ofNat 12) (.aZ ⟨64,37576681324518034818567663770237159915241064871055453511382247216200809831197981504099145227242711729550917632⟩) (.cons (.ofNat 13) (.aZ ⟨64,2037037919005230990725854861333215109080406544827183192609639569471334084715553723441479682⟩) (.cons (.ofNat 15) (.aZ ⟨64,3407103⟩) (.cons (.ofNat 16) (.aZ ⟨64,327339070154859837949295663827551604601163121850329360911216699488402937793990696676331381663504325367590974481738117416894750971762936780187949600866305⟩) (.cons (.ofNat 17) (.ev (yE 64)) (.cons (.ofNat 21) (.aW 1064) (.cons (.ofNat 22) (.aW 1064) (.cons (.ofNat 23) (.aW 1064) (.cons (.ofNat 24) (.aW 1064) (.cons (.ofNat 25) (.aW 1064) (.cons (.ofNat 26) (.aW 1064) (.cons (.ofNat 27) (.aW 1064) (.cons (.ofNat 28) (.aW 1064) (.cons (.ofNat 29) (.aW 1064) .nil)))))))))))))))))))))))))) .lf .lf) .lf) (.aB (.dict .nil) .lf .lf)) (.aB (.inst 9 (.cons 67 (.ref 7) (.cons 69 (.ref 8) (.cons 70 (.ref 9) (.cons 71 (.int (.ofNat 4)) (.cons 74 (.ref 10) .nil)))))) (.aB (.dict .nil) (.aB (.list []) .lf .lf) .lf) (.aB (.iA 15) .lf .lf))))
def Nx(x:O):T:=(.aB .tab (.aB .tab (.aB (.cell aa) (.aB (.inst 14 (.cons 69 (.ref 8) (.cons 113 (.int (.ofNat 2)) (.cons 18 (.int (.ofNat 10)) (.cons 55 (.int (.ofNat 9)) (.cons 164 (.int (.ofNat 9)) (.cons 193 (.int (.ofNat 9)) (.cons 191 (.ref 11) (.cons 80 (.ref 12) (.cons 77 (.int (.ofNat 0)) (.cons 196 .et .nil))))))))))) (.aB (.c3 .nil aa aa (.cons (.ofNat 1) (.aZ ⟨64,4271974071870960198173450550567673501633592916415546124959296427502315924926629838840735499075648⟩) (.cons (.ofNat 2) (.aW 64) (.cons (.ofNat 3) (.aW 64) (.cons (.ofNat 4) (.aW 64) (.cons (.ofNat 5) (.aW 64) (.cons (.ofNat 6) (.aW 64) (.cons (.ofNat 7) (.aW 64) (.cons (.ofNat 8) (.aW 64) (.cons (.ofNat 9) (.aW 64) (.cons (.ofNat 10) (.aW 64) (.cons (.ofNat 11) (.aW 64) (.cons (.ofNat 12) (.aZ ⟨64,37576681324518034818567663770237159915241064871055453511382247216200809831197981504099145227242711729550917632⟩) (.cons (.ofNat 13) (.aZ ⟨64,2037037919005230990725854861333215109080432851856655148862167235798322977809907530227253250⟩) (.cons (.ofNat 15) (.aZ ⟨64,7601407⟩) (.cons (.ofNat 16) (.aZ ⟨64,327339070154859837949295663827551604601163121850329360911216699488402937793990696676331381663504325367590974481738117416894750971762936780187949600866305⟩) (.cons (.ofNat 17) (.aZ ⟨64,1146184984094725485034976639946211994621270504753548291455378765493757300070997153794740559636915395643314832414871713273555226894812793319209124104759148627938184390332930686384456175373780225⟩) (.cons (.ofNat 18) (.ev (yE 6)) (.cons (.ofNat 21) (.aW 1064) (.cons (.ofNat 22) (.aW 1064) (.cons (.ofNat 23) (.aW 1064) (.cons (.ofNat 24) (.aW 1064) (.cons (.ofNat 25) (.aW 1064) (.cons (.ofNat 26) (.aW 1064) (.cons (.ofNat 27) (.aW 1064) (.cons (.ofNat 28) (.aW 1064) (.cons (.ofNat 29) (.aW 1064) .nil)))))))))))))))))))))))))) 14 17) .lf .lf) .lf) (.aB (.list []) .lf .lf)) (.aB (.inst 10 (.cons 48 (.ref 6) .nil)) (.aB (.inst 7 (.cons 19 (.int (.ofNat 64)) (.cons 20 (.int (.ofNat 30)) (.cons 21 (.int (.ofNat 6)) (.cons 22 (.int (.ofNat 10)) (.cons 23 (.int (.ofNat 2)) (.cons 28 (.int (.ofNat 24)) (.cons 29 (.int (.ofNat 2)) (.cons 30 (.int (.ofNat 16)) (.cons 31 (.int (.ofNat 2)) (.cons 33 (.int (.ofNat 12)) (.cons 34 (.int (.ofNat 15)) (.cons 36 (.int (.ofNat 16)) .nil))))))))))))) (.aB (.cb 15) .lf .lf) .lf) (.aB (.inst 13 (.cons 20 (.int (.ofNat 30)) (.cons 18 (.int (.ofNat 64)) (.cons 176 (.ref 16) (.cons 177 (.ref 17) (.cons 178 (.ref 18) (.cons 9 .et (.cons 179 .et (.cons 180 .none (.cons 181 .none (.cons 182 .aM .nil))))))))))) .lf .lf))) (.aB (.cell (U (.ref 5))) (.aB x (.aB (.inst 12 (.cons 163 (.ref 13) (.cons 164 (.int (.ofNat 16)) (.cons 18 (.int (.ofNat 64)) (.cons 28 (.ref 14) (.cons 165 (.ref 15) (.cons 166 .et (.cons 167 .et (.cons 9 .et .nil))))))))) (.aB (.dict (.cons (.ofNat 1) (.aZ ⟨64,4271974071870960198173450550567673501633592916415546124959296427502315924926629838840735499075648⟩) (.cons (.ofNat 2) (.aW 64) (.cons (.ofNat 3) (.aW 64) (.cons (.ofNat 4) (.aW 64) (.cons (.ofNat 5) (.aW 64) (.cons (.ofNat 6) (.aW 64) (.cons (.ofNat 7) (.aW 64) (.cons (.ofNat 8) (.aW 64) (.cons (.ofNat 9) (.aW 64) (.cons (.ofNat 10) (.aW 64) (.cons (.ofNat 11) (.aW 64) (.cons (.ofNat 12) (.aZ ⟨64,37576681324518034818567663770237159915241064871055453511382247216200809831197981504099145227242711729550917632⟩) (.cons (.ofNat 13) (.aZ ⟨64,2037037919005230990725854861333215109080432851856655148862167235798322977809907530227253250⟩) (.cons (.ofNat 15) (.aZ ⟨64,7601407⟩) (.cons (.ofNat 16) (.aZ ⟨64,327339070154859837949295663827551604601163121850329360911216699488402937793990696676331381663504325367590974481738117416894750971762936780187949600866305⟩) (.cons (.ofNat 17) (.aZ ⟨64,1146184984094725485034976639946211994621270504753548291455378765493757300070997153794740559636915395643314832414871713273555226894812793319209124104759148627938184390332930686384456175373780225⟩) (.cons (.ofNat 18) (.ev (yE 6)) (.cons (.ofNat 21) (.aW 1064) (.cons (.ofNat 22) (.aW 1064) (.cons (.ofNat 23) (.aW 1064) (.cons (.ofNat 24) (.aW 1064) (.cons (.ofNat 25) (.aW 1064) (.cons (.ofNat 26) (.aW 1064) (.cons (.ofNat 27) (.aW 1064) (.cons (.ofNat 28) (.aW 1064) (.cons (.ofNat 29) (.aW 1064) .nil))))))))))))))))))))))))))) .lf .lf) .lf) (.aB (.dict .nil) .lf .lf)) (.aB (.inst 9 (.cons 67 (.ref 7) (.cons 69 (.ref 8) (.cons 70 (.ref 9) (.cons 71 (.int (.ofNat 4)) (.cons 74 (.ref 10) .nil)))))) (.aB (.dict .nil) (.aB (.list []) .lf .lf) .lf) (.aB (.iA 15) .lf .lf))))
def Ny(x:O):List O:=j1 (λi=>(Nw x).get i) (eT 19)
def Nz(x:O):List O:=j1 (λi=>(Nx x).get i) (eT 19)
def i3(B:Bool)(x:O):T:=aA B (Nx x) (Nw x)
def vl(B:Bool)(x:O)(r:aL):St:=⟨i3 B x,19,kq B r,af⟩
def l_(B:Bool)(r:R):O×Bool:=R.rec (motive:=λ_=>O×Bool) (λ_ _=>(.nul,af)) (λ_ _=>(.nul,af)) (λs=>bs (s.fr.get 248) (.nul,af) λv=>bE v (λi=>aA (aK i 4) (kp 4 DD s (i3 B .nul) (kq B .nil)) (.nul,af)) (.nul,af)) (λ_=>(.nul,af)) (λ_ _=>(.nul,af)) (λ_ _=>(.nul,af)) (λ_=>(.nul,af)) r
def p7(B:Bool)(x:O):R:=c8 (jb B) oU [] (run (jb B) 60) (nt B x)
noncomputable def sB:X:=fH (bu (not (qf (bG 251 (.fn 143)) (cons (bt 209) (cons (loc 235) nil)))) (fH (ret (a6 .aM)) bx) bx) bx
def agB:X:=fH vM (fH vN (fH vO (fH vP (fH vQ (fH vi bx)))))
def rS(B:Bool)(x:O):R:=c8 (jb B) agB [] (run (jb B) 60) (vl B x .nil)
def ut(r:R):O×Bool:=R.rec (motive:=λ_=>O×Bool) (λ_ _=>(.nul,af)) (λ_ _=>(.nul,af)) (λs=>kp 2 [.fr 248] s (.aB .tab (.aB .tab .lf .lf) (.aB .nul .lf .lf)) (.cons 248 (.ref 2) .nil)) (λ_=>(.nul,af)) (λ_ _=>(.nul,af)) (λ_ _=>(.nul,af)) (λ_=>(.nul,af)) r
noncomputable def se(x y:O)(fr:aL):St:=⟨.aB .tab (.aB .tab (.aB y .lf .lf) .lf) (.aB x .lf .lf),4,fr,af⟩
def rT(B:Bool)(x y:O)(fr:aL):R:=c8 (jb B) (qf (bG 253 (.fn 144)) nil) [] (run (jb B) 60) (se x y fr)
def uu(r:R):Bool:=R.rec (motive:=λ_=>Bool) (λv _=>dS v ae af af) (λ_ _=>af) (λ_=>af) (λ_=>af) (λ_ _=>af) (λ_ _=>af) (λ_=>af) r
def rU(B:Bool)(m r:Nat)(x:O):R:=c8 (jb B) sB [] (run (jb B) 60) (vl B x (.cons 235 (.res m r) .nil))
end
end Mine.G
end
section
namespace Mine.G
open Mine.C
def gc(c:Nat):Nat:=aA (aK c 0) 48 (aA (aK c 1) 96 (aA (aK c 2) 72 (aA (aK c 3) 30 (aA (aK c 4) 12 6))))
def ky(c:Nat):List (Nat×Nat):=(eT (gc c/6)).map λq=>(gc c,c+6*q)
def iJ(B:Bool)(c:Nat)(x:O):List (O×Bool):=(ky c).map λd=>l_ B (rU B d.1 d.2 x)
def iK(c:Nat)(x:O):List (O×Bool):=(ky c).map λJ=>(x,ae)
def cK(x:O):iJ af 0 x=iK 0 x:=by k_go
def f1(x:O):iJ af 1 x=iK 1 x:=by k_go
def f2(x:O):iJ af 2 x=iK 2 x:=by k_go
def nC(x:O):iJ af 3 x=iK 3 x:=by k_go
def jg(x:O):iJ af 4 x=iK 4 x:=by k_go
def mq(x:O):iJ af 5 x=iK 5 x:=by k_go
def nD(x:O):iJ ae 0 x=iK 0 x:=by k_go
def g1(x:O):iJ ae 1 x=iK 1 x:=by k_go
def g2(x:O):iJ ae 2 x=iK 2 x:=by k_go
def g3(x:O):iJ ae 3 x=iK 3 x:=by k_go
def lz(x:O):iJ ae 4 x=iK 4 x:=by k_go
def qs(x:O):iJ ae 5 x=iK 5 x:=by k_go
def Ee{P:Nat->Prop}(a:P 0)(b:P 1)(c:P 2)(d:P 3)(e:P 4)(f:P 5)(n:Nat)(h:n<6):P n:=by
 rcases n with _ |_ |_ |_ |_ |_ |n
 .show a
 .show b
 .show c
 .show d
 .show e
 .show f
 .show absurd h (d_.mpr (te 6 n))
def dT(B:Bool)(x:O)(c:Nat)(h:c<6):iJ B c x=iK c x:=by
 cases B with
 |false=>show Ee (P:=λc=>iJ af c x=iK c x) (cK x) (f1 x) (f2 x) (nC x) (jg x) (mq x) c h
 |true=>show Ee (P:=λc=>iJ ae c x=iK c x) (nD x) (g1 x) (g2 x) (g3 x) (lz x) (qs x) c h
def adh(B:Bool)(n:Nat)(x:O):0<gc (n % 6)/\l_ B (rU B (gc (n % 6)) (n % gc (n % 6)) x)=(x,ae):=by
 have cN:n % 6<6:=kQ _ (by x_go)
 have key:∀c k,gc c=6*(k+1)->n % 6=c->0<gc c/\(gc c,n % gc c)∈ky c:=λc k q e=>by
  have p:0<6*(k+1):=wO _;rw[q];show⟨p,dy.mpr ⟨(n % (6*(k+1)))/6,nP.mpr ?_,?_⟩⟩
  .rw[q,FI _ (by x_go)]
   show Nat.div_lt_of_lt_mul (kQ _ p)
  .rw[q];have t:n % (6*(k+1)) % 6=c:=(PV n 6 (k+1)).trans e;show congrArg (Prod.mk _) (t▸Nat.mod_add_div _ 6)
 have m:=Ee (P:=λc=>n % 6=c->0<gc c/\(gc c,n % gc c)∈ky c) (key 0 7 rfl) (key 1 15 rfl) (key 2 11 rfl) (key 3 4 rfl) (key 4 1 rfl) (key 5 0 rfl) (n % 6) cN rfl;show⟨m.1,s9.mp (dT B x (n % 6) cN) _ m.2⟩
def aeL(x:O):l_ af (p7 af x)=(x,ae):=by k_go
def aeM(x:O):l_ ae (p7 ae x)=(x,ae):=by k_go
def dF(B:Bool)(x:O):l_ B (p7 B x)=(x,ae):=Bv (motive:=λB=>l_ B (p7 B x)=(x,ae)) (aeL x) (aeM x) B
def aeN(x:O):ut (rS af x)=(x,ae):=by k_go
def aeO(x:O):ut (rS ae x)=(x,ae):=by k_go
def gd(B:Bool)(x:O):ut (rS B x)=(x,ae):=Bv (motive:=λB=>ut (rS B x)=(x,ae)) (aeN x) (aeO x) B
def aeP(x y:O)(fr:aL):uu (rT af x y fr)=ae:=by k_go
def aeQ(x y:O)(fr:aL):uu (rT ae x y fr)=ae:=by k_go
def vS(B:Bool)(x y:O)(fr:aL):uu (rT B x y fr)=ae:=Bv (motive:=λB=>uu (rT B x y fr)=ae) (aeP x y fr) (aeQ x y fr) B
def Jv(B:Bool)(x:O):i3 B x=T.fb x 4 4 (i3 B .nul) id:=by cases B<;>k_go
def Xf(B:Bool)(x:O):i3 B x=sd (aA B (Nz x) (Ny x)) 0 .lf:=by cases B<;>k_go
def Xg(B:Bool)(x:O):(aA B (Nz x) (Ny x)).length=19:=by cases B<;>rfl
end Mine.G
end
section
open PySem PySem.W PySem.W.X PySem.Calls PyProof.Rows
namespace Mine.Head
noncomputable abbrev cC:=Ps
noncomputable def mV:List b_:=cC.main.body
noncomputable def st(i:Nat):b_:=mV.getD i (.Pass ⟨0,0,0,0⟩)
noncomputable abbrev eh:aj:= .none
noncomputable abbrev I(n:Int):aj:= .int n 0
noncomputable abbrev aI(n:Int)(t:Nat):aj:= .int n t
noncomputable abbrev S(s:String)(t:Nat):aj:= .str (bq s) t
noncomputable abbrev R(a:Nat):aj:= .ref a
noncomputable abbrev E(P:cj)(s:Str)(t:Nat)(v:aj):hF:=⟨Ae P s, .str s t,v⟩
noncomputable abbrev T(vs:List aj):Obj:=⟨.type "tuple",aa, .seq vs.toArray 0,#[]⟩
noncomputable abbrev y0(vs:List aj):Obj:=⟨.none,aa, .fields vs.toArray,#[]⟩
noncomputable abbrev D(n:Nat)(es:List hF):Obj:=⟨.type "dict",aa, .dict es.toArray n,#[]⟩
noncomputable abbrev X(c:String)(vs:List aj):Obj:=⟨.type c,aa, .fields vs.toArray,#[]⟩
noncomputable def OR(c ns:Nat)(ay:aj):Obj:=⟨.type "frame",aa, .plain,#[U (.ref c),U (.ref 3),U (.ref ns),aa,U ay,aa,U (.ref 0)]⟩
noncomputable def ac(n q:Str)(t l adi fl fr:Nat)(gY:Bool)(a b c:aj)(tk:Nat):Obj:=X "code" [.str n t, .str q (t+1),S "/claim/cut.py" (t+2),I l,I adi,I 0,I 0,I fl,R fr, .bool gY,I 181,R (fr+1), .none,a,b,c,I tk,I l,S "/claim/cut.py" (tk+1)]
noncomputable def sf(k:iV)(s:bW):List Str:=(s.names.filter λp=>decide (p.2=k)).map (·.1)
noncomputable def y1:List Str->Nat->List aj
 | [],_=> []
 |s::r,t=> .str s t::y1 r (t+1)
noncomputable def aeR(l t:Nat):Nat×List aj:=if l=7 then(t+1, [S "" t])else if l=52 then(t, [aI 12 329])else if l=193 then(t+2, [aI 0 t,aI 0 (t+1)])else if l=502 then(t+2, [aI 0 t,aI 0 (t+1),eh])else(t, [eh])
noncomputable def E_{α:Type}(z:α)(f:Str->xa->List b_->bW->Nat->α)(c:Str->List b_->List Str->Nat->α)(s:b_):α:=SO (motive_2:=λJ=>α) s (λn a b J J J sc J J p=>f n a b sc p.line) (λJ J J J J J J J J J=>z) (λn J J b J J J J J l p=>c n b l p.line) (λJ J=>z) (λJ J=>z) (λJ J J=>z) (λJ J J J J J J=>z) (λJ J J J=>z) (λJ J J J J=>z) (λJ J J J J=>z) (λJ J J J J=>z) (λJ J J J=>z) (λJ J J J=>z)
  (λJ J J=>z) (λJ J J=>z) (λJ J J=>z) (λJ J J=>z) (λJ J J J J=>z) (λJ J J J J=>z) (λJ J J=>z) (λJ J=>z) (λJ J J J=>z) (λJ J=>z) (λJ J=>z) (λJ J=>z) (λJ=>z) (λJ=>z) (λJ=>z)
noncomputable def N3(s:bW):Nat:=(sf .local s).length+(sf .cell s).length
noncomputable def cmp(l:Nat):Bool:= [112,163,364,376,436,463,722,725,826,939,951,1041].contains l
noncomputable def vm(pm:aj)(pre:Str):List b_->Nat->Nat->List (Nat×Obj)×List (Str×Nat×Nat)×List (Nat×Nat)×Nat×Nat
 | [],a,t=>([], [], [],a,t)
 |s::r,aR,t0=>E_ (vm pm pre r aR t0) (λname args body scope l=>
  let q:Str:=⟨pre.cps++name.cps⟩
  let D:=if args.defaults.isEmpty then(t0, [])else aeR l t0
  let a:=if args.defaults.isEmpty then aR else aR+1
  let t:=D.1
  let jL:Obj:=⟨.none,aa, .func {name,qualname:=q,params:=args,body:= .stmts body,scope,globals:=0,closure:= [],defaults:= .none,kwdefaults:= .none},#[]⟩
  let fn (c:Nat):Obj:=⟨.type "function",aa, .func {name,qualname:=q,params:=args,body:= .stmts body,scope,globals:=3,closure:= [],defaults:=if args.defaults.isEmpty then eh else R aR,kwdefaults:= .none,pyModule:=pm,code:=R c},#[]⟩
  let ac (k:Nat) (x y:aj) (u:Nat):=ac name q t l args.args.length 3 a ae x y (R (a+k)) u
  let z:=if cmp l then(5,6, [(a+2,jL),(a+3,ac 2 eh eh (t+3)),(a+4,fn (a+3))])
   else(7,6+N3 scope, [(a+2,T (y1 (sf .local scope) (t+3))),(a+3,T (y1 (sf .cell scope) (t+3+(sf .local scope).length))),(a+4,jL),(a+5,ac 4 (R (a+2)) (R (a+3)) (t+3+N3 scope)),(a+6,fn (a+5))])
  let x:=vm pm pre r (a+z.1) (t+z.2.1)
  ((if args.defaults.isEmpty then []else [(aR,T D.2)])++((a,T [])::(a+1,y0 [])::(z.2.2++x.1)),(name,t+z.2.1 - 1,a+z.1 - 1)::x.2.1,(l,a+z.1 - 2)::x.2.2.1,x.2.2.2)) (λJ J J J=>vm pm pre r aR t0) s
noncomputable def jM(k:Nat):List (Nat×Nat)->List aj
 | []=> []
 |p::l=>I p.1::I k::R p.2::jM k l
noncomputable def Fa(s:b_)(k ns bc t:Nat)(av mo:List aj)(nw:String)(sub:List aj):Obj:=E_ default (λJ J J J J=>default)
 (λn J J J=>⟨.type "type",aa, .cls ⟨n,av,R k::mo,ns,n,ae, [],sub,af,aa,af⟩,#[if nw="object.__new__"then aa else U (R bc),aa,U (.str n t),U (.str n (t+8)),U (.builtin nw),U (.bool ae)]⟩) s
noncomputable def lA(P:cj)(pm:aj)(s:b_)(a t:Nat)(bc av mo:List aj)(g:Nat)(nw:String):List (Nat×Obj):=E_ [] (λJ J J J J=> []) (λn b vT l=>
 let f:=vm pm ⟨n.cps++#[46]⟩ b (a+7) (t+12)
 let e:=f.2.1.map λk=>E P k.1 k.2.1 (R k.2.2)
 let m:=E P "__module__" (t+7) pm
 let fl:=E P "__firstlineno__" (t+11) (aI l (t+10))
 let v:=f.2.2.2.1
 let u:=f.2.2.2.2+vT.length
 let z:=E P "__static_attributes__" u (R v)
 let k:=v+2
 let OS (s:String) (r:aj):Obj:=X "builtin_function_or_method" [.builtin s,r]
 let kz (s:String) (t:Nat) (x y:aj):Obj:=X "getset_descriptor" [S s t,R k,x,y]
 [(a,T bc),(a+1,OS "type.__prepare__" (.type "type")),(a+2,D (4+e.length) (m::E P "__qualname__" (t+9) (.str n (t+8))::fl::(e++ [z]))),(a+3,T []),(a+4,y0 (jM 4 f.2.2.1)),(a+5,ac n n (t+2) l 0 0 (a+3) af eh eh eh (t+5)),(a+6,OR (a+5) (a+2) pm)]++
 (f.1++([(v,T (y1 vT f.2.2.2.2)),(v+1,D (2+g) (m::fl::(e++(z::((if g=2 then [E P "__dict__" (u+2) (R (k+1))]else [])++((if g=0 then []else [E P "__weakref__" (u+2*g) (R (k+g))])++ [E P "__doc__" (u+2*g+1) eh])))))),(k,Fa s k (k - 1) a t av mo nw [])]++
 ((if g=2 then [(k+1,kz "__dict__" (u+1) (.builtin "function.__dict__") (.builtin "function.__dict__#set"))]else [])++
 ((if g=0 then []else [(k+g,kz "__weakref__" (u+2*g - 1) (.builtin "ExceptionGroup.__weakref__") eh)])++
 [(k+g+1,X "super" [R k,R k,R k]),(k+g+2,OS "object.__init_subclass__" (R k))]))))) s
noncomputable def fF:List (Nat×Obj)->BT->BT
 | [],t=>t
 |p::l,t=>fF l (t.ins p.1 p.2)
noncomputable def Zy:List aj:=jM 0 [(1,20),(5,27),(10,48),(12,60),(14,72),(16,84),(18,96),(36,115),(38,127),(40,134),(42,141),(45,148),(48,155),(50,162),(96,226),(150,315),(387,485),(392,492),(394,499),(403,506),(408,513),(415,520),(590,691),(636,789),(734,904),(815,1002),(826,1007),(833,1014),(920,1120),(926,1127),(933,1134),(937,1141),(939,1146),(951,1151),(956,1158),(968,1165),(973,1172),(976,1179),(986,1186),(999,1193),(1005,1200),(1012,1207),(1027,1214),(1041,1219)]
noncomputable abbrev OT:aj:=S "__main__" 164
noncomputable abbrev qt:aj:=S "pipeboard.errors" 194
noncomputable abbrev mr:aj:=S "pipeboard.inodes" 313
noncomputable abbrev zs:aj:=S "pipeboard.paths" 874
noncomputable abbrev vU:aj:=S "pipeboard.blocks" 1182
noncomputable abbrev zt:aj:=S "pipeboard.devices" 1460
noncomputable abbrev zu:aj:=S "pipeboard.journal" 1600
noncomputable abbrev nE:aj:=S "law_pq0907_01" 1750
noncomputable def N4:List (String×Nat×aj):= [("__name__",165,nE),("__doc__",166,eh),("__package__",167,eh),("__loader__",168,(.builtin "__main__.__loader__#opaque")),("__spec__",169,eh),("__annotations__",170,(R 6)),("__builtins__",171,(R 4)),("__file__",173,(S "/claim/cut.py" 172)),("__cached__",174,eh),("_wall",193,(R 21)),("BoardError",223,(R 39)),("BadArgument",239,(R 52)),("BadDisk",255,(R 64)),("NoRoom",271,(R 76)),("BadCall",287,(R 88)),("Crash",312,(R 107)),("MAGIC",316,(aI 270544960 315)),("FREE",318,(aI 0 317)),("DIRECTORY",320,(aI 1 319)),("FILE",322,(aI 2 321)),("DEVICE",324,(aI 3 323)),("ROOT",326,(aI 1 325)),("FIRST_LOG",328,(aI 2 327)),("DIRECT",330,(aI 12 329)),("HEAD",332,(aI 12 331)),("PIECE",334,(aI 16 333)),("SUPER_WORDS",336,(aI 9 335)),("MOST_A_PIECE",338,(aI 4 337)),("NoBlock",354,(R 119)),("half_at",362,(R 128)),("word_at",370,(R 135)),("put_half",379,(R 142)),("put_word",388,(R 149)),("rounded_up",396,(R 156)),("Super",489,(R 216)),("Node",604,(R 305)),("Nodes",873,(R 475)),("NAME",877,(aI 14 876)),("ROW",879,(aI 16 878)),("SLASH",881,(aI 47 880)),("HERE",883,(.bytes #[46] 882)),("ABOVE",885,(.bytes #[46,46] 884)),("octets_of",893,(R 486)),("cut_name",900,(R 493)),("parts_of",910,(R 500)),("row_for",919,(R 507)),("name_in",928,(R 514)),("Paths",1181,(R 681)),("Buffer",1308,(R 779)),("Cache",1459,(R 894)),("Disk",1592,(R 992)),("octets_in",1599,(R 1003)),("NUMBER",1603,(aI 4 1602)),("MOST_EACH",1605,(aI 10 1604)),("SPARE",1607,(aI 4 1606)),("packed_head",1613,(R 1008)),("Journal",1749,(R 1110)),("_law_in_call",1759,(R 1121)),("_law_root",1767,(R 1128)),("_law_file",1776,(R 1135)),("_law_open",1784,(R 1142)),("_law_used",1790,(R 1147)),("_law_state",1796,(R 1152)),("_law_heard",1803,(R 1159)),("_law_filled",1814,(R 1166)),("_law_crowded",1822,(R 1173)),("_law_at_path",1832,(R 1180)),("_law_outside",1841,(R 1187)),("_law_full",1850,(R 1194)),("_law_spoilt",1862,(R 1201)),("_law_refused_right",1876,(R 1208)),("_law_far_right",1888,(R 1215)),("law",1894,(R 1220))]
noncomputable def abv(P:cj):List hF:=N4.map λx=>E P (bq x.1) x.2.1 x.2.2
noncomputable def Xh(v:aj):List hF->List hF
 |e::l=>{e with val:=v}::l
 | []=> []
noncomputable def ai(P:cj)(k n:Nat)(v:aj)(j:Nat):List (Nat×Obj):= [(3,⟨.type "dict",aa, .dict (Xh v ((abv P).take k)).toArray n,#[]⟩),(12,y0 (Zy.take j))]
noncomputable def vV:List aj:= [.type "ValueError", .type "Exception", .type "BaseException", .type "object"]
noncomputable def vW(sub:List aj):Nat×Obj:=(39,Fa (st 2) 39 38 22 196 [.type "ValueError"] vV "ValueError.__new__" sub)
noncomputable def b7:List aj:= [.type "object"]
noncomputable def sC(P:cj):List (Nat×Obj):= [(11,T []),(12,y0 []),(13,ac "<module>" "<module>" 182 1 0 0 11 af eh eh eh 185),(14,OR 13 3 OT)]
noncomputable def cy(pm:aj)(i n a t:Nat):List (Nat×Obj):=(vm pm ⟨#[]⟩ ((mV.drop i).take n) a t).1
noncomputable def gz(P:cj):List (Nat×Obj):=ai P 11 11 qt 6++(cy OT 0 1 15 187++lA P qt (st 2) 22 196 [.type "ValueError"] [.type "ValueError"] vV 1 "ValueError.__new__")
noncomputable def ex(P:cj)(i a t:Nat):List (Nat×Obj):=lA P qt (st i) a t [R 39] [R 39] (R 39::vV) 0 "ValueError.__new__"
noncomputable def ei(P:cj):List (Nat×Obj):=ai P 12 12 qt 9++vW [R 52]::ex P 3 43 224
noncomputable def nF(P:cj):List (Nat×Obj):=ai P 13 13 qt 12++vW [R 52,R 64]::ex P 4 55 240
noncomputable def zv(P:cj):List (Nat×Obj):=ai P 14 14 qt 15++vW [R 52,R 64,R 76]::ex P 5 67 256
noncomputable def Fb(P:cj):List (Nat×Obj):=ai P 15 15 qt 18++vW [R 52,R 64,R 76,R 88]::ex P 6 79 272
noncomputable def sD(P:cj):List (Nat×Obj):=ai P 28 28 mr 21++vW [R 52,R 64,R 76,R 88,R 107]::ex P 7 91 288
noncomputable def sE(P:cj):List (Nat×Obj):=ai P 34 34 mr 39++(76,Fa (st 5) 76 75 67 256 [R 39] (R 39::vV) "ValueError.__new__" [R 119])::(lA P mr (st 21) 110 339 [R 76] [R 76] (R 76::R 39::vV) 0 "ValueError.__new__"++cy mr 22 5 122 355)
noncomputable def sF(P:cj):List (Nat×Obj):=ai P 35 35 mr 42++lA P mr (st 27) 157 397 [] b7 b7 2 "object.__new__"
noncomputable def vX(P:cj):List (Nat×Obj):=ai P 36 36 mr 45++lA P mr (st 28) 221 490 [] b7 b7 2 "object.__new__"
noncomputable def sg(P:cj):List (Nat×Obj):=ai P 37 37 mr 48++lA P mr (st 29) 310 605 [] b7 b7 2 "object.__new__"
noncomputable def Ef(P:cj):List (Nat×Obj):=ai P 47 47 zs 63++cy zs 36 5 480 886
noncomputable def sh(P:cj):List (Nat×Obj):=ai P 48 48 zs 66++lA P zs (st 41) 515 929 [] b7 b7 2 "object.__new__"
noncomputable def aeS(P:cj):List (Nat×Obj):=(ai P 48 48 vU 0).take 1
noncomputable def vn(P:cj):List (Nat×Obj):=ai P 49 49 vU 69++lA P vU (st 43) 686 1184 [] b7 b7 2 "object.__new__"
noncomputable def vo(P:cj):List (Nat×Obj):=ai P 50 50 vU 72++lA P vU (st 44) 784 1309 [] b7 b7 2 "object.__new__"
noncomputable def aeT(P:cj):List (Nat×Obj):=(ai P 50 50 zt 0).take 1
noncomputable def vp(P:cj):List (Nat×Obj):=ai P 51 51 zt 75++lA P zt (st 46) 899 1462 [] b7 b7 2 "object.__new__"
noncomputable def Eg(P:cj):List (Nat×Obj):=ai P 56 56 zu 81++(cy zt 47 1 997 1593++cy zu 52 1 1004 1608)
noncomputable def sj(P:cj):List (Nat×Obj):=ai P 57 57 zu 84++lA P zu (st 53) 1009 1614 [] b7 b7 2 "object.__new__"
noncomputable def Eh(P:cj):List (Nat×Obj):=ai P 69 69 nE 120++cy nE 55 12 1115 1752
noncomputable def y2(P:cj):List (Nat×Obj):=ai P 73 73 nE 132++cy nE 67 4 1195 1851
def OU(P:cj):BT:=fF (sC P) (fF [(0,boot_o_0 P),(1,boot_o_1 P),(2,boot_o_2 P),(3,boot_o_3 P),(4,boot_o_4 P),(5,boot_o_5 P),(6,boot_o_6 P),(7,boot_o_7 P),(8,boot_o_8 P),(9,boot_o_9 P),(10,boot_o_10 P)] .nil)
def OV(P:cj):BT:=fF (gz P) (OU P)
noncomputable def eF(P:cj):BT:=fF (ei P) (OV P)
noncomputable def vY(P:cj):BT:=fF (nF P) (eF P)
def OW(P:cj):BT:=fF (zv P) (vY P)
def OX(P:cj):BT:=fF (Fb P) (OW P)
def OY(P:cj):BT:=fF (sD P) (OX P)
def OZ(P:cj):BT:=fF (sE P) (OY P)
def O0(P:cj):BT:=fF (sF P) (OZ P)
def O1(P:cj):BT:=fF (vX P) (O0 P)
def N5(P:cj):BT:=fF (sg P) (O1 P)
def N6(P:cj):BT:=fF (Ef P) (N5 P)
def N7(P:cj):BT:=fF (sh P) (N6 P)
def N8(P:cj):BT:=fF (aeS P) (N7 P)
def N9(P:cj):BT:=fF (vn P) (N8 P)
def N_(P:cj):BT:=fF (vo P) (N9 P)
def Oa(P:cj):BT:=fF (aeT P) (N_ P)
def Ob(P:cj):BT:=fF (vp P) (Oa P)
def Oc(P:cj):BT:=fF (Eg P) (Ob P)
def Od(P:cj):BT:=fF (sj P) (Oc P)
def Oe(P:cj):BT:=fF (Eh P) (Od P)
def y3(P:cj):BT:=fF (y2 P) (Oe P)
noncomputable def oB:Option aj:=U (.ref 6)
noncomputable def yF:Env:={scope:=cC.main.scope,locals:=mainNs,globals:=mainNs,cells:= [],code:= .ref 13,frame:=U 14}
noncomputable def oI:Code:= .body (Gr cC) yF
noncomputable def bK:Pos:=⟨0,0,0,0⟩
noncomputable abbrev vZ:List Frame:= [topFrame bK]
noncomputable def ge(T:cj->BT)(a t:Nat)(w:b3)(os:dO):fm:=⟨T w.params,a,{},#[],{},t,os⟩
def vq:b3->dO->fm:=ge OU 15 187
def vr:b3->dO->fm:=ge OV 43 224
def Ei:b3->dO->fm:=ge eF 55 240
def nt:b3->dO->fm:=ge vY 67 256
def Ej:b3->dO->fm:=ge OW 79 272
def Ek:b3->dO->fm:=ge OX 91 288
noncomputable def se:b3->dO->fm:=ge OY 110 339
def El:b3->dO->fm:=ge OZ 157 397
def Em:b3->dO->fm:=ge O0 221 490
def En:b3->dO->fm:=ge O1 310 605
def DE:b3->dO->fm:=ge N5 480 874
def DF:b3->dO->fm:=ge N6 515 929
def DG:b3->dO->fm:=ge N7 686 1182
def DH:b3->dO->fm:=ge N8 686 1184
def DI:b3->dO->fm:=ge N9 784 1309
def DJ:b3->dO->fm:=ge N_ 899 1460
def DK:b3->dO->fm:=ge Oa 899 1462
def DL:b3->dO->fm:=ge Ob 997 1593
def DM:b3->dO->fm:=ge Oc 1009 1614
def DN:b3->dO->fm:=ge Od 1115 1750
def DO:b3->dO->fm:=ge Oe 1195 1851
def p8:b3->dO->fm:=ge y3 1221 1895
noncomputable def bh:Pos:=⟨5,0,9,28⟩
noncomputable def bz:Pos:=⟨10,0,11,8⟩
noncomputable def c0:Pos:=⟨12,0,13,8⟩
noncomputable def gy:Pos:=⟨14,0,15,8⟩
noncomputable def jd:Pos:=⟨16,0,17,8⟩
noncomputable def mi:Pos:=⟨35,0,35,12⟩
noncomputable def Fc:Pos:=⟨48,0,49,37⟩
noncomputable def Fd:Pos:=⟨50,0,95,95⟩
noncomputable def Fe:Pos:=⟨96,0,149,28⟩
noncomputable def Eo:Pos:=⟨150,0,380,52⟩
noncomputable def Ep:Pos:=⟨408,0,414,23⟩
noncomputable def Er:Pos:=⟨415,0,588,16⟩
noncomputable def Es:Pos:=⟨589,0,589,8⟩
noncomputable def Et:Pos:=⟨590,0,635,16⟩
noncomputable def Eu:Pos:=⟨636,0,732,39⟩
noncomputable def Ev:Pos:=⟨733,0,733,8⟩
noncomputable def Ew:Pos:=⟨734,0,814,16⟩
noncomputable def Ex:Pos:=⟨826,0,832,50⟩
noncomputable def Ey:Pos:=⟨833,0,918,17⟩
noncomputable def Ez:Pos:=⟨999,0,1004,30⟩
noncomputable def EA:Pos:=⟨1041,0,1056,62⟩
def gf(N i n:Nat)(S sG:b3->dO->fm)(p p':Pos):Prop:=∀w os,segRunT q2 cC w 11 oB 1 N (S w os) (piecesOf ((mV.drop i).take n) yF oI p vZ)=U (.next,sG w os,oI,p')
def aeU:gf 259 0 3 vq vr bK bh:=λw os=>by rw[gA,gk];k_go
def aeV:gf 214 3 1 vr Ei bh bz:=λw os=>by rw[gA,gk];k_go
def aeW:gf 214 4 1 Ei nt bz c0:=λw os=>by rw[gA,gk];k_go
def aeX:gf 214 5 1 nt Ej c0 gy:=λw os=>by rw[gA,gk];k_go
def aeY:gf 214 6 1 Ej Ek gy jd:=λw os=>by rw[gA,gk];k_go
def aeZ:gf 363 7 14 Ek se jd mi:=λw os=>by rw[gA,gk];k_go
def ae0:gf 380 21 6 se El mi Fc:=λw os=>by rw[gA,gk];k_go
def ae1:gf 436 27 1 El Em Fc Fd:=λw os=>by rw[gA,gk];k_go
def ae2:gf 547 28 1 Em En Fd Fe:=λw os=>by rw[gA,gk];k_go
def ae3:gf 986 29 1 En DE Fe Eo:=λw os=>by rw[gA,gk];k_go
def adj:gf 208 30 11 DE DF Eo Ep:=λw os=>by rw[gA,gk];k_go
def adk:gf 954 41 1 DF DG Ep Er:=λw os=>by rw[gA,gk];k_go
def adl:gf 10 42 1 DG DH Er Es:=λw os=>by rw[gA,gk];k_go
def adm:gf 583 43 1 DH DI Es Et:=λw os=>by rw[gA,gk];k_go
def adn:gf 677 44 1 DI DJ Et Eu:=λw os=>by rw[gA,gk];k_go
def ado:gf 10 45 1 DJ DK Eu Ev:=λw os=>by rw[gA,gk];k_go
def adp:gf 589 46 1 DK DL Ev Ew:=λw os=>by rw[gA,gk];k_go
def adq:gf 92 47 6 DL DM Ew Ex:=λw os=>by rw[gA,gk];k_go
def adr:gf 619 53 1 DM DN Ex Ey:=λw os=>by rw[gA,gk];k_go
def ads:gf 369 54 13 DN DO Ey Ez:=λw os=>by rw[gA,gk];k_go
def adt:gf 131 67 4 DO p8 Ez EA:=λw os=>by rw[gA,gk];k_go
end Mine.Head
end
section
open PySem PySem.W PySem.W.X PySem.Calls PyProof.Rows
namespace Mine.Head
def Zz(w:b3)(os:dO):topGo q2 cC w 11 oB 12 ⟨pc w.params,#[],HZ,Iy,os⟩ (topStub cC)=U ((vq w os).abs,⟨denote q2 oI,oI,bK,vZ⟩):=by rw[ahC,ahD,gk];k_go
def Vt(w:b3)(os:dO):segRun q2 cC w 11 oB 1 1 (vq w os).abs (blockOf (Gr cC) yF oI bK vZ)=U (.next,(vq w os).abs,oI,bK):=by k_go
def ZA(w:b3)(os:dO):topRun q2 cC w 11 oB 2 (p8 w os).abs ⟨doneF .next,oI,EA,vZ⟩=U (p8 w os).abs:=by k_go
def ZB:Gr cC=mV.drop 0:=by k_go
def Xi:mV.drop 71= []:=by k_go
def fI(aq i:Nat)(S:b3->dO->fm)(p:Pos):Prop:=∀w os,topRun q2 cC w 11 oB aq (S w os).abs (restOf (mV.drop i) yF oI p vZ)=U (p8 w os).abs
def gt{N i k M aq j:Nat}{S sG:b3->dO->fm}{p p':Pos}(h:gf N i k S sG p p')(K:fI M j sG p')(mu:N+M=aq)(Ff:i+k=j):fI aq i S p:=λw os=>by
 k_lt mu;k_lt Ff;rw[show mV.drop i=(mV.drop i).take k++mV.drop (i+k) by rw[<-wF,List.take_append_drop]]
 show piece_app (segRun_of (h w os)) (K w os)
def abw:fI 2 71 p8 EA:=λw os=>by rw[Xi];show piece_nil (ZA w os)
def abx:fI 133 67 DO Ez:=gt adt abw rfl rfl
def aby:fI 502 54 DN Ey:=gt ads abx rfl rfl
def abz:fI 1121 53 DM Ex:=gt adr aby rfl rfl
def abA:fI 1213 47 DL Ew:=gt adq abz rfl rfl
def abB:fI 1802 46 DK Ev:=gt adp abA rfl rfl
def abC:fI 1812 45 DJ Eu:=gt ado abB rfl rfl
def abD:fI 2489 44 DI Et:=gt adn abC rfl rfl
def abE:fI 3072 43 DH Es:=gt adm abD rfl rfl
def abF:fI 3082 42 DG Er:=gt adl abE rfl rfl
def abG:fI 4036 41 DF Ep:=gt adk abF rfl rfl
def abH:fI 4244 30 DE Eo:=gt adj abG rfl rfl
def adu:fI 5230 29 En Fe:=gt ae3 abH rfl rfl
def adv:fI 5777 28 Em Fd:=gt ae2 adu rfl rfl
def adw:fI 6213 27 El Fc:=gt ae1 adv rfl rfl
def rT:fI 6593 21 se mi:=gt ae0 adw rfl rfl
def rS:fI 6956 7 Ek jd:=gt aeZ rT rfl rfl
def rU:fI 7170 6 Ej gy:=gt aeY rS rfl rfl
def p7:fI 7384 5 nt c0:=gt aeX rU rfl rfl
def adx:fI 7598 4 Ei bz:=gt aeW p7 rfl rfl
def ady:fI 7812 3 vr bh:=gt aeV adx rfl rfl
def adz:fI 8071 0 vq bK:=gt aeU ady rfl rfl
def ZC(w:b3)(os:dO):topRun q2 cC w 11 oB 8084 ⟨pc w.params,#[],HZ,Iy,os⟩ (topStub cC)=U (p8 w os).abs:=by have h:=adz w os;rw[<-ZB]at h;have bM:=piece_block (n:=1) (N:=8071) (Vt w os) h;have cz:=go_top (n:=12) (N:=1+8071) (Zz w os) bM;have e:12+(1+8071)=8084:=rfl;rw[e]at cz;show cz
end Mine.Head
end
section
open PySem PySem.W PySem.W.X PySem.Calls PyProof.Rows
namespace Mine.Head
def na:eP:={cC with main:={cC.main with body:= [st 70]}}
def xM:List Str:=(N4.drop 9).map λx=>bq x.1
def gG(P:cj):Heap:=absHeap (y3 P) 1221 {}
def ZD:opening cC=plainProg cC.main.scope.names:=by k_go
def Xj:∀s,fenceModules? cC s=U s:=λs=>by k_go
def ZE:∀w:b3,((pc w.params).isNs d2&&(#[]:Array Jl).size==0,(pc w.params).objs.size,(pc w.params).nsMap d2 "__annotations__")=(ae,11,oB):=λw=>by k_go
def abI(w:b3)(os:dO):staticsOk (Re cC.main.body) (pc w.params) (gG w.params)=ae:=by rw[Pn];k_go
def abJ(w:b3)(os:dO):namesBound cC (gG w.params)=ae:=by k_go
def abK(w:b3)(os:dO):laidKept (pc w.params) (gG w.params)=ae:=by k_go
end Mine.Head
end
section
open PySem PySem.W PySem.W.X PySem.Calls PyProof.Rows
namespace Mine.Head
def Of(s:ax):Bool:=xlAt na [] s&&recOk [] s
def abL(w:b3)(os:dO):openSeen na xM (Re cC.main.body) Of ae ⟨gG w.params,#[],{},1895,os⟩=openGood na xM:=by rw[ahE,Pn];k_go
open PySem.W.Fast
noncomputable abbrev EB:eP:=Ps
noncomputable abbrev DP:OpenRow:=tw2368527892694137696 wb
def abM:R.filterR (tw13343964577679436407 EB EB.main.body) [⟨⟨[118,97,114,115]⟩⟩,⟨⟨[100,105,114]⟩⟩,⟨⟨[108,111,99,97,108,115]⟩⟩]= []:=by k_go
def abN:tw12908688711261696721 EB=ae:=by delta tw12908688711261696721;rw[abM];show dx.mpr ⟨dx.mpr ⟨by z_go,by k_go⟩,by z_go⟩
def abO:tw2436336058641802641 DP=ae:=by delta tw2436336058641802641;rw[show tw12908688711261696721 DP.prog=ae from abN];k_go
def abP:tw17960256430627541270 DP=ae:=by delta tw17960256430627541270;rw[abO];k_go
def ZF:OpenLaw.wellSaid wb=ae:=by rw[te9446332074065402090];delta tw9446332074065402090;rw[show tw17960256430627541270 (tw2368527892694137696 wb)=ae from abP];k_go
end Mine.Head
end
section
open PySem PySem.W PySem.W.X PySem.Calls PyProof.Rows
namespace Mine.Head
abbrev nu:=wb
def abQ(w:b3)(os:dO):(p8 w os).abs=⟨gG w.params,#[],{},1895,os⟩:=by k_go
def ZG{α:Type}{Yf:ax->α}{Ya:b3->α}(agC:∀(w:b3) (os:dO),Yf ⟨gG w.params,#[],{},1895,os⟩=Ya w):LeftO cC na xM Of Yf Ya 20000:=by
 show LeftO.of_pieces (H₀:=pc) (H₁:=gG) (gs₀:=#[]) (gs₁:=#[]) (d₀:=HZ) (d₁:={}) (k₀:=Iy) (k₁:=1895) (m₀:=11) (ann:=oB) (M:=8084)
  (boot_open ZD (by z_go) Xj) ZE ?_ (by z_go) ?_
 .intro w os;have h:=ZC w os;rw[abQ]at h;show h
 .intro w;funext os;have g:gensDone ⟨gG w.params,#[],{},1895,os⟩=ae:=rfl;rw[abI w os,abJ w os,abK w os,abL w os,agC w os,g];simp only[Bool.and_self]
def n_:DefRec:=((defOf na nu.name).map (·.1)).getD ⟨default,default,default,default,default⟩
def abR:defOf na nu.name=U (n_, []):=by k_go
def Vu:cC.theDef nu.name=U (n_.params,n_.body,n_.scope):=by k_go
def adA:kwWritten? n_.params.kwonlyargs n_.params.kw_defaults=U []:=by k_go
def adB:(Jm na&&Iz cC&&(frees nu.row.toRowW&&nu.row.within.isEmpty))=ae:=by k_go
end Mine.Head
end
set_option linter.unusedVariables false
set_option tactic.hygienic false
set_option hygiene false
def Mine.mcO (s : Lean.Syntax) : Lean.MacroM Lean.Syntax := Mine.mcM s ("11 first . 2 2 . 10 assumption . 2 . 11 first . 2 2 . 11 withReducible . 12 «tactic_<;>_» 11 apply . " ++ String.replace "Mine.L12s Mine.L12 Mine.L14 Mine.L18 Mine.L17s Mine.L17 Mine.L15 Int.natCast_nonneg Mine.L2 Mine.L10 Mine.L8' Nat.not_lt.mp Nat.sub_le Nat.add_le_add Nat.le_of_succ_le Nat.lt_of_succ_lt Nat.le_of_lt_succ Nat.lt_succ_of_le Nat.ne_of_gt Nat.ne_of_lt Nat.le_trans Nat.lt_of_le_of_lt Nat.lt_of_lt_of_le Nat.le_of_lt Mine.S.z1 Mine.S.z2 Mine.ar23 Mine.ar22 Mine.ar21 Mine.ar20 Mine.ar19 Mine.ar18 Mine.ar17 Mine.ar16 Mine.ar15 Mine.ar14 Mine.ar13 Mine.ar12 Mine.ar11" " " " . 11 first . 3 2 . 10 assumption . 2 . 11 exact . 22 app Nat.le_of_ble_eq_true 1 22 byTactic . 10 tacticRfl . 2 . 11 refine . 22 app Nat.le_add_right 1 21 ellipsis . 2 . 11 first . 2 2 . 11 withReducible . 12 «tactic_<;>_» 11 apply . " ++ " . 11 first . 3 2 . 10 assumption . 2 . 11 exact . 22 app Nat.le_of_ble_eq_true 1 22 byTactic . 10 tacticRfl . 2 . 11 refine . 22 app Nat.le_add_right 1 21 ellipsis . 2 . .")
local macro_rules (kind := Lean.Parser.Tactic.split) | s => Mine.mcM s (if s[2].isNone then "11 first . 2 2 . 12 «tactic_<;>_» 11 refine . 22 app Mine.iteE 2 22 syntheticHole . . 22 syntheticHole . . . 11 intro . 1 h.«_@».x._hyg.1 2 . ." else ".")
local macro_rules (kind := Lean.Parser.Tactic.rewriteSeq) | s => let a := s[2][1].getSepArgs; let r := a[0]!; if s[3].isNone && 1 < a.size then .node .none `null <$> a.mapM (Mine.mcM · "13 rewriteSeq . 10 optConfig 0 12 rwRuleSeq . 1 s . 0") else Mine.mcM r (if s[3].isNone then if r[0].isNone then "11 first . 2 2 . 11 refine . 22 app Mine.rwr 2 22 app -2 s 1 21 ellipsis . 22 syntheticHole . . 2 . ." else "11 first . 2 2 . 11 refine . 22 app Mine.rwb 2 22 app -2 s 1 21 ellipsis . 22 syntheticHole . . 2 . ." else ".")
local macro_rules (kind := Lean.Parser.Tactic.change) | s => Mine.mcM s (if s[2].isNone then "11 first . 2 2 . 11 refine . 25 typeAscription 22 hygienicLParen . . 22 syntheticHole . . . 1 -2 s . 2 . ." else ".")
local macro_rules (kind := Lean.Parser.Tactic.cases) | s => let t := s[1][0]; Mine.mcM s (if t[0].isNone then if t[1].isIdent then if s[3].isNone then "11 first . 5 2 . 2 12 injection . -2 -1 -2 s 0 10 done . 2 . 3 12 tacticHave__ . 21 letConfig 0 21 letDecl 25 letIdDecl 21 letId J 0 0 . 22 app Option.some.inj 1 -2 -1 -2 s 11 clear . 1 -2 -1 -2 s 11 subst . 1 J 2 . 3 12 tacticHave__ . 21 letConfig 0 21 letDecl 25 letIdDecl 21 letId J 0 0 . 22 app Eq.symm 1 -2 -1 -2 s 11 clear . 1 J 11 subst . 1 -2 -1 -2 s 2 . 12 rcases . 1 11 elimTarget 0 -2 -1 -2 s 2 . 11 rcasesPatLo 10 rcasesPatMed 1 12 rcasesPat.tuple . 0 . 0 2 . ." else "14 induction . -2 s 0 0 -4 s" else "." else "11 first . 2 2 . 2 12 generalize . 1 13 generalizeArg 2 -1 -1 -1 -1 -2 s . -2 -1 -2 s . aD 0 14 induction . 1 11 elimTarget 0 aD 0 0 -4 s 2 . .")
local macro_rules (kind := Lean.Parser.Term.nofun) | s => Mine.mcM s "22 byTactic . 11 first . 4 2 . 2 11 intros . 0 10 contradiction . 2 . 3 11 intro . 1 aD 13 cases . 1 11 elimTarget 0 aD 0 0 10 done . 2 . 3 11 intro . 2 aD J 13 cases . 1 11 elimTarget 0 aD 0 0 10 done . 2 . 2 11 intro . 1 J 11 exact . s"
local macro_rules (kind := Lean.Parser.Term.nomatch) | s => Mine.mcM s "22 byTactic . 11 first . 3 2 . 2 12 injection . -1 -2 s 0 10 done . 2 . 10 contradiction . 2 . 2 13 cases . 1 11 elimTarget 0 -1 -2 s 0 0 10 done ."
local macro_rules (kind := Lean.Parser.Tactic.omega) | s => Mine.mcO s
local macro_rules (kind := Lean.Parser.Tactic.lia) | s => Mine.mcO s
set_option maxHeartbeats 4000000
section
namespace Mine.C
def l3{α:Type}{P:α->Prop}{y n:α}:∀{b:Bool},(b=ae->P y)->(b=af->P n)->P (aA b y n)
 |true,h,_=>h rfl
 |false,_,h=>h rfl
def Jw{α:Type}(a:α):∀b:Bool,aA b a a=a
 |true=>rfl
 |false=>rfl
def db{α:Type}{o:Option α}{a:α}:∀{b:Bool},cx b o=U a->b=ae/\o=U a
 |true,h=>⟨rfl,h⟩
def eV{α bA:Type}{k:α->Option bA}{b:bA}:∀{o:Option α},ew o k=U b->∃a,o=U a/\k a=U b
 |some _,h=>⟨_,rfl,h⟩
def mW{α bA:Type}{k:α->bA}{b:bA}:∀{o:Option α},g7 o k=U b->∃a,o=U a/\k a=b
 |some _,h=>⟨_,rfl,bY h⟩
def lQ{α:Type}{q:Option α}{a:α}:∀{o:Option α},ko o q=U a->o=U a\/q=U a
 |none,h=> .inr h
 |some _,h=> .inl h
def eX{α:Type}(n:Nat)(k:Nat->α):du n k=k n:=by cases n<;>rfl
def pJ{α:Type}(k:Int->α):∀i:Int,lu i k=k i
 | .ofNat n=>eX n λn=>k (.ofNat n)
 | .negSucc n=>eX n λn=>k (.negSucc n)
def oo(i:Int):ss i=U i:=pJ _ i
def nb(n:Nat):jf n=U (n:Int):=eX n _
def pK(n x:Nat):lx n x=U ⟨n,x⟩:=(eX n _).trans (eX x _)
def tP(a b:Int):l7 a b=a+b:=by cases a<;>cases b<;>rfl
def bS{a b:Nat}(h:aK a b=ae):a=b:=iN h
def j7{a b:Nat}(h:aK a b=af):a≠b:=Nat.ne_of_beq_eq_false h
def n1(a:Nat):aK a a=ae:=SP a
def tz{a b:Nat}(h:a≠b):aK a b=af:=Ge.mpr λq=>h (bS q)
def df{a b:Nat}(h:bw a b=ae):a<b:=fD.mp h
def ua{a b:Nat}(h:bw a b=af):b<=a:=Gs λq=>Ge.mp h (fD.mpr q)
section
variable{α:Type}{P:α->Prop}{z:α}{v:V}{o:O}
def k2(hz:P z)(f:∀i,v= .int i->P (int i))(k:∀l,v= .li l->P (li l))
 (g:∀y,v= .aZ y->P (aZ y))(d:∀y,v= .ev y->P (ev y))(j:∀y,v= .any y->P (any y))(c:∀y,v= .ref y->P (ref y)):P (fS z int li aZ ev any ref v):=V.rec (motive:=λw=>v=w->P (fS z int li aZ ev any ref w)) (λJ=>hz) (λJ=>hz) (λJ=>hz) f k g d j (λJ J=>hz) (λJ J J=>hz) (λJ=>hz) (λJ J=>hz) (λJ J=>hz) (λJ J=>hz) c (λJ J=>hz) (λJ J=>hz) (λJ J=>hz) (λJ J=>hz) v rfl
def pL(hz:P z)(f:∀i,v= .aW i->P (aW i))(d:∀a b,v= .res a b->P (res a b))(g:v= .et->P et)(am:∀i,v= .str i->P (str i))
 (c:∀i,v= .h9 i->P (h9 i))(hf:∀i,v= .fn i->P (fn i))(k:∀i,v= .cls i->P (cls i))(j:∀i,v= .bi i->P (bi i)):P (mj v aW res et str h9 fn cls bi z):=V.rec (motive:=λw=>v=w->P (mj w aW res et str h9 fn cls bi z)) (λJ=>hz) (λJ=>hz) (λJ=>hz) (λJ J=>hz) (λJ J=>hz) (λJ J=>hz) (λJ J=>hz) (λJ J=>hz) f d g am c (λJ J=>hz) (λJ J=>hz) hf k j (λJ J=>hz) v rfl
def CO(hz:P z)(g:v= .none->P n)(c:v= .tt->P t)(hf:v= .aM->P f)(d:∀i,v= .lr i->P (lr i)):P (vK v n t f lr z):=V.rec (motive:=λw=>v=w->P (vK w n t f lr z)) g c hf (λJ J=>hz) (λJ J=>hz) (λJ J=>hz) (λJ J=>hz) (λJ J=>hz) (λJ J=>hz) (λJ J J=>hz) (λJ=>hz) (λJ J=>hz) (λJ J=>hz) (λJ J=>hz) (λJ J=>hz) (λJ J=>hz) (λJ J=>hz) (λJ J=>hz) d v rfl
def jv{k:Int->α}(h:∀i,v= .int i->P (k i))(hz:P z):P (b6 v k z):=k2 hz h (λJ J=>hz) (λJ J=>hz) (λJ J=>hz) (λJ J=>hz) (λJ J=>hz)
def nc{k:dE->α}(h:∀i,v= .aZ i->P (k i))(hz:P z):P (ga v k z):=k2 hz (λJ J=>hz) (λJ J=>hz) h (λJ J=>hz) (λJ J=>hz) (λJ J=>hz)
def e9{k:Nat->α}(h:∀i,v= .ref i->P (k i))(hz:P z):P (bE v k z):=k2 hz (λJ J=>hz) (λJ J=>hz) (λJ J=>hz) (λJ J=>hz) (λJ J=>hz) h
def iX{k:Nat->α}(h:∀i,v= .aW i->P (k i))(hz:(∀i,v≠ .aW i)->P z):P (ii v k z):=V.rec (motive:=λw=>v=w->P (ii w k z)) (λe=>hz λJ q=>nomatch e.symm.trans q) (λe=>hz λJ q=>nomatch e.symm.trans q) (λe=>hz λJ q=>nomatch e.symm.trans q) (λJ e=>hz λJ q=>nomatch e.symm.trans q) (λJ e=>hz λJ q=>nomatch e.symm.trans q) (λJ e=>hz λJ q=>nomatch e.symm.trans q) (λJ e=>hz λJ q=>nomatch e.symm.trans q) (λJ e=>hz λJ q=>nomatch e.symm.trans q) h (λJ J e=>hz λJ q=>nomatch e.symm.trans q) (λe=>hz λJ q=>nomatch e.symm.trans q) (λJ e=>hz λJ q=>nomatch e.symm.trans q) (λJ e=>hz λJ q=>nomatch e.symm.trans q) (λJ e=>hz λJ q=>nomatch e.symm.trans q) (λJ e=>hz λJ q=>nomatch e.symm.trans q) (λJ e=>hz λJ q=>nomatch e.symm.trans q) (λJ e=>hz λJ q=>nomatch e.symm.trans q) (λJ e=>hz λJ q=>nomatch e.symm.trans q) (λJ e=>hz λJ q=>nomatch e.symm.trans q) v rfl
def Xk{k:Nat->Nat->α}(h:∀m r,v= .res m r->P (k m r))(hz:P z):P (Dg v k z):=pL hz (λJ J=>hz) h (λJ=>hz) (λJ J=>hz) (λJ J=>hz) (λJ J=>hz) (λJ J=>hz) (λJ J=>hz)
def xr{k:α}(h:v= .et->P k)(hz:P z):P (rJ v k z):=pL hz (λJ J=>hz) (λJ J J=>hz) h (λJ J=>hz) (λJ J=>hz) (λJ J=>hz) (λJ J=>hz) (λJ J=>hz)
def Xl{k:Nat->α}(h:∀i,v= .str i->P (k i))(hz:P z):P (uL v k z):=pL hz (λJ J=>hz) (λJ J J=>hz) (λJ=>hz) h (λJ J=>hz) (λJ J=>hz) (λJ J=>hz) (λJ J=>hz)
def Vv{k:Nat->α}(h:∀i,v= .h9 i->P (k i))(hz:P z):P (CE v k z):=pL hz (λJ J=>hz) (λJ J J=>hz) (λJ=>hz) (λJ J=>hz) h (λJ J=>hz) (λJ J=>hz) (λJ J=>hz)
def xN{k:Nat->α}(h:∀i,v= .fn i->P (k i))(hz:P z):P (yT v k z):=pL hz (λJ J=>hz) (λJ J J=>hz) (λJ=>hz) (λJ J=>hz) (λJ J=>hz) h (λJ J=>hz) (λJ J=>hz)
def xt{k:Nat->α}(h:∀i,v= .cls i->P (k i))(hz:P z):P (rK v k z):=pL hz (λJ J=>hz) (λJ J J=>hz) (λJ=>hz) (λJ J=>hz) (λJ J=>hz) (λJ J=>hz) h (λJ J=>hz)
def ub{k:hT->α}(h:∀i,v= .bi i->P (k i))(hz:P z):P (r6 v k z):=pL hz (λJ J=>hz) (λJ J J=>hz) (λJ=>hz) (λJ J=>hz) (λJ J=>hz) (λJ J=>hz) (λJ J=>hz) h
def n2{k:α}(h:v= .none->P k)(hz:P z):P (jr v k z):=CO hz h (λJ=>hz) (λJ=>hz) (λJ J=>hz)
def ZH{k:Nat->α}(h:∀i,v= .lr i->P (k i))(hz:P z):P (NY v k z):=CO hz (λJ=>hz) (λJ=>hz) (λJ=>hz) h
def CP{a b:α}(h:v= .tt->P a)(ag:v= .aM->P b)(hz:P z):P (dS v a b z):=CO hz (λJ=>hz) h ag (λJ J=>hz)
def oq{jg:V->α}{mq:Int->Int->Int->α}{f:Nat->α}{d:Nat->Nat->α}(hz:P z)(n:∀a b,o= .inst a b->P (cK a b))(k:∀a,o= .list a->P (f1 a))(p:∀a,o= .tup a->P (f2 a))(m:∀a,o= .dict a->P (nC a))(l:∀a,o= .ba a->P (jg a))(g:∀a b c,o= .eZ a b c->P (mq a b c))(j:∀a,o= .enum a->P (f a))(i:∀a b,o= .rev a b->P (d a b)):P (ml z cK f1 f2 nC jg mq f d o):=O.rec (motive:=λw=>o=w->P (ml z cK f1 f2 nC jg mq f d w)) (λJ=>hz) n k p m (λJ J=>hz) (λJ J=>hz) (λJ J J J J J J=>hz) l (λJ J=>hz) (λJ J J=>hz) g j i (λJ J=>hz) (λJ=>hz) (λJ J J=>hz) (λJ J=>hz) o rfl
def kU{k:Nat->aL->α}(h:∀a b,o= .inst a b->P (k a b))(hz:P z):P (gF o k z):=oq hz h (λJ J=>hz) (λJ J=>hz) (λJ J=>hz) (λJ J=>hz) (λJ J J J=>hz) (λJ J=>hz) (λJ J J=>hz)
def j0{k:List V->α}(h:∀a,o= .list a->P (k a))(hz:P z):P (cJ o k z):=oq hz (λJ J J=>hz) h (λJ J=>hz) (λJ J=>hz) (λJ J=>hz) (λJ J J J=>hz) (λJ J=>hz) (λJ J J=>hz)
def ri{k:List V->α}(h:∀a,o= .tup a->P (k a))(hz:P z):P (i0 o k z):=oq hz (λJ J J=>hz) (λJ J=>hz) h (λJ J=>hz) (λJ J=>hz) (λJ J J J=>hz) (λJ J=>hz) (λJ J J=>hz)
def q6{k:aP->α}(h:∀a,o= .dict a->P (k a))(hz:P z):P (e_ o k z):=oq hz (λJ J J=>hz) (λJ J=>hz) (λJ J=>hz) h (λJ J=>hz) (λJ J J J=>hz) (λJ J=>hz) (λJ J J=>hz)
def oa{k:V->α}(h:∀a,o= .ba a->P (k a))(hz:P z):P (fQ o k z):=oq hz (λJ J J=>hz) (λJ J=>hz) (λJ J=>hz) (λJ J=>hz) h (λJ J J J=>hz) (λJ J=>hz) (λJ J J=>hz)
def Jx{k:Int->Int->Int->α}(h:∀a b c,o= .eZ a b c->P (k a b c))(hz:P z):P (p0 o k z):=oq hz (λJ J J=>hz) (λJ J=>hz) (λJ J=>hz) (λJ J=>hz) (λJ J=>hz) h (λJ J=>hz) (λJ J J=>hz)
def Vw{k:Nat->α}(h:∀a,o= .enum a->P (k a))(hz:P z):P (LH o k z):=oq hz (λJ J J=>hz) (λJ J=>hz) (λJ J=>hz) (λJ J=>hz) (λJ J=>hz) (λJ J J J=>hz) h (λJ J J=>hz)
def Xm{k:Nat->Nat->α}(h:∀a b,o= .rev a b->P (k a b))(hz:P z):P (MW o k z):=oq hz (λJ J J=>hz) (λJ J=>hz) (λJ J=>hz) (λJ J=>hz) (λJ J=>hz) (λJ J J J=>hz) (λJ J=>hz) h
def rB{nC:Option V->α}{jg:Nat->aL->α}{mq:List V->α}(hz:P z)(l:∀a,o= .cb a->P (cK a))(i:∀a,o= .iA a->P (f1 a))(m:∀a b c d e g,o= .c3 a b c d e g->P (f2 a b c d e g))(k:∀a,o= .cell a->P (nC a))(j:∀a b,o= .lam a b->P (jg a b))(f:∀a,o= .set a->P (mq a)):P (oR z cK f1 f2 nC jg mq o):=O.rec (motive:=λw=>o=w->P (oR z cK f1 f2 nC jg mq w)) (λJ=>hz) (λJ J J=>hz) (λJ J=>hz) (λJ J=>hz) (λJ J=>hz) l i m (λJ J=>hz) k j (λJ J J J=>hz) (λJ J=>hz) (λJ J J=>hz) f (λJ=>hz) (λJ J J=>hz) (λJ J=>hz) o rfl
def Jy{k:Nat->α}(h:∀a,o= .cb a->P (k a))(hz:P z):P (oz o k z):=rB hz h (λJ J=>hz) (λJ J J J J J J=>hz) (λJ J=>hz) (λJ J J=>hz) (λJ J=>hz)
def II{k:Nat->α}(h:∀a,o= .iA a->P (k a))(hz:P z):P (om o k z):=rB hz (λJ J=>hz) h (λJ J J J J J J=>hz) (λJ J=>hz) (λJ J J=>hz) (λJ J=>hz)
def pd{k:aP->Option Nat->Option Int->aP->Nat->Nat->α}(h:∀a b c d e g,o= .c3 a b c d e g->P (k a b c d e g))(hz:P z):P (eW o k z):=rB hz (λJ J=>hz) (λJ J=>hz) h (λJ J=>hz) (λJ J J=>hz) (λJ J=>hz)
def Bb{k:Option V->α}(h:∀a,o= .cell a->P (k a))(hz:P z):P (m7 o k z):=rB hz (λJ J=>hz) (λJ J=>hz) (λJ J J J J J J=>hz) h (λJ J J=>hz) (λJ J=>hz)
def Jz{k:Nat->aL->α}(h:∀a b,o= .lam a b->P (k a b))(hz:P z):P (uM o k z):=rB hz (λJ J=>hz) (λJ J=>hz) (λJ J J J J J J=>hz) (λJ J=>hz) h (λJ J=>hz)
def Xn{k:List V->α}(h:∀a,o= .set a->P (k a))(hz:P z):P (yl o k z):=rB hz (λJ J=>hz) (λJ J=>hz) (λJ J J J J J J=>hz) (λJ J=>hz) (λJ J J=>hz) h
def LU(hz:P z)(c:∀a b,o= .ig a b->P (cK a b))(d:∀a,o= .l0 a->P (f1 a)):P (zp z cK f1 o):=O.rec (motive:=λw=>o=w->P (zp z cK f1 w)) (λJ=>hz) (λJ J J=>hz) (λJ J=>hz) (λJ J=>hz) (λJ J=>hz) (λJ J=>hz) (λJ J=>hz) (λJ J J J J J J=>hz) (λJ J=>hz) (λJ J=>hz) (λJ J J=>hz) (λJ J J J=>hz) (λJ J=>hz) (λJ J J=>hz) (λJ J=>hz) (λJ=>hz) c d o rfl
def Xo{k:Nat->Bool->α}(h:∀a b,o= .ig a b->P (k a b))(hz:P z):P (p1 o k z):=LU hz h (λJ J=>hz)
def ZI{k:Nat->α}(h:∀a,o= .l0 a->P (k a))(hz:P z):P (NZ o k z):=LU hz (λJ J J=>hz) h
def abS{i:Int}(h:∀n:Nat,i=n->P (k n))(ag:∀n,P (cV n)):P (e7 i k cV):=match i with
 | .ofNat n=>h n rfl
 | .negSucc n=>ag n
def CQ{k:Nat->α}(h:∀n:Nat,v= .int n->P (k n))(hz:P z):P (eh v k z):=jv (λJ e=>abS (λn q=>h n (q▸e)) λJ=>hz) hz
end
def Xp{i j:Nat}(h:par i=par j)(e:i/2=j/2):i=j:=by
 have a:par i=decide (i % 2=0):=by cases q:par i with |true=>show(decide_eq_true (bS q)).symm |false=>show(decide_eq_false (j7 q)).symm
 have b:par j=decide (j % 2=0):=by cases q:par j with |true=>show(decide_eq_true (bS q)).symm |false=>show(decide_eq_false (j7 q)).symm
 rw[a,b,decide_eq_decide]at h;show Mine.ac9 h e
def T.Xq(v:O):∀(f i:Nat) (t:T),i<=f->∃aU:T,(∀{α:Type} (k:T->α),T.fb v f i t k=k aU)/\∀j,aU.get j=if j=i then v else t.get j:=by
 have z:∀t:T,∃aU:T,(∀{α:Type} (k:T->α),vJ (k (.aB v .lf .lf)) (λJ l r=>k (.aB v l r)) t=k aU)/\∀j,aU.get j=if j=0 then v else t.get j:=λt=>by
  cases t with
  |lf=>show⟨_,λk=>rfl,λj=>by cases j<;>first |rfl |show Jw _ _⟩
  |aB o l r=>show⟨_,λk=>rfl,λj=>by cases j<;>rfl⟩
 intro f;cases f with
 |zero=>intro i t h;obtain rfl:=AC.mp h;show z t
 |succ f I=>
  intro i t h;cases i with
  |zero=>show z t
  |succ i=>
   have g:i/2<=f:=by lia
   have K:∀(o:O) (l r:T),∃aU:T,(∀{α:Type} (k:T->α),aA (par i) (T.fb v f (i/2) l λt=>k (.aB o t r)) (T.fb v f (i/2) r λt=>k (.aB o l t))=k aU)/\∀j,aU.get j=if j=i+1 then v else(T.aB o l r).get j:=λo l r=>by
    have m:∀(c:T) (b:Bool),par i=b->(∀j,c.get j=if j=i/2 then v else(aA b l r).get j)->∀j,(aA b (T.aB o c r) (T.aB o l c)).get j=if j=i+1 then v else(T.aB o l r).get j:=λc b d e j=>by
     cases j with
     |zero=>rw[if_neg (by lia)];cases b<;>rfl
     |succ j=>
      by_cases q:j=i
      .k_lt q;rw[if_pos rfl];have:=e (j/2);rw[if_pos rfl]at this;cases b<;>(change aA (par j) _ _=_;rw[d];show this)
      .rw[if_neg (by lia)]
       cases Q:par j<;>cases b<;>(change aA (par j) _ _=aA (par j) _ _;rw[Q])
       all_goals first |rfl | (show(e (j/2)).trans (if_neg λh=>q (Xp (Q.trans d.symm) h)))
    cases d:par i with
    |true=>show x12 (I (i/2) l g) λc a e=>?_;show⟨.aB o c r,λk=>a _,m c ae d e⟩
    |false=>show x12 (I (i/2) r g) λc a e=>?_;show⟨.aB o l c,λk=>a _,m c af d e⟩
   cases t with
   |aB o l r=>show K o l r
   |lf=>
    show x12 (K .nul .lf .lf) λaU a e=>⟨aU,a,λj=>(e j).trans ?_⟩;cases j with
    |zero=>rfl
    |succ j=>change(if _ then _ else aA (par j) O.nul O.nul)=_;rw[Jw];rfl
def T.st(v:O)(t:T)(i:Nat):T:=T.fb v i i t id
def T.rC(v:O)(t:T)(i:Nat):(∀{α:Type} (k:T->α),T.fb v i i t k=k (T.st v t i))/\∀j,(T.st v t i).get j=if j=i then v else t.get j:=by show x12 (T.Xq v i i t (jY _)) λaU a e=>?_;haveI:T.st v t i=aU:=a id;show this▸⟨a,e⟩
def T.cT(v:O)(t:T)(i:Nat):(t.st v i).get i=v:=((T.rC v t i).2 i).trans (if_pos rfl)
def T.bO(v:O)(t:T){i j:Nat}(h:j≠i):(t.st v i).get j=t.get j:=((T.rC v t i).2 j).trans (if_neg h)
def St.st(L:St)(i:Nat)(o:O):St:=⟨L.h.st o i,L.nx,L.fr,L.hf⟩
def gE(L:St)(o:O)(k:V->St->R):L.alloc o k=k (.ref L.nx) ⟨L.h.st o L.nx,L.nx+1,L.fr,L.hf⟩:=(eX _ _).trans ((T.rC o L.h L.nx).1 _)
def gP(L:St)(i:Nat)(o:O)(k:St->R):L.put i o k=k ⟨L.h.st o i,L.nx,L.fr,L.hf⟩:=(T.rC o L.h i).1 _
def aL.st(n:Nat)(w:V)(f:aL):aL:=f.pZ n w id
def aL.BC(n:Nat)(w:V)(f:aL):∀{α:Type} (K:aL->α),f.pZ n w K=K (f.st n w):=by
 cases f with
 |nil=>showλJ=>rfl
 |cons k v r i=>intro α K;change aA _ _ (r.pZ n w _)=K (aA (aK k n) (.cons k w r) (r.pZ n w λr=>id (.cons k v r)));rw[i,i];cases aK k n<;>rfl
def aL.hn(k:Nat)(v:V)(r:aL)(j:Nat):(aL.cons k v r).get j=aA (aK k j) (U v) (r.get j):=rfl
def aL.pj(n:Nat)(w:V)(k:Nat)(v:V)(r:aL):(aL.cons k v r).st n w=aA (aK k n) (.cons k w r) (.cons k v (r.st n w)):=by change aA _ _ (r.pZ n w _)=_;rw[aL.BC];rfl
def aL.f0(n:Nat)(w:V)(f:aL)(j:Nat):(f.st n w).get j=if j=n then U w else f.get j:=by
 cases f with
 |nil=>
  change aA (aK n j) (U w) aa=_;split at⊢
  .rename_i e;k_lt e;rw[n1];rfl
  .rename_i e;rw[tz (cX e)];rfl
 |cons k v r i=>
  rw[aL.pj,aL.hn];cases q:aK k n with
  |true=>
   obtain rfl:=bS q;change aA (aK k j) _ _=_;split at⊢
   .rename_i e;k_lt e;rw[n1];rfl
   .rename_i e;rw[tz (cX e)];rfl
  |false=>
   change aA (aK k j) _ ((r.st n w).get j)=_;rw[i];split at⊢
   .rename_i e;k_lt e;rw[q];rfl
   .rfl
def ho(L:St)(n:Nat)(v:V)(k:St->R):L.f4 n v k=k ⟨L.h,L.nx,L.fr.st n v,L.hf⟩:=aL.BC ..
def gQ{a b:Int}(h:cH a b=ae):a=b:=by cases a<;>cases b<;>first |show congrArg _ (bS h) |show nomatch h
def tF(a:Int):cH a a=ae:=by cases a<;>show n1 _
def KI{a b:Int}(h:cH a b=af):a≠b:=by rintro rfl;rw[tF]at h;cases h
def o_{a b:Int}(h:a≠b):cH a b=af:=Ge.mpr λq=>h (gQ q)
def KJ(a b:Int):cH a b=decide (a=b):=by
 by_cases h:a=b
 .k_lt h;rw[tF,decide_eq_true rfl]
 .rw[o_ h,decide_eq_false h]
def blt_eq(a b:Nat):bw a b=decide (a<b):=by
 cases q:bw a b with
 |true=>show(decide_eq_true (df q)).symm
 |false=>show(decide_eq_false (d_.mpr (ua q))).symm
def xO(a b:Int):k_ a b=decide (a<b):=by
 cases a with
 |ofNat m=>cases b with
  |ofNat n=>show(blt_eq m n).trans (decide_eq_decide.mpr (by change m<n↔(m:Int)<(n:Int);lia))
  |negSucc n=>show(decide_eq_false (by change¬((m:Int)< -(↑n+1));lia)).symm
 |negSucc m=>cases b with
  |ofNat n=>show(decide_eq_true (by change -((m:Int)+1)<(n:Int);lia)).symm
  |negSucc n=>show(blt_eq n m).trans (decide_eq_decide.mpr (by change n<m↔ -((m:Int)+1)< -((n:Int)+1);lia))
def Ca{a b:Int}(h:k_ a b=ae):a<b:=of_decide_eq_true ((xO a b).symm.trans h)
def KL{a b:Int}(h:k_ a b=af):b<=a:=w2.mp (of_decide_eq_false ((xO a b).symm.trans h))
def ZJ{a b:Int}(h:D8 a b=ae):a<=b:=KL (by unfold D8 at h;cases q:k_ b a<;>rw[q]at h<;>first |rfl |cases h)
def aP.hU(n:Int)(w:V)(f:aP):aP:=f.iZ n w id
def aP.dG(n:Int)(f:aP):aP:=f.k4 n id
def aP.pk(n:Int)(w:V)(f:aP):∀{α:Type} (K:aP->α),f.iZ n w K=K (f.hU n w):=by
 cases f with
 |nil=>showλJ=>rfl
 |cons k v r i=>intro α K;change aA _ _ (r.iZ n w _)=K (aA (cH k n) (.cons k w r) (r.iZ n w λr=>id (.cons k v r)));rw[i,i];cases cH k n<;>rfl
def aP.tQ(n:Int)(f:aP):∀{α:Type} (K:aP->α),f.k4 n K=K (f.dG n):=by
 cases f with
 |nil=>showλJ=>rfl
 |cons k v r i=>intro α K;change aA _ (r.k4 n _) (r.k4 n _)=K (aA (cH k n) (r.k4 n id) (r.k4 n λr=>id (.cons k v r)));rw[i,i,i,i];cases cH k n<;>rfl
def aP.hn(k:Int)(v:V)(r:aP)(j:Int):(aP.cons k v r).get j=aA (cH k j) (U v) (r.get j):=rfl
def aP.JA(n:Int)(w:V)(k:Int)(v:V)(r:aP):(aP.cons k v r).hU n w=aA (cH k n) (.cons k w r) (.cons k v (r.hU n w)):=by change aA _ _ (r.iZ n w _)=_;rw[aP.pk];rfl
def aP.JB(n:Int)(k:Int)(v:V)(r:aP):(aP.cons k v r).dG n=aA (cH k n) (r.dG n) (.cons k v (r.dG n)):=by change aA _ (r.k4 n _) (r.k4 n _)=_;rw[aP.tQ,aP.tQ];rfl
def aP.ZK(n:Int)(w:V)(f:aP)(j:Int):(f.hU n w).get j=if j=n then U w else f.get j:=by
 cases f with
 |nil=>
  change aA (cH n j) (U w) aa=_;split at⊢
  .rename_i e;k_lt e;rw[tF];rfl
  .rename_i e;rw[o_ (cX e)];rfl
 |cons k v r i=>
  rw[aP.JA,aP.hn];cases q:cH k n with
  |true=>
   obtain rfl:=gQ q;change aA (cH k j) _ _=_;split at⊢
   .rename_i e;k_lt e;rw[tF];rfl
   .rename_i e;rw[o_ (cX e)];rfl
  |false=>
   change aA (cH k j) _ ((r.hU n w).get j)=_;rw[i];split at⊢
   .rename_i e;k_lt e;rw[q];rfl
   .rfl
def aP.ZL(n:Int)(f:aP)(j:Int):(f.dG n).get j=if j=n then aa else f.get j:=by
 cases f with
 |nil=>change aa=ite _ _ aa;split at⊢<;>rfl
 |cons k v r i=>
  rw[aP.JB,aP.hn];cases q:cH k n with
  |true=>
   obtain rfl:=gQ q;change(r.dG k).get j=_;rw[i];split at⊢
   .rfl
   .rename_i e;rw[o_ (cX e)];rfl
  |false=>
   change aA (cH k j) _ ((r.dG n).get j)=_;rw[i];split at⊢
   .rename_i e;k_lt e;rw[q];rfl
   .rfl
theorem eA{α:Type}:∀l:List α,cU l=l.length
 | []=>rfl
 |_::r=>congrArg da (eA r)
theorem mX{α:Type}(m:List α):∀l:List α,l8 l m=l++m
 | []=>rfl
 |a::r=>congrArg (a::·) (mX m r)
theorem xu{α:Type}:∀l e:List α,uK l e=l.reverse++e
 | [],_=>rfl
 |a::r,e=>(xu r (a::e)).trans (by rw[s_,jR];rfl)
theorem tG{α:Type}:∀(l:List α) (n:Nat),rz l n=l.take n
 | [],n=>by cases n<;>rfl
 |a::r,0=>rfl
 |a::r,n+1=>congrArg (a::·) (tG r n)
theorem q7{α:Type}:∀(l:List α) (n:Nat),pG l n=l.drop n
 | [],n=>by cases n<;>rfl
 |a::r,0=>rfl
 |a::r,n+1=>q7 r n
theorem hq{α:Type}:∀(l:List α) (n:Nat),dj l n=l[n]?
 | [],n=>by cases n<;>rfl
 |a::r,0=>rfl
 |a::r,n+1=>hq r n
theorem Bc{α:Type}(w:α):∀(l:List α) (n:Nat),CD w l n=l.set n w
 | [],n=>by cases n<;>rfl
 |a::r,0=>rfl
 |a::r,n+1=>congrArg (a::·) (Bc w r n)
theorem BD{α:Type}(v:α):∀k:Nat,MV k v=kL k v
 | 0=>rfl
 |k+1=>congrArg (v::·) (BD v k)
theorem n3{α:Type}{p:α->Bool}:∀{l:List α},kh p l=ae->∀a∈l,p a=ae
 | [],_,_,h=>nomatch h
 |b::r,h,a,c=>by
  have h:aA (p b) (kh p r) af=ae:=h;cases q:p b<;>rw[q]at h
  .cases h
  .show a8 (bX.mp c) (λo=>?_) λc=>?_
   .k_lt o;show q
   .show n3 h a c
def ZM{α:Type}{f:Nat->Option α}:∀{n:Nat} {A l:List α},tab n f A=U l->∃aq,l=aq++A/\aq.length=n/\∀k,k<n->aq[k]? =f k:=by
 intro x;cases x with
 |zero=>intro A l h;show⟨[],(bY h).symm,rfl,λk c=>absurd c (z_ k)⟩
 |succ n i=>
  intro A l h;haveI h:bs (f n) aa (λa=>tab n f (a::A))=U l:=h;cases q:f n with
  |none=>rw[q]at h;cases h
  |some a=>
   rw[q]at h;show x13 (i h) λaq e g j=>⟨aq++ [a],by rw[e,jR];rfl,by rw[fW,g];rfl,λk c=>?_⟩
   show a8 (Nat.lt_or_ge k n) (λd=>?_) λd=>?_
   .rw[oZ (by lia)];show j k d
   .obtain rfl:k=n:=by lia
    rw[oY (by lia),g,tm,q];rfl
def pv{α:Type}{f:Nat->Option α}{n k:Nat}{l:List α}(h:tab n f []=U l)(c:k<n):∃a,f k=U a/\l[k]? =U a:=by
 show x13 (ZM h) λg e i d=>?_;rw[nO]at e;k_lt e;haveI:l[k]? =U l[k]:=jP (by lia)
 show⟨_,(d k c).symm.trans this,this⟩
def JC{α:Type}{F k:Nat}{fl:Bool}{f:Nat->Option α}{one:α->V}{m:List α->V}{v:V}(h:jz F fl f one m=U v)(d:k<F)(g:fl=af->f 0=f k):
 ∃a,f k=U a/\(v=one a\/∃l,v=m l/\l[k]? =U a):=by
 cases fl with
 |false=>show x12 (mW h) λa e q=>?_;show⟨a,(g rfl).symm.trans e, .inl q.symm⟩
 |true=>show x12 (mW h) λl e q=>x12 (pv e d) λa E c=>?_;show⟨a,E, .inr ⟨l,q.symm,c⟩⟩
def Xr{l:List Bool}{b c:Bool}{k:Nat}(h:eL l=U b)(d:l[k]? =U c):c=b:=by
 cases l with
 |nil=>cases d
 |cons a r=>
  show x02 (db (o:=U a) h) λg f=>?_;obtain rfl:=(bY f).symm;cases k with
  |zero=>show(bY d).symm
  |succ k=>haveI:=n3 g c (h1 d);cases b<;>cases c<;>first |rfl |cases this
def BE{F k:Nat}{fl:Bool}{f:Nat->Option Bool}{b:Bool}(h:uN F fl f=U b)(d:k<F)(g:fl=af->f 0=f k):f k=U b:=by
 cases fl with
 |false=>show(g rfl).symm.trans h
 |true=>show x12 (eV h) λl e q=>x12 (pv e d) λa E c=>?_;show E.trans (congrArg U (Xr q c))
def w5{v:V}(h:gY v=af)(j k:Nat):iE v j=iE v k:=by cases v<;>first |rfl |cases h
def pa{v:V}(h:gY v=af)(j k:Nat):f8 v j=f8 v k:=by cases v<;>first |rfl |cases h
def mY{a b:V}(h:i1 a b=af):gY a=af/\gY b=af:=by haveI h:aA (gY a) ae (gY b)=af:=h;cases q:gY a<;>rw[q]at h<;>first |show⟨rfl,h⟩ |cases h
def xe{α:Type}{f:Int->Int->Option α}(k:Nat)(h:i1 a b=af):ly a b f j=ly a b f k:=by delta ly;rw[w5 (mY h).1 j k,w5 (mY h).2 j k]
def xf{α:Type}{f:dE->dE->Option α}(k:Nat)(h:i1 a b=af):mm a b f j=mm a b f k:=by delta mm;rw[pa (mY h).1 j k,pa (mY h).2 j k]
def KM(h:l[k]? =U i):iE (vd l) k=U i:=by
 cases l with
 |nil=>cases h
 |cons a r=>
  change iE (aA _ _ _) k=_;cases q:kh (cH a) r with
  |false=>show(hq _ _).trans h
  |true=>
   cases k with
   |zero=>show h
   |succ k=>show congrArg U (gQ (n3 q i (h1 h)))
def uc{a b:dE}(h:nq a b=ae):a=b:=by
 obtain⟨n,x⟩:=a;obtain⟨m,y⟩:=b;haveI h:aA (aK n m) (aK x y) af=ae:=h;cases q:aK n m<;>rw[q]at h
 .cases h
 .rw[bS q,bS h]
def ZN(h:l[k]? =U i):f8 (r7 l) k=U i:=by
 cases l with
 |nil=>cases h
 |cons a r=>
  change f8 (aA _ _ _) k=_;cases q:kh (nq a) r with
  |false=>show(hq _ _).trans h
  |true=>
   cases k with
   |zero=>show h
   |succ k=>show congrArg U (uc (n3 q i (h1 h)))
end Mine.C
end
section
namespace Mine.C
def rr(n:Nat):0<1024^n:=Nat.pow_pos (by x_go)
def j3(x i:Nat):dc x i=x/1024^i % 1024:=rfl
def xv{x n i:Nat}(h:i<n):dc (x % 1024^n) i=dc x i:=by show x11 (Hx (show i+1<=n from h)) λk e=>?_;rw[j3,j3,<-e,ti,wW,Pu,wW,ts,PV]
def xw(x a i:Nat):dc (x/1024^a) i=dc x (a+i):=by rw[j3,j3,FL,wW]
def wS{x y n i:Nat}(h:i<n):dc (x+y*1024^n) i=dc x i:=by rw[<-xv h,Nat.add_mul_mod_self_right,xv h]
def wT{x y n i:Nat}(c:x<1024^n)(h:n<=i):dc (x+y*1024^n) i=dc y (i - n):=by show x11 (Hx h) λk e=>?_;rw[<-e,<-xw,Nat.add_mul_div_right _ _ (rr n),QV c,kN,kG]
def xx{x y n m:Nat}(d:x<1024^n)(c:y<1024^m):x+y*1024^n<1024^(n+m):=by
 rw[wW]
 calc x+y*1024^n<1024^n+y*1024^n:=wj d _
  _=(y+1)*1024^n:=by rw[Nat.add_mul,Nat.one_mul,jV]
  _<=1024^m*1024^n:=Nat.mul_le_mul_right _ c
  _=1024^n*1024^m:=Aw _ _
def ZO(x a n:Nat):eu x a n<1024^n:=kQ _ (rr n)
def Xs{x a n i:Nat}(h:i<n):dc (eu x a n) i=dc x (a+i):=by change dc (x/1024^a % 1024^n) i=_;rw[xv h,xw]
def IJ(x a n y:Nat):pH x a n y=x % 1024^a+(y+x/1024^(a+n)*1024^n)*1024^a:=rfl
def IK{x a n y N:Nat}(d:x<1024^N)(c:y<1024^n)(h:a+n<=N):pH x a n y<1024^N:=by show x11 (Hx h) λk e=>?_;rw[<-e,ti]at d⊢;rw[IJ];show xx (kQ _ (rr a)) (xx c ?_);rwa [FQ (rr _),<-wW,jV k,ti]
def H4{x a n y i:Nat}(c:y<1024^n):dc (pH x a n y) i=if i<a then dc x i else if i<a+n then dc y (i - a)else dc x i:=by
 rw[IJ];by_cases h:i<a
 .rw[if_pos h,wS h,xv h]
 .rw[if_neg h,wT (kQ _ (rr a)) (d_.mp h)];by_cases q:i<a+n
  .rw[if_pos q,wS (FD (d_.mp h) q)]
  .have q:=d_.mp q;rw[if_neg (d_.mpr q),wT c (Nat.le_sub_of_add_le' q),xw,Tt,lH q]
noncomputable def iD:Nat->Nat
 | 0=>0
 |n+1=>1+iD n*1024^1
def Xt:∀n,(1024^n - 1)/1023=iD n:=by
 intro n;have:1024^n=1023*iD n+1:=by
  cases n with
  |zero=>rfl
  |succ n i=>change 1024^n*1024=1023*(1+iD n*1024)+1;omega
 rw[this,F9,FI _ (by x_go)]
theorem IL{d:Nat}(c:d<1024):∀(n i:Nat),i<n->dc (d*iD n) i=d
 |n+1,0,_=>by change dc (d*(1+iD n*1024^1)) 0=d;rw[show d*(1+iD n*1024^1)=d+(d*iD n)*1024^1 by rw[AB,Hy,G_],wS (by lia),j3,nR,nS,o1 c]
 |n+1,i+1,h=>by change dc (d*(1+iD n*1024^1)) (i+1)=d;rw[show d*(1+iD n*1024^1)=d+(d*iD n)*1024^1 by rw[AB,Hy,G_],wT (by lia) (by lia),F9,IL c n i (by lia)]
theorem JD{d:Nat}(c:d<1024):∀n,d*iD n<1024^n
 | 0=>by change d*0<1024^0;rw[Nat.mul_zero];x_go
 |n+1=>by
  have:=JD c n;change d*(1+iD n*1024^1)<1024^(n+1);rw[show d*(1+iD n*1024^1)=d+(d*iD n)*1024^1 by rw[AB,Hy,G_],jV n 1]
  show xx (by omega) this
end Mine.C
end
namespace Mine.S
open PySem PySem.W PySem.Calls PyProof.Rows
open Mine.C (dE hT je V aL aP O su jJ iE f8 jz ly mm qg jA uN n9 pI kV tx qq uo flat gv la k1 js aA bs dj cr me r_ vg ng rA jD yB rR Dz uT Nv uU yC DB yZ yD DC kp uS yA Sel yY x8 Nu)
section
open Mine.C (T St R)
@[irreducible]def ay(k:Nat):Str:=C.bs (C.dj G.sb k) ⟨(kL (k+100) 120).toArray⟩ id
@[irreducible]def ms(k:Nat):Str:=C.bs (C.dj G.vk k) ⟨(kL (k+100) 120).toArray⟩ id
noncomputable def EC:List Nat:= [21,36,104,128,135,142,149,156,171,178,185,192,199,206,213,234,241,246,253,260,267,274,281,288,295,302,323,330,335,342,349,357,364,371,378,385,392,399,406,413,420,427,434,441,448,455,462,467,472,486,493,500,507,514,528,535,542,549,554,561,568,575,580,587,594,601,609,617,625,632,639,647,655,662,670,678,699,706,713,720,727,734,741,748,755,762,769,776,797,804,811,818,825,832,839,846,853,860,867,874,879,884,891,912,919,926,933,940,947,954,961,968,975,982,989,1003,1008,1023,1030,1037,1044,1051,1058,1065,1072,1079,1086,1093,1100,1107,1121,1128,1135,1142,1147,1152,1159,1166,1173,1180,1187,1194,1201,1208,1215,1220]
noncomputable def ED:List Nat:= [39,52,64,76,88,107,119,216,305,475,681,779,894,992,1110]
@[irreducible]def eE(k:Nat):ar:=C.bs (C.dj EC k) 21 id
@[irreducible]def cP(k:Nat):ar:=C.bs (C.dj ED k) 39 id
noncomputable def rV:List Nat:= [7,8,9,10,11,12,13,14]
noncomputable def uW:List Nat:= [0,1,2,3,4,6]
noncomputable def yG:List Nat:= [9,18,19,20,21,22,23,28,29,30,31,33,34,36,38,46,48,49,50,52,53,54,55,67,69,70,71,74,77,80,113,161,163,164,165,166,167,176,177,178,179,180,181,182,191,193,196]
@[irreducible]def gZ(k:Nat):Bool:=G.mem rV k
@[irreducible]def iF(k:Nat):Bool:=G.mem uW k
@[irreducible]def hC(k:Nat):Bool:=G.mem yG k
noncomputable def y4:List (Nat×V):= [(10,(.cls 0)),(14,(.fn 3)),(16,(.fn 5)),(24,(.int (.ofNat 12))),(25,(.int (.ofNat 9))),(26,(.cls 1)),(27,(.int (.ofNat 16))),(32,(.int (.ofNat 2))),(35,(.fn 7)),(39,(.int (.ofNat 270544960))),(41,(.bi .bytearray)),(42,(.bi .enumerate)),(44,(.fn 6)),(45,(.bi .bytes)),(51,(.int (.ofNat 0))),(56,(.int (.ofNat 1))),(57,(.fn 4)),(59,(.bi .range)),(60,(.fn 0)),(72,(.int (.ofNat 4))),(73,(.bi .int)),(75,(.cls 2)),(76,(.bi .str)),(79,(.bi .set)),(81,(.bi .len)),(83,(.cls 3)),(90,(.cls 8)),(92,(.int (.ofNat 3))),(94,(.int (.ofNat 2))),(102,(.cls 6)),(112,(.bi .min)),(123,(.bi .isinstance)),(124,(.cls 4)),(125,(.fn 49)),(126,(.int (.ofNat 14))),(127,(.int (.ofNat 47))),(128,(.fn 50)),(129,(.int (.ofNat 16))),(130,(.int (.ofNat 1))),(133,(.fn 53)),(139,(.bi .reversed)),(140,(.fn 52)),(141,(.aZ ⟨1,46⟩)),(142,(.aZ ⟨2,47150⟩)),(149,(.fn 51)),(170,(.cls 11)),(175,(.bi .list)),(183,(.cls 5)),(185,(.fn 115)),(188,(.cls 13)),(189,(.bi .dict)),(192,(.int (.ofNat 4))),(194,(.int (.ofNat 4))),(195,(.int (.ofNat 10))),(207,(.fn 116)),(213,(.cls 10)),(214,(.cls 9)),(215,(.cls 14)),(216,(.cls 12)),(218,(.cls 7)),(219,(.bi .sum)),(220,(.fn 133)),(221,(.fn 130)),(222,(.fn 131)),(223,(.fn 132)),(224,(.bi .sorted)),(229,(.fn 137)),(237,(.fn 142)),(239,(.fn 135)),(241,(.fn 138)),(242,(.fn 139)),(243,(.fn 140)),(244,(.fn 141)),(245,(.fn 136)),(249,(.bi .abs)),(250,(.fn 134)),(251,(.fn 143)),(253,(.fn 144))]
def x9(a b:V):Bool:=C.b6 a (λx=>C.b6 b (C.cH x) af) (C.ga a (λx=>C.ga b (C.nq x) af) (C.yT a (λx=>C.yT b (aK x) af) (C.rK a (λx=>C.rK b (aK x) af) (C.r6 a (λx=>C.r6 b (λy=>aK x.ctorIdx y.ctorIdx) af) af))))
@[irreducible]def nG(n:Nat)(v:V):Bool:=C.cr af (λp J i=>C.aA (aK p.1 n) (x9 p.2 v) i) y4
@[irreducible]def ib(k:Nat):aT×bW:=C.bs (C.dj G.adg (j5 k 146)) default id
noncomputable def uv:List (ar×ar):= [(20,16),(35,31),(103,99),(127,123),(134,130),(141,137),(148,144),(155,151),(170,166),(177,173),(184,180),(191,187),(198,194),(205,201),(212,208),(233,229),(240,236),(245,243),(252,248),(259,255),(266,262),(273,269),(280,276),(287,283),(294,290),(301,297),(322,318),(329,325),(334,332),(341,337),(348,344),(356,352),(363,359),(370,366),(377,373),(384,380),(391,387),(398,394),(405,401),(412,408),(419,415),(426,422),(433,429),(440,436),(447,443),(454,450),(461,457),(466,464),(471,469),(485,481),(492,488),(499,495),(506,502),(513,509),(527,523),(534,530),(541,537),(548,544),(553,551),(560,556),(567,563),(574,570),(579,577),(586,582),(593,589),(600,596),(608,604),(616,612),(624,620),(631,627),(638,634),(646,642),(654,650),(661,657),(669,665),(677,673),(698,694),(705,701),(712,708),(719,715),(726,722),(733,729),(740,736),(747,743),(754,750),(761,757),(768,764),(775,771),(796,792),(803,799),(810,806),(817,813),(824,820),(831,827),(838,834),(845,841),(852,848),(859,855),(866,862),(873,869),(878,876),(883,881),(890,886),(911,907),(918,914),(925,921),(932,928),(939,935),(946,942),(953,949),(960,956),(967,963),(974,970),(981,977),(988,984),(1002,998),(1007,1005),(1022,1018),(1029,1025),(1036,1032),(1043,1039),(1050,1046),(1057,1053),(1064,1060),(1071,1067),(1078,1074),(1085,1081),(1092,1088),(1099,1095),(1106,1102),(1120,1116),(1127,1123),(1134,1130),(1141,1137),(1146,1144),(1151,1149),(1158,1154),(1165,1161),(1172,1168),(1179,1175),(1186,1182),(1193,1189),(1200,1196),(1207,1203),(1214,1210),(1219,1217)]
@[irreducible]noncomputable def tabs:List (ar×ar):=uv
inductive bI{α bA:Type}(r:α->bA->Prop):List α->List bA->Prop where
 |nil:bI r [] []
 |cons {a:α} {b:bA} {l:List α} {m:List bA} (h:r a b) (t:bI r l m):bI r (a::l) (b::m)
namespace bI
variable{α bA:Type}{r s:α->bA->Prop}
def bR(h:∀a b,r a b->s a b)(x:bI r l m):bI s l m:=by
 cases x with
 |nil=>show .nil
 |cons a _ i=>show .cons (h _ _ a) i
def length(x:bI r l m):l.length=m.length:=by
 cases x with
 |nil=>rfl
 |cons _ _ i=>show congrArg da i
def append(x:bI r l m)(y:bI r aq e):bI r (l++aq) (m++e):=by
 cases x with
 |nil=>show y
 |cons a _ i=>show .cons a i
def get(x:bI r l m):∀{i:Nat} {a:α},l[i]? =U a->∃b,m[i]? =U b/\r a b:=by
 cases x with
 |nil=>intro i a h;rw[List.getElem?_nil]at h;cases h
 |cons x _ I=>
  intro i a h;cases i with
  |zero=>show⟨_,rfl,bY h▸x⟩
  |succ i=>show I h
def take(n:Nat)(x:bI r l m):bI r (l.take n) (m.take n):=by
 induction x generalizing n with
 |nil=>cases n<;>show .nil
 |cons x _ i=>
  cases n with
  |zero=>show .nil
  |succ n=>show .cons x (i n)
def drop(n:Nat)(x:bI r l m):bI r (l.drop n) (m.drop n):=by
 induction x generalizing n with
 |nil=>cases n<;>show .nil
 |cons x t i=>
  cases n with
  |zero=>show .cons x t
  |succ n=>show i n
def set(h:r a b)(n:Nat)(x:bI r l m):bI r (l.set n a) (m.set n b):=by
 induction x generalizing n with
 |nil=>show .nil
 |cons x t i=>
  cases n with
  |zero=>show .cons h t
  |succ n=>show .cons x (i n)
def reverse(x:bI r l m):bI r l.reverse m.reverse:=by
 cases x with
 |nil=>show .nil
 |cons x t i=>rw[s_,s_];show append i (.cons x .nil)
def replicate(h:r a b)(n:Nat):bI r (kL n a) (kL n b):=by
 cases n with
 |zero=>show .nil
 |succ n i=>show .cons h i
end bI
end
section
abbrev a3:=C.V
abbrev cS:=C.T
abbrev bU:=C.St
abbrev bl:=C.R
noncomputable def eR(e:aT)(k:Nat):Bool:=aK e.ctorIdx k
structure bf where
 prog:eP
 w:b3
 K:dQ
 H:Heap
 cl:Bool
 bJ:Nat
 fJ:UInt8
 fz:Nat->aj
noncomputable abbrev bf.M(u:bf):fa:=aN u.prog u.w
def bf.ao(u:bf):C.eB:=G.jb u.cl
def kA(u:bf)(d:Nat)(b:UInt8):Prop:=(d<256/\b.toNat=d)\/(d=256/\C.dj u.ao.lf u.bJ=U (b.toNat:Int))\/(d=257/\b=u.fJ)
def ck(u:bf)(y:dE)(a:Array UInt8):Prop:=a.size=y.n/\y.x<1024^y.n/\∀i b,a[i]? =U b->kA u (C.dc y.x i) b
def dK(u:bf):a3->Array UInt8->Prop
 | .aZ y,a=>ck u y a
 | .ev l,a=>∃y,C.dj l u.bJ=U y/\ck u y a
 | .any n,a=>a.size=n
 |_,_=>False
noncomputable def y5:hT->aj
 | .len=> .builtin "len" | .range=> .type "range" | .enumerate=> .type "enumerate" | .reversed=> .type "reversed" | .min=> .builtin "min"
 | .int=> .type "int" | .bytes=> .type "bytes" | .bytearray=> .type "bytearray" | .list=> .type "list" | .dict=> .type "dict" | .set=> .type "set"
 | .sorted=> .builtin "sorted" | .sum=> .builtin "sum" | .isinstance=> .builtin "isinstance" | .str=> .type "str" | .abs=> .builtin "abs" | .bad=> .none
abbrev dr:=List (ar×ar)
def br(ah:dr)(i:Nat)(p:ar×ar):Prop:=ah[i]? =U p
inductive adC(ah:dr)(i:Nat)(w:aj):Prop where
 |mk (p:ar×ar) (h:br ah i p) (e:w= .ref p.1)
inductive oJ(P:Array UInt8->Prop)(w:aj):Prop where
 |mk (a:Array UInt8) (t:Tok) (e:w= .bytes a t) (h:P a)
def az(u:bf)(ah:dr):a3->aj->Prop
 | .none,w=>w= .none
 | .tt,w=>w= .bool ae
 | .aM,w=>w= .bool af
 | .int i,w=>∃t,w= .int i t
 | .li l,w=>∃i t,C.dj l u.bJ=U i/\w= .int i t
 | .res m r,w=>0<m/\∃(k:Nat) (t:Tok),w= .int k t/\k % m=r
 | .et,w=>∃i t,w= .int i t
 | .aW _,_=>False
 | .str k,w=>∃t,w= .str (ms k) t
 | .h9 n,w=>∃x t,w= .str x t/\x.length<=n
 | .aZ y,w=>oJ (dK u (.aZ y)) w
 | .ev l,w=>oJ (dK u (.ev l)) w
 | .any n,w=>oJ (dK u (.any n)) w
 | .hA k,w=>w=u.fz k
 | .ref i,w=>adC ah i w
 | .fn k,w=>w= .ref (eE k)
 | .cls k,w=>w= .ref (cP k)
 | .bi k,w=>w=y5 k
 | .lr n,w=>∃(k:Nat) (t:Tok),k<=n/\w= .int k t
def br.fn(h:br ah i p)(ag:br ah i q):p=q:=bY (h.symm.trans ag)
def eI(h:ah<+:q)(e:br ah i p):br q i p:=by show x11 h λt o=>?_;k_lt o;show(oZ (e8.mp e).1).trans e
def az.bR{u:bf}{ah c:dr}(h:ah<+:c){v:a3}{w:aj}(x:az u ah v w):az u c v w:=by
 cases v with
 |ref i=>obtain⟨p,a,b⟩:=x;show⟨p,eI h a,b⟩
 |_=>show x
inductive c9(u:bf)(ah:dr):aL->List hF->Prop where
 |nil:c9 u ah .nil []
 |cons {k:Nat} {v:a3} {f:aL} {e:hF} {es:List hF} {t:Tok} (g6:e.key= .str (ay k) t) (cD:hC k=ae/\f.get k=aa) (dY:az u ah v e.val) (r:c9 u ah f es):c9 u ah (.cons k v f) (e::es)
def c9.bR(h:ah<+:e)(x:c9 u ah f es):c9 u e f es:=by
 cases x with
 |nil=>show .nil
 |cons c g d _ i=>show .cons c g (d.bR h) i
def EE(n:Nat)(a:Array UInt8):Prop:=if n<1000 then a.size=n else a=jT (n - 1000) 0
def g8(u:bf)(ah:dr)(w:Option aj)(v:a3):Prop:=C.ii v (λn=>w=aa\/∃a t,w=U (.bytes a t)/\EE n a) (∃x,w=U x/\az u ah v x)
def g8.mk(e:w=U x)(h:az u ah v x):g8 u ah w v:=C.iX (P:=λX=>X) (λi q=>by k_lt q;show h.elim) λJ=>⟨x,e,h⟩
def g8.el{u:bf}{ah:dr}{w:Option aj}{v:a3}(h:g8 u ah w v)(ay:∀n,v≠ .aW n):∃x,w=U x/\az u ah v x:=C.iX (P:=λX=>X->∃x,w=U x/\az u ah v x) (λi q=>absurd q (ay i)) (λJ x=>x) h
def g8.bR(h:∀x,az u ah v x->az bN e v x):g8 u ah w v->g8 bN e w v:=C.iX (P:=λX=>X->g8 bN e w v) (λi q x=>by k_lt q;show x) λJ x=>x.elim λy r=> .mk r.1 (h y r.2)
def ej(u:bf)(ah:dr)(l:aP)(f:Int->Option aj):Prop:=∀k,C.bs (l.get k) (f k=aa) (g8 u ah (f k))
def ej.get(h:ej u ah l f)(e:l.get k=U v):g8 u ah (f k) v:=by haveI:=h k;rw[e]at this;show this
def ej.at(h:ej u ah l f)(e:l.get k=U v)(c:∀n,v≠ .aW n):∃w,f k=U w/\az u ah v w:=(h.get e).el c
def ej.no(h:ej u ah l f)(e:l.get k=aa):f k=aa:=by have:=h k;rw[e]at this;show this
def ej.of(c:∀k,l.get k=aa->f k=aa)(d:∀k v,l.get k=U v->g8 u ah (f k) v):ej u ah l f:=λk=>by
 haveI a:=c k;haveI b:=d k;revert a b;cases l.get k with
 |none=>showλa J=>a rfl
 |some v=>showλJ b=>b v rfl
def ej.bR(h:ah<+:q)(x:ej u ah l f):ej u q l f:= .of (λJ e=>x.no e) λJ J e=>(x.get e).bR λJ=>az.bR h
def fq(u:bf)(h:Heap)(a:ar)(f:Int->Option aj):Prop:=∃es ep,∃kvs:List (Int×aj),h.get? a=U ⟨.type "dict",aa, .dict es ep,#[]⟩/\KeysOf (hr u.prog u.w) es/\Pairs (hr u.prog u.w) es.toList kvs/\(kvs.map (·.1)).Nodup/\∀k,valueAt kvs k=f k
def fq.of{u:bf}{h:Heap}{a:ar}{kvs:List (Int×aj)}{f:Int->Option aj}(x:h.DictOf (hr u.prog u.w) a kvs)(hf:∀k,valueAt kvs k=f k):fq u h a f:=by show x34 x λo es ep e c d r=>?_;obtain⟨i,g,O,os⟩:=o;show x03 c λcc c4 gg=>?_;dsimp only at cc c4 gg d;subst cc c4 gg d;show⟨es,ep,kvs,e,r.1,r.2.1,r.2.2,hf⟩
def fq.dictOf(x:fq u h a f):∃kvs,h.DictOf (hr u.prog u.w) a kvs/\∀k,valueAt kvs k=f k:=by show x35 x λes ep kvs e k p n m=>⟨kvs,⟨_,es,ep,e,⟨rfl,rfl,rfl⟩,rfl,k,p,n⟩,m⟩
def fq.mapOf(x:fq u h a f):h.MapOf (hr u.prog u.w) a f:=by show x12 x.dictOf λkvs d m=>?_;haveI:=d.mapOf;rwa [show valueAt kvs=f from funext m]at this
def fq.keep{u:bf}{h ag:Heap}{a:ar}{f:Int->Option aj}(k:∀o,h.get? a=U o->ag.get? a=U o):fq u h a f->fq u ag a f:=λx=>x32 x λes ep ks e r=>⟨es,ep,ks,k _ e,r⟩
def fq.new(e:h.get? a=U ⟨.type "dict",aa, .dict #[] 0,#[]⟩):fq u h a (λJ=>aa):=⟨#[],0, [],e,λJ c=>by simp at c, .nil, .nil,λJ=>rfl⟩
abbrev cB:=ar->Option Nat
structure ce where
 n:Int
 b:ar
 d:ar
 y:ar
 x:Array UInt8
inductive EF(n:Int)(y:ar):Obj->Prop where
 |mk (fu fv kB nH:hF) (k:Nat) (t1 t3 sH cI ek s3 s4:Tok) (jh:fu.key= .str (ay G.b0.number) cI) (v1:fu.val= .int n t1) (gL:fv.key= .str (ay G.b0.data) ek) (v2:fv.val= .ref y)
  (dF:kB.key= .str (ay G.b0.holders) s3) (sx:kB.val= .int 0 t3) (sy:nH.key= .str (ay G.b0.pins) s4) (v4:nH.val= .int 0 sH):EF n y ⟨.type "dict",aa, .dict #[fu,fv,kB,nH] k,#[]⟩
inductive y6(h:Heap)(q:ce):Prop where
 |mk (kC:Obj) (hV:Array (Option aj)) (a:h.get? q.b=U (j6 (cP G.b0.kS) q.d)) (b:h.get? q.d=U kC) (x:EF q.n q.y kC) (y:h.get? q.y=U ⟨.type "bytearray",aa, .bytearray q.x 0,hV⟩)
inductive cY(ah:dr):aP->List (Int×Nat×ar)->Prop where
 |nil:cY ah .nil []
 |cons {n:Int} {j:Nat} {q:ar×ar} {r:aP} {l:List (Int×Nat×ar)} (h:br ah j q) (t:cY ah r l):cY ah (.cons n (.ref j) r) ((n,j,q.1)::l)
def cY.bR(h:ah<+:e)(x:cY ah r l):cY e r l:=by
 cases x with
 |nil=>show .nil
 |cons a _ i=>show .cons (eI h a) i
structure Hid(u:bf)(ah:dr)(own:cB)(h:Heap)(i:Nat)(p:ar×ar)(live:aP)(cL:Option Nat)(ch:Option Int)(lk:aP)(row cb:Nat)(pr pl:ar×ar)(am:List ce)(lv:List (Int×Nat×ar))
 (f fl:Int->Option aj)(ws:Array aj)(wn:Nat):Prop where
 own:own p.1=U i/\own pr.1=U i/\own pl.1=U i/\∀q∈am,own q.b=U i/\own q.d=U i/\own q.y=U i
 cQ:br ah row pr/\br ah cb pl
 aB:(p.1::pr.1::pl.1::am.flatMap λq=> [q.b,q.d,q.y]).Nodup
 jw:fq u h p.1 f
 kj:fq u h pl.1 fl
 kl:h.get? pr.1=U ⟨.type "list",aa, .seq ws wn,#[]⟩
 i4:∀q∈am,y6 h q
 hW:ej u ah lk fl
 dV:cY ah live lv
 num:(am.map (·.n)++lv.map (·.1)).Nodup
 g0:(lv.map (·.2.1)).Nodup/\∀x∈lv,x.2.1≠0
 fin:∀k a,f k=U a↔(∃q∈am,q.n=k/\a= .ref q.b)\/(∃x∈lv,x.1=k/\a= .ref x.2.2)
 perm:ws.toList.Perm (am.map (λq=> .ref q.b)++(lv.filter λx=>cL !=U x.2.1).map λx=> .ref x.2.2)
 cnt:am.length+lv.length<=16/\(cL=U 0->am.length+lv.length<=15)
 fresh:∀q∈am,match fl q.n with
  |some w=>∃t,w= .bytes q.x t
  |none=>q.x=jT 64 0
 oK:∀n,ch=U n->∀q∈am,q.n≠n
def Hid.at{u:bf}{ah j:dr}{own bF:cB}{h ag:Heap}{i:Nat}{p:ar×ar}{live:aP}{cL:Option Nat}
 (g:ah<+:j)(c:∀b,own b=U i->bF b=U i/\∀o,h.get? b=U o->ag.get? b=U o)
 (x:Hid u ah own h i p live cL ch lk row cb pr pl am lv f fl ws wn):Hid u j bF ag i p live cL ch lk row cb pr pl am lv f fl ws wn:=by
 show x04 x.own λl k m O=>⟨⟨(c _ l).1,(c _ k).1,(c _ m).1,λq d=>⟨(c _ (O q d).1).1,(c _ (O q d).2.1).1,(c _ (O q d).2.2).1⟩⟩,⟨eI g x.cQ.1,eI g x.cQ.2⟩,x.aB,?_,?_,(c _ k).2 _ x.kl,λq d=>?_,x.hW.bR g,x.dV.bR g,x.num,x.g0,x.fin,x.perm,x.cnt,x.fresh,x.oK⟩
 .show x.jw.keep (c _ l).2
 .show x.kj.keep (c _ m).2
 .obtain⟨n,s,a,b,r,y⟩:=x.i4 q d;show x03 (O q d) λQ v t=>⟨n,s,(c _ Q).2 _ a,(c _ v).2 _ b,r,(c _ t).2 _ y⟩
abbrev O2(o:Obj):Prop:=∃es n,o.data= .dict es n
abbrev qh(o:Obj):Prop:=∀es n,o.data≠ .dict es n
def g4(h:o.data= .fields vs):qh o:=λJ J q=>nomatch h.symm.trans q
structure e4(own:cB)(h:Heap)(i:Nat)(a:ar)(o:Obj):Prop where
 w:own a=U i
 g:h.get? a=U o
section
variable(u:bf)(ah:dr)(own:cB)(h:Heap)(i:Nat)(p:ar×ar)
inductive abT(k:Nat)(f:aL):Prop where
 |mk (es:Array hF) (n:Nat) (v3:gZ k=ae) (ne:p.1≠p.2) (a:e4 own h i p.1 (j6 (cP k) p.2)) (b:e4 own h i p.2 ⟨.type "dict",aa, .dict es n,#[]⟩) (r:c9 u ah f es.toList)
inductive km(cls:String)(l:List a3):Prop where
 |mk (ws:Array aj) (n:Nat) (a:e4 own h i p.1 ⟨.type cls,aa, .seq ws n,#[]⟩) (r:bI (az u ah) l ws.toList) (z:l.length<=5000)
inductive abU(l:aP):Prop where
 |mk (f:Int->Option aj) (o:own p.1=U i) (d:fq u h p.1 f) (m:ej u ah l f)
inductive y7(v:a3):Prop where
 |mk (x:Array UInt8) (hV:Array (Option aj)) (a:e4 own h i p.1 ⟨.type "bytearray",aa, .bytearray x 0,hV⟩) (b:dK u v x)
def p9:Option a3->Option aj->Prop
 |none,aa=>True
 |some v,U w=>az u ah v w
 |_,_=>False
inductive abV(v:Option a3):Prop where
 |mk (w:Option aj) (o:own p.1=U i) (c:h.IsCell p.1 w) (r:p9 u ah v w)
inductive adD(a b s:Int):Prop where
 |mk (t aU ae4:Tok) (aiZ:F1 a b s=ae) (d7:0<=a) (am:0<s) (g:e4 own h i p.1 {cls:= .type "range",dict:=aa,data:= .fields #[.int a t, .int b aU, .int s ae4],slots:=#[]})
inductive abW(j:Nat):Prop where
 |mk (q:ar×ar) (o:Obj) (ne:p.1≠p.2) (e:br ah j q) (cN:o.cls= .type "list_iterator") (hd:o.data= .fields #[.ref q.1, .int 0 0]) (b:e4 own h i p.2 o)
  (a:e4 own h i p.1 {cls:= .type "enumerate",dict:=aa,data:= .fields #[.none, .bool af, .ref p.2,b8 0, .none, .none],slots:=#[]})
inductive adE(j n:Nat):Prop where
 |mk (q:ar×ar) (o:Obj) (e:br ah j q) (cN:o.cls= .type "list_reverseiterator") (hd:o.data= .fields #[.ref q.1,b8 ((n:Int) - 1)]) (a:e4 own h i p.1 o)
inductive adF(l:List a3):Prop where
 |mk (es:Array (Int×aj)) (ep:Nat) (t:SetTable) (ks:List Int) (a:e4 own h i p.1 ⟨.type "set",aa, .set es ep t,#[]⟩) (f:t.fits es.size=ae) (ld:t.led= !u.w.params.followText "set-order") (e:l=ks.map .int) (z:es.size=ks.length) (m:∀x∈es.toList,∃k tk,x.2= .int k tk/\k∈ks)
inductive rD(live:aP)(cL:Option Nat)(ch:Option Int)(lk:aP)(row cb:Nat):Prop where
 |mk (pr pl:ar×ar) (am:List ce) (lv:List (Int×Nat×ar)) (f fl:Int->Option aj) (ws:Array aj) (wn:Nat) (r:Hid u ah own h i p live cL ch lk row cb pr pl am lv f fl ws wn)
inductive adG(k:Nat)(cs:aL):Prop where
 |mk (qual:Str) (yH:List (Str×ar)) (pm:aj) (a_:ar) (ae5:aj) (a:e4 own h i p.1 (B1 "<lambda>" qual ⟨[], [],aa, [], [],aa, []⟩ (ib k).1 (ib k).2 yH pm a_ ae5)) (lB:own a_=U 1)
  (r:∀n v,cs.get n=U v->∃j q,v= .ref j/\br ah j q/\yH.lookup (ay n)=U q.1) (x:∀x∈(ib k).2.names,x.2=h2->(yH.lookup x.1).isSome=ae)
inductive rW(k:Nat):Bool->Prop where
 |raw (t:ar) (bJ:iF k=ae) (a:e4 own h i p.1 {cls:= .ref (cP k),data:= .fields #[.ref t, .none, .none, .none, .bool af, .none]}):rW k ae
 |made (b7:Obj) (vs:Array aj) (bJ:iF k=ae) (a:e4 own h i p.1 b7) (cN:b7.cls= .ref (cP k)) (hd:b7.data= .fields vs) (bb:vs[1]? =U .none) (bM:vs[2]? =U .none):rW k af
inductive ae6(n:Nat):Prop where
 |mk (l:List a3) (z:l.length<=n) (r:km u ah own h i p "list" l)
def dk:O->Prop
 | .nul=>True
 | .inst k f=>abT u ah own h i p k f
 | .list l=>km u ah own h i p "list" l
 | .tup l=>km u ah own h i p "tuple" l
 | .dict l=>abU u ah own h i p l
 | .ba v=>y7 u own h i p v
 | .cell v=>abV u ah own h i p v
 | .eZ a b s=>adD own h i p a b s
 | .enum j=>abW ah own h i p j
 | .rev j n=>adE ah own h i p j n
 | .set l=>adF u own h i p l
 | .c3 live cL ch lk row cb=>rD u ah own h i p live cL ch lk row cb
 | .iA _=>True
 | .cb _=>True
 | .lam k cs=>adG ah own h i p k cs
 | .tab=>True
 | .ig k b=>rW own h i p k b
 | .l0 n=>ae6 u ah own h i p n
end
def dk.at{u:bf}{ah E:dr}{own bF:cB}{h ag:Heap}{i:Nat}{p:ar×ar}{o:O}(B:ah<+:E)
 (ac:∀b,own b=U i->bF b=U i/\∀o,h.get? b=U o->ag.get? b=U o)(D:∀b,own b=U 1->bF b=U 1)(x:dk u ah own h i p o):dk u E bF ag i p o:=by
 have A:∀{a o},e4 own h i a o->e4 bF ag i a o:=λa=>⟨(ac _ a.w).1,(ac _ a.w).2 _ a.g⟩;cases o with
 |nul=>trivial
 |inst k f=>obtain⟨es,n,P,S,a,b,r⟩:=x;show⟨es,n,P,S,A a,A b,r.bR B⟩
 |list l=>obtain⟨ws,n,a,r,z⟩:=x;show⟨ws,n,A a,r.bR λJ J=>az.bR B,z⟩
 |tup l=>obtain⟨ws,n,a,r,z⟩:=x;show⟨ws,n,A a,r.bR λJ J=>az.bR B,z⟩
 |dict l=>obtain⟨f,o,d,m⟩:=x;show⟨f,(ac _ o).1,d.keep (ac _ o).2,m.bR B⟩
 |ba b=>obtain⟨y,V,a,r⟩:=x;show⟨y,V,A a,r⟩
 |cell v=>obtain⟨w,a,⟨o,aI,r⟩,e⟩:=x;show⟨w,(ac _ a).1,⟨o,(ac _ a).2 _ aI,r⟩,?_⟩;cases v<;>cases w<;>first |show e |show az.bR B e
 |eZ a b s=>obtain⟨t,aU,T,c,d,e,g⟩:=x;show⟨t,aU,T,c,d,e,A g⟩
 |enum j=>obtain⟨q,o,c,d,e,f,g,M⟩:=x;show⟨q,o,c,eI B d,e,f,A g,A M⟩
 |rev j n=>obtain⟨q,o,d,e,f,g⟩:=x;show⟨q,o,eI B d,e,f,A g⟩
 |set l=>obtain⟨es,ep,t,ks,a,f,d,e,z,m⟩:=x;show⟨es,ep,t,ks,A a,f,d,e,z,m⟩
 |c3 live cL ch lk row cb=>obtain⟨pr,pl,am,lv,f,fl,ws,wn,r⟩:=x;show⟨pr,pl,am,lv,f,fl,ws,wn,r.at B ac⟩
 |iA _=>trivial
 |cb _=>trivial
 |lam k cs=>obtain⟨qual,K,pm,a_,ai,g,cc,l,cn⟩:=x;show⟨qual,K,pm,a_,ai,A g,D _ cc,λn v e=>(l n v e).imp λJ q=>q.imp λJ q=>⟨q.1,eI B q.2.1,q.2.2⟩,cn⟩
 |tab=>trivial
 |ig k b=>show rW.casesOn (motive:=λb J=>dk u E bF ag i p (.ig k b)) x (λt bJ a=> .raw t bJ (A a)) λb7 vs bJ a R I D W=> .made b7 vs bJ (A a) R I D W
 |l0 n=>obtain⟨l,z,ws,m,a,r,Q⟩:=x;show⟨l,z,ws,m,A a,r.bR λJ J=>az.bR B,Q⟩
structure abX(own:cB)(h:Heap):Prop where
 t:∀a,own a=U 0->∃a2,h.get? a=U (kc a2)/\xb a2.toList/\∀pos qu,nY pos a2.toList=U qu->∃a_,qu= .ref a_/\own a_=U 1
 c:∀c,own c=U 1->(∃q,h.CodeRec (.ref c) q)/\∃P,ke h c P/\own P=U 0
 s:∀q∈tabs,own q.2=U 0
def hH(own:cB)(ac:aj):Prop:=∃c,ac= .ref c/\(c∈tabs.map (·.1)\/own c=U 1)
structure agD where
 Z:ar->Option Obj
 cy:List Env
 fw:List (ar×(Str->Option aj))
 os:dO
 cd:ar->Prop
structure aV where
 z:agD
 env:Env
 hf:Bool
structure b1 where
 ah:dr
 own:cB
def b1.dL(Y aE:b1):Prop:=Y.ah<+:aE.ah
def b1.dL.refl(Y:b1):Y.dL Y:=fj _
def b1.dL.trans{a b c:b1}(x:a.dL b)(y:b.dL c):a.dL c:=Qk x y
def hH.at(d:∀b,own b=U 1->bF b=U 1):hH own cd->hH bF cd
 | ⟨c,e,h⟩=>⟨c,e,h.imp id (d c)⟩
def Un(e:ag.get? a=h.get? a)(x:ke h a P):ke ag a P:=by delta ke;rw[e];show x
def AJ(x:ke h a P):(∃o,h.get? a=U o/\∀ag:Heap,ag.get? a=U o->ke ag a P)/\a≠P:=by show x61 x λo J J J J J y=>x32 y λJ J J g r=>⟨⟨o,g,λag ai=>Un (ai.trans g.symm) x⟩,r.2.2.2.2.2.2.2.2⟩
def Ho{h:Heap}(x:h.CodeRec (.ref a) q):∃o,h.get? a=U o/\∀ag:Heap,ag.get? a=U o->ag.CodeRec (.ref a) q:=by show x43 x λc o vs t e g r=>?_;cases e;show⟨o,g,λag ai=>⟨_,o,vs,t,rfl,ai,r⟩⟩
structure mw(c:aV)(own:cB)(t:cS)(h:Heap):Prop where
 t0:t.get 0= .tab
 t1:t.get 1= .tab
 ok:abX own h
 here:hH own c.env.code
 codes:∀e∈c.z.cy,hH own e.code
 nv:∀a,c.z.cd a->own a=U 1
def mw.at{c a_:aV}{own bF:cB}{t aU:cS}{h ag:Heap}(x:mw c own t h)(p:∀b i,i<2->(bF b=U i↔own b=U i))
 (bZ:∀b i,i<2->own b=U i->∀o,h.get? b=U o->ag.get? b=U o)(s:aU.get 0=t.get 0/\aU.get 1=t.get 1)(m:hH own a_.env.code)(hz:∀e∈a_.z.cy,hH own e.code)
 (hcd:∀a,a_.z.cd a->c.z.cd a:=by showλJ h=>h):mw a_ bF aU ag:=by
 have n:∀b,bF b=U 0↔own b=U 0:=λb=>p b 0 (by x_go)
 have j:∀b,bF b=U 1↔own b=U 1:=λb=>p b 1 (by x_go)
 have u:∀{ac},hH own ac->hH bF ac:=λx=>x.at λb y=>(j b).mpr y;show⟨s.1.trans x.t0,s.2.trans x.t1,⟨λa l=>?_,λc f=>?_,λq v=>(n _).mpr (x.ok.s q v)⟩,u m,λe m=>u (hz e m),λa h=>(j a).mpr (x.nv a (hcd a h))⟩
 .have l:=(n a).mp l;show x13 (x.ok.t a l) λa2 e jM k=>⟨a2,bZ a 0 (by x_go) l _ e,jM,λpos z q=>(k pos z q).imp λa_ r=>⟨r.1,(j a_).mpr r.2⟩⟩
 .have f:=(j c).mp f;obtain⟨⟨q,r⟩,P,d,w⟩:=x.ok.c c f;show x12 (Ho r) λo g k=>x02 (AJ d) λO J=>?_;show x12 O λA g2 K=>⟨⟨q,k _ (bZ _ 1 (by x_go) f _ g)⟩,P,K _ (bZ _ 1 (by x_go) f _ g2),(n P).mpr w⟩
noncomputable def uw(l:List aj):Bool:=l.dropWhile (λv=>aK v.ctorIdx 10)== [.type "ValueError", .type "Exception", .type "BaseException", .type "object"]
def vt(K:dQ)(ac:ar):Bool:=match K.lookup ac with
 |some ⟨o,_, .cls c,s⟩=>o== .type "type"&& !c.hasDel&&c.hasDict&&(s.toList== [(s.toList[0]?).join,(s.toList[1]?).join,(s.toList[2]?).join,(s.toList[3]?).join,U (.builtin "ValueError.__new__"),(s.toList[5]?).join])&&c.mro== .ref ac::c.mro.tail&&uw c.mro.tail&&specialIn K (.ref ac) "__call__"==U (U (.builtin "type.__call__"))&&ui K (.ref ac)==U (.type "type")&&
  iw K (.ref ac) "__setattr__"==U (U (.builtin "object.__setattr__"))&&xL K ac "reason"==U aa
 |_=>af
structure eQ(u:bf):Prop where
 len:u.bJ<u.ao.F
 Og:∀i,C.dj u.ao.lf u.bJ=U i->∃b:UInt8,i=(b.toNat:Int)
 glob:∀n v,nG n v=ae->∃w,az u [] v w/\(gX u.K d2 (ay n)=U (U w)\/(gX u.K d2 (ay n)=U aa/\gX u.K hj (ay n)=U (U w)))
 qi:∀n,(ay n==("__debug__":Str))=af
 Oh:∀n,(ay n==("__classdict__":Str))=af
 inj:∀m n,ay m=ay n->m=n
 fs:u.K.In u.H
 yI:∃o,u.H.get? qV=U o
 LV:∀a b,ms a=ms b->a=b
 cls:∀c,gZ c=ae->(uI u.K (cP c)).any (·.hasDict)=ae/\iw u.K (.ref (cP c)) "__getattribute__"=U (U (.builtin "object.__getattribute__"))/\
  iw u.K (.ref (cP c)) "__getattr__"=U aa/\iw u.K (.ref (cP c)) "__setattr__"=U (U (.builtin "object.__setattr__"))/\plainOver u.K (cP c)=ae/\makesIn u.K (cP c)=ae
 fld:∀c n,gZ c=ae->hC n=ae->iw u.K (.ref (cP c)) (ay n)=U aa
 hA:∀k,xo (u.fz k)=ae
 LW:∀k,k<100->(ms k).length<=200
 Oi:∀c d,iF c=ae->iF d=ae->exmOne u.K (.ref (cP c)) (.ref (cP d))=U (u.ao.sub c d)
 vu:∀k,Cz u.K (.ref (eE k))=ae
 Oj:∀k,Cz u.K (.ref (cP k))=ae
 rN:∀c m k,gZ c=ae->u.ao.rN c m=U k->iw u.K (.ref (cP c)) (ay m)=U (U (.ref (eE k)))/\ui u.K (.ref (eE k))=U (.type "function")/\k<146
 LX:∀n,hC n=ae->n<300
 limit:gX u.K Jn "sys.recursionlimit"=U aa
 lim:u.H.NoLimit
 cmp:∀c,gZ c=ae->∀(H:Heap) (x d:ar),(∀a o,u.H.get? a=U o->H.get? a=U o)->H.get? x=U (j6 (cP c) d)->H.CmpInst x (cP c) [.type "object"]
 tabs:∀q∈tabs,ke u.H q.1 q.2
 ny:∃d1,u.H.Ns d2 d1/\∃bm o,d1 "__builtins__"=U (.ref bm)/\bm≠hj/\bm≠d2/\u.H.get? bm=U o/\o.cls= .type "module"/\o.dict=U hj/\o.data= .plain
 init:∀c k,u.ao.init c=U k->(if aK k u.ao.dB.on then iF c=ae else gZ c=ae)/\iw u.K (.ref (cP c)) "__init__"=U (U (.ref (eE k)))/\ui u.K (.ref (eE k))=U (.type "function")/\k<146
 exc:∀c,iF c=ae->vt u.K (cP c)=ae
 Ok:ay u.ao.dB.reason="reason"
 DQ:gX u.K d2 "ValueError"=U aa/\gX u.K hj "ValueError"=U (U (.type "ValueError"))
def p_(ah:dr)(env:Env)(x:Str):a3->Prop
 | .ref i=>∃p,br ah i p/\env.cells.lookup x=U p.1
 |_=>False
structure f9(u:bf)(ah:dr)(env:Env)(m:Str->Option aj)(fr:aL):Prop where
 loc:∀n v,fr.get n=U v->env.kindOf (ay n)=U .local->∃w,m (ay n)=U w/\az u ah v w
 bt:∀n v,fr.get n=U v->env.kindOf (ay n)=U .cell\/env.kindOf (ay n)=U .free->p_ ah env (ay n) v
def p_.bR(h:ah<+:ae7)(r:p_ ah env x v):p_ ae7 env x v:=by cases v<;>first |show r |show r.imp λJ q=>⟨eI h q.1,q.2⟩
def f9.bR(h:ah<+:F)(x:f9 u ah env m fr):f9 u F env m fr:=⟨λn v e k=>(x.loc n v e k).imp λJ q=>⟨q.1,q.2.bR h⟩,λn v e k=>(x.bt n v e k).bR h⟩
structure Rel(u:bf)(c:aV)(Y:b1)(L:bU)(s:ax):Prop where
 st:eQ u
 hf:L.hf=c.hf
 base:∀a o,u.H.get? a=U o->c.z.Z a=U o
 frozen:∀b o,c.z.Z b=U o->s.heap.get? b=U o/\Y.own b=aa
 frames:∀e∈c.z.cy,e.scope.kind≠ .module/\∃aq o,e.frame=U aq/\s.heap.get? aq=U o/\O2 o/\Y.own aq=aa/\c.z.Z aq=aa
 kept:∀p∈c.z.fw,s.heap.Ns p.1 p.2/\Y.own p.1=aa/\p.1≠c.env.locals
 len:Y.ah.length=L.nx
 low:∀b i,Y.own b=U i->(∃o,s.heap.get? b=U o)/\i<L.nx
 objs:∀i p,br Y.ah i p->dk u Y.ah Y.own s.heap i p (L.h.get i)
 out:∀i,L.nx<=i->L.h.get i= .nul
 here:∃m,s.heap.Ns c.env.locals m/\f9 u Y.ah c.env m L.fr
 ix:Y.own c.env.locals=aa
 h7:c.z.Z c.env.locals=aa
 iy:u.H.objs.size<=c.env.locals
 gens:s.gens=#[]
 os:s.os=c.z.os
 bc:mw c Y.own L.h s.heap
section
def mw.ne(x:mw c own t h)(d:t.get i≠ .tab):i≠0/\i≠1:=⟨λq=>d (q▸x.t0),λq=>d (q▸x.t1)⟩
def Rel.two(R:Rel u c Y L s):2<=L.nx:=Gu λh=>nomatch(R.out 1 h).symm.trans R.bc.t1
def Rel.k3(R:Rel u c Y L s):∀a o,u.H.get? a=U o->s.heap.get? a=U o:=λa o e=>(R.frozen a o (R.base a o e)).1
def Rel.loc(R:Rel u c Y L s)(h:Y.own b=U i):b≠c.env.locals:=λq=>nomatch h.symm.trans ((congrArg Y.own q).trans R.ix)
structure Keeps(own:cB)(i:Option Nat)(aq:ar)(h ag:Heap):Prop where
 keep:∀b o,b≠aq->(own b=aa\/own b≠i)->h.get? b=U o->ag.get? b=U o
 ns:∀m,h.Ns aq m->ag.Ns aq m
def eb(c:aV)(b:ar):Prop:=(∃o,c.z.Z b=U o)\/(∃e∈c.z.cy,e.frame=U b)\/(∃q∈c.z.fw,q.1=b)\/b=c.env.locals
def Rel.i5(R:Rel u c Y L s)(h:eb c b):Y.own b=aa/\∃o,s.heap.get? b=U o:=by
 rcases h with⟨o,e⟩ | ⟨e,d,x⟩ | ⟨q,i,rfl⟩ |rfl
 .show⟨(R.frozen b o e).2,o,(R.frozen b o e).1⟩
 .obtain⟨J,aq,o,B,g,J,f,J⟩:=R.frames e d;rw[x]at B;cases B;show⟨f,o,g⟩
 .show x03 (R.kept q i) λO b J=>x32 O λo es ep a J=>?_;show⟨b,o,a⟩
 .show x12 R.here λm O J=>x32 O λo es ep a J=>?_;show⟨R.ix,o,a⟩
def Rel.gen(R:Rel u c Y L s)(K:∀b o,b≠c.env.locals->Y.own b=aa->s.heap.get? b=U o->ag.get? b=U o)(n:∃m,ag.Ns c.env.locals m/\f9 u aE.ah c.env m fr')
 (O:∀b,eb c b->aE.own b=aa)(len:aE.ah.length=k)(low:∀b i,aE.own b=U i->(∃o,ag.get? b=U o)/\i<k)
 (objs:∀i p,br aE.ah i p->dk u aE.ah aE.own ag i p (t.get i))(out:∀i,k<=i->t.get i= .nul)(bc:mw c aE.own t ag):Rel u c aE ⟨t,k,fr',L.hf⟩ {s with heap:=ag,toks:=tk}:=by
 show⟨R.st,R.hf,R.base,λb o e=>?_,λe v=>?_,λq l=>?_,len,low,objs,out,n,O _ (.inr (.inr (.inr rfl))),R.h7,R.iy,R.gens,R.os,bc⟩
 .show x02 (R.frozen b o e) λa B=>⟨K _ _ (λq=>nomatch e.symm.trans ((congrArg c.z.Z q).trans R.h7)) B a,O b (.inl ⟨o,e⟩)⟩
 .obtain⟨a,aq,o,b,g,d,f,x⟩:=R.frames e v;haveI w:=O aq (.inr (.inl ⟨e,v,b⟩));by_cases q:aq=c.env.locals
  .show x12 n λm j J=>x33 j λa4 es ep ai D J=>?_;show⟨a,aq,a4,b,(congrArg _ q).trans ai,⟨es,ep,D⟩,w,x⟩
  .show⟨a,aq,o,b,K _ _ q f g,d,w,x⟩
 .show x03 (R.kept q l) λj b d=>x32 j λo es ep a r=>?_;show⟨⟨o,es,ep,K _ _ d b a,r⟩,O _ (.inr (.inr (.inl ⟨q,l,rfl⟩))),d⟩
def Rel.ns(R:Rel u c Y L s){ag:Heap}(ns:∀m,s.heap.Ns c.env.locals m->ag.Ns c.env.locals m)(h:Y.ah<+:e):∃m,ag.Ns c.env.locals m/\f9 u e c.env m L.fr:=R.here.imp λm q=>⟨ns m q.1,q.2.bR h⟩
def Rel.eM(R:Rel u c Y L s)(t:i<L.nx)(m:L.h.get i≠ .tab)
 (K:Keeps Y.own (U i) c.env.locals s.heap ag)(r:br Y.ah i p)(g:dk u Y.ah Y.own ag i p a4)
 (l:∀b o,Y.own b=U i->s.heap.get? b=U o->∃a4,ag.get? b=U a4):
 Rel u c Y ⟨L.h.st a4 i,L.nx,L.fr,L.hf⟩ {s with heap:=ag,toks:=tk}:=by
 show x02 (R.bc.ne m) λn I=>?_;have k:∀b j,j≠i->Y.own b=U j->∀o,s.heap.get? b=U o->ag.get? b=U o:=λb j d e o=>K.keep b o (R.loc e) (.inr λx=>d (bY (e.symm.trans x)));show R.gen (λb o f g=>K.keep b o f (.inl g)) (R.ns K.ns (fj _)) (λJ h=>(R.i5 h).1) R.len (λb j e=>?_) (λj q e=>?_) (λj d=>?_)
  (R.bc.at (λJ J J=>n7) (λb j d=>k b j (by lia)) ⟨C.T.bO _ _ (cX n),C.T.bO _ _ (cX I)⟩ R.bc.here R.bc.codes)
 .show x02 (R.low b j e) λO B=>x11 O λo a=>?_;by_cases d:j=i
  .show⟨l b o (d▸e) a,B⟩
  .show⟨⟨o,k b j d e o a⟩,B⟩
 .by_cases d:j=i
  .w_pre d;rw[C.T.cT,e.fn r];show g
  .rw[C.T.bO _ _ d];show(R.objs j q e).at (fj _) (λb f=>⟨f,k b j d f⟩) λJ=>id
 .rw[C.T.bO _ _ (by lia)];show R.out j d
def Rel.yJ{p:ar×ar}{a4:O}{ag:Heap}{tk:Nat}{bF:cB}(R:Rel u c Y L s)(K:Keeps Y.own aa c.env.locals s.heap ag)
 (d:∀b,bF b=Y.own b\/(bF b=U L.nx/\Y.own b=aa/\¬eb c b/\∃o,ag.get? b=U o))(f:dk u (Y.ah++ [p]) bF ag L.nx p a4):
 Rel u c ⟨Y.ah++ [p],bF⟩ ⟨L.h.st a4 L.nx,L.nx+1,L.fr,L.hf⟩ {s with heap:=ag,toks:=tk}:=by
 have w:=R.two;have k:∀b j,Y.own b=U j->bF b=U j/\∀o,s.heap.get? b=U o->ag.get? b=U o:=λb j e=>⟨(d b).elim (λh=>h.trans e) λh=>(nomatch e.symm.trans h.2.1),λo=>K.keep b o (R.loc e) (.inr (by rw[e];simp))⟩
 have n:∀b i,i<L.nx->(bF b=U i↔Y.own b=U i):=λb i m=>⟨λe=>(d b).elim (λh=>h.symm.trans e) λh=>absurd (bY (h.1.symm.trans e)) (jX m),λe=>(k b i e).1⟩
 have r:(Y.ah++ [p]).length=L.nx+1:=by rw[fW,R.len];rfl
 show R.gen (aE:=⟨Y.ah++ [p],bF⟩) (λb o l f=>K.keep b o l (.inl f)) (R.ns K.ns (eS _ _)) (λb h=>(d b).elim (λe=>e.trans (R.i5 h).1) λx=>absurd h x.2.2.1) r (λb j e=>?_) (λj q e=>?_) (λj g=>?_)
  (R.bc.at (λb i m=>n b i (by lia)) (λb j J e=>(k b j e).2) ⟨C.T.bO _ _ (by lia),C.T.bO _ _ (by lia)⟩ R.bc.here R.bc.codes)
 .show a8 (d b) (λh=>?_) λv=>?_
  .have e:=h.symm.trans e;show⟨(R.low b j e).1.imp λo=>(k b j e).2 o,nN (R.low b j e).2⟩
  .show x04 v λh J J x=>?_;show⟨x,bY (h.symm.trans e)▸jm _⟩
 .have g:=(e8.mp e).1;dsimp only at e g;rw[r]at g;unfold br at e;by_cases t:j=L.nx
  .k_lt t;rw[C.T.cT];rw[<-R.len,oY (jY _),tm]at e;cases e;show f
  .rw[C.T.bO _ _ t];rw[oZ (by rw[R.len];lia)]at e
   show(R.objs j q e).at (eS _ _) (λb=>k b j) λb l=>(n b 1 (by lia)).mpr l
 .rw[C.T.bO _ _ (by lia)];show R.out j (by lia)
def Rel.new(R:Rel u c Y L s)
 (K:Keeps Y.own aa c.env.locals s.heap ag)
 (hw:∀b,b<s.heap.objs.size->bF b=Y.own b)(g:∀b i,bF b=U i->b<s.heap.objs.size\/(i=L.nx/\∃o,ag.get? b=U o))
 (f:dk u (Y.ah++ [p]) bF ag L.nx p a4):
 Rel u c ⟨Y.ah++ [p],bF⟩ ⟨L.h.st a4 L.nx,L.nx+1,L.fr,L.hf⟩ {s with heap:=ag,toks:=tk}:=by
 show R.yJ K (λb=>?_) f;by_cases d:b<s.heap.objs.size
 .show .inl (hw b d)
 .have n:Y.own b=aa:=by
   cases q:Y.own b with
   |none=>rfl
   |some i=>show absurd (ee (R.low b i q).1.choose_spec) d
  cases q:bF b with
  |none=>show .inl n.symm
  |some i=>show x02 ((g b i q).resolve_left d) λO x=>?_;k_lt O;show .inr ⟨rfl,n,λh=>d (ee (R.i5 h).2.choose_spec),x⟩
noncomputable def ic(own:cB)(a:ar)(i:Nat):cB:=λb=>if b=a then U i else own b
def Rel.adH(R:Rel u c Y L s)(g:a=s.heap.objs.size)
 (K:Keeps Y.own aa c.env.locals s.heap ag)(d:ag.get? a=U b7)
 (j:dk u (Y.ah++ [(a,a)]) (ic Y.own a L.nx) ag L.nx (a,a) a4):
 Rel u c ⟨Y.ah++ [(a,a)],ic Y.own a L.nx⟩ ⟨L.h.st a4 L.nx,L.nx+1,L.fr,L.hf⟩ {s with heap:=ag,toks:=tk}:=by
 show R.new K (λb f=>if_neg (ey (g▸f))) (λb i e=>?_) j;unfold ic at e;split at e
 .rename_i q;show .inr ⟨(bY e).symm,b7,q▸d⟩
 .show .inl (ee (R.low b i e).1.choose_spec)
def gO:ic own a i a=U i:=if_pos rfl
def Rel.n4(R:Rel u c Y L s):az u (Y.ah++ [p]) (.ref L.nx) (.ref p.1):=⟨p,by delta br;rw[<-R.len];simp,rfl⟩
def Rel.yK(R:Rel u c Y L s)(K:Keeps Y.own aa c.env.locals s.heap ag):
 Rel u c Y L {s with heap:=ag,toks:=tk}:=by
 have k:∀b j,Y.own b=U j->∀o,s.heap.get? b=U o->ag.get? b=U o:=λb j e o=>K.keep b o (R.loc e) (.inr (by rw[e];simp))
 show R.gen (λb o d f=>K.keep b o d (.inl f)) (R.ns K.ns (fj _)) (λJ h=>(R.i5 h).1) R.len (λb j e=>⟨(R.low b j e).1.imp λo=>k b j e o,(R.low b j e).2⟩) (λj q e=>(R.objs j q e).at (fj _) (λb d=>⟨d,k b j d⟩) λJ=>id) R.out
  (R.bc.at (λJ J J=>n7) (λb j J=>k b j) ⟨rfl,rfl⟩ R.bc.here R.bc.codes)
def Rel.toks(R:Rel u c Y L s)(t:Nat):Rel u c Y L {s with toks:=t}:=R.yK ⟨λJ J J J e=>e,λJ e=>e⟩
def Rel.fs(R:Rel u c Y L s):u.K.In s.heap:=R.st.fs.keeps R.k3
def Rel.pM(R:Rel u c Y L s)(f:s.heap.get? a=U b7)(i:Y.own a=aa)(g:¬eb c a)
 (j:dk u (Y.ah++ [(a,a)]) (ic Y.own a L.nx) s.heap L.nx (a,a) a4):
 Rel u c ⟨Y.ah++ [(a,a)],ic Y.own a L.nx⟩ ⟨L.h.st a4 L.nx,L.nx+1,L.fr,L.hf⟩ s:=by
 show R.yJ (tk:=s.toks) ⟨λJ J J J e=>e,λJ e=>e⟩ (λb=>?_) j;by_cases d:b=a
 .w_pre d;show .inr ⟨gO,i,g,b7,f⟩
 .show .inl (if_neg d)
noncomputable def h8(own:cB)(i:Nat):cB:=λb=>if own b=U i then aa else own b
def Bd(h:own b=U j)(c:j≠i):h8 own i b=U j:=(if_neg λq=>c (bY (h.symm.trans q))).trans h
def AK(h:own b=aa):h8 own i b=aa:=by delta h8;rw[h];show ite_self _
def qS(h:own b=U i):h8 own i b=aa:=if_pos h
def HH{own:cB}{i j:Nat}{b:ar}(h:h8 own i b=U j):own b=U j/\j≠i:=by
 unfold h8 at h;split at h
 .cases h
 .rename_i q;show⟨h,λe=>q (e▸h)⟩
def Rel.drop(R:Rel u c Y L s)(l:i<L.nx)(k:L.h.get i≠ .tab):Rel u c ⟨Y.ah,h8 Y.own i⟩ ⟨L.h.st .nul i,L.nx,L.fr,L.hf⟩ s:=by
 show x02 (R.bc.ne k) λg I=>?_;show R.gen (aE:=⟨Y.ah,h8 Y.own i⟩) (ag:=s.heap) (tk:=s.toks) (λJ J J J e=>e) R.here (λb h=>AK (R.i5 h).1) R.len (λb j e=>R.low b j (HH e).1) (λj q e=>?_) (λj d=>?_)
  (R.bc.at (λb j d=>⟨λe=>(HH e).1,λe=>Bd e (ey (e2 d (NU g I)))⟩) (λb j d e o=>id) ⟨C.T.bO _ _ (cX g),C.T.bO _ _ (cX I)⟩ R.bc.here R.bc.codes)
 .by_cases d:j=i
  .w_pre d;rw[C.T.cT];trivial
  .rw[C.T.bO _ _ d];show(R.objs j q e).at (fj _) (λb f=>⟨Bd f d,λJ=>id⟩) λb f=>Bd f (cX I)
 .rw[C.T.bO _ _ (jX (e2 l d))];show R.out j d
def iu(h:Heap):h.get? h.objs.size=aa:=by
 cases q:h.get? h.objs.size with
 |none=>rfl
 |some o=>show absurd (ee q) (h3 _)
def Rel.fresh(R:Rel u c Y L s)(h:s.heap.get? a=aa):Y.own a=aa/\¬eb c a/\u.H.get? a=aa:=by
 show⟨?_,λq=>?_,?_⟩
 .cases q:Y.own a with
  |none=>rfl
  |some i=>show nomatch h.symm.trans (R.low a i q).1.choose_spec
 .show nomatch h.symm.trans (R.i5 q).2.choose_spec
 .cases q:u.H.get? a with
  |none=>rfl
  |some o=>show nomatch h.symm.trans (R.k3 a o q)
def eb.ne(h:¬eb c a):a≠c.env.locals:=λq=>h (.inr (.inr (.inr q)))
def eb.z(h:¬eb c a):c.z.Z a=aa:=by
 cases q:c.z.Z a with
 |none=>rfl
 |some o=>show absurd (.inl ⟨o,q⟩) h
noncomputable def restOf(H:Heap)(aq:ar)(h:Heap):List (ar×Obj):=(eT h.objs.size).filterMap λb=>if b=aq then aa else match H.get? b with
  |some _=>aa
  |none=>(h.get? b).map λo=>(b,o)
def q8:(b,o)∈restOf H aq h↔h.get? b=U o/\b≠aq/\H.get? b=aa:=by
 delta restOf;rw[s7];constructor
 .rintro ⟨c,g,e⟩;split at e
  .cases e
  .rename_i d;split at e
   .cases e
   .rename_i f;cases q:h.get? c with
    |none=>rw[q]at e;cases e
    |some a4=>rw[q]at e;cases e;show⟨q,d,f⟩
 .rintro ⟨a,B,c⟩;show⟨b,nP.mpr (ee a),by rw[if_neg B,c,a];rfl⟩
def Rel.fr(R:Rel u c Y L s):∃m,Fr u.H c.env.locals s.heap m/\u_ u.H c.env.locals s.heap (restOf u.H c.env.locals s.heap)/\f9 u Y.ah c.env m L.fr:=R.here.imp λJ q=>⟨⟨q.1,R.k3,R.iy⟩,λJ d=>q8.mp d,q.2⟩
def xg(F:Fr H aq h m)(f:Fr H aq ag m)(n:u_ H aq ag N)
 (p:∀b o,(own b=aa\/own b≠i)->(b,o)∈restOf H aq h->(b,o)∈N):Keeps own i aq h ag:=by
 show⟨λb o k g e=>?_,λM j=>?_⟩
 .cases q:H.get? b with
  |some a4=>haveI:=F.keep b a4 q;rw[e]at this;cases this;show f.keep b o q
  |none=>show(n _ (p b o g (q8.mpr ⟨e,k,q⟩))).1
 .show x34 j λo es ep a b c d=>x34 F.ns λs r t ak gh c4 ei=>?_;rw[a]at ak;cases ak;rw[b]at gh;cases gh;show x34 f.ns λO E l A B gg nF=>⟨O,E,l,A,B,gg,λx=>(nF x).trans ((ei x).symm.trans (d x))⟩
end
end
section
noncomputable def Xu:List String:= ["bytearray.__contains__","bytearray.__mod__","bytearray.__rmod__","_struct.pack_into.held","bytearray.find.held"]
def nh(id:String):Bool:= !(FA.contains id || Xu.contains id)
def kr:Code->Bool
 | .builtin id _=>nh id
 |_=>ae
def Fg(c:Ctx):Prop:=kr c.code=ae/\∀x∈c.below,kr x.1=ae
def aG{α:Type}(M:fa)(A:b2)(t:Sem α)(Q:α->ax->Prop)(E:aj->ax->Prop)(s:ax):Prop:=∀c p,c.In A->Fg c->Sem.wp M c t (λa J an=>Q a an) (λe J an=>E e an) p s
def dz(M:fa)(A:b2)(c:Code)(R:h6->ax->Prop)(s:ax):Prop:=∀d p,d.code=c->d.Below A->Fg d->wpCode M d R p s
section
variable{α bA:Type}{M:fa}{A:b2}{E:aj->ax->Prop}{s:ax}{env:Env}
def z1{a b n:Nat}(e:a=b)(h:b<=n)(k:n<=16777216):a<=fY:=ez▸e▸c7 h k
def z2{b n:Nat}(h:b<=n)(k:n<=16777216):b<=fY:=z1 rfl h k
def bo(h:aQ M A t Q E s):aG M A t Q E s:=λc p d J=>h c p d
def a0(h:aG M A t Q E s)(g:∀a s,Q a s->q a s)(dn:∀e s,E e s->F e s):aG M A t q F s:=λc p f d=>tu M c t (λa J s=>g a s) (λe J s=>dn e s) p s (h c p f d)
def nT(h:dz M A c R s)(f:∀r s,R r s->R' r s):dz M A c R' s:=λd p i g j=>wpCode_mono f (h d p i g j)
def bL(h:Q a s):aG M A (pure a) Q E s:=bo (aY h)
def Uo(h:E e s):aG M A (throw e:Sem α) Q E s:=bo (AD h)
def aF{m:Sem α}{f:α->Sem bA}{Q:bA->ax->Prop}(h:aG M A m (λa an=>aG M A (f a) Q E an) E s):aG M A (m>>=f) Q E s:=λc p g d=>by rw[wP];show tu M c m (λa p' an ag=>ag c p' g d) (λJ J J ag=>ag) p s (h c p g d)
def qR(h:aG M A m Q (λe an=>aG M A (k e) (λJ q=>E e q) E an) s):aG M A (m.onRaise k) Q E s:=λc p f d=>by rw[Sem.wp_onRaise];show tu M c m (λJ J J ag=>ag) (λe p' an ag=>ag c p' f d) p s (h c p f d)
def tr{Q:Except aj α->ax->Prop}(h:aG M A m (λa=>Q (.ok a)) (λe=>Q (.error e)) s):aG M A m.attempt Q E s:=λc p f d=>by rw[Sem.wp_attempt];show h c p f d
def cO(h:aG M A m Q E s):aG M A (fo vs m) Q E s:=λc p f d=>by rw[RL];show h c p f d
def Vx(h:aG M A m Q E s):aG M A (m.keep vs) Q E s:=λc p f d=>by rw[Sem.wp_keep];show h c p f d
def fX(h:Q () s):aG M A (fO pos) Q E s:=bo (Ha h)
def lR{eR:String}(h:Q () s):aG M A (md eR) Q E s:=bo (iU h)
def AU(h:Q () s):aG M A Db Q E s:=bo (wpAny_point h)
def mH(h:Q b s):aG M A (xY (.bool b)) Q E s:=bo (zY h)
def hl(e:m=pure a)(h:Q a s):aG M A m Q E s:=bo (dp e h)
def BF(j:dz M (A.mark h) c (λr an=>match r with | .ok f=>Q f an | .error e=>E e an) s)(k:kr c=ae)(i:h≠U xZ:=by intro x;cases x):
 aG M A (run c h) Q E s:=λm p l g=>by
 rw[Sem.wp_run];show j _ p rfl (l.enter c h p i) ⟨k,λx d=>?_⟩;show a8 (bX.mp d) (λo=>?_) λd=>?_
 .k_lt o;show g.1
 .show g.2 x d
def Sp(g:dz M A c (λr an=>match r with | .ok (.ret v)=>Q v an | .ok _=>False | .error e=>E e an) s)(i:kr c=ae):aG M A (runValue c) Q E s:=λk p j f=>by
 rw[Sem.wp_runValue];show g _ p rfl (j.enter c aa p (by intro x;cases x)) ⟨i,λx d=>?_⟩
 show a8 (bX.mp d) (λo=>?_) λd=>?_
 .k_lt o;show f.1
 .show f.2 x d
def q9(c:dz M A (.call f ⟨pos,kw⟩) (λr an=>match r with | .ok (.ret v)=>Q v an | .ok _=>False | .error e=>E e an) s):
 aG M A (bv f pos kw) Q E s:=Sp c rfl
def iS(h:kr c=ae->aG M (A.under c) (M.den c) (λg an=>match g with | .done f=>R (.ok f) an | .again a_=>a_.quiet=ae/\kr a_=ae/\dz M A a_ R an) (λe an=>R (.error e) an) s):
 dz M A c R s:=λd p i k j=>by
 rw[wpCode_iff_wp,i];show tu M d _ (λg p' an ag=>?_) (λJ J J ag=>ag) p s (h (i▸j.1) d p (i▸k.in) j);cases g with
 |done f=>show ag
 |again a_=>show⟨ag.1,ag.2.2 (d.goto a_) p' rfl (k.goto a_) ⟨ag.2.1,j.2⟩⟩
def AL(lq:c.quiet=ae)(mx:kr c=ae)(I:Nat->ax->Prop)
 (eM:∀n s,I n s->aG M (A.under c) (M.den c) (λfin an=>match fin with
  | .done f=>R (.ok f) an
  | .again a_=>(a_=c/\∃m,m<n/\I m an)\/(a_.quiet=ae/\kr a_=ae/\dz M A a_ R an)) (λe an=>R (.error e) an) s)
 (n:Nat)(h:I n s):dz M A c R s:=by
 induction n using Rf generalizing s with
 |ind n ih=>
  show iS λJ=>a0 (eM n s h) (λfin an hf=>?_) λJ J ag=>ag;cases fin with
  |done f=>show hf
  |again a_=>
   rcases hf with⟨rfl,m,hm,fh⟩ |hf
   .show⟨lq,mx,ih m hm fh⟩
   .show hf
def S6(h:kR M A env Q e s):aG M A (do
 if(<-field e 1)== .none then Hz "frame.own-activation:exception-without-traceback"
 nZ e env.frame) (λJ q=>Q e q) Q s:=bo (hk h (λJ J x=>x) λJ J x=>x)
def q0(h:aG M A m Q (jo M A env E) s):aG M A (m.onRaise λx=>do h4 x env;qN x) Q E s:=qR (a0 h (λJ J q=>q) λJ J c=>bo (aw (hk c (λJ J e=>wpAny_theTreesLotGoes e) λJ J e=>e)))
def S7(h:aG M A m Q (jo M A env E) s):aG M A (m.onRaise λx=>do h4 x env;fO pos) Q E s:=qR (a0 h (λJ J q=>q) λJ J c=>bo (aw (hk c (λJ J e=>Ha e) λJ J e=>e)))
def o8(g:dz M (A.mark h) c (λr an=>match r with | .ok f=>Q f an | .error e=>kR M A env E e an) s)(i:kr c=ae)(d:autoParam (h≠U xZ) BF._auto_1):
 aG M A (runOwn c env h) Q E s:=by
 show qR (a0 (BF (E:=kR M A env E) g i d) (λJ J q=>q) λe an j=>S6 j)
def Hd(h:aG M A (IA env x v) Q E s):aG M A (bindName env x v) Q E s:=λc p f d=>by rw[Sem.wp_bindName];show h c p f d
def qO(h:Q .next s):aG M A (d3 [] env) Q E s:=bo (wpAny_execs_nil h)
def wE{st:b_}(h:aG M A (va st env) (λf an=>match f with | .next=>aG M A (d3 rest env) Q E an |f=>Q f an) E s):aG M A (d3 (st::rest) env) Q E s:=λc p g d=>by rw[execs_cons,wP];show tu M c _ (λf p' an ag=>?_) (λJ J J ag=>ag) _ _ (h c p g d);cases f<;>first |show ag c p' g d |show ag
def S8(h:Q () s):aG M A (wH [] xs) Q E s:=bL h
def Sq(h:aG M A (t x) (λJ e=>aG M A (wH q xs) Q E e) E s):aG M A (wH (t::q) (x::xs)) Q E s:=by show aF (cO h)
def Up(h:dz M A (.whileLoop q body orelse env) (λr an=>match r with | .ok f=>Q f an | .error e=>kR M A env E e an) s):
 aG M A (va (.While q body orelse pos) env) Q E s:=by
 rw[exec_While];show aF (fX (o8 (by rw[wx];show h) rfl))
def Xv(h:aG M A (b5 iter env) (λx q=>aG M A (kZ x) (λit a5=>
 dz M A (.forLoop target it body orelse env) (λr an=>match r with | .ok f=>Q f an | .error e=>kR M A env E e an) a5) E q) E s)
 (am:∀x,o0 iter env x=pure x):aG M A (va (.For target iter body orelse pos) env) Q E s:=by
 rw[exec_For];show aF (fX (aF (a0 h (λx q d=>?_) λJ J x=>x)));show aF (hl (am x) (aF (fX (aF (cO (a0 d (λit a5 c=>?_) λJ J x=>x))))));show o8 (by rw[wx];show c) rfl
end
section
def AA(h:aG (aN prog w) A (d3 stmts env) (λf an=>R (.ok f) an) (jo (aN prog w) A env λe an=>R (.error e) an) s):dz (aN prog w) A (.block stmts env) R s:=by
 show iS λJ=>?_;change aG _ A ((d3 stmts env).onRaise (λx=>do h4 x env;qN x)>>=λf=>pure (Bw f)) _ _ s
 show aF (q0 (a0 h (λf an ag=>bL ag) λJ J ag=>ag))
def Ol(R:h6->ax->Prop)(Z:ax->Prop)(f:ja)(q:ax):=match f with
 | .next | .cont=>Z q
 | .brk=>R (.ok .next) q
 | .ret v=>R (.ok (.ret v)) q
def oL(M A env)(R:h6->ax->Prop):=jo M A env λe=>R (.error e)
def ae8(M A env body orelse)(R:h6->ax->Prop)(Z:ax->Prop)(k:Bool)(s:ax):=if k then aG M A (d3 body env) (Ol R Z) (oL M A env R) s else aG M A (d3 orelse env) (λf=>R (.ok f)) (oL M A env R) s
def ae9(M A env target it body orelse)(R:h6->ax->Prop)(Z:ax->Prop)(r:Option aj)(s:ax):=match r with
 |none=>aG M A (d3 orelse env) (λf=>R (.ok f)) (oL M A env R) s
 |some v=>aG M A (wB target it v) (λJ=>aG M A (oj target env v) (λJ=>aG M A (d3 body env) (Ol R Z) (oL M A env R)) (oL M A env R)) (oL M A env R) s
def Q7(I:Nat->ax->Prop)
 (eM:∀n s,I n s->aG (aN prog w) A (m5 F env (b5 F env)) (ae8 (aN prog w) A env body orelse R λq=>∃m,m<n/\I m q) (oL (aN prog w) A env R) s)
 (n:Nat)(h:I n s):dz (aN prog w) A (.whileLoop F body orelse env) R s:=by
 show AL rfl rfl I (λn s fh=>?_) n h;change aG _ A ((whileTurn F body orelse env).onRaise (λx=>do h4 x env;qN x)) _ _ s
 show q0 ?_;simp only[whileTurn];show aF (a0 (eM n s fh) (λb a5 d=>?_) λJ J ag=>ag);cases b with
 |false=>rw[if_neg jl];show aF (a0 d (λf q c=>bL c) λJ J ag=>ag)
 |true=>
  rw[if_pos rfl];show aF (a0 d (λf q c=>?_) λJ J ag=>ag);cases f with
  |next=>show bL (.inl ⟨rfl,c⟩)
  |cont=>show bL (.inl ⟨rfl,c⟩)
  |brk=>show bL c
  |ret v=>show bL c
def G0(I:Nat->ax->Prop)
 (eM:∀n s,I n s->aG (aN prog w) A (pF it) (ae9 (aN prog w) A env target it body orelse R λq=>∃m,m<n/\I m q) (oL (aN prog w) A env R) s)
 (n:Nat)(h:I n s):dz (aN prog w) A (.forLoop target it body orelse env) R s:=by
 show AL rfl rfl I (λn s fh=>?_) n h;change aG _ A ((forTurn target it body orelse env).onRaise (λx=>do h4 x env;qN x)) _ _ s
 show q0 ?_;simp only[forTurn];show aF (fX (aF (qR (a0 (eM n s fh) (λr F d=>?_) λJ J ag=>fX ag))));cases r with
 |none=>show bL (.inr ⟨rfl,rfl,AA d⟩)
 |some v=>
  show aF (a0 d (λJ H i=>?_) λJ J ag=>ag);show aF (a0 i (λJ a5 g=>aF (a0 g (λf q c=>?_) λJ J ag=>ag)) λJ J ag=>ag);cases f with
  |next=>show bL (.inl ⟨rfl,c⟩)
  |cont=>show bL (.inl ⟨rfl,c⟩)
  |brk=>show bL c
  |ret v=>show bL c
end
end
section
section
variable{α bA:Type}{M:fa}{A:b2}{E:aj->ax->Prop}{s:ax}{env:Env}
def RY
 (h:aG M A body (λf q=>match f with | .next=>aG M A orelse Q E q |f=>Q f q)
  (λe q=>aG M A (h4 e env) (λJ a5=>aG M A (nZ e aa) (λJ F=>aG M A (ph e env (H::am)) Q E F) E a5) E q) s):
 aG M A (B2 af body (H::am) orelse [] env) Q E s:=by
 delta B2;show aF (tr (a0 h (λf q c=>?_) λe q c=>?_))
 .cases f<;>first |show c |show bL c
 .show aF (a0 c (λJ J d=>aF d) λJ J x=>x)
def QQ(h:aG M A (wQ "try.no-clause-matches" e env) Q E s):aG M A (ph e env []) Q E s:=by delta ph;show h
def QE
 (h:dz M (A.mark (U e)) (.handlers e [.ExceptHandler (U t) aa [] pos] env) (λr q=>match r with
  | .ok .brk=>dz M (A.mark (U e)) (.handlers e [.ExceptHandler aa aa body pos] env) (λr a5=>match r with
   | .ok f=>Q f a5
   | .error x=>kR M A env E x a5) q
  | .ok _=>aG M A (ph e env rest) Q E q
  | .error x=>kR M A env E x q) s)(i:e≠xZ):
 aG M A (ph e env (.ExceptHandler (U t) aa body pos::rest)) Q E s:=by
 rw[ph];haveI d:(U e:Option aj)≠U xZ:=λx=>i (bY x);show aF (cO (o8 (nT h (λr q c=>?_)) rfl d));cases r with
 |error x=>show c
 |ok f=>
  cases f with
  |brk=>
   show aF (bL ?_);show aF (cO (o8 (nT c (λr a5 g=>?_)) rfl d));cases r with
   |error x=>show g
   |ok f=>show bL g
  |_=>show aF (bL ?_);show c
def Ak
 (h:aG M A x (λv e=>aG M A (t5 rest) (λvs a5=>Q (v::vs) a5) E e) E s):aG M A (t5 ((af,x)::rest)) Q E s:=by
 rw[t5];show aF (a0 h (λv e d=>?_) λJ J x=>x);show aF (bL (aF (cO (a0 d (λvs a5 c=>bL c) λJ J x=>x))))
def GD
 (h:aG M A (t5 ((af,x)::rest)) (λvs an=>Q ⟨vs, []⟩ an) E s):aG M A (Jo f ae ((af,x)::rest) []) Q E s:=by
 show aF (a0 h (λvs an ag=>?_) λJ J x=>x);show cO (aF (bL (aF (bL (bL ag)))))
def AV{P:Heap->Prop}{pos:Pos}{f:aj}(g:args.any (·.1)=af)
 (d:∀h,P h->∃k,(k=SQ\/k=RM\/k=QG)/\eY M h (Jp f) k)
 (h:aG M A (Jo f ae args []) (λa e=>P e.heap/\aG M A (bv f (first++a.pos) a.kw) Q E e) E s):aG M A (Bx pos f first args []) Q E s:=by
 delta Bx;show aF (cO (a0 h (λa e c=>aF (fX ?_)) λJ J x=>x));show x12 (d _ c.1) λk j aq=>?_;rw[g,List.any_nil,Se];show aF (bo (aq.here ?_));haveI T:∀{t:Sem aj},aG M A t Q E e->aG M A (t>>=λr=>fo [r] Db>>=λJ=>pure r) Q E e:=λl=>aF (a0 l (λr a5 i=>aF (cO (AU (bL i)))) λJ J x=>x);haveI m (mk:aj):aG M A (callMarked mk f (first++a.pos) a.kw) Q E e:=by delta callMarked;show Vx c.2
 rcases j with rfl |rfl |rfl<;>dsimp only<;>first |show T c.2 | (show iteE (λ_=>?_) λ_=>?_<;>first |show T c.2 |show T (m _))
end
section
variable{prog:eP}{w:b3}{A:b2}{E:aj->ax->Prop}{R:h6->ax->Prop}{s:ax}{env:Env}
def Qi
 (h:aG (aN prog w) A (b5 t env) (λc q=>aG (aN prog w) A (excMatches e c) (λb a5=>R (.ok (if b then .brk else .next)) a5) (jo (aN prog w) A env λx a5=>R (.error x) a5) q)
  (jo (aN prog w) A env λx q=>R (.error x) q) s):
 dz (aN prog w) A (.handlers e [.ExceptHandler (U t) aa [] pos] env) R s:=by
 show iS λJ=>?_;change aG _ A ((AQ e env [.ExceptHandler (U t) aa [] pos]).onRaise (λx=>do h4 x env;qN x)>>=λf=>pure (Bw f)) _ _ s
 show aF (q0 ?_);delta AQ;show aF (fX (aF (a0 h (λc q d=>aF (fX (aF (a0 d (λb a5 g=>bL (bL g)) λJ J x=>x)))) λJ J x=>x)))
def P4
 (h:aG (aN prog w) A (nZ e aa) (λJ q=>aG (aN prog w) A (d3 (F::body) env) (λf a5=>R (.ok f) a5) (jo (aN prog w) A env λx a5=>R (.error x) a5) q) (jo (aN prog w) A env λx q=>R (.error x) q) s):
 dz (aN prog w) A (.handlers e [.ExceptHandler aa aa (F::body) pos] env) R s:=by
 show iS λJ=>?_;change aG _ A ((AQ e env [.ExceptHandler aa aa (F::body) pos]).onRaise (λx=>do h4 x env;qN x)>>=λf=>pure (Bw f)) _ _ s
 show aF (q0 ?_);delta AQ;show aF (fX (aF (a0 h (λJ q d=>a0 d (λf a5 c=>bL c) λJ J x=>x) λJ J x=>x)))
def Rw
 (h:aG (aN prog w) A (d3 body env) (λf q=>match f with | .next=>aG (aN prog w) A (d3 orelse env) Q E q |f=>Q f q)
  (λe q=>aG (aN prog w) A (h4 e env) (λJ a5=>aG (aN prog w) A (nZ e aa) (λJ F=>aG (aN prog w) A (ph e env (H::am)) Q E F) E a5) E q) s):
 aG (aN prog w) A (va (.Try body (H::am) orelse [] pos) env) Q E s:=by
 rw[SR];show aF (fX (RY h))
def tH(prog:eP)(w:b3)(A:b2)(E:aj->ax->Prop)(env:Env)(c:List b_)(Q:ja->ax->Prop)(f:ja)(s:ax):Prop:=aG (aN prog w) A (d3 c env) (λg an=>match g with | .next=>Q f an |g=>Q g an) (jo (aN prog w) A env (kR (aN prog w) A env E)) s
def pb(prog:eP)(w:b3)(A:b2)(E:aj->ax->Prop)(env:Env)(f:List b_)(Q:ja->ax->Prop)(e:aj)(s:ax):Prop:=e≠xZ/\aG (aN prog w) A (h4 e env) (λJ c=>aG (aN prog w) A (nZ e aa) (λJ S=>
  aG (aN prog w) (A.mark (U e)) (d3 f env)
   (λg a5=>match g with | .next=>aG (aN prog w) A (wQ "try.finally" e env) Q E a5 |g=>aG (aN prog w) A (nZ e aa) (λJ d=>Q g d) E a5) (jo (aN prog w) (A.mark (U e)) env (kR (aN prog w) A env E)) S) E c) E s
def Rx
 (h:aG (aN prog w) A body
  (λf q=>match f with
   | .next=>aG (aN prog w) A orelse (tH prog w A E env (F::cy) Q) (pb prog w A E env (F::cy) Q) q
   |f=>tH prog w A E env (F::cy) Q f q)
  (λe q=>aG (aN prog w) A (h4 e env) (λJ a5=>pb prog w A E env (F::cy) Q e a5) (pb prog w A E env (F::cy) Q) q) s):
 aG (aN prog w) A (B2 af body [] orelse (F::cy) env) Q E s:=by
 have plain:∀(f:ja) (q:ax),tH prog w A E env (F::cy) Q f q->
  aG (aN prog w) A (do
   match<-fo (match f with | .ret v=> [v] |_=> []) (runOwn (.block (F::cy) env) env)with
   | .next=>pure f
   |i=>do md "try.finally-overrides-flow";pure i) Q E q:=by
  intro f q p;show aF (cO (o8 (AA ?_) rfl));rw[wx];show a0 p (λg a5 j=>?_) (λJ J d=>d);cases g<;>first |show bL j |show aF (lR (bL j))
 have r:∀(e:aj) (q:ax),pb prog w A E env (F::cy) Q e q->
  aG (aN prog w) A (do
   h4 e env
   nZ e aa
   match<-fo [e] (runOwn (.block (F::cy) env) env (U e))with
   | .next=>wQ "try.finally" e env
   |i=>do md "try.finally-swallows-exception";nZ e aa;pure i) Q E q:=by
  intro e q l;show aF (a0 l.2 (λJ a5 c=>?_) (λJ J d=>d));show aF (a0 c (λJ S n=>?_) (λJ J d=>d));show aF (cO (o8 (AA (a0 n (λg t j=>?_) (λJ J d=>d))) rfl (by intro x;show l.1 (bY x))))
  cases g<;>first |show j |show aF (lR (aF (a0 j (λJ J o=>bL o) (λJ J d=>d))))
 delta B2;show aF (tr ?_);show aF (tr (a0 h (λf q k=>?_) λe q k=>?_))
 .cases f<;>first
   |show a0 k (λi a5 c=>plain i a5 c) (λe a5 c=>r e a5 c)
   |show bL (plain _ _ k)
 .show aF (a0 k (λJ a5 c=>Uo (r e a5 c)) (λm a5 c=>r m a5 c))
def Q8
 (h:aG (aN prog w) A (d3 body env)
  (λf q=>match f with
   | .next=>aG (aN prog w) A (d3 orelse env) (tH prog w A E env (F::cy) Q) (pb prog w A E env (F::cy) Q) q
   |f=>tH prog w A E env (F::cy) Q f q)
  (λe q=>aG (aN prog w) A (h4 e env) (λJ a5=>pb prog w A E env (F::cy) Q e a5) (pb prog w A E env (F::cy) Q) q) s):
 aG (aN prog w) A (va (.Try body [] orelse (F::cy) pos) env) Q E s:=by
 rw[SR];show aF (fX (Rx h))
def RZ(h:aG (aN prog w) A (m5 c env (b5 c env)) Q E s):
 aG (aN prog w) A (forIn [c] ae λc r=>if r=ae then do let ok<-m5 c env (b5 c env);pure (kK ok)else pure (kK r)) Q E s:=by
 simp only[GJ,List.forIn_nil,if_true];show aF (aF (a0 h (λb an d=>bL (bL d)) λJ J x=>x))
def Q9
 (c:dz (aN prog w) A (.compLoop (.ListComp q (⟨target,iter,ifs,0⟩::rest) scope pos) 0 it F env) R s)
 (h:aG (aN prog w) A (kZ it) (λe an=>dz (aN prog w) A (.compLoop (.ListComp q (⟨target,iter,ifs,0⟩::rest) scope pos) 0 e F env) R an)
  (jo (aN prog w) A env λx an=>R (.error x) an) s):
 dz (aN prog w) A (.compStart (.ListComp q (⟨target,iter,ifs,0⟩::rest) scope pos) 0 it F env) R s:=by
 show iS λJ=>?_;change aG _ A ((compStart (.ListComp q (⟨target,iter,ifs,0⟩::rest) scope pos) 0 it F env).onRaise (λx=>do h4 x env;fO theWindowsPlace)) _ _ s
 show S7 ?_;delta compStart;change aG _ _ (ask>>=_) _ _ s;show aF (bo (qK ?_));show iteE (λ_=>?_) λ_=>?_
 .first
   |show aF (bL (bL (mQ rfl ⟨rfl,c⟩)))
   |show bL (mQ rfl ⟨rfl,c⟩)
 .first
   |show aF (lR (aF (fX (aF (a0 h (λe an ag=>bL (mQ rfl ⟨rfl,ag⟩)) λJ J x=>x)))))
   | (show aF (lR ?_);change aG _ _ (fO iter.pos>>=_) _ _ s;show aF (fX (aF (a0 h (λe an ag=>bL (mQ rfl ⟨rfl,ag⟩)) λJ J x=>x))))
end
end
section
section
variable{M:fa}{A:b2}{E:aj->ax->Prop}{s:ax}{env:Env}
def rE(M:fa)(A:b2)(E:aj->ax->Prop)(d:Option (aj->Sem Unit))(Q:aj->ax->Prop)(c:aj)(ac:ar)(r:h6)(an:ax):Prop:=match r,d with
 | .ok _,aa=>∃m,an.heap.Ns ac m/\∀ag,fA ac an.heap ag->Q c {an with heap:=ag}
 | .ok _,U u=>aG M A (u c) (λJ s=>∃m,s.heap.Ns ac m/\∀ag,fA ac s.heap ag->Q .none {s with heap:=ag}) E an
 | .error _,_=>False
noncomputable def CR(scope:bW):List (Str×iV):=scope.names.filter λ(n,k)=>(k== .local || k== .cell)&&n !=(".0":Str)
noncomputable def ud(cE:Env)(vs:List (Str×iV)):List aj:=vs.flatMap λ(n,k)=>if k== .cell then((cE.cells.lookup n).map eU).toList else []
noncomputable def Xw(c:Option (aj->Sem Unit))(A:aj)(cE:Env)(v:List (Str×iV))(r:Except aj ja):Sem aj:=match r,c with
 | .ok _,aa=>do fo [A] (F2 cE (ud cE) v.reverse);pure A
 | .ok _,U u=>do
  md "comprehension.stores-exchanged"
  fo (ud cE v) (u A)
  F2 cE (ud cE) (v.reverse.drop 1++v.reverse.take 1)
  pure .none
 | .error x,_=>do fo [x] (F2 cE (ud cE) v.reverse);wQ "comprehension.variables-let-go" x cE
noncomputable def IM(e:aT)(scope:bW)(u:Option (aj->Sem Unit))(it A:aj)(cE:Env):Sem aj:=fo [.ref cE.locals] ((fo (A::ud cE (CR scope)) (run (.compStart e 0 it A cE))).attempt>>=Xw u A cE (CR scope))
noncomputable def Be(e:aT)(scope:bW)(env:Env)(n:Sem aj)(u:Option (aj->Sem Unit))(it:aj)(c:Sem (List (Str×ar))):Sem aj:=n>>=λA=>c>>=λc=>wG scope env.globals c [] env.qual aa .none (U env)>>=λac=>IM e scope u it A {ac with scope:=relabel scope env}
def S9{scope:bW}{cE:Env}(j:cE.scope.kind= .function)(i:∀x∈(CR scope).reverse,x.2= .local->cE.kindOf x.1=U .local)
 (h:dz M A (.compStart e 0 it q cE) (rE M A E bN Q q cE.locals) s):aG M A (IM e scope bN it q cE) Q E s:=by
 show cO (aF (tr (cO (BF (nT (A:=A.mark aa) (by rw[wx];show h) λr an c=>?_) rfl))))
 cases r with
 |error x=>show False.elim (by cases bN<;>show c)
 |ok f=>
  cases bN with
  |none=>show x12 c λm g c=>aF (cO (bo (QW j _ _ m i g λag k J dI=>bL (c ag dI))))
  |some u=>show aF (lR (aF (cO (a0 c (λJ S d=>?_) λJ J x=>x))));show x12 d λm g d=>aF (bo (QW j _ _ m (λx l=>i x ((mI.mp l).elim P7 List.mem_of_mem_take)) g λag k J dI=>bL (d ag dI)))
def Gd
 (j:clausesOf e=g::gs)(am:∀x,o0 g.iter env x=pure x)(l:nU scope env=pure cl)
 (m:scope.kind= .function)(o:∀x∈scope.names,x.2= .local->scope.names.lookup x.1=U .local)
 (h:aG M A first (λx N=>aG M A (kZ x) (λit a5=>aG M A xP (λF H=>aG M A (wG scope env.globals cl [] env.qual aa .none (U env)) (λq aq=>dz M A (.compStart e 0 it F {q with scope:=relabel scope env}) (rE M A E bN Q F q.locals) aq) E H) E a5) E N) E s):
 aG M A (An e scope env pos xP af first bN) Q E s:=by
 delta An;rw[j];change aG M A (first>>=λx=>fO pos>>=λJ=>o0 g.iter env x>>=λx=>fo [x] (kZ x)>>=λit=>if bN.isSome=ae then fO e.pos>>=λJ=>Be e scope env xP bN it (nU scope env)else Be e scope env xP bN it (nU scope env)) Q E s
 rw[l];show aF (a0 h (λx N c=>aF (fX ?_)) λJ J x=>x);show aF (hl (am x) (aF (cO (a0 c (λit a5 k=>?_) λJ J x=>x))));haveI rest:aG M A (Be e scope env xP bN it (pure cl)) Q E a5:=aF (a0 k (λF H f=>aF (bL (aF (a0 f (λq aq i=>S9 (cE:={q with scope:=relabel scope env}) m (λx n d=>lookup_relabel_local (o x (wC.mp (List.mem_reverse.mp n)).1 d)) i) λJ J x=>x)))) λJ J x=>x)
 cases bN with
 |none=>show rest
 |some u=>show aF (fX rest)
end
section
variable{prog:eP}{w:b3}{A:b2}{E:aj->ax->Prop}{R:h6->ax->Prop}{s:ax}{env:Env}
def Om(M A N)(Z:ax->Prop)(x:aj)(aq:ax):=aG M A (bv (.builtin "list.append") [N,x]) (λJ=>Z) (λJ J=>False) aq
def ae_(M A H env N)(Z:ax->Prop)(k:Bool)(e:ax):=if k=ae then aG M A (b5 H env) (Om M A N Z) (λJ J=>False) e else Z e
def afa(M A)(ifs:List aT)(H env N Z)(s:ax):=aG M A (forIn ifs ae λc r=>if r=ae then do let k<-m5 c env (b5 c env);pure (kK k)else pure (kK r)) (ae_ M A H env N Z) (λJ J=>False) s
def On(M A target it ifs H env N)(R:h6->ax->Prop)(Z:ax->Prop)(r:Option aj)(q:ax):=match r with
 |none=>R (.ok .next) q
 |some v=>aG M A (wB target it v) (λJ=>aG M A (oj target env v) (λJ=>afa M A ifs H env N Z) (λJ J=>False)) (λJ J=>False) q
def Ry(I:Nat->ax->Prop)
 (eM:∀n s,I n s->aG (aN prog w) A (pF it) (On (aN prog w) A target it ifs H env N R λs=>∃m,m<n/\I m s) (λJ J=>False) s)
 (n:Nat)(h:I n s):dz (aN prog w) A (.compLoop (.ListComp H [⟨target,iter,ifs,0⟩] scope pos) 0 it N env) R s:=by
 show AL rfl rfl I (λn s fh=>?_) n h;change aG _ A ((compTurn (.ListComp H [⟨target,iter,ifs,0⟩] scope pos) 0 it N env).onRaise (λx=>do h4 x env;qN x)) _ _ s
 show q0 ?_;rw[compTurn_list];show aF (fX (aF (a0 (eM n s fh) (λr q f=>?_) λJ J ag=>ag.elim)));cases r with
 |none=>show bL f
 |some v=>
  show aF (a0 f (λJ F k=>?_) λJ J ag=>ag.elim);show aF (a0 k (λJ a5 j=>?_) λJ J ag=>ag.elim);show aF (a0 j (λok e d=>?_) λJ J ag=>ag.elim);cases ok with
  |false=>rw[if_neg jl];show bL (.inl ⟨rfl,d⟩)
  |true=>rw[if_pos rfl];show aF (aF (a0 d (λx aq i=>?_) λJ J ag=>ag.elim));show aF (a0 i (λJ bN g=>?_) λJ J ag=>ag.elim);show bL (bL (.inl ⟨rfl,g⟩))
def HI(h:aG (aN prog w) (A.deeper env) (d3 body env) (λf an=>R (.ok (.ret (match f with | .ret v=>v |_=> .none))) an)
 (λe an=>aG (aN prog w) (A.deeper env) (leaving env e) (λJ q=>R (.error e) q) (λF q=>R (.error F) q) an) s):
 dz (aN prog w) A (.func body env) R s:=by
 show iS λJ=>?_;change aG _ (A.deeper env) (do Db;match<-(d3 body env).onRaise (leaving env)with | .ret v=>ret v |_=>ret .none) _ _ s
 show aF (AU (aF (qR (a0 h (λf an ag=>?_) λJ J ag=>ag))));cases f<;>show bL ag
def Qj(g:A.depth<RN)(i:s.heap.get? a=U o)(r:o.data= .func fd)
 (p:fd.scope.isCoroutine=af)(t:fd.scope.isGenerator=af)(j:fd.body= .stmts body)(hcd:s.heap.CodeRec fd.code fd.qualname)
 (h:aQ (aN prog w) A.in1 (tM fd args) (λB q=>
  aQ (aN prog w) A.in1 (wG fd.scope fd.globals fd.closure B (fd.qualname++".<locals>.") (U a) fd.code aa fd.builtins)
   (λenv a5=>a5.heap.NoLimit/\dz (aN prog w) A (.func body env) R a5) (λe an=>R (.error e) an) q) (λe an=>R (.error e) an) s):
 dz (aN prog w) A (.call (.ref a) args) R s:=by
 show iS λJ=>?_;change aG _ A.in1 (callAny (.ref a) args) _ _ s;show bo (aw (lP i ?_));show x44 hcd λc O vs T f n u k=>?_;rw[r];delta callFunction;dsimp only;rw[p,t,j,f];rw[f]at h;show aw (m:=field (.ref c) 1) (fB n u k (aw (aY ?_)));show aw (hk h (λB q l=>aw (hk l (λenv a5 d=>aw (QX d.1 g
  (aY (mQ rfl ⟨rfl,d.2⟩)))) λJ J ag=>ag)) λJ J ag=>ag)
end
end
section
def kO(h:Q () s):aG M A (release vs keep) Q E s:=λc p d J=>by rw[Sem.wp_release];show h
def Qs(h:Q () s):aG (aN prog q) A (RO e v w) Q E s:=bo (FY h)
end
section
abbrev cw:=C.D
abbrev d8:=C.Call
def cW(r:bl):Prop:=∀k,r≠ .stuck k
inductive DR(c:aV)(Y:b1)(k:Nat)(hX:ar)(h:Heap)(vs:Array aj):Prop where
 |mk (b7:Obj) (g:h.get? hX=U b7) (cN:b7.cls= .ref (cP k)) (bJ:iF k=ae) (hd:b7.data= .fields vs) (bM:vs[2]? =U .none) (mx:Y.own hX=aa) (hz:c.z.Z hX=aa)
inductive hv(c:aV)(Y:b1)(k:Nat)(hX:ar)(h:Heap)(fl:aj):Prop where
 |mk (vs:Array aj) (T:ar) (oT:Obj) (nI:Array aj) (x:DR c Y k hX h vs) (bb:vs[1]? =U (.ref T)) (ne:T≠hX) (g:h.get? T=U oT) (hd:oT.data= .fields nI) (cz:nI[3]? =U fl) (mx:Y.own T=aa) (hz:c.z.Z T=aa)
inductive Exc(c:aV)(Y:b1)(k:Nat)(hX:ar)(h:Heap):Prop where
 |new (vs:Array aj) (x:DR c Y k hX h vs) (bb:vs[1]? =U .none)
 |old (fl:aj) (x:hv c Y k hX h fl) (hf:fl= .none\/∃aq,c.env.frame=U aq/\fl=b8 aq)
structure ec(u:bf)(c:aV)(Y aE:b1)(L:bU)(s:ax):Prop where
 le:Y.dL aE
 R:Rel u c aE L s
inductive afb(u:bf)(c:aV)(Y:b1)(v:a3)(L:bU)(w:aj)(s:ax):Prop where
 |mk (aE:b1) (S:ec u c Y aE L s) (dY:az u aE.ah v w)
inductive afc(u:bf)(c:aV)(Y:b1)(vs:List a3)(L:bU)(ws:List aj)(s:ax):Prop where
 |mk (aE:b1) (S:ec u c Y aE L s) (dY:bI (az u aE.ah) vs ws)
inductive EG(u:bf)(c:aV)(Y:b1)(k:Nat)(L:bU)(e:aj)(s:ax):Prop where
 |mk (aE:b1) (hX:ar) (S:ec u c Y aE L s) (he:e= .ref hX) (x:Exc c aE k hX s.heap)
inductive oM(u:bf)(c:aV)(Y:b1)(L:bU)(s:ax):Prop where
 |mk (aE:b1) (S:ec u c Y aE L s)
inductive afd(u:bf)(c:aV)(Y:b1)(v:a3)(L:bU)(f:ja)(s:ax):Prop where
 |mk (aE:b1) (w:aj) (S:ec u c Y aE L s) (dY:az u aE.ah v w) (hf:f= .ret w)
def bg(u:bf)(c:aV)(Y:b1)(r:bl)(w:aj)(s:ax):Prop:=match r with
 | .ok v L=>afb u c Y v L w s
 |_=>False
def v5(u:bf)(c:aV)(Y:b1)(r:bl)(ws:List aj)(s:ax):Prop:=match r with
 | .args vs L=>afc u c Y vs L ws s
 |_=>False
def dH(u:bf)(c:aV)(Y:b1)(r:bl)(e:aj)(s:ax):Prop:=match r with
 | .exc k L=>EG u c Y k L e s
 |_=>False
def kD(u:bf)(c:aV)(Y:b1)(r:bl)(f:ja)(s:ax):Prop:=match r with
 | .next L=>oM u c Y L s/\f= .next
 | .brk L=>oM u c Y L s/\f= .brk
 | .ret v L=>afd u c Y v L f s
 |_=>False
def fi(u:bf)(c:aV)(Y:b1)(r:bl)(s:ax):Prop:=match r with
 | .next L=>oM u c Y L s
 |_=>False
def sI(u:bf)(c:aV)(Y:b1)(r:bl)(b:Bool)(s:ax):Prop:=match r with
 | .ok v L=>oM u c Y L s/\v=C.gb b
 |_=>False
section
def ec.to{bp:b1}(h:Y.dL aE)(x:ec u c aE bp L s):ec u c Y bp L s:=⟨h.trans x.le,x.R⟩
def Rel.ff(R:Rel u c Y L s):ec u c Y Y L s:=⟨.refl _,R⟩
def oM.to(h:Y.dL aE):oM u c aE L s->oM u c Y L s | ⟨_,S⟩=>⟨_,S.to h⟩
def bg.le{w:aj}(h:Y.dL aE)(x:bg u c aE r w s):bg u c Y r w s:=by
 cases r with
 |ok v L=>obtain⟨J,S,d⟩:=x;show⟨_,S.to h,d⟩
 |_=>show x
def v5.le{w:List aj}(h:Y.dL aE)(x:v5 u c aE r w s):v5 u c Y r w s:=by
 cases r with
 |args v L=>obtain⟨J,S,d⟩:=x;show⟨_,S.to h,d⟩
 |_=>show x
def dH.le{w:aj}(h:Y.dL aE)(x:dH u c aE r w s):dH u c Y r w s:=by
 cases r with
 |exc v L=>obtain⟨J,J,S,d,x⟩:=x;show⟨_,_,S.to h,d,x⟩
 |_=>show x
def kD.le{w:ja}(h:Y.dL aE)(x:kD u c aE r w s):kD u c Y r w s:=by
 cases r with
 |ret v L=>obtain⟨J,J,S,d,e⟩:=x;show⟨_,_,S.to h,d,e⟩
 |next L=>show⟨x.1.to h,x.2⟩
 |brk L=>show⟨x.1.to h,x.2⟩
 |_=>show x
def fi.le(h:Y.dL aE)(x:fi u c aE r s):fi u c Y r s:=by
 cases r with
 |next L=>show x.to h
 |_=>show x
def sI.le{b:Bool}(h:Y.dL aE)(x:sI u c aE r b s):sI u c Y r b s:=by
 cases r with
 |ok v L=>show⟨x.1.to h,x.2⟩
 |_=>show x
def bg.here(R:Rel u c Y L s)(h:az u Y.ah v w):bg u c Y (.ok v L) w s:=⟨Y,R.ff,h⟩
def az.Cb(h:az u [] v w):az u ah v w:=h.bR List.nil_prefix
end
structure gR(bA:Type)where
 P:b1->bl->bA->ax->Prop
 le:∀{Y aE r b s},Y.dL aE->P aE r b s->P Y r b s
noncomputable abbrev ci(u:bf)(c:aV):gR aj:=⟨bg u c,bg.le⟩
noncomputable abbrev v6(u:bf)(c:aV):gR (List aj):=⟨v5 u c,v5.le⟩
noncomputable abbrev qv(u:bf)(c:aV):gR ja:=⟨kD u c,kD.le⟩
noncomputable abbrev g9(u:bf)(c:aV):gR Unit:=⟨λY r J=>fi u c Y r,fi.le⟩
noncomputable abbrev sJ(u:bf)(c:aV):gR Bool:=⟨sI u c,sI.le⟩
def ai(u:bf)(c:aV)(A:b2){bA:Type}(P:gR bA)(Y:b1)(t:Sem bA)(s:ax)(r:bl):Prop:=cW r->aG u.M A t (P.P Y r) (dH u c Y r) s
section
variable{u:bf}{c:aV}{A:b2}{bA:Type}{P:gR bA}{Y aE:b1}{t:Sem bA}{s:ax}{r:bl}{L:bU}
def ai.stuck{k:Nat}:ai u c A P Y t s (.stuck k):=λh=>absurd rfl (h k)
def ai.any(h:aQ u.M A t (P.P Y r) (λJ J=>False) s):ai u c A P Y t s r:=λJ=>bo (hk h (λJ J x=>x) λJ J x=>x.elim)
def ai.up(h:Y.dL aE)(x:ai u c A P aE t s r):ai u c A P Y t s r:=λd=>a0 (x d) (λJ J=>P.le h) λJ J=>dH.le h
def ai.pure{b:bA}(h:P.P Y r b s):ai u c A P Y (pure b) s r:=λJ=>bL h
def ai.gS{vs:List aj}(h:ai u c A P Y t s r):ai u c A P Y (fo vs t) s r:=λd=>cO (h d)
def ai.dm(h:ai u c A P Y (f ()) s r):ai u c A P Y (fO p>>=f) s r:=λd=>aF (fX (h d))
def ai.step{α:Type}{m:Sem α}{f:α->Sem bA}{a:α}(d:∀Q:α->ax->Prop,Q a s->aQ u.M A m Q (λJ J=>False) s)(h:ai u c A P Y (f a) s r):ai u c A P Y (m>>=f) s r:=λg=>aF (a0 (bo (d _ (h g))) (λJ J x=>x) λJ J x=>x.elim)
def ai.LY{α:Type}{m:Sem α}{F:α->Sem bA}(h:ai u c A P Y (m>>=F) s r):ai u c A P Y (fo vs m>>=F) s r:=λf d p i g=>by haveI:=h f d p i g;rw[wP]at this⊢;rw[RL];show this
def ai.pN{t:Sem aj}{F:aj->Sem bA}{k:a3->bU->bl}(h:ai u c A (ci u c) Y t s r)
 (d:∀v w q H e,ec u c Y q H e->az u q.ah v w->ai u c A P q (F w) e (k v H))(am:cW (r.bind k)):
 aG u.M A t (λw e=>aG u.M A (F w) (P.P Y (r.bind k)) (dH u c Y (r.bind k)) e) (dH u c Y (r.bind k)) s:=by
 cases r with
 |ok v H=>show a0 (h λJ=>nofun) (λw e aD=>aD.casesOn λq S f=>(d v w q H e S f).up S.le am) λJ J x=>x.elim
 |exc k H=>show a0 (h λJ=>nofun) (λJ J x=>x.elim) λJ J x=>x
 |stuck k=>show absurd rfl (am k)
 |_=>show absurd rfl (am 1)
def ai.dD{t:Sem aj}{F:aj->Sem bA}{k:a3->bU->bl}(h:ai u c A (ci u c) Y t s r)
 (d:∀v w e H q,ec u c Y e H q->az u e.ah v w->ai u c A P e (F w) q (k v H)):ai u c A P Y (t>>=F) s (r.bind k):=λam=>aF (h.pN d am)
def ai.abY{t:Sem (List aj)}{F:List aj->Sem bA}{k:List a3->bU->bl}(h:ai u c A (v6 u c) Y t s r)
 (d:∀v w q H e,ec u c Y q H e->bI (az u q.ah) v w->ai u c A P q (F w) e (k v H))(am:cW (r.ea k)):
 aG u.M A t (λw e=>aG u.M A (F w) (P.P Y (r.ea k)) (dH u c Y (r.ea k)) e) (dH u c Y (r.ea k)) s:=by
 cases r with
 |args v H=>show a0 (h λJ=>nofun) (λw e aD=>aD.casesOn λq S f=>(d v w q H e S f).up S.le am) λJ J x=>x.elim
 |exc k H=>show a0 (h λJ=>nofun) (λJ J x=>x.elim) λJ J x=>x
 |stuck k=>show absurd rfl (am k)
 |_=>show absurd rfl (am 2)
def ai.ea{t:Sem (List aj)}(h:ai u c A (v6 u c) Y t s r)
 (d:∀v w e H q,ec u c Y e H q->bI (az u e.ah) v w->ai u c A P e (F w) q (k v H)):ai u c A P Y (t>>=F) s (r.ea k):=λam=>aF (h.abY d am)
def ai.operate{P:gR aj}{t:Sem aj}(h:ai u c A P Y t s r):ai u c A P Y (operate vs t) s r:=λd=>aF (cO (a0 (h d) (λJ J x=>aF (kO (bL x))) λJ J x=>x))
def ai.a7{α:Type}{o:Option α}{w:Nat}{k:α->bl}(h:∀a,o=U a->ai u c A P Y t s (k a)):ai u c A P Y t s (C.a7 o w k):=by
 cases o with
 |none=>show .stuck
 |some a=>show h a rfl
def ai.bV(h:b=ae->ai u c A P Y t s r):ai u c A P Y t s (C.bV b w r):=by
 cases b with
 |false=>show .stuck
 |true=>show h rfl
def ai.dA{n:Nat}(h:n<5000->ai u c A P Y t s r):ai u c A P Y t s (C.dA n r):= .bV λq=>h (C.df q)
def ai.h_(h:L.hf=af->ai u c A P Y t s r):ai u c A P Y t s (C.h_ L r):=by
 delta C.h_;cases q:L.hf with
 |false=>show h q
 |true=>show .stuck
def ai.du(h:ai u c A P Y t s (k n)):ai u c A P Y t s (C.du n k):=(C.eX n k).symm▸h
def ai.c1{o:Option a3}{w:Nat}(h:∀v,o=U v->ai u c A P Y t s (.ok v L)):ai u c A P Y t s (C.c1 o w L):= .a7 h
def ai.b6{k:Int->bl}(h:∀i,v= .int i->ai u c A P Y t s (k i))(hz:ai u c A P Y t s z:=by show .stuck):ai u c A P Y t s (C.b6 v k z):=C.jv (P:=ai u c A P Y t s) h hz
def ai.agE{i:Int}(h:∀n:Nat,i=n->ai u c A P Y t s (k n))(ag:∀n,ai u c A P Y t s (cV n):=by showλJ=> .stuck):ai u c A P Y t s (C.e7 i k cV):=by
 cases i with
 |ofNat n=>show h n rfl
 |negSucc n=>show ag n
def ai.eh{k:Nat->bl}(h:∀n:Nat,v= .int n->ai u c A P Y t s (k n))(hz:autoParam (ai u c A P Y t s z) ai.b6._auto_1):ai u c A P Y t s (C.eh v k z):= .b6 (λJ e=> .agE (λn q=>h n (q▸e)) λJ=>hz) hz
def ai.ga{k:dE->bl}(h:∀y,v= .aZ y->ai u c A P Y t s (k y))(hz:autoParam (ai u c A P Y t s z) ai.b6._auto_1):ai u c A P Y t s (C.ga v k z):=C.nc (P:=ai u c A P Y t s) h hz
def ai.bE{k:Nat->bl}(h:∀i,v= .ref i->ai u c A P Y t s (k i))(hz:autoParam (ai u c A P Y t s z) ai.b6._auto_1):ai u c A P Y t s (C.bE v k z):=C.e9 (P:=ai u c A P Y t s) h hz
def ai.dS{a b:bl}(h:v= .tt->ai u c A P Y t s a)(ag:v= .aM->ai u c A P Y t s b)(hz:autoParam (ai u c A P Y t s z) ai.b6._auto_1):ai u c A P Y t s (C.dS v a b z):=C.CP (P:=ai u c A P Y t s) h ag hz
def ai.cJ{k:List a3->bl}(h:∀l,o= .list l->ai u c A P Y t s (k l))(hz:autoParam (ai u c A P Y t s z) ai.b6._auto_1):ai u c A P Y t s (C.cJ o k z):=C.j0 (P:=ai u c A P Y t s) h hz
def ai.i0{k:List a3->bl}(h:∀l,o= .tup l->ai u c A P Y t s (k l))(hz:autoParam (ai u c A P Y t s z) ai.b6._auto_1):ai u c A P Y t s (C.i0 o k z):=C.ri (P:=ai u c A P Y t s) h hz
def ai.e_{k:aP->bl}(h:∀l,o= .dict l->ai u c A P Y t s (k l))(hz:autoParam (ai u c A P Y t s z) ai.b6._auto_1):ai u c A P Y t s (C.e_ o k z):=C.q6 (P:=ai u c A P Y t s) h hz
def ai.fQ{k:a3->bl}(h:∀l,o= .ba l->ai u c A P Y t s (k l))(hz:autoParam (ai u c A P Y t s z) ai.b6._auto_1):ai u c A P Y t s (C.fQ o k z):=C.oa (P:=ai u c A P Y t s) h hz
def ai.gF{k:Nat->aL->bl}(h:∀i f,o= .inst i f->ai u c A P Y t s (k i f))(hz:autoParam (ai u c A P Y t s z) ai.b6._auto_1):ai u c A P Y t s (C.gF o k z):=C.kU (P:=ai u c A P Y t s) h hz
def ai.p0{k:Int->Int->Int->bl}(h:∀a b e,o= .eZ a b e->ai u c A P Y t s (k a b e))(hz:autoParam (ai u c A P Y t s z) ai.b6._auto_1):ai u c A P Y t s (C.p0 o k z):=C.Jx (P:=ai u c A P Y t s) h hz
def ai.m7{k:Option a3->bl}(h:∀v,o= .cell v->ai u c A P Y t s (k v))(hz:autoParam (ai u c A P Y t s z) ai.b6._auto_1):ai u c A P Y t s (C.m7 o k z):=C.Bb (P:=ai u c A P Y t s) h hz
def ai.om{k:Nat->bl}(h:∀d,o= .iA d->ai u c A P Y t s (k d))(hz:autoParam (ai u c A P Y t s z) ai.b6._auto_1):ai u c A P Y t s (C.om o k z):=C.II (P:=ai u c A P Y t s) h hz
def ai.oz{k:Nat->bl}(h:∀d,o= .cb d->ai u c A P Y t s (k d))(hz:autoParam (ai u c A P Y t s z) ai.b6._auto_1):ai u c A P Y t s (C.oz o k z):=C.Jy (P:=ai u c A P Y t s) h hz
def ai.eW{k:aP->Option Nat->Option Int->aP->Nat->Nat->bl}(h:∀a b e f g i,o= .c3 a b e f g i->ai u c A P Y t s (k a b e f g i))(hz:autoParam (ai u c A P Y t s z) ai.b6._auto_1):ai u c A P Y t s (C.eW o k z):=C.pd (P:=ai u c A P Y t s) h hz
def ai.uM{k:Nat->aL->bl}(h:∀i f,o= .lam i f->ai u c A P Y t s (k i f))(hz:autoParam (ai u c A P Y t s z) ai.b6._auto_1):ai u c A P Y t s (C.uM o k z):=C.Jz (P:=ai u c A P Y t s) h hz
def ai.p1{k:Nat->Bool->bl}(h:∀i f,o= .ig i f->ai u c A P Y t s (k i f))(hz:autoParam (ai u c A P Y t s z) ai.b6._auto_1):ai u c A P Y t s (C.p1 o k z):=C.Xo (P:=ai u c A P Y t s) h hz
def ai.bs{α:Type}{x:Option α}{k:α->bl}(ag:x=aa->ai u c A P Y t s z)(h:∀a,x=U a->ai u c A P Y t s (k a)):ai u c A P Y t s (C.bs x z k):=by
 cases x with
 |none=>show ag rfl
 |some a=>show h a rfl
def ai.ht{x:Option a3}{k:Nat->bl}(h:∀i,x=U (.ref i)->ai u c A P Y t s (k i)):ai u c A P Y t s (C.ht x k):= .a7 λJ e=> .bE λi q=>h i (q▸e)
def ai.bQ(h:∀a,as= [a]->ai u c A P Y t s (k a)):ai u c A P Y t s (C.bQ as k):=match as with
 | []=> .stuck
 | [a]=>h a rfl
 |_::_::_=> .stuck
def ai.cn(h:∀a b,as= [a,b]->ai u c A P Y t s (k a b)):ai u c A P Y t s (C.cn as k):=match as with
 | []=> .stuck
 |a::_=> .bQ λb e=>h a b (e▸rfl)
end
structure jI(sc:bW)(env:Env):Prop where
 loc:∀x,sc.names.lookup x=U .local->env.kindOf x=U .local
 bt:∀x,sc.names.lookup x=U .cell->env.kindOf x=U .cell
 vv:∀x,sc.names.lookup x=U .free->env.kindOf x=U .cell\/env.kindOf x=U .free
 bG:∀x,sc.names.lookup x=U .globalImplicit->env.kindOf x=U .globalImplicit
 has:∀x,sc.names.lookup x=U .cell\/sc.names.lookup x=U .free->(env.cells.lookup x).isSome=ae
structure Act(c:aV)(A:b2)(sc:bW)(n:Nat):Prop where
 frames:A.frames=U c.z.cy
 cur:∃e outer aq,c.z.cy=e::outer/\e.frame=U aq/\c.env.frame=U aq/\e.code=c.env.code
 kind:c.env.scope.kind= .function
 globals:c.env.globals=d2
 builtins:c.env.builtins=hj
 depth:A.depth+6*n<900
 units:A.units+30*n<9000
 hand:A.handled=aa\/(c.hf=ae/\∃x o vs,A.handled=U (.ref x)/\c.z.Z x=U o/\o.data= .fields vs/\vs[2]? =U .none)
 sc:jI sc c.env
structure gT(A B:b2):Prop where
 fr:B.frames=A.frames
 hd:B.handled=A.handled
 Fh:B.depth<=A.depth+2
 un:B.units<=A.units+10
def gT.refl(A:b2):gT A A:=⟨rfl,rfl,gB _ _,gB _ _⟩
def Act.cl{sc:bW}{n:Nat}(ac:Act c A sc n):A.units+200<pY:=by show o6 (wj (jQ (gB _ _) ac.units) 200) (by change _<9900;x_go)
def jp(u:bf)(n:Nat)(call:d8):Prop:=∀c Y L s A B sc k as ws,Rel u c Y L s->Act c A sc n->gT A B->bI (az u Y.ah) as ws->k<146->ai u c B (ci u c) Y (bv (.ref (eE k)) ws) s (call k as .nil L)
def b4(u:bf)(sc:bW)(n:Nat)(call:d8)(e:aT)(f:cw):Prop:=∀c Y L s A,Rel u c Y L s->Act c A sc n->ai u c A (ci u c) Y (b5 e c.env) s (f [] call L)
def fU(r:bl):bl:=r.bind λv L=>C.dS v (.ok v L) (.ok v L) (.stuck 0)
def gJ(u:bf)(sc:bW)(n:Nat)(call:d8)(e:aT)(f:cw):Prop:=∀c Y L s A,Rel u c Y L s->Act c A sc n->ai u c A (sJ u c) Y (m5 e c.env (b5 e c.env)) s (fU (f [] call L))
section
variable{u:bf}{c:aV}{A:b2}{bA:Type}{P:gR bA}{Y:b1}{s:ax}{r:bl}
def ai.x_{ka kb:bU->bl}{w:Nat}(h:ai u c A (sJ u c) Y t s (fU r))
 (d:∀b aq q H,ec u c Y aq q H->ai u c A P aq (F b) H (C.aA b (ka q) (kb q))):ai u c A P Y (t>>=F) s (r.bind λv L=>C.dS v (ka L) (kb L) (.stuck w)):=by
 cases r with
 |ok v q=>
  cases v with
  |tt=>showλam=>aF (a0 (h λJ=>nofun) (λb H ⟨⟨aq,S⟩,e⟩=>match b,e with |true,_=>(d ae aq q H S).up S.le am) λJ J x=>x.elim)
  |aM=>showλam=>aF (a0 (h λJ=>nofun) (λb H ⟨⟨aq,S⟩,e⟩=>match b,e with |false,_=>(d af aq q H S).up S.le am) λJ J x=>x.elim)
  |_=>show .stuck
 |exc k q=>showλJ=>aF (a0 (h λJ=>nofun) (λJ J x=>x.elim) λJ J x=>x)
 |_=>show .stuck
def mP(r:bl)(k cV:a3->bU->bl):(r.bind k).bind cV=r.bind λv L=>(k v L).bind cV:=by cases r<;>rfl
def JE(v:a3)(a b z:bl)(k:a3->bU->bl):(C.dS v a b z).bind k=C.dS v (a.bind k) (b.bind k) (z.bind k):=by cases v<;>rfl
end
end
variable{u:bf}{Y:b1}{L:bU}{sc:bW}{call:d8}{ah:dr}
section
variable{c:aV}{s:ax}{A:b2}{M:fa}{E:aj->ax->Prop}{n:Nat}
def rj(d:sc.names.lookup (ay k)=U .local):b4 u sc n call (.Name (ay k) p) (C.b9 k):=λc Y L s A R ac=>.c1 λv q=> .any (by show x12 R.here λm g hf=>?_;have kd:=ac.sc.loc _ d;show x12 (hf.loc k v q kd) λw hw f=>AR (P8 ac.kind kd g hw (bg.here R f)) (R.st.qi k))
def Rel.at(R:Rel u c Y L s)(d:br Y.ah i p)(q:L.h.get i=o):dk u Y.ah Y.own s.heap i p o:=q▸R.objs i p d
def Xx(g:sc.names.lookup (ay k)=U .cell\/sc.names.lookup (ay k)=U .free):b4 u sc n call (.Name (ay k) p) (C.yv k):=λc Y L s A R ac=>
 .ht λi q=> .m7 λv Q=> .c1 λv j=> .any (by
  k_lt j;show x12 R.here λm o hf=>?_;have kd:c.env.kindOf (ay k)=U .cell\/c.env.kindOf (ay k)=U .free:=g.elim (λh=> .inl (ac.sc.bt _ h)) (ac.sc.vv _);show x12 (hf.bt k _ q kd) λp' l f=>?_;obtain⟨w,J,hw,d⟩:=R.at l Q;cases w with
  |none=>show d.elim
  |some w=>show kd.elim (λkd=>AR (wpAny_loadName_cell ac.kind kd f hw (bg.here R d)) (R.st.qi k)) λkd=>AR (wpAny_loadName_free ac.kind kd f hw (bg.here R d) (R.st.Oh k)) (R.st.qi k))
def G1{i:b2}(R:Rel u c Y L s)(ac:Act c A sc n){k:Nat}{v:a3}(g:nG k v=ae){Q:aj->ax->Prop}
 (h:∀w,az u Y.ah v w->Q w s):aQ M i (AS c.env (ay k)) Q E s:=by
 obtain⟨w,f,d | ⟨d,j⟩⟩:=R.st.glob k v g
 .delta AS;rw[ac.globals];show aw ((w3 R.fs d).here (aY (h w f.Cb)))
 .delta AS;rw[ac.globals,ac.builtins];show aw ((w3 R.fs d).here (aw ((w3 R.fs j).here (aY (h w f.Cb)))))
def Xy(c:sc.names.lookup (ay k)=U .globalImplicit)(d:nG k v=ae):b4 u sc n call (.Name (ay k) p) (C.dq v):=λJ J J J J R ac=>.any (FZ ac.kind (ac.sc.bG _ c) (G1 R ac d λJ=>bg.here R) (R.st.qi k))
noncomputable def uX:Nat->Nat->List UInt8
 | 0,_=> []
 |n+1,x=>kP (x % 1024)::uX n (x/1024)
def Oo:a3->Const
 | .none=> .none | .tt=> .bool ae | .aM=> .bool af
 | .int i=> .int i | .str k=> .str (ms k) | .aZ y=> .bytes (uX y.n y.x)
 |_=> .ellipsis
def Vy(x:Nat):∀(n i:Nat) (b:UInt8),(uX n x)[i]? =U b->b=kP (C.dc x i):=by
 intro n;induction n generalizing x with
 |zero=>intro i b h;cases h
 |succ n I=>
  intro i b h;cases i with
  |zero=>cases h;change _=kP ((x/1024^0) % 1024);rw[nR,nS]
  |succ i=>rw[I (x/1024) i b h];change kP ((x/1024/1024^i) % 1024)=kP ((x/1024^(i+1)) % 1024);rw[FL,Hk,Aw 1024]
theorem IN(x:Nat):∀n,(uX n x).length=n
 | 0=>rfl
 |n+1=>congrArg da (IN (x/1024) n)
noncomputable def ue:Nat->Nat->Bool
 | 0,x=>aK x 0
 |n+1,x=>bw (x % 1024) 256&&ue n (x/1024)
theorem H5:∀(n x:Nat),ue n x=ae->x<1024^n
 | 0,x,h=>by rw[C.bS h];x_go
 |n+1,x,h=>by have:=H5 n _ (dx.mp h).2;rw[Hk];show(FQ (by x_go)).mp this
theorem HJ:∀(n x i:Nat),ue n x=ae->C.dc x i<256
 | 0,x,i,h=>by obtain rfl:=C.bS h;change(0/1024^i) % 1024<256;rw[SS];x_go
 |n+1,x,0,h=>by have:=C.df (dx.mp h).1;change(x/1024^0) % 1024<256;rw[nR,nS];show this
 |n+1,x,i+1,h=>by have:=HJ n (x/1024) i (dx.mp h).2;change(x/1024^(i+1)) % 1024<256;rw[Hk,Aw,<-FL];show this
def Vz(h:ue n x=ae):ck u ⟨n,x⟩ (uX n x).toArray:=by show⟨ta.trans (IN x n),H5 n x h,λi b e=> .inl ?_⟩;rw[zN]at e;haveI c:=HJ n x i h;rw[Vy x n i b e,zT];show⟨c,o1 c⟩
def LZ:a3->Bool
 | .none | .tt | .aM | .int _ | .str _=>ae
 | .aZ y=>ue y.n y.x&&pq y.n 5000
 |_=>af
def ZP(c:LZ v=ae):b4 u sc n call (.Constant (Oo v) 0 p) (C.dq v):=λJ J J J J R J=>by
 rw[arm_eval_Constant];show .any ?_;cases v with
 |none=>show aY (bg.here (v:= .none) R rfl)
 |tt=>show aY (bg.here (v:= .tt) R rfl)
 |aM=>show aY (bg.here (v:= .aM) R rfl)
 |int i=>show AE (bg.here (v:= .int i) (R.toks _) ⟨_,rfl⟩)
 |str k=>show SU (bg.here (v:= .str k) (R.toks _) ⟨_,rfl⟩)
 |aZ y=>showλJ J J=>bg.here (v:= .aZ y) (R.toks _) ⟨_,_,rfl,Vz (dx.mp c).1⟩
 |_=>show nomatch c
end
section
variable{c:aV}{s:ax}{A:b2}{E:aj->ax->Prop}{prog:eP}{w:b3}
def lU(h:az u ah v x)(e:iE v u.bJ=U i):∃t,x= .int i t:=by
 cases v with
 |int j=>cases e;show h
 |li l=>show x22 h λj t q r=>?_;show⟨t,bY (q.symm.trans e)▸r⟩
 |_=>cases e
def az.ux(e:iE v u.bJ=U i):az u ah v (.int i t):=by
 cases v with
 |int j=>cases e;show⟨_,rfl⟩
 |li l=>show⟨i,t,e,rfl⟩
 |_=>cases e
def L0(h:jz F fl f .int C.vd=U v)(c:k<F)(d:fl=af->f 0=f k):∃r,f k=U r/\iE v k=U r:=by
 obtain⟨r,e,rfl | ⟨l,rfl,q⟩⟩:=C.JC h c d
 .show⟨r,e,rfl⟩
 .show⟨r,e,C.KM q⟩
def pO(h:jz F fl f .aZ C.r7=U v)(c:k<F)(d:fl=af->f 0=f k):∃r,f k=U r/\f8 v k=U r:=by
 obtain⟨r,e,rfl | ⟨l,rfl,q⟩⟩:=C.JC h c d
 .show⟨r,e,rfl⟩
 .show⟨r,e,C.ZN q⟩
def xy{α:Type}{a b:a3}{f:Int->Int->Option α}{k:Nat}{r:α}(h:ly a b f k=U r):∃x y,iE a k=U x/\iE b k=U y/\f x y=U r:=by show x12 (C.eV h) λx e h=>x12 (C.eV h) λy E h=>?_;show⟨x,y,e,E,h⟩
def xz{α:Type}{a b:a3}{f:dE->dE->Option α}{k:Nat}{r:α}(h:mm a b f k=U r):∃x y,f8 a k=U x/\f8 b k=U y/\f x y=U r:=by show x12 (C.eV h) λx e h=>x12 (C.eV h) λy E h=>?_;show⟨x,y,e,E,h⟩
def KN{i:Int}(h:C.lim i=ae):i.natAbs<2^64:=by
 cases i with
 |ofNat n=>show C.df h
 |negSucc n=>show z4 (C.df h)
def JF(h:C.cm x y f=U r):∃m n:Nat,x=m/\y=n/\f m n=U r:=by
 cases x with
 |negSucc m=>cases h
 |ofNat m=>cases y with
  |negSucc n=>cases h
  |ofNat n=>show⟨m,n,rfl,rfl,h⟩
@[elab_as_elim]def pP{P:Int->Int->Prop}{f:Nat->Nat->Option Int}{r x y:Int}(h:C.cm x y f=U r)(k:∀m n:Nat,f m n=U r->P m n):P x y:=x23 (JF h) λm n a b h=>a▸b▸k m n h
def TI{a:Int}(h:a.natAbs<2^64):Ql a<=64:=by
 delta Ql;show iteE (λ_=>?_) λ_=>?_
 .omega
 .rename_i q;haveI c:a.natAbs≠0:=λe=>q (by rw[beq_iff_eq];show Int.natAbs_eq_zero.mp e)
  haveI:=(Nat.log2_lt c).mpr h;omega
def H6(x y:Nat):(x&&&y)+(x|||y)=x+y/\(x^^^y)+(x&&&y)=x|||y:=by
 induction x using Rf generalizing y with
 |ind x ih=>
  by_cases h:x=0
  .k_lt h;rw[Nat.zero_and,Nat.zero_or,Nat.zero_xor];show⟨rfl,rfl⟩
  .haveI e:=ih (x/2) (Nat.div_lt_self (F8 h) (by x_go)) (y/2)
   haveI au:(x&&&y)/2=x/2&&&y/2:=Nat.and_div_two;haveI nJ:(x|||y)/2=x/2|||y/2:=Nat.or_div_two;haveI agF:(x^^^y)/2=x/2^^^y/2:=Nat.xor_div_two;haveI ak:(x&&&y) % 2=(x % 2)&&&(y % 2):=Nat.and_mod_two_pow (n:=1);haveI gK:(x|||y) % 2=(x % 2)|||(y % 2):=Nat.or_mod_two_pow (n:=1);haveI agG:(x^^^y) % 2=(x % 2)^^^(y % 2):=Nat.xor_mod_two_pow (n:=1);haveI:=(by decide:∀p q:Fin 2,(p.1&&&q.1)+(p.1|||q.1)=p.1+q.1/\(p.1^^^q.1)+(p.1&&&q.1)=p.1|||q.1) ⟨_,kQ x (by x_go)⟩ ⟨_,kQ y (by x_go)⟩
   show⟨Mine.MT (by rw[au,nJ];show e.1) (by rw[ak,gK];show this.1),Mine.MT (s:=0) (by rw[agF,au,nJ];show e.2) (by rw[agG,ak,gK];show this.2)⟩
def AM(x y:Nat):RP (x:Int) (y:Int)=((x&&&y:Nat):Int):=by simp[RP]
def H7(x y:Nat):Builtin.bitOr (x:Int) (y:Int)=((x|||y:Nat):Int):=by rw[bitOr_and,AM];show Int.sub_eq_iff_eq_add'.mpr (congrArg kT (H6 x y).1.symm)
def TJ(x y:Nat):RQ (x:Int) (y:Int)=((x^^^y:Nat):Int):=by delta RQ;rw[H7,AM];show Int.sub_eq_iff_eq_add.mpr (congrArg kT (H6 x y).2.symm)
def wM(h:qg o x y=U r)(fK:∀t tk,Q (.int r t) {s with toks:=tk}):
 aQ (aN prog w) A (pi o (.int x t) (.int y aU)) Q E s:=by
 cases o with
 |Add=>obtain rfl:x+y=r:=(C.tP x y).symm.trans (bY ((C.oo _).symm.trans h));show add_int (fK _ _)
 |Sub=>obtain rfl:x - y=r:=bY ((C.oo _).symm.trans h);show ah3 (fK _ _)
 |Mult=>show x02 (C.db h) λbb h=>x02 (C.db h) λbM h=>?_;obtain rfl:x*y=r:=bY ((C.oo _).symm.trans h);show P.mul_int (fK _ _) (IntMulOk.of_left (TI (KN bb)))
 |MatMult=>cases h
 |Div=>cases h
 |Pow=>show pP h λm n h=>?_;show x02 (C.db h) λbb h=>x02 (C.db h) λbM h=>?_;cases C.bS bb;cases C.bS bM;cases h;show aim (by x_go) (by x_go) (by x_go) (by x_go) (by z_go) (fK _ _)
 |Mod=>
  show pP h λm n h=>?_;show x02 (C.db h) λbb h=>?_;have bb:=C.df bb;obtain rfl:((m % n:Nat):Int)=r:=bY ((C.nb _).symm.trans h);show ah0 (by omega) ?_
  rw[Int.fmod_eq_emod_of_nonneg _ (by omega)]
  show fK _ _
 |LShift=>
  show x23 (JF h) λm n cv hP h=>?_;w_pre cv;k_lt hP;show x02 (C.db h) λbb h=>x02 (C.db h) λbM h=>?_;have bM:=C.df bM;obtain rfl:((m<<<n:Nat):Int)=r:=bY ((C.nb _).symm.trans h);have e:((m<<<n:Nat):Int)=(m:Int)*2^(n:Int).toNat:=by rw[gN,Nat.shiftLeft_eq];simp
  show ahG (by omega) (by omega) (KN bb) ?_
  rw[<-e];show fK _ _
 |RShift=>
  show pP h λm n h=>?_;obtain rfl:((m>>>n:Nat):Int)=r:=bY ((C.nb _).symm.trans h);show ahW (by omega) ?_
  have e:((m>>>n:Nat):Int)=(m:Int).fdiv (2^(n:Int).toNat):=by rw[gN,Nat.shiftRight_eq_div_pow,Pv _ (by exact_mod_cast gD _)];simp
  rw[<-e];show fK _ _
 |BitOr=>show pP h λm n h=>?_;obtain rfl:((m|||n:Nat):Int)=r:=bY ((C.nb _).symm.trans h);show ah9 (H7 m n▸fK _ _)
 |BitXor=>show pP h λm n h=>?_;obtain rfl:((m^^^n:Nat):Int)=r:=bY ((C.nb _).symm.trans h);show ah4 (TJ m n▸fK _ _)
 |BitAnd=>show pP h λm n h=>?_;obtain rfl:((m&&&n:Nat):Int)=r:=bY ((C.nb _).symm.trans h);show ah5 (AM m n▸fK _ _)
 |FloorDiv=>
  show pP h λm n h=>?_;show x02 (C.db h) λbb h=>?_;have bb:=C.df bb;show x02 (C.db h) λbM h=>?_;have bM:=C.df bM;obtain rfl:((m/n:Nat):Int)=r:=bY ((C.nb _).symm.trans h);show ahO (by omega) ?_
  rw[Pv _ (by omega)]
  show fK _ _
def R0(d:o= .Add\/o= .Sub)(h:qg o x y=U r)(c:∀t tk,Q (.int r t) {s with toks:=tk}):
 aQ (aN prog w) A (inplaceOp o (.int x t) (.int y aU)) Q E s:=by
 show a8 d (λf=>?_) λO=>?_
 .k_lt f;obtain rfl:x+y=r:=(C.tP x y).symm.trans (bY ((C.oo _).symm.trans h));show P.iadd_int (c _ _)
 .k_lt O;obtain rfl:x - y=r:=bY ((C.oo _).symm.trans h);show P.isub_int (c _ _)
def JG(T:eQ u){o:hp}{a b v:a3}{x y:aj}(h:C.jA u.ao.F o a b=U v)(f:az u ah a x)(d:az u ah b y):
 ∃i j r t aU,x= .int i t/\y= .int j aU/\qg o i j=U r/\iE v u.bJ=U r:=by
 show x12 (L0 h T.len (C.xe u.bJ)) λr e q=>x23 (xy e) λi j E c g=>?_;show x11 (lU f E) λt O=>?_;k_lt O;show x11 (lU d c) λaU O=>?_;k_lt O;show⟨i,j,r,t,aU,rfl,rfl,g,q⟩
def kA.fn(x:kA u d a)(y:kA u d b):a=b:=by
 haveI n:∀{k},d<256->d=k->256<=k->a=b:=λh e g=>absurd (e▸h) (d_.mpr g);show a8 x (λx=>?_) λx=>?_
 .show a8 y (λy=>?_) λy=>?_
  .show GK.mp (x.2.trans y.2.symm)
  .show y.elim (λy=>n x.1 y.1 (by x_go)) λy=>n x.1 y.1 (by x_go)
 .show a8 x (λx=>?_) λx=>?_
  .show a8 y (λy=>?_) λy=>?_
   .show n y.1 x.1 (by x_go)
   .show y.elim (λy=>GK.mp (Sf (bY (x.2.symm.trans y.2)))) λy=>absurd (x.1.symm.trans y.1) (by x_go)
  .show a8 y (λy=>?_) λy=>?_
   .show n y.1 x.1 (by x_go)
   .show y.elim (λy=>absurd (x.1.symm.trans y.1) (by x_go)) λy=>x.2.trans y.2.symm
def ck.cat(k:ck u x a)(j:ck u y b):ck u ⟨x.n+y.n,x.x+y.x*1024^x.n⟩ (a++b):=by
 show x03 k λf d g=>x03 j λl K dF=>?_;show⟨by rw[wu,f,l],C.xx d K,λi c e=>?_⟩
 rw[FR]at e;split at e
 .rw[C.wS (by omega)];show g i c e
 .rw[C.wT d (by omega)];rw[f]at e;show dF _ c e
def ck.eu(h:ck u y b)(d:a+k<=y.n):ck u ⟨k,C.eu y.x a k⟩ (b.extract a (a+k)):=by
 have m:min (a+k) b.size - a=k:=by rw[td (h.1▸d),kG]
 show⟨s8.trans m,C.ZO y.x a k,λi c e=>?_⟩;rw[FM,m]at e;by_cases q:i<k
 .rw[if_pos q]at e;show(C.Xs (x:=y.x) (a:=a) (n:=k) (i:=i) q)▸h.2.2 _ c e
 .rw[if_neg q]at e;cases e
def ck.pQ(n:Nat):ck u ⟨n,0⟩ (jT n 0):=by
 show⟨wk,C.rr n,λi c e=> .inl ?_⟩;rw[PC]at e;split at e
 .cases e;rw[C.j3,SS];show⟨by x_go,rfl⟩
 .cases e
def ck.nil:ck u ⟨0,0⟩ #[]:= .pQ 0
def ck.EH{a:Array UInt8}{c:UInt8}(h:ck u ⟨1,x⟩ a)(f:a[0]? =U c):ck u ⟨k,x*((1024^k - 1)/1023)⟩ (jT k c):=by
 show x03 h λl j g=>?_;haveI d:x<1024:=(ts 1024)▸j;rw[C.Xt];show⟨wk,C.JD d k,λi a_ e=>?_⟩;rw[PC]at e;split at e
 .cases e;rename_i q;rw[C.IL d k i q];haveI:=g 0 c f;rw[C.j3,nR,nS,o1 d]at this;show this
 .cases e
def ck.get(h:ck u y a)(c:i<y.n):∃b,a[i]? =U b/\kA u (C.dc y.x i) b:=haveI e:a[i]? =U (a[i]'(h.1.symm▸c)):=Py _
 ⟨_,e,h.2.2 i _ e⟩
def ck.ext(d:ck u y a)(c:ck u y b):a=b:=by
 show Array.ext_getElem? λi=>?_;by_cases q:i<y.n
 .show x12 (d.get q) λp f gz=>x12 (c.get q) λp' E ei=>?_;rw[f,E,gz.fn ei]
 .rw[PQ (by rw[d.1];omega),PQ (by rw[c.1];omega)]
def rs(h:dK u v a)(e:f8 v u.bJ=U y):ck u y a:=by
 cases v with
 |aZ j=>cases e;show h
 |ev l=>show x12 h λj q r=>?_;show bY (q.symm.trans e)▸r
 |_=>cases e
def dK.nd(e:f8 v u.bJ=U y)(h:ck u y a):dK u v a:=by
 cases v with
 |aZ j=>cases e;show h
 |ev l=>show⟨y,e,h⟩
 |_=>cases e
def ob(h:az u ah v x)(e:f8 v u.bJ=U y):oJ (ck u y) x:=by
 cases v with
 |aZ j=>cases e;show h
 |ev l=>obtain⟨a,t,q,r⟩:=h;show⟨a,t,q,rs r e⟩
 |_=>cases e
def az.rX(h:dK u v a):az u ah v (.bytes a t):=by cases v<;>first |show⟨a,t,rfl,h⟩ |show h.elim
def az.nd(e:f8 v u.bJ=U y)(h:ck u y a):az u ah v (.bytes a t):= .rX (.nd e h)
def BG(T:eQ u)(h:C.yp u.ao.lf v=U d)(j:az u ah v x):∃(b:UInt8) (t:Tok),x= .int b.toNat t/\kA u d b/\d<1024:=by
 cases v with
 |int i=>
  cases i with
  |negSucc n=>cases h
  |ofNat n=>show x02 (C.db h) λc f=>?_;obtain rfl:=bY f;show x11 j λt o=>?_;k_lt o;have g:=C.df c;have e:(kP n).toNat=n:=zT.trans (o1 g);show⟨kP n,t,by rw[e];rfl, .inl ⟨g,e⟩,by omega⟩
 |li l=>show x02 (C.db h) λc f=>?_;cases f;show x22 j λi t e o=>?_;k_lt o;obtain rfl:=JH c;show x11 (T.Og i e) λb o=>?_;k_lt o;show⟨b,t,rfl, .inr (.inl ⟨rfl,e⟩),by x_go⟩
 |_=>cases h
where JH:∀{l m:List Int},C.rM l m=ae->l=m
 | [], [],_=>rfl
 | [],_::_,h=>nomatch h
 |_::_, [],h=>nomatch h
 |a::l,b::m,h=>by
  have h:C.aA (C.cH a b) (C.rM l m) af=ae:=h;cases q:C.cH a b<;>rw[q]at h
  .cases h
  .rw[C.gQ q,JH h]
def JI(t:Tok)(h:C.p3 u.ao.lf d=U v)(c:kA u d b):az u ah v (.int b.toNat t):=by
 unfold C.p3 at h;cases q:bw d 256 with
 |true=>
  rw[q]at h;obtain rfl:=bY ((C.eX d λd=>U (V.int (kT d))).symm.trans h);haveI:=C.df q;rcases c with⟨J,e⟩ | ⟨e,_⟩ | ⟨e,_⟩
  .show⟨t,by rw[e];rfl⟩
  all_goals omega
 |false=>
  rw[q]at h;show x02 (C.db h) λg f=>?_;cases f;haveI:=C.bS g;rcases c with⟨q,e⟩ | ⟨_,e⟩ | ⟨e,_⟩
  .omega
  .show⟨_,t,e,rfl⟩
  .omega
end
section
section
variable{α:Type}{v:a3}{a:α}
def rk:C.b6 v k aa=U a->∃i,v= .int i/\k i=U a:=C.jv (P:=(·=U a->_)) (λi e h=>⟨i,e,h⟩) nofun
def JJ:C.eh v k aa=U a->∃n:Nat,v= .int n/\k n=U a:=C.CQ (P:=(·=U a->_)) (λi e h=>⟨i,e,h⟩) nofun
def tR:C.ga v k aa=U a->∃y,v= .aZ y/\k y=U a:=C.nc (P:=(·=U a->_)) (λi e h=>⟨i,e,h⟩) nofun
def H8:C.rJ v k aa=U a->v= .et/\k=U a:=C.xr (P:=(·=U a->_)) (λe h=>⟨e,h⟩) nofun
def HK:C.jr v k aa=U a->v= .none/\k=U a:=C.n2 (P:=(·=U a->_)) (λe h=>⟨e,h⟩) nofun
def AW:C.uL v k aa=U a->∃i,v= .str i/\k i=U a:=C.Xl (P:=(·=U a->_)) (λi e h=>⟨i,e,h⟩) nofun
def TK:C.CE v k aa=U a->∃i,v= .h9 i/\k i=U a:=C.Vv (P:=(·=U a->_)) (λi e h=>⟨i,e,h⟩) nofun
def Uq:C.Dg v k aa=U a->∃m r,v= .res m r/\k m r=U a:=C.Xk (P:=(·=U a->_)) (λi j e h=>⟨i,j,e,h⟩) nofun
end
section
def bg.alloc(R:Rel u c Y L s)(F:Fr u.H c.env.locals s.heap m)(f:Fr u.H c.env.locals ag m)
 (n:u_ u.H c.env.locals ag ((s.heap.objs.size,b7)::restOf u.H c.env.locals s.heap))
 (g:dk u (Y.ah++ [(s.heap.objs.size,s.heap.objs.size)]) (ic Y.own s.heap.objs.size L.nx) ag L.nx (s.heap.objs.size,s.heap.objs.size) a4):
 bg u c Y (L.alloc a4 .ok) (.ref s.heap.objs.size) {s with heap:=ag,toks:=tk}:=by
 rw[C.gE];show⟨⟨_,_⟩,⟨eS _ _,R.adH rfl (xg F f n λb o J d=>cA _ d) (n _ cF).1 g⟩,R.n4⟩
def bI.up(h:bI (az u ah) l ws):bI (az u (ah++ [p])) l ws:=h.bR λJ J=>az.bR (eS _ _)
def bg.newList(R:Rel u c Y L s)(F:Fr u.H c.env.locals s.heap m)(f:Fr u.H c.env.locals ag m)
 (d:u_ u.H c.env.locals ag ((s.heap.objs.size,⟨.type "list",aa, .seq ws n,#[]⟩)::restOf u.H c.env.locals s.heap))(g:bI (az u Y.ah) l ws.toList)(hz:l.length<=5000):
 bg u c Y (L.alloc (.list l) .ok) (.ref s.heap.objs.size) {s with heap:=ag,toks:=tk}:=bg.alloc R F f d ⟨ws,n,⟨gO,(d _ cF).1⟩,g.up,hz⟩
def Ur(a:aj):∀(k:Nat) (A:Array aj),(kL k #[a]).foldl (λx y=>x++y) A=A++(kL k a).toArray:=by
 intro X;cases X with
 |zero=>intro A;show(Qu).symm
 |succ k i=>intro A;rw[Qm,Rg,i,Qm];show qW (by simp)
def Rel.num(R:Rel u c Y L s){o:hp}{a b v:a3}{x y:aj}(h:jA u.ao.F o a b=U v)(f:az u Y.ah a x)(d:az u Y.ah b y):aQ u.M A (pi o x y) (bg u c Y (.ok v L)) E s:=by show x54 (JG R.st h f d) λi j r t aU g O e q=>?_;k_lt g;k_lt O;show wM e λt tk=>bg.here (R.toks tk) (.ux q)
def Xz(T:eQ u)(h:C.Dh u.ao.F a b=U v)(f:dK u a x)(l:dK u b y):dK u v (x++y)/\x.size+y.size<=16777216:=by show x12 (pO h T.len (C.xf u.bJ)) λr e q=>x23 (xz e) λi j d g E=>?_;show x02 (C.db E) λc E=>?_;haveI c:i.n+j.n<5000:=C.df c;haveI K:=rs f d;haveI k:=rs l g;cases(C.pK _ _).symm.trans E;show⟨.nd q (K.cat k),by rw[K.1,k.1];lia⟩
def Rel.add(R:Rel u c Y L s)(h:C.yn u.ao.F a b=U v)(g:az u Y.ah a x)(f:az u Y.ah b y):aQ u.M A (pi .Add x y) (bg u c Y (.ok v L)) E s:=by
 show a8 (C.lQ h) (λh=>?_) λh=>?_
 .show R.num h g f
 show a8 (C.lQ h) (λh=>?_) λh=>?_
 .show x12 (pO h R.st.len (C.xf u.bJ)) λr e q=>x23 (xz e) λi j z B l=>?_;show x02 (C.db l) λd l=>?_;haveI d:i.n+j.n<5000:=C.df d;cases(C.pK _ _).symm.trans l;obtain⟨au,t,rfl,K⟩:=ob g z;obtain⟨ak,aU,rfl,p⟩:=ob f B;show KBy.add_bytes (by rw[K.1,p.1];lia) λaU k=>bg.here (R.toks k) (.nd q (K.cat p))
 show a8 (C.lQ h) (λh=>?_) λh=>?_
 .show x02 (H8 h) λo h=>?_;w_pre o;show x12 (rk h) λj o h=>?_;k_lt o;cases h;show x21 g λi t o=>?_;k_lt o;show x11 f λaU o=>?_;k_lt o;show wM (C.oo _) λt tk=>bg.here (v:= .et) (R.toks tk) ⟨_,t,rfl⟩
 .show x12 (AW h) λk o h=>?_;k_lt o;show x02 (C.db h) λw h=>x12 (TK h) λm o h=>?_;k_lt o;show x02 (C.db h) λd h=>?_;haveI d:=C.df d;cases(C.eX (fN 200 m) λn=>U (V.h9 n)).symm.trans h;show x11 g λt o=>?_;k_lt o;show x22 f λx aU o ai=>?_;k_lt o;haveI D:=R.st.LW k (C.df w);haveI ac:(ms k++x).length=(ms k).length+x.length:=Str.length_append ..;show ah6 (λt tk=>bg.here (v:= .h9 (200+m)) (R.toks tk) ⟨_,t,rfl,by lia⟩) ?_
  rw[ez];lia
def Rel.mul(R:Rel u c Y L s)(h:C.ym u.ao.F a b=U v)(m:az u Y.ah a x)(j:az u Y.ah b y):aQ u.M A (pi .Mult x y) (bg u c Y (.ok v L)) E s:=by
 show x12 (pO h R.st.len λh=>by rw[C.pa (C.mY h).1 0 u.bJ,C.w5 (C.mY h).2 0 u.bJ]) λr e q=>x12 (C.eV e) λy f e=>?_
 show x12 (C.eV e) λi g e=>?_;cases i with
 |negSucc _=>cases e
 |ofNat k=>
  show x02 (C.db e) λl e=>x02 (C.db e) λd e=>?_;cases(C.pK _ _).symm.trans e;haveI d:=C.df d;obtain⟨n,z⟩:=y;obtain rfl:n=1:=C.bS l;obtain⟨au,t,rfl,K⟩:=ob m f;show x11 (lU j g) λaU O=>?_;k_lt O;show x11 (zL.mp (eo.trans K.1)) λb o=>?_;obtain rfl:au= [b].toArray:=by rw[<-o,zP]
  show bytes_mul_any (n:=(k:Int)) (by simp) (by omega) (by omega) (by simp) λaU tk=>?_
  haveI e:((kL ((k:Int)).toNat [b]).flatten).toArray=jT k b:=by rw[gN];show qW (by rw[Array.toList_replicate];show List.flatten_replicate_singleton)
  rw[e];show bg.here (R.toks tk) (.nd q (K.EH rfl))
def Rel.res(R:Rel u c Y L s)(h:C.Di o a b=U v)(d7:az u Y.ah a x)(cD:az u Y.ah b y):aQ u.M A (pi o x y) (bg u c Y (.ok v L)) E s:=by
 show x22 (Uq h) λm r cv h=>?_;k_lt cv;show x12 (JJ h) λn cv h=>?_;w_pre cv;show x02 (C.db h) λh0 h=>x02 (C.db h) λkx h=>?_;show x02 (C.db h) λhd h=>?_;haveI h0:0<n:=C.df h0;haveI hd:m % n=0:=C.bS hd;obtain⟨hm,k,t,rfl,g6⟩:=d7;show x11 cD λaU cv=>?_;k_lt cv;cases o with
 |Mod=>
  cases(C.eX (eJ r n) λz=>U (V.int (.ofNat z))).symm.trans h;haveI e:qg .Mod (k:Int) (n:Int)=U ((k % n:Nat):Int):=by change C.cx (bw 0 n) (C.jf (k % n))=_;rw[fD.mpr h0];show C.nb _
  show wM e λt tk=>bg.here (v:= .int _) (R.toks tk) ⟨t,?_⟩;change n0 ((k % n:Nat):Int) t= .int ((r % n:Nat):Int) t;rw[<-g6,Nat.mod_mod_of_dvd _ (FN hd)]
 |FloorDiv=>
  haveI h:=(C.eX (ef m n) λp=>C.du (ef r n) λq=>U (V.res p q)).symm.trans h;cases(C.eX (ef r n) λq=>U (V.res (ef m n) q)).symm.trans h;haveI e:qg .FloorDiv (k:Int) (n:Int)=U ((k/n:Nat):Int):=by change C.cx (bw 0 n) (C.cx (bw n 5000) (C.jf (k/n)))=_;rw[fD.mpr h0,kx];show C.nb _
  show wM e λt tk=>bg.here (v:= .res _ _) (R.toks tk) ⟨Nat.div_pos (Nat.le_of_dvd hm (FN hd)) h0,_,t,rfl,?_⟩;show x11 (FN hd) λq cv=>?_;k_lt cv;change k/n % (n*q/n)=r/n;rw[FI _ h0,<-g6,Pu]
 |_=>cases h
def VA(R:Rel u c Y L s){o:hp}{a b:a3}{x y:aj}(d7:az u Y.ah a x)(cD:az u Y.ah b y):ai u c A (ci u c) Y (pi o x y) s (C.m8 u.ao.F o a b L):=by
 have num:∀{o},ai u c A (ci u c) Y (pi o x y) s (C.oA u.ao.F o a b L):= .c1 λv h=> .any (R.num h d7 cD);have res:∀{o},ai u c A (ci u c) Y (pi o x y) s (C.Dj u.ao.F o a b L):= .c1 λv h=> .any ((C.lQ h).elim (λh=>R.num h d7 cD) λh=>R.res h d7 cD);cases o with
 |Add=>
  show .bE (λi e=> .bE (λj gi=> .cJ (λl lC=> .cJ λm iL=>?_))) (.c1 λv h=> .any (R.add h d7 cD));subst e gi;obtain⟨p,iH,rfl⟩:=d7;obtain⟨p',EI,rfl⟩:=cD;obtain⟨ws,n,g,r,z⟩:=R.at iH lC;obtain⟨Op,dM,gj,Fi,agH⟩:=R.at EI iL;show x13 R.fr λzw F N fr=> .dA λbb=> .any (add_arrays (its:=ws) (its2:=Op) F N ⟨_,g.g,rfl,_,rfl⟩ ⟨_,gj.g,rfl,_,rfl⟩ (λag Fj sr=>bg.newList R F Fj sr ?_ ?_) ?_)
  .rw[C.mX,wo];show r.append Fi
  .rw[C.eA]at bb;show fk bb
  .have:ws.toList.length<=5000:=r.length▸z;have:Op.toList.length<=5000:=Fi.length▸agH;rw[eo]at*;rw[ez];lia
 |Mult=>
  show .bE (λi e=> .eh λk gi=> .cJ λl q=>?_) (.c1 λv h=> .any ((C.lQ h).elim (λh=>R.num h d7 cD) λh=>R.mul h d7 cD));subst e gi
  match l,q with
  | [],_=>show .stuck
  |_::_::_,_=>show .stuck
  | [v],q=>
   obtain⟨p,iH,rfl⟩:=d7;show x11 cD λaU cv=>?_;k_lt cv;obtain⟨ws,n,g,r,z⟩:=R.at iH q;show x13 R.fr λzw F N fr=>?_;show x12 (by generalize ws.toList=l at r;cases(r)with |cons h t=>cases t;show⟨_,rfl,h⟩:∃x,ws.toList= [x]/\az u Y.ah v x) λx en afe=>?_
   obtain rfl:ws=#[x]:=by rw[<-zP (xs:=ws),en]
   show .dA λbb=> .any (mul_list (x:=(k:Int)) F N g.g (jW (by x_go) (iP k)) (Int.lt_trans (tn.mpr bb) (by x_go)) (by rw[gN];change 1*k<=_;lia) λag Fj sr=>bg.newList R F Fj sr ?_ ?_)
   .rw[C.BD];rw[Ur,gN,F_];show .replicate afe k
   .rw[C.BD,PW];lia
 |MatMult=>show .stuck
 |Div=>show .stuck
 |Mod=>show res
 |FloorDiv=>show res
 |_=>show num
end
end
section
open PySem.SeqAt
def lb(A:b2)(s:ax)(x y:aj)(r:Bool):Prop:=EqAt A s x y r/\RcAt A s x y r/\RcNeAt A s x y (!r)
section
variable{c:aV}{s:ax}{A:b2}{E:aj->ax->Prop}
def EqAt.abZ(h:RcAt A s x y r)(am:x=y->r=ae)(en:∀b t,x≠ .float b t):EqAt A s x y r:=λprog w E Q lq=>by
 show jn (Rh (λEJ=>?_) (λJ=>?_))
 .rw[am (eq_of_beq EJ)]at lq;show aw (iU (aY lq))
 .haveI key:aQ (aN prog w) A (truthOfDropped=<<richCompare .Eq x y) Q E s:=aw (h prog w E _ (zY lq));cases x with
  |float b t=>show absurd rfl (en b t)
  |_=>show key
def lb.int:lb A s (.int i t) (.int j aU) (decide (i=j)):=by
 show⟨?_,λprog w E Q h=>?_,λprog w E Q h=>?_⟩
 .haveI:=(ah7 i j t aU).at A s;rwa [show(i==j)=decide (i=j)from rfl]at this
 .show P.eq_int h
 .show P.ne_int ?_;rw[show(i !=j)= !decide (i=j)from rfl];show h
def lb.bytes:lb A s (.bytes a t) (.bytes b aU) (decide (a=b)):=by
 have e:(a.toList==b.toList)=decide (a=b):=by rw[GL,beq_iff_eq,decide_eq_true_eq];show⟨λh=>QY.mp h,λh=>h▸rfl⟩
 have r:RcAt A s (.bytes a t) (.bytes b aU) (decide (a=b)):=λprog w E Q h=>by show eq_bytes ?_;rw[e];show h
 show⟨EqAt.abZ r (λq=>by cases q;show decide_eq_true rfl) (λJ J q=>nomatch q),r,λprog w E Q h=>?_⟩
 show ne_bytes ?_;change Q (.bool (!(a.toList==b.toList))) s;rw[e];show h
def lb.str:lb A s (.str a t) (.str b aU) (decide (a=b)):=by
 have e:(a==b)=decide (a=b):=by rw[GL,beq_iff_eq,decide_eq_true_eq]
 show⟨?_,λprog w E Q h=>?_,λprog w E Q h=>?_⟩
 .have:=(eqGives_str a b t aU).at A s;rwa [e]at this
 .show ah_ ?_;rw[e];show h
 .show aia ?_;change Q (.bool (!(a==b))) s;rw[e];show h
def xA(x i:Nat):C.dc (ef x 1024) i=C.dc x (i+1):=by haveI:=C.xw x 1 i;rw[ts,jV]at this;show this
def XA:∀(n:Nat) {x y:Nat} {r:Bool},C.yo n x y=U r->r=af/\∃i,i<n/\C.dc x i≠C.dc y i/\C.dc x i<256/\C.dc y i<256:=by
 intro X;cases X with
 |zero=>intro x y r h;show nomatch h
 |succ n I=>
  intro x y r h;have sC:∀x,C.dc x 0=eJ x 1024:=λx=>by rw[C.j3,nR,nS];rfl
  have h:C.aA (C.aA (aK (eJ x 1024) (eJ y 1024)) af (C.aA (bw (eJ x 1024) 256) (bw (eJ y 1024) 256) af)) (U af) (C.yo n (ef x 1024) (ef y 1024))=U r:=h;have nx:C.yo n (ef x 1024) (ef y 1024)=U r->r=af/\∃i,i<n+1/\C.dc x i≠C.dc y i/\C.dc x i<256/\C.dc y i<256:=λh=>by obtain⟨a,i,b,c⟩:=I h;rw[xA,xA]at c;show⟨a,i+1,z4 b,c⟩
  cases Q:aK (eJ x 1024) (eJ y 1024)<;>rw[Q]at h
  .cases f:bw (eJ x 1024) 256<;>rw[f]at h
   .show nx h
   .cases d:bw (eJ y 1024) 256<;>rw[d]at h
    .show nx h
    .cases h;show⟨rfl,0,wO _,?_⟩;rw[sC,sC];show⟨C.j7 Q,C.df f,C.df d⟩
  .show nx h
noncomputable def vw:aj->aj->Bool
 | .int i _, .int j _=>decide (i=j)
 | .str a _, .str b _=>decide (a=b)
 | .bytes a _, .bytes b _=>decide (a=b)
 |_,_=>af
def ZQ{x y:dE}{a b:Array UInt8}{r:Bool}(h:C.D9 x y=U r)(f:ck u x a)(d:ck u y b):r=decide (a=b):=by
 obtain⟨n,x⟩:=x;obtain⟨m,y⟩:=y;unfold C.D9 at h;cases Q:aK n m with
 |false=>rw[Q]at h;cases h;show(decide_eq_false λe=>C.j7 Q (f.1.symm.trans ((congrArg _ e).trans d.1))).symm
 |true=>
  rw[Q]at h;obtain rfl:=C.bS Q;cases c:aK x y with
  |true=>rw[c]at h;cases h;obtain rfl:=C.bS c;show(decide_eq_true (f.ext d)).symm
  |false=>
   rw[c]at h;obtain⟨rfl,i,g,j,bQ,cn⟩:=XA n h;show(decide_eq_false λe=>?_).symm;k_lt e;show x12 (f.get g) λb E gz=>?_;haveI ei:=d.2.2 i _ E;rcases gz with⟨J,gz⟩ | ⟨gz,_⟩ | ⟨gz,_⟩
   .rcases ei with⟨J,ei⟩ | ⟨ei,_⟩ | ⟨ei,_⟩
    .show j (gz.symm.trans ei)
    all_goals (dsimp only at*;lia)
   all_goals (dsimp only at*;lia)
def JK(T:eQ u)(h:C.nr u.ao.F a b=U r)(d:az u ah a x)(l:az u ah b y):r=vw x y/\lb A s x y r:=by
 show a8 (C.lQ h) (λh=>?_) λh=>?_
 .show x23 (xy (C.BE h T.len (C.xe u.bJ))) λi j E f k=>x11 (lU d E) λt o=>?_;k_lt o;show x11 (lU l f) λaU o=>?_;k_lt o;cases k;rw[C.KJ];show⟨rfl,lb.int⟩
 show a8 (C.lQ h) (λh=>?_) λh=>?_
 .show x23 (xz (C.BE h T.len (C.xf u.bJ))) λi j E f k=>?_;obtain⟨a,t,rfl,c⟩:=ob d E;obtain⟨b,aU,rfl,g⟩:=ob l f;rw[ZQ k c g];show⟨rfl,lb.bytes⟩
 .show x12 (AW h) λi o c=>?_;k_lt o;show x12 (AW c) λj o g=>?_;k_lt o;show x11 d λt o=>?_;k_lt o;show x11 l λaU o=>?_;k_lt o;cases g;haveI:aK i j=decide (ms i=ms j):=by
   cases q:aK i j with
   |true=>show(decide_eq_true (congrArg ms (C.bS q))).symm
   |false=>show(decide_eq_false λe=>C.j7 q (T.LV _ _ e)).symm
  rw[this];show⟨rfl,lb.str⟩
def Us(h:C.MX a b=U r):∃x y,a=U x/\b=U y/\r=(x&&y):=by show x12 (C.eV h) λx f d=>x12 (C.eV d) λy E c=>?_;show⟨x,y,f,E,by cases x<;>show(bY c).symm⟩
def ZR(f:∀a b x y r,q a b=U r->az u ah a x->az u ah b y->EqAt A s x y r):
 ∀{l m:List a3} {ws vs:List aj} {r:Bool},C.yU q l m=U r->bI (az u ah) l ws->bI (az u ah) m vs->
  ws.length=vs.length/\∃es:List Bool,es.length=ws.length/\r=es.all id/\∀(j:Nat) x y b,ws[j]? =U x->vs[j]? =U y->es[j]? =U b->EqAt A s x y b:=by
 intro l m ws vs r h T t;induction T generalizing m vs r with
 |nil=>cases t with
  |nil=>cases h;show⟨rfl, [],rfl,rfl,λj x y b h=>nomatch h⟩
  |cons _ _=>cases h
 |cons n B i=>cases t with
  |nil=>cases h
  |cons g bc=>
   show x23 (Us h) λx y E d O=>?_;k_lt O;obtain⟨k,es,z,p,o⟩:=i d bc;show⟨congrArg da k,x::es,congrArg da z,p▸rfl,λj v w c bh bz c0=>?_⟩;cases j with
   |zero=>cases bh;cases bz;cases c0;show f _ _ _ _ _ E n g
   |succ j=>show o j v w c bh bz c0
def H9(es:List Bool):(eT es.length).all (λj=>es.getD j ae)=es.all id:=by
 rw[GL,jS,jS];constructor
 .intro h b f;obtain⟨j,c,e⟩:=List.getElem_of_mem f;haveI:=h j (nP.mpr c);rw[sT,jP c]at this;rw[<-e];show this
 .intro h j c;haveI d:=nP.mp c;rw[sT,jP d];show h _ (Gv d)
def KO(R:Rel u c Y L s):∀(f:Nat) (A:b2) {a b:a3} {x y:aj} {r:Bool},A.units+2*f<pY->C.vf u.ao.F L.h f a b=U r->az u Y.ah a x->az u Y.ah b y->lb A s x y r:=by
 intro f;cases f with
 |zero=>showλA a b x y r J h=>nomatch h
 |succ f q=>
  intro A a b x y r N h X S;revert h;show C.e9 (P:=(·=U r->_)) (λi k=>C.e9 (P:=(·=U r->_)) (λj F h=>?_) nofun) λh=>(JK R.st h X S).2
  subst k F;have g:A.units<pY:=by lia
  have H:∀a b x y r,C.vf u.ao.F L.h f a b=U r->az u Y.ah a x->az u Y.ah b y->EqAt A.in1 s x y r:=λa b x y r e w B=>(q A.in1 (by change A.units+1+2*f<pY;lia) e w B).1
  obtain⟨p,aI,rfl⟩:=X;obtain⟨p',I,rfl⟩:=S;show x02 (C.db h) λz h=>?_;have z:i≠j:=λe=>by rw[e,C.n1]at z;cases z
  have ai:∀{o a4},e4 Y.own s.heap i p.1 o->e4 Y.own s.heap j p'.1 a4->p.1≠p'.1:=λg1 g2 e=>z (bY (g1.w.symm.trans ((congrArg _ e).trans g2.w)));have seq:∀{l m:List a3} {ws vs:Array aj},bI (az u Y.ah) l ws.toList->bI (az u Y.ah) m vs.toList->
   C.yU (C.vf u.ao.F L.h f) l m=U r->ws.size=vs.size/\∃es:List Bool,es.length=ws.size/\r=es.all id/\∀j (w:j<ws.size) (B:j<vs.size),EqAt A.in1 s ws[j] vs[j] (es.getD j ae):=by
   intro l m ws vs t T h;obtain⟨D,es,E,rfl,aq⟩:=ZR H h t T;have D:ws.size=vs.size:=eo.symm.trans (D.trans eo);have E:es.length=ws.size:=E.trans eo;show⟨D,es,E,rfl,λj w B=>aq j _ _ _ (by simp[w]) (by simp[B]) ?_⟩
   rw[sT,jP (E.symm▸w)];rfl
  revert h;show C.ri (P:=(·=U r->_)) (λl Q=>C.ri (P:=(·=U r->_)) (λm ac h=>?_) nofun) (C.j0 (P:=(·=U r->_)) (λl Q=>C.j0 (P:=(·=U r->_)) (λm ac=>C.l3 (P:=(·=U r->_)) (λM h=>?_) λM h=>?_) nofun) nofun)
  .obtain⟨ws,O,g1,t,K⟩:=R.at aI Q;obtain⟨vs,W,g2,T,V⟩:=R.at I ac;obtain⟨hsz,es,E,rfl,n⟩:=seq t T h;have k:((eT (min ws.size vs.size)).all (λj=>es.getD j ae)&&ws.size==vs.size)=es.all id:=by rw[hsz,Hl,beq_self_eq_true,Bool.and_true,<-H9,E,hsz]
   have d:=RcAt.tuples ⟨_,g1.g,rfl,_,rfl⟩ ⟨_,g2.g,rfl,_,rfl⟩ g n;have v:=RcNeAt.tuples ⟨_,g1.g,rfl,_,rfl⟩ ⟨_,g2.g,rfl,_,rfl⟩ g n;rw[k]at d v;show⟨Ax (ai g1 g2) d,d,v⟩
  .obtain⟨ws,O,g1,t,K⟩:=R.at aI Q;obtain⟨vs,W,g2,T,V⟩:=R.at I ac;obtain⟨hsz,es,E,rfl,n⟩:=seq t T h;have k:(eT ws.size).all (λj=>es.getD j ae)=es.all id:=by rw[<-H9,E]
   have d:=Uf ⟨_,g1.g,rfl,_,rfl⟩ ⟨_,g2.g,rfl,_,rfl⟩ hsz g n;have v:=RcNeAt.lists ⟨_,g1.g,rfl,_,rfl⟩ ⟨_,g2.g,rfl,_,rfl⟩ hsz g n;rw[k]at d v;show⟨Ax (ai g1 g2) d,d,v⟩
  .cases h;obtain⟨ws,O,g1,t,K⟩:=R.at aI Q;obtain⟨vs,W,g2,T,V⟩:=R.at I ac;have hsz:(ws.size !=vs.size)=ae:=by have:=C.j7 M;rw[C.eA,C.eA,t.length,T.length,eo,eo]at this;rw[bne_iff_ne];show this
   have d:=Qv ⟨_,g1.g,rfl,_,rfl⟩ ⟨_,g2.g,rfl,_,rfl⟩ hsz g;show⟨Ax (ai g1 g2) d,d,RcNeAt.lists_lengths ⟨_,g1.g,rfl,_,rfl⟩ ⟨_,g2.g,rfl,_,rfl⟩ hsz g⟩
def VB(h:C.D_ a b=U r):∃x y,a=U x/\b=U y/\r=(x || y):=by show x12 (C.eV h) λx f d=>x12 (C.eV d) λy E c=>?_;show⟨x,y,f,E,by cases x<;>show(bY c).symm⟩
def Ut(T:eQ u)(k:az u ah v x)(h:C.pt (C.nr u.ao.F) v l=U r)(t:bI (az u ah) l ws):
 r=ws.any (λy=>vw y x)/\∀y∈ws,EqAt A s y x (vw y x):=by
 induction t generalizing r with
 |nil=>cases h;show⟨rfl,λy c=>nomatch c⟩
 |cons f n I=>
  show x23 (VB h) λp q E i o=>?_;k_lt o;show x02 (JK (A:=A) (s:=s) T E f k) λd m=>x02 (I i) λj g=>?_;show⟨by rw[Ao,<-d,<-j],λy c=>?_⟩
  show a8 (bX.mp c) (λO=>?_) λc=>?_
  .w_pre O;rw[<-d];show m.1
  .show g y c
def mZ(R:Rel u c Y L s)(d:Y.own a=U i):(a==qV)=af:=by show x11 R.st.yI λo e=>beq_eq_false_iff_ne.mpr λq=>?_;haveI:=(R.frozen _ _ (R.base _ _ e)).2;rw[<-q,d]at this;cases this
def XB:∀(n:Nat) {x k:Nat} {r:Bool} {l:List UInt8},k<256->C.Dk n x k=U r->l.length=n->(∀(i:Nat) b,l[i]? =U b->kA u (C.dc x i) b)->r=l.contains k.toUInt8:=by
 intro X;cases X with
 |zero=>intro x k r l J h d J;cases h;rw[qF.mp d];rfl
 |succ n I=>
  intro x k r y g h d j;cases(y)with
  |nil=>show nomatch d
  |cons c l=>
   haveI sC:C.dc x 0=eJ x 1024:=by rw[C.j3,nR,nS];rfl
   haveI m:=j 0 c rfl;rw[sC]at m;haveI p:(k.toUInt8).toNat=k:=zT.trans (o1 g);show x02 (C.db (o:=C.aA (aK (eJ x 1024) k) (U ae) (C.Dk n (ef x 1024) k)) h) λs h=>?_;haveI t:=C.df s;rw[Qw];rcases m with⟨J,f⟩ | ⟨f,_⟩ | ⟨f,_⟩
   .cases Q:aK (eJ x 1024) k with
    |true=>rw[Q]at h;cases h;rw[show k.toUInt8=c from GK.mp (by rw[p,f];show(C.bS Q).symm),beq_self_eq_true];rfl
    |false=>
     rw[Q]at h;rw[show(k.toUInt8==c)=af from beq_eq_false_iff_ne.mpr λq=>C.j7 Q (by rw[<-f,<-q,p]),Bool.false_or]
     show I g h (da.inj d) λi b e=>xA x i▸j (i+1) b e
   all_goals (exfalso;lia)
def FX(b:Array UInt8)(t aU:Tok){k:Nat}(c:k<256):
 Meets (Builtin.«bytes.__contains__» ⟨[.bytes b t, .int k aU], []⟩) (λJ R s=>R (.ok (.ret (.bool (b.contains k.toUInt8)))) s):=by
 show .of_wp λprog w A R s eG=>?_;change aQ _ _ (ahQ "bytes.__contains__" (.bytes b t) (.int k aU)>>=_) _ _ s;show aw (aw (wI ?_));show dp (a:=(k:Int)) (by rfl) ?_
 rw[KBy.buffer_eq];show aw (aY ?_);dsimp only;rw[if_neg (by simp;omega)]
 show aY (aY ⟨_,rfl,?_⟩);show eG
def VC{b:Array UInt8}{t aU:Tok}{k:Nat}(c:k<256)(h:Q (.bool (b.contains k.toUInt8)) s):
 aQ (aN prog w) A (tC .In (.int k aU) (.bytes b t)) Q E s:=ahR (tp s b t) PR PJ (PD _ _) (FX b t aU c) ⟨_,rfl,h⟩
def S_{b:Array UInt8}{t aU:Tok}{k:Nat}(c:k<256)(h:Q (.bool (!b.contains k.toUInt8)) s):
 aQ (aN prog w) A (tC .NotIn (.int k aU) (.bytes b t)) Q E s:=ahI (tp s b t) PR PJ (PD _ _) (FX b t aU c) ⟨_,rfl,h⟩
def KP{a b:a3}{x y:aj}{r:Bool}(R:Rel u c Y L s)(g:az u Y.ah a x)(d:az u Y.ah b y)(h:C.Ea a b=U r){prog:eP}{w:b3}{Q:Bool->ax->Prop}(k:Q r s):
 aQ (aN prog w) A (isSame x y) Q E s:=by
 revert h;show C.e9 (P:=(·=U r->_)) (λi e=>C.e9 (P:=(·=U r->_)) (λj f h=>?_) (C.n2 (P:=(·=U r->_)) (λf h=>?_) nofun))
  (C.n2 (P:=(·=U r->_)) (λe=>C.e9 (P:=(·=U r->_)) (λj f h=>?_) (C.jv (P:=(·=U r->_)) (λj f h=>?_) (C.n2 (P:=(·=U r->_)) (λf h=>?_) nofun)))
   (C.jv (P:=(·=U r->_)) (λj e=>C.n2 (P:=(·=U r->_)) (λf h=>?_) nofun) nofun))
 all_goals subst e f
 .obtain⟨p,n,rfl⟩:=g;obtain⟨p',l,rfl⟩:=d;show x02 (C.db h) λm h=>?_;cases h;obtain rfl:=C.bS m;obtain rfl:=n.fn l;change aQ _ _ (if(p.1==p.1)=ae then pure ae else _) _ _ _
  rw[if_pos (beq_self_eq_true _)];show aY k
 .cases h;obtain⟨p,J,rfl⟩:=g;cases d;show aY k
 .cases h;obtain⟨p,J,rfl⟩:=d;cases g;show aY k
 .cases h;show x11 d λt o=>?_;k_lt o;cases g;show aY k
 .cases h;cases g;cases d;show aY k
 .cases h;show x11 g λt o=>?_;k_lt o;cases d;show aY k
def JL(R:Rel u c Y L s){a b:a3}{x y:aj}(aI:az u Y.ah a x)(S:az u Y.ah b y)(h:C.Dl u.ao.F L.h a b=U r):
 ((∀tk,Q (.bool r) {s with toks:=tk})->aQ u.M A (tC .In x y) Q E s)/\((∀tk,Q (.bool (!r)) {s with toks:=tk})->aQ u.M A (tC .NotIn x y) Q E s):=by
 revert h;show C.e9 (P:=(·=U r->_)) (λi e=>?_) λh=>?_
 .w_pre e;obtain⟨p,K,rfl⟩:=S;have ac:∀{l:List a3} {ws:Array aj},C.pt (C.nr u.ao.F) a l=U r->bI (az u Y.ah) l ws.toList->r=ws.any (λy=>vw y x)/\∀y,y∈ws->EqAt A.in1 s y x (vw y x):=λh t=>by show x02 (Ut (A:=A.in1) (s:=s) R.st aI h t) λI B=>⟨Array.any_toList▸I,λy X=>B y (F0.mpr X)⟩
  show C.j0 (P:=(·=U r->_)) (λl q h=>?_) (C.ri (P:=(·=U r->_)) (λl q h=>?_) (C.q6 (P:=(·=U r->_)) (λl q h=>?_) nofun))
  .obtain⟨ws,n,g,t,J⟩:=R.at K q;show x02 (ac h t) λe ac=>⟨λj=>in_listAt _ ⟨_,g.g,rfl,_,rfl⟩ ac (e▸j _),λj=>notIn_listAt _ ⟨_,g.g,rfl,_,rfl⟩ ac (e▸j _)⟩
  .obtain⟨ws,n,g,t,J⟩:=R.at K q;show x02 (ac h t) λe ac=>⟨λj=>in_tupleAt _ ⟨_,g.g,rfl,_,rfl⟩ ac (e▸j _),λj=>notIn_tupleAt _ ⟨_,g.g,rfl,_,rfl⟩ ac (e▸j _)⟩
  .obtain⟨f,o,d,m⟩:=R.at K q;show x12 (rk h) λk O B=>?_;w_pre O;show x11 aI λt O=>?_;k_lt O;have M:=qX u.prog u.w k t;have T:(f k).isSome=r:=by
    unfold C.MY at B;cases ai:l.get k with
    |none=>rw[ai]at B;cases B;rw[m.no ai];rfl
    |some v=>
     rw[ai]at B;revert B;show C.iX (P:=(·=U r->_)) (λJ J=>nofun) λW B=>x12 (m.at ai W) λw e J=>?_
     rw[e];show bY B
   show⟨λj=>wpAny_in_of M (mZ R o) d.mapOf (T▸j _),λj=>wpAny_notIn_of M (mZ R o) d.mapOf (T▸j _)⟩
 .show x12 (tR h) λz O I=>?_;k_lt O;show x12 (JJ I) λk O B=>?_;k_lt O;show x02 (C.db B) λD h=>?_;have D:=C.df D;obtain⟨av,t,rfl,V⟩:=S;show x11 aI λaU O=>?_;k_lt O;have e:r=av.contains k.toUInt8:=by rw[<-Array.contains_toList];show XB z.n D h (eo.trans V.1) λi b e=>V.2.2 i b (by rw[<-iO];show e)
  show⟨λj=>VC D (e▸j _),λj=>S_ D (e▸j _)⟩
def tA(h:C.p2 o=U r):o=U (!r):=by show x12 (C.mW h) λb O h=>?_;k_lt O;cases b<;>cases h<;>rfl
def xQ(T:eQ u){a b:a3}{x y:aj}{r:Bool}(f:az u ah a x)(c:az u ah b y)(h:C.ve u.ao.F a b=U r):∃i j t aU,x= .int i t/\y= .int j aU/\r=decide (i<j):=by
 show a8 (C.lQ h) (λh=>?_) λh=>?_
 .show x23 (xy (C.BE h T.len (C.xe u.bJ))) λi j E g p=>x11 (lU f E) λt o=>?_;k_lt o;show x11 (lU c g) λaU o=>?_;k_lt o;cases p;show⟨i,j,t,aU,rfl,rfl,C.xO i j⟩
 .revert h;show C.jv (P:=(·=U r->_)) (λi e=>C.ZH (P:=(·=U r->_)) (λm l h=>?_) nofun) nofun
  subst e l;show x02 (C.db h) λd n=>?_;cases n;show x11 f λt o=>?_;k_lt o;show x22 c λk aU s o=>?_;k_lt o;have d:(m:Int)<=i:=C.ZJ d;show⟨i,k,t,aU,rfl,rfl,(decide_eq_false (by omega)).symm⟩
def qT(R:Rel u c Y L s)(O3:A.units+200<pY)(d7:az u Y.ah a x)(cD:az u Y.ah b y)
 (h:C.compare u.ao.F o L.h a b=U r)(fK:∀tk,Q (.bool r) {s with toks:=tk}):aQ u.M A (tC o x y) Q E s:=by
 cases o with
 |Eq=>show(KO R 20 A (by lia) h d7 cD).2.1 _ _ _ _ (fK _)
 |NotEq=>show(KO R 20 A (by lia) (tA h) d7 cD).2.2 _ _ _ _ (by rw[wR];show fK _)
 |Lt=>show x43 (xQ R.st d7 cD h) λi j t aU cv hP vx=>?_;k_lt cv;k_lt hP;k_lt vx;show P.lt_int (fK _)
 |Gt=>show x43 (xQ R.st cD d7 h) λi j t aU cv hP vx=>?_;k_lt cv;k_lt hP;k_lt vx;show P.gt_int (fK _)
 |LtE=>
  show x43 (xQ R.st cD d7 (tA h)) λi j t aU cv hP e=>?_;k_lt cv;k_lt hP;show P.le_int ?_;rw[show decide (j<=i)=r by rw[<-wR r,e,<-decide_not,decide_eq_decide];lia]
  show fK _
 |GtE=>
  show x43 (xQ R.st d7 cD (tA h)) λi j t aU cv hP e=>?_;k_lt cv;k_lt hP;show P.ge_int ?_;rw[show decide (i>=j)=r by rw[<-wR r,e,<-decide_not,decide_eq_decide];lia]
  show fK _
 |Is=>show aw (KP R d7 cD h (aY (fK _)))
 |IsNot=>show aw (KP R d7 cD (tA h) (aY (by rw[wR];show fK _)))
 |In=>show(JL R d7 cD h).1 fK
 |NotIn=>show(JL R d7 cD (tA h)).2 λtk=>by rw[wR];show fK tk
end
end
section
open PySem.SeqAt
variable{c:aV}{s:ax}{A:b2}{E:aj->ax->Prop}{n:Nat}{bA:Type}{P:gR bA}
def az.Cc:∀{b:Bool},az u ah (C.gb b) (.bool b)
 |true=>rfl
 |false=>rfl
def VD(R:Rel u c Y L s)(d:az u Y.ah v w):ai u c A (sJ u c) Y (xY w) s (C.dS v (.ok v L) (.ok v L) (.stuck 0)):=.dS (λe=>by k_lt e;cases d;show .any (zY ⟨⟨Y,R.ff⟩,rfl⟩)) λe=>by k_lt e;cases d;show .any (zY ⟨⟨Y,R.ff⟩,rfl⟩)
def XC(h:b4 u sc n call e f)(g:∀env,m5 e env (b5 e env)=(do let v<-b5 e env;fO e.pos;fo [v] (xY v))):gJ u sc n call e f:=λc Y L s A R ac=>by rw[g];show .dD (h c Y L s A R ac) λv w k j i S d=> .dm (.gS (VD S.R d))
def XD(h:b4 u sc n call x f):b4 u sc n call (.UnaryOp .Not x p) (C.jB f):=λc Y L s A R ac=>
 .dD (h c Y L s A R ac) λv w i j g S d=> .dm (.gS (.dS (λe=>by k_lt e;cases d;showλJ=>aF (mH (bL (bg.here (v:= .aM) S.R rfl))))
  λe=>by k_lt e;cases d;showλJ=>aF (mH (bL (bg.here (v:= .tt) S.R rfl)))))
def VE(h:gJ u sc n call x f):gJ u sc n call (.UnaryOp .Not x p) (C.jB f):=λc Y L s A R ac=>by
 haveI e:fU (C.jB f [] call L)=(f [] call L).bind λv L=>C.dS v (.ok .aM L) (.ok .tt L) (.stuck 84):=by unfold fU C.jB;rw[mP];congr 1;funext v L;rw[JE];rfl
 rw[e];show .x_ (F:=λb=>pure !b) (h c Y L s A R ac) λb d i g S=>by cases b<;>show .pure ⟨⟨d,S.R.ff⟩,rfl⟩
def XE(h:b4 u sc n call x f):b4 u sc n call (.UnaryOp .USub x p) (C.Dq f):=λc Y L s A R ac=>.dD (h c Y L s A R ac) λv w j k g S d=> .dm (.gS (.b6 λi e=>by k_lt e;show x11 d λt o=>?_;k_lt o;rw[C.pJ];show .any (PySem.P.neg_int (bg.here (v:= .int _) (S.R.toks _) ⟨_,rfl⟩))))
def XF(h:b4 u sc n call a f)(ag:b4 u sc n call b g):b4 u sc n call (.BinOp a o b p) (C.k5 u.ao o f g):=λc Y L s A R ac=>.dD (h c Y L s A R ac) λv w k l j S i=> .dD (.gS (ag c k l j A S.R ac)) λV W bp bn a5 d m=> .dm (.operate (VA d.R (i.bR d.le) m))
def XG(t:qQ o b=af)(h:b4 u sc n call a f)(ag:b4 u sc n call b g):b4 u sc n call (.Compare a [o] [b] p) (C.i2 u.ao o f g):=λc Y L s A R ac=>by
 change ai _ _ _ _ _ (b5 a c.env>>=λl=>compareChain p l [o] (hE [o] [b] [b5 b c.env])) _ _;rw[show hE [o] [b] [b5 b c.env]= [b5 b c.env] by simp only[hE,sV t]]
 show .dD (h c Y L s A R ac) λv w j k i S m=> .dD (.gS (ag c j k i A S.R ac)) λV W bp bn a5 d x=> .dm (.operate (.a7 λr q=>.any (qT d.R ac.cl (m.bR d.le) x q λtk=>bg.here (d.R.toks tk) .Cc)))
def CS:fU (C.a7 o w λb=> .ok (C.gb b) L)=C.a7 o w λb=> .ok (C.gb b) L:=by cases o with
 |none=>rfl
 |some b=>cases b<;>rfl
def IP(y:qQ o b=af)(h:b4 u sc n call a f)(ag:b4 u sc n call b g):gJ u sc n call (.Compare a [o] [b] p) (C.i2 u.ao o f g):=λc Y L s A R ac=>by
 change ai _ _ _ _ _ (b5 a c.env>>=λl=>testChain p l [o] (hE [o] [b] [b5 b c.env])) _ _;rw[show hE [o] [b] [b5 b c.env]= [b5 b c.env] by simp only[hE,sV y]]
 unfold C.i2 fU;rw[mP];show .dD (h c Y L s A R ac) λv w j k i S t=>?_;rw[mP];show .dD (.gS (ag c j k i A S.R ac)) λV W bp bn a5 d z=> .dm ?_;rw[show∀r:bl,r.bind (λv L=>C.dS v (.ok v L) (.ok v L) (.stuck 0))=fU r fromλJ=>rfl,CS];show .a7 λr q B=>aF (Hp (bo<|qT d.R ac.cl (t.bR d.le) z q λtk=>cO (mH ⟨⟨bp,(d.R.toks tk).ff⟩,rfl⟩)))
where Hp {M:fa} {A:b2} {E:aj->ax->Prop} {s:ax} {vs:List aj} {m:Sem aj} {Q:aj->ax->Prop} (h:aG M A m Q E s):aG M A (operate vs m) Q E s:=aF (cO (a0 h (λJ J x=>aF (kO (bL x))) λJ J x=>x))
def VF(t:qQ gK d=af)(h:b4 u sc n call a f)(ag:b4 u sc n call b g)(x:b4 u sc n call d k):b4 u sc n call (.Compare a [o,gK] [b,d] p) (C.ur u.ao o gK f g k):=λc Y L s A R ac=>by
 change ai _ _ _ _ _ (b5 a c.env>>=λl=>compareChain p l [o,gK] (hE [o,gK] [b,d] [b5 b c.env,b5 d c.env])) _ _;rw[show hE [o,gK] [b,d] [b5 b c.env,b5 d c.env]= [b5 b c.env,b5 d c.env] by simp only[hE,sV t]]
 show .dD (h c Y L s A R ac) λv w D I B S z=> .dD (.gS (ag c D I B A S.R ac)) λV W bp bn a5 i m=> .dm (.a7 λr q y=>aF (cO (bo<|qT i.R ac.cl (z.bR i.le) m q λtk=>aF (kO (aF (cO (mH ?_)))))));cases r with
 |false=>
  rw[if_neg (by x_go)]
  show bL (bg.here (v:= .aM) (i.R.toks tk) rfl)
 |true=>rw[if_pos rfl];show ai.dD (.gS (x c bp bn _ A (i.R.toks tk) ac)) (λaI O c6 M K j E=> .dm (.operate (.a7 λr q=>.any (qT j.R ac.cl (m.bR j.le) E q λtk=>bg.here (j.R.toks tk) .Cc)))) y
noncomputable abbrev dh(a:Bool):BoolOp:=if a then .And else .Or
def qa(u:bf)(sc:bW)(n:Nat)(call:d8)(a:Bool)(es:List aT)(f:cw):Prop:=∀pos c Y L s A,Rel u c Y L s->Act c A sc n->ai u c A (ci u c) Y (boolOp pos (dh a) (Jq es c.env)) s (f [] call L)
def pR(u:bf)(sc:bW)(n:Nat)(call:d8)(a:Bool)(es:List aT)(f:cw):Prop:=∀c Y L s A,Rel u c Y L s->Act c A sc n->ai u c A (sJ u c) Y (allTrue (dh a) es c.env) s (fU (f [] call L))
def VG(h:b4 u sc n call e f):qa u sc n call a [e] f:=λpos c Y L s A R ac=>h c Y L s A R ac
def Uu(h:b4 u sc n call e f)(ag:qa u sc n call a (q::r) g):qa u sc n call a (e::q::r) (C.sa a f g):=λpos c Y L s A R ac=>by
 change ai _ _ _ _ _ (do
  let v<-b5 e c.env
  fO pos
  let t<-fo [v] (xY v)
  match dh a,t with
  | .And,af | .Or,ae=>pure v
  |_,_=>boolOp pos (dh a) (Jq (q::r) c.env)) _ _
 show .dD (h c Y L s A R ac) λv w k l j S i=> .dm (.dS (λe=>?_) λe=>?_)
 .k_lt e;cases i;showλd=>aF (cO (mH ?_));cases a with
  |true=>show ag pos c k l j A S.R ac d
  |false=>show bL (bg.here (v:= .tt) S.R rfl)
 .k_lt e;cases i;showλd=>aF (cO (mH ?_));cases a with
  |false=>show ag pos c k l j A S.R ac d
  |true=>show bL (bg.here (v:= .aM) S.R rfl)
def XH(h:qa u sc n call a es f):b4 u sc n call (.BoolOp (dh a) es p) f:=λc Y L s A R ac=>h p c Y L s A R ac
def Uv(h:gJ u sc n call e f):pR u sc n call a [e] f:=λc Y L s A R ac=>by
 change ai _ _ _ _ _ (do
  match dh a,<-m5 e c.env (b5 e c.env)with
  | .And,af=>pure af
  | .Or,ae=>pure ae
  |_,_=>pure (dh a== .And)) _ _
 showλd=>aF (a0 (h c Y L s A R ac d) (λb S x=>by cases a<;>cases b<;>show bL x) λJ J x=>x)
def TL(h:gJ u sc n call e f)(ag:pR u sc n call a (q::r) g):pR u sc n call a (e::q::r) (C.sa a f g):=λc Y L s A R ac=>by
 change ai _ _ _ _ _ (m5 e c.env (b5 e c.env)>>=λt=>match dh a,t with
  | .And,af=>pure af
  | .Or,ae=>pure ae
  |_,_=>allTrue (dh a) (q::r) c.env) _ _
 have e:fU (C.sa a f g [] call L)=(f [] call L).bind λv L=>C.dS v (fU (C.aA a (g [] call L) (.ok .tt L))) (fU (C.aA a (.ok .aM L) (g [] call L))) (.stuck 83):=by unfold fU C.sa;rw[mP];congr 1;funext v L;rw[JE];rfl
 rw[e];show .x_ (h c Y L s A R ac) λb d j i S=>?_;cases a<;>cases b
 .show ag c d j i A S.R ac
 .show .pure ⟨⟨d,S.R.ff⟩,rfl⟩
 .show .pure ⟨⟨d,S.R.ff⟩,rfl⟩
 .show ag c d j i A S.R ac
def VH(h:pR u sc n call a es f):gJ u sc n call (.BoolOp (dh a) es p) f:=λc Y L s A R ac=>h c Y L s A R ac
def XI(h:gJ u sc n call t f)(ag:b4 u sc n call a g)(l:b4 u sc n call b k):b4 u sc n call (.IfExp t a b p) (C.oH f g k):=λc Y L s A R ac=>by
 rw[arm_eval_IfExp];show .x_ (ka:=g [] call) (kb:=k [] call) (h c Y L s A R ac) λb i j d S=>?_;cases b with
 |true=>show ag c i j d A S.R ac
 |false=>show l c i j d A S.R ac
def ma(u:bf)(sc:bW)(n:Nat)(call:d8)(es:List aT)(f:cw):Prop:=∀pos c Y L s A,Rel u c Y L s->Act c A sc n->ai u c A (v6 u c) Y (t5 (ol pos (j2 es c.env))) s (f [] call L)
def VI:ma u sc n call [] C.eC:=λpos c Y L s A R ac=> .pure ⟨Y,R.ff, .nil⟩
def Uw(am:∀env,j2 (e::r) env=(af,b5 e env)::j2 r env)(h:b4 u sc n call e f)(ag:ma u sc n call r g):ma u sc n call (e::r) (C.f5 f g):=λpos c Y L s A R ac B=>by
 rw[am];show Ak (a0 (ai.pN (P:=v6 u c) (F:=λv=>t5 (ol pos (j2 r c.env))>>=λvs=>pure (v::vs)) (h c Y L s A R ac) (λv w t z d S j=>.ea (k:=λvs L=> .args (v::vs) L) (ag pos c t z d A S.R ac) λvs ws bp bn a5 i m=> .pure ⟨bp,i.R.ff, .cons (j.bR i.le) m⟩) B) (λw d x o p l y=>?_) λJ J x=>x)
 haveI:=x o p l y;rw[wP]at this;show this
def XJ(h:ma u sc n call es f):b4 u sc n call (.List es p) (C.ki f):=λc Y L s A R ac=>.dm (.ea (h _ c Y L s A R ac) λvs ws j k i S d=> .dA λg=> .any (by rw[C.eA,d.length]at g;show x13 S.R.fr λm F N fr=>ip (bg.newList S.R F (F.push _) (A8 F N _) d (d.length▸fk g)) (by change ws.toArray.size<=fY;rw[ta,ez];omega)))
def Ux(R:Rel u c Y L s)(d:bI (az u Y.ah) vs ws):ai u c A (ci u c) Y (newTuple ws) s (L.B6 vs .ok):= .dA λf=> .any (by rw[C.eA,d.length]at f;show x13 R.fr λm F N fr=>ip (bg.alloc (a4:= .tup vs) R F (F.push _) (A8 F N _) ⟨ws.toArray,_,⟨gO,er _ rfl⟩,d.up,d.length▸fk f⟩) (by change ws.toArray.size<=fY;rw[ta,ez];omega))
def XK(h:ma u sc n call es f):b4 u sc n call (.Tuple es k p) (C.Dr f):=λc Y L s A R ac=>by rw[arm_eval_Tuple];show .dm (.ea (h _ c Y L s A R ac) λvs ws j i g S d=>Ux S.R d)
def XM:b4 u sc n call (.Dict [] [] p) C.Ds:=λc Y L s A R ac=>by
 rw[arm_eval_Dict];show .dm (.any ?_);rw[show dictDisplay ((evalEachOpt [] c.env).zip (j1 (λv=>do let x<-v;fO p;pure x) (Jq [] c.env)))=newDict from rfl]
 delta newDict;show ip ?_ (by change(0:Nat)<=_;lia)
 show x13 R.fr λm F N fr=>bg.alloc (a4:= .dict .nil) R F (F.push _) (A8 F N _) ⟨λJ=>aa,gO,fq.new (er _ rfl),λk=>rfl⟩
end
section
open PySem.SeqAt
set_option tactic.hygienic true
section
variable{c:aV}{s:ax}{A:b2}{E:aj->ax->Prop}{n:Nat}{bA:Type}{P:gR bA}
def H_(T:eQ u){e:hF}(h:e.key= .str (ay k) t):e.key.isStr (ay n)=aK k n:=by
 rw[h];change(ay k==ay n)=_;cases q:aK k n with
 |true=>rw[C.bS q];show beq_self_eq_true _
 |false=>show beq_eq_false_iff_ne.mpr λx=>C.j7 q (T.inj _ _ x)
def Oq(u:bf)(ah:dr):Option a3->Option aj->Prop
 |none,aa=>True
 |some v,U w=>az u ah v w
 |_,_=>False
def c9.find(T:eQ u){n:Nat}(h:c9 u ah f es):Oq u ah (f.get n) ((es.find? (·.key.isStr (ay n))).map (·.val)):=by
 cases h with
 |nil=>trivial
 | @cons k v f e es t d g c r i=>
  rw[List.find?_cons,H_ T d,C.aL.hn];cases aK k n with
  |true=>show c
  |false=>show i
def c9.ab0(h:c9 u ah f es):es.any (·.refKey)=af:=by
 cases h with
 |nil=>rfl
 |cons c _ _ _ i=>rw[Ao,i,Se];delta hF.refKey;rw[c]
def c9.aff(h:c9 u ah f es)(e:f.get n=U v):hC n=ae:=by
 cases h with
 |nil=>cases e
 | @cons k v f d es t j c g r i=>
  rw[C.aL.hn]at e;cases q:aK k n with
  |true=>rw[<-C.bS q];show c.1
  |false=>rw[q]at e;show i e
def Cd(d:h.get? x=U (j6 ac e))(c:h.get? e=U ⟨.type "dict",aa, .dict es n,#[]⟩):
 PySem.W.InstAt h x (j6 ac e) ac (U ⟨.type "dict",aa, .dict es n,#[]⟩):=⟨d,rfl,rfl,c⟩
def Uy(T:eQ u)(h:az u ah v w):xo w=ae:=by
 cases v with
 |none |tt |aM=>cases h;rfl
 |int |str=>show x11 h λt o=>?_;k_lt o;rfl
 |li=>show x22 h λi t J o=>?_;k_lt o;rfl
 |res=>obtain⟨J,k,t,rfl,J⟩:=h;rfl
 |et=>show x21 h λi t o=>?_;k_lt o;rfl
 |aW=>show h.elim
 |h9=>show x22 h λx t o J=>?_;k_lt o;rfl
 |aZ |ev |any=>obtain⟨x,t,rfl,J⟩:=h;rfl
 |hA=>cases h;show T.hA _
 |ref=>obtain⟨p,J,rfl⟩:=h;rfl
 |fn |cls=>cases h;rfl
 |bi k=>cases h;cases k<;>first |rfl |z_go
 |lr=>show x22 h λk t J o=>?_;k_lt o;rfl
def BH(T:eQ u)(h:c9 u ah f es.toList):∃x,lookIn (ay n) ⟨.type "dict",aa, .dict es m,#[]⟩=U x/\Oq u ah (f.get n) x:=by show⟨_,?_,h.find T⟩;delta lookIn;dsimp only;rw[h.ab0];cases es.toList.find? (·.key.isStr (ay n))<;>rfl
def HL(R:Rel u c Y L s)(d:az u Y.ah v w):ai u c A (ci u c) Y (getAttr w (ay m) expr) s (C.getAttr v m L):=.bE λi e=> .gF λk f q=> .a7 λv' Q=> .any (by
  k_lt e;obtain⟨p,g,rfl⟩:=d;obtain⟨es,j,I,l,a,b,r⟩:=R.at g q;show x06 (R.st.cls k I) λcc c4 gg sK t ac=>x12 (BH R.st (n:=m) (m:=j) r) λx bQ cn=>?_;rw[Q]at cn;cases x with
  |none=>show cn.elim
  |some W=>show x12 (any_some cc) λo gz ei=>get_value (v:=W) R.fs (Cd a.g b.g) c4 ?_ (Uy R.st cn) (bg.here (R.toks _) cn);delta findObj;rw[gz,R.st.fld k m I (r.aff Q)];rw[Option.bind_some];delta PySem.W.ownOf;rw[ei,if_pos rfl];dsimp only;rw[bQ];rfl)
def XN(i:∀env,wJ o (ay m) env (b5 o env)=b5 o env)(h:b4 u sc n call o f):b4 u sc n call (.Attribute o (ay m) p) (C.d4 f m):=λc Y L s A R ac=>by change ai _ _ _ _ _ (wJ o (ay m) c.env (b5 o c.env)>>=λO=>fO p.atName>>=λJ=>fo [O] (getAttr O (ay m) ae)>>=λr=>RO o O r>>=λJ=>pure r) _ _;rw[i];show .dD (h c Y L s A R ac) λv w k j l S g=> .dm λd=>aF (cO (a0 (HL S.R g d) (λr a5 x=>aF (Qs (bL x))) λJ J x=>x))
def l4(R:Rel u c Y L s){a:ar}{i:Nat}(h:Y.own a=U i):u.H.get? a=aa:=by
 cases q:u.H.get? a with
 |none=>rfl
 |some o=>show nomatch h.symm.trans (R.frozen a o (R.base a o q)).2
def fi.here(R:Rel u c Y L s):fi u c Y (.next L) s:=⟨Y,R.ff⟩
def fi.put(R:Rel u c Y ⟨L.h.st a4 i,L.nx,L.fr,L.hf⟩ an):fi u c Y (L.put i a4 .next) an:=by rw[C.gP];show fi.here R
def ZS:∀{l:List (ar×Obj)},(a,o)∈l->(l.map (·.1)).Nodup->∃aq,Upd a o a4 l aq/\(a,a4)∈aq/\∀q∈l,q.1≠a->q∈aq:=by
 intro x;cases x with
 |nil=>intro h J;show nomatch h
 |cons q l i=>
  intro h c;rw[gC,dN]at c;show a8 (bX.mp h) (λO=>?_) λag=>?_
  .k_lt O;show⟨(a,a4)::l, .head λp j e=>?_,cF ..,λq g d=>?_⟩
   .show c.1 (dy.mpr ⟨p,j,e⟩)
   .show a8 (bX.mp g) (λO=>?_) λg=>?_
    .k_lt O;show absurd rfl d
    .show cA _ g
  .show x13 (i ag c.2) λaq au ak A=>?_;have d:q.1≠a:=λe=>c.1 (dy.mpr ⟨_,ag,e.symm⟩);show⟨q::aq, .tail d au,cA _ ak,λr f k=>?_⟩;show a8 (bX.mp f) (λO=>?_) λf=>?_
   .w_pre O;show cF ..
   .show cA _ (A r f k)
def VJ{f:Nat->Option (ar×Obj)}(hf:∀b q,f b=U q->q.1=b):∀{l:List Nat},l.Nodup->((l.filterMap f).map (·.1)).Nodup:=by
 intro x;cases x with
 |nil=>intro J;show Af
 |cons b l i=>
  intro h;rw[dN]at h;haveI i:=i h.2;rw[s2];split
  .show i
  .rename_i q e;rw[gC,dN];show⟨λj=>?_,i⟩;show x12 (dy.mp j) λr d E=>x12 (s7.mp d) λc k g=>?_;rw[hf b q e]at E;rw[hf c r g]at E;show h.1 (E▸k)
def TM:((restOf H aq h).map (·.1)).Nodup:=by
 show VJ (λb q e=>?_) List.nodup_range;split at e
 .cases e
 .split at e
  .cases e
  .cases z:h.get? b with
   |none=>rw[z]at e;cases e
   |some o=>rw[z]at e;cases e;rfl
def Rel.led(R:Rel u c Y L s)(h:e4 Y.own s.heap i a o)(a4:Obj):
 ∃aq,Upd a o a4 (restOf u.H c.env.locals s.heap) aq/\(a,a4)∈aq/\∀q∈restOf u.H c.env.locals s.heap,q.1≠a->q∈aq:=ZS (q8.mpr ⟨h.g,R.loc h.w,l4 R h.w⟩) TM
def Rel.ZT(R:Rel u c Y L s)(F:Fr u.H c.env.locals s.heap m)
 (v:Fr u.H c.env.locals ag m)(n:u_ u.H c.env.locals ag aq)(l:L.h.get i≠ .tab)(t:br Y.ah i p)(f:Y.own a=U i)
 (r:(a,b7)∈aq)(g:∀q∈restOf u.H c.env.locals s.heap,q.1≠a->q∈aq)
 (j:dk u Y.ah Y.own ag i p a4):Rel u c Y ⟨L.h.st a4 i,L.nx,L.fr,L.hf⟩ {s with heap:=ag,toks:=tk}:=by
 show R.eM (R.low _ _ f).2 l (xg F v n λb o d k=>g _ k λe=>?_) t j λb o d e=>?_
 .obtain rfl:b=a:=e;show d.elim (λd=>nomatch f.symm.trans d) λd=>d f
 .by_cases q:b=a
  .k_lt q;show⟨b7,(n _ r).1⟩
  .show⟨o,(n _ (g _ (q8.mpr ⟨e,R.loc d,l4 R d⟩) q)).1⟩
def VK(R:Rel u c Y L s)(n:u_ u.H c.env.locals ag aq)
 (d:∀q∈restOf u.H c.env.locals s.heap,q.1≠a->q∈aq)(h:e4 Y.own s.heap i b o)(f:b≠a):e4 Y.own ag i b o:=⟨h.w,(n _ (d _ (q8.mpr ⟨h.g,R.loc h.w,l4 R h.w⟩) f)).1⟩
def c9.lt(T:eQ u){f:aL}{es:List hF}(h:c9 u ah f es):∃ks:List Nat,ks.length=es.length/\ks.Nodup/\∀k∈ks,k<300/\f.get k≠aa:=by
 cases h with
 |nil=>show⟨[],rfl,Af,λk h=>nomatch h⟩
 | @cons k v f e es t m g l r i=>
  show x13 i λks a b c=>⟨k::ks,congrArg da a,dN.mpr ⟨λh=>(c k h).2 g.2,b⟩,λj d=>?_⟩;rw[C.aL.hn];show a8 (bX.mp d) (λo=>?_) λd=>?_
  .w_pre o;rw[C.n1];show⟨T.LX _ g.1,nofun⟩
  .show⟨(c j d).1,C.l3 (P:=(·≠aa)) (λJ=>nofun) λJ=>(c j d).2⟩
def c9.len(T:eQ u)(h:c9 u ah f es):es.length<=300:=by show x13 (h.lt T) λks a b c=>?_;haveI:ks.length<=(eT 300).length:=b.length_le_of_subset λk d=>nP.mpr (c k d).1;rw[tb]at this;lia
def c9.putL(T:eQ u){n:Nat}{v:a3}(hw:az u ah v w)(j:hC n=ae)(am:Int)(t:Tok)(h:c9 u ah f es):
 c9 u ah (f.st n v) (SV (ay n) am (.str (ay n) t) w es):=by
 cases h with
 |nil=>show .cons rfl ⟨j,rfl⟩ hw .nil
 | @cons k v' f e es aU d c g r i=>
  rw[C.aL.pj];change c9 u ah _ (if e.key.isStr (ay n)then _ else _)
  rw[H_ T d];cases q:aK k n with
  |true=>obtain rfl:=C.bS q;show .cons d c hw r
  |false=>show .cons d ⟨c.1,by rw[C.aL.f0,if_neg (λx=>C.j7 q x)];show c.2⟩ g i
def HM(R:Rel u c Y L s)(l:hC m=ae)(D:az u Y.ah v w)(ac:az u Y.ah v' H):ai u c A (g9 u c) Y (B3 w (ay m) H) s (C.rg v m v' L):=.bE λi e=> .gF λk f q=> .any (by
  k_lt e;obtain⟨p,y,rfl⟩:=D;obtain⟨es,j,I,o,a,b,r⟩:=R.at y q;show x06 (R.st.cls k I) λcc c4 gg sK E aI=>x13 R.fr λM F N fr=>?_;haveI g:=r.putL R.st ac l (Ae u.w.params (ay m)) (s.toks+1);haveI B:e4 Y.own s.heap i p.2 (dictOf es.toList j):=b;show x13 (R.led B (dictOf (SV (ay m) (Ae u.w.params (ay m)) (.str (ay m) (s.toks+1)) H es.toList) (putN (ay m) es.toList j))) λK bN t L2=>x12 (BH R.st (n:=m) (m:=j) r) λx bQ cn=>?_;show set_dict F R.st.fs N (Cd a.g B.g) rfl sK E (by delta xL;rw[R.st.fld k m I l];rfl) cc ?_ rfl bN ?_ λag z d=>?_
  .rw[<-lookIn_dict (ay m) es.toList j];show congrArg Sg bQ
  .haveI:=g.len R.st;omega
  .rw[C.aL.BC];show fi.put (R.ZT F z d (by rw[q];nofun) y b.w t L2 ⟨_,_,I,o,VK R d L2 a o,⟨b.w,(d _ t).1⟩,g⟩))
end
end
section
open PySem.SeqAt
variable{c:aV}{s:ax}{A:b2}{E:aj->ax->Prop}{n:Nat}{bA:Type}{P:gR bA}{r:bl}
def hY(c:aV):Prop:=∃o,c.z.cy=c.env::o
def eD(u:bf)(sc:bW)(n:Nat)(call:d8)(st:b_)(f:cw):Prop:=∀c Y L s A,Rel u c Y L s->Act c A sc n->hY c->ai u c A (qv u c) Y (va st c.env) s (f [] call L)
def hx(u:bf)(sc:bW)(n:Nat)(call:d8)(st:List b_)(f:cw):Prop:=∀c Y L s A,Rel u c Y L s->Act c A sc n->hY c->ai u c A (qv u c) Y (d3 st c.env) s (f [] call L)
def gU(u:bf)(sc:bW)(n:Nat)(call:d8)(t:aT)(g:cw):Prop:=∀c Y L s A v w,Rel u c Y L s->Act c A sc n->az u Y.ah v w->ai u c A (g9 u c) Y (oj t c.env w) s (g [v] call L)
def Rel.locals(R:Rel u c Y L s)(am:fA c.env.locals s.heap ag)(f:∃m,ag.Ns c.env.locals m/\f9 u Y.ah c.env m fr'):
 Rel u c Y ⟨L.h,L.nx,fr',L.hf⟩ {s with heap:=ag,toks:=tk}:=by
 have st:∀b o,b≠c.env.locals->s.heap.get? b=U o->ag.get? b=U o:=λb o d e=>(am.2 b d).trans e;have k:∀b j,Y.own b=U j->∀o,s.heap.get? b=U o->ag.get? b=U o:=λb j e o=>st b o (R.loc e);show R.gen (λb o d J=>st b o d) f (λJ h=>(R.i5 h).1) R.len (λb j e=>⟨(R.low b j e).1.imp λo=>k b j e o,(R.low b j e).2⟩)
  (λj q e=>(R.objs j q e).at (fj _) (λb d=>⟨d,k b j d⟩) λJ=>id) R.out (R.bc.at (λJ J J=>n7) (λb j J=>k b j) ⟨rfl,rfl⟩ R.bc.here R.bc.codes)
def f9.put(T:eQ u)(h:f9 u ah env m fr)(kd:env.kindOf (ay k)=U .local)(g:az u ah v w):
 f9 u ah env (λx=>if x=ay k then U w else m x) (fr.st k v):=by
 have f:∀j v',(fr.st k v).get j=U v'->(j=k/\v'=v)\/(j≠k/\fr.get j=U v'):=λj v' e=>by
  rw[C.aL.f0]at e;by_cases q:j=k
  .rw[if_pos q]at e;show .inl ⟨q,(bY e).symm⟩
  .rw[if_neg q]at e;show .inr ⟨q,e⟩
 show⟨λj v' e K=>?_,λj v' e K=>?_⟩
 .show a8 (f j v' e) (λd=>?_) λo=>?_
  .show x02 d λc O=>?_;k_lt c;k_lt O;show⟨w,if_pos rfl,g⟩
  .show x02 o λq e=>?_;show(h.loc j v' e K).imp λW x=>⟨(if_neg λx=>q (T.inj _ _ x)).trans x.1,x.2⟩
 .show a8 (f j v' e) (λd=>?_) λo=>?_
  .show x02 d λc O=>?_;k_lt c;k_lt O;rw[kd]at K;show K.elim nofun nofun
  .show x02 o λq e=>?_;show h.bt j v' e K
def Ta(R:Rel u c Y L s)(d:c.env.scope.kind= .function)(kd:c.env.kindOf (ay k)=U .local)(f:az u Y.ah v w):
 aQ u.M A (IA c.env (ay k) w) (λJ an=>fi u c Y (L.f4 k v .next) an) E s:=by
 show x12 R.here λm g fr=>PX kd g (λag i am=>?_) (by rw[d];rfl)
 rw[C.ho];show fi.here (R.locals am ⟨_,i,fr.put R.st kd f⟩)
def tI(d:sc.names.lookup (ay k)=U .local):gU u sc n call (.Name (ay k) p) (C.c5 k):=λc Y L s A v w R ac f=>by rw[Ri];show .dm λJ=>Hd (bo<|Ta R ac.kind (ac.sc.loc _ d) f)
def TN(d:own a=U i)(f:a≠aq)(am:fA a h ag):Keeps own (U i) aq h ag:=by show⟨λb o j c e=>(am.2 b λq=>?_).trans e,λm g=>g.sameBut am (cX f)⟩;k_lt q;show c.elim (λc=>nomatch d.symm.trans c) λc=>c d
def VL(l:sc.names.lookup (ay k)=U .cell):gU u sc n call (.Name (ay k) p) (C.CK k):=λc Y L s A v w R ac r=>
 .ht λi q=> .m7 λv0 Q=>by
  show x12 R.here λm y fr=>?_;have kd:=ac.sc.bt _ l;show x12 (fr.bt k _ q (.inl kd)) λp' j t=>?_;obtain⟨W,d,x,J⟩:=R.at j Q;rw[Ri];show .dm λJ=>Hd (bo<|wpAny_storeName_cell ac.kind kd t x λag f am=>fi.put (R.eM (tk:=s.toks) (R.low _ _ d).2 (by rw[Q];nofun) (TN d (R.loc d) am) j ⟨U w,d,f,r⟩ λb o z e=>?_))
  by_cases g:b=p'.1
  .show x12 f λa4 E J=>⟨a4,g▸E⟩
  .show⟨o,(am.2 b g).trans e⟩
def VM(j:hC m=ae)(h:b4 u sc n call o f):gU u sc n call (.Attribute o (ay m) p) (C.CL f m):=λc Y L s A v w R ac g=>by rw[arm_assign_Attribute];showλd=>aF (cO (ai.pN (P:=g9 u c) (h c Y L s A R ac) (λV W l r k S i=> .dm λd=>?_) d));show aF (cO (a0 (HM S.R j i (g.bR S.le) d) (λJ a5 x=>kO x) λJ J x=>x))
def fi.qb(h:fi u c Y r s):kD u c Y r .next s:=by
 cases r with
 |next L=>show⟨h,rfl⟩
 |_=>show h.elim
def ai.qb(h:ai u c A (g9 u c) Y t s r):ai u c A (qv u c) Y (t>>=λJ=>xc q3) s r:=λd=>aF (a0 (h d) (λJ a5 x=>bL x.qb) λJ J x=>x)
def IQ:hx u sc n call [] C.l1:=λc Y L s A R ac a9 J=>qO ⟨⟨Y,R.ff⟩,rfl⟩
def AX{st:b_}{r:List b_}{f g:cw}(h:eD u sc n call st f)(ag:hx u sc n call r g):hx u sc n call (st::r) (C.jC f g):=λc Y L s A R ac a9 d=>by
 haveI h:=h c Y L s A R ac a9;unfold C.jC at d⊢;show wE ?_;cases q:f [] call L with
 |next bH=>rw[q]at d h;show a0 (h λJ=>nofun) (λfl i x=>by show x02 x λo O=>?_;obtain⟨aE,S⟩:=o;k_lt O;show(ag c aE bH i A S.R ac a9).up S.le d) λJ J x=>x.elim
 |brk bH=>rw[q]at h;show a0 (h λJ=>nofun) (λfl i x=>by show x02 x λa o=>?_;k_lt o;show⟨a,rfl⟩) λJ J x=>x.elim
 |ret v bH=>rw[q]at h;show a0 (h λJ=>nofun) (λfl i x=>by obtain⟨aE,w,S,j,rfl⟩:=x;show⟨aE,w,S,j,rfl⟩) λJ J x=>x.elim
 |exc k bH=>rw[q]at h;show a0 (h λJ=>nofun) (λJ J x=>x.elim) λJ J x=>x
 |stuck k=>rw[q]at d;show absurd rfl (d k)
 |_=>rw[q]at d;show absurd rfl (d 3)
def ZU(h:gJ u sc n call t f)(j:hx u sc n call a ka)(k:hx u sc n call b kb):eD u sc n call (.If t a b p) (C.oH f ka kb):=λc Y L s A R ac a9=>by
 change ai _ _ _ _ _ (fO p>>=λJ=>m5 t c.env (b5 t c.env)>>=λq=>if q then d3 a c.env else d3 b c.env) _ _
 show .dm (.x_ (ka:=ka [] call) (kb:=kb [] call) (h c Y L s A R ac) λq g i d S=>?_);cases q
 .show k c g i d A S.R ac a9
 .show j c g i d A S.R ac a9
def XO(h:b4 u sc n call e f):eD u sc n call (.Return (U e) p) (C.Dw f):=λc Y L s A R ac a9=>by change ai _ _ _ _ _ (fO p>>=λJ=>b5 e c.env>>=λw=>pure (Xc w)) _ _;show .dm (.dD (h c Y L s A R ac) λv w g j i S d=> .pure ⟨g,w,S.R.ff,d,rfl⟩)
def VN:eD u sc n call (.Return aa p) C.us:=λc Y L s A R ac a9=> .any (wpAny_Return_none ⟨Y, .none,R.ff,rfl,rfl⟩)
def XQ:eD u sc n call (.Break p) C.Dx:=λc Y L s A R ac a9=>by change ai _ _ _ _ _ (fO p>>=λJ=>pure ja.brk) _ _;show .dm (.pure ⟨⟨Y,R.ff⟩,rfl⟩)
def He(h:Q .next s):aQ u.M A (IB e p v) Q E s:=by
 have k:∀v,aQ u.M A (IB (.Yield aa p) p v) Q E s:=λv=>by cases v<;>first |show aY h |show aw (Ha (aw (wpAny_runValue (lM entry_let_go (show aQ _ _ (ret .none) _ _ s from aY (aY h))))))
 cases e<;>first |show aY h | (show Eq.mpr (congrArg (λm=>aQ u.M A m Q E s) (?_:_=IB (.Yield aa p) p v)) (k v);k_go)
def XR(am:∀env,swapsWith e aa p.line env=pure af)(h:b4 u sc n call e f):eD u sc n call (.Expr e p) (C.Du f):=λc Y L s A R ac a9=>by
 rw[exec_Expr c.env e p (by delta Tu;rw[ac.kind];rfl) (am c.env)]
 show .dm (.dD (h c Y L s A R ac) λv w d j i S g=> .any (He ⟨⟨d,S.R.ff⟩,rfl⟩))
def JM(k:∀env,tj [t] e p.line env=pure af)(o:∀env,jI sc env->mJ [t] e env=pure aa)(l:∀env,mN [t] env= [(af,oj t env)])
 (h:b4 u sc n call e f)(ag:gU u sc n call t g):eD u sc n call (.Assign [t] e p) (C.k6 g f):=λc Y L s A R ac a9=>by
 rw[FG,k,l];show .dm (.step (λQ=>aY) ?_);rw[if_neg (by x_go)]
 show .dD (h c Y L s A R ac) λv w j m i S d=>?_;rw[o _ ac.sc];show .step (λQ=>aY) (ai.qb (ag c j m i A v w S.R ac d))
noncomputable abbrev L1{α bA:Type}(P:gR bA)(u:bf)(c:aV)(A:b2)(F:α->Sem bA):gR α:=⟨λY r a s=>aG u.M A (F a) (P.P Y r) (dH u c Y r) s,λh x=>a0 x (λJ J=>P.le h) λJ J=>dH.le h⟩
def XS(E:F= .Add\/F= .Sub)(X:hC m=ae)(h:b4 u sc n call o f)(ag:b4 u sc n call e g):
 eD u sc n call (.AugAssign (.Attribute o (ay m) a9) F e p) (C.Dv u.ao f m F g):=λc Y L s A R ac J=>by
 change ai _ _ _ _ _ (do
  fO p
  let d<-b5 o c.env
  let new<-fo [d] do
   fO a9.atName
   let w<-getAttr d (ay m) ae
   let v<-fo [w] (b5 e c.env)
   fO p
   operate [w,v] (inplaceOp F w v)
  fO a9.atName
  fo [new,d] (B3 d (ay m) new)
  release [new,d] []
  pure q3) _ _
 show .dm (.dD (h c Y L s A R ac) λV W ya pS jE aq z k=>aF (cO (aF (fX (ai.dD (P:=L1 (qv u c) u c A _) (HL aq.R z) (λN bD bp bn a5 B D=>.dD (.gS (ag c bp bn a5 A B.R ac)) λbN Z c6 l M S y=> .dm (.operate (.a7 λv q=>?_))) k)))))
 have K:∀(t:Tok) (tk:Nat) (i:Int),az u c6.ah v (.int i t)->cW (C.rg V m v l)->aG u.M A (do
  fO a9.atName
  fo [n0 i t,W] (B3 W (ay m) (n0 i t))
  release [n0 i t,W] []
  pure q3) (kD u c c6 (C.rg V m v l)) (dH u c c6 (C.rg V m v l)) {M with toks:=tk}:=λt tk i T k=>
  aF (fX (aF (cO (a0 (HM (S.R.toks tk) X (z.bR (B.le.trans S.le)) T k) (λJ DS x=>aF (kO (bL x.qb))) λJ J x=>x))))
 show a8 (C.lQ q) (λq=>?_) λq=>?_
 .show x54 (JG R.st q (D.bR S.le) y) λi j r t aU O Q e q=>?_;w_pre O;k_lt Q;showλk=>bo<|R0 E e λt tk=>K t tk r (.ux q) k
 .show x02 (H8 q) λO q=>?_;k_lt O;show x12 (rk q) λj O q=>?_;k_lt O;cases q;show x21 D λi t O=>?_;k_lt O;show x11 y λaU O=>?_;k_lt O;showλI=>bo (a8 E (λH=>?_) λaI=>?_)
  .k_lt H;show PySem.P.iadd_int (K _ _ _ ⟨_,_,rfl⟩ I)
  .k_lt aI;show PySem.P.isub_int (K _ _ _ ⟨_,_,rfl⟩ I)
end
section
open PySem.SeqAt
def R1:h5 hs "proto.unchain"=U Builtin.«proto.unchain»:=o2 (by k_go)
def g_(A:b2)(h:Heap):Prop:=A.handled=aa\/∃x o vs,A.handled=U (.ref x)/\h.get? x=U o/\o.data= .fields vs/\vs[2]? =U .none
section
variable{prog:eP}{w:b3}{A:b2}{E:aj->ax->Prop}{s:ax}
def g_.oN(H:g_ A h)(k:∀x o,A.handled=U (.ref x)->h.get? x=U o->ag.get? x=U o):g_ A ag:=by
 show a8 H (λH=>?_) λO=>?_
 .show .inl H
 .show x33 O λx o vs a b c=>?_;show .inr ⟨x,o,vs,a,k x o a b,c⟩
def Tb{α:Type}{vs:Array aj}{Q:α->ax->Prop}(H:g_ A s.heap)(g:s.heap.get? e=U F)(f:F.data= .fields vs)(i:∀x,A.handled=U (.ref x)->e≠x)(hz:2<vs.size)
 (dn:∀ag a4,ag.get? e=U a4->a4.cls=F.cls->(∃c,a4.data= .fields (vs.setIfInBounds 2 c))\/a4=F->fA e s.heap ag->E (.ref e) {s with heap:=ag}):
 aQ (aN prog w) A (tN (α:=α) (.ref e)) Q E s:=by
 show aw (wpAny_handled ?_);show a8 H (λH=>?_) λO=>?_
 .rw[H];show aw (aY (AD (dn _ _ g rfl (.inr rfl) (.refl ..))))
 .show x34 O λx o xs a b c d=>?_;rw[a];have j:(eU x !=eU e)=ae:=by rw[bne_iff_ne];intro q;cases q;show i _ a rfl
  dsimp only;rw[if_pos j];show aw (jn (wpAny_runValue (lM R1 ?_)));show aw (fB b c (x:= .none) d ?_);show aw (aY (aY ?_));show aw (o4 g f hz (AD ?_));show dn _ _ (lG _ g (qG (wt f _))) (QH ..) (.inl ⟨_,wt f _⟩) (s5 ..)
def qU{α:Type}{Q:α->ax->Prop}(H:g_ A s.heap)
 (dn:∀ag e,(∀b o,s.heap.get? b=U o->ag.get? b=U o)->(∃o,ag.get? e=U o/\o.cls= .type "StopIteration")->E (.ref e) {s with heap:=ag}):
 aQ (aN prog w) A (x0 (.type "StopIteration") []>>=λe=>tN (α:=α) e) Q E s:=by
 show aw (aw (ip ?_ (by size_fits)))
 show aw (m:=RR _ _) (dp (a:=tw) (by first |rfl | (simp only[RR];rfl)) ?_)
 show ip ?_ (by size_fits)
 haveI k:∀b o,s.heap.get? b=U o->(s.heap.push {cls:= .type "tuple",data:= .seq #[]}).get? b=U o:=λb o e=>c2 _ e;haveI c:∀x,A.handled=U (.ref x)->((s.heap.push {cls:= .type "tuple",data:= .seq #[]}).objs.size)≠x:=λx c q=>by
  show a8 H (λH=>?_) λO=>?_
  .rw[H]at c;cases c
  .show x33 O λX o vs a b J=>?_;rw[a]at c;cases c;haveI:=ee b;rw[kM]at q;rw[<-q]at this;show h3 _ (Gf this)
 show Tb (H.oN λx o J e=>c2 _ (c2 _ e)) (er _ rfl) rfl c (by simp;lia) λag a4 a b J d=>?_
 show dn ag _ (λB o e=>?_) ⟨a4,a,b⟩;show(d.2 B (λq=>?_)).trans (c2 _ (c2 _ e));haveI:=ee e;rw[q,kM]at this;show h3 _ (Gf this)
def mK{it:ar}{T id:String}(c:s.TypeIs (.ref it) T)(am:jG T "__next__" id)(d:h5 hs id=U b)(i:f3 id ⟨[.ref it], []⟩)
 (h:aQ (aN prog w) A.in1 (b ⟨[.ref it], []⟩) (λJ J=>False) (λe an=>∃a,e= .ref a/\(∃o,an.heap.get? a=U o/\o.cls= .type "StopIteration")/\Q aa an) s):
 aQ (aN prog w) A (pF (.ref it)) Q E s:=by
 show aw (wI (wc (name:=bq "__next__") c am (lK am c d (hk h (λJ J x=>x.elim) λe an x=>?_) i)));show x13 x λa k O g=>?_;k_lt k;show x12 O λo f j=>aw (z5 (T:="StopIteration") (b:=ae) ⟨o,f,j⟩ isSubtype_stop (aY g))
def AY(H:g_ A s.heap)(r:∀x,A.handled=U (.ref x)->x≠it)
 (cZ:s.heap.IsListIter it l i)(m:s.heap.IsList l items)(g:items[i]? =aa)
 (dn:∀ag e,(∀b o,b≠it->s.heap.get? b=U o->ag.get? b=U o)->(∃o,ag.get? e=U o/\o.cls= .type "StopIteration")->E (.ref e) {s with heap:=ag}):
 aQ (aN prog w) A (Builtin.«list_iterator.__next__» ⟨[.ref it], []⟩) Q E s:=by
 show x13 (id cZ) λo d u c=>?_;obtain⟨O,p,J,t,j⟩:=m;change aQ _ _ (field (.ref it) 0>>=_) _ _ s;show aw (fB d c (x:= .ref l) rfl ?_);show aw (fB d c (x:= .int i 0) rfl ?_);show aw (GY p j ?_);simp only[gN,g];show aw (iU (aw (o4 d c (by simp) ?_)))
 have k:∀b o,b≠it->s.heap.get? b=U o->(s.heap.update it (wK (·.setIfInBounds 0 .none))).get? b=U o:=λb o f e=>(kH _ _ (cX f)).trans e;show qU (H.oN λx o g e=>k x o (r x g) e) λag e a b=>dn ag e (λB a4 f n=>a B a4 (k B a4 f n)) b
def HN(H:g_ A s.heap)(r:∀x,A.handled=U (.ref x)->x≠it)
 (cZ:IC s.heap it l i)(m:Dc s.heap l items)(g:items[i]? =aa)
 (dn:∀ag e,(∀b o,b≠it->s.heap.get? b=U o->ag.get? b=U o)->(∃o,ag.get? e=U o/\o.cls= .type "StopIteration")->E (.ref e) {s with heap:=ag}):
 aQ (aN prog w) A (Builtin.«tuple_iterator.__next__» ⟨[.ref it], []⟩) Q E s:=by
 show x13 (id cZ) λo d u c=>?_;obtain⟨O,p,J,t,j⟩:=m;change aQ _ _ (field (.ref it) 0>>=_) _ _ s;show aw (fB d c (x:= .ref l) rfl ?_);show aw (fB d c (x:= .int i 0) rfl ?_);show aw (GY p j ?_);simp only[gN,g];show aw (iU (aw (o4 d c (by simp) ?_)))
 have k:∀b o,b≠it->s.heap.get? b=U o->(s.heap.update it (wK (·.setIfInBounds 0 .none))).get? b=U o:=λb o f e=>(kH _ _ (cX f)).trans e;show qU (H.oN λx o g e=>k x o (r x g) e) λag e a b=>dn ag e (λB a4 f n=>a B a4 (k B a4 f n)) b
def TO(H:g_ A s.heap)(l:∀x,A.handled=U (.ref x)->x≠it)
 (cZ:Rj s.heap it b t i)(g:b[i]? =aa)
 (dn:∀ag e,(∀b o,b≠it->s.heap.get? b=U o->ag.get? b=U o)->(∃o,ag.get? e=U o/\o.cls= .type "StopIteration")->E (.ref e) {s with heap:=ag}):
 aQ (aN prog w) A (Builtin.«bytes_iterator.__next__» ⟨[.ref it], []⟩) Q E s:=by
 show x13 (id cZ) λo d m c=>?_;change aQ _ _ (field (.ref it) 0>>=_) _ _ s;show aw (fB d c (x:= .bytes b t) rfl ?_);show aw (fB d c (x:= .int i 0) rfl ?_);show aw (dp (a:=b) rfl ?_);simp only[gN,g];show aw (iU (aw (o4 d c (by simp) ?_)))
 have k:∀b o,b≠it->s.heap.get? b=U o->(s.heap.update it (wK (·.setIfInBounds 0 .none))).get? b=U o:=λb o f e=>(kH _ _ (cX f)).trans e;show qU (H.oN λx o g e=>k x o (l x g) e) λag e a b=>dn ag e (λB a4 f j=>a B a4 (k B a4 f j)) b
def TP{x l step:Int}{Q:Fin->ax->Prop}(H:g_ A s.heap)(cZ:IsRangeIter s.heap it x l step)(c:l<=0)
 (dn:∀ag e,(∀b o,s.heap.get? b=U o->ag.get? b=U o)->(∃o,ag.get? e=U o/\o.cls= .type "StopIteration")->E (.ref e) {s with heap:=ag}):
 aQ (aN prog w) A (Builtin.«range_iterator.__next__» ⟨[.ref it], []⟩) Q E s:=by
 change aQ _ _ (field (.ref it) 0>>=_) _ _ s;show aw (fB cZ rfl (x:=b8 x) rfl ?_);show aw (fB cZ rfl (x:=b8 l) rfl ?_);show aw (fB cZ rfl (x:=b8 step) rfl ?_);change aQ _ _ (if l<=0 then _ else _) _ _ s
 rw[if_pos c];show aw (iU ?_);show aw (qU H λag e a b=>dn ag e a b)
def VO(H:g_ A s.heap)(cZ:s.heap.IsRevIter it l (-1))
 (dn:∀ag e,(∀b o,s.heap.get? b=U o->ag.get? b=U o)->(∃o,ag.get? e=U o/\o.cls= .type "StopIteration")->E (.ref e) {s with heap:=ag}):
 aQ (aN prog w) A (Builtin.«list_reverseiterator.__next__» ⟨[.ref it], []⟩) Q E s:=by
 show x13 (id cZ) λo d f c=>aw (dp (a:=(eU it, [])) rfl ?_);show aw (fB d c (x:=b8 (-1)) rfl ?_);change aQ _ _ (if(-1:Int)<0 then _ else _) _ _ s
 show aw (iU ?_);show aw (qU H λag e a b=>dn ag e a b)
def Uz(H:g_ A s.heap)(f:∀x,A.handled=U (.ref x)->x≠it)
 (d:IsEnum s.heap e it i old)(cZ:s.heap.IsListIter it l k)(g:s.heap.IsList l items)(c:items[k]? =aa)
 (dn:∀ag e,(∀b o,b≠it->s.heap.get? b=U o->ag.get? b=U o)->(∃o,ag.get? e=U o/\o.cls= .type "StopIteration")->E (.ref e) {s with heap:=ag}):
 aQ (aN prog w) A (Builtin.«enumerate.__next__» ⟨[.ref e], []⟩) Q E s:=by
 change aQ _ _ (field (.ref e) 2>>=_) _ _ _;show aw (fB d rfl (x:= .ref it) rfl (aw ?_));show aw (wc (name:=bq "__next__") cZ.typeIs zU
  (lK zU cZ.typeIs F3 (AY (A:=A.in1) H f cZ g c dn) (Ga _)))
end
def Ia:Manifest.owners.lookup (String.ofList ['r','o','t','a','r','e','t','i','_','t','e','s'].reverse)=U Manifest.sig_set_iterator:=by k_go
def qP:jG "set_iterator" "__next__" "set_iterator.__next__":=.of (owner:="set_iterator") (n:="__next__") (by rw[gn,gm];k_go) (by z_go) (by z_go) (by z_go) (.inl (by z_go)) (by rw[jU];k_go)
def GR:h5 hs "set_iterator.__next__"=U Builtin.«set_iterator.__next__»:=o2 (by k_go)
def G2(a:aj):f3 "set_iterator.__next__" ⟨[a], []⟩:=by delta f3;rw[Sh (id:="set_iterator.__next__") (n:= ['_','_','t','x','e','n','_','_']) (o:= ['r','o','t','a','r','e','t','i','_','t','e','s']) (by k_go) Ia];k_go
def G3:jG "set_iterator" "__iter__" "set_iterator.__iter__":=.of (owner:="set_iterator") (n:="__iter__") (by rw[gn,gm];k_go) (by z_go) (by z_go) (by z_go) (.inl (by z_go)) (by rw[jU];k_go)
def Rz:h5 hs "set_iterator.__iter__"=U Builtin.«dict_keyiterator.__iter__»:=Ag (id':="dict_keyiterator.__iter__") (by k_go) rfl (by z_go) (by k_go)
def R2(a:aj):f3 "set_iterator.__iter__" ⟨[a], []⟩:=by delta f3;rw[Sh (id:="set_iterator.__iter__") (n:= ['_','_','r','e','t','i','_','_']) (o:= ['r','o','t','a','r','e','t','i','_','t','e','s']) (by k_go) Ia];k_go
def Q_:h5 hs "set.__iter__"=U Builtin.«frozenset.__iter__»:=Ag (id':="frozenset.__iter__") (by k_go) rfl (by z_go) (by k_go)
noncomputable abbrev hQ(w:b3):Bool:=w.params.followText "set-order"
structure ni(w:b3)(es:Array (Int×aj))(t:SetTable):Prop where
 fits:t.fits es.size=ae
 led:t.led= !hQ w
inductive vy(es:Array (Int×aj))(pl:Array Nat):Nat->List aj->Prop where
 |nil {slot:Nat} (h:∀x j,es[iR pl slot]? =U x->pl[iR pl slot]? =U j->False):vy es pl slot []
 |cons {slot j:Nat} {l:List aj} {x:Int×aj} (bb:es[iR pl slot]? =U x) (bM:pl[iR pl slot]? =U j) (r:vy es pl (j+1) l):vy es pl slot (x.2::l)
noncomputable abbrev sk(es:Array (Int×aj))(t:SetTable):Bool:= !t.plain&&decide (es.size>1)
noncomputable abbrev qc(a2:List Nat):Obj:=⟨.type "tuple",aa, .seq (a2.map λ(i:Nat)=>b8 i).toArray,#[]⟩
inductive jF(w:b3)(S:ar)(es:Array (Int×aj))(ep:Nat)(t:SetTable)(T:ar)(oT:Obj)(i:Nat)(bk:aj)(l:List aj):Prop where
 |text (h:hQ w=ae) (first:Nat) (f:bk=b8 first) (e:l=((pickOrder (w.params.setOrder S ep) es).toList.drop i).map (·.2))
 |slot (h:hQ w=af) (d:sk es t=af) (first:Nat) (f:bk=b8 first) (v:vy es t.place first l)
 |drawn (f:bk= .ref T) (a2:List Nat) (o:oT=qc a2) (e:(a2.drop i).map (λp=>(es[p]?).map (·.2))=l.map U)
section
variable{prog:eP}{w:b3}{A:b2}{E:aj->ax->Prop}{s:ax}{S it:ar}{es:Array (Int×aj)}{ep:Nat}{t:SetTable}{T:ar}{oT:Obj}{i:Nat}{bk:aj}{x:aj}{l:List aj}
noncomputable abbrev eN(es:Array (Int×aj))(ep:Nat)(t:SetTable):Obj:=⟨.type "set",aa, .set es ep t,#[]⟩
noncomputable abbrev oC(S:ar)(n ep i:Nat)(bk:aj):Array aj:=#[bk,b8 i, .ref S,b8 n,b8 ep]
def TQ{Q:Option (aj×Nat)->ax->Prop}{first:Nat}(g:s.heap.get? S=U (eN es ep t))(X:ni w es t)(R:jF w S es ep t T oT i (b8 first) l)
 (h0:l= []->Q aa s)(bb:∀x gM nx,l=x::gM->jF w S es ep t T oT (i+1) (b8 (nx:Nat)) gM->Q (U (x,nx)) s):aQ (aN prog w) A (setNext S first i ep) Q E s:=by
 show aw (wv g rfl X.fits ?_);show aw (aw (qK (aY ?_)));cases R with
 |drawn f=>cases f
 |text cD Fk f e=>
  rw[show(aN prog w).w.params.followText "set-order"=ae from cD,if_pos rfl,bne_self_eq_false];show aw ?_;show aw (wv g rfl X.fits ?_);show aw (aw (qK (aY ?_)));rw[show(aN prog w).w.params.followText "set-order"=ae from cD,if_pos rfl];show aw (qK (aY (aY ?_)));change Q (((pickOrder (w.params.setOrder S ep) es)[i]?).map λe=>(e.2,first)) s
  revert e;generalize mu:pickOrder (w.params.setOrder S ep) es=aq;intro e;rw[<-iO];cases q:aq.toList.drop i with
  |nil=>
   rw[show aq.toList[i]? =aa by rw[<-o7 i,<-lI,q];rfl]
   show h0 (by rw[e,q];rfl)
  |cons y r=>
   rw[show aq.toList[i]? =U y by rw[<-o7 i,<-lI,q];rfl]
   show bb y.2 (r.map (·.2)) first (by rw[e,q];rfl) (.text cD first rfl (by rw[mu,<-wF,q];rfl))
 |slot cD hd Fk f v=>
  obtain rfl:first=Fk:=by haveI:=n0.inj f;show Sf this.1
  rw[show(aN prog w).w.params.followText "set-order"=af from cD];haveI led:t.led=ae:=by rw[X.led,cD];rfl
  change aQ _ _ (if sk es t=ae then _ else _) _ _ _
  rw[hd,if_neg jl];change aQ _ _ ((if(!t.led&& !es.isEmpty)=ae then _ else pure ())>>=_) _ _ _
  rw[led];show aw (aY ?_);change aQ _ _ (pure (match es[iR t.place first]?,t.place[iR t.place first]? with |some (_,x),U j=>U (x,j+1) |_,_=>aa)) _ _ _
  cases(v)with
  |nil h=>
   haveI e:(match es[iR t.place first]?,t.place[iR t.place first]? with |some (_,x),U j=>U (x,j+1) |_,_=>aa)=(aa:Option (aj×Nat)):=by
    cases lC:es[iR t.place first]? with
    |none=>rfl
    |some x=>
     cases iL:t.place[iR t.place first]? with
     |none=>rfl
     |some j=>show(h x j lC iL).elim
   rw[e];show aY (h0 rfl)
  |cons lC iL r=>rw[lC,iL];show aY (bb _ _ _ rfl (.slot cD hd _ rfl r))
def IR{Q:Fin->ax->Prop}(cp:s.heap.get? it=U ⟨.type "set_iterator",aa, .fields (oC S es.size ep i bk),#[]⟩)(g:s.heap.get? S=U (eN es ep t))(O4:∀a2,bk= .ref T->oT=qc a2->s.heap.get? T=U oT)(X:ni w es t)(R:jF w S es ep t T oT i bk l)
 (h0:l= []->(∃first:Nat,bk=b8 first)->aQ (aN prog w) A (mU (.ref it) 2 .none>>=λJ=>x0 (.type "StopIteration") []>>=λe=>tN e) Q E s)
 (afg:l= []->bk= .ref T->aQ (aN prog w) A (mU (.ref it) 0 (b8 0)>>=λJ=>mU (.ref it) 2 .none>>=λJ=>x0 (.type "StopIteration") []>>=λe=>tN e) Q E s)
 (bb:∀x gM (nx:Nat),l=x::gM->jF w S es ep t T oT (i+1) (b8 nx) gM->aQ (aN prog w) A (mU (.ref it) 0 (b8 nx)>>=λJ=>mU (.ref it) 1 (b8 ((i:Int)+1))>>=λJ=>ret x) Q E s)
 (afh:∀x gM,l=x::gM->jF w S es ep t T oT (i+1) bk gM->aQ (aN prog w) A (mU (.ref it) 1 (b8 ((i:Int)+1))>>=λJ=>ret x) Q E s):
 aQ (aN prog w) A (Builtin.«set_iterator.__next__» ⟨[.ref it], []⟩) Q E s:=by
 change aQ _ _ (fieldsOf (.ref it)>>=_) _ _ s;show aw (wpAny_fieldsOf cp rfl ?_);show aw (Qn g rfl X.fits ?_);rw[bne_self_eq_false,if_neg jl];have go:∀first:Nat,bk=b8 first->aQ (aN prog w) A (setNext S (tD first) (tD i) (tD ep)>>=λr=>match r with
  |some (x,next)=>mU (.ref it) 0 (b8 next)>>=λJ=>mU (.ref it) 1 (b8 ((i:Int)+1))>>=λJ=>ret x
  |none=>mU (.ref it) 2 .none>>=λJ=>x0 (.type "StopIteration") []>>=λe=>tN e) Q E s:=λfirst e=>by
  rw[gN,gN,gN];show aw (TQ g X (e▸R) (λq=>h0 q ⟨first,e⟩) λy gM nx q R'=>bb y gM nx q R')
 cases R with
 |text cD first f e=>w_pre f;show go first rfl
 |slot cD hd first f v=>k_lt f;show go first rfl
 |drawn f a2 o e=>
  have afi:=O4 a2 f o;subst f o;show aw (GY afi rfl ?_);dsimp only;rw[gN,zN,iQ];cases q:a2.drop i with
  |nil=>
   rw[show a2[i]? =aa by rw[<-o7 i,<-lI,q];rfl]
   show afg (by rw[q]at e;show F4.mp e.symm) rfl
  |cons y r=>
   rw[show a2[i]? =U y by rw[<-o7 i,<-lI,q];rfl]
   rw[q,gC]at e;show x23 (wm.mp e.symm) λx gM cv ex el=>?_;k_lt cv;show x12 (we.mp ex.symm) λcv agI fv=>?_;obtain⟨en,O5⟩:=cv;obtain rfl:O5=x:=fv;change aQ _ _ (setNextDrawn S (tD y) (tD ep)>>=_) _ _ s;rw[gN,gN];show aw (aw (wv g rfl X.fits ?_));change aQ _ _ (if(ep !=ep)=ae then _ else _) _ _ _
   rw[bne_self_eq_false,if_neg jl,agI];show aY (afh O5 gM rfl (.drawn rfl a2 rfl (by rw[<-wF,q];show el.symm)))
def VP{Q:Fin->ax->Prop}(cp:s.heap.get? it=U ⟨.type "set_iterator",aa, .fields (oC S es.size ep i bk),#[]⟩)(g:s.heap.get? S=U (eN es ep t))(ai:∀a2,bk= .ref T->oT=qc a2->s.heap.get? T=U oT)(X:ni w es t)(R:jF w S es ep t T oT i bk (x::l))
 (h:∀ag N,ag.get? it=U ⟨.type "set_iterator",aa, .fields (oC S es.size ep (i+1) N),#[]⟩->fA it s.heap ag->jF w S es ep t T oT (i+1) N l->Q (.done (.ret x)) {s with heap:=ag}):
 aQ (aN prog w) A (Builtin.«set_iterator.__next__» ⟨[.ref it], []⟩) Q E s:=by
 show IR cp g ai X R nofun nofun (λy j nx e R'=>?_) λy j e R'=>?_
 .cases e;show aw (qI (k:=0) (x:=b8 nx) cp (by simp) λm g1 f=>?_)
  show aw (qI (k:=1) (x:=b8 ((i:Int)+1)) g1 (by simp) λc g2 d=>?_)
  have g3:c.get? it=U ⟨.type "set_iterator",aa, .fields #[b8 nx,b8 ((i:Int)+1), .ref S,b8 es.size,b8 ep],#[]⟩:=by simpa using g2
  show aY (h c (b8 nx) g3 (f.trans d) R')
 .cases e;show aw (qI (k:=1) (x:=b8 ((i:Int)+1)) cp (by simp) λc g2 d=>?_)
  have g3:c.get? it=U ⟨.type "set_iterator",aa, .fields #[bk,b8 ((i:Int)+1), .ref S,b8 es.size,b8 ep],#[]⟩:=by simpa using g2
  show aY (h c bk g3 d R')
def VQ{Q:Fin->ax->Prop}(H:g_ A s.heap)(r:∀x,A.handled=U (.ref x)->x≠it)(cp:s.heap.get? it=U ⟨.type "set_iterator",aa, .fields (oC S es.size ep i bk),#[]⟩)(g:s.heap.get? S=U (eN es ep t))(j:∀a2,bk= .ref T->oT=qc a2->s.heap.get? T=U oT)
 (X:ni w es t)(R:jF w S es ep t T oT i bk [])
 (dn:∀ag e,(∀b o,b≠it->s.heap.get? b=U o->ag.get? b=U o)->(∃o,ag.get? e=U o/\o.cls= .type "StopIteration")->E (.ref e) {s with heap:=ag}):
 aQ (aN prog w) A (Builtin.«set_iterator.__next__» ⟨[.ref it], []⟩) Q E s:=by
 have ai:∀c:Heap,fA it s.heap c->aQ (aN prog w) A (x0 (.type "StopIteration") []>>=λe=>tN e) Q E {s with heap:=c}:=λc d=>by have k:∀b o,b≠it->s.heap.get? b=U o->c.get? b=U o:=λb o f e=>(d.2 b f).trans e;show qU (H.oN λx o p e=>k x o (r x p) e) λag e a b=>dn ag e (λB a4 f l=>a B a4 (k B a4 f l)) b
 show IR cp g j X R (λJ J=>?_) (λJ J=>?_) (λJ J J e=>nomatch e) λJ J e=>nomatch e
 .show aw (qI (k:=2) (x:= .none) cp (by simp) λc g1 d=>ai c d)
 .show aw (qI (k:=0) (x:=b8 0) cp (by simp) λc g1 d=>aw (qI (k:=2) (x:= .none) g1 (by simp) λn g2 m=>ai n (d.trans m)))
def VR{xs:Array Nat}{j:Nat}:∀(fl lo c:Nat),lo<=c->c<=lo+fl->(∀y,xs[c]? =U y->j<=y)->∀y,xs[zZ xs j fl lo c]? =U y->j<=y:=by
 intro fl;cases fl with
 |zero=>showλlo c i g d y e=>d y (tf i g▸e)
 |succ fl I=>
  intro lo c i g d y;change xs[if lo<c then if xs.getD ((lo+c)/2) j<j then zZ xs j fl ((lo+c)/2+1) c else zZ xs j fl lo ((lo+c)/2)else lo]? =U y->_
  by_cases k:lo<c
  .haveI M:lo<=(lo+c)/2:=(Nat.le_div_iff_mul_le Tv).mpr (Tw lo▸s1 i lo);haveI m:(lo+c)/2<c:=(FQ Tv).mpr (Tw c▸wj k c);rw[if_pos k];by_cases f:xs.getD ((lo+c)/2) j<j
   .rw[if_pos f];show I _ c m (c7 g (wr lo 1 fl▸wi (z6 M) fl)) d y
   .rw[if_neg f];show I lo _ M (zX (e2 m g)) (λz E=>?_) y;rw[Array.getD_eq_getD_getElem?,E]at f;show d_.mp f
  .rw[if_neg k];showλe=>d y (tf i (d_.mp k)▸e)
def IS{xs:Array Nat}{j y:Nat}(h:xs[iR xs j]? =U y):j<=y:=VR xs.size 0 xs.size (gD _) (te ..) (λy e=>nomatch(Array.getElem?_size (xs:=xs)).symm.trans e) y h
def ZV{pl:Array Nat}:∀(n s:Nat),(pl.toList.filter (decide<|s<=·)).length<=n->∃l,vy es pl s l/\l.length<=n/\∀x∈l,∃e∈es.toList,x=e.2:=by
 intro n;cases n with
 |zero=>
  intro s h;show⟨[], .nil λx j d c=>?_,jY _,nofun⟩
  have m:j∈pl.toList.filter (decide<|s<=·):=wC.mpr ⟨h1 (iO▸c),decide_eq_true (IS c)⟩;rw[qF.mp (AC.mp h)]at m;cases m
 |succ n i=>
  intro s h;cases g:es[iR pl s]? with
  |none=>show⟨[], .nil (λx j d J=>nomatch g.symm.trans d),gD _,nofun⟩
  |some x=>
   cases Q:pl[iR pl s]? with
   |none=>show⟨[], .nil (λx j J c=>nomatch Q.symm.trans c),gD _,nofun⟩
   |some j=>
    have p:=IS Q;have m:j∈pl.toList.filter (decide<|s<=·):=wC.mpr ⟨h1 (iO▸Q),decide_eq_true p⟩;have e:pl.toList.filter (decide<|j+1<=·)=(pl.toList.filter (decide<|s<=·)).filter (decide<|j+1<=·):=by rw[List.filter_filter];show List.filter_congr λz J=>?_;rw[<-Bool.decide_and];show decide_eq_decide.mpr ⟨λh=>⟨h,by lia⟩,λh=>h.1⟩
    have lt:(pl.toList.filter (decide<|j+1<=·)).length<(pl.toList.filter (decide<|s<=·)).length:=by rw[e,List.length_filter_lt_length_iff_exists];show⟨j,m,by simp⟩
    show x13 (i (j+1) (by lia)) λl d c k=>?_
    show⟨x.2::l, .cons g Q d,z6 c,λy f=>?_⟩;show a8 (bX.mp f) (λo=>?_) λf=>?_
    .k_lt o;show⟨x,h1 (iO▸g),rfl⟩
    .show k y f
def JN{α:Type}{next:Nat->Nat}{fl k:Nat}{l:List α}{out:Array α}:Hm next (fl+1) k l out=AP (motive:=λ_=>Array α) out (λx=>Hm next fl (k+1) (l.eraseIdx (next k % l.length)) (out.push x)) l[next k % l.length]? :=by k_go
def XT{α:Type}{next:Nat->Nat}:∀(fl k:Nat) (l:List α) (out:Array α),∃aq,(Hm next fl k l out).toList=out.toList++aq/\aq.length<=l.length/\∀x∈aq,x∈l:=by
 intro X;cases X with
 |zero=>intro k l out;show⟨[],(nO _).symm,gD _,nofun⟩
 |succ fl i=>
  intro k l out;rw[JN];cases q:l[next k % l.length]? with
  |none=>show⟨[],(nO _).symm,gD _,nofun⟩
  |some x=>
   show x13 (i (k+1) (l.eraseIdx (next k % l.length)) (out.push x)) λaq j d g=>?_
   haveI f:=(e8.mp q).1;rw[P9,if_pos f]at d;show⟨x::aq,by dsimp only;rw[j,ww,jR];rfl,P_ (jQ (gD _) f) d,λy c=>?_⟩
   show a8 (bX.mp c) (λo=>?_) λc=>?_
   .w_pre o;show h1 q
   .show PE (g y c)
inductive NA(es:Array (Int×aj))(l:List aj):Prop where
 |mk (z:l.length<=es.size) (m:∀x∈l,∃e∈es.toList,x=e.2) (o:es.size=1->l≠ [])
inductive ZW(w:b3)(S:ar)(es:Array (Int×aj))(ep:Nat)(t:SetTable)(h ag:Heap)(it:ar):Prop where
 |mk (T:ar) (oT:Obj) (bk:aj) (l:List aj) (cp:ag.get? it=U ⟨.type "set_iterator",aa, .fields (oC S es.size ep 0 bk),#[]⟩) (O4:ag.get? T=U oT) (k:∀b o,h.get? b=U o->ag.get? b=U o) (Fk:h.get? it=aa)
  (ai0:(T=S/\oT=eN es ep t)\/(h.get? T=aa/\T≠it/\∃a2,oT=qc a2)) (r:jF w S es ep t T oT 0 bk l) (o:NA es l)
def UA{T:ar}{oT:Obj}(X:ni w es t)(d:(!hQ w&&sk es t)=af):∃l,jF w S es ep t T oT 0 (b8 0) l/\NA es l:=by
 have k:t.place.size=es.size:=by have:=X.fits;simp only[SetTable.fits,lL,beq_iff_eq]at this;show this.1
 cases m:hQ w with
 |true=>
  show x13 (XT (next:=w.params.setOrder S ep) es.size 0 es.toList #[]) λn c j i=>?_
  have c:(pickOrder (w.params.setOrder S ep) es).toList=n:=c;show⟨n.map (·.2), .text m 0 rfl (by rw[Ah,c]),by rw[dC];show j,λx s=>?_,λf e=>?_⟩
  .show x12 (dy.mp s) λe o O=>?_;k_lt O;show⟨e,i e o,rfl⟩
  .show x11 (zL.mp (eo.trans f)) λy g=>?_;have:(pickOrder (w.params.setOrder S ep) es).toList= [y]:=by delta pickOrder;rw[f,g];rw[JN (fl:=0)];rw[show w.params.setOrder S ep 0 % [y].length=0 from Nat.mod_one _];rfl
   rw[F4.mp e,this]at c;cases c
 |false=>
  rw[m]at d;show x13 (ZV (es:=es) (pl:=t.place) es.size 0 (c7 (FS ..) (by rw[eo,k];show jY _))) λl c j i=>?_
  show⟨l, .slot m d 0 rfl c,j,i,λf e=>?_⟩;k_lt e;cases(c)with
  |nil h=>
   show x11 (zL.mp (eo.trans (k.trans f))) λp r=>?_;show x11 (zL.mp (eo.trans f)) λy g=>?_;have B:iR t.place 0=0:=by
    delta iR;rw[k,f];change(if 0<1 then if t.place.getD ((0+1)/2) 0<0 then _ else zZ t.place 0 0 0 ((0+1)/2)else 0)=0
    rw[if_pos Tx,if_neg (z_ _)];rfl
   show h y p ?_ ?_
   .rw[B,<-iO,g];rfl
   .rw[B,<-iO,r];rfl
def Sr{M:fa}{S:Source}{n:Nat}{Q:Nat->ax->Prop}(c:n≠0)(h:∀i,i<n->Q i {s with drawn:=s.drawn.bump S}):aQ M A (choose S n) Q E s:=λJ J J=>⟨c,h _ (kQ _ (F8 c))⟩
def Ss{M:fa}{α:Type}:∀(n:Nat) (xs:List α) (s:ax) {Q:List α->ax->Prop},(∀bD d,bD.length<=xs.length->(∀y∈bD,y∈xs)->Q bD {s with drawn:=d})->aQ M A (drawOrder n xs) Q E s:=by
 intro X;cases X with
 |zero=>intro xs s Q h;show aY (h [] s.drawn (gD _) nofun)
 |succ n I=>
  intro g s Q h;cases(g)with
  |nil=>show aY (h [] s.drawn (gD _) nofun)
  |cons x xs=>
   show aw (Sr (Nat.succ_ne_zero _) λi c=>?_);haveI e:(x::xs)[i]? =U ((x::xs)[i]):=jP c;rw[e];show aw (I ((x::xs).eraseIdx i) _ λbD d j k=>aY ?_);rw[P9,if_pos c]at j;show h _ d (z6 j) λy f=>?_;show a8 (bX.mp f) (λo=>?_) λf=>?_
   .k_lt o;show Gv c
   .show PE (k y f)
def UB:∀{a2:List Nat},(∀p∈a2,p<es.size)->∃l:List aj,a2.map (λp=>(es[p]?).map (·.2))=l.map U/\l.length=a2.length/\∀x∈l,∃e∈es.toList,x=e.2:=by
 intro X;cases X with
 |nil=>intro J;show⟨[],rfl,rfl,nofun⟩
 |cons p a2 i=>
  intro h;show x13 (i λq f=>h q (cA _ f)) λl e z m=>?_;have d:=h p (cF ..);show⟨es[p].2::l,by rw[gC,gC,e,Py d];rfl,congrArg da z,λx c=>?_⟩
  show a8 (bX.mp c) (λo=>?_) λc=>?_
  .k_lt o;show⟨es[p],F0.mpr (Gg d),rfl⟩
  .show m x c
def VS{Q:aj->ax->Prop}(g:s.heap.get? S=U (eN es ep t))(X:ni w es t)(hz:es.size<4096)
 (h:∀it ag d,ZW w S es ep t s.heap ag it->Q (.ref it) {s with heap:=ag,drawn:=d}):aQ (aN prog w) A (kZ (.ref S)) Q E s:=by
 haveI f:s.TypeIs (.ref S) "set":=⟨_,g,rfl⟩;show Gh f Rk (lK Rk f Q_ ?_ (F.args_set_iter_1 _));change aQ _ _ (ahS S>>=_) _ _ s;show aw (aw (Qn g rfl X.fits (aY ?_)));show aw (aw (wv g rfl X.fits ?_));show aw (aw (qK (aY ?_)));show aY ?_;change aQ _ _ (if(!hQ w&&sk es t)=ae then _ else _) _ _ s
 cases q: !hQ w&&sk es t with
 |false=>
  show aw (aY ?_);show aw (QI g rfl X.fits ?_);show aw (ip ?_ (by size_fits))
  show x12 (UA (S:=S) (ep:=ep) (T:=S) (oT:=eN es ep t) X q) λl r o=>?_;show aY ⟨_,rfl,"set_iterator",_,⟨_,er _ rfl,rfl⟩,qP.lookup,h _ _ s.drawn ⟨S,_,_,l,er _ rfl,c2 _ g,λb o e=>c2 _ e,iu _, .inl ⟨rfl,rfl⟩,r,o⟩⟩
 |true=>
  show aw (Ss _ _ _ λa2 d k n=>?_);rw[tb]at k;show x13 (UB (es:=es) λp u=>nP.mp (n p u)) λl e z m=>?_;show aw (ip ?_ (by change((a2.map λ(i:Nat)=>b8 i).toArray).size<=_;rw[ta,dC,ez];lia))
  show aw (QI (c2 _ g) rfl X.fits ?_);show aw (ip ?_ (by size_fits))
  haveI B:es.size≠1:=λc=>by rw[lL]at q;haveI:=q.2;simp[sk,c]at this
  show aY ⟨_,rfl,"set_iterator",_,⟨_,er _ rfl,rfl⟩,qP.lookup,h _ _ d ⟨s.heap.objs.size,qc a2, .ref s.heap.objs.size,l,er _ rfl,c2 _ (er _ rfl),λb o e=>c2 _ (c2 _ e),?_, .inr ⟨iu _,?_,a2,rfl⟩, .drawn rfl a2 rfl e,by lia,m,λc=>absurd c B⟩⟩
  .cases j:s.heap.get? (s.heap.push {cls:=nV "tuple",data:=Data.seq (a2.map λ(i:Nat)=>b8 i).toArray}).objs.size with
   |none=>rfl
   |some o=>haveI:=ee j;rw[kM]at this;show absurd (Gf this) (h3 _)
  .rw[kM];show ey (jm _)
def VT{Q:aj->ax->Prop}{o:Obj}(g:s.heap.get? it=U o)(d:o.cls= .type "set_iterator")(h:Q (.ref it) s):aQ (aN prog w) A (kZ (.ref it)) Q E s:=by haveI c:s.TypeIs (.ref it) "set_iterator":=⟨_,g,d⟩;show Gh c G3 (lK G3 c Rz ?_ (R2 _));show aY ⟨_,rfl,"set_iterator",_,c,qP.lookup,h⟩
def VU{Q:Option aj->ax->Prop}(cp:s.heap.get? it=U ⟨.type "set_iterator",aa, .fields (oC S es.size ep i bk),#[]⟩)(g:s.heap.get? S=U (eN es ep t))(d:∀a2,bk= .ref T->oT=qc a2->s.heap.get? T=U oT)(X:ni w es t)(R:jF w S es ep t T oT i bk (x::l))
 (h:∀ag N,ag.get? it=U ⟨.type "set_iterator",aa, .fields (oC S es.size ep (i+1) N),#[]⟩->fA it s.heap ag->jF w S es ep t T oT (i+1) N l->Q (U x) {s with heap:=ag}):
 aQ (aN prog w) A (pF (.ref it)) Q E s:=by
 haveI c:s.TypeIs (.ref it) "set_iterator":=⟨_,cp,rfl⟩;show aw (wI (wc (name:=bq "__next__") c qP (lK qP c GR ?_ (G2 _))));show VP cp g d X R λag N ai am R'=>⟨_,rfl,aY (h ag N ai am R')⟩
end
end
section
open PySem.SeqAt
open Mine.C (dv)
abbrev fV:=ar->Option Obj
noncomputable def aV.add(c:aV)(I:fV):aV:={c with z:={c.z with Z:=λb=>match I b with |some o=>U o |none=>c.z.Z b}}
structure di(u:bf)(c:aV)(I:fV):Prop where
 h:∀b o,I b=U o->c.z.Z b=aa/\u.H.get? b=aa/\qh o
noncomputable def one(a:ar)(o:Obj):fV:=λb=>if b=a then U o else aa
noncomputable def two(a:ar)(o:Obj)(b:ar)(p:Obj):fV:=λc=>if c=a then U o else if c=b then U p else aa
section
variable{c:aV}{s:ax}{A:b2}{E:aj->ax->Prop}{n:Nat}{I I':fV}
def pw{P:ar->Obj->Prop}(h:P a o)(b:ar)(p:Obj)(e:one a o b=U p):P b p:=by
 unfold one at e;by_cases q:b=a
 .rw[if_pos q]at e;show q.symm▸bY e▸h
 .rw[if_neg q]at e;cases e
def fE:one a o a=U o:=if_pos rfl
def px{P:ar->Obj->Prop}{a b:ar}{o p:Obj}(h:P a o)(ag:P b p)(c:ar)(q:Obj)(e:two a o b p c=U q):P c q:=by
 unfold two at e;by_cases k:c=a
 .rw[if_pos k]at e;show k.symm▸bY e▸h
 .rw[if_neg k]at e;show pw ag c q e
def rl:two a o b p a=U o:=if_pos rfl
def tS(h:a≠b):two a o b p b=U p:=(if_neg (cX h)).trans (if_pos rfl)
def VV(h:b≠a):one a o b=aa:=if_neg h
def oc(h:one a o b=aa):b≠a:=λq=>nomatch(q▸h:one b o b=aa).symm.trans fE
def q_{a b c:ar}(h:two a o b p c=aa):c≠a/\c≠b:=by
 unfold two at h;split at h
 .cases h
 .rename_i d;split at h
  .cases h
  .rename_i f;show⟨d,f⟩
def BI{a b c:ar}(h:c≠a)(ag:c≠b):two a o b p c=aa:=(if_neg h).trans (if_neg ag)
def aV.j8(h:I b=U o):(c.add I).z.Z b=U o:=by change(match I b with |some o=>U o |none=>c.z.Z b)=_;rw[h]
def aV.gq(h:I b=aa):(c.add I).z.Z b=c.z.Z b:=by change(match I b with |some o=>U o |none=>c.z.Z b)=_;rw[h]
def Rel.yL{D:ar->Prop}{Z':ar->Option Obj}(R:Rel u c Y L s)
 (k:∀b,D b->Y.own b=aa/\b≠c.env.locals/\u.H.get? b=aa/\(∀e∈c.z.cy,e.frame≠U b)/\∀q∈c.z.fw,q.1≠b)
 (l:∀b o,¬D b->s.heap.get? b=U o->ag.get? b=U o)(hz:∀b,¬D b->Z' b=c.z.Z b)(A:∀b o,D b->Z' b=U o->ag.get? b=U o):
 Rel u {c with z:={c.z with Z:=Z'}} Y L {s with heap:=ag,toks:=tk}:=by
 have n:∀b j,Y.own b=U j->∀o,s.heap.get? b=U o->ag.get? b=U o:=λb j h o=>l b o λi=>nomatch h.symm.trans (k b i).1;have v:¬D c.env.locals:=λi=>(k _ i).2.1 rfl;show⟨R.st,R.hf,λa o e=>(hz a λi=>(nomatch e.symm.trans (k a i).2.2.1)).trans (R.base a o e),λb o e=>?_,λe t=>?_,λq w=>?_,R.len,λb j e=>⟨(R.low b j e).1.imp (n b j e),(R.low b j e).2⟩,λj q e=>(R.objs j q e).at (fj _) (λb y=>⟨y,n b j y⟩) λJ=>id,R.out,?_,R.ix,(hz _ v).trans R.h7,R.iy,R.gens,R.os,R.bc.at (λJ J J=>n7) (λb j B=>n b j) ⟨rfl,rfl⟩ R.bc.here R.bc.codes⟩
 .by_cases i:D b
  .show⟨A b o i e,(k b i).1⟩
  .have E:=(hz b i).symm.trans e;show⟨l b o i (R.frozen b o E).1,(R.frozen b o E).2⟩
 .obtain⟨a,aq,o,b,g,d,f,x⟩:=R.frames e t;have p:¬D aq:=λi=>(k aq i).2.2.2.1 e t b;show⟨a,aq,o,b,l aq o p g,d,f,(hz aq p).trans x⟩
 .show x03 (R.kept q w) λO b x=>x33 O λo es ep a d r=>?_;show⟨⟨o,es,ep,l _ o (λi=>(k _ i).2.2.2.2 q w rfl) a,d,r⟩,b,x⟩
 .show x12 R.here λm O f=>x33 O λo es ep a d r=>?_;show⟨m,⟨o,es,ep,l _ o v a,d,r⟩,f⟩
def Rel.EK{D:ar->Prop}{Z':ar->Option Obj}(R:Rel u c Y L s)
 (f:∀b,D b->Y.own b=aa/\b≠c.env.locals/\u.H.get? b=aa/\∀o,s.heap.get? b=U o->qh o)
 (j:∀b o,¬D b->s.heap.get? b=U o->ag.get? b=U o)(hz:∀b,¬D b->Z' b=c.z.Z b)(m:∀b o,D b->Z' b=U o->ag.get? b=U o):
 Rel u {c with z:={c.z with Z:=Z'}} Y L {s with heap:=ag,toks:=tk}:=R.yL (λb i=>⟨(f b i).1,(f b i).2.1,(f b i).2.2.1,λe k q=>by
  obtain⟨J,aq,o,B,g,⟨J,J,d⟩,J⟩:=R.frames e k;obtain rfl:aq=b:=bY (B.symm.trans q);show(f _ i).2.2.2 o g _ _ d,λq l e=>by
  show x02 (R.kept q l) λO J=>x33 O λo es ep a d r=>?_;show(f b i).2.2.2 o (e▸a) _ _ d⟩) j hz m
def Rel.ed(R:Rel u (c.add I) Y L s)(D:di u c I)(h:I b=U o):s.heap.get? b=U o/\Y.own b=aa/\b≠c.env.locals/\u.H.get? b=aa/\qh o:=by show x02 (R.frozen b o (aV.j8 h)) λa B=>⟨a,B,λq=>(nomatch(aV.j8 h).symm.trans ((congrArg _ q).trans R.h7)),(D.h b o h).2⟩
def Rel.step(R:Rel u (c.add I) Y L s)(D:di u c I)(i:∀b,I b=aa->I' b=aa)(f:∀b o,I b=aa->s.heap.get? b=U o->ag.get? b=U o)
 (g:∀b o,I' b=U o->ag.get? b=U o):Rel u (c.add I') Y L {s with heap:=ag,toks:=tk}:=by
 have cm:∀b,¬I b≠aa->I b=aa:=λb=>QJ.mp;show R.EK (D:=λb=>I b≠aa) (λb d=>?_) (λb o d=>f b o (cm b d)) (λb d=>((aV.gq (c:=c) (i b (cm b d))).trans (aV.gq (cm b d)).symm:)) λb o d e=>?_
 .show x11 (zF.mp d) λo q=>x05 (R.ed D q) λau ak k A j=>?_;show⟨ak,k,A,λa4 e=>by rw[au]at e;cases e;show j⟩
 .cases q:I' b with
  |some a4=>obtain rfl:a4=o:=bY ((aV.j8 (c:=c) q).symm.trans e);show g b _ q
  |none=>show x11 (zF.mp d) λa4 Q=>nomatch(D.h b a4 Q).1.symm.trans ((aV.gq (c:=c) q).symm.trans e)
def Rel.done(R:Rel u (c.add I) Y L s)(D:di u c I)(d:∀b o,I b=aa->s.heap.get? b=U o->ag.get? b=U o):Rel u c Y L {s with heap:=ag,toks:=tk}:=R.step (I':=λJ=>aa) D (λJ J=>rfl) d λJ J=>nofun
inductive y8(a:ar)(I:fV)(T:String)(vs:Array aj):Prop where
 |mk (o:Obj) (cN:o.cls= .type T) (hd:o.data= .fields vs) (e:I=one a o)
inductive afj(ah:dr)(a:ar)(I:fV)(i k m:Nat):Prop where
 |mk (p:ar×ar) (b:ar) (o:Obj) (old:aj) (em:m=k) (ne:a≠b) (h:br ah i p) (cN:o.cls= .type "list_iterator") (hd:o.data= .fields #[.ref p.1, .int k 0])
  (e:I=two a {cls:= .type "enumerate",dict:=aa,data:= .fields #[.none, .bool af, .ref b,b8 m, .none,old],slots:=#[]} b o)
noncomputable def lc(a:ar)(lD:Obj)(S:ar)(a7:Obj)(T:ar)(oT:Obj):fV:=λb=>if b=a then U lD else if b=S then U a7 else if b=T then U oT else aa
inductive afk(u:bf)(ah:dr)(a:ar)(I:fV)(l:List a3):Prop where
 |mk (S:ar) (es:Array (Int×aj)) (ep:Nat) (t:SetTable) (T:ar) (oT:Obj) (i:Nat) (bk:aj) (ws:List aj) (e:I=lc a ⟨.type "set_iterator",aa, .fields (oC S es.size ep i bk),#[]⟩ S (eN es ep t) T oT) (qr:S≠a) (vR:T≠a)
  (zx:T=S->oT=eN es ep t) (X:ni u.w es t) (r:jF u.w S es ep t T oT i bk ws) (al:bI (az u ah) l ws)
section
variable{a S T:ar}{lD a7 oT:Obj}
def pT:lc a lD S a7 T oT a=U lD:=if_pos rfl
def CT(h:S≠a):lc a lD S a7 T oT S=U a7:=(if_neg h).trans (if_pos rfl)
def CU(h:T≠a)(ag:T=S->oT=a7):lc a lD S a7 T oT T=U oT:=(if_neg h).trans (by
 by_cases q:T=S
 .rw[if_pos q,ag q]
 .rw[if_neg q,if_pos rfl])
def xR{P:ar->Obj->Prop}(f:P a lD)(d:P S a7)(c:P T oT)(b:ar)(o:Obj)(e:lc a lD S a7 T oT b=U o):P b o:=by
 unfold lc at e;by_cases k:b=a
 .rw[if_pos k]at e;show k.symm▸bY e▸f
 .rw[if_neg k]at e;show px d c b o e
def tJ(h:lc a lD S a7 T oT b=aa):b≠a:=λq=>nomatch(q▸h:lc b lD S a7 T oT b=aa).symm.trans pT
def XU(h:lc a lD S a7 T oT b=aa):lc a e S a7 T oT b=aa:=(if_neg (tJ h)).trans ((if_neg (tJ h)).symm.trans h)
end
def fg(u:bf)(ah:dr)(a:ar)(I:fV):dv->Option Nat->Prop
 | .eZ n x st,aa=>I=one a {cls:= .type "range_iterator",dict:=aa,data:= .fields #[b8 x,b8 n,b8 st],slots:=#[]}
 | .seq i k,aa=>∃p,br ah i p/\y8 a I "list_iterator" #[.ref p.1, .int k 0]
 | .seq i k,U m=>afj ah a I i k m
 | .ij i k,aa=>∃p,br ah i p/\y8 a I "tuple_iterator" #[.ref p.1, .int k 0]
 | .hO i k,aa=>∃p,br ah i p/\y8 a I "list_reverseiterator" #[.ref p.1,b8 ((k:Int) - 1)]
 | .aZ n x,aa=>∃A t pos,y8 a I "bytes_iterator" #[.bytes A t, .int (pos:Nat) 0]/\A.size=pos+n/\∀i b,A[pos+i]? =U b->kA u (C.dc x i) b
 | .st l,aa=>afk u ah a I l
 |_,_=>False
def fg.bR(h:ah<+:F)(x:fg u ah a I it e):fg u F a I it e:=by
 cases it with
 |eZ=>cases e<;>show x
 |seq=>cases e with
  |none=>show x.imp λp q=>⟨eI h q.1,q.2⟩
  |some m=>obtain⟨p,b,o,O,r,a,d,f,g,i⟩:=x;show⟨p,b,o,O,r,a,eI h d,f,g,i⟩
 |ij=>cases e with
  |none=>show x.imp λp q=>⟨eI h q.1,q.2⟩
  |some m=>show x
 |hO=>cases e with
  |none=>show x.imp λp q=>⟨eI h q.1,q.2⟩
  |some m=>show x
 |aZ=>cases e<;>show x
 |st=>cases e with
  |none=>obtain⟨S,es,ep,t,T,oT,i,bk,ws,e,n,c,j,X,r,A⟩:=x;show⟨S,es,ep,t,T,oT,i,bk,ws,e,n,c,j,X,r,A.bR λJ J=>az.bR h⟩
  |some m=>show x
def Act.hd(ac:Act c A sc n)(R:Rel u (c.add I) Y L s)(D:di u c I):g_ A s.heap/\∀x,A.handled=U (.ref x)->I x=aa:=by
 rcases ac.hand with h | ⟨_,x,o,vs,a,b,d⟩
 .show⟨.inl h,λx f=>nomatch h.symm.trans f⟩
 .have f:I x=aa:=by
   cases q:I x with
   |none=>rfl
   |some a4=>show nomatch b.symm.trans (D.h x a4 q).1
  show⟨.inr ⟨x,o,vs,a,(R.frozen x o ((aV.gq f).trans b)).1,d⟩,λy g=>?_⟩;rw[a]at g;cases g;show f
def bI.none{α bA:Type}{r:α->bA->Prop}{l:List α}{m:List bA}(h:bI r l m){i:Nat}(e:l[i]? =aa):m[i]? =aa:=FE.mpr (h.length▸FE.mp e)
inductive ot(h:cS):dv->Prop where
 |eZ {a s:Int}:ot h (.eZ 0 a s)
 |seq {i k:Nat} {l:List a3} (q:h.get i= .list l) (e:l[k]? =aa):ot h (.seq i k)
 |ij {i k:Nat} {l:List a3} (q:h.get i= .tup l) (e:l[k]? =aa):ot h (.ij i k)
 |hO {i:Nat}:ot h (.hO i 0)
 |aZ {x:Nat}:ot h (.aZ 0 x)
 |st:ot h (.st [])
inductive lX(lf:List Int)(h:cS):dv->a3->dv->Prop where
 |eZ {n:Nat} {a s:Int}:lX lf h (.eZ (n+1) a s) (.int a) (.eZ n (a+s) s)
 |seq {i k:Nat} {l:List a3} {v:a3} (q:h.get i= .list l) (e:l[k]? =U v):lX lf h (.seq i k) v (.seq i (k+1))
 |ij {i k:Nat} {l:List a3} {v:a3} (q:h.get i= .tup l) (e:l[k]? =U v):lX lf h (.ij i k) v (.ij i (k+1))
 |hO {i k:Nat} {l:List a3} {v:a3} (q:h.get i= .list l) (e:l[k]? =U v):lX lf h (.hO i (k+1)) v (.hO i k)
 |aZ {n x:Nat} {v:a3} (e:C.p3 lf (x % 1024)=U v):lX lf h (.aZ (n+1) x) v (.aZ n (x/1024))
 |st {v:a3} {l:List a3}:lX lf h (.st (v::l)) v (.st l)
def Ib{P:bl->Prop}{lf:List Int}{h:cS}(S:∀k,P (.stuck k))(hf:ot h it->P fin)(c:∀v F,lX lf h it v F->P (item v F)):P (n9 lf h it fin item):=by
 have A:∀{l:List a3} {k:Nat} {F:dv} {z:bl},(l[k]? =aa->P z)->(∀v,l[k]? =U v->P (item v F))->P (C.t7 l k F z item):=by
  intro l k F z d f;delta C.t7;rw[C.hq];cases q:l[k]? with
  |none=>show d q
  |some v=>show f v q
 cases it with
 |eZ n a s=>cases n with
  |zero=>show hf .eZ
  |succ n=>change P (C.lu (C.l7 a s) λb=>item (.int a) (.eZ n b s));rw[C.pJ,C.tP];show c _ _ .eZ
 |seq i k=>show C.j0 (λl q=>A (λe=>hf (.seq q e)) λv e=>c _ _ (.seq q e)) (S _)
 |ij i k=>show C.ri (λl q=>A (λe=>hf (.ij q e)) λv e=>c _ _ (.ij q e)) (S _)
 |hO i k=>cases k with
  |zero=>show hf .hO
  |succ k=>show C.j0 (λl q=>A (λe=>S _) λv e=>c _ _ (.hO q e)) (S _)
 |aZ n x=>cases n with
  |zero=>show hf .aZ
  |succ n=>
   change P (C.du (ef x 1024) λy=>C.a7 (C.p3 lf (eJ x 1024)) 42 λv=>item v (.aZ n y));rw[C.eX];cases q:C.p3 lf (eJ x 1024)with
   |none=>show S _
   |some v=>show c _ _ (.aZ q)
 |st l=>cases l with
  |nil=>show hf .st
  |cons v l=>show c _ _ .st
def Bf{a:ar}{it:dv}{e:Option Nat}(R:Rel u (c.add I) Y L s)(ac:Act c A sc n)(D:di u c I)(O:fg u Y.ah a I it e)(bD:ot L.h it):
 aQ u.M A (pF (.ref a)) (λr an=>r=aa/\Rel u c Y L an) E s:=by
 show x02 (ac.hd R D) λH B=>?_;haveI w:∀(ag:Heap) (P:ar->Prop),(∀b o,¬P b->s.heap.get? b=U o->ag.get? b=U o)->(∀b,I b=aa->¬P b)->Rel u c Y L {s with heap:=ag}:=λag P k M=>R.done D λb o f e=>k b o (M b f) e
 haveI ai:∀{l:List a3} {ws:Array aj} {k:Nat},bI (az u Y.ah) l ws.toList->l[k]? =aa->ws[k]? =aa:=λt q=>by rw[<-iO];show t.none q
 cases bD with
 |eZ=>cases e with
  |some m=>show O.elim
  |none=>
   obtain rfl:I=one a _:=O;haveI g:=(R.ed D fE).1;show mK ⟨_,g,rfl⟩ F.slot_range_iterator_next F.entry_range_iterator_next (F.args_range_iterator_next_1 _)
    (TP (A:=A.in1) H g (by x_go) λag e k x=>⟨e,rfl,x,rfl,w ag (λJ=>False) (λb o J=>k b o) λJ J=>id⟩)
 | @seq i k l q Q=>cases e with
  |none=>
   obtain⟨p,z,o,j,d,rfl⟩:=O;obtain⟨ws,dM,g2,y,J⟩:=R.at z q;haveI cZ:s.heap.IsListIter a p.1 k:=⟨o,(R.ed D fE).1,j,d⟩;show mK cZ.typeIs zU F3 (Ga _)
    (AY (A:=A.in1) H (λx v=>oc (B x v)) cZ ⟨_,g2.g,rfl,_,rfl⟩ (ai y Q) λag e k x=>⟨e,rfl,x,rfl,w ag (λb=>b=a) k λb f=>oc f⟩)
  |some m=>
   obtain⟨p,b,o,Z,rfl,K,z,j,d,rfl⟩:=O;obtain⟨ws,dM,g2,y,J⟩:=R.at z q;haveI cZ:s.heap.IsListIter b p.1 m:=⟨o,(R.ed D (tS K)).1,j,d⟩;haveI aI:=(R.ed D rl).1;show mK ⟨_,aI,rfl⟩ F.slot_enumerate_next F.entry_enumerate_next (F.args_enumerate_next_1 _)
    (Uz (A:=A.in1) H (λx v=>(q_ (B x v)).2) aI cZ ⟨_,g2.g,rfl,_,rfl⟩ (ai y Q) λag e k x=>⟨e,rfl,x,rfl,w ag (λc=>c=b) k λx h=>(q_ h).2⟩)
 | @ij i k l q Q=>cases e with
  |none=>
   obtain⟨p,z,o,j,d,rfl⟩:=O;obtain⟨ws,dM,g2,y,J⟩:=R.at z q;haveI cZ:IC s.heap a p.1 k:=⟨o,(R.ed D fE).1,j,d⟩;show mK cZ.typeIs F5 Qa (Qo _)
    (HN (A:=A.in1) H (λx v=>oc (B x v)) cZ ⟨_,g2.g,rfl,_,rfl⟩ (ai y Q) λag e k x=>⟨e,rfl,x,rfl,w ag (λb=>b=a) k λb f=>oc f⟩)
  |some m=>show O.elim
 |hO=>cases e with
  |some m=>show O.elim
  |none=>
   obtain⟨p,z,o,j,d,rfl⟩:=O;haveI cZ:s.heap.IsRevIter a p.1 (-1):=⟨o,(R.ed D fE).1,j,d⟩;show mK cZ.typeIs F.slot_lri_next F.entry_lri_next (F.args_lri_next_1 _)
    (VO (A:=A.in1) H cZ λag e k x=>⟨e,rfl,x,rfl,w ag (λJ=>False) (λb o J=>k b o) λJ J=>id⟩)
 |aZ=>cases e with
  |some m=>show O.elim
  |none=>
   show x33 O λV t pos bN hz J=>?_;obtain⟨o,j,d,rfl⟩:=bN;haveI cZ:Rj s.heap a V t pos:=⟨o,(R.ed D fE).1,j,d⟩;show mK (KBw.iter_typeIs cZ) KBw.slot_next KBw.entry_next (KBw.args_next _)
    (TO (A:=A.in1) H (λx v=>oc (B x v)) cZ (by rw[Array.getElem?_eq_none_iff];lia) λag e k x=>⟨e,rfl,x,rfl,w ag (λb=>b=a) k λb f=>oc f⟩)
 |st=>cases e with
  |some m=>show O.elim
  |none=>
   obtain⟨S,es,ep,t,T,oT,i,bk,ws,rfl,W,N,aq,X,r,y⟩:=O;cases y;haveI cp:=(R.ed D pT).1;show mK ⟨_,cp,rfl⟩ qP GR (G2 _)
    (VQ (A:=A.in1) H (λx v=>tJ (B x v)) cp (R.ed D (CT W)).1 (λJ J J=>(R.ed D (CU N aq)).1) X r λag e k x=>⟨e,rfl,x,rfl,w ag (λb=>b=a) k λb f=>tJ f⟩)
def tT{a:ar}(D:di u c I)(h:I a=U o)(d:a4.data= .fields vs):di u c (one a a4):=⟨pw ⟨(D.h a o h).1,(D.h a o h).2.1,g4 d⟩⟩
def tK{a:ar}{o a4:Obj}(R:Rel u (c.add (one a o)) Y L s)(D:di u c (one a o))(am:fA a s.heap ag)(f:ag.get? a=U a4):Rel u (c.add (one a a4)) Y L {s with heap:=ag,toks:=tk}:=R.step D (λb d=>VV (oc d)) (λb q d e=>(am.2 b (oc d)).trans e) (pw f)
inductive CV(u:bf)(c:aV)(Y:b1)(L:bU)(a:ar)(vz:dv)(v:a3)(r:Option aj)(an:ax):Prop where
 |mk (w:aj) (I':fV) (e:r=U w) (D:di u c I') (O:fg u Y.ah a I' vz aa) (R:Rel u (c.add I') Y L an) (dY:az u Y.ah v w)
def CV.go{Q:Option aj->Prop}(x:CV u c Y L a i v r s)(k:∀w I,di u c I->fg u Y.ah a I i aa->Rel u (c.add I) Y L s->az u Y.ah v w->Q (U w)):Q r:=by obtain⟨w,I,e,d,o,R,h⟩:=x;k_lt e;show k w I d o R h
def Ce{m:Sem bA}{P:ax->Prop}(h:aQ M A m (λq s=>q=v/\P s) E s)(k:∀s,P s->Q v s):aG M A m Q E s:=a0 (bo h) (λq s x=>x.1▸k s x.2) λJ J x=>x
def IT{m:Sem (Option bA)}{P:bA->ax->Prop}(h:aQ M A m (λq s=>∃w,q=U w/\P w s) E s)(k:∀w s,P w s->Q (U w) s):aG M A m Q E s:=a0 (bo h) (λq s x=>x11 x λw x=>x.1▸k w s x.2) λJ J x=>x
def next_item(R:Rel u (c.add I) Y L s)(D:di u c I)(O:fg u Y.ah a I it aa)(hZ:lX u.ao.lf L.h it v bN):
 aQ u.M A (pF (.ref a)) (CV u c Y L a bN v) E s:=by
 have M:∀{l:List a3} {ws:Array aj} {k:Nat} {v:a3},bI (az u Y.ah) l ws.toList->l[k]? =U v->∃w,ws[k]? =U w/\az u Y.ah v w:=λt q=>by show x12 (t.get q) λw h g=>⟨w,iO▸h,g⟩
 cases hZ with
 | @eZ m x st=>
  obtain rfl:I=one a _:=O;show wpAny_pyNext_range_item (R.ed D fE).1 (by lia) λag cZ am=>?_
  rw[show((m+1:Nat):Int) - 1=(m:Int) by lia]at cZ
  show⟨_,_,rfl,tT D fE rfl,rfl,tK R D am cZ,_,rfl⟩
 |seq q Q=>obtain⟨p,y,o,B,n,rfl⟩:=O;obtain⟨ws,dM,g2,j,J⟩:=R.at y q;show x12 (M j Q) λw hw g=>FO ⟨o,(R.ed D fE).1,B,n⟩ ⟨_,g2.g,rfl,_,rfl⟩ hw λag ac am=>?_;show x13 ac λa4 ai z f=>⟨w,_,rfl,tT D fE f,⟨p,y,a4,z,f,rfl⟩,tK R D am ai,g⟩
 |ij q Q=>obtain⟨p,y,o,B,n,rfl⟩:=O;obtain⟨ws,dM,g2,j,J⟩:=R.at y q;show x12 (M j Q) λw hw g=>next_tuple_item ⟨o,(R.ed D fE).1,B,n⟩ ⟨_,g2.g,rfl,_,rfl⟩ hw λag ac am=>?_;show x13 ac λa4 ai z f=>⟨w,_,rfl,tT D fE f,⟨p,y,a4,z,f,rfl⟩,tK R D am ai,g⟩
 | @hO i k l v q Q=>
  obtain⟨p,y,o,B,n,rfl⟩:=O;obtain⟨ws,dM,g2,j,J⟩:=R.at y q;rw[show((k+1:Nat):Int) - 1=(k:Int) by lia]at n
  show x12 (M j Q) λw hw g=>wpAny_pyNext_rev_item ⟨o,(R.ed D fE).1,B,n⟩ ⟨_,g2.g,rfl,_,rfl⟩ hw λag ac am=>?_;show x13 ac λa4 ai z f=>⟨w,_,rfl,tT D fE f,⟨p,y,a4,z,f,rfl⟩,tK R D am ai,g⟩
 | @aZ m x v q=>
  show x33 O λV t pos Z hz aq=>?_;obtain⟨o,B,n,rfl⟩:=Z;show x11 (⟨V[pos]'(by lia),by simp⟩:∃d,V[pos]? =U d) λd N=>KBw.next_item ⟨o,(R.ed D fE).1,B,n⟩ N λag ac am=>?_
  show x13 ac λa4 ai z f=>⟨_,_,rfl,tT D fE f,⟨V,t,pos+1,⟨a4,z,by simpa using f,rfl⟩,by lia,λi b e=>?_⟩,tK R D am ai,?_⟩
  .show xA x i▸aq (i+1) b (by rw[<-e];congr 1;lia)
  .have:=aq 0 d N;rw[C.j3,nR,nS]at this;show JI _ q this
 |st=>
  obtain⟨S,es,ep,t,T,oT,i,bk,ws,rfl,aI,K,W,X,r,j⟩:=O;cases(j)with
  | @cons _ w _ ws g j=>have F:=(R.ed D (CT aI)).1;have H:=(R.ed D (CU K W)).1;show VU (R.ed D pT).1 F (λJ J J=>H) X r λag agJ ai P bD=>⟨w,_,rfl,⟨xR ⟨(D.h _ _ pT).1,(D.h _ _ pT).2.1,g4 rfl⟩ (D.h _ _ (CT aI)) (D.h _ _ (CU K W))⟩,⟨S,es,ep,t,T,oT,i+1,agJ,ws,rfl,aI,K,W,X,bD,j⟩,R.step (tk:=s.toks) D (λb e=>XU e) (λb o e q=>(P.2 b (tJ e)).trans q) (xR ai ((P.2 _ aI).trans F) ((P.2 _ K).trans H)),g⟩
def od(e:aT):Bool:=eR e 25
def IU(g:s.heap.get? a=U o)(f:o.cls= .type T)(d:o.data= .fields vs)
 (c: ["enumerate","zip","dict_itemiterator","dict_reverseitemiterator","odict_iterator","itertools.zip_longest","itertools.pairwise"].contains T=af)(h:Q () s):
 aQ M A (wB t (.ref a) w) Q E s:=by
 have k:aQ M A (do
  let(.ref r, .ref b):=(eU a,w) |return
  let o<-load r
  match o.cls,o.data with
  | .type n, .fields vs=>
   if ["enumerate","zip","dict_itemiterator","dict_reverseitemiterator","odict_iterator","itertools.zip_longest","itertools.pairwise"].contains n&&vs[0]? ==U (b8 b)then
    md "for.unpacks-the-owned-tuple"
    updateField r 0 .none
  |_,_=>pure ()) Q E s:=by
  cases w with
  |ref b=>show aw (lP g ?_);rw[f,d];dsimp only;rw[c,Bool.false_and,if_neg jl];show aY h
  |_=>show aY h
 cases t<;>first |show k |show aY h
def JO{a b:ar}(D:di u c (two a o b p))(d:a≠b)(f:a4.data= .fields vs)(g:p'.data= .fields ws):di u c (two a a4 b p'):=haveI x:=D.h a o rl
 haveI y:=D.h b p (tS d)
 ⟨px ⟨x.1,x.2.1,g4 f⟩ ⟨y.1,y.2.1,g4 g⟩⟩
def IV{a b:ar}{o a4 p p':Obj}(R:Rel u (c.add (two a o b p)) Y L s)(D:di u c (two a o b p))(f:∀c q,c≠a->c≠b->s.heap.get? c=U q->ag.get? c=U q)
 (g:ag.get? a=U a4)(i:ag.get? b=U p'):Rel u (c.add (two a a4 b p')) Y L {s with heap:=ag,toks:=tk}:=R.step D (λc d=>BI (q_ d).1 (q_ d).2) (λc q d e=>f c q (q_ d).1 (q_ d).2 e) (px g i)
inductive ab1(u:bf)(c:aV)(Y:b1)(L:bU)(a:ar)(vz:dv)(m:Nat)(v:a3)(w:aj)(an:ax):Prop where
 |mk (aE:b1) (I':fV) (D:di u c I') (O:fg u aE.ah a I' vz (U (m+1))) (le:Y.dL aE) (R:Rel u (c.add I') aE ⟨L.h.st (.tup [.int m,v]) L.nx,L.nx+1,L.fr,L.hf⟩ an) (dY:az u aE.ah (.ref L.nx) w)
def UC{a:ar}{it ac:dv}{v:a3}{m:Nat}(R:Rel u (c.add I) Y L s)(D:di u c I)(O:fg u Y.ah a I it (U m))(hZ:lX u.ao.lf L.h it v ac):
 aQ u.M A (pF (.ref a)) (λr an=>∃w,r=U w/\∀t,od t=ae->aQ u.M A (wB t (.ref a) w) (λJ N=>ab1 u c Y L a ac m v w N) E an) E s:=by
 cases hZ with
 | @seq i k l v q aq=>
  obtain⟨p,b,o,old,rfl,d,Q,Z,X,rfl⟩:=O;obtain⟨ws,dM,g2,bD,J⟩:=R.at Q q;have z:=(R.ed D rl).1;have ai:=(R.ed D (tS d)).1;show x12 (bD.get aq) λw hw H=>wpAny_pyNext_enum_item z ⟨o,ai,Z,X⟩ ⟨_,g2.g,rfl,_,rfl⟩ (iO▸hw) d λag S adI K hsz V=>?_;show x13 adI λa4 bN W y=>⟨_,rfl,λt jN=>?_⟩;have fr:=R.fresh (iu s.heap);have aI:Rel u (c.add (two a _ b a4)) Y L {s with heap:=ag,toks:=s.toks+1}:=IV R D (λc q j P e=>V c q j P e) S bN
  have f:=JO (a4:={cls:= .type "enumerate",dict:=aa,data:= .fields #[b8 s.heap.objs.size, .bool af, .ref b,b8 ((m:Int)+1), .none,w],slots:=#[]}) (p':=a4) D d rfl y;have n:∀{x:ar} {o:Obj},s.heap.get? x=U o->s.heap.objs.size≠x:=λg q=>h3 _ (q▸ee g);have kq:¬eb (c.add (two a {cls:= .type "enumerate",dict:=aa,data:= .fields #[b8 s.heap.objs.size, .bool af, .ref b,b8 ((m:Int)+1), .none,w],slots:=#[]} b a4)) s.heap.objs.size:=λh=>fr.2.1 (h.imp (λaD=>aD.casesOn λx h=>⟨x,(aV.gq (BI (n z) (n ai))).trans ((aV.gq (c:=c) (BI (n z) (n ai))).symm.trans h)⟩) id)
  have B:=aI.pM (a4:= .tup [.int m,v]) K fr.1 kq ⟨_,_,⟨gO,K⟩, .cons ⟨_,rfl⟩ (.cons (H.bR (eS _ _)) .nil),(show 2<=5000 by x_go)⟩
  have M:=(B.ed f rl).1;cases(t)with
  |Tuple=>
   show aw (lP M ?_);dsimp only;rw[if_pos (by simp)]
   show aw (iU ?_);show qI (k:=0) (x:= .none) M (by simp) λaiO F am=>?_
   have T:=IV (tk:=s.toks+1) B f (λc q j P e=>(am.2 c j).trans e) F ((am.2 b (cX d)).trans (B.ed f (tS d)).1);show⟨⟨_,_⟩,_,JO f d rfl y,⟨p,b,a4,w,rfl,d,eI (eS _ _) Q,W,by simpa using y,by simp⟩,eS _ _,T,aI.n4⟩
  |_=>show nomatch jN
 |_=>show O.elim
def Rel.uf(R:Rel u c Y L s)(h:∀b o,I b=U o->s.heap.get? b=U o/\Y.own b=aa/\b≠c.env.locals/\u.H.get? b=aa/\qh o):
 Rel u (c.add I) Y L s:=by
 show R.EK (D:=λb=>I b≠aa) (Z':=(c.add I).z.Z) (ag:=s.heap) (tk:=s.toks) (λb d=>?_) (λb o J e=>e) (λb d=>aV.gq (QJ.mp d)) λb o d e=>?_
 .show x11 (zF.mp d) λo q=>x05 (h b o q) λau ak g A f=>?_;show⟨ak,g,A,λa4 e=>by rw[au]at e;cases e;show f⟩
 .show x11 (zF.mp d) λa4 q=>bY ((aV.j8 q).symm.trans e)▸(h b _ q).1
def Rel.ab2(R:Rel u c Y L s){o:Obj}(d:o.data= .fields vs):Rel u (c.add (one s.heap.objs.size o)) Y L {s with heap:=s.heap.push o,toks:=tk}/\di u c (one s.heap.objs.size o):=by
 haveI fr:=R.fresh (iu s.heap);show x13 R.fr λm F N J=>?_;haveI g:(s.heap.push o).get? s.heap.objs.size=U o:=er _ (qG d);haveI r:Rel u c Y L {s with heap:=s.heap.push o,toks:=tk}:=R.yK (xg F (F.push _) (A8 F N _ (qG d)) λb a4 J f=>cA _ f)
 show⟨r.uf (pw ⟨g,fr.1,eb.ne fr.2.1,fr.2.2,g4 d⟩),⟨pw ⟨eb.z fr.2.1,fr.2.2,g4 d⟩⟩⟩
def JP{a b s:Int}(am:0<s):(C.p4 a b s:Int)=wd a b s:=by
 delta wd;rw[if_pos am];show x11 (Int.eq_succ_of_zero_lt am:∃an:Nat,s=((an+1:Nat):Int)) λan o=>?_;k_lt o;delta C.p4;haveI e:xK b a=b - a:=rfl;rw[e];cases q:b - a with
 |ofNat d=>
  change((ef (fN d an) (da an):Nat):Int)=_;haveI g:ef (fN d an) (da an)=(d+an)/(an+1):=rfl;rw[g];haveI Q:b - a=(d:Int):=q;cases d with
  |zero=>rw[if_neg (by lia),kN,QV (jm _)];rfl
  |succ d=>
   rw[if_pos (by lia)]
   haveI f:((d+1:Nat):Int) - 1=(d:Int):=by lia
   haveI c:d+1+an=d+(an+1):=by lia
   rw[show(kT (d+1):Int)=((d+1:Nat):Int)from rfl,f,c,Nat.add_div_right _ (wO _)];rw[Rl,Int.natCast_ediv];rfl
 |negSucc d=>
  haveI Q:b - a<0:=by rw[q];show qH d
  rw[if_neg (by lia)];rfl
def BJ{Q:aj->ax->Prop}(R:Rel u c Y L s){v:a3}(M:az u Y.ah v w):cW (pI v L k)->
 (∀a I it e bH aE an,bH.fr=L.fr->Y.dL aE->di u c I->fg u aE.ah a I it e->Rel u (c.add I) aE bH an->pI v L k=k it e bH->Q (.ref a) an)->aQ u.M A (kZ w) Q E s:=by
 let P:bl->Prop:=λr=>cW r->(∀a I it e bH aE an,bH.fr=L.fr->Y.dL aE->di u c I->fg u aE.ah a I it e->Rel u (c.add I) aE bH an->r=k it e bH->Q (.ref a) an)->aQ u.M A (kZ w) Q E s
 have S:∀n,P (.stuck n):=λn h=>absurd rfl (h n);have ai:∀{o:Obj} {vs:Array aj} {it:dv} {tk:Nat},(∀a I K e bH aE an,bH.fr=L.fr->Y.dL aE->di u c I->fg u aE.ah a I K e->Rel u (c.add I) aE bH an->k it aa L=k K e bH->Q (.ref a) an)->o.data= .fields vs->fg u Y.ah s.heap.objs.size (one s.heap.objs.size o) it aa->
  Q (.ref s.heap.objs.size) {s with heap:=s.heap.push o,toks:=tk}:=λf x O=>by
  obtain⟨T,X⟩:=R.ab2 x;show f _ _ _ _ L Y _ rfl (.refl _) X O T rfl
 show C.e9 (P:=P) (λi e=>?_) (C.nc (P:=P) (λy e J f=>?_) (S _))
 .k_lt e;obtain⟨p,z,rfl⟩:=M;have nK:∀b,Y.own b=U i->c.z.Z b=aa:=λb B=>by
   cases q:c.z.Z b with
   |none=>rfl
   |some o=>show nomatch B.symm.trans (R.frozen b o q).2
  show C.j0 (P:=P) (λl q J f=>?_) (C.ri (P:=P) (λl q J f=>?_) (C.Jx (P:=P) (λa b d q=>?_) (C.Vw (P:=P) (λj q J f=>?_) (C.Xm (P:=P) (λj m q J f=>?_) (S _)))))
  .obtain⟨ws,dM,g,J⟩:=R.at z q;show Gi ⟨_,g.g,rfl,_,rfl⟩ (ai (tk:=s.toks) f rfl ⟨p,z,_,rfl,rfl,rfl⟩)
  .obtain⟨ws,dM,g,J⟩:=R.at z q;show iter_tuple ⟨_,g.g,rfl,_,rfl⟩ (ai (tk:=s.toks) f rfl ⟨p,z,_,rfl,rfl,rfl⟩)
  .rw[C.eX];intro J f;obtain⟨t,aU,F,am,J,W,g⟩:=R.at z q;show wpAny_pyIter_range g.g am (ai (tk:=s.toks) (it:= .eZ (C.p4 a b d) a d) f rfl (by rw[<-JP W];rfl))
  .obtain⟨r,o,V,D,ac,x,g2,g1⟩:=R.at z q;have aI:=(R.drop (R.low _ _ g1.w).2 (by rw[q];nofun)).uf (I:=two p.1 {cls:= .type "enumerate",dict:=aa,data:= .fields #[.none, .bool af, .ref p.2,b8 0, .none, .none],slots:=#[]} p.2 o) (px ⟨g1.g,qS g1.w,R.loc g1.w,l4 R g1.w,g4 rfl⟩ ⟨g2.g,qS g2.w,R.loc g2.w,l4 R g2.w,g4 x⟩)
   show wpAny_pyIter_enum g1.g (f p.1 _ (.seq j 0) (U 0) ⟨L.h.st .nul i,L.nx,L.fr,L.hf⟩ ⟨Y.ah,h8 Y.own i⟩ _ rfl (fj _) ⟨px ⟨nK _ g1.w,l4 R g1.w,g4 rfl⟩ ⟨nK _ g2.w,l4 R g2.w,g4 x⟩⟩ ⟨r,p.2,o, .none,rfl,V,D,ac,x,rfl⟩ aI (C.gP ..))
  .obtain⟨r,o,D,ac,x,g1⟩:=R.at z q;have aI:=(R.drop (R.low _ _ g1.w).2 (by rw[q];nofun)).uf (I:=one p.1 o) (pw ⟨g1.g,qS g1.w,R.loc g1.w,l4 R g1.w,g4 x⟩)
   show Qb ⟨o,g1.g,ac,x⟩ (f p.1 _ (.hO j m) aa ⟨L.h.st .nul i,L.nx,L.fr,L.hf⟩ ⟨Y.ah,h8 Y.own i⟩ _ rfl (fj _) ⟨pw ⟨nK _ g1.w,l4 R g1.w,g4 x⟩⟩ ⟨r,D,o,ac,x,rfl⟩ aI (C.gP ..))
 .w_pre e;obtain⟨a,t,rfl,B⟩:=M;show KBw.pyIter_bytes (ai (tk:=s.toks) (it:= .aZ y.n y.x) f rfl ⟨a,t,0,⟨_,rfl,rfl,rfl⟩,by rw[B.1,kN],λi b e=>B.2.2 _ _ (by rw[<-e,kN])⟩)
def ai.iter{bA:Type}{P:gR bA}{F:aj->Sem bA}(R:Rel u c Y L s){v:a3}{w:aj}{k:dv->Option Nat->bU->bl}(l:az u Y.ah v w)
 (g:∀a I it e bH aE an,bH.fr=L.fr->Y.dL aE->di u c I->fg u aE.ah a I it e->Rel u (c.add I) aE bH an->ai u c A P aE (F (.ref a)) an (k it e bH)):ai u c A P Y (kZ w>>=F) s (pI v L k):=λd=>
 aF (bo (BJ R l d λa I it e bH aE an m f o n i j=>by rw[j]at d⊢;show(g a I it e bH aE an m f o n i).up f d))
end
end
section
open PySem.SeqAt
open Mine.C (dv)
variable{c:aV}{s:ax}{A:b2}{E:aj->ax->Prop}{n:Nat}{I I':fV}{bA:Type}{P:gR bA}{r:bl}
def Act.EL(ac:Act c A sc n)(R:Rel u c Y L s):g_ A s.heap:=ac.hand.imp id λx=>x11 x.2 λx y=>x11 y λo y=>x11 y λvs y=>⟨x,o,vs,y.1,(R.frozen x o y.2.1).1,y.2.2⟩
def GS(H:g_ A s.heap)(d:Dc s.heap t items)
 (y:∀ag,(∀b o,s.heap.get? b=U o->ag.get? b=U o)->Q items.toList {s with heap:=ag}):aQ u.M A (Tz (.ref t) items.size aa) Q E s:=by
 have i:t≠s.heap.objs.size:=by show x12 d λo r J=>?_;show ey (ee r)
 show aw (aw (hh d.typeIs slot_tuple_iter.lookup (aY ?_)));show aw (jn (iter_tuple d ?_));show aw (jn (draw_tuple i items.size 0 _ _ ⟨_,er _ rfl,rfl,rfl⟩ (d.push _) (by lia) λg l j=>?_))
 have m:xd items.size (Vo 0 items.toList)=items.toList:=by rw[Ah];show FP (by simp)
 rw[m,if_neg (by simp)]
 have w:Dc g t items:=(d.push _).extBut j.extBut i;have c:∀x,A.handled=U (.ref x)->x≠s.heap.objs.size:=λx c q=>by
  show a8 H (λH=>?_) λO=>?_
  .rw[H]at c;cases c
  .show x33 O λX o vs a b J=>?_;rw[a]at c;cases c;have:=ee b;rw[q]at this;show h3 _ this
 have K:∀b o,b≠s.heap.objs.size->s.heap.get? b=U o->g.get? b=U o:=λb o f e=>(j.2 b f).trans (c2 _ e);have v:g_ A g:=H.oN λx o e n=>K x o (c x e) n;show aw (jn (mK l.typeIs F5 Qa (Qo _)
  (HN (A:=A.in1) v c l w (by simp) λp e k x=>⟨e,rfl,x,?_⟩)))
 show aY (y p λb o e=>?_);have f:b≠s.heap.objs.size:=λq=>by have:=ee e;rw[q]at this;show h3 _ this
 show k b o f (K b o f e)
def Rel.all(R:Rel u c Y L s)(k:∀b o,s.heap.get? b=U o->ag.get? b=U o):Rel u c Y L {s with heap:=ag,toks:=tk}:=R.yK ⟨λb o J J e=>k b o e,λm aD=>aD.casesOn λo aD=>aD.casesOn λes aD=>aD.casesOn λep aD=>aD.casesOn λe r=>⟨o,es,ep,k _ o e,r⟩⟩
def ai.ab3(h:ai u c A (g9 u c) Y t s r)(d:∀H q e,ec u c Y H q e->ai u c A P H F e (k q))(am:cW (r.seq k)):
 aG u.M A t (λJ e=>aG u.M A F (P.P Y (r.seq k)) (dH u c Y (r.seq k)) e) (dH u c Y (r.seq k)) s:=by
 cases r with
 |next q=>show a0 (h λJ=>nofun) (λ_ e aD=>aD.casesOn λH S=>(d H q e S).up S.le am) λJ J x=>x.elim
 |exc k q=>show a0 (h λJ=>nofun) (λJ J x=>x.elim) λJ J x=>x
 |stuck k=>show absurd rfl (am k)
 |brk |ret=>show a0 (h λJ=>nofun) (λJ J x=>x.elim) λJ J x=>x.elim
 |_=>show absurd rfl (am 3)
def pU(u:bf)(sc:bW)(n:Nat)(call:d8)(t:List aT)(g:cw):Prop:=∀c Y L s A vs ws,Rel u c Y L s->Act c A sc n->bI (az u Y.ah) vs ws->ai u c A (g9 u c) Y (wH ((mN t c.env).map (·.2)) ws) s (g vs call L)
def UD:pU u sc n call [] C.jt:=λc Y L s A vs ws R ac d=>by
 cases d with
 |nil=>showλJ=>S8 ⟨Y,R.ff⟩
 |cons _ _=>show .stuck
def TR{r:List aT}{g f:cw}(l:∀env,mN (t::r) env=(af,oj t env)::mN r env)(h:gU u sc n call t g)(ag:pU u sc n call r f):pU u sc n call (t::r) (C.hG g f):=λc Y L s A vs ws R ac d=>by
 rw[l];cases d with
 |nil=>show .stuck
 |cons d i=>showλo=>Sq (ai.ab3 (P:=g9 u c) (h c Y L s A _ _ R ac d) (λk m j S=>ag c k m j A _ _ S.R ac (i.bR λJ J=>az.bR S.le)) o)
def ai.tup{w:aj}{F:Sem bA}{K:List a3->bl}(j:az u Y.ah v w)(f:∀i l (p:ar×ar) (ws:Array aj) m,v= .ref i->L.h.get i= .tup l->w= .ref p.1->s.heap.get? p.1=U ⟨.type "tuple",aa, .seq ws m,#[]⟩->bI (az u Y.ah) l ws.toList->l.length=k->ws.size=k->ai u c A P Y F s (K l))(R:Rel u c Y L s):
 ai u c A P Y F s (C.bE v (λi=>C.i0 (L.h.get i) (λvs=>C.bV (aK (C.cU vs) k) 95 (K vs)) (.stuck 95)) (.stuck 95)):= .bE λi e=> .i0 λl q=> .bV λb=>by
 k_lt e;haveI b:=C.bS b;rw[C.eA]at b;obtain⟨p,n,rfl⟩:=j;obtain⟨ws,m,g,d,J⟩:=R.at n q;show f i l p ws m rfl q rfl g.g d b ((eo.symm.trans d.length.symm).trans b)
def VW(am:∀env,(mN F env).findIdx? (·.1)=aa)(t:∀env,(mN F env).length=m)(h:pU u sc n call F g):gU u sc n call (.Tuple F k p) (C.m9 m g):=λc Y L s A v w R ac f=>by show .dm (ai.tup f (λi l p ws j e q E g d x o=>?_) R);k_lt E;delta unpack;rw[am];showλr=>aF (cO ?_);rw[t,<-o];show bo<|GS (ac.EL R) ⟨_,g,rfl,_,rfl⟩ λag k=>h c Y L _ A _ _ (R.all k) ac d r
def Rel.adJ(R:Rel u c Y L s)(h:∀n,fr'.get n=L.fr.get n):Rel u c Y ⟨L.h,L.nx,fr',L.hf⟩ s:=by show x12 R.here λm d f=>⟨R.st,R.hf,R.base,R.frozen,R.frames,R.kept,R.len,R.low,R.objs,R.out,⟨m,d,λn v e=>f.loc n v ((h n).symm.trans e),λn v e=>f.bt n v ((h n).symm.trans e)⟩,R.ix,R.h7,R.iy,R.gens,R.os,R.bc⟩
def Hq(R:Rel u c Y L s)(ac:Act c A sc n)(d:sc.names.lookup (ay k)=U .local)(f:az u Y.ah v w)
 (h:∀an,Rel u c Y ⟨L.h,L.nx,L.fr.st k v,L.hf⟩ an->Q () an):aQ u.M A (IA c.env (ay k) w) Q E s:=by
 show x12 R.here λm g fr=>PX (ac.sc.loc _ d) g (λag i am=>h _ (R.locals am ⟨_,i,fr.put R.st (ac.sc.loc _ d) f⟩)) (by rw[ac.kind];rfl)
def KQ{α:Type}{l:List α}(h:l.length=2):∃a b,l= [a,b]:=⟨_,_,List.eq_getElem_of_length_eq_two l h⟩
def Su(z:a≠b)(m:∀env,tj [.Tuple F k a9] e p.line env=pure af)
 (r:∀env,jI sc env->env.scope.kind= .function->mJ [.Tuple F k a9] e env=pure (U [ay a,ay b]))(aI:sc.names.lookup (ay a)=U .local)(D:sc.names.lookup (ay b)=U .local)
 (h:b4 u sc n call e f):eD u sc n call (.Assign [.Tuple F k a9] e p) (C.k6 (C.m9 2 (C.hG (C.c5 a) (C.hG (C.c5 b) C.jt))) f):=λc Y L s A R ac J=>by
 rw[FG,m];show .dm (.step (λQ=>aY) ?_);show .dD (h c Y L s A R ac) λX H d M E S P=>?_;rw[r c.env ac.sc ac.kind];show .step (λQ=>aY) (ai.tup P (λi l p ws j e q K g o m r=>?_) S.R);k_lt K;change ai _ _ _ _ _ (do md "assign.swapped-stores";let items<-Tz (.ref p.1) 2 aa;wH ([ay a,ay b].reverse.map λn=>bindName c.env n) items.reverse;pure q3) _ _
 show .step (λQ=>iU) (x21 (KQ m) λv v' O=>?_);k_lt O;show x21 ((KQ (l:=ws.toList) (eo.trans r)).imp λJ h=>h.imp λJ h=>QY.mp h:∃w W,ws=#[w,W]) λw W O=>?_;k_lt O;cases(o)with
 |cons B o=>cases(o)with
  |cons y _=>
   showλaq=>aF (bo (GS (items:=#[w,W]) (ac.EL S.R) ⟨_,g,rfl,_,rfl⟩ λag t=>aF (bo ?_)));show Qx (RS (Hq (S.R.all (tk:=E.toks) t) ac D y λa5 I=>?_));show Qx (RS (Hq I ac aI B λV T=>assignInOrder_nil (bL ?_)));change kD u c d (((M.f4 a v .next).seq λL=>(L.f4 b v' .next).seq .next)) _ _
   rw[C.ho];change kD u c d ((C.St.f4 _ b v' .next).seq .next) _ _
   rw[C.ho];show⟨⟨d,(T.adJ λn=>?_).ff⟩,rfl⟩;rw[C.aL.f0,C.aL.f0,C.aL.f0,C.aL.f0];by_cases x:n=a
   .rw[if_pos x,if_neg (x▸z),if_pos x]
   .rw[if_neg x,if_neg x]
end
section
open PySem.SeqAt
open Mine.C (dv)
def Rel.free{D:ar->Prop}(R:Rel u c Y L s)(g:∀b,D b->Y.own b=aa/\c.z.Z b=aa/\∀o,s.heap.get? b=U o->qh o)
 (i:∀b o,¬D b->s.heap.get? b=U o->ag.get? b=U o):Rel u c Y L {s with heap:=ag,toks:=tk}:=by
 show R.EK (D:=D) (Z':=c.z.Z) (tk:=tk) (λb f=>?_) i (λJ J=>rfl) λb o f e=>nomatch e.symm.trans (g b f).2.1;show x03 (g b f) λau ak A=>⟨au,λq=>?_,?_,A⟩
 .show x12 R.here λm O J=>x33 O λo es ep e d J=>?_;show A o (q▸e) _ _ d
 .cases q:u.H.get? b with
  |none=>rfl
  |some o=>show nomatch ak.symm.trans (R.base b o q)
def Rel.CW{a:ar}{g:Obj->Obj}(R:Rel u c Y L s)(i:Y.own a=aa)(hz:c.z.Z a=aa)(e:s.heap.get? a=U b7)(f:b7.data= .fields vs):Rel u c Y L {s with heap:=s.heap.update a g,toks:=tk}:=R.free (D:=λb=>b=a) (λb d=>by w_pre d;show⟨i,hz,λo E=>g4 (bY (e.symm.trans E)▸f)⟩) λb o d e=>(kH _ _ (cX d)).trans e
def Rel.slots(R:Rel u c Y L s)(am:Heap.SlotsOnly (c.z.cy.filterMap (·.frame)) s.heap ag):Rel u c Y L {s with heap:=ag,toks:=tk}:=by
 have fr:∀aq,aq∈c.z.cy.filterMap (·.frame)->Y.own aq=aa/\c.z.Z aq=aa:=λaq k=>by show x12 (s7.mp k) λe l hf=>?_;obtain⟨J,p,o,b,J,J,f,g⟩:=R.frames e l;rw[hf]at b;cases b;show⟨f,g⟩
 have st:∀b o,¬(Y.own b=aa/\c.z.Z b=aa)->s.heap.get? b=U o->ag.get? b=U o:=λb o i e=>(am.2.1 b λk=>i (fr b k)).trans e;have K:∀b j,Y.own b=U j->∀o,s.heap.get? b=U o->ag.get? b=U o:=λb j e o=>st b o λx=>nomatch e.symm.trans x.1;have ns:∀a m,s.heap.Ns a m->ag.Ns a m:=λa m aD=>aD.casesOn λo aD=>aD.casesOn λes aD=>aD.casesOn λep aD=>aD.casesOn λe aD=>aD.casesOn λd r=>(am.2.2 a o e).elim λS E=>⟨_,es,ep,E,d,r⟩;show⟨R.st,R.hf,R.base,λb o e=>⟨st b o (λx=>nomatch e.symm.trans x.2) (R.frozen b o e).1,(R.frozen b o e).2⟩,λe l=>?_,λq n=>⟨ns _ _ (R.kept q n).1,(R.kept q n).2⟩,R.len,λb j e=>⟨(R.low b j e).1.imp (K b j e),(R.low b j e).2⟩,λj q e=>(R.objs j q e).at (fj _) (λb i=>⟨i,K b j i⟩) λJ=>id,R.out,R.here.imp λm q=>⟨ns _ _ q.1,q.2⟩,R.ix,R.h7,R.iy,R.gens,R.os,R.bc.at (λJ J J=>n7) (λb j J=>K b j) ⟨rfl,rfl⟩ R.bc.here R.bc.codes⟩
 obtain⟨a,aq,o,b,x,d,f,g⟩:=R.frames e l;show x11 (am.2.2 aq o x) λS E=>⟨a,aq,_,b,E,d,f,g⟩
def Sv{h:Heap}:∀{l:List Env},(∀e∈l,e.scope.kind≠ .module/\∃aq o,e.frame=U aq/\h.get? aq=U o/\O2 o)->h.FunFrames {} l:=by
 intro X;cases X with
 |nil=>intro J;show trivial
 |cons e r i=>intro x;obtain⟨a,aq,o,b,c,J,J,d⟩:=x e cF;show⟨a,⟨aq,o,b,rfl,c,λvs h=>nomatch d.symm.trans h⟩,i λe f=>x e (cA _ f)⟩
def Rel.adK(R:Rel u c Y L s):s.heap.FunFrames {} c.z.cy:=Sv λe f=>by obtain⟨a,aq,o,b,x,d,J⟩:=R.frames e f;show⟨a,aq,o,b,x,d⟩
def JQ{vs:Array aj}(h:2<vs.size):(vs.setIfInBounds 1 x)[1]? =U x/\(vs.setIfInBounds 1 x)[2]? =vs[2]? :=⟨Po.trans (if_pos (by omega)),Array.getElem?_setIfInBounds_ne (by x_go)⟩
def IW{S:List Env}{aq i:ar}{k:Nat}(R:Rel u c Y L s)(Q:A.frames=U c.z.cy)(hz:c.z.cy=c.env::S)(l:c.env.frame=U aq)(x:DR c Y k i s.heap vs):
 aQ M A (do let a<-frameOf c.env;let pl<-entryPlaceOf aq b;let t<-aib head a .none (b8 aq) .none pl;mU (.ref i) 1 t)
  (λJ an=>Rel u c Y L an/\hv c Y k i an.heap (b8 aq)) E s:=by
 obtain⟨b7,r,P,bJ,j,ac,v,w⟩:=x;haveI hsz:2<vs.size:=(sU.mp ac).1;haveI ai:i∉c.z.cy.filterMap (·.frame):=λl=>by show x12 (s7.mp l) λe aI hf=>?_;obtain⟨J,T,o,b,g,d,J⟩:=R.frames e aI;rw[hf]at b;cases b;rw[r]at g;cases g;show x21 d λJ J d=>nomatch d.symm.trans j
 show aw (wpAny_frameOf_fun (Q.trans (congrArg U hz)) (hz▸R.adK) l λf n=>?_);rw[<-hz]at n;haveI y:Rel u c Y L {s with heap:=f}:=R.slots (tk:=s.toks) n
 show aw (wpAny_entryPlaceOf λpl O=>?_);show aw (ip ?_ (O.sizeOk5 _ _ _ _ _));haveI B:f.get? i=U b7:=(n.2.1 i ai).trans r;haveI fr:=y.fresh (iu f);generalize D:({cls:= .type "traceback",dict:=aa,data:= .fields ([head, .ref aq, .none,b8 aq, .none]++(if pl.isEmpty then kL 6 tw else pl)).toArray}:Obj)=new
 haveI hB:new.data= .fields ([head, .ref aq, .none,b8 aq, .none]++(if pl.isEmpty then kL 6 tw else pl)).toArray:=by k_lt D;rfl
 haveI K:=y.all (ag:=f.push new) (tk:=s.toks) λb o e=>c2 _ e;haveI m:=c2 (h:=f) new B;show o4 m j (by omega) ?_
 haveI p:f.objs.size≠i:=jX (ee B);haveI z:=wt j (·.setIfInBounds 1 (eU f.objs.size));haveI I:=(kH (f.push new) (wK (·.setIfInBounds 1 (eU f.objs.size))) (cX p)).trans (er f (qG hB));show⟨K.CW (tk:=s.toks) v w m j,_,_,_,_,⟨_,lG _ m (qG z),(QH ..).trans P,bJ,z,(JQ hsz).2.trans ac,v,w⟩,(JQ hsz).1,p,I,hB,rfl,fr.1,eb.z fr.2.1⟩
def tU(R:Rel u c Y L s)(qj:A.frames=U c.z.cy)(a9:hY c)(mu:c.env.frame=U aq)(X:Exc c Y k hX s.heap):
 aQ M A (h4 (.ref hX) c.env) (λJ an=>Rel u c Y L an/\hv c Y k hX an.heap (b8 aq)) E s:=by
 show x11 a9 λouter hz=>?_;delta h4;simp only[mu];cases X with
 |new vs x bb=>obtain⟨b7,he,cN,bJ,hd,bM,mx,O6⟩:=id x;show aw (fB he hd bb ?_);show IW R qj hz mu x
 |old fl X afl=>
  obtain⟨vs,T,oT,nI,⟨b7,he,cN,bJ,hd,bM,mx,O6⟩,bb,afm,v7,EM,cz,afn,afo⟩:=id X;show aw (fB he hd bb ?_);show aw (fB v7 EM cz ?_);show a8 afl (λqk=>?_) λEN=>?_
  .k_lt qk;rw[if_neg (show¬((tw==b8 aq)=ae)from jl)];show aw (o4 v7 EM (sU.mp cz).1 (IW (R.CW (tk:=s.toks) afn afo v7 EM) qj hz mu ⟨b7,(kH _ _ afm).trans he,cN,bJ,hd,bM,mx,O6⟩))
  .show x12 EN λai1 afp cv=>?_;k_lt cv;cases mu.symm.trans afp;rw[if_pos (beq_self_eq_true _)];show aY ⟨R,X⟩
def q1(R:Rel u c Y L s)(X:hv c Y k e s.heap fl):
 aQ M A (nZ (.ref e) fr) (λJ an=>Rel u c Y L an/\hv c Y k e an.heap (fr.elim .none λf=>b8 f)) E s:=by
 obtain⟨vs,T,oT,y,⟨b7,l,w,bJ,i,z,t,v⟩,o,j,d,g,x,m,r⟩:=X;haveI n:3<y.size:=(sU.mp x).1;show aw (fB l i o ?_);haveI p:=wt g λvs=>vs.setIfInBounds 3 (fr.elim .none λf=>b8 f);show o4 d g n ⟨R.CW (tk:=s.toks) m r d g,vs,T,_,_,⟨b7,(kH _ _ j).trans l,w,bJ,i,z,t,v⟩,o,j,lG _ d (qG p),p,Po.trans (if_pos n),m,r⟩
def XV(R:Rel u c Y L s)(X:hv c Y k e s.heap fl)(d:c.env.frame=U aq)(dn:∀an,Rel u c Y L an->hv c Y k e an.heap (b8 aq)->E (.ref e) an):
 kR M A c.env E (.ref e) s:=by
 obtain⟨vs,T,oT,t,⟨b7,g,m,bJ,f,n,j,l⟩,i,J⟩:=id X;show aw (fB g f i ?_);show hk (q1 R X) (λJ an x=>?_) λJ J x=>x;rw[d]at x;show dn an x.1 x.2
def hv.exc{E aq:ar}{h:Heap}(X:hv c Y k E h (b8 aq))(d:c.env.frame=U aq):Exc c Y k E h:= .old _ X (.inr ⟨aq,d,rfl⟩)
def ZX(ac:Act c A sc n)(a9:hY c)(f:q.frames=A.frames)(x:dH u c Y r e s):jo M q c.env (kR M A c.env (dH u c Y r)) e s:=by
 cases r with
 |exc k L=>obtain⟨aE,E,⟨a,R⟩,rfl,X⟩:=x;show x34 ac.cur λi o aq J J d J=>hk (tU R (f.trans ac.frames) a9 d X) (λJ an y=>XV y.1 y.2 d λS R' g=>⟨aE,E,⟨a,R'⟩,rfl,g.exc d⟩) λJ J y=>y
 |_=>show x.elim
end
section
open PySem.SeqAt
open Mine.C (dv)
variable{c:aV}{Y aE:b1}{s:ax}{A:b2}{E:aj->ax->Prop}{n:Nat}{I I':fV}{r dP:bl}
def Act.add(ac:Act c A sc n)(D:di u c I):Act (c.add I) A sc n:=by
 show⟨ac.frames,ac.cur,ac.kind,ac.globals,ac.builtins,ac.depth,ac.units,ac.hand.imp id λ⟨h,x,o,vs,a,b,d⟩=>⟨h,x,o,vs,a,?_,d⟩,ac.sc⟩;show(aV.gq ?_).trans b;cases q:I x with
 |none=>rfl
 |some a4=>show nomatch b.symm.trans (D.h x a4 q).1
def Rel.ou(R:Rel u (c.add I) Y L s)(D:di u c I):Rel u c Y L s:=R.done (tk:=s.toks) D λJ J J e=>e
def UE(X:Exc (c.add I) Y k hX h):Exc c Y k hX h:=by
 have nK:∀b,(c.add I).z.Z b=aa->c.z.Z b=aa:=λb h=>by
  cases q:I b with
  |none=>show(aV.gq q).symm.trans h
  |some o=>show nomatch(aV.j8 q).symm.trans h
 cases X with
 |new vs x bb=>obtain⟨b7,g,cN,bJ,hd,bM,mx,hz⟩:=x;show .new vs ⟨b7,g,cN,bJ,hd,bM,mx,nK _ hz⟩ bb
 |old fl x hf=>obtain⟨vs,T,oT,nI,⟨b7,g,cN,bJ,hd,bM,mx,hz⟩,bb,ne,gj,afq,cz,afr,afs⟩:=x;show .old fl ⟨vs,T,oT,nI,⟨b7,g,cN,bJ,hd,bM,mx,nK _ hz⟩,bb,ne,gj,afq,cz,afr,nK _ afs⟩ hf
def ec.ou(D:di u c I)(S:ec u (c.add I) Y aE L s):ec u c Y aE L s:=⟨S.le,S.R.ou D⟩
def dH.ou(D:di u c I)(x:dH u (c.add I) Y r e s):dH u c Y r e s:=by
 cases r with
 |exc k L=>obtain⟨aE,E,S,b,X⟩:=x;show⟨aE,E,S.ou D,b,UE X⟩
 |_=>show x.elim
section
def ai.Os{ka kb:bU->bl}{w:Nat}(h:ai u c A (sJ u c) Y t s (fU dP))(d:cW (dP.bind λv L=>C.dS v (ka L) (kb L) (.stuck w)))
 (f:∀b H q F,ec u c Y H q F->dP.bind (λv L=>C.dS v (ka L) (kb L) (.stuck w))=C.aA b (ka q) (kb q)->Q b F)
 (ex:∀e an,dH u c Y (dP.bind λv L=>C.dS v (ka L) (kb L) (.stuck w)) e an->E e an):aG u.M A t Q E s:=by
 cases dP with
 |ok v q=>
  cases v with
  |tt=>show a0 (h λJ=>nofun) (λb F ⟨⟨H,S⟩,e⟩=>match b,e with |true,_=>f ae H q F S rfl) λJ J x=>x.elim
  |aM=>show a0 (h λJ=>nofun) (λb F ⟨⟨H,S⟩,e⟩=>match b,e with |false,_=>f af H q F S rfl) λJ J x=>x.elim
  |_=>show absurd rfl (d w)
 |exc k q=>show a0 (h λJ=>nofun) (λJ J x=>x.elim) λe an x=>ex e an x
 |stuck k=>show absurd rfl (d k)
 |_=>show absurd rfl (d 1)
def ai.Ot(h:ai u c A (g9 u c) Y t s dP)(d:cW (dP.seq k))(f:∀H q F,ec u c Y H q F->dP.seq k=k q->agK () F)
 (ex:∀e an,dH u c Y (dP.seq k) e an->E e an):aG u.M A t agK E s:=by
 cases dP with
 |next q=>show a0 (h λJ=>nofun) (λ_ F aD=>aD.casesOn λH S=>f H q F S rfl) λJ J x=>x.elim
 |exc k q=>show a0 (h λJ=>nofun) (λJ J x=>x.elim) λe an x=>ex e an x
 |stuck k=>show absurd rfl (d k)
 |brk |ret=>show a0 (h λJ=>nofun) (λJ J x=>x.elim) λJ J x=>x.elim
 |_=>show absurd rfl (d 3)
def ai.Ou(h:ai u c A (qv u c) Y t s dP)(d:cW (dP.eM k))(nx:∀H q F,ec u c Y H q F->dP.eM k=k q->Fl .next F)
 (B:∀H q F,ec u c Y H q F->dP.eM k= .next q->Fl .brk F)(r:∀v w H q F,ec u c Y H q F->az u H.ah v w->dP.eM k= .ret v q->Fl (.ret w) F)
 (ex:∀e an,dH u c Y (dP.eM k) e an->E e an):aG u.M A t Fl E s:=by
 cases dP with
 |next q=>show a0 (h λJ=>nofun) (λ_ F ⟨⟨H,S⟩,e⟩=>e▸nx H q F S rfl) λJ J x=>x.elim
 |brk q=>show a0 (h λJ=>nofun) (λ_ F ⟨⟨H,S⟩,e⟩=>e▸B H q F S rfl) λJ J x=>x.elim
 |ret v q=>show a0 (h λJ=>nofun) (λ_ F aD=>aD.casesOn λH w S f e=>e▸r v w H q F S f rfl) λJ J x=>x.elim
 |exc k q=>show a0 (h λJ=>nofun) (λJ J x=>x.elim) λe an x=>ex e an x
 |stuck k=>show absurd rfl (d k)
 |_=>show absurd rfl (d 4)
end
def my(u:bf)(c:aV)(Y:b1)(A:b2)(r:bl):h6->ax->Prop:=λq an=>match q with
 | .ok f=>kD u c Y r f an
 | .error e=>kR u.M A c.env (dH u c Y r) e an
def dH.uy(ac:Act c A sc n)(a9:hY c)(a:Y.dL aE)(x:dH u c aE r e s):jo u.M A c.env (λe an=>my u c Y A r (.error e) an) e s:=ZX ac a9 rfl (x.le a)
def XW{t:aT}{b:List b_}{p:Pos}{f g:cw}(D:gJ u sc n call t f)(z:hx u sc n call b g):eD u sc n call (.While t b [] p) (C.yx f g):=λc Y L s A R ac a9 j=>by
 unfold C.yx at j⊢;show Up ?_;generalize B:tx f g call 2000 L=r at j⊢;show Q7 (R:=my u c Y A r) (λn s=>∃aE bH,ec u c Y aE bH s/\tx f g call n bH=r) (λm s ⟨aE,bH,S,o⟩=>?_) 2000 ⟨Y,L,R.ff,B⟩;cases m with
 |zero=>show absurd o.symm (j _)
 |succ m=>
  k_lt o;show ai.Os (D c aE bH s A S.R ac) j (λq bp bn a5 i e=>?_) λe an x=>x.uy ac a9 S.le;rw[show tx f g call (m+1) bH=_ from e]at j⊢;cases q with
  |false=>show qO ⟨⟨bp,S.le.trans i.le,i.R⟩,rfl⟩
  |true=>
   show ai.Ou (z c bp bn a5 A i.R ac a9) j (λc6 k l d e=>⟨m,jm _,c6,k,⟨(S.le.trans i.le).trans d.le,d.R⟩,e.symm⟩)
    (λc6 k l d e=>by delta my;rw[e];show⟨⟨c6,(S.le.trans i.le).trans d.le,d.R⟩,rfl⟩) (λv w c6 k l d y e=>by delta my;rw[e];show⟨c6,w,⟨(S.le.trans i.le).trans d.le,d.R⟩,y,rfl⟩)
    λe an x=>x.uy ac a9 (S.le.trans i.le)
def fg.plain(O:fg u ah a I it aa):∃o T vs,I a=U o/\o.cls= .type T/\o.data= .fields vs/\
 ["enumerate","zip","dict_itemiterator","dict_reverseitemiterator","odict_iterator","itertools.zip_longest","itertools.pairwise"].contains T=af:=by
 cases it with
 |eZ=>obtain rfl:I=one a _:=O;show⟨_,_,_,fE,rfl,rfl,by x_go⟩
 |aZ=>show x32 O λA t pos f J=>?_;obtain⟨o,d,c,rfl⟩:=f;show⟨o,_,_,fE,d,c,by x_go⟩
 |seq |ij |hO=>obtain⟨p,g,o,d,c,rfl⟩:=O;show⟨o,_,_,fE,d,c,by x_go⟩
 |st=>obtain⟨S,es,ep,t,T,oT,i,bk,ws,rfl,J⟩:=O;show⟨_,_,_,pT,rfl,rfl,by x_go⟩
inductive adL(u:bf)(c:aV)(Y:b1)(a:ar)(vz:dv)(e:Option Nat)(w:aj)(K:a3->bU->Prop)(an:ax):Prop where
 |mk (aE:b1) (I':fV) (v':a3) (bH:bU) (k:K v' bH) (D:di u c I') (O:fg u aE.ah a I' vz e) (le:Y.dL aE) (R:Rel u (c.add I') aE bH an) (dY:az u aE.ah v' w)
def IX{a:ar}{it j:dv}{e:Option Nat}{v:a3}{t:aT}{k:a3->bU->bl}(R:Rel u (c.add I) Y L s)(D:di u c I)(O:fg u Y.ah a I it e)(l:lX u.ao.lf L.h it v j)(B:e=aa\/od t=ae)(aI:cW (C.q5 e v L k)):
 aQ u.M A (pF (.ref a)) (λr an=>∃w,r=U w/\aQ u.M A (wB t (.ref a) w) (λJ q=>adL u c Y a j (C.uO e) w (λv' bH=>C.q5 e v L k=k v' bH) q) E an) E s:=by
 cases e with
 |none=>show hk (next_item (E:=E) R D O l) (λr an aD=>aD.casesOn λw I' g f d R' i=>⟨w,g,?_⟩) λJ J x=>x;show x34 d.plain λo T vs n z ai p=>IU (R'.ed f n).1 z ai p ⟨Y,I',v,L,rfl,f,d, .refl _,R',i⟩
 |some m=>
  show hk (UC (E:=E) R D O l) (λr an ⟨w,g,x⟩=>⟨w,g,hk (x t (B.resolve_left nofun)) (λJ q y=>?_) λJ J y=>y⟩) λJ J x=>x
  obtain⟨aE,I',f,d,ac,R',i⟩:=y;show⟨aE,I', .ref L.nx,⟨L.h.st (.tup [.int m,v]) L.nx,L.nx+1,L.fr,L.hf⟩,?_,f,?_,ac,R',i⟩
  .change C.dA 2 (L.alloc (.tup [.int m,v]) k)=_;rw[show C.dA 2 (L.alloc (.tup [.int m,v]) k)=L.alloc (.tup [.int m,v]) k from rfl,C.gE]
  .rw[show C.uO (U m)=U (m+1)from C.eX (m+1) U];show d
inductive ZY(u:bf)(c:aV)(call:d8)(jL agL:cw)(t:aT)(a:ar)(Y:b1)(r:bl)(n:Nat)(s:ax):Prop where
 |mk (aE:b1) (bH:bU) (I':fV) (mz:dv) (gi:Option Nat) (S:ec u (c.add I') Y aE bH s) (D:di u c I') (O:fg u aE.ah a I' mz gi) (h:gi=aa\/od t=ae) (lq:kV u.ao.lf jL agL call n mz gi bH=r)
def VX(jN:gU u sc n call t H)(cD:hx u sc n call b F)(aft:e=aa\/od t=ae)
 (R:Rel u (c.add I) Y L s)(D:di u c I)(O:fg u Y.ah a I i e)(ac:Act c A sc n)(a9:hY c)(qw:kV u.ao.lf H F call 2000 i e L=r)(o:cW r):
 dz u.M A (.forLoop t (.ref a) b [] c.env) (my u c Y A r) s:=by
 show G0 (R:=my u c Y A r) (ZY u c call H F t a Y r) (λm s h=>?_) 2000 ⟨Y,L,I,i,e,R.ff,D,O,aft,qw⟩;obtain⟨aE,bH,I',mz,W,S,bD,N,Q,d⟩:=h;cases m with
 |zero=>show absurd d.symm (o _)
 |succ m=>
  have d:n9 u.ao.lf bH.h mz (.next bH) (λv it=>C.q5 W v bH λv L=>(H [v] call L).seq λL=>(F [] call L).eM λL=>kV u.ao.lf H F call m it (C.uO W) L)=r:=d
  have T:∀{M:fV} {X:b1} (y:bl) e an,Y.dL X->di u c M->r=y->dH u (c.add M) X y e an->jo u.M A c.env (λe an=>my u c Y A r (.error e) an) e an:=λy e an adM adN E x=>E▸(x.ou adN).uy ac a9 adM;revert d;show Ib (P:=(·=r->_)) (λk d=>absurd d.symm (o k)) (λhf d=>?_) λv Z dd d=>?_
  .show Ce (Bf S.R ac bD N hf) λ_ x=>qO (d▸(⟨⟨aE,S.le,x⟩,rfl⟩:my u c Y A (.next bH) (.ok .next) _))
  .show IT (IX (t:=t) S.R bD N dd Q (d▸o)) λw _ x=>?_;show a0 (bo x) (λ_ a5 aD=>aD.casesOn λbp B v' bn hw g adO aq rY z=>?_) λJ J x=>x;have d:=d.symm.trans hw;have bN:=ac.add g;show ai.Ot (jN (c.add B) bp bn a5 A v' w rY bN z) (d▸o) (λc6 yb rZ K uY=>?_) λe an x=>T _ e an (S.le.trans aq) g d x;have d:=d.trans uY;have p:=(S.le.trans aq).trans K.le;show ai.Ou (cD (c.add B) c6 yb rZ A K.R bN a9) (d▸o) (λl aI V f j=>⟨m,jm _,l,aI,B,Z,_,⟨p.trans f.le,f.R⟩,g,adO.bR (K.le.trans f.le),Q.imp (λh=>by rw[h];rfl) id,(d.trans j).symm⟩)
    (λl aI V f j=>by delta my;rw[d.trans j];show⟨⟨l,p.trans f.le,f.R.ou g⟩,rfl⟩) (λv w l aI V f z j=>by delta my;rw[d.trans j];show⟨l,w,⟨p.trans f.le,f.R.ou g⟩,z,rfl⟩)
    λe an x=>T _ e an p g d x
def XX(am:∀env x,o0 it env x=pure x)(l:tup=od t)(f:b4 u sc n call it aq)(o:gU u sc n call t H)(j:hx u sc n call b F):
 eD u sc n call (.For t it b [] p) (C.rP u.ao tup H aq F):=λc Y L s A R ac a9=>by
 rw[exec_For];show .dm (.dD (f c Y L s A R ac) λv w B ai z S g=>?_);rw[am];show .step (λQ=>aY) (.dm ?_);show .LY (.iter S.R g λa I i e bn bp a5 J E D O r=> .bV λd k=>?_);haveI d:e=aa\/od t=ae:=by
  cases e with
  |none=>show .inl rfl
  |some m=>show .inr (l.symm.trans d)
 show o8 (by rw[wx];show nT (VX o j d r D O ac a9 rfl k) λq an y=>by cases q<;>show y) rfl
end
section
open PySem.SeqAt
open Mine.C (dv)
variable{c:aV}{Y aE:b1}{s:ax}{A:b2}{E:aj->ax->Prop}{n:Nat}{I:fV}{r:bl}{M:fa}
def Rel.iB(R:Rel u c Y L s)(b:Bool):Rel u {c with hf:=b} Y (L.iB b) s:=⟨R.st,rfl,R.base,R.frozen,R.frames,R.kept,R.len,R.low,R.objs,R.out,R.here,R.ix,R.h7,R.iy,R.gens,R.os,⟨R.bc.t0,R.bc.t1,R.bc.ok,R.bc.here,R.bc.codes,R.bc.nv⟩⟩
def Rel.adP{b:Bool}(R:Rel u {c with hf:=b} Y L s):Rel u c Y (L.iB c.hf) s:=⟨R.st,rfl,R.base,R.frozen,R.frames,R.kept,R.len,R.low,R.objs,R.out,R.here,R.ix,R.h7,R.iy,R.gens,R.os,⟨R.bc.t0,R.bc.t1,R.bc.ok,R.bc.here,R.bc.codes,R.bc.nv⟩⟩
def xB(R:Rel u c Y L s){b:ar}(h:c.z.Z b=aa):u.H.get? b=aa:=by
 cases q:u.H.get? b with
 |none=>rfl
 |some o=>show nomatch h.symm.trans (R.base b o q)
def hv.gS{k:Nat}{E:ar}{fl:aj}(R:Rel u c Y L s)(X:hv c Y k E s.heap fl):
 ∃I,di u c I/\Rel u {c.add I with hf:=ae} Y (L.iB ae) s/\(∀ac:Act c A sc n,Act {c.add I with hf:=ae} (A.mark (U (.ref E))) sc n)/\
  ∀(aE:b1) (bH:bU) (an:ax),Rel u {c.add I with hf:=ae} aE bH an->Rel u c aE (bH.iB c.hf) an/\hv c aE k E an.heap fl:=by
 obtain⟨vs,T,oT,M,⟨b7,t,aI,bJ,f,x,y,g⟩,ai,p,l,i,K,z,j⟩:=X;haveI D:di u c (two E b7 T oT):=⟨px ⟨g,xB R g,g4 f⟩ ⟨j,xB R j,g4 i⟩⟩;haveI v:∀b o vs,s.heap.get? b=U o->o.data= .fields vs->b≠c.env.locals:=λb o vs e d q=>by show x12 R.here λm O J=>x33 O λa4 es ep w B J=>?_;rw[<-q,e]at w;cases w;show nomatch d.symm.trans B
 show⟨two E b7 T oT,D,(R.uf (px ⟨t,y,v _ _ _ t f,xB R g,g4 f⟩ ⟨l,z,v _ _ _ l i,xB R j,g4 i⟩)).iB ae,λac=>⟨ac.frames,ac.cur,ac.kind,ac.globals,ac.builtins,ac.depth,ac.units, .inr ⟨rfl,E,b7,vs,rfl,aV.j8 rl,f,x⟩,ac.sc⟩,λaE bH an R'=>?_⟩
 .haveI r:Rel u (c.add _) aE (bH.iB c.hf) an:=Rel.adP (c:=c.add (two E b7 T oT)) R';haveI g1:=r.ed D rl;haveI g2:=r.ed D (tS (cX p));show⟨r.ou D,vs,T,oT,M,⟨b7,g1.1,aI,bJ,f,x,g1.2.1,g⟩,ai,p,g2.1,i,K,g2.2.1,j⟩
def qd(u:bf)(sc:bW)(n:Nat)(call:d8)(am:List iq)(g:cw):Prop:=∀c Y L s A k E,Rel u c Y L s->Act c A sc n->hY c->hv c Y k E s.heap .none->ai u c A (qv u c) Y (ph (.ref E) c.env am) s (g [.cls k] call L)
def Ic{α:Type}{w:String}{d aq:ar}{k:Nat}{fl:aj}{Q:α->ax->Prop}(R:Rel u c Y L s)(X:hv c Y k d s.heap fl)(f:c.env.frame=U aq)(dn:∀an,Rel u c Y L an->hv c Y k d an.heap (b8 aq)->E (.ref d) an):
 aQ M A (wQ w (.ref d) c.env) Q E s:=by
 obtain⟨vs,T,oT,t,⟨b7,i,n,bJ,g,o,l,m⟩,j,J⟩:=id X;show aw (fB i g j ?_);show aw (hk (q1 R X) (λJ an x=>?_) λJ J x=>x);rw[f]at x;show AD (dn an x.1 x.2)
def VY:qd u sc n call [] C.CN:=λc Y L s A k E R ac a9 X g=>by show x34 ac.cur λf o aq J J d J=>QQ (bo<|Ic R X d λan R' x=>⟨Y,E,R'.ff,rfl,x.exc d⟩)
def UF{k d:Nat}{B:b_}{b:List b_}{z p:Pos}{r:List iq}{f g:cw}(y:sc.names.lookup (ay k)=U .globalImplicit)(aq:nG k (.cls d)=ae)(ai:iF d=ae)
 (P:hx u sc n call (B::b) f)(W:qd u sc n call r g):qd u sc n call (.ExceptHandler (U (.Name (ay k) z)) aa (B::b) p::r) (C.yz u.ao d f g):=λc Y L s A j E R ac a9 X i=>by
 obtain⟨vs,T,oT,bD,⟨b7,aI,H,bJ,bN,J⟩,J⟩:=id X;show QE (Qi (bo<|FZ ac.kind (ac.sc.bG _ y) (G1 R ac aq λw hw=>?_) (R.st.qi k))) nofun
 obtain rfl:w= .ref (cP d):=hw;haveI lt:eY u.M s.heap (m6 (.ref E)) (.ref (cP j)):=H▸((tO aI).andThen .now);show bo<|(exm_one R.fs lt (R.st.Oi j d bJ ai)).here ?_;haveI i:cW (C.aA (u.ao.sub j d) _ _):=i;generalize l:C.yz u.ao d f g [V.cls j] call L=res;haveI l:C.aA (u.ao.sub j d) _ _=res:=l;cases q:u.ao.sub j d with
 |false=>rw[q]at i l;k_lt l;show W c Y L s A j E R ac a9 X i
 |true=>
  rw[q]at i l;show P4 (a0 (bo<|q1 R X) (λ_ Q aD=>aD.casesOn λK N=>?_) λJ J x=>x);show x14 (hv.gS (A:=A) (sc:=sc) (n:=n) K N) λI D F O gI=>?_;haveI h:=P _ Y _ Q _ F (O ac) a9;haveI t:∀{c6:b1} {o:bU} {m:ax},ec u {c.add I with hf:=ae} Y c6 o m->ec u c Y c6 (o.iB L.hf) m:=λS=>⟨S.le,R.hf.symm▸(gI _ _ _ S.R).1⟩
  k_lt l;generalize f [] call (L.iB ae)=dP at h i⊢;cases dP with
  |next o=>show a0 (h λJ=>nofun) (λfl m ⟨⟨c6,S⟩,e⟩=>e▸⟨⟨c6,t S⟩,rfl⟩) λJ J x=>x.elim
  |ret v o=>show a0 (h λJ=>nofun) (λfl m aD=>aD.casesOn λc6 w S M e=>e▸⟨c6,w,t S,M,rfl⟩) λJ J x=>x.elim
  |stuck k=>show absurd rfl (i k)
  |_=>show absurd rfl (i 101)
def VZ{b:List b_}{l:iq}{am:List iq}{p:Pos}{f g:cw}(z:hx u sc n call b f)(bZ:qd u sc n call (l::am) g):eD u sc n call (.Try b (l::am) [] [] p) (C.x5 f g):=λc Y L s A R ac a9 d=>by
 haveI h:=z c Y L s A R ac a9;show x34 ac.cur λI O aq J J o J=>Rw ?_;unfold C.x5 at d⊢;generalize f [] call L=dP at h d⊢;cases dP with
 |next j=>show a0 (h λJ=>nofun) (λfl i aD=>aD.casesOn λx e=>by k_lt e;show qO ⟨x,rfl⟩) λJ J x=>x.elim
 |brk j=>show a0 (h λJ=>nofun) (λfl i aD=>aD.casesOn λx e=>by k_lt e;show⟨x,rfl⟩) λJ J x=>x.elim
 |ret v j=>show a0 (h λJ=>nofun) (λfl i aD=>aD.casesOn λc6 w S y e=>by k_lt e;show⟨c6,w,S,y,rfl⟩) λJ J x=>x.elim
 |exc k bH=>
  show a0 (h λJ=>nofun) (λJ J x=>x.elim) λe ai aD=>aD.casesOn λaE E S r X=>?_
  k_lt r;show a0 (bo<|tU S.R ac.frames a9 o X) (λ_ a5 aD=>aD.casesOn λB m=>?_) λJ J x=>x;show a0 (bo<|q1 (fr:=aa) B m) (λ_ i aD=>aD.casesOn λD t=>(bZ c aE bH i A k E D ac a9 t).up S.le d) λJ J x=>x
 |stuck k=>show absurd rfl (d k)
 |_=>show absurd rfl (d 99)
def V0{b:List b_}{t:b_}{cy:List b_}{p:Pos}{f g:cw}(T:hx u sc n call b f)(o:hx u sc n call (t::cy) g):eD u sc n call (.Try b [] [] (t::cy) p) (C.x6 f g):=λc Y L s A R ac a9 d=>by
 haveI h:=T c Y L s A R ac a9;show x34 ac.cur λgi outer aq J J l J=>Q8 ?_;unfold C.x6 at d⊢;generalize f [] call L=dP at h d⊢;cases dP with
 |next bH=>
  show a0 (h λJ=>nofun) (λfl m ⟨⟨aE,S⟩,e⟩=>?_) λJ J x=>x.elim
  k_lt e;show qO (a0 (o c aE bH m A S.R ac a9 d) (λfl a5 y=>by haveI y:=kD.le S.le y;cases fl<;>show y) λe a5 y=>y.uy ac a9 S.le)
 |ret v bH=>
  show a0 (h λJ=>nofun) (λfl m aD=>aD.casesOn λaE w S O e=>?_) λJ J x=>x.elim
  k_lt e;haveI j:=o c aE bH m A S.R ac a9;dsimp only at d⊢;generalize g [] call bH=DT at j d⊢;cases DT with
  |next bn=>show a0 (j λJ=>nofun) (λfl a5 ⟨⟨bp,i⟩,e⟩=>by k_lt e;show⟨bp,w,⟨S.le.trans i.le,i.R⟩,O.bR i.le,rfl⟩) λJ J x=>x.elim
  |exc k bn=>show a0 (j λJ=>nofun) (λJ J x=>x.elim) λe a5 y=>dH.uy (r:= .exc k bn) ac a9 S.le y
  |stuck k=>show absurd rfl (d k)
  |_=>show absurd rfl (d 105)
 |exc k bH=>
  show a0 (h λJ=>nofun) (λJ J x=>x.elim) λe m aD=>aD.casesOn λaE ai S aI X=>?_
  k_lt aI;show a0 (bo<|tU (E:=λJ J=>False) S.R ac.frames a9 l X) (λ_ a5 aD=>aD.casesOn λF z=>?_) λJ J x=>x.elim;show⟨nofun,a0 (bo<|tU F ac.frames a9 l (z.exc l)) (λ_ bD aD=>aD.casesOn λbN K=>?_) λJ J x=>x⟩
  show a0 (bo<|q1 (fr:=aa) bN K) (λ_ P aD=>aD.casesOn λB q=>?_) λJ J x=>x;show x14 (hv.gS (A:=A) (sc:=sc) (n:=n) B q) λI D H Q gI=>?_;haveI j:=o _ aE _ P _ H (Q ac) a9;dsimp only at d⊢;generalize g [] call (bH.iB ae)=DT at j d⊢;cases DT with
  |next bn=>
   show a0 (j λJ=>nofun) (λfl DS ⟨⟨bp,i⟩,e⟩=>?_) λJ J x=>x.elim
   k_lt e;show x02 (gI _ _ _ i.R) λV W=>bo<|Ic V W l λZ M N=>⟨bp,ai,⟨S.le.trans i.le,S.R.hf.symm▸M⟩,rfl,N.exc l⟩
  |stuck k=>show absurd rfl (d k)
  |_=>show absurd rfl (d 103)
 |stuck k=>show absurd rfl (d k)
 |_=>show absurd rfl (d 102)
end
section
open PySem.SeqAt
variable{c:aV}{Y aE:b1}{s:ax}{A:b2}{E:aj->ax->Prop}{n:Nat}{r dP:bl}{M:fa}
def noStar(e:aT):Bool:= !eR e 22
def Ie(h:noStar e=ae)(r:List aT)(env:Env):j2 (e::r) env=(af,b5 e env)::j2 r env:=by cases e<;>first |rfl |cases h
noncomputable def py(l:List aT):Bool:=l.all noStar
def RA:∀{es:List aT},py es=ae->∀env,j2 es env=es.map λe=>(af,b5 e env):=by
 intro es;cases es with
 |nil=>showλJ J=>rfl
 |cons e r i=>intro h env;haveI h:=dx.mp h;rw[Ie h.1,i h.2 env];rfl
def wN(h:py es=ae)(pos:Pos)(env:Env):ol pos (j2 es env)=es.map λe=>(af,b5 e env):=by rw[RA h];delta ol;rw[iT];rfl
def Ig{es:List aT}(env:Env):(es.map λe=>((af,b5 e env):Bool×Sem aj)).any (·.1)=af:=by
 rw[List.any_map];cases es with
 |nil=>rfl
 |cons e r i=>rw[Ao,i];rfl
def ai.afu(h:ai u c A (v6 u c) Y t s dP)(d:cW (dP.ea k))
 (f:∀vs ws H q F,ec u c Y H q F->bI (az u H.ah) vs ws->dP.ea k=k vs q->Q ws F)(ex:∀e an,dH u c Y (dP.ea k) e an->E e an):aG u.M A t Q E s:=by
 cases dP with
 |args v q=>show a0 (h λJ=>nofun) (λw F aD=>aD.casesOn λH S g=>f v w H q F S g rfl) λJ J x=>x.elim
 |exc k q=>show a0 (h λJ=>nofun) (λJ J x=>x.elim) λe an x=>ex e an x
 |stuck k=>show absurd rfl (d k)
 |_=>show absurd rfl (d 2)
def JR(i:py es=ae)(h:ma u sc n call es f)(g:es= []->f=C.eC)(R:Rel u c Y L s)(ac:Act c A sc n)(j:cW ((f [] call L).ea k))
 (d:∀vs ws F H q,ec u c Y F H q->bI (az u F.ah) vs ws->(f [] call L).ea k=k vs H->Q ⟨ws, []⟩ q)(ex:∀e an,dH u c Y ((f [] call L).ea k) e an->E e an):
 aG u.M A (Jo w ae (ol pos (j2 es c.env)) []) Q E s:=by
 cases es with
 |nil=>obtain rfl:=g rfl;show bo<|evalArgs_nil3 (d [] [] Y L s R.ff .nil rfl)
 |cons e r=>haveI ag:=h pos c Y L s A R ac;rw[wN i]at ag⊢;show GD (ag.afu j d ex)
def uz(M:fa)(w:aj)(h:Heap):Prop:=∃k,(k=SQ\/k=RM\/k=QG)/\eY M h (Jp w) k
def Cf(c:∀a,w≠ .ref a):uz M w h:=by
 show⟨.machine, .inr (.inl rfl),?_⟩;haveI:Jp w=pure .machine:=by cases w<;>first |rfl |show absurd rfl (c _)
 show tl this
def Cg(u:bf)(n:Nat)(call:d8):Prop:=∀c Y L s A sc v w as ws,Rel u c Y L s->Act c A sc n->az u Y.ah v w->bI (az u Y.ah) as ws->ai u c A (ci u c) Y (bv w ws) s (C.B8 u.ao v as call L)
def Tc(R:Rel u c Y L s)(d:az u Y.ah v w):cW (C.B8 u.ao v as call L)->uz M w s.heap:=by
 show C.xN (P:=(cW ·->_)) (λk e J=>?_) (C.ub (P:=(cW ·->_)) (λk e J=>?_) (C.xt (P:=(cW ·->_)) (λk e J=>?_) (C.e9 (P:=(cW ·->_)) (λi e=>C.Jz (P:=(cW ·->_)) (λk f q J=>?_) λh=>absurd rfl (h 80)) λh=>absurd rfl (h 80))))
 all_goals w_pre e
 .cases d;show Kz (M:=M) (R.st.vu _) _ R.fs
 .cases d;show Cf λa q=>?_;cases k<;>cases q
 .cases d;show Kz (M:=M) (R.st.Oj _) _ R.fs
 .obtain⟨p,j,rfl⟩:=d;obtain⟨qual,l,pm,a_,ac,g,J⟩:=R.at j q;show keeps_F _ ⟨_,_,_,_,g.g⟩
def XY(k:py es=ae)(r:es= []->g=C.eC)(m:∀env,b5 (.Call F es [] p) env=b5 F env>>=λw=>Bx p w [] (ol p (j2 es env)) [])
 (D:Cg u n call)(o:b4 u sc n call F f)(h:ma u sc n call es g):b4 u sc n call (.Call F es [] p) (C.ia u.ao f g):=λc Y L s A R ac=>by
 rw[m];show .dD (o c Y L s A R ac) λv w y z t S j i=>AV (P:=uz u.M w) (by rw[wN k,Ig]) (λJ x=>x) (JR k h r S.R ac i (λvs ws bp bn a5 d l e=>?_) λe a5 x=>x)
 rw[e]at i⊢;show⟨Tc d.R (j.bR d.le) i,(D c bp bn a5 A sc v w vs ws d.R ac (j.bR d.le) l).up d.le i⟩
def G4:PlainAttrs "bytearray":=⟨⟨"bytearray.__getattribute__",by rw[gn,gm];k_go,by z_go⟩,by rw[gn,gm];k_go⟩
def GT:jG "bytearray" "append" "bytearray.append":=.of (owner:="bytearray") (n:="append") (by rw[gn,gm];k_go) (by z_go) (by z_go) (by z_go)
  (by first |show .inl (by z_go) |show .inr (by z_go)) (by rw[jU];k_go)
def GU:jG "bytearray" "extend" "bytearray.extend":=.of (owner:="bytearray") (n:="extend") (by rw[gn,gm];k_go) (by z_go) (by z_go) (by z_go)
  (by first |show .inl (by z_go) |show .inr (by z_go)) (by rw[jU];k_go)
def RB:m6 (.builtin "bytearray.append")=pure (.type "method_descriptor"):=by change HA _=_;rw[F6];k_go
def RC:m6 (.builtin "bytearray.extend")=pure (.type "method_descriptor"):=by change HA _=_;rw[F6];k_go
def QR:m6 (.builtin "list.append")=pure (.type "method_descriptor"):=by change HA _=_;rw[F6];k_go
noncomputable def ql:je->Option Str
 | .append=>U (bq "append")
 | .remove=>U (bq "remove")
 | .extend=>U (bq "extend")
 | .get=>U (bq "get")
 | .f7=>aa
noncomputable def Ov:je->qq->String
 | .append, .mn=>"list.append"
 | .remove, .mn=>"list.remove"
 | .append, .oS=>"bytearray.append"
 | .extend, .oS=>"bytearray.extend"
 |_,_=>"dict.get"
def vA(w:aj)(b:je)(f:aj×List aj):qq->Prop
 | .fn k=>k<146/\f=(.ref (eE k), [w])
 |t=>f=(.builtin (Ov b t), [w])
def Ih{name:Str}{id:String}{pl:Sem Bool}(S:jG "list" name id)(t:m6 (.builtin id)=pure (.type "method_descriptor"))
 (g:s.heap.get? a=U ⟨.type "list",aa, .seq ws k,#[]⟩)(h:Q (.builtin id, [.ref a]) s):aQ M A (tE (.ref a) name pl) Q E s:=z0 ⟨_,g,rfl⟩ F.plainAttrs_list S t (λb e=>by cases e;show⟨_,g,rfl⟩) h
def rt(R:Rel u c Y L s)(h:L.h.get d= .c3 live cL ch lk row cb):∃ct,br Y.ah d ct/\rD u Y.ah Y.own s.heap d ct live cL ch lk row cb:=by haveI f:d<Y.ah.length:=R.len.symm▸Gu λq=>nomatch(R.out d q).symm.trans h;haveI e:br Y.ah d Y.ah[d]:=jP f;show⟨_,e,R.at e h⟩
def CX{P:Option qq->Prop}(f:b= .append->P t1)(d:b= .remove->P iI)(c:b= .extend->P t3)(i:b= .get->P sH)(g:P v8):P (C.jH t1 iI t3 sH v8 b):=by
 cases b with
 |append=>show f rfl
 |remove=>show d rfl
 |extend=>show c rfl
 |get=>show i rfl
 |f7=>show g
section
def JS{ws:Array aj}(c:∀x,ql b=U x->ay m=x)(g:s.heap.get? a=U ⟨.type "list",aa, .seq ws k,#[]⟩):C.jH (U .mn) (U .mn) aa aa aa b=U t->aQ M A (tE (.ref a) (ay m) pl) (λq an=>an=s/\vA (.ref a) b q t) E s:=by
 show CX (P:=(·=U t->_)) (λe h=>?_) (λe h=>?_) nofun nofun nofun<;>subst e<;>cases h<;>rw[c _ rfl]
 .show Ih QZ QR g ⟨rfl,rfl⟩
 .show Ih Gb F.type_list_remove g ⟨rfl,rfl⟩
def BK{es:Array hF}{k:Nat}(c:∀x,ql b=U x->ay m=x)(g:s.heap.get? a=U ⟨.type "dict",aa, .dict es k,#[]⟩):C.jH aa aa aa (U .sv) aa b=U t->aQ M A (tE (.ref a) (ay m) pl) (λq an=>an=s/\vA (.ref a) b q t) E s:=by
 show CX (P:=(·=U t->_)) nofun nofun nofun (λe h=>?_) nofun
 k_lt e;cases h;rw[c _ rfl];show z0 ⟨_,g,rfl⟩ F.plainAttrs_dict GM F.type_dict_get (λb e=>by cases e;show⟨_,g,rfl⟩) ⟨rfl,rfl⟩
def XZ{x:Array UInt8}(c:∀x,ql b=U x->ay m=x)(g:s.heap.get? a=U ⟨.type "bytearray",aa, .bytearray x 0,q⟩):C.jH (U .oS) aa (U .oS) aa aa b=U t->aQ M A (tE (.ref a) (ay m) pl) (λF an=>an=s/\vA (.ref a) b F t) E s:=by
 show CX (P:=(·=U t->_)) (λe h=>?_) nofun (λe h=>?_) nofun nofun<;>subst e<;>cases h<;>rw[c _ rfl]
 .show z0 ⟨_,g,rfl⟩ G4 GT RB (λb e=>by cases e;show⟨_,g,rfl⟩) ⟨rfl,rfl⟩
 .show z0 ⟨_,g,rfl⟩ G4 GU RC (λb e=>by cases e;show⟨_,g,rfl⟩) ⟨rfl,rfl⟩
def V1(R:Rel u c Y L s)(ai:az u Y.ah v w)(B:∀x,ql b=U x->ay m=x):
 uo u.ao v m b L=U t->aQ u.M A (tE w (ay m) pl) (λF an=>an=s/\vA w b F t) E s:=by
 show C.e9 (P:=(·=U t->_)) (λi e=>?_) nofun
 k_lt e;obtain⟨p,z,rfl⟩:=ai;show C.kU (P:=(·=U t->_)) (λk f q h=>?_) (C.j0 (P:=(·=U t->_)) (λl q h=>?_) (C.II (P:=(·=U t->_)) (λd q=>C.pd (P:=(·=U t->_)) (λlive cL ch lk row cb Q h=>?_) nofun)
  (C.oa (P:=(·=U t->_)) (λy q h=>?_) (C.q6 (P:=(·=U t->_)) (λl q h=>?_) (C.Jy (P:=(·=U t->_)) (λd q=>C.pd (P:=(·=U t->_)) (λlive cL ch lk row cb Q h=>?_) nofun)
  (C.pd (P:=(·=U t->_)) (λlive cL ch lk row cb q h=>?_) nofun))))))
 .obtain⟨es,j,I,W,a,b,r⟩:=R.at z q;show x06 (R.st.cls k I) λcc c4 gg sK V T=>?_;cases Q:f.get m with
  |some w=>rw[Q]at h;cases h
  |none=>
   rw[Q]at h;show x12 (C.mW h) λcV K O=>?_;k_lt O;show x03 (R.st.rN k m cV I K) λS aI M=>x12 (BH R.st (n:=m) (m:=j) r) λx bQ cn=>?_;rw[Q]at cn;show method_fn R.fs (Cd a.g b.g) c4 gg S aI ?_ ⟨rfl,M,rfl⟩;change(lookIn (ay m) _).map _=_;rw[bQ];cases x with
   |none=>rfl
   |some _=>show cn.elim
 .obtain⟨ws,k,g,J⟩:=R.at z q;show JS B g.g h
 .show x02 (C.db h) λac D=>?_;obtain rfl:=C.bS ac;obtain⟨ct,J,pr,pl,am,lv,f,fl,ws,wn,H⟩:=rt R Q;obtain rfl:=H.cQ.1.fn z;show JS B H.kl D
 .obtain⟨x,X,g,J⟩:=R.at z q;show XZ B g.g h
 .obtain⟨f,o,⟨es,ep,ks,g,J⟩,J⟩:=R.at z q;show BK B g h
 .show x02 (C.db h) λac D=>?_;obtain rfl:=C.bS ac;obtain⟨ct,J,pr,pl,am,lv,f,fl,ws,wn,H⟩:=rt R Q;obtain rfl:=H.cQ.2.fn z;show x32 H.kj λes ep ks g J=>BK B g D
 .obtain⟨pr,pl,am,lv,f,fl,ws,wn,H⟩:=R.at z q;show x32 H.jw λes ep ks g J=>BK B g h
end
def xS(u:bf)(n:Nat):Prop:=∀c Y L s A sc v w b t as ws,Rel u c Y L s->Act c A sc n->az u Y.ah v w->bI (az u Y.ah) as ws->(∀k,t≠ .fn k)->∀call,ai u c A (ci u c) Y (bv (.builtin (Ov b t)) (w::ws)) s (C.B7 u.ao t v b as call L)
def UG{es:List aT}(env:Env):(es.map λe=>((af,b5 e env):Bool×Sem aj)).all (!·.1)=ae:=by
 rw[List.all_map];cases es with
 |nil=>rfl
 |cons e r i=>rw[Si,i];rfl
def UH(agM:jp u n call)(agN:xS u n)(R:Rel u c Y L s)(ac:Act c A sc n)(dY:az u Y.ah v w)(oO:bI (az u Y.ah) as ws)
 (hm:vA w b Fm t):uz u.M Fm.1 s.heap/\ai u c A (ci u c) Y (bv Fm.1 (Fm.2++ws)) s (C.B7 u.ao t v b as call L):=by
 cases t with
 |fn k=>show x02 hm λg6 cv=>?_;k_lt cv;show⟨Kz (M:=u.M) (R.st.vu _) _ R.fs,agM c Y L s A A sc k (v::as) (w::ws) R ac (gT.refl A) (.cons dY oO) g6⟩
 |mn |oS |sv=>cases hm;show⟨Cf (λa q=>by cases q),agN c Y L s A sc v w b _ as ws R ac dY oO (λk q=>by cases q) call⟩
def X0(i:py es=ae)(M:es.length<30)(V:es= []->g=C.eC)(y:∀env,wJ o (ay m) env (b5 o env)=b5 o env)(I:q.endLine=p.line)
 (D:∀x,ql b=U x->ay m=x)(z:jp u n call)(T:xS u n)(Q:b4 u sc n call o f)(h:ma u sc n call es g):b4 u sc n call (.Call (.Attribute o (ay m) q) es [] p) (C.yw u.ao f m b g):=λc Y L s A R ac=>by
 change ai _ _ _ _ _ (wJ o (ay m) c.env (b5 o c.env)>>=λO=>fO q.atName>>=λJ=>AT o (ay m) q p c.env O (es.length+0) (ol p (j2 es c.env)) []) _ _;rw[y];show .dD (Q c Y L s A R ac) λv w F H X S k=> .dm ?_;delta AT;rw[show Ai (es.length+0) (ol p (j2 es c.env)) []=ae by
  delta Ai;rw[wN i,UG];simp[M],show Ap ae o c.env q p=pure p by
  delta Ap;rw[I];simp]
 show .a7 λt l j=>aF (cO (bo (hk (V1 (A:=A) (E:=λJ J=>False) (pl:=(do return(<-importBound o c.env).getD ae)) S.R k D l) (λr a5 aD=>aD.casesOn λe B=>?_) λJ J x=>x.elim)))
 w_pre e;show aF (bL (AV (P:=uz u.M r.1) (by rw[wN i,Ig]) (λJ x=>x) (JR i h V S.R ac j (λvs ws bp bn a5 d aI e=>?_) λe a5 x=>x)))
 rw[e]at j⊢;show x02 (UH z T d.R ac (k.bR d.le) aI B) λK W=>⟨K,W.up d.le j⟩
end
section
open PySem.SeqAt
open Mine.C (dv)
noncomputable def gV(env:Env)(c:List (Str×iV))(A:List (Str×ar)):List (Str×ar):=match c with
 | []=>A
 | (n,k)::r=>if k== .free then gV env r ((n,(env.cells.lookup n).getD 0)::A)else gV env r A
def HO(h:∀x∈scope.names,x.2= .free->(env.cells.lookup x.1).isSome=ae):nU scope env=pure (gV env scope.names []):=by
 simp only[nU];haveI K:∀(l:List (Str×iV)) (A:List (Str×ar)),(∀x∈l,x.2= .free->(env.cells.lookup x.1).isSome=ae)->
  forIn l A (λx cs=>do
   let(name,kind):=x
   if(kind==h2)=ae then do
    let c<-cellOf env name
    pure (kK ((name,c)::cs))
   else pure (kK cs))=(pure (gV env l A):Sem _):=by
  intro l;cases l with
  |nil=>intro A J;rfl
  |cons x r i=>
   intro A g;obtain⟨n,k⟩:=x;rw[GJ];haveI f:∀x∈r,x.2= .free->(env.cells.lookup x.1).isSome=ae:=λx m=>g x (cA _ m);dsimp only;change _=(pure (if(k==h2)=ae then gV env r ((n,(env.cells.lookup n).getD 0)::A)else gV env r A):Sem _)
   cases j:(k==h2)with
   |true=>
    haveI:=g (n,k) (cF ..) (by simpa using j)
    show x11 (qE.mp this) λc d=>?_;haveI d:env.cells.lookup n=U c:=d;delta cellOf;rw[d];show i _ f
   |false=>show i _ f
 haveI:=K scope.names [] h;simpa using this
def wU(g:env.cells.lookup x=U c):∀(l:List (Str×iV)) (A:List (Str×ar)),((x,h2)∈l\/A.lookup x=U c)->(gV env l A).lookup x=U c:=by
 intro X;cases X with
 |nil=>intro A h;show h.resolve_left (by simp)
 |cons f r i=>
  obtain⟨n,k⟩:=f;intro A h;change wX x (if(k==h2)=ae then gV env r ((n,(env.cells.lookup n).getD 0)::A)else gV env r A)=_
  by_cases d:(k==h2)=ae
  .rw[if_pos d];show i _ ?_;by_cases e:x=n
   .k_lt e;right;rw[hg,beq_self_eq_true,g];rfl
   .show a8 h (λh=>?_) λh=>?_
    .show a8 (bX.mp h) (λq=>?_) λq=>?_
     .cases q;show absurd rfl e
     .show .inl q
    .right;rw[hg,show(x==n)=af from by simpa using e];show h
  .rw[if_neg d];show i _ (a8 h (λh=>?_) λh=>?_)
   .show a8 (bX.mp h) (λq=>?_) λq=>?_
    .cases q;show absurd rfl d
    .show .inl q
   .show .inr h
section
variable{c a_:aV}{Y aE:b1}{L bH:bU}{s an:ax}{A:b2}{E:aj->ax->Prop}{n:Nat}{I:fV}{r dP:bl}
structure Wait(u:bf)(c:aV):Prop where
 agO:c.z.Z c.env.locals=aa
 agP:u.H.objs.size<=c.env.locals
 agQ:∀q∈c.z.fw,q.1≠c.env.locals
def Rel.adQ(R:Rel u c Y L s):Wait u c:=⟨R.h7,R.iy,λq d=>(R.kept q d).2.2⟩
def Rel.DU{ag:Heap}{tk:Nat}{fr':aL}{m M:Str->Option aj}(R:Rel u c Y L s)(v:s.heap.Ns c.env.locals m)(k:∀b o,s.heap.get? b=U o->ag.get? b=U o)(z:s.heap.get? a_.env.locals=aa)
 (w:ag.Ns a_.env.locals M)(fr:f9 u Y.ah a_.env M fr')(n:a_.z.Z=c.z.Z)(A:a_.z.fw=(c.env.locals,m)::c.z.fw)(D:a_.z.os=c.z.os)(hsz:s.heap.objs.size<=a_.env.locals)
 (y:∀e∈a_.z.cy,e∈c.z.cy\/(e.scope.kind≠ .module/\e.frame=U a_.env.locals/\e.code=a_.env.code))(t:hH Y.own a_.env.code)(hcd:autoParam (∀a,a_.z.cd a->c.z.cd a) mw.at._auto_1):Rel u a_ Y ⟨L.h,L.nx,fr',a_.hf⟩ {s with heap:=ag,toks:=tk}:=by
 have p:=R.fresh z;have ns:∀a m,s.heap.Ns a m->ag.Ns a m/\a≠a_.env.locals:=λa m ⟨o,es,ep,e,r⟩=>⟨⟨o,es,ep,k a o e,r⟩,λq=>(nomatch(q▸z:s.heap.get? a=aa).symm.trans e)⟩;show⟨R.st,rfl,λa o e=>n▸R.base a o e,λb o e=>?_,λe i=>?_,λq l=>?_,R.len,λb j e=>⟨(R.low b j e).1.imp (k b),(R.low b j e).2⟩,λj q e=>(R.objs j q e).at (fj _) (λb E=>⟨E,λo=>k b o⟩) λJ=>id,R.out,⟨M,w,fr⟩,p.1,(congrFun n _).trans (eb.z p.2.1),?_,R.gens,R.os.trans D.symm,R.bc.at (λJ J J=>n7) (λb j aI e o=>k b o) ⟨rfl,rfl⟩ t (λe i=>(y e i).elim (R.bc.codes e) λx=>x.2.2▸t) (hcd:=hcd)⟩
 .rw[n]at e;show⟨k b o (R.frozen b o e).1,(R.frozen b o e).2⟩
 .rw[n];show a8 (y e i) (λi=>?_) λac=>?_
  .obtain⟨a,aq,o,b,x,d,f,g⟩:=R.frames e i;show⟨a,aq,o,b,k aq o x,d,f,g⟩
  .show x03 ac λB hf J=>?_;show x33 w λo es ep ai d J=>?_;show⟨B,_,o,hf,ai,⟨es,ep,d⟩,p.1,eb.z p.2.1⟩
 .rw[A]at l;show a8 (bX.mp l) (λO=>?_) λl=>?_
  .k_lt O;show⟨(ns _ _ v).1,R.ix,(ns _ _ v).2⟩
  .show x03 (R.kept q l) λa b J=>⟨(ns _ _ a).1,b,(ns _ _ a).2⟩
 .show x12 R.here λJ I J=>x32 I λo es ep e J=>?_;show c7 R.iy (c7 (fk (ee e)) hsz)
def Rel.ab4{fr:aL}(R:Rel u a_ aE bH an)(W:Wait u c)(k:a_.z.fw=(c.env.locals,m)::c.z.fw)(v:∀b o,c.z.Z b=U o->a_.z.Z b=U o)(w:∀aq,a_.z.Z aq=aa->c.z.Z aq=aa)(y:∀a o,u.H.get? a=U o->c.z.Z a=U o)(t:a_.z.os=c.z.os)
 (l:∀e∈c.z.cy,e∈a_.z.cy)(s:f9 u aE.ah c.env m fr)(r:hH aE.own c.env.code)(hcd:autoParam (∀a,c.z.cd a->a_.z.cd a) mw.at._auto_1):Rel u c aE ⟨bH.h,bH.nx,fr,c.hf⟩ an:=by
 haveI p:=R.kept (c.env.locals,m) (k▸cF);show⟨R.st,rfl,y,λb o e=>R.frozen b o (v b o e),λe i=>?_,λq n=>?_,R.len,R.low,R.objs,R.out,⟨m,p.1,s⟩,p.2.1,W.agO,W.agP,R.gens,R.os.trans t,R.bc.at (λJ J J=>n7) (λb j z e o=>id) ⟨rfl,rfl⟩ r (λe i=>R.bc.codes e (l e i)) (hcd:=hcd)⟩
 .obtain⟨a,aq,o,b,x,d,f,g⟩:=R.frames e (l e i);show⟨a,aq,o,b,x,d,f,w _ g⟩
 .show x03 (R.kept q (k▸cA _ n)) λa b J=>⟨a,b,W.agQ q n⟩
def RD(g:s.heap.get? l=U ⟨.type "list",aa, .seq ws k,#[]⟩)(hz:ws.size<=9000)
 (c:∀ag cV,ag.get? l=U ⟨.type "list",aa, .seq (ws.push x) cV,#[]⟩->fA l s.heap ag->Q .none {s with heap:=ag}):aQ u.M A (bv (.builtin "list.append") [.ref l,x]) Q E s:=by
 show lK QZ ⟨_,g,rfl⟩ entry_list_append ?_ (args_list_append _ _);change aQ _ _ (updateSeq l (·.push x)>>=λJ=>ret .none) _ _ s;show aw (Rm g rfl (aY ⟨.none,rfl,c _ _ (lG _ g rfl) (s5 ..)⟩) (by rw[ez];omega))
noncomputable def aV.D(c:aV)(D:ar)(o:Obj):aV:={c with z:={c.z with Z:=λb=>if b=D then U o else c.z.Z b}}
def aV.oe{D:ar}:(c.D D o).z.Z D=U o:=if_pos rfl
def aV.nj{D b:ar}(h:b≠D):(c.D D o).z.Z b=c.z.Z b:=if_neg h
def di.D{D:ar}(x:di u (c.D D o) I):di u (c.D D a4) I:=⟨λb p e=>by
 show x02 (x.h b p e) λa r=>⟨?_,r⟩;by_cases q:b=D
 .k_lt q;show nomatch aV.oe.symm.trans a
 .show(aV.nj q).trans ((aV.nj q).symm.trans a)⟩
structure y9(u:bf)(c:aV)(D:ar):Prop where
 H:u.H.get? D=aa
 Z:c.z.Z D=aa
 cy:∀e∈c.z.cy,e.frame≠U D
 fw:∀q∈c.z.fw,q.1≠D
def di.Ow{D:ar}{o:Obj}(X:di u (c.D D o) I):I D=aa:=by
 cases q:I D with
 |none=>rfl
 |some p=>show nomatch aV.oe.symm.trans (X.h D p q).1
def Rel.ab5(R:Rel u ((c.D D o).add I) Y L s)(X:di u (c.D D o) I)(K:y9 u c D)(am:fA D s.heap ag)(g:ag.get? D=U a4):
 Rel u ((c.D D a4).add I) Y L {s with heap:=ag,toks:=tk}:=by
 have fh:=X.Ow;have fz:=R.frozen D o ((aV.gq fh).trans aV.oe);have f:D≠c.env.locals:=λq=>nomatch((aV.gq fh).trans aV.oe).symm.trans ((congrArg _ q).trans R.h7);show R.yL (D:=λb=>b=D) (Z':=((c.D D a4).add I).z.Z) (λb d=>?_) (λb p d e=>(am.2 b d).trans e) (λb d=>?_) λb p d e=>?_
 .w_pre d;show⟨fz.2,f,K.H,K.cy,K.fw⟩
 .cases q:I b with
  |some p=>rw[aV.j8 q,aV.j8 q]
  |none=>rw[aV.gq q,aV.gq q,aV.nj d,aV.nj d]
 .w_pre d;cases((aV.gq fh).trans aV.oe).symm.trans e;show g
def Act.D{D:ar}(ac:Act c A sc n)(K:y9 u c D):Act (c.D D o) A sc n:=by show⟨ac.frames,ac.cur,ac.kind,ac.globals,ac.builtins,ac.depth,ac.units,ac.hand.imp id λ⟨h,x,a4,vs,a,b,d⟩=>⟨h,x,a4,vs,a,(aV.nj λq=>?_).trans b,d⟩,ac.sc⟩;k_lt q;show nomatch K.Z.symm.trans b
noncomputable abbrev f6(ws:Array aj)(k:Nat):Obj:=⟨.type "list",aa, .seq ws k,#[]⟩
inductive CompEnd(u:bf)(c:aV)(D:ar)(Y:b1)(r:bl)(an:ax):Prop where
 |mk (aE:b1) (oP:bU) (vs:List a3) (ws:Array aj) (k:Nat) (e:r= .args vs oP) (S:ec u (c.D D (f6 ws k)) Y aE oP an) (al:bI (az u aE.ah) vs ws.toList)
def ai.vB(h:ai u c A (ci u c) Y t s dP)(d:cW (dP.bind k))
 (f:∀v w H q F,ec u c Y H q F->az u H.ah v w->dP.bind k=k v q->Q w F)(ex:∀e an,dH u c Y (dP.bind k) e an->E e an):aG u.M A t Q E s:=by
 cases dP with
 |ok v q=>show a0 (h λJ=>nofun) (λw F aD=>aD.casesOn λH S g=>f v w H q F S g rfl) λJ J x=>x.elim
 |exc k q=>show a0 (h λJ=>nofun) (λJ J x=>x.elim) λe an x=>ex e an x
 |stuck k=>show absurd rfl (d k)
 |_=>show absurd rfl (d 1)
def EO(r:bl):Prop:=∀k L,r≠ .exc k L
def dH.no(h:EO r)(x:dH u c Y r e s):False:=by
 cases r with
 |exc k L=>show h k L rfl
 |_=>show x
inductive JT(u:bf)(c:aV)(call:d8)(jL fc agR:cw)(D a:ar)(Y:b1)(r:bl)(m:Nat)(s:ax):Prop where
 |mk (aE:b1) (bH:bU) (I':fV) (mz:dv) (acc:List a3) (ws:Array aj) (k:Nat) (S:ec u ((c.D D (f6 ws k)).add I') Y aE bH s) (X:di u (c.D D (f6 ws k)) I') (O:fg u aE.ah a I' mz aa)
  (h:bI (az u aE.ah) acc.reverse ws.toList) (hz:acc.length+m<=1000) (lq:C.gp u.ao.lf jL fc agR call m mz acc bH=r)
def UI
 (jN:gU u sc n call target H)(he:b4 u sc n call elt F)(cN:(ifs= []/\fc=C.ju)\/∃c,ifs= [c]/\gJ u sc n call c fc)
 (K:y9 u c D)(R:Rel u ((c.D D (f6 EP kE)).add I) Y L s)(X:di u (c.D D (f6 EP kE)) I)(O:fg u Y.ah a I i aa)(ac:Act c A sc n)
 (h0:EP=#[])(qw:C.gp u.ao.lf H fc F call 1000 i [] L=r)(aI:cW r)(en:EO r):
 dz u.M A (.compLoop (.ListComp elt [⟨target,iter,ifs,0⟩] scope pos) 0 (.ref a) (.ref D) c.env) (λq an=>q= .ok .next/\CompEnd u c D Y r an) s:=by
 show Ry (JT u c call H fc F D a Y r) (λm s h=>?_) 1000 ⟨Y,L,I,i, [],EP,kE,R.ff,X,O,by k_lt h0;show .nil,jY _,qw⟩
 obtain⟨aE,bH,I',mz,f,ws,k,S,O7,O8,Q,hz,d⟩:=h;cases m with
 |zero=>show absurd d.symm (aI _)
 |succ m=>
  have d:n9 u.ao.lf bH.h mz (.args (C.uK f []) bH) (λv it=>(H [v] call bH).seq λL=>(fc [] call L).bind λc L=>C.dS c ((F [] call L).bind λw L=>C.gp u.ao.lf H fc F call m it (w::f) L) (C.gp u.ao.lf H fc F call m it f L) (.stuck 45))=r:=d;revert d;show Ib (P:=(·=r->_)) (λk d=>absurd d.symm (aI k)) (λhf d=>?_) λv W dd d=>?_
  .show Ce (Bf (E:=λJ J=>False) S.R (ac.D K) O7 O8 hf) λ_ x=>⟨rfl,aE,bH,f.reverse,ws,k,by rw[<-d,C.xu,nO],⟨S.le,x⟩,Q⟩
  .show a0 (bo<|next_item (E:=λJ J=>False) S.R O7 O8 dd) (λq jE x=>?_) λJ J x=>x;show x.go (Q:=λq=>On _ _ _ _ _ _ _ _ _ _ q jE) λw y z bN rY dY=>?_;show x34 bN.plain λo T vs bb bM cz f_=>bo<|IU (rY.ed z bb).1 bM cz f_ ?_;have bD:=(ac.D (o:=f6 ws k) K).add z;show ai.Ot (jN ((c.D D (f6 ws k)).add y) aE bH jE A v w rY bD dY) (d▸aI) (λc6 yb rZ M uY=>?_) λe an x=>(x.no (d▸en)).elim;have d:=d.symm.trans uY;have item:∀(l:bU) (B:b1) (j:ax),ec u ((c.D D (f6 ws k)).add y) c6 B l j->r=(F [] call l).bind (λw L=>C.gp u.ao.lf H fc F call m W (w::f) L)->
    aG u.M A (b5 elt c.env) (Om u.M A (.ref D) λs=>∃zw,zw<m+1/\JT u c call H fc F D a Y r zw s) (λJ J=>False) j:=by
    intro l B j p V;show ai.vB (he ((c.D D (f6 ws k)).add y) B l j A p.R bD) (V▸aI) (λadR x L3 ab6 DS N ab7 yM=>?_) λe an x=>(x.no (V▸en)).elim;have aq:aE.dL L3:=(M.le.trans p.le).trans N.le;have g:=(N.R.frozen D _ ((aV.gq z.Ow).trans aV.oe)).1;have qx:f.length=ws.size:=List.length_reverse.symm.trans (Q.length.trans eo);show bo<|RD g (by lia) λag cV gj am=>⟨m,jm _,L3,ab6,y,W,adR::f,ws.push x,cV,⟨S.le.trans aq,N.R.ab5 (tk:=DS.toks) z K am gj⟩,z.D,bN.bR aq,?_,c7 (hi (PF f.length m)) hz,(V.trans yM).symm⟩
    rw[s_,ww];show(Q.bR λJ J=>az.bR aq).append (.cons ab7 .nil)
   show a8 cN (λqk=>?_) λEN=>?_
   .show x02 qk λcv hP=>?_;w_pre cv;k_lt hP;show bo<|wpAny_tests_nil ?_;show item yb c6 rZ M.R.ff d
   .show x12 EN λt cv v7=>?_;k_lt cv;show RZ ?_;show ai.Os (v7 ((c.D D (f6 ws k)).add y) c6 yb rZ A M.R bD) (d▸aI) (λb B l j p adS=>?_) λe an x=>(x.no (d▸en)).elim;have d:=d.trans adS;cases b with
    |true=>show item l B j p d
    |false=>have EQ:=M.le.trans p.le;show⟨m,jm _,B,l,y,W,f,ws,k,⟨S.le.trans EQ,p.R⟩,z,bN.bR EQ,Q.bR λJ J=>az.bR EQ,QK hz,d.symm⟩
end
end
section
open PySem.SeqAt
open Mine.C (dv)
variable{c a_:aV}{Y aE:b1}{L bH:bU}{s an:ax}{A:b2}{E:aj->ax->Prop}{sc bB:bW}{n:Nat}{I:fV}{r dP:bl}{env:Env}
def UJ(R:Rel u (c.add I) Y L s)(D:di u c I)(O:fg u Y.ah a I i aa)(h:Q (.ref a) s):aQ u.M A (kZ (.ref a)) Q E s:=by
 cases i with
 |eZ=>obtain rfl:I=one a _:=O;show wpAny_pyIter_rangeiter (R.ed D fE).1 h
 |seq=>obtain⟨p,g,o,f,d,rfl⟩:=O;show wpAny_pyIter_listiter ⟨o,(R.ed D fE).1,f,d⟩ h
 |ij i k=>obtain⟨p,g,o,f,d,rfl⟩:=O;haveI cZ:IC s.heap a p.1 k:=⟨o,(R.ed D fE).1,f,d⟩;show Gh cZ.typeIs Pw (lK Pw cZ.typeIs F.entry_tuple_iterator_iter ?_ (F.args_tuple_iterator_iter_1 _));show aY ⟨_,rfl,"tuple_iterator",_,cZ.typeIs,F5.lookup,h⟩
 |hO=>obtain⟨p,g,o,f,d,rfl⟩:=O;show Qb ⟨o,(R.ed D fE).1,f,d⟩ h
 |aZ=>show x32 O λl t pos j J=>?_;obtain⟨o,f,d,rfl⟩:=j;show KBw.pyIter_self ⟨o,(R.ed D fE).1,f,d⟩ h
 |st=>obtain⟨S,es,ep,t,T,oT,i,bk,ws,rfl,J⟩:=O;show VT (R.ed D pT).1 rfl h
structure pz(sc bB:bW):Prop where
 kind:bB.kind= .function
 cell:∀x∈bB.names,x.2≠ .cell
 uniq:∀x∈bB.names,bB.names.lookup x.1=U x.2
 free:∀x∈bB.names,x.2= .free->sc.names.lookup x.1=U .cell\/sc.names.lookup x.1=U .free
def nW:∀{l:List (Str×iV)},l.lookup x=U k->(x,k)∈l:=by
 intro X;cases X with
 |nil=>intro h;show nomatch h
 |cons c r i=>
  obtain⟨n,cV⟩:=c;intro h;rw[hg]at h;split at h
  .rename_i e;cases h;rw[eq_of_beq e];show cF ..
  .show cA _ (i h)
def RE:∀{d:List (Str×iV)} {x:Str} {k:iV},d.lookup x=U k->
 (d.map λ(n,k)=>if(k==h2&&env.scope.kind== .function&&env.kindOf n==U .cell)then(n,Aq)else(n,k)).lookup x=
  U (if(k==h2&&env.scope.kind== .function&&env.kindOf x==U .cell)then Aq else k):=by
 intro X;cases X with
 |nil=>intro J J h;simp at h
 |cons f r i=>
  obtain⟨n,cV⟩:=f;intro x k h;haveI i:= @i x k;rw[gC];rw[hg]at h;by_cases c:(x==n)=ae
  .rw[c]at h;cases h;obtain rfl:=eq_of_beq c;dsimp only;split at⊢
   .rw[hg,beq_self_eq_true]at⊢
   .rw[hg,beq_self_eq_true]at⊢
  .haveI c:(x==n)=af:=by simpa using c
   rw[c]at h;dsimp only;show iteE (λ_=>?_) λ_=>?_
   .rw[hg,c];show i h
   .rw[hg,c];show i h
def w6(h:bB.names.lookup x=U k):(By bB (gV env bB.names []) ac env).kindOf x=U (if(k==h2&&env.scope.kind== .function&&env.kindOf x==U .cell)then Aq else k):=RE h
def V2(S:pz sc bB)(s:jI sc env)(ac:ar):jI bB (By bB (gV env bB.names []) ac env):=by
 show⟨λx h=>w6 h,λx h=>absurd rfl (S.cell _ (nW h)),λx h=>?_,λx h=>w6 h,λx h=>?_⟩
 .rw[w6 h];show iteE (λ_=>?_) λ_=>?_
  .show .inl rfl
  .show .inr rfl
 .show a8 h (λh=>?_) λh=>?_
  .show absurd rfl (S.cell _ (nW h))
  .haveI d:=nW h;show x11 (qE.mp (s.has x (S.free _ d rfl))) λc f=>(congrArg Sg (wU f _ _ (.inl d))).trans rfl
def AN:∀{cs:aL},C.iW fr bk=U cs->cs.get n=U v->n∈bk/\fr.get n=U v:=by
 cases bk with
 |nil=>intro cs h e;cases h;cases e
 |cons k r i=>
  intro cs h e;show x12 (C.eV (k:=λv=>C.g7 (C.iW fr r) (aL.cons k v)) h) λw d h=>x12 (C.mW h) λl c o=>?_;k_lt o;rw[C.aL.hn]at e;cases q:aK k n with
  |true=>rw[q]at e;cases e;obtain rfl:=C.bS q;show⟨cF,d⟩
  |false=>rw[q]at e;show⟨cA _ (i c e).1,(i c e).2⟩
def V3(S:pz sc bB)(s:jI sc env)(h:f9 u ah env m fr)(d:∀n∈bk,(ay n,h2)∈bB.names)(f:C.iW fr bk=U cs):
 f9 u ah (By bB (gV env bB.names []) ac env) F cs:=by
 show⟨λk v e q=>?_,λk v e J=>?_⟩
 .have c:=d k (AN f e).1;rw[w6 (S.uniq _ c)]at q;split at q<;>cases q
 .show x02 (AN f e) λa b=>?_;have c:=d k a;have:=h.bt k v b ((S.free _ c rfl).elim (λq=> .inl (s.bt _ q)) (s.vv _));cases v with
  |ref i=>show this.imp λp q=>⟨q.1,wU q.2 _ _ (.inl c)⟩
  |_=>show this
noncomputable def aV.keep(c:aV)(aq:ar)(m:Str->Option aj):aV:={c with z:={c.z with fw:=(aq,m)::c.z.fw}}
structure uZ(u:bf)(c:aV)(own:cB)(aq:ar):Prop where
 o:own aq=aa
 n:¬eb c aq
 H:u.H.get? aq=aa
def uZ.cy(h:uZ u c own aq):(∀e∈c.z.cy,e.frame≠U aq)/\∀q∈c.z.fw,q.1≠aq:=⟨λe f q=>h.n (.inr (.inl ⟨e,f,q⟩)),λq d e=>h.n (.inr (.inr (.inl ⟨q,d,e⟩)))⟩
def Rel.KR(R:Rel u (c.keep aq m) Y L s)(h:uZ u c Y.own aq)(am:fA aq s.heap ag):Rel u c Y L {s with heap:=ag,toks:=tk}:=by
 have r:Rel u c Y L s:=⟨R.st,R.hf,R.base,R.frozen,R.frames,λq f=>R.kept q (cA _ f),R.len,R.low,R.objs,R.out,R.here,R.ix,R.h7,R.iy,R.gens,R.os,⟨R.bc.t0,R.bc.t1,R.bc.ok,R.bc.here,R.bc.codes,R.bc.nv⟩⟩;show r.yL (D:=λb=>b=aq) (Z':=c.z.Z) (λb d=>?_) (λb o d e=>(am.2 b d).trans e) (λJ J=>rfl) λb o d e=>?_
 .w_pre d;show⟨h.o,eb.ne h.n,h.H,h.cy⟩
 .w_pre d;show nomatch(eb.z h.n).symm.trans e
structure xC(u:bf)(c:aV)(Y:b1)(L:bU)(r:bl)(D ac:ar)(an:ax)(aE:b1)(oP:bU)(vs:List a3)(ws:Array aj)(k:Nat)(agS:Str->Option aj):Prop where
 r:r= .args vs oP
 le:Y.dL aE
 rel:Rel u (c.keep ac agS) aE ⟨oP.h,oP.nx,L.fr,c.hf⟩ an
 hf:oP.hf=c.hf
 lst:an.heap.get? D=U (f6 ws k)
 all:bI (az u aE.ah) vs ws.toList
 ji:uZ u c aE.own D
 O9:D≠ac
 dB:uZ u c aE.own ac
def Ii{elt target iter:aT}{W:List aT}{pos:Pos}{aI H fc:cw}{a:ar}{i:dv}{bk:List Nat}{cs:aL}{T:Option (aj->Sem Unit)}{Q:aj->ax->Prop}
 (jN:gU u bB n call target aI)(t:b4 u bB n call elt H)(cN:(W= []/\fc=C.ju)\/∃c,W= [c]/\gJ u bB n call c fc)
 (R:Rel u (c.add I) Y L s)(X:di u c I)(O:fg u Y.ah a I i aa)(ac:Act c A sc n)(S:pz sc bB)(vC:∀n∈bk,(ay n,h2)∈bB.names)
 (sl:C.iW L.fr bk=U cs)(qw:C.gp u.ao.lf aI fc H call 1000 i [] (L.eK cs)=r)(hZ:cW r)(bD:EO r)
 (fK:∀D ac an aE bN vs ws k F,xC u c Y L r D ac an aE bN vs ws k F->rE u.M A E T Q (.ref D) ac (.ok .next) an):
 aG u.M A (newList []) (λacc rZ=>aG u.M A (wG bB c.env.globals (gV c.env bB.names []) [] c.env.qual aa .none (U c.env)) (λNB adT=>dz u.M A (.compStart (.ListComp elt [⟨target,iter,W,0⟩] bB pos) 0 (.ref a) acc {NB with scope:=relabel bB c.env}) (rE u.M A E T Q acc NB.locals) adT) E rZ) E s:=by
 show bo<|ip ?_ (by change(0:Nat)<=_;lia)
 have l:=R.fresh (iu s.heap);have B:Rel u (c.add I) Y L {s with heap:=s.heap.push (f6 #[] 0)}:=R.all (tk:=s.toks) λb o e=>c2 _ e
 have O_:(s.heap.push (f6 #[] 0)).get? s.heap.objs.size=U (f6 #[] 0):=er _ rfl;show bo<|Qc (λx bD=>S.cell x bD) (by intro y mA;simp at mA) (λz N M=>?_) S.kind
 generalize Ox:s.heap.objs.size=iM at l O_ N M⊢;generalize ai:(s.heap.push (f6 #[] 0)).objs.size=qy at N M⊢;have Oy:iM≠qy:=by rw[<-ai,kM,Ox];show ey (jm _)
 have fh:∀{b},¬eb (c.add I) b->¬eb c b:=λ{b} h x=>h (x.imp (λaD=>aD.casesOn λo e=>by
  cases q:I b with
  |none=>show⟨o,(aV.gq q).trans e⟩
  |some p=>show⟨p,aV.j8 q⟩) id)
 have ly:∀b,(c.add I).z.Z b=aa->c.z.Z b=aa:=λb h=>by
  cases q:I b with
  |none=>show(aV.gq q).symm.trans h
  |some o=>show nomatch(aV.j8 q).symm.trans h
 have NC:∀b o,I b=U o->b≠iM:=λb o e q=>by have:=(R.ed X e).1;rw[q,<-Ox,iu]at this;cases this
 have agT:I iM=aa:=by
  cases q:I iM with
  |none=>rfl
  |some o=>show absurd rfl (NC _ o q)
 show x12 B.here λm hm fr=>?_;have k₁:∀b o,(s.heap.push (f6 #[] 0)).get? b=U o->z.get? b=U o:=λb o e=>by
  have w:b≠qy:=λq=>by have:=ee e;rw[q,ai]at this;show h3 _ this
  show(M.2 b w).trans (c2 _ e)
 have KS:(s.heap.push (f6 #[] 0)).get? qy=aa:=ai▸iu _;have Oz:=B.fresh KS
 let c_:aV:={c.keep c.env.locals m with env:=By bB (gV c.env bB.names []) qy c.env}
 have agU:Rel u (c_.add I) Y ⟨L.h,L.nx,cs,c.hf⟩ {s with heap:=z,toks:=s.toks+0}:=B.DU (a_:=c_.add I) (ag:=z) (tk:=s.toks+0) hm k₁ KS N (V3 S ac.sc fr vC sl) rfl rfl rfl (hi ai) (λe t=> .inl t) B.bc.here
 have K:y9 u c_ iM:=by
  show⟨l.2.2,(eb.z (fh l.2.1):c.z.Z iM=aa),λe t q=>l.2.1 (.inr (.inl ⟨e,t,q⟩)),λq v=>?_⟩;show a8 (bX.mp v) (λV=>?_) λv=>?_
  .k_lt V;showλe=>eb.ne l.2.1 e.symm
  .showλe=>l.2.1 (.inr (.inr (.inl ⟨q,v,e⟩)))
 have Z:Rel u ((c_.D iM (f6 #[] 0)).add I) Y ⟨L.h,L.nx,cs,c.hf⟩ {s with heap:=z,toks:=s.toks+0}:=by
  show agU.yL (D:=λb=>b=iM) (Z':=((c_.D iM (f6 #[] 0)).add I).z.Z) (ag:=z) (tk:=s.toks+0) (λb w=>?_) (λb o J e=>e) (λb w=>?_) λb o w e=>?_
  .w_pre w;show⟨l.1,Oy,K.H,K.cy,K.fw⟩
  .cases q:I b with
   |some p=>rw[aV.j8 q,aV.j8 q]
   |none=>rw[aV.gq q,aV.gq q,aV.nj w]
  .w_pre w;cases((aV.gq agT).trans aV.oe).symm.trans e;show k₁ _ _ O_
 have Pa:di u (c_.D iM (f6 #[] 0)) I:=⟨λb p e=>⟨(aV.nj (NC b p e)).trans (X.h b p e).1,(X.h b p e).2⟩⟩;have agV:Act c_ A bB n:=⟨ac.frames,ac.cur,S.kind,ac.globals,ac.builtins,ac.depth,ac.units,ac.hand,V2 S ac.sc qy⟩;have afv:C.gp u.ao.lf aI fc H call 1000 i [] ⟨L.h,L.nx,cs,c.hf⟩=r:=by rw[<-qw,<-(show L.hf=c.hf from R.hf)];rfl
 have code:=UI (pos:=pos) (scope:=bB) (iter:=iter) jN t cN K Z Pa O agV rfl afv hZ bD;have L4:=nT code (R':=rE u.M A E T Q (.ref iM) qy) λq an ⟨fu,aE,bN,vs,ws,k,sL,sG,afw⟩=>by
  w_pre fu;obtain⟨al,j⟩:=sG;show x12 j.here λF afx J=>?_;have P:=j.kept (c.env.locals,m) cF;have gl:=j.frozen iM _ aV.oe;have afy:∀b o,c.z.Z b=U o->b≠iM:=λb o e q=>nomatch(q▸e:c.z.Z iM=U o).symm.trans (eb.z (fh l.2.1));show fK iM qy an aE bN vs ws k F ⟨sL,al,⟨R.st,rfl,λa o e=>?_,λb o e=>j.frozen b o ((aV.nj (afy b o e)).trans e),λe t=>?_,λq v=>?_,j.len,j.low,j.objs,j.out,⟨m,P.1,fr.bR al⟩,P.2.1,ly _ R.h7,R.iy,j.gens,j.os,⟨j.bc.t0,j.bc.t1,j.bc.ok,j.bc.here,j.bc.codes,j.bc.nv⟩⟩,j.hf,gl.1,afw,⟨gl.2,fh l.2.1,l.2.2⟩,Oy,⟨j.ix,fh Oz.2.1,Oz.2.2⟩⟩
  .have:=R.base a o e;cases q:I a with
   |none=>show(aV.gq q).symm.trans this
   |some p=>show nomatch(X.h a p q).2.1.symm.trans e
  .obtain⟨a,aq,o,b,x,d,f,g⟩:=j.frames e t;show⟨a,aq,o,b,x,d,f,(aV.nj λq=>l.2.1 (.inr (.inl ⟨e,t,b.trans (congrArg U q)⟩))).symm.trans g⟩
  .show a8 (bX.mp v) (λV=>?_) λv=>?_
   .k_lt V;show⟨afx,j.ix,cX P.2.2⟩
   .show x03 (j.kept q (cA _ v)) λa b J=>⟨a,b,(R.kept q v).2.2⟩
 show Q9 L4 (bo<|UJ Z Pa O L4)
def HP(S:pz sc bB)(s:jI sc env):nU bB env=pure (gV env bB.names []):=HO λx c hf=>s.has x.1 (S.free x c hf)
inductive sm(vs:List a3):O->Prop where
 |list (z:vs.length<=5000):sm vs (.list vs)
 |ul (m:Nat) (z:vs.length<=5000) (h:vs.length<=m):sm vs (.l0 m)
def sm.or(aq:sm vs o)(g:e4 own h i D (f6 ws k))(al:bI (az u ah) vs ws.toList):dk u ah own h i (D,D) o:=by
 cases aq with
 |list z=>show⟨ws,k,g,al,z⟩
 |ul m z h=>show⟨vs,h,ws,k,g,al,z⟩
def xC.pM(K:xC u c Y L r D ac an aE e vs ws k q)(am:fA ac an.heap ag)(aq:sm vs o):
 bg u c Y ((e.eK L.fr).alloc o .ok) (.ref D) {an with heap:=ag}:=by
 haveI R:=K.rel.KR (tk:=an.toks) K.dB am;haveI g:ag.get? D=U (f6 ws k):=(am.2 D K.O9).trans K.lst;haveI R':=R.pM (a4:=o) g K.ji.o K.ji.n (aq.or ⟨gO,g⟩ K.all.up);rw[C.gE];show⟨⟨aE.ah++ [(D,D)],ic aE.own D e.nx⟩,⟨K.le.trans (eS _ _),?_⟩,R.n4⟩;rw[K.hf];show R'
def yc(u:bf)(sc:bW)(n:Nat)(call:d8)(l t iter:aT)(I:List aT)(bB:bW)(pos:Pos)(f:cw):Prop:=∀c Y L s A (g:Option (aj->Sem Unit)) (Q E:aj->ax->Prop),Rel u c Y L s->Act c A sc n->cW (f [] call L)->(∀e an,dH u c Y (f [] call L) e an->E e an)->
  (∀D ac an i j aE d vs ws k m a4,Y.dL i->xC u c i j (.args vs d) D ac an aE d vs ws k m->sm vs a4->f [] call L=(d.eK j.fr).alloc a4 .ok->rE u.M A E g Q (.ref D) ac (.ok .next) an)->
  aG u.M A (An (.ListComp l [⟨t,iter,I,0⟩] bB pos) bB c.env (SW [⟨t,iter,I,0⟩] pos) (newList []) af (b5 iter c.env) g) Q E s
def JU{z T iter:aT}{o:List aT}{pos:Pos}{j i p fc:cw}{bk:List Nat}(am:∀env x,o0 iter env x=pure x)(M:b4 u sc n call iter p)(N:gU u bB n call T j)(bD:b4 u bB n call z i)
 (cN:(o= []/\fc=C.ju)\/∃c,o= [c]/\gJ u bB n call c fc)(S:pz sc bB)(vC:∀n∈bk,(ay n,h2)∈bB.names):
 yc u sc n call z T iter o bB pos (C.hJ u.ao i j p fc bk):=λc Y L s A use Q E R ac d ex bN=>by
 show Gd (g:=⟨T,iter,o,0⟩) (gs:= []) rfl (am c.env) (HP S ac.sc) S.kind (λx en qx=>qx▸S.uniq x en) (ai.vB (M c Y L s A R ac) d (λv w ya pS jE B dY l=>?_) ex);haveI l:C.hJ u.ao i j p fc bk [] call L=_:=l;rw[l]at d;show bo<|BJ B.R dY d λa I it e bn bp a5 qj adU X O F f=>?_;rw[f]at d;cases e with
 |some m=>show absurd rfl (d 87)
 |none=>
  haveI d:cW (C.a7 (C.iW bn.fr bk) 87 λcs=>(C.gp u.ao.lf j fc i call 1000 it [] (bn.eK cs)).nx.ea λvs s=>(s.eK bn.fr).fZ vs):=d;haveI f:_=C.a7 (C.iW bn.fr bk) 87 λcs=>(C.gp u.ao.lf j fc i call 1000 it [] (bn.eK cs)).nx.ea λvs s=>(s.eK bn.fr).fZ vs:=f;cases t:C.iW bn.fr bk with
  |none=>rw[t]at d;show absurd rfl (d 87)
  |some cs=>
   rw[t]at d f;haveI d:cW ((C.gp u.ao.lf j fc i call 1000 it [] (bn.eK cs)).nx.ea λvs s=>(s.eK bn.fr).fZ vs):=d;haveI f:_=(C.gp u.ao.lf j fc i call 1000 it [] (bn.eK cs)).nx.ea λvs s=>(s.eK bn.fr).fZ vs:=f;generalize qw:C.gp u.ao.lf j fc i call 1000 it [] (bn.eK cs)=r at d f;show Ii N bD cN F X O ac S vC t qw (λk q=>?_) (λk L q=>?_) λD zy an aE y vs ws k V K=>?_
   .w_pre q;show d k rfl
   .k_lt q;show d 106 rfl
   .obtain⟨rfl,aq,cz,H,aI,vH,P,Z,W⟩:=K;haveI d:cW (C.dA (C.cU vs) ((y.eK bn.fr).alloc (.list vs) .ok)):=d;haveI f:_=C.dA (C.cU vs) ((y.eK bn.fr).alloc (.list vs) .ok):=f;cases q:bw (C.cU vs) 5000 with
    |false=>unfold C.dA at d;rw[q]at d;show absurd rfl (d 5)
    |true=>unfold C.dA at f;rw[q]at f;haveI q:=C.df q;rw[C.eA]at q;show bN D zy an bp bn aE y vs ws k V _ (B.le.trans adU) ⟨rfl,aq,cz,H,aI,vH,P,Z,W⟩ (.list (fk q)) (l.trans f)
def Ch(d:yc u sc n call q target iter ifs bB pos f):b4 u sc n call (.ListComp q [⟨target,iter,ifs,0⟩] bB pos) f:=λc Y L s A R ac j=>by rw[eval_ListComp];show d c Y L s A _ _ _ R ac j (λJ J x=>x) λD i an l p aE o vs ws k m a4 g K aq e=>?_;haveI a6:=K.rel.kept (i,m) cF;show⟨m,a6.1,λag am=>?_⟩;rw[e];show(K.pM am aq).le g
def HQ{E t iter:aT}{i:List aT}{pos a9 p:Pos}{f:cw}{k:Nat}(M:sc.names.lookup (ay k)=U .local)(B:yc u sc n call E t iter i bB pos f):
 eD u sc n call (.Assign [.Name (ay k) a9] (.ListComp E [⟨t,iter,i,0⟩] bB pos) p) (C.k6 (C.c5 k) f):=λc Y L s A R ac bD=>by
 rw[FG];rw[show tj [.Name (ay k) a9] (.ListComp E [⟨t,iter,i,0⟩] bB pos) p.line c.env=pure (c.env.blockKind== .function&&c.env.kindOf (ay k)==U .local&&a9.line==pos.line&& !(bB.names.any λ(n,cV)=>n==ay k&&(cV== .local || cV== .cell)))from rfl];show .dm (.step (λQ=>aY) ?_);haveI aI:=tI (u:=u) (n:=n) (call:=call) (p:=a9) M;split
 .rw[show evalThenUse (.ListComp E [⟨t,iter,i,0⟩] bB pos) c.env (λv=>assignAll v ((mN [.Name (ay k) a9] c.env).map (·.2)))=
   (An (.ListComp E [⟨t,iter,i,0⟩] bB pos) bB c.env (SW [⟨t,iter,i,0⟩] pos) (newList []) af (b5 iter c.env) (U (oj (.Name (ay k) a9) c.env))>>=λJ=>pure ())from rfl]
  showλz=>aF (aF ?_);unfold C.k6 at z⊢;haveI O:cW (f [] call L):=λk q=>by rw[q]at z;show z k rfl
  show B c Y L s A _ _ _ R ac O (λe an x=>?_) λD g an I l aE d vs ws j m a4 F K aq e=>?_
  .cases q:f [] call L with
   |exc k L=>rw[q]at x;show x
   |_=>rw[q]at x;show x.elim
  .rw[e,C.gE];haveI R':=K.rel.pM (a4:=a4) K.lst K.ji.o (λh=>K.ji.n (h.imp id (.imp id λx=>x.elim (λaD=>aD.casesOn λq aD=>aD.casesOn λr e=>by
    show a8 (bX.mp r) (λV=>?_) λr=>?_
    .k_lt V;show absurd e.symm K.O9
    .show .inl ⟨q,r,e⟩) .inr))) (aq.or ⟨gO,K.lst⟩ K.all.up)
   haveI d8:Act (c.keep g m) A sc n:=⟨ac.frames,ac.cur,ac.kind,ac.globals,ac.builtins,ac.depth,ac.units,ac.hand,ac.sc⟩;haveI P:cW (C.c5 k [.ref d.nx] call ⟨d.h.st a4 d.nx,d.nx+1,l.fr,c.hf⟩):=λk q=>nomatch(C.ho ..).symm.trans q;show a0 (aI (c.keep g m) ⟨aE.ah++ [(D,D)],ic aE.own D d.nx⟩ _ _ A _ _ R' d8 K.rel.n4 P) (λJ S y=>?_) λe S y=>?_
   .haveI y:fi u (c.keep g m) _ (C.St.f4 _ k (.ref d.nx) .next) S:=y
    rw[C.ho]at y;obtain⟨T,o⟩:=y;haveI w:=o.R.kept (g,m) cF;show⟨m,w.1,λag dI=>bL (bL ?_)⟩;haveI bZ:d.hf=c.hf:=K.hf;change kD u c Y (C.St.f4 ⟨d.h.st a4 d.nx,d.nx+1,l.fr,d.hf⟩ k (.ref d.nx) .next) .next _
    rw[C.ho,bZ];show⟨⟨T,((F.trans K.le).trans (b:=aE) (c:=⟨aE.ah++ [(D,D)],ic aE.own D d.nx⟩) (eS _ _)).trans o.le,o.R.KR (tk:=S.toks) ⟨w.2.1,λh=>K.dB.n (h.imp id (.imp id (.imp id λq=>absurd q w.2.2))),K.dB.H⟩ dI⟩,rfl⟩
   .haveI y:dH u (c.keep g m) _ (C.St.f4 _ k (.ref d.nx) .next) e S:=y
    rw[C.ho]at y;show y.elim
 .show .dD (Ch B c Y L s A R ac) λW H I l X bN N=>?_;show .step (λQ=>aY) ?_;show ai.qb (aI c I l X A W H bN.R ac N)
end
section
open PySem.SeqAt
def og:List Nat->bU->bU
 | [],L=>L
 |n::r,L=>og r ⟨L.h.st (.cell (L.fr.get n)) L.nx,L.nx+1,L.fr.st n (.ref L.nx),L.hf⟩
theorem HR:∀(ns:List Nat) (L:bU) (k:bU->bl),C.rh ns L k=k (og ns L)
 | [],_,_=>rfl
 |n::r,L,k=>by change L.alloc (.cell (L.fr.get n)) (λv L=>L.f4 n v λL=>C.rh r L k)=_;rw[C.gE,C.ho];show HR r _ k
theorem Ij:∀(ns:List Nat) (L:bU),(og ns L).hf=L.hf
 | [],_=>rfl
 |_::r,L=>Ij r _
section
variable{c:aV}{Y aE:b1}{L bH:bU}{env:Env}{s an:ax}{A:b2}{E:aj->ax->Prop}
def p9.bR{ah c:dr}(h:ah<+:c){v:Option a3}{w:Option aj}(x:p9 u ah v w):p9 u c v w:=by cases v<;>cases w<;>first |show x |show az.bR h x
inductive ab8(u:bf)(c:aV)(Y:b1)(s:ax)(n:Nat)(v:Option a3):Prop where
 |mk (a:ar) (w:Option aj) (l:c.env.cells.lookup (ay n)=U a) (o:Y.own a=aa) (h:¬eb c a) (x:s.heap.IsCell a w) (r:p9 u Y.ah v w)
inductive ab9(u:bf)(c:aV)(Y:b1)(s:ax)(ns:List Nat)(fr:aL)(n:Nat)(v:a3):Prop where
 |bt (h:n∈ns) (r:p_ Y.ah c.env (ay n) v)
 |out (h:n∉ns) (e:fr.get n=U v)
def V4:∀(ns:List Nat) (L:bU) (Y:b1),Rel u c Y ⟨L.h,L.nx, .nil,L.hf⟩ s->ns.Nodup->(∀n∈ns,ab8 u c Y s n (L.fr.get n))->
 (∀n∈ns,∀dM∈ns,n≠dM->c.env.cells.lookup (ay n)≠c.env.cells.lookup (ay dM))->
 ∃aE,Y.dL aE/\Rel u c aE ⟨(og ns L).h,(og ns L).nx, .nil,L.hf⟩ s/\∀n v,(og ns L).fr.get n=U v->ab9 u c aE s ns L.fr n v:=by
 intro X;cases X with
 |nil=>intro L Y R J J J;show⟨Y, .refl _,R,λn v e=> .out (by simp) e⟩
 |cons n r I=>
  intro L Y R g m o;rw[dN]at g;obtain⟨a,w,j,B,bZ,hw,ai⟩:=m n (cF ..);show x12 hw λb7 k z=>?_;have R':=R.pM (a4:= .cell (L.fr.get n)) k B bZ ⟨w,gO,⟨b7,k,z⟩,ai.bR (eS Y.ah [(a,a)])⟩;have l:∀dM∈r,dM≠n:=λdM d e=>g.1 (e▸d);show x13 (I ⟨L.h.st (.cell (L.fr.get n)) L.nx,L.nx+1,L.fr.st n (.ref L.nx),L.hf⟩ _ R' g.2 (λdM d=>by
   obtain⟨b,W,i,aI,ac,p,E⟩:=m dM (cA _ d);have t:b≠a:=λq=>o dM (cA _ d) n (cF ..) (l dM d) (by rw[i,j,q])
   show⟨b,W,i,(if_neg t).trans aI,ac,p,?_⟩;rw[C.aL.f0,if_neg (l dM d)];show E.bR (eS ..)) λa y b D=>o a (cA _ y) b (cA _ D)) λaE A x K=>?_
  show⟨aE,Qk (eS _ _) A,x,λdM v e=>?_⟩;rcases K dM v e with⟨f,b⟩ | ⟨f,b⟩
  .show .bt (cA _ f) b
  .rw[C.aL.f0]at b;by_cases q:dM=n
   .w_pre q;rw[if_pos rfl]at b;cases b;show .bt (cF ..) ⟨(a,a),eI A ?_,j⟩;change(Y.ah++ [(a,a)])[L.nx]? =U (a,a);rw[<-show Y.ah.length=L.nx from R.len];simp
   .rw[if_neg q]at b;show .out (λh=>(bX.mp h).elim q f) b
def Rel.L5(R:Rel u c Y L s){fr:aL}(h:∀m,s.heap.Ns c.env.locals m->f9 u Y.ah c.env m fr):Rel u c Y ⟨L.h,L.nx,fr,L.hf⟩ s:=by show x12 R.here λm d J=>⟨R.st,R.hf,R.base,R.frozen,R.frames,R.kept,R.len,R.low,R.objs,R.out,⟨m,d,h m d⟩,R.ix,R.h7,R.iy,R.gens,R.os,R.bc⟩
end
structure ru(p:xa):Prop where
 po:p.posonlyargs= []
 agW:p.vararg=aa
 qz:p.kwonlyargs= []
 ka:p.kwarg=aa
noncomputable def qm(s:List (Str×aj))(x:Str×aj):List (Str×aj):=if(s.lookup x.1).isNone then s++ [x]else s
noncomputable def n5(P:List Str)(vals ds:List aj):List (Str×aj):=((P.drop (P.length - (ds.drop (ds.length - P.length)).length)).zip (ds.drop (ds.length - P.length))).foldl qm (P.zip vals)
theorem Go{α bA:Type}(f:bA->α->bA):∀(l:List α) (b:bA),(forIn l b λx r=>(pure (kK (f r x)):Sem _))=pure (l.foldl f b)
 | [],b=>rfl
 |x::l,b=>by rw[GJ,pure_bind];show Go f l _
noncomputable def ku(P:List Str)(g:Str->Option aj):List (Str×aj):=P.filterMap λn=>(g n).map (n,·)
def OA{c:Prop} [Decidable c]{α:Type}{X bD r:Sem α}(d:¬c)(h:bD=r):ite c X bD=r:=(if_neg d).trans h
def afz{α:Type}{l:List (Str×aj)}{b:List (Str×aj)}{k:List (Str×aj)->Sem α}{r:Sem α}(h:k (l.foldl qm b)=r):
 ((forIn l b λx q=>if(wX x.1 q).isNone=ae then(pure (kK (q++ [(x.1,x.2)])):Sem _)else pure (kK q))>>=k)=r:=by
 haveI e:(λ(x:Str×aj) (q:List (Str×aj))=>if(wX x.fst q).isNone=ae then(pure (kK (q++ [(x.fst,x.snd)])):Sem _)else pure (kK q))=λx q=>pure (kK (qm q x)):=by funext x q;delta qm;split at⊢<;>rfl
 rw[e,Go qm l b];show h
def Td{fd:iv}{args:List Arg}{kd:List (Option aT)}{d:List aT}{vals ds:List aj}(g:vals.length<=args.length)
 (f:(((args.map (·.arg)).take (args.length - (ds.drop (ds.length - args.length)).length)).filter λn=>(((args.map (·.arg)).zip vals).lookup n).isNone)= []):
 ∃k:Option (Array aj)->Sem (List (Str×aj)),tM {fd with params:=⟨[],args,aa, [],kd,aa,d⟩} ⟨vals, []⟩=(ID fd.defaults>>=k)/\∀o:Option (Array aj),(o.getD #[]).toList=ds->k o=pure (ku (args.map (·.arg)) λn=>(n5 (args.map (·.arg)) vals ds).lookup n):=by
 show⟨_,rfl,λo c=>?_⟩;show OA (by simp;omega) (OA ?_ (afz ?_))
 .change¬((!List.isEmpty (HB _ (xd ((([]++args.map (·.arg)):List Str).length - (((o.getD #[]).toList).drop (((o.getD #[]).toList).length - (([]++args.map (·.arg)):List Str).length)).length) _)))=ae);rw[c];simp only[Aa,dC];rw[show HB _ _= []from f];x_go
 .change(pure (List.filterMap _ (([]++args.map (·.arg))++ [])):Sem _)=_;rw[nO,c];unfold n5 ku;rfl
def ru.afA{fd:iv}(c:ru fd.params):{fd with params:=⟨[],fd.params.args,aa, [],fd.params.kw_defaults,aa,fd.params.defaults⟩}=fd:=by
 haveI e:∀{p:xa},ru p->⟨[],p.args,aa, [],p.kw_defaults,aa,p.defaults⟩=p:=λ{p} c=>by
  rcases p with⟨P,a,v,k,kd,ka,d⟩
  rw[show P= []from c.po,show v=aa from c.agW,show k= []from c.qz,show ka=aa from c.ka]
 show congrArg (λp=>{fd with params:=p}) (e c)
def TS{fd:iv}{vals ds:List aj}(f:ru fd.params)(g:vals.length<=fd.params.args.length)
 (c:(((fd.params.args.map (·.arg)).take (fd.params.args.length - (ds.drop (ds.length - fd.params.args.length)).length)).filter λn=>(((fd.params.args.map (·.arg)).zip vals).lookup n).isNone)= []):
 ∃k:Option (Array aj)->Sem (List (Str×aj)),tM fd ⟨vals, []⟩=(ID fd.defaults>>=k)/\∀o:Option (Array aj),(o.getD #[]).toList=ds->k o=pure (ku (fd.params.args.map (·.arg)) λn=>(n5 (fd.params.args.map (·.arg)) vals ds).lookup n):=by
 haveI x:=Td (fd:=fd) (kd:=fd.params.kw_defaults) (d:=fd.params.defaults) g c;rwa [f.afA]at x
def R3{l m:List (Str×aj)}{n:Str}:(l++m).lookup n=(l.lookup n).or (m.lookup n):=by
 cases l with
 |nil=>rfl
 |cons x r i=>obtain⟨a,b⟩:=x;rw[z7,hg,hg,i];split<;>rfl
def Sw{n:Str}:∀(l s:List (Str×aj)),(l.foldl qm s).lookup n=(s.lookup n).or (l.lookup n):=by
 intro x;cases x with
 |nil=>intro s;rw[List.foldl_nil];cases s.lookup n<;>rfl
 |cons X r i=>
  obtain⟨a,b⟩:=X;intro s;rw[Rg,i,hg];delta qm;show iteE (λ_=>?_) λ_=>?_
  .rename_i h;rw[R3,hg];cases e:n==a with
   |true=>obtain rfl:=eq_of_beq e;rw[zG.mp h];rfl
   |false=>simp only[List.lookup_nil,Option.or_none]
  .rename_i h;cases e:n==a with
   |true=>
    obtain rfl:=eq_of_beq e;cases q:s.lookup n with
    |none=>show absurd (zG.mpr q) h
    |some v=>rfl
   |false=>rfl
theorem wZ{n:Str}:∀{P:List Str} {vs:List aj} {i:Nat},P.Nodup->P[i]? =U n->(P.zip vs).lookup n=vs[i]?
 | [],_,i,_,h=>by simp at h
 |p::P, [],i,_,h=>by simp
 |p::P,v::vs,0,_,h=>by cases h;rw[Qy,hg,beq_self_eq_true];rfl
 |p::P,v::vs,i+1,c,h=>by rw[dN]at c;rw[zJ]at h;rw[Qy,hg,show(n==p)=af from beq_eq_false_iff_ne.mpr λe=>c.1 (e▸h1 h),zJ];show wZ c.2 h
def IY{a2:List Nat}:∀{vs:List a3} {fl:aL},C.M9 a2 vs=U fl->a2.Nodup->vs.length=a2.length/\(∀n v,fl.get n=U v->n∈a2)/\∀(i n:Nat),a2[i]? =U n->∃v,fl.get n=U v/\vs[i]? =U v:=by
 cases a2 with
 |nil=>
  intro vs fl h J;cases vs with
  |nil=>cases h;show⟨rfl,(λn v e=>by cases e),λi n e=>by simp at e⟩
  |cons=>show nomatch h
 |cons p a2 I=>
  intro vs fl h c;rw[dN]at c;cases vs with
  |nil=>show nomatch h
  |cons v vs=>
   show x12 (C.mW h) λf j o=>?_;k_lt o;show x03 (I j c.2) λE d l=>⟨congrArg da E,λn w e=>?_,λi n e=>?_⟩
   .revert e;change C.aA (aK p n) (U v) (f.get n)=U w->_;show C.l3 (P:=(·=U w->_)) (λq J=>C.bS q▸cF ..) λJ e=>cA _ (d n w e)
   .cases i with
    |zero=>cases e;show⟨v,?_,rfl⟩;change C.aA (aK p p) (U v) (f.get p)=U v;rw[C.n1];rfl
    |succ i=>rw[zJ]at e;show x12 (l i n e) λw k g=>⟨w,?_,g⟩;change C.aA (aK p n) (U v) (f.get n)=U w;rw[C.tz λq:p=n=>c.1 (q▸h1 e)];show k
def JV{P:List Str}{g:Str->Option aj}{x:Str×aj}(h:x∈ku P g):x.1∈P/\g x.1=U x.2:=by show x12 (s7.mp h) λm c e=>x12 (we.mp e) λw E o=>?_;k_lt o;show⟨c,E⟩
def Ik{g:Str->Option aj}:∀{P:List Str},P.Nodup->((ku P g).map (·.1)).Nodup:=by
 intro X;cases X with
 |nil=>intro J;show .nil
 |cons a r i=>
  intro h;rw[dN]at h;delta ku;rw[s2];cases g a with
  |none=>show i h.2
  |some w=>change(a::(ku r g).map (·.1)).Nodup;rw[dN];show⟨λc=>?_,i h.2⟩;show x12 (dy.mp c) λx d o=>?_;k_lt o;show h.1 (JV d).1
def R4{x:Str×aj}:∀{l:List (Str×aj)},(l.map (·.1)).Nodup->x∈l->l.lookup x.1=U x.2:=by
 intro X;cases X with
 |nil=>intro h c;show nomatch c
 |cons d r i=>
  obtain⟨a,b⟩:=d;intro h c;rw[gC,dN]at h;rw[hg];show a8 (bX.mp c) (λo=>?_) λc=>?_
  .k_lt o;rw[beq_self_eq_true]
  .rw[show(x.1==a)=af from beq_eq_false_iff_ne.mpr λe=>h.1 (dy.mpr ⟨x,c,e⟩)];show i h.2 c
def TT{g:Str->Option aj}{x:Str}{w:aj}{P:List Str}(c:P.Nodup)(h:x∈P)(e:g x=U w):(ku P g).lookup x=U w:=R4 (x:=(x,w)) (Ik c) (s7.mpr ⟨x,h,by rw[e];rfl⟩)
theorem w7{f:Nat->Str}(hf:∀a b,f a=f b->a=b):∀{l:List Nat},l.Nodup->(l.map f).Nodup
 | [],_=>Af
 |a::r,h=>by rw[dN]at h;rw[gC,dN];show⟨λc=>?_,w7 hf h.2⟩;show x12 (dy.mp c) λb d e=>h.1 (hf _ _ e▸d)
def ZZ{p a d i:Nat}(g:a<=p)(f:p<=a+d)(c:d<=p)(h:a<=i):d - (p - a)+(i - a)=i - (p - d):=by show x11 (zK g) λx o=>?_;k_lt o;show x11 (zK (Pz f)) λz o=>?_;k_lt o;show x11 (zK (Pz (jV a x▸c))) λw o=>?_;k_lt o;show x11 (zK h) λy o=>?_;k_lt o;rw[kG,kG,kG,wr z w x,jV x z,kG,wr z w y,F9]
def BL{a2:List Nat}{as ds:List a3}{fl:aL}(h:C.lT a2 as ds=U fl)(d:a2.Nodup)(g:ds.length<=a2.length):as.length<=a2.length/\a2.length<=as.length+ds.length/\
 ∀(i n:Nat),a2[i]? =U n->∃v,fl.get n=U v/\(i<as.length->as[i]? =U v)/\(as.length<=i->ds[i - (a2.length - ds.length)]? =U v):=by
 unfold C.lT at h;rw[C.mX,C.q7,C.eA,C.eA,C.eA]at h;show x03 (IY h d) λE J j=>?_;have E:(as++ds.drop (ds.length - (a2.length - as.length))).length=a2.length:=E;rw[fW,Gw]at E;have X:as.length<=a2.length:=E▸gB ..;have x:a2.length<=as.length+ds.length:=E▸s1 (qY ..) _;show⟨X,x,λi n e=>?_⟩;show x12 (j i n e) λv f c=>?_;have c:(as++ds.drop (ds.length - (a2.length - as.length)))[i]? =U v:=c;show⟨v,f,λq=>(oZ q).symm.trans c,λq=>?_⟩;rw[oY q,lI,ZZ X x g q]at c;show c
def UK{u:bf}(T:eQ u){ah:dr}{a2:List Nat}{as ds:List a3}{ws W:List aj}{fl:aL}(j:a2.Nodup)(p:bI (az u ah) as ws)(m:bI (az u ah) ds W)(A:C.lT a2 as ds=U fl)(o:ds.length<=a2.length)
 {n:Nat}(r:n∈a2):∃v w,fl.get n=U v/\az u ah v w/\(ku (a2.map ay) λn=>(n5 (a2.map ay) ws W).lookup n).lookup (ay n)=U w:=by
 show x03 (BL A j o) λac y x=>x11 (PY.mp r) λi d=>?_;show x13 (x i n d) λv E s z=>?_;haveI g:(a2.map ay).Nodup:=w7 T.inj j;haveI k:(a2.map ay)[i]? =U (ay n):=by rw[iQ,d];rfl
 haveI t:=p.length;haveI f:=m.length;haveI B:i<a2.length:=(e8.mp d).1;haveI l:∀w,az u ah v w->(ws[i]?).or ((((a2.map ay).drop ((a2.map ay).length - (W.drop (W.length - (a2.map ay).length)).length)).zip (W.drop (W.length - (a2.map ay).length))).lookup (ay n))=U w->_:=λw c hw=>(⟨v,w,E,c,TT g (dy.mpr ⟨n,r,rfl⟩) (by delta n5;rw[Sw,wZ g k];show hw)⟩:∃v w,fl.get n=U v/\az u ah v w/\(ku (a2.map ay) λn=>(n5 (a2.map ay) ws W).lookup n).lookup (ay n)=U w)
 by_cases q:i<as.length
 .show x12 (p.get (s q)) λw hw c=>l w c (by rw[hw];rfl)
 .show x12 (m.get (z (d_.mp q))) λw hw c=>l w c ?_;rw[FE.mpr (t▸d_.mp q),Option.none_or,dC,sX (f▸o:W.length<=a2.length)];show(wZ (i:=i - (a2.length - W.length)) ((List.drop_sublist _ _).nodup g) ?_).trans ?_
  .rw[lI,Ah,lH (c7 (P6 (f▸y)) (d_.mp q))];show k
  .rw[<-f];show hw
def V5{u:bf}(T:eQ u){a2:List Nat}{as ds:List a3}{ws w:List aj}{fl:aL}(f:a2.Nodup)(hw:as.length=ws.length)(d:ds.length=w.length)(m:C.lT a2 as ds=U fl)(j:ds.length<=a2.length):
 (((a2.map ay).take ((a2.map ay).length - (w.drop (w.length - (a2.map ay).length)).length)).filter λn=>(((a2.map ay).zip ws).lookup n).isNone)= []:=by
 rw[List.filter_eq_nil_iff];intro x l;show x03 (BL m f j) λo k p=>x11 (PY.mp l) λi c=>?_;rw[List.getElem?_take]at c;split at c
 .rename_i g;rw[wZ (w7 T.inj f) c];rw[dC,Gw]at g;rw[jP (hw▸aeB (d▸j) (d▸k) g:i<ws.length)];show jl
 .show nomatch c
structure FnAt(u:bf)(k:Nat)(a2 cells:List Nat)(ds:List a3)(body:List b_)(fd:iv):Prop where
 at_:∃lB kC y_,u.K.lookup (eE k)=U ⟨lB,kC, .func fd,y_⟩
 body:fd.body= .stmts body
 so:fd.closure= []
 bG:fd.globals=d2
 ny:fd.builtins=hj
 code:codeIn u.K fd.code fd.qualname=ae
 kind:fd.scope.kind= .function
 co:fd.scope.isCoroutine=af
 gen:fd.scope.isGenerator=af
 par:ru fd.params
 args:fd.params.args.map (·.arg)=a2.map ay
 afB:(ds= []/\fd.defaults= .none)\/∃T o items n,fd.defaults= .ref T/\u.K.lookup T=U o/\o.data= .seq items n/\bI (az u []) ds items.toList
 ER:ds.length<=a2.length
 v9:a2.Nodup
 dB:cells.Nodup
 bt:∀n∈cells,fd.scope.names.lookup (ay n)=U .cell
 loc:∀n∈a2,n∉cells->fd.scope.names.lookup (ay n)=U .local
 afC:∀x∈fd.scope.names,x.2≠ .free
structure OB(u:bf)(ah:dr)(a2:List Nat)(fl:aL)(uA:List (Str×aj)):Prop where
 of:∀n∈a2,∃v w,fl.get n=U v/\az u ah v w/\uA.lookup (ay n)=U w
 aiP:(uA.map (·.1)).Nodup
 sf:∀x∈uA,∃n∈a2,x.1=ay n
def FnAt.uA{u:bf}(T:eQ u){s:ax}{k:Nat}{a2 cells:List Nat}{ds as:List a3}{body:List b_}{fd:iv}{ws:List aj}{fl:aL}(F:FnAt u k a2 cells ds body fd)(X:u.K.In s.heap){ah:dr}(i:bI (az u ah) as ws)(j:C.lT a2 as ds=U fl):
 ∃l,BindsTo s fd ⟨ws, []⟩ l/\OB u ah a2 fl l:=by
 have m:fd.params.args.length=(a2.map ay).length:=by rw[<-F.args,dC]
 have t:(a2.map ay).Nodup:=w7 T.inj F.v9;have ai:∀(w:List aj),bI (az u []) ds w->∃kk:Option (Array aj)->Sem (List (Str×aj)),tM fd ⟨ws, []⟩=(ID fd.defaults>>=kk)/\(∀o:Option (Array aj),(o.getD #[]).toList=w->kk o=pure (ku (a2.map ay) λn=>(n5 (a2.map ay) ws w).lookup n))/\
  OB u ah a2 fl (ku (a2.map ay) λn=>(n5 (a2.map ay) ws w).lookup n):=λw f=>by
  have:=TS (fd:=fd) (vals:=ws) (ds:=w) F.par (by rw[m,dC,<-i.length];show(BL j F.v9 F.ER).1) (by rw[F.args,m];show V5 T F.v9 i.length f.length j F.ER)
  rw[F.args]at this;show x12 this λkk c d=>⟨kk,c,d,λn ac=>UK T F.v9 i (f.bR λJ J=>az.Cb) j F.ER ac,Ik t,λx y=>(dy.mp (JV y).1).imp λn h=>⟨h.1,h.2.symm⟩⟩
 show a8 F.afB (λv=>?_) λO=>?_
 .show x02 v λz g=>?_;w_pre z;show x13 (ai [] .nil) λkk c d B=>?_;show⟨_,λM A E Q r=>?_,B⟩;rw[c,g];show aw (aY (by rw[d aa rfl];show aY r))
 .show x44 O λD o items n g p am f=>?_;show x13 (ai items.toList f) λkk c d B=>?_;show⟨_,BindsTo.of_defaults g (X _ _ p) am c (d _ rfl),B⟩
section
variable{kd:Str->Option iV}{n:Str}
theorem Il:∀{l:List (Str×aj)} {m:Str->Option aj},(∀x∈l,x.1≠n)->bindL kd l m n=m n
 | [],_,_=>rfl
 | (a,v)::r,m,h=>by
  rw[Il λx c=>h x (cA _ c)];show iteE (λ_=>?_) λ_=>?_
  .show if_neg (cX (h (a,v) (cF ..)))
  .rfl
theorem AZ:∀{l:List (Str×aj)} {m:Str->Option aj},(∀x∈l,x.1≠n)->bindC kd l m n=m n
 | [],_,_=>rfl
 | (a,v)::r,m,h=>by
  rw[AZ λx c=>h x (cA _ c)];show iteE (λ_=>?_) λ_=>?_
  .rfl
  .show if_neg (cX (h (a,v) (cF ..)))
def GV{a:Str}{v:aj}{r:List (Str×aj)}(c:(((a,v)::r).map (·.1)).Nodup)(e:n=a):∀x∈r,x.1≠n:=by intro x d q;rw[gC,dN]at c;show c.1 (dy.mpr ⟨x,d,by rw[q,e]⟩)
def V6{w:aj}(d:kd n=U .local):∀{l:List (Str×aj)} {m:Str->Option aj},(l.map (·.1)).Nodup->l.lookup n=U w->bindL kd l m n=U w:=by
 intro X;cases X with
 |nil=>intro m c h;show nomatch h
 |cons x r i=>
  obtain⟨a,v⟩:=x;intro m c h;rw[hg]at h;by_cases e:n=a
  .k_lt e;rw[beq_self_eq_true]at h;cases h;rw[Il (GV c rfl),if_pos d];show if_pos rfl
  .rw[show(n==a)=af by simpa using e]at h
   rw[gC,dN]at c;show i c.2 h
def V7{w:aj}(d:kd n≠U .local):∀{l:List (Str×aj)} {m:Str->Option aj},(l.map (·.1)).Nodup->l.lookup n=U w->bindC kd l m n=U w:=by
 intro X;cases X with
 |nil=>intro m c h;show nomatch h
 |cons x r i=>
  obtain⟨a,v⟩:=x;intro m c h;rw[hg]at h;by_cases e:n=a
  .k_lt e;rw[beq_self_eq_true]at h;cases h;rw[AZ (GV c rfl),if_neg d];show if_pos rfl
  .rw[show(n==a)=af by simpa using e]at h
   rw[gC,dN]at c;show i c.2 h
end
end
section
set_option tactic.hygienic true
section
variable{prog:eP}{w:b3}{A:b2}{E:aj->ax->Prop}{R:h6->ax->Prop}{s:ax}
def Al{id:String}{args:Args}{b:Builtin}(g:h5 hs id=U b)
 (h:nh id=ae->aG (aN prog w) (A.under (.builtin id args)) (b args) (λd an=>match d with | .done f=>R (.ok f) an | .again a_=>a_.quiet=ae/\kr a_=ae/\dz (aN prog w) A a_ R an) (λe an=>R (.error e) an) s):
 dz (aN prog w) A (.builtin id args) R s:=by
 show iS λc=>?_;change aG _ _ (match h5 hs id with |some b=>b args |none=>Hz ((withoutEnding? id "#data").getD id)) _ _ s
 rw[g];show h c
def tg{T:String}{name:Str}{id:String}{b:Builtin}{S:aj}{rest:List aj}{Q:aj->ax->Prop}(h:jG T name id)(c:s.TypeIs S T)(d:nh id=ae)(i:h5 hs id=U b)
 (k:aG (aN prog w) A.in1 (b ⟨S::rest, []⟩) (λf an=>∃v,f= .done (.ret v)/\Q v an) E s)(j:f3 id ⟨S::rest, []⟩):
 aG (aN prog w) A (bv (.builtin id) (S::rest)) Q E s:=by
 show q9 (iS λJ=>?_);change aG _ A.in1 (qL id ⟨S::rest, []⟩>>=λJ=>again (.builtin id ⟨S::rest, []⟩)) _ _ s;show aF (bo (h.check _ _ _ _ _ _ _ _ c j (bL (mQ (nQ h.plain _) ⟨d,Al i λJ=>?_⟩))));rw[mF h.plain];show a0 k (λf an ag=>?_) λJ J ag=>ag;show x12 ag λv o g=>?_;k_lt o;show g
def GE{M:fa}{S:aj}{T:String}{name:Str}{id:String}{args:List aj}{Q:Option aj->ax->Prop}(c:s.TypeIs S T)(h:jG T name id)
 (d:aG M A (bv (.builtin id) (S::args) []) (λv=>Q (U v)) E s):aG M A (callSpecial? S name args []) Q E s:=by
 simp only[callSpecial?];show aF (bo (hh c h.lookup ?_));simp only[h.bind];show cO (aF (bL (aF (a0 d (λv an ag=>bL ag) λJ J ag=>ag))))
def X1:nh "type.__call__"=ae:=by z_go
def KT{a:Args}:kr (.builtin "type.__call__" a)=ae:=X1
def fL{M:fa}{α:Type}{c:Bool}{x y:Sem α}{Q:α->ax->Prop}(d:c=af)(h:aG M A y Q E s):aG M A (if c=ae then x else y) Q E s:=by k_lt d;show h
def Bg{M:fa}{α:Type}{c:Bool}{x y:Sem α}{Q:α->ax->Prop}(d:c=ae)(h:aG M A x Q E s):aG M A (if c=ae then x else y) Q E s:=by k_lt d;show h
noncomputable def Z0(cls:aj)(rest:List aj):Sem Fin:=do
 if(<-Dd cls).isEmpty then md "type.call.half-made";raiseError "TypeError"s!"cannot create '{← typeName cls}' instances"
 let new<-match<-AF cls with
  |some id=>pure (.builtin id)
  |none=>getAttr cls "__new__"
 let obj<-fo [new] (bv new (cls::rest) [])
 if !(<-mO obj cls)then md "type.call.new-gave-other-type";return<-ret obj
 match<-fo [obj] (callSpecial? obj "__init__" rest [])with
 |none=>ret obj
 |some r=>
  if r != .none then
   md "type.call.init-returned-value"
   raiseError "TypeError"s!"__init__() should return None, not '{← typeNameOf r}'"
  ret obj
def Im{M:fa}{c:aj}{rest l:List aj}{id:String}{P:Fin->ax->Prop}(d:eY M s.heap (Dd c) l)(e:l.isEmpty=af)(m:eY M s.heap (AF c) (U id))
 (new:aG M A (bv (.builtin id) (c::rest)) (λo an=>(∀Q:Bool->ax->Prop,Q ae an->aQ M A (mO o c) Q E an)/\aG M A (callSpecial? o "__init__" rest []) (λr q=>r=U .none/\P (.done (.ret o)) q) E an) E s):
 aG M A (Z0 c rest) P E s:=aF (bo (d.here (fL e (aF (bo (m.here (aF (bL (aF (cO (a0 new (λo an x=>aF (bo (x.1 _ (fL rfl (aF (cO (a0 x.2 (λr q y=>by show x02 y λO f=>?_;k_lt O;show fL rfl (bL f)) λJ J y=>y))))))) λJ J x=>x)))))))))))
def HS{T newId KU:String}{args:List aj}{Q Q₁:aj->ax->Prop}(jL:H0 T newId KU)(afD:Ar T ⟨args, []⟩=pure ())
 (adV:aQ (aN prog w) A.in1 (bv (.builtin newId) (.type T::args)) Q₁ E s)
 (ab_:∀obj jE,Q₁ obj jE->jE.TypeIs obj T/\aG (aN prog w) A.in1 (bv (.builtin KU) (obj::args)) (λv an=>v= .none/\Q obj an) E jE):
 aG (aN prog w) A (bv (.type T) args) Q E s:=by
 show q9 (iS λJ=>?_);show bL ⟨zV _ (by z_go),KT,Al QL λJ=>?_⟩
 rw[b2.under_plain (weight_type_call_type T args []) rfl];show jL.mro.elim λc x=>x.elim λai2 adW=>fL jL.notType (fL jL.canCreate ?_);rw[afD];show aF (bL (Im (tl adW) rfl (tl jL.made) (bo (hk adV (λobj jE lq=>haveI n:=ab_ _ _ lq;⟨λJ q=>z5 n.1 jL.sub q,GE n.1 jL.init (a0 n.2 (λv an ag=>⟨congrArg U ag.1,ag.2⟩) λJ J ag=>ag)⟩) λJ J ag=>ag))))
def Io{T d i:String}{B:Builtin}{args:List aj}{Q Q₁:aj->ax->Prop}(f:H0 T d i)(j:Ar T ⟨args, []⟩=pure ())(m:h5 hs i=U B)(k:nh i=ae)
 (g:aQ (aN prog w) A.in1 (bv (.builtin d) (.type T::args)) Q₁ E s)
 (p:∀o e,Q₁ o e->e.TypeIs o T/\f3 i ⟨o::args, []⟩/\aG (aN prog w) A.in1.in1 (B ⟨o::args, []⟩) (λc an=>c= .done (.ret .none)/\Q o an) E e):
 aG (aN prog w) A (bv (.type T) args) Q E s:=HS f j g λo e l=>haveI n:=p o e l;⟨n.1,tg f.init n.1 k m (a0 n.2.2 (λc an ag=>⟨_,ag.1,rfl,ag.2⟩) λJ J ag=>ag) n.2.1⟩
end
def dW(h:Heap)(a:ar)(b:Array UInt8):Prop:=∃s,h.get? a=U ⟨.type "bytearray",aa, .bytearray b 0,s⟩
section
variable{prog:eP}{w:b3}{A:b2}{E:aj->ax->Prop}{s:ax}{M:fa}{a:ar}{b:Array UInt8}
def dW.ty(g:dW s.heap a b):s.TypeIs (.ref a) "bytearray":=let⟨_,g⟩:=g;⟨_,g,rfl⟩
def mL{Q:Array UInt8->ax->Prop}(g:dW s.heap a b)(h:Q b s):aQ M A (FT (.ref a)) Q E s:=by show x11 g λS g=>aw (aw (lP g (aY (aY h))))
def mS{f:Array UInt8->Array UInt8}{Q:Unit->ax->Prop}(g:dW s.heap a b)(hz:(f b).size<=fY)(h:∀ag,dW ag a (f b)->fA a s.heap ag->Q () {s with heap:=ag}):
 aQ M A (wq (.ref a) f) Q E s:=by
 show x11 g λS g=>?_;change aQ _ _ (updateBytearray a f) _ _ _;show aw (lP g ?_);haveI ai:=lG (Obj.mapBytearray f) g rfl;show aw (SX g (Q0 ai ?_ (h _ ⟨S,ai⟩ (s5 ..))));change(if(f b).size>fY then U "bytearray:memory"else aa)=aa
 rw[if_neg (by lia)]
def G5{i:Int}{t:Tok}{Q:UInt8->ax->Prop}(c:0<=i)(d:i<256)(h:Q i.toNat.toUInt8 s):aQ M A (PK (.int i t)) Q E s:=by
 show aw (dp (rfl:rp (.int i t)=pure i) ?_);rw[if_neg (by simp;omega)]
 show aY h
def V8:jZ (.type "bytearray") "__release_buffer__"=pure (U (.builtin "bytearray.__release_buffer__")):=by rw[gn,gm];k_go
def IZ:jZ (.type "bytearray") "__buffer__"=pure (U (.builtin "bytearray.__buffer__")):=by rw[gn,gm];k_go
def KV:mR (.type "bytearray") (.type "bytearray")=pure ae:=by rw[jU];k_go
def KW{name id:String}{Q:Bool->ax->Prop}(g:dW s.heap a b)(f:jZ (.type "bytearray") (bq name)=pure (U (.builtin id)))(d:id.endsWith ("."++name)=ae)(c:id.dropRight (name.length+1)="bytearray")(h:Q ae s):
 aQ M A (PL (.ref a) name) Q E s:=by
 show aw (hh g.ty f ?_);simp only[d,c,Bool.not_true,Bool.false_eq_true,if_false];show z5 g.ty KV h
def BM{Q:Bool->ax->Prop}(g:dW s.heap a b)(h:Q af s):aQ M A (PG (.ref a)) Q E s:=by show aw (KW (id:="bytearray.__release_buffer__") g V8 (by z_go) (by z_go) (aY h))
def uB{id k:String}(h:nh id=ae)(c:nh k=af):id≠k:=λe=>jl (c.symm.trans (e▸h))
def aca{s:aj}{id:String}(h:nh id=ae)(as:Args)(p:Pos)(bb bM e)(cz H):
 Pq (motive:=λJ=>Bool) (.builtin id as,p) bb bM cz e H (λid v J J J=>PZ v s&&FA.contains id) (λJ=>af)=af:=by
 obtain⟨pos,K⟩:=as;haveI c:FA.contains id=af:=by unfold nh at h;simp only[Gj,Qd]at h;show h.1
 delta Pq;show(dif_neg (uB (k:="bytearray.__contains__") h (by z_go))).trans ((dif_neg (uB (k:="bytearray.__mod__") h (by z_go))).trans ?_)
 show(dif_neg (uB (k:="bytearray.__rmod__") h (by z_go))).trans ((dif_neg (uB (k:="_struct.pack_into.held") h (by z_go))).trans ?_)
 show(dif_neg (uB (k:="bytearray.find.held") h (by z_go))).trans ?_
 cases pos with
 |nil=>rfl
 |cons v t=>show(congrArg (PZ v s&&·) c).trans (RT _)
def Hf{v:aj}{Q:Bool->ax->Prop}(h:Q af s):aG M A (PS v) Q E s:=λg p j i=>by
 rw[wP];rw[Sem.wp_stack];haveI k:∀f:Code×Pos->Bool,(∀c q,kr c=ae->f (c,q)=af)->((g.code,p)::g.below).any f=af:=λf hf=>by
  rw[List.any_eq_false];rintro ⟨c,q⟩ d;show a8 (bX.mp d) (λe=>?_) λd=>?_
  .cases e;rw[hf _ _ i.1];show jl
  .rw[hf _ _ (i.2 _ d)];show jl
 rw[Sem.wp_pure,Sem.wp_pure',k]
 .show h
 .intro c q ok;cases c with
  |builtin id as=>show aca ok as q _ _ _ _ _
  |_=>rfl
def GF{Q:Unit->ax->Prop}(g:dW s.heap a b)(h:Q () s):aG M A (FF (.ref a)) Q E s:=by show aF (aF (Hf ?_));show bo (x11 g λS g=>?_);show aw (aw (lP g (aY (aY (bL h)))))
end
end
section
def HT{α:Type}(l:List α)(x:Nat):∀n,x+n<=l.length->(eT n).filterMap (λk=>l[x+k]?)=(l.drop x).take n:=by
 intro X;cases X with
 |zero=>intro J;show rfl
 |succ n i=>intro h;haveI c:x+n<l.length:=h;rw[List.range_succ,List.filterMap_append,i (fk c)];haveI e:l[x+n]? =U l[x+n]:=jP c;rw[s2,e,zW,QM,lI,e];rfl
def KX(x y:Nat):(if(1:Int)>0 then(if(x:Int)<y then((y:Int) - x+1 - 1)/1 else 0)else(if(x:Int)>y then((x:Int) - y - 1 - 1)/(-1)else 0))=((y - x:Nat):Int):=by
 by_cases q:x<y
 .rw[if_pos (tn.mpr q),Int.ediv_one,Int.add_sub_cancel];show(Sj (fk q)).symm
 .rw[if_neg λh=>q (tn.mp h),sX (d_.mp q)];rfl
def KY(x n:Nat):((eT n).map λ(k:Nat)=>((x:Int)+1*(k:Int)).toNat)=(eT n).map λk=>x+k:=List.map_congr_left λk J=>by rw[TA];rfl
def GW(b:Array UInt8)(x y:Nat)(d:y<=b.size):Qe b (x:Int) (y:Int) 1=b.extract x y:=by
 unfold Qe Q1;simp only[KX x y,gN];apply qW;rw[wo];rw[KY,Qz];by_cases c:x<=y
 .haveI:=HT b.toList x (y - x) (by rw[eo,lH c];show d)
  rw[zQ];simp only[zH];rw[<-this];congr 1;funext k;simp
 .haveI z:=sX (Q2 c);rw[z,Rn,zW];rw[zQ];simp only[zH];rw[z,List.take_zero]
noncomputable def dg(n:Nat)(d:Nat):Option Int->Nat
 |none=>d
 |some i=>(max 0 (min (if i<0 then i+n else i) n)).toNat
def z3(lo c:Option Int)(n:Nat):TB lo c aa n=(((dg n 0 lo:Nat):Int),((dg n n c:Nat):Int),1):=by
 unfold TB dg;haveI d:(1:Int)>0:=by x_go
 cases lo<;>cases c<;>simp only[Option.getD_none,if_pos d]<;>show Xd ?_ (Xd ?_ rfl)<;>simp only<;>first |show Mine.Vr _ |lia
def Bh(h:d<=n)(c:Option Int):dg n d c<=n:=AP (motive:=λi=>dg n d i<=n) h (λJ=>Hn.mpr (Int.max_le.mpr ⟨iP n,Int.min_le_right ..⟩)) c
def rm(n:Nat)(c:Option Int):dg n n c<=n:=Bh (jY n) c
def acb{A B n c z:Nat}(Pb:A<=n)(ik:B<=n)(hZ:n<=z)(cN:c=max A B - A):c<=z/\max (A:Int) (B:Int)=((max A B:Nat):Int)/\((c:Int)=((max A B:Nat):Int) - (A:Int))/\min A n - 0+c+(min n n - max A B)<=z:=by haveI Pc:=Nat.max_le.mpr ⟨Pb,ik⟩;show⟨cN▸c7 (qY ..) (c7 Pc hZ),(ahT A B).symm,cN▸Sj (Ro A B),?_⟩;rw[td Pb,Hl,Av,cN,lH (Ro A B),lH Pc];show hZ
def GX(b:Array UInt8)(lo c:Option Int):QA b lo c=b.extract (dg b.size 0 lo) (dg b.size b.size c):=by delta QA;rw[z3];show GW b _ _ (rm _ _)
def Ra:h5 hs "bytearray.append"=U Builtin.«bytearray.append»:=o2 (by k_go)
def Rb:h5 hs "bytearray.extend"=U Builtin.«bytearray.extend»:=o2 (by k_go)
def Gp:h5 hs "bytearray.__getitem__"=U Builtin.«bytearray.__getitem__»:=o2 (by k_go)
def Gq:h5 hs "bytearray.__setitem__"=U Builtin.«bytearray.__setitem__»:=o2 (by k_go)
def Sx:h5 hs "bytearray.__len__"=U Builtin.«bytearray.__len__»:=o2 (by k_go)
def G6:h5 hs "bytearray.__init__"=U Builtin.«bytearray.__init__»:=o2 (by k_go)
def RF(a b:aj):f3 "bytearray.append" ⟨[a,b], []⟩:=by delta f3;k_go
def RG(a b:aj):f3 "bytearray.extend" ⟨[a,b], []⟩:=by delta f3;k_go
def GG(a b:aj):f3 "bytearray.__getitem__" ⟨[a,b], []⟩:=by delta f3;k_go
def GH(a b c:aj):f3 "bytearray.__setitem__" ⟨[a,b,c], []⟩:=by delta f3;k_go
def Te(a:aj):f3 "bytearray.__len__" ⟨[a], []⟩:=by delta f3;k_go
def qM:jG "bytearray" "__getitem__" "bytearray.__getitem__":=.of (owner:="bytearray") (n:="__getitem__") (by rw[gn,gm];k_go) (by z_go) (by z_go) (by z_go)
  (by first |show .inl (by z_go) |show .inr (by z_go)) (by rw[jU];k_go)
def wA:jG "bytearray" "__setitem__" "bytearray.__setitem__":=.of (owner:="bytearray") (n:="__setitem__") (by rw[gn,gm];k_go) (by z_go) (by z_go) (by z_go)
  (by first |show .inl (by z_go) |show .inr (by z_go)) (by rw[jU];k_go)
def Hr:jG "bytearray" "__len__" "bytearray.__len__":=.of (owner:="bytearray") (n:="__len__") (by rw[gn,gm];k_go) (by z_go) (by z_go) (by z_go)
  (by first |show .inl (by z_go) |show .inr (by z_go)) (by rw[jU];k_go)
def Sy:jG "bytearray" "__init__" "bytearray.__init__":=.of (owner:="bytearray") (n:="__init__") (by rw[gn,gm];k_go) (by z_go) (by z_go) (by z_go)
  (by first |show .inl (by z_go) |show .inr (by z_go)) (by rw[jU];k_go)
section
variable{prog:eP}{w:b3}{A:b2}{E:aj->ax->Prop}{s:ax}{M:fa}{a:ar}{b:Array UInt8}
def UL(g:dW s.heap a b)(d:0<=i)(f:i<256)(hz:b.size<fY)(h:∀ag,dW ag a (b.push i.toNat.toUInt8)->fA a s.heap ag->Q .none {s with heap:=ag}):
 aG (aN prog w) A (bv (.builtin "bytearray.append") [.ref a, .int i t]) Q E s:=by
 show tg GT g.ty (by z_go) Ra ?_ (RF _ _)
 change aG _ _ (PK (.int i t)>>=λc=>FF (.ref a)>>=λJ=>wq (.ref a) (·.push c)>>=λJ=>ret .none) _ _ s;show aF (bo (G5 d f (aF (GF g (aF (bo (mS g (by rw[Array.size_push];omega) λag ai am=>?_)))))))
 show bL ⟨.none,rfl,h ag ai am⟩
inductive gu(h:Heap):aj->Array UInt8->Prop where
 |aZ (c:Array UInt8) (t:Tok):gu h (.bytes c t) c
 |ba (d:ar) (c:Array UInt8) (g:dW h d c):gu h (.ref d) c
def gu.special(B:gu s.heap v c)(h:∀id,id="bytes.__buffer__"\/id="bytearray.__buffer__"->Q (U (.builtin id)) s):aQ M A (q4 v "__buffer__") Q E s:=by
 cases(B)with
 |aZ _ t=>show dp (th KBy.look_buffer) (h _ (.inl rfl))
 |ba d _ g=>show hh g.ty IZ (h _ (.inr rfl))
def gu.own(B:gu s.heap v c)(h:Q ae s):aQ M A (PL v "__buffer__") Q E s:=by
 cases(B)with
 |aZ _ t=>show dp KBy.own_buffer h
 |ba d _ g=>show KW g IZ (by z_go) (by z_go) h
def gu.gW(B:gu s.heap v c)(h:Q af s):aQ M A (PG v) Q E s:=by
 cases(B)with
 |aZ _ t=>show dp KBy.own_release h
 |ba d _ g=>show BM g h
def gu.payload(B:gu s.heap v c)(h:Q c s):aQ M A (FT v) Q E s:=by
 cases(B)with
 |aZ _ t=>show dp (a:=c) rfl h
 |ba d _ g=>show mL g h
def gu.buffer{id:String}{f:Bool}{Q:Option (Array UInt8)->ax->Prop}(B:gu s.heap v c)(h:Q (U c) s):aQ M A (ah1 id v f) Q E s:=by
 show aw (B.special λi d=>?_);show aw (B.own ?_);show aw (B.special λi d=>?_);show a8 d (λO=>?_) λo=>?_
 .k_lt O;show aw (B.gW (aw (B.payload (aY h))))
 .k_lt o;show aw (B.gW (aw (B.payload (aY h))))
def gu.take{id:String}{fl:Int}{Q:Option (Array UInt8×Option aj)->ax->Prop}(B:gu s.heap v c)(h:Q (U (c,aa)) s):aQ M A (ahF id v fl) Q E s:=by
 show aw (wI ?_);show aw (B.special λi d=>?_);show aw (B.own ?_);show aw (B.special λi d=>?_);show a8 d (λO=>?_) λo=>?_
 .k_lt O;show aw (B.buffer (aY (aY h)))
 .k_lt o;show aw (B.buffer (aY (aY h)))
def UM{c:Array UInt8}{Q:aj->ax->Prop}(g:dW s.heap a b)(B:gu s.heap v c)(hz:b.size+c.size<=fY)(h:∀ag,dW ag a (b++c)->fA a s.heap ag->Q .none {s with heap:=ag}):
 aG (aN prog w) A (bv (.builtin "bytearray.extend") [.ref a,v]) Q E s:=by
 show tg GU g.ty (by z_go) Rb ?_ (RG _ _)
 show aF (hl (a:=(eU a,v)) rfl ?_);show aF (bo (B.special λi d=>?_));show aF (lR (aF (bo (mL g (aF (bo (B.take ?_)))))));dsimp only;haveI f:aG (aN prog w) A.in1 (wq (.ref a) (·++c)>>=λJ=>ret .none) (λf an=>∃v,f=Bw (Xc v)/\Q v an) E s:=aF (bo (mS g (by rw[wu];show hz) λag ai am=>bL ⟨.none,rfl,h ag ai am⟩))
 change aG _ _ (if(!c.isEmpty)=ae then FF (.ref a)>>=λJ=>(wq (.ref a) (·++c)>>=λJ=>ret .none)else(wq (.ref a) (·++c)>>=λJ=>ret .none)) _ _ s
 show iteE (λ_=>?_) λ_=>?_
 .show aF (GF g f)
 .show f
end
end
section
variable{prog:eP}{w:b3}{A:b2}{E:aj->ax->Prop}{s:ax}{M:fa}{a:ar}{b:Array UInt8}
def fC{α:Type}{c:Bool}{x y:Sem α}{Q:α->ax->Prop}(d:c=af)(h:aQ M A y Q E s):aQ M A (if c=ae then x else y) Q E s:=by k_lt d;show h
def mM{α:Type}{c:Bool}{x y:Sem α}{Q:α->ax->Prop}(d:c=ae)(h:aQ M A x Q E s):aQ M A (if c=ae then x else y) Q E s:=by k_lt d;show h
def xh{α:Type}{p:Prop} [Decidable p]{x y:Sem α}{Q:α->ax->Prop}(c:¬p)(h:aQ M A y Q E s):aQ M A (if p then x else y) Q E s:=(if_neg c).symm▸h
def xT{α:Type}{p:Prop} [Decidable p]{x y:Sem α}{Q:α->ax->Prop}(c:¬p)(h:aG M A y Q E s):aG M A (if p then x else y) Q E s:=(if_neg c).symm▸h
def X2{α:Type}{p:Prop} [Decidable p]{x y:Sem α}{Q:α->ax->Prop}(h:p->aG M A x Q E s)(ag:¬p->aG M A y Q E s):aG M A (if p then x else y) Q E s:=if cN:p then(if_pos cN).symm▸h cN else(if_neg cN).symm▸ag cN
def G7{i:Int}{t:Tok}{Q:Option Int->ax->Prop}(c:nM i=ae)(h:Q (U i) s):aQ M A (zI (.int i t)) Q E s:=by show aw (hh (T:="int") (w4 _ _ _) z8.lookup ?_);show fC rfl (aw (dp (rfl:rp (.int i t)=pure i) ?_));show fC (by rw[c];rfl) (aY h)
def GI{S:ar}{l u:aj}{Q:Option Int->ax->Prop}(am:s.heap.IsSliceOf S l u .none)(h:Q aa s):aQ M A (zI (.ref S)) Q E s:=by show x13 am λo c f g=>?_;haveI d:s.TypeIs (.ref S) "slice":=⟨o,c,f⟩;show aw (hh d slice_no_index (mM rfl (aY h)))
def Am{S:ar}{l u:aj}{lo f:Option Int}{Q:aj×aj×aj->ax->Prop}(g:k0 l lo)(j:k0 u f)(am:s.heap.IsSliceOf S l u .none)(h:Q (rq lo,rq f,rq aa) s):
 aQ M A (ahU (.ref S)) Q E s:=by
 show x13 am λo d m c=>aw (fB (x:= .none) d c rfl ?_);show aw (dp (a:=tw) rfl ?_);show fC rfl ?_;haveI part:∀{v:aj} {o:Option Int} {Q:aj->ax->Prop},k0 v o->Q (rq o) s->aQ M A (do
  if v== .none then return .none
  if(<-q4 v "__index__").isNone then
   md "bytes.slice.part-no-index";raiseError "TypeError" "slice indices must be integers or None or have an __index__ method"
  return b8 (<-rp v):Sem aj) Q E s:=by
  intro v o Q k h;cases k with
  |none=>show aY h
  |int i t=>show fC rfl (aw (hh (T:="int") (w4 _ _ _) z8.lookup ?_));show fC rfl (aw (dp (rfl:rp (.int i t)=pure i) (aY h)))
 show aw (fB (x:=l) d c rfl (aw (part g ?_)));show aw (fB (x:=u) d c rfl (aw (part j ?_)));show aY h
def Hs{lo c:Option Int}{n:Nat}{Q:Int×Int×Int->ax->Prop}(h:Q (((dg n 0 lo:Nat):Int),((dg n n c:Nat):Int),1) s):aQ M A (sliceIndices (rq lo) (rq c) (rq aa) n) Q E s:=dp (sliceIndices_raw lo c aa n (λe=>nomatch e)) (by rw[z3];show h)
def TU{i:Int}{t:Tok}{x:UInt8}{Q:aj->ax->Prop}(g:dW s.heap a b)(c:nM i=ae)(d:(IE i b.size).bind (b[·]?)=U x)(h:Q (.int x.toNat s.toks) {s with toks:=s.toks+1}):
 aQ (aN prog w) A (B4 (.ref a) (.int i t)) Q E s:=by
 show Gc g.ty (by x_go) qM (lK qM g.ty Gp ?_ (GG _ _))
 change aQ _ _ (zI (.int i t)>>=_) _ _ s;show aw (G7 c ?_);show aw (mL g ?_);rw[d];show aw (AE (aY ⟨_,rfl,h⟩))
def V9{S:ar}{l u:aj}{lo c:Option Int}{Q:aj->ax->Prop}(g:dW s.heap a b)(i:k0 l lo)(j:k0 u c)(am:s.heap.IsSliceOf S l u .none)(hz:b.size<=fY)
 (h:Q (.ref s.heap.objs.size) {s with heap:=s.heap.push {cls:= .type "bytearray",data:= .bytearray (b.extract (dg b.size 0 lo) (dg b.size b.size c))}}):
 aQ (aN prog w) A (B4 (.ref a) (.ref S)) Q E s:=by
 haveI dI:=am;show x13 dI λo f k m=>?_;haveI d:s.TypeIs (.ref S) "slice":=⟨o,f,k⟩;show Gc g.ty (by x_go) qM (lK qM g.ty Gp ?_ (GG _ _))
 change aQ _ _ (zI (.ref S)>>=_) _ _ s;show aw (GI am ?_);show aw (SY d ?_);show fC rfl (aw (Am i j am ?_));show aw (mL g (aw (Hs ?_)));dsimp only;rw[GW _ _ _ (rm _ _)];show aw (ip ?_ ?_)
 .show aY ⟨_,rfl,h⟩
 .change(b.extract _ _).size<=fY;rw[s8];show c7 (qY ..) (c7 (Gx ..) hz)
def G8{o i v:aj}{T id:String}{Q:Unit->ax->Prop}(c:s.TypeIs o T)(d:seqItemTypes.contains T=af)(S:jG T "__setitem__" id)(f:aG M A (bv (.builtin id) [o,i,v]) (λJ an=>Q () an) E s):
 aG M A (ps o i v) Q E s:=by
 show cO (aF (bo (QN c d ?_)));show aF (GE c S (a0 f (λv an ag=>bL ag) λJ J e=>e))
def TV{i j:Int}{t aU:Tok}{k:Nat}{Q:Unit->ax->Prop}(g:dW s.heap a b)(f:nM i=ae)(c:IE i b.size=U k)(d:0<=j)(l:j<256)(hz:b.size<=fY)
 (h:∀ag,dW ag a (b.setIfInBounds k j.toNat.toUInt8)->fA a s.heap ag->Q () {s with heap:=ag}):aG (aN prog w) A (ps (.ref a) (.int i t) (.int j aU)) Q E s:=by
 show G8 g.ty (by x_go) wA (tg wA g.ty (by z_go) Gq ?_ (GH _ _ _))
 show bo (aw (G7 f ?_));show aw (G5 d l (aw (mL g ?_)));rw[c];show aw (mS g (by rw[PH];show hz) λag ai am=>aw (aY (aY ⟨.none,rfl,h ag ai am⟩)))
def Z1{Q:aj->ax->Prop}(g:dW s.heap a b)(hz:b.size<=fY)(h:∀t tk,Q (.int b.size t) {s with toks:=tk}):aQ (aN prog w) A (bv (.builtin "len") [.ref a]) Q E s:=by
 show Calls.call_function_entry kind_len plain_len entry_len (args_len1 _) (aw (m:=oneArg "len" _) (aY ?_));show aw (m:=callSpecial? (.ref a) (bq "__len__")) (wc (name:=bq "__len__") g.ty Hr (lK Hr g.ty Sx ?_ (Te _)));change aQ _ _ (FT (.ref a)>>=λr=>_) _ _ s;show aw (mL g (aw (AE (aY ⟨_,rfl,?_⟩))));show aw (jn (aY ?_));show aw (HC ?_);change aQ _ _ (if((b.size:Nat):Int)>=2^63 then _ else _) _ _ _
 rw[ez]at hz;rw[if_neg (by lia)]
 show aw (AE (aY ⟨_,rfl,h _ _⟩))
end
section
def KZ:Dd (.type "bytearray")=pure [.type "bytearray", .type "object"]:=by rw[mroOf_type];k_go
def R5:jZ (.type "bytearray") "__new__"=pure (U (.builtin "bytearray.__new__")):=by rw[gn,gm];k_go
def Ip:H0 "bytearray" "bytearray.__new__" "bytearray.__init__":=⟨by z_go,by z_go,⟨_,_,KZ⟩,madeBy_type KZ R5 (by z_go),by z_go,by rw[jU];k_go,Sy⟩
def Sz:Ar "bytearray" ⟨[], []⟩=pure ():=by k_go
def Tf(a:aj):Ar "bytearray" ⟨[a], []⟩=pure ():=by k_go
def Tg:qL "bytearray.__new__" ⟨[.type "bytearray"], []⟩=pure ():=by k_go
def TW(a:aj):qL "bytearray.__new__" ⟨[.type "bytearray",a], []⟩=pure ():=by k_go
def SA:h5 hs "bytearray.__new__"=U Builtin.«list.__new__»:=Ag (id':="list.__new__") (by k_go) (by first |rfl |z_go | (unfold String.splitOn;simp+decide [String.splitOnAux])) (by z_go) (by k_go)
def Hg:plainId "bytearray.__new__"=ae:=by z_go
set_option maxRecDepth 1000000 in
set_option maxHeartbeats 4000000 in
def SB:("bytearray.__new__".splitOn ".__new__").headD ""="bytearray":=by rw[PySem.W.split_bytearray];rfl
def V_:Px "bytearray.__init__" "bytearray" ["source","encoding","errors"] [] []=pure [aa,aa,aa]:=by k_go
def X3(v:aj):Px "bytearray.__init__" "bytearray" ["source","encoding","errors"] [v] []=pure [U v,aa,aa]:=by k_go
def R6(a:aj):f3 "bytearray.__init__" ⟨[a], []⟩:=by delta f3;k_go
def SD(a b:aj):f3 "bytearray.__init__" ⟨[a,b], []⟩:=by delta f3;k_go
def G9:jZ (.type "bytes") "__index__"=pure aa:=by rw[gn,gm];k_go
section
variable{prog:eP}{w:b3}{A:b2}{E:aj->ax->Prop}{s:ax}{M:fa}{a:ar}{b:Array UInt8}
noncomputable abbrev nz(b:Array UInt8):Obj:={cls:= .type "bytearray",data:= .bytearray b}
def Ht(args:List aj)(c:qL "bytearray.__new__" ⟨.type "bytearray"::args, []⟩=pure ())(h:Q₁ (.ref s.heap.objs.size) {s with heap:=s.heap.push (nz #[])}):
 aQ (aN prog w) A (bv (.builtin "bytearray.__new__") (.type "bytearray"::args)) Q₁ E s:=by
 show qZ (GN ?_);change aQ _ A.in1 (do qL "bytearray.__new__" ⟨.type "bytearray"::args, []⟩;again (.builtin "bytearray.__new__" ⟨.type "bytearray"::args, []⟩)) _ _ s
 show aw (dp c (aY ⟨nQ Hg _,codeAny_builtin_stack SA rfl λp st=>?_⟩));rw[mF Hg _];have i:=KV;have f:=SB;obtain⟨j,g,d,tk,os⟩:=s;simp only[f]
 wp_walk
 show h
def HU(g:dW s.heap x b)(h:Q af s):aG M A (PS (.ref x)<||>do
 let r<-ahY (.ref x)
 pure (decide (r>0))) Q E s:=by
 show aF (Hf ?_);show bo (x11 g λS g=>?_);show aw (aw (lP g (aY (aY h))))
def X4(h:∀ag,dW ag s.heap.objs.size #[]->(∀b o,s.heap.get? b=U o->ag.get? b=U o)->Q (.ref s.heap.objs.size) {s with heap:=ag}):
 aG (aN prog w) A (bv (.type "bytearray") []) Q E s:=by
 show Io (Q₁:=λO S=>O= .ref s.heap.objs.size/\S={s with heap:=s.heap.push (nz #[])}) Ip Sz G6 (by z_go) (Ht [] Tg ⟨rfl,rfl⟩) λO S c=>x02 c λf d=>?_
 k_lt f;k_lt d;have g:dW (s.heap.push (nz #[])) s.heap.objs.size #[]:=⟨#[],er _ rfl⟩;show⟨g.ty (s:={s with heap:=s.heap.push (nz #[])}),R6 _,?_⟩
 show aF (bo (BM g (fL rfl ?_)));show aF (hl V_ ?_);show aF (hl (a:=()) rfl (aF (hl (a:=()) rfl (aF (HU g (fL rfl ?_))))));show aF (bo (mS g (gD _) λag ai am=>?_));show aF (fL rfl (fL rfl (bL (bL ⟨rfl,h ag ai λb o e=>?_⟩))));show(am.2 b (λq=>h3 _ (q▸ee e))).trans (c2 _ e)
inductive CY:aj->Array UInt8->Prop where
 |int (n:Int) (t:Tok) (h0:0<=n) (bb:n<=16777216):CY (.int n t) (jT n.toNat 0)
 |aZ (c:Array UInt8) (t:Tok) (bb:c.size<=fY):CY (.bytes c t) c
def BN{v:aj}{b:Array UInt8}{Q:aj->ax->Prop}(K:CY v b)(h:∀ag,dW ag s.heap.objs.size b->(∀b o,s.heap.get? b=U o->ag.get? b=U o)->Q (.ref s.heap.objs.size) {s with heap:=ag}):
 aG (aN prog w) A (bv (.type "bytearray") [v]) Q E s:=by
 show Io (Q₁:=λk S=>k= .ref s.heap.objs.size/\S={s with heap:=s.heap.push (nz #[])}) Ip (Tf _) G6 (by z_go) (Ht [v] (TW _) ⟨rfl,rfl⟩) λk S p=>x02 p λx m=>?_
 k_lt x;k_lt m;have g:dW (s.heap.push (nz #[])) s.heap.objs.size #[]:=⟨#[],er _ rfl⟩;show⟨g.ty (s:={s with heap:=s.heap.push (nz #[])}),SD _ _,?_⟩
 show aF (bo (BM g (fL rfl ?_)));show aF (hl (X3 _) ?_);show aF (hl (a:=()) rfl (aF (hl (a:=()) rfl (aF (HU g (fL rfl ?_))))));show aF (bo (mS g (gD _) λag f am=>?_));have O:∀{d:Heap},fA s.heap.objs.size ag d->∀b o,s.heap.get? b=U o->d.get? b=U o:=λdI b o e=>by have j:b≠s.heap.objs.size:=λq=>h3 _ (q▸ee e);show(dI.2 b j).trans ((am.2 b j).trans (c2 _ e))
 cases K with
 |int n t u l=>
  show aF (hl (a:=aa) rfl (fL rfl ?_));show aF (fL rfl (fL rfl (bL ?_)));show aF (bo (hh (T:="int") (w4 _ _ _) z8.lookup ?_));show Bg rfl (aF (tr (hl (rfl:rp (.int n t)=pure n) ?_)));have r:nM n=ae:=by delta nM;simp;lia
  show xT (by rw[r];x_go) (xT (w2.mpr u) (xT (λq=>absurd (eq_of_beq q) (by lia)) (xT (by rw[Rp (by lia)];x_go) ?_)))
  show aF (lR (X2 (λJ=>?_) λy=>?_))
  .show aF (bo (mS f (by rw[ez,wk];lia) λd ai i=>?_))
   show aF (bL (bL ⟨rfl,h d ai (O i)⟩))
  .obtain rfl:n=0:=by lia
   show aF (bL (bL ⟨rfl,h ag f (O (.refl ..))⟩))
 |aZ c t l=>
  show aF (hl (a:=aa) rfl (fL rfl ?_));show aF (fL rfl (fL rfl (bL ?_)));show aF (bo (dp (th G9) ?_));show fL rfl ?_;have B:gu ag (.bytes c t) c:= .aZ c t;show aF (bo (gu.buffer (s:={s with heap:=ag}) B ?_))
  show aF (lR (aF (bo (mS f l λd ai i=>?_))));show aF (bL (bL ⟨rfl,h d ai (O i)⟩))
end
def Th:jZ (.type "bytes") "__int__"=pure aa:=by rw[gn,gm];k_go
def R7:jZ (.type "bytes") "__float__"=pure aa:=by rw[gn,gm];k_go
def TX:mO (.bytes c t) (.type "bytearray")=pure af:=by haveI e:mO (.bytes c t) (.type "bytearray")=mR (.type "bytes") (.type "bytearray"):=rfl;rw[e,F.sub_bytes_bytearray]
def TY:mO (.bytes c t) (.type "complex")=pure af:=by haveI e:mO (.bytes c t) (.type "complex")=mR (.type "bytes") (.type "complex"):=rfl;rw[e,jU];k_go
section
def tL(b new:Array UInt8)(lo c:Option Int):Array UInt8:=b.extract 0 (dg b.size 0 lo)++new++b.extract (max (dg b.size 0 lo) (dg b.size b.size c)) b.size
def Ti{S:ar}{l u:aj}{lo f:Option Int}(g:dW s.heap a b)(m:k0 l lo)(n:k0 u f)(am:s.heap.IsSliceOf S l u .none)(hz:b.size<=fY)
 (aI:c.size=max (dg b.size 0 lo) (dg b.size b.size f) - dg b.size 0 lo)(h:∀ag,dW ag a (tL b c lo f)->(∀x o,x≠a->s.heap.get? x=U o->ag.get? x=U o)->Q () {s with heap:=ag}):
 aG (aN prog w) A (ps (.ref a) (.ref S) (.bytes c t)) Q E s:=by
 have dI:=am;show x13 dI λo j p z=>?_;have v:s.TypeIs (.ref S) "slice":=⟨o,j,p⟩;show x04 (acb (Bh (gD _) lo) (rm b.size f) hz aI) λK i y B=>G8 g.ty (by x_go) wA (tg wA g.ty (by z_go) Gq ?_ (GH _ _ _))
 delta Builtin.«bytearray.__setitem__»;show fL rfl (aF (bo (GI am ?_)));show aF (bo (SY v (fL rfl ?_)));show aF (bo (Am m n am ?_));show fL rfl (aF (hl TX (Bg rfl ?_)));have num:aG (aN prog w) A.in1 ((do
  let r<-q4 (wY c t) (bq "__index__")
  pure r.isSome)<||>(do
  let r<-q4 (wY c t) (bq "__int__")
  pure r.isSome)<||>(do
  let r<-q4 (wY c t) (bq "__float__")
  pure r.isSome)<||>mO (wY c t) (nV "complex"):Sem Bool) (λr an=>r=af/\an=s) E s:=by
  show aF (aF (hl (th G9) (bL ?_)));show aF (aF (hl (th Th) (bL ?_)));show aF (aF (hl (th R7) (bL ?_)));show hl TY ⟨rfl,rfl⟩
 show aF (a0 num (λr an D=>?_) λJ J e=>e);show x02 D λP O=>?_;k_lt P;k_lt O;show aF (hl (a:=aa) rfl (fL rfl ?_));show aF (lR (aF (BN (.aZ _ _ K) λd R k=>?_)));have I:d.IsSliceOf S l u .none:=⟨o,k _ _ j,p,z⟩;show aF (cO (bo (Am (s:={an with heap:=d}) m n I ?_)))
 show aF (bo (mL (s:={an with heap:=d}) R ?_))
 have ai:dW d a b:=let⟨x,g⟩:=g;⟨x,k _ _ g⟩
 show aF (bo (mL (s:={an with heap:=d}) ai ?_))
 show aF (bo (Hs ?_));show Bg rfl (aF (lR (fL ?_ ?_)))
 .rw[bne_eq_false_iff_eq,i];show y
 .rw[i];show aF (bo (mS (s:={an with heap:=d}) ai ?_ λag ac dI=>?_))
  .simp only[wu,s8];show B
  .show aF (bL (bL ⟨.none,rfl,h ag ac λx a4 M e=>?_⟩));show(dI.2 x M).trans (k _ _ e)
end
def Tj:jZ (.type "int") "__bytes__"=pure aa:=by rw[gn,gm];k_go
def Tk:jZ (.type "bytes") "__bytes__"=pure (U (.builtin "bytes.__bytes__")):=by rw[gn,gm];k_go
def TZ:jZ (.type "bytearray") "__bytes__"=pure aa:=by rw[gn,gm];k_go
def T0:jZ (.type "bytearray") "__index__"=pure aa:=by rw[gn,gm];k_go
section
def UN(h:aQ (aN prog w) A.in1 (Builtin.«bytes.__new__» ⟨[.type "bytes",v], []⟩) (λc an=>match c with | .done f=>nf Q E (.ok f) an | .again a_=>a_.quiet=ae/\m1 (aN prog w) A a_ (nf Q E) an) (λe an=>nf Q E (.error e) an) s):
 m1 (aN prog w) A (.call (.builtin "bytes.__new__") ⟨[.type "bytes",v], []⟩) (nf Q E) s:=by
 show GN ?_;change aQ _ A.in1 (do qL "bytes.__new__" ⟨[.type "bytes",v], []⟩;again (.builtin "bytes.__new__" ⟨[.type "bytes",v], []⟩)) _ _ s
 show aw (dp (F.bm_newCall _) (aY ⟨nQ Uh _,lM F.bm_entry ?_⟩));rw[mF Uh _];show h
def w0(h:aQ (aN prog w) A.in1.in1 (Builtin.«bytes.__new__» ⟨[.type "bytes",v], []⟩) (λd an=>match d with
 | .done f=>nf (λo q=>q.TypeIs o "bytes"/\Q o q) E (.ok f) an
 | .again a_=>a_.quiet=ae/\m1 (aN prog w) A.in1 a_ (nf (λo q=>q.TypeIs o "bytes"/\Q o q) E) an) (λe an=>nf (λo q=>q.TypeIs o "bytes"/\Q o q) E (.error e) an) s):
 aQ (aN prog w) A (bv (.type "bytes") [v]) Q E s:=by
 show callType_codes (Q₁:=λO q=>q.TypeIs O "bytes"/\Q O q) HD (F.bm_typeCall _) F.entry_object_init (UN h) λO q c=>⟨c.1,F.args_object_init_2 O _,object_init_meets HD.init.lookup HD.made (by x_go) prog w A.in1 _ q ⟨c.1,rfl,c.2⟩⟩
def R8{c:Array UInt8}{t:Tok}{Q:aj->ax->Prop}(h:Q (.bytes c t) s):aQ (aN prog w) A (bv (.type "bytes") [.bytes c t]) Q E s:=by show w0 (aw (dp (a:=ae) rfl (fC rfl ?_)));show aw (dp Bz (fC rfl ?_));show aw (dp (A9 _) ?_);show aw (dp (a:=()) rfl (aw (dp (a:=()) rfl (fC rfl ?_))));show aw (dp (th Tk) ?_);show aw (iU (aw (dp (a:= .type "bytes") rfl (mM rfl ?_))));show mM (by x_go) (aY ⟨zR _ _ _,h⟩)
def Tl{n:Int}{t:Tok}{Q:aj->ax->Prop}(c:0<=n)(d:n<=16777216)(h:∀t tk,Q (.bytes (jT n.toNat 0) t) {s with toks:=tk}):aQ (aN prog w) A (bv (.type "bytes") [.int n t]) Q E s:=by
 show w0 (aw (dp (a:=ae) rfl (fC rfl ?_)));show aw (dp Bz (fC rfl ?_));show aw (dp (A9 _) ?_);show aw (dp (a:=()) rfl (aw (dp (a:=()) rfl (fC rfl ?_))));show aw (hh (T:="int") (w4 _ _ _) Tj ?_);show aw (dp (a:=af) rfl (fC rfl ?_));show aw (hh (T:="int") (w4 _ _ _) z8.lookup (fC rfl ?_));show aw (wI (dp (rfl:rp (.int n t)=pure n) ?_));haveI f:nM n=ae:=by delta nM;simp;omega
 show xh (by rw[f];x_go) (xh (w2.mpr c) (xh (by omega) (xh (by rw[Rp (Hn.mpr d)];x_go) ?_)))
 show aw (iU (aw (Hb ?_ (by rw[ez,wk];show Hn.mpr d))))
 show mM (by x_go) (aY ⟨zR _ _ _,h _ _⟩)
def T1{Q:aj->ax->Prop}(g:dW s.heap a b)(hz:b.size<=fY)(h:∀t tk,Q (.bytes b t) {s with toks:=tk}):aQ (aN prog w) A (bv (.type "bytes") [.ref a]) Q E s:=by show w0 (aw (dp (a:=ae) rfl (fC rfl ?_)));show aw (dp Bz (fC rfl ?_));show aw (dp (A9 _) ?_);show aw (dp (a:=()) rfl (aw (dp (a:=()) rfl (fC rfl ?_))));show aw (hh g.ty TZ ?_);have c:=g;show x11 c λS ai=>aw (aw ?_);show aw (lP ai (aY (aY (fC rfl ?_))));show aw (hh g.ty T0 (mM rfl ?_));have B:gu s.heap (.ref a) b:= .ba a b g;show aw (B.buffer ?_);show aw (iU (aw (Hb ?_ hz)));show mM (by x_go) (aY ⟨zR _ _ _,h _ _⟩)
def T2(u:IntsAre vs ns)(X:∀n∈ns,0<=n/\n<256)(hz:ns.length<=fY)(r:I≠S)(aq:l≠I)(Q:l≠S)(z:∀x,A.handled=U (.ref x)->x≠I):
 ∀(k i:Nat) (s:ax),ns.length - i=k->i<=ns.length->g_ A s.heap->(∀x,A.handled=U (.ref x)->x≠S)->s.heap.IsList l vs.toArray->s.heap.IsListIter I l i->dW s.heap S (lW (ns.take i))->
  (∀ag t cV,(∀b o,b≠I->b≠S->s.heap.get? b=U o->ag.get? b=U o)->R (.ok (.ret (.bytes (lW ns) t))) {s with heap:=ag,toks:=cV})->
  m1 (aN prog w) A (.builtin "bytes.__new__.loop" ⟨[.type "bytes", .ref I, .ref S], []⟩) R s:=by
 haveI D:vs.length=ns.length:=u.length;intro k;cases k with
 |zero=>
  intro i s f ac H j d cZ eG m;haveI N:i=ns.length:=tf ac (PT.mp f);k_lt N;show lM Rq ?_;rw[mF Ab _];show aw (mK cZ.typeIs zU F3 (Ga _)
   (AY (A:=A.in1.in1) H z cZ d (by simp[D]) λag e k x=>⟨e,rfl,x,?_⟩))
  haveI p:dW ag S (lW (ns.take ns.length)):=let⟨y,g⟩:=eG;⟨y,k _ _ (cX r) g⟩
  show aw (mL (s:={s with heap:=ag}) p ?_)
  rw[List.take_length];show aw (Hb ?_ (by rw[SZ];show hz))
  show mM (by x_go) (aY (m ag _ _ λb o V J e=>k b o V e))
 |succ k T=>
  intro i s f ac H j d cZ eG m;haveI a:=NT f;haveI B:=a.1;show x11 (⟨_,jP (D▸B:i<vs.length)⟩:∃x,vs[i]? =U x) λx K=>?_;show x22 (IntsAre.at u i x K) λn t Z O=>?_;w_pre Z;show x02 (X n (h1 O)) λh0 bb=>lM Rq ?_;rw[mF Ab _];show aw (FO (x:= .int n t) cZ d (by simpa using K) λag bD am=>?_)
  haveI p:dW ag S (lW (ns.take i)):=let⟨y,g⟩:=eG;⟨y,(am.2 S (cX r)).trans g⟩
  show aw (jn (dp (rfl:rp (.int n t)=pure n) ?_));show aw (HC ?_);show fC (by simp only[Qd,decide_eq_false_iff_not];lia) ?_
  haveI E:(lW (ns.take i)).push n.toNat.toUInt8=lW (ns.take (i+1)):=(byteArr_take O).symm;show aw (mS (s:={s with heap:=ag}) p (by rw[E,SZ,tc];lia) λaI ai c=>?_)
  rw[E]at ai;haveI P:g_ A aI:=H.oN λy o e q=>(c.2 y (j y e)).trans ((am.2 y (z y e)).trans q);show aY ⟨nQ Ab _,T (i+1) {s with heap:=aI} a.2 B P j ?_ ?_ ai λbN aU cV W=>?_⟩
  .show(d.extBut am.extBut aq).extBut c.extBut Q
  .show bD.extBut c.extBut r
  .show m bN aU cV λb o v M e=>W b o v M ((c.2 b M).trans (am.extBut b o v e))
def SE(H:g_ A s.heap)(f:s.heap.IsList l vs.toArray)(v:IntsAre vs ns)(y:∀n∈ns,0<=n/\n<256)(hz:ns.length<=fY)
 (h:∀ag t tk,(∀b o,s.heap.get? b=U o->ag.get? b=U o)->Q (.bytes (lW ns) t) {s with heap:=ag,toks:=tk}):aQ (aN prog w) A (bv (.type "bytes") [.ref l]) Q E s:=by
 show w0 ?_;haveI d:s.TypeIs (.ref l) "list":=f.typeIs;obtain⟨ac,p,B,z,u⟩:=id f;haveI fresh:∀x,A.handled=U (.ref x)->x<s.heap.objs.size:=λx c=>by
  show a8 H (λH=>?_) λO=>?_
  .rw[H]at c;cases c
  .show x33 O λX o vs a b J=>?_;rw[a]at c;cases c;show ee b
 show aw (dp (a:=ae) rfl (fC rfl ?_));show aw (dp Bz (fC rfl ?_));show aw (dp (A9 _) ?_);show aw (dp (a:=()) rfl (aw (dp (a:=()) rfl (fC rfl ?_))));show aw (hh d F.bm_no_bytes ?_);show aw (aw ?_);show aw (lP p ?_);rw[u];show aY (aY (fC rfl ?_));show aw (hh d F.bm_no_index (mM rfl ?_));show aw (aw (hh d RU ?_));show aw (hh d RU (aY ?_));show aw (wpAny_tryCatch (Gi f ?_));haveI g:(s.heap.push {cls:= .type "list_iterator",data:= .fields #[.ref l, .int 0 0]}).IsList l vs.toArray:=f.push _;haveI i:({s with heap:=s.heap.push {cls:= .type "list_iterator",data:= .fields #[.ref l, .int 0 0]}}:ax).TypeIs (.ref l) "list":=aid (s:={s with heap:=s.heap.push {cls:= .type "list_iterator",data:= .fields #[.ref l, .int 0 0]}}) g
 show aw (jn ?_);show aw (hh i slot_list_len.lookup ?_);rw[F.bm_split];show aw (z5 i F.bm_sub_list (fC rfl (mM (by z_go) (aY ?_))))
 show aw (ip ?_ (gD _));haveI fh:((s.heap.push {cls:= .type "list_iterator",data:= .fields #[.ref l, .int 0 0]}).push (nz #[])).IsListIter s.heap.objs.size l 0:=⟨_,c2 _ (er _ rfl),rfl,rfl⟩;haveI m:l<s.heap.objs.size:=ee p;haveI hsz:(s.heap.push {cls:= .type "list_iterator",data:= .fields #[.ref l, .int 0 0]}).objs.size=s.heap.objs.size+1:=kM _ _;haveI M:=T2 (prog:=prog) (w:=w) (A:=A.in1) (R:=nf (λo j=>j.TypeIs o "bytes"/\Q o j) E) (l:=l) (I:=s.heap.objs.size) (S:=(s.heap.push {cls:= .type "list_iterator",data:= .fields #[.ref l, .int 0 0]}).objs.size) v y hz
  (by rw[hsz];show ey (jm _)) (ey m) (by rw[hsz];show ey (nN m)) (λx c=>ey (fresh x c))
  ns.length 0 {s with heap:=(s.heap.push {cls:= .type "list_iterator",data:= .fields #[.ref l, .int 0 0]}).push (nz #[])} rfl (gD _)
  (H.oN λx o J e=>c2 _ (c2 _ e)) (λx c=>by rw[hsz];show ey (nN (fresh x c))) (g.push _) fh ⟨#[],er _ rfl⟩
  λag t k r=>⟨zR _ _ _,h ag t k λb o e=>r b o (ey (ee e)) (by rw[hsz];show ey (nN (ee e))) (c2 _ (c2 _ e))⟩
 show aY ⟨nQ Ab _,M⟩
end
end
section
open PySem.SeqAt
variable{c:aV}{s:ax}{A:b2}{E:aj->ax->Prop}
def Rel.L6(R:Rel u c Y L s)(k:L.h.get i≠ .tab)(n:br Y.ah i p)(f:Y.own a=U i)(am:∀b o,b≠a->s.heap.get? b=U o->ag.get? b=U o)
 (g:ag.get? a=U b7)(j:dk u Y.ah Y.own ag i p a4):Rel u c Y ⟨L.h.st a4 i,L.nx,L.fr,L.hf⟩ {s with heap:=ag,toks:=tk}:=by
 show R.eM (R.low _ _ f).2 k ⟨λb o l d e=>am b o (λq=>?_) e,λm ⟨o,es,ep,e,r⟩=>⟨o,es,ep,am _ o (cX (R.loc f)) e,r⟩⟩ n j λb o l e=>?_
 .k_lt q;show d.elim (λd=>nomatch f.symm.trans d) λd=>d f
 .by_cases q:b=a
  .w_pre q;show⟨_,g⟩
  .show⟨o,am b o q e⟩
def Rel.j9{i:Nat}{p:ar×ar}{a:ar}{a4:O}{b7:Obj}{ag:Heap}{tk:Nat}(R:Rel u c Y L s)(f:L.h.get i≠ .tab)(l:br Y.ah i p)(k:Y.own a=U i)(am:fA a s.heap ag)
 (g:ag.get? a=U b7)(d:dk u Y.ah Y.own ag i p a4):Rel u c Y ⟨L.h.st a4 i,L.nx,L.fr,L.hf⟩ {s with heap:=ag,toks:=tk}:=R.L6 f l k (λb o j e=>(am.2 b j).trans e) g d
def bg.put{i:Nat}{a4:O}{an:ax}(R:Rel u c Y ⟨L.h.st a4 i,L.nx,L.fr,L.hf⟩ an):bg u c Y (L.put i a4 (.ok .none)) .none an:=by rw[C.gP];show bg.here (v:= .none) R rfl
def jq(q:L.h.get i=o)(h:o≠ .tab):L.h.get i≠ .tab:=q▸h
def y7.mf(x:y7 u own h i p v):∃a,own p.1=U i/\dW h p.1 a/\dK u v a:=let⟨a,s,g,b⟩:=x;⟨a,g.w,⟨s,g.g⟩,b⟩
def dW.or(g:dW h p.1 a)(c:own p.1=U i)(r:dK u v a):y7 u own h i p v:=let⟨s,g⟩:=g;⟨a,s,⟨c,g⟩,r⟩
def m2(h:gv v=ae)(r:dK u v a):a.size<=5000:=by
 cases v with
 |aZ y=>show r.1▸fk (C.df h)
 |ev l=>show x12 r λy e k=>k.1▸fk (C.df (C.n3 h y (h1 ((C.hq l u.bJ).symm.trans e))))
 |any n=>haveI e:a.size=n:=r;show e▸fk (C.df h)
 |_=>show r.elim
def j4{ws:Array aj}(A:bI (az u ah) l ws.toList):ws.size=l.length:=eo.symm.trans A.length.symm
def ck.one(h:kA u d b)(c:d<1024):ck u ⟨1,d⟩ #[b]:=by
 show⟨rfl,by rw[ts];show c,λi x e=>?_⟩
 obtain rfl:i=0:=by simpa using(sU.mp e).1
 haveI e:b=x:=by simpa using e
 k_lt e;rw[C.j3,nR,nS,o1 c];show h
def UO(R:Rel u c Y L s){i:Nat}{v:a3}{w x:aj}(hw:az u Y.ah (.ref i) w)(m:az u Y.ah v x):ai u c A (ci u c) Y (bv (.builtin "bytearray.append") [w,x]) s (C.LK u.ao.lf i v L):=.fQ λb q=> .ga λy e=> .dA λr=> .a7 λd Q=> .a7 λz n J=>by
  k_lt e;obtain⟨p,l,rfl⟩:=hw;show x13 ((R.at l q).mf) λa f g k=>?_;haveI k:ck u y a:=k;show x23 (BG R.st Q m) λe t o D dG=>?_;k_lt o;cases(C.pK _ _).symm.trans n;haveI:=e.toNat_lt;show UL g (iP _) (by omega) (by rw[ez,k.1];omega) λag j am=>x11 (id j) λS g2=>?_
  show bg.put (R.j9 (tk:=s.toks) (jq q nofun) l f am g2 (j.or f ?_))
  rw[show(e.toNat:Int).toNat.toUInt8=e by rw[gN];show Gk]
  haveI:=k.cat (ck.one D dG);rw[Array.append_singleton]at this;show this
def X5(R:Rel u c Y L s)(d:az u Y.ah v w):f8 (flat L.h v) u.bJ=U y->∃a,gu s.heap w a/\dK u (flat L.h v) a:=by
 show C.e9 (P:=λx=>f8 x u.bJ=U y->∃a,gu s.heap w a/\dK u x a) (λj e=>?_) λh=>?_
 .k_lt e;show C.oa (P:=λx=>f8 x u.bJ=U y->∃a,gu s.heap w a/\dK u x a) (λb q J=>?_) λh=>nomatch h;obtain⟨p,f,rfl⟩:=d;show x13 ((R.at f q).mf) λa i g k=>⟨a, .ba _ _ g,k⟩
 .obtain⟨a,t,rfl,k⟩:=ob d h;show⟨a, .aZ a t, .nd h k⟩
def Wa(R:Rel u c Y L s)(hw:az u Y.ah (.ref i) w)(l:az u Y.ah v x):ai u c A (ci u c) Y (bv (.builtin "bytearray.extend") [w,x]) s (C.M8 u.ao.F i v L):=.fQ λb q=> .a7 λz Q J=>by
  obtain⟨p,j,rfl⟩:=hw;show x13 ((R.at j q).mf) λa d g k=>x12 (pO Q R.st.len (C.xf u.bJ)) λr e J=>?_;show x23 (xz e) λJ J J E J=>x12 (X5 R l E) λak fU K=>?_;show x02 (Xz R.st Q k K) λdF hz=>UM g fU (by rw[ez];omega) λag f am=>?_
  show x11 (id f) λS g2=>bg.put (R.j9 (tk:=s.toks) (jq q nofun) j d am g2 (f.or d dF))
def A0(d:(p==qV)=af)(c:fq u s.heap p f)(h:Q ((f k).getD .none) {s with toks:=s.toks+1}):
 aQ u.M A (bv (.builtin "dict.get") [.ref p, .int k t]) Q E s:=Ay GM c.mapOf.typeIs Q3 (F.args_dict_get_2 _ _) (meets_dict_get _ p (qX u.prog u.w k t) d) ⟨f,c.mapOf,h⟩
def HV(g:(p==qV)=af)(c:fq u s.heap p f)(h:Q ((f k).getD d) {s with toks:=s.toks+1}):
 aQ u.M A (bv (.builtin "dict.get") [.ref p, .int k t,d]) Q E s:=Ay GM c.mapOf.typeIs Q3 (F.args_dict_get_3 _ _ _) (meets_dict_get_default _ p (qX u.prog u.w k t) g d) ⟨f,c.mapOf,h⟩
def Wb{α:Type}{v:a3}{k:Nat->Option α}{z:Option α}{a:α}:C.ii v k z=U a->(∃n,v= .aW n/\k n=U a)\/((∀n,v≠ .aW n)/\z=U a):=C.iX (P:=(·=U a->_)) (λi e h=> .inl ⟨i,e,h⟩) λe h=> .inr ⟨e,h⟩
def Bi{l:aP}{k:Int}{d v:a3}{dw:aj}{f:Int->Option aj}(j:ej u ah l f)(i:az u ah d dw)(h:C.um l k d=U v):az u ah v ((f k).getD dw):=by
 unfold C.um at h;cases q:l.get k with
 |none=>rw[q]at h;rw[j.no q,<-bY h];show i
 |some v'=>
  rw[q]at h;haveI g:=j.get q;clear j q;show a8 (Wb h) (λO=>?_) λo=>?_
  .show x12 O λn e h=>?_;haveI g:f k=aa\/∃a t,f k=U (.bytes a t)/\EE n a:=(e▸g:g8 u ah (f k) (.aW n));show x12 (tR h) λy e h=>?_;cases Q:bw n 1000 with
   |true=>
    rw[Q]at h;show x02 (C.db h) λm h=>?_;rw[<-bY h];haveI E:=C.bS m;show a8 g (λc=>?_) λo=>?_
    .rw[c];obtain⟨a,t,e,k⟩:=(e▸i:az u ah (.aZ y) dw);show⟨a,t,e,k.1.trans E.symm⟩
    .show x22 o λa t c hz=>?_;rw[c];show⟨a,t,rfl,(if_pos (C.df Q)).mp hz⟩
   |false=>
    rw[Q]at h;show x02 (C.db h) λm h=>x02 (C.db h) λx h=>?_;rw[<-bY h];show a8 g (λc=>?_) λo=>?_
    .rw[c];show i
    .show x22 o λa t c hz=>?_;rw[c];haveI hz:=(if_neg (d_.mpr (C.ua Q))).mp hz;rw[C.bS m]at hz;rw[show fN 1000 y.n - 1000=y.n from kG ..]at hz;rw[e];obtain⟨p,z⟩:=y;cases C.bS x;show⟨a,t,rfl,hz▸ck.pQ p⟩
  .show x02 o λs h=>?_;show x12 (g.el s) λw e r=>?_;rw[e,<-bY h];show r
end
section
open PySem.SeqAt
def lN{kvs:List (Int×aj)}{k:Int}:valueAt (e::kvs) k=if e.1=k then U e.2 else valueAt kvs k:=by
 delta valueAt;by_cases h:e.1=k
 .rw[if_pos h];simp[h]
 .rw[if_neg h];simp[h]
def RH(kvs:List (Int×aj))(k:Int)(v:aj)(x:Int):valueAt (stored kvs k v) x=if x=k then U v else valueAt kvs x:=by
 delta stored;show iteE (λ_=>?_) λ_=>?_
 .rename_i h;cases kvs with
  |nil=>cases h
  |cons K r i=>
   rw[gC,lN,lN];by_cases d:K.1=k
   .rw[if_pos d];dsimp only;by_cases c:x=k
    .rw[if_pos (d.trans c.symm),if_pos c]
    .rw[if_neg (λe=>c (e.symm.trans d)),if_neg c,if_neg (λe=>c (e.symm.trans d))];clear i h;cases r with
     |nil=>rfl
     |cons l r i=>
      rw[gC,lN,lN,i];by_cases f:l.1=k
      .rw[if_pos f];dsimp only;rw[if_neg (λe=>c (e.symm.trans f)),if_neg (λe=>c (e.symm.trans f))]
      .rw[if_neg f]
   .rw[if_neg d];haveI ag:r.any (λK=>decide (K.1=k))=ae:=by rw[Ao]at h;simpa [d]using h
    rw[i ag];by_cases c:x=k
    .rw[if_pos c,if_pos c,if_neg (λe=>d (e.trans c))]
    .rw[if_neg c,if_neg c]
 .rename_i h;haveI g:k∉kvs.map (·.1):=λj=>by show x12 (dy.mp j) λK m o=>?_;k_lt o;show h (wy.mpr ⟨K,m,by simp⟩)
  clear h;cases kvs with
  |nil=>
   rw[Aa,lN];by_cases c:x=k
   .rw[if_pos c,if_pos c.symm]
   .rw[if_neg c,if_neg (cX c)]
  |cons K r i=>
   rw[gC,bX,not_or]at g;rw[z7,lN,lN,i g.2];by_cases c:x=k
   .rw[if_pos c,if_pos c,if_neg (λe=>g.1 (c.symm.trans e.symm))]
   .rw[if_neg c,if_neg c]
def Rc(kvs:List (Int×aj))(k x:Int):valueAt (KA kvs k) x=if x=k then aa else valueAt kvs x:=by
 cases kvs with
 |nil=>simp[KA,valueAt]
 |cons K r i=>
  unfold KA at i⊢;rw[mG];by_cases d:K.1=k
  .rw[if_neg (by simp[d]),i,lN]
   by_cases c:x=k
   .rw[if_pos c,if_pos c]
   .rw[if_neg c,if_neg c,if_neg (λe=>c (e.symm.trans d))]
  .rw[if_pos (by simp[d]),lN,lN,i]
   by_cases c:x=k
   .rw[if_pos c,if_pos c,if_neg (λe=>d (e.trans c))]
   .rw[if_neg c,if_neg c]
section
def ej.put(h:ej u ah l f)(c:az u ah v w):ej u ah (l.hU k v) (λx=>if x=k then U w else f x):=λx=>by
 change C.bs _ ((if x=k then U w else f x)=aa) (g8 u ah (if x=k then U w else f x))
 rw[C.aP.ZK];by_cases e:x=k
 .rw[if_pos e,if_pos e];show g8.mk rfl c
 .rw[if_neg e,if_neg e];show h x
def ej.del(h:ej u ah l f):ej u ah (l.dG k) (λx=>if x=k then aa else f x):=λx=>by
 change C.bs _ ((if x=k then aa else f x)=aa) (g8 u ah (if x=k then aa else f x))
 rw[C.aP.ZL];by_cases e:x=k
 .rw[if_pos e,if_pos e];show rfl
 .rw[if_neg e,if_neg e];show h x
def w8{α:Type} [DecidableEq α]:∀{l m:List α},l.Nodup->(∀x∈l,x∈m)->l.length<=m.length:=by
 intro X;cases X with
 |nil=>intro J J J;show gD _
 |cons a l i=>
  intro m f am;show x02 (dN.mp f) λj g=>?_;haveI:=i (m:=m.erase a) g λx c=>by rw[List.mem_erase_of_ne (λq:x=a=>j (q▸c))];show am x (cA _ c)
  haveI d:=am a (cF ..);rw[List.length_erase_of_mem d]at this;show P_ (List.length_pos_of_mem d) this
noncomputable def yd:aP->List Int
 | .nil=> []
 | .cons k _ r=>k::yd r
theorem Iq:∀l:aP,(yd l).length=l.len
 | .nil=>rfl
 | .cons _ _ r=>congrArg da (Iq r)
theorem Ir:∀{l:aP} {k:Int},l.get k≠aa->k∈yd l
 | .nil,_,h=>absurd rfl h
 | .cons cV v r,k,h=>by
  by_cases e:cV=k
  .k_lt e;show cF ..
  .show cA _ (Ir λq=>h ?_);rw[C.aP.hn,C.o_ e];show q
def Hu{k:Int}(c:k∈kvs.map (·.1)):valueAt kvs k≠aa:=by
 show x12 (dy.mp c) λx d o=>?_;k_lt o;intro this;unfold valueAt at this;cases Q:kvs.find? (λK=>K.1=x.1)with
 |some y=>rw[Q]at this;cases this
 |none=>haveI:=List.find?_eq_none.mp Q x d;simp at this
def JW{f:Int->Option aj}{kvs:List (Int×aj)}(h:ej u ah l f)(d:∀k,valueAt kvs k=f k)(g:(kvs.map (·.1)).Nodup):kvs.length<=l.len:=by haveI:=w8 (m:=yd l) g λk c=>Ir λq=>Hu c ((d k).trans (h.no q));rwa [dC,Iq]at this
inductive L7(u:bf)(h:Heap)(a:ar)(f:Int->Option aj)(n:Nat):Prop where
 |mk (kvs:List (Int×aj)) (d:h.DictOf (hr u.prog u.w) a kvs) (hf:∀k,valueAt kvs k=f k) (aB:(kvs.map (·.1)).Nodup) (hz:kvs.length<=n)
def fq.ye(D:fq u h a f)(m:ej u ah l f):L7 u h a f l.len:=by show x12 D.dictOf λkvs d hf=>?_;haveI hB:(kvs.map (·.1)).Nodup:=d.casesOn λJ e=>e.casesOn λJ e=>e.casesOn λJ e=>e.2.2.2.2.2;show⟨kvs,d,hf,hB,JW m hf hB⟩
def fq.g(d:fq u h a f):∃o,h.get? a=U o:=x32 d λJ J J g J=>⟨_,g⟩
end
section
def cY.get(h:cY ah live lv)(e:live.get k=U v):∃j q,v= .ref j/\br ah j q/\(k,j,q.1)∈lv:=by
 cases h with
 |nil=>cases e
 | @cons n j q r l d t i=>
  revert e;rw[C.aP.hn];show C.l3 (P:=(·=U v->_)) (λx e=>?_) λx e=>?_
  .cases e;obtain rfl:=C.gQ x;show⟨j,q,rfl,d,cF ..⟩
  .show x23 (i e) λaI Q a b c=>?_;show⟨aI,Q,a,b,cA _ c⟩
def cY.no(h:cY ah live lv)(e:live.get k=aa):∀x∈lv,x.1≠k:=by
 cases h with
 |nil=>intro x d;cases d
 | @cons n j q r l f t i=>
  rw[C.aP.hn]at e;cases x:C.cH n k with
  |true=>rw[x]at e;cases e
  |false=>
   rw[x]at e;intro y c;show a8 (bX.mp c) (λo=>?_) λc=>?_
   .k_lt o;show C.KI x
   .show i e y c
def Tm:C.pu j (.cons n (.ref i) r)=C.aA (aK i j) ae (C.pu j r):=rfl
def cY.has(h:cY ah live lv):C.pu j live=ae↔∃x∈lv,x.2.1=j:=by
 cases h with
 |nil=>show⟨λh=>(nomatch h),λaD=>aD.casesOn λx aD=>aD.casesOn λd J=>nomatch d⟩
 | @cons n aI q r l f t i=>
  rw[Tm];cases x:aK aI j with
  |true=>show⟨λJ=>⟨_,cF ..,C.bS x⟩,λJ=>rfl⟩
  |false=>
   show i.trans ⟨λaD=>aD.casesOn λy aD=>aD.casesOn λc e=>⟨y,cA _ c,e⟩,λaD=>aD.casesOn λy aD=>aD.casesOn λc e=>?_⟩;show a8 (bX.mp c) (λo=>?_) λc=>?_
   .k_lt o;show absurd e (C.j7 x)
   .show⟨y,c,e⟩
def cY.cQ{live:aP}{lv:List (Int×Nat×ar)}(h:cY ah live lv){x:Int×Nat×ar}(c:x∈lv):∃q,br ah x.2.1 q/\x.2.2=q.1:=by
 cases h with
 |nil=>cases c
 |cons d t i=>
  show a8 (bX.mp c) (λo=>?_) λc=>?_
  .k_lt o;show⟨_,d,rfl⟩
  .show i c
def cY.put(h:cY ah live lv)(e:live.get k=aa)(c:br ah j q):cY ah (live.hU k (.ref j)) (lv++ [(k,j,q.1)]):=by
 cases h with
 |nil=>show .cons c .nil
 | @cons n aI Q r l d t i=>
  rw[C.aP.hn]at e;rw[C.aP.JA];cases x:C.cH n k with
  |true=>rw[x]at e;cases e
  |false=>rw[x]at e;show .cons d (i e)
def cY.len(h:cY ah live lv):live.len=lv.length:=by
 cases h with
 |nil=>rfl
 |cons _ _ i=>show congrArg da i
def y6.keep(x:y6 h q)(k:∀a o,(a=q.b\/a=q.d\/a=q.y)->h.get? a=U o->ag.get? a=U o):y6 ag q:=by obtain⟨O,s,a,b,r,y⟩:=x;show⟨O,s,k _ _ (.inl rfl) a,k _ _ (.inr (.inl rfl)) b,r,k _ _ (.inr (.inr rfl)) y⟩
variable{own:cB}{h ag:Heap}{i:Nat}{p:ar×ar}{live:aP}{cL:Option Nat}{ch:Option Int}{lk:aP}{row cb:Nat}{pr pl:ar×ar}{am:List ce}{lv:List (Int×Nat×ar)}{f fl:Int->Option aj}{ws:Array aj}{wn:Nat}
structure Apart(a b d:ar)(am:List ce):Prop where
 pr:a≠b
 pl:a≠d
 oV:b≠d
 cD:∀q∈am,∀x,(x=q.b\/x=q.d\/x=q.y)->x≠a/\x≠b/\x≠d
def xD{α:Type}{l:List α}{a:α}(h:l.Nodup)(n:a∉l):(l++ [a]).Nodup:=qJ.mpr ⟨h,dN.mpr ⟨Gy,Af⟩,λJ c J d e=>n (lJ.mp d▸e▸c)⟩
def xi{α:Type}{P:α->Prop}{l:List α}{a:α}(h:∀x∈l,P x)(ag:P a):∀x∈l++ [a],P x:=λx c=>(mI.mp c).elim (h x) λq=>lJ.mp q▸ag
def I0(h:∀x∈lv,x.2.1≠m):(lv.filter λx=>U m !=U x.2.1)=lv:=s6.mpr λx c=>bne_iff_ne.mpr λq=>h x c (bY q).symm
def X6{am:List ce}{lv:List (Int×Nat×ar)}{f:Int->Option aj}{n:Int}{j:Nat}{d:ar}(l:∀k a,f k=U a↔(∃q∈am,q.n=k/\a= .ref q.b)\/(∃x∈lv,x.1=k/\a= .ref x.2.2))(ch:∀q∈am,q.n≠n)(i:∀x∈lv,x.1≠n)(k:Int)(a:aj):
 (if k=n then U (.ref d)else f k)=U a↔(∃q∈am,q.n=k/\a= .ref q.b)\/(∃x∈lv++ [(n,j,d)],x.1=k/\a= .ref x.2.2):=by
 by_cases e:k=n
 .rw[if_pos e];show⟨λq=> .inr ⟨_,wf _ (PM _),e.symm,(bY q).symm⟩,λq=>q.elim (λaD=>aD.casesOn λy aD=>aD.casesOn λm aD=>aD.casesOn λE J=>absurd (E.trans e) (ch y m)) λaD=>aD.casesOn λx aD=>aD.casesOn λc aD=>aD.casesOn λE g=>xi (P:=λx=>x.1=k->a= .ref x.2.2->U (eU d)=U a) (λx c E J=>absurd (E.trans e) (i x c)) (λJ q=>congrArg U q.symm) x c E g⟩
 .rw[if_neg e];show(l k a).trans ⟨λq=>q.imp id λaD=>aD.casesOn λx aD=>aD.casesOn λc r=>⟨x,sY _ c,r⟩,λq=>q.imp id λaD=>aD.casesOn λx aD=>aD.casesOn λc aD=>aD.casesOn λE g=>⟨x,(mI.mp c).elim id λq=>absurd (E.symm.trans (congrArg BA (lJ.mp q))) e,E,g⟩⟩
def Hid.apart(H:Hid u ah own h i p live cL ch lk row cb pr pl am lv f fl ws wn):Apart p.1 pr.1 pl.1 am:=by
 haveI aB:=H.aB;show x02 (dN.mp aB) λn aB=>?_;show x02 (dN.mp aB) λd aB=>?_;show x02 (dN.mp aB) λj aB=>?_;rw[bX,bX,not_or,not_or]at n;rw[bX,not_or]at d;show⟨n.1,n.2.1,d.1,λq g a k=>?_⟩;haveI c:a∈am.flatMap λq=> [q.b,q.d,q.y]:=Gz.mpr ⟨q,g,by rcases k with rfl |rfl |rfl<;>simp⟩
 show⟨λe=>n.2.2 (e▸c),λe=>d.2 (e▸c),λe=>j (e▸c)⟩
def Hid.acd(H:Hid u ah own h i p live cL ch lk row cb pr pl am lv f fl ws wn)(c:q∈am)(d:x∈lv):q.n≠x.1:=(qJ.mp H.num).2.2 q.n (hc c) x.1 (hc d)
end
section
variable{c:aV}{s:ax}{A:b2}{E:aj->ax->Prop}
def UP(R:Rel u c Y L s){i:Nat}{k:a3}{w x:aj}(hw:az u Y.ah (.ref i) w)(n:az u Y.ah k x):ai u c A (ci u c) Y (bv (.builtin "dict.get") [w,x]) s (C.LL i k L):=by
 obtain⟨p,j,rfl⟩:=hw;show .b6 λk e=>?_;k_lt e;show x11 n λt o=>?_;k_lt o;show .e_ (λl q=> .c1 λv Q=> .any ?_) (.eW λlive cL ch lk row cb q=>?_)
 .obtain⟨f,r,D,M⟩:=R.at j q;show A0 (mZ R r) D (bg.here (R.toks _) (Bi (d:= .none) (dw:= .none) M rfl Q))
 .obtain⟨pr,pl,am,lv,f,fl,ws,wn,H⟩:=R.at j q;show .bs (λQ=> .a7 λm I=> .bV λy=> .any ?_) λv Q=> .any ?_
  .obtain rfl:=C.gQ y;show A0 (mZ R H.own.1) H.jw ?_;haveI:f m=aa:=by
    cases e:f m with
    |none=>rfl
    |some a=>
     show a8 ((H.fin m a).mp e) (λB=>?_) λO=>?_
     .show x13 B λg z E J=>?_;show absurd E (H.oK m I g z)
     .show x13 O λx P E J=>?_;show absurd E (H.dV.no Q x P)
   rw[this];show bg.here (v:= .none) (R.toks _) rfl
  .show x23 (H.dV.get Q) λaI g o ac K=>?_;w_pre o;show A0 (mZ R H.own.1) H.jw ?_;rw[show f k=U (.ref g.1)from(H.fin k _).mpr (.inr ⟨_,K,rfl,rfl⟩)];show bg.here (v:= .ref aI) (R.toks _) ⟨g,ac,rfl⟩
def UQ(R:Rel u c Y L s){i:Nat}{k d:a3}{w x y:aj}(hw:az u Y.ah (.ref i) w)(m:az u Y.ah k x)(g:az u Y.ah d y):ai u c A (ci u c) Y (bv (.builtin "dict.get") [w,x,y]) s (C.LM i k d L):=by
 obtain⟨p,j,rfl⟩:=hw;show .b6 λk e=>?_;k_lt e;show x11 m λt O=>?_;k_lt O;show .e_ (λl q=> .c1 λv Q=> .any ?_) (.oz λd q=> .eW λlive cL ch lk row cb Q=> .bV λr=> .c1 λv o=> .any ?_)
 .obtain⟨f,n,D,M⟩:=R.at j q;show HV (mZ R n) D (bg.here (R.toks _) (Bi M g Q))
 .obtain rfl:=C.bS r;obtain⟨ct,J,pr,pl,am,lv,f,fl,ws,wn,H⟩:=rt R Q;obtain rfl:=H.cQ.2.fn j;show HV (mZ R H.own.2.2.1) H.kj (bg.here (R.toks _) (Bi H.hW g o))
end
end
section
open PySem.SeqAt
open MeetsSeq (plain_remove_loop entry_remove_loop size_erased)
open AutoSeq1 (wpAny_loadPart')
section
variable{prog:eP}{w:b3}{A:b2}{E:aj->ax->Prop}{s:ax}
def R9{R:h6->ax->Prop}(l:ar)(items:Array aj)(n:Nat)(x:aj)(e:aj->Bool)(B:∀y,y∈items->EqAt A.in1 s y x (e y))(j:Nat)(u:j<items.size)(cZ:e items[j]=ae)(ac:items.size<=fY)
 (c:s.heap.get? l=U {cls:= .type "list",dict:=aa,data:= .seq items n,slots:=#[]})(h:R (.ok (.ret .none)) {s with heap:=s.heap.update l (o9 λxs=>xs.eraseIdxIfInBounds j)})(k:Nat):
 ∀i:Nat,j - i=k->i<=j->(∀m (z:m<items.size),i<=m->m<j->e items[m]=af)->
  aQ (aN prog w) A.in1 (Builtin.«list.remove.loop» ⟨[.ref l,x,b8 i], []⟩) (λD an=>match D with | .done f=>R (.ok f) an | .again a_=>a_.quiet=ae/\m1 (aN prog w) A a_ R an) (λe an=>R (.error e) an) s:=by
 cases k with
 |zero=>
  intro i o v r;obtain⟨K,g,d,tk,os⟩:=s;have E:i=j:=tf v (PT.mp o);k_lt E
  wp_walk using wD c
  have p:items[((i:Nat):Int).toNat]? =U items[i]:=by simp[u]
  rw[p];show aw (B _ (Gg u) prog w _ _ ?_);rw[cZ];have I:(items.eraseIdxIfInBounds i).size<=fY+1:=c7 (size_erased items _) (QO ac)
  wp_walk using(Rm c rfl (hz:=ac) (_hz':=I)),wD c
  simpa using h
 |succ k M=>
  intro i o v r;have a:=NT o;have t:i<items.size:=o6 a.1 u;have O:=M (i+1) a.2 a.1 (λm z ai aI=>r m z (QK ai) aI);obtain⟨K,g,d,tk,os⟩:=s
  wp_walk using wD c
  have p:items[((i:Nat):Int).toNat]? =U items[i]:=by simp[t]
  have P:((i:Int)+1)=((i+1:Nat):Int):=by push_cast;rfl
  rw[p];show aw (B _ (Gg t) prog w _ _ ?_);rw[r i t (jY _) a.1]
  wp_walk
  rw[P];show⟨nQ plain_remove_loop _,lM entry_remove_loop (by rw[mF plain_remove_loop _];show O)⟩
def R_{Q:aj->ax->Prop}(l:ar)(items:Array aj)(n:Nat)(x:aj)(e:aj->Bool)(i:∀y,y∈items->EqAt A.in1 s y x (e y))(j:Nat)(t:j<items.size)(cZ:e items[j]=ae)
 (k:∀m (f:m<items.size),m<j->e items[m]=af)(o:items.size<=fY)(c:s.heap.get? l=U {cls:= .type "list",dict:=aa,data:= .seq items n,slots:=#[]})
 (h:Q .none {s with heap:=s.heap.update l (o9 λxs=>xs.eraseIdxIfInBounds j)}):aQ (aN prog w) A (bv (.builtin "list.remove") [.ref l,x]) Q E s:=by
 show qZ (sZ Gb.plain F.entry_list_remove (Gb.check _ _ _ _ _ _ _ _ (⟨_,c,rfl⟩:s.TypeIs (.ref l) "list") (F.args_list_remove_2 _ _) ?_));haveI r:=R9 (prog:=prog) (w:=w) (R:=nf Q E) l items n x e i j t cZ o c h j 0 (Av _) (gD _) (λm f J p=>k m f p);obtain⟨u,g,d,tk,os⟩:=s
 wp_walk using wD c
 show⟨nQ plain_remove_loop _,lM entry_remove_loop (by rw[mF plain_remove_loop _];show r)⟩
def Vp{a:ar}:EqAt A s (.ref a) (.ref a) ae:=λprog w E Q c=>by show jn (Rh (λJ=>aw (iU (aY c))) (λh=>?_));show absurd (beq_self_eq_true _) h
end
section
variable{c:aV}{s:ax}{A:b2}{E:aj->ax->Prop}{n:Nat}
def JX(R:Rel u c Y L s){k:Nat}(f:gZ k=ae){x d:ar}(g:s.heap.get? x=U (j6 (cP k) d)):s.heap.CmpInst x (cP k) [.type "object"]:=R.st.cmp k f _ x d R.k3 g
def Wc(R:Rel u c Y L s){k cV:Nat}(l:gZ k=ae)(f:gZ cV=ae){x y d D:ar}(g:s.heap.get? x=U (j6 (cP k) d))(ai:s.heap.get? y=U (j6 (cP cV) D))(j:A.units<pY):
 EqAt A s (.ref x) (.ref y) (decide (x=y)):=by
 by_cases e:x=y
 .k_lt e;rw[decide_eq_true rfl];show Vp
 .rw[decide_eq_false e];show Ax e λprog w E Q i=>?_;haveI X:=JX R l g;haveI bD:=JX R f ai;obtain⟨h,g,d,t,os⟩:=s;show richCompare_eq_other S0 S0 X bD e j i
def Hv:∀{lv:List (Int×Nat×ar)} {x:Int×Nat×ar},(lv.map (·.2.1)).Nodup->x∈lv->((lv.filter λy=>U x.2.1!=U y.2.1)++ [x]).Perm lv:=by
 intro X;cases X with
 |nil=>intro J J h;show nomatch h
 |cons y r i=>
  intro x aB h;rw[gC,dN]at aB;show a8 (bX.mp h) (λo=>?_) λh=>?_
  .k_lt o;rw[mG];haveI E:(U x.2.1!=U x.2.1)=af:=by simp
   rw[if_neg (by rw[E];simp)]
   haveI c:(r.filter λy=>U x.2.1!=U y.2.1)=r:=s6.mpr λy d=>by haveI:y.2.1≠x.2.1:=λe=>aB.1 (e▸hc d);simp[bne_iff_ne];lia
   rw[c];show(wg).trans (GZ _)
  .haveI f:x.2.1≠y.2.1:=λe=>aB.1 (e▸hc h);rw[mG,if_pos (by simp[bne_iff_ne];lia),z7]
   show(i aB.2 h).cons y
def wV(lv:List (Int×Nat×ar)):(lv.filter λx=>(aa:Option Nat)!=U x.2.1)=lv:=s6.mpr λx J=>by simp
def cY.jz{live:aP}{lv:List (Int×Nat×ar)}(h:cY ah live lv){j:Nat}(e:C.pu j live=ae){q:ar×ar}(d:br ah j q):∃y∈lv,y.2.1=j/\y.2.2=q.1:=by show x12 (h.has.mp e) λy c o=>?_;k_lt o;show x12 (h.cQ c) λQ f E=>⟨y,c,rfl,E.trans (congrArg _ (f.fn d))⟩
noncomputable def fG(am:List ce)(lv:List (Int×Nat×ar)):List (Int×aj):=am.map (λq=>(q.n, .ref q.b))++lv.map λx=>(x.1, .ref x.2.2)
def I1(am:List ce)(lv:List (Int×Nat×ar)):(fG am lv).map (·.1)=am.map (·.n)++lv.map (·.1):=by rw[fG,hD,iT,iT];rfl
def I2(am:List ce)(lv:List (Int×Nat×ar)):(fG am lv).map (·.2)=am.map (λq=> .ref q.b)++lv.map λx=> .ref x.2.2:=by rw[fG,hD,iT,iT];rfl
def I3{am:List ce}{lv:List (Int×Nat×ar)}{k:Int}{a:aj}:(k,a)∈fG am lv↔(∃q∈am,q.n=k/\a= .ref q.b)\/(∃x∈lv,x.1=k/\a= .ref x.2.2):=by
 rw[fG,mI,dy,dy];haveI e:∀{n:Int} {b:aj},(n,b)=(k,a)↔n=k/\a=b:=⟨λq=>⟨congrArg BA q,(congrArg Xe q).symm⟩,λq=>by rw[q.1,q.2]⟩
 show⟨λh=>h.imp (λaD=>aD.casesOn λq aD=>aD.casesOn λm r=>⟨q,m,e.mp r⟩) λaD=>aD.casesOn λq aD=>aD.casesOn λm r=>⟨q,m,e.mp r⟩,λh=>h.imp (λaD=>aD.casesOn λq aD=>aD.casesOn λm r=>⟨q,m,e.mpr r⟩) λaD=>aD.casesOn λq aD=>aD.casesOn λm r=>⟨q,m,e.mpr r⟩⟩
section
variable{am dI:List ce}{lv lg:List (Int×Nat×ar)}(pm:(fG am lv).Perm (fG dI lg))
include pm
def Bj(h:(am.map (·.n)++lv.map (·.1)).Nodup):(dI.map (·.n)++lg.map (·.1)).Nodup:=I1 dI lg▸(pm.map _).nodup_iff.mp (I1 am lv▸h)
def Bk{f:Int->Option aj}(h:∀k a,f k=U a↔(∃q∈am,q.n=k/\a= .ref q.b)\/(∃x∈lv,x.1=k/\a= .ref x.2.2))(k:Int)(a:aj):f k=U a↔(∃q∈dI,q.n=k/\a= .ref q.b)\/(∃x∈lg,x.1=k/\a= .ref x.2.2):=(h k a).trans (I3.symm.trans (pm.mem_iff.trans I3))
def A1{ws:List aj}(h:ws.Perm (am.map (λq=> .ref q.b)++(lv.filter λx=>(aa:Option Nat)!=U x.2.1).map λx=> .ref x.2.2)):ws.Perm (dI.map (λq=> .ref q.b)++(lg.filter λx=>(aa:Option Nat)!=U x.2.1).map λx=> .ref x.2.2):=by rw[wV]at h⊢;show h.trans (I2 am lv▸I2 dI lg▸pm.map _)
def Bl{n:Nat}(h:am.length+lv.length<=n):dI.length+lg.length<=n:=by haveI e:=pm.length_eq;rw[fG,fG,fW,fW,dC,dC,dC,dC]at e;show e▸h
end
def UR{am:List ce}{lv lg:List (Int×Nat×ar)}{q:ce}{x:Int×Nat×ar}(pm:(x::lg).Perm lv)(e:(q.n,eU q.b)=(x.1, .ref x.2.2)):(fG am lv).Perm (fG (q::am) lg):=by show((pm.symm.map _).append_left _).trans ?_;rw[fG,gC,gC,e];show GA
def US{bQ cn:List ce}{q:ce}{lv:List (Int×Nat×ar)}(j:Nat):(fG (bQ++q::cn) lv).Perm (fG (bQ++cn) (lv++ [(q.n,j,q.b)])):=by show((GA.map _).append_right _).trans ?_;rw[fG,hD (l₁:=lv),<-jR];show wg (l₁:= [_])
def Hid.size{own:cB}{h:Heap}{i:Nat}{p:ar×ar}{live:aP}{cL:Option Nat}{ch:Option Int}{lk:aP}{row cb:Nat}{pr pl:ar×ar}{am:List ce}{lv:List (Int×Nat×ar)}{f fl:Int->Option aj}{ws:Array aj}{wn:Nat}
 (H:Hid u ah own h i p live cL ch lk row cb pr pl am lv f fl ws wn):ws.size<=16:=by
 haveI e:=H.perm.length_eq;rw[fW,dC,dC,eo]at e;haveI c:=FS (λx:Int×Nat×ar=>cL !=U x.2.1) lv;show c7 (hi e) (c7 (s1 c _) H.cnt.1)
def UT(R:Rel u c Y L s){i:Nat}{v:a3}{w x:aj}(hw:az u Y.ah (.ref i) w)(dY:az u Y.ah v x):ai u c A (ci u c) Y (bv (.builtin "list.append") [w,x]) s (C.LJ i v L):=by
 obtain⟨p,iH,rfl⟩:=hw;show .cJ (λl q=> .dA λbb=> .any ?_) (.om λd agX=> .eW λlive cL ch lk row cb q=> .bE λj e=> .a7 λk fv=> .bV λlC=> .bV λiL=> .bV λlE=> .any ?_)
 .obtain⟨ws,n,g,al,qx⟩:=R.at iH q;rw[C.eA]at bb;have hz:=j4 al;show PN ⟨n,g.g⟩ (λag gj am=>?_) (hsz:=by have:=ez;lia)
  show x11 gj λdM gj=>bg.put (R.j9 (tk:=s.toks) (jq q nofun) iH g.w am gj ⟨_,dM,⟨g.w,gj⟩,?_,?_⟩)
  .rw[C.mX,ww];show al.append (.cons dY .nil)
  .rw[C.mX,fW];show bb
 .subst e fv;obtain rfl:=C.bS lC;obtain rfl:=C.bS iL;obtain⟨ct,ES,pr,pl,am,lv,f,fl,ws,wn,H⟩:=rt R q;obtain rfl:=H.cQ.1.fn iH;obtain⟨mB,vD,rfl⟩:=dY;show x13 (H.dV.jz lE vD) λy mA e gi=>?_;have ap:=H.apart;show PN ⟨wn,H.kl⟩ (λag gj dI=>?_) (hsz:=by have:=ez;have:=H.size;lia)
  show x11 gj λdM gj=>?_;have fw:∀b o,b≠pr.1->s.heap.get? b=U o->ag.get? b=U o:=λb o cD e=>(dI.2 b cD).trans e;show bg.put (R.j9 (tk:=s.toks) (jq q nofun) ES H.own.2.1 dI gj ⟨pr,pl,am,lv,f,fl,_,dM,H.own,H.cQ,H.aB,H.jw.keep λo=>fw _ o ap.pr,H.kj.keep λo=>fw _ o (cX ap.oV),gj,λsM vE=>(H.i4 sM vE).keep λa o d7=>fw a o (ap.cD sM vE a d7).2.1,H.hW,H.dV,H.num,H.g0,H.fin,?_,⟨H.cnt.1,nofun⟩,H.fresh,H.oK⟩)
  rw[wV,ww];show(H.perm.append_right _).trans ?_;rw[jR];show P0 _ ?_;have:=(Hv H.g0.1 mA).map λx:Int×Nat×ar=>eU x.2.2;rw[hD,gC,S1,e,gi]at this;show this
def HW{α:Type}:∀{l:List α} {k:Nat} (h:k<l.length),(l[k]::l.eraseIdx k).Perm l:=by
 intro x;cases x with
 |nil=>intro J h;show nomatch h
 |cons a r i=>
  intro y h;cases(y)with
  |zero=>show .refl _
  |succ k=>rw[List.getElem_cons_succ,List.eraseIdx_cons_succ];show(RV ..).trans ((i (by simpa using h)).cons a)
def Wd{l:List aj}{x:aj}(h:x∈l):∃j,∃H:j<l.length,l[j]=x/\∀m (c:m<l.length),m<j->l[m]≠x:=by
 cases l with
 |nil=>cases h
 |cons y r i=>
  by_cases e:y=x
  .show⟨0,by simp,by simpa using e,λm c h=>absurd h (z_ _)⟩
  .haveI ag:x∈r:=(bX.mp h).resolve_left (cX e);obtain⟨j,H,d,f⟩:=i ag;show⟨j+1,by simpa using H,by simpa using d,λm c h=>?_⟩
   cases m with
   |zero=>simpa using e
   |succ m=>simpa using f m (by simpa using c) (by omega)
def SF{h:cS}{n:Int}{j:Nat}{r:aP}:C.xp h (.cons n (.ref j) r)=C.gF (h.get j) (λJ J=>C.xp h r) af:=rfl
def T3(R:Rel u c Y L s){live:aP}{lv:List (Int×Nat×ar)}(h:cY Y.ah live lv)(e:C.xp L.h live=ae):∀x∈lv,∃k d,gZ k=ae/\s.heap.get? x.2.2=U (j6 (cP k) d):=by
 cases h with
 |nil=>intro x g;cases g
 | @cons n j q r l i t I=>
  revert e;rw[SF];show C.kU (P:=(·=ae->_)) (λk f Q e x g=>?_) nofun
  show a8 (bX.mp g) (λo=>?_) λg=>?_
  .k_lt o;obtain⟨es,n,m,p,a,b,r⟩:=R.at i Q;show⟨k,q.2,m,a.g⟩
  .show I e x g
def We(ik:gZ G.b0.kS=ae)(R:Rel u c Y L s)(ac:Act c A sc n){i:Nat}{v:a3}{w x:aj}(hw:az u Y.ah (.ref i) w)(dY:az u Y.ah v x):ai u c A (ci u c) Y (bv (.builtin "list.remove") [w,x]) s (C.M7 i v L):=by
 obtain⟨p,iH,rfl⟩:=hw;show .om λd agX=> .eW λlive cL ch lk row cb q=> .bE λj e=> .bs (λfv=> .bV λiL=> .bV λlC=> .bV λlE=> .any ?_) λJ J=> .stuck;subst e fv;obtain rfl:=C.bS iL;obtain⟨ct,ES,pr,pl,am,lv,f,fl,ws,wn,H⟩:=rt R q;obtain rfl:=H.cQ.1.fn iH;obtain⟨mB,vD,rfl⟩:=dY;show x13 (H.dV.jz lC vD) λy mA e gi=>?_;haveI ap:=H.apart;haveI bK:=H.perm;rw[wV]at bK;haveI hz:=H.size;haveI adX:eU mB.1∈ws.toList:=bK.mem_iff.mpr (wf _ (dy.mpr ⟨y,mA,by rw[gi]⟩))
 obtain⟨k,g6,bb,bM⟩:=Wd adX;haveI al:=T3 R H.dV lE;haveI inst:∀v∈ws.toList,∃k d a,v= .ref a/\gZ k=ae/\s.heap.get? a=U (j6 (cP k) d):=λv dY=>by
  show a8 (mI.mp (bK.mem_iff.mp dY)) (λdY=>?_) λdY=>?_
  .show x12 (dy.mp dY) λb cD cv=>?_;k_lt cv;obtain⟨J,J,g,J⟩:=H.i4 b cD;show⟨_,_,_,rfl,ik,g⟩
  .show x12 (dy.mp dY) λb cD cv=>?_;k_lt cv;show x22 (al b cD) λk d cz f_=>⟨k,d,_,rfl,cz,f_⟩
 show x22 (al y mA) λai3 ai4 afE Fn=>?_;rw[gi]at Fn;haveI OC:k<ws.size:=by rw[<-eo];show g6
 show R_ (A:=A) pr.1 ws wn (.ref mB.1) (λv=>decide (v= .ref mB.1)) (λv dY=>?_) k OC ?_ (λm hm afF=>?_) (by haveI:=ez;omega) H.kl ?_
 .show x33 (inst v (F0.mpr dY)) λk d a cv cz f_=>?_;k_lt cv;haveI:=Wc (A:=A.in1) R cz afE f_ Fn (by haveI:=ac.cl;change A.units+1<pY;show jQ (s1 (by x_go) _) ac.cl)
  rw[show decide (eU a=eU mB.1)=decide (a=mB.1) by simp]
  show this
 .rw[decide_eq_true_eq,<-Qf];show bb
 .rw[decide_eq_false_iff_not,<-Qf];show bM m (by rw[eo];show hm) afF
 .haveI za:fA pr.1 s.heap (s.heap.update pr.1 (o9 λxs=>xs.eraseIdxIfInBounds k)):=s5 ..;haveI gj:=lG (o9 λxs=>xs.eraseIdxIfInBounds k) H.kl rfl;haveI fw:∀b o,b≠pr.1->s.heap.get? b=U o->(s.heap.update pr.1 (o9 λxs=>xs.eraseIdxIfInBounds k)).get? b=U o:=λb o cD e=>(za.2 b cD).trans e;haveI cN:=H.cnt.1;show bg.put (R.j9 (tk:=s.toks) (jq q nofun) ES H.own.2.1 za gj ⟨pr,pl,am,lv,f,fl,_,_,H.own,H.cQ,H.aB,H.jw.keep λo=>fw _ o ap.pr,H.kj.keep λo=>fw _ o (cX ap.oV),gj,λsM vE=>(H.i4 sM vE).keep λa o d7=>fw a o (ap.cD sM vE a d7).2.1,H.hW,H.dV,H.num,H.g0,H.fin,?_,⟨cN,λagY=>?_⟩,H.fresh,H.oK⟩)
  .haveI fu:(ws.eraseIdxIfInBounds k).toList=ws.toList.eraseIdx k:=by delta Array.eraseIdxIfInBounds;rw[dif_pos OC];simp
   rw[fu];haveI jj:=(Hv H.g0.1 mA).map λx:Int×Nat×ar=>eU x.2.2;rw[hD,gC,S1,e,gi]at jj;haveI bh:(ws.toList.eraseIdx k++ [eU mB.1]).Perm ws.toList:=by haveI:=wg (l₁:=ws.toList.eraseIdx k) (l₂:= [eU mB.1]);show this.trans ?_;haveI cz:=HW g6;rw[bb]at cz;show cz
   haveI bz:=bh.trans (bK.trans (P0 _ jj.symm));rw[<-jR]at bz;show(List.perm_append_right_iff _).mp bz
  .cases agY;show absurd e (H.g0.2 y mA)
variable{bA:Type}{P:gR bA}{r:a3->aj->Prop}{as:List a3}{ws:List aj}
def ai.au{f:List aj->Sem bA}{k:a3->bl}(d:bI r as ws)(h:∀a x,r a x->ai u c A P Y (f [x]) s (k a)):ai u c A P Y (f ws) s (C.bQ as k):=by
 cases d with
 |nil=>show .stuck
 |cons a t=>cases t with
  |nil=>show h _ _ a
  |cons=>show .stuck
def ai.aR{f:List aj->Sem bA}{k:bl}(d:bI r as ws)(h:ai u c A P Y (f []) s k):ai u c A P Y (f ws) s (C.sw as k):=by
 cases d with
 |nil=>show h
 |cons=>show .stuck
def ai.ak{f:List aj->Sem bA}{k:a3->a3->bl}(d:bI r as ws)(h:∀a x b y,r a x->r b y->ai u c A P Y (f [x,y]) s (k a b)):ai u c A P Y (f ws) s (C.cn as k):=by
 cases d with
 |nil=>show .stuck
 |cons a t=>show .au (f:=λws=>f (_::ws)) t λb y g=>h _ _ b y a g
def UU(ik:gZ G.b0.kS=ae):xS u n:=λc Y L s A sc v w b t as ws R ac dY oO jN call=>by
 cases t with
 |fn k=>show absurd rfl (jN k)
 |mn=>
  show .bE λi e=>?_;k_lt e;cases b with
  |append=>show .au (f:=λws=>bv (.builtin "list.append") (w::ws)) oO λa x en=>UT R dY en
  |remove=>show .au (f:=λws=>bv (.builtin "list.remove") (w::ws)) oO λa x en=>We ik R ac dY en
  |_=>show .stuck
 |oS=>
  show .bE λi e=>?_;k_lt e;cases b with
  |append=>show .au (f:=λws=>bv (.builtin "bytearray.append") (w::ws)) oO λa x en=>UO R dY en
  |extend=>show .au (f:=λws=>bv (.builtin "bytearray.extend") (w::ws)) oO λa x en=>Wa R dY en
  |_=>show .stuck
 |sv=>
  show .bE λi e=>?_;k_lt e;cases b with
  |get=>
   cases oO with
   |nil=>show .stuck
   |cons a t=>
    cases t with
    |nil=>show UP R dY a
    |cons b t=>show .aR (f:=λws=>bv (.builtin "dict.get") (w::_::_::ws)) t (UQ R dY a b)
  |_=>show .stuck
end
end
section
open PySem.SeqAt
def mT:k1 n i=U k->IE i n=U k/\k<n/\ -(n:Int)<=i/\i<n/\((0<=i/\i.toNat=k)\/(i<0/\(i+n).toNat=k)):=by
 cases i with
 |ofNat j=>intro h;show x02 (C.db h) λq h=>?_;haveI c:=C.df q;show bY h▸⟨PySem.seqIndex_of (iP j) (tn.mpr c),c,jW (Int.neg_nonpos_of_nonneg (iP n)) (iP j),tn.mpr c, .inl ⟨iP j,rfl⟩⟩
 |negSucc j=>intro h;show x02 (C.db h) λq h=>?_;haveI c:=C.df q;haveI e:=Mine.MS c;haveI l: -(n:Int)<=lO j:=Int.neg_le_neg (Au.mpr c);haveI E:(lO j+n).toNat=n - 1 - j:=congrArg tD e;show bY h▸⟨(PySem.seqIndex_neg (qH j) l).trans (congrArg U E),jQ (qY ..) (Nat.sub_lt (jQ (gD j) c) Tx),l,Int.lt_of_lt_of_le (qH j) (iP n), .inr ⟨qH j,E⟩⟩
def xE(hz:n<=5000)(h:k1 n i=U k):nM i=ae:=by show x05 (mT h) λJ f d c g=>?_;delta nM;simp;lia
def Wf(n:Nat)(lo:Option Int):dg n 0 lo<=n:=Bh (gD n) lo
def ra(n:Nat)(i:Option Int)(d:Nat):js n i d=dg n d i:=by
 cases i with
 |none=>rfl
 |some i=>
  cases i with
  |ofNat k=>
   change C.aA (bw k n) k n=(max 0 (min (if((k:Nat):Int)<0 then(k:Int)+n else(k:Int)) n)).toNat
   rw[if_neg (w2.mpr (iP k)),Mine.CB];show C.l3 (P:=(·=_)) (λq=>?_) λq=>?_
   .show(td (fk (C.df q))).symm
   .show(QU (by haveI:=C.ua q;omega)).symm
  |negSucc k=>
   change C.aA (bw k n) (j5 (j5 n 1) k) 0=(max 0 (min (if lO k<0 then lO k+n else lO k) n)).toNat
   rw[if_pos (qH k)];show C.l3 (P:=(·=_)) (λq=>?_) λq=>?_
   .rw[Mine.MS (C.df q),Mine.CB,td (c7 (qY ..) (qY ..))];rfl
   .show(Mine.abn (by haveI:=C.ua q;omega)).symm
def I4(h:C.CF l i=U v):∃k,k1 l.length i=U k/\l[k]? =U v:=by show x12 (C.eV h) λk d c=>⟨k,C.eA l▸d,(C.hq l k).symm.trans c⟩
section
def rv(d:k=u.bJ)(h:la v k=U o)(c:az u ah v w):k0 w o:=by
 k_lt d;revert h;show C.n2 (P:=(·=U o->_)) (λe h=>?_) λh=>?_
 .k_lt e;cases h;cases c;show .none
 .show x12 (C.mW h) λi e O=>?_;k_lt O;show x11 (lU c e) λt O=>?_;k_lt O;show .int i t
def nX(h:C.gY v=af)(j k:Nat):la v j=la v k:=by delta la;rw[C.w5 h j k]
def ck.afG{a:Array UInt8}{lo c:Option Int}(h:C.MZ y lo c=U r)(k:ck u y a):ck u r (a.extract (dg a.size 0 lo) (dg a.size a.size c)):=by
 have h:=(C.eX _ λp=>C.du (j5 (js y.n c y.n) p) λm=>C.lx m (C.eu y.x p m)).symm.trans h;have h:=(C.eX _ λm=>C.lx m (C.eu y.x (js y.n lo 0) m)).symm.trans h;cases(C.pK _ _).symm.trans h;rw[ra,ra,k.1];have f:=rm y.n c;have d:=Wf y.n lo;have e:a.extract (dg y.n 0 lo) (dg y.n y.n c)=a.extract (dg y.n 0 lo) (dg y.n 0 lo+(dg y.n y.n c - dg y.n 0 lo)):=by apply qW;rw[zQ,zQ,zH,zH];show congrArg (λn=>xd n _) (kG ..).symm
 rw[e];show k.eu (aeC d f)
inductive adY(u:bf)(r:a3)(a:Array UInt8)(wl Fo:aj):Prop where
 |mk (lo dd:Option Int) (qx:k0 wl lo) (bZ:k0 Fo dd) (h:dK u r (a.extract (dg a.size 0 lo) (dg a.size a.size dd)))
def BO(h:C.yq a b d=af):C.gY a=af/\C.gY b=af/\C.gY d=af:=by
 unfold C.yq at h;cases q:C.gY a with
 |true=>rw[q]at h;cases h
 |false=>rw[q]at h;show⟨rfl,C.mY h⟩
def JY(T:eQ u){b r lo c:a3}(h:C.Do u.ao.F b lo c=U r)(B:dK u b a)(f:az u ah lo F)(bZ:az u ah c H):adY u r a F H:=by
 show x12 (pO h T.len λh=>by obtain⟨g,j,i⟩:=BO h;rw[C.pa g 0 u.bJ,nX j 0 u.bJ,nX i 0 u.bJ]) λx e q=>?_
 show x12 (C.eV e) λy E e=>x12 (C.eV e) λp d e=>?_;show x12 (C.eV e) λz k e=>⟨p,z,rv rfl d f,rv rfl k bZ, .nd q ((rs B E).afG e)⟩
def ck.set{a d:Array UInt8}{lo c:Option Int}(h:C.M0 b lo c y=U r)(k:ck u b a)(cV:ck u y d):
 d.size=max (dg a.size 0 lo) (dg a.size a.size c) - dg a.size 0 lo/\ck u r (tL a d lo c):=by
 have h:=(C.eX _ λp=>C.cx (aK (js b.n c b.n) (fN p y.n)) (C.lx b.n (C.pH b.x p y.n y.x))).symm.trans h;show x02 (C.db h) λg h=>?_;cases(C.pK _ _).symm.trans h;have g:js b.n c b.n=js b.n lo 0+y.n:=C.bS g;rw[ra,ra]at g;delta tL;rw[ra,k.1,cV.1,g,Nat.max_eq_right (gB _ _)];have hz:=k.1;have m:=cV.1;have n:=rm b.n c;generalize dg b.n 0 lo=p at*;generalize dg b.n b.n c=q at*;have j:p+y.n<=b.n:=g▸n;have ek:(a.extract 0 p).size=p:=by rw[s8,Av,hz,td (c7 (gB ..) j)]
 have cI:(a.extract 0 p++d).size=p+y.n:=by rw[wu,ek,m]
 show⟨(kG ..).symm,by rw[wu,cI,s8,hz,Hl,lH j],C.IK k.2.1 cV.2.1 j,λi x e=>?_⟩
 rw[C.H4 cV.2.1];rw[FR]at e;rw[cI]at e;by_cases f:i<p+y.n
 .rw[if_pos f,FR]at e;rw[ek]at e;by_cases l:i<p
  .rw[if_pos l]at e⊢;rw[FM]at e;split at e
   .rw[kN]at e;show k.2.2 i x e
   .cases e
  .rw[if_neg l]at e⊢;rw[if_pos f];show cV.2.2 _ x e
 .rw[if_neg f]at e;rw[if_neg λq=>f (e2 q (gB ..)),if_neg f];rw[FM]at e;split at e
  .rw[lH (d_.mp f)]at e;show k.2.2 i x e
  .cases e
inductive L8(u:bf)(r:a3)(a:Array UInt8)(wl Fo w:aj):Prop where
 |mk (lo dd:Option Int) (d:Array UInt8) (t:Tok) (e:w= .bytes d t) (qx:k0 wl lo) (bZ:k0 Fo dd) (hz:d.size=max (dg a.size 0 lo) (dg a.size a.size dd) - dg a.size 0 lo) (h:dK u r (tL a d lo dd))
def X7(T:eQ u){b r lo g v:a3}(h:C.M1 u.ao.F b lo g v=U r)(B:dK u b a)(k:az u ah lo F)(bZ:az u ah g H)(j:az u ah v w):L8 u r a F H w:=by
 show x12 (pO h T.len λh=>by
  cases q:C.gY v with
  |true=>rw[q]at h;cases h
  |false=>rw[q]at h;show x03 (BO h) λc f l=>?_;rw[C.pa c 0 u.bJ,nX f 0 u.bJ,nX l 0 u.bJ,C.pa q 0 u.bJ]) λx e q=>?_
 show x12 (C.eV e) λy E e=>x12 (C.eV e) λp i e=>?_;show x12 (C.eV e) λz n e=>x12 (C.eV e) λo m e=>?_;obtain⟨d,t,rfl,cV⟩:=ob j m;show x02 ((rs B E).set e cV) λc f=>⟨p,z,d,t,rfl,rv rfl i k,rv rfl n bZ,c, .nd q f⟩
def BP{α:Type}{P:α->Prop}{v:a3}{z:α}{k:Nat->α}(h:∀n,v= .any n->P (k n))(hz:P z):P (C.fS z (λJ=>z) (λJ=>z) (λJ=>z) (λJ=>z) k (λJ=>z) v):=by cases v<;>first |show h _ rfl |show hz
def X8{b r lo c v:a3}{W f w:aj}{a:Array UInt8}(B:dK u b a)(m:az u ah lo W)(bZ:az u ah c f)(l:az u ah v w):C.M2 b lo c v=U r->L8 u r a W f w:=by
 show BP (P:=(·=U r->_)) (λn e h=>?_) nofun
 k_lt e;show x02 (HK h) λo z=>?_;k_lt o;show x02 (HK z) λo x=>?_;k_lt o;show x12 (tR x) λy o s=>?_;k_lt o;show x02 (C.db s) λp g=>?_;cases g;cases m;cases bZ;obtain⟨d,t,rfl,k⟩:=l;haveI hz:a.size=n:=B;haveI k:ck u y d:=k;haveI i:d.size=n:=k.1.trans (C.bS p).symm;show⟨aa,aa,d,t,rfl, .none, .none,?_,?_⟩
 .rw[hz,i];simp only[dg];lia
 .delta tL;rw[hz];haveI E:a.extract 0 0=#[]:=by apply qW;simp
  haveI j:a.extract (max 0 n) n=#[]:=by apply qW;simp
  change dK u (V.aZ y) (a.extract 0 0++d++a.extract (max 0 n) n);rw[E,j,F_,Qu];show k
def JZ(h:C.Dn u.ao.lf b i=U v)(B:dK u b a)(c:az u ah i w):
 ∃j t k x,w= .int j t/\k1 a.size j=U k/\a[k]? =U x/\∀aU,az u ah v (.int (UInt8.toNat x) aU):=by
 show x12 (tR h) λy o h=>?_;k_lt o;show x12 (rk h) λj o h=>?_;k_lt o;show x12 (C.eV h) λk q h=>x11 c λt o=>?_;k_lt o;have B:ck u y a:=B;show x12 (B.get (mT q).2.1) λx e d=>⟨j,t,k,x,rfl,B.1.symm▸q,e,λaU=>JI aU h d⟩
end
def Hh(items:Array aj)(lo c:Option Int):slicePick items lo c aa=((items.toList.take (dg items.size items.size c)).drop (dg items.size 0 lo)).toArray:=by
 delta slicePick;rw[z3];generalize i:dg items.size 0 lo=x;generalize f:dg items.size items.size c=y;haveI g:y<=items.size:=f▸rm _ _;dsimp only;delta Q1;simp only[KX x y,gN];rw[KY,Qz];congr 1;by_cases d:x<=y
 .haveI:=HT items.toList x (y - x) (by rw[eo,lH d];show g)
  rw[<-List.drop_take]at this;rw[<-this];congr 1;funext k;simp
 .haveI q:=Q2 d;rw[sX q,Rn,zW,List.drop_eq_nil_of_le];rw[tc];show c7 (GO ..) q
def pe(e:aT):Bool:=eR e 26
def UV(h:pe i=af)(o w:aj):subscripted i af o w=operate [o,w] (B4 o w):=by cases i<;>first |rfl |cases h
section
variable{c:aV}{s:ax}{A:b2}{E:aj->ax->Prop}{n:Nat}
def tB(g:pe slice=af)(h:ItemOn u.M A E o i Q s):aQ u.M A (As value slice o i) Q E s:=by show x23 h λT id j c f=>aw (aw (hh c j (aY ?_)));rw[UV g];show aw (Rr (hk f (λr S d=>aw (FY (aY d))) λJ J x=>x))
def w1{v:aT}{lo d:Option aT}{ft:Pos}{o i:aj}{Q:aj->ax->Prop}(h:ItemOn u.M A E o i Q s):aQ u.M A (As v (.Slice lo d aa ft) o i) Q E s:=by show x23 h λT id f c j=>aw (aw (hh c f (aY ?_)));show aw (Rr (hk j (λr S g=>aw (FY (aY g))) λJ J x=>x))
def Rd(f:s.heap.IsList l items)(hz:items.size<=5000)
 (h:k1 items.size i=U k)(d:items[k]? =U x)(c:Q x s):aQ u.M A (B4 (.ref l) (.int i t)) Q E s:=by
 show x05 (mT h) λJ n g m j=>a8 j (λo=>?_) λO=>?_
 .show x02 o λa b=>?_;show wpAny_getItem_list f a (by lia) (by rw[b];show d) c
 .show x02 O λa b=>?_;show wpAny_getItem_list_neg f a g (by lia) (by rw[b];show d) c
def UW(R:Rel u c Y L s)(K:pe slice=af)(T:az u Y.ah v w)(ac:az u Y.ah i x):ai u c A (ci u c) Y (As value slice w x) s (C.KD u.ao v i L):=by
 show .bE (λk e=>?_) (.bV λQ=> .c1 λr m=> .any (tB K ?_))
 .k_lt e;obtain⟨p,O,rfl⟩:=T;show .cJ (λl q=> .b6 λi e=> .c1 λr m=> .any (tB K ?_)) (.i0 (λl q=> .b6 λi e=> .c1 λr m=> .any (tB K ?_)) (.fQ (λb q=> .bV λQ=> .c1 λr m=> .any (tB K ?_))
   (.e_ λl q=> .b6 λi e=> .a7 λv' m=>C.iX (P:=ai u c A (ci u c) Y _ s) (λJ J=> .stuck) λV=> .any (tB K ?_))))
  .k_lt e;show x11 ac λt o=>?_;k_lt o;obtain⟨ws,n,g,I,X⟩:=R.at O q;show x12 (I4 m) λk d z=>?_;haveI hz:=j4 I;show x12 (I.get z) λy D aI=>?_;haveI S:s.heap.IsList p.1 ws:=⟨_,g.g,rfl,_,rfl⟩;show⟨"list",_,Gl.lookup,S.typeIs,Rd S (by lia) (by rw[hz];show d) (by rw[<-iO];show D) (bg.here R aI)⟩
  .k_lt e;show x11 ac λt o=>?_;k_lt o;obtain⟨ws,n,g,I,X⟩:=R.at O q;show x12 (I4 m) λk d z=>?_;haveI hz:=j4 I;show x12 (I.get z) λy D aI=>?_;haveI it:Dc s.heap p.1 ws:=⟨_,g.g,rfl,_,rfl⟩;show x05 (mT d) λB N aq bN J=>⟨"tuple",_,slot_tuple_getitem.lookup,it.typeIs,ahL it (by lia) (by lia) (by rw[hz];show B) (by rw[<-iO];show D) (bg.here R aI)⟩
  .show x13 ((R.at O q).mf) λa W g E=>x44 (JZ m E ac) λj aU k y o d z B=>?_;k_lt o;show⟨"bytearray",_,qM.lookup,g.ty,TU g (xE (m2 Q E) d) (by rw[(mT d).1];show z) (bg.here (R.toks _) (B _))⟩
  .k_lt e;show x11 ac λt o=>?_;k_lt o;obtain⟨f,W,F,H⟩:=R.at O q;show x12 (H.at m V) λy D aI=>?_;haveI M:=F.mapOf;show⟨"dict",_,Gm.lookup,M.typeIs,Gc M.typeIs (by x_go) Gm (Ay Gm M.typeIs entry_dict_getitem (args_dict_getitem _ _)
    (meets_dict_getitem (hr u.prog u.w) p.1 (qX u.prog u.w i t)) ⟨f,y,M,D,bg.here (R.toks _) aI⟩)⟩
 .show x12 (tR m) λy o d=>?_;k_lt o;obtain⟨a,t,rfl,E⟩:=T;show x44 (JZ m E ac) λj aU k y o d z B=>?_;k_lt o;show⟨"bytes",_,zO.lookup,tp _ _ _,getItem_gives (tp _ _ _) (by x_go) zO PU (PO _ _)
   (gives_bytes_getitem a j t aU y (xE (m2 Q E) d) (by rw[(mT d).1];show z)) (bg.here (R.toks _) (B _))⟩
def X9(x:pe i=af)(m:b4 u sc n call a f)(l:b4 u sc n call i g):b4 u sc n call (.Subscript a i p) (C.hSub u.ao f g):=λc Y L s A R ac=>by show .dD (m c Y L s A R ac) λv w k o j S r=> .dD (.gS (l c k o j A S.R ac)) λV W bp bn a5 d t=> .dm (UW d.R x (r.bR d.le) t)
def bg.J0{ag:Heap}{b7:Obj}{a4:O}{tk:Nat}{a:ar}(R:Rel u c Y L s)(i:s.heap.get? a=aa)(k:∀b o,s.heap.get? b=U o->ag.get? b=U o)(g:ag.get? a=U b7)
 (d:dk u (Y.ah++ [(a,a)]) (ic Y.own a L.nx) ag L.nx (a,a) a4):bg u c Y (L.alloc a4 .ok) (.ref a) {s with heap:=ag,toks:=tk}:=by
 haveI f:=R.fresh i;rw[C.gE];show⟨⟨Y.ah++ [(a,a)],ic Y.own a L.nx⟩,⟨eS _ _,R.yJ ⟨λb o J J e=>k b o e,λm ⟨o,es,ep,e,r⟩=>⟨o,es,ep,k _ o e,r⟩⟩ (λb=>?_) d⟩,R.n4⟩;by_cases q:b=a
 .w_pre q;show .inr ⟨gO,f.1,f.2.1,_,g⟩
 .show .inl (if_neg q)
def bg.lY(R:Rel u c Y L s)(k:∀b o,s.heap.get? b=U o->ag.get? b=U o)(g:ag.get? s.heap.objs.size=U b7)
 (d:dk u (Y.ah++ [(s.heap.objs.size,s.heap.objs.size)]) (ic Y.own s.heap.objs.size L.nx) ag L.nx (s.heap.objs.size,s.heap.objs.size) a4):
 bg u c Y (L.alloc a4 .ok) (.ref s.heap.objs.size) {s with heap:=ag,toks:=tk}:=bg.J0 R (iu _) k g d
def km.new(g:h.get? a=U ⟨.type cls,aa, .seq ws m,#[]⟩)(A:bI (az u ah) l ws.toList)(hz:l.length<=5000):km u (ah++ [p]) (ic own a i) h i (a,a) cls l:=⟨ws,m,⟨gO,g⟩,A.up,hz⟩
def Wg(R:Rel u c Y L s){X:aT}{l h:Option aT}{ft:Pos}{v lo i:a3}{w W Q:aj}{S:ar}(P:az u Y.ah v w)(j:az u Y.ah lo W)(bZ:az u Y.ah i Q)(am:s.heap.IsSliceOf S W Q .none):
 ai u c A (ci u c) Y (As X (.Slice l h aa ft) w (.ref S)) s (C.slice u.ao v lo i L):=by
 haveI N:=ez;show .bE (λk e=>?_) (.bV λd=> .c1 λr f=> .any (w1 ?_))
 .w_pre e;obtain⟨p,I,rfl⟩:=P;show .cJ (λl q=> .a7 λr f=> .dA λd=> .any (w1 ?_)) (.fQ λb q=> .bV λd=> .a7 λr f=> .any (w1 ?_))
  .obtain⟨ws,n,g,T,aq⟩:=R.at I q;show x12 (C.eV f) λaI E m=>x12 (C.eV m) λO M V=>?_;show x02 (C.db V) λac H=>?_;cases H;haveI D:C.i1 lo i=af:=by
    cases q:C.i1 lo i with
    |true=>rw[q]at ac;cases ac
    |false=>rfl
   rw[nX (C.mY D).1 0 u.bJ]at E;rw[nX (C.mY D).2 0 u.bJ]at M;haveI hz:=j4 T;haveI K:s.heap.IsList p.1 ws:=⟨_,g.g,rfl,_,rfl⟩;show⟨"list",_,Gl.lookup,K.typeIs,PI K am (rv rfl E j) (rv rfl M bZ) .none nofun ?_ (hsz:=by omega)⟩
   rw[Hh,hz];simp only[C.q7,C.tG,ra,C.eA]at d⊢;show bg.lY (tk:=s.toks) R (λb o e=>c2 _ e) (er _ rfl) (km.new (er _ rfl) (by rw[wo];show(T.take _).drop _) (fk d))
  .show x13 ((R.at I q).mf) λa F g B=>?_;obtain⟨aI,O,bh,bz,z⟩:=JY R.st f B j bZ;haveI hz:=m2 d B;show⟨"bytearray",_,qM.lookup,g.ty,V9 g bh bz am (by omega) (bg.lY (tk:=s.toks) R (λb o e=>c2 _ e) (er _ rfl) (dW.or ⟨_,er _ rfl⟩ gO z))⟩
 .show x12 (pO f R.st.len λh=>by obtain⟨d,f,m⟩:=BO h;rw[C.pa d 0 u.bJ,nX f 0 u.bJ,nX m 0 u.bJ]) λx e q=>?_
  show x12 (C.eV e) λy E e=>?_;obtain⟨a,t,rfl,B⟩:=ob P E;haveI B:=dK.nd E B;obtain⟨aI,O,bh,bz,z⟩:=JY R.st f B j bZ;haveI hz:=m2 d B;show⟨"bytes",_,zO.lookup,tp _ _ _,getItem_meets (tp _ _ _) (by x_go) zO PU (PO _ _) (KBc.meets_slice2 a t S bh bz) ⟨am,?_,λaU k=>?_⟩⟩
  .rw[GX,s8];show c7 (qY ..) (c7 (Gx ..) (c7 hz (by rw[ez];x_go)))
  .rw[GX];show bg.here (R.toks _) (.rX z)
def k8(u:bf)(sc:bW)(n:Nat)(call:d8)(e:Option aT)(f:cw):Prop:=∀c Y L s A,Rel u c Y L s->Act c A sc n->ai u c A (ci u c) Y (valueOrNone (evalOpt e c.env)) s (f [] call L)
def UX:k8 u sc n call aa (C.dq .none):=λc Y L s A R ac=> .pure (bg.here (v:= .none) R rfl)
def UY(h:b4 u sc n call e f):k8 u sc n call (U e) f:=h
def AO{bA:Type}{P:gR bA}{lo d:Option aT}{ft:Pos}{g h:cw}{K:a3->a3->bU->bl}{F:aj->Sem bA}(l:k8 u sc n call lo g)(bZ:k8 u sc n call d h)(R:Rel u c Y L s)(ac:Act c A sc n)
 (i:∀x y N q bN aq H bD,ec u c Y q N H->az u q.ah x bN->az u q.ah y aq->H.heap.IsSliceOf bD bN aq .none->ai u c A P q (F (.ref bD)) H (K x y N)):
 ai u c A (L1 P u c A F) Y (b5 (.Slice lo d aa ft) c.env) s ((g [] call L).bind λx L=>(h [] call L).bind λy L=>K x y L):=by
 show .dD (l c Y L s A R ac) λx bN q N H f m=> .dD (.gS (bZ c q N H A f.R ac)) λy aq bp bn a5 S k=> .LY (.step (λQ=>aY) λj=>bo ?_);show ip ?_ (by haveI:=ez;change 3<=fY+2;lia)
 show i x y bn bp bN aq _ _ ⟨f.le.trans S.le,S.R.all (tk:=a5.toks) λb o e=>c2 _ e⟩ (m.bR S.le) k (aie _ _ _ _) j
end
end
section
open PySem.SeqAt
variable{c:aV}{s:ax}{A:b2}{E:aj->ax->Prop}{n:Nat}
def ck.adZ{y:dE}{k:Nat}{a:Array UInt8}{d:Nat}{b:UInt8}(h:ck u y a)(c:k<y.n)(D:kA u d b)(dG:d<1024):ck u ⟨y.n,C.pH y.x k 1 d⟩ (a.setIfInBounds k b):=by
 have g:d<1024^1:=by rw[ts];show dG
 show⟨PH.trans h.1,C.IK h.2.1 g (show k+1<=y.n from c),λi x e=>?_⟩;rw[C.H4 g];rw[Array.getElem?_setIfInBounds]at e;by_cases q:k=i
 .k_lt q;rw[if_pos rfl,if_pos (by rw[h.1];show c)]at e
  cases e;rw[if_neg (h3 _),if_pos (jm _),tm,C.j3,nR,nS,o1 dG];show D
 .rw[if_neg q]at e;have:=h.2.2 i x e;by_cases f:i<k
  .rw[if_pos f];show this
  .rw[if_neg f,if_neg (by lia)];show this
def Bm(R:Rel u c Y L s){a:ar}{l:aP}{f:Int->Option aj}{j:Int}{t:Tok}{y:aj}{Q:Unit->ax->Prop}{m:Nat}(D:L7 u s.heap a f m)(i:m<=5000)
 (h:∀ag tk,fq u ag a (λx=>if x=j then U y else f x)->fA a s.heap ag->Q () {s with heap:=ag,toks:=tk}):aQ u.M A (ps (.ref a) (.int j t) y) Q E s:=by
 obtain⟨kvs,d,hf,aB,hz⟩:=D;show wpAny_setItem_pairs (qX u.prog u.w j t) d (λag g am=>?_) (by haveI:=ez;lia)
 show h ag _ (fq.of (u:=u) (f:=λx=>if x=j then U y else f x) g λx=>by rw[RH,hf]) am
def X_(R:Rel u c Y L s){k d:Nat}{i v:a3}{p:ar×ar}{x y:aj}(T:br Y.ah k p)(w:az u Y.ah i x)(B:az u Y.ah v y)(z:Nat):ai u c A (g9 u c) Y (ps (.ref p.1) x y) s
 (C.b6 i (λi=>C.eW (L.h.get d) (λlive cL ch lk row cb=>C.a7 (live.get i) z λJ=>C.bV (aK cb k) z (C.dA lk.len (lk.iZ i v λlk=>L.put d (.c3 live cL ch lk row cb) .next))) (.stuck z)) (.stuck z)):=by
 show .b6 λj e=> .eW λlive cL ch lk row cb n=> .a7 λv0 S=> .bV λI=> .dA λM=> .any ?_;w_pre e;show x11 w λt V=>?_;k_lt V;obtain rfl:=C.bS I;obtain⟨ct,O,pr,pl,am,lv,f,fl,ws,wn,H⟩:=rt R n;obtain rfl:=H.cQ.2.fn T;rw[C.aP.pk];have m:=H.apart;show Bm (l:=lk) R (H.kj.ye H.hW) (fk M) λag tk D dI=>x32 (id D) λes ep W ac r=>?_;have K:∀b o,b≠pl.1->s.heap.get? b=U o->ag.get? b=U o:=λb o aI e=>(dI.2 b aI).trans e;show fi.put (R.j9 (jq n nofun) O H.own.2.2.1 dI ac ⟨pr,pl,am,lv,f,_,ws,wn,H.own,H.cQ,H.aB,H.jw.keep λo=>K _ o m.pl,D,K _ _ m.oV H.kl,λQ g=>(H.i4 Q g).keep λa o P=>K a o (m.cD Q g a P).2.2,H.hW.put B,H.dV,H.num,H.g0,H.fin,H.perm,H.cnt,λQ g=>?_,H.oK⟩)
 show x23 (H.dV.get S) λX q J J E=>?_;have:=H.fresh Q g;rw[if_neg (H.acd g E)];show this
def Z2(R:Rel u c Y L s){k:Nat}{i v:a3}{p:ar×ar}{x y:aj}(aI:br Y.ah k p)(z:az u Y.ah i x)(aq:az u Y.ah v y):ai u c A (g9 u c) Y (ps (.ref p.1) x y) s (C.Ju k i v L):=by
 show .eW λlive cL ch lk row cb q=> .a7 λm E=> .a7 λmz F=> .b6 λI M=> .bE λj S=> .bV λD=> .bV λN=> .bs (λO=>?_) λJ J=> .stuck;show C.l3 (P:=ai u c A (g9 u c) Y _ s) (λJ=> .stuck) λlE=> .bV λagZ=> .any ?_;rw[M]at z;rw[S]at aq⊢;rw[E,F,C.bS D,<-C.gQ N]at q;clear E F M S D N;show x11 z λt cv=>?_;k_lt cv;obtain⟨T,vD,rfl⟩:=aq;have X:=C.df agZ;rw[C.aP.pk];obtain⟨pr,pl,am,lv,f,fl,ws,wn,H⟩:=R.at aI q;show x12 H.jw.dictOf λkvs d hf=>?_;have hB:(kvs.map (·.1)).Nodup:=d.casesOn λJ e=>e.casesOn λJ e=>e.casesOn λJ e=>e.2.2.2.2.2;have w:=H.apart;have ac:=H.cnt.2 rfl;have g6:kvs.length<=16:=by
  have:=w8 (m:=am.map (·.n)++lv.map (·.1)) hB λx g=>by
   cases e:f x with
   |none=>show absurd ((hf x).trans e) (Hu g)
   |some a=>show((H.fin _ a).mp e).elim (λaD=>aD.casesOn λQ aD=>aD.casesOn λn aD=>aD.casesOn λE J=>sY _ (E▸hc n)) λaD=>aD.casesOn λx aD=>aD.casesOn λg aD=>aD.casesOn λE J=>wf _ (E▸hc g)
  rw[dC,fW,dC,dC]at this;show c7 this (QO ac)
 show Bm (l:=lk) R ⟨kvs,d,hf,hB,g6⟩ (by lia) λag tk W dI=>x32 (id W) λes ep ad0 gj r=>?_
 have K:∀b o,b≠p.1->s.heap.get? b=U o->ag.get? b=U o:=λb o cD e=>(dI.2 b cD).trans e;have bN:∀x∈lv,x.2.1≠j:=λx g e=>nomatch lE.symm.trans (H.dV.has.mpr ⟨x,g,e⟩);have B:=H.dV.no O;have V:=H.oK I rfl;show fi.put (R.j9 (jq q nofun) aI H.own.1 dI gj ⟨pr,pl,am,lv++ [(I,j,T.1)],_,fl,ws,wn,H.own,H.cQ,H.aB,W,H.kj.keep λo=>K _ o (cX w.pl),K _ _ (cX w.pr) H.kl,λQ n=>(H.i4 Q n).keep λa o bD=>K a o (w.cD Q n a bD).1,H.hW,H.dV.put O vD,?_,⟨?_,xi H.g0.2 (jX X)⟩,X6 H.fin V B,?_,⟨?_,?_⟩,H.fresh,nofun⟩)
 .rw[hD,<-jR];show xD H.num λm=>(mI.mp m).elim (λm=>(dy.mp m).elim λQ y=>V Q y.1 y.2) λm=>(dy.mp m).elim λx y=>B x y.1 y.2
 .rw[hD];show xD H.g0.1 λm=>(dy.mp m).elim λx y=>bN x y.1 y.2
 .have bK:=H.perm;rw[I0 H.g0.2]at bK;rw[QB,I0 bN,show HB (λx:Int×Nat×ar=>U j !=U x.2.1) [(I,j,T.1)]= []from List.filter_cons_of_neg (by rw[bne_self_eq_false];show jl),nO]
  show bK
 .rw[fW];show z6 ac
 .showλe=>absurd (bY e▸X) (h3 _)
def Tn(R:Rel u c Y L s){v i y:a3}{w x X:aj}(bD:az u Y.ah v w)(ac:az u Y.ah i x)(I:az u Y.ah y X):ai u c A (g9 u c) Y (ps w x X) s (C.IH u.ao v i y L):=by
 show .bE λk e=>?_;k_lt e;obtain⟨p,o,rfl⟩:=bD;show .cJ (λl q=> .b6 λj e=> .a7 λa B=> .any ?_) (.e_ (λl q=> .b6 λj e=> .dA λP=> .any ?_) (.fQ (λb q=> .ga λS gi=> .dA λP=> .b6 λj e=> .a7 λa B=> .a7 λd H=> .a7 λz W J=>?_) (.oz (λd q=>X_ R o ac I 63) (Z2 R o ac I))))
 .k_lt e;show x11 ac λt O=>?_;k_lt O;obtain⟨ws,n,g,V,qx⟩:=R.at o q;rw[C.eA]at B;show x05 (mT B) λP B H W K=>?_;haveI hz:=j4 V;haveI aq:fA p.1 s.heap (s.heap.update p.1 (o9 (·.setIfInBounds a X))):=s5 ..;haveI m:=lG (o9 (·.setIfInBounds a X)) g.g rfl;haveI T:fi u c Y (L.put k (.list (C.CD y l a)) .next) {s with heap:=s.heap.update p.1 (o9 (·.setIfInBounds a X))}:=by
   show fi.put (R.j9 (tk:=s.toks) (jq q nofun) o g.w aq m ⟨_,_,⟨g.w,m⟩,?_,?_⟩)
   .rw[Array.toList_setIfInBounds,C.Bc];show V.set I a
   .rw[C.Bc,List.length_set];show qx
  haveI aiQ:=ez;show a8 K (λZ=>?_) λN=>?_
  .show x02 Z λE M=>?_;show ki_setAt g.g E (by lia) (by lia) ?_
   rw[M];show T
  .show x02 N λE M=>?_;show ki_setBack g.g E (by lia) (by lia) ?_
   rw[hz,M];show T
 .k_lt e;show x11 ac λt O=>?_;k_lt O;obtain⟨f,D,ag0,F⟩:=R.at o q;rw[C.aP.pk];show Bm (l:=l) R (ag0.ye F) (fk P) λag tk Q dI=>x32 (id Q) λes ep ad0 m r=>?_;show fi.put (R.j9 (jq q nofun) o D dI m ⟨_,D,Q,F.put I⟩)
 .subst e gi;show x11 ac λt O=>?_;k_lt O;show x13 ((R.at o q).mf) λbN D g aI=>?_;haveI aI:ck u S bN:=aI;show x23 (BG R.st H I) λe0 aU O ag1 dG=>?_;k_lt O;cases(C.pK _ _).symm.trans W;haveI hz:=aI.1;show x03 (mT B) λK E J=>?_;haveI:=e0.toNat_lt;show TV g (xE (n:=S.n) (by lia) B) (by rw[hz];show K) (iP _) (by lia) (by rw[ez];lia) λag m am=>?_
  rw[show(e0.toNat:Int).toNat.toUInt8=e0 by rw[gN];show Gk]at m
  show x11 (id m) λhV g2=>fi.put (R.j9 (tk:=s.toks) (jq q nofun) o D am g2 (m.or D (aI.adZ E ag1 dG)))
def Wh{a i:aT}{p:Pos}{f g:cw}(I:pe i=af)(r:b4 u sc n call a f)(k:b4 u sc n call i g):gU u sc n call (.Subscript a i p) (C.CM u.ao f g):=λc Y L s A v w R ac l=>by showλd=>aF (cO (ai.pN (P:=g9 u c) (r c Y L s A R ac) (λD E o t m j y d=>aF (cO (ai.pN (P:=g9 u c) (k c o t m A j.R ac) (λV W bp bn a5 S z=> .dm λd=>?_) d))) d));show aF (cO (a0 (Tn S.R (y.bR S.le) z (l.bR (j.le.trans S.le)) d) (λJ B x=>kO x) λJ J x=>x))
def To(R:Rel u c Y L s){v lo f y:a3}{w W o x:aj}{S:ar}(E:az u Y.ah v w)(m:az u Y.ah lo W)(bZ:az u Y.ah f o)(n:az u Y.ah y x)(am:s.heap.IsSliceOf S W o .none):
 ai u c A (g9 u c) Y (ps w (.ref S) x) s (C.HG u.ao v lo f y L):=by
 show .bE λk e=> .fQ λb q=> .bV λac=> .bV λJ=> .a7 λz D J=>?_;k_lt e;obtain⟨p,i,rfl⟩:=E;show x13 ((R.at i q).mf) λa j g B=>?_;obtain⟨aI,O,d,t,rfl,bh,bz,hz,k⟩:=(C.lQ D).elim (λh=>X7 R.st h B m bZ n) (X8 B m bZ n);show Ti g bh bz am (by haveI:=m2 ac B;rw[ez];omega) hz λag l r=>x11 (id l) λI g2=>?_
 show fi.put (R.L6 (tk:=s.toks) (jq q nofun) i j r g2 (l.or j k))
def Wi{a:aT}{lo d:Option aT}{ft p:Pos}{f g h:cw}(l:b4 u sc n call a f)(m:k8 u sc n call lo g)(bZ:k8 u sc n call d h):b4 u sc n call (.Subscript a (.Slice lo d aa ft) p) (C.CJ u.ao f g h):=λc Y L s A R ac=>by show .dD (l c Y L s A R ac) λv w z B t S j r=>aF (cO (AO (P:=ci u c) m bZ S.R ac (λx y bn bp E W a5 D i o k am=> .dm (Wg i.R (j.bR i.le) o k am)) r))
def UZ{a:aT}{lo i:Option aT}{ft p:Pos}{f g h:cw}(m:b4 u sc n call a f)(o:k8 u sc n call lo g)(bZ:k8 u sc n call i h):gU u sc n call (.Subscript a (.Slice lo i aa ft) p) (C.B9 u.ao f g h):=λc Y L s A v w R ac k=>by showλd=>aF (cO (ai.pN (P:=g9 u c) (m c Y L s A R ac) (λV E D I B j r d=>aF (cO (AO (P:=g9 u c) o bZ j.R ac (λx y bn bp K W a5 aI S t l am=> .dm λd=>?_) d))) d));show aF (cO (a0 (To S.R (r.bR S.le) t l (k.bR (j.le.trans S.le)) am d) (λJ z x=>kO x) λJ J x=>x))
def Wj(R:Rel u c Y L s){v i:a3}{w x:aj}(I:az u Y.ah v w)(ac:az u Y.ah i x):ai u c A (g9 u c) Y (B5 w x) s (C.KF v i L):=by
 show .bE λk e=> .b6 λj aI=> .e_ (λl q=> .dA λW=> .a7 λv' m=>C.iX (P:=ai u c A (g9 u c) Y _ s) (λJ J=> .stuck) λK=> .any ?_) (.cJ λl q=> .dA λW=> .a7 λa m=> .any ?_)
 case' refine_2=>
  subst e aI;obtain⟨p,o,rfl⟩:=I;show x11 ac λt O=>?_;k_lt O;obtain⟨ws,n,g,B,Q⟩:=R.at o q;rw[C.eA]at m;have hz:=j4 B;show delItem_at g.g (xE Q m) (by rw[hz];show(mT m).1) (λag am z=>fi.put (R.j9 (tk:=s.toks) (jq q nofun) o g.w am z ⟨_,_,⟨g.w,z⟩,?_,?_⟩)) (by rw[hz,ez,<-C.eA];show fk (o6 W (by x_go)))
  .rw[wo,C.mX,C.tG,C.q7,Pp];show(B.take _).append (B.drop _)
  .rw[C.mX,C.tG,C.q7,fW,tc,Gw];show c7 (c7 (s1 (Nat.sub_le_sub_left (c7 (GO a l.length) (tv a)) _) _) (hi (lH (Gx a l.length)))) Q
 subst e aI;obtain⟨p,o,rfl⟩:=I;show x11 ac λt O=>?_;k_lt O;obtain⟨f,E,V,M⟩:=R.at o q;obtain⟨kvs,d,hf,aB,hz⟩:=V.ye M;have T:(valueAt kvs j).isSome=ae:=by show x12 (M.at m K) λy e J=>?_;rw[hf,e];rfl
 rw[C.aP.tQ];delta B5
 try with_reducible show jn ?_
 show aw (QN d.typeIs (by x_go) ?_)
 show aw (wc (name:=bq "__delitem__") d.typeIs PA
  (Ay PA d.typeIs PySem.F.entry_dict_delitem (PySem.F.args_dict_delitem_2 _ _) (meets_dict_delitem_pairs (hr u.prog u.w) p.1 (qX u.prog u.w j t)) ⟨kvs,d,by rw[ez];show c7 hz (fk (o6 W (by x_go))),T,λag S am=>?_⟩))
 have D:=fq.of (u:=u) (f:=λx=>if x=j then aa else f x) S λx=>by rw[Rc,hf]
 show x32 (id D) λes ep X z r=>aY (fi.put (R.j9 (jq q nofun) o E am z ⟨_,E,D,M.del⟩))
def Yb{o i:aT}{ft p:Pos}{f g:cw}(j:b4 u sc n call o f)(d:b4 u sc n call i g):eD u sc n call (.Delete [.Subscript o i ft] p) (C.k7 f g):=λc Y L s A R ac a9=>by
 rw[arm_exec_Delete];haveI dG:(deleteEach [.Subscript o i ft] c.env>>=λJ=>xc q3)=(do
  let O<-b5 o c.env
  let I<-fo [O] (b5 i c.env)
  fO ft
  fo [O,I] (B5 O I)
  release [O,I] []
  xc q3):=by
  change((do
   (do
    let O<-b5 o c.env
    let I<-fo [O] (b5 i c.env)
    fO ft
    fo [O,I] (B5 O I)
    release [O,I] [])
   (xc ():Sem Unit))>>=λJ=>xc q3)=_
  simp only[bind_assoc,pure_bind]
 rw[dG];show .dm (.dD (j c Y L s A R ac) λz B l m k v r=> .dD (.gS (d c l m k A v.R ac)) λV W bp bn a5 S t=> .dm λw=>aF (cO ?_));show a0 (Wj S.R (r.bR S.le) t w) (λJ y x=>aF (kO (bL x.qb))) λJ J x=>x
end
section
open PySem.SeqAt
def wh:jG "bytearray" "__getattribute__" "bytearray.__getattribute__":=.of (owner:="bytearray") (n:="__getattribute__") (by rw[gn,gm];k_go) (by z_go) (by z_go) (by z_go)
  (by first |show .inl (by z_go) |show .inr (by z_go)) (by rw[jU];k_go)
def P5(a b:aj):f3 "bytearray.__getattribute__" ⟨[a,b], []⟩:=by delta f3;k_go
def Tp:h5 hs "bytearray.__getattribute__"=U Builtin.«object.__getattribute__»:=Ag (id':="object.__getattribute__") (by k_go) (by first |rfl |z_go) (by z_go) (by k_go)
def Tq:jZ (.type "bytearray") "__class__"=pure (U (.builtin "object.__class__")):=by rw[gn,gm];k_go
def Qt:mR (.type "bytearray") (.type (".".intercalate ("object.__class__".cutAt '.').dropLast))=pure ae:=by rw[F.owner_object_class,jU];k_go
section
variable{prog:eP}{w:b3}{A:b2}{E:aj->ax->Prop}{h:Heap}{g:Array Jl}{d:Drawn}{t:Nat}{os:dO}{a:ar}{o:Obj}
def SG(f:h.get? a=U o)(i:o.cls= .type "bytearray")(j:R (.ok (.ret (.type "bytearray"))) ⟨h,g,d,t,os⟩):
 m1 (aN prog w) A (.call (.builtin "getset_descriptor.__get__") ⟨[.builtin "object.__class__", .ref a, .type "bytearray"], []⟩) R ⟨h,g,d,t,os⟩:=by
 haveI l:(⟨h,g,d,t,os⟩:ax).TypeIs (.ref a) "bytearray":=⟨_,f,i⟩;haveI c:(⟨h,g,d,t,os⟩:ax).TypeIs (.builtin "object.__class__") "getset_descriptor":=FU;haveI k:=Qt;show sZ Hc.plain F.entry_gs_get (Hc.check _ _ _ _ _ _ _ _ c (F.args_gs_get _ _ _) ?_)
 repeat(any_goals (first |assumption |wp_step))
 show⟨zV _ (by z_go),lM F.entry_object_class ?_⟩
 repeat(any_goals (first |assumption |wp_step))
def RI(f:h.get? a=U o)(c:o.cls= .type "bytearray")(k:Q (.done (.ret (.type "bytearray"))) ⟨h,g,d,t,os⟩):
 aQ (aN prog w) A (Builtin.«object.__getattribute__» ⟨[.ref a, .str "__class__" tk], []⟩) Q E ⟨h,g,d,t,os⟩:=by
 haveI j:(⟨h,g,d,t,os⟩:ax).TypeIs (.ref a) "bytearray":=⟨_,f,c⟩;haveI i:(⟨h,g,d,t,os⟩:ax).TypeIs (.builtin "object.__class__") "getset_descriptor":=FU;haveI jg:=Tq;haveI mq:=FU;haveI l:=Hc.lookup;haveI m:=F.slot_gs_set.lookup
 repeat(any_goals (first |assumption |wp_step))
 show SG f c ?_
 repeat(any_goals (first |assumption |wp_step))
def Sa(c:h.get? a=U o)(f:o.cls= .type "bytearray")(i:R (.ok (.ret (.type "bytearray"))) ⟨h,g,d,t,os⟩):
 m1 (aN prog w) A (.call (.builtin "bytearray.__getattribute__") ⟨[.ref a, .str "__class__" tk], []⟩) R ⟨h,g,d,t,os⟩:=sZ wh.plain Tp (wh.check _ _ _ _ _ _ _ _ (show(⟨h,g,d,t,os⟩:ax).TypeIs (.ref a) "bytearray"from⟨_,c,f⟩) (P5 _ _) (RI c f i))
def Tr(f:h.get? a=U o)(c:o.cls= .type "bytearray")(j:Q (.type "bytearray") ⟨h,g,d,t,os⟩):aQ (aN prog w) A (getAttrBy (.ref a) (.str "__class__" tk) af) Q E ⟨h,g,d,t,os⟩:=by
 haveI i:(⟨h,g,d,t,os⟩:ax).TypeIs (.ref a) "bytearray":=⟨_,f,c⟩;haveI f2:=wh.lookup;haveI nC:=wh.bind (.ref a)
 repeat(any_goals (first |assumption |wp_step))
 show Sa f c ?_
 repeat(any_goals (first |assumption |wp_step))
def Sb(c:h.get? a=U o)(f:o.cls= .type "bytearray")(i:Q (U (.type "bytearray")) ⟨h,g,d,t+1,os⟩):aQ (aN prog w) A (getAttr? (.ref a) "__class__") Q E ⟨h,g,d,t,os⟩:=by repeat(any_goals (first |assumption |with_reducible apply Tr c f |wp_step))
end
section
variable{K:dQ}{prog:eP}{w:b3}{A:b2}{E:aj->ax->Prop}{s:ax}
def Yc:KitX K (.ref a) (.type "bytearray") (KitAt a "bytearray"):=kitx_of kitAt_ty (λ{J J J J J s} p k=>by obtain⟨h,g,d,t,os⟩:=s;show x12 p λo f c=>?_;show Sb f c k)
def Yd:kitOne [] (.type "bytes") (.type "int")=U af:=by k_go
def Ye:kitOne [] (.type "bytes") (.type "str")=U af:=by k_go
def Yg:kitOne [] (.type "bytearray") (.type "str")=U af:=by k_go
def Yh(h:∀tk,Q (.bool af) {s with toks:=tk}):aQ (aN prog w) A (bv (.builtin "isinstance") [.bytes x t, .type "int"]) Q E s:=KB (K:= []) kitx_bytes (λJ J e=>nomatch e) trivial Yd (by nofun) h
def Yi(h:∀tk,Q (.bool af) {s with toks:=tk}):aQ (aN prog w) A (bv (.builtin "isinstance") [.bytes x t, .type "str"]) Q E s:=KB (K:= []) kitx_bytes (λJ J e=>nomatch e) trivial Ye (by nofun) h
def Yj(g:dW s.heap a x)(h:∀tk,Q (.bool af) {s with toks:=tk}):aQ (aN prog w) A (bv (.builtin "isinstance") [.ref a, .type "str"]) Q E s:=by show x11 g λS g=>KB (K:= []) Yc (λJ J e=>nomatch e) ⟨_,g,rfl⟩ Yg (by nofun) h
end
def uC(h: -10000<=x)(ag:x<=10000):ahK x=ae:=dx.mpr ⟨decide_eq_true (jW (by x_go) h),decide_eq_true (Int.lt_of_le_of_lt ag (by x_go))⟩
def Wk(o:0<=a)(n:a<5000)(m: -5001<b)(g:b<5000)(d:0<c)(k:c<5000):F1 a b c=ae:=by
 haveI am: -10000<=wd a b c/\wd a b c<=10000:=by
  delta wd;rw[if_pos d];by_cases q:a<b
  .rw[if_pos q];haveI f:0<=b - a - 1:=by lia
   haveI i:b - a - 1<=5000:=by lia
   show⟨jW (by x_go) (Qg (Int.ediv_nonneg f (o5 d)) 1),jW (Qg (jW (Int.ediv_le_self c f) i) 1) (by x_go)⟩
  .rw[if_neg q];x_go
 haveI j: -10000<=b:=jW (by x_go) (o5 m)
 haveI l:b<=5000:=o5 g;show dx.mpr ⟨dx.mpr ⟨dx.mpr ⟨dx.mpr ⟨uC (jW (by x_go) o) (jW (o5 n) (by x_go)),uC j (jW l (by x_go))⟩,uC (jW (by x_go) (o5 d)) (jW (o5 k) (by x_go))⟩,uC am.1 am.2⟩,kJ.mpr (.inr ?_)⟩
 rw[if_pos d];show uC (by lia) (by lia)
section
variable{c:aV}{s:ax}{A:b2}{E:aj->ax->Prop}{n:Nat}
def Act.ov(ac:Act c A sc n)(R:Rel u c Y L s)(h:L.hf=af):A.handled=aa:=ac.hand.resolve_right λx=>nomatch(h.symm.trans R.hf).trans x.1
def J1(T:eQ u)(t:Tok)(h:C.Dm u.ao.F v=U r)(k:dK u v a):az u ah r (.int a.size t):=by
 cases v with
 |aZ y=>cases h;show⟨t,by rw[k.1];rfl⟩
 |any m=>cases h;show⟨t,by rw[show a.size=m from k];rfl⟩
 |ev l=>show x12 (C.mW h) λI c o=>?_;k_lt o;show x12 (C.pv c T.len) λx i g=>x12 (C.eV i) λy f d=>?_;cases d;haveI:=rs k f;rw[this.1];show .ux (C.KM g)
 |_=>show k.elim
def xU(h:C.cx (gv v) o=U r):gv v=ae/\o=U r:=C.db h
def Yk(R:Rel u c Y L s)(f:az u Y.ah v w):C.rL u.ao.F L.h v=U r->aQ u.M A (bv (.builtin "len") [w]) (bg u c Y (.ok r L)) E s:=by
 haveI ac:=ez;show C.e9 (P:=(·=U r->_)) (λi e=>?_) λh=>?_
 .k_lt e;obtain⟨p,x,rfl⟩:=f;show C.j0 (P:=(·=U r->_)) (λl q h=>?_) (C.oa (P:=(·=U r->_)) (λb q h=>?_) (C.ZI (P:=(·=U r->_)) (λm q h=>?_) nofun))
  .cases(C.eX (C.cU l) λn=>U (V.int (.ofNat n))).symm.trans h;obtain⟨ws,n,g,j,B⟩:=R.at x q;haveI hz:=j4 j;show Sk ⟨_,g.g,rfl,_,rfl⟩ (by lia) (bg.here (v:= .int _) (R.toks _) ⟨_,by rw[hz,C.eA];rfl⟩)
  .show x02 (xU h) λd o=>x13 ((R.at x q).mf) λa D g k=>?_;haveI:=m2 d k;show Z1 g (by lia) λt tk=>bg.here (R.toks _) (J1 R.st t o k)
  .cases h;obtain⟨l,z,ws,n,g,j,B⟩:=R.at x q;haveI hz:=j4 j;show Sk ⟨_,g.g,rfl,_,rfl⟩ (by lia) (bg.here (v:= .lr _) (R.toks _) ⟨ws.size,_,by lia,rfl⟩)
 .show x02 (xU h) λd o=>?_;haveI K:∀{a:Array UInt8} {t:Tok},dK u v a->aQ u.M A (bv (.builtin "len") [.bytes a t]) (bg u c Y (.ok r L)) E s:=λk=>by haveI:=m2 d k;show len_bytes (by lia) (bg.here (R.toks _) (J1 R.st _ o k))
  cases v with
  |aZ y=>obtain⟨a,t,rfl,k⟩:=f;show K k
  |ev y=>obtain⟨a,t,rfl,k⟩:=f;show K k
  |any y=>obtain⟨a,t,rfl,k⟩:=f;show K k
  |_=>cases d
def K0:C.Eb a b d=ae->0<=a/\0<d/\d<5000/\F1 a b d=ae:=by
 cases a with
 |negSucc=>nofun
 |ofNat a=>
  cases d with
  |negSucc=>nofun
  |ofNat d=>
   haveI tt:∀{x y:Bool},C.aA x y af=ae->x=ae/\y=ae:=λ{x y} h=>by cases x<;>first |show⟨rfl,h⟩ |cases h
   intro h;show x02 (tt h) λk h=>x02 (tt h) λg h=>?_;show x02 (tt h) λQ h=>x02 (tt h) λi l=>?_;haveI o:=C.df k;haveI n:=C.df g;haveI m:=C.df Q;haveI f:(-5001:Int)<b:=C.Ca i;haveI j:b<(5000:Int):=C.Ca l;haveI E:(kT a)=(a:Int):=rfl;haveI c:(kT d)=(d:Int):=rfl;rw[E,c];show⟨by lia,by lia,by lia,Wk (by lia) (by lia) f j (by lia) (by lia)⟩
def BQ(R:Rel u c Y L s)(h:C.Eb a b d=ae):bg u c Y (L.alloc (.eZ a b d) .ok) (.ref s.heap.objs.size) {s with heap:=s.heap.push {cls:= .type "range",dict:=aa,data:= .fields #[.int a t, .int b aU, .int d q],slots:=#[]},toks:=tk}:=by show x04 (K0 h) λi g J f=>bg.lY R (λb o e=>c2 _ e) (er _ rfl) ⟨t,aU,q,f,i,g,gO,er _ rfl⟩
def Wl(R:Rel u c Y L s)(j:bI (az u Y.ah) as ws):ai u c A (ci u c) Y (bv (.type "range") ws) s (C.Jt as L):=by
 cases j with
 |nil=>show .stuck
 |cons g T=>
  show .b6 λa e=>?_;k_lt e;show x11 g λt o=>?_;k_lt o;cases T with
  |nil=>show .bV λh=> .any (call_range_1 (BQ R h))
  |cons i l=>
   show .b6 λb e=>?_;k_lt e;show x11 i λaU o=>?_;k_lt o;cases l with
   |nil=>show .bV λh=> .any (call_range_2 (BQ R h))
   |cons m k=>show .aR (f:=λws=>bv (.type "range") (_::_::_::ws)) k (.b6 λd e=> .bV λh=> .any ?_);k_lt e;show x11 m λn o=>?_;k_lt o;show x04 (K0 h) λJ g i J=>call_range_3 (by omega) (BQ R h) (.inl (PyProof.noPylong_small (by omega)))
noncomputable def u0(own:cB)(a b:ar)(i:Nat):cB:=λc=>if c=a\/c=b then U i else own c
def Yl(R:Rel u c Y L s)(y:az u Y.ah v w):ai u c A (ci u c) Y (bv (.type "enumerate") [w]) s (C.bE v (λj=>C.cJ (L.h.get j) (λJ=>L.alloc (.enum j) .ok) (.stuck 17)) (.stuck 17)):=by
 show .bE λj e=> .cJ λl q=> .any ?_;w_pre e;obtain⟨p,t,rfl⟩:=y;obtain⟨ws,n,g,z,B⟩:=R.at t q;show call_enumerate_list (items:=ws) ⟨_,g.g,rfl,_,rfl⟩ λag g1 g2 hz k=>x13 g2 λo g2 d x=>?_;rw[C.gE];show⟨⟨Y.ah++ [(s.heap.objs.size+1,s.heap.objs.size)],u0 Y.own (s.heap.objs.size+1) s.heap.objs.size L.nx⟩,⟨eS _ _,R.new (tk:=s.toks) ⟨λb o J J e=>k b o e,λm ⟨o,es,ep,e,r⟩=>⟨o,es,ep,k _ o e,r⟩⟩ (λc d=>if_neg λq=>?_) (λc i e=>?_) ?_⟩,R.n4⟩
 .show a8 q (λf=>?_) λO=>?_
  .k_lt f;show absurd d (d_.mpr (tv _))
  .k_lt O;show absurd d (h3 _)
 .unfold u0 at e;split at e
  .rename_i q;cases e;show a8 q (λf=>?_) λO=>?_
   .k_lt f;show .inr ⟨rfl,_,g1⟩
   .k_lt O;show .inr ⟨rfl,_,g2⟩
  .show .inl (ee (R.low c i e).1.choose_spec)
 .show⟨p,o,Q4 _,eI (eS _ _) t,d,x,⟨if_pos (.inr rfl),g2⟩,⟨if_pos (.inl rfl),g1⟩⟩
def Z3(R:Rel u c Y L s)(i:az u Y.ah v w):ai u c A (ci u c) Y (bv (.type "reversed") [w]) s (C.bE v (λj=>C.cJ (L.h.get j) (λl=>C.du (C.cU l) λn=>L.alloc (.rev j n) .ok) (.stuck 18)) (.stuck 18)):=by show .bE λj e=> .cJ λl q=> .du (.any ?_);k_lt e;obtain⟨p,d,rfl⟩:=i;obtain⟨ws,n,g,f,k⟩:=R.at d q;haveI hz:=j4 f;show call_reversed_list (items:=ws) ⟨_,g.g,rfl,_,rfl⟩ (bg.lY (tk:=s.toks) R (λb o e=>c2 _ e) (er _ rfl) ⟨p,_,eI (eS _ _) d,rfl,by rw[hz,C.eA];rfl,gO,er _ rfl⟩)
def bg.int(R:Rel u c Y L s):bg u c Y (.ok (.int i) L) (.int i t) s:=bg.here R ⟨t,rfl⟩
def Z4(R:Rel u c Y L s)(ac:Act c A sc n){a b:a3}{x y:aj}(l:az u Y.ah a x)(g:az u Y.ah b y)(bZ:L.hf=af):ai u c A (ci u c) Y (bv (.builtin "min") [x,y]) s (C.c1 (C.M4 u.ao.F a b) 19 L):=by
 show .c1 λv h=> .any (x12 (L0 h R.st.len (C.xe u.bJ)) λr e q=>?_);show x23 (xy e) λi j E f m=>x11 (lU l E) λt o=>?_;k_lt o;show x11 (lU g f) λaU o=>?_;k_lt o;cases m;show min_two_ints (ac.ov R bZ) λag tk k=>bg.here (R.all k) ?_;rw[C.xO]at q;by_cases d:j<i
 .rw[if_pos d];rw[decide_eq_true d]at q;show .ux q
 .rw[if_neg d];rw[decide_eq_false d]at q;show .ux q
end
end
section
open PySem.SeqAt
set_option tactic.hygienic true
def T4(t:SetTable)(es:Array (Int×aj))(h:Int)(x:aj):(layNew t es h x).2.1.led=t.led:=by
 delta layNew;split
 .delta SetTable.orStandIn;dsimp only;split<;>rfl
 .rfl
def SH(t:SetTable)(es:Array (Int×aj))(n:Nat):(relayAll t es n).2.1.led=t.led:=by
 delta relayAll;split
 .rename_i aU o q;have:aU.led=t.led:=by
   unfold SetTable.relaid SetTable.laid at q;cases Q:SetTable.layClean (SetTable.sizeAbove n - 1) (es.map (·.1))with
   |none=>rw[Q]at q;cases q
   |some w=>rw[Q]at q;cases q;rfl
  show iteE (λ_=>?_) λ_=>?_
  .show this
  .rfl
 .rfl
inductive u1(prog:eP)(w:b3)(es:Array (Int×aj))(t:SetTable)(ks:List Int):Prop where
 |mk (X:ni w es t) (el:ElemsOf (hr prog w) es.toList) (mem:∀k,k∈ks↔∃e∈es.toList,(hr prog w).is k e.2=ae) (aB:ks.Nodup) (z:es.size=ks.length)
section
variable{prog:eP}{w:b3}{A:b2}{E:aj->ax->Prop}{s:ax}{S I:ar}{es:Array (Int×aj)}{ep:Nat}{t:SetTable}{ks:List Int}{k:Int}{tk:Tok}
def It(g:s.heap.get? S=U (eN es ep t))(hz:e.size<4096)(h:∀ag,fA S s.heap ag->ag.get? S=U (eN e (ep+1) aU)->Q () {s with heap:=ag}):
 aQ (aN prog w) A (storeSet S e aU) Q E s:=by
 show wpAny_storeSet_of g rfl ?_ (by rw[ez];omega)
 show h _ (s5 ..) ?_;haveI:=lG (Obj.putSet e aU) g rfl;rw[putSet_of e aU rfl]at this;show this
def T5{M:fa}{α bA:Type}{c:Bool}{m:Sem α}{a:α}{F:α->Sem bA}{Q:bA->ax->Prop}(d:m=pure a)(h:aQ M A (F a) Q E s):aQ M A (if c=ae then m>>=F else pure a>>=F) Q E s:=by k_lt d;rw[ite_self];show aw (aY h)
def Ym{Q:Bool->ax->Prop}(K:u1 prog w es t ks)(g:s.heap.get? S=U (eN es ep t))(hz:ks.length<4000)
 (h:∀b ag q F aU H,fA S s.heap ag->ag.get? S=U (eN q F aU)->u1 prog w q aU H->(∀j,j∈H↔j∈ks\/j=k)->H.length<=ks.length+1->Q b {s with heap:=ag,toks:=s.toks+1}):
 aQ (aN prog w) A (setAdd S (.int k tk)) Q E s:=by
 obtain⟨X,el,mem,aB,z⟩:=K;have n:(hr prog w).is k (.int k tk)=ae:=qX _ _ _ _;show jn (aw ((hr prog w).pyHash (k:=k) n ?_));generalize dI:({s with toks:=s.toks+1}:ax)=an
 have ai:an.heap.get? S=U (eN es ep t):=by k_lt dI;show g
 show jn (aw (wv ai rfl X.fits ?_));dsimp only;rw[byScan_of rfl (by delta scanBound;lia) el,if_pos rfl]
 show aw (aw (iU (aw (wpAny_setScan_of n ai rfl X.fits el ?_))));cases ac:List.findIdx? (λe=>(hr prog w).is k e.2) es.toList with
 |some j=>show x12 (Fz.mp ac) λM R J=>?_;have o:k∈ks:=(mem k).mpr ⟨_,Gv M,R⟩;show aY (aY ?_);k_lt dI;show h _ s.heap es ep t ks (.refl ..) g ⟨X,el,mem,aB,z⟩ (λj=>⟨.inl,λh=>h.elim id λe=>e▸o⟩) (tv _)
 |none=>
  have o:k∉ks:=λo=>by show x12 ((mem k).mp o) λe c i=>?_;have:=PB.mp ac e c;rw[i]at this;cases this
  have D:∀(b:Bool) {r:ax} {u:Unit->ax->Prop},u () r->aQ (aN prog w) A (match b with |true=>md "set.scan.the-table-gave-way" |false=>pure ()) u E r:=λb r u x=>by cases b<;>first |show aY x |show iU x
  have bh:=layNew_perm t es ((hr prog w).hash k) (.int k tk);have f1:=layNew_fits t es ((hr prog w).hash k) (.int k tk);have bQ:=T4 t es ((hr prog w).hash k) (.int k tk);generalize layNew t es ((hr prog w).hash k) (.int k tk)=aq at bh f1 bQ⊢;obtain⟨d,T,bD,N⟩:=aq;dsimp only at bh f1 bQ⊢;rw[ww]at bh;have v:d.size=ks.length+1:=by rw[<-eo,bh.length_eq,fW,eo,z];rfl
  have y:∀{q:Array (Int×aj)} {aU:SetTable} {F:Nat} {ag:Heap},q.toList.Perm d.toList->aU.fits q.size=ae->aU.led=t.led->fA S an.heap ag->ag.get? S=U (eN q F aU)->Q ae {an with heap:=ag}:=λ{q aU F ag} p f l O g2=>by
   k_lt dI;have P:=p.trans bh;show h _ ag q F aU (k::ks) O g2 ⟨⟨f,l.trans X.led⟩,(el.push n rfl).perm P,λj=>?_,dN.mpr ⟨o,aB⟩,?_⟩ (λj=>by rw[bX];show or_comm) (jY _)
   .rw[bX,mem];constructor
    .rintro (rfl | ⟨e,c,i⟩)
     .show⟨_,P.mem_iff.mpr (wf _ (PM _)),n⟩
     .show⟨e,P.mem_iff.mpr (sY _ c),i⟩
    .rintro ⟨e,c,i⟩;show a8 (mI.mp (P.mem_iff.mp c)) (λc=>?_) λc=>?_
     .show .inr ⟨e,c,i⟩
     .rw[lJ]at c;k_lt c;show .inl ((hr prog w).inj _ _ _ i n)
   .rw[<-eo,p.length_eq,eo,v];rfl
  show aw (D _ ?_);show T5 (m:=hashByValue 8 (.int k tk)) rfl ?_;rw[if_pos rfl];show aw (It ai (by lia) λbN B g1=>?_)
  show iteE (λ_=>?_) λ_=>?_
  .have bz:=relayAll_perm T d (Aj d.size);have f2:=relayAll_fits T d (Aj d.size);have cn:=SH T d (Aj d.size);generalize relayAll T d (Aj d.size)=L2 at bz f2 cn⊢;obtain⟨I,Z,V⟩:=L2;dsimp only at bz f2 cn⊢;have W:I.size=ks.length+1:=by rw[<-eo,bz.length_eq,eo,v]
   show aw (D _ ?_);show aw (It g1 (by lia) λbM aI g2=>aY (aY (y bz f2 (cn.trans bQ) (B.trans aI) g2)))
  .show aY (aY (y (.refl _) f1 bQ B g1))
abbrev r0(v:aj)(j:Int):Prop:=∃tk,v= .int j tk
inductive Z5(prog:eP)(w:b3)(S I:ar)(h:Heap)(ks:List Int)(r:List aj)(ag:Heap):Prop where
 |mk (es:Array (Int×aj)) (ep:Nat) (t:SetTable) (OD:List Int) (k:∀b o,b≠S->b≠I->h.get? b=U o->ag.get? b=U o) (g:ag.get? S=U (eN es ep t)) (K:u1 prog w es t OD) (m:∀j,j∈OD↔j∈ks\/∃v∈r,r0 v j)
def Wm(bZ:A.handled=aa)(eG:S≠I)(V:S≠l)(fh:l≠I)(ac:∀v∈items.toList,∃j,r0 v j):∀(r:List aj) (i:Nat) (s:ax) (es:Array (Int×aj)) (ep:Nat) (t:SetTable) (ks:List Int),items.toList.drop i=r->s.heap.IsListIter I l i->s.heap.IsList l items->s.heap.get? S=U (eN es ep t)->u1 prog w es t ks->ks.length+r.length<4000->(∀ag tk,Z5 prog w S I s.heap ks r ag->R (.ok (.ret .none)) {s with heap:=ag,toks:=tk})->
 m1 (aN prog w) A (.builtin "set.update.loop" ⟨[.ref S, .ref I], []⟩) R s:=by
 intro Z;cases Z with
 |nil=>
  intro i s es ep t ks e cZ d g K hz h;show lM PP ?_;rw[mF FJ _];have E:items[i]? =aa:=by rw[<-iO,<-o7 i,<-lI,e];rfl
  show aw (wpAny_pyNext_list_end bZ cZ d E λag z=>aY (h ag s.toks ⟨es,ep,t,ks,λb o J Q e=>z b o Q e,z S _ eG g,K,λj=>⟨.inl,λq=>q.elim id λ⟨_,q,_⟩=>nomatch q⟩⟩))
 |cons v r P=>
  intro i s es ep t ks e cZ d g K hz h;show lM PP ?_;rw[mF FJ _];have E:items[i]? =U v:=by rw[<-iO,<-o7 i,<-lI,e];rfl
  have D:items.toList.drop (i+1)=r:=by rw[<-wF,e];rfl
  show x21 (ac v (P7 (e▸cF ..))) λk tk cv=>?_;k_lt cv;show aw (FO cZ d E λbb aq p=>?_);rw[o3]at hz;show aw (jn (Ym (ep:=ep) (es:=es) (t:=t) K ((p.2 S eG).trans g) (by lia) λb bM bN afH aU X f g2 B H z2=>?_))
  show aY ⟨nQ FJ _,P (i+1) _ bN afH aU X D ?_ ?_ g2 B (by lia) λcz T aD=>aD.casesOn λai N bD aI dF g3 O M=>h cz T ⟨ai,N,bD,aI,λb o x y e=>dF b o x y ((f.2 b x).trans ((p.2 b y).trans e)),g3,O,λj=>(M j).trans ?_⟩⟩
  .show x13 aq λo n u m=>?_;show⟨o,(f.2 I (cX eG)).trans n,u,m⟩
  .show x13 d λo n u m=>?_;show⟨o,(f.2 l (cX V)).trans ((p.2 l fh).trans n),u,m⟩
  .rw[H];constructor
   .rintro ((q |rfl) | ⟨v,c,q⟩)
    .show .inl q
    .show .inr ⟨_,cF ..,tk,rfl⟩
    .show .inr ⟨v,cA _ c,q⟩
   .rintro (q | ⟨v,c,T,q⟩)
    .show .inl (.inl q)
    .show a8 (bX.mp c) (λW=>?_) λc=>?_
     .k_lt W;cases q;show .inl (.inr rfl)
     .show .inr ⟨v,c,T,q⟩
def SI(a:aj){Q₁:aj->ax->Prop}(h:Q₁ (.ref s.heap.objs.size) {s with heap:=s.heap.push (eN #[] 0 (.fresh 0 0 (!hQ w)))}):m1 (aN prog w) A (.call (.builtin "set.__new__") ⟨[.type "set",a], []⟩) (nf Q₁ E) s:=by
 show GN ?_;show aw (dp (F.newCall_set_1 a) (aY ⟨nQ Rs _,lM F.entry_set_new ?_⟩));rw[mF Rs _];unfold Builtin.«set.__new__» ahN;haveI c:=sub_set_self;obtain⟨f,g,d,tk,os⟩:=s
 wp_walk
 show qK (aY ?_);show aw (AG (aY ?_));show aY h
set_option maxRecDepth 100000 in
set_option maxHeartbeats 3200000 in
def Wn(bZ:A.handled=aa)(p:s.heap.get? l=U ⟨.type "list",aa, .seq items N,#[]⟩)(u:∀v∈items.toList,∃j,r0 v j)(c:items.size<4000)
 (h:∀ag tk es ep t ks,(∀b o,s.heap.get? b=U o->ag.get? b=U o)->ag.get? s.heap.objs.size=U (eN es ep t)->u1 prog w es t ks->(∀j,j∈ks↔∃v∈items.toList,r0 v j)->Q (.ref s.heap.objs.size) {s with heap:=ag,toks:=tk}):
 aG (aN prog w) A (bv (.type "set") [.ref l]) Q E s:=by
 show HS (Q₁:=λO S=>O= .ref s.heap.objs.size/\S={s with heap:=s.heap.push (eN #[] 0 (.fresh 0 0 (!hQ w)))}) S2 (F.typeCall_set_1 (.ref l)) (qZ (SI (.ref l) ⟨rfl,rfl⟩)) λO S z=>?_
 show x02 z λac y=>?_;k_lt ac;k_lt y;haveI ai:(s.heap.push (eN #[] 0 (.fresh 0 0 (!hQ w)))).get? s.heap.objs.size=U (eN #[] 0 (.fresh 0 0 (!hQ w))):=er _ rfl;haveI i:ax.TypeIs {s with heap:=s.heap.push (eN #[] 0 (.fresh 0 0 (!hQ w)))} (.ref s.heap.objs.size) "set":=⟨_,ai,rfl⟩
 show⟨i,bo (qZ (sZ S2.init.plain F.entry_set_init (check_set_init_1 i ?_)))⟩;haveI x:(s.heap.push (eN #[] 0 (.fresh 0 0 (!hQ w)))).get? l=U {cls:= .type "list",dict:=aa,data:= .seq items N,slots:=#[]}:=c2 _ p;haveI D:=F.sub_list_set;haveI M:=F.sub_list_frozenset;haveI aI:(nV "list"==nV "dict")=af:=by x_go
 haveI r:(s.heap.push (eN #[] 0 (.fresh 0 0 (!hQ w)))).IsList l items:=⟨_,x,rfl,N,rfl⟩;unfold Builtin.«set.__init__» noKeywords ahH;generalize B:kZ=P
 wp_walk
 k_lt B;show Gi r ?_;show aw (wpAny_runValue ?_);haveI n:l<s.heap.objs.size:=ee p;haveI f:∀{b},b<s.heap.objs.size+1->b≠(s.heap.push (eN #[] 0 (.fresh 0 0 (!hQ w)))).objs.size:=λc=>by rw[kM];show ey c
 show Wm (I:=(s.heap.push (eN #[] 0 (.fresh 0 0 (!hQ w)))).objs.size) (l:=l) (items:=items) (by simp[bZ]) (f (jm _)) (jX n) (f (nN n)) u items.toList 0 _ #[] 0 (.fresh 0 0 (!hQ w)) [] rfl ⟨_,er _ rfl,rfl,rfl⟩ (r.push _) (c2 _ ai)
  ⟨⟨rfl,rfl⟩,(λe d=>nomatch d),(λk=>⟨nofun,(λ⟨e,d,_⟩=>nomatch d)⟩), .nil,rfl⟩ (by rw[GP,eo];lia) λag T aD=>aD.casesOn λes ep t ks k g K m=>?_
 change aQ _ _ _ _ _ _;show aY ?_;change aQ _ _ (ret tw) _ _ _;show aY ⟨rfl,h _ _ es ep t ks (λb o e=>?_) g K λj=>(m j).trans ⟨λq=>q.elim (λq=>nomatch q) id, .inr⟩⟩;haveI c:=ee e;show k b o (ey c) (f (nN c)) (c2 _ (c2 _ e))
end
end
section
open PySem.SeqAt
def U0(xs:Array (Int×Tok)):CA (numAt xs) xs.size=(xs.toList.map (·.1)).sum:=by
 haveI K:∀k,k<=xs.size->CA (numAt xs) k=((xs.toList.take k).map (·.1)).sum:=by
  intro k;cases k with
  |zero=>intro J;simp[CA]
  |succ k i=>
   intro d;haveI c:k<xs.size:=d;rw[CA,i (fk c),QM];haveI e:xs.toList[k]? =U xs[k]:=by simp[c]
   rw[e];simp[numAt,c]
 rw[K _ (jY _),FP (by simp)]
def TC(h:IntsAre vs ns):AllInts vs.toArray/\numsOf vs=ns:=by
 cases h with
 |nil=>show⟨λv c=>by simp at c,rfl⟩
 |cons n t h i=>
  show⟨λv c=>?_,by simp only[numsOf,i.2]⟩
  show a8 (bX.mp (Q5.mp c)) (λo=>?_) λc=>?_
  .k_lt o;show⟨_,_,rfl⟩
  .show i.1 v (Q5.mpr c)
section
variable{c:aV}{s:ax}{A:b2}{E:aj->ax->Prop}{n:Nat}
def ints_of:∀{ns:List Int} {ws:List aj},bI (az u ah) (ns.map .int) ws->IntsAre ws ns:=by
 intro ns;cases ns with
 |nil=>intro ws h;cases h;show .nil
 |cons n ns i=>
  intro ws h;rcases h with _ | ⟨h,t⟩
  show x11 h λk o=>?_;k_lt o;show .cons _ k (i t)
def Yn:∀{l:List a3} {a r:Int},C.p5 l a=U r->∃ns:List Int,l=ns.map .int/\r=a+ns.sum:=by
 intro x;cases x with
 |nil=>intro a r h;cases h;show⟨[],rfl,by simp⟩
 |cons v l I=>
  intro a r h;show x12 (rk (k:=λi=>C.lu (C.l7 a i) (C.p5 l)) h) λi o d=>?_;k_lt o;show x12 (I ((C.pJ _ _).symm.trans d)) λns E c=>⟨i::ns,by rw[E];rfl,?_⟩
  rw[c,Sl,C.tP];lia
def Z6(R:Rel u c Y L s)(ac:Act c A sc n)(m:az u Y.ah v w)(bZ:L.hf=af):ai u c A (ci u c) Y (bv (.builtin "sum") [w]) s (C.ofList L v 27 λl=>C.a7 (C.p5 l (.ofNat 0)) 27 λi=> .ok (.int i) L):=by show .bE λj e=> .cJ λl q=> .a7 λr h=> .any ?_;k_lt e;obtain⟨p,x,rfl⟩:=m;obtain⟨ws,n,g,t,y⟩:=R.at x q;show x12 (Yn h) λns o O=>?_;k_lt o;k_lt O;show x02 (TC (ints_of t)) λf d=>?_;rw[zP]at f;show x11 f.items λxs o=>?_;k_lt o;rw[nums_intItems]at d;show sum_intListG (ac.ov R bZ) ⟨_,g.g,rfl,_,rfl⟩ λag tk aU k=>?_;rw[U0,d,show(kT 0+ns.sum:Int)=ns.sum from Int.zero_add _];show bg.int (R.all k)
noncomputable def oD(x:Int):List Int->List Int
 | []=> [x]
 |y::r=>if x=y then y::r else y::oD x r
theorem J2(x:Int):∀l:List Int,C.yr x (l.map .int)=(oD x l).map .int
 | []=>rfl
 |y::r=>by
  change C.aA (C.cH x y) (V.int y::r.map .int) (.int y::C.yr x (r.map .int))=_;change _=j1 V.int (if x=y then y::r else y::oD x r)
  rw[C.KJ];by_cases h:x=y
  .rw[if_pos h,decide_eq_true h];rfl
  .rw[if_neg h,decide_eq_false h,J2 x r];rfl
def I5(x k:Int):∀l:List Int,k∈oD x l↔k=x\/k∈l:=by
 intro X;cases X with
 |nil=>change _∈ [_]↔_;simp
 |cons y r i=>
  change _∈(if x=y then y::r else y::oD x r)↔_
  show iteE (λ_=>?_) λ_=>?_
  .rename_i h;k_lt h;simp
  .rw[bX,i,bX];show or_left_comm
def T6(x:Int):∀{l:List Int},l.Nodup->(oD x l).Nodup:=by
 intro X;cases X with
 |nil=>intro J;change Uj [_];simp
 |cons y r i=>
  intro h;change Uj (if x=y then y::r else y::oD x r)
  show iteE (λ_=>?_) λ_=>?_
  .show h
  .rename_i d;show x02 (dN.mp h) λa b=>dN.mpr ⟨λc=>?_,i b⟩;show((I5 x y r).mp c).elim (λe=>d e.symm) a
inductive ad1(ns:List Int)(l:List a3):Prop where
 |mk (ks:List Int) (e:l=ks.map .int) (aB:ks.Nodup) (m:∀k,k∈ks↔k∈ns)
def Yo:∀{l c:List a3},C.ys l=U c->∃ns:List Int,l=ns.map .int/\ad1 ns c:=by
 intro X;cases X with
 |nil=>intro c h;cases h;show⟨[],rfl, [],rfl, .nil,λk=>n7⟩
 |cons v l I=>intro c h;show x12 (rk (k:=λx=>C.g7 (C.ys l) (C.yr x)) h) λi o f=>?_;k_lt o;show x12 (C.mW f) λm g o=>?_;k_lt o;obtain⟨ns,rfl,ks,rfl,aB,d⟩:=I g;show⟨i::ns,rfl,oD i ks,J2 i ks,T6 i aB,λk=>by rw[I5,bX,d]⟩
def Yp{vs:List aj}{ns:List Int}(x:IntsAre vs ns){v:aj}(h:v∈vs):∃j,r0 v j:=by
 cases x with
 |nil=>show nomatch h
 |cons n t r i=>
  show a8 (bX.mp h) (λo=>?_) λh=>?_
  .k_lt o;show⟨n,t,rfl⟩
  .show i h
def Wo(h:IntsAre vs ns):(∃v∈vs,r0 v j)↔j∈ns:=by
 cases h with
 |nil=>show⟨(λ⟨_,h,_⟩=>nomatch h),nofun⟩
 |cons n t r i=>
  rw[bX,<-i];constructor
  .rintro ⟨v,c,tk,e⟩;show a8 (bX.mp c) (λo=>?_) λc=>?_
   .k_lt o;cases e;show .inl rfl
   .show .inr ⟨v,c,tk,e⟩
  .rintro (rfl | ⟨v,c,q⟩)
   .show⟨_,cF ..,t,rfl⟩
   .show⟨v,cA _ c,q⟩
def Z7(R:Rel u c Y L s)(ac:Act c A sc n)(f:az u Y.ah v w)(bZ:L.hf=af):ai u c A (ci u c) Y (bv (.type "set") [w]) s
 (C.ofList L v 24 λl=>C.bV (bw (C.cU l) 4000) 24 (C.a7 (C.ys l) 24 λl=>L.alloc (.set l) .ok)):=by
 show .bE λj e=> .cJ λl q=> .bV λD=> .a7 λQ h J=>?_;k_lt e;obtain⟨p,aI,rfl⟩:=f;obtain⟨ws,n,g,r,P⟩:=R.at aI q;obtain⟨ns,rfl,ks,rfl,aB,E⟩:=Yo h;have B:=C.df D;rw[C.eA,dC]at B;have hsz:ws.size=ns.length:=(j4 r).trans (dC _);have i:=ints_of r;show Wn (ac.ov R bZ) g.g (λv f=>Yp i f) (by rw[hsz];assumption) λag tk es ep t K d o aD m=>aD.casesOn λX el mem I z=>?_
 have M:∀k,k∈K↔k∈ks:=λk=>(m k).trans ((Wo i).trans (E k).symm);show bg.lY R d o ⟨es,ep,t,ks,⟨gO,o⟩,X.fits,X.led,rfl,z.trans (tf (w8 I λk h=>(M k).mp h) (w8 aB λk h=>(M k).mpr h)),λx y=>?_⟩;show x02 (el x y) λO J=>x12 O λk d J=>?_;show x11 (aj.isInt_shape d) λT e=>⟨k,T,e,(M k).mp ((mem k).mpr ⟨x,y,d⟩)⟩
def Yq:∀(n:Nat) (a d:Int) (ws:List aj),ws.length=n->(∀(j:Nat) v,ws[j]? =U v->∃t,v= .int (a+j*d) t)->bI (az u ah) (C.rO n a d) ws:=by
 intro x;cases x with
 |zero=>intro a d ws h J;rw[qF.mp h];show .nil
 |succ n i=>
  intro a d y h c;cases(y)with
  |nil=>cases h
  |cons w ws=>
   change bI _ (C.lu (C.l7 a d) λb=> .int a::C.rO n b d) _;rw[C.pJ,C.tP];show x11 (c 0 w rfl) λt o=>?_;k_lt o;show .cons ⟨t,by congr 1;simp⟩ (i _ d ws (by simpa using h) λj v e=>?_)
   show x11 (c (j+1) v (by rw[zJ];show e)) λaU o=>?_
   k_lt o;show⟨aU,?_⟩;congr 1;rw[Rl,Int.add_mul,Int.natCast_one,TA];lia
theorem Bn(d:Int):∀(n:Nat) (a:Int),(C.rO n a d).length=n
 | 0,_=>rfl
 |n+1,a=>by change(C.lu (C.l7 a d) λb=>V.int a::C.rO n b d).length=_;rw[C.pJ,o3,Bn d n]
def Yr(R:Rel u c Y L s)(ac:Act c A sc n)(x:az u Y.ah v w):ai u c A (ci u c) Y (bv (.type "list") [w]) s
 (C.bE v (λi=>C.cJ (L.h.get i) L.fZ (C.p0 (L.h.get i) (λa b s=>C.h_ L (L.fZ (C.rO (C.p4 a b s) a s))) (.stuck 22))) (.stuck 22)):=by
 haveI D:=ez;show .bE λi e=>?_;k_lt e;obtain⟨p,r,rfl⟩:=x;show .cJ (λl q=> .dA λm=> .any ?_) (.p0 λa b d q=> .h_ λbZ=> .dA λm=> .any ?_)
 .obtain⟨ws,n,g,o,y⟩:=R.at r q;haveI hz:=j4 o;show call_list_seq p.1 (T:="list") (.inl rfl) g.g rfl rfl (λag a_ k f=>bg.lY (tk:=s.toks) R k f (km.new f o y)) (hsz:=by omega)
 .obtain⟨t,aU,E,am,aI,z,g⟩:=R.at r q;rw[C.eA,Bn]at m;show call_list_range (ac.ov R bZ) g.g am (n:=C.p4 a b d) (JP z).symm (by omega) λag tk B a_ k f I=>bg.lY R k f (km.new f (Yq _ _ _ _ (by rw[eo];show I.1) λj v e=>I.2 j v (by rw[<-iO];show e)) ?_)
  rw[Bn];omega
def Ys(R:Rel u c Y L s)(r:az u Y.ah v w):ai u c A (ci u c) Y (bv (.type "dict") [w]) s
 (C.bE v (λi=>C.e_ (L.h.get i) (λl=>C.dA l.len (L.alloc (.dict l) .ok)) (.stuck 23)) (.stuck 23)):=by
 show .bE λi e=> .e_ λl q=> .dA λy=> .any ?_;k_lt e;obtain⟨p,x,rfl⟩:=r;obtain⟨f,n,j,m⟩:=R.at x q;obtain⟨kvs,d,hf,aB,hz⟩:=j.ye m;show kt_call_dict (mZ R n) d (by haveI:=ez;omega) λag g am=>?_
 haveI k:∀b o,s.heap.get? b=U o->ag.get? b=U o:=λb o e=>(am.2 b (ey (ee e))).trans (c2 _ e);haveI D:=fq.of g hf;show x11 D.g λo t=>bg.lY (tk:=s.toks) R k t ⟨f,gO,D,m.bR (eS _ _)⟩
end
end
section
open PySem.SeqAt
variable{c:aV}{s:ax}{A:b2}{E:aj->ax->Prop}{n:Nat}
def ck.ace{d:Nat}{b:UInt8}{y:dE}{a:Array UInt8}(h:kA u d b)(c:d<1024)(k:ck u y a):ck u ⟨y.n+1,d+1024*y.x⟩ (#[b]++a):=by haveI:=(ck.one h c).cat k;dsimp only at this;rw[ts,Aw,jV 1]at this;show this
inductive acf(u:bf)(n x:Nat)(ws:List aj):Prop where
 |mk (ns:List Int) (i:IntsAre ws ns) (r:∀n∈ns,0<=n/\n<256) (l:ns.length=n) (k:ck u ⟨n,x⟩ (lW ns))
def Wp(T:eQ u){l:List a3}{ws:List aj}{x:Nat}(h:C.CH u.ao.lf l=U x)(t:bI (az u ah) l ws):acf u l.length x ws:=by
 induction t generalizing x with
 |nil=>cases h;show⟨[], .nil,λn c=>(nomatch c),rfl,ck.nil⟩
 | @cons v w l ws f t I=>
  show x12 (C.eV (k:=λd=>C.ew (C.CH u.ao.lf l) λx=>C.du (fN d (pp 1024 x)) U) h) λd g p=>x12 (C.eV p) λy m j=>?_;cases(C.eX _ _).symm.trans j;show x23 (BG T g f) λb aU O D dG=>?_;k_lt O;obtain⟨ns,i,r,e,k⟩:=I m;show⟨(b.toNat:Int)::ns, .cons _ aU i,λn c=>?_,by rw[o3,o3,e],?_⟩
  .show a8 (bX.mp c) (λo=>?_) λc=>?_
   .k_lt o;haveI:=b.toNat_lt;omega
   .show r n c
  .haveI e:#[b]++lW ns=lW ((b.toNat:Int)::ns):=by delta lW;change #[b]++_=(kP b.toNat::_).toArray;rw[Gk];simp
   rw[<-e];show ck.ace D dG k
def Wq(R:Rel u c Y L s)(ac:Act c A sc n){v:a3}{w:aj}(o:az u Y.ah v w):ai u c A (ci u c) Y (bv (.type "bytes") [w]) s (C.c1 (C.yV u.ao.lf L.h v) 21 L):=by
 have K:=ez;show .c1 λr h=> .any ?_;have O:C.cx (gv v) (U v)=U r->(∀{w},az u Y.ah v w->oJ (dK u v) w)->aQ u.M A (bv (.type "bytes") [w]) (bg u c Y (.ok r L)) (λJ J=>False) s:=λh f=>by show x02 (xU h) λJ h=>?_;cases h;obtain⟨a,t,rfl,k⟩:=f o;show R8 (bg.here R (.rX k))
 revert h;show C.k2 (P:=(·=U r->_)) nofun (λi e=>?_) (λJ J=>nofun) (λy e h=>?_) (λy e h=>?_) (λy e h=>?_) λi e=>?_
 .k_lt e;show x11 o λt E=>?_;k_lt E;cases i with
  |negSucc m=>nofun
  |ofNat m=>intro h;show x02 (C.db h) λj d=>?_;cases d;have:=C.df j;show Tl (iP m) (by change(m:Int)<=_;lia) λt tk=>bg.here (R.toks _) (.rX (v:= .aZ ⟨m,0⟩) (ck.pQ m))
 .show O h λ{w} hw=>by k_lt e;show hw
 .show O h λ{w} hw=>by k_lt e;show hw
 .show O h λ{w} hw=>by k_lt e;show hw
 .k_lt e;obtain⟨p,z,rfl⟩:=o;show C.oa (P:=(·=U r->_)) (λb q h=>?_) (C.j0 (P:=(·=U r->_)) (λl q h=>?_) nofun)
  .show x02 (xU h) λj d=>?_;cases d;show x13 ((R.at z q).mf) λa I g k=>?_;have:=m2 j k;show T1 g (by lia) λt tk=>bg.here (R.toks _) (.rX k)
  .show x12 (C.eV h) λx j d=>?_;have d:=(C.eX (C.cU l) λn=>C.cx (bw n 5000) (U (V.aZ ⟨n,x⟩))).symm.trans d;show x02 (C.db d) λM D=>?_;cases D;obtain⟨ws,n,g,B,aI⟩:=R.at z q;obtain⟨ns,i,r,e,k⟩:=Wp R.st j B;rw[C.eA];show SE (vs:=ws.toList) (ac.EL R) ⟨_,g.g,rfl,_,by rw[zP]⟩ i r (by lia) λag t tk kk=>bg.here (R.all kk) (.rX (v:= .aZ ⟨l.length,x⟩) k)
def Ci(R:Rel u c Y L s){ag:Heap}{a:Array UInt8}{v:a3}(g:dW ag s.heap.objs.size a)(k:∀b o,s.heap.get? b=U o->ag.get? b=U o)(r:dK u v a):bg u c Y (L.alloc (.ba v) .ok) (.ref s.heap.objs.size) {s with heap:=ag}:=by show x11 g λS ai=>bg.lY (tk:=s.toks) R k ai (dW.or ⟨S,ai⟩ gO r)
def acg(R:Rel u c Y L s){v:a3}{w:aj}(d:az u Y.ah v w):ai u c A (ci u c) Y (bv (.type "bytearray") [w]) s (C.M5 v L):=by
 have o:(∀{w},az u Y.ah v w->oJ (dK u v) w)->ai u c A (ci u c) Y (bv (.type "bytearray") [w]) s (C.bV (gv v) 16 (L.alloc (.ba v) .ok)):=λf=> .bV λh J=>by obtain⟨a,t,rfl,k⟩:=f d;show BN (.aZ _ _ (by have:=m2 h k;rw[ez];omega)) λag g kk=>Ci R g kk k
 show C.k2 (P:=ai u c A (ci u c) Y _ s) .stuck (λi e=>?_) (λJ J=> .stuck) (λy e=>o λ{w} hw=>by k_lt e;show hw) (λy e=>o λ{w} hw=>by k_lt e;show hw) (λy e=>o λ{w} hw=>by k_lt e;show hw) λi e=> .stuck
 k_lt e;show x11 d λt O=>?_;k_lt O;cases i with
 |negSucc m=>show .stuck
 |ofNat m=>show .bV λh J=>BN (.int _ _ (iP m) (by have:=C.df h;change(m:Int)<=_;omega)) λag g k=>Ci R g k (ck.pQ m)
def U1(R:Rel u c Y L s)(ac:Act c A sc n){v:a3}{w:aj}(I:az u Y.ah v w)(bZ:L.hf=af):ai u c A (ci u c) Y (bv (.builtin "sorted") [w]) s
 (C.bE v (λi=>C.e_ (L.h.get i) (λl=>aP.rec (motive:=λJ=>bl) (L.alloc (.list []) .ok) (λJ J J J=> .stuck 25) l) (.stuck 25)) (.stuck 25)):=by
 show .bE λi e=> .e_ λl q=>?_;k_lt e;cases l with
 |cons=>show .stuck
 |nil=>
  show .any ?_;obtain⟨p,V,rfl⟩:=I;obtain⟨f,x,P,S⟩:=R.at V q;show x35 P λes ep kvs g E aI hB hf=>?_;obtain rfl:kvs= []:=qF.mp (AC.mp (JW (l:=aP.nil) S hf hB));show x13 R.fr λm F N J=>kdu_sorted (kdl_dict (knd:=hr u.prog u.w) (kvs:= []) (ep:=ep) (mZ R x)) (ac.ov R bZ) F N ⟨_,es,g,⟨rfl,rfl,rfl⟩,rfl,E,aI,hB⟩ (gD _) λD ag tk vs B j bQ M H=>?_;obtain rfl:vs= []:=qF.mp M;have t:ag.get? D=U (listOf #[] 0):=(j _ (cF ..)).1;have kk:∀b o,s.heap.get? b=U o->b≠c.env.locals->b≠D/\ag.get? b=U o:=λb o e d=>by
   cases q:u.H.get? b with
   |some a4=>have:=F.keep b a4 q;rw[e]at this;cases this;show⟨λT=>?_,B.keep b o q⟩;w_pre T;show nomatch(j _ (cF ..)).2.2.symm.trans q
   |none=>have k:=q8.mpr ⟨e,d,q⟩;show⟨ey (bQ _ k),(j _ (cA _ k)).1⟩
  have K:s.heap.get? D=aa:=by
   cases q:s.heap.get? D with
   |none=>rfl
   |some o=>show absurd rfl (kk D o q (j _ (cF ..)).2.1).1
  show lK slot_list_sort ⟨_,t,rfl⟩ entry_list_sort (list_sort_tree (vs:= []) (ns:= []) t .nil (by x_go) λout X au ak bN=>⟨_,rfl,?_⟩) (args_list_sort _)
  obtain rfl:=List.perm_nil.mp ak;have x:out=#[]:=by
   have:out.toList= []:=by generalize out.toList=l at au;cases au;rfl
   show Array.toList_eq_nil_iff.mp this
  k_lt x;show x11 (sortedHeap_at (vs:= []) (out:=#[]) t) λaq z=>?_;have O:∀b o,b≠D->ag.get? b=U o->(sortedHeap ag D [] #[]).get? b=U o:=λb o d e=>(sortedHeap_old d (ee e)).trans e;have W:Keeps Y.own aa c.env.locals s.heap (sortedHeap ag D [] #[]):=by have Q:=xg (own:=Y.own) (i:=aa) F B j λb o J d=>cA _ d;show⟨λb o d J e=>O b o (kk b o e d).1 (kk b o e d).2,λm k=>?_⟩;show x32 (Q.ns m k) λo es ep e r=>⟨o,es,ep,O _ o (cX (j _ (cF ..)).2.1) e,r⟩
  have y:=R.yK (tk:=tk) W;have fr:=R.fresh K;rw[C.gE];show⟨⟨Y.ah++ [(D,D)],ic Y.own D L.nx⟩,⟨eS _ _,y.pM (a4:= .list []) z fr.1 fr.2.1 (km.new z .nil (gD _))⟩,y.n4 (p:=(D,D))⟩
def Wr{α:Type}{v:a3}{k:hT->Option α}{a:α}:C.r6 v k aa=U a->∃i,v= .bi i/\k i=U a:=C.ub (P:=(·=U a->_)) (λi e h=>⟨i,e,h⟩) nofun
def Z8{k:hT}:bw (C.r8 k) 2=ae->k= .int\/k= .str:=by cases k<;>first |showλJ=> .inl rfl |showλJ=> .inr rfl |show nofun
def Yt{k:hT}:aK (C.r8 k) 0=ae->k= .int:=by cases k<;>first |showλJ=>rfl |show nofun
def Yu{k:hT}:aK (C.r8 k) 1=ae->k= .str:=by cases k<;>first |showλJ=>rfl |show nofun
def Z9(R:Rel u c Y L s){v t:a3}{w x:aj}(d:az u Y.ah v w)(z:az u Y.ah t x):ai u c A (ci u c) Y (bv (.builtin "isinstance") [w,x]) s (C.c1 (C.M6 L.h v t) 28 L):=by
 show .c1 λr h=> .any (x12 (Wr h) λk o h=>?_);k_lt o;cases z;haveI aM:∀{tk:Nat},r= .aM->bg u c Y (.ok r L) (.bool af) {s with toks:=tk}:=λ{tk} e=>by k_lt e;show bg.here (v:= .aM) (R.toks tk) rfl
 revert h;show C.jv (P:=(·=U r->_)) (λi e h=>?_) (C.e9 (P:=(·=U r->_)) (λi e=>C.oa (P:=(·=U r->_)) (λb q h=>?_) nofun) λh=>?_)
 .show x02 (C.db h) λf j=>?_;cases j;k_lt e;show x11 d λt o=>?_;k_lt o;obtain rfl:=Yt f;show IsiPair.int_int (bg.here (v:= .tt) R rfl)
 .show x02 (C.db h) λf j=>?_;cases j;k_lt e;obtain⟨p,n,rfl⟩:=d;show x13 ((R.at n q).mf) λa B g J=>?_;obtain rfl:=Yu f;show Yj g λtk=>aM rfl
 .show x02 (C.db h) λm h=>x02 (C.db h) λf j=>?_;cases j;haveI K:∀{a:Array UInt8} {t:Tok},aQ u.M A (bv (.builtin "isinstance") [.bytes a t,y5 k]) (bg u c Y (.ok .aM L)) (λJ J=>False) s:=λ{a t}=>by
   show a8 (Z8 f) (λl=>?_) λO=>?_
   .k_lt l;show Yh λtk=>aM rfl
   .k_lt O;show Yi λtk=>aM rfl
  cases v with
  |aZ y=>obtain⟨a,t,rfl,J⟩:=d;show K
  |ev y=>obtain⟨a,t,rfl,J⟩:=d;show K
  |any y=>obtain⟨a,t,rfl,J⟩:=d;show K
  |_=>cases m
def Z_(R:Rel u c Y L s){v:a3}{w:aj}(d:az u Y.ah v w):ai u c A (ci u c) Y (bv (.type "str") [w]) s (C.eh v (λn=>C.bV (bw n 1000) 29 (.ok (.h9 1010) L)) (.stuck 29)):=by
 show .eh λm e=> .bV λh=> .any ?_;k_lt e;show x11 d λt o=>?_;k_lt o;haveI f:=C.df h;show str_of_int_fit (N:=1000) (by change(if(m:Int)<0 then _ else(m:Int))<1000;rw[if_neg (by lia)];lia) (by x_go) λhz=>bg.here (v:= .h9 1010) (R.toks _) ⟨_,_,rfl,?_⟩
 haveI:=len_str_of_int (m:Int);haveI e:(m:Int).natAbs=m:=rfl;rw[e]at this;lia
def aaa(R:Rel u c Y L s){v:a3}{w:aj}(d:az u Y.ah v w):ai u c A (ci u c) Y (bv (.builtin "abs") [w]) s (C.b6 v (λi=>C.e7 i (λn=> .ok (.int (.ofNat n)) L) λn=>C.du (da n) λn=> .ok (.int (.ofNat n)) L) (.stuck 30)):=by
 show .b6 λi e=>?_;k_lt e;show x11 d λt o=>?_;k_lt o;cases i with
 |ofNat m=>show .any (S3 λaU tk=>by rw[if_neg (by show w2.mpr (iP m))];show bg.int (R.toks _))
 |negSucc m=>change ai u c A (ci u c) Y _ s (C.du (da m) λn=> .ok (.int (.ofNat n)) L);show .du (.any (S3 λaU tk=>?_));rw[if_pos (qH m)];show bg.int (i:= .ofNat (da m)) (R.toks _)
def T7(R:Rel u c Y L s)(ac:Act c A sc n)(k:hT){as:List a3}{ws:List aj}(j:bI (az u Y.ah) as ws):ai u c A (ci u c) Y (bv (y5 k) ws) s (C.builtin u.ao k as L):=by
 cases k with
 |len=>show .au (f:=λws=>bv (.builtin "len") ws) j λv w d=> .c1 λr h=> .any (Yk R d h)
 |range=>show Wl R j
 |enumerate=>show .au (f:=λws=>bv (.type "enumerate") ws) j λv w d=>Yl R d
 |reversed=>show .au (f:=λws=>bv (.type "reversed") ws) j λv w d=>Z3 R d
 |min=>show .h_ λbZ=> .ak (f:=λws=>bv (.builtin "min") ws) j λv w V W d l=>Z4 R ac d l bZ
 |int=>
  show .au (f:=λws=>bv (.type "int") ws) j λv w d=> .dS (λe=> .any ?_) λe=> .any ?_
  .k_lt e;cases d;show Sm (bg.int (i:= .ofNat 1) (R.toks _))
  .k_lt e;cases d;show Sm (bg.int (i:= .ofNat 0) (R.toks _))
 |bytes=>show .au (f:=λws=>bv (.type "bytes") ws) j λv w d=>Wq R ac d
 |bytearray=>
  cases j with
  |nil=>showλJ=>X4 λag g k=>Ci R g k ck.nil
  |cons h t=>show .aR (f:=λws=>bv (.type "bytearray") (_::ws)) t (acg R h)
 |list=>show .au (f:=λws=>bv (.type "list") ws) j λv w d=>Yr R ac d
 |dict=>show .au (f:=λws=>bv (.type "dict") ws) j λv w d=>Ys R d
 |set=>show .h_ λbZ=> .au (f:=λws=>bv (.type "set") ws) j λv w d=>Z7 R ac d bZ
 |sorted=>show .h_ λbZ=> .au (f:=λws=>bv (.builtin "sorted") ws) j λv w d=>U1 R ac d bZ
 |sum=>show .h_ λbZ=> .au (f:=λws=>bv (.builtin "sum") ws) j λv w d=>Z6 R ac d bZ
 |isinstance=>show .ak (f:=λws=>bv (.builtin "isinstance") ws) j λv w V W d l=>Z9 R d l
 |str=>show .au (f:=λws=>bv (.type "str") ws) j λv w d=>Z_ R d
 |abs=>show .au (f:=λws=>bv (.builtin "abs") ws) j λv w d=>aaa R d
 |bad=>show .stuck
end
section
open PySem.SeqAt
def RJ:∀(c:List (Str×iV)) (n:Nat) (A:List (Str×ar)) (x:Str),((A.lookup x).isSome=ae\/(x,Aq)∈c)->((A_ n c A).lookup x).isSome=ae:=by
 intro X;cases X with
 |nil=>
  intro n A x h;show a8 h (λh=>?_) λh=>?_
  .show h
  .cases h
 |cons d r i=>
  obtain⟨y,k⟩:=d;intro n A x h;unfold A_ at⊢;show iteE (λ_=>?_) λ_=>?_
  .show i _ _ x ?_;by_cases e:x=y
   .k_lt e;left;rw[hg,beq_self_eq_true];rfl
   .show a8 h (λh=>?_) λh=>?_
    .left;rw[hg,show(x==y)=af by simpa using e];show h
    .show a8 (bX.mp h) (λh=>?_) λh=>?_
     .show absurd (HE h).1 e
     .show .inr h
  .rename_i f;show i _ _ x (a8 h (λh=>?_) λh=>?_)
   .show .inl h
   .show a8 (bX.mp h) (λh=>?_) λh=>?_
    .show x02 (HE h) λJ e=>absurd (by rw[<-e];rfl) f
    .show .inr h
def K1{h:Heap}(x:h.Ns a m)(y:h.Ns a q):m=q:=by show x34 x λo es ep e d J f=>x34 y λa4 g i E D J c=>?_;rw[e]at E;cases E;rw[d]at D;cases D;funext n;rw[<-f,<-c]
theorem J3:∀fl:aL,fl.app .nil=fl
 | .nil=>rfl
 | .cons k v r=>congrArg (aL.cons k v) (J3 r)
section
variable{c a_:aV}{Y hI bp:b1}{L bH:bU}{s an:ax}{A B:b2}{E:aj->ax->Prop}{sc bB:bW}{n dM:Nat}{bj:Env}{m:Str->Option aj}{fr:aL}
noncomputable def aV.g5(c:aV)(bj:Env)(m:Str->Option aj):aV:=⟨{c.z with cy:=bj::c.z.cy,fw:=(c.env.locals,m)::c.z.fw},bj,c.hf⟩
structure qn(u:bf)(c:aV)(hI:b1)(m:Str->Option aj)(fr:aL):Prop where
 W:Wait u c
 cur:∃e∈c.z.cy,e.code=c.env.code
 fr:f9 u hI.ah c.env m fr
 base:∀a o,u.H.get? a=U o->c.z.Z a=U o
def qn.out(K:qn u c hI m fr)(A:hI.dL bp)(R:Rel u (c.g5 bj m) bp L s):Rel u c bp (L.eK fr) s:=by show x12 K.cur λe d f=>?_;haveI:=R.ab4 (c:=c) (fr:=fr) (m:=m) K.W rfl (λJ J e=>e) (λJ e=>e) K.base rfl (λe d=>cA _ d) (K.fr.bR A) (f▸R.bc.codes e (cA _ d));rw[<-show L.hf=c.hf from R.hf]at this;show this
def Exc.ad2(X:hv (c.g5 bj m) Y k e h .none):Exc c Y k e h:=by obtain⟨vs,T,oT,t,⟨b7,g,i,bJ,f,r,j,hz⟩,d,p,g2,o,l,s,n⟩:=X;show .old .none ⟨vs,T,oT,t,⟨b7,g,i,bJ,f,r,j,hz⟩,d,p,g2,o,l,s,n⟩ (.inl rfl)
def qn.L9(K:qn u c hI m fr)(A:hI.dL Y)(j:B.frames=U (c.g5 bj m).z.cy)(f:bj.frame=U bj.locals)(x:EG u (c.g5 bj m) Y k L e s):aG u.M B (leaving bj e) (λJ an=>EG u c hI k (L.eK fr) e an) (λJ J=>False) s:=by obtain⟨i,g,S,rfl,X⟩:=x;show aF (a0 (bo<|tU (c:=c.g5 bj m) (E:=λJ J=>False) S.R j ⟨c.z.cy,rfl⟩ f X) (λJ a5 y=>?_) λJ J y=>y.elim);show a0 (bo<|q1 (fr:=aa) (E:=λJ J=>False) y.1 y.2) (λJ l d=>⟨i,g,⟨A.trans S.le,K.out (A.trans S.le) d.1⟩,rfl,Exc.ad2 d.2⟩) λJ J d=>d
def Ends(u:bf)(c:aV)(hI:b1)(q:bl)(r:h6)(an:ax):Prop:=match r with
 | .ok (.ret v)=>bg u c hI q v an
 | .ok _=>False
 | .error e=>dH u c hI q e an
def T8(r:hx u sc n call body f)(R:Rel u (c.g5 bj m) Y L s)(ac:Act (c.g5 bj m) (B.deeper bj) sc n)(l:bj.frame=U bj.locals)(K:qn u c hI m fr)(A:hI.dL Y)(d:cW ((f [] call L).gI fr)):
 dz u.M B (.func body bj) (Ends u c hI ((f [] call L).gI fr)) s:=by
 haveI h:=r (c.g5 bj m) Y L s _ R ac ⟨c.z.cy,rfl⟩;show HI ?_;cases q:f [] call L with
 |next j=>rw[q]at h;show a0 (h λJ=>nofun) (λfl i x=>by show x02 x λO o=>?_;obtain⟨g,S⟩:=O;w_pre o;show⟨g,⟨A.trans S.le,K.out (A.trans S.le) S.R⟩,rfl⟩) λJ J x=>x.elim
 |ret v j=>rw[q]at h;show a0 (h λJ=>nofun) (λfl i x=>by obtain⟨g,w,S,p,rfl⟩:=x;show⟨g,⟨A.trans S.le,K.out (A.trans S.le) S.R⟩,p⟩) λJ J x=>x.elim
 |exc k j=>rw[q]at h;show a0 (h λJ=>nofun) (λJ J x=>x.elim) λe i x=>a0 (K.L9 A ac.frames l x) (λJ J y=>y) λJ J y=>y.elim
 |stuck k=>rw[q]at d;show absurd rfl (d k)
 |_=>rw[q]at d;show absurd rfl (d 76)
def Act.ret(ac:Act c A sc n)(R:Rel u c Y L s)(fr:f9 u Y.ah c.env m L.fr):qn u c Y m L.fr:=by show x34 ac.cur λe o aq E J J d=>⟨R.adQ,⟨e,E▸cF,d⟩,fr,R.base⟩
def Act.g5(ac:Act c A sc (n+1))(d:gT A B)(g:bj.scope.kind= .function)(i:bj.globals=d2)(j:bj.builtins=hj)(f:bj.frame=U bj.locals)(am:jI bB bj):Act (c.g5 bj m) (B.deeper bj) bB n:=by
 show⟨?_,⟨bj,c.z.cy,bj.locals,rfl,f,f,rfl⟩,g,i,j,?_,?_,?_,am⟩
 .change B.frames.map (bj::·)=_;rw[d.fr,ac.frames];rfl
 .show NV ac.depth d.Fh (by x_go)
 .show NV ac.units d.un (by x_go)
 .haveI bZ:(B.deeper bj).handled=A.handled:=d.hd;rw[bZ];show ac.hand
end
section
structure yN(bj:Env)(fd:iv)(aq:ar):Prop where
 scope:bj.scope=fd.scope
 locals:bj.locals=aq
 frame:bj.frame=U bj.locals
 code:bj.code=fd.code
 bG:bj.globals=d2
 ny:bj.builtins=hj
def K2{cf:Env->aV}{Q:h6->ax->Prop}(T:eQ u)(X:u.K.In s.heap)(F:FnAt u k a2 cells ds body fd)(d7:bI (az u Y.ah) as ws)(ac:C.lT a2 as ds=U fl)(ach:B.depth<1000)(j:∀e,(cf e).env=e)(lim:s.heap.NoLimit)
 (mk:∀bj ag tk aq,yN bj fd s.heap.objs.size->(∀b o,s.heap.get? b=U o->ag.get? b=U o)->ag.Ns bj.locals aq->Rel u (cf bj) Y ⟨t,nx, .nil,hf⟩ {s with heap:=ag,toks:=tk}/\∀a,s.heap.get? a=aa->bj.locals<a->Y.own a=aa/\¬eb (cf bj) a)
 (go:∀bj an H,yN bj fd s.heap.objs.size->Y.dL H->jI fd.scope bj->Rel u (cf bj) H (og cells ⟨t,nx,fl,hf⟩) an->dz u.M B (.func body bj) Q an):dz u.M B (.call (.ref (eE k)) ⟨ws, []⟩) Q s:=by
 show x31 F.at_ λlB kC y_ afI=>Qj (fd:=fd) (body:=body) ach (X _ _ afI) rfl F.co F.gen F.body (codeRec_of X F.code) ?_;obtain⟨bN,afJ,bD,OE,O⟩:=F.uA T X d7 ac;have z:∀n v,fl.get n=U v->n∈a2:=by unfold C.lT at ac;show(IY ac F.v9).2.1
 show afJ _ _ _ _ ?_;rw[F.bG,F.so,F.ny];have K:∀x:Str,fd.scope.names.lookup x=U .cell->((A_ (s.heap.objs.size+1) fd.scope.names []).lookup x).isSome=ae:=λx g=>RJ _ _ _ _ (.inr (nW g));show wpAny_newFunctionEnv_cells F.kind (λx g=>?_) λbj N an y=>?_
 .show x12 (O x g) λm hm e=>?_;rw[e];by_cases d:m∈cells
  .show .inr ⟨F.bt m d,K _ (F.bt m d)⟩
  .show .inl (F.loc m hm d)
 have E:yN bj fd s.heap.objs.size:=by rw[N];show⟨rfl,rfl,rfl,rfl,rfl,rfl⟩
 have Z:bj.cells=A_ (s.heap.objs.size+1) fd.scope.names []:=by rw[N];rfl
 show x22 y.done λag tk cv P=>?_;k_lt cv;show⟨lim.keeps P,?_⟩;have kd:∀x,bj.kindOf x=fd.scope.names.lookup x:=λx=>by change bj.scope.names.lookup x=_;rw[E.scope]
 show x02 (mk bj ag tk _ E P y.toInCall.ns) λW afK=>?_;have I:InCallC s bj.locals (bindL bj.kindOf bN λJ=>aa) bj.cells (bindC bj.kindOf bN λJ=>aa) {s with heap:=ag,toks:=tk}:=y
 have R:∀n∈cells,∃c,bj.cells.lookup (ay n)=U c:=λn i=>by rw[Z];show qE.mp (K _ (F.bt n i))
 have aiR:hf=(cf bj).hf:=W.hf;show x13 (V4 cells ⟨t,nx,fl,hf⟩ Y W F.dB (λn i=>by
  obtain⟨a,d⟩:=R n i;have ND:bj.locals<a:=I.above _ _ (mem_of_lookup d);have ov:s.heap.get? a=aa:=by
   cases q:s.heap.get? a with
   |none=>rfl
   |some o=>show absurd (ee q) (by rw[<-E.locals];show d_.mpr (fk ND))
  obtain⟨f1,f2⟩:=afK a ov ND;show⟨a,_,by rw[j];show d,f1,f2,I.cell _ _ d,?_⟩
  have afL:bj.kindOf (ay n)≠U .local:=by rw[kd,F.bt n i];x_go
  by_cases aI:n∈a2
  .obtain⟨v,w,D,ai,A⟩:=bD n aI;rw[V7 afL OE A];change p9 u Y.ah (fl.get n) (U w);rw[D];show ai
  .rw[AZ λx g e=>by obtain⟨aq,l,gi⟩:=O x g;show aI (T.inj _ _ (gi.symm.trans e)▸l)]
   change p9 u Y.ah (fl.get n) aa;cases q:fl.get n with
   |none=>trivial
   |some v=>show absurd (z n v q) aI) (λa afM b aiS EJ e=>by
  rw[j]at e;obtain⟨ag2,d⟩:=R a afM;have afN:=e.symm.trans d;show EJ (T.inj _ _ (name_of_addr I.apart (mem_of_lookup d) (mem_of_lookup afN))))) λH au S M=>?_
 have V:=Ij cells ⟨t,nx,fl,hf⟩;have SC:jI fd.scope bj:=by
  show⟨λx h=>(kd x).trans h,λx h=>(kd x).trans h,λx h=> .inr ((kd x).trans h),λx h=>(kd x).trans h,λx h=>?_⟩;show a8 h (λh=>?_) λh=>?_
  .rw[Z];show K _ h
  .show absurd rfl (F.afC (x, .free) (nW h))
 show go bj _ H E au SC ?_;generalize og cells ⟨t,nx,fl,hf⟩=yW at S M V⊢;have:=S.L5 (fr:=yW.fr) λaq l=>?_
 .obtain⟨aiT,aiU,aiV,afO⟩:=yW;obtain rfl:afO=hf:=V;show this
 .rw[j]at l⊢;show⟨λn v e k=>?_,λn v e k=>?_⟩
  .rcases M n v e with⟨f,r⟩ | ⟨f,p⟩
   .have k:bj.kindOf (ay n)=U .local:=k;rw[kd,F.bt n f]at k;cases k
   .show x23 (bD n (z n v p)) λv' w D ai A=>?_;obtain rfl:v=v':=bY (p.symm.trans D);show⟨w,?_,ai.bR au⟩;rw[K1 l I.toInCall.ns];show V6 k OE A
  .rcases M n v e with⟨f,r⟩ | ⟨f,p⟩
   .rw[j]at r;show r
   .have e1:bj.kindOf (ay n)=U .local:=(kd _).trans (F.loc n (z n v p) f);show k.elim (λk=>nomatch e1.symm.trans k) λk=>nomatch e1.symm.trans k
end
section
variable{c:aV}{s:ax}{A B:b2}{n:Nat}
def afP(a2:List Nat)(ds:List a3)(cells:List Nat)(f:cw)(call:d8)(as:List a3)(L:bU):bl:=C.a7 (C.lT a2 as ds) 78 λfl=>C.rh cells (L.eK (fl.app .nil)) λs=>(f [] call s).gI L.fr
def Yv(F:FnAt u k a2 cells ds body fd)(y:∃c,fd.code= .ref c/\c∈tabs.map (·.1))(I:hx u fd.scope n call body f)
 (R:Rel u c Y L s)(ac:Act c A sc (n+1))(j:gT A B)(M:bI (az u Y.ah) as ws):ai u c B (ci u c) Y (bv (.ref (eE k)) ws) s (afP a2 ds cells f call as L):=by
 show .a7 λfl O p=>?_;rw[HR,J3]at p⊢;show x12 R.here λm D fr=>q9 (K2 (Y:=Y) (cf:=λe=>c.g5 e m) (t:=L.h) (nx:=L.nx) (hf:=L.hf) R.st R.fs F M O (NW ac.depth j.Fh (by x_go)) (λJ=>rfl) (R.st.lim.keeps λb o e=>R.k3 b o e) (λbj ag tk P E K aI=>⟨?_,λa z l=>?_⟩) λbj an Q E au S w=>?_)
 .rw[R.hf];show R.DU (a_:=c.g5 bj m) (fr':= .nil) D K (by rw[E.locals];show iu _) aI ⟨nofun,nofun⟩ rfl rfl rfl (hi E.locals.symm)
   (λe d=>(bX.mp d).elim (λq=> .inr (by w_pre q;show⟨by rw[E.scope,F.kind];x_go,E.frame,rfl⟩)) .inl) (y.elim λc h=>⟨c,E.code.trans h.1, .inl h.2⟩)
 .have g:=R.fresh z;show⟨g.1,λbZ=>?_⟩;rcases bZ with h | ⟨e,d,q⟩ | ⟨q,i,e⟩ |h
  .show g.2.1 (.inl h)
  .rcases bX.mp d with rfl |d
   .rw[E.frame]at q;cases q;show h3 _ l
   .show g.2.1 (.inr (.inl ⟨e,d,q⟩))
  .rcases bX.mp i with rfl |i
   .show g.2.1 (.inr (.inr (.inr e.symm)))
   .show g.2.1 (.inr (.inr (.inl ⟨q,i,e⟩)))
  .show jX l h
 .show nT (T8 (n:=n) I w (ac.g5 j (by rw[E.scope];show F.kind) E.bG E.ny E.frame S) E.frame (ac.ret R fr) au p) λr an x=>?_
  match r,x with
  | .ok (.ret v),x=>show x
  | .error e,x=>show x
end
end
section
open PySem.SeqAt
set_option tactic.hygienic true
section
variable{prog:eP}{w:b3}{A:b2}{E:aj->ax->Prop}{ac:ar}{h:Heap}{g:Array Jl}{d:Drawn}{t:Nat}{os:dO}
def I6(A:b2)(ac:ar)(rest:List aj):gT A (A.under (.builtin "type.__call__" ⟨.ref ac::rest, []⟩)):=by
 haveI hw:(tq "type.__call__" ⟨.ref ac::rest, []⟩).weight=1:=by rfl
 haveI c:(tq "type.__call__" ⟨.ref ac::rest, []⟩).cUnits=1:=by rfl
 haveI d:(tq "type.__call__" ⟨.ref ac::rest, []⟩).envs= []:=by rfl
 show⟨?_,rfl,?_,?_⟩
 .change pushEnvs (Code.envs (tq "type.__call__" ⟨.ref ac::rest, []⟩)) A.frames=A.frames;rw[d];rfl
 .change A.depth+(tq "type.__call__" ⟨.ref ac::rest, []⟩).weight<=_;rw[hw];lia
 .change A.units+(tq "type.__call__" ⟨.ref ac::rest, []⟩).cUnits<=_;rw[c];lia
def L_{rest:List aj}{i:aj}{id:String}{x:ar}{ag:Heap}{Q:aj->ax->Prop}(hcd:∃aq e c H,h.get? ac=U ⟨aq,e, .cls c,H⟩/\c.mro.isEmpty=af)(M:eY (aN prog w) h (AF (.ref ac)) (U id))
 (s:eY (aN prog w) h (mR (.ref ac) (.ref ac)) ae)(call:eY (aN prog w) h (q4 (.ref ac) "__call__") (U (.builtin "type.__call__")))(u:eY (aN prog w) h (mO (.ref ac) (.type "type")) ae)
 (m:eY (aN prog w) h (jZ (.ref ac) "__init__") (U i))(p:∀s,eY (aN prog w) h (bindSpecial i s) (i, [s]))(k:∀b o,h.get? b=U o->ag.get? b=U o)(f:∃ha,ag.get? x=U ha/\ha.cls= .ref ac)
 (new:∀(B:b2) (Q:aj->ax->Prop) (E:aj->ax->Prop),Q (.ref x) ⟨ag,g,d,t,os⟩->aQ (aN prog w) B (bv (.builtin id) (.ref ac::rest)) Q E ⟨h,g,d,t,os⟩)
 (n:aG (aN prog w) (A.under (.builtin "type.__call__" ⟨.ref ac::rest, []⟩)) (bv i (.ref x::rest)) (λv an=>v= .none/\Q (.ref x) an) E ⟨ag,g,d,t,os⟩):
 aG (aN prog w) A (bv (.ref ac) rest) Q E ⟨h,g,d,t,os⟩:=by
 show x42 hcd λaq e c H j y=>q9 (iS λJ=>?_);show bo (nd_load j ?_);change aQ _ _ (callAny.viaDunder (.ref ac) _) _ _ _;show aw (call.at ?_);dsimp only;show aw (aY (aw (aY ?_)));show aY (a:=Fin.again (.call (.builtin "type.__call__") ⟨.ref ac::rest, []⟩)) (mQ rfl (mQ rfl ?_));show iS λJ=>aF (bo (check_slot tc_kind tc_split u (tc_args _ _ _) (bL (mQ (zV _ (by z_go)) ⟨KT,Al QL λJ=>?_⟩))))
 show x12 f λha f r=>?_;have T:eY (aN prog w) ag (m6 (.ref x)) (.ref ac):=r▸(tO f).andThen .now;show Im (l:=c.mro) (((tO (part:=aa) j).andThen .now).andThen .now) y M (bo (new _ _ _ ⟨λJ q=>(show eY (aN prog w) ag (mO (.ref x) (.ref ac)) ae from T.andThen (s.keeps k)).at q,?_⟩));show aF (bo ((T.andThen (m.keeps k)).at (cO (aF (bo (((p (.ref x)).keeps k).at (aF (a0 n (λv an x=>bL ⟨congrArg U x.1,x.2⟩) λJ J x=>x))))))))
def I7{P:List aj->Prop}(d:P [.type "ValueError", .type "Exception", .type "BaseException", .type "object"])(f:∀a r,P r->P (.ref a::r)):∀{l:List aj},uw l=ae->P l:=by
 intro l;haveI k:∀l:List aj,P (l.dropWhile λv=>aK v.ctorIdx 10)->P l:=λl=>by
  cases l with
  |nil=>show id
  |cons c r i=>
   rw[List.dropWhile_cons];show iteE (λ_=>?_) λ_=>?_
   .rename_i h;showλq=>eU.elim (motive:=λc=>P (c::r)) c (iN h) λa=>f a r (i q)
   .show id
 showλh=>k l ((beq_iff_eq.mp h).symm▸d)
def Iu(h:uw l=ae):l.contains (.type T)= [nV "ValueError", .type "Exception", .type "BaseException", .type "object"].contains (.type T):=I7 (P:=λl=>l.contains (.type T)= [nV "ValueError", .type "Exception", .type "BaseException", .type "object"].contains (.type T)) rfl (λJ J h=>h) h
def SJ(s:aj){l:List aj}(h:uw l=ae):H1 s "__setattr__" l=pure ():=I7 (P:=λl=>H1 s "__setattr__" l=pure ()) (PySem.F.store_ValueError.passes s) (λJ J h=>by rw[refuseLoop_ref];show h) h
inductive NE(K:dQ)(h:Heap)(ac:ar):Prop where
 |mk (ay q:Str) (N:ar) (av bm:List aj) (sn:List Str) (sub:List aj) (ab:Bool) (col:Option Bool) (ky:Option ar) (kE jh gL dF gd:Option aj) (ai5:h.get? ac=U (TF ay q ac N av bm ae sn sub ab col ky kE jh gL dF gd "ValueError.__new__"))
  (cN:uI K ac=U {name:=ay,bases:=av,mro:= .ref ac::bm,ns:=N,qualname:=q,hasDict:=ae,slotNames:=sn,subclasses:=sub,abstract:=ab,collection:=col,hasDel:=af}) (dU:uw bm=ae)
structure zb(K:dQ)(M:fa)(h:Heap)(ac:ar):Prop where
 obj:NE K h ac
 made:eY M h (AF (.ref ac)) (U "ValueError.__new__")
 base:eY M h (Bind.staticBase (.ref ac)) (.ref ac)
 self:eY M h (mR (.ref ac) (.ref ac)) ae
 has:∀T,eY M h (mR (.ref ac) (.type T)) ([nV "ValueError", .type "Exception", .type "BaseException", .type "object"].contains (.type T))
 call:eY M h (q4 (.ref ac) "__call__") (U (.builtin "type.__call__"))
 typ:eY M h (m6 (.ref ac)) (.type "type")
 vT:iw K (.ref ac) "__setattr__"=U (U (.builtin "object.__setattr__"))
 Pd:xL K ac "reason"=U aa
def ad3{K:dQ}{h:Heap}(X:K.In h){ac:ar}(e:vt K ac=ae):NE K h ac/\specialIn K (.ref ac) "__call__"=U (U (.builtin "type.__call__"))/\ui K (.ref ac)=U (.type "type")/\iw K (.ref ac) "__setattr__"=U (U (.builtin "object.__setattr__"))/\xL K ac "reason"=U aa:=by
 delta vt at e;generalize c:K.lookup ac=x at e;rcases x with _ | ⟨D,w,d,s⟩
 .show nomatch(show af=ae from e)
 cases(d)with
 |cls i=>
  dsimp only at e;simp only[lL,Gj,beq_iff_eq]at e;show x02 e λz g=>?_;show x02 z λO l=>?_;show x02 O λp j=>?_;show x02 p λv k=>?_;show x02 v λo dU=>?_;show x02 o λu f=>?_;show x02 u λx n=>?_;show x02 x λt d=>?_;show x02 t λr E=>?_;show⟨?_,k,j,l,g⟩;haveI m:uI K ac=U i:=by delta uI;rw[c]
  clear k j l g;haveI c:=X _ _ c;obtain⟨ay,av,M,N,q,B,S,sub,A,y,dG⟩:=i;obtain⟨s⟩:=s;dsimp only at E d n f dU;rw[r,E,d,n,f]at c;rw[E,d,f]at m;show⟨ay,q,N,av,_,S,sub,A,y,w,_,_,_,_,_,c,m,dU⟩
 |_=>show nomatch(show af=ae from e)
def zc{K:dQ}{M:fa}(X:K.In h)(e:vt K ac=ae):zb K M h ac:=by obtain⟨⟨ay,q,N,av,B,p,sub,A,o,ky,d,j,i,dF,gd,c,n,dU⟩,g,f,m,E⟩:=ad3 X e;have S:∀{v b},(eU ac::B).contains v=b->eY M h (mR (.ref ac) v) b:=λe J J J s k q=>wpAny_isSubtype_exc (h:=s.heap) (k _ _ c) (e▸q);show⟨⟨ay,q,N,av,B,p,sub,A,o,ky,d,j,i,dF,gd,c,n,dU⟩,λJ J J s k q=>wpAny_madeBy_exc (h:=s.heap) (k _ _ c) q,λJ J J s k q=>wpAny_staticBase_exc (h:=s.heap) (k _ _ c) q,S (by rw[Qw,beq_self_eq_true];rfl),λT=>S ((Iu (l:= .ref ac::B) dU)),looks_specialIn X g,looks_typeIn X f,m,E⟩
noncomputable abbrev Cj(ac t:ar):Obj:={cls:= .ref ac,data:= .fields #[.ref t, .none, .none, .none, .bool af, .none]}
noncomputable abbrev xV(l:List aj):Obj:={cls:= .type "tuple",data:= .seq l.toArray}
def aci{K:dQ}(bD:zb K (aN prog w) h ac)(hz:rest.length<=fY)(i:R (.ok (.ret (.ref (h.objs.size+1)))) ⟨(h.push (xV rest)).push (Cj ac h.objs.size),g,d,t,os⟩):
 m1 (aN prog w) A (.call (.builtin "ValueError.__new__") ⟨.ref ac::rest, []⟩) R ⟨h,g,d,t,os⟩:=by
 obtain⟨⟨ay,q,N,av,B,D,sub,l,y,ky,o,j,k,dF,gd,f,x,dU⟩,m,base,z,c,call,T,s,r⟩:=bD;haveI F:=FC;haveI S:eY (aN prog w) h (mR (.type "type") (.type "type")) ae:=tl tc_sub;haveI n:=c "ValueError";haveI u:=c "AttributeError";haveI v:=c "NameError";haveI here:eY (aN prog w) h (Bind.madeHere "BaseException.__new__" (.ref ac)) ():=base.andThen (m.andThen (tl (by rw[Rt,F.canon,if_neg (by simp)])))
 show codeAny_call_builtin_code (zV _ F.quiet) (wpAny_check_new_subU F (Iu dU) .base f ?_);show PySem.codeAny_builtinAt F.entry (Ru ?_);show Ru (PySem.wpAt_stack λp below=>Qp ?_);change aQ _ _ (if "ValueError.__new__".endsWith ".__new__"=ae then pure ("ValueError.__new__".dropRight 8)else _) _ _ _
 rw[if_pos F.ends];show aY (Qp ?_);rw[F.owner]
 repeat lk
 rw[if_neg (d_.mpr (c7 (hi ta) hz))];show aw (AG (aY (aw ?_)));change aQ _ _ (newObjAsIs (.ref ac) (.fields #[.ref h.objs.size, .none, .none, .none, .bool af, .none])) _ _ _;show aw (AG (aw (aw (lP (c2 _ (c2 _ f)) (aY ?_)))));show aY (aY ?_);rw[kM];show i
end
section
variable{c:aV}{s:ax}{A B:b2}{n:Nat}
def Rel.ad4{a4:O}{ag:Heap}{tk:Nat}{v b7:Obj}{a b:ar}(R:Rel u c Y L s)(p:s.heap.objs.size<=a)(n:s.heap.objs.size<=b)(k:∀c o,s.heap.get? c=U o->ag.get? c=U o)
 (t:ag.get? a=U v)(ai:ag.get? b=U b7)(l:dk u (Y.ah++ [(a,b)]) (u0 Y.own a b L.nx) ag L.nx (a,b) a4):
 Rel u c ⟨Y.ah++ [(a,b)],u0 Y.own a b L.nx⟩ ⟨L.h.st a4 L.nx,L.nx+1,L.fr,L.hf⟩ {s with heap:=ag,toks:=tk}:=by
 show R.new ⟨λb o J J e=>k b o e,λm ⟨o,es,ep,e,r⟩=>⟨o,es,ep,k _ o e,r⟩⟩ (λd j=>if_neg λq=>?_) (λd i e=>?_) l
 .show a8 q (λg=>?_) λf=>?_
  .w_pre g;show absurd j (d_.mpr p)
  .w_pre f;show absurd j (d_.mpr n)
 .unfold u0 at e;split at e
  .rename_i q;cases e;show a8 q (λg=>?_) λf=>?_
   .w_pre g;show .inr ⟨rfl,_,t⟩
   .w_pre f;show .inr ⟨rfl,_,ai⟩
  .show .inl (ee (R.low d i e).1.choose_spec)
def J4(o:jp u n call)(R:Rel u c Y L s)(R':Rel u c ⟨Y.ah++ [(x,y)],bF⟩ ⟨L.h.st a4 L.nx,L.nx+1,L.fr,L.hf⟩ an)(ac:Act c A sc n)(m:gT A B)(z:bI (az u Y.ah) as ws)(t:j<146)
 (g:r=(call j (.ref L.nx::as) .nil ⟨L.h.st a4 L.nx,L.nx+1,L.fr,L.hf⟩).bind λw s=>C.jr w (.ok (.ref L.nx) s) (.stuck 79))(d:cW r):aG u.M B (bv (.ref (eE j)) (.ref x::ws)) (λv q=>v= .none/\bg u c Y r (.ref x) q) (dH u c Y r) an:=by
 haveI f:=R.n4 (p:=(x,y));haveI l:Y.dL ⟨Y.ah++ [(x,y)],bF⟩:=eS _ _;k_lt g;show ai.vB (o c _ _ _ A _ sc j _ _ R' ac m (.cons f z.up) t) d (λv' w i D q S k e=>?_) λe an x=>dH.le l x;revert d;rw[e];show C.n2 (P:=λr=>cW r->w= .none/\bg u c Y r (.ref x) q) (λe d=>?_) λd=>absurd rfl (d 79);k_lt e;cases k;show⟨rfl,i,⟨l.trans S.le,S.R⟩,f.bR S.le⟩
def T9(V:jp u n call){k:Nat}(R:Rel u c Y L s)(ac:Act c A sc n)(aI:bI (az u Y.ah) as ws):ai u c A (ci u c) Y (bv (.ref (cP k)) ws) s
 (C.dA (C.cU as) (C.a7 (u.ao.init k) 79 λj=>L.alloc (C.aA (aK j u.ao.dB.on) (.ig k ae) (.inst k .nil)) λv L=>(call j (v::as) .nil L).bind λw L=>C.jr w (.ok v L) (.stuck 79))):=by
 show .dA λbN=> .a7 λj q l=>?_;haveI hz:ws.length<=fY:=by rw[<-aI.length,<-C.eA];show c7 (fk bN) (by rw[ez];x_go)
 rw[C.gE]at l⊢;show x04 (R.st.init k j q) λI y W H=>?_;haveI X:=R.fs;obtain⟨h,g,d,t,os⟩:=s;haveI two:∀i O:Obj,i.isFreed=af->O.isFreed=af->(∀b o,h.get? b=U o->((h.push i).push O).get? b=U o)/\((h.push i).push O).get? (h.objs.size+1)=U O/\((h.push i).push O).get? h.objs.size=U i:=λi O f1 f2=>by show⟨λb o e=>c2 _ (c2 _ e),?_,c2 _ (er _ f1)⟩;haveI:=er (h.push i) (o:=O) f2;rwa [kM]at this
 cases x:aK j u.ao.dB.on with
 |true=>
  rw[x]at I l;haveI bD:=zc (M:=u.M) X (R.st.exc k I);obtain⟨⟨ay,q,N,av,bm,sn,sub,ab,col,ky,kE,jh,gL,dF,gd,D,cN,dU⟩,P,base,S,has,z,T,vT,Pd⟩:=id bD;show x03 (two (xV ws) (Cj (cP k) h.objs.size) rfl rfl) λK g1 g2=>L_ ⟨_,_,_,_,D,rfl⟩ P S z (T.andThen (tl tc_sub)) (Az X y) (λS=>bind_fn X S W) K ⟨_,g1,rfl⟩ (λB Q E q=>qZ (aci bD hz q)) ?_;show J4 V R (R.yJ (tk:=t) (a4:= .ig k ae) (p:=(h.objs.size+1,h.objs.size+1)) (bF:=ic Y.own (h.objs.size+1) L.nx) ⟨λb o J J e=>K b o e,λm aD=>aD.casesOn λo aD=>aD.casesOn λes aD=>aD.casesOn λep aD=>aD.casesOn λe r=>⟨o,es,ep,K _ o e,r⟩⟩ (λb=>?_) (rW.raw h.objs.size I ⟨gO,g1⟩)) ac (I6 A (cP k) ws) aI H rfl l;by_cases x:b=h.objs.size+1
  .k_lt x;haveI f:=R.fresh (a:=h.objs.size+1) (Heap.get?_none_of_le (tv _));show .inr ⟨gO,f.1,f.2.1,_,g1⟩
  .show .inl (if_neg x)
 |false=>
  rw[x]at I l;show x06 (R.st.cls k I) λJ J J J J mk=>?_;haveI bD:=makes_of (M:=u.M) X mk;obtain⟨⟨lB,aq,F,hV,D,fu,fv,Z⟩,P,base,S,top,z,T⟩:=id bD;show x03 (two Ba (j6 (cP k) h.objs.size) rfl rfl) λK g1 g2=>L_ ⟨lB,aq,F,hV,D,Z⟩ P S z T (Az X y) (λS=>bind_fn X S W) K ⟨_,g1,rfl⟩ (λB Q E q=>qZ (new_K bD (Az X y) (.inl rfl) q)) ?_;show J4 V R (R.ad4 (a4:= .inst k .nil) (tk:=t) (a:=h.objs.size+1) (b:=h.objs.size) (tv _) (jY _) K g1 g2
   ⟨#[],0,I,Q4 _,⟨if_pos (.inl rfl),g1⟩,⟨if_pos (.inr rfl),g2⟩, .nil⟩) ac (I6 A (cP k) ws) aI H rfl l
end
end
section
open PySem.SeqAt
section
variable{M:fa}{A:b2}{E:aj->ax->Prop}{s:ax}{name qual:Str}{params:xa}{body:aT}{scope:bW}{env:Env}{c P:ar}{a2:Array aj}{pos:Pos}{firstLine:Nat}{d1:Str->Option aj}
 {yH:List (Str×ar)}{Q:aj->ax->Prop}
def U2(R:nU scope env=pure H)(T:env.globals=d2)(K:s.heap.Ns d2 d1)(w:env.code= .ref c)(ac:ke s.heap c P)(i:s.heap.get? P=U (kc a2))(u:xb a2.toList)
 (O:nY pos a2.toList=aa)(B:d2≠P)(V:s.heap.BuiltinsAt d1 P)
 (h:∀a_ F aq ag tk,AH P s.heap ag->s.heap.objs.size<=a_->s.heap.objs.size<=F->ag.CodeRec (.ref a_) qual->ke ag a_ F->ag.get? F=U (kc #[])->ag.get? P=U (kc (a2++#[b8 pos.line,b8 pos.col, .ref a_]))->s.heap.objs.size<=ag.objs.size->
  Q (.ref ag.objs.size) {s with heap:=ag.push (B1 name qual params body scope H ((d1 "__name__").getD .none) a_ aq),toks:=tk}):
 aQ M A (makeTail name qual params (.expr body) scope env .none .none aa pos firstLine) Q E s:=by
 obtain⟨X,b7,t,n,J,ai,y,p,D,z⟩:=V;delta makeTail;rw[R,T];show aw (aY ?_);cases H with
 |nil=>show aw (aY ?_);show aw (Qq w (ac.code i u) (ac.tab i) O λa_ ag tk d g j _ k l aD=>aD.casesOn λF aD=>aD.casesOn λm aD=>aD.casesOn λI mC=>?_);haveI f:=K.extBut d B;show aw (QP f t n (d _ _ ai y) p D z ?_);show aw (HF f ?_);show aw (aY (ip (h a_ F .none ag tk d g m k (Vq I mC) mC.2 l.2 (fk (jQ g j))) (by size_fits)))
 |cons q r=>
  show aw (wpAny_newTextTuple ?_);show aw (Qq w ((ac.keeps λb o e=>c2 _ e).code (c2 _ i) u) ((ac.keeps λb o e=>c2 _ e).tab (c2 _ i)) O λa_ ag tk d g j _ k l aD=>aD.casesOn λF aD=>aD.casesOn λm aD=>aD.casesOn λI mC=>?_);haveI f:=(K.push _).extBut d B;haveI aI:AH P s.heap ag:=λb o S e=>d b o S (c2 _ e);haveI N:s.heap.objs.size<=(s.heap.push {cls:= .type "tuple",data:= .seq (j1 (λx=>eU x.2) (q::r)).toArray}).objs.size:=by rw[kM];lia
  haveI v:s.heap.objs.size<=a_:=c7 (by rw[kM]at⊢;lia) g
  haveI W:s.heap.objs.size<=F:=c7 (by rw[kM]at⊢;lia) m
  show aw (QP f t n (aI _ _ ai y) p D z ?_);show aw (HF f ?_);show aw (aY (ip (h a_ F _ ag tk aI v W k (Vq I mC) mC.2 l.2 (fk (jQ v j))) (by size_fits)))
def Sc(f:nU scope env=pure F)(g:env.globals=d2)(j:s.heap.Ns d2 d1)(d:env.code= .ref c)(ac:ke s.heap c P)(i:s.heap.get? P=U (kc a2))(m:xb a2.toList)
 (n:nY pos a2.toList=aa)(k:d2≠P)(l:s.heap.BuiltinsAt d1 P)
 (h:∀a_ e q ag tk,AH P s.heap ag->s.heap.objs.size<=a_->s.heap.objs.size<=e->ag.CodeRec (.ref a_) qual->ke ag a_ e->ag.get? e=U (kc #[])->ag.get? P=U (kc (a2++#[b8 pos.line,b8 pos.col, .ref a_]))->s.heap.objs.size<=ag.objs.size->
  Q (.ref ag.objs.size) {s with heap:=ag.push (B1 name qual params body scope F ((d1 "__name__").getD .none) a_ q),toks:=tk}):
 aQ M A (makeFunction name qual params (.expr body) scope env [] [] [] pos firstLine) Q E s:=by
 rw[makeFunction_eq];simp only[List.zip_nil_right,zW,List.isEmpty_nil,if_true,pure_bind];show U2 f g j d ac i m n k l h
end
section
variable{prog:eP}{w:b3}{A:b2}{R:h6->ax->Prop}{s:ax}{env:Env}
def T_(h:aG (aN prog w) (A.deeper env) (b5 e env) (λv an=>R (.ok (.ret v)) an)
 (λF an=>aG (aN prog w) (A.deeper env) (leaving env F) (λJ q=>R (.error F) q) (λH q=>R (.error H) q) an) s):
 dz (aN prog w) A (.expr e env) R s:=by
 show iS λJ=>?_;change aG _ (A.deeper env) (do Db;ret (<-(b5 e env).onRaise (leaving env))) _ _ s
 show aF (AU (aF (qR (a0 h (λv an ag=>bL ag) λJ J ag=>ag))))
def RK{a:ar}{args:Args}{o:Obj}{fd:iv}{body:aT}{q:Str}(g:A.depth<RN)(i:s.heap.get? a=U o)(r:o.data= .func fd)
 (p:fd.scope.isCoroutine=af)(t:fd.scope.isGenerator=af)(j:fd.body= .expr body)(hcd:s.heap.CodeRec fd.code q)
 (h:aQ (aN prog w) A.in1 (tM fd args) (λB F=>
  aQ (aN prog w) A.in1 (wG fd.scope fd.globals fd.closure B (q++".<locals>.") (U a) fd.code aa fd.builtins)
   (λenv a5=>a5.heap.NoLimit/\dz (aN prog w) A (.expr body env) R a5) (λe an=>R (.error e) an) F) (λe an=>R (.error e) an) s):
 dz (aN prog w) A (.call (.ref a) args) R s:=by
 show iS λJ=>?_;change aG _ A.in1 (callAny (.ref a) args) _ _ s;show bo (aw (lP i ?_));show x44 hcd λc O vs T f n u k=>?_;simp only[r,callFunction,p,t,j,f];rw[f]at h;show aw (m:=field (.ref c) 1) (fB n u k (aw (aY ?_)));show aw (hk h (λB F l=>aw (hk l (λenv a5 d=>aw (QX d.1 g
  (aY (mQ rfl ⟨rfl,d.2⟩)))) λJ J ag=>ag)) λJ J ag=>ag)
end
section
variable{c:aV}{Y hI:b1}{s:ax}{A B:b2}{sc bB:bW}{n:Nat}{bj:Env}{m:Str->Option aj}{fr:aL}
def hH.hd(R:Rel u c Y L s)(h:hH Y.own cd):∃a P,cd= .ref a/\ke s.heap a P/\Y.own P=U 0:=by
 obtain⟨a,rfl,h |h⟩:=h
 .show x12 (dy.mp h) λq d o=>?_;k_lt o;show⟨_,q.2,rfl,(R.st.tabs q d).keeps R.k3,R.bc.ok.s q d⟩
 .obtain⟨J,P,au,b⟩:=R.bc.ok.c a h;show⟨a,P,rfl,au,b⟩
noncomputable def nk(own:cB)(c P:ar):cB:=λb=>if b=c then U 1 else if b=P then U 0 else own b
def QS{pos pos':Pos}{c:aj}:∀(l:List aj),xb l->∀{qu:aj},nY pos' (l++ [b8 pos.line,b8 pos.col,c])=U qu->nY pos' l=U qu\/qu=c:=by
 intro l h qu e
 fun_induction xb l with
 |case1=>
  simp only[Aa,nY,b8]at e;split at e
  .cases e;show .inr rfl
  .cases e
 |case2 ag2 t Pe ai6 x rest ih=>
  simp only[z7,nY]at e⊢;split at e
  .rename_i cN;rw[if_pos cN];show .inl e
  .rename_i cN;rw[if_neg cN];show ih h e
 |case3 l bb bM=>show h.elim
def Rel.Yw{P a_ p:ar}{a2:Array aj}{pos:Pos}(R:Rel u c Y L s)(K:Y.own P=U 0)(S:s.heap.get? P=U (kc a2))(w:AH P s.heap ag)(cN:s.heap.objs.size<=a_)(EI:s.heap.objs.size<=p)
 (aq:ag.CodeRec (.ref a_) q)(aI:ke ag a_ p)(V:ag.get? p=U (kc #[]))(Q:ag.get? P=U (kc (a2++#[b8 pos.line,b8 pos.col, .ref a_]))):
 Rel u c ⟨Y.ah,nk Y.own a_ p⟩ L {s with heap:=ag,toks:=tk}:=by
 have E:∀b o,s.heap.get? b=U o->nk Y.own a_ p b=Y.own b:=λb o e=>by have:=ee e;delta nk;rw[if_neg (ey (e2 this cN)),if_neg (ey (e2 this EI))]
 have v:∀b i,Y.own b=U i->nk Y.own a_ p b=U i:=λb i e=>by show x11 ((R.low b i e).1) λo g=>(E b o g).trans e
 have z:∀b,Y.own b≠U 0->b≠P:=λb f e=>f (e▸K);have cm:∀b,Y.own b=aa->b≠P:=λb f=>z b (by rw[f];simp)
 have ns:∀a m,s.heap.Ns a m->ag.Ns a m:=λa m ⟨o,es,ep,e,d,r⟩=>⟨o,es,ep,w a o (λq=>by k_lt q;rw[S]at e;cases e;cases d) e,d,r⟩
 have ai:=R.two;show x02 (AJ aI) λO ag3=>x12 O λN ag4 J=>?_;have T:∀b j,nk Y.own a_ p b=U j->(a_=b/\1=j)\/(p=b/\0=j)\/Y.own b=U j:=λb j e=>by
  unfold nk at e;split at e
  .rename_i f;cases e;show .inl ⟨f.symm,rfl⟩
  .split at e
   .rename_i f;cases e;show .inr (.inl ⟨f.symm,rfl⟩)
   .show .inr (.inr e)
 show R.gen (aE:=⟨Y.ah,nk Y.own a_ p⟩) (t:=L.h) (k:=L.nx) (fr':=L.fr) (λb o J f e=>w b o (cm b f) e) (R.here.imp λm q=>⟨ns _ _ q.1,q.2⟩) (λb h=>(R.i5 h).2.elim λo g=>(E b o g).trans (R.i5 h).1) R.len (λb j e=>?_) (λj q e=>?_) R.out ?_
 .rcases T b j e with⟨rfl,rfl⟩ | ⟨rfl,rfl⟩ |e
  .show⟨⟨N,ag4⟩,e2 (by x_go) ai⟩
  .show⟨⟨_,V⟩,e2 (by x_go) ai⟩
  .show x02 (R.low b j e) λO l=>x11 O λo g=>?_;by_cases f:P=b
   .k_lt f;show⟨⟨_,Q⟩,l⟩
   .show⟨⟨o,w b o (cX f) g⟩,l⟩
 .by_cases I:j=0
  .k_lt I;rw[R.bc.t0];trivial
  .show(R.objs j q e).at (fj _) (λb f=>⟨v b j f,λo=>w b o (z b (by rw[f];intro x;show I (bY x)))⟩) λb=>v b 1
 .have B:∀{D},hH Y.own D->hH (nk Y.own a_ p) D:=λx=>x.at λb=>v b 1;show⟨R.bc.t0,R.bc.t1,⟨λa n=>?_,λa n=>?_,λq H=>v _ 0 (R.bc.ok.s q H)⟩,B R.bc.here,λe bD=>B (R.bc.codes e bD),λa h=>v a 1 (R.bc.nv a h)⟩
  .by_cases W:P=a
   .k_lt W;show x13 (R.bc.ok.t _ K) λA g jM k=>?_;have:a2=A:=by cases S.symm.trans g;rfl
    k_lt this;have el:(a2++#[b8 pos.line,b8 pos.col,eU a_]).toList=a2.toList++ [b8 pos.line,b8 pos.col, .ref a_]:=by simp
    show⟨_,Q,by rw[el];show TriplesOk_snoc _ _ _ _ jM,λy ac e=>?_⟩
    rw[el]at e;show a8 (QS _ jM e) (λe=>?_) λbN=>?_
    .show(k y ac e).imp λc4 e=>⟨e.1,v _ 1 e.2⟩
    .k_lt bN;show⟨a_,rfl,if_pos rfl⟩
   .rcases T a 0 n with⟨J,q⟩ | ⟨rfl,_⟩ |n
    .cases q
    .show⟨_,V,trivial,λy ac e=>by simp[nY]at e⟩
    .show x13 (R.bc.ok.t a n) λA g jM k=>⟨A,w a _ (cX W) g,jM,λy ac e=>(k y ac e).imp λc4 e=>⟨e.1,v _ 1 e.2⟩⟩
  .rcases T a 1 n with⟨rfl,J⟩ | ⟨_,q⟩ |n
   .show⟨⟨q,aq⟩,p,aI,(if_neg (cX ag3)).trans (if_pos rfl)⟩
   .cases q
   .obtain⟨⟨iL,r⟩,P2,d,Z⟩:=R.bc.ok.c a n;show x12 (Ho r) λo g k=>x02 (AJ d) λO J=>?_;show x12 O λX g2 F=>?_;have M:a≠P:=z a (by rw[n];simp)
    show⟨⟨iL,k _ (w a o M g)⟩,P2,F _ (w a X M g2),v _ 0 Z⟩
def Yx(y:∀x∈bB.names,x.2= .free->(sc.names.lookup x.1=U .cell\/sc.names.lookup x.1=U .free))(O:∀n∈(u.ao.fn k).free,(ay n,h2)∈bB.names)(M:ib k=(body,bB)):
 b4 u sc n call (.Lambda ⟨[], [],aa, [], [],aa, []⟩ body bB p) (C.Dt u.ao k):=λc Y L s A R ac=>by
 change ai u c A (ci u c) Y _ s (C.a7 (C.iW L.fr (u.ao.fn k).free) 93 λcs=>L.alloc (.lam k cs) .ok);show .a7 λcs sl hZ=>?_;have E:nU bB c.env=pure (gV c.env bB.names []):=HO λx d hf=>ac.sc.has x.1 (y x d hf);show x23 (hH.hd R R.bc.here) λa P hcd K t=>x13 (R.bc.ok.t P t) λa2 w jM ent=>?_;obtain⟨d1,Q,bm,b7,e0,gh,zr,B,F,H,ag5⟩:=R.st.ny;have I:=Q.keeps R.k3;have S:∀a o,u.H.get? a=U o->a≠P:=λa o e q=>by have:=(R.frozen a o (R.base a o e)).2;rw[q,t]at this;cases this
 have afQ:d2≠P:=let⟨o,_,_,e,_⟩:=Q;S _ o e
 have T:s.heap.BuiltinsAt d1 P:=⟨bm,b7,e0,gh,zr,S _ _ B,R.k3 _ _ B,F,H,ag5⟩;show x12 R.here λm hm fr=>?_;have X:∀n v,cs.get n=U v->∃j q,v= .ref j/\br Y.ah j q/\(gV c.env bB.names []).lookup (ay n)=U q.1:=λn v e=>by
  show x02 (AN sl e) λD bM=>?_;have:=fr.bt n v bM ((y _ (O n D) rfl).elim (λh=> .inl (ac.sc.bt _ h)) (ac.sc.vv _));cases v with
  |ref i=>show this.elim λp q=>⟨i,p,rfl,q.1,wU q.2 _ _ (.inl (O n D))⟩
  |_=>show this.elim
 have bN:∀x∈bB.names,x.2=h2->((gV c.env bB.names []).lookup x.1).isSome=ae:=λx d hf=>by show x11 (qE.mp (ac.sc.has x.1 (y x d hf))) λa cN=>?_;rw[wU cN _ _ (.inl (by rw[<-hf];show d))];rfl
 have z:∀{l:b1} {a_:ar} {f:aj} {ag:Heap} {tk:Nat},Y.ah=l.ah->Rel u c l L {s with heap:=ag,toks:=tk}->l.own a_=U 1->
  bg u c l (L.alloc (.lam k cs) .ok) (.ref ag.objs.size) {s with heap:=ag.push (B1 "<lambda>" (c.env.qual++"<lambda>") ⟨[], [],aa, [], [],aa, []⟩ body bB (gV c.env bB.names []) ((d1 "__name__").getD .none) a_ f),toks:=tk}:=λ{l a_ f ag tk} W aI r=>by
  have afR:a_≠ag.objs.size:=λq=>by show x11 ((aI.low a_ 1 r).1) λo g=>absurd (ee g) (by rw[q];show h3 _)
  show bg.J0 (s:={s with heap:=ag,toks:=tk}) aI (iu ag) (λb o e=>c2 _ e) (er _ rfl)
   ⟨c.env.qual++"<lambda>",_,_,a_,f,⟨gO,by rw[M];show er _ rfl⟩,(if_neg afR).trans r,λn v e=>?_,by rw[M];show bN⟩
  show x23 (X n v e) λj q fu fv kB=>⟨j,q,fu,eI (eS _ _) (W▸fv),kB⟩
 show bo (kla_eval rfl ?_);cases hf:nY p a2.toList with
 |some aq=>show x12 (ent p aq hf) λa_ cv r=>?_;k_lt cv;show kla_makeFunctionHit E ac.globals I hcd K w jM hf T λf ag tk V hsz=>z rfl (R.all V) r
 |none=>show Sc E ac.globals I hcd K w jM hf afQ T λa_ ag6 f ag tk d bD ad5 Z N afS afT hsz=>bg.le (Y:=Y) (aE:=⟨Y.ah,nk Y.own a_ ag6⟩) (fj _) (z rfl (R.Yw t w d bD ad5 Z N afS afT) (if_pos rfl))
def Ua(j:b4 u sc n call body f)(R:Rel u (c.g5 bj m) Y L s)(ac:Act (c.g5 bj m) (B.deeper bj) sc n)(g:bj.frame=U bj.locals)(K:qn u c hI m fr)(A:hI.dL Y)(d:cW ((f [] call L).uq fr)):
 dz u.M B (.expr body bj) (Ends u c hI ((f [] call L).uq fr)) s:=by
 have h:=j (c.g5 bj m) Y L s _ R ac;show T_ ?_;cases q:f [] call L with
 |ok v p=>rw[q]at h;show a0 (h λJ=>nofun) (λw l x=>by obtain⟨o,S,i⟩:=x;show⟨o,⟨A.trans S.le,K.out (A.trans S.le) S.R⟩,i⟩) λJ J x=>x.elim
 |exc k p=>rw[q]at h;show a0 (h λJ=>nofun) (λJ J x=>x.elim) λe l x=>a0 (K.L9 A ac.frames g x) (λJ J y=>y) λJ J y=>y.elim
 |stuck k=>rw[q]at d;show absurd rfl (d k)
 |_=>rw[q]at d;show absurd rfl (d 77)
structure acj(k:Nat)(body:aT)(bB:bW):Prop where
 at_:ib k=(body,bB)
 kind:bB.kind= .function
 co:bB.isCoroutine=af
 gen:bB.isGenerator=af
 names:∀x∈bB.names,x.2= .free\/x.2= .globalImplicit
def Ws(F:acj k body bB)(cD:b4 u bB n call body f)(R:Rel u c Y L s)(ac:Act c A sc (n+1))(W:gT A B)(Z:az u Y.ah (.ref i) w)(q:L.h.get i= .lam k cs):
 ai u c B (ci u c) Y (bv w []) s ((f [] call (L.eK cs)).uq L.fr):=λhZ=>by
 obtain⟨p,iH,rfl⟩:=Z;obtain⟨qual,z,pm,a_,N,g,M,afU,T⟩:=R.at iH q;rw[F.at_]at g T;show x02 (R.bc.ok.c a_ M) λO J=>x11 O λS ad6=>?_;show q9 (RK (body:=body) (q:=S) ?_ g.g rfl F.co F.gen rfl ad6 ?_)
 .show NW ac.depth W.Fh (by x_go)
 rw[show tM (kla_fn "<lambda>" qual ⟨[], [],aa, [], [],aa, []⟩ body bB z pm (.ref a_) N) ⟨[], []⟩=pure [] by k_go]
 show aY ?_;haveI K:∀x∈bB.names,x.2≠ .cell:=λx en e=>by show a8 (F.names x en) (λh=>?_) λh=>?_<;>rw[h]at e<;>cases e
 show Qc K (by intro y mA;simp at mA) (λE afV za=>?_) F.kind
 show x12 R.here λm hm fr=>?_;haveI Q:∀b o,s.heap.get? b=U o->E.get? b=U o:=λb o e=>(za.2 b (ey (ee e))).trans (c2 _ e);show⟨R.st.lim.keeps λb o e=>Q b o (R.k3 b o e),?_⟩;generalize d:newEnv bB s.heap.objs.size d2 z (S++".<locals>.") (U p.1) (.ref a_) aa hj=bj;haveI D:bj.scope=bB:=by rw[<-d];rfl
 haveI I:bj.locals=s.heap.objs.size:=by rw[<-d];rfl
 haveI aI:bj.frame=U bj.locals:=by rw[<-d];rfl
 haveI V:bj.cells=z:=by rw[<-d];rfl
 haveI H:bj.code= .ref a_:=by rw[<-d];rfl
 haveI bN:bj.globals=d2:=by rw[<-d];rfl
 haveI ad7:bj.builtins=hj:=by rw[<-d];rfl
 haveI vv:s.heap.get? bj.locals=aa:=by rw[I];show iu _
 haveI kd:∀x,bj.kindOf x=bB.names.lookup x:=λx=>by change bj.scope.names.lookup x=_;rw[D]
 haveI P:Rel u (c.g5 bj m) Y ⟨L.h,L.nx,cs,c.hf⟩ {s with heap:=E,toks:=s.toks+0}:=R.DU (a_:=c.g5 bj m) (fr':=cs) hm Q vv (by change E.Ns bj.locals _;rw[I];show afV) ⟨(λn v e t=>by
   haveI t:bj.kindOf (ay n)=U .local:=t;rw[kd]at t;show a8 (F.names _ (nW t)) (λh=>?_) λh=>?_<;>cases h),(λn v e J=>by
   show x23 (afU n v e) λj mB O bD kB=>?_;k_lt O;show⟨mB,bD,(congrArg (λl=>wX (ay n) l) V).trans kB⟩)⟩ rfl rfl rfl (hi I.symm)
   (λe X=>(bX.mp X).elim (λq=> .inr (by k_lt q;show⟨by rw[D,F.kind];x_go,aI,rfl⟩)) .inl) ⟨a_,H, .inr M⟩
 rw[<-show L.hf=c.hf from R.hf]at P;haveI aq:jI bB bj:=by
  show⟨λx h=>(kd x).trans h,λx h=>(kd x).trans h,λx h=> .inr ((kd x).trans h),λx h=>(kd x).trans h,λx h=>?_⟩;show a8 h (λh=>?_) λh=>?_
  .show absurd rfl (K _ (nW h))
  .rw[V];show T _ (nW h) rfl
 show nT (Ua (n:=n) cD P (ac.g5 W (by rw[D];show F.kind) bN ad7 aI aq) aI (ac.ret R fr) (.refl _) hZ) λr an x=>?_
 match r,x with
 | .ok (.ret v),x=>show x
 | .error e,x=>show x
def ow(u:bf)(n:Nat)(call:d8):Prop:=∀c Y L s A B sc i k cs w,Rel u c Y L s->Act c A sc n->gT A B->az u Y.ah (.ref i) w->L.h.get i= .lam k cs->146<=k->k<162->ai u c B (ci u c) Y (bv w []) s (call k [] cs L)
def U3(j:jp u n call)(l:ow u n call):Cg u n call:=λc Y L s A sc v w as ws R ac d g=>by
 show C.xN (P:=ai u c A (ci u c) Y _ s) (λk e=>?_) (C.ub (P:=ai u c A (ci u c) Y _ s) (λk e=>?_) (C.xt (P:=ai u c A (ci u c) Y _ s) (λk e=>?_) (.bE λi e=> .uM λk cs q=>?_)))
 .k_lt e;cases d;cases q:bw k 146 with
  |true=>show j c Y L s A A sc k as ws R ac (gT.refl A) g (fD.mp q)
  |false=>showλh=>absurd rfl (h 79)
 .k_lt e;cases d;show T7 R ac k g
 .k_lt e;cases d;show T9 j R ac g
 .k_lt e;show .aR (f:=λws=>bv w ws) g ?_;cases Q:bw k 146 with
  |true=>showλh=>absurd rfl (h 80)
  |false=>
   cases m:bw k 162 with
   |true=>show l c Y L s A A sc i k cs w R ac (gT.refl A) d q (Gs λh=>nomatch Q.symm.trans (fD.mpr h)) (fD.mp m)
   |false=>showλh=>absurd rfl (h 80)
end
end
section
open Builtin Builtin.ObjectAttr Builtin.Getset_descriptor
variable{prog:eP}{w:b3}{A:b2}{E:aj->ax->Prop}{s:ax}{K:dQ}{x ac:ar}{ha:Obj}{name:Str}{v:aj}
def U4(X:K.In s.heap)(c:s.heap.get? x=U ha)(ai:ha.cls= .ref ac/\ha.dict=aa/\ha.data= .fields vs)
 (am:iw K (.ref ac) "__setattr__"=U (U (.builtin "object.__setattr__")))(n:uI K ac=U cd)(u:cd.hasDict=ae)(B:H1 (.ref x) "__setattr__" cd.mro=pure ())
 (O:eY (aN prog w) s.heap (mR (.ref ac) (.type "object")) ae)(T:xL K ac name=U aa)
 (l:∀ag t,(∀b o,b≠x->s.heap.get? b=U o->ag.get? b=U o)->(∃a4,ag.get? x=U a4/\a4.cls=ha.cls/\a4.data=ha.data)->Q () {s with heap:=ag,toks:=t}):
 aQ (aN prog w) A (B3 (.ref x) name v) Q E s:=by
 show x03 ai λf i k=>?_;obtain⟨bZ,g,d,t,os⟩:=s;dsimp only at X c l;haveI I:InstAt bZ x ha ac aa:=⟨c,f,by delta notCls;rw[k],by rw[i];trivial⟩
 show set_plain X I am ?_;haveI S:=PySem.F.store_object;haveI sub:eY (aN prog w) bZ (mO (.ref x) (.type "object")) ae:=I.type.andThen O;show sZ S.slot.plain S.entry (@check_slot (aN prog w) _ _ _ "object.__setattr__" "object" "__setattr__" (.ref x) [.str name t,v] [] _ S.kind S.split sub (S.args (.ref x) (.str name t) v) ?_);show x12 (Option.bind_eq_some_iff.mp T) λp M z=>?_;haveI y:eY (aN prog w) bZ (Dd (.ref ac)) cd.mro:=(TG X n).andThen .now;haveI R:eY (aN prog w) bZ (storeTaker? p) aa:=by
  cases p with
  |none=>show .now
  |some a=>
   show x12 (we.mp z) λb j V=>?_;cases b
   .show(looks_takesIn X j).andThen .now
   .cases V
 rw[osa_eq,refuse_eq];show aw (aw (I.type.at (aw (y.here ?_))));rw[B];show aY (aw (I.type.at (aw ((Az X M).at (aw (R.here ?_))))));obtain⟨F,q,H,W⟩:=ha;dsimp only at f i k;subst f i k;haveI P:=er bZ (o:=Ba) rfl;haveI P2:=c2 (h:=bZ) Ba c;haveI m:bZ.objs.size≠x:=jX (ee c);show aw (aY (aw (aw (RW c (aw ((TG X n).here ?_))))));rw[u];show aw (AG (aw (SX P2 (aY (a:=U bZ.objs.size) (aw (aY (aw ?_)))))));haveI D:=(kH (bZ.push Ba) (λo=>{o with dict:=U bZ.objs.size}) (cX m)).trans P
 haveI aI:=lG (λo=>{o with dict:=U bZ.objs.size}) P2 rfl
 haveI r:=lG (Obj.putName name (Ae w.params name) (.str name (t+1)) v) D rfl;show aw (aw (qK (aY (aw (SU (aw (RW D ?_)))))));dsimp only;rw[aRefKeyMayBeTheName_at,show((!(#[]:Array hF).any (·.key.isStr name)&&(#[]:Array hF).any (·.refKey)))=af by simp]
 show wpAny_updatePart D (aw (Q0 r rfl (aY ?_)));show l _ _ (λb o j e=>?_) ⟨_,(kH _ _ m).trans aI,rfl,rfl⟩;show(kH _ _ (jX (ee e))).trans ((kH _ _ (cX j)).trans (c2 _ e))
end
section
open PySem.SeqAt
section
variable{prog:eP}{w:b3}{A:b2}{E:aj->ax->Prop}{s:ax}{K:dQ}{x ac:ar}{ha:Obj}{v v0:aj}{vs:Array aj}
def Wt(bD:zb K M s.heap ac)(j:s.heap.get? x=U ha)(c:ha.cls= .ref ac)(i:Q () s):aQ M A (qL "ValueError.__init__" ⟨[.ref x,v], []⟩) Q E s:=by
 haveI F:=FC;haveI T:eY M s.heap (m6 (.ref x)) (.ref ac):=c▸(tO j).andThen .now;haveI f:=bD.has "ValueError";haveI p:=F.noStar;obtain⟨ay,q,N,av,B,S,sub,l,o,ky,n,k,r,dF,gd,m,c,dU⟩:=bD.obj;obtain⟨bZ,g,d,t,os⟩:=s;show aw ((T.andThen f).here ?_)
 repeat(first |show i |lk)
def Yy(bD:zb K (aN prog w) s.heap ac)(k:s.heap.get? x=U ha)(p:ha.cls= .ref ac)(c:ha.data= .fields vs)(j:vs[0]? =U v0)
 (l:∀ag,(∀b o,b≠x->s.heap.get? b=U o->ag.get? b=U o)->ag.get? x=U (ha.mapFields (·.setIfInBounds 0 (.ref s.heap.objs.size)))->Q .none {s with heap:=ag}):
 aQ (aN prog w) A (bv (.builtin "ValueError.__init__") [.ref x,v]) Q E s:=by
 have F:=FC;show qZ (sZ F.init.plain F.initEntry (Wt bD k p ?_));obtain⟨bZ,g,d,t,os⟩:=s;have r:∀{Q:aj->ax->Prop} {A:b2} {E:aj->ax->Prop},Q (.ref bZ.objs.size) ⟨bZ.push (xV [v]),g,d,t,os⟩->aQ (aN prog w) A (newTuple [v]) Q E ⟨bZ,g,d,t,os⟩:=λq=>ip q (by size_fits)
 show aw (r ?_);have f:=c2 (xV [v]) k;have n:=wt c (·.setIfInBounds 0 (eU bZ.objs.size));show aw (aw (fB f c j (aw (o4 f c (sU.mp j).1 ?_))));have i:=l _ (λb o m e=>(kH _ _ (cX m)).trans (c2 _ e)) (lG (wK (·.setIfInBounds 0 (eU bZ.objs.size))) f (qG n));cases v0<;>first |show aY (aY i) |show HC (aY i)
end
section
variable{c:aV}{s:ax}{A:b2}{n:Nat}{bA:Type}{P:gR bA}
structure Fp(u:bf)(c:aV)(Y:b1)(L:bU)(s:ax)(m:Str->Option aj)(i k:Nat)(p:ar×ar)(v:a3)(w:aj)(t:ar):Prop where
 ns:s.heap.Ns c.env.locals m
 Pf:m (ay u.ao.dB.self)=U (.ref p.1)
 re:m (ay u.ao.dB.reason)=U w
 at_:br Y.ah i p
 q:L.h.get i= .ig k ae
 bJ:iF k=ae
 has:e4 Y.own s.heap i p.1 (Cj (cP k) t)
 v:az u Y.ah v w
def ai.mk(am:sc.names.lookup (ay u.ao.dB.self)=U .local)(o:sc.names.lookup (ay u.ao.dB.reason)=U .local)(R:Rel u c Y L s)(ac:Act c A sc n)
 (h:∀m i k p v w a,Fp u c Y L s m i k p v w a->ai u c A P Y t s (.next (L.st i (.ig k b)))):ai u c A P Y t s (C.fh u.ao b [] call L):=.ht λi q=> .a7 λv j=> .p1 λk B Q=> .bV λl=>by k_lt l;show x12 R.here λm g fr=>?_;obtain⟨w,hw,p,d,rfl⟩:=fr.loc _ _ q (ac.sc.loc _ am);show x12 (fr.loc _ _ j (ac.sc.loc _ o)) λW r f=>?_;rw[C.gP];show match R.at d Q with | .raw t bJ a=>h m i k p v W t ⟨g,hw,r,d,Q,bJ,a,f⟩
def Wu(d:own a=U i)(f:a≠aq)(k:∀b o,b≠a->h.get? b=U o->ag.get? b=U o):Keeps own (U i) aq h ag:=⟨λb o J c e=>k b o (λq=>by k_lt q;show c.elim (λc=>nomatch d.symm.trans c) λc=>c d) e,λm aD=>aD.casesOn λo aD=>aD.casesOn λes aD=>aD.casesOn λep aD=>aD.casesOn λe r=>⟨o,es,ep,k _ o (cX f) e,r⟩⟩
def Fp.eM{m:Str->Option aj}{i k:Nat}{p:ar×ar}{v:a3}(x:Fp u c Y L s m i k p v w t)(R:Rel u c Y L s)(K:∀b o,b≠p.1->s.heap.get? b=U o->ag.get? b=U o)
 (d:rW Y.own ag i p k b):oM u c Y (L.st i (.ig k b)) {s with heap:=ag,toks:=tk}:=by
 haveI O:=x.has.w;show⟨Y, .refl _,R.eM (a4:= .ig k b) (R.low _ _ O).2 (by rw[x.q];nofun) (Wu O (R.loc O) K) x.at_ d λb o g e=>?_⟩
 by_cases f:b=p.1
 .k_lt f;show d.casesOn (λJ J a=>⟨_,a.g⟩) λJ J J a J J J J=>⟨_,a.g⟩
 .show⟨o,K b o f e⟩
def xF(R:Rel u c Y L s)(ac:Act c A sc n)(am:sc.names.lookup (ay k)=U .local)(d:s.heap.Ns c.env.locals m)(e:m (ay k)=U w)(h:Q w s):aQ M A (b5 (.Name (ay k) p) c.env) Q E s:=AR (P8 ac.kind (ac.sc.loc _ am) d e h) (R.st.qi k)
def ack:m6 (.type "ValueError")=pure (.type "type"):=by k_go
def acl:Rv "ValueError"=af:=by z_go
def ad8:xo (.builtin "ValueError.__init__")=ae:=by z_go
def aab{K:dQ}:findCls K (.type "ValueError") (.type "type") "__init__"=U (.val (.builtin "ValueError.__init__")):=by k_go
def aac:Ai (2+0) [(af,x),(af,y)] []=ae:=by delta Ai;simp
def acm(c:e.endLine=p.line):Ap ae o env e p=pure p:=by delta Ap;rw[c];simp
def Yz(R:Rel u c Y L s)(h:Q (.builtin "ValueError.__init__", []) {s with toks:=s.toks+1}):aQ u.M A (tE (.type "ValueError") "__init__" pl) Q E s:=by show x13 R.fr λm F N g=>?_;haveI e:findCls u.K (.type "ValueError") (.type "type") "__init__"=U (.val (.builtin "ValueError.__init__")):=aab;haveI d:Rv "ValueError"=af:=acl;haveI f:xo (.builtin "ValueError.__init__")=ae:=ad8;haveI X:=R.st.fs;haveI T:=method_type (prog:=u.prog) (w:=u.w) (A:=A) (E:=E) (s:=s) (K:=u.K) (name:="__init__") (v:= .builtin "ValueError.__init__") (T:="ValueError") (pl:=pl) (Q:=Q) F X ack d e f;show T h
def aad{bh bz c0 gy jd mi:Pos}(am:sc.names.lookup (ay u.ao.dB.self)=U .local)(d:sc.names.lookup (ay u.ao.dB.reason)=U .local)(f:sc.names.lookup ("ValueError":Str)=U .globalImplicit)(l:bz.endLine=jd.line)
 (j:∀env,swapsWith (.Call (.Attribute (.Name "ValueError" bh) "__init__" bz) [.Name (ay u.ao.dB.self) c0, .Name (ay u.ao.dB.reason) gy] [] jd) aa mi.line env=pure af):
 eD u sc n call (.Expr (.Call (.Attribute (.Name "ValueError" bh) "__init__" bz) [.Name (ay u.ao.dB.self) c0, .Name (ay u.ao.dB.reason) gy] [] jd) mi) (C.fh u.ao ae):=λc Y L s A R ac a9=>by
 show .mk am d R ac λm i k p v w t x=>?_;rw[exec_Expr c.env _ mi (by delta Tu;rw[ac.kind];rfl) (j c.env)]
 show .dm λr=>aF ?_;change aG _ _ (b5 (.Name "ValueError" bh) c.env>>=λo=>fO bz.atName>>=λJ=>AT (.Name "ValueError" bh) "__init__" bz jd c.env o (2+0) [(af,b5 (.Name (ay u.ao.dB.self) c0) c.env),(af,b5 (.Name (ay u.ao.dB.reason) gy) c.env)] []) _ _ _;show aF (bo (FZ ac.kind (ac.sc.bG _ f) ?_));delta AS;rw[ac.globals,ac.builtins];show aw ((w3 R.fs R.st.DQ.1).here (aw ((w3 R.fs R.st.DQ.2).here (aY (aF (fX ?_))))));delta AT;rw[aac,acm l];show aF (cO (bo (Yz R ?_)));show aF (bL (AV (P:=λJ=>True) rfl (λh J=>Cf (M:=u.M) (h:=h) nofun) (GD (Ak (bo (xF (R.toks _) ac am x.ns x.Pf (Ak (bo (xF (R.toks _) ac d x.ns x.re ?_)))))))))
 show bL ⟨trivial,bo (Yy (zc (R.toks _).fs (R.st.exc k x.bJ)) x.has.g rfl rfl rfl λag K g=>?_)⟩;show bo (He ⟨x.eM R K (.raw _ x.bJ ⟨x.has.w,g⟩),rfl⟩)
def aae(am:sc.names.lookup (ay u.ao.dB.self)=U .local)(f:sc.names.lookup (ay u.ao.dB.reason)=U .local)
 (I:∀env,tj [.Attribute (.Name (ay u.ao.dB.self) bh) (ay u.ao.dB.reason) bz] (.Name (ay u.ao.dB.reason) c0) gy.line env=pure af)(aI:∀env,mJ [.Attribute (.Name (ay u.ao.dB.self) bh) (ay u.ao.dB.reason) bz] (.Name (ay u.ao.dB.reason) c0) env=pure aa):
 eD u sc n call (.Assign [.Attribute (.Name (ay u.ao.dB.self) bh) (ay u.ao.dB.reason) bz] (.Name (ay u.ao.dB.reason) c0) gy) (C.fh u.ao af):=λc Y L s A R ac a9=>by
 show .mk am f R ac λm i k p v w t x=>?_;show .dm (.step (λQ=>aY) ?_);show .step (a:=w) (λQ h=>xF R ac f x.ns x.re h) ?_;show .step (λQ=>aY) (ai.qb (t:=oj (.Attribute (.Name (ay u.ao.dB.self) bh) (ay u.ao.dB.reason) bz) c.env w) ?_);showλO=>aF (cO (bo (xF R ac am x.ns x.Pf (aF (fX (aF (cO (bo ?_))))))));rw[R.st.Ok];haveI bD:=zc (M:=u.M) R.fs (R.st.exc k x.bJ);obtain⟨ay,q,N,av,B,T,sub,E,S,ky,P,D,z,dF,gd,y,r,dU⟩:=bD.obj;haveI d:=bD.has "object";rw[show[nV "ValueError", .type "Exception", .type "BaseException", .type "object"].contains (.type "object")=ae by z_go]at d
 show U4 R.fs x.has.g ⟨rfl,rfl,rfl⟩ bD.vT r rfl (SJ (l:= .ref _::B) _ dU) d bD.Pd λag t K aD=>aD.casesOn λa4 aD=>aD.casesOn λg aD=>aD.casesOn λo j=>kO (x.eM R K (.made a4 _ x.bJ ⟨x.has.w,g⟩ o j rfl rfl))
def Rel.nK(R:Rel u c Y L s){b:ar}{i:Nat}(h:Y.own b=U i):c.z.Z b=aa:=by
 cases q:c.z.Z b with
 |none=>rfl
 |some o=>show nomatch h.symm.trans (R.frozen b o q).2
def YA(h:b4 u sc n call e f):eD u sc n call (.Raise (U e) aa p) (C.yy f):=λc Y L s A R ac a9=>by
 show .dm λE=>aF (aF (a0 (ai.pN (P:=qv u c) (h c Y L s A R ac) (λv w j z g S r=> .h_ λbZ=> .bE λi e=> .p1 λk b q=>?_) E) (λw g x=>aF (fX (bL x))) λJ J x=>x));k_lt e;cases b with
 |true=>show .stuck
 |false=>
  obtain⟨p',D,rfl⟩:=r
  match S.R.at D q with
  | .made b7 vs bJ a m d l B=>
   haveI bD:=zc (M:=u.M) S.R.fs (S.R.st.exc k bJ);haveI y:=S.R.drop (S.R.low _ _ a.w).2 (by rw[q];nofun)
   haveI t:eY u.M g.heap (m6 (.ref p'.1)) (.ref (cP k)):=m▸(tO a.g).andThen .now;haveI it:eY u.M g.heap (isType (.ref p'.1)) af:=(tO a.g).andThen (by rw[d];show .now)
   haveI o:=bD.has "BaseException";rw[show[nV "ValueError", .type "Exception", .type "BaseException", .type "object"].contains (.type "BaseException")=ae by z_go]at o
   change ai _ _ _ _ _ _ _ (z.put i .nul (.exc k));rw[C.gP];showλJ=>bo (aw (aY (aw (jn ?_))));show aw (aw (it.here (aY ?_)));show aw ((t.andThen o).here (aY ?_));show aw (it.here ?_);show aw (aw (t.here (aw (bD.typ.here (aY ?_)))));show aw (aw (fB a.g d l (aY ?_)));show wpAny_raiseNew_none (ac.ov S.R bZ) ⟨⟨j.ah,h8 j.own i⟩,p'.1,⟨fj _,y⟩,rfl, .new vs ⟨b7,a.g,m,bJ,d,B,qS a.w,S.R.nK a.w⟩ l⟩
end
end
section
open PySem.SeqAt
variable{n:Nat}{env:Env}
def YB{M:fa}{A:b2}{E:aj->ax->Prop}{s:ax}{vs:List aj}{m:Sem aj}{Q:aj->ax->Prop}(h:aG M A m Q E s):aG M A (operate vs m) Q E s:=aF (cO (a0 h (λJ J x=>aF (kO (bL x))) λJ J x=>x))
def U5{a b d:aT}{o O:jx}{p:Pos}{f g k:cw}(B:qQ O d=af)(h:b4 u sc n call a f)(ag:b4 u sc n call b g)(K:b4 u sc n call d k):gJ u sc n call (.Compare a [o,O] [b,d] p) (C.ur u.ao o O f g k):=λc Y L s A R ac=>by
 change ai _ _ _ _ _ (b5 a c.env>>=λl=>testChain p l [o,O] (hE [o,O] [b,d] [b5 b c.env,b5 d c.env])) _ _;rw[show hE [o,O] [b,d] [b5 b c.env,b5 d c.env]= [b5 b c.env,b5 d c.env] by simp only[hE,sV B]]
 unfold C.ur fU;rw[mP];show .dD (h c Y L s A R ac) λv w E aI D S z=>?_;rw[mP];show .dD (.gS (ag c E aI D A S.R ac)) λV W bp bn a5 j x=> .dm ?_;cases q:C.compare u.ao.F o bn.h v V with
 |none=>show .stuck
 |some r=>
  showλy=>aF (cO (bo<|qT j.R ac.cl (z.bR j.le) x q λtk=>aF (kO (aF (cO (mH ?_))))));cases r with
  |false=>show bL ⟨⟨bp,(j.R.toks tk).ff⟩,rfl⟩
  |true=>haveI m:cW (fU ((k [] call bn).bind λi L=>C.a7 (C.compare u.ao.F O L.h V i) 91 λb=> .ok (C.gb b) L)):=y;change aG _ _ _ (sI u c bp (fU ((k [] call bn).bind λi L=>C.a7 (C.compare u.ao.F O L.h V i) 91 λb=> .ok (C.gb b) L))) (dH u c bp (fU ((k [] call bn).bind λi L=>C.a7 (C.compare u.ao.F O L.h V i) 91 λb=> .ok (C.gb b) L))) _;unfold fU at m⊢;rw[mP]at m⊢;show ai.dD (P:=sJ u c) (.gS (K c bp bn _ A (j.R.toks tk) ac)) (λM T c6 X Q t I=> .dm ?_) m;change ai _ _ _ _ _ _ _ (fU _);rw[CS];show .a7 λr q y=>aF (YB (bo<|qT t.R ac.cl (x.bR t.le) I q λtk=>cO (mH ⟨⟨c6,(t.R.toks tk).ff⟩,rfl⟩)))
def u2(e:aT):Bool:=eR e 23
def YC(h:u2 F=ae)(env:Env):b5 (.Call F es [] p) env=b5 F env>>=λw=>Bx p w [] (ol p (j2 es env)) []:=by cases F<;>first |rfl |cases h
def A2(h:noStar e=ae)(r:List aT)(env:Env):mN (e::r) env=(af,oj e env)::mN r env:=by cases e<;>first |rfl |cases h
def oh(e:aT):Bool:= !(eR e 8 || (eR e 9 || eR e 10))
def w9(h:oh e=ae)(t:aT)(l:Nat)(env:Env):tj [t] e l env=pure af:=by cases e<;>first |rfl |cases h
def Hw(h:oh e=ae)(l:Nat)(env:Env):swapsWith e aa l env=pure af:=by cases e<;>first |rfl |cases h
def l5(e:aT):Bool:= !eR e 7
def rb(h:l5 e=ae)(env:Env)(x:aj):o0 e env x=pure x:=by cases e<;>first |rfl |cases h
def rc(h:l5 e=ae)(o:jx):qQ o e=af:=by cases e<;>first |rfl |cases h
def K3(e:aT):Bool:= !(eR e 0 || (eR e 3 || (eR e 5 || eR e 15)))
def U6(h:K3 e=ae)(env:Env):m5 e env (b5 e env)=(do let v<-b5 e env;fO e.pos;fo [v] (xY v)):=by cases e<;>first |rfl |cases h
noncomputable def v_{α:Type}(z:α)(k:List aT->bW->Nat->α)(o:Option aT->Option aT->α)(e:aT):α:=aT.casesOn (motive_1:=λJ=>α) e (λO l J=>k l default (O.ctorIdx)) (λJ J J=>z) (λa J b J=>k [a,b] default 0) (λJ a J=>k [a] default 0) (λJ J J J=>z) (λa b c J=>k [a,b,c] default 0) (λJ J J=>z) (λJ J J=>z)
 (λa g s J=>k (a::g.flatMap λc=>c.target::c.iter::c.ifs) s 0) (λJ J J J=>z) (λJ J J J J=>z) (λJ J J J=>z) (λJ J=>z) (λJ J=>z) (λJ J=>z) (λa J l J=>k (a::l) default 0) (λa l J J=>k (a::l) default 0) (λJ J J J=>z) (λJ J=>z) (λJ J J=>z) (λa J J=>k [a] default 0)
 (λa b J=>k [a,b] default 0) (λJ J=>z) (λJ J=>z) (λl J=>k l default 0) (λl n J=>k l default n) (λa b J J=>o a b)
noncomputable def cs(e:aT):List aT:=v_ [] (λl J J=>l) (λJ J=> []) e
noncomputable def CZ(e:aT):Bool:= !(eR e 16&&aK (cs e).length 1)
def I8(h:CZ o=ae)(m:Str)(env:Env)(w:Sem aj):wJ o m env w=w:=by
 cases(o)with
 |Call f l ks p=>cases(l)with
  |nil=>cases h
  |cons a l=>cases(f)<;>rfl
 |_=>rfl
noncomputable def Ck(t e:aT):Bool:= !eR t 24&&(!(eR t 25&&eR e 25) || ((cs t).any (λt=> !u2 t) || (cs e).all (wL 8)))
theorem Hi{α bA:Type}{f:α->Option bA}:∀{l:List α},(∃a∈l,f a=aa)->(l.filterMap f).length<l.length
 |a::l,h=>by
  rw[s2];cases q:f a with
  |none=>show QF (List.length_filterMap_le f l)
  |some b=>
   show x12 h λx c e=>?_;show a8 (bX.mp c) (λo=>?_) λc=>?_
   .k_lt o;rw[q]at e;cases e
   .show z4 (Hi ⟨x,c,e⟩)
def tV(h:eR e 25=ae):∃l k p,e= .Tuple l k p:=aiv (motive_1:=λe=>∃l k p,e= .Tuple l k p) e (iN h) λl k p=>⟨l,k,p,rfl⟩
def OF(h:eR t 24=af)(ag:(eR t 25&&eR e 25)=af)(env:Env):mJ [t] e env=pure aa:=by
 cases(t)with
 |Tuple nI k p=>clear h;cases(e)<;>first |rfl |cases ag
 |List nI p=>cases h
 |_=>rfl
def Ma(h:(∃x∈nI,∀n r,x= .Name n r->(env.kindOf n==U .local)=af)\/vs.all (wL 8)=ae):mJ [.Tuple nI k p] (.Tuple vs j q) env=pure aa:=by
 delta mJ;dsimp only;show iteE (λ_=>?_) λ_=>?_
 .rfl
 show iteE (λ_=>?_) λ_=>?_
 .rfl
 show iteE (λ_=>?_) λ_=>?_
 .rfl
 .rename_i bb bM cz;show a8 h (λh=>?_) λh=>?_
  .show x12 h λx en hZ=>?_;show absurd ?_ cz;rw[kJ];show .inl (bne_iff_ne.mpr (ey (Hi ⟨x,en,?_⟩)));clear en bb bM cz;cases(x)with
   |Name n p=>dsimp only;rw[hZ n p rfl];rfl
   |_=>rfl
  .rw[if_pos h]
def A3(h:Ck t e=ae)(env:Env):mJ [t] e env=pure aa:=by
 show x02 (dx.mp h) λd c=>?_;cases q:(eR t 25&&eR e 25)with
 |false=>show OF (kI.mp d) q env
 |true=>show x02 (dx.mp q) λf Q=>?_;show x31 (tV f) λT k p E=>?_;show x31 (tV Q) λvs j r g=>?_;clear h d q f Q;rw[E,g]at c⊢;haveI c:(T.any (λt=> !u2 t) || vs.all (wL 8))=ae:=c;show Ma ((kJ.mp c).imp (λh=>(wy.mp h).elim λx y=>⟨x,y.1,λn r e=>nomatch(congrArg (!u2 ·) e).symm.trans y.2⟩) id)
def J5(sc:bW)(t e:aT):Bool:=Ck t e || (eR t 25&&(cs t).any λx=>C.bs (nameOf? x) af λn=>sc.names.lookup n==U .cell)
def Ub(h:J5 sc t e=ae)(env:Env)(S:jI sc env):mJ [t] e env=pure aa:=by
 show a8 (kJ.mp h) (λc=>?_) λc=>?_
 .show A3 c env
 .show x02 (dx.mp c) λQ d=>?_;cases q:eR e 25 with
  |false=>show OF (show aK t.ctorIdx 24=af from(iN Q).symm▸rfl) (by rw[q,RT]) env
  |true=>show x31 (tV Q) λT k p E=>?_;show x31 (tV q) λvs j r g=>?_;clear h c q Q;rw[E]at d⊢;rw[g];show Ma (.inl ((wy.mp (show(T.any λx=>C.bs (nameOf? x) af λn=>sc.names.lookup n==U .cell)=ae from d)).elim λx y=>⟨x,y.1,λn r e=>by haveI f:=y.2;rw[e]at f;rw[S.bt n (beq_iff_eq.mp f)];rfl⟩))
def U7(h:(oh e || !eR t 23)=ae)(l:Nat)(env:Env):tj [t] e l env=pure af:=by
 show a8 (kJ.mp h) (λc=>?_) λc=>?_
 .show w9 c _ _ _
 .clear h;change swapsWith e (U t) l env=_;delta swapsWith;split at⊢
  .cases t<;>first |rfl |cases c
  .rfl
end
section
open PySem.SeqAt
open Mine.C (X)
noncomputable section
noncomputable def sN:aT:= .Name (Str.mk #[]) ⟨0,0,0,0⟩
def dn(l:List aT):aT:=l.headD sN
noncomputable def eG(l:List b_):b_:=l.headD (.Pass ⟨0,0,0,0⟩)
def cc(e:aT):aT:=dn (cs e)
def c4(e:aT):aT:=dn (cs e).tail
def gg(e:aT):aT:=dn (cs e).tail.tail
def lh(e:aT):bW:=v_ default (λJ s J=>s) (λJ J=>default) e
def zz(e:aT):Nat:=v_ 0 (λJ J k=>k) (λJ J=>0) e
def so(e:aT):Option aT:=v_ aa (λJ J J=>aa) (λa J=>a) e
def zd(e:aT):Option aT:=v_ aa (λJ J J=>aa) (λJ a=>a) e
noncomputable def ft{α:Type}(k:List aT->List b_->List b_->List iq->α)(s:b_):α:=SO (motive_2:=λJ=>α) s (λJ J J J J J J J J J=>k [] [] [] []) (λJ J J J J J J J J J=>k [] [] [] []) (λJ J J J J J J J J J J=>k [] [] [] []) (λv J=>k v.toList [] [] []) (λl J=>k l [] [] []) (λl v J=>k (l++ [v]) [] [] [])
 (λJ J J J J J J=>k [] [] [] []) (λt J v J=>k [t,v] [] [] []) (λJ J J J J=>k [] [] [] []) (λt i b o J=>k [t,i] b o []) (λJ J J J J=>k [] [] [] []) (λt b o J=>k [t] b o []) (λt b o J=>k [t] b o []) (λJ J J=>k [] [] [] []) (λJ J J=>k [] [] [] []) (λJ J J=>k [] [] [] []) (λe J J=>k e.toList [] [] [])
 (λb h J f J=>k [] b f h) (λJ J J J J=>k [] [] [] []) (λJ J J=>k [] [] [] []) (λJ J=>k [] [] [] []) (λJ J J J=>k [] [] [] []) (λJ J=>k [] [] [] []) (λJ J=>k [] [] [] []) (λe J=>k [e] [] [] []) (λJ=>k [] [] [] []) (λJ=>k [] [] [] []) (λJ=>k [] [] [] [])
def cI(s:b_):aT:=ft (λl J J J=>dn l) s
def ek(s:b_):aT:=ft (λl J J J=>dn l.tail) s
def e0(s:b_):List b_:=ft (λJ b J J=>b) s
def gh(s:b_):List b_:=ft (λJ J b J=>b) s
def mD(s:b_):List iq:=ft (λJ J J h=>h) s
def bZ{α:Type}(z:α)(k:Pos->List b_->Pos->α)(l:List iq):α:=match l with
 | .ExceptHandler t _ b p::_=>k (t.getD sN).pos b p
 | []=>z
def iG(sc:bW)(k:Nat)(d:iV):Bool:=sc.names.lookup (ay k)==U d
def NF(sc:bW)(k:Nat):Bool:=iG sc k .cell || iG sc k .free
noncomputable def C0(sc bB:bW):Bool:=bB.names.all λx=> !(x.2== .free) || (sc.names.lookup x.1==U .cell || sc.names.lookup x.1==U .free)
def C1(sc bB:bW):Bool:=bB.kind== .function&&(bB.names.all (λx=> !(x.2== .cell)&&bB.names.lookup x.1==U x.2)&&C0 sc bB)
def ze(bB:bW)(bk:List Nat):Bool:=bk.all λn=>bB.names.any λx=>x.1==ay n&&x.2== .free
def ET(m:Nat)(b:je):Bool:=match ql b with |some x=>ay m==x |none=>ae
def afW(l:List aT):Bool:=aK (dn l).pos.line (dn l.tail).pos.line
def EU(sc:bW)(t e:aT)(a b:Nat):Bool:=eR e 25&&(aK (cs e).length 2&&((cs e).all noStar&&(!(cs e).all (wL 8)&&(!(cs e).all (RX 8)&&(afW (cs t)&&(iG sc a .local&&(iG sc b .local&& !(ay a==ay b))))))))
noncomputable def pA{α:Type}(l:List α):Bool:=l.casesOn af λJ J=>ae
structure W where
 e:aT->aT
 s:b_->b_
 l:List b_->List b_
 a:List aT->List aT
 h:List iq->List iq
 o:Option aT->Option aT
 de:bW->aT->Bool
 kt:bW->aT->Bool
 qA:bW->aT->Bool
 ks:bW->b_->Bool
 e1:bW->List b_->Bool
 ka:bW->List aT->Bool
 EV:bW->List aT->Bool
 kb:Bool->bW->List aT->Bool
 EW:Bool->bW->List aT->Bool
 zA:bW->List iq->Bool
 qz:bW->Option aT->Bool
 OG:Nat->bW->aT->Bool
 lo:Option Nat
 bK:Bool
 bh:Option Nat
 bz:Option (Nat×Nat)
 c0:Option (Nat×Nat)
noncomputable abbrev cq{α:Type}:bW->α->Bool:=λJ J=>af
noncomputable abbrev fx{α bA:Type}:α->bW->bA->Bool:=λJ J J=>af
def ag7(f:aT->aT)(q:List aT):List aT:= [f (dn q)]
def ag8(f:aT->aT)(q:Option aT):Option aT:=U (f (q.getD sN))
def sO(q:List aT):List aT:= [sN]
def zf(f:aT->aT)(k K:bW->aT->Bool)(c:Nat->bW->aT->Bool):W:=⟨f,id,id,ag7 f,id,ag8 f,k,K,cq,cq,cq,cq,cq,λJ sc q=>k sc (dn q),λJ sc q=>K sc (dn q),cq,λsc q=>k sc (q.getD sN),c,aa,af,aa,aa,aa⟩
def DV(f:aT->aT)(K:bW->aT->Bool)(k:Nat)(sc:bW)(q:aT):Bool:=K sc q&&(oh (f q)&&(Ck sN (f q)&&iG sc k .local))
def im(f:aT->aT)(k:bW->aT->Bool):W:=zf f k (λsc q=>k sc q&&K3 (f q)) (DV f k)
def sp(f:aT->aT)(k K:bW->aT->Bool):W:=zf f k K (DV f k)
def qB(f:aT->aT)(k:bW->aT->Bool)(lo:Option Nat)(c0:Option (Nat×Nat)):W:=⟨f,id,id,sO,id,id,cq,cq,k,cq,cq,cq,cq,fx,fx,cq,cq,fx,lo,af,aa,aa,c0⟩
def jk(f:b_->b_)(ks:bW->b_->Bool):W:=⟨id,f,id,sO,id,id,cq,cq,cq,ks,cq,cq,cq,fx,fx,cq,cq,fx,aa,af,aa,aa,aa⟩
def zB(f:List b_->List b_)(k:bW->List b_->Bool):W:=⟨id,id,f,sO,id,id,cq,cq,cq,cq,k,cq,cq,fx,fx,cq,cq,fx,aa,af,aa,aa,aa⟩
noncomputable def sP(f:List aT->List aT)(ka K:bW->List aT->Bool)(kb k:Bool->bW->List aT->Bool)(bK:Bool)(bh:Option Nat)(bz:Option (Nat×Nat)):W:=⟨id,id,id,f,id,id,cq,cq,cq,cq,cq,ka,K,kb,k,cq,cq,fx,aa,bK,bh,bz,aa⟩
def Fq(f:List iq->List iq)(k:bW->List iq->Bool):W:=⟨id,id,id,sO,f,id,cq,cq,cq,cq,cq,cq,cq,fx,fx,k,cq,fx,aa,af,aa,aa,aa⟩
noncomputable abbrev eF{α:Type}:bW->α->Bool:=λJ J=>ae
noncomputable abbrev vY{α bA:Type}:α->bW->bA->Bool:=λJ J J=>ae
def Pg:W:=⟨id,id,id,sO,id,id,eF,eF,eF,eF,eF,eF,eF,vY,vY,eF,eF,fx,aa,af,aa,aa,aa⟩
def Ph:W:=⟨id,id,id,sO,id,λJ=>aa,cq,cq,cq,cq,cq,cq,cq,fx,fx,cq,eF,fx,aa,af,aa,aa,aa⟩
def Fs(e t i:W)(I:aT->List aT)(a6:bW->aT->Bool)(bk:List Nat):W:=zf (λq=> .ListComp (e.e (cc q)) [⟨t.e (c4 q),i.e (gg q),I q,0⟩] (lh q) q.pos)
  (λsc q=>l5 (i.e (gg q))&&(i.de sc (gg q)&&(t.qA (lh q) (c4 q)&&(e.de (lh q) (cc q)&&(a6 (lh q) q&&(C1 sc (lh q)&&ze (lh q) bk))))))
  cq
  (λk sc q=>l5 (i.e (gg q))&&(i.de sc (gg q)&&(t.qA (lh q) (c4 q)&&(e.de (lh q) (cc q)&&(a6 (lh q) q&&(C1 sc (lh q)&&(ze (lh q) bk&&iG sc k .local)))))))
end
end
section
open PySem.SeqAt
open Mine.C (X)
variable{n:Nat}{d:cw}{sc bB:bW}
structure a1(u:bf)(n:Nat)(call:d8)(w:W)(d:cw):Prop where
 e:∀sc q,w.de sc q=ae->b4 u sc n call (w.e q) d
 t:∀sc q,w.kt sc q=ae->gJ u sc n call (w.e q) d
 g:∀sc q,w.qA sc q=ae->gU u sc n call (w.e q) d
 s:∀sc q,w.ks sc q=ae->eD u sc n call (w.s q) d
 l:∀sc q,w.e1 sc q=ae->hx u sc n call (w.l q) d
 a:∀sc q,w.ka sc q=ae->ma u sc n call (w.a q) d/\(w.a q= []->d=C.eC)
 gl:∀sc q,w.EV sc q=ae->pU u sc n call (w.a q) d
 b:∀a sc q,w.kb a sc q=ae->qa u sc n call a (w.a q) d
 Pi:∀a sc q,w.EW a sc q=ae->pR u sc n call a (w.a q) d
 h:∀sc q,w.zA sc q=ae->qd u sc n call (w.h q) d
 o:∀sc q,w.qz sc q=ae->k8 u sc n call (w.o q) d
 afX:∀k sc q,w.OG k sc q=ae->∀a9 p,eD u sc n call (.Assign [.Name (ay k) a9] (w.e q) p) (C.k6 (C.c5 k) d)
 lo:∀k,w.lo=U k->d=C.c5 k/\∀q,w.e q= .Name (ay k) q.pos
 bK:w.bK=ae->d=C.jt/\∀q,w.a q= []
 bh:∀b,w.bh=U b->d=C.hG (C.c5 b) C.jt/\∀q,∃p,w.a q= [.Name (ay b) p]
 bz:∀a b,w.bz=U (a,b)->d=C.hG (C.c5 a) (C.hG (C.c5 b) C.jt)/\∀q,∃bh bz,w.a q= [.Name (ay a) bh, .Name (ay b) bz]
 c0:∀a b,w.c0=U (a,b)->d=C.m9 2 (C.hG (C.c5 a) (C.hG (C.c5 b) C.jt))/\∀q,∃bh bz k p,w.e q= .Tuple [.Name (ay a) bh, .Name (ay b) bz] k p
def aM{p:Prop}(h:af=ae):p:=GB h
def cm{α:Type}{a:α}{p:Prop}(h:aa=U a):p:=Option.noConfusion rfl (heq_of_eq h)
def au{a b:Bool}(h:(a&&b)=ae):a=ae:=(dx.mp h).1
def ak{a b:Bool}(h:(a&&b)=ae):b=ae:=(dx.mp h).2
def fp{k:Nat}{d:iV}(h:iG sc k d=ae):sc.names.lookup (ay k)=U d:=beq_iff_eq.mp h
def YD{k:Nat}(h:NF sc k=ae):sc.names.lookup (ay k)=U .cell\/sc.names.lookup (ay k)=U .free:=(kJ.mp h).imp fp fp
def aaf{a b:Bool}(h:(!a || b)=ae)(c:a=ae):b=ae:=(kJ.mp h).resolve_left λq=>by rw[c]at q;cases q
def I9(h:C0 sc bB=ae):∀x∈bB.names,x.2= .free->sc.names.lookup x.1=U .cell\/sc.names.lookup x.1=U .free:=λx c e=>(kJ.mp (aaf (jS.mp h x c) (beq_iff_eq.mpr e))).imp beq_iff_eq.mp beq_iff_eq.mp
def xj(h:C1 sc bB=ae):pz sc bB:=⟨beq_iff_eq.mp (au h),λx c e=>(nomatch(kI.mp (au (jS.mp (au (ak h)) x c))).symm.trans (beq_iff_eq.mpr e)),λx c=>beq_iff_eq.mp (ak (jS.mp (au (ak h)) x c)),I9 (ak (ak h))⟩
def ug{bk:List Nat}(h:ze bB bk=ae):∀n∈bk,(ay n,h2)∈bB.names:=λn d=>by show x12 (wy.mp (jS.mp h n d)) λx c e=>?_;rw[<-beq_iff_eq.mp (au e),<-beq_iff_eq.mp (ak e)];show c
def aag{m:Nat}{b:je}(h:ET m b=ae):∀x,ql b=U x->ay m=x:=λx e=>by unfold ET at h;rw[e]at h;show beq_iff_eq.mp h
def K4{f:aT->aT}{K:bW->aT->Bool}(c:∀sc q,K sc q=ae->b4 u sc n call (f q) d):∀k sc q,DV f K k sc q=ae->∀a9 p,eD u sc n call (.Assign [.Name (ay k) a9] (f q) p) (C.k6 (C.c5 k) d):=λk sc q h a9 p=>JM (w9 (au (ak h)) _ _) (λenv J=>A3 (t:= .Name (ay k) a9) rfl env) (λJ=>rfl) (c sc q (au h)) (tI (fp (ak (ak (ak h)))))
def zg{f:aT->aT}{K i:bW->aT->Bool}{g:Nat->bW->aT->Bool}(c:∀sc q,K sc q=ae->b4 u sc n call (f q) d)(j:∀sc q,i sc q=ae->gJ u sc n call (f q) d)
 (l:∀k sc q,g k sc q=ae->∀a9 p,eD u sc n call (.Assign [.Name (ay k) a9] (f q) p) (C.k6 (C.c5 k) d)):a1 u n call (zf f K i g) d:=⟨c,j,λJ J=>aM,λJ J=>aM,λJ J=>aM,λJ J=>aM,λJ J=>aM,λJ J J h=>VG (c _ _ h),λJ J J h=>Uv (j _ _ h),λJ J=>aM,λJ J h=>UY (c _ _ h),l,λJ=>cm,aM,λJ=>cm,λJ J=>cm,λJ J=>cm⟩
def io{f:aT->aT}{k:bW->aT->Bool}(c:∀sc q,k sc q=ae->b4 u sc n call (f q) d):a1 u n call (im f k) d:=zg c (λsc q h=>XC (c sc q (au h)) (U6 (ak h))) (K4 c)
def sq{f:aT->aT}{k K:bW->aT->Bool}(c:∀sc q,k sc q=ae->b4 u sc n call (f q) d)(g:∀sc q,K sc q=ae->gJ u sc n call (f q) d):a1 u n call (sp f k K) d:=zg c g (K4 c)
def sQ{f:aT->aT}{K:bW->aT->Bool}{lo:Option Nat}{c0:Option (Nat×Nat)}(g:∀sc q,K sc q=ae->gU u sc n call (f q) d)(i:∀k,lo=U k->d=C.c5 k/\∀q,f q= .Name (ay k) q.pos)
 (c:∀a b,c0=U (a,b)->d=C.m9 2 (C.hG (C.c5 a) (C.hG (C.c5 b) C.jt))/\∀q,∃bh bz k p,f q= .Tuple [.Name (ay a) bh, .Name (ay b) bz] k p):a1 u n call (qB f K lo c0) d:=⟨λJ J=>aM,λJ J=>aM,g,λJ J=>aM,λJ J=>aM,λJ J=>aM,λJ J=>aM,λJ J J=>aM,λJ J J=>aM,λJ J=>aM,λJ J=>aM,λJ J J=>aM,i,aM,λJ=>cm,λJ J=>cm,c⟩
def jO{f:b_->b_}{ks:bW->b_->Bool}(h:∀sc q,ks sc q=ae->eD u sc n call (f q) d):a1 u n call (jk f ks) d:=⟨λJ J=>aM,λJ J=>aM,λJ J=>aM,h,λJ J=>aM,λJ J=>aM,λJ J=>aM,λJ J J=>aM,λJ J J=>aM,λJ J=>aM,λJ J=>aM,λJ J J=>aM,λJ=>cm,aM,λJ=>cm,λJ J=>cm,λJ J=>cm⟩
def nE{f:List b_->List b_}{k:bW->List b_->Bool}(h:∀sc q,k sc q=ae->hx u sc n call (f q) d):a1 u n call (zB f k) d:=⟨λJ J=>aM,λJ J=>aM,λJ J=>aM,λJ J=>aM,h,λJ J=>aM,λJ J=>aM,λJ J J=>aM,λJ J J=>aM,λJ J=>aM,λJ J=>aM,λJ J J=>aM,λJ=>cm,aM,λJ=>cm,λJ J=>cm,λJ J=>cm⟩
def wa{f:List aT->List aT}{ka K:bW->List aT->Bool}{kb k:Bool->bW->List aT->Bool}{bK:Bool}{bh:Option Nat}{bz:Option (Nat×Nat)}(l:∀sc q,ka sc q=ae->ma u sc n call (f q) d/\(f q= []->d=C.eC))(g:∀sc q,K sc q=ae->pU u sc n call (f q) d)
 (i:∀a sc q,kb a sc q=ae->qa u sc n call a (f q) d)(c:∀a sc q,k a sc q=ae->pR u sc n call a (f q) d)(m:bK=ae->d=C.jt/\∀q,f q= [])(j:∀b,bh=U b->d=C.hG (C.c5 b) C.jt/\∀q,∃p,f q= [.Name (ay b) p])
 (o:∀a b,bz=U (a,b)->d=C.hG (C.c5 a) (C.hG (C.c5 b) C.jt)/\∀q,∃bh bz,f q= [.Name (ay a) bh, .Name (ay b) bz]):a1 u n call (sP f ka K kb k bK bh bz) d:=⟨λJ J=>aM,λJ J=>aM,λJ J=>aM,λJ J=>aM,λJ J=>aM,l,g,i,c,λJ J=>aM,λJ J=>aM,λJ J J=>aM,λJ=>cm,m,j,o,λJ J=>cm⟩
def Pj{f:List iq->List iq}{k:bW->List iq->Bool}(h:∀sc q,k sc q=ae->qd u sc n call (f q) d):a1 u n call (Fq f k) d:=⟨λJ J=>aM,λJ J=>aM,λJ J=>aM,λJ J=>aM,λJ J=>aM,λJ J=>aM,λJ J=>aM,λJ J J=>aM,λJ J J=>aM,h,λJ J=>aM,λJ J J=>aM,λJ=>cm,aM,λJ=>cm,λJ J=>cm,λJ J=>cm⟩
def ag9{k:Nat}:a1 u n call Pg (C.KH k):=⟨λJ J J J J J J J J J=> .stuck,λJ J J J J J J J J J=> .stuck,λJ J J J J J J J J J J J J=> .stuck,λJ J J J J J J J J J J=> .stuck,λJ J J J J J J J J J J=> .stuck,λJ J J=>⟨λJ J J J J J J J=> .stuck,λh=>Q6 rfl (heq_of_eq h)⟩,λJ J J J J J J J J J J J J=> .stuck,λJ J J J J J J J J J J J=> .stuck,λJ J J J J J J J J J J=> .stuck,λJ J J J J J J J J J J J J J=> .stuck,λJ J J J J J J J J J=> .stuck,λJ J J=>aM,λJ=>cm,aM,λJ=>cm,λJ J=>cm,λJ J=>cm⟩
def g7:a1 u n call Ph (C.dq .none):=⟨λJ J=>aM,λJ J=>aM,λJ J=>aM,λJ J=>aM,λJ J=>aM,λJ J=>aM,λJ J=>aM,λJ J J=>aM,λJ J J=>aM,λJ J=>aM,λJ J J=>UX,λJ J J=>aM,λJ=>cm,aM,λJ=>cm,λJ J=>cm,λJ J=>cm⟩
def aC{e t i:W}{I:aT->List aT}{a6:bW->aT->Bool}{bk:List Nat}{f D g d:cw}(M:a1 u n call e f)(mt:a1 u n call t D)(m:a1 u n call i g)
 (j:∀sc q,a6 sc q=ae->(I q= []/\d=C.ju)\/∃c,I q= [c]/\gJ u sc n call c d):a1 u n call (Fs e t i I a6 bk) (C.hJ u.ao f D g d bk):=zg (λsc q h=>Ch (JU (rb (au h)) (m.e _ _ (au (ak h))) (mt.g _ _ (au (ak (ak h)))) (M.e _ _ (au (ak (ak (ak h))))) (j _ _ (au (ak (ak (ak (ak h)))))) (xj (au (ak (ak (ak (ak (ak h))))))) (ug (ak (ak (ak (ak (ak (ak h)))))))))
  (λJ J=>aM) λk sc q h a9 p=>HQ (fp (ak (ak (ak (ak (ak (ak (ak h)))))))) (JU (rb (au h)) (m.e _ _ (au (ak h))) (mt.g _ _ (au (ak (ak h)))) (M.e _ _ (au (ak (ak (ak h))))) (j _ _ (au (ak (ak (ak (ak h)))))) (xj (au (ak (ak (ak (ak (ak h))))))) (ug (au (ak (ak (ak (ak (ak (ak h)))))))))
def afY{f:aT->Option Str}{a b:aT}{A B:Str}(h:f a=U A)(i:f b=U B): [a,b].filterMap f= [A,B]:=by rw[s2,h];change A::_=_;rw[s2,i];rfl
def aah{e:aT}{a b k:Nat}{bh bz p:Pos}(h:EU sc (.Tuple [.Name (ay a) bh, .Name (ay b) bz] k p) e a b=ae)(env:Env)(S:jI sc env)(i:env.scope.kind= .function):mJ [.Tuple [.Name (ay a) bh, .Name (ay b) bz] k p] e env=pure (U [ay a,ay b]):=by
 show x31 (tV (au h)) λl j q O=>?_;k_lt O;haveI g:=ak h;haveI s:l.length=2:=C.bS (au g);haveI f:=ak g;haveI d:=ak f;haveI f1:l.all (wL 8)=af:=kI.mp (au d);haveI f2:l.all (RX 8)=af:=kI.mp (au (ak d));haveI c:=ak (ak d);haveI m:bh.line=bz.line:=C.bS (au c);haveI ka:=S.loc _ (fp (au (ak c)));haveI kb:=S.loc _ (fp (au (ak (ak c))));haveI n:(ay a==ay b)=af:=kI.mp (ak (ak (ak c)));haveI B:env.blockKind= .function:=by delta Env.blockKind;rw[i];rfl
 delta mJ;dsimp only;rw[B,s];show(if_neg (by simp)).trans ((if_neg λh=>?_).trans ?_)
 .show x12 (wy.mp h) λv o e=>?_;haveI:=jS.mp (au f) v o;cases v<;>first | (cases e;done) | (cases this;done)
 .haveI E: [ay a,ay b].eraseDups= [ay a,ay b]:=by
   haveI r:¬ay b=ay a:=λq=>by rw[q,beq_self_eq_true]at n;cases n
   simp[List.eraseDups_cons,r]
  haveI F:∀{x:Nat} {p:Pos},env.kindOf (ay x)=U .local->p.line=bh.line->(if(env.kindOf (ay x)==U iV.local&&p.line==bh.line)=ae then U (ay x)else aa)=U (ay x):=λh i=>if_pos (by rw[h,i,beq_self_eq_true,beq_self_eq_true];rfl)
  rw[afY (F ka rfl) (F kb m.symm),E,f1,f2];rfl
end
section
open PySem.SeqAt
open Mine.C (X)
noncomputable section
def sK(e:aT):aT:=dn (cs e).tail.tail.tail
def DW(e:aT):Bool:=aK (zz e) 0
def vu(k:Nat):jJ:=G.yX.get ⟨[], [], [], [],af, .nil, .no⟩ k
noncomputable def ad9(o:hp):Bool:=o== .Add || o== .Sub
def uD(a r:W)(q:List aT):List aT:=a.e (dn q)::r.a q.tail
def ag_(t e:W)(sc:bW)(q:b_):Bool:=((oh (e.e (ek q)) || !eR (t.e (cI q)) 23)&&(J5 sc (t.e (cI q)) (e.e (ek q))&&(noStar (t.e (cI q))&&(t.qA sc (cI q)&&e.de sc (ek q))))) ||
 (bs t.lo af (λk=>e.OG k sc (ek q)) || bs t.c0 af λA=>EU sc (t.e (cI q)) (e.e (ek q)) A.1 A.2&&(oh (e.e (ek q))&&e.de sc (ek q)))
def ad_(q:List b_):List b_:=[.Expr (.Call (.Attribute (.Name "ValueError" (cc (cc (cI (eG q)))).pos) "__init__" (cc (cI (eG q))).pos) [.Name (ay G.b0.self) (c4 (cI (eG q))).pos, .Name (ay G.b0.reason) (gg (cI (eG q))).pos] [] (cI (eG q)).pos) (eG q).pos,.Assign [.Attribute (.Name (ay G.b0.self) (cc (cI (eG q.tail))).pos) (ay G.b0.reason) (cI (eG q.tail)).pos] (.Name (ay G.b0.reason) (ek (eG q.tail)).pos) (eG q.tail).pos]
def aea(sc:bW)(q:List b_):Bool:=iG sc G.b0.self .local&&(iG sc G.b0.reason .local&&(sc.names.lookup ("ValueError":Str)==U .globalImplicit&&aK (cc (cI (eG q))).pos.endLine (cI (eG q)).pos.line))
def NG(v:a3):W:=im (λq=> .Constant (Oo v) 0 q.pos) λJ J=>LZ v
def uE(k:Nat):W:=im (λq=> .Name (ay k) q.pos) λsc J=>iG sc k .local
def Mb(k:Nat):W:=im (λq=> .Name (ay k) q.pos) λsc J=>NF sc k
def Mc(k:Nat)(v:a3):W:=im (λq=> .Name (ay k) q.pos) λsc J=>iG sc k .globalImplicit&&nG k v
def Md(l:W):W:=sp (λq=> .BoolOp (dh (DW q)) (l.a (cs q)) q.pos) (λsc q=>l.kb (DW q) sc (cs q)) λsc q=>l.EW (DW q) sc (cs q)
def NH(k:Bool)(a r:W):W:=sP (uD a r) cq cq (λb sc q=>b==k&&(pA (r.a q.tail)&&(a.de sc (dn q)&&r.kb b sc q.tail))) (λb sc q=>b==k&&(pA (r.a q.tail)&&(a.kt sc (dn q)&&r.EW b sc q.tail))) af aa aa
def Me(o:hp)(a b:W):W:=im (λq=> .BinOp (a.e (cc q)) o (b.e (c4 q)) q.pos) λsc q=>a.de sc (cc q)&&b.de sc (c4 q)
def w_not(a:W):W:=sp (λq=> .UnaryOp .Not (a.e (cc q)) q.pos) (λsc q=>a.de sc (cc q)) λsc q=>a.kt sc (cc q)
def Mf(a:W):W:=im (λq=> .UnaryOp .USub (a.e (cc q)) q.pos) λsc q=>a.de sc (cc q)
def Mg(t a b:W):W:=sp (λq=> .IfExp (t.e (cc q)) (a.e (c4 q)) (b.e (gg q)) q.pos) (λsc q=>t.kt sc (cc q)&&(a.de sc (c4 q)&&b.de sc (gg q))) cq
def C2(l:W):W:=im (λq=> .List (l.a (cs q)) q.pos) λsc q=>l.ka sc (cs q)
def Mh(l:W):W:=im (λq=> .Tuple (l.a (cs q)) (zz q) q.pos) λsc q=>l.ka sc (cs q)
def Mi:W:=im (λq=> .Dict [] [] q.pos) eF
def Mj(bk:List Nat)(e t i:W):W:=Fs e t i (λJ=> []) eF bk
def Cm(bk:List Nat)(e t i c:W):W:=Fs e t i (λq=> [c.e (sK q)]) (λsc q=>c.kt sc (sK q)) bk
def C3(o:jx)(a b:W):W:=sp (λq=> .Compare (a.e (cc q)) [o] [b.e (c4 q)] q.pos) (λsc q=>l5 (b.e (c4 q))&&(a.de sc (cc q)&&b.de sc (c4 q))) λsc q=>l5 (b.e (c4 q))&&(a.de sc (cc q)&&b.de sc (c4 q))
def K5(o:jx)(O:jx)(a b c:W):W:=sp (λq=> .Compare (a.e (cc q)) [o,O] [b.e (c4 q),c.e (gg q)] q.pos) (λsc q=>l5 (c.e (gg q))&&(a.de sc (cc q)&&(b.de sc (c4 q)&&c.de sc (gg q)))) λsc q=>l5 (c.e (gg q))&&(a.de sc (cc q)&&(b.de sc (c4 q)&&c.de sc (gg q)))
def Mk(f l:W):W:=im (λq=> .Call (f.e (cc q)) (l.a (cs q).tail) [] q.pos) λsc q=>u2 (f.e (cc q))&&(py (l.a (cs q).tail)&&(f.de sc (cc q)&&l.ka sc (cs q).tail))
def Ml(m:Nat)(b:je)(o l:W):W:=im (λq=> .Call (.Attribute (o.e (cc (cc q))) (ay m) (cc q).pos) (l.a (cs q).tail) [] q.pos) λsc q=>py (l.a (cs q).tail)&&(bw (l.a (cs q).tail).length 30&&(CZ (o.e (cc (cc q)))&&(aK (cc q).pos.endLine q.pos.line&&(ET m b&&(o.de sc (cc (cc q))&&l.ka sc (cs q).tail)))))
def Mm(k:Nat)(o:W):W:=im (λq=> .Attribute (o.e (cc q)) (ay k) q.pos) λsc q=>CZ (o.e (cc q))&&o.de sc (cc q)
def Mn(a i:W):W:=im (λq=> .Subscript (a.e (cc q)) (i.e (c4 q)) q.pos) λsc q=> !pe (i.e (c4 q))&&(a.de sc (cc q)&&i.de sc (c4 q))
def Cn(a lo c:W):W:=im (λq=> .Subscript (a.e (cc q)) (.Slice (lo.o (so (c4 q))) (c.o (zd (c4 q))) aa (c4 q).pos) q.pos) λsc q=>a.de sc (cc q)&&(lo.qz sc (so (c4 q))&&c.qz sc (zd (c4 q)))
def Mo(k:Nat):W:=im (λq=> .Lambda ⟨[], [],aa, [], [],aa, []⟩ (ib k).1 (ib k).2 q.pos) λsc J=>C0 sc (ib k).2&&ze (ib k).2 (vu k).free
def C4:W:=sP (λJ=> []) eF cq fx fx af aa aa
def K6(a r:W):W:=sP (uD a r) (λsc q=>noStar (a.e (dn q))&&(a.de sc (dn q)&&r.ka sc q.tail)) cq fx fx af aa aa
def Co(k:Nat):W:=qB (λq=> .Name (ay k) q.pos) (λsc J=>iG sc k .local) (U k) aa
def K7(k:Nat):W:=qB (λq=> .Name (ay k) q.pos) (λsc J=>iG sc k .cell) aa aa
def K8(k:Nat)(o:W):W:=qB (λq=> .Attribute (o.e (cc q)) (ay k) q.pos) (λsc q=>hC k&&o.de sc (cc q)) aa aa
def K9(a i:W):W:=qB (λq=> .Subscript (a.e (cc q)) (i.e (c4 q)) q.pos) (λsc q=> !pe (i.e (c4 q))&&(a.de sc (cc q)&&i.de sc (c4 q))) aa aa
def J6(a lo c:W):W:=qB (λq=> .Subscript (a.e (cc q)) (.Slice (lo.o (so (c4 q))) (c.o (zd (c4 q))) aa (c4 q).pos) q.pos) (λsc q=>a.de sc (cc q)&&(lo.qz sc (so (c4 q))&&c.qz sc (zd (c4 q)))) aa aa
def K_(k:Nat)(l:W):W:=qB (λq=> .Tuple (l.a (cs q)) (zz q) q.pos) (λsc q=>(l.a (cs q)).all noStar&&(aK (l.a (cs q)).length k&&l.EV sc (cs q))) aa (aA (aK k 2) l.bz aa)
def La:W:=sP (λJ=> []) cq eF fx fx ae aa aa
def J7(t r:W):W:=sP (uD t r) cq (λsc q=>noStar (t.e (dn q))&&(t.qA sc (dn q)&&r.EV sc q.tail)) fx fx af (aA r.bK t.lo aa) (bs t.lo aa λa=>bs r.bh aa λb=>U (a,b))
def Lb:W:=zB (λJ=> []) eF
def Mp(s r:W):W:=zB (λq=>s.s (eG q)::r.l q.tail) λsc q=>s.ks sc (eG q)&&r.e1 sc q.tail
def Mq(e:W):W:=jk (λq=> .Expr (e.e (cI q)) q.pos) λsc q=>oh (e.e (cI q))&&e.de sc (cI q)
def Mr(t e:W):W:=jk (λq=> .Assign [t.e (cI q)] (e.e (ek q)) q.pos) (ag_ t e)
def Ms(k:Nat)(O:hp)(o e:W):W:=jk (λq=> .AugAssign (.Attribute (o.e (cc (cI q))) (ay k) (cI q).pos) O (e.e (ek q)) q.pos) λsc q=>ad9 O&&(hC k&&(o.de sc (cc (cI q))&&e.de sc (ek q)))
def Mt(o i:W):W:=jk (λq=> .Delete [.Subscript (o.e (cc (cI q))) (i.e (c4 (cI q))) (cI q).pos] q.pos) λsc q=>o.de sc (cc (cI q))&&i.de sc (c4 (cI q))
def Mu(t a b:W):W:=jk (λq=> .If (t.e (cI q)) (a.l (e0 q)) (b.l (gh q)) q.pos) λsc q=>t.kt sc (cI q)&&(a.e1 sc (e0 q)&&b.e1 sc (gh q))
def Mv(t b:W):W:=jk (λq=> .While (t.e (cI q)) (b.l (e0 q)) [] q.pos) λsc q=>t.kt sc (cI q)&&b.e1 sc (e0 q)
def Mw(k:Bool)(t i b:W):W:=jk (λq=> .For (t.e (cI q)) (i.e (ek q)) (b.l (e0 q)) [] q.pos) λsc q=>l5 (i.e (ek q))&&(k==od (t.e (cI q))&&(i.de sc (ek q)&&(t.qA sc (cI q)&&b.e1 sc (e0 q))))
def Mx(e:W):W:=jk (λq=> .Return (U (e.e (cI q))) q.pos) λsc q=>e.de sc (cI q)
def Lc:W:=jk (λq=> .Return aa q.pos) eF
def My:W:=jk (λq=> .Break q.pos) eF
def Mz(e:W):W:=jk (λq=> .Raise (U (e.e (cI q))) aa q.pos) λsc q=>e.de sc (cI q)
def Ld(b h:W):W:=jk (λq=> .Try (b.l (e0 q)) (h.h (mD q)) [] [] q.pos) λsc q=>pA (h.h (mD q))&&(b.e1 sc (e0 q)&&h.zA sc (mD q))
def Le:W:=Fq (λJ=> []) eF
def MA(k:Nat)(d:Nat)(b r:W):W:=Fq (λq=>bZ [] (λn B p=> .ExceptHandler (U (.Name (ay k) n)) aa (b.l B) p::r.h q.tail) q) λsc q=>bZ af (λJ B J=>iG sc k .globalImplicit&&(nG k (.cls d)&&(iF d&&(pA (b.l B)&&(b.e1 sc B&&r.zA sc q.tail))))) q
def Lf(b f:W):W:=jk (λq=> .Try (b.l (e0 q)) [] [] (f.l (gh q)) q.pos) λsc q=>pA (f.l (gh q))&&(b.e1 sc (e0 q)&&f.e1 sc (gh q))
def MB:W:=zB ad_ aea
def dZ(w:Nat->List Nat->W->W->W)(x:X):W:=X.rec (motive:=λJ=>W)
 (λv=>NG v)
 (λk=>uE k)
 (λk=>Mb k)
 (λk v=>Mc k v)
 (λJ l=>Md l)
 (λk J J a r=>NH k a r)
 (λo J J a b=>Me o a b)
 (λJ a=>w_not a)
 (λJ a=>Mf a)
 (λJ J J t a b=>Mg t a b)
 (λJ l=>C2 l)
 (λJ l=>Mh l)
 Mi
 (λJ J J bk e t i=>Mj bk e t i)
 (λJ J J J bk e t i c=>Cm bk e t i c)
 (λn J J bk i c=>w n bk i c)
 (λJ o J a b=>C3 o a b)
 (λJ o J O J a b c=>K5 o O a b c)
 (λJ J f l=>Mk f l)
 (λJ m b J o l=>Ml m b o l)
 (λJ k o=>Mm k o)
 (λJ J a i=>Mn a i)
 (λJ J J a lo g=>Cn a lo g)
 Ph
 (λk J J=>Mo k)
 Pg
 C4
 (λJ J a r=>K6 a r)
 (λk=>Co k)
 (λk=>K7 k)
 (λJ k o=>K8 k o)
 (λJ J a i=>K9 a i)
 (λJ J J a lo g=>J6 a lo g)
 (λk J l=>K_ k l)
 La
 (λJ J t r=>J7 t r)
 Lb
 (λJ J s r=>Mp s r)
 (λJ e=>Mq e)
 (λJ J t e=>Mr t e)
 (λJ k j J o e=>Ms k j o e)
 (λJ J o i=>Mt o i)
 (λJ J J t a b=>Mu t a b)
 (λJ J t b=>Mv t b)
 (λk J J J t i b=>Mw k t i b)
 (λJ e=>Mx e)
 Lc
 My
 (λJ e=>Mz e)
 (λJ J b h=>Ld b h)
 Le
 (λk d J J b r=>MA k d b r)
 (λJ J b f=>Lf b f)
 MB
 x
end
section
variable{n:Nat}
def tW{α:Type}{l:List α}(h:pA l=ae):∃a r,l=a::r:=match l with
 | []=>aM h
 |a::r=>⟨a,r,rfl⟩
theorem Bo(env:Env):∀{T:List aT},T.all noStar=ae->mN T env=T.map λt=>(af,oj t env)
 | [],_=>rfl
 |t::r,h=>by rw[Si]at h;rw[A2 (au h),Bo env (ak h)];rfl
def Wv(h:q.all noStar=ae)(f:q.length=m)(c:pU u sc n call q g):gU u sc n call (.Tuple q k p) (C.m9 m g):=VW (λenv=>by rw[Bo env h];show PB.mpr λx d=>(dy.mp d).elim λt e=>e.2▸rfl) (λenv=>by rw[Bo env h,dC];show f) c
def aeb{v:a3}:a1 u n call (NG v) (C.dq v):=io λsc q h=>ZP h
def acn{k:Nat}:a1 u n call (uE k) (C.b9 k):=io λsc q h=>rj (fp h)
def aco{k:Nat}:a1 u n call (Mb k) (C.yv k):=io λsc q h=>Xx (YD h)
def acp:a1 u n call (Mc k v) (C.dq v):=io λsc q h=>Xy (fp (au h)) (ak h)
def acq(m:a1 u n call l e):a1 u n call (Md l) (e):=sq (λsc q h=>XH (m.b _ _ _ h)) λsc q h=>VH (m.Pi _ _ _ h)
def aec{k:Bool}{a r:W}{D d:cw}(m:a1 u n call a D)(M:a1 u n call r d):a1 u n call (NH k a r) (C.sa k D d):=wa (λJ J=>aM) (λJ J=>aM) (λb sc q h=>by
 obtain rfl:=beq_iff_eq.mp (au h);show x21 (tW (au (ak h))) λe l el=>?_;haveI:=M.b _ _ _ (ak (ak (ak h)));change qa u sc n call b (_::r.a q.tail) _;rw[el]at this⊢;show Uu (m.e _ _ (au (ak (ak h)))) this) (λb sc q h=>by
 obtain rfl:=beq_iff_eq.mp (au h);show x21 (tW (au (ak h))) λe l el=>?_;haveI:=M.Pi _ _ _ (ak (ak (ak h)));change pR u sc n call b (_::r.a q.tail) _;rw[el]at this⊢;show TL (m.t _ _ (au (ak (ak h)))) this) aM (λJ=>cm) λJ J=>cm
def acr(M:a1 u n call a F)(m:a1 u n call b e):a1 u n call (Me o a b) (C.k5 u.ao o F e):=io λsc q h=>XF (M.e _ _ (au h)) (m.e _ _ (ak h))
def acs(m:a1 u n call a e):a1 u n call (w_not a) (C.jB e):=sq (λsc q h=>XD (m.e _ _ h)) λsc q h=>VE (m.t _ _ h)
def act(m:a1 u n call a e):a1 u n call (Mf a) (C.Dq e):=io λsc q h=>XE (m.e _ _ h)
def MC{t a b:W}{D c d:cw}(M:a1 u n call t D)(m:a1 u n call a c)(f:a1 u n call b d):a1 u n call (Mg t a b) (C.oH D c d):=sq (λsc q h=>XI (M.t _ _ (au h)) (m.e _ _ (au (ak h))) (f.e _ _ (ak (ak h)))) λJ J=>aM
def C5(m:a1 u n call l e):a1 u n call (C2 l) (C.ki e):=io λsc q h=>XJ (m.a _ _ h).1
def acu(m:a1 u n call l e):a1 u n call (Mh l) (C.Dr e):=io λsc q h=>XK (m.a _ _ h).1
def acv:a1 u n call (Mi) (C.Ds):=io λsc q h=>XM
def MD(M:a1 u n call e q)(m:a1 u n call t F)(c:a1 u n call i H):a1 u n call (Mj bk e t i) (C.hJ u.ao q F H C.ju bk):=aC M m c λJ J J=> .inl ⟨rfl,rfl⟩
def aai(M:a1 u n call e q)(m:a1 u n call t aq)(d:a1 u n call i H)(f:a1 u n call c F):a1 u n call (Cm bk e t i c) (C.hJ u.ao q aq H F bk):=aC M m d λJ J h=> .inr ⟨_,rfl,f.t _ _ h⟩
def acw(M:a1 u n call a F)(m:a1 u n call b e):a1 u n call (C3 o a b) (C.i2 u.ao o F e):=sq (λsc q h=>XG (rc (au h) _) (M.e _ _ (au (ak h))) (m.e _ _ (ak (ak h)))) λsc q h=>IP (rc (au h) _) (M.e _ _ (au (ak h))) (m.e _ _ (ak (ak h)))
def aaj(M:a1 u n call a F)(d:a1 u n call b H)(m:a1 u n call c e):a1 u n call (K5 o gK a b c) (C.ur u.ao o gK F H e):=sq (λsc q h=>VF (rc (au h) _) (M.e _ _ (au (ak h))) (d.e _ _ (au (ak (ak h)))) (m.e _ _ (ak (ak (ak h))))) λsc q h=>U5 (rc (au h) _) (M.e _ _ (au (ak h))) (d.e _ _ (au (ak (ak h)))) (m.e _ _ (ak (ak (ak h))))
def acx(D:Cg u n call)(M:a1 u n call f e)(m:a1 u n call l F):a1 u n call (Mk f l) (C.ia u.ao e F):=io λsc q h=>XY (au (ak h)) (m.a _ _ (ak (ak (ak h)))).2 (YC (au h)) D (M.e _ _ (au (ak (ak h)))) (m.a _ _ (ak (ak (ak h)))).1
def acy(ac:jp u n call)(D:xS u n)(c:a1 u n call o F)(M:a1 u n call l e):a1 u n call (Ml m b o l) (C.yw u.ao F m b e):=io λsc q h=>X0 (au h) (C.df (au (ak h))) (M.a _ _ (ak (ak (ak (ak (ak (ak h))))))).2 (λenv=>I8 (au (ak (ak h))) _ env _) (C.bS (au (ak (ak (ak h))))) (aag (au (ak (ak (ak (ak h)))))) ac D (c.e _ _ (au (ak (ak (ak (ak (ak h))))))) (M.a _ _ (ak (ak (ak (ak (ak (ak h))))))).1
def acz(m:a1 u n call o e):a1 u n call (Mm k o) (C.d4 e k):=io λsc q h=>XN (λenv=>I8 (au h) _ env _) (m.e _ _ (ak h))
def acA(m:a1 u n call a F)(M:a1 u n call i e):a1 u n call (Mn a i) (C.hSub u.ao F e):=io λsc q h=>X9 (kI.mp (au h)) (m.e _ _ (au (ak h))) (M.e _ _ (ak (ak h)))
def aak{a lo c:W}(M:a1 u n call a F)(m:a1 u n call lo e)(d:a1 u n call c H):a1 u n call (Cn a lo c) (C.CJ u.ao F e H):=io λsc q h=>Wi (M.e _ _ (au h)) (m.o _ _ (au (ak h))) (d.o _ _ (ak (ak h)))
def acB{k:Nat}:a1 u n call (Mo k) (C.Dt u.ao k):=io λsc q h=>Yx (I9 (au h)) (ug (ak h)) rfl
def C6:a1 u n call (C4) (C.eC):=wa (λJ J J=>⟨VI,λJ=>rfl⟩) (λJ J=>aM) (λJ J J=>aM) (λJ J J=>aM) aM (λJ=>cm) λJ J=>cm
def aal(M:a1 u n call a F)(m:a1 u n call r e):a1 u n call (K6 a r) (C.f5 F e):=wa (λsc q h=>⟨Uw (Ie (au h) _) (M.e _ _ (au (ak h))) (m.a _ _ (ak (ak h))).1,λh=>Q6 rfl (heq_of_eq h)⟩) (λJ J=>aM) (λJ J J=>aM) (λJ J J=>aM) aM (λJ=>cm) λJ J=>cm
def Cp{k:Nat}:a1 u n call (Co k) (C.c5 k):=sQ (λsc q h=>tI (fp h)) (λcV e=>by cases e;show⟨rfl,λJ=>rfl⟩) λJ J=>cm
def aam{k:Nat}:a1 u n call (K7 k) (C.CK k):=sQ (λsc q h=>VL (fp h)) (λJ=>cm) λJ J=>cm
def aan(m:a1 u n call o e):a1 u n call (K8 k o) (C.CL e k):=sQ (λsc q h=>VM (au h) (m.e _ _ (ak h))) (λJ=>cm) λJ J=>cm
def aao(m:a1 u n call a F)(M:a1 u n call i e):a1 u n call (K9 a i) (C.CM u.ao F e):=sQ (λsc q h=>Wh (kI.mp (au h)) (m.e _ _ (au (ak h))) (M.e _ _ (ak (ak h)))) (λJ=>cm) λJ J=>cm
def YE{a lo c:W}(M:a1 u n call a F)(m:a1 u n call lo e)(d:a1 u n call c H):a1 u n call (J6 a lo c) (C.B9 u.ao F e H):=sQ (λsc q h=>UZ (M.e _ _ (au h)) (m.o _ _ (au (ak h))) (d.o _ _ (ak (ak h)))) (λJ=>cm) λJ J=>cm
def aap(m:a1 u n call l F):a1 u n call (K_ k l) (C.m9 k F):=sQ (λsc q h=>Wv (au h) (C.bS (au (ak h))) (m.gl _ _ (ak (ak h)))) (λJ=>cm) λa b h=>by
 cases c:aK k 2 with
 |false=>rw[c]at h;show cm h
 |true=>rw[c]at h;show x02 (m.bz a b h) λe f=>?_;obtain rfl:=C.bS c;show⟨congrArg (C.m9 2) e,λq=>?_⟩;show x21 (f (cs q)) λbh bz E=>⟨bh,bz,_,_,congrArg (λl=>aT.Tuple l (zz q) q.pos) E⟩
def aaq:a1 u n call (La) (C.jt):=wa (λJ J=>aM) (λJ J J=>UD) (λJ J J=>aM) (λJ J J=>aM) (λJ=>⟨rfl,λJ=>rfl⟩) (λJ=>cm) λJ J=>cm
def YF(m:a1 u n call t H)(M:a1 u n call r F):a1 u n call (J7 t r) (C.hG H F):=wa (λJ J=>aM) (λsc q h=>TR (A2 (au h) _) (m.g _ _ (au (ak h))) (M.gl _ _ (ak (ak h)))) (λJ J J=>aM) (λJ J J=>aM) aM (λb h=>by
 cases c:r.bK with
 |false=>rw[c]at h;show cm h
 |true=>rw[c]at h;show x02 (m.lo b h) λe f=>x02 (M.bK c) λE d=>?_;subst e E;show⟨rfl,λq=>⟨_,by delta uD;rw[f,d]⟩⟩) λa b h=>by
 cases c:t.lo with
 |none=>rw[c]at h;show cm h
 |some A=>cases i:r.bh with
  |none=>rw[c,i]at h;show cm h
  |some B=>rw[c,i]at h;cases h;show x02 (m.lo _ c) λe f=>x02 (M.bh _ i) λE d=>?_;subst e E;show⟨rfl,λq=>?_⟩;show x11 (d q.tail) λp g=>⟨_,p,by delta uD;rw[f,g]⟩
def aar:a1 u n call (Lb) (C.l1):=nE λJ J J=>IQ
def acC(M:a1 u n call s e)(m:a1 u n call r F):a1 u n call (Mp s r) (C.jC e F):=nE λsc q h=>AX (M.s _ _ (au h)) (m.l _ _ (ak h))
def acD(m:a1 u n call e F):a1 u n call (Mq e) (C.Du F):=jO λsc q h=>XR (Hw (au h) _) (m.e _ _ (ak h))
def ME(m:a1 u n call t F)(M:a1 u n call e H):a1 u n call (Mr t e) (C.k6 F H):=jO λsc q h=>by
 show a8 (kJ.mp h) (λh=>?_) λh=>?_
 .show JM (U7 (au h) _) (Ub (au (ak h))) (A2 (au (ak (ak h))) _) (M.e _ _ (ak (ak (ak (ak h))))) (m.g _ _ (au (ak (ak (ak h)))))
 .show a8 (kJ.mp h) (λh=>?_) λh=>?_
  .cases c:t.lo with
   |none=>rw[c]at h;show aM h
   |some k=>rw[c]at h;show x02 (m.lo _ c) λE f=>?_;k_lt E;have:=M.afX k sc _ h (cI q).pos q.pos;rw[<-f]at this;show this
  .cases c:t.c0 with
   |none=>rw[c]at h;show aM h
   |some A=>obtain⟨a,b⟩:=A;rw[c]at h;show x02 (m.c0 _ _ c) λE f=>?_;k_lt E;show x41 (f (cI q)) λbh bz k p g=>?_;have ag:(EU sc (t.e (cI q)) (e.e (ek q)) a b&&(oh (e.e (ek q))&&e.de sc (ek q)))=ae:=h;have am:=au ag;change eD u sc n call (.Assign [t.e (cI q)] _ _) _;rw[g]at am⊢;have d:=ak (ak (ak (ak (ak (ak am)))));show Su (λq=>by k_lt q;show aM ((kI.mp (ak (ak d))).symm.trans (beq_self_eq_true _))) (w9 (au (ak ag)) _ _) (λenv S i=>aah am env S i) (fp (au d)) (fp (au (ak d))) (M.e _ _ (ak (ak ag)))
def acE(M:a1 u n call o H)(m:a1 u n call e aq):a1 u n call (Ms k F o e) (C.Dv u.ao H k F aq):=jO λsc q h=>XS ((kJ.mp (au h)).imp beq_iff_eq.mp beq_iff_eq.mp) (au (ak h)) (M.e _ _ (au (ak (ak h)))) (m.e _ _ (ak (ak (ak h))))
def acF(M:a1 u n call o e)(m:a1 u n call i F):a1 u n call (Mt o i) (C.k7 e F):=jO λsc q h=>Yb (M.e _ _ (au h)) (m.e _ _ (ak h))
def acG(m:a1 u n call t H)(M:a1 u n call a e)(c:a1 u n call b F):a1 u n call (Mu t a b) (C.oH H e F):=jO λsc q h=>ZU (m.t _ _ (au h)) (M.l _ _ (au (ak h))) (c.l _ _ (ak (ak h)))
def acH(M:a1 u n call t e)(m:a1 u n call b F):a1 u n call (Mv t b) (C.yx e F):=jO λsc q h=>XW (M.t _ _ (au h)) (m.l _ _ (ak h))
def acI(m:a1 u n call t F)(c:a1 u n call i H)(M:a1 u n call b e):a1 u n call (Mw k t i b) (C.rP u.ao k F H e):=jO λsc q h=>XX (rb (au h)) (beq_iff_eq.mp (au (ak h))) (c.e _ _ (au (ak (ak h)))) (m.g _ _ (au (ak (ak (ak h))))) (M.l _ _ (ak (ak (ak (ak h)))))
def acJ(m:a1 u n call e F):a1 u n call (Mx e) (C.Dw F):=jO λsc q h=>XO (m.e _ _ h)
def aas:a1 u n call (Lc) (C.us):=jO λJ J J=>VN
def acK:a1 u n call (My) (C.Dx):=jO λJ J J=>XQ
def acL(m:a1 u n call e F):a1 u n call (Mz e) (C.yy F):=jO λsc q h=>YA (m.e _ _ h)
def aat(M:a1 u n call b F)(m:a1 u n call h H):a1 u n call (Ld b h) (C.x5 F H):=jO λsc q ag=>by show x21 (tW (au ag)) λe l el=>?_;haveI:=m.h _ _ (ak (ak ag));change eD u sc n call (.Try _ (h.h (mD q)) [] [] _) _;rw[el]at this⊢;show VZ (M.l _ _ (au (ak ag))) this
def aau:a1 u n call (Le) (C.CN):=Pj λJ J J=>VY
def acM(M:a1 u n call b H)(m:a1 u n call r F):a1 u n call (MA k d b r) (C.yz u.ao d H F):=Pj λsc q h=>by
 cases q with
 |nil=>show aM h
 |cons e l=>obtain⟨t,f,B,p⟩:=e;haveI h:(iG sc k .globalImplicit&&(nG k (.cls d)&&(iF d&&(pA (b.l B)&&(b.e1 sc B&&r.zA sc l)))))=ae:=h;show x21 (tW (au (ak (ak (ak h))))) λs c el=>?_;haveI:=M.l _ _ (au (ak (ak (ak (ak h)))));change qd u sc n call (.ExceptHandler _ aa (b.l B) p::_) _;rw[el]at this⊢;show UF (fp (au h)) (au (ak h)) (au (ak (ak h))) this (m.h _ _ (ak (ak (ak (ak (ak h))))))
def aav(M:a1 u n call b H)(m:a1 u n call f F):a1 u n call (Lf b f) (C.x6 H F):=jO λsc q ag=>by show x21 (tW (au ag)) λe l el=>?_;haveI:=m.l _ _ (ak (ak ag));change eD u sc n call (.Try _ [] [] (f.l (gh q)) _) _;rw[el]at this⊢;show V0 (M.l _ _ (au (ak ag))) this
def acN:a1 u n call (MB) (C.LQ u.ao):=nE λsc q h=>AX (aad (fp (au h)) (fp (au (ak h))) (beq_iff_eq.mp (au (ak (ak h)))) (C.bS (ak (ak (ak h)))) (Hw rfl _))
 (AX (aae (fp (au h)) (fp (au (ak h))) (w9 rfl _ _) (A3 rfl)) IQ)
def qC(ac:jp u n call)(t:ow u n call)(s:gZ G.b0.kS=ae){ws:Nat->List Nat->W->W->W}
 (p:∀dM bk i c (M:W) (aC:W),a1 u n call M (C.c8 u.ao i)->a1 u n call aC (C.c8 u.ao c)->a1 u n call (ws dM bk M aC) (C.uR dM (C.c8 u.ao i) c (C.c8 u.ao c) bk)):
 ∀x,a1 u n call (dZ ws x) (C.c8 u.ao x):=X.rec (motive:=λx=>a1 u n call (dZ ws x) (C.c8 u.ao x))
 (λJ=>aeb)
 (λJ=>acn)
 (λJ=>aco)
 (λJ J=>acp)
 (λJ f=>acq f)
 (λJ J J m g=>aec m g)
 (λJ J J m aW=>acr m aW)
 (λJ m=>acs m)
 (λJ m=>act m)
 (λJ J J mt m aW=>MC mt m aW)
 (λJ f=>C5 f)
 (λJ f=>acu f)
 acv
 (λJ J J J d mt M=>MD d mt M)
 (λJ J J J J d mt M aC=>aai d mt M aC)
 (λdM i c bk M aC=>p dM bk i c _ _ M aC)
 (λJ J J m aW=>acw m aW)
 (λJ J J J J m aW aC=>aaj m aW aC)
 (λJ J o f=>acx (U3 ac t) o f)
 (λJ J J J j f=>acy ac (UU s) j f)
 (λJ J j=>acz j)
 (λJ J m M=>acA m M)
 (λJ J J m l k=>aak m l k)
 g7
 (λJ J J=>acB)
 ag9
 C6
 (λJ J m g=>aal m g)
 (λJ=>Cp)
 (λJ=>aam)
 (λJ J j=>aan j)
 (λJ J m M=>aao m M)
 (λJ J J m l k=>YE m l k)
 (λJ J f=>aap f)
 aaq
 (λJ J mt g=>YF mt g)
 aar
 (λJ J ms g=>acC ms g)
 (λJ d=>acD d)
 (λJ J mt d=>ME mt d)
 (λJ J J J j d=>acE j d)
 (λJ J j M=>acF j M)
 (λJ J J mt m aW=>acG mt m aW)
 (λJ J mt aW=>acH mt aW)
 (λJ J J J mt M aW=>acI mt M aW)
 (λJ d=>acJ d)
 aas
 acK
 (λJ d=>acL d)
 (λJ J aW r=>aat aW r)
 aau
 (λJ J J J aW g=>acM aW g)
 (λJ J aW o=>aav aW o)
 acN
end
end
section
open Mine.Head
noncomputable def cg(l:List (Nat×Obj))(aI:List Nat):dQ:=aI.map λj=>l.getD j default
def aha(P:cj):dQ:=cg (sD P) [2]++(cg (ei P) [12]++(cg (nF P) [12]++(cg (sE P) [2]++(cg (Fb P) [12]++(cg (sD P) [19]++(cg (sE P) [12]++(cg (sF P) [61]++(cg (vX P) [86]++(cg (sg P) [167]++(cg (sh P) [168]++(cg (vn P) [95]++(cg (vo P) [112]++(cg (vp P) [95]++(cg (sj P) [103]++(cg (gz P) [25]++(cg (ei P) [11]++(cg (nF P) [11]++(cg (zv P) [11]++(cg (Fb P) [11]++(cg (sD P) [18]++(cg (sE P) [11]++(cg (sF P) [60]++(cg (vX P) [85]++(cg (sg P) [166]++(cg (sh P) [167]++(cg (vn P) [94]++(cg (vo P) [111]++(cg (vp P) [94]++(cg (sj P) [102])))))))))))))))))))))))))))))
def ahb(P:cj):dQ:=cg (y2 P) [0]
def ahc(P:cj):dQ:=cg (gz P) [8,23]++(cg (sD P) [16]++(cg (sE P) [21,28,35,42,49]++(cg (sF P) [16,23,30,37,44,51,58]++(cg (vX P) [15,22,27,34,41,48,55,62,69,76,83]++(cg (sg P) [15,22,27,34,41,49,56,63,70,77,84,91,98,105,112,119,126,133,140,147,154,159,164]++(cg (Ef P) [8,15,22,29,36]++(cg (sh P) [15,22,29,36,41,48,55,62,67,74,81,88,96,104,112,119,126,134,142,149,157,165]++(cg (vn P) [15,22,29,36,43,50,57,64,71,78,85,92]++(cg (vo P) [15,22,29,36,43,50,57,64,71,78,85,92,97,102,109]++(cg (vp P) [15,22,29,36,43,50,57,64,71,78,85,92]++(cg (Eg P) [8,13]++(cg (sj P) [16,23,30,37,44,51,58,65,72,79,86,93,100]++(cg (Eh P) [8,15,22,29,34,39,46,53,60,67,74,81]++(cg (y2 P) [8,15,22,27]))))))))))))))
def ahd(P:cj):dQ:=cg (gz P) [7,22]++(cg (sD P) [15]++(cg (sE P) [20,27,34,41,48]++(cg (sF P) [15,22,29,36,43,50,57]++(cg (vX P) [14,21,26,33,40,47,54,61,68,75,82]++(cg (sg P) [14,21,26,33,40,48,55,62,69,76,83,90,97,104,111,118,125,132,139,146,153,158,163]++(cg (Ef P) [7,14,21,28,35]++(cg (sh P) [14,21,28,35,40,47,54,61,66,73,80,87,95,103,111,118,125,133,141,148,156,164]++(cg (vn P) [14,21,28,35,42,49,56,63,70,77,84,91]++(cg (vo P) [14,21,28,35,42,49,56,63,70,77,84,91,96,101,108]++(cg (vp P) [14,21,28,35,42,49,56,63,70,77,84,91]++(cg (Eg P) [7,12]++(cg (sj P) [15,22,29,36,43,50,57,64,71,78,85,92,99]++(cg (Eh P) [7,14,21,28,33,38,45,52,59,66,73,80]++(cg (y2 P) [7,14,21,26]++(cg (gz P) [16]++(cg (sF P) [9]++(cg (sg P) [42]++(cg (sh P) [89,97,105,127,135,150,158]++(cg (sj P) [9])))))))))))))))))))
def ahe(P:cj):dQ:= [(0,boot_o_0 P),(1,boot_o_1 P),(2,boot_o_2 P),(4,boot_o_4 P),(5,boot_o_5 P),(6,boot_o_6 P),(7,boot_o_7 P),(8,boot_o_8 P),(9,boot_o_9 P),(10,boot_o_10 P)]
def eH(P:cj):dQ:=aha P++(ahb P++(ahe P++(ahc P++ahd P)))
def sR(P:cj):Heap:=⟨((eT 1221).map λa=>((eH P).lookup a).getD ⟨.none,aa, .freed,#[]⟩).toArray,{}⟩
noncomputable def live(p:Nat×Obj):Bool:=bw p.1 1221&&match p.2.data with | .freed=>af |_=>ae
def YG(P:cj):(eH P).all live=ae:=by k_go
def YH(P:cj):(eH P).map (λp=>(y3 P).get p.1)=(eH P).map (λp=>U p.2):=by k_go
def HX:∀{K:dQ},K.lookup a=U o->(a,o)∈K:=by
 intro X;cases X with
 |nil=>intro h;show nomatch h
 |cons c r i=>
  obtain⟨b,x⟩:=c;intro h;simp only[wX]at h;split at h
  .rename_i q;cases h;rw[beq_iff_eq.mp q];show .head _
  .show .tail _ (i h)
def BR(h:(eH P).lookup a=U o):a<1221/\alive o=U o:=by haveI:=jS.mp (YG P) _ (HX h);simp only[live,lL,fD]at this;show⟨this.1,?_⟩;obtain⟨c,d,D,s⟩:=o;cases D<;>first |rfl |show nomatch this.2
def yf(P:cj)(a:Nat):(sR P).get? a=(eH P).lookup a:=by
 unfold IF sR;rw[zN,iQ];by_cases h:a<1221
 .rw[zS h];change(match U (((eH P).lookup a).getD ⟨.none,aa, .freed,#[]⟩)with |some ⟨_,_, .freed,_⟩=>aa |o=>o)=_
  cases q:(eH P).lookup a with
  |none=>rfl
  |some o=>haveI:=(BR q).2;obtain⟨c,d,D,s⟩:=o;cases D<;>first |rfl |show nomatch this
 .rw[P1 (by rw[tb];omega)]
  cases q:(eH P).lookup a with
  |none=>rfl
  |some o=>show absurd (BR q).1 h
def pV(P:cj):(eH P).In (sR P):=λa o h=>(yf P a).trans h
def J8(P:cj)(a:Nat)(o:Obj)(h:(sR P).get? a=U o):(gG P).get? a=U o:=by rw[yf]at h;show x02 (BR h) λl v=>(abs_get l ?_).trans v;haveI e:=YH P;haveI:=s9.mp e _ (HX h);show this
end
section
set_option tactic.hygienic true
open Mine.Head
def tX{α:Type}{l:List α}{n:Nat}{a:α}(h:dj l n=U a):a∈l:=h1 ((C.hq l n).symm.trans h)
def Lg{α:Type}{l:List α}{d:α}{Q:α->Prop}(h:∀a∈l,Q a)(c:Q d)(n:Nat):Q (bs (dj l n) d id):=by
 cases q:dj l n with
 |none=>show c
 |some a=>show h a (tX q)
def xW(h:G.mem l n=ae):n∈l:=by
 cases l with
 |nil=>cases h
 |cons a r i=>
  change aA (aK a n) ae (G.mem r n)=ae at h;cases q:aK a n with
  |true=>show iN q▸ .head _
  |false=>rw[q]at h;show .tail _ (i h)
def I_(h:G.x7 l n=U k):(n,k)∈l:=by
 cases l with
 |nil=>cases h
 |cons a r i=>
  change aA (aK a.1 n) (U a.2) (G.x7 r n)=U k at h;cases q:aK a.1 n with
  |true=>rw[q]at h;cases h;show iN q▸ .head _
  |false=>rw[q]at h;show .tail _ (i h)
noncomputable def pB(s:Str):Nat:=s.cps.toList.foldl (λk c=>k*65537+c+1) 0
def pW(l:List Nat):Bool:=cr ae (λa r i=>aA (G.mem r a) af i) l
def Ww(h:n∈l):G.mem l n=ae:=by
 cases l with
 |nil=>cases h
 |cons a r ih=>
  change aA (aK a n) ae (G.mem r n)=ae;cases(h)with
  |head=>rw[SP];rfl
  |tail _ h=>rw[ih h];cases aK a n<;>rfl
def Bp{l:List Nat}(h:pW l=ae):l.Nodup:=by
 cases l with
 |nil=>show .nil
 |cons a r i=>
  change aA (G.mem r a) af (pW r)=ae at h;cases q:G.mem r a with
  |true=>rw[q]at h;cases h
  |false=>rw[q]at h;show dN.mpr ⟨λx=>(nomatch q.symm.trans (Ww x)),i h⟩
def mg(l:List Str)(k:Nat):Str:=bs (dj l k) ⟨(kL (k+100) 120).toArray⟩ id
def rd(k:Nat):(⟨(kL (k+100) 120).toArray⟩:Str).cps.size=k+100:=PW
def J9{l:List Str}(h:l.all (λs=>bw s.cps.size 100)=ae)(c:pW (l.map pB)=ae){m n:Nat}(e:mg l m=mg l n):m=n:=by
 haveI S:∀{k s},dj l k=U s->s.cps.size<100:=λq=>fD.mp (jS.mp h _ (tX q));unfold mg at e;cases p:dj l m with
 |none=>
  rw[p]at e;cases q:dj l n with
  |none=>rw[q]at e;haveI:=(rd m).symm.trans ((congrArg (λs:Str=>s.cps.size) e).trans (rd n));show Nat.add_right_cancel this
  |some s=>rw[q]at e;haveI:=(rd m).symm.trans (congrArg (λs:Str=>s.cps.size) e);show absurd (S q) (d_.mpr (c7 (te _ _) (hi this)))
 |some s=>
  rw[p]at e;cases q:dj l n with
  |none=>rw[q]at e;haveI:=(rd n).symm.trans (congrArg (λs:Str=>s.cps.size) e.symm);show absurd (S p) (d_.mpr (c7 (te _ _) (hi this)))
  |some an=>
   rw[q]at e;haveI e:s=an:=e;haveI N:=Bp c;haveI a:=(C.hq l m).symm.trans p;haveI b:=(C.hq l n).symm.trans q;haveI A:(l.map pB)[m]? =U (pB s):=by rw[iQ,a];rfl
   haveI B:(l.map pB)[n]? =U (pB s):=by rw[iQ,b,e];rfl
   show(List.getElem?_inj (e8.mp A).1 N).mp (A.trans B.symm)
def Lh{l:List Str}{s:Str}(h:l.all (λx=> !(x==s))=ae)(am:s.cps.size<100)(n:Nat):(mg l n==s)=af:=by
 delta mg;cases q:dj l n with
 |none=>show beq_eq_false_iff_ne.mpr λe=>?_;haveI:=(rd n).symm.trans (congrArg (λs:Str=>s.cps.size) e);show absurd am (d_.mpr (c7 (te _ _) (hi this)))
 |some a=>haveI:=jS.mp h _ (tX q);show(by simpa using this:(a==s)=af)
def yO(n:Nat):ay n=mg G.sb n:=by unfold ay mg;rfl
def DX(n:Nat):ms n=mg G.vk n:=by unfold ms mg;rfl
def YI:G.sb.all (λs=>bw s.cps.size 100)=ae:=by k_go
def J_:G.vk.all (λs=>bw s.cps.size 100)=ae:=by k_go
def aaw:pW (G.sb.map pB)=ae:=by k_go
def aax:pW (G.vk.map pB)=ae:=by k_go
def YJ:G.sb.all (λx=> !(x==("__debug__":Str)))=ae:=by k_go
def YK:G.sb.all (λx=> !(x==("__classdict__":Str)))=ae:=by k_go
def aay(k:Nat)(h:k<100):(ms k).length<=200:=by
 rw[DX];delta mg;cases q:dj G.vk k with
 |none=>show c7 (hi (rd k)) (fk (wj h 100))
 |some a=>show c7 (fk (fD.mp (jS.mp J_ _ (tX q)))) (by x_go)
def yP(x:Nat)(a:Array UInt8):Nat->Bool:=fM ae λi I=>aA (bw (C.dc x i) 256&&(match a[i]? with |some b=>aK b.toNat (C.dc x i) |none=>ae)) I af
def zh:V->aj->Bool
 | .int i, .int j _=>i==j
 | .cls k, .ref a=>aK a (cP k)
 | .fn k, .ref a=>aK a (eE k)
 | .bi k,v=>v==y5 k
 | .str k, .str x _=>x==ms k
 | .none, .none=>ae
 | .tt, .bool b=>b
 | .aM, .bool b=> !b
 | .aZ y, .bytes a _=>aK a.size y.n&&bw y.x (1024^y.n)&&yP y.x a y.n
 |_,_=>af
def YL:∀{n:Nat},yP x a n=ae->∀i,i<n->C.dc x i<256/\∀b,a[i]? =U b->b.toNat=C.dc x i:=by
 intro X;cases X with
 |zero=>intro J i h;show nomatch h
 |succ n I=>
  intro e i h;change aA (bw (C.dc x n) 256&&(match a[n]? with |some b=>aK b.toNat (C.dc x n) |none=>ae)) (yP x a n) af=ae at e
  cases q:(bw (C.dc x n) 256&&(match a[n]? with |some b=>aK b.toNat (C.dc x n) |none=>ae))with
  |false=>rw[q]at e;cases e
  |true=>
   rw[q]at e;show a8 (Nat.lt_succ_iff_lt_or_eq.mp h) (λh=>?_) λo=>?_
   .show I e i h
   .w_pre o;show x02 (dx.mp q) λc Q=>?_;show⟨fD.mp c,λb d=>?_⟩;rw[d]at Q;show iN Q
def Cq(h:zh v w=ae):az u [] v w:=by
 cases v with
 |int i=>
  cases w with
  |int j t=>show⟨t,congrArg (n0 · t) (beq_iff_eq.mp h).symm⟩
  |_=>show nomatch h
 |cls i=>
  cases w with
  |ref a=>show congrArg eU (iN h)
  |_=>show nomatch h
 |fn i=>
  cases w with
  |ref a=>show congrArg eU (iN h)
  |_=>show nomatch h
 |bi k=>show beq_iff_eq.mp h
 |str k=>
  cases w with
  |str x t=>show⟨t,congrArg (aj.str · t) (beq_iff_eq.mp h)⟩
  |_=>show nomatch h
 |none=>
  cases w with
  |none=>rfl
  |_=>show nomatch h
 |tt=>
  cases w with
  |bool b=>show congrArg aj.bool h
  |_=>show nomatch h
 |aM=>
  cases w with
  |bool b=>cases b<;>first |rfl |cases h
  |_=>show nomatch h
 |aZ y=>
  cases w with
  |bytes a t=>change(aK a.size y.n&&bw y.x (1024^y.n)&&yP y.x a y.n)=ae at h;rw[lL,lL]at h;haveI am:=iN h.1.1;show⟨a,t,rfl,am,fD.mp h.1.2,λi b e=> .inl ?_⟩;show x02 (YL h.2 i (am▸(sU.mp e).1)) λau ak=>?_;show⟨au,ak b e⟩
  |_=>show nomatch h
 |_=>show nomatch h
def C7(K:dQ)(n:Nat)(v:V):Bool:=match gX K d2 (ay n)with
 |some (U w)=>zh v w
 |some aa=>(match gX K hj (ay n)with |some (U w)=>zh v w |_=>af)
 |none=>af
def Wx(h:C7 u.K n v=ae):
 ∃w,az u [] v w/\(gX u.K d2 (ay n)=U (U w)\/(gX u.K d2 (ay n)=U aa/\gX u.K hj (ay n)=U (U w))):=by
 delta C7 at h;generalize gX u.K d2 (ay n)=x at h⊢;generalize gX u.K hj (ay n)=y at h⊢;rcases x with _ |_ |w
 .show nomatch(show af=ae from h)
 .rcases y with _ |_ |w
  .show nomatch(show af=ae from h)
  .show nomatch(show af=ae from h)
  .show⟨w,Cq h, .inr ⟨rfl,rfl⟩⟩
 .show⟨w,Cq h, .inl rfl⟩
def Wy(P:cj):y4.all (λp=>C7 (eH P) p.1 p.2)=ae:=by k_go
end
section
open Mine.Head
def Li(x:C.hT):dj [.len, .range, .enumerate, .reversed, .min, .int, .bytes, .bytearray, .list, .dict, .set, .sorted, .sum, .isinstance, .str, .abs, .bad] x.ctorIdx=U x:=by cases x<;>rfl
def Wz:x9 a b=ae->a=b:=C.jv (P:=(·=ae->a=b)) (λJ p=>C.jv (P:=(·=ae->a=b)) (λJ q h=>p.trans ((congrArg _ (C.gQ h)).trans q.symm)) nofun)
 (C.nc (P:=(·=ae->a=b)) (λJ p=>C.nc (P:=(·=ae->a=b)) (λJ q h=>p.trans ((congrArg _ (C.uc h)).trans q.symm)) nofun)
 (C.xN (P:=(·=ae->a=b)) (λJ p=>C.xN (P:=(·=ae->a=b)) (λJ q h=>p.trans ((congrArg _ (C.bS h)).trans q.symm)) nofun)
 (C.xt (P:=(·=ae->a=b)) (λJ p=>C.xt (P:=(·=ae->a=b)) (λJ q h=>p.trans ((congrArg _ (C.bS h)).trans q.symm)) nofun)
 (C.ub (P:=(·=ae->a=b)) (λx p=>C.ub (P:=(·=ae->a=b)) (λy q h=>p.trans ((congrArg _ (bY ((Li x).symm.trans ((congrArg (dj _) (C.bS h)).trans (Li y))))).trans q.symm)) nofun) nofun))))
def aaz(h:nG n v=ae):(n,v)∈y4:=by
 unfold nG at h;revert h;generalize y4=l;intro h;cases l with
 |nil=>cases h
 |cons p r ih=>
  change aA (aK p.1 n) (x9 p.2 v) (cr af (λp J ih=>aA (aK p.1 n) (x9 p.2 v) ih) r)=ae at h;cases q:aK p.1 n with
  |true=>rw[q]at h;haveI fu:=iN q;haveI fv:=Wz h;show fu▸fv▸ .head _
  |false=>rw[q]at h;show .tail _ (ih h)
def xG(h:gZ c=ae):c∈rV:=by unfold gZ at h;show xW h
def BS(h:iF c=ae):c∈uW:=by unfold iF at h;show xW h
def Ka(h:hC c=ae):c∈yG:=by unfold hC at h;show xW h
def aaA{Q:Nat->Prop}(h:∀a∈EC,Q a)(k:Nat):Q (eE k):=by delta eE;show Lg h (h 21 (by x_go)) k
def aaB{Q:Nat->Prop}(h:∀a∈ED,Q a)(k:Nat):Q (cP k):=by delta cP;show Lg h (h 39 (by x_go)) k
noncomputable def MF(i:Int):Bool:=match i with | .ofNat n=>bw n 256 | .negSucc _=>af
def WA(h:MF i=ae):∃b:UInt8,i=(b.toNat:Int):=by
 cases i with
 |ofNat n=>show⟨kP n,by rw[zT,o1 (fD.mp h)];rfl⟩
 |negSucc n=>cases h
def NI(K:dQ)(c:Nat):Bool:=(uI K (cP c)).any (·.hasDict)&&iw K (.ref (cP c)) "__getattribute__"==U (U (.builtin "object.__getattribute__"))&&
 iw K (.ref (cP c)) "__getattr__"==U aa&&iw K (.ref (cP c)) "__setattr__"==U (U (.builtin "object.__setattr__"))&&plainOver K (cP c)&&makesIn K (cP c)
noncomputable def Pk{α:Type}(d:Data)(z:α)(k:IG->α):α:=match d with | .cls cd=>k cd |_=>z
def acO{α:Type}{P:α->Prop}{d:Data}{z:α}{k:IG->α}(h:∀c,d= .cls c->P (k c))(hz:P z):P (Pk d z k):=by
 cases d with
 |cls c=>show h c rfl
 |_=>show hz
noncomputable def DY(v:Option aj):Bool:=match v with |some (.builtin _)=>ae |_=>af
def YM(h:DY v=ae):∃n,v=U (.builtin n):=by
 cases v with
 |none=>cases h
 |some w=>cases w with
  |builtin n=>show⟨n,rfl⟩
  |_=>cases h
def DZ(K:dQ)(ac:ar):Bool:=bs (K.lookup ac) af λo=>o.cls== .type "type"&&Pk o.data af λcd=>cd.mro== [.ref ac, .type "object"]&&(aK o.slots.toList.length 6&&(DY (o.slots.toList.getD 4 aa)&&(!cd.hasDel&&(nsOkIn K cd.ns&&(gX K cd.ns "__eq__"==U aa&&gX K cd.ns "__ne__"==U aa)))))
def aed(h:(a&&(b&&(c&&(d&&(e&&(f&&g))))))=ae):a=ae/\b=ae/\c=ae/\d=ae/\e=ae/\f=ae/\g=ae:=by haveI h:=dx.mp h;haveI bM:=dx.mp h.2;haveI cz:=dx.mp bM.2;haveI f_:=dx.mp cz.2;haveI kx:=dx.mp f_.2;show⟨h.1,bM.1,cz.1,f_.1,kx.1,dx.mp kx.2⟩
def aee{α:Type}(z:α){l:List α}(h:l.length=n):l=(eT n).map λi=>l.getD i z:=by
 k_lt h;show List.ext_getElem (by rw[dC,tb]) λi bb bM=>?_
 rw[List.getElem_map,List.getElem_range,sT,jP bb];rfl
def aaC{l:List (Option aj)}(h:aK l.length 6=ae)(f_:DY (l.getD 4 aa)=ae):∃kE jh gL dF gd n,l= [kE,jh,gL,dF,U (.builtin n),gd]:=by show x11 (YM f_) λn e=>?_;haveI q:l= [l.getD 0 aa,l.getD 1 aa,l.getD 2 aa,l.getD 3 aa,l.getD 4 aa,l.getD 5 aa]:=aee aa (C.bS h);show⟨_,_,_,_,_,n,q.trans (congrArg (λx=> [l.getD 0 aa,l.getD 1 aa,l.getD 2 aa,l.getD 3 aa,x,l.getD 5 aa]) e)⟩
def YN{o:Obj}{cd:IG}{ac:ar}{bm:List aj}{kE jh gL dF gd:Option aj}{n:String}(bb:o.cls= .type "type")(e:o.data= .cls cd)(bM:cd.mro= .ref ac::bm)(kx:cd.hasDel=af)(am:o.slots.toList= [kE,jh,gL,dF,U (.builtin n),gd]):
 o=TF cd.name cd.qualname ac cd.ns cd.bases bm cd.hasDict cd.slotNames cd.subclasses cd.abstract cd.collection o.dict kE jh gL dF gd n:=by
 rcases o with⟨lB,kC,ahf,hV⟩
 rcases cd with⟨ay,av,mro,ns,ai7,hd,sn,sub,ab,col,del⟩
 haveI fv:hV= [kE,jh,gL,dF,U (.builtin n),gd].toArray:=by rw[<-am]
 cases bb;cases e;cases bM;cases kx;k_lt fv;rfl
def YO{K:dQ}{H:Heap}{ac x d:ar}(X:K.In H)(g:H.get? x=U (j6 ac d))(h:DZ K ac=ae):H.CmpInst x ac [.type "object"]:=by
 unfold DZ at h;cases q:K.lookup ac with
 |none=>rw[q]at h;cases h
 |some o=>
  rw[q]at h;show x02 (dx.mp h) λbb h=>?_;revert h;show acO (P:=(·=ae->_)) (λcd e h=>?_) nofun
  show x07 (aed h) λbM cz f_ kx vH Ft ahg=>x61 (aaC cz f_) λkE jh gL dF gd n am=>?_;haveI N:=GQ (H2 X vH);show⟨_,_,_,_,_,_,_,_,_,_,_,_,_,_,_,_,_,_,g,rfl,(X _ _ q).trans (congrArg U (YN (beq_iff_eq.mp bb) e (beq_iff_eq.mp bM) (kI.mp kx) am)),N,H3 X N (beq_iff_eq.mp Ft),H3 X N (beq_iff_eq.mp ahg)⟩
def OH(K:dQ)(c m k:Nat):Bool:=iw K (.ref (cP c)) (ay m)==U (U (.ref (eE k)))&&ui K (.ref (eE k))==U (.type "function")&&bw k 146
def acP(K:dQ)(c:Nat):Bool:=(G.jK.get [] G.LS c).all λp=>OH K c p.1 p.2
def MG(K:dQ)(p:Nat×Nat):Bool:=aA (aK p.2 G.b0.on) (iF p.1) (gZ p.1)&&(iw K (.ref (cP p.1)) "__init__"==U (U (.ref (eE p.2))))&&ui K (.ref (eE p.2))==U (.type "function")&&bw p.2 146
def aef(K:dQ)(c d:Nat):Bool:=exmOne K (.ref (cP c)) (.ref (cP d))==U (G.mem (G.jK.get [] G.Nt c) d)
noncomputable def r1(v:aj):Option ar:=match v with | .ref a=>U a |_=>aa
def A4(h:r1 v=U a):v= .ref a:=by
 cases(v)with
 |ref b=>show congrArg _ (bY h)
 |_=>cases h
def yg{α:Type}{o:Option α}{f:α->Bool}(h:bs o af f=ae):∃a,o=U a/\f a=ae:=by
 cases o with
 |none=>show nomatch(show af=ae from h)
 |some a=>show⟨a,rfl,h⟩
noncomputable def aeg(K:dQ):Bool:=nsOkIn K d2&&bs (gX K d2 "__builtins__") af λv=>bs v af λv=>bs (r1 v) af λk=>k !=hj&&k !=d2&&bs (K.lookup k) af λo=>o.cls== .type "module"&&o.dict==U hj&&aK o.data.ctorIdx 0
variable(P:cj)
def aeh(B:Bool):(G.jb B).lf.all MF=ae:=by cases B<;>k_go
def k_cls:rV.all (NI (eH P))=ae:=by k_go
def acQ:rV.all (λc=>yG.all λn=>iw (eH P) (.ref (cP c)) (ay n)==U aa)=ae:=by k_go
def acR:uW.all (λc=>uW.all (aef (eH P) c))=ae:=by k_go
def acS:EC.all (λa=>Cz (eH P) (.ref a))=ae:=by k_go
def acT:ED.all (λa=>Cz (eH P) (.ref a))=ae:=by k_go
def k_meth:rV.all (acP (eH P))=ae:=by k_go
def aaD:G.LR.all (MG (eH P))=ae:=by k_go
def acU:rV.all (λc=>DZ (eH P) (cP c))=ae:=by k_go
def aaE:uv.all (λq=>codeHdIn (eH P) q.1 q.2)=ae:=by k_go
def k_exc:uW.all (λc=>vt (eH P) (cP c))=ae:=by k_go
def acV:aeg (eH P)=ae:=by k_go
def MH:(nsOkIn (eH P) Jn&&gX (eH P) Jn "sys.recursionlimit"==U aa)=ae:=by k_go
def aaF:(gX (eH P) d2 "ValueError"==U aa&&gX (eH P) hj "ValueError"==U (U (.type "ValueError")))=ae:=by k_go
def acW:yG.all (λn=>bw n 300)=ae:=by k_go
def acX:((eH P).lookup qV).isSome=ae:=by k_go
def acY:(ay G.b0.reason==("reason":Str))=ae:=by k_go
def Fu(w:b3)(B:Bool)(bJ:Nat)(fJ:UInt8)(fz:Nat->aj):bf:=⟨cC,w,eH w.params,sR w.params,B,bJ,fJ,fz⟩
def eL{α:Type}{l:List α}{f:α->Bool}(h:l.all f=ae){a:α}(m:a∈l):f a=ae:=jS.mp h a m
def aei{w:b3}{B:Bool}{bJ:Nat}{fJ:UInt8}{fz:Nat->aj}(en:bJ<(G.jb B).F)(hf:∀k,xo (fz k)=ae):eQ (Fu w B bJ fJ fz)where
 len:=en
 Og i h:=WA (eL (aeh B) (tX h))
 glob n v h:=Wx (u:=Fu w B bJ fJ fz) (eL (Wy w.params) (aaz h))
 qi n:=yO n▸Lh YJ (by z_go) n
 Oh n:=yO n▸Lh YK (by z_go) n
 inj m n h:=J9 YI aaw ((yO m).symm.trans (h.trans (yO n)))
 fs:=pV w.params
 yI:=(qE.mp (acX w.params)).imp λo h=>(yf _ _).trans h
 LV a b h:=J9 J_ aax ((DX a).symm.trans (h.trans (DX b)))
 cls c h:=by haveI:=eL (k_cls w.params) (xG h);simp only[NI,lL,beq_iff_eq]at this;show⟨this.1.1.1.1.1,this.1.1.1.1.2,this.1.1.1.2,this.1.1.2,this.1.2,this.2⟩
 fld c n cN hZ:=beq_iff_eq.mp (eL (eL (acQ w.params) (xG cN)) (Ka hZ))
 hA:=hf
 LW:=aay
 Oi c d cN hd:=beq_iff_eq.mp (eL (eL (acR w.params) (BS cN)) (BS hd))
 vu:=aaA λa h=>eL (acS w.params) h
 Oj:=aaB λa h=>eL (acT w.params) h
 rN c m k cN hm:=by haveI:=eL (eL (k_meth w.params) (xG cN)) (I_ hm);simp only[OH,lL,beq_iff_eq]at this;show⟨this.1.1,this.1.2,fD.mp this.2⟩
 LX n h:=fD.mp (eL acW (Ka h))
 limit:=beq_iff_eq.mp (dx.mp (MH w.params)).2
 lim:=by haveI h:=dx.mp (MH w.params);haveI N:=GQ (H2 (pV w.params) h.1);show⟨_,N,H3 (pV w.params) N (beq_iff_eq.mp h.2)⟩
 cmp c h H x d k g:=YO (λa o e=>k a o (pV w.params a o e)) g (eL (acU w.params) (xG h))
 tabs q h:=by unfold tabs at h;show codeHd_of_K (pV w.params) (eL (aaE w.params) h)
 ny:=by show x02 (dx.mp (acV w.params)) λh0 h=>x12 (yg h) λv q h=>x12 (yg h) λv r h=>x12 (yg h) λb e h=>?_;haveI X:=pV w.params;haveI N:=GQ (H2 X h0);show x02 (dx.mp h) λf h=>x12 (yg h) λo k h=>?_;haveI f:=dx.mp f;haveI h:=dx.mp h;haveI d:=dx.mp h.1;show⟨_,N,b,o,mg_of X N (q.trans (congrArg U (r.trans (congrArg U (A4 e))))),bne_iff_ne.mp f.1,bne_iff_ne.mp f.2,X _ _ k,beq_iff_eq.mp d.1,beq_iff_eq.mp d.2,ah2 (motive:=λd=>d= .plain) o.data (iN h.2) rfl⟩
 init c k h:=by
  haveI:=eL (aaD w.params) (I_ h);simp only[MG,lL,beq_iff_eq]at this;show⟨?_,this.1.1.2,this.1.2,fD.mp this.2⟩;haveI t:=this.1.1.1;revert t;change aA (aK k G.b0.on) (iF c) (gZ c)=ae->(if aK k G.b0.on=ae then _ else _)
  cases aK k G.b0.on<;>show id
 exc c h:=eL (k_exc w.params) (BS h)
 Ok:=beq_iff_eq.mp acY
 DQ:=(dx.mp (aaF w.params)).imp beq_iff_eq.mp beq_iff_eq.mp
end
section
open Mine.C (X)
open Mine.Head
def C8:List V->List aj->Bool
 | [], []=>ae
 |v::vs,w::ws=>zh v w&&C8 vs ws
 |_,_=>af
theorem Ja:∀{vs:List V} {ws:List aj},C8 vs ws=ae->bI (az u []) vs ws
 | [], [],_=> .nil
 |_::_,_::_,h=> .cons (Cq (dx.mp h).1) (Ja (dx.mp h).2)
 | [],_::_,h=>nomatch h
 |_::_, [],h=>nomatch h
noncomputable def zC{α:Type}(d:Data)(z:α)(f:iv->α)(s:Array aj->α):α:=Data.casesOn d z (λJ=>z) (λl J=>s l) (λJ J=>z) (λJ J J=>z) (λJ J=>z) (λJ=>z) f (λJ=>z) (λJ=>z) z
def MI{α:Type}{P:α->Prop}{d:Data}{z:α}{f:iv->α}{s:Array aj->α}(hz:P z)(hf:∀x,d= .func x->P (f x))(am:∀l n,d= .seq l n->P (s l)):P (zC d z f s):=Data.rec (motive:=λw=>d=w->P (zC w z f s)) (λJ=>hz) (λJ J=>hz) (λl n e=>am l n e) (λJ J J=>hz) (λJ J J J=>hz) (λJ J J=>hz) (λJ J=>hz) hf (λJ J=>hz) (λJ J=>hz) (λJ=>hz) d rfl
def NJ(K:dQ)(ds:List V)(d:aj):Bool:=aA (aK d.ctorIdx 0) ds.isEmpty (bs (r1 d) af λT=>bs (K.lookup T) af λo=>zC o.data af (λJ=>af) λitems=>C8 ds items.toList)
def YP{u:bf}{ds:List V}{d:aj}(h:NJ u.K ds d=ae):(ds= []/\d= .none)\/∃T o items n,d= .ref T/\u.K.lookup T=U o/\o.data= .seq items n/\bI (az u []) ds items.toList:=by
 revert h;show C.l3 (P:=(·=ae->_)) (λq h=> .inl ⟨wz.mp h,aiw (motive:=λv=>v= .none) d (iN q) rfl⟩) λJ=>?_;cases q:r1 d with
 |none=>nofun
 |some T=>
  change bs (u.K.lookup T) af _=ae->_;cases c:u.K.lookup T with
  |none=>nofun
  |some o=>show MI (P:=(·=ae->_)) nofun (λJ J=>nofun) λitems n Q h=> .inr ⟨T,o,items,n,A4 q,c,Q,Ja h⟩
noncomputable def Kb(p:xa):Bool:=p.posonlyargs.isEmpty&&(p.vararg.isNone&&(p.kwonlyargs.isEmpty&&p.kwarg.isNone))
def U8(h:Kb p=ae):ru p:=⟨wz.mp (au h),zG.mp (au (ak h)),wz.mp (au (ak (ak h))),zG.mp (ak (ak (ak h)))⟩
def yQ{e0 gh d f c B:Bool}{P:Prop}(h:(e0&&(gh&&(d&&(f&&(c&&B)))))=ae)(k:e0=ae->gh=ae->d=ae->f=ae->c=ae->B=ae->P):P:=k (au h) (au (ak h)) (au (ak (ak h))) (au (ak (ak (ak h)))) (au (ak (ak (ak (ak h))))) (ak (ak (ak (ak (ak h)))))
noncomputable def afZ(K:dQ)(fd:iv):Bool:=fd.closure.isEmpty&&(aK fd.globals d2&&(aK fd.builtins hj&&(codeIn K fd.code fd.qualname&&(fd.scope.kind== .function&& !fd.scope.isCoroutine))))
def af0(K:dQ)(f:jJ)(fd:iv):Bool:= !fd.scope.isGenerator&&(Kb fd.params&&(fd.params.args.map (·.arg)==f.a2.map ay&&(NJ K f.ds fd.defaults&&(pq f.ds.length f.a2.length&&pW f.a2))))
def af1(f:jJ)(fd:iv):Bool:=pW f.cells&&(f.cells.all (λn=>fd.scope.names.lookup (ay n)==U .cell)&&(f.a2.all (λn=>G.mem f.cells n || fd.scope.names.lookup (ay n)==U .local)&&
 (fd.scope.names.all (λx=>x.2!= .free)&&(bs (r1 fd.code) af (λc=>(uv.map (·.1)).contains c)&& !f.ex))))
def EX(K:dQ)(f:jJ)(fd:iv):Bool:=afZ K fd&&(af0 K f fd&&af1 f fd)
def oE(K:dQ)(k:Nat):Option (iv×List b_):=bs (K.lookup (eE k)) aa λo=>zC o.data aa (λfd=>FuncBody.casesOn fd.body (λb=>U (fd,b)) λJ=>aa) λJ=>aa
def YQ{K:dQ}{k:Nat}{fd:iv}{b:List b_}(e:oE K k=U (fd,b)):(∃lB kC y_,K.lookup (eE k)=U ⟨lB,kC, .func fd,y_⟩)/\fd.body= .stmts b:=by
 revert e;delta oE;cases q:K.lookup (eE k)with
 |none=>show nofun
 |some o=>
  show MI (P:=(·=U (fd,b)->_)) nofun (λOI iL e=>?_) λJ J J=>nofun
  cases lE:OI.body with
  |stmts Pe=>rw[lE]at e;have e:=bY e;have fu:OI=fd:=congrArg BA e;have fv:Pe=b:=congrArg Xe e;obtain⟨lB,kC,ahf,hV⟩:=o;rw[<-fu,<-fv];show⟨⟨lB,kC,hV,congrArg (λd=>U (Obj.mk lB kC d hV)) iL⟩,lE⟩
  |expr x=>rw[lE]at e;cases e
def Kc{u:bf}{k:Nat}{f:jJ}{fd:iv}{b:List b_}(e:oE u.K k=U (fd,b))(h:EX u.K f fd=ae):FnAt u k f.a2 f.cells f.ds b fd/\∃c,fd.code= .ref c/\c∈tabs.map (·.1):=by
 show x02 (YQ e) λx y=>?_;show yQ (au h) λt D B v g m=>yQ (au (ak h)) λj l p E o A=>yQ (ak (ak h)) λz r i ac s J=>⟨⟨x,y,wz.mp t,iN D,iN B,v,beq_iff_eq.mp g,kI.mp m,kI.mp j,U8 l,beq_iff_eq.mp p,YP E,P3 o,Bp A,Bp z,λn d=>beq_iff_eq.mp (eL r d),λn d w=>(kJ.mp (eL i d)).elim (λq=>absurd (xW q) w) beq_iff_eq.mp,λx ai=>bne_iff_ne.mp (eL ac ai)⟩,?_⟩
 revert s;cases q:r1 fd.code with
 |none=>show nofun
 |some c=>showλh=>⟨c,A4 q,by delta tabs;show FV.mp h⟩
def D0(K:dQ)(k:Nat):Bool:=match oE K k with
 |some (fd,_)=>EX K (G.jK.get ⟨[], [], [], [],af, .nil, .no⟩ G.yX k) fd
 |none=>af
def d9(k:Nat):jJ:=G.jK.get ⟨[], [], [], [],af, .nil, .no⟩ G.yX k
def zi(K:dQ)(k:Nat):List b_:=match oE K k with |some (_,b)=>b |_=> []
def EY(ws:Nat->List Nat->W->W->W)(K:dQ)(k:Nat):Bool:=match oE K k with |some (fd,b)=>(dZ ws (d9 k).body).e1 fd.scope b |_=>af
def EZ(ws:Nat->List Nat->W->W->W)(K:dQ)(k:Nat):List b_:=(dZ ws (d9 k).body).l (zi K k)
noncomputable def p6(c:C.su):Bool:=match c with | .no=>ae |_=>af
noncomputable def NK(sc:bW):Bool:=sc.kind== .function&& !sc.isCoroutine&& !sc.isGenerator&&sc.names.all λx=>x.2== .free || x.2== .globalImplicit
def NL(ws:Nat->List Nat->W->W->W)(k:Nat):Bool:=NK (ib k).2&&(dZ ws (d9 k).body).de (ib k).2 (ib k).1&&(d9 k).ex&&(C.lT (d9 k).a2 [] (d9 k).ds).isSome&&p6 (d9 k).con
def jc(u:bf)(call:d8)(k:Nat)(as:List a3)(cs:aL)(L:bU):bl:=C.xq call (C.c8 u.ao) (d9 k).a2 (d9 k).ds (d9 k).cells (d9 k).ex (d9 k).body as cs L
def D1(u:bf)(call:d8)(k:Nat)(as:List a3)(cs:aL)(L:bU):bl:=C.CI u.ao.dB call as L (jc u call k as cs) (d9 k).con
def A5{u:bf}{call:d8}{k:Nat}{as:List a3}{cs:aL}{L:bU}(h:k<162):C.t_ u.ao call (C.c8 u.ao) k as cs L=D1 u call k as cs L:=by
 delta C.t_;rw[show aK k 5000=af from C.tz (by lia)]
 rfl
def rn(u:bf)(n:Nat)(call:d8)(k:Nat):Prop:=∀c Y L s A B sc as ws,Rel u c Y L s->Act c A sc (n+1)->gT A B->bI (az u Y.ah) as ws->
 ai u c B (ci u c) Y (bv (.ref (eE k)) ws) s (jc u call k as .nil L)
def MJ(u:bf)(n:Nat)(call:d8):Prop:=∀k,k<146->rn u n call k->∀c Y L s A B sc as ws,Rel u c Y L s->Act c A sc (n+1)->gT A B->bI (az u Y.ah) as ws->
 ai u c B (ci u c) Y (bv (.ref (eE k)) ws) s (D1 u call k as .nil L)
structure Txt(ws:Nat->List Nat->W->W->W)(K:dQ):Prop where
 t1:(eT 146).map (EZ ws K)=(eT 146).map (zi K)
 iI:(eT 146).all (EY ws K)=ae
 t3:(eT 16).map (λk=>(dZ ws (d9 (k+146)).body).e (ib (k+146)).1)=(eT 16).map (λk=>(ib (k+146)).1)
 sH:(eT 16).all (λk=>NL ws (k+146))=ae
 v8:(eT 146).all (D0 K)=ae
section
variable{n:Nat}{ws:Nat->List Nat->W->W->W}
def yh(u:bf)(n:Nat)(call:d8)(ws:Nat->List Nat->W->W->W):Prop:=∀dM bk i c (m:W) (aC:W),a1 u n call m (C.c8 u.ao i)->a1 u n call aC (C.c8 u.ao c)->a1 u n call (ws dM bk m aC) (C.uR dM (C.c8 u.ao i) c (C.c8 u.ao c) bk)
def uF:gZ G.b0.kS=ae:=by k_go
def WB(T:Txt ws u.K)(l:jp u n call)(v:ow u n call)(j:yh u n call ws){k:Nat}(i:k<146):rn u n call k:=λc Y L s A B sc as vs R ac t o=>by
 haveI m:=nP.mpr i;haveI E:=s9.mp T.t1 k m;haveI d:=eL T.iI m;haveI f:=eL T.v8 m;unfold EZ zi at E;unfold EY at d;unfold D0 at f;cases q:oE u.K k with
 |none=>rw[q]at d;cases d
 |some p=>
  obtain⟨fd,b⟩:=p;rw[q]at E d f;show x02 (Kc q f) λF r=>?_;haveI g:=(qC l v uF j (d9 k).body).l fd.scope b d;haveI E:(dZ ws (d9 k).body).l b=b:=E;rw[E]at g;haveI ai:=Yv F r g R ac t o;haveI w:(d9 k).ex=af:=by unfold EX at f;show yQ (ak (ak f)) λJ J J J J h=>kI.mp h
  unfold jc C.xq;rw[w];show ai
def aaG(T:Txt ws u.K)(x:jp u n call)(Q:ow u n call)(l:yh u n call ws){k:Nat}(g:k<16){c:aV}{Y:b1}{L:bU}{s:ax}{A B:b2}{sc:bW}{i:Nat}{cs:aL}{w:aj}
 (R:Rel u c Y L s)(ac:Act c A sc (n+1))(P:gT A B)(v:az u Y.ah (.ref i) w)(q:L.h.get i= .lam (k+146) cs):ai u c B (ci u c) Y (bv w []) s (C.t_ u.ao call (C.c8 u.ao) (k+146) [] cs L):=by
 haveI m:=nP.mpr g;haveI p:=s9.mp T.t3 k m;haveI E:=eL T.sH m;simp only[NL,NK,lL,beq_iff_eq,Gj,jS,Bool.or_eq_true]at E;show x02 E λV r=>x02 V λO d=>?_;show x02 O λy t=>x02 y λI j=>?_;show x02 I λo K=>x02 o λz M=>?_;show x02 z λD S=>?_;haveI f:=(qC x Q uF l (d9 (k+146)).body).e (ib (k+146)).2 (ib (k+146)).1 j;rw[p]at f;haveI aI:=Ws (F:=⟨rfl,D,S,M,K⟩) f R ac P v q;rw[A5 (by lia)]
 unfold D1 jc C.xq;rw[t];show x11 (qE.mp d) λfl d=>?_;rw[d];revert r;cases(d9 (k+146)).con with
 |no=>showλJ=>aI
 |_=>showλh=>nomatch h
end
section
variable{ws:Nat->List Nat->W->W->W}
def aaH(T:Txt ws u.K)(o:∀n call,jp u n call->ow u n call->yh u n call ws)(t:∀n,jp u n (C.run u.ao n)->ow u n (C.run u.ao n)->MJ u n (C.run u.ao n)):
 ∀n,jp u n (C.run u.ao n)/\ow u n (C.run u.ao n):=by
 intro x;cases x with
 |zero=>show⟨λJ J J J J J J J J J J J J J J m=>absurd rfl (m 120),λJ J J J J J J J J J J J J J J J J J m=>absurd rfl (m 120)⟩
 |succ n I=>
  show x02 I λd l=>⟨λc Y L s A B sc k as vs R ac g p f=>?_,λc Y L s A B sc i k cs w R ac g r q f v=>?_⟩
  .change ai _ _ _ _ _ _ _ (C.t_ _ _ _ _ _ _ _);rw[A5 (by lia)]
   show t n d l k f (WB T d l (o n _ d l) f) c Y L s A B sc as vs R ac g p
  .show x11 (⟨k - 146,(QC f).symm⟩:∃j,k=j+146) λj O=>?_;k_lt O;show aaG (k:=j) T d l (o n _ d l) (by lia) R ac g r q
end
end
section
section
def cY.del{live:aP}(h:cY ah live lv)(k:Int):cY ah (live.dG k) (lv.filter λx=>x.1!=k):=by
 cases h with
 |nil=>show .nil
 | @cons n j q r l c t i=>
  rw[C.aP.JB,mG];cases x:C.cH n k with
  |true=>rw[if_neg (by simp[C.gQ x])];show i
  |false=>rw[if_pos (by simp[C.KI x])];show .cons c i
def Jb:∀{lv:List (Int×Nat×ar)} {x:Int×Nat×ar},(lv.map (·.1)).Nodup->x∈lv->(x::lv.filter λy=>y.1!=x.1).Perm lv:=by
 intro X;cases X with
 |nil=>intro J J h;show nomatch h
 |cons y r i=>
  intro x aB h;rw[gC,dN]at aB;show a8 (bX.mp h) (λo=>?_) λh=>?_
  .k_lt o;rw[mG,if_neg (by simp),s6.mpr λy d=>bne_iff_ne.mpr λe=>aB.1 (dy.mpr ⟨y,d,e⟩)]
  .haveI c:y.1≠x.1:=λe=>aB.1 (e▸hc h);rw[mG,if_pos (bne_iff_ne.mpr c)];show(RV y x _).trans ((i aB.2 h).cons y)
def Kd:∀{l m:List dE},C.yt l m=ae->l=m:=by
 intro x;cases x with
 |nil=>
  intro y h;cases(y)with
  |nil=>show rfl
  |cons _ _=>show nomatch h
 |cons a l i=>
  intro y h;cases(y)with
  |nil=>show nomatch h
  |cons b m=>
   haveI h:C.aA (C.nq a b) (C.yt l m) af=ae:=h;cases q:C.nq a b with
   |true=>rw[q]at h;rw[C.uc q,i h]
   |false=>rw[q]at h;cases h
inductive nl:V->Prop where
 |aZ (y:dE):nl (.aZ y)
 |ev (l:List dE):nl (.ev l)
def WC{v w:V}:C.x2 v w=ae->v=w/\nl w:=C.k2 (P:=(·=ae->_)) nofun (λJ J=>nofun) (λJ J=>nofun) (λa e=>C.nc (P:=(·=ae->_)) (λb E h=>by subst e E;show⟨congrArg _ (C.uc h), .aZ _⟩) nofun)
  (λl e=>C.k2 (P:=(·=ae->_)) nofun (λJ J=>nofun) (λJ J=>nofun) (λJ J=>nofun) (λm E h=>by subst e E;show⟨congrArg _ (Kd h), .ev _⟩) (λJ J=>nofun) λJ J=>nofun) (λJ J=>nofun) λJ J=>nofun
def nl.ay{v:V}(o:nl v)(n:Nat):v≠ .aW n:=by
 cases o with
 |aZ y=>nofun
 |ev l=>nofun
def nl.af2(o:nl v):az u ah v w->oJ (dK u v) w:=by
 cases o with
 |aZ y=>show id
 |ev l=>show id
def aaI:C.Ec v=ae->az u ah v w->oJ (dK u v) w:=C.k2 (P:=(·=ae->_)) nofun (λJ J=>nofun) (λJ J=>nofun) (λJ e J h=>by k_lt e;show h) (λJ e J h=>by k_lt e;show h) (λJ e J h=>by k_lt e;show h) λJ J=>nofun
def nl.ext(o:nl v)(d:dK u v a)(c:dK u v b):a=b:=by
 cases o with
 |aZ y=>show ck.ext d c
 |ev l=>show x12 d λy e h=>x12 c λf E ag=>?_;cases e.symm.trans E;show h.ext ag
def cM{a b:Bool}(h:C.aA a b af=ae):a=ae/\b=ae:=by
 cases a with
 |true=>show⟨rfl,h⟩
 |false=>cases h
def aej:C.ii w k af=ae->∃n,w= .aW n/\k n=ae:=C.iX (P:=(·=ae->_)) (λn e h=>⟨n,e,h⟩) λJ=>nofun
def mm(f:dK u v x):C.ga v (λy=>C.aA (aK y.n 64) (aK y.x 0) af) af=ae->x=jT 64 0:=C.nc (P:=(·=ae->_)) (λy e h=>by show x02 (cM h) λd c=>?_;obtain⟨g,i⟩:=y;cases C.bS d;cases C.bS c;k_lt e;show ck.ext f (ck.pQ 64)) nofun
def WD(h:C.x3 lk n v=ae)(m:ej u ah lk fl)(c:dK u v x):match fl n with
 |some w=>∃t,w= .bytes x t
 |none=>x=jT 64 0:=by
 unfold C.x3 at h;cases q:lk.get n with
 |none=>rw[q]at h;rw[m.no q];show mm c h
 |some w=>
  rw[q]at h;haveI g:=m.get q;haveI h:C.aA (C.x2 w v) ae (C.ii w (λm=>C.aA (aK m 1064) (C.ga v (λy=>C.aA (aK y.n 64) (aK y.x 0) af) af) af) af)=ae:=h;clear m q;cases Q:C.x2 w v with
  |false=>
   rw[Q]at h;show x12 (aej h) λk e h=>x02 (cM h) λd h=>?_;haveI g:g8 u ah (fl n) (.aW 1064):=C.bS d▸e▸g;haveI e:=mm c h;show a8 (show _\/_ from g) (λm=>?_) λO=>?_
   .rw[m];show e
   .show x22 O λa t m hz=>?_;rw[m,e,<-(if_neg (show¬(1064<1000) by x_go)).mp hz];show⟨t,rfl⟩
  |true=>show x02 (WC Q) λe o=>x12 ((e▸g:g8 u ah (fl n) v).el o.ay) λz E r=>?_;obtain⟨a,t,e,b⟩:=o.af2 r;rw[E];show⟨t,e.trans (congrArg (wY · t) (o.ext b c))⟩
end
section
noncomputable def pX(own:cB)(d:Nat)(mv:List ar):cB:=λa=>if mv.contains a then U d else own a
def oi(h:a∈mv):pX own d mv a=U d:=if_pos (FV.mpr h)
def tY(h:a∉mv):pX own d mv a=own a:=if_neg λq=>h (FV.mp q)
def pC(h:own a=U d):pX own d mv a=U d:=by
 by_cases q:a∈mv
 .show oi q
 .show(tY q).trans h
def Rel.lj(R:Rel u c Y L s){i:Nat}(h:L.h.get i≠ .nul):i<Y.ah.length:=R.len.symm▸Gu λq=>h (R.out _ q)
def Rel.cQ(R:Rel u c Y L s){i:Nat}(h:L.h.get i≠ .nul):∃p,br Y.ah i p:=⟨_,jP (R.lj h)⟩
def Rel.move(R:Rel u c Y L s){ls:List Nat}{aU:cS}(o:d∈ls)(g:∀a∈mv,∃i∈ls,Y.own a=U i)(l:∀i∈ls,L.h.get i≠ .tab/\L.h.get i≠ .nul)(t:∀i,i∉ls->aU.get i=L.h.get i)
 (b7:∀i p,br Y.ah i p->i∈ls->dk u Y.ah (pX Y.own d mv) s.heap i p (aU.get i)):Rel u c ⟨Y.ah,pX Y.own d mv⟩ ⟨aU,L.nx,L.fr,L.hf⟩ s:=by
 have r:∀i∈ls,i≠0/\i≠1:=λi f=>R.bc.ne (l i f).1;have k:∀{a i},Y.own a=U i->i∉ls->pX Y.own d mv a=U i:=λ{a i} h q=>(tY λm=>by show x12 (g a m) λj w e=>q (bY (h.symm.trans e)▸w)).trans h
 have n:∀i,i<2->i∉ls:=λi f q=>by have:=r i q;lia
 show R.gen (aE:=⟨Y.ah,pX Y.own d mv⟩) (ag:=s.heap) (tk:=s.toks) (λJ J J J e=>e) R.here (λa h=>?_) R.len (λa i h=>?_) (λi p e=>?_) (λi f=>?_) (R.bc.at (λa i f=>⟨λh=>?_,λh=>k h (n i f)⟩) (λJ J J J J e=>e) ⟨t 0 (n 0 (by x_go)),t 1 (n 1 (by x_go))⟩ R.bc.here R.bc.codes)
 .have h:=(R.i5 h).1;show(tY λm=>?_).trans h;show x12 (g a m) λj J e=>nomatch h.symm.trans e
 .by_cases m:a∈mv
  .show x12 (g a m) λj J e=>?_;obtain rfl:=bY ((oi m).symm.trans h);show⟨(R.low _ _ e).1,R.len▸R.lj (l _ o).2⟩
  .show R.low _ _ ((tY m).symm.trans h)
 .by_cases m:i∈ls
  .show b7 i p e m
  .rw[t i m];show(R.objs i p e).at (fj _) (λa v=>⟨k v m,λJ=>id⟩) λa h=>k h (n 1 (by x_go))
 .show(t i λm=>absurd (R.lj (l i m).2) (d_.mpr (R.len▸f))).trans (R.out i f)
 .by_cases m:a∈mv
  .show absurd (bY ((oi m).symm.trans h)▸o) (n i f)
  .show(tY m).symm.trans h
def c9.rF(h:c9 u ah (.cons k v f) l):∃e t r,l=e::r/\e.key= .str (ay k) t/\az u ah v e.val/\c9 u ah f r:=by
 cases(h)with
 |cons a _ c r=>show⟨_,_,_,rfl,a,c,r⟩
def c9.yR(h:c9 u ah .nil l):l= []:=by cases h;rfl
def Lj(h:c9 u ah (.cons G.b0.number (.int n) (.cons G.b0.data (.ref F) (.cons G.b0.holders (.int 0) (.cons G.b0.pins (.int 0) .nil)))) es.toList)(ac:br ah F e):
 EF n e.1 ⟨.type "dict",aa, .dict es k,#[]⟩:=by
 show x34 h.rF λf T aI y j V l=>x34 l.rF λg A R x K d r=>?_;show x34 r.rF λE m I D dF v B=>x34 B.rF λi t ai Q z c o=>?_;haveI q:es=#[f,g,E,i]:=qW (y.trans (by rw[x,D,Q,o.yR]))
 show x11 V λcI V=>?_;obtain⟨p,w,d⟩:=d;show x11 v λs v=>x11 c λS c=>?_;show Mine.rwr q (.mk f g E i k cI s S T A m t j V K (d.trans (congrArg (λq=>eU q.1) (w.fn ac))) dF v z c)
def u3{α:Type}{P:α->Prop}{a x y z:α}(h:a∈ [x,y,z])(d:P x)(c:P y)(hz:P z):P a:=(bX.mp h).elim (λe=>Mine.rwr e d) λh=>(bX.mp h).elim (λe=>Mine.rwr e c) λh=>Mine.rwr (lJ.mp h) hz
def NM{α:Type}{a x y z:α}(h:a∉ [x,y,z]):a≠x/\a≠y/\a≠z:=⟨λe=>h (e▸cF ..),λe=>h (e▸cA _ (cF ..)),λe=>h (e▸cA _ (cA _ (cF ..)))⟩
def E0{α:Type}{x y:α}{l:List α}:y∈x::y::l:=cA _ (cF ..)
def zj{α:Type}{x y z:α}{l:List α}:z∈x::y::z::l:=cA _ E0
def Rel.t8(R:Rel u c Y L s){d b B:Nat}{live lk:aP}{r lt:Nat}{n:Int}{x:V}(t:L.h.get d= .c3 live aa aa lk r lt)(z:live.get n=U (.ref b))
 (o:L.h.get b= .inst G.b0.kS (.cons G.b0.number (.int n) (.cons G.b0.data (.ref B) (.cons G.b0.holders (.int 0) (.cons G.b0.pins (.int 0) .nil)))))
 (ai:L.h.get B= .ba x)(cl:C.x3 lk n x=ae):
 ∃bF,Rel u c ⟨Y.ah,bF⟩ ⟨((L.h.st .nul b).st .nul B).st (.c3 (live.dG n) aa aa lk r lt) d,L.nx,L.fr,L.hf⟩ s:=by
 have D:L.h.get d≠ .tab/\L.h.get d≠ .nul:=by rw[t];show⟨nofun,nofun⟩
 have F:L.h.get b≠ .tab/\L.h.get b≠ .nul:=by rw[o];show⟨nofun,nofun⟩
 have ac:L.h.get B≠ .tab/\L.h.get B≠ .nul:=by rw[ai];show⟨nofun,nofun⟩
 show x11 (R.cQ D.2) λct ad=>x11 (R.cQ ac.2) λl M=>?_;obtain⟨pr,pl,am,lv,f,fl,ws,wn,H⟩:=R.at ad t;show x23 (H.dV.get z) λj eO e N aW=>?_;cases e;obtain⟨es,k,v3,ne,au,ak,Fv⟩:=R.at N o;obtain⟨X,hV,aI,bN⟩:=R.at M ai;have E1:=Lj (k:=k) Fv M;have I:b≠d:=λq=>by k_lt q;cases o.symm.trans t
 have bD:B≠d:=λq=>by w_pre q;cases ai.symm.trans t
 have K:b≠B:=λq=>by k_lt q;cases o.symm.trans ai
 have A:=au.w;have v:=ak.w;have O:=aI.w;show⟨_,R.move (mv:= [eO.1,eO.2,l.1]) (ls:= [d,b,B]) (d:=d) (cF ..) (λa m=>?_) (λi g=>?_) (λi g=>?_) λi p e g=>?_⟩
 .show u3 (P:=λa=>∃i∈ [d,b,B],Y.own a=U i) m ⟨b,E0,A⟩ ⟨b,E0,v⟩ ⟨B,zj,O⟩
 .show u3 (P:=λi=>L.h.get i≠ .tab/\L.h.get i≠ .nul) g D F ac
 .have g:=NM g;rw[C.T.bO _ _ g.1,C.T.bO _ _ g.2.2,C.T.bO _ _ g.2.1]
 .by_cases q:i=d
  .k_lt q;rw[C.T.cT];cases br.fn (i:=i) ad e;have Z:∀{a},Y.own a=U i->a≠eO.1/\a≠eO.2/\a≠l.1:=λh=>⟨λq=>I (bY (A.symm.trans (q▸h))),λq=>I (bY (v.symm.trans (q▸h))),λq=>bD (bY (O.symm.trans (q▸h)))⟩
   have zx: [eO.1,eO.2,l.1].Nodup:=by have af3:eO.1≠l.1:=λq=>K (bY (A.symm.trans ((congrArg Y.own q).trans O)));have af4:eO.2≠l.1:=λq=>K (bY (v.symm.trans ((congrArg Y.own q).trans O)));simp[ne,af3,af4]
   have T:∀a∈ct.1::pr.1::pl.1::am.flatMap (λq=> [q.b,q.d,q.y]),Y.own a=U i:=have w:=H.own
    s0.mpr ⟨w.1,s0.mpr ⟨w.2.1,s0.mpr ⟨w.2.2.1,λa m=>(Gz.mp m).elim λq y=>have x:=w.2.2.2 q y.1;u3 (P:=λa=>Y.own a=U i) y.2 x.1 x.2.1 x.2.2⟩⟩⟩
   have pm:=Jb (qJ.mp H.num).2.1 aW;have E:(fG am lv).Perm (fG (⟨n,eO.1,eO.2,l.1,X⟩::am) (lv.filter λy=>y.1!=n)):=UR pm rfl;show⟨pr,pl,⟨n,eO.1,eO.2,l.1,X⟩::am,lv.filter λy=>y.1!=n,f,fl,ws,wn,⟨pC H.own.1,pC H.own.2.1,pC H.own.2.2.1,s0.mpr ⟨⟨oi (.head _),oi (.tail _ (.head _)),oi (.tail _ (.tail _ (.head _)))⟩,λq S=>have x:=H.own.2.2.2 q S;⟨pC x.1,pC x.2.1,pC x.2.2⟩⟩⟩,H.cQ,?_,H.jw,H.kj,H.kl,s0.mpr ⟨⟨_,hV,au.g,ak.g,E1,aI.g⟩,H.i4⟩,H.hW,H.dV.del n,Bj E H.num,⟨H.g0.1.sublist ((Qr).map _),λx en=>H.g0.2 x (wC.mp en).1⟩,Bk E H.fin,A1 E H.perm,⟨Bl E H.cnt.1,nofun⟩,s0.mpr ⟨WD cl H.hW bN,H.fresh⟩,nofun⟩
   .have aq:(ct.1::pr.1::pl.1::([eO.1,eO.2,l.1]++am.flatMap λq=> [q.b,q.d,q.y])).Perm ([eO.1,eO.2,l.1]++(ct.1::pr.1::pl.1::am.flatMap λq=> [q.b,q.d,q.y])):=by have:=(wg (l₁:= [ct.1,pr.1,pl.1]) (l₂:= [eO.1,eO.2,l.1])).append_right (am.flatMap λq=> [q.b,q.d,q.y]);show this
    show aq.nodup_iff.mpr (qJ.mpr ⟨zx,H.aB,λa m b z q=>?_⟩);have x:=Z (T b z);show u3 (P:=(·≠b)) m (cX x.1) (cX x.2.1) (cX x.2.2) q
  .rw[C.T.bO _ _ q];by_cases Q:i=B
   .w_pre Q;rw[C.T.cT];trivial
   .rw[C.T.bO _ _ Q];rcases bX.mp g with rfl |g
    .show absurd rfl q
    show a8 (bX.mp g) (λW=>?_) λg=>?_
    .w_pre W;rw[C.T.cT];trivial
    .show absurd (lJ.mp g) Q
def hy(u:bf)(c:aV)(Y:b1)(s:ax)(v:a3)(r:bl):Prop:=cW r->∃bn bp,r= .ok v bn/\Y.dL bp/\Rel u c bp bn s
def hy.st:hy u c Y s v (.stuck k):=λh=>absurd rfl (h k)
def hy.id{v:a3}(R:Rel u c Y L s):hy u c Y s v (.ok v L):=λJ=>⟨L,Y,rfl, .refl _,R⟩
def ai.D2(h:ai u c A (ci u c) Y t s dP)(f:∀v aq H F,Rel u c H aq F->hy u c H F v (k v aq)):ai u c A (ci u c) Y t s (dP.bind k):=λd=>ai.vB h d (λv w H aq F S g e=>by rw[e]at d⊢;show x23 (f v aq H F S.R d) λbn bp q l R=>?_;rw[q];show⟨bp,⟨S.le.trans l,R⟩,g.bR l⟩) λJ J x=>x
def MK{P:bl->Prop}(h:∀a v b w c x d y,f= .cons a v (.cons b w (.cons c x (.cons d y .nil)))->P (k a v b w c x d y))(hz:P (.stuck 133)):P (C.jg f k):=by cases(f)with |nil=>show hz |cons a v f=>cases(f)with |nil=>show hz |cons b w f=>cases(f)with |nil=>show hz |cons c x f=>cases(f)with |nil=>show hz |cons d y f=>cases(f)with |cons _ _ _=>show hz |nil=>show h a v b w c x d y rfl
def Cr{v:V}(h:C.r9 v=ae):v= .int 0:=by cases v<;>first |show GB h |show congrArg _ (C.gQ h)
def l6{P:bl->Prop}{b:Bool}(h:b=ae->P r)(hz:P (.stuck w)):P (C.bV b w r):=by
 cases b with
 |true=>show h rfl
 |false=>show hz
def rG{P:bl->Prop}{α:Type}{o:Option α}{w:Nat}{k:α->bl}(h:∀a,o=U a->P (k a))(hz:P (.stuck w)):P (C.a7 o w k):=by
 cases o with
 |some a=>show h a rfl
 |none=>show hz
def n6{P:bl->Prop}{v:V}(h:∀i c f,v= .ref i->L.h.get i= .inst c f->P (k i c f))(hz:P z):P (C.inst L v k z):=C.e9 (λi e=>C.kU (λc f q=>h i c f e q) hz) hz
def ro{P:bl->Prop}{o:Option V}{k:Nat->bl}(h:∀i,o=U (.ref i)->P (k i))(hz:P (.stuck 130)):P (C.ht o k):=rG (λv e=>C.e9 (λi q=>h i (e.trans (congrArg _ q))) hz) hz
def aek{a b c d e f g:Bool}{P:Prop}(h:C.zq [a,b,c,d,e,f,g]=ae)(k:a=ae->b=ae->c=ae->d=ae->e=ae->f=ae->g=ae->P):P:=by show x02 (cM h) λl h=>x02 (cM h) λj h=>?_;show x02 (cM h) λi h=>x02 (cM h) λo h=>?_;show x02 (cM h) λm h=>x02 (cM h) λn h=>?_;show k l j i o m n (cM h).1
def acZ{c a_ K k dF m bQ cn l j:Nat}{i g v d o n w W:V}{f:aL}(e:f= .cons K i (.cons k g (.cons dF v (.cons m d .nil))))(a:c=a_)(e0:K=bQ)(gh:k=cn)(p:dF=l)(B:m=j)
 (gz:i=o)(ei:g=n)(nF:v=w)(zv:d=W):O.inst c f= .inst a_ (.cons bQ o (.cons cn n (.cons l w (.cons j W .nil)))):=by
 subst e a e0 gh p B gz ei nF zv;rfl
def Iv{S m v:a3}(R:Rel u c Y L s):hy u c Y s v (C.t8 G.b0 S m L (.ok v)):=by
 show C.jv (P:=hy u c Y s v) (λn I=>n6 (λJ J f aI D=>ro (λd T=>C.pd (P:=hy u c Y s v) (λlive cL ch lk r lt p=>?_) (.id R)) .st) .st) .st;cases cL with
 |some _=>show .st
 |none=>
  cases ch with
  |some _=>show .st
  |none=>
   show ro (P:=hy u c Y s v) (λb dU=>C.kU (P:=hy u c Y s v) (λc_ aM j=>MK (λA B K M dF i O t l=>?_) .st) .st) .st;cases y:C.r9 i with
   |false=>show .id R
   |true=>
    cases Q:C.r9 t with
    |false=>show .id R
    |true=>show C.jv (P:=hy u c Y s v) (λz k=>C.e9 (P:=hy u c Y s v) (λac E=>C.oa (P:=hy u c Y s v) (λx o=>l6 (P:=hy u c Y s v) (λg=>aek g λg1 g2 g3 lz qs ai w=>?_) .st) .st) .st) .st;show x11 (R.t8 p dU (j.trans (acZ l (C.bS g1) (C.bS g2) (C.bS g3) (C.bS lz) (C.bS qs) (k.trans (congrArg V.int (C.gQ ai))) E (Cr y) (Cr Q))) o w) λbF R'=>?_;rw[C.gP,C.gP,C.aP.tQ,C.gP];showλJ=>⟨_,⟨Y.ah,bF⟩,rfl,fj _,R'⟩
def Rel.ael(R:Rel u c Y L s){r d lt:Nat}{lk:aP}(l:L.h.get r= .list [])(m:L.h.get d= .dict .nil)(t:L.h.get lt= .dict lk)(V:d≠lt):
 ∃bF,Rel u c ⟨Y.ah,bF⟩ ⟨((L.h.st (.iA d) r).st (.cb d) lt).st (.c3 .nil aa aa lk r lt) d,L.nx,L.fr,L.hf⟩ s:=by
 have D:L.h.get d≠ .tab/\L.h.get d≠ .nul:=by rw[m];show⟨nofun,nofun⟩
 have B:L.h.get r≠ .tab/\L.h.get r≠ .nul:=by rw[l];show⟨nofun,nofun⟩
 have z:L.h.get lt≠ .tab/\L.h.get lt≠ .nul:=by rw[t];show⟨nofun,nofun⟩
 show x11 (R.cQ D.2) λct ad=>x11 (R.cQ B.2) λpr w=>?_;show x11 (R.cQ z.2) λpl ac=>?_;obtain⟨ws,k,au,T,J⟩:=R.at w l;obtain⟨f,o,ei,aI⟩:=R.at ad m;obtain⟨fl,O,nF,M⟩:=R.at ac t;have I:r≠d:=λq=>by k_lt q;cases l.symm.trans m
 have S:r≠lt:=λq=>by k_lt q;cases l.symm.trans t
 have v:=au.w;have A:∀{i j:Nat} {x y:ar},i≠j->Y.own x=U i->Y.own y=U j->x≠y:=λh e K q=>h (bY (e.symm.trans ((congrArg Y.own q).trans K)));show⟨_,R.move (mv:= [pr.1,pl.1]) (ls:= [d,r,lt]) (d:=d) (cF ..) (λa E=>?_) (λi g=>?_) (λi g=>?_) λi p e g=>?_⟩
 .simp only[bX,Gy,or_false]at E;show a8 E (λn=>?_) λai=>?_
  .k_lt n;show⟨r,by simp,v⟩
  .k_lt ai;show⟨lt,by simp,O⟩
 .show u3 (P:=λi=>L.h.get i≠ .tab/\L.h.get i≠ .nul) g D B z
 .have g:=NM g;rw[C.T.bO _ _ g.1,C.T.bO _ _ g.2.2,C.T.bO _ _ g.2.1]
 .by_cases q:i=d
  .k_lt q;rw[C.T.cT];cases br.fn (i:=i) ad e;obtain⟨ws⟩:=ws;cases T;show⟨pr,pl, [], [],f,fl,#[],k,⟨pC o,oi (by simp),oi (by simp),nofun⟩,⟨w,ac⟩,?_,ei,nF,au.g,nofun,M, .nil, .nil,⟨.nil,nofun⟩,λk a=>⟨λh=>?_,λh=>?_⟩, .nil,⟨gD _,nofun⟩,nofun,nofun⟩
   .simp[A (cX I) o v,A V o O,A S v O]
   .have:f k=aa:=aI k;show nomatch this.symm.trans h
   .rcases h with⟨J,h,J⟩ | ⟨_,h,_⟩<;>show nomatch h
  .rw[C.T.bO _ _ q];by_cases Q:i=lt
   .w_pre Q;rw[C.T.cT];trivial
   .rw[C.T.bO _ _ Q];rcases bX.mp g with rfl |g
    .show absurd rfl q
    show a8 (bX.mp g) (λn=>?_) λg=>?_
    .w_pre n;rw[C.T.cT];trivial
    .show absurd (lJ.mp g) Q
def YR{S v:a3}(R:Rel u c Y L s):hy u c Y s v (C.LN G.b0 S L (.ok v)):=by
 show n6 (λJ J f k m=>ro (λr t=>ro (λd n=>rG (λdT w=>n6 (λJ J g dU p=>ro (λlt o=>C.j0 (P:=hy u c Y s v) (λl j=>?_) .st) .st) .st) .st) .st) .st) .st;cases q:aK d lt with
 |true=>show .st
 |false=>
  cases l with
  |cons _ _=>show .st
  |nil=>
   show C.q6 (P:=hy u c Y s v) (λe E=>?_) .st;cases e with
   |cons _ _ _=>show .st
   |nil=>show C.q6 (P:=hy u c Y s v) (λlk i=>?_) .st;show x11 (R.ael j E i (C.j7 q)) λbF R'=>?_;rw[C.gP,C.gP,C.gP];showλJ=>⟨_,⟨Y.ah,bF⟩,rfl,fj _,R'⟩
end
end
section
variable{c:aV}{Y aE bp c6:b1}{L bn:bU}{s a5:ax}{bF:cB}{aU:cS}{cV:Nat}
noncomputable def aV.eu(c:aV)(own bF:cB)(h:Heap):aV:={c with z:={c.z with Z:=λa=>if(own a).isSome&&(bF a).isNone then h.get? a else c.z.Z a,cd:=λa=>own a=U 1}}
def pD(e:own a=aa):(c.eu own bF h).z.Z a=c.z.Z a:=if_neg (by rw[e];nofun)
def Lk(e:own a=U i)(E:bF a=aa):(c.eu own bF h).z.Z a=h.get? a:=if_pos (by rw[e,E];rfl)
def YS(E:bF a=U i):(c.eu own bF h).z.Z a=c.z.Z a:=if_neg (by rw[E];simp)
def Rel.small(R:Rel u c Y L s)(w:Y.ah<+:aE.ah)(len:aE.ah.length=cV)(k:∀a,Y.own a=aa->aE.own a=aa)(l:∀a i,i<2->(aE.own a=U i↔Y.own a=U i))(low:∀a i,aE.own a=U i->i<cV)
 (objs:∀i p,br aE.ah i p->dk u aE.ah aE.own s.heap i p (aU.get i))(out:∀i,cV<=i->aU.get i= .nul)(r:aU.get 0= .tab/\aU.get 1= .tab):Rel u (c.eu Y.own aE.own s.heap) aE ⟨aU,cV,L.fr,L.hf⟩ s:=by
 haveI n:∀{b o},c.z.Z b=U o->Y.own b=aa:=λe=>(R.frozen _ _ e).2;haveI T:mw c aE.own aU s.heap:=R.bc.at l (λJ J J J J e=>e) ⟨r.1.trans R.bc.t0.symm,r.2.trans R.bc.t1.symm⟩ R.bc.here R.bc.codes;show⟨R.st,R.hf,λa o e=>(pD (n (R.base a o e))).trans (R.base a o e),λb o e=>?_,λe t=>?_,λq v=>?_,len,λb i e=>⟨?_,low b i e⟩,objs,out,R.here.imp λm q=>⟨q.1,q.2.bR w⟩,k _ R.ix,(pD R.ix).trans R.h7,R.iy,R.gens,R.os,⟨T.t0,T.t1,T.ok,T.here,T.codes,λa h=>(l a 1 (by x_go)).mpr h⟩⟩
 .cases q:Y.own b with
  |none=>show⟨(R.frozen b o ((pD q).symm.trans e)).1,k b q⟩
  |some i=>
   cases Q:aE.own b with
   |none=>show⟨(Lk q Q).symm.trans e,rfl⟩
   |some j=>show nomatch q.symm.trans (n ((YS Q).symm.trans e))
 .obtain⟨a,aq,o,b,x,d,f,g⟩:=R.frames e t;show⟨a,aq,o,b,x,d,k _ f,(pD f).trans g⟩
 .show x03 (R.kept q v) λa b d=>⟨a,k _ b,d⟩
 .cases q:Y.own b with
  |none=>show nomatch(k b q).symm.trans e
  |some j=>show(R.low b j q).1
def Rel.same(R:Rel u c Y L s)(R':Rel u (c.eu Y.own bF s.heap) bp bn a5)(e:Y.own a=U i)(E:bF a=aa):bp.own a=aa/\∀o,s.heap.get? a=U o->a5.heap.get? a=U o:=by show x11 ((R.low a i e).1) λo g=>x02 (R'.frozen a o ((Lk e E).trans g)) λx y=>?_;show⟨y,λa4 ai=>x.trans (g.symm.trans ai)⟩
def BU(h:ah<+:F)(e:br ah i p)(E:br F i q):p=q:=(eI h e).fn E
def az.down(h:ah<+:F)(x:az u ah v w)(y:az u F v H):az u ah v H:=by
 cases v with
 |ref i=>obtain⟨p,a,J⟩:=x;obtain⟨q,b,e⟩:=y;show⟨p,a,BU h a b▸e⟩
 |_=>show y
def f9.down(h:ah<+:F)(x:f9 u ah env m fr)(y:f9 u F env q fr):f9 u ah env q fr:=⟨λn v e k=>by show x12 (x.loc n v e k) λw J a=>x12 (y.loc n v e k) λW E b=>?_;show⟨W,E,a.down h b⟩,x.bt⟩
def eb.eu{b:ar}(d:∀{b o},c.z.Z b=U o->own b=aa)(x:eb c b):eb (c.eu own bF h) b:=x.imp (λaD=>aD.casesOn λo e=>⟨o,(pD (d e)).trans e⟩) id
def Rel.gI(R:Rel u c Y L s)(R':Rel u (c.eu Y.own bF s.heap) bp bn a5)(z:bn.fr=L.fr)(y:Y.ah<+:bp.ah)(w:Y.ah<+:aE.ah)(len:aE.ah.length=cV)(v:∀a,Y.own a=aa->bp.own a=aa->aE.own a=aa)(t:∀a i,i<2->(aE.own a=U i↔bp.own a=U i))
 (low:∀a i,aE.own a=U i->(∃o,a5.heap.get? a=U o)/\i<cV)(objs:∀i p,br aE.ah i p->dk u aE.ah aE.own a5.heap i p (aU.get i))(out:∀i,cV<=i->aU.get i= .nul)(n:aU.get 0= .tab/\aU.get 1= .tab):
 Rel u c aE ⟨aU,cV,L.fr,L.hf⟩ a5:=by
 have r:∀{b o},c.z.Z b=U o->Y.own b=aa:=λe=>(R.frozen _ _ e).2;have j:∀{b},eb c b->aE.own b=aa:=λx=>v _ (R.i5 x).1 (R'.i5 (x.eu r)).1;show⟨R.st,R.hf,R.base,λb o e=>⟨(R'.frozen b o ((pD (r e)).trans e)).1,j (.inl ⟨o,e⟩)⟩,λe k=>?_,λq l=>?_,len,low,objs,out,?_,j (.inr (.inr (.inr rfl))),R.h7,R.iy,R'.gens,R'.os,R'.bc.at t (λJ J J J J e=>e) ⟨n.1.trans R'.bc.t0.symm,n.2.trans R'.bc.t1.symm⟩ R'.bc.here R'.bc.codes (hcd:=λa h=>R.bc.nv a h)⟩
 .obtain⟨a,aq,o,b,x,d,f,g⟩:=R'.frames e k;obtain⟨J,A,J,B,J,J,ac,ai⟩:=R.frames e k;cases b.symm.trans B;show⟨a,aq,o,b,x,d,j (.inr (.inl ⟨e,k,b⟩)),ai⟩
 .show x03 (R'.kept q l) λa b d=>⟨a,j (.inr (.inr (.inl ⟨q,l,rfl⟩))),d⟩
 .show x12 R'.here λm a b=>x12 R.here λM J B=>?_;rw[z]at b;show⟨m,a,(B.down y b).bR w⟩
end
section
theorem Ke:∀{l m:List Int},C.rM l m=ae->l=m
 | [], [],_=>rfl
 | [],_::_,h=>nomatch h
 |_::_, [],h=>nomatch h
 |a::l,b::m,h=>by
  have h:C.aA (C.cH a b) (C.rM l m) af=ae:=h;cases q:C.cH a b with
  |true=>rw[q]at h;rw[C.gQ q,Ke h]
  |false=>rw[q]at h;cases h
def uh(h:me a b=ae):a=b:=by
 revert h;cases a with
 |none=>show C.n2 (P:=(·=ae->_)) (λe J=>e.symm) nofun
 |tt=>show C.CP (P:=(·=ae->_)) (λe J=>e.symm) (λJ=>nofun) nofun
 |aM=>show C.CP (P:=(·=ae->_)) (λJ=>nofun) (λe J=>e.symm) nofun
 |et=>show C.xr (P:=(·=ae->_)) (λe J=>e.symm) nofun
 |int i=>show C.jv (P:=(·=ae->_)) (λj e h=>(congrArg _ (C.gQ h)).trans e.symm) nofun
 |aZ y=>show C.nc (P:=(·=ae->_)) (λj e h=>(congrArg _ (C.uc h)).trans e.symm) nofun
 |aW n=>show C.iX (P:=(·=ae->_)) (λj e h=>(congrArg _ (C.bS h)).trans e.symm) λJ=>nofun
 |ref n=>show C.e9 (P:=(·=ae->_)) (λj e h=>(congrArg _ (C.bS h)).trans e.symm) nofun
 |li l=>show C.k2 (P:=(·=ae->_)) nofun (λJ J=>nofun) (λj e h=>(congrArg _ (Ke h)).trans e.symm) (λJ J=>nofun) (λJ J=>nofun) (λJ J=>nofun) λJ J=>nofun
 |ev l=>show C.k2 (P:=(·=ae->_)) nofun (λJ J=>nofun) (λJ J=>nofun) (λJ J=>nofun) (λj e h=>(congrArg _ (Kd h)).trans e.symm) (λJ J=>nofun) λJ J=>nofun
 |any n=>show C.k2 (P:=(·=ae->_)) nofun (λJ J=>nofun) (λJ J=>nofun) (λJ J=>nofun) (λJ J=>nofun) (λj e h=>(congrArg _ (C.bS h)).trans e.symm) λJ J=>nofun
 |_=>show nofun
def Ll:∀{f g:aP},vg f g=ae->f=g:=by
 intro x;cases x with
 |nil=>
  intro y h;cases(y)with
  |nil=>show rfl
  |cons _ _ _=>show nomatch h
 |cons k v f i=>
  intro y h;cases(y)with
  |nil=>show nomatch h
  |cons K V g=>show x02 (cM (show C.aA (C.cH k K) (C.aA (me v V) (vg f g) af) af=ae from h)) λj d=>x02 (cM d) λc l=>?_;rw[C.gQ j,uh c,i l]
def nm(e:Nat->Bool):aL->aL
 | .nil=> .nil
 | .cons n v f=> .cons n (C.aA (e n) .et v) (nm e f)
def YT(f:aL):∀(K:aL->bl),C.uP G.b0 f K=K (nm (C.l9 G.b0) f):=by
 cases f with
 |nil=>showλJ=>rfl
 |cons n v f i=>intro K;change C.aA (C.l9 G.b0 n) (C.uP G.b0 f λr=>K (.cons n .et r)) (C.uP G.b0 f λr=>K (.cons n v r))=_;rw[i,i];change _=K (.cons n (C.aA (C.l9 G.b0 n) .et v) (nm (C.l9 G.b0) f));cases C.l9 G.b0 n<;>rfl
theorem Jc(e:Nat->Bool):∀{f:aL} {k:Nat},f.get k=aa->(nm e f).get k=aa
 | .nil,_,_=>rfl
 | .cons n v f,k,h=>by
  have h:C.aA (aK n k) (U v) (f.get k)=aa:=h;change C.aA (aK n k) _ ((nm e f).get k)=aa;cases q:aK n k with
  |true=>rw[q]at h;cases h
  |false=>rw[q]at h;show Jc e h
section
def Kf{ah c:dr}{v:V}{w:aj}(h:ng v=ae)(x:az u ah v w):az u c .et w:=by
 cases v with
 |int i=>show⟨i,x⟩
 |et=>show x
 |_=>cases h
def aaJ(f:ah<+:F)(d:az u ah v w)(c:az u F e q)(h:C.aA t (C.aA (ng v) (ng e) af) (me v e)=ae):az u ah (C.aA t .et v) q:=by
 cases t with
 |true=>show Kf (cM h).2 c
 |false=>show d.down f (uh h▸c)
def c9.again(n:ah<+:q)(x:c9 u ah f l)(y:c9 u q F aq)(h:r_ e f F=ae):c9 u ah (nm e f) aq:=by
 induction x generalizing F aq with
 |nil=>
  cases y with
  |nil=>show .nil
  |cons=>cases h
 | @cons k v f _ _ _ o c j r I=>
  cases y with
  |nil=>cases h
  | @cons K V f2 _ _ _ m p i R=>haveI d:=cM (show C.aA (aK k K) (C.aA (C.aA (e k) (C.aA (ng v) (ng V) af) (me v V)) (r_ e f f2) af) af=ae from h);haveI g:=cM d.2;show .cons ((C.bS d.1).symm▸m) ⟨c.1,Jc e c.2⟩ (aaJ n j i g.1) (I R g.2)
end
section
theorem BV:∀f:aL,nm (λJ=>af) f=f
 | .nil=>rfl
 | .cons n v f=>congrArg (aL.cons n v) (BV f)
def ej.down(h:ah<+:H)(x:ej u ah l f)(y:ej u H l F):ej u ah l F:= .of (λJ e=>y.no e) λk v q=>C.iX (P:=λX=>X->_) (λi e z=>by k_lt e;show z) (λm z=>z.elim λW r=>(x.at q m).elim λw a=> .mk r.1 (a.2.down h r.2)) (y.get q)
def cY.af5(x:cY ah l a)(y:cY ah l b):a=b:=by
 induction x generalizing b with
 |nil=>cases y;rfl
 |cons h t i=>cases(y)with
  |cons ag aU=>rw[h.fn ag,i aU]
def Hid.relabel{ah d:dr}{own O:cB}{h:Heap}{i:Nat}{p:ar×ar}{live l:aP}{lk:aP}{row cb:Nat}{pr pl:ar×ar}{am:List ce}{lv:List (Int×Nat×ar)}{n:Int}{b nx:Nat}{a:ar}{f fl:Int->Option aj}{ws:Array aj}{wn:Nat}
 (H:Hid u ah own h i p live aa aa lk row cb pr pl am (lv++ [(n,b,a)]) f fl ws wn)(c:∀a,own a=U i->O a=U i)(r:br d row pr/\br d cb pl)(k:ej u d lk fl)(j:cY d l (lv++ [(n,nx,a)]))(v:∀x∈lv,x.2.1≠nx)(s:nx≠0):
 Hid u d O h i p l aa aa lk row cb pr pl am (lv++ [(n,nx,a)]) f fl ws wn:=by
 haveI o:=H.own;haveI E:(fG am (lv++ [(n,b,a)])).Perm (fG am (lv++ [(n,nx,a)])):=by rw[fG,fG,hD,hD];show .refl _
 haveI bQ:=H.g0.1;rw[hD]at bQ;show⟨⟨c _ o.1,c _ o.2.1,c _ o.2.2.1,λq g=>haveI x:=o.2.2.2 q g;⟨c _ x.1,c _ x.2.1,c _ x.2.2⟩⟩,r,H.aB,H.jw,H.kj,H.kl,H.i4,k,j,Bj E H.num,⟨?_,xi (λx t=>H.g0.2 x (sY _ t)) s⟩,Bk E H.fin,A1 E H.perm,⟨Bl E H.cnt.1,nofun⟩,H.fresh,nofun⟩
 rw[hD];show xD (qJ.mp bQ).1 λm=>(dy.mp m).elim λx y=>v x y.1 y.2
end
end
section
set_option tactic.hygienic true
section
variable{c:aV}{Y bp:b1}{L bn:bU}{s a5:ax}{own bF d0:cB}{ls:List Nat}{b j nx:Nat}
noncomputable def i6(own bF d0:cB)(ls:List Nat)(b j nx:Nat):cB:=λa=>match d0 a with
 |some i=>if i=b then U nx else if i=j then U (nx+1)else if i<2\/i∈ls then U i else aa
 |none=>if bF a=aa then own a else aa
def aaK(h:d0 a=U b):i6 own bF d0 ls b j nx a=U nx:=by delta i6;rw[h];show if_pos rfl
def aaL(h:d0 a=U j)(n:j≠b):i6 own bF d0 ls b j nx a=U (nx+1):=by delta i6;rw[h];show(if_neg n).trans (if_pos rfl)
def aaM(h:d0 a=U i)(n:i≠b)(c:i≠j)(k:i<2\/i∈ls):i6 own bF d0 ls b j nx a=U i:=by delta i6;rw[h];show(if_neg n).trans ((if_neg c).trans (if_pos k))
def aaN(h:d0 a=aa)(ag:bF a=aa):i6 own bF d0 ls b j nx a=own a:=by delta i6;rw[h];show if_pos ag
inductive aem(own bF d0:cB)(ls:List Nat)(b j nx:Nat)(a:ar)(i:Nat):Prop where
 |b (h:d0 a=U b) (e:i=nx)
 |j (h:d0 a=U j) (e:i=nx+1)
 |k (h:d0 a=U i) (qr:i≠b) (vR:i≠j) (k:i<2\/i∈ls)
 |f (h:d0 a=aa) (ag:bF a=aa) (e:own a=U i)
def Jd(h:i6 own bF d0 ls b j nx a=U i):aem own bF d0 ls b j nx a i:=by
 unfold i6 at h;split at h
 .rename_i k q;split at h
  .rename_i e;w_pre e;cases h;show .b q rfl
  .rename_i c;split at h
   .rename_i e;k_lt e;cases h;show .j q rfl
   .rename_i n;split at h
    .rename_i k;cases h;show .k q c n k
    .cases h
 .rename_i q;split at h
  .rename_i e;show .f q e h
  .cases h
def U9(h:d0 a=aa)(ag:own a=aa):i6 own bF d0 ls b j nx a=aa:=by
 delta i6;rw[h];change(if bF a=aa then own a else aa)=aa
 show iteE (λ_=>?_) λ_=>?_
 .show ag
 .rfl
inductive E2(h mb aen:cS)(i:Nat):Prop where
 |mk (k:Nat) (f r2:aL) (e:Nat->Bool) (g:h.get i= .inst k f) (aiM:mb.get i= .inst k r2) (q:r_ e f r2=ae) (aiN:aen.get i= .inst k (nm e f))
def af6{P:Nat->ar×ar->Prop}{ah:dr}(e:br ah i p)(au:br ah n bh)(ak:br ah (n+1) bz)(g:P n bh)(f:P (n+1) bz)(d:i≠n->i≠n+1->P i p):P i p:=by
 by_cases c:i=n
 .w_pre c;show au.fn e▸g
 .by_cases Q:i=n+1
  .k_lt Q;show ak.fn e▸f
  .show d c Q
def OJ{P:Nat->Prop}(h:P d)(k:i≠d->P i):P i:=by
 by_cases q:i=d
 .k_lt q;show h
 .show k q
def aaO(e:br (ah++ [x,y]) i p)(c:i≠ah.length)(Q:i≠ah.length+1):br ah i p:=by haveI h:=(e8.mp e).1;rw[fW]at h;haveI:i<ah.length+2:=h;unfold br at e⊢;rwa [oZ (by lia)]at e
section
variable{c₂:aV}{iz:dr}{hK:cB}{eO jj p:ar×ar}{m d r lt i:Nat}{n:Int}{live lk:aP}{y:V}{hL:cS}
def c9.step(h:c9 u ah (.cons k v f) l)(d:∀w,az u ah v w->az u e v' w)(hf:F.get k=aa)(g:∀l,c9 u ah f l->c9 u e F l):c9 u e (.cons k v' F) l:=by
 cases(h)with
 |cons c i x r=>show .cons c ⟨i.1,hf⟩ (d _ x) (g _ r)
def aeo(R:Rel u c₂ bp bn a5)(A:br bp.ah b eO)(l:br bp.ah j jj)(g:bn.h.get b=C.hu G.b0 n j 1)(ak:br iz (m+1) jj)(kb:∀{a},bp.own a=U b->hK a=U m):dk u iz hK a5.heap m eO (C.hu G.b0 n (m+1) 1):=by obtain⟨⟨es⟩,k,i,f,c,X,d⟩:=R.at A g;show⟨⟨es⟩,k,i,f,⟨kb c.w,c.g⟩,⟨kb X.w,X.g⟩,?_⟩;show .step d (λJ x=>x) rfl λJ r=> .step r (λ_ aD=>aD.casesOn λJ h e=>⟨jj,ak,l.fn h▸e⟩) rfl λJ r=> .step r (λJ x=>x) rfl λJ r=> .step r (λJ x=>x) rfl λJ r=>r.yR▸ .nil
def aep(R:Rel u c₂ bp bn a5)(A:br bp.ah j jj)(g:bn.h.get j= .ba y)(k:∀{a},bp.own a=U j->hK a=U m):dk u iz hK a5.heap m jj (.ba y):=by obtain⟨x,s,a,B⟩:=R.at A g;show⟨x,s,⟨k a.w,a.g⟩,B⟩
def aeq(R:Rel u c Y L s)(j:Rel u c₂ bp bn a5)(i:Y.ah<+:bp.ah)(P:Y.ah<+:iz)(k:L.h.get d= .c3 live aa aa lk r lt)(ai:bn.h.get d= .c3 (live.hU n (.ref b)) aa aa lk r lt)(l:live.get n=aa)(A:br bp.ah b eO)
 (au:br iz L.nx eO)(K:∀{a},bp.own a=U d->hK a=U d)(E:br Y.ah d p):dk u iz hK a5.heap d p (.c3 (live.hU n (.ref L.nx)) aa aa lk r lt):=by
 obtain⟨pr,pl,am,lv,f,fl,ws,wn,H⟩:=R.at E k;obtain⟨o,y,dI,lg,v,t,w,W,g⟩:=j.at (eI i E) ai;obtain rfl:=(H.dV.bR i).put l A|>.af5 g.dV;obtain rfl:=BU i H.cQ.1 g.cQ.1;obtain rfl:=BU i H.cQ.2 g.cQ.2;haveI two:=R.two;show⟨_,_,_,_,_,_,_,_,g.relabel (λa h=>K h) ⟨eI P H.cQ.1,eI P H.cQ.2⟩ ((H.hW.down i g.hW).bR P) ((H.dV.bR P).put l au) (λx m q=>?_) (by lia)⟩
 show x12 (H.dV.cQ m) λz hz J=>?_;show ey (e8.mp hz).1 (q.trans R.len.symm)
def aer(R:Rel u c Y L s)(j:Rel u c₂ bp bn a5)(d:Y.ah<+:bp.ah)(P:Y.ah<+:iz)(O:E2 L.h bn.h hL i)(K:∀{a},bp.own a=U i->hK a=U i)(E:br Y.ah i p):dk u iz hK a5.heap i p (hL.get i):=by obtain⟨k,f,o,t,g,m,q,ai⟩:=O;rw[ai];obtain⟨J,J,J,J,J,J,l⟩:=R.at E g;obtain⟨es,cV,I,n,X,x,r⟩:=j.at (eI d E) m;show⟨es,cV,I,n,⟨K X.w,X.g⟩,⟨K x.w,x.g⟩,(c9.again d l r q).bR P⟩
def aes(R:Rel u c Y L s)(r:Rel u (c.eu Y.own bF s.heap) bp bn a5)(g:∀a i,Y.own a=U i->¬(i<2\/i∈ls)->bF a=aa)(P:Y.ah<+:iz)(K:∀{a i},bp.own a=U i->i<2\/i∈ls->hK a=U i)
 (k:∀{a},bp.own a=aa->bF a=aa->hK a=Y.own a)(m:i∉ls)(E:br Y.ah i p):dk u iz hK a5.heap i p (L.h.get i):=by
 by_cases j:i<2
 .rcases i with _ |_ |i
  .rw[R.bc.t0];trivial
  .rw[R.bc.t1];trivial
  .lia
 .show(R.objs i p E).at P (λa d=>?_) λa d=>K (r.bc.nv a d) (.inl (by x_go))
  haveI f:=g a i d (λh=>h.elim j m);haveI z:=R.same r d f;show⟨(k z.1 f).trans d,z.2⟩
end
def Rel.aaP(R:Rel u c Y L s)(l:Rel u (c.eu Y.own bF s.heap) bp bn a5)(qj:bn.fr=L.fr)(A:Y.ah<+:bp.ah)(bN:∀a i,Y.own a=U i->¬(i<2\/i∈ls)->bF a=aa)(cq:∀a i,Y.own a=U i->bF a=aa->¬(i<2\/i∈ls))
 {d r lt:Nat}{n:Int}{live lk:aP}{y:V}{hL:cS}(cD:L.nx<=b)(Ff:L.nx<=j)(z:bn.h.get b=C.hu G.b0 n j 1)(ac:bn.h.get j= .ba y)(ai:L.h.get d= .c3 live aa aa lk r lt)(hd:d∈ls)(X:live.get n=aa)
 (W:bn.h.get d= .c3 (live.hU n (.ref b)) aa aa lk r lt)(O:∀i∈ls,i≠d->E2 L.h bn.h hL i)(Z:hL.get L.nx=C.hu G.b0 n (L.nx+1) 1)(iI:hL.get (L.nx+1)= .ba y)(bD:hL.get d= .c3 (live.hU n (.ref L.nx)) aa aa lk r lt)
 (T:∀i,i∉ls->i≠L.nx->i≠L.nx+1->hL.get i=L.h.get i):∃c6,Y.dL c6/\Rel u c c6 ⟨hL,L.nx+2,L.fr,L.hf⟩ a5/\∀w,az u bp.ah (.ref b) w->az u c6.ah (.ref L.nx) w:=by
 have two:=R.two;show x11 (l.cQ (i:=b) (by rw[z];nofun)) λeO B=>?_
 show x11 (l.cQ (i:=j) (by rw[ac];nofun)) λjj S=>?_
 have H:j≠b:=λq=>by w_pre q;cases z.symm.trans ac
 have aI:∀i∈ls,i<L.nx:=λi x=>R.len▸R.lj (by
  by_cases q:i=d
  .w_pre q;rw[ai];nofun
  .obtain⟨k,f,r2,e,g,J⟩:=O i x q;rw[g];nofun)
 have I:∀{i},L.h.get i= .tab->i∉ls:=λg h=>OJ (P:=λi=>L.h.get i= .tab->i∈ls->False) (λg J=>nomatch g.symm.trans ai) (λq g h=>match O _ h q with | ⟨_,_,_,_,aq,_,_,_⟩=>nomatch g.symm.trans aq) g h
 have D:∀i,i<2\/i∈ls->i<L.nx:=λi h=>h.elim (λh=>e2 h two) (aI i);have kb:∀i,i<L.nx->i≠b/\i≠j:=λi h=>⟨λq=>by lia,λq=>by lia⟩
 have t:Y.ah.length=L.nx:=R.len;have au:br (Y.ah++ [eO,jj]) L.nx eO:=by delta br;rw[oY (hi t),t,tm];rfl
 have ak:br (Y.ah++ [eO,jj]) (L.nx+1) jj:=by delta br;rw[oY (by lia),t,kG];rfl
 have v:Y.ah<+:Y.ah++ [eO,jj]:=eS _ _;have K:∀{a i},bp.own a=U i->i<2\/i∈ls->i6 Y.own bF bp.own ls b j L.nx a=U i:=λh k=>aaM h (kb _ (D _ k)).1 (kb _ (D _ k)).2 k;show⟨⟨Y.ah++ [eO,jj],i6 Y.own bF bp.own ls b j L.nx⟩,v,R.gI l qj A v (by rw[fW,t];rfl) (λa h ag=>U9 ag h) (λa i x=>⟨λh=>?_,λh=>K h (.inl x)⟩) (λa i h=>?_) (λi p e=>?_) (λi x=>?_) ⟨?_,?_⟩,λw ⟨p,h,e⟩=>⟨eO,au,by rw[B.fn h];show e⟩⟩
 .cases Jd h with
  |b h e=>lia
  |j h e=>lia
  |k h=>show h
  |f h ag e=>show absurd (.inl x) (cq a i e ag)
 .cases Jd h with
  |b h e=>show⟨(l.low a _ h).1,by lia⟩
  |j h e=>show⟨(l.low a _ h).1,by lia⟩
  |k h _ _ k=>show⟨(l.low a _ h).1,e2 (D i k) (gB _ _)⟩
  |f h ag e=>show⟨(R.low a i e).1.imp λo=>(R.same l e ag).2 o,e2 (R.low a i e).2 (gB _ _)⟩
 .show af6 (P:=λi p=>dk u _ _ a5.heap i p (hL.get i)) e au ak (Z▸aeo l B S z ak aaK) (iI▸aep l S ac λh=>aaL h H) λM Q=>?_;have E:=aaO e (t▸M) (t▸Q);by_cases m:i∈ls
  .show OJ (P:=λi=>i∈ls->br Y.ah i p->dk u _ _ a5.heap i p (hL.get i)) (λm E=>bD▸aeq R l A v ai W X B au (λh=>K h (.inr m)) E) (λF m E=>aer R l A v (O i m F) (λh=>K h (.inr m)) E) m E
  .rw[T i m M Q];show aes R l bN v K aaN m E
 .have N:i∉ls:=λh=>by have:=aI i h;lia
  show(T i N (by lia) (by lia)).trans (R.out i (by lia))
 .show(T 0 (I R.bc.t0) (by lia) (by lia)).trans R.bc.t0
 .show(T 1 (I R.bc.t1) (by lia) (by lia)).trans R.bc.t1
end
def r3(h:cS):aP->cS->cS
 | .nil,t=>t
 | .cons _ v r,t=>r3 h r (C.bE v (λi=>t.st (h.get i) i) t)
def kW{α:Type}(o:O)(i:Nat)(t:cS)(k:cS->α):C.T.fb o i i t k=k (t.st o i):=(C.T.rC o t i).1 k
section
def YU{live:aP}{lv:List (Int×Nat×ar)}(aq:cY ah live lv):∀(t:cS) (K:cS->bl),C.Dp h live t K=K (r3 h live t):=by
 cases aq with
 |nil=>showλJ J=>rfl
 | @cons n i q r l c t I=>intro t K;change C.T.fb (h.get i) i i t (C.Dp h r · K)=_;rw[kW,I];rfl
def Bq{live:aP}{lv:List (Int×Nat×ar)}(aq:cY ah live lv):∀(t:cS) (i:Nat),(r3 h live t).get i=if i∈lv.map (·.2.1)then h.get i else t.get i:=by
 cases aq with
 |nil=>showλJ J=>rfl
 | @cons n j q r l c t I=>
  intro t i;change(r3 h r (t.st (h.get j) j)).get i=_;rw[I,gC];by_cases m:i∈l.map (·.2.1)
  .rw[if_pos m,if_pos (cA _ m)]
  .rw[if_neg m];by_cases q:i=j
   .k_lt q;rw[C.T.cT,if_pos (cF ..)]
   .rw[C.T.bO _ _ q,if_neg (λx=>(bX.mp x).elim q m)]
def kf(h:cS)(q:C.iC):cS:=((((((r3 h q.live .lf).st (.inst q.c q.f) q.si).st (.iA q.d) q.r).st (.cb q.d) q.lt).st (.inst q.cd q.g) q.dT).st .tab 0).st .tab 1
def YV(aq:cY ah q.live lv)(K:cS->bl):C.yu L q K=K (kf L.h q):=by delta C.yu;rw[YU aq,kW,kW,kW,kW,kW,kW];rfl
inductive rx(h:cS)(q:C.iC)(ls:List Nat)(i:Nat):O->Prop where
 |same (m:i∈ls):rx h q ls i (h.get i)
 |tab (l:i<2):rx h q ls i .tab
 |row (e:i=q.r):rx h q ls i (.iA q.d)
 |cb (e:i=q.lt):rx h q ls i (.cb q.d)
 |nul:rx h q ls i .nul
def xk(aq:cY ah q.live lv)(j:h.get q.si= .inst q.c q.f)(k:h.get q.dT= .inst q.cd q.g)(i:Nat):rx h q (q.si::q.dT::lv.map (·.2.1)) i ((kf h q).get i):=by
 by_cases f:i=1
 .k_lt f;rw[C.T.cT];show .tab (by x_go)
 rw[C.T.bO _ _ f];by_cases dU:i=0
 .k_lt dU;rw[C.T.cT];show .tab (by x_go)
 rw[C.T.bO _ _ dU];by_cases E:i=q.dT
 .k_lt E;rw[C.T.cT,<-k];show .same (by simp)
 rw[C.T.bO _ _ E];by_cases c:i=q.lt
 .w_pre c;rw[C.T.cT];show .cb rfl
 rw[C.T.bO _ _ c];by_cases g:i=q.r
 .k_lt g;rw[C.T.cT];show .row rfl
 rw[C.T.bO _ _ g];by_cases d:i=q.si
 .k_lt d;rw[C.T.cT,<-j];show .same (by simp)
 rw[C.T.bO _ _ d,Bq aq];show iteE (λ_=>?_) λ_=>?_
 .rename_i m;show .same (cA _ (cA _ m))
 .show .nul
def w_(h:cS)(q:C.iC):(kf h q).get 0= .tab/\(kf h q).get 1= .tab:=by
 rw[C.T.cT,C.T.bO _ _ (by x_go),C.T.cT]
 show⟨rfl,rfl⟩
noncomputable def hM(own:cB)(ls:List Nat):cB:=λa=>match own a with
 |some i=>if i<2\/i∈ls then U i else aa
 |none=>aa
def kX(h:own a=U i)(k:i<2\/i∈ls):hM own ls a=U i:=by delta hM;rw[h];show if_pos k
def Br(h:own a=U i)(k:¬(i<2\/i∈ls)):hM own ls a=aa:=by delta hM;rw[h];show if_neg k
def A6(h:own a=aa):hM own ls a=aa:=by delta hM;rw[h]
def rf{own:cB}{ls:List Nat}{a:ar}{i:Nat}(h:hM own ls a=U i):own a=U i/\(i<2\/i∈ls):=by
 unfold hM at h;split at h
 .rename_i j q;split at h
  .rename_i k;cases h;show⟨q,k⟩
  .cases h
 .cases h
def Rel.cL(R:Rel u c Y L s)(j:L.h.get q.si= .inst q.c q.f)(k:L.h.get q.dT= .inst q.cd q.g)(r:L.h.get q.d= .c3 q.live aa aa q.lk q.r q.lt)(ad:br Y.ah q.d ct)
 (H:Hid u Y.ah Y.own s.heap q.d ct q.live aa aa q.lk q.r q.lt pr pl am lv f fl ws wn)(w:∀x∈am,x.n≠q.n):
 Rel u (c.eu Y.own (hM Y.own (q.d::q.si::q.dT::lv.map (·.2.1))) s.heap) ⟨Y.ah,hM Y.own (q.d::q.si::q.dT::lv.map (·.2.1))⟩ ⟨(kf L.h q).st (.c3 q.live aa (U q.n) q.lk q.r q.lt) q.d,L.nx,L.fr,L.hf⟩ s:=by
 haveI D:2<=q.d:=by
  haveI:=R.bc.ne (i:=q.d) (by rw[r];nofun)
  lia
 haveI lt:∀i,i∈(q.si::q.dT::lv.map (·.2.1))->i<L.nx:=λi d=>R.len▸(by
  rcases bX.mp d with rfl |d
  .show R.lj (by rw[j];nofun)
  show a8 (bX.mp d) (λO=>?_) λd=>?_
  .k_lt O;show R.lj (by rw[k];nofun)
  .show x12 (dy.mp d) λx t v=>?_;k_lt v;show x12 (H.dV.cQ t) λz hz J=>(e8.mp hz).1)
 haveI two:=R.two;show R.small (aE:=⟨Y.ah,_⟩) (fj _) R.len (λa h=>A6 h) (λa i d=>⟨λh=>(rf h).1,λh=>kX h (.inl d)⟩) (λa i h=>(R.low a i (rf h).1).2) (λi p e=>?_) (λi d=>?_) ⟨?_,?_⟩
 .by_cases Q:i=q.d
  .w_pre Q;rw[C.T.cT,e.symm.trans ad|>bY];haveI l:=H.at (bF:=hM Y.own (q.d::q.si::q.dT::lv.map (·.2.1))) (ag:=s.heap) (fj _) λb g=>⟨kX g (.inr (cF ..)),λJ=>id⟩;show⟨pr,pl,am,lv,f,fl,ws,wn,{l with oK:=λn e=>by cases e;show w}⟩
  .rw[C.T.bO _ _ Q];haveI x:=xk (h:=L.h) H.dV j k i;revert x;generalize (kf L.h q).get i=o;intro x;cases x with
   |same m=>show(R.objs i p e).at (fj _) (λb g=>⟨kX g (.inr (cA _ m)),λJ=>id⟩) λb g=>kX g (.inl (by x_go))
   |tab _=>trivial
   |row _=>trivial
   |cb _=>trivial
   |nul=>trivial
 .haveI:=H.cQ;haveI bQ:=(e8.mp this.1).1;haveI cn:=(e8.mp this.2).1;haveI y:=R.len;rw[C.T.bO _ _ (λA=>by haveI:=(e8.mp ad).1;lia)]
  haveI x:=xk (h:=L.h) H.dV j k i;revert x;generalize (kf L.h q).get i=o;intro x;cases x with
  |same m=>show absurd (lt i m) (d_.mpr d)
  |tab _=>lia
  |row _=>lia
  |cb _=>lia
  |nul=>rfl
 .rw[C.T.bO _ _ (by lia)];show(w_ _ _).1
 .rw[C.T.bO _ _ (by lia)];show(w_ _ _).2
end
end
section
def U_(h:C.t9 lk n=U y)(m:ej u ah lk fl)(c:match fl n with
 |some w=>∃t,w= .bytes x t
 |none=>x=jT 64 0):dK u y x:=by
 have z:x=jT 64 0->U (V.aZ ⟨64,0⟩)=U y->dK u y x:=λe q=>by rw[e,<-bY q];show ck.pQ 64
 have k:∀{a t},fl n=U (.bytes a t)->x=a:=λe=>by rw[e]at c;show c.elim λJ q=>(by injection q with q _;show q.symm)
 have K:fl n=aa->x=jT 64 0:=λe=>by rw[e]at c;show c
 unfold C.t9 at h;cases q:lk.get n with
 |none=>rw[q]at h;show z (K (m.no q)) h
 |some v=>
  rw[q]at h;have g:=m.get q;clear c q m;revert h;show C.iX (P:=(·=U y->_)) (λi e h=>?_) λay h=>?_
  .have g:fl n=aa\/∃a t,fl n=U (.bytes a t)/\EE i a:=(e▸g:g8 u ah (fl n) (.aW i));cases Q:aK i 1064 with
   |true=>rw[Q]at h;show z (g.elim K λaD=>aD.casesOn λa aD=>aD.casesOn λt aD=>aD.casesOn λm e=>(k m).trans ?_) h;rw[C.bS Q]at e;show(if_neg (show¬(1064<1000) by x_go)).mp e
   |false=>rw[Q]at h;show x02 (C.db h) λf d=>?_;have e:=C.bS f;rw[e]at d g;rw[<-bY d];show g.elim (λm=>(K m).symm▸wk) λaD=>aD.casesOn λa aD=>aD.casesOn λt aD=>aD.casesOn λm e=>(k m).symm▸(if_pos (show 64<1000 by x_go)).mp e
  .show x02 (C.db h) λf d=>?_;rw[<-bY d];show x12 (g.el ay) λw e r=>?_;obtain⟨a,t,q,b⟩:=aaI f r;show k (e.trans (congrArg U q))▸b
noncomputable def u4(own:cB)(q:ce)(nx:Nat):cB:=λa=>if a=q.b\/a=q.d then U nx else if a=q.y then U (nx+1)else own a
def xl{own:cB}{q:ce}{nx:Nat}{a:ar}(h:¬(a=q.b\/a=q.d\/a=q.y)):u4 own q nx a=own a:=by delta u4;rw[if_neg (λx=>h (x.imp id .inl)),if_neg (λx=>h (.inr (.inr x)))]
def Hid.aaQ{own bF:cB}{h:Heap}{i nx:Nat}{p:ar×ar}{live lk:aP}{row cb:Nat}{pr pl:ar×ar}
 (H:Hid u ah own h i p live aa aa lk row cb pr pl (bQ++q::cn) lv f fl ws wn)(c:∀a,own a=U i->¬(a=q.b\/a=q.d\/a=q.y)->bF a=U i)(l:live.get q.n=aa)(s:∀x∈lv,x.2.1≠nx)(v:nx≠0)(d:ah<+:F)(au:br F nx (q.b,x)):
 Hid u F bF h i p (live.hU q.n (.ref nx)) aa aa lk row cb pr pl (bQ++cn) (lv++ [(q.n,nx,q.b)]) f fl ws wn:=by
 have pm:(bQ++q::cn).Perm (q::(bQ++cn)):=GA;have sub:∀z,z∈bQ++cn->z∈bQ++q::cn:=λz hz=>pm.mem_iff.mpr (cA _ hz);have o:=H.own;have P:(p.1::pr.1::pl.1::(bQ++q::cn).flatMap λq=> [q.b,q.d,q.y]).Perm ([q.b,q.d,q.y]++(p.1::pr.1::pl.1::(bQ++cn).flatMap λq=> [q.b,q.d,q.y])):=by have j:((bQ++q::cn).flatMap λq:ce=> [q.b,q.d,q.y]).Perm ([q.b,q.d,q.y]++(bQ++cn).flatMap λq=> [q.b,q.d,q.y]):=pm.flatMap_right _;have r:=(wg (l₁:= [p.1,pr.1,pl.1]) (l₂:= [q.b,q.d,q.y])).append_right ((bQ++cn).flatMap λq=> [q.b,q.d,q.y]);show(((j.cons pl.1).cons pr.1).cons p.1).trans r
 have g:=qJ.mp (P.nodup_iff.mp H.aB);have zj:∀{z:ce} {a},(a=z.b\/a=z.d\/a=z.y)->a∈ [z.b,z.d,z.y]:=λh=>h.elim (λe=>e▸ .head _) λh=>h.elim (λe=>e▸ .tail _ (.head _)) λe=>e▸ .tail _ (.tail _ (.head _));have n:∀a,a∈(p.1::pr.1::pl.1::(bQ++cn).flatMap λq=> [q.b,q.d,q.y])->¬(a=q.b\/a=q.d\/a=q.y):=λa t h=>g.2.2 a (zj h) a t rfl;have I:∀{z:ce} {a},z∈bQ++cn->(a=z.b\/a=z.d\/a=z.y)->own a=U i->bF a=U i:=λhz h k=>c _ k (n _ (.tail _ (.tail _ (.tail _ (Gz.mpr ⟨_,hz,zj h⟩)))));have E:(fG (bQ++q::cn) lv).Perm (fG (bQ++cn) (lv++ [(q.n,nx,q.b)])):=US nx;show⟨⟨c _ o.1 (n _ (.head _)),c _ o.2.1 (n _ (.tail _ (.head _))),c _ o.2.2.1 (n _ (.tail _ (.tail _ (.head _)))),λz hz=>have x:=o.2.2.2 z (sub z hz);⟨I hz (.inl rfl) x.1,I hz (.inr (.inl rfl)) x.2.1,I hz (.inr (.inr rfl)) x.2.2⟩⟩,⟨eI d H.cQ.1,eI d H.cQ.2⟩,g.2.1,H.jw,H.kj,H.kl,λz hz=>H.i4 z (sub z hz),H.hW.bR d,(H.dV.bR d).put l au,Bj E H.num,⟨?_,xi H.g0.2 v⟩,Bk E H.fin,A1 E H.perm,⟨Bl E H.cnt.1,nofun⟩,λz hz=>H.fresh z (sub z hz),nofun⟩
 rw[hD];show xD H.g0.1 λm=>(dy.mp m).elim λx y=>s x y.1 y.2
end
section
variable{P:bl->Prop}
inductive yi(e:Nat->Bool)(k:Nat)(f:aL)(o:O):Prop where
 |mk (r2:aL) (g:o= .inst k r2) (q:r_ e f r2=ae)
def Bs(h:yi (λk=>C.aA e (C.l9 G.b0 k) af) k f o->P r)(hz:∀w,P (.stuck w)):P (C.x4 G.b0 e k f o r):=C.kU (λc d g=>l6 (λq=>l6 (λx=>h ⟨d,by rw[g,C.bS q],x⟩) (hz _)) (hz _)) (hz _)
inductive ML(h mb:cS)(i:Nat):Prop where
 |mk (k:Nat) (f:aL) (g:h.get i= .inst k f) (s:yi (λJ=>af) k f (mb.get i))
def WE{live:aP}{lv:List (Int×Nat×ar)}(aq:cY ah live lv):((∀x∈lv,ML h H x.2.1)->P r)->(∀w,P (.stuck w))->P (C.LO G.b0 h H live r):=by
 cases aq with
 |nil=>showλk J=>k nofun
 | @cons n j q live l p t i=>
  intro k hz;show C.kU (P:=P) (λc f g=>Bs (λs=>i (λm=>k λx d=>?_) hz) hz) (hz _);show a8 (bX.mp d) (λo=>?_) λd=>?_
  .k_lt o;show⟨c,f,g,s⟩
  .show m x d
inductive uG(q:C.iC)(lv:List (Int×Nat×ar))(h:cS)(nx:Nat)(y:V)(b:Nat)(mb:cS):Prop where
 |mk (j:Nat) (cD:nx<=b) (Ff:nx<=j) (ai8:mb.get b=C.hu G.b0 q.n j 1) (Fn:mb.get j= .ba y) (kz:mb.get q.d= .c3 (q.live.hU q.n (.ref b)) aa aa q.lk q.r q.lt)
  (si:yi (C.l9 G.b0) q.c q.f (mb.get q.si)) (dT:yi (λJ=>af) q.cd q.g (mb.get q.dT)) (av:∀x∈lv,ML h mb x.2.1)
def MM{α:Type}{o:Option α}{z:bl}{k:α->bl}(h:o=aa->P z)(ag:∀a,o=U a->P (k a)):P (C.bs o z k):=by
 cases o with
 |none=>show h rfl
 |some a=>show ag a rfl
def Cs{a b:Nat}(h:pq a b=ae):a<=b:=P3 h
def Kg{q:C.iC}{lv:List (Int×Nat×ar)}{h c:cS}{nx b:Nat}{y:V}{r:bl}(aq:cY ah q.live lv)(k:uG q lv h nx y b c->P r)(hz:∀w,P (.stuck w)):P (C.seen G.b0 q h nx y b c r):=by
 show l6 (λnD=>C.kU (P:=P) (λcc f1 E=>MK (λI Q K O dF B W aI f=>C.jv (P:=P) (λac v=>C.e9 (P:=P) (λj t=>l6 (λg=>C.oa (P:=P) (λX n=>l6 (λo=>C.pd (P:=P) (λT M S A R D dU=>MM (λl=>MM (λi=>l6 (λai=>?_) (hz _)) λJ J=>hz _) λJ J=>hz _) (hz _)) (hz _)) (hz _)) (hz _)) (hz _)) (hz _)) (hz _)) (hz _)) (hz _)
 rw[C.aP.pk];show l6 (λp=>Bs (λcI=>Bs (λek=>WE aq (λm=>?_) hz) hz) hz) (hz _);show x02 (cM g) λg1 g=>x02 (cM ai) λx ai=>?_;show x02 (cM ai) λz ai=>k ⟨j,Cs nD,Cs g1,?_,uh o▸n,?_,cI,ek,m⟩
 .show x02 (cM g) λg2 g=>x02 (cM g) λg3 g=>?_;show x02 (cM g) λlz g=>x02 (cM g) λqs g=>?_;show x02 (cM g) λd g=>x02 (cM g) λs g=>?_;show x02 (cM g) λu g=>?_;rw[E,f,v,t,C.bS g2,C.bS g3,C.bS lz,C.bS qs,C.bS d,C.gQ s,uh u,Cr (cM g).1];rfl
 .rw[dU,l,i,C.bS x,C.bS z,Ll (cM ai).1,Ll p]
end
section
open Mine.Head
def Hid.C9{ah:dr}{own:cB}{h:Heap}{i:Nat}{p:ar×ar}{live lk:aP}{cL:Option Nat}{ch:Option Int}{row cb:Nat}{pr pl:ar×ar}{am:List ce}{lv:List (Int×Nat×ar)}{f fl:Int->Option aj}{ws:Array aj}{wn:Nat}
 (H:Hid u ah own h i p live cL ch lk row cb pr pl am lv f fl ws wn){q:ce}(c:q∈am):q.b≠q.d/\q.b≠q.y/\q.d≠q.y:=by
 haveI:=(dN.mp (dN.mp (dN.mp H.aB).2).2).2;haveI:=(FW.mp this).1 q c;simp only[QD,bX,Gy,or_false,forall_eq_or_imp,forall_eq]at this;show⟨this.1.1,this.1.2,this.2.1⟩
def NN:hC G.b0.number=ae/\hC G.b0.data=ae/\hC G.b0.holders=ae/\hC G.b0.pins=ae:=⟨by k_go,by k_go,by k_go,by k_go⟩
def Rel.cZ(R:Rel u c Y L s)(g:L.h.get q.si= .inst q.c q.f)(j:L.h.get q.dT= .inst q.cd q.g)(D:L.h.get q.d= .c3 q.live aa aa q.lk q.r q.lt)(ad:br Y.ah q.d ct)
 (H:Hid u Y.ah Y.own s.heap q.d ct q.live aa aa q.lk q.r q.lt pr pl (bQ++x::cn) lv f fl ws wn)(r:x.n=q.n)(v:q.live.get q.n=aa)(ahh:C.t9 q.lk q.n=U y)(E:bF=u4 (hM Y.own (q.d::q.si::q.dT::lv.map (·.2.1))) x L.nx):
 Rel u (c.eu Y.own bF s.heap) ⟨Y.ah++ [(x.b,x.d),(x.y,x.y)],bF⟩ ⟨(((kf L.h q).st (.c3 (q.live.hU q.n (.ref L.nx)) aa aa q.lk q.r q.lt) q.d).st (C.hu G.b0 q.n (L.nx+1) 0) L.nx).st (.ba y) (L.nx+1),L.nx+2,L.fr,L.hf⟩ s:=by
 have ji:2<=q.d:=by
  have:=R.bc.ne (i:=q.d) (by rw[D];nofun)
  lia
 have two:=R.two;have l:Y.ah.length=L.nx:=R.len;have lt:∀i,i∈(q.d::q.si::q.dT::lv.map (·.2.1))->i<L.nx:=λi d=>R.len▸(by
  rcases bX.mp d with rfl |d
  .show R.lj (by rw[D];nofun)
  rcases bX.mp d with rfl |d
  .show R.lj (by rw[g];nofun)
  show a8 (bX.mp d) (λW=>?_) λd=>?_
  .k_lt W;show R.lj (by rw[j];nofun)
  .show x12 (dy.mp d) λx en cv=>?_;k_lt cv;show x12 (H.dV.cQ en) λz hz J=>(e8.mp hz).1)
 have aiW:=lt q.d (cF ..);have M:x∈bQ++x::cn:=by simp
 show x03 (H.own.2.2.2 x M) λnJ gK zD=>x03 (H.C9 M) λaI N zx=>?_;have au:br (Y.ah++ [(x.b,x.d),(x.y,x.y)]) L.nx (x.b,x.d):=by delta br;rw[oY (hi l),l,tm];rfl
 have ak:br (Y.ah++ [(x.b,x.d),(x.y,x.y)]) (L.nx+1) (x.y,x.y):=by delta br;rw[oY (by lia),l,kG];rfl
 have P:Y.ah<+:Y.ah++ [(x.b,x.d),(x.y,x.y)]:=eS _ _;have X:∀{a},(a=x.b\/a=x.d\/a=x.y)->Y.own a=U q.d:=λh=>by rcases h with rfl |rfl |rfl<;>assumption
 have K:∀{a i},hM Y.own (q.d::q.si::q.dT::lv.map (·.2.1)) a=U i->i≠q.d->bF a=U i:=λh k=>E▸(xl λm=>k (bY ((rf h).1.symm.trans (X m)))).trans h;have I:∀{a i},bF a=U i->(i=L.nx\/i=L.nx+1)\/hM Y.own (q.d::q.si::q.dT::lv.map (·.2.1)) a=U i:=λ{a i} h=>by
  rw[E]at h;unfold u4 at h;split at h
  .show .inl (.inl (bY h).symm)
  split at h
  .show .inl (.inr (bY h).symm)
  .show .inr h
 have b7:bF x.b=U L.nx:=E▸if_pos (.inl rfl);have O:bF x.d=U L.nx:=E▸if_pos (.inr rfl);have Fw:bF x.y=U (L.nx+1):=E▸(if_neg λh=>h.elim (λh=>N h.symm) λh=>zx h.symm).trans (if_pos rfl);show R.small (aE:=⟨_,bF⟩) P (by rw[fW,l];rfl) (λa h=>E▸(xl λm=>nomatch h.symm.trans (X m)).trans (A6 h)) (λa i d=>⟨λh=>?_,λh=>K (kX h (.inl d)) (by lia)⟩) (λa i h=>?_) (λi p e=>?_) (λi d=>?_) ⟨?_,?_⟩
 .show a8 (I h) (λh=>?_) λh=>?_
  .lia
  .show(rf h).1
 .show a8 (I h) (λh=>?_) λh=>?_
  .lia
  .show e2 (R.low a i (rf h).1).2 (gB _ _)
 .by_cases ac:i=L.nx+1
  .w_pre ac;rw[C.T.cT,<-ak.fn e];obtain⟨O,S,e0,gh,ai,B⟩:=H.i4 x M;show⟨x.x,S,⟨Fw,B⟩,U_ ahh H.hW (by rw[<-r];show H.fresh x M)⟩
  rw[C.T.bO _ _ ac];by_cases w:i=L.nx
  .k_lt w;rw[C.T.cT,<-au.fn e];obtain⟨af7,S,e0,gh,ai,B⟩:=H.i4 x M;obtain⟨fu,fv,kB,nH,k,bN,Z,T,cI,ek,s3,s4,F,bD,aq,v2,dF,V,sy,v4⟩:=ai;show x04 NN λg1 g2 g3 lz=>⟨_,k,uF,aI,⟨b7,e0⟩,⟨O,gh⟩, .cons F ⟨g1,rfl⟩ ⟨bN,r▸bD⟩ (.cons aq ⟨g2,rfl⟩ ⟨_,ak,v2⟩ (.cons dF ⟨g3,rfl⟩ ⟨Z,V⟩ (.cons sy ⟨lz,rfl⟩ ⟨T,v4⟩ .nil)))⟩
  rw[C.T.bO _ _ w];have d:i<L.nx:=by have:=(e8.mp e).1;rw[fW,l]at this;have:i<L.nx+2:=this;lia
  have A:br Y.ah i p:=by unfold br at e⊢;rwa [oZ (by lia)]at e
  by_cases Q:i=q.d
  .k_lt Q;rw[C.T.cT,A.fn ad];rw[<-r]at v⊢;show⟨pr,pl,bQ++cn,_,f,fl,ws,wn,H.aaQ (λa h n=>E▸(xl n).trans (kX h (.inr (cF ..)))) v (λz hz=>ey (lt _ (cA _ (cA _ (cA _ (hc hz)))))) (by lia) P au⟩
  .rw[C.T.bO _ _ Q];have z:=xk (h:=L.h) H.dV g j i;revert z;generalize (kf L.h q).get i=o;intro z;cases z with
   |same m=>show(R.objs i p A).at P (λb t=>⟨K (kX t (.inr (cA _ m))) Q,λJ=>id⟩) λb t=>K (kX t (.inl (by x_go))) (by lia)
   |tab _=>trivial
   |row _=>trivial
   |cb _=>trivial
   |nul=>trivial
 .have bQ:=(e8.mp H.cQ.1).1;have cn:=(e8.mp H.cQ.2).1;rw[C.T.bO _ _ (by lia),C.T.bO _ _ (by lia),C.T.bO _ _ (by lia)]
  have z:=xk (h:=L.h) H.dV g j i;revert z;generalize (kf L.h q).get i=o;intro z;cases z with
  |same m=>have:=lt i (cA _ m);lia
  |tab _=>lia
  |row _=>lia
  |cb _=>lia
  |nul=>rfl
 .rw[C.T.bO _ _ (by lia),C.T.bO _ _ (by lia),C.T.bO _ _ (by lia)];show(w_ _ _).1
 .rw[C.T.bO _ _ (by lia),C.T.bO _ _ (by lia),C.T.bO _ _ (by lia)];show(w_ _ _).2
end
section
open Mine.Head
variable{c:aV}{Y bp:b1}{L bn:bU}{s a5:ax}{A B:b2}{n:Nat}
def Act.eu(ac:Act c A sc n)(R:Rel u c Y L s):Act (c.eu Y.own bF h) A sc n:=⟨ac.frames,ac.cur,ac.kind,ac.globals,ac.builtins,ac.depth,ac.units,ac.hand.imp id λ⟨f,x,o,vs,i,d,g⟩=>⟨f,x,o,vs,i,(pD (R.frozen _ _ d).2).trans d,g⟩,ac.sc⟩
def YW(h:C.R.gI fr r= .ok v bn):bn.fr=fr:=by cases r<;>first |show bl.noConfusion h | (cases h;rfl) |cases h
def WF(h:C.R.uq fr r= .ok v bn):bn.fr=fr:=by cases r<;>first | (cases h;rfl) |cases h
theorem HY{Q:bl->Prop}:∀(l:List Nat) (L:bU) (k:bU->bl),(∀s,Q (k s))->Q (C.rh l L k)
 | [],L,k,h=>h L
 |n::l,L,k,h=>by change Q (L.alloc (.cell (L.fr.get n)) λv L=>L.f4 n v λL=>C.rh l L k);rw[C.gE,C.ho];show HY l _ k h
def Lm{cs:aL}{v:V}:jc u call k as cs L= .ok v bn->bn.fr=L.fr:=by
 show rG (P:=(·= .ok v bn->bn.fr=L.fr)) (λfl J=>?_) nofun
 cases(d9 k).ex with
 |true=>show WF
 |false=>show HY (Q:=(·= .ok v bn->bn.fr=L.fr)) _ _ _ λJ=>YW
def Ln{P:bl->Prop}{r:bl}{k:V->bU->bl}(h:∀v L,r= .ok v L->P (k v L))(hz:∀w,P (.stuck w)):P (r.nx.bind k):=by
 cases r with
 |ok v L=>show h v L rfl
 |_=>show hz _
def OK(L:bU)(q:C.iC):bU:=⟨(kf L.h q).st (.c3 q.live aa (U q.n) q.lk q.r q.lt) q.d,L.nx,L.fr,L.hf⟩
def OL(L:bU)(q:C.iC)(y:V):bU:=⟨(((kf L.h q).st (.c3 (q.live.hU q.n (.ref L.nx)) aa aa q.lk q.r q.lt) q.d).st (C.hu G.b0 q.n (L.nx+1) 0) L.nx).st (.ba y) (L.nx+1),L.nx+2,L.fr,L.hf⟩
def nn(L:bU)(q:C.iC)(y:V):cS:=(((L.h.st (C.hu G.b0 q.n (L.nx+1) 1) L.nx).st (.ba y) (L.nx+1)).st (.c3 (q.live.hU q.n (.ref L.nx)) aa aa q.lk q.r q.lt) q.d).st (.inst q.c (nm (C.l9 G.b0) q.f)) q.si
inductive mc(pl:bU->bl)(L:bU)(q:C.iC)(y:V)(lv:List (Int×Nat×ar))(r:bl):Prop where
 |mk (b:Nat) (pS bn:bU) (fu:pl (OK L q)= .ok (.ref b) pS) (cI:uG q lv L.h L.nx y b pS.h) (fv:pl (OL L q y)= .ok (.ref L.nx) bn) (ek:uG q lv L.h L.nx y L.nx bn.h) (e:r= .ok (.ref L.nx) ⟨nn L q y,L.nx+2,L.fr,L.hf⟩)
def aet{pl:bU->bl}{q:C.iC}{y:V}{lv:List (Int×Nat×ar)}(aq:cY ah q.live lv){r:bl}(l:cW r)(e:r=C.yu L q λh=>
 (C.T.fb (.c3 q.live aa (U q.n) q.lk q.r q.lt) q.d q.d h λc=>pl ⟨c,L.nx,L.fr,L.hf⟩).nx.bind λbD N=>C.bE bD (λb=>C.seen G.b0 q L.h L.nx y b N.h
 ((q.live.iZ q.n (.ref L.nx) λlv=>C.T.fb (.c3 lv aa aa q.lk q.r q.lt) q.d q.d h λc=>C.T.fb (C.hu G.b0 q.n (da L.nx) (.ofNat 0)) L.nx L.nx c λc=>C.T.fb (.ba y) (da L.nx) (da L.nx) c λc=>pl ⟨c,da (da L.nx),L.fr,L.hf⟩).nx.bind λH bN=>C.bE H (λF=>C.bV (aK F L.nx) 179
  (C.seen G.b0 q L.h L.nx y L.nx bN.h
  (L.alloc (C.hu G.b0 q.n (da L.nx) (.ofNat 1)) λb L=>L.alloc (.ba y) λJ L=>q.live.iZ q.n b λlive=>L.put q.d (.c3 live aa aa q.lk q.r q.lt) λL=>C.uP G.b0 q.f λf=>L.put q.si (.inst q.c f) λL=> .ok b L))) (.stuck 144))) (.stuck 144)):mc pl L q y lv r:=by
 revert l;rw[e,YV aq,kW,C.aP.pk,kW,kW,kW,C.gE,C.gE,C.aP.pk,C.gP,YT,C.gP];have hz:∀w,cW (.stuck w)->mc pl L q y lv (.stuck w):=λw h=>absurd rfl (h w);show Ln (P:=λr=>cW r->mc pl L q y lv r) (λv j E=>C.e9 (P:=λr=>cW r->mc pl L q y lv r) (λb d=>Kg (P:=λr=>cW r->mc pl L q y lv r) aq (λcI=>Ln (P:=λr=>cW r->mc pl L q y lv r) (λv' bn k=>C.e9 (P:=λr=>cW r->mc pl L q y lv r) (λF i=>l6 (P:=λr=>cW r->mc pl L q y lv r) (λg=>Kg (P:=λr=>cW r->mc pl L q y lv r) aq (λek J=>⟨b,j,bn,d▸E,cI,C.bS g▸i▸k,ek,rfl⟩) hz) (hz _)) (hz _)) hz) hz) (hz _)) hz
end
section
open Mine.Head
variable{c:aV}{Y bp:b1}{L bn:bU}{s a5:ax}{A B:b2}{n:Nat}
noncomputable abbrev zk(q:C.iC)(lv:List (Int×Nat×ar)):List Nat:=q.d::q.si::q.dT::lv.map (·.2.1)
structure u5(L:bU)(q:C.iC)(lv:List (Int×Nat×ar)):Prop where
 bb:L.h.get q.si= .inst q.c q.f
 bM:L.h.get q.dT= .inst q.cd q.g
 cz:L.h.get q.d= .c3 q.live aa aa q.lk q.r q.lt
 lt:∀i∈zk q lv,i<L.nx
 ln:q.live.get q.n=aa
def u5.ne(Q:u5 L q lv):q.d≠q.si:=λe=>by haveI:=Q.cz;rw[e,Q.bb]at this;cases this
def Je(c:i≠q.si)(f:i≠q.d)(d:i≠L.nx)(g:i≠L.nx+1):(nn L q y).get i=L.h.get i:=by rw[C.T.bO _ _ c,C.T.bO _ _ f,C.T.bO _ _ g,C.T.bO _ _ d]
def WG(Q:u5 L q lv)(S:uG q lv L.h L.nx y b H):∀i∈zk q lv,i≠q.d->E2 L.h H (nn L q y) i:=λi c d=>by
 obtain⟨j,w,z,u,v,t,⟨cy,gs,p⟩,⟨d9,ai,l⟩,av⟩:=S;by_cases e:i=q.si
 .k_lt e;show⟨q.c,q.f,cy,_,Q.bb,gs,p,C.T.cT ..⟩
 .have lt:=Q.lt i c;have E:(nn L q y).get i=L.h.get i:=Je e d (ey lt) (ey (nN lt));show a8 (bX.mp c) (λh=>?_) λc=>?_
  .show absurd h d
  show a8 (bX.mp c) (λh=>?_) λc=>?_
  .show absurd h e
  show a8 (bX.mp c) (λs=>?_) λc=>?_
  .k_lt s;show⟨q.cd,q.g,d9,_,Q.bM,ai,l,by rw[BV,E,Q.bM]⟩
  .show x12 (dy.mp c) λx o O=>?_;k_lt O;obtain⟨k,f,g,m,r,n⟩:=av x o;show⟨k,f,m,_,g,r,n,by rw[BV,E,g]⟩
def Kh(R:Rel u c Y L s)(Q:u5 L q lv)(r:Y.ah<+:Φs.ah)
 (v:∀a i,Y.own a=U i->¬(i<2\/i∈zk q lv)->bF a=aa)(cq:∀a i,Y.own a=U i->bF a=aa->¬(i<2\/i∈zk q lv))
 (p:ai u (c.eu Y.own bF s.heap) B (ci u (c.eu Y.own bF s.heap)) Φs t s (.ok (.ref b) bn))(hf:bn.fr=L.fr)(S:uG q lv L.h L.nx y b bn.h):
 aG u.M B t (bg u c Y (.ok (.ref L.nx) ⟨nn L q y,L.nx+2,L.fr,L.hf⟩)) (dH u c Y (.ok (.ref L.nx) ⟨nn L q y,L.nx+2,L.fr,L.hf⟩)) s:=a0 (p λJ=>nofun) (λw an aD=>aD.casesOn λbp T m=>by
  haveI O:=WG Q S;obtain⟨j,o,l,f,A,g,J,J,av⟩:=S;haveI bQ:=Q.lt q.si (cA _ (cF ..));haveI cn:=Q.lt q.d (cF ..);haveI E:(nn L q y).get L.nx=C.hu G.b0 q.n (L.nx+1) 1:=by rw[C.T.bO _ _ (jX bQ),C.T.bO _ _ (jX cn),C.T.bO _ _ (ey (jm _)),C.T.cT]
  haveI k:(nn L q y).get (L.nx+1)= .ba y:=by rw[C.T.bO _ _ (jX (nN bQ)),C.T.bO _ _ (jX (nN cn)),C.T.cT]
  haveI aI:(nn L q y).get q.d= .c3 (q.live.hU q.n (.ref L.nx)) aa aa q.lk q.r q.lt:=by rw[C.T.bO _ _ Q.ne,C.T.cT]
  show x13 (R.aaP T.R hf (r.trans T.le) v cq o l f A Q.cz (cF ..) Q.ln g O E k aI λi d n z=>Je (λe=>d (e▸cA _ (cF ..))) (λe=>d (e▸cF ..)) n z) λc6 I D ac=>⟨c6,⟨I,D⟩,ac w m⟩) λJ J x=>x.elim
def YX{k:Nat}(P:rn u n call k){as:List a3}{ws:List aj}(R:Rel u c Y L s)(ac:Act c A sc (n+1))(w:gT A B)(v:bI (az u Y.ah) as ws){q:C.iC}(E:L.h.get q.si= .inst q.c q.f)(j:L.h.get q.dT= .inst q.cd q.g)(f:L.h.get q.d= .c3 q.live aa aa q.lk q.r q.lt)(t:q.live.get q.n=aa){y:V}(I:C.t9 q.lk q.n=U y)
 {r:bl}{ct pr S:ar×ar}{am:List ce}{lv:List (Int×Nat×ar)}{D fl:Int->Option aj}{W:Array aj}{wn:Nat}(ad:br Y.ah q.d ct)(H:Hid u Y.ah Y.own s.heap q.d ct q.live aa aa q.lk q.r q.lt pr S am lv D fl W wn)(g:mc (jc u call k as .nil) L q y lv r):
 aG u.M B (bv (.ref (eE k)) ws) (bg u c Y r) (dH u c Y r) s:=by
 have p:∀{i o},L.h.get i=o->o≠ .nul->i<Y.ah.length:=λe h=>R.lj (e▸h);have Q:u5 L q lv:=⟨E,j,f,λi d=>R.len▸(by
  rcases bX.mp d with rfl |d
  .show p f nofun
  rcases bX.mp d with rfl |d
  .show p E nofun
  show a8 (bX.mp d) (λO=>?_) λd=>?_
  .k_lt O;show p j nofun
  .show x12 (dy.mp d) λx l K=>?_;k_lt K;show x12 (H.dV.cQ l) λz hz J=>(e8.mp hz).1),t⟩
 obtain⟨b,T,bn,g1,cI,g2,ek,g3⟩:=g;k_lt g3;by_cases l:∃x∈am,x.n=q.n
 .show x12 l λx M ex=>?_;have hw:=H.own.2.2.2 x M;have X:∀{a},(a=x.b\/a=x.d\/a=x.y)->Y.own a=U q.d:=λh=>h.elim (λh=>h▸hw.1) λh=>h.elim (λh=>h▸hw.2.1) λh=>h▸hw.2.2;show x21 (List.append_of_mem M) λbQ cn e=>?_;have R':=R.cZ E j f ad (e▸H) ex t I rfl;have ai:=P _ _ (OL L q y) s A B sc as ws R' (ac.eu R) w (v.bR λJ J=>az.bR (eS _ _));rw[g2]at ai;have hf:=Lm g2;show Kh R Q (eS _ _) (λa i h k=>(xl λm=>k (.inr (bY (h.symm.trans (X m))▸cF ..))).trans (Br h k)) (λa i h ag k=>?_) ai hf ek;unfold u4 at ag;split at ag
  .cases ag
  split at ag
  .cases ag
  .show nomatch ag.symm.trans (kX h k)
 .have R':=R.cL E j f ad H λx aI e=>l ⟨x,aI,e⟩;have ai:=P _ _ (OK L q) s A B sc as ws R' (ac.eu R) w v;rw[g1]at ai;have hf:=Lm g1;show Kh (Φs:=⟨Y.ah,hM Y.own (q.d::q.si::q.dT::lv.map (·.2.1))⟩) (bF:=hM Y.own (q.d::q.si::q.dT::lv.map (·.2.1))) R Q (fj _) (λa i h k=>Br h k) (λa i h ag k=>nomatch ag.symm.trans (kX h k)) ai hf cI
def aaR(p:rn u n call k)(R:Rel u c Y L s)(ac:Act c A sc (n+1))(l:gT A B)(j:bI (az u Y.ah) as ws):
 ai u c B (ci u c) Y (bv (.ref (eE k)) ws) s (C.cn as λS m=>C.M_ G.b0 S m L (jc u call k as .nil)):=by
 have pl:=p c Y L s A B sc as ws R ac l j;show .cn λS m J=> .b6 (λdM J=>n6 (P:=ai u c B (ci u c) Y _ s) (λsi cc f K x=> .bs (λJ=>pl) λv T=> .bE (λd Q=> .eW (λlive cL ch lk r lt E=> .bs (λw=> .bs (λdU=> .a7 λdT O=>n6 (P:=ai u c B (ci u c) Y _ s) (λdT t g M D=> .bs (λo=> .a7 λy z I=>?_) λJ J=> .stuck) .stuck) λJ J=>pl) λJ J=>pl) pl) pl) pl) pl;show x11 (R.cQ (i:=d) (by rw[E];nofun)) λct ad=>?_
 obtain⟨pr,V,am,lv,aI,fl,W,wn,H⟩:=R.at ad E;subst dU o;show YX (q:=⟨dM,si,cc,f,d,live,lk,r,lt,dT,t,g⟩) p R ac l j x D E w z ad H (aet H.dV I rfl)
end
section
open Mine.Head
noncomputable def cG:List ce->Nat->List (ce×Nat)
 | [],_=> []
 |x::r,m=>(x,m)::cG r (m+2)
noncomputable def i7:List ce->dr
 | []=> []
 |x::r=>(x.b,x.d)::(x.y,x.y)::i7 r
noncomputable abbrev ie(P:List (ce×Nat)):List (Int×Nat×ar):=P.map λq=>(q.1.n,q.2,q.1.b)
noncomputable def oF(P:List (ce×Nat))(l:aP):aP:=P.foldr (λq l=> .cons q.1.n (.ref q.2) l) l
def D3(P:List (ce×Nat))(t:cS):cS:=P.foldr (λq t=>t.st (C.hu G.b0 q.1.n (q.2+1) 0) q.2) t
theorem Jf:∀am:List ce,(i7 am).length=2*am.length
 | []=>rfl
 |x::r=>by change(i7 r).length+1+1=_;rw[Jf r,o3,SN]
theorem lS:∀(am:List ce) (m:Nat),(cG am m).map (·.1)=am
 | [],_=>rfl
 |x::r,m=>congrArg (x::·) (lS r (m+2))
def Ki{lv:List (Int×Nat×ar)}(e:P.map (·.1)=am){k:Int}{a:aj}:((∃q∈am,q.n=k/\a= .ref q.b)\/∃x∈lv,x.1=k/\a= .ref x.2.2)↔∃x∈ie P++lv,x.1=k/\a= .ref x.2.2:=by rw[<-e];show⟨λh=>h.elim (λaD=>aD.casesOn λq aD=>aD.casesOn λd r=>(dy.mp d).elim λz y=>⟨_,sY _ (hc y.1),y.2▸r⟩) λaD=>aD.casesOn λx aD=>aD.casesOn λc r=>⟨x,wf _ c,r⟩,λaD=>aD.casesOn λx aD=>aD.casesOn λc r=>(mI.mp c).elim (λc=>(dy.mp c).elim λz y=> .inl ⟨z.1,hc y.1,by rw[<-y.2]at r;show r⟩) λc=> .inr ⟨x,c,r⟩⟩
def lV:∀{am:List ce} {m:Nat} {q:ce×Nat},q∈cG am m->m<=q.2/\q.2+2<=m+2*am.length:=by
 intro X;cases X with
 |nil=>intro m q h;show nomatch h
 |cons x r i=>
  intro m q h;rw[o3];show a8 (bX.mp h) (λo=>?_) λh=>?_
  .k_lt o;show⟨jY _,by change m+2<=_;lia⟩
  .haveI x:=i h;show⟨c7 (gB m 2) x.1,wr m 2 _▸x.2⟩
def Jg:∀{am:List ce} {m:Nat} {q:ce×Nat},q∈cG am m->∃j,q.2=m+2*j:=by
 intro X;cases X with
 |nil=>intro m q h;show nomatch h
 |cons x r i=>
  intro m q h;show a8 (bX.mp h) (λo=>?_) λh=>?_
  .k_lt o;show⟨0,rfl⟩
  .show x11 (i h) λj e=>?_;show⟨j+1,by lia⟩
theorem Kj:∀(am:List ce) (m:Nat),((cG am m).map (·.2)).Nodup
 | [],_=> .nil
 |x::r,m=>dN.mpr ⟨λh=>by show x12 (dy.mp h) λq c e=>?_;have:=lV c;have e:q.2=m:=e;lia,Kj r (m+2)⟩
def br.last:br (ah++p::l) ah.length p:=by delta br;rw[oY (jY _),tm];rfl
def Kk(ah:dr)(a b:ar×ar)(l:dr):ah++a::b::l=(ah++ [a,b])++l:=by rw[jR];rfl
def BW(ah:dr)(a b:ar×ar):(ah++ [a,b]).length=ah.length+2:=fW
def xH:∀{am:List ce} {ah:dr} {q:ce×Nat},q∈cG am ah.length->br (ah++i7 am) q.2 (q.1.b,q.1.d)/\br (ah++i7 am) (q.2+1) (q.1.y,q.1.y):=by
 intro X;cases X with
 |nil=>intro ah q h;show nomatch h
 |cons x r i=>
  intro ah q h;show a8 (bX.mp h) (λo=>?_) λh=>?_
  .k_lt o;show⟨br.last,?_⟩;haveI:=br.last (ah:=ah++ [(x.b,x.d)]) (p:=(x.y,x.y)) (l:=i7 r);rw[jR,fW]at this;show this
  .haveI:=i (ah:=ah++ [(x.b,x.d),(x.y,x.y)]) (q:=q) (by rw[BW];show h)
   rw[<-Kk]at this;show this
def WH:∀{am:List ce} {ah:dr} {i:Nat} {p:ar×ar},br (ah++i7 am) i p->br ah i p\/∃q∈cG am ah.length,(i=q.2/\p=(q.1.b,q.1.d))\/(i=q.2+1/\p=(q.1.y,q.1.y)):=by
 intro X;cases X with
 |nil=>intro ah i p h;show .inl (by rwa [show ah++i7 []=ah from nO _]at h)
 |cons x r I=>
  intro ah i p h;haveI h:br (ah++(x.b,x.d)::(x.y,x.y)::i7 r) i p:=h;rw[Kk]at h;show a8 (I h) (λh=>?_) λo=>?_
  .by_cases g:i<ah.length
   .show .inl (by unfold br at h⊢;rwa [oZ g]at h)
   .haveI f:=(e8.mp h).1;rw[BW]at f;show .inr ⟨(x,ah.length),cF ..,?_⟩;haveI au:br (ah++ [(x.b,x.d),(x.y,x.y)]) ah.length (x.b,x.d):=br.last;by_cases d:i=ah.length
    .k_lt d;show .inl ⟨rfl,h.fn au⟩
    .obtain rfl:i=ah.length+1:=by lia
     haveI ak:=br.last (ah:=ah++ [(x.b,x.d)]) (p:=(x.y,x.y)) (l:= []);rw[jR,fW]at ak;show .inr ⟨rfl,h.fn ak⟩
  .show x12 o λq c h=>?_;show .inr ⟨q,cA _ (by rwa [BW]at c),h⟩
theorem pf:∀{P:List (ce×Nat)} {t:cS} {i:Nat},(∀q∈P,q.2≠i)->(D3 P t).get i=t.get i
 | [],_,_,_=>rfl
 |q::P,t,i,h=>(C.T.bO _ _ (cX (h q (cF ..)))).trans (pf λq c=>h q (cA _ c))
def YY:∀{P:List (ce×Nat)} {t:cS} {q:ce×Nat},(P.map (·.2)).Nodup->q∈P->(D3 P t).get q.2=C.hu G.b0 q.1.n (q.2+1) 0:=by
 intro X;cases X with
 |nil=>intro t q aB h;show nomatch h
 |cons x P i=>
  intro t q aB h;show x02 (dN.mp aB) λn aB=>a8 (bX.mp h) (λo=>?_) λh=>?_
  .w_pre o;show C.T.cT ..
  .show(C.T.bO _ _ λe=>n (dy.mpr ⟨q,h,e⟩)).trans (i aB h)
section
def cY.af8{live:aP}(aq:cY ah live lv):∀{P:List (ce×Nat)},(∀q∈P,br ah q.2 (q.1.b,q.1.d))->cY ah (oF P live) (ie P++lv):=by
 intro X;cases X with
 |nil=>intro J;show aq
 |cons x P i=>intro h;show .cons (h x (cF ..)) (i λq c=>h q (cA _ c))
def cY.hW(aq:cY ah l lv)(c:∀k a,f k=U a↔∃x∈lv,x.1=k/\a= .ref x.2.2):ej u ah l f:=λk=>by
 cases q:l.get k with
 |none=>
  change f k=aa;cases e:f k with
  |none=>rfl
  |some a=>show x13 ((c k a).mp e) λx d e J=>absurd e (aq.no q x d)
 |some v=>show x23 (aq.get q) λj p o g m=>?_;k_lt o;show g8.mk (v:= .ref j) ((c k _).mpr ⟨_,m,rfl,rfl⟩) ⟨p,g,rfl⟩
def cY.mem{l:aP}{lv:List (Int×Nat×ar)}(aq:cY ah l lv)(aB:(lv.map (·.1)).Nodup){x:Int×Nat×ar}(c:x∈lv):l.get x.1=U (.ref x.2.1):=by
 cases aq with
 |nil=>cases c
 | @cons n j q r l f t i=>
  show x02 (dN.mp aB) λd aB=>?_;rw[C.aP.hn];show a8 (bX.mp c) (λo=>?_) λc=>?_
  .k_lt o;rw[C.tF];rfl
  .rw[C.o_ λe=>d (dy.mpr ⟨x,c,e.symm⟩)];show i aB c
def cY.fin(aq:cY ah l lv)(aB:(lv.map (·.1)).Nodup)(m:ej u ah l f)(k:Int)(a:aj):f k=U a↔∃x∈lv,x.1=k/\a= .ref x.2.2:=by
 haveI m:=m k;constructor
 .intro e;cases q:l.get k with
  |none=>rw[q]at m;show nomatch e.symm.trans m
  |some v=>show x23 (aq.get q) λj p o d qC=>?_;k_lt o;rw[q]at m;obtain⟨w,E,p',c,rfl⟩:=m;cases e.symm.trans E;show⟨_,qC,rfl,by rw[d.fn c]⟩
 .rintro ⟨x,g,rfl,rfl⟩;rw[aq.mem aB g]at m;obtain⟨w,E,p',c,rfl⟩:=m;show x12 (aq.cQ g) λp d e=>?_;rw[E,e,d.fn c]
def WI{α bA:Type}{g:α->bA}{ws ms:List bA}(p:ws.Perm ms):∀{l:List α},ms=l.map g->∃gM:List α,gM.Perm l/\ws=gM.map g:=by
 cases p with
 |nil=>showλ{l} e=>⟨[],by rw[F4.mp e.symm],rfl⟩
 |cons a _ ih=>intro l e;show x23 (wm.mp e.symm) λb r cv hP gi=>?_;k_lt cv;k_lt hP;show x12 (ih gi.symm) λgM p' cv=>?_;k_lt cv;show⟨b::gM,p'.cons b,rfl⟩
 |swap a b r=>intro l e;show x23 (wm.mp e.symm) λx Fi cv hP gi=>?_;k_lt cv;k_lt hP;show x23 (wm.mp gi) λy af9 cv hP vx=>?_;k_lt cv;k_lt hP;k_lt vx;show⟨y::x::af9, .swap ..,rfl⟩
 |trans _ _ ih1 ih2=>intro l e;show x12 (ih2 e) λbQ bh fu=>x12 (ih1 fu) λcn bz fv=>?_;show⟨cn,bz.trans bh,fv⟩
noncomputable abbrev e3(lw:List (Int×Nat×ar)):List V:=lw.map λx=> .ref x.2.1
theorem Kl:∀{lw:List (Int×Nat×ar)},(∀x∈lw,∃q,br ah x.2.1 q/\x.2.2=q.1)->bI (az u ah) (e3 lw) (lw.map λx=> .ref x.2.2)
 | [],_=> .nil
 |x::lw,h=> .cons (by show x12 (h x (cF ..)) λq a e=>?_;show⟨q,a,congrArg eU e⟩) (Kl λy c=>h y (cA _ c))
def c9.down(c:ah<+:e)(x:c9 u ah f l)(y:c9 u e f aq):c9 u ah f aq:=by
 induction x generalizing aq with
 |nil=>cases y;show .nil
 |cons _ _ i _ I=>cases(y)with
  |cons j d g r=>show .cons j d (i.down c g) (I r)
end
noncomputable def u6:List (ce×Nat)->cB->cB
 | [],o=>o
 |q::P,o=>λa=>if a=q.1.b\/a=q.1.d then U q.2 else u6 P o a
abbrev k9(q:ce×Nat)(a:ar):Prop:=a=q.1.b\/a=q.1.d
abbrev OM(P:List (ce×Nat)):Prop:=P.Pairwise λq Q=>∀a,k9 q a->¬k9 Q a
theorem xm:∀{P:List (ce×Nat)} {o:cB} {a:ar},(∀q∈P,¬k9 q a)->u6 P o a=o a
 | [],_,_,_=>rfl
 |q::P,o,a,h=>(if_neg (h q (cF ..))).trans (xm λq c=>h q (cA _ c))
theorem YZ:∀{P:List (ce×Nat)} {o:cB} {a:ar} {q:ce×Nat},OM P->q∈P->k9 q a->u6 P o a=U q.2:=by
 intro X;cases X with
 |nil=>intro o a q D h e;show nomatch h
 |cons x P i=>
  intro o a q D h e;show x02 (QD.mp D) λgz D=>a8 (bX.mp h) (λO=>?_) λh=>?_
  .w_pre O;show if_pos e
  .show(if_neg λE=>gz q h a E e).trans (i D h e)
theorem WJ:∀{P:List (ce×Nat)} {o:cB} {a:ar} {i:Nat},u6 P o a=U i->(∃q∈P,k9 q a/\i=q.2)\/o a=U i:=by
 intro X;cases X with
 |nil=>intro J J J h;show .inr h
 |cons x P I=>
  intro o a i h;by_cases e:k9 x a
  .show .inl ⟨x,cF ..,e,(bY ((if_pos e).symm.trans h)).symm⟩
  .show a8 (I ((if_neg e).symm.trans h)) (λO=>?_) λh=>?_
   .show x12 O λq c r=>?_;show .inl ⟨q,cA _ c,r⟩
   .show .inr h
def i8(own:cB)(d ct r pr:Nat)(P:List (ce×Nat))(ls:List Nat):cB:=λa=>if a=ct then U d else if a=pr then U r else u6 P (hM own ls) a
theorem aaS{α:Type}{R:α->α->Prop}{l:List α}(h:l.Pairwise R){x y:α}(i:x∈l)(f:y∈l)(n:x≠y):R x y\/R y x:=by
 cases h with
 |nil=>cases i
 |cons g _ I=>
  show a8 (bX.mp i) (λe=>?_) λd=>?_
  .show a8 (bX.mp f) (λE=>?_) λc=>?_
   .show absurd (e.trans E.symm) n
   .show .inl (e▸g _ c)
  .show a8 (bX.mp f) (λE=>?_) λc=>?_
   .show .inr (E▸g _ d)
   .show I d c
section
variable{c:aV}{Y bp:b1}{L bn:bU}{s a5:ax}
structure eg(u:bf)(Y:b1)(L:bU)(s:ax)(si c_:Nat)(cK:aL)(d:Nat)(live:aP)(ch:Option Int)(lk:aP)(r lt:Nat)(ct pr pl:ar×ar)(am:List ce)(lv lw:List (Int×Nat×ar))(f fl:Int->Option aj)(ws:Array aj)(wn:Nat):Prop where
 bb:L.h.get si= .inst c_ cK
 cz:L.h.get d= .c3 live aa ch lk r lt
 ad:br Y.ah d ct
 H:Hid u Y.ah Y.own s.heap d ct live aa ch lk r lt pr pl am lv f fl ws wn
 fT:2<=r
 cC:lw.Perm (ie (cG am L.nx)++lv)
 ahi:ws.toList=lw.map λx=> .ref x.2.2
 dd:∀x∈lv,∃k f,L.h.get x.2.1= .inst k f
variable{si c_:Nat}{cK:aL}{d:Nat}{live:aP}{ch:Option Int}{lk:aP}{r lt:Nat}{ct pr pl:ar×ar}{am:List ce}{lv lw:List (Int×Nat×ar)}{f fl:Int->Option aj}{ws:Array aj}{wn:Nat}
noncomputable abbrev dX(si:Nat)(lv:List (Int×Nat×ar)):List Nat:=si::lv.map (·.2.1)
def gH(L:bU)(si c_:Nat)(cK:aL)(d:Nat)(live:aP)(r:Nat)(am:List ce)(lw:List (Int×Nat×ar)):cS:=D3 (cG am L.nx) ((((((r3 L.h live .lf).st (.inst c_ cK) si).st (.dict (oF (cG am L.nx) live)) d).st (.list (e3 lw)) r).st .tab 0).st .tab 1)
section
variable(T:eg u Y L s si c_ cK d live ch lk r lt ct pr pl am lv lw f fl ws wn)(R:Rel u c Y L s)
include T
theorem eg.af_:OM (cG am L.nx):=by have h:=T.H.aB;have h:=(FW.mp (dN.mp (dN.mp (dN.mp h).2).2).2).2;rw[<-lS am L.nx,List.pairwise_map]at h;show h.imp λh a e E=>h a (by rcases e with rfl |rfl<;>simp) a (by rcases E with rfl |rfl<;>simp) rfl
theorem eg.mem(c:q∈cG am L.nx):q.1∈am:=by haveI:=hc (f:=(·.1)) c;rwa [lS]at this
theorem eg.inl(c:i∈dX si lv):∃k f,L.h.get i= .inst k f:=by
 show a8 (bX.mp c) (λO=>?_) λc=>?_
 .w_pre O;show⟨_,_,T.bb⟩
 .show x12 (dy.mp c) λx d o=>?_;k_lt o;show T.dd x d
theorem eg.dG:d∉dX si lv:=λh=>by show x21 (T.inl h) λk f e=>?_;cases T.cz.symm.trans e
theorem eg.D4(c:q∈cG am L.nx)(e:k9 q a):Y.own a=U d:=by show x03 (T.H.own.2.2.2 q.1 (T.mem c)) λO o f=>?_;rcases e with rfl |rfl<;>assumption
include R
theorem eg.ei:2<=d:=by
 haveI x:=R.bc.ne (i:=d) (by rw[T.cz];nofun)
 show NU x.1 x.2
theorem eg.nA(c:i∈dX si lv):i<L.nx:=by show x21 (T.inl c) λk f e=>R.len▸R.lj (by rw[e];nofun)
theorem eg.oV:r∉dX si lv:=λh=>by show x21 (T.inl h) λk f e=>?_;obtain⟨es,n,i,c,a,J⟩:=R.at T.H.cQ.1 e;haveI:=bY (a.w.symm.trans T.H.own.2.1);rw[this]at h;show T.dG h
theorem eg.ahj:r≠d:=λe=>by have h:=T.H.cQ.1;rw[e]at h;show T.H.apart.pr (congrArg BA (T.ad.fn h))
theorem eg.oW:r<L.nx:=R.len▸(e8.mp T.H.cQ.1).1
theorem eg.ji:d<L.nx:=R.len▸(e8.mp T.ad).1
theorem eg.nJ(h:Y.own a=U i)(k:i<2\/i∈dX si lv):i8 Y.own d ct.1 r pr.1 (cG am L.nx) (dX si lv) a=U i:=by
 have aB:i≠d:=λe=>k.elim (λk=>by have:=T.ei R;omega) λk=>T.dG (e▸k)
 have f:a≠ct.1:=λe=>aB (bY (h.symm.trans (e▸T.H.own.1)));have n:a≠pr.1:=λe=>aB (bY (h.symm.trans (e▸T.H.own.2.1)));show(if_neg f).trans ((if_neg n).trans ((xm λq c e=>aB (bY (h.symm.trans (T.D4 c e)))).trans (kX h k)))
omit R in
theorem eg.gK(h:Y.own a=aa):i8 Y.own d ct.1 r pr.1 (cG am L.nx) (dX si lv) a=aa:=by haveI f:a≠ct.1:=λe=>nomatch h.symm.trans ((congrArg Y.own e).trans T.H.own.1);haveI n:a≠pr.1:=λe=>nomatch h.symm.trans ((congrArg Y.own e).trans T.H.own.2.1);show(if_neg f).trans ((if_neg n).trans ((xm λq c e=>nomatch h.symm.trans (T.D4 c e)).trans (A6 h)))
omit R in
theorem eg.zD(h:Y.own a=U i)(k:¬(i<2\/i∈dX si lv))(f:a≠ct.1)(n:a≠pr.1)(c:∀q∈cG am L.nx,¬k9 q a):i8 Y.own d ct.1 r pr.1 (cG am L.nx) (dX si lv) a=aa:=(if_neg f).trans ((if_neg n).trans ((xm c).trans (Br h k)))
omit R in
theorem eg.ahk(h:Y.own a=U i)(k:¬(i<2\/i∈dX si lv))(aB:i≠d):i8 Y.own d ct.1 r pr.1 (cG am L.nx) (dX si lv) a=aa:=T.zD h k (λe=>aB (bY (h.symm.trans (e▸T.H.own.1)))) (λe=>aB (bY (h.symm.trans (e▸T.H.own.2.1)))) λq c e=>aB (bY (h.symm.trans (T.D4 c e)))
theorem eg.Fw{x:ce}(c:x∈am):i8 Y.own d ct.1 r pr.1 (cG am L.nx) (dX si lv) x.y=aa:=by
 haveI A:=T.H.apart.cD x c x.y (.inr (.inr rfl));show T.zD (T.H.own.2.2.2 x c).2.2 (λk=>k.elim (λk=>by haveI:=T.ei R;omega) T.dG) A.1 A.2.1 λq g e=>?_
 haveI h:=T.H.aB;haveI h:=FW.mp (dN.mp (dN.mp (dN.mp h).2).2).2;by_cases Q:q.1=x
 .k_lt Q;show x03 (T.H.C9 c) λi n f=>a8 e (λe=>?_) λe=>?_
  .show n e.symm
  .show f e.symm
 .show a8 (aaS h.2 (T.mem g) c Q) (λh=>?_) λh=>?_
  .show h x.y (by show a8 e (λe=>?_) λe=>?_<;>simp[e]) x.y (by simp) rfl
  .show h x.y (by simp) x.y (by show a8 e (λe=>?_) λe=>?_<;>simp[e]) rfl
theorem eg.ahl:i8 Y.own d ct.1 r pr.1 (cG am L.nx) (dX si lv) pl.1=aa:=by haveI A:=T.H.apart;show T.zD T.H.own.2.2.1 (λk=>k.elim (λk=>by haveI:=T.ei R;omega) T.dG) (cX A.pl) (cX A.oV) λq c e=>(A.cD q.1 (T.mem c) pl.1 (e.imp id .inl)).2.2 rfl
end
end
end
section
open Mine.Head
variable{c:aV}{Y bp:b1}{L bn:bU}{s a5:ax}
variable{si c_:Nat}{cK:aL}{d:Nat}{live:aP}{ch:Option Int}{lk:aP}{r lt:Nat}{ct pr pl:ar×ar}{am:List ce}{lv lw:List (Int×Nat×ar)}{f fl:Int->Option aj}{ws:Array aj}{wn:Nat}
inductive pE(L:bU)(si:Nat)(d r:Nat)(aq:aP)(lv lw:List (Int×Nat×ar))(i:Nat):O->Prop where
 |tab (h:i<2):pE L si d r aq lv lw i .tab
 |row (e:i=r):pE L si d r aq lv lw i (.list (e3 lw))
 |num (e:i=d):pE L si d r aq lv lw i (.dict aq)
 |same (m:i∈dX si lv):pE L si d r aq lv lw i (L.h.get i)
 |nul:pE L si d r aq lv lw i .nul
section
variable(T:eg u Y L s si c_ cK d live ch lk r lt ct pr pl am lv lw f fl ws wn)(R:Rel u c Y L s)
include T R
theorem eg.out(j:∀q∈cG am L.nx,q.2≠i):pE L si d r (oF (cG am L.nx) live) lv lw i ((gH L si c_ cK d live r am lw).get i):=by
 rw[pf j];by_cases f:i=1
 .k_lt f;rw[C.T.cT];show .tab (by x_go)
 rw[C.T.bO _ _ f];by_cases dU:i=0
 .k_lt dU;rw[C.T.cT];show .tab (by x_go)
 rw[C.T.bO _ _ dU];by_cases E:i=r
 .k_lt E;rw[C.T.cT];show .row rfl
 rw[C.T.bO _ _ E];by_cases c:i=d
 .k_lt c;rw[C.T.cT];show .num rfl
 rw[C.T.bO _ _ c];by_cases g:i=si
 .k_lt g;rw[C.T.cT,<-T.bb];show .same (cF ..)
 rw[C.T.bO _ _ g,Bq T.H.dV];show iteE (λ_=>?_) λ_=>?_
 .rename_i m;show .same (cA _ m)
 .show .nul
theorem eg.sS(d:i<L.nx):∀q∈cG am L.nx,q.2≠i:=λq c e=>by haveI:=(lV c).1;omega
theorem eg.aga(c:i∈dX si lv):i≠0/\i≠1:=by show x21 (T.inl c) λk f e=>?_;show R.bc.ne (by rw[e];nofun)
theorem eg.uH(c:i∈dX si lv):(gH L si c_ cK d live r am lw).get i=L.h.get i:=by
 show x02 (T.aga R c) λn g=>?_;have f:i≠r:=λe=>T.oV R (e▸c);have aB:i≠d:=λe=>T.dG (e▸c);rw[pf (T.sS R (T.nA R c)),C.T.bO _ _ g,C.T.bO _ _ n,C.T.bO _ _ f,C.T.bO _ _ aB];by_cases E:i=si
 .k_lt E;rw[C.T.cT,T.bb]
 .rw[C.T.bO _ _ E,Bq T.H.dV,if_pos ((bX.mp c).resolve_left E)]
theorem eg.gr:(gH L si c_ cK d live r am lw).get r= .list (e3 lw):=by haveI:=T.fT;rw[pf (T.sS R (T.oW R)),C.T.bO _ _ (by omega),C.T.bO _ _ (by omega),C.T.cT]
theorem eg.kz:(gH L si c_ cK d live r am lw).get d= .dict (oF (cG am L.nx) live):=by haveI:=T.ei R;rw[pf (T.sS R (T.ji R)),C.T.bO _ _ (by omega),C.T.bO _ _ (by omega),C.T.bO _ _ (cX (T.ahj R)),C.T.cT]
omit T R in
theorem mE(c:q∈cG am L.nx):(gH L si c_ cK d live r am lw).get q.2=C.hu G.b0 q.1.n (q.2+1) 0:=YY (Kj _ _) c
theorem eg.r4:cY (Y.ah++i7 am) (oF (cG am L.nx) live) (ie (cG am L.nx)++lv):=(T.H.dV.bR (eS _ _)).af8 λq c=>(xH (by rw[R.len];show c)).1
theorem aaT{iz:dr}{hK:cB}{hL:cS}{p:ar×ar}{i:Nat}(P:Y.ah<+:iz)(A:hK ct.1=U d)(W:hK pr.1=U r)(t:∀{q a},q∈cG am L.nx->k9 q a->hK a=U q.2)(O:∀{a i},Y.own a=U i->i<2\/i∈dX si lv->hK a=U i)
 (D:br Y.ah i p\/∃q∈cG am L.nx,(i=q.2/\p=(q.1.b,q.1.d))\/(i=q.2+1/\p=(q.1.y,q.1.y)))(B:∀{q},q∈cG am L.nx->br iz (q.2+1) (q.1.y,q.1.y))(l:cY iz (oF (cG am L.nx) live) (ie (cG am L.nx)++lv))
 (mE:∀{q},q∈cG am L.nx->hL.get q.2=C.hu G.b0 q.1.n (q.2+1) 0)(out:∀{i},(∀q∈cG am L.nx,q.2≠i)->pE L si d r (oF (cG am L.nx) live) lv lw i (hL.get i)):dk u iz hK s.heap i p (hL.get i):=by
 have ac:Y.ah.length=L.nx:=R.len;have two:=R.two;have bD:=T.fT;have Z:=T.oW R;have N:=T.ji R;have H:=T.H;rcases D with E | ⟨q,c,⟨rfl,rfl⟩ | ⟨rfl,rfl⟩⟩
 .have n:i<L.nx:=ac▸(e8.mp E).1;have z:=out (T.sS R n);revert z;generalize hL.get i=o;intro z;cases z with
  |tab _=>trivial
  |row q=>
   w_pre q;rw[E.fn H.cQ.1];show⟨ws,wn,⟨W,H.kl⟩,?_,?_⟩
   .rw[T.ahi];show Kl λx aq=>l.cQ (T.cC.mem_iff.mp aq)
   .have:=T.cC.length_eq;rw[dC,this,fW,dC];have:=congrArg AI (lS am L.nx);rw[dC]at this;have:=H.cnt.1;lia
  |num q=>w_pre q;rw[E.fn T.ad];show⟨f,A,H.jw,l.hW λk a=>(H.fin k a).trans (Ki (lS am L.nx))⟩
  |same m=>show(R.objs i p E).at P (λb g=>⟨O g (.inr m),λJ=>id⟩) λb g=>O g (.inl (by x_go))
  |nul=>trivial
 .rw[mE c];have M:=T.mem c;obtain⟨af7,hV,e0,gh,X,bN⟩:=H.i4 q.1 M;obtain⟨fu,fv,kB,nH,k,I,F,w,cI,ek,s3,s4,y,V,K,Q,dF,v,S,aI⟩:=X;show x04 NN λg1 g2 g3 lz=>?_;show⟨_,k,uF,(H.C9 M).1,⟨t c (.inl rfl),e0⟩,⟨t c (.inr rfl),gh⟩, .cons y ⟨g1,rfl⟩ ⟨I,V⟩ (.cons K ⟨g2,rfl⟩ ⟨_,B c,Q⟩ (.cons dF ⟨g3,rfl⟩ ⟨F,v⟩ (.cons S ⟨lz,rfl⟩ ⟨w,aI⟩ .nil)))⟩
 .have z:=out (i:=q.2+1) λsM ai e=>by show x11 (Jg c) λj h=>?_;show x11 (Jg ai) λai9 ag=>?_;lia
  have:=(lV c).1;revert z;generalize hL.get (q.2+1)=o;intro z;cases z with
  |tab _=>trivial
  |row e=>lia
  |num e=>lia
  |same m=>have:=T.nA R m;lia
  |nul=>trivial
theorem Rel.u7:Rel u (c.eu Y.own (i8 Y.own d ct.1 r pr.1 (cG am L.nx) (dX si lv)) s.heap) ⟨Y.ah++i7 am,i8 Y.own d ct.1 r pr.1 (cG am L.nx) (dX si lv)⟩ ⟨gH L si c_ cK d live r am lw,L.nx+2*am.length,L.fr,L.hf⟩ s:=by
 have l:Y.ah.length=L.nx:=R.len;have two:=R.two;have ei:=T.ei R;have w:=T.fT;have x:=T.oW R;have D:=T.ji R;have H:=T.H;have P:Y.ah<+:Y.ah++i7 am:=eS _ _;have I:∀{a i},i8 Y.own d ct.1 r pr.1 (cG am L.nx) (dX si lv) a=U i->(a=ct.1/\i=d)\/(a=pr.1/\i=r)\/(∃q∈cG am L.nx,k9 q a/\i=q.2)\/(Y.own a=U i/\(i<2\/i∈dX si lv)):=λ{a i} h=>by
  unfold i8 at h;split at h
  .rename_i e;show .inl ⟨e,(bY h).symm⟩
  split at h
  .rename_i e;show .inr (.inl ⟨e,(bY h).symm⟩)
  show .inr (.inr ((WJ h).imp id rf))
 have y:i8 Y.own d ct.1 r pr.1 (cG am L.nx) (dX si lv) ct.1=U d:=if_pos rfl;have ac:i8 Y.own d ct.1 r pr.1 (cG am L.nx) (dX si lv) pr.1=U r:=(if_neg (cX H.apart.pr)).trans (if_pos rfl);have B:∀{q a},q∈cG am L.nx->k9 q a->i8 Y.own d ct.1 r pr.1 (cG am L.nx) (dX si lv) a=U q.2:=λ{q a} f e=>by have A:=H.apart.cD q.1 (T.mem f) a (e.imp id .inl);show(if_neg A.1).trans ((if_neg A.2.1).trans (YZ T.af_ f e))
 show R.small (aE:=⟨_,_⟩) P (by rw[fW,l,Jf]) (λa h=>T.gK h) (λa i k=>⟨λh=>?_,λh=>T.nJ R h (.inl k)⟩) (λa i h=>?_) (λi p e=>?_) (λi k=>?_) ⟨?_,?_⟩
 .have n:∀{j},2<=j->i≠j:=λg e=>absurd (e▸k) (d_.mpr g);show(I h).elim (λh=>absurd h.2 (n ei)) λh=>h.elim (λh=>absurd h.2 (n w)) λh=>h.elim (λaD=>aD.casesOn λq aD=>aD.casesOn λf aD=>aD.casesOn λJ h=>absurd h (n (c7 two (lV f).1))) And.left
 .have t:∀{j},j<L.nx->i=j->i<L.nx+2*am.length:=λg e=>e▸e2 g (gB _ _);show(I h).elim (λh=>t D h.2) λh=>h.elim (λh=>t x h.2) λh=>h.elim (λaD=>aD.casesOn λq aD=>aD.casesOn λf aD=>aD.casesOn λJ h=>h▸e2 (FH (by x_go)) (lV f).2) λh=>e2 (R.low a i h.1).2 (gB _ _)
 .show aaT T R P y ac B (T.nJ R) (l▸WH e) (λf=>(xH (l.symm▸f)).2) (T.r4 R) mE (T.out R)
 .have z:=T.out R (i:=i) λQ v e=>by have:=lV v;lia
  revert z;generalize (gH L si c_ cK d live r am lw).get i=o;intro z;cases z with
  |tab _=>lia
  |row e=>lia
  |num e=>lia
  |same m=>have:=T.nA R m;lia
  |nul=>rfl
 .delta gH;rw[pf (T.sS R (by lia)),C.T.bO _ _ (by lia),C.T.cT]
 .delta gH;rw[pf (T.sS R (by lia)),C.T.cT]
end
end
section
set_option tactic.hygienic true
open Mine.Head
def WK{α bA:Type}{f:α->List bA}{l gM:List α}(h:l.Sublist gM):(l.flatMap f).Sublist (gM.flatMap f):=by
 cases h with
 |slnil=>show .slnil
 |cons a _ ih=>show ih.trans (List.sublist_append_right ..)
 |cons_cons a _ ih=>show(Gn _).append ih
section
variable{si c_:Nat}{cK:aL}{d:Nat}{live:aP}{ch:Option Int}{lk:aP}{r lt:Nat}{ct pr pl:ar×ar}{am:List ce}{lv lw:List (Int×Nat×ar)}{f fl:Int->Option aj}{ws:Array aj}{wn:Nat}
def bI.rF{α bA:Type}{r:α->bA->Prop}{a:α}{l:List α}{m:List bA}(x:bI r (a::l) m):∃b n,m=b::n/\r a b/\bI r l n:=by
 cases(x)with
 |cons h t=>show⟨_,_,rfl,h,t⟩
def bI.yR{α bA:Type}{r:α->bA->Prop}{m:List bA}(x:bI r [] m):m= []:=by cases x;rfl
def aaU{lw:List (Int×Nat×ar)}{l:List aj}(x:bI (az u ah) (e3 lw) l)(c:∀x∈lw,∃q,br ah x.2.1 q/\x.2.2=q.1):l=lw.map λx=> .ref x.2.2:=by
 induction lw generalizing l with
 |nil=>show x.yR
 |cons y lw i=>show x23 x.rF λb n O o t=>?_;k_lt O;obtain⟨p,h,e⟩:=o;show x12 (c y (cF ..)) λq a E=>?_;rw[i t λz hz=>c z (cA _ hz),e,h.fn a,<-E];rfl
def Lo:(ie P).map (·.1)=P.map (·.1.n):=iT ..
noncomputable def i9(own lF d0:cB)(d r:Nat)(P:List (ce×Nat))(ls:List Nat):cB:=λa=>match d0 a with
 |some i=>if i=d\/i=r\/i∈P.map (·.2)then U d else if i<2\/i∈ls then U i else aa
 |none=>if lF a=aa then own a else aa
section
variable{own lF d0:cB}{P:List (ce×Nat)}{ls:List Nat}{a:ar}{i:Nat}
def xX(h:d0 a=U i)(k:i=d\/i=r\/i∈P.map (·.2)):i9 own lF d0 d r P ls a=U d:=by delta i9;rw[h];show if_pos k
def aaV(h:d0 a=U i)(k:¬(i=d\/i=r\/i∈P.map (·.2)))(cV:i<2\/i∈ls):i9 own lF d0 d r P ls a=U i:=by delta i9;rw[h];show(if_neg k).trans (if_pos cV)
def aaW(h:d0 a=aa)(ag:lF a=aa):i9 own lF d0 d r P ls a=own a:=by delta i9;rw[h];show if_pos ag
def Va(h:d0 a=aa)(ag:own a=aa):i9 own lF d0 d r P ls a=aa:=by delta i9;rw[h];rw[ag];show ite_self _
inductive aeu(own lF d0:cB)(d r:Nat)(P:List (ce×Nat))(ls:List Nat)(a:ar)(i:Nat):Prop where
 |d (j:Nat) (h:d0 a=U j) (k:j=d\/j=r\/j∈P.map (·.2)) (e:i=d)
 |k (h:d0 a=U i) (k:i<2\/i∈ls)
 |f (h:d0 a=aa) (ag:lF a=aa) (e:own a=U i)
def Jh(h:i9 own lF d0 d r P ls a=U i):aeu own lF d0 d r P ls a i:=by
 unfold i9 at h;split at h
 .rename_i j q;split at h
  .rename_i k;show .d j q k (bY h).symm
  .split at h
   .rename_i k;cases h;show .k q k
   .cases h
 .rename_i q;split at h
  .rename_i e;show .f q e h
  .cases h
end
def Rel.Lp(T:eg u Y L s si c_ cK d live ch lk r lt ct pr pl am lv lw f fl ws wn)(R:Rel u c Y L s){P2:List (ce×Nat)}{L2:aP}{V ai:List (Int×Nat×ar)}{miss':Option Nat}{bF:cB}(E:bF=i8 Y.own d ct.1 r pr.1 (cG am L.nx) (dX si lv))
 (v:Rel u (c.eu Y.own bF s.heap) bp bn a5)(qj:bn.fr=L.fr)(I:Y.ah++i7 am<+:bp.ah)(sub:P2.Sublist (cG am L.nx))
 (kz:bn.h.get d= .dict L2)(gr:bn.h.get r= .list (e3 ai))(gl:∀i∈dX si lv,bn.h.get i=L.h.get i)(mE:∀q∈P2,bn.h.get q.2=C.hu G.b0 q.1.n (q.2+1) 0)
 (bN:cY bp.ah L2 V)(pm:V.Perm (ie P2++lv))(cC:ai.Perm (ie P2++lv))(hm:miss'=aa\/(miss'=U 0/\P2.length+lv.length<=15)):
 ∃c6,Y.dL c6/\Rel u c c6 ⟨L.h.st (.c3 live miss' ch lk r lt) d,L.nx,L.fr,L.hf⟩ a5:=by
 have M:Y.ah.length=L.nx:=R.len;have ei:=T.ei R;have fT:=T.fT;have oW:=T.oW R;have ji:=T.ji R;have H:=T.H;have P:Y.ah<+:bp.ah:=(eS _ _).trans I;have agb:∀{i},i∈P2.map (·.2)->L.nx<=i:=λh=>by show x12 (dy.mp h) λq l O=>?_;k_lt O;show(lV (sub.subset l)).1
 have ahm:∀{i},i<2\/i∈dX si lv->¬(i=d\/i=r\/i∈P2.map (·.2)):=λ{i} k h=>by
  have:i<L.nx:=k.elim (λk=>by lia) (T.nA R)
  rcases h with rfl |rfl |h
  .show k.elim (λk=>by lia) T.dG
  .show k.elim (λk=>by lia) (T.oV R)
  .have:=agb h;lia
 have K:∀{a i},bp.own a=U i->i<2\/i∈dX si lv->i9 Y.own bF bp.own d r P2 (dX si lv) a=U i:=λh k=>aaV h (ahm k) k;have fz:∀{a i},Y.own a=U i->bF a=aa->bp.own a=aa/\i9 Y.own bF bp.own d r P2 (dX si lv) a=U i/\∀o,s.heap.get? a=U o->a5.heap.get? a=U o:=λh ag=>by show x02 (R.same v h ag) λF ac=>⟨F,(aaW F ag).trans h,ac⟩
 show⟨⟨Y.ah,i9 Y.own bF bp.own d r P2 (dX si lv)⟩,fj _,R.gI v qj P (fj _) M (λa h ag=>Va ag h) (λa i A=>⟨λh=>?_,λh=>K h (.inl A)⟩) (λa i h=>?_) (λi p e=>?_) (λi A=>?_) ⟨?_,?_⟩⟩
 .cases Jh h with
  |d j h k e=>lia
  |k h k=>show h
  |f h ag e=>w_pre E;show nomatch ag.symm.trans (T.nJ R e (.inl A))
 .cases Jh h with
  |d j h k e=>show⟨(v.low a _ h).1,by lia⟩
  |k h k=>show⟨(v.low a _ h).1,k.elim (λk=>by lia) (T.nA R)⟩
  |f h ag e=>show⟨(R.low a i e).1.imp λo=>(fz e ag).2.2 o,(R.low a i e).2⟩
 .by_cases Q:i=d
  .k_lt Q;rw[C.T.cT,e.fn T.ad];obtain⟨f2,gK,agc,agd⟩:=v.at (eI P T.ad) kz;obtain⟨bD,age,ak,agf,J⟩:=v.at (eI P H.cQ.1) gr;have agg:bD.toList=ai.map λx=> .ref x.2.2:=aaU agf λx y=>bN.cQ (pm.mem_iff.mpr (cC.mem_iff.mp y));have mD:(P2.map (·.1)).Sublist am:=by have:=sub.map (·.1);rwa [lS]at this
   have N:∀q∈P2,∃es k,e4 bp.own a5.heap q.2 q.1.b (j6 (cP G.b0.kS) q.1.d)/\e4 bp.own a5.heap q.2 q.1.d ⟨.type "dict",aa, .dict es k,#[]⟩/\c9 u bp.ah (.cons G.b0.number (.int q.1.n) (.cons G.b0.data (.ref (q.2+1)) (.cons G.b0.holders (.int 0) (.cons G.b0.pins (.int 0) .nil)))) es.toList:=λq l=>by obtain⟨es,k,v3,Z,X,w,z⟩:=v.at (eI I (xH (M.symm▸sub.subset l)).1) (mE q l);show⟨es,k,X,w,z⟩
   have aq:∀{q},q∈P2->q.2=i\/q.2=r\/q.2∈P2.map (·.2):=λl=> .inr (.inr (hc l));have y:∀{q:ce×Nat},q∈P2->q.1∈am:=λl=>T.mem (sub.subset l);have W:∀{x},x∈am->i9 Y.own bF bp.own i r P2 (dX si lv) x.y=U i/\∀o,s.heap.get? x.y=U o->a5.heap.get? x.y=U o:=λy=>(fz (H.own.2.2.2 _ y).2.2 (E▸T.Fw R y)).2;have ON:=(fz H.own.2.2.1 (E▸T.ahl R)).2;have aev:(P2.map (·.1)).length=P2.length:=dC ..;have S:((P2.map (·.1)).map (·.n)++lv.map (·.1)).Nodup:=H.num.sublist ((mD.map _).append (.refl _));have agh:(V.map (·.1)).Nodup:=by show((pm.map (·.1)).nodup_iff).mpr ?_;rw[hD,Lo];rw[iT]at S;show S
   show⟨pr,pl,P2.map (·.1),lv,f2,fl,bD,age,⟨xX gK (.inl rfl),xX ak.w (.inr (.inl rfl)),ON.1,λx t=>?_⟩,H.cQ,H.aB.sublist ((((WK mD).cons_cons _).cons_cons _).cons_cons _),agc,H.kj.keep ON.2,ak.g,λx t=>?_,H.hW,H.dV,S,H.g0,λk a=>?_,?_,⟨?_,λe=>?_⟩,λx t=>H.fresh x (mD.subset t),λn e x t=>H.oK n e x (mD.subset t)⟩
   .show x12 (dy.mp t) λq l O=>?_;k_lt O;show x23 (N q l) λes k X w J=>⟨xX X.w (aq l),xX w.w (aq l),(W (y l)).1⟩
   .show x12 (dy.mp t) λq l O=>?_;k_lt O;show x23 (N q l) λes k X w z=>?_;have E1:=Lj (k:=k) z (eI I (xH (M.symm▸sub.subset l)).2);obtain⟨kC,hV,e0,gh,zr,ahn⟩:=H.i4 q.1 (y l);show⟨_,hV,X.g,w.g,E1,(W (y l)).2 _ ahn⟩
   .show(bN.fin agh agd k a).trans (Iff.trans ⟨λaD=>aD.casesOn λx aD=>aD.casesOn λt r=>⟨x,pm.mem_iff.mp t,r⟩,λaD=>aD.casesOn λx aD=>aD.casesOn λt r=>⟨x,pm.mem_iff.mpr t,r⟩⟩ (Ki rfl).symm)
   .have fu:(lv.filter λx=>miss' !=U x.2.1)=lv:=s6.mpr λx t=>by
     have:=H.g0.2 x t;show a8 hm (λaI=>?_) λD=>?_
     .k_lt aI;rfl
     .show x02 D λO J=>?_;k_lt O;simp[bne_iff_ne];lia
    rw[fu,agg];have:=cC.map λx:Int×Nat×ar=>eU x.2.2;rw[hD,iT]at this;rw[iT];show this
   .have:=mD.length_le;have:=H.cnt.1;lia
   .show a8 hm (λaI=>?_) λD=>?_
    .k_lt aI;cases e
    .show x02 D λO h=>?_;k_lt O;rw[aev];show h
  .rw[C.T.bO _ _ Q];by_cases m:i∈dX si lv
   .show x21 (T.inl m) λk aM g=>?_;rw[g];obtain⟨J,J,J,J,J,J,z⟩:=R.at e g;obtain⟨es,cV,v3,Z,X,w,ac0⟩:=v.at (eI P e) ((gl i m).trans g);show⟨es,cV,v3,Z,⟨K X.w (.inr m),X.g⟩,⟨K w.w (.inr m),w.g⟩,z.down P ac0⟩
   .by_cases ac:i<2
    .rcases i with _ |_ |i
     .rw[R.bc.t0];trivial
     .rw[R.bc.t1];trivial
     .lia
    .show(R.objs i p e).at (fj _) (λa B=>(fz B (E▸T.ahk B (λh=>h.elim ac m) Q)).2) λa B=>K (v.bc.nv a B) (.inl (by x_go))
 .rw[C.T.bO _ _ (by lia)];show R.out i A
 .rw[C.T.bO _ _ (by lia)];show R.bc.t0
 .rw[C.T.bO _ _ (by lia)];show R.bc.t1
end
end
section
open Mine.C (X)
open Mine.Head
variable{v w:V}{n m i k:Nat}{f:aL}{a b:cw}
def j_(h:L.fr.get n=U v):C.b9 n [] call L= .ok v L:=by unfold C.b9 C.c1;rw[h];rfl
def m3(d:a [] call L= .ok (.ref i) L)(c:L.h.get i= .inst k f)(hf:f.get m=U v):C.d4 a m [] call L= .ok v L:=by change(a [] call L).bind _=_;rw[d];change C.gF (L.h.get i) _ _=_;rw[c];change C.a7 (f.get m) _ _=_;rw[hf];rfl
def Ct(d:a [] call L= .ok v L)(c:b [] call L= .ok w L)(f:C.compare u.ao.F o L.h v w=U t):C.i2 u.ao o a b [] call L= .ok (C.gb t) L:=by change(a [] call L).bind _=_;rw[d];change(b [] call L).bind _=_;rw[c];change C.a7 (C.compare u.ao.F o L.h v w) _ _=_;rw[f];rfl
def NO:d9 77=⟨[7], [], [], [],af,G.N1, .no⟩:=by k_go
def ac1:d9 101=⟨[7], [], [], [],af,G.Nr, .count⟩:=by k_go
def aew:d9 92=⟨[7], [], [], [],af,G.N2, .room⟩:=by k_go
noncomputable abbrev dR(i:Nat):aL:= .cons 7 (.ref i) .nil
def C_(h:d9 k=⟨[7], [], [], [],af,body,con⟩):jc u call k [.ref i] .nil L=C.R.gI L.fr (C.c8 u.ao body [] call ⟨L.h,L.nx,dR i,L.hf⟩):=by delta jc;rw[h];rfl
def WL(n:Nat)(c:L.h.get i= .inst k f)(d:f.get 49=U (.int x))(g:f.get 161=U (.int y)):
 C.run u.ao (n+1) 77 [.ref i] .nil L= .ok (C.aA (C.cH x 0) (C.gb (C.cH y 0)) .aM) L:=by
 haveI e:=A5 (u:=u) (call:=C.run u.ao n) (k:=77) (as:= [.ref i]) (cs:= .nil) (L:=L) (by x_go)
 show e.trans ?_;rw[show(d9 77).con= .no by rw[NO]]
 show(C_ NO).trans ?_;haveI l:C.b9 7 [] (C.run u.ao n) ⟨L.h,L.nx,dR i,L.hf⟩= .ok (.ref i) ⟨L.h,L.nx,dR i,L.hf⟩:=rfl;haveI cc:C.i2 u.ao .Eq (C.d4 (C.b9 7) 49) (C.dq (.int (.ofNat 0))) [] (C.run u.ao n) ⟨L.h,L.nx,dR i,L.hf⟩= .ok (C.gb (C.cH x 0)) ⟨L.h,L.nx,dR i,L.hf⟩:=Ct (m3 l c d) rfl rfl;haveI c4:C.i2 u.ao .Eq (C.d4 (C.b9 7) 161) (C.dq (.int (.ofNat 0))) [] (C.run u.ao n) ⟨L.h,L.nx,dR i,L.hf⟩= .ok (C.gb (C.cH y 0)) ⟨L.h,L.nx,dR i,L.hf⟩:=Ct (m3 l c g) rfl rfl;change C.R.gI L.fr (C.R.seq (C.R.bind (C.R.bind (C.i2 u.ao .Eq (C.d4 (C.b9 7) 49) (C.dq (.int (.ofNat 0))) [] (C.run u.ao n) ⟨L.h,L.nx,dR i,L.hf⟩) λv L=>C.dS v (C.i2 u.ao .Eq (C.d4 (C.b9 7) 161) (C.dq (.int (.ofNat 0))) [] (C.run u.ao n) L) (.ok .aM L) (.stuck 83)) .ret) λL=> .next L)=_
 rw[cc];cases C.cH x 0 with
 |true=>
  change C.R.gI L.fr (C.R.seq (C.R.bind (C.i2 u.ao .Eq (C.d4 (C.b9 7) 161) (C.dq (.int (.ofNat 0))) [] (C.run u.ao n) ⟨L.h,L.nx,dR i,L.hf⟩) .ret) λL=> .next L)=_
  rw[c4];rfl
 |false=>rfl
inductive Buf(h:cS)(j:Nat)(x y:Int):Prop where
 |mk (f:aL) (g:h.get j= .inst 11 f) (h0:f.get 171=aa) (bb:f.get 49=U (.int x)) (bM:f.get 161=U (.int y))
abbrev kn(u:bf):cw:=C.yw u.ao (C.b9 85) 171 .f7 C.eC
def Cu(n:Nat)(k:L.fr.get 85=U (.ref i))(B:Buf L.h i x y):kn u [] (C.run u.ao (n+1)) L= .ok (C.aA (C.cH x 0) (C.gb (C.cH y 0)) .aM) L:=by
 obtain⟨f,g,d,c,j⟩:=B;change(C.b9 85 [] (C.run u.ao (n+1)) L).bind _=_;rw[j_ k];haveI lk:C.uo u.ao (.ref i) 171 .f7 L=U (.fn 77):=by change C.gF (L.h.get i) _ _=_;rw[g];change C.bs (f.get 171) _ _=_;rw[d];rfl
 change C.a7 (C.uo u.ao (.ref i) 171 .f7 L) _ _=_;rw[lk];show WL n g c j
def BX:C.dj (e3 lw) k=lw[k]?.map λx=> .ref x.2.1:=by rw[C.hq,iQ]
def Ji{α:Type}{l:List α}(h:l.drop k= []):l[k]? =aa:=by rw[<-o7 k,<-lI,h];rfl
def A7{α:Type}{l r:List α}{x:α}{k:Nat}(h:l.drop k=x::r):l[k]? =U x/\l.drop (k+1)=r:=by
 show⟨by rw[<-o7 k,<-lI,h];rfl,?_⟩
 rw[<-wF,h];rfl
def Vb(n:Nat){h:cS}{nx r:Nat}{hf:Bool}{lf:List Int}{el:cw}{lw:List (Int×Nat×ar)}(aq:h.get r= .list (e3 lw))(B:∀x∈lw,Buf h x.2.1 0 0):∀(rest:List (Int×Nat×ar)) (k fl:Nat) (fr:aL),lw.drop k=rest->rest.length<fl->
 ∃fr',C.gp lf (C.c5 85) (C.jB (kn u)) el (C.run u.ao (n+1)) fl (.seq r k) [] ⟨h,nx,fr,hf⟩= .args [] ⟨h,nx,fr',hf⟩:=by
 intro X;cases X with
 |nil=>
  intro k y fr e J;cases(y)with
  |zero=>show nomatch hz
  |succ fl=>show⟨fr,by change C.cJ (h.get r) _ _=_;rw[aq];change C.bs (C.dj (e3 lw) k) _ _=_;rw[BX,Ji e];rfl⟩
 |cons x rest i=>
  intro k y fr e hz;cases(y)with
  |zero=>show nomatch hz
  |succ fl=>
   show x02 (A7 e) λE c=>x11 (i (k+1) fl (fr.st 85 (.ref x.2.1)) c (sW hz)) λfr' i=>?_;show⟨fr',?_⟩;change C.cJ (h.get r) _ _=_;rw[aq];change C.bs (C.dj (e3 lw) k) _ _=_;rw[BX,E];change(C.St.f4 ⟨h,nx,fr,hf⟩ 85 (.ref x.2.1) .next).seq _=_
   rw[C.ho];change((kn u [] (C.run u.ao (n+1)) ⟨h,nx,fr.st 85 (.ref x.2.1),hf⟩).bind _).bind _=_;rw[Cu n (by rw[C.aL.f0,if_pos rfl]) (B x (h1 E))]
   show i
def Vc{m:Int}(n:Nat)(c:L.h.get si= .inst c_ cK)(f:cK.get 164=U (.int m))(d:cK.get 28=U (.ref r))(aq:L.h.get r= .list (e3 lw))(B:∀x∈lw,Buf L.h x.2.1 0 0)(hz:lw.length<1000):
 jc u (C.run u.ao (n+1)) 101 [.ref si] .nil L= .ok (.int m) ⟨L.h.st (.list []) L.nx,L.nx+1,L.fr,L.hf⟩:=by
 rw[C_ ac1];haveI au:C.d4 (C.b9 7) 164 [] (C.run u.ao (n+1)) ⟨L.h,L.nx,dR si,L.hf⟩= .ok (.int m) ⟨L.h,L.nx,dR si,L.hf⟩:=m3 (i:=si) rfl c f;haveI ak:C.d4 (C.b9 7) 28 [] (C.run u.ao (n+1)) ⟨L.h,L.nx,dR si,L.hf⟩= .ok (.ref r) ⟨L.h,L.nx,dR si,L.hf⟩:=m3 (i:=si) rfl c d;show x11 (Vb (u:=u) n (nx:=L.nx) (hf:=L.hf) (lf:=u.ao.lf) (el:=C.b9 85) aq B lw 0 1000 .nil rfl hz) λfr' cf=>?_;haveI g:C.hJ u.ao (C.b9 85) (C.c5 85) (C.d4 (C.b9 7) 28) (C.jB (kn u)) [] [] (C.run u.ao (n+1)) ⟨L.h,L.nx,dR si,L.hf⟩= .ok (.ref L.nx) ⟨L.h.st (.list []) L.nx,L.nx+1,dR si,L.hf⟩:=by change(C.d4 (C.b9 7) 28 [] (C.run u.ao (n+1)) ⟨L.h,L.nx,dR si,L.hf⟩).bind _=_;rw[ak];change C.cJ (L.h.get r) _ _=_;rw[aq];change(C.gp u.ao.lf (C.c5 85) (C.jB (kn u)) (C.b9 85) (C.run u.ao (n+1)) 1000 (.seq r 0) [] ⟨L.h,L.nx, .nil,L.hf⟩).nx.ea _=_;rw[cf];show C.gE ⟨L.h,L.nx,dR si,L.hf⟩ (.list []) .ok
 haveI l:C.rL u.ao.F (L.h.st (.list []) L.nx) (.ref L.nx)=U (.int 0):=by change C.cJ ((L.h.st (.list []) L.nx).get L.nx) _ _=_;rw[C.T.cT];rfl
 haveI ac:C.ia u.ao (C.dq (.bi .len)) (C.f5 (C.hJ u.ao (C.b9 85) (C.c5 85) (C.d4 (C.b9 7) 28) (C.jB (kn u)) []) C.eC) [] (C.run u.ao (n+1)) ⟨L.h,L.nx,dR si,L.hf⟩= .ok (.int 0) ⟨L.h.st (.list []) L.nx,L.nx+1,dR si,L.hf⟩:=by change C.R.ea (C.R.bind (C.hJ u.ao (C.b9 85) (C.c5 85) (C.d4 (C.b9 7) 28) (C.jB (kn u)) [] [] (C.run u.ao (n+1)) ⟨L.h,L.nx,dR si,L.hf⟩) _) _=_;rw[g];change C.a7 (C.rL u.ao.F (L.h.st (.list []) L.nx) (.ref L.nx)) _ _=_;rw[l];rfl
 change C.R.gI L.fr (C.R.seq (C.R.bind (C.R.bind (C.d4 (C.b9 7) 164 [] (C.run u.ao (n+1)) ⟨L.h,L.nx,dR si,L.hf⟩) λv L=>(C.ia u.ao (C.dq (.bi .len)) (C.f5 (C.hJ u.ao (C.b9 85) (C.c5 85) (C.d4 (C.b9 7) 28) (C.jB (kn u)) []) C.eC) [] (C.run u.ao (n+1)) L).bind λw L=>C.m8 u.ao.F .Sub v w L) .ret) .next)=_
 rw[au];change C.R.gI L.fr (C.R.seq (C.R.bind (C.R.bind (C.ia u.ao (C.dq (.bi .len)) (C.f5 (C.hJ u.ao (C.b9 85) (C.c5 85) (C.d4 (C.b9 7) 28) (C.jB (kn u)) []) C.eC) [] (C.run u.ao (n+1)) ⟨L.h,L.nx,dR si,L.hf⟩) _) .ret) .next)=_
 rw[ac];haveI ay:C.jA u.ao.F .Sub (.int m) (.int 0)=U (.int m):=by change C.g7 (C.ss (xK m 0)) V.int=_;rw[C.oo,show xK m 0=m from Int.sub_zero m];rfl
 change C.R.gI L.fr (C.R.seq (C.R.bind (C.a7 (C.jA u.ao.F .Sub (.int m) (.int 0)) 1009 _) .ret) .next)=_
 rw[ay];rfl
end
section
open Mine.C (X)
open Mine.Head
inductive hR(h:cS)(x:Int×Nat×ar):Bool->Prop where
 |free (f:aL) (g:h.get x.2.1= .inst 11 f) (h0:f.get 171=aa) (bb:f.get 49=U (.int 0)) (bM:f.get 161=U (.int 0)) (cz:f.get 46=U (.int x.1)):hR h x ae
 |busy (a b:Int) (B:Buf h x.2.1 a b) (e:C.aA (C.cH a 0) (C.gb (C.cH b 0)) .aM= .aM):hR h x af
abbrev qo:cw:=C.m9 2 (C.hG (C.c5 58) (C.hG (C.c5 85) C.jt))
abbrev agi:cw:=C.jC (C.k7 (C.d4 (C.b9 7) 165) (C.d4 (C.b9 85) 46)) (C.jC (C.k7 (C.d4 (C.b9 7) 28) (C.b9 58)) (C.jC C.us C.l1))
abbrev nB(u:bf):cw:=C.jC (C.oH (kn u) agi C.l1) C.l1
inductive Y0(h0:cS)(agj d r:Nat)(aq:aP)(lw:List (Int×Nat×ar))(res:bl):Prop where
 |mk (k:Nat) (x:Int×Nat×ar) (aU:cS) (E3:Nat) (fr':aL) (hf:Bool) (e:lw[k]? =U x) (b:hR h0 x ae) (aho:aU.get d= .dict (aq.dG x.1)) (sL:aU.get r= .list (e3 (lw.eraseIdx k)))
  (ahp:∀i,i<agj->i≠d->i≠r->aU.get i=h0.get i) (eq:res= .ret .none ⟨aU,E3,fr',hf⟩)
def Vd:C.l8 (C.rz (e3 lw) k) (C.pG (e3 lw) (k+1))=e3 (lw.eraseIdx k):=by rw[C.mX,C.tG,C.q7,Pp];change _=j1 _ (xd k lw++Vo (k+1) lw);rw[hD,Sn,List.map_drop]
def Lq(h:n<5000):C.dA n r=r:=by change C.aA (bw n 5000) r _=r;rw[fD.mpr h];rfl
def WM{call:d8}{a b:cw}{d:Nat}{k:Int}{aq:aP}{j:Nat}(f:a [] call L= .ok (.ref d) L)(i:b [] call L= .ok (.int k) L)(g:L.h.get d= .dict aq)(hz:aq.len<5000)(c:aq.get k=U (.ref j)):C.k7 a b [] call L= .next ⟨L.h.st (.dict (aq.dG k)) d,L.nx,L.fr,L.hf⟩:=by change(a [] call L).bind _=_;rw[f];change(b [] call L).bind _=_;rw[i];change C.e_ (L.h.get d) _ _=_;rw[g];change C.aA (bw aq.len 5000) (C.a7 (aq.get k) _ _) _=_;rw[fD.mpr hz,c];change aq.k4 k _=_;rw[C.aP.tQ];show C.gP ..
def WN{call:d8}{a b:cw}(f:a [] call L= .ok (.ref r) L)(d:b [] call L= .ok (.int (.ofNat k)) L)(g:L.h.get r= .list l)(hz:l.length<5000)(c:k<l.length):C.k7 a b [] call L= .next ⟨L.h.st (.list (C.l8 (C.rz l k) (C.pG l (k+1)))) r,L.nx,L.fr,L.hf⟩:=by change(a [] call L).bind _=_;rw[f];change(b [] call L).bind _=_;rw[d];change C.e_ (L.h.get r) _ (C.cJ (L.h.get r) _ _)=_;rw[g];change C.aA (bw (C.cU l) 5000) (C.a7 (C.aA (bw k (C.cU l)) (U k) aa) _ _) _=_;rw[C.eA,fD.mpr hz,fD.mpr c];show C.gP ..
def SK{lf:List Int}{t body:cw}{call:d8}:C.kV lf t body call (f+1) it e L=C.n9 lf L.h it (.next L) λv it=>C.q5 e v L λv L=>(t [v] call L).seq λL=>(body [] call L).eM λL=>C.kV lf t body call f it (C.uO e) L:=rfl
def aaX(g:h.get r= .list l)(e:C.dj l k=U v):C.n9 lf h (.seq r k) fin item=item v (.seq r (k+1)):=by change C.cJ (h.get r) _ _=_;rw[g];change C.bs (C.dj l k) _ _=_;rw[e];rfl
def Ve{v:V}{K:V->bU->bl}:C.q5 (U k) v L K=C.dA (C.cU [.int (.ofNat k),v]) (L.alloc (.tup [.int (.ofNat k),v]) K):=rfl
def hR.at(e:ag.get x.2.1=h.get x.2.1):hR h x b->hR ag x b
 | .free f g c i d j=> .free f (e.trans g) c i d j
 | .busy a b ⟨f,g,c,i,d⟩ q=> .busy a b ⟨f,e.trans g,c,i,d⟩ q
def Vf(n:Nat)(p:H.get si= .inst c_ cK)(g1:cK.get 165=U (.ref d))(g2:cK.get 28=U (.ref r))(ac:H.get d= .dict aq)(ai:H.get r= .list (e3 lw))
 (aI:si<N)(Ed:d<N)(O:r<N)(ik:∀x∈lw,x.2.1<N/\∃b,hR H x b)(mu:∀x∈lw,aq.get x.1=U (.ref x.2.1))(hz:aq.len<5000)(Z:lw.length<5000):
 ∀(rest:List (Int×Nat×ar)) (k fl:Nat) (h:cS) (nx:Nat) (fr:aL),lw.drop k=rest->rest.length<fl->(∃x∈rest,hR H x ae)->(∀i,i<N->h.get i=H.get i)->N<=nx->fr.get 7=U (.ref si)->
  Y0 H N d r aq lw (C.kV lf qo (nB u) (C.run u.ao (n+1)) fl (.seq r k) (U k) ⟨h,nx,fr,hf⟩):=by
 intro ahq;cases ahq with
 |nil=>
  intro k w h nx fr J J ⟨x,en,_⟩ _ _ _;cases(w)with
  |zero=>show nomatch s
  |succ fl=>show nomatch en
 |cons x rest ih=>
  intro k w h nx fr e s T S aiX Ft;cases(w)with
  |zero=>show nomatch s
  |succ fl=>
   show x02 (A7 e) λE fv=>?_;have Q:=h1 E;obtain⟨K,b,B⟩:=ik x Q;have A:∀i,i<N->(h.st (.tup [.int (.ofNat k), .ref x.2.1]) nx).get i=H.get i:=λi o=>(C.T.bO _ _ (by lia)).trans (S i o)
   have vr:C.kV lf qo (nB u) (C.run u.ao (n+1)) (fl+1) (.seq r k) (U k) ⟨h,nx,fr,hf⟩=(nB u [] (C.run u.ao (n+1)) ⟨h.st (.tup [.int (.ofNat k), .ref x.2.1]) nx,nx+1,(fr.st 58 (.int (.ofNat k))).st 85 (.ref x.2.1),hf⟩).eM λL=>C.kV lf qo (nB u) (C.run u.ao (n+1)) fl (.seq r (k+1)) (U (k+1)) L:=by
    rw[SK,aaX ((S r O).trans ai) (v:= .ref x.2.1) (by rw[BX,E];rfl),Ve,Lq (n:=C.cU [V.int (.ofNat k),V.ref x.2.1]) (by rw[C.eA];show(by decide:2<5000)),C.gE]
    change C.R.seq (C.i0 ((h.st (.tup [.int (.ofNat k), .ref x.2.1]) nx).get nx) _ _) _=_;rw[C.T.cT];change C.R.seq (C.R.seq (C.St.f4 _ 58 (.int (.ofNat k)) .next) _) _=_
    rw[C.ho];change C.R.seq (C.R.seq (C.St.f4 _ 85 (.ref x.2.1) .next) _) _=_
    rw[C.ho];change C.R.eM _ (λL=>C.kV lf qo (nB u) (C.run u.ao (n+1)) fl (.seq r (k+1)) (C.du (da k) U) L)=_;rw[C.eX]
   rw[vr];have l:((fr.st 58 (.int (.ofNat k))).st 85 (.ref x.2.1)).get 85=U (.ref x.2.1):=by rw[C.aL.f0,if_pos rfl]
   have P:((fr.st 58 (.int (.ofNat k))).st 85 (.ref x.2.1)).get 58=U (.int (.ofNat k)):=by rw[C.aL.f0,if_neg (by x_go),C.aL.f0,if_pos rfl]
   have m:((fr.st 58 (.int (.ofNat k))).st 85 (.ref x.2.1)).get 7=U (.ref si):=by rw[C.aL.f0,if_neg (by x_go),C.aL.f0,if_neg (by x_go),Ft]
   generalize (fr.st 58 (.int (.ofNat k))).st 85 (.ref x.2.1)=fr' at l P m⊢;generalize h.st (.tup [.int (.ofNat k), .ref x.2.1]) nx=ag at A⊢;cases B.at (A _ K)with
   |busy a b ahr q=>
    have z:=Cu (L:=⟨ag,nx+1,fr',hf⟩) (u:=u) n l ahr;rw[q]at z;have:nB u [] (C.run u.ao (n+1)) ⟨ag,nx+1,fr',hf⟩= .next ⟨ag,nx+1,fr',hf⟩:=by change C.R.seq (C.R.bind (kn u [] (C.run u.ao (n+1)) ⟨ag,nx+1,fr',hf⟩) _) _=_;rw[z];rfl
    rw[this];show ih (k+1) fl ag (nx+1) fr' fv (sW s) ?_ A (by lia) m
    show x12 T λy D M=>a8 (bX.mp D) (λqk=>?_) λD=>?_
    .w_pre qk;cases(B)with
     |busy a b B q=>
      cases(M)with
      |free f g t c j I=>obtain⟨f2,gj,J,F,bD⟩:=B;cases g.symm.trans gj;cases c.symm.trans F;cases j.symm.trans bD;cases q
    .show⟨y,D,M⟩
   |free f g t c j I=>
    have z:=Cu (L:=⟨ag,nx+1,fr',hf⟩) (u:=u) n l ⟨f,g,t,c,j⟩;have X:si≠d:=λq=>by k_lt q;cases p.symm.trans ac
    have R:r≠d:=λq=>by k_lt q;cases ai.symm.trans ac
    have g6:k<(e3 lw).length:=by rw[dC];show(e8.mp E).1
    have gz:C.k7 (C.d4 (C.b9 7) 165) (C.d4 (C.b9 85) 46) [] (C.run u.ao (n+1)) ⟨ag,nx+1,fr',hf⟩= .next ⟨ag.st (.dict (aq.dG x.1)) d,nx+1,fr',hf⟩:=WM (L:=⟨ag,nx+1,fr',hf⟩) (m3 (L:=⟨ag,nx+1,fr',hf⟩) (j_ m) ((A _ aI).trans p) g1) (m3 (L:=⟨ag,nx+1,fr',hf⟩) (j_ l) g I) ((A _ Ed).trans ac) hz (mu x Q)
    have ei:C.k7 (C.d4 (C.b9 7) 28) (C.b9 58) [] (C.run u.ao (n+1)) ⟨ag.st (.dict (aq.dG x.1)) d,nx+1,fr',hf⟩= .next ⟨(ag.st (.dict (aq.dG x.1)) d).st (.list (C.l8 (C.rz (e3 lw) k) (C.pG (e3 lw) (k+1)))) r,nx+1,fr',hf⟩:=WN (L:=⟨ag.st (.dict (aq.dG x.1)) d,nx+1,fr',hf⟩) (m3 (L:=⟨ag.st (.dict (aq.dG x.1)) d,nx+1,fr',hf⟩) (j_ m) ((C.T.bO _ _ X).trans ((A _ aI).trans p)) g2) (j_ P) ((C.T.bO _ _ R).trans ((A _ O).trans ai)) (by rw[dC];show Z) g6
    show⟨k,x,(ag.st (.dict (aq.dG x.1)) d).st (.list (e3 (lw.eraseIdx k))) r,nx+1,fr',hf,E,B.at rfl|>λB=>?_,?_,C.T.cT ..,λi o W bN=>(C.T.bO _ _ bN).trans ((C.T.bO _ _ W).trans (A i o)),?_⟩
    .show .free f ((A _ K).symm.trans g) t c j I
    .rw[C.T.bO _ _ (cX R),C.T.cT]
    .change C.R.eM (C.R.seq (C.R.bind (kn u [] (C.run u.ao (n+1)) ⟨ag,nx+1,fr',hf⟩) _) _) _=_;rw[z];change C.R.eM (C.R.seq (C.R.seq (C.k7 (C.d4 (C.b9 7) 165) (C.d4 (C.b9 85) 46) [] (C.run u.ao (n+1)) ⟨ag,nx+1,fr',hf⟩) _) _) _=_;rw[gz];change C.R.eM (C.R.seq (C.R.seq (C.k7 (C.d4 (C.b9 7) 28) (C.b9 58) [] (C.run u.ao (n+1)) ⟨ag.st (.dict (aq.dG x.1)) d,nx+1,fr',hf⟩) _) _) _=_;rw[ei,Vd];rfl
inductive BY(L:bU)(d r:Nat)(aq:aP)(lw:List (Int×Nat×ar))(res:bl):Prop where
 |small (h:lw.length<16) (eq:res= .ok .none L)
 |del (k:Nat) (x:Int×Nat×ar) (aU:cS) (E3:Nat) (hf:Bool) (e:lw[k]? =U x) (b:hR L.h x ae) (aho:aU.get d= .dict (aq.dG x.1)) (sL:aU.get r= .list (e3 (lw.eraseIdx k)))
  (ahp:∀i,i<L.nx->i≠d->i≠r->aU.get i=L.h.get i) (eq:res= .ok .none ⟨aU,E3,L.fr,hf⟩)
abbrev OO(u:bf):cw:=C.ia u.ao (C.dq (.bi .len)) (C.f5 (C.d4 (C.b9 7) 28) C.eC)
abbrev vF(u:bf):cw:=C.ia u.ao (C.dq (.bi .enumerate)) (C.f5 (C.d4 (C.b9 7) 28) C.eC)
def WO(n:Nat)(c:L.h.get si= .inst c_ cK)(nD:cK.get 164=U (.int 16))(g1:cK.get 165=U (.ref d))(g2:cK.get 28=U (.ref r))(ai:L.h.get d= .dict aq)(g:L.h.get r= .list (e3 lw))
 (s:si<L.nx)(aI:d<L.nx)(m:r<L.nx)(M:∀x∈lw,x.2.1<L.nx/\∃b,hR L.h x b)(B:∀x∈lw,aq.get x.1=U (.ref x.2.1))(hz:aq.len<5000)(z:lw.length<=16)(l:lw.length=16->∃x∈lw,hR L.h x ae):
 BY L d r aq lw (jc u (C.run u.ao (n+1)) 92 [.ref si] .nil L):=by
 rw[C_ aew];haveI ak:C.d4 (C.b9 7) 28 [] (C.run u.ao (n+1)) ⟨L.h,L.nx,dR si,L.hf⟩= .ok (.ref r) ⟨L.h,L.nx,dR si,L.hf⟩:=m3 (i:=si) rfl c g2;haveI au:C.d4 (C.b9 7) 164 [] (C.run u.ao (n+1)) ⟨L.h,L.nx,dR si,L.hf⟩= .ok (.int 16) ⟨L.h,L.nx,dR si,L.hf⟩:=m3 (i:=si) rfl c nD;haveI p:C.rL u.ao.F L.h (.ref r)=U (.int (.ofNat (C.cU (e3 lw)))):=by change C.cJ (L.h.get r) _ _=_;rw[g];show C.eX (C.cU (e3 lw)) λn=>U (V.int (kT n))
 haveI A:OO u [] (C.run u.ao (n+1)) ⟨L.h,L.nx,dR si,L.hf⟩= .ok (.int (.ofNat (C.cU (e3 lw)))) ⟨L.h,L.nx,dR si,L.hf⟩:=by change C.R.ea (C.R.bind (C.d4 (C.b9 7) 28 [] (C.run u.ao (n+1)) ⟨L.h,L.nx,dR si,L.hf⟩) _) _=_;rw[ak];change C.a7 (C.rL u.ao.F L.h (.ref r)) _ _=_;rw[p];rfl
 haveI ac:=Ct (u:=u) (o:= .Lt) (t:=C.k_ (.ofNat (C.cU (e3 lw))) 16) A au rfl;rw[C.eA,dC]at ac;change BY L d r aq lw (C.R.gI L.fr (C.R.seq (C.R.bind (C.i2 u.ao .Lt (OO u) (C.d4 (C.b9 7) 164) [] (C.run u.ao (n+1)) ⟨L.h,L.nx,dR si,L.hf⟩) λv L=>C.dS v (C.jC C.us C.l1 [] (C.run u.ao (n+1)) L) (C.l1 [] (C.run u.ao (n+1)) L) (.stuck 86))
  λL=>C.R.seq (C.rP u.ao ae qo (vF u) (nB u) [] (C.run u.ao (n+1)) L) λL=>C.jC (C.yy (C.ia u.ao (C.dq (.cls 3)) (C.f5 (C.dq (.str 38)) C.eC))) C.l1 [] (C.run u.ao (n+1)) L))
 rw[ac];cases q:C.k_ (.ofNat lw.length) 16 with
 |true=>show .small (tn.mp (C.Ca q)) rfl
 |false=>
  haveI y:lw.length=16:=tf z (Au.mp (C.KL q));obtain⟨k,x,aU,j,fr',hf,e,b,E,D,I,K⟩:=Vf (u:=u) (lf:=u.ao.lf) (hf:=L.hf) n c g1 g2 ai g s aI m M B hz (by omega) lw 0 2000 ((L.h.st (.enum r) L.nx).st .nul L.nx) (L.nx+1) (dR si) rfl (by omega) (l y)
   (λi f=>(C.T.bO _ _ (ey f)).trans (C.T.bO _ _ (ey f))) (tv _) rfl
  show .del k x aU j hf e b E D I ?_;haveI w:vF u [] (C.run u.ao (n+1)) ⟨L.h,L.nx,dR si,L.hf⟩= .ok (.ref L.nx) ⟨L.h.st (.enum r) L.nx,L.nx+1,dR si,L.hf⟩:=by change C.R.ea (C.R.bind (C.d4 (C.b9 7) 28 [] (C.run u.ao (n+1)) ⟨L.h,L.nx,dR si,L.hf⟩) _) _=_;rw[ak];change C.cJ (L.h.get r) _ _=_;rw[g];show C.gE ⟨L.h,L.nx,dR si,L.hf⟩ (.enum r) .ok
  haveI it:C.rP u.ao ae qo (vF u) (nB u) [] (C.run u.ao (n+1)) ⟨L.h,L.nx,dR si,L.hf⟩= .ret .none ⟨aU,j,fr',hf⟩:=by rw[<-K];change(vF u [] (C.run u.ao (n+1)) ⟨L.h,L.nx,dR si,L.hf⟩).bind _=_;rw[w];change C.cJ ((L.h.st (.enum r) L.nx).get L.nx) _ _=_;rw[C.T.cT];show C.gP ..
  change C.R.gI L.fr (C.R.seq (C.rP u.ao ae qo (vF u) (nB u) [] (C.run u.ao (n+1)) ⟨L.h,L.nx,dR si,L.hf⟩) _)=_;rw[it];rfl
end
section
open Mine.C (X)
open Mine.Head
variable{c:aV}{Y bp:b1}{L bn:bU}{s a5:ax}{A B:b2}{n:Nat}
variable{si c_:Nat}{cK:aL}{d:Nat}{live:aP}{ch:Option Int}{lk:aP}{r lt:Nat}{ct pr pl:ar×ar}{am:List ce}{lv lw:List (Int×Nat×ar)}{f fl:Int->Option aj}{ws:Array aj}{wn:Nat}
def c9.no(h:hC k=af){f:aL}{l:List hF}(x:c9 u ah f l):f.get k=aa:=by
 cases x with
 |nil=>show rfl
 |cons d c g r i=>rw[C.aL.hn,C.tz λe=>nomatch(e▸h).symm.trans c.1];show i
def aaY:hC 171=af:=by k_go
def WP(aq:cY ah live lv):C.BB G.b0 h live=ae->∀x∈lv,∃(f:aL) (a b:Nat),h.get x.2.1= .inst 11 f/\f.get 49=U (.int a)/\f.get 161=U (.int b)/\a+b≠0:=by
 cases aq with
 |nil=>showλJ=>nofun
 | @cons n j q r l s t I=>
  have hz:af=ae->∀x∈(n,j,q.1)::l,∃(f:aL) (a b:Nat),h.get x.2.1= .inst 11 f/\f.get 49=U (.int a)/\f.get 161=U (.int b)/\a+b≠0:=nofun
  show C.kU (P:=(·=ae->∀x∈(n,j,q.1)::l,∃(f:aL) (a b:Nat),h.get x.2.1= .inst 11 f/\f.get 49=U (.int a)/\f.get 161=U (.int b)/\a+b≠0)) (λc f E=>C.l3 (P:=(·=ae->_)) (λg=>?_) λJ=>hz) hz;obtain rfl:=C.bS g;change C.bs (f.get 49) _ _=ae->_;cases o:f.get 49 with
  |none=>show hz
  |some V=>
   change C.bs (f.get 161) _ _=ae->_;cases i:f.get 161 with
   |none=>show hz
   |some v=>
    show C.CQ (P:=(·=ae->∀x∈(n,j,q.1)::l,∃(f:aL) (a b:Nat),h.get x.2.1= .inst 11 f/\f.get 49=U (.int a)/\f.get 161=U (.int b)/\a+b≠0)) (λa p=>C.CQ (P:=(·=ae->_)) (λb dU=>C.l3 (P:=(·=ae->_)) (λJ=>hz) λk m=>?_) hz) hz;subst p dU;intro x d;show a8 (bX.mp d) (λO=>?_) λd=>?_
    .k_lt O;show⟨f,a,b,E,o,i,C.j7 k⟩
    .show I m x d
def Rel.aex(R:Rel u c Y L s)(e:∀i,aU.get i=L.h.get i):Rel u c Y ⟨aU,L.nx,L.fr,L.hf⟩ s:=R.gen (aE:=Y) (ag:=s.heap) (tk:=s.toks) (λJ J J J e=>e) R.here (λJ h=>(R.i5 h).1) R.len R.low (λi p q=>e i▸R.objs i p q) (λi h=>(e i).trans (R.out i h)) (R.bc.at (λJ J J=>n7) (λJ J J J J e=>e) ⟨e 0,e 1⟩ R.bc.here R.bc.codes)
def Km(g:L.h.get si= .inst c_ cK)(i:L.h.get d= .c3 live aa ch lk r lt)(ad:br Y.ah d ct)(H:Hid u Y.ah Y.own s.heap d ct live aa ch lk r lt pr pl am lv f fl ws wn)(R:2<=r)(c:∀x∈lv,∃k f,L.h.get x.2.1= .inst k f):
 ∃lw,eg u Y L s si c_ cK d live ch lk r lt ct pr pl am lv lw f fl ws wn:=by
 haveI p:=H.perm;rw[wV]at p;haveI e:am.map (λq:ce=>eU q.b)=(ie (cG am L.nx)).map λx=> .ref x.2.2:=by
  rw[iT]
  conv=>lhs;rw[<-lS am L.nx,iT]
  rfl
 rw[e,<-hD]at p;show x12 (WI p rfl) λlw cC E=>⟨lw,g,i,ad,H,R,cC,E,c⟩
def eg.len(T:eg u Y L s si c_ cK d live ch lk r lt ct pr pl am lv lw f fl ws wn):lw.length=am.length+lv.length:=by haveI:=T.cC.length_eq;haveI e:=congrArg AI (lS am L.nx);rw[fW,dC]at this;rw[dC]at e;lia
def eg.aB(T:eg u Y L s si c_ cK d live ch lk r lt ct pr pl am lv lw f fl ws wn):((ie (cG am L.nx)++lv).map (·.1)).Nodup:=by haveI:=T.H.num;rw[hD,Lo];rw[<-lS am L.nx,iT]at this;show this
def aaZ(c:q∈cG am L.nx):Buf (gH L si c_ cK d live r am lw) q.2 0 0:=⟨_,mE c,rfl,rfl,rfl⟩
def Kn{P:bl->Prop}{r:bl}(h:∀m,n=m+1->P r)(hz:∀w,P (.stuck w)):P (C.uQ (C.run u.ao n) L r):=by
 cases n with
 |zero=>show hz _
 |succ m=>show h m rfl
def MN(h:C.aA (pq 2 r) (aK r fT) af=ae):2<=r/\r=fT:=by show x02 (cM h) λc d=>⟨Cs c,C.bS d⟩
def WQ(t:rn u n (C.run u.ao n) 101){ws:List aj}(R:Rel u c Y L s)(ac:Act c A sc (n+1))(D:gT A B)(l:bI (az u Y.ah) as ws):
 ai u c B (ci u c) Y (bv (.ref (eE 101)) ws) s (C.bQ as λp=>C.uQ (C.run u.ao n) L (C.KG G.b0 p L (jc u (C.run u.ao n) 101 as .nil L))):=by
 have pl:=t c Y L s A B sc as ws R ac D l;show .bQ λp aI=>Kn (P:=ai u c B (ci u c) Y _ s) (λm aq=>?_) λJ=> .stuck;show n6 (P:=ai u c B (ci u c) Y _ s) (λsi c_ cK Z y=> .bs (λJ=>pl) λv kB=> .bE (λd N=> .eW (λlive cL ch lk r lt E=> .ht λfT dU=> .a7 λmo M=> .b6 (λm0 X=> .bs (λbN=>?_) λJ J=> .stuck) .stuck) pl) pl) pl;cases live with
 |cons _ _ _=>show .stuck
 |nil=>
  show .bV λg=>x02 (MN g) λV o=>?_;k_lt o;subst bN X N Z aI aq;show x11 (R.cQ (i:=d) (by rw[E];nofun)) λct ad=>?_
  obtain⟨pr,agk,am,lv,ahs,fl,aht,wn,H⟩:=R.at ad E;have agl:=H.dV;cases agl;show x11 (Km y E ad H V nofun) λlw T=>?_
  have two:=R.two;have bD:=R.u7 T;have z:=t _ _ _ s A B sc [.ref si] ws bD (ac.eu R) D (l.bR λJ J=>az.bR (eS _ _));have O:si∈dX si ([]:List (Int×Nat×ar)):=cF ..;have K:=T.len;have:=H.cnt.1;have F:∀x∈lw,∃q∈cG am L.nx,x=(q.1.n,q.2,q.1.b):=λx j=>by have:=T.cC.mem_iff.mp j;rw[nO]at this;show x12 (dy.mp this) λq f e=>⟨q,f,e.symm⟩
  rw[Vc (L:=⟨gH L si c_ cK d .nil r am lw,L.nx+2*am.length,L.fr,L.hf⟩) m (si:=si) ((T.uH R O).trans y) M dU (T.gr R) (λx j=>by show x12 (F x j) λq f o=>?_;k_lt o;show aaZ f) (by simp only[GP]at this K;omega)]at z
  showλhZ=>a0 (z λJ=>nofun) (λw an aD=>aD.casesOn λbp S dY=>?_) λJ J x=>x.elim
  have out:∀{i},i<L.nx+2*am.length->((gH L si c_ cK d .nil r am lw).st (.list []) (L.nx+2*am.length)).get i=(gH L si c_ cK d .nil r am lw).get i:=λh=>C.T.bO _ _ (ey h);have:=T.ji R;have:=T.oW R;show x12 (R.Lp T (P2:=cG am L.nx) (miss':=aa) rfl S.R rfl S.le (Gn _) ((out (by omega)).trans (T.kz R)) ((out (by omega)).trans (T.gr R)) (λi k=>(out (by have:=T.nA R k;omega)).trans (T.uH R k))
   (λq f=>(out (by have:=lV f;omega)).trans (mE f)) ((T.r4 R).bR S.le) (GZ _) T.cC (.inl rfl)) λc6 W Q=>?_
  have I:=Q.aex (aU:=L.h) λi=>by
   by_cases q:i=d
   .w_pre q;rw[C.T.cT];show E
   .show(C.T.bO _ _ q).symm
  show⟨c6,⟨W,I⟩,dY⟩
def Y1{a b:Nat}(h:a+b≠0):C.aA (C.cH a 0) (C.gb (C.cH b 0)) .aM=V.aM:=by
 cases q:C.cH a 0 with
 |false=>rfl
 |true=>
  haveI:=C.gQ q;rw[C.o_ (a:=(b:Int)) (by lia)]
  rfl
def hR.no(a:hR h x ae)(b:hR h x af):False:=by
 cases(a)with
 |free f g m i c k=>
  cases(b)with
  |busy a b B e=>obtain⟨l,ai,J,d,j⟩:=B;cases g.symm.trans ai;cases i.symm.trans d;cases c.symm.trans j;cases e
inductive Y2(L:bU)(d r:Nat)(live:aP)(am:List ce)(lv:List (Int×Nat×ar))(ah:dr)(ls:List Nat)(t aU:cS):Prop where
 |mk (P2:List (ce×Nat)) (L2:aP) (E4 E5:List (Int×Nat×ar)) (sub:P2.Sublist (cG am L.nx)) (kz:aU.get d= .dict L2) (gr:aU.get r= .list (e3 E5)) (gl:∀i∈ls,aU.get i=t.get i) (mE:∀q∈P2,aU.get q.2=t.get q.2)
  (Pl:cY ah L2 E4) (pm:E4.Perm (ie P2++lv)) (cC:E5.Perm (ie P2++lv)) (hz:P2.length+lv.length<=15)
def Bt{P:List (ce×Nat)}:(ie P++lv).length=P.length+lv.length:=by rw[fW,dC]
def WR(T:eg u Y L s si c_ cK d live ch lk r lt ct pr pl am lv lw f fl ws wn)(R:Rel u c Y L s)(n:∀x∈lv,hR (gH L si c_ cK d live r am lw) x af){nx:Nat}(ai:L.nx+2*am.length<=nx){res:bl}
 (X:BY ⟨gH L si c_ cK d live r am lw,nx,L.fr,L.hf⟩ d r (oF (cG am L.nx) live) lw res):
 ∃bn,res= .ok .none bn/\bn.fr=L.fr/\Y2 L d r live am lv (Y.ah++i7 am) (dX si lv) (gH L si c_ cK d live r am lw) bn.h:=by
 haveI D:=T.ji R;haveI ac:=T.oW R;haveI ei:=T.ei R;cases X with
 |small h E=>show⟨_,E,rfl,cG am L.nx,_,_,lw,Gn _,T.kz R,T.gr R,λJ J=>rfl,λJ J=>rfl,T.r4 R,GZ _,T.cC,?_⟩;haveI:=T.cC.length_eq;rw[Bt]at this;lia
 |del k x aU I hf e b v w A E=>
  haveI m:=T.cC.mem_iff.mp (h1 e);show x11 (e8.mp e) λl z=>?_;haveI cg:=HW l;rw[z]at cg;haveI aB:=T.aB;haveI j:((ie (cG am L.nx)++lv).filter λy=>y.1!=x.1)=ie ((cG am L.nx).filter λq=>q.1.n !=x.1)++lv:=by
   rw[QB,List.filter_map];show congrArg (ie ((cG am L.nx).filter λq=>q.1.n !=x.1)++·) (s6.mpr λy B=>bne_iff_ne.mpr λq=>?_);show a8 (mI.mp m) (λm=>?_) λm=>?_
   .rw[hD]at aB;show(qJ.mp aB).2.2 x.1 (hc m) y.1 (hc B) q.symm
   .show b.no (n x m)
  haveI ct:=Jb aB m;rw[j]at ct;haveI bz:=(cg.trans (T.cC.trans ct.symm)).cons_inv;haveI out:∀i,i<nx->i≠d->i≠r->aU.get i=(gH L si c_ cK d live r am lw).get i:=A;show⟨_,E,rfl,(cG am L.nx).filter λq=>q.1.n !=x.1,_,_,lw.eraseIdx k,Qr,v,w,λi g=>out i ?_ (λq=>T.dG (q▸g)) (λq=>T.oV R (q▸g)),λq o=>?_,(T.r4 R).del x.1,by rw[j],bz,?_⟩
  .haveI:=T.nA R g;lia
  .haveI:=lV (wC.mp o).1;show out _ (by lia) (by lia) (by lia)
  .haveI p:=bz.length_eq;rw[Bt]at p;haveI t:=cg.length_eq;rw[o3]at t;show p▸zM (c7 (hi (t.trans T.len)) T.H.cnt.1)
def WS{am:List ce}{n:Nat}(h:am≠ []):∃x,(x,n)∈cG am n:=by
 cases am with
 |nil=>show absurd rfl h
 |cons x r=>show⟨x,cF ..⟩
def Y3(I:rn u n (C.run u.ao n) 92){as:List a3}{ws:List aj}(R:Rel u c Y L s)(ac:Act c A sc (n+1))(O:gT A B)(y:bI (az u Y.ah) as ws):
 ai u c B (ci u c) Y (bv (.ref (eE 92)) ws) s (C.bQ as λz=>C.uQ (C.run u.ao n) L (C.LP G.b0 z L (jc u (C.run u.ao n) 92 as .nil L))):=by
 have pl:=I c Y L s A B sc as ws R ac O y;show .bQ λz W=>Kn (P:=ai u c B (ci u c) Y _ s) (λm ahu=>?_) λJ=> .stuck;show n6 (P:=ai u c B (ci u c) Y _ s) (λsi c_ cK fu aI=> .bs (λJ=>pl) λv kB=> .bE (λd nH=> .eW (λlive cL ch lk r lt E=> .ht λfT dU=> .a7 λmo e=> .eh (λm0 ahv=> .bs (λahw=> .a7 λai_ Q=> .bV λg1=> .bV λg2=> .bV λg3=>?_) λJ J=> .stuck) .stuck) pl) pl) pl;show x02 (MN g2) λbD o=>?_;k_lt o;obtain rfl:=C.bS g1;show x02 (cM (show C.aA (bw live.len 16) (C.BB G.b0 L.h live) af=ae from g3)) λlz qs=>?_;subst ahw ahv nH fu W ahu Q;show x11 (R.cQ (i:=d) (by rw[E];nofun)) λct ad=>?_
 obtain⟨pr,agk,am,lv,ahs,fl,aht,wn,H⟩:=R.at ad E;have D:=WP H.dV qs;show x11 (Km aI E ad H bD λx g=>by obtain⟨f,a,b,h,J⟩:=D x g;show⟨_,_,h⟩) λlw T=>?_
 have ahx:=R.u7 T;have K:=I _ _ _ s A B sc [.ref si] ws ahx (ac.eu R) O (y.bR λJ J=>az.bR (eS _ _));have t:si∈dX si lv:=cF ..;have ahy:=T.len;have cN:=H.cnt.1;have V:=T.ji R;have F:=T.oW R;have sn:=T.nA R t;have p:∀x∈lv,hR (gH L si c_ cK d live r am lw) x af:=λx g=>by show x34 (D x g) λf a b h lC iL lE=>?_;have ahz:x.2.1∈dX si lv:=cA _ (hc g);show x12 (H.dV.cQ g) λq j J=>?_;obtain⟨es,k,v3,ne,J,J,Fv⟩:=R.at j h;show .busy a b ⟨f,(T.uH R ahz).trans h,Fv.no aaY,lC,iL⟩ (Y1 lE)
 have aiY:=H.dV.len;have X:=(T.r4 R).len;rw[Bt]at X;have aq:=congrArg AI (lS am L.nx);rw[dC]at aq;have M:∀q∈cG am L.nx,hR (gH L si c_ cK d live r am lw) (q.1.n,q.2,q.1.b) ae:=λq j=> .free _ (mE j) rfl rfl rfl rfl;obtain⟨bn,eq,agm,P2,L2,E4,E5,sub,kz,gr,gl,agn,Pl,pm,cC,hz⟩:=WR T R p (jY _) (WO (u:=u) (L:=⟨gH L si c_ cK d live r am lw,L.nx+2*am.length,L.fr,L.hf⟩) m (si:=si) ((T.uH R t).trans aI) e kB dU (T.kz R) (T.gr R) (e2 sn (gB ..)) (e2 V (gB ..)) (e2 F (gB ..))
  (λx g=>by
   show a8 (mI.mp (T.cC.mem_iff.mp g)) (λg=>?_) λg=>?_
   .show x12 (dy.mp g) λq j o=>?_;k_lt o;have:=lV j;show⟨by change q.2<_+_;lia,ae,M q j⟩
   .show⟨e2 (T.nA R (cA _ (hc g))) (gB ..),af,p x g⟩)
  (λx g=>(T.r4 R).mem T.aB (T.cC.mem_iff.mp g)) (by lia) (by lia) (λN=>by have:=C.df lz;show x11 (WS (n:=L.nx) λe=>absurd N (by rw[ahy,e];simp only[GP];lia)) λx j=>⟨_,T.cC.mem_iff.mpr (sY _ (hc j)),M _ j⟩))
 rw[eq]at K;showλhZ=>a0 (K λJ=>nofun) (λw an aD=>aD.casesOn λbp S dY=>?_) λJ J x=>x.elim
 show x12 (R.Lp T (P2:=P2) (miss':=U 0) rfl S.R agm S.le sub kz gr (λi l=>(gl i l).trans (T.uH R l)) (λq j=>(agn q j).trans (mE (sub.subset j))) (Pl.bR S.le) pm cC (.inr ⟨rfl,hz⟩)) λc6 Z bN=>?_;rw[C.gP];show⟨c6,⟨Z,bN⟩,dY⟩
end
section
open Mine.C (X)
open Mine.Head
def WT:(eT 146).all (λk=>C.aA (aK (d9 k).con.ctorIdx 5) (aK k 101) (C.aA (aK (d9 k).con.ctorIdx 6) (aK k 92) ae))=ae:=by k_go
def aa0(n:Nat):MJ u n (C.run u.ao n):=λk g6 zE c Y L s A B sc as ws R ac ik d7=>by
 have pl:=zE c Y L s A B sc as ws R ac ik d7;have z:=eL WT (nP.mpr g6);change ai u c B (ci u c) Y _ s (C.CI G.b0 (C.run u.ao n) as L (jc u (C.run u.ao n) k as .nil) (d9 k).con);revert z;cases(d9 k).con with
 |no=>showλJ=>pl
 |init=>
  intro J
  match as with
  | []=>show .stuck
  |self::_=>show pl.D2 λv pS ya jE u8=>YR u8
 |get=>showλJ=>aaR zE R ac ik d7
 |release=>showλJ=> .cn λself b J=>n6 (P:=ai u c B (ci u c) Y _ s) (λJ J f J J=> .a7 λm J=>pl.D2 λv pS ya jE u8=>Iv u8) .stuck
 |LI=>showλJ=> .cn λself m J=>pl.D2 λv pS ya jE u8=>Iv u8
 |count=>intro z;obtain rfl:k=101:=C.bS z;show WQ zE R ac ik d7
 |room=>intro z;obtain rfl:k=92:=C.bS z;show Y3 zE R ac ik d7
end
section
open PySem.SeqAt
open Mine.C (X dv)
def fy(r:bl)(s:bU):Prop:=(∃k,r= .stuck k)\/∃v,r= .ok v s
def fy.st:fy (.stuck k) s:= .inl ⟨k,rfl⟩
def fy.ok:fy (.ok v s) s:= .inr ⟨v,rfl⟩
def fy.bind(h:fy r s)(c:∀v,fy (k v s) s):fy (r.bind k) s:=by
 show a8 h (λd=>?_) λO=>?_
 .show x11 d λj o=>?_;k_lt o;show .st
 .show x11 O λv o=>?_;k_lt o;show c v
def fy.c1:fy (C.c1 o w s) s:=by cases o<;>first |show .st |show .ok
section
variable{ao:C.eB}
def aa1:fy (C.yv n [] call s) s:=ro (P:=(fy · s)) (λi J=>C.Bb (P:=(fy · s)) (λv J=> .c1) .st) .st
def aa2(h:fy (d [] call s) s):fy (C.d4 d n [] call s) s:=h.bind λv=>C.e9 (P:=(fy · s)) (λi J=>C.kU (P:=(fy · s)) (λJ f J=>rG (P:=(fy · s)) (λJ J=> .ok) .st) .st) .st
def aa3(h:fy (a [] call s) s)(ag:fy (b [] call s) s):fy (C.i2 ao o a b [] call s) s:=h.bind λv=>ag.bind λw=>rG (P:=(fy · s)) (λJ J=> .ok) .st
def OP(ao:C.eB)(call:d8)(x:X):Prop:=rA x=ae->∀s,fy (C.c8 ao x [] call s) s
def lZ{p:Prop}(h:af=ae):p:=GB h
def ac2(x:X):OP ao call x:=X.rec (motive:=λx=>OP ao call x) (λJ J J=> .ok) (λn J s=>fy.c1) (λn J s=>aa1 (call:=call) (n:=n) (s:=s)) (λJ J J J=> .ok) (λJ J h=>aM h) (λJ J J J J h=>aM h) (λJ J J J J h=>aM h) (λJ J h=>aM h) (λJ J h=>aM h) (λJ J J J J J h=>aM h) (λJ J h=>aM h) (λJ J h=>aM h) lZ (λJ J J J J J J h=>aM h) (λJ J J J J J J J J h=>aM h) (λJ J J J J J h=>aM h) (λJ J J h k q s=>aa3 (h (cM q).1 s) (k (cM q).2 s)) (λJ J J J J J J J h=>aM h) (λJ J J J h=>aM h) (λJ J J J J J h=>aM h) (λJ J h q s=>aa2 (h q s)) (λJ J J J h=>aM h) (λJ J J J J J h=>aM h) lZ (λJ J J h=>aM h) lZ lZ (λJ J J J h=>aM h) (λJ h=>aM h) (λJ h=>aM h) (λJ J J h=>aM h) (λJ J J J h=>aM h) (λJ J J J J J h=>aM h) (λJ J J h=>aM h) lZ (λJ J J J h=>aM h) lZ (λJ J J J h=>aM h) (λJ J h=>aM h) (λJ J J J h=>aM h) (λJ J J J J J h=>aM h) (λJ J J J h=>aM h) (λJ J J J J J h=>aM h) (λJ J J J h=>aM h) (λJ J J J J J J h=>aM h) (λJ J h=>aM h) lZ lZ (λJ J h=>aM h) (λJ J J J h=>aM h) lZ (λJ J J J J J h=>aM h) (λJ J J J h=>aM h) lZ x
def mh(fc:cw)(call:d8)(L:bU)(n:Nat)(v:V):Bool:=C.dS (match fc [] call ⟨L.h,L.nx,L.fr.st n v,L.hf⟩with | .ok c _=>c |_=> .none) ae af af
def aa4(j:∀s,fy (fc [] call s) s):∀{l:List V} {K:List V->bl},cW (C.kY fc call L n l K)->
 C.kY fc call L n l K=K (l.filter (mh fc call L n))/\∀v∈l,fc [] call ⟨L.h,L.nx,L.fr.st n v,L.hf⟩= .ok (C.gb (mh fc call L n v)) ⟨L.h,L.nx,L.fr.st n v,L.hf⟩:=by
 intro x;cases x with
 |nil=>intro K J;show⟨rfl,nofun⟩
 |cons v l i=>
  intro K d;haveI E:C.kY fc call L n (v::l) K=(fc [] call ⟨L.h,L.nx,L.fr.st n v,L.hf⟩).bind λc J=>C.dS c (C.kY fc call L n l λm=>K (v::m)) (C.kY fc call L n l K) (.stuck 46):=by change(L.f4 n v λs=>(fc [] call s).bind λc J=>C.dS c (C.kY fc call L n l λm=>K (v::m)) (C.kY fc call L n l K) (.stuck 46))=_;rw[C.ho]
  rw[E]at d⊢;haveI ep:mh fc call L n v=C.dS (match fc [] call ⟨L.h,L.nx,L.fr.st n v,L.hf⟩with | .ok c _=>c |_=> .none) ae af af:=rfl
  show a8 (j ⟨L.h,L.nx,L.fr.st n v,L.hf⟩) (λo=>?_) λO=>?_
  .show x11 o λk e=>?_;rw[e]at d;show absurd rfl (d k)
  .show x11 O λc e=>?_;rw[e]at d ep⊢;cases c with
   |tt=>
    haveI ep:mh fc call L n v=ae:=ep;show x02 (i (K:=λm=>K (v::m)) d) λf g=>⟨f.trans (by rw[mG,if_pos ep]),λw hw=>?_⟩
    show a8 (bX.mp hw) (λo=>?_) λhw=>?_
    .w_pre o;rw[ep,e];rfl
    .show g w hw
   |aM=>
    haveI ep:mh fc call L n v=af:=ep;show x02 (i (K:=K) d) λf g=>⟨f.trans (by rw[mG,if_neg (by rw[ep];show jl)]),λw hw=>?_⟩
    show a8 (bX.mp hw) (λo=>?_) λhw=>?_
    .w_pre o;rw[ep,e];rfl
    .show g w hw
   |_=>show absurd rfl (d 46)
def ac3(n:Nat)(v w:V):∀f:aL,(f.st n v).st n w=f.st n w:=by
 intro X;cases X with
 |nil=>rw[show aL.nil.st n v= .cons n v .nil from rfl,C.aL.pj,C.n1];rfl
 |cons k x r i=>
  rw[C.aL.pj,C.aL.pj];cases q:aK k n with
  |true=>change(aL.cons k v r).st n w=_;rw[C.aL.pj,q];rfl
  |false=>change(aL.cons k x (r.st n v)).st n w=_;rw[C.aL.pj,q,i];rfl
def Y4:∀(aq A:List V) (fl:Nat) (fr:aL),(∀v∈aq,fc [] call ⟨L.h,L.nx,L.fr.st n v,L.hf⟩= .ok (C.gb (mh fc call L n v)) ⟨L.h,L.nx,L.fr.st n v,L.hf⟩)->(∀v,fr.st n v=L.fr.st n v)->aq.length<fl->
 ∃fr',C.gp lf (C.c5 n) fc (C.b9 n) call fl (.st aq) A ⟨L.h,L.nx,fr,L.hf⟩= .args (A.reverse++aq.filter (mh fc call L n)) ⟨L.h,L.nx,fr',L.hf⟩:=by
 intro x;cases x with
 |nil=>
  intro A y fr J J J;cases(y)with
  |zero=>show nomatch hz
  |succ fl=>show⟨fr,by change C.R.args (C.uK A []) _=_;rw[C.xu];rfl⟩
 |cons v aq i=>
  intro A y fr d hf hz;cases(y)with
  |zero=>show nomatch hz
  |succ fl=>
   haveI E:C.gp lf (C.c5 n) fc (C.b9 n) call (fl+1) (.st (v::aq)) A ⟨L.h,L.nx,fr,L.hf⟩=(fc [] call ⟨L.h,L.nx,L.fr.st n v,L.hf⟩).bind λc s=>C.dS c ((C.b9 n [] call s).bind λw s=>C.gp lf (C.c5 n) fc (C.b9 n) call fl (.st aq) (w::A) s)
    (C.gp lf (C.c5 n) fc (C.b9 n) call fl (.st aq) A s) (.stuck 45):=by
    change(C.St.f4 ⟨L.h,L.nx,fr,L.hf⟩ n v .next).seq _=_
    rw[C.ho,<-hf v];rfl
   haveI f:∀w,(L.fr.st n v).st n w=L.fr.st n w:=λw=>ac3 n v w _;rw[E,d v (cF ..)];cases q:mh fc call L n v with
   |true=>
    show x11 (i (v::A) fl (L.fr.st n v) (λw hw=>d w (cA _ hw)) f (sW hz)) λfr' i=>⟨fr',?_⟩;change(C.b9 n [] call ⟨L.h,L.nx,L.fr.st n v,L.hf⟩).bind _=_;rw[j_ (v:=v) (by rw[C.aL.f0,if_pos rfl])]
    show i.trans ?_;rw[mG,if_pos q,s_,jR];rfl
   |false=>show x11 (i A fl (L.fr.st n v) (λw hw=>d w (cA _ hw)) f (sW hz)) λfr' i=>⟨fr',i.trans ?_⟩;rw[mG,if_neg (by rw[q];show jl)]
end
section
variable{c:aV}{Y aE:b1}{s:ax}{A:b2}{E:aj->ax->Prop}{sc bB:bW}{n:Nat}
def Rel.drawn(R:Rel u c Y L s)(d:Drawn):Rel u c Y L {s with drawn:=d}:=⟨R.st,R.hf,R.base,R.frozen,R.frames,R.kept,R.len,R.low,R.objs,R.out,R.here,R.ix,R.h7,R.iy,R.gens,R.os,R.bc⟩
def Vg{ks:List Int}:∀{ws:List aj},(∀x∈ws,∃k tk,x= .int k tk/\k∈ks)->∃aq:List V,bI (az u ah) aq ws/\(∀v∈aq,v∈ks.map V.int)/\aq.length=ws.length:=by
 intro X;cases X with
 |nil=>intro J;show⟨[], .nil,nofun,rfl⟩
 |cons x ws i=>
  intro h;show x22 (h x (cF ..)) λk tk o d=>?_;w_pre o;show x13 (i λy f=>h y (cA _ f)) λaq A m z=>⟨.int k::aq, .cons ⟨tk,rfl⟩ A,λv c=>?_,congrArg da z⟩;show a8 (bX.mp c) (λO=>?_) λc=>?_
  .k_lt O;show hc d
  .show m v c
inductive WU(u:bf)(c:aV)(Y:b1)(L:bU)(i:Nat)(l:List V)(it:ar)(an:ax):Prop where
 |mk (I:fV) (aq:List V) (X:di u c I) (O:fg u Y.ah it I (.st aq) aa) (R:Rel u (c.add I) ⟨Y.ah,h8 Y.own i⟩ ⟨L.h.st .nul i,L.nx,L.fr,L.hf⟩ an) (m:∀v∈aq,v∈l) (z:aq.length<=l.length) (o:l.length=1->aq≠ [])
def Vh(R:Rel u c Y L s){p:ar×ar}{l:List V}(H:br Y.ah i p)(q:L.h.get i= .set l)(K:l.length<900)(h:∀it an,WU u c Y L i l it an->Q (.ref it) an):aQ u.M A (kZ (.ref p.1)) Q E s:=by
 obtain⟨es,ep,t,ks,a,f,ld,rfl,z,m⟩:=R.at H q;rw[dC]at K;show VS a.g ⟨f,ld⟩ (by lia) λit ag d ⟨T,oT,bk,ws,cp,I,k,w,j,r,⟨P,F,O⟩⟩=>h it _ ?_
 show x13 (Vg (u:=u) (ah:=Y.ah) (ks:=ks) (ws:=ws) λx W=>by obtain⟨e,D,rfl⟩:=F x W;show m e D) λaq S N B=>?_
 have y:p.1≠it:=λe=>nomatch a.g.symm.trans ((congrArg s.heap.get? e).trans w);have fr:=R.fresh w;have X:=((R.drop (R.low _ _ a.w).2 (by rw[q];nofun)).all (tk:=s.toks) k).drawn d
 have ac:c.z.Z p.1=aa:=by
  cases aI:c.z.Z p.1 with
  |none=>rfl
  |some o=>show nomatch a.w.symm.trans (R.frozen _ o aI).2
 have g:Y.own p.1=U i/\p.1≠c.env.locals/\u.H.get? p.1=aa:=⟨a.w,R.loc a.w,l4 R a.w⟩;have eF:T≠it/\(T=p.1->oT=eN es ep t)/\h8 Y.own i T=aa/\T≠c.env.locals/\u.H.get? T=aa/\c.z.Z T=aa/\qh oT:=by
  rcases j with⟨rfl,rfl⟩ | ⟨j,M,a2,rfl⟩
  .show⟨y,λJ=>rfl,qS a.w,g.2.1,g.2.2,ac,λJ J h=>nomatch h⟩
  .have n:=R.fresh j;show⟨M,(λe=>nomatch a.g.symm.trans ((congrArg s.heap.get? e.symm).trans j)),AK n.1,eb.ne n.2.1,n.2.2,eb.z n.2.1,λJ J h=>nomatch h⟩
 show⟨lc it _ p.1 (eN es ep t) T oT,aq,⟨xR ⟨eb.z fr.2.1,fr.2.2,g4 rfl⟩ ⟨ac,g.2.2,λJ J h=>nomatch h⟩ ⟨eF.2.2.2.2.2.1,eF.2.2.2.2.1,eF.2.2.2.2.2.2⟩⟩,⟨p.1,es,ep,t,T,oT,0,bk,ws,rfl,y,eF.1,eF.2.1,⟨f,ld⟩,r,S⟩,X.uf (xR ⟨cp,AK fr.1,eb.ne fr.2.1,fr.2.2,g4 rfl⟩ ⟨k _ _ a.g,qS a.w,g.2.1,g.2.2,λJ J h=>nomatch h⟩ ⟨I,eF.2.2.1,eF.2.2.2.1,eF.2.2.2.2.1,eF.2.2.2.2.2.2⟩),N,?_,λv ai=>?_⟩
 .rw[dC,B,<-z];show P
 .rw[dC,<-z]at v;show O v (qF.mp (B▸congrArg AI ai))
inductive ry(fc:cw)(call:d8)(L:bU)(m:Nat)(bk:List Nat)(x:X)(v:V)(r:bl):Prop where
 |mk (i:Nat) (l:List V) (cs:aL) (e:v= .ref i) (q:L.h.get i= .set l) (Pm:rA x=ae) (z:l.length<900) (sl:C.iW L.fr bk=U cs)
  (sL:r=C.kY fc call ⟨L.h.st .nul i,L.nx,cs,L.hf⟩ m l λf=>C.aA (bw (C.cU l) 2) (C.St.fZ ⟨L.h.st .nul i,L.nx,L.fr,L.hf⟩ f) (C.St.alloc ⟨L.h.st .nul i,L.nx,L.fr,L.hf⟩ (.l0 (C.cU l)) .ok))
def Y5:cW (C.bE v (λi=>C.yl (L.h.get i) (λl=>C.bV (C.aA (rA x) (bw (C.cU l) 900) af) 88 (C.a7 (C.iW L.fr bk) 88 λcs=>L.put i .nul λs=>C.kY fc call (s.eK cs) m l λf=>C.aA (bw (C.cU l) 2) (s.fZ f) (s.alloc (.l0 (C.cU l)) .ok))) (.stuck 88)) (.stuck 88))->
 ry fc call L m bk x v (C.bE v (λi=>C.yl (L.h.get i) (λl=>C.bV (C.aA (rA x) (bw (C.cU l) 900) af) 88 (C.a7 (C.iW L.fr bk) 88 λcs=>L.put i .nul λs=>C.kY fc call (s.eK cs) m l λf=>C.aA (bw (C.cU l) 2) (s.fZ f) (s.alloc (.l0 (C.cU l)) .ok))) (.stuck 88)) (.stuck 88)):=by
 haveI st:∀k,cW (.stuck k)->ry fc call L m bk x v (.stuck k):=λk h=>absurd rfl (h k);show C.e9 (P:=λr=>cW r->ry fc call L m bk x v r) (λi e=>C.Xn (P:=λr=>cW r->ry fc call L m bk x v r) (λl q=>l6 (P:=λr=>cW r->ry fc call L m bk x v r) (λg=>rG (P:=λr=>cW r->ry fc call L m bk x v r) (λcs c J=>?_) (st _)) (st _)) (st _)) (st _);show x02 (cM g) λg1 g2=>⟨i,l,cs,e,q,g1,by rw[<-C.eA];show C.df g2,c,C.gP ..⟩
def ac4{l aq:List V}(g:∀v∈aq,v∈l)(f:aq.length<=l.length)(lo:l.length=1->aq≠ [])(h:l.length<2):aq=l:=by
 rcases l with _ | ⟨a,l⟩
 .show qF.mp (AC.mp f)
 .rcases l with _ | ⟨b,l⟩
  .rcases aq with _ | ⟨c,aq⟩
   .show absurd rfl (lo rfl)
   .rcases aq with _ | ⟨d,aq⟩
    .show congrArg (λx=> [x]) (lJ.mp (g c (.head _)))
    .show absurd (zM f) (Qh _)
  .show absurd (zM (zM h)) (Qh _)
def Iw(am:∀env x,o0 iter env x=pure x)(dd:b4 u sc n call iter Z)(jN:gU u bB n call (.Name (ay m) a9) (C.c5 m))(he:b4 u bB n call (.Name (ay m) ep) (C.b9 m))
 (cN:gJ u bB n call e (C.c8 u.ao x))(S:pz sc bB)(vC:∀n∈bk,(ay n,h2)∈bB.names):
 yc u sc n call (.Name (ay m) ep) (.Name (ay m) a9) iter [e] bB pos (C.uR m Z x (C.c8 u.ao x) bk):=λc Y L s A use Q E R ac o ex V=>by
 show Gd (g:=⟨.Name (ay m) a9,iter, [e],0⟩) (gs:= []) rfl (am c.env) (HP S ac.sc) S.kind (λx en y=>y▸S.uniq x en) (ai.vB (dd c Y L s A R ac) o (λv w j d jE bD z f=>?_) ex);haveI f:C.uR m Z x (C.c8 u.ao x) bk [] call L=_:=f;rw[f]at o;obtain⟨i,l,cs,rfl,q,Pm,y,sl,sL⟩:=Y5 o;rw[sL]at o f;obtain⟨p,iH,rfl⟩:=z;show x02 (aa4 (λs=>ac2 x Pm s) o) λuY aey=>?_;rw[uY]at f;show bo<|Vh bD.R iH q y λit a5 aD=>aD.casesOn λI aq X O rY F ahA lo=>x11 (Y4 (lf:=u.ao.lf) (call:=call) (fc:=C.c8 u.ao x) (L:=⟨d.h.st .nul i,d.nx,cs,d.hf⟩) (n:=m) aq [] 1000 cs (λv z=>aey v (F v z)) (λJ=>rfl) (by lia)) λfr' el=>?_
 show Ii jN he (.inr ⟨e,rfl,cN⟩) rY X O ac S vC sl el (λk q=>nomatch q) (λk L q=>nomatch q) λD zy an aE oP vs ws k bN K=>?_;obtain⟨nH,T,cz,M,B,H,N,W,aI⟩:=K;injection nH with t dU
 haveI t:aq.filter (mh (C.c8 u.ao x) call ⟨d.h.st .nul i,d.nx,cs,d.hf⟩ m)=vs:=t;subst t dU;haveI lf:=FS (mh (C.c8 u.ao x) call ⟨d.h.st .nul i,d.nx,cs,d.hf⟩ m) aq;haveI ak:Y.dL ⟨j.ah,h8 j.own i⟩:=bD.le.trans (fj _);cases r:bw (C.cU l) 2 with
 |false=>rw[r]at f;show V D zy an ⟨j.ah,h8 j.own i⟩ ⟨d.h.st .nul i,d.nx,d.fr,d.hf⟩ aE _ _ ws k bN (.l0 (C.cU l)) ak ⟨rfl,T,cz,M,B,H,N,W,aI⟩ (.ul _ (by lia) (by rw[C.eA];lia)) f
 |true=>
  rw[r]at f;haveI P:=C.df r;rw[C.eA]at P;haveI ahB:aq=l:=ac4 F ahA lo P;haveI yM:=f;rw[<-ahB]at yM;show V D zy an ⟨j.ah,h8 j.own i⟩ ⟨d.h.st .nul i,d.nx,d.fr,d.hf⟩ aE _ _ ws k bN (.list _) ak ⟨rfl,T,cz,M,B,H,N,W,aI⟩ (.list (by lia)) (yM.trans ?_)
  show Lq (by rw[C.eA];lia)
end
def dt(m:Nat)(bk:List Nat)(i c:W):W:=Cm bk (uE m) (Co m) i c
def Lr{n:Nat}{call:d8}:yh u n call dt:=λm bk i c M aC d f=>
 zg (λsc q h=>Ch (Iw (rb (au h)) (d.e _ _ (au (ak h))) (tI (fp (au (ak (ak h))))) (rj (fp (au (ak (ak (ak h)))))) (f.t _ _ (au (ak (ak (ak (ak h)))))) (xj (au (ak (ak (ak (ak (ak h))))))) (ug (ak (ak (ak (ak (ak (ak h)))))))))
  (λJ J=>aM) λk sc q h a9 p=>HQ (fp (ak (ak (ak (ak (ak (ak (ak h)))))))) (Iw (rb (au h)) (d.e _ _ (au (ak h))) (tI (fp (au (ak (ak h))))) (rj (fp (au (ak (ak (ak h)))))) (f.t _ _ (au (ak (ak (ak (ak h)))))) (xj (au (ak (ak (ak (ak (ak h))))))) (ug (au (ak (ak (ak (ak (ak (ak h)))))))))
end
section
set_option tactic.hygienic true
noncomputable def hN(ah:dr)(m:List Nat):dr:=m.map λi=>ah.getD i (0,0)
noncomputable def gW(own:cB)(m:List Nat):cB:=λa=>match own a with
 |some i=>m.findIdx? (·==i)
 |none=>aa
section
variable{m:List Nat}{own:cB}{i j:Nat}{a:ar}{p:ar×ar}
def tZ(h:m[j]? =U i)(e:br ah i p):br (hN ah m) j p:=by unfold br hN at*;rw[iQ,h,Rt,sT,e];rfl
def WV(e:br (hN ah m) j p)(d:∀i∈m,i<ah.length):∃i,m[j]? =U i/\br ah i p:=by unfold br hN at*;rw[iQ]at e;show x12 (we.mp e) λi h q=>?_;haveI c:=d i (h1 h);rw[sT,jP c]at q;show⟨i,h,by rw[jP c];show congrArg U q⟩
def t2(aB:m.Nodup)(h:own a=U i)(e:m[j]? =U i):gW own m a=U j:=by
 delta gW;rw[h];change m.findIdx? (·==i)=U j;show x11 (e8.mp e) λd E=>?_;show Fz.mpr ⟨d,by rw[E];show beq_self_eq_true _,λk c=>?_⟩
 rw[beq_iff_eq];intro q;show absurd ((List.getElem_inj aB).mp (q.trans E.symm)) (ey c)
def Jj(h:gW own m a=U j):∃i,own a=U i/\m[j]? =U i:=by
 unfold gW at h;split at h
 .rename_i i q;show x12 (Fz.mp h) λc e J=>?_;show⟨i,q,e8.mpr ⟨c,beq_iff_eq.mp e⟩⟩
 .cases h
def Vi(h:own a=aa):gW own m a=aa:=by delta gW;rw[h]
end
section
variable{m:List Nat}{own:cB}{h:Heap}{i j:Nat}{p:ar×ar}
def az.f7{c:dr}{v:V}{x:aj}(q:x8 v=af)(h:az u ah v x):az u c v x:=by
 cases v with
 |ref i=>cases q
 |_=>show h
def Ls(q:yY n v=ae)(h:az u ah v x):∃a t,x= .bytes a t/\a.size=n:=by
 cases v with
 |aZ y=>obtain⟨a,t,e,c⟩:=h;show⟨a,t,e,c.1.trans (C.bS q)⟩
 |ev l=>obtain⟨a,t,e,y,d,c⟩:=h;show⟨a,t,e,c.1.trans (C.bS (C.n3 q y (h1 ((C.hq _ _).symm.trans d))))⟩
 |any k=>obtain⟨a,t,e,c⟩:=h;show⟨a,t,e,Jr c (C.bS (show aK n k=ae from q)).symm⟩
 |_=>cases q
def t4:jD m v w=ae->az u ah v x->az u (hN ah m) w x:=by
 show C.e9 (P:=(·=ae->_)) (λj e=>C.e9 (P:=(·=ae->_)) (λi E=>?_) nofun) (C.xr (P:=(·=ae->_)) (λe h c=>?_) (BP (P:=(·=ae->_)) (λn e h c=>?_) λh c=>?_))
 .subst e E;rw[C.hq];cases q:m[j]? with
  |none=>show nofun
  |some k=>intro h c;obtain rfl:=C.bS h;obtain⟨p,d,e⟩:=c;show⟨p,tZ q d,e⟩
 .k_lt e;show Kf h c
 .k_lt e;show x22 (Ls h c) λa t e z=>⟨a,t,e,z⟩
 .cases q:x8 v with
  |true=>rw[q]at h;cases h
  |false=>rw[q]at h;show uh h▸c.f7 q
def Y6(q:yB m l k=ae)(r:bI (az u ah) l ws):bI (az u (hN ah m)) k ws:=by
 induction r generalizing k with
 |nil=>cases(k)with |nil=>show .nil |cons=>show nomatch q
 | @cons v x l ws c _ i=>
  cases(k)with
  |nil=>show nomatch q
  |cons w k=>show x02 (cM (show C.aA (jD m v w) (yB m l k) af=ae from q)) λQ d=> .cons (t4 Q c) (i d)
theorem Ko:∀{f g:aL} {n:Nat},rR m f g=ae->f.get n=aa->g.get n=aa
 | .nil, .nil,_,_,_=>rfl
 | .nil, .cons _ _ _,_,q,_=>nomatch q
 | .cons _ _ _, .nil,_,q,_=>nomatch q
 | .cons k v f, .cons K w g,n,q,e=>by
  show x02 (cM (show C.aA (aK k K) (C.aA (jD m v w) (rR m f g) af) af=ae from q)) λi c=>x02 (cM c) λJ d=>?_;obtain rfl:=C.bS i;rw[C.aL.hn]at e⊢;cases Q:aK k n with
  |true=>rw[Q]at e;cases e
  |false=>rw[Q]at e;show Ko d e
def Y7(q:rR m f g=ae)(r:c9 u ah f l):c9 u (hN ah m) g l:=by
 induction r generalizing g with
 |nil=>cases(g)with |nil=>show .nil |cons=>show nomatch q
 |cons d c i _ I=>
  cases(g)with
  |nil=>show nomatch q
  |cons K w g=>show x02 (cM (show C.aA (aK _ K) (C.aA (jD m _ w) (rR m _ g) af) af=ae from q)) λn k=>x02 (cM k) λj Q=>?_;obtain rfl:=C.bS n;show .cons d ⟨c.1,Ko Q c.2⟩ (t4 j i) (I Q)
def Vj:∀{a:aP},C.B_ b a=ae->b.get k=aa->a.get k=aa:=by
 intro x;cases x with
 |nil=>intro J J;show rfl
 |cons n v a i=>
  intro q e;haveI q:C.bs (b.get n) af (λJ=>C.B_ b a)=ae:=q;rw[C.aP.hn];cases c:C.cH n k with
  |true=>obtain rfl:=C.gQ c;rw[e]at q;cases q
  |false=>
   cases Q:b.get n with
   |none=>rw[Q]at q;cases q
   |some _=>rw[Q]at q;show i q e
def Y8{P:Int->V->Bool}:∀{b:aP},aP.rec (motive:=λJ=>Bool) ae (λk w J F=>C.aA (P k w) F af) b=ae->b.get k=U w->P k w=ae:=by
 intro x;cases x with
 |nil=>intro J e;show nomatch e
 |cons n v b F=>
  intro q e;show x02 (cM (show C.aA (P n v) (aP.rec (motive:=λJ=>Bool) ae (λk w J F=>C.aA (P k w) F af) b) af=ae from q)) λd c=>?_;rw[C.aP.hn]at e;cases Q:C.cH n k with
  |true=>rw[Q]at e;cases e;show C.gQ Q▸d
  |false=>rw[Q]at e;show F c e
def Kp(q:uT m a b=ae)(x:ej u ah a f):ej u (hN ah m) b f:=λk=>by
 show x02 (cM q) λac o=>?_;cases e:b.get k with
 |none=>haveI:=x k;rw[Vj ac e]at this;show this
 |some w=>
  haveI z:=Y8 (P:=λk w=>Dz m (a.get k) w) o e;revert z;show C.iX (P:=(·=ae->_)) (λn l=>?_) λay=>?_
  .k_lt l;haveI X:=x k;cases E:a.get k with
   |none=>rw[E]at X;showλJ=> .inl X
   |some v=>
    show C.iX (P:=(·=ae->_)) (λdM i z=>?_) λay=>?_
    .w_pre i;obtain rfl:=C.bS z;rw[E]at X;show X
    .show x12 (x.at E ay) λw d c=>?_;cases Q:bw n 1000 with
     |true=>intro z;show x22 (Ls z c) λA t O z=>?_;k_lt O;show .inr ⟨A,t,d,(if_pos (C.df Q)).mpr z⟩
     |false=>
      show C.nc (P:=(·=ae->_)) (λy i z=>?_) nofun
      w_pre i;show x02 (cM z) λj p=>?_;obtain rfl:=C.bS j;obtain⟨g,ai⟩:=y;cases C.bS p;obtain⟨A,t,rfl,s⟩:=c;show .inr ⟨A,t,d,(if_neg (d_.mpr (C.ua Q))).mpr ?_⟩;rw[show fN 1000 g - 1000=g from kG ..];show ck.ext s (ck.pQ g)
  .cases E:a.get k with
   |none=>show nofun
   |some v=>
    show C.iX (P:=(·=ae->_)) (λJ J=>nofun) λD z=>x12 (x.at E D) λB d c=>?_
    haveI r:=t4 z c;cases w<;>first |show⟨B,d,r⟩ |show absurd rfl (ay _)
def e4.re(aB:m.Nodup)(e:m[j]? =U i)(x:e4 own h i a o):e4 (gW own m) h j a o:=⟨t2 aB x.w e,x.g⟩
def Kq:∀{l:aP},C.DA l=ae->l= .nil
 | .nil,_=>rfl
 | .cons _ _ _,q=>nomatch q
def xI{α:Type}:∀{o:Option α},C.p6 o=ae->o=aa
 |none,_=>rfl
 |some _,q=>nomatch q
def yS(q:C.bs (dj m j) af (aK i)=ae):m[j]? =U i:=by
 rw[C.hq]at q;cases e:m[j]? with
 |none=>rw[e]at q;cases q
 |some k=>rw[e]at q;rw[C.bS q]
def Y9(aB:m.Nodup)(e:m[j]? =U i)(x:rD u ah own h i p .nil aa aa lk r t)(g:C.uT m lk aq=ae)(Q:m[fT]? =U r)(d:m[iI]? =U t):rD u (hN ah m) (gW own m) h j p .nil aa aa aq fT iI:=by obtain⟨pr,pl,am,lv,f,fl,ws,wn,H⟩:=x;haveI R:∀{a},own a=U i->gW own m a=U j:=λh=>t2 aB h e;haveI o:=H.own;cases H.dV;show⟨pr,pl,am, [],f,fl,ws,wn,⟨R o.1,R o.2.1,R o.2.2.1,λq c=>⟨R (o.2.2.2 q c).1,R (o.2.2.2 q c).2.1,R (o.2.2.2 q c).2.2⟩⟩,⟨tZ Q H.cQ.1,tZ d H.cQ.2⟩,H.aB,H.jw,H.kj,H.kl,H.i4,Kp g H.hW, .nil,H.num,H.g0,H.fin,H.perm,H.cnt,H.fresh,nofun⟩
def Y_(aB:m.Nodup)(e:m[j]? =U i):C.DB m o cn F N aq fT iI=ae->dk u ah own h i p o->rD u (hN ah m) (gW own m) h j p cn F N aq fT iI:=by
 show C.pd (P:=λb=>b=ae->dk u ah own h i p o->_) (λbQ M n l r t E q x=>?_) nofun
 haveI x:rD u ah own h i p bQ M n l r t:=(E▸x:dk u ah own h i p (.c3 bQ M n l r t));haveI a:=cM q;haveI b:=cM a.2;haveI c:=cM b.2;haveI d:=cM c.2;haveI f:=cM d.2;haveI g:=cM f.2;haveI k:=cM g.2;haveI z:=cM k.2;rw[Kq a.1,xI c.1,xI f.1]at x;rw[Kq b.1,xI d.1,xI g.1];show Y9 aB e x k.1 (yS z.1) (yS z.2)
def Za(aB:m.Nodup)(e:m[j]? =U i)(g:uU m o w=ae)(x:dk u ah own h i p o):dk u (hN ah m) (gW own m) h j p w:=by
 revert g x;cases w with
 |nul=>showλJ J=>trivial
 |iA _=>showλJ J=>trivial
 |cb _=>showλJ J=>trivial
 |inst c f=>
  show C.kU (P:=λb=>b=ae->dk u ah own h i p o->_) (λcc f1 E g x=>?_) nofun
  k_lt E;show x02 (cM g) λk Q=>?_;obtain rfl:=C.bS k;obtain⟨es,n,I,s,a,b,r⟩:=x;show⟨es,n,I,s,a.re aB e,b.re aB e,Y7 Q r⟩
 |list l=>
  show C.j0 (P:=λb=>b=ae->dk u ah own h i p o->_) (λbQ E g x=>?_) nofun
  k_lt E;obtain⟨ws,n,a,r,z⟩:=x;haveI R:=Y6 g r;show⟨ws,n,a.re aB e,R,by rw[R.length,<-r.length];show z⟩
 |dict l=>
  show C.q6 (P:=λb=>b=ae->dk u ah own h i p o->_) (λbQ E g x=>?_) nofun
  k_lt E;obtain⟨f,o,d,M⟩:=x;show⟨f,t2 aB o e,d,Kp g M⟩
 |cell v=>
  show C.Bb (P:=λb=>b=ae->dk u ah own h i p o->_) (λV E g x=>?_) nofun
  k_lt E;obtain⟨w,o,ac,r⟩:=x;show⟨w,t2 aB o e,ac,?_⟩;cases v with
  |none=>cases V with
   |none=>cases w with
    |none=>trivial
    |some _=>show r.elim
   |some _=>cases g
  |some y=>cases V with
   |none=>cases g
   |some z=>cases w with
    |none=>show r.elim
    |some w=>show t4 g r
 |c3 cn B D t A T=>show Y_ aB e
 |_=>show nofun
def km.ints{ms:List Int}(aB:m.Nodup)(e:m[j]? =U i)(r:dk u ah own h i p (.list (ms.map .int))):dk u (hN ah m) (gW own m) h j p (.list (ms.map .int)):=by
 obtain⟨ws,n,a,r,z⟩:=r;show⟨ws,n,a.re aB e,?_,z⟩;clear z a;generalize c:ms.map V.int=aq at r;generalize ws.toList=wl at r;induction r generalizing ms with
 |nil=>show .nil
 |cons d _ I=>show x23 (wm.mp c) λk ks f o O=>?_;k_lt f;k_lt o;k_lt O;show .cons d (I rfl)
def Zb{h:cS}{t:cS}:∀{l:List Nat} {j k i:Nat},yC x m h t l j=ae->l[k]? =U i->j+k<2\/j+k=x\/uU m (h.get i) (t.get (j+k))=ae:=by
 intro X;cases X with
 |nil=>intro J J J J e;show nomatch e
 |cons a l I=>
  intro j k i q e;show x02 (cM (show C.aA (C.aA (bw j 2) ae (C.aA (aK j x) ae (uU m (h.get a) (t.get j)))) (yC x m h t l (da j)) af=ae from q)) λQ f=>?_;cases k with
  |zero=>
   cases e;cases c:bw j 2 with
   |true=>show .inl (C.df c)
   |false=>
    rw[c]at Q;cases d:aK j x with
    |true=>show .inr (.inl (C.bS d))
    |false=>rw[d]at Q;show .inr (.inr Q)
  |succ k=>haveI:=I (k:=k) (i:=i) f e;rwa [PF]at this
theorem Lu:∀{l:List Nat},yZ l=ae->l.Nodup
 | [],_=> .nil
 |a::l,q=>by show x02 (cM (show C.aA (C.kh (λb=>C.aA (aK a b) af ae) l) (yZ l) af=ae from q)) λc Q=>dN.mpr ⟨λh=>?_,Lu Q⟩;have:=C.n3 c a h;rw[C.n1]at this;cases this
def WW:∀{l:List Sel} {M m:List Nat},uS L l M=U m->∃r,m=M++r/\r.length=l.length:=by
 intro x;cases x with
 |nil=>intro M m e;show⟨[],by cases e;show(nO _).symm,rfl⟩
 |cons a l I=>
  intro M m e;haveI e:C.bs (yA L M a) aa (λi=>uS L l (C.l8 M [i]))=U m:=e;cases q:yA L M a with
  |none=>rw[q]at e;cases e
  |some i=>rw[q]at e;show x12 (I e) λr e z=>?_;rw[C.mX,jR]at e;show⟨i::r,e,congrArg da z⟩
def Bu:∀{f:aL},yD m fr f=ae->f.get n=U w->∃v,fr.get n=U v/\jD m v w=ae:=by
 intro x;cases x with
 |nil=>intro J e;show nomatch e
 |cons k v' r i=>
  intro q e;haveI q:C.bs (fr.get k) af (λv=>C.aA (jD m v v') (yD m fr r) af)=ae:=q;rw[C.aL.hn]at e;cases c:fr.get k with
  |none=>rw[c]at q;cases q
  |some v=>
   rw[c]at q;show x02 (cM q) λd g=>?_;cases Q:aK k n with
   |true=>rw[Q]at e;cases e;obtain rfl:=C.bS Q;show⟨v,c,d⟩
   |false=>rw[Q]at e;show i g e
def WX(x:p_ ah env n v):jD m v w=ae->p_ (hN ah m) env n w:=by
 cases v with
 |ref i=>
  show C.e9 (P:=(·=ae->_)) (λj e q=>?_) (C.xr (P:=(·=ae->_)) (λJ=>nofun) (BP (P:=(·=ae->_)) (λJ J=>nofun) nofun))
  k_lt e;show x12 x λp a b=>⟨p,tZ (yS q) a,b⟩
 |_=>show x.elim
end
section
variable{c:aV}{s:ax}
def aa5{P:Nat->Prop}(h:j<2)(a:P 0)(b:P 1):P j:=by
 cases(j)with
 |zero=>show a
 |succ j=>cases Nat.lt_one_iff.mp (sW h);show b
def Rel.Cv{t aU:cS}{fr:aL}{X:O}(R:Rel u c Y L s)(d:kp x l L t fr=(X,ae))(bN:∀j,j≠x->aU.get j=t.get j)(W:x<l.length+2->∃ms:List Int,X= .list (ms.map .int)/\aU.get x=X)(bM:2<=x)
 (g:aU.get 0= .tab/\aU.get 1= .tab)(out:∀j,l.length+2<=j->aU.get j= .nul):(∃aE,Rel u c aE ⟨aU,l.length+2,fr,L.hf⟩ s/\∀n i j,L.fr.get n=U (.ref i)->fr.get n=U (.ref j)->∀p,br Y.ah i p->br aE.ah j p):=by
 unfold kp at d;cases q:uS L l [0,1]with
 |none=>rw[q]at d;cases d
 |some m=>
  rw[q]at d;show x02 (HE (show(C.bs (dj m x) .nul L.h.get,DC x m L t fr)=(X,ae)from d)) λA d=>x02 (cM d) λT d=>?_;show x02 (cM d) λP d=>x02 (cM d) λV Q=>?_;have aB:=Lu T;have K:∀i∈m,i<Y.ah.length:=λi f=>R.len.symm▸C.df (C.n3 P i f);show x12 (WW q) λr D hz=>?_;have M:m.length=l.length+2:=by rw[D,fW,hz];show jV ..
  have ai:∀i,i<2->m[i]? =U i:=λi f=>by
   rw[D,oZ f];rcases i with _ |_ |i
   .rfl
   .rfl
   .show absurd f (d_.mpr (te 2 i))
  show⟨⟨hN Y.ah m,gW Y.own m⟩,R.gen (aE:=⟨hN Y.ah m,gW Y.own m⟩) (t:=aU) (k:=l.length+2) (fr':=fr) (ag:=s.heap) (tk:=s.toks) (λJ J J J e=>e) ?_ (λb h=>Vi (R.i5 h).1) ((dC _).trans M) (λb j e=>?_) (λj p e=>?_) out
   (R.bc.at (λb i f=>⟨λh=>?_,λh=>t2 aB h (ai i f)⟩) (λJ J J J J h=>h) ⟨g.1.trans R.bc.t0.symm,g.2.trans R.bc.t1.symm⟩ R.bc.here R.bc.codes),λn i j o z p aq=>?_⟩
  .show x12 R.here λqC H F=>⟨qC,H,λn w e k=>?_,λn w e k=>?_⟩
   .show x12 (Bu Q e) λv c8 ac=>x12 (F.loc n v c8 k) λy S aI=>?_;show⟨y,S,t4 ac aI⟩
   .show x12 (Bu Q e) λv c8 ac=>WX (F.bt n v c8 k) ac
  .show x12 (Jj e) λi h e=>⟨(R.low b i h).1,M▸(e8.mp e).1⟩
  .show x12 (WV e K) λi E ep=>?_;have bD:j<m.length:=(e8.mp E).1;have B:j=x->dk u (hN Y.ah m) (gW Y.own m) s.heap j p (aU.get j):=λh=>by w_pre h;show x12 (W (M▸bD)) λms o z=>?_;rw[C.hq,E]at A;have:=R.objs i p ep;rw[show L.h.get i=X from A,o]at this;rw[z,o];show km.ints aB E this
   rcases Zb (k:=j) V E with h |h |h
   .rw[kN]at h;show aa5 (P:=λj=>dk u (hN Y.ah m) (gW Y.own m) s.heap j p (aU.get j)) h (by rw[g.1];trivial) (by rw[g.2];trivial)
   .rw[kN]at h;show B h
   .rw[kN]at h;by_cases I:j=x
    .show B I
    .rw[bN j I];show Za aB E h (R.objs i p ep)
  .show x12 (Jj h) λZ ag e=>?_;cases(ai i f).symm.trans e;show ag
  .show x12 (Bu Q z) λv N q=>?_;cases o.symm.trans N;show tZ (yS q) aq
end
end
section
open Mine.C (X)
open Mine.Head
def ago(P:cj):Txt dt (eH P)where
 t1:=by k_go
 iI:=by k_go
 t3:=by k_go
 sH:=by k_go
 v8:=by k_go
section
def NP(T:Txt dt u.K)(n:Nat):jp u n (C.run u.ao n)/\ow u n (C.run u.ao n):=aaH T (λJ J ac l=>Lr) (λn J J=>aa0 n) n
def oQ(T:Txt dt u.K)(n:Nat)(x:X):a1 u n (C.run u.ao n) (dZ dt x) (C.c8 u.ao x):=qC (NP T n).1 (NP T n).2 uF Lr x
end
end
section
open PySem.SeqAt
set_option tactic.hygienic true
open Mine.Head
noncomputable def fe:List ar:=uv.map (·.2)
def Kr:tabs=uv:=by delta tabs;rfl
def aa6:∀{q:ar×ar},q∈tabs->q.2∈fe:=λh=>hc (by rwa [<-Kr])
def aa7(h:a∈fe):∃q∈tabs,q.2=a:=by show x12 (dy.mp h) λq c e=>?_;show⟨q,by rw[Kr];show c,e⟩
def Zc(P:cj):fe.all (λa=>((eH P).lookup a).isNone)=ae:=by k_go
def Zd(P:cj):fe.map (y3 P).get=fe.map (λJ=>U (kc #[])):=by k_go
def oX(s:ax):ar->Option Obj:=λb=> @ite _ (b∈fe) (FK _) aa (s.heap.get? b)
def D5:cB:=λb=> @ite _ (b∈fe) (FK _) (U 0) aa
def yj(h:b∈fe):oX s b=aa:=if_pos h
def m4(h:b∉fe):oX s b=s.heap.get? b:=if_neg h
def Cw(e:oX s b=U o):s.heap.get? b=U o:=by
 by_cases h:b∈fe
 .show nomatch e.symm.trans (yj h)
 .show(m4 h).symm.trans e
def BZ(h:b∈fe):D5 b=U 0:=if_pos h
def pg(h:b∉fe):D5 b=aa:=if_neg h
def qp(s:ax)(e:Env):aV:=⟨⟨oX s, [e], [],s.os,λJ=>False⟩,e,af⟩
def zl:b1:=⟨[(0,0),(0,0)],D5⟩
noncomputable def t0:cS:= .aB .tab (.aB .tab .lf .lf) .lf
def aa8:∀i,2<=i->t0.get i= .nul:=λi h=>by
 haveI e:t0=(C.T.lf.st .tab 0).st .tab 1:=by k_go
 rw[e,C.T.bO _ _ (by omega),C.T.bO _ _ (by omega)]
 rfl
def Ze{Z:ar->Option Obj}(f:∀a o,Z a=U o->a<n/\alive o=U o)(a:ar):(⟨((eT n).map λa=>(Z a).getD ⟨.none,aa, .freed,#[]⟩).toArray,{}⟩:Heap).get? a=Z a:=by
 delta IF;rw[zN,iQ];by_cases h:a<n
 .rw[zS h];change(match U ((Z a).getD ⟨.none,aa, .freed,#[]⟩)with |some ⟨_,_, .freed,_⟩=>aa |o=>o)=_
  cases q:Z a with
  |none=>rfl
  |some o=>haveI:=(f a o q).2;obtain⟨c,d,D,s⟩:=o;cases D<;>first |rfl |show nomatch this
 .rw[P1 (c7 (hi tb) (d_.mp h))];cases q:Z a with
  |none=>rfl
  |some o=>show absurd (f a o q).1 h
def Vk{h:Heap}(e:h.get? a=U o):a<h.objs.size/\alive o=U o:=by
 show⟨ee e,?_⟩;delta IF at e;generalize h.objs[a]? =z at e;cases z with
 |none=>show nomatch e
 |some y=>obtain⟨c,d,D,s⟩:=y;cases D<;>cases e<;>rfl
def Fx(s:ax):Heap:=⟨((eT s.heap.objs.size).map λa=>(oX s a).getD ⟨.none,aa, .freed,#[]⟩).toArray,{}⟩
def rH(s:ax)(a:ar):(Fx s).get? a=oX s a:=Ze (λa o e=>by
 by_cases h:a∈fe
 .show nomatch e.symm.trans (yj h)
 .show Vk ((m4 h).symm.trans e)) a
def Zf(s:ax):(Fx s).objs.size=s.heap.objs.size:=by rw[ta,dC,tb]
def eQ.up(T:eQ u)(k:∀a o,u.H.get? a=U o->H.get? a=U o):eQ {u with H:=H}:=by
 haveI K:∀{a m},u.H.Ns a m->H.Ns a m:=λaD=>aD.casesOn λo aD=>aD.casesOn λes aD=>aD.casesOn λep aD=>aD.casesOn λe r=>⟨o,es,ep,k _ o e,r⟩;show{T with
  fs:=λa o e=>k a o (T.fs a o e)
  yI:=T.yI.imp λo e=>k _ o e
  lim:=T.lim.keeps k
  cmp:=λc j f x d cV=>T.cmp c j f x d λa o e=>cV a o (k a o e)
  tabs:=λq g=>(T.tabs q g).keeps k
  ny:=by obtain⟨d1,n,B,o,i,p,l,e,r⟩:=T.ny;show⟨d1,K n,B,o,i,p,l,k _ _ e,r⟩}
def nL(w:b3)(s:ax)(l:ar)(B:Bool)(bJ:Nat)(fJ:UInt8):bf:={Fu w B bJ fJ (λJ=> .ref l)with H:=Fx s}
section
variable{w:b3}{B:Bool}{bJ:Nat}{fJ:UInt8}{l:ar}{s:ax}
def pv{h:Heap}(k:∀b o,(gG P).get? b=U o->h.get? b=U o){a:ar}(c:a∈fe):h.get? a=U (kc #[]):=by
 show k _ _ ((abs_get ?_ (s9.mp (Zd P) a c)).trans rfl);haveI:fe.all (bw · 1221)=ae:=by k_go
 show fD.mp (eL this c)
def Zg(k:∀b o,(gG w.params).get? b=U o->s.heap.get? b=U o)(e:(sR w.params).get? a=U o):oX s a=U o:=by
 haveI n:a∉fe:=λh=>by haveI z:=eL (Zc w.params) h;rw[yf]at e;rw[e]at z;cases z
 show(m4 n).trans (k _ _ (J8 _ _ _ e))
def MO(c:bJ<(G.jb B).F)(k:∀b o,(gG w.params).get? b=U o->s.heap.get? b=U o):eQ (nL w s l B bJ fJ):=(aei (fz:=λJ=> .ref l) c λJ=>rfl).up λa o e=>(rH s a).trans (Zg k e)
def aez(y:bJ<(G.jb B).F)(k:∀b o,(gG w.params).get? b=U o->s.heap.get? b=U o)(gens:s.gens=#[])(kd:fd.scope.kind= .function)(x:∃c,fd.code= .ref c/\c∈tabs.map (·.1))
 (E:yN bj fd s.heap.objs.size)(K:∀b o,s.heap.get? b=U o->ag.get? b=U o)(v:ag.Ns bj.locals F):
 Rel (nL w s l B bJ fJ) (qp s bj) zl ⟨t0,2, .nil,af⟩ {s with heap:=ag,toks:=tk}/\∀a,s.heap.get? a=aa->bj.locals<a->zl.own a=aa/\¬eb (qp s bj) a:=by
 have t:∀{a},a∈fe->s.heap.get? a=U (kc #[]):=λh=>pv k h;have low:∀{a},a∈fe->∃o,s.heap.get? a=U o:=λh=>⟨_,t h⟩;have n:bj.locals∉fe:=λh=>by have:=t h;rw[E.locals,iu]at this;cases this
 have z:(qp s bj).z.Z bj.locals=aa:=(m4 n).trans (by rw[E.locals,iu])
 have ac:hH zl.own bj.code:=by show x12 x λc e h=>?_;show⟨c,E.code.trans e, .inl h⟩
 show⟨⟨MO y k,rfl,λa o e=>(rH s a).symm.trans e,λb o e=>?_,λe f=>?_,nofun,rfl,λb i e=>?_,λi p e=>?_,aa8,⟨F,v,nofun,nofun⟩,pg n,?_,?_,gens,rfl,rfl,rfl,⟨λa j=>?_,λc u=>?_,λq m=>BZ (aa6 m)⟩,ac,?_,nofun⟩,λa j r=>⟨?_,?_⟩⟩
 .by_cases h:b∈fe
  .show nomatch e.symm.trans (yj h)
  .show⟨K _ _ ((m4 h).symm.trans e),pg h⟩
 .cases lJ.mp f;show x33 v λo es ep g d J=>?_;show⟨by rw[E.scope,kd];x_go,bj.locals,o,E.frame,g,⟨es,ep,d⟩,pg n,?_⟩
  rw[show(qp s bj).z.Z bj.locals=oX s bj.locals from rfl,m4 n,E.locals,iu]
 .by_cases h:b∈fe
  .cases(BZ h).symm.trans e;show⟨(low h).imp λo=>K _ o,by x_go⟩
  .show nomatch e.symm.trans (pg h)
 .match i,e with
  | 0,_=>trivial
  | 1,_=>trivial
 .show z
 .show hi ((Zf s).trans E.locals.symm)
 .by_cases h:a∈fe
  .show⟨#[],K _ _ (t h),trivial,nofun⟩
  .show nomatch j.symm.trans (pg h)
 .by_cases h:c∈fe
  .show nomatch u.symm.trans (BZ h)
  .show nomatch u.symm.trans (pg h)
 .intro e f;cases lJ.mp f;show ac
 .show pg λh=>?_;rw[t h]at j;cases j
 .rintro (⟨o,h⟩ | ⟨e,f,h⟩ | ⟨q,m,_⟩ |h)
  .by_cases q:a∈fe
   .show nomatch h.symm.trans (yj q)
   .show nomatch j.symm.trans ((m4 q).symm.trans h)
  .cases lJ.mp f;rw[E.frame]at h;cases h;show h3 _ r
  .cases m
  .k_lt h;show h3 _ r
def aeA(R:Rel (nL w s l B bJ fJ) (qp s bj) Y L an)(k:∀b o,(gG w.params).get? b=U o->s.heap.get? b=U o):OldK s.heap an.heap:=by
 haveI H:∀b o,s.heap.get? b=U o->asItWas s.heap an.heap b o/\∃a4,an.heap.get? b=U a4:=λb o e=>by
  by_cases h:b∈fe
  .show x12 (aa7 h) λq c d=>?_;k_lt d;cases e.symm.trans (pv k h);show x12 (R.bc.ok.t _ (R.bc.ok.s q c)) λa2 g J=>?_;show x61 (R.st.tabs q c) λO v J J J J y=>x32 y λJ J J p r=>?_;show⟨.inr (.inl ⟨⟨q.1,O,v,Cw ((rH s _).symm.trans p),r.1,r.2.1,r.2.2.1⟩,rfl,#[],a2,rfl,?_⟩),_,g⟩;rw[g,F_]
  .haveI:=(R.frozen b o ((m4 h).trans e)).1;show⟨.inl this,o,this⟩
 show⟨λb o e=>(H b o e).1,λb o e=>(H b o e).2⟩
end
end
section
open PySem.SeqAt
open Mine.C (X)
inductive ll(u:bf)(l:ar)(ns:List Int):Prop where
 |mk (o:Obj) (vs:Array aj) (n:Nat) (g:u.H.get? l=U o) (cN:o.cls= .type "list") (hd:o.data= .seq vs n) (al:bI (λi v=>∃t,v=n0 i t) ns vs.toList) (hz:vs.size<=5000) (e:u.fz 0= .ref l)
def kF{α:Type}(p:Prop)(a:α):Option α:= @ite _ p (FK p) (U a) aa
def Cx{α:Type}{p:Prop}{a:α}(h:p):kF p a=U a:=if_pos h
def xJ{α:Type}{p:Prop}{a b:α}(h:kF p a=U b):p/\a=b:=by
 unfold kF at h;split at h
 .show⟨‹p›,bY h⟩
 .cases h
def oG(ns:List Int):cw:=λJ call L=>(C.b9 247 [] call L).bind λv L=>(C.ki C.eC [] call L).bind λw L=>C.a7 (kF (v= .hA 0/\∃j,w= .ref j/\L.h.get j= .list []) ns.isEmpty) 91 λb=> .ok (C.gb b) L
def zm(ns:List Int)(g h:cw):cw:=λJ call L=>(C.b9 247 [] call L).bind λv L=>(g [] call L).bind λx L=>(h [] call L).bind λy L=>C.a7 (kF (v= .hA 0/\x= .none/\y= .int 8) (ns.take 8)) 57 λms=>L.alloc (.list (ms.map .int)) .ok
section
variable{c:aV}{A:b2}{s:ax}{E:aj->ax->Prop}{n:Nat}{l:ar}{ns:List Int}
def bI.aa9{ah:dr}{ns:List Int}{vs:List aj}(x:bI (λi v=>∃t,v=n0 i t) ns vs):bI (az u ah) (ns.map .int) vs:=by
 cases x with
 |nil=>show .nil
 |cons h _ I=>show .cons h I
def Ks(S:ll u l ns)(R:Rel u c Y L s){j:Nat}{x y:aj}(t:A.units<pY)(B:az u Y.ah (.hA 0) x)(hw:az u Y.ah (.ref j) y)(g:L.h.get j= .list []){Q:aj->ax->Prop}(n:∀tk,Q (.bool ns.isEmpty) {s with toks:=tk}):aQ u.M A (tC .Eq x y) Q E s:=by
 obtain⟨o,vs,m,nD,D,z,ac,hz,e⟩:=S;obtain rfl:x= .ref l:=Jr B e;obtain⟨p,ai,rfl⟩:=hw;obtain⟨ws,k,g1,T,I⟩:=R.at ai g;have d:s.heap.IsList l vs:=⟨o,R.k3 _ _ nD,D,m,z⟩;have f:s.heap.IsList p.1 ws:=⟨_,g1.g,rfl,_,rfl⟩;have W:ws.size=0:=j4 T;have v:vs.size=ns.length:=eo.symm.trans ac.length.symm;cases ns with
 |nil=>have w:=Uf (A:=A) d f (e:=λJ=>ae) (v.trans W.symm) t λj h=>absurd (v▸h) (z_ _);rw[v]at w;show w _ _ _ _ (n _)
 |cons i r=>show Qv d f (bne_iff_ne.mpr (by rw[v,W];show nofun)) t _ _ _ _ (n _)
def WY(S:ll u l ns){b:aT}{p p':Pos}(f:sc.names.lookup (ay 247)=U .local)(k:qQ .Eq b=af)(ag:b4 u sc n call b (C.ki C.eC)):gJ u sc n call (.Compare (.Name (ay 247) p') [.Eq] [b] p) (oG ns):=λc Y L s A R ac=>by
 change ai _ _ _ _ _ (b5 _ c.env>>=λl=>testChain p l [.Eq] (hE [.Eq] [b] [b5 b c.env])) _ _;rw[show hE [.Eq] [b] [b5 b c.env]= [b5 b c.env] by simp only[hE,sV k]]
 unfold oG fU;rw[mP];show .dD (rj f c Y L s A R ac) λv w t x m z i=>?_;rw[mP];show .dD (.gS (ag c t x m A z.R ac)) λV W bp bn a5 d y=> .dm ?_;rw[show∀r:bl,r.bind (λv L=>C.dS v (.ok v L) (.ok v L) (.stuck 0))=fU r fromλJ=>rfl,CS];show .a7 λr q D=>x02 (xJ q) λO o=>?_;obtain⟨rfl,j,rfl,g⟩:=O;k_lt o;haveI B:=ac.cl;show aF (IP.Hp (bo<|Ks S d.R (by omega) (i.bR d.le) y g λtk=>cO (mH ⟨⟨bp,(d.R.toks tk).ff⟩,rfl⟩)))
def Zh(S:ll u l ns){b:aT}{p p':Pos}(f:sc.names.lookup (ay 247)=U .local)(k:qQ .Eq b=af)(ag:b4 u sc n call b (C.ki C.eC)):b4 u sc n call (.Compare (.Name (ay 247) p') [.Eq] [b] p) (oG ns):=λc Y L s A R ac=>by
 change ai _ _ _ _ _ (b5 _ c.env>>=λl=>compareChain p l [.Eq] (hE [.Eq] [b] [b5 b c.env])) _ _;rw[show hE [.Eq] [b] [b5 b c.env]= [b5 b c.env] by simp only[hE,sV k]]
 show .dD (rj f c Y L s A R ac) λv w t x m z i=> .dD (.gS (ag c t x m A z.R ac)) λV W bp bn a5 d y=> .dm (.operate (.a7 λr q=>?_));show x02 (xJ q) λO o=>?_;obtain⟨rfl,j,rfl,g⟩:=O;k_lt o;haveI B:=ac.cl;show .any (Ks S d.R (by lia) (i.bR d.le) y g λtk=>bg.here (d.R.toks tk) .Cc)
def aa_(S:ll u l ns):a1 u n call (C3 .Eq (uE 247) (C2 C4)) (oG ns):=sq (λsc q h=>Zh S (fp (au (ak h))) (rc (au h) _) ((C5 C6).e _ _ (ak (ak h)))) λsc q h=>WY S (fp (au (ak h))) (rc (au h) _) ((C5 C6).e _ _ (ak (ak h)))
def aba(S:ll u l ns){lo d:Option aT}{ft p p':Pos}{g h:cw}(k:sc.names.lookup (ay 247)=U .local)(Q:k8 u sc n call lo g)(bZ:k8 u sc n call d h):b4 u sc n call (.Subscript (.Name (ay 247) p') (.Slice lo d aa ft) p) (zm ns g h):=λc Y L s A R ac=>by
 rw[arm_eval_Subscript];show .dD (rj k c Y L s A R ac) λv w N Z F X D H=>aF (cO (AO (P:=ci u c) (K:=λx y L=>C.a7 (kF (v= .hA 0/\x= .none/\y= .int 8) (ns.take 8)) 57 λms=>L.alloc (.list (ms.map .int)) .ok) Q bZ X.R ac (λx y bn bp W bN a5 hV j V I am=> .dm (.a7 λr q=>?_)) H));show x02 (xJ q) λO B=>x03 O λai aI t=>?_;k_lt ai;k_lt aI;k_lt t;k_lt B;obtain⟨o,vs,m,nD,M,z,f,hz,e⟩:=S;obtain rfl:w= .ref l:=Jr D e;obtain rfl:W= .none:=V;show x11 I λT O=>?_;k_lt O;haveI i:a5.heap.IsList l vs:=⟨o,j.R.k3 _ _ nD,M,m,z⟩;haveI aq:vs.size=ns.length:=eo.symm.trans f.length.symm;haveI bD:=ez;show .any (w1 ⟨"list",_,Gl.lookup,i.typeIs,PI i am .none (.int 8 T) .none nofun ?_ (hsz:=by lia)⟩)
 show bg.lY (tk:=a5.toks) j.R (λb o e=>c2 _ e) (er _ rfl) (km.new (er _ rfl) ?_ ?_)
 .rw[Hh,wo];haveI E:dg vs.size vs.size (U 8)=min 8 vs.size:=Mine.CB 8 vs.size;rw[show dg vs.size 0 aa=0 from rfl,Ah,E];haveI:=(bI.aa9 (u:=u) (ah:=bp.ah) f).take 8;rw[Sn,<-List.take_take,FP (l:=vs.toList) (hi eo)];show this
 .rw[dC,tc];lia
def ac5(S:ll u l ns){a b:W}{d e:cw}(c:a1 u n call a d)(f:a1 u n call b e):a1 u n call (Cn (uE 247) a b) (zm ns d e):=io λsc q h=>aba S (fp (au h)) (c.o _ _ (au (ak h))) (f.o _ _ (ak (ak h)))
end
end
section
open Mine.C (X)
noncomputable def bP(m:Nat):a3:= .int (.ofNat m)
noncomputable def iY(ns:List Int):List Nat:=match ns with | []=> [0] |_=>(ns.take 8).map λn=>n.natAbs % 1000000000
section
variable{el:cw}{α:Type}{g:α->a3}{f:α->Nat}{l:List α}{h:cS}{nx r j:Nat}{hf:Bool}{fr:aL}
def WZ(c:∀(L:bU) n,L.fr.get 235=U (g n)->el [] call L= .ok (bP (f n)) L)(aq:h.get r= .list (l.map g)):∀(rest:List α) (k fl:Nat) (A:List a3) (fr:aL),l.drop k=rest->rest.length<fl->
 ∃fr',C.gp u.ao.lf (C.c5 235) C.ju el call fl (.seq r k) A ⟨h,nx,fr,hf⟩= .args (A.reverse++rest.map λn=>bP (f n)) ⟨h,nx,fr',hf⟩:=by
 intro X;cases X with
 |nil=>
  intro k y A fr e J;cases(y)with
  |zero=>show nomatch hz
  |succ fl=>show⟨fr,by change C.cJ (h.get r) _ _=_;rw[aq];change C.bs (C.dj (l.map g) k) _ _=_;rw[C.hq,iQ,Ji e];change C.R.args (C.uK A []) _=_;rw[C.xu];rfl⟩
 |cons x rest i=>
  intro k y A fr e hz;cases(y)with
  |zero=>show nomatch hz
  |succ fl=>
   show x02 (A7 e) λE d=>x11 (i (k+1) fl (bP (f x)::A) (fr.st 235 (g x)) d (sW hz)) λfr' i=>?_;show⟨fr',?_⟩;change C.cJ (h.get r) _ _=_;rw[aq];change C.bs (C.dj (l.map g) k) _ _=_;rw[C.hq,iQ,E];change(C.St.f4 ⟨h,nx,fr,hf⟩ 235 (g x) .next).seq _=_
   rw[C.ho];change(el [] call ⟨h,nx,fr.st 235 (g x),hf⟩).bind _=_;rw[c _ x (by rw[C.aL.f0,if_pos rfl])]
   show i.trans ?_;rw[s_,jR];rfl
def Kt{it:cw}{t:cS}{nx:Nat}{fr:aL}{i:Nat}(c:it [] call L= .ok (.ref i) ⟨t,nx,fr,hf⟩)(d:∀(L:bU) n,L.fr.get 235=U (g n)->el [] call L= .ok (bP (f n)) L)(aq:t.get i= .list (l.map g))(hz:l.length<1000):
 C.hJ u.ao el (C.c5 235) it C.ju [] [] call L= .ok (.ref nx) ⟨t.st (.list (l.map λn=>bP (f n))) nx,nx+1,fr,hf⟩:=by
 show x11 (WZ (u:=u) (call:=call) (nx:=nx) (hf:=hf) d aq l 0 1000 [] .nil rfl hz) λfr' cf=>?_;change(it [] call L).bind _=_;rw[c];change C.cJ (t.get i) _ _=_;rw[aq];change(C.gp u.ao.lf (C.c5 235) C.ju el call 1000 (.seq i 0) [] ⟨t,nx, .nil,hf⟩).nx.ea _=_;rw[cf];change C.St.fZ ⟨t,nx,fr,hf⟩ ([].reverse++l.map λn=>bP (f n))=_;delta C.St.fZ;rw[List.reverse_nil,Aa,C.eA,dC];change C.bV (bw l.length 5000) 5 _=_;rw[fD.mpr (o6 hz (by x_go))]
 show C.gE ⟨t,nx,fr,hf⟩ _ .ok
def ac6(n:Nat):C.jf n=U (.ofNat n):=C.eX n _
def abb(a k:Nat)(c:0<k):C.jA u.ao.F .Mod (bP a) (bP k)=U (bP (a % k)):=by change C.g7 (C.cx (bw 0 k) (C.jf (eJ a k))) V.int=_;rw[fD.mpr c,show C.cx ae (C.jf (eJ a k))=C.jf (a % k)from rfl,ac6];rfl
def xn(a k:Nat)(c:0<k):C.m8 u.ao.F .Mod (bP a) (bP k) L= .ok (bP (a % k)) L:=by change C.c1 (C.ko (C.jA u.ao.F .Mod (bP a) (bP k)) (C.Di .Mod (bP a) (bP k))) 1008 L=_;rw[abb a k c];rfl
abbrev D6(u:bf):cw:=C.k5 u.ao .Mod (C.ia u.ao (C.dq (.bi .abs)) (C.f5 (C.b9 235) C.eC)) (C.k5 u.ao .Pow (C.dq (bP 10)) (C.dq (bP 9)))
def Zi(n:Int)(h:L.fr.get 235=U (.int n)):C.ia u.ao (C.dq (.bi .abs)) (C.f5 (C.b9 235) C.eC) [] call L= .ok (bP n.natAbs) L:=by
 change((C.b9 235 [] call L).bind _).ea _=_;rw[j_ h];cases n with
 |ofNat k=>rfl
 |negSucc k=>change C.du (da k) (λn=>C.R.ok (.int (.ofNat n)) L)=_;rw[C.eX];rfl
def abc(L:bU)(n:Int)(h:L.fr.get 235=U (.int n)):D6 u [] call L= .ok (bP (n.natAbs % 1000000000)) L:=by change(C.ia u.ao (C.dq (.bi .abs)) (C.f5 (C.b9 235) C.eC) [] call L).bind _=_;rw[Zi n h];show xn n.natAbs 1000000000 (by x_go)
abbrev f1(u:bf)(ns:List Int):cw:=C.k6 (C.c5 248) (C.oH (oG ns) (C.ki (C.f5 (C.dq (bP 0)) C.eC)) (C.hJ u.ao (D6 u) (C.c5 235) (zm ns (C.dq .none) (C.dq (bP 8))) C.ju []))
def Ku(h:fr.get 247=U (.hA 0)):oG ns [] call ⟨t,nx,fr,hf⟩= .ok (C.gb ns.isEmpty) ⟨t.st (.list []) nx,nx+1,fr,hf⟩:=by change(C.b9 247 [] call ⟨t,nx,fr,hf⟩).bind _=_;rw[j_ h];change(C.St.fZ ⟨t,nx,fr,hf⟩ []).bind _=_;rw[show C.St.fZ ⟨t,nx,fr,hf⟩ []= .ok (.ref nx) ⟨t.st (.list []) nx,nx+1,fr,hf⟩from C.gE ⟨t,nx,fr,hf⟩ _ .ok];change C.a7 (kF (V.hA 0= .hA 0/\∃j,V.ref nx= .ref j/\(t.st (.list []) nx).get j= .list []) ns.isEmpty) 91 _=_;rw[Cx ⟨rfl,nx,rfl,C.T.cT ..⟩];rfl
def abd(h:fr.get 247=U (.hA 0)):f1 u [] [] call ⟨t,nx,fr,hf⟩= .next ⟨(t.st (.list []) nx).st (.list ((iY []).map bP)) (nx+1),nx+2,fr.st 248 (.ref (nx+1)),hf⟩:=by
 change((oG [] [] call ⟨t,nx,fr,hf⟩).bind _).bind _=_;rw[Ku h];change(C.St.fZ ⟨t.st (.list []) nx,nx+1,fr,hf⟩ [bP 0]).bind _=_;rw[show C.St.fZ ⟨t.st (.list []) nx,nx+1,fr,hf⟩ [bP 0]= .ok (.ref (nx+1)) ⟨(t.st (.list []) nx).st (.list [bP 0]) (nx+1),nx+1+1,fr,hf⟩from C.gE ⟨t.st (.list []) nx,nx+1,fr,hf⟩ _ .ok];change C.St.f4 _ 248 _ .next=_
 rw[C.ho];rfl
def Zj(h:fr.get 247=U (.hA 0)):f1 u (i::q) [] call ⟨t,nx,fr,hf⟩= .next ⟨((t.st (.list []) nx).st (.list (((i::q).take 8).map .int)) (nx+1)).st (.list ((iY (i::q)).map bP)) (nx+2),nx+3,fr.st 248 (.ref (nx+2)),hf⟩:=by
 change((oG (i::q) [] call ⟨t,nx,fr,hf⟩).bind _).bind _=_;rw[Ku h];change(C.hJ u.ao (D6 u) (C.c5 235) (zm (i::q) (C.dq .none) (C.dq (bP 8))) C.ju [] [] call ⟨t.st (.list []) nx,nx+1,fr,hf⟩).bind _=_;rw[Kt (g:=V.int) (f:=λn=>n.natAbs % 1000000000) (t:=(t.st (.list []) nx).st (.list (((i::q).take 8).map .int)) (nx+1)) (nx:=nx+2) (fr:=fr) (i:=nx+1) (l:=(i::q).take 8) ?_ abc (C.T.cT ..) (by rw[tc];show jQ (GO ..) (by x_go))]
 .change C.St.f4 _ 248 _ .next=_
  rw[C.ho,iY,iT]
  .rfl
  .show nofun
 .change(C.b9 247 [] call _).bind _=_;rw[j_ h];change C.a7 (kF (V.hA 0= .hA 0/\V.none= .none/\bP 8= .int 8) ((i::q).take 8)) 57 _=_;rw[Cx ⟨rfl,rfl,rfl⟩];show C.gE _ _ .ok
end
end
section
open Mine.C (X)
variable{t:cS}{nx j:Nat}{fr:aL}{ms:List Nat}{v w:a3}
theorem Lv:∀(ms:List Nat) (a:Nat),C.p5 (ms.map bP) (.ofNat a)=U (.ofNat (a+ms.sum))
 | [],a=>rfl
 |m::r,a=>by change C.lu (C.l7 (.ofNat a) (.ofNat m)) (C.p5 (r.map bP))=_;rw[C.pJ];show(Lv r (a+m)).trans (by rw[Sl,ti])
abbrev u9(u:bf):cw:=C.ia u.ao (C.dq (.bi .sum)) (C.f5 (C.b9 248) C.eC)
def Kv(h:fr.get 248=U (.ref j))(aq:t.get j= .list (ms.map bP)):u9 u [] call ⟨t,nx,fr,af⟩= .ok (bP ms.sum) ⟨t,nx,fr,af⟩:=by change((C.b9 248 [] call ⟨t,nx,fr,af⟩).bind _).ea _=_;rw[j_ h];change C.cJ (t.get j) _ _=_;rw[aq];change C.a7 (C.p5 (ms.map bP) (.ofNat 0)) 27 _=_;rw[Lv,kN];rfl
def Kw(a b:Nat):C.m8 u.ao.F .Add (bP a) (bP b) L= .ok (bP (a+b)) L:=by
 haveI e:C.jA u.ao.F .Add (bP a) (bP b)=U (bP (a+b)):=by change C.g7 (C.ss (.ofNat (fN a b))) V.int=_;rw[C.oo];rfl
 change C.c1 (C.yn u.ao.F (bP a) (bP b)) 1003 L=_;delta C.yn;rw[e];rfl
abbrev qD(u:bf):cw:=C.k5 u.ao .Add (C.k5 u.ao .Mod (u9 u) (C.dq (bP 250))) (C.dq (bP 1))
abbrev Fy(u:bf):cw:=C.k5 u.ao .Add (C.dq (bP 1)) (C.k5 u.ao .Mod (u9 u) (C.dq (bP 70)))
abbrev f2(u:bf):cw:=C.k6 (C.c5 12) (C.k5 u.ao .Mult (C.ia u.ao (C.dq (.bi .bytes)) (C.f5 (C.ki (C.f5 (qD u) C.eC)) C.eC)) (Fy u))
def abe(h:fr.get 248=U (.ref j))(aq:t.get j= .list (ms.map bP)):qD u [] call ⟨t,nx,fr,af⟩= .ok (bP (ms.sum % 250+1)) ⟨t,nx,fr,af⟩:=by
 change(((u9 u [] call ⟨t,nx,fr,af⟩).bind _).bind _)=_;rw[Kv h aq];change(C.m8 u.ao.F .Mod (bP ms.sum) (bP 250) ⟨t,nx,fr,af⟩).bind _=_;rw[xn _ 250 (by x_go)]
 show Kw (u:=u) (ms.sum % 250) 1
def abf(h:fr.get 248=U (.ref j))(aq:t.get j= .list (ms.map bP)):Fy u [] call ⟨t,nx,fr,af⟩= .ok (bP (1+ms.sum % 70)) ⟨t,nx,fr,af⟩:=by
 change((u9 u [] call ⟨t,nx,fr,af⟩).bind _).bind _=_;rw[Kv h aq];change(C.m8 u.ao.F .Mod (bP ms.sum) (bP 70) ⟨t,nx,fr,af⟩).bind _=_;rw[xn _ 70 (by x_go)]
 show Kw (u:=u) 1 (ms.sum % 70)
def Zk(c:d<256)(g:t.get j= .list [bP d]):C.yV u.ao.lf t (.ref j)=U (.aZ ⟨1,d⟩):=by change C.fQ (t.get j) _ (C.cJ (t.get j) _ _)=_;rw[g];change C.ew (C.ew (C.cx (bw d 256) (U d)) _) _=_;rw[fD.mpr c];change C.ew (C.du (fN d 0) U) _=_;rw[C.eX];rfl
def Zl(c:k<5000):C.m8 u.ao.F .Mult (.aZ ⟨1,d⟩) (bP k) L= .ok (.aZ ⟨k,d*((1024^k - 1)/1023)⟩) L:=by
 haveI e:C.ym u.ao.F (.aZ ⟨1,d⟩) (bP k)=U (.aZ ⟨k,d*((1024^k - 1)/1023)⟩):=by change C.g7 (C.cx (bw k 5000) (C.lx k (d*((C.cC k - 1)/1023)))) V.aZ=_;rw[fD.mpr c];change C.g7 (C.du k λn=>C.du _ λx=>U (dE.mk n x)) V.aZ=_;rw[C.eX,C.eX];rfl
 change C.c1 (C.ym u.ao.F (.aZ ⟨1,d⟩) (bP k)) 1007 L=_;rw[e];rfl
def Lw(h:fr.get 248=U (.ref j))(aq:t.get j= .list (ms.map bP))(f:j<nx):f2 u [] call ⟨t,nx,fr,af⟩= .next ⟨t.st (.list [bP (ms.sum % 250+1)]) nx,nx+1,fr.st 12 (.aZ ⟨1+ms.sum % 70,(ms.sum % 250+1)*((1024^(1+ms.sum % 70) - 1)/1023)⟩),af⟩:=by
 haveI d:ms.sum % 250+1<256:=o6 (z4 (kQ _ (by x_go))) (by x_go)
 haveI c:C.ki (C.f5 (qD u) C.eC) [] call ⟨t,nx,fr,af⟩= .ok (.ref nx) ⟨t.st (.list [bP (ms.sum % 250+1)]) nx,nx+1,fr,af⟩:=by change((qD u [] call ⟨t,nx,fr,af⟩).bind _).ea _=_;rw[abe h aq];show C.gE ⟨t,nx,fr,af⟩ _ .ok
 haveI E:C.ia u.ao (C.dq (.bi .bytes)) (C.f5 (C.ki (C.f5 (qD u) C.eC)) C.eC) [] call ⟨t,nx,fr,af⟩= .ok (.aZ ⟨1,ms.sum % 250+1⟩) ⟨t.st (.list [bP (ms.sum % 250+1)]) nx,nx+1,fr,af⟩:=by change((C.ki (C.f5 (qD u) C.eC) [] call ⟨t,nx,fr,af⟩).bind _).ea _=_;rw[c];change C.c1 (C.yV u.ao.lf (t.st (.list [bP (ms.sum % 250+1)]) nx) (.ref nx)) 21 _=_;rw[Zk d (C.T.cT ..)];rfl
 change((C.ia u.ao (C.dq (.bi .bytes)) (C.f5 (C.ki (C.f5 (qD u) C.eC)) C.eC) [] call ⟨t,nx,fr,af⟩).bind _).bind _=_;rw[E];change((Fy u [] call ⟨t.st (.list [bP (ms.sum % 250+1)]) nx,nx+1,fr,af⟩).bind _).bind _=_;rw[abf h ((C.T.bO _ _ (ey f)).trans aq)];change(C.m8 u.ao.F .Mult (.aZ ⟨1,ms.sum % 250+1⟩) (bP (1+ms.sum % 70)) _).bind _=_;rw[Zl (o6 (Nat.add_lt_add_left (kQ _ (by x_go)) 1) (by x_go))]
 change C.St.f4 _ 12 _ .next=_
 rw[C.ho]
end
section
open Mine.C (X dv)
open Mine.G (i3 kq l_ rU p7 DD)
variable{c:aV}{A:b2}{L bH:bU}{s:ax}{n:Nat}{ms:List Nat}{B:Bool}{rest:List b_}{Q:ja->ax->Prop}{E:aj->ax->Prop}
def step{st:b_}(am:eD u sc n call st f)(R:Rel u c Y L s)(ac:Act c A sc n)(a9:hY c)(e:f [] call L= .next bH)(K:∀aE an,Rel u c aE bH an->aG u.M A (d3 rest c.env) Q E an):aG u.M A (d3 (st::rest) c.env) Q E s:=by haveI h:=am c Y L s A R ac a9;rw[e]at h;show wE (a0 (h λJ=>nofun) (λf an ⟨⟨aE,S⟩,hf⟩=>by k_lt hf;show K aE an S.R) λd an x=>x.elim)
def fR(ms:List Nat):O:= .list (ms.map bP)
def Cy(ms:List Nat):fR ms= .list ((ms.map kT).map .int):=by delta fR;rw[iT];rfl
def B0:∀(l:List O) (i:Nat) (t:cS),(∀j,i<=j->t.get j= .nul)->∀j,i+l.length<=j->(C.sd l i t).get j= .nul:=by
 intro x;cases x with
 |nil=>intro J J h j c;show h j c
 |cons o l I=>
  intro i t h j c;haveI e:C.sd (o::l) i t=C.sd l (i+1) (t.st o i):=(C.T.rC o t i).1 _;rw[e];show I (i+1) (t.st o i) (λk d=>?_) j (by rw[o3]at c;lia)
  rw[C.T.bO _ _ (by lia)]
  show h k (by lia)
def Zm(h:j≠4):(i3 B x).get j=(i3 B .nul).get j:=by rw[G.Jv];show C.T.bO _ _ h
def Lx(x:O):(i3 B x).get 4=x:=by rw[G.Jv];show C.T.cT ..
def Zn(x:O):(i3 B x).get 0= .tab/\(i3 B x).get 1= .tab:=by cases B<;>show⟨rfl,rfl⟩
def W0(x:O){j:Nat}(h:19<=j):(i3 B x).get j= .nul:=by rw[G.Xf];show B0 _ 0 .lf (λJ J=>rfl) j (by rw[G.Xg];omega)
abbrev hb(B:Bool)(ms:List Nat):bU:=G.vl B (fR ms) .nil
def NQ(R:Rel u c Y L s)(hf:L.hf=af)(h:l_ B (.next L)=(fR ms,ae)):∃aE,Rel u c aE (hb B ms) s/\∀p,br Y.ah 4 p->br aE.ah 4 p:=by
 haveI h:C.bs (L.fr.get 248) (.nul,af) (λv=>C.bE v (λi=>C.aA (aK i 4) (C.kp 4 DD L (i3 B .nul) (kq B .nil)) (.nul,af)) (.nul,af))=(fR ms,ae):=h;cases q:L.fr.get 248 with
 |none=>rw[q]at h;cases h
 |some v=>
  rw[q]at h;revert h;show C.e9 (P:=(·=(fR ms,ae)->_)) (λi e h=>?_) nofun
  cases Q:aK i 4 with
  |false=>rw[Q]at h;cases h
  |true=>
   rw[Q]at h;show x12 (R.Cv (aU:=i3 B (fR ms)) h (λj d=>Zm d) (λJ=>⟨ms.map kT,Cy ms,Lx _⟩) (by x_go) (Zn _) (λj d=>W0 _ d)) λaE R' K=>?_
   rw[hf]at R';show⟨aE,R',λp f=>K 248 4 4 (q.trans (congrArg U (e.trans (congrArg _ (C.bS Q))))) (by cases B<;>rfl) p f⟩
def Ix(h:l_ B r=(x,ae)):∃L,r= .next L:=by
 cases r with
 |next L=>show⟨L,rfl⟩
 |_=>cases h
inductive NR(u:bf)(c:aV)(a:ar)(B:Bool)(ms:List Nat)(m:Nat)(s:ax):Prop where
 |mk (Y:b1) (k:Nat) (I:fV) (e:k+m=ms.length+1) (R:Rel u (c.add I) Y (hb B ms) s) (D:di u c I) (O:fg u Y.ah a I (.seq 4 k) aa)
def NS(u:bf)(c:aV)(B:Bool)(ms:List Nat)(q:h6)(s:ax):Prop:=q= .ok .next/\∃Y,Rel u c Y (hb B ms) s
def Da{k:Nat}:(hb B ms).h.get 4= .list (ms.map bP):=Lx _
def W1(aq:gU u sc n (C.run u.ao 60) t (C.c5 235))(T:hx u sc n (C.run u.ao 60) b (C.c8 u.ao G.sB))(ac:Act c A sc n)(a9:hY c)(h:NR u c a u.cl ms (ms.length+1) s):
 dz u.M A (.forLoop t (.ref a) b [] c.env) (NS u c u.cl ms) s:=by
 show G0 (R:=NS u c u.cl ms) (NR u c a u.cl ms) (λm s h=>?_) _ h;obtain⟨Y,k,I,e,R,D,O⟩:=h;cases q:(ms.map bP)[k]? with
 |none=>show Ce (Bf R ac D O (.seq (Da (k:=k)) q)) λ_ x=>qO ⟨rfl,Y,x⟩
 |some v=>
  haveI Q:k<ms.length:=dC bP▸(e8.mp q).1;rw[iQ]at q;show x12 (we.mp q) λx J o=>?_;k_lt o;rw[<-iQ]at q;show IT (IX (t:=t) (k:=λv L=> .args [v] L) R D O (.seq (Da (k:=k)) q) (.inl rfl) λJ=>nofun) λw _ X=>?_
  show a0 (bo X) (λ_ a5 aD=>aD.casesOn λbp i v' bn hw j M bN F aI=>?_) λJ J x=>x;injection hw with bM cz
  injection bM with f_ _
  subst cz f_;show x11 aI λaU o=>?_;k_lt o;show x02 (G.adh u.cl x (fR ms)) λg d=>?_;haveI l:=ac.add j;haveI g1:=aq (c.add i) bp _ a5 A (.res (G.gc (x % 6)) (x % G.gc (x % 6))) (.int x aU) F l ⟨g,x,aU,rfl,rfl⟩;rw[show C.c5 235 [.res (G.gc (x % 6)) (x % G.gc (x % 6))] (C.run u.ao 60) (hb u.cl ms)= .next (G.vl u.cl (fR ms) (.cons 235 (.res (G.gc (x % 6)) (x % G.gc (x % 6))) .nil))from rfl]at g1
  show a0 (g1 λJ=>nofun) (λ_ z aD=>aD.casesOn λc6 y=>?_) λJ J x=>x.elim
  haveI g2:=T (c.add i) c6 _ z A y.R l a9;rw[show C.c8 u.ao G.sB [] (C.run u.ao 60) (G.vl u.cl (fR ms) (.cons 235 (.res (G.gc (x % 6)) (x % G.gc (x % 6))) .nil))=rU u.cl (G.gc (x % 6)) (x % G.gc (x % 6)) (fR ms)from rfl]at g2;show x11 (Ix d) λbH B=>?_;rw[B]at g2 d;show a0 (g2 λJ=>nofun) (λf N ⟨⟨bD,S⟩,hf⟩=>?_) λJ J x=>x.elim
  k_lt hf;show x12 (NQ S.R (S.R.hf.trans R.hf.symm) d) λP H K=>x12 M λp g W=>?_;show⟨ms.length - k,(MU e Q).1,P,k+1,i,(MU e Q).2,H,j,p,K p (eI (y.le.trans S.le) g),W⟩
end
section
open Mine.C (X dv)
noncomputable def kv:aL:= .cons 248 (.ref 2) .nil
noncomputable def i_(x:O):cS:= .aB .tab (.aB .tab .lf .lf) (.aB x .lf .lf)
section
variable{c:aV}{A:b2}{L bH:bU}{s:ax}{n:Nat}{ms:List Nat}{rest:List b_}{Q:ja->ax->Prop}{E:aj->ax->Prop}
theorem Kx(F a:Nat):∀l:List Nat,∃b,C.pt (C.nr F) (bP a) (l.map bP)=U b
 | []=>⟨af,rfl⟩
 |x::l=>by show x11 (Kx F a l) λb e=>⟨C.aA (C.cH (.ofNat x) (.ofNat a)) ae b,?_⟩;change C.D_ (U (C.cH (.ofNat x) (.ofNat a))) (C.pt (C.nr F) (bP a) (l.map bP))=_;rw[e];rfl
abbrev dU(u:bf):cw:=C.k5 u.ao .Mod (C.b9 235) (C.dq (bP 6))
def abg(L:bU)(m:Nat)(h:L.fr.get 235=U (bP m)):dU u [] call L= .ok (bP (m % 6)) L:=by change(C.b9 235 [] call L).bind _=_;rw[j_ h];show xn m 6 (by x_go)
def abh{r:bl}{kk:bU->bl}(e:r= .ok (C.gb b) q)(k:G.uu (kk q)=ae):∃bH,(r.bind λv L=>C.dS v (.ok .tt L) (kk L) (.stuck 83)).bind .ret= .ret .tt bH:=by
 k_lt e;cases b with
 |true=>show⟨_,rfl⟩
 |false=>
  change∃bH,(kk q).bind .ret=_;generalize kk q=r at k⊢;cases r with
  |ok v L=>cases v<;>first |show⟨L,rfl⟩ |cases k
  |_=>cases k
def Zo(hz:ms.length<1000):∃bH,C.c8 u.ao G.vj [] (C.run u.ao 60) ⟨i_ (.list (ms.map bP)),3,kv,af⟩= .ret .tt bH:=by
 have d:=Kt (u:=u) (call:=C.run u.ao 60) (L:=⟨i_ (.list (ms.map bP)),3,kv,af⟩) (el:=dU u) (g:=bP) (f:=λm=>m % 6) (l:=ms) (it:=C.b9 248) (t:=i_ (.list (ms.map bP))) (nx:=3) (fr:=kv) (i:=2) (hf:=af) rfl abg rfl hz;show x11 (Kx u.ao.F 5 (ms.map λm=>m % 6)) λb c=>?_;rw[iT]at c;have E:∃b,C.i2 u.ao .NotIn (C.dq (bP 5)) (C.hJ u.ao (dU u) (C.c5 235) (C.b9 248) C.ju []) [] (C.run u.ao 60) ⟨i_ (.list (ms.map bP)),3,kv,af⟩= .ok (C.gb b) (G.se (.list (ms.map bP)) (.list (ms.map λn=>bP (n % 6))) kv):=by show⟨C.aA b af ae,?_⟩;change(C.hJ u.ao (dU u) (C.c5 235) (C.b9 248) C.ju [] [] (C.run u.ao 60) ⟨i_ (.list (ms.map bP)),3,kv,af⟩).bind _=_;rw[d];change C.a7 (C.p2 (C.pt (C.nr u.ao.F) (bP 5) (ms.map λn=>bP (n % 6)))) 90 _=_;rw[show(ms.map λn=>bP (n % 6))=ms.map (bP∘λm=>m % 6)from rfl,c];rfl
 show x11 E λb E=>?_;have k:=G.vS u.cl (.list (ms.map bP)) (.list (ms.map λn=>bP (n % 6))) kv;show abh (kk:=λL=>C.c8 u.ao (.qf (.bG 253 (.fn 144)) .nil) [] (C.run u.ao 60) L) E k
def W2{st:b_}{f:cw}(am:eD u sc n call st f)(R:Rel u c Y L s)(ac:Act c A sc n)(a9:hY c)(e:f [] call L= .ret .tt bH)(K:∀aE an,Rel u c aE bH an->Q (.ret (.bool ae)) an):aG u.M A (d3 (st::rest) c.env) Q E s:=by
 have h:=am c Y L s A R ac a9;rw[e]at h;show wE (a0 (h λJ=>nofun) (λf an x=>?_) λg an x=>x.elim)
 obtain⟨aE,w,S,d,rfl⟩:=x;obtain rfl:w= .bool ae:=d;show K aE an S.R
end
end
section
open Mine.C (X dv)
variable{c:aV}{A:b2}{L bH:bU}{s:ax}{n:Nat}{ms:List Nat}{rest:List b_}{Q:ja->ax->Prop}{E:aj->ax->Prop}{l:ar}{ns:List Int}
def Zp(am:∀x,o0 it c.env x=pure x)(g:b4 u sc n (C.run u.ao 60) it (C.b9 248))(aI:gU u sc n (C.run u.ao 60) t (C.c5 235))(y:hx u sc n (C.run u.ao 60) b (C.c8 u.ao G.sB))
 (R:Rel u c Y (hb u.cl ms) s)(ac:Act c A sc n)(a9:hY c)(K:∀aE an,Rel u c aE (hb u.cl ms) an->aG u.M A (d3 rest c.env) Q E an):aG u.M A (d3 (.For t it b [] p::rest) c.env) Q E s:=by
 have h:=g c Y _ s A R ac;rw[show C.b9 248 [] (C.run u.ao 60) (hb u.cl ms)= .ok (.ref 4) (hb u.cl ms)from j_ (by cases u.cl<;>rfl)]at h
 show wE (Xv (a0 (h λJ=>nofun) (λw M aD=>aD.casesOn λP S j=>?_) λJ J x=>x.elim) am)
 let kk:dv->Option Nat->bU->bl:=λi e L=>C.a7 (kF (i= .seq 4 0/\e=aa/\L=hb u.cl ms) ()) 0 λJ=> .next L
 have f:C.pI (.ref 4) (hb u.cl ms) kk= .next (hb u.cl ms):=by change C.cJ ((hb u.cl ms).h.get 4) _ _=_;rw[Da (k:=0)];change C.a7 (kF (dv.seq 4 0= .seq 4 0/\(aa:Option Nat)=aa/\hb u.cl ms=hb u.cl ms) ()) 0 (λJ=>C.R.next (hb u.cl ms))=_;rw[Cx ⟨rfl,rfl,rfl⟩];rfl
 show bo (BJ (k:=kk) S.R j (by rw[f];showλJ=>nofun) λa I i e bH aE an J J D O R' d=>?_)
 rw[f]at d;cases q:kF (i= .seq 4 0/\e=aa/\bH=hb u.cl ms) ()with
 |none=>have d:_=C.a7 (kF (i= .seq 4 0/\e=aa/\bH=hb u.cl ms) ()) 0 λJ=>C.R.next bH:=d;rw[q]at d;cases d
 |some _=>show x02 (xJ q) λai J=>x03 ai λo m B=>?_;k_lt o;k_lt m;k_lt B;show nT (W1 aI y ac a9 ⟨aE,0,I,kN _,R',D,O⟩) λr v x=>?_;obtain⟨rfl,z,l⟩:=x;show K z v l
def Rel.OQ{fr:aL}{hf:Bool}{v v':a3}(R:Rel u c Y ⟨t,nx,fr.st k v,hf⟩ s)(f:∀i,v≠ .ref i)(h:∀w,az u Y.ah v w->az u Y.ah v' w):Rel u c Y ⟨t,nx,fr.st k v',hf⟩ s:=by
 show R.L5 λM j=>x12 R.here λm g F=>?_;cases K1 g j;show⟨λn w e kd=>?_,λn w e kd=>?_⟩
 .rw[C.aL.f0]at e;by_cases q:n=k
  .k_lt q;rw[if_pos rfl]at e;cases e;show x12 (F.loc n v (by rw[C.aL.f0,if_pos rfl]) kd) λx E d=>⟨x,E,h x d⟩
  .rw[if_neg q]at e;show F.loc n w (by rw[C.aL.f0,if_neg q];show e) kd
 .rw[C.aL.f0]at e;by_cases q:n=k
  .k_lt q;haveI:=F.bt n v (by rw[C.aL.f0,if_pos rfl]) kd
   cases v<;>first |show this.elim |show absurd rfl (f _)
  .rw[if_neg q]at e;show F.bt n w (by rw[C.aL.f0,if_neg q];show e) kd
structure vG(u:bf)(k d:Nat):Prop where
 g6:∀a,ck u ⟨k,257*((1024^k - 1)/1023)⟩ a->dK u (G.m_ u.cl) a
 hd:d<256
 cD:u.fJ.toNat=d
def vG.u7(H:vG u k d)(h:az u ah (.aZ ⟨k,d*((1024^k - 1)/1023)⟩) w):az u ah (G.m_ u.cl) w:=by
 obtain⟨a,t,e,f⟩:=h;haveI y:ck u ⟨1,d⟩ #[u.fJ]:=ck.one (.inl ⟨H.hd,H.cD⟩) (o6 H.hd (by x_go))
 haveI c:ck u ⟨1,257⟩ #[u.fJ]:=ck.one (.inr (.inr ⟨rfl,rfl⟩)) (by x_go)
 obtain rfl:a=jT k u.fJ:=ck.ext f (y.EH rfl);show⟨_,t,e,H.g6 _ (c.EH rfl)⟩
def W3(e:C.jC f g [] call L= .next bH):∃F,f [] call L= .next F/\g [] call F= .next bH:=by
 haveI e:(f [] call L).seq (λL=>g [] call L)= .next bH:=e
 cases q:f [] call L with
 |next F=>rw[q]at e;show⟨F,rfl,e⟩
 |_=>rw[q]at e;cases e
def pn(T:Txt dt u.K)(h:(dZ dt (.fH a r)).e1 sc b=ae):eD u sc n (C.run u.ao n) ((dZ dt a).s (eG b)) (C.c8 u.ao a)/\(dZ dt r).e1 sc b.tail=ae:=⟨(oQ T n a).s sc _ (au h),ak h⟩
noncomputable def D7:List C.Sel:= [.fr 209, .fr 89, .fr 248]
end
section
open Mine.C (X dv)
open Mine.G (l2 nt kq m_ sz vL oU sA vM vN vO vP vQ vi vj rQ)
def mC:cS:=(t0.st (.cell aa) 2).st (.cell aa) 3
def zn:aL:=(aL.st 89 (.ref 2) (.cons 247 (.hA 0) .nil)).st 209 (.ref 3)
def Zq(B:Bool)(x y:O):C.kp 4 D7 ⟨((mC.st (.list []) 4).st x 5).st y 6,7,(zn.st 248 (.ref 5)).st 12 (m_ B),af⟩ (l2 .nul) (kq B .nil)=(x,ae):=by cases B<;>k_go
def W4(B:Bool)(x y z:O):C.kp 4 D7 ⟨(((mC.st (.list []) 4).st z 5).st x 6).st y 7,8,(zn.st 248 (.ref 6)).st 12 (m_ B),af⟩ (l2 .nul) (kq B .nil)=(x,ae):=by cases B<;>k_go
def Jk(x:O):l2 x=(l2 .nul).st x 4:=by k_go
def W5(x:O):l2 x=C.sd [.tab, .tab, .cell aa, .cell aa,x] 0 .lf:=by k_go
def Ky(x:O):i_ x=(i_ .nul).st x 2:=by k_go
def Zr(x:O):i_ x=C.sd [.tab, .tab,x] 0 .lf:=by k_go
section
variable{c:aV}{A:b2}{L bH:bU}{s:ax}{n:Nat}{ms:List Nat}{rest:List b_}{Q:ja->ax->Prop}{E:aj->ax->Prop}{l:ar}{ns:List Int}
def MP(R:Rel u c Y L s)(hf:L.hf=af)(h:C.kp 4 D7 L (l2 .nul) (kq B .nil)=(fR ms,ae)):∃aE,Rel u c aE (nt B (fR ms)) s:=by
 show x12 (R.Cv (aU:=l2 (fR ms)) h (λj d=>by rw[Jk];show C.T.bO _ _ d) (λJ=>⟨ms.map kT,Cy ms,by rw[Jk];show C.T.cT ..⟩) (by x_go) ⟨rfl,rfl⟩
  λj d=>by rw[W5];show B0 _ 0 .lf (λJ J=>rfl) j ((kN 5).symm▸d)) λaE R' J=>?_
 rw[hf]at R';show⟨aE,R'⟩
def ac7(R:Rel u c Y L s)(hf:L.hf=af)(h:C.kp 2 [.fr 248] L (i_ .nul) kv=(fR ms,ae)):∃aE,Rel u c aE ⟨i_ (fR ms),3,kv,af⟩ s:=by
 show x12 (R.Cv (aU:=i_ (fR ms)) h (λj d=>by rw[Ky];show C.T.bO _ _ d) (λJ=>⟨ms.map kT,Cy ms,by rw[Ky];show C.T.cT ..⟩) (by x_go) ⟨rfl,rfl⟩
  λj d=>by rw[Zr];show B0 _ 0 .lf (λJ J=>rfl) j ((kN 3).symm▸d)) λaE R' J=>?_
 rw[hf]at R';show⟨aE,R'⟩
def agp(H:vG u (1+(iY ns).sum % 70) ((iY ns).sum % 250+1))(g:eD u sc n call a (f1 u ns))(j:eD u sc n call b (f2 u))(R:Rel u c Y ⟨mC,4,zn,af⟩ s)(ac:Act c A sc n)(a9:hY c)
 (K:∀aE an,Rel u c aE (nt u.cl (fR (iY ns))) an->aG u.M A (d3 rest c.env) Q E an):aG u.M A (d3 (a::b::rest) c.env) Q E s:=by
 cases ns with
 |nil=>
  show step g R ac a9 (abd rfl) λk S r=>step j r ac a9 (Lw rfl (C.T.cT ..) (by x_go)) λbp a5 d=>x11 (MP (ms:=iY []) (d.OQ (v':=m_ u.cl) (λJ=>nofun) λw=>H.u7) rfl (Zq u.cl _ _)) λc6 f=>?_
  show K c6 a5 f
 |cons i q=>
  show step g R ac a9 (Zj rfl) λk S r=>step j r ac a9 (Lw rfl (C.T.cT ..) (by x_go)) λbp a5 d=>x11 (MP (ms:=iY (i::q)) (d.OQ (v':=m_ u.cl) (λJ=>nofun) λw=>H.u7) rfl (W4 u.cl _ _ _)) λc6 f=>?_
  show K c6 a5 f
def Uc{r:bl}{x:O}(h:G.ut r=(x,ae)):∃L,r= .next L/\C.kp 2 [.fr 248] L (i_ .nul) kv=(x,ae):=by
 cases r with
 |next L=>show⟨L,rfl,h⟩
 |_=>cases h
def Vl(ns:List Int):(iY ns).length<1000:=by
 cases ns with
 |nil=>decide
 |cons i q=>change((xd 8 (i::q)).map _).length<1000;rw[dC,tc];omega
def abi(T:Txt dt u.K)(S:ll u l ns):a1 u n (C.run u.ao n) (dZ dt sz) (f1 u ns):=ME Cp (MC (aa_ S) (oQ T n (.lst (.cons (.a6 (bP 0)) .nil))) (MD (oQ T n (.bin .Mod (.qf (.bG 249 (.bi .abs)) (.cons (.loc 235) .nil)) (.bin .Pow (.a6 (bP 10)) (.a6 (bP 9))))) Cp (ac5 S (oQ T n .f7) (oQ T n (.a6 (bP 8))))))
end
end
section
open Mine.C (X dv)
open Mine.G (l2 nt kq m_ sz vL oU sA vM vN vO vP vQ vi vj rQ)
variable{c:aV}{A:b2}{L bH:bU}{s:ax}{n:Nat}{ms:List Nat}{rest:List b_}{Q:ja->ax->Prop}{E:aj->ax->Prop}{l:ar}{ns:List Int}
def MQ(T:Txt dt u.K)(h:(dZ dt (.fH a r)).e1 sc b=ae)(R:Rel u c Y L s)(ac:Act c A sc n)(a9:hY c)(e:C.c8 u.ao a [] (C.run u.ao n) L= .next bH)(K:(dZ dt r).e1 sc b.tail=ae->∀aE an,Rel u c aE bH an->aG u.M A (d3 ((dZ dt r).l b.tail) c.env) Q E an):
 aG u.M A (d3 ((dZ dt (.fH a r)).l b) c.env) Q E s:=step (pn (n:=n) T h).1 R ac a9 e (K (pn (n:=n) T h).2)
def abj(T:Txt dt u.K)(ac:Act c A sc n)(a9:hY c)(K:∀b aE an,(dZ dt r).e1 sc b=ae->Rel u c aE bH an->aG u.M A (d3 ((dZ dt r).l b) c.env) Q E an):∀(l:List X) (b:List b_) (Y:b1) (L:bU) (s:ax),(dZ dt (l.foldr X.fH r)).e1 sc b=ae->Rel u c Y L s->
 C.c8 u.ao (l.foldr X.fH .bx) [] (C.run u.ao n) L= .next bH->aG u.M A (d3 ((dZ dt (l.foldr X.fH r)).l b) c.env) Q E s:=λl=>by
 cases l with
 |nil=>showλb Y L s h R e=>K b Y s h (by cases show C.R.next L= .next bH from e;show R)
 |cons a l i=>intro b Y L s h R e;show x12 (W3 e) λd x e=>MQ T h R ac a9 x λag aE an R'=>i b.tail aE d an ag R' e
def W6(T:Txt dt u.K){l:List X}(gd:∃q,C.c8 u.ao (l.foldr X.fH .bx) [] (C.run u.ao 60) L= .next q/\C.kp 2 [.fr 248] q (i_ .nul) kv=(fR ms,ae))(vS:∃q,C.c8 u.ao z [] (C.run u.ao 60) ⟨i_ (fR ms),3,kv,af⟩= .ret .tt q)
 (hf:c.hf=af)(ac:Act c A sc 60)(a9:hY c)(h:(dZ dt (l.foldr X.fH (.fH z .bx))).e1 sc b=ae)(R:Rel u c Y L s):
 aG u.M A (d3 ((dZ dt (l.foldr X.fH (.fH z .bx))).l b) c.env) (λf an=>f= .ret (.bool ae)/\∃Y L,Rel u c Y L an) (λJ J=>False) s:=gd.elim λq y=>vS.elim λi e=>abj T ac a9 (λb aE an ag R'=>(ac7 R' (R'.hf.trans hf) y.2).elim λj d=>W2 (pn T ag).1 d ac a9 e λg S r=>⟨rfl,g,i,r⟩) l b Y L s h R y.1
def Zs(T:Txt dt u.K)(g3:G.l_ u.cl (C.c8 u.ao oU [] (C.run u.ao 60) L)=(fR ms,ae))(K:∀b Y s,(dZ dt z).e1 sc b=ae->Rel u c Y (hb u.cl ms) s->aG u.M A (d3 ((dZ dt z).l b) c.env) Q E s)(hf:c.hf=af)(ac:Act c A sc 60)(a9:hY c)(dF:(dZ dt (.fH oU (.fH sA z))).e1 sc b=ae)(R:Rel u c Y L s):
 aG u.M A (d3 ((dZ dt (.fH oU (.fH sA z))).l b) c.env) Q E s:=by
 show x11 (Ix g3) λbn f=>MQ (a:=oU) T dF R ac a9 f λk bp a5 r=>(NQ r (r.hf.trans hf) (f▸g3)).elim λc6 x=>?_;haveI d:(l5 ((dZ dt (.loc 248)).e (ek (eG b.tail)))&&(af==od ((dZ dt (.aO 235)).e (Mine.S.cI (eG b.tail)))&&((dZ dt (.loc 248)).de sc (ek (eG b.tail))&&((dZ dt (.aO 235)).qA sc (Mine.S.cI (eG b.tail))&&(dZ dt G.sB).e1 sc (e0 (eG b.tail))))))=ae:=au (b:=(dZ dt z).e1 sc b.tail.tail) k;show Zp (rb (au d) _) ((oQ T 60 (.loc 248)).e sc _ (au (ak (ak d)))) ((oQ T 60 (.aO 235)).g sc _ (au (ak (ak (ak d))))) ((oQ T 60 G.sB).l sc _ (ak (ak (ak (ak d))))) x.1 ac a9 λi S g=>K b.tail.tail i S (ak (a:=(dZ dt sA).ks sc (eG b.tail)) k) g
def W7(T:Txt dt u.K)(S:ll u l ns)(H:vG u (1+(iY ns).sum % 70) ((iY ns).sum % 250+1)){b:List b_}(e:(dZ dt rQ).l b=b)(k:(dZ dt rQ).e1 sc b=ae)(R:Rel u c Y ⟨mC,4,zn,af⟩ s)(ac:Act c A sc 60)(a9:hY c):
 aG u.M A (d3 b c.env) (λf an=>f= .ret (.bool ae)/\∃Y L,Rel u c Y L an) (λJ J=>False) s:=by
 rw[<-e];show agp H ((abi T S).s sc _ (au k)) (pn (a:=vL) T (pn (n:=60) (a:=sz) T k).2).1 R ac a9 λg d r=>Zs T (G.dF u.cl (fR (iY ns))) (λb Y s h R=>W6 (l:= [vM,vN,vO,vP,vQ,vi]) (z:=vj) T (Uc (G.gd u.cl (fR (iY ns)))) (Zo (Vl ns)) r.hf.symm ac a9 h R) r.hf.symm ac a9 (pn (n:=60) (a:=vL) T (pn (n:=60) (a:=sz) T k).2).2 r
end
section
open Mine.C (X dv)
open Mine.Head
def ac8:d9 145=⟨[247], [], [89,209], [],af,G.rQ, .no⟩:=by k_go
def ll.agq{w:b3}{s:ax}{l:ar}(m:Nat):∃B bJ fJ,bJ<(G.jb B).F/\vG (nL w s l B bJ fJ) (1+m % 70) (m % 250+1):=by
 have d:m % 250+1<256:=jQ (kQ m (by x_go):m % 250+1<=250) (by x_go)
 have i:(kP (m % 250+1)).toNat=m % 250+1:=UInt8.toNat_ofNat_of_lt' d;have f:m % 70<70:=kQ _ (by x_go)
 revert f;generalize m % 70=r;intro f;by_cases h:1+r<=64
 .have c:r<64:=e2 (Nat.lt_add_of_pos_left (by x_go)) h
  show⟨af,r,kP (m % 250+1),c,λa y=>⟨_,?_,y⟩,d,i⟩;change C.dj (j1 (λn=>(⟨n+1,G.uV (n+1)⟩:dE)) (eT 64)) r=_;rw[C.hq,iQ,zS c,jV 1];rfl
 .have g:64<=r:=zX (e2 (Nat.not_le.mp h) (hi (jV 1 r)));have c:r - 64<6:=FD g f;show⟨ae,r - 64,kP (m % 250+1),c,λa y=>⟨_,?_,y⟩,d,i⟩;change C.dj (j1 (λn=>(⟨n+65,G.uV (n+65)⟩:dE)) (eT 6)) (r - 64)=_;rw[C.hq,iQ,zS c,show 1+r=r - 64+65 from(jV 1 r).trans (congrArg da (QC g).symm)];rfl
def abk{w:b3}{s:ax}{l:ar}{ns:List Int}{o:Obj}{vs:Array aj}{m:Nat}(k:∀b o,(gG w.params).get? b=U o->s.heap.get? b=U o)(gens:s.gens=#[])
 (g:s.heap.get? l=U o)(r:o.cls= .type "list")(A:o.data= .seq vs m)(ai:bI (λi v=>∃t,v=n0 i t) ns vs.toList)(hz:vs.size<=5000):
 aG (aN cC w) n8 (bv (.ref (eE 145)) [.ref l]) (λv an=>v= .bool ae/\OldK s.heap an.heap/\an.os=s.os/\an.gens=#[]) (λJ J=>False) s:=by
 show x32 (ll.agq (w:=w) (s:=s) (l:=l) (iY ns).sum) λB bJ fJ u H=>?_;have T:eQ (nL w s l B bJ fJ):=MO u k;have D:l∉fe:=λh=>by have:=pv k h;cases g.symm.trans this;cases r
 have S:ll (nL w s l B bJ fJ) l ns:=⟨o,vs,m,(rH s l).trans ((m4 D).trans g),r,A,ai,hz,rfl⟩;have j:Txt dt (nL w s l B bJ fJ).K:=ago w.params;have M:145∈eT 146:=by x_go
 have d:=s9.mp j.t1 145 M;have E:=eL j.iI M;have n:=eL j.v8 M;unfold EZ zi at d;unfold EY at E;unfold D0 at n;cases q:oE (nL w s l B bJ fJ).K 145 with
 |none=>rw[q]at E;cases E
 |some p=>
  obtain⟨fd,b⟩:=p;rw[q]at d E n;show x02 (Kc (f:=d9 145) q n) λF y=>?_;have d:(dZ dt (d9 145).body).l b=b:=d;have E:(dZ dt (d9 145).body).e1 fd.scope b=ae:=E;rw[ac8]at F d E;have X:(nL w s l B bJ fJ).K.In s.heap:=λa o e=>Cw ((rH s a).symm.trans (T.fs a o e));show q9 (K2 (Y:=zl) (cf:=qp s) (t:=t0) (nx:=2) (hf:=af) (as:= [.hA 0]) (ws:= [.ref l]) T X F (.cons rfl .nil) rfl (by z_go) (λJ=>rfl) (T.lim.keeps λb o e=>Cw ((rH s b).symm.trans e))
   (λbj ag tk aI c K I=>aez u k gens F.kind y c K I) λbj an P c J z R=>HI ?_)
  have ac:Act (qp s bj) (n8.deeper bj) fd.scope 60:=⟨rfl,⟨bj, [],bj.locals,rfl,c.frame,c.frame,rfl⟩,by change bj.scope.kind=_;rw[c.scope];show F.kind,c.bG,c.ny,(show 1+claimMargin+1+6*60<900 by z_go),(show 4+3+30*60<9000 by x_go), .inl rfl,z⟩
  show a0 (W7 j S H d E R ac ⟨[],rfl⟩) (λf O x=>?_) λJ J x=>x.elim;obtain⟨rfl,aE,bH,R'⟩:=x;show⟨rfl,aeA R' k,R'.os,R'.gens⟩
end
section
open PySem.Spec
noncomputable abbrev zo:PySem.Ctx:=⟨.builtin "claim.caller" {},aa,aa, [],aa⟩
def agr:Fg zo:=⟨by z_go,λx c=>by cases c⟩
def SL{prog:eP}{w:b3}{t:Sem Fin}{s:ax}{R:h6->ax->Prop}(i:s.asleep)
 (h:aG (aN prog w) n8 t (λc an=>∃f,c= .done f/\(R (.ok f) an/\Ac an.gens=af)) (λe an=>R (.error e) an/\Ac an.gens=af) s):
 ∃n r an q,runN (denote hs) prog w n s ⟨t, .builtin "claim.caller" {},default, []⟩= .halted (outcomeOf r) an/\
  schedN (denote hs) prog w n (.single s ⟨t, .builtin "claim.caller" {},default, []⟩)= .halted (outcomeOf r) an/\an.forget=q.forget/\R r q:=by
 haveI hw:Sem.wp (aN prog w) zo t (Sem.finPost (aN prog w) zo λr an=>R r an/\Ac an.gens=af) (λe J an=>R (.error e) an/\Ac an.gens=af) default s:=by show tu _ _ t (λc p' an ag=>?_) (λJ J J ag=>ag) default s (h zo default caller_in agr);show x12 ag λf o hf=>?_;k_lt o;show hf
 show x44 (wp_halts_full (M:=aN prog w) (R:=R) i hw) λn r S a5 am j d g=>⟨n,r,a5,S,j,am,d,g⟩
def Vm{c:ClaimW}{tree:List aj->Sem Fin}{w:b3}{s:ax}{free:ar->Prop}{gens:Prop}{kept:Heap->Prop}(hz:s.asleep)(aI:s.gens=#[])
 (I:∀args,c.pre args=ae->GC args=ae->∀ord:List hF->List hF,(∀l,(ord l).Perm l)->
  ∃vs q,layAllW c.records (t6 s.heap) w.params ord args s=U (vs,q)/\
   aG (aN c.prog w) n8 (tree vs) (λB an=>∃f,B= .done f/\(c.Ends s args vs q (.ok f) an/\an.os=s.os/\AllBare an.gens/\kept an.heap))
    (λe an=>c.Ends s args vs q (.error e) an/\an.os=s.os/\AllBare an.gens/\kept an.heap) q):
 c.CallFrom (λvs=>⟨tree vs, .builtin "claim.caller" {},default, []⟩) w free gens kept s:=by
 intro args O E ord M;show x22 (I args O E ord M) λvs q u D=>?_;haveI A:=S4 _ _ _ u;show x42 (SL (prog:=c.prog) (w:=w) (t:=tree vs) (s:=q) (R:=λr an=>c.Ends s args vs q r an/\an.os=s.os/\kept an.heap) (ax.asleep_of_life A.2.2.2 hz)
  (a0 D (λB an x=>x11 x λf x=>⟨f,x.1,⟨x.2.1,x.2.2.1,x.2.2.2.2⟩,Pr x.2.2.2.1⟩) λe an x=>⟨⟨x.1,x.2.1,x.2.2.2⟩,Pr x.2.2.1⟩)) λk r an S K d=>?_
 haveI p:=ax.forget_eq d.2.1;show⟨vs,q,u,k,_,an,d.1,(d.2.2.1.congr p.1).imp (λx=>x.elim λv y=>⟨v,congrArg _ y.1,y.2.1,y.2.2.1,y.2.2.2.1,λb o z J=>y.2.2.2.2.1 b o z,y.2.2.2.2.2⟩)
  (λx=>x.elim λe x=>x.elim λb7 x=>x.elim λai y=>⟨e,b7,ai,congrArg _ y.1,y.2.1,y.2.2.1,y.2.2.2.1,y.2.2.2.2.1,λb o z J=>y.2.2.2.2.2 b o z⟩),
  (λJ i x ac=>by rw[aI]at ac;simp at ac),p.1▸d.2.2.2.2,congrArg _ ((runN_life _ _ _ K).trans A.2.2.2),ax.rest_eq (p.2.2.2.1.symm▸d.2.2.2.1)⟩
abbrev MR(q:eP)(l:List Str)(XP:(Str->Option aj)->Heap->Prop){α:Type}(Yf:ax->α)(Ya:b3->α)(r:RowW)(d:DefRec)(K:List (Str×aT)):Prop:=∀(w:b3) (S s:ax) (d1 aW:Str->Option aj),x1 q l r.records XP w S d1 aW s.heap->Yf S=Ya w->∀(a:ar) (o:Obj) (pm c f D k:aj),s.heap.get? a=U o->
  o.data= .func {docDef d.name d.params d.body d.scope pm c f with defaults:=D,kwdefaults:=k}->s.heap.CodeRec c d.name->Dflts d1 s.heap d.params K D k->d1 d.name=U (.ref a)->s.gens=#[]->
  ∀(args:List uJ) (vals:List aj) (as:List ar),Laid r.records w S s args vals as->r.claim.pre args=ae->GC args=ae->ReadsAllW r.records (t6 S.heap) s.heap vals args as->WellAll w.params s.heap vals args->(∀a∈as,(a==qV)=af)->
   aG (aN r.prog w) n8 (bv (.ref a) vals) (λv an=>uj r.claim (t6 S.heap) (At S.heap) args s (.ok (.ret v)) an)
    (λe an=>uj r.claim (t6 S.heap) (At S.heap) args s (.error e) an) s
def Vn{r:RowW}{tree:List aj->Sem Fin}{q:eP}{l T m:List Str}{W:Bool}{X:ax->Bool}{XP:(Str->Option aj)->Heap->Prop}{α:Type}{Yf:ax->α}{Ya:b3->α}{N:Nat}
 (B:LeftO r.prog q l X Yf Ya N)(A:∀s,X s=ae->XP (s.heap.nsMap d2) s.heap)(ags:∀d1 h ag,XP d1 h->(∀b o,h.get? b=U o->ag.get? b=U o)->XP d1 ag)
 (agt:∀s,X s=ae->Js r.records s.heap)(V:(!W || r.records.isEmpty)=ae)(ok:(Jm q&&Iz r.prog&&(frees r&&r.within.isEmpty))=ae)(cD:r.prog.bare)(hw:r.promised)
 (jN:∀vs (w:b3) (s:ax) d1 f (Q:Fin->ax->Prop) (E:aj->ax->Prop),s.heap.Ns d2 d1->d1 r.name=U f->aG (aN r.prog w) n8 (bv f vs) (λv an=>Q (.done (.ret v)) an) E s->aG (aN r.prog w) n8 (tree vs) Q E s)
 (pin:∀w s,s.heap.isNs d2=ae->x1 q l [] XP w s (s.heap.nsMap d2) (s.heap.nsMap hj) s.heap->∀n∈T,isTheDefsW r.prog s.heap n)
 (call:∀(w:b3) (i S:ax) (d1 aW:Str->Option aj),x1 q l r.records XP w i d1 aW S.heap->Yf i=Ya w->∀(args:List uJ) (vs:List aj) (as:List ar),r.claim.pre args=ae->GC args=ae->Laid r.records w i S args vs as->qV<i.heap.objs.size->∃f,d1 r.name=U f/\
   aG (aN r.prog w) n8 (bv f vs) (λv an=>uj r.claim (t6 i.heap) (At i.heap) args S (.ok (.ret v)) an)
    (λe an=>uj r.claim (t6 i.heap) (At i.heap) args S (.error e) an) S):r.claim.HoldsOpenBy (λvs=>⟨tree vs, .builtin "claim.caller" {},default, []⟩) T m W:=by
 show x02 (dx.mp ok) λok gd=>x02 (dx.mp ok) λM nJ=>?_;show x02 (dx.mp gd) λgd vS=>x05 (frees_parts gd) λF O3 d7 agu hm=>?_;have behind:=λw=>B.behind A M w;have Zt:=λw=>B.behind (XP:=λd1 h=>XP d1 h/\Js r.records h) (λs am=>⟨A s am,agt s am⟩) M w;show⟨⟨cD,nJ,by change r.makers.map _= [];rw[hm];rfl⟩,hw.witness,λw=>⟨(behind w).1,λan dI=>?_⟩⟩
 show x11 ((Zt w).2 an dI) λi I=>x11 I.2.2 λs p=>?_;have d:=p.2.2.2.2.1;have D:x1 q l [] XP w s (s.heap.nsMap d2) (s.heap.nsMap hj) s.heap:=⟨d.T,d.B,d.D,d.TE,d.TD,d.W,d.X.1,d.cls,d.has,d.apart,d.once,d.K⟩;have R:=d.X.2;have k:s.gens=#[]:=Array.eq_empty_of_size_eq_zero (beq_iff_eq.mp p.2.2.1);show⟨i,I.1,I.2.1,s,p.1,pin w s p.2.2.2.1 D,R.1,R.2.1,Vm (c:=r.claim) p.2.1 k λargs O x ord H=>?_⟩;have ai:x1 q l r.records XP w s _ _ s.heap:=R.ground D;show x11 (qE.mp (layAllW_isSome (P:=w.params) (ord:=ord) ai.has args r.args s (pre_splitW O).1)) λcv j=>?_;obtain⟨vs,S⟩:=cv;have K:=layAllW_keeps _ _ _ j;have aI:=S4 _ _ _ j;show x13 (reads_layAllW H _ _ _ j x S.heap (λJ J e=>e)) λas bD Z bN=>?_;have aq:Laid r.records w s S args vs as:=⟨⟨ord,H,j⟩,bD,Z,bN,K,aI.1.trans k,aI.2.2.1⟩;have I:=ai.keeps ags K;show x12 (call w s S _ _ I p.2.2.2.2.2 args vs as O x aq ai.low) λf hf h=>?_;have u:=ident_freeW O3 d7 agu;have ac:r.claim.within= []:=wz.mp vS;show⟨vs,S,j,jN vs w S _ f _ _ I.T.g hf (a0 h (λv an g=>?_) λe an g=>?_)⟩
 .have z:=g.laid (c:=r.claim) F ac u aq;show⟨_,rfl,z.1,z.2.1,z.2.2,λq=>⟨S5 p.1 p.2.2.2.1 m K g.2.1.old,noTable V q⟩⟩
 .have z:=g.laid (c:=r.claim) F ac u aq;show⟨z.1,z.2.1,z.2.2,λq=>⟨S5 p.1 p.2.2.2.1 m K g.2.1.old,noTable V q⟩⟩
def Ts{r:OpenRow}{q:eP}{l:List Str}{X:ax->Bool}{XP:(Str->Option aj)->Heap->Prop}{α:Type}{Yf:ax->α}{Ya:b3->α}{d:DefRec}{k:List (Str×aT)}{N:Nat}
 (A:LeftO r.prog q l X Yf Ya N)(y:∀s,X s=ae->XP (s.heap.nsMap d2) s.heap)(j:∀d1 h ag,XP d1 h->(∀b o,h.get? b=U o->ag.get? b=U o)->XP d1 ag)
 (c:defOf q r.name=U (d,k))(T:r.prog.theDef r.name=U (d.params,d.body,d.scope))(m:kwWritten? d.params.kwonlyargs d.params.kw_defaults=U k)(p:∀s,X s=ae->Js r.records s.heap)(I:(!r.writes || r.records.isEmpty)=ae)
 (K:r.wellSaid=ae)(ok:(Jm q&&Iz r.prog&&(frees r.toRowW&&r.within.isEmpty))=ae)(v:r.prog.bare)(hw:r.toRowW.promised)
 (call:MR q l XP Yf Ya r.toRowW d k):r.Holds:=by
 show⟨K,hw,Vn (r:=r.toRowW) (tree:=λvs=>do match<-nsGet mainNs r.name with
  |some f=>do ret (<-bv f vs)
  |none=>Hz "claim.caller:no-such-global") A y j p I ok v hw
  (λvs w s d1 f Q E g hf h=>aF (bo (HF g (by rw[hf];show aF (a0 h (λJ J x=>bL x) λJ J x=>x)))))
  (λw s g ai n V=>?_) λw P S d1 aW ai bD args vs as O u aq low=>?_⟩
 .obtain rfl:n=r.name:=by split at V<;>simp_all
  show pinned_of_view g ai c T m
 .show x11 (ai.fn c) λa x=>x11 x λo x=>x11 x λb x=>x11 x λac x=>x11 x λD x=>x11 x λB x=>x11 x λz x=>?_;show⟨.ref a,x.1,call w P S d1 aW ai bD a o b ac D B z x.2.1 x.2.2.1 x.2.2.2.1 x.2.2.2.2 (defOf_name c▸x.1) aq.gens args vs as aq O u aq.reads aq.well (aq.low low)⟩
end
section
open Mine.Head
def W8{R:WRecords}{ac:Str->Option ar}{h:Heap}(xs:List uJ):∀{vs:List aj} {as:List ar},Ad R xs .int=ae->ReadsAllW R ac h vs xs as->vs.length=xs.length/\∃ns:List Int,bI (λi v=>∃t,v=n0 i t) ns vs:=by
 cases xs with
 |nil=>showλJ r=>(readsAllW_nil_inv r).1▸⟨rfl, [], .nil⟩
 |cons x xs I=>intro vs as q r;rw[Ad,lL]at q;show x44 (readsAllW_cons_inv r) λv V au ak e J c T=>?_;have z:=I q.2 T;rw[e];show⟨congrArg da z.1,(hasW_int q.1).elim λi e=>(readsW_int_inv (e▸c)).elim λt y=>z.2.elim λns A=>⟨i::ns, .cons ⟨t,y.1⟩ A⟩⟩
def W9{args:List uJ}(h:wb.row.toRowW.claim.pre args=ae):∃xs,args= [.list xs]/\Ad [] xs .int=ae/\xs.length<=63:=by show x02 (pre_splitW h) λf c=>?_;show x23 (hasAllW_cons f) λd r o a b=>?_;k_lt o;obtain rfl:=hasAllW_nil b;show x12 (hasW_list a) λxs o g=>?_;k_lt o;show⟨xs,rfl,g,?_⟩;have v:WTm.value [] (.and (.not (.lt (.lit (.int 63)) (.len (.arg 0)))) (.lit (.bool ae))) {args:= [.list xs]}=U (.bool (!decide ((63:Int)<xs.length)&&ae)):=PySem.W.w_and (PySem.W.w_not (PySem.W.w_lt So (PySem.W.w_len_list (PySem.W.w_arg rfl)))) So;have d:=(dx.mp (condW_of c v)).1;show Gs λq=>by rw[decide_eq_true (show(63:Int)<xs.length by omega)]at d;cases d
end
section
open PySem.W.X
open Mine.Head
def W_(P:cj):gX (eH P) d2 n_.name=U (U (.ref 1220)):=by k_go
def Xa(xs:List uJ):WTm.holds [] (.eq .res (.lit (.bool ae))) {args:= [.list xs],res:=U (.bool ae),after:= [.list xs]}=ae:=by k_go
def abl{w:b3}{s:ax}{c:Str->Option ar}{m:ExcName->Option aj}(k:∀b o,(gG w.params).get? b=U o->s.heap.get? b=U o)(gens:s.gens=#[]){xs:List uJ}{v:aj}{as:List ar}(d:Ad [] xs .int=ae)(hz:xs.length<=63)(i:ReadsW [] c s.heap v (.list xs) as):
 aG (aN cC w) n8 (bv (.ref 1220) [v]) (λv an=>uj nu.row.toRowW.claim c m [.list xs] s (.ok (.ret v)) an) (λe an=>uj nu.row.toRowW.claim c m [.list xs] s (.error e) an) s:=by
 cases(i)with
 |list g j f r=>
  have z:=W8 xs d r;show z.2.elim λns A=>?_;rw[<-show eE 145=1220 by delta eE;rfl]
  show a0 (abk k gens g j f A (c7 (hi (eo.symm.trans z.1)) (c7 hz (by x_go)))) (λv an y=>y.1▸⟨.inl ⟨.bool ae, .bool ae, [],rfl,λJ=>rfl, .bool ae,dx.mpr ⟨rfl,Xa xs⟩,λJ=>⟨.nil,nofun⟩⟩,y.2.1,y.2.2.1, .of_eq y.2.2.2⟩) λJ J x=>x.elim
def Xb:MR na xM (XL na []) TH (λw=>gG w.params) nu.row.toRowW n_ []:=by
 intro w S s d1 aW ai g a o pm ac D n K J J J J c gens args vals as aq f J l J J;show(W9 f).elim λxs z=>?_;have k:∀b o,(gG w.params).get? b=U o->s.heap.get? b=U o:=λb o e=>aq.keeps b o ((congrArg (·.get? b) (show S.heap=gG w.params from g)).trans e);have d:eU a= .ref 1220:=bY (c.symm.trans (mg_of (λa o e=>k a o (J8 _ _ _ (pV w.params a o e))) ai.T.g (W_ w.params)));rw[d];clear aq f d c;show x03 z λO i hz=>?_;k_lt O;cases(l)with
 |cons j m=>cases m;show abl k gens i hz j
def holds:nu.Holds:=by
 show holds_law ZF λS=>Ts (ZG (Yf:=TH) (Ya:=λw=>gG w.params) λJ J=>rfl) (λs e=>xl_of s (dx.mp e).1) XL.keeps abR Vu adA (λs e=>recFacts_of (dx.mp e).2) rfl S adB ⟨rfl,rfl,rfl,rfl,rfl,by z_go⟩ ?hw Xb
 case hw=>w_witness2
end
end Mine.S
theorem PySem.Challenge.cw_pq0907_01_holds : PySem.Challenge.rw_pq0907_01.Holds := by
 show Mine.S.holds
