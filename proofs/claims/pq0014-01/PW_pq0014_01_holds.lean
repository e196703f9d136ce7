import PyProof.Rows.All
import Wide.All
import OpenK.AllK
import Wide.FinOn
import Lean
import PySem.Challenge.RW_pq0014_01
set_option maxRecDepth 1000000
set_option linter.all false
set_option Elab.async false
set_option tactic.hygienic false
set_option genSizeOf false
set_option genSizeOfSpec false
set_option genInjectivity false
set_option bootstrap.genMatcherCode false
set_option compiler.extract_closed false
open And renaming intro->UP
open Array renaming length_toList->A2,getElem?_toList->W6,getElem?_eq_getElem->Ea,getD->EH,forIn_toList->Gl,toList_push->Js,mk->Mv,mem_of_getElem?->MJ,toList_append->UN,size_map->mV,toList_filterMap->pC,isEmpty_iff->pS
open Array.Perm renaming refl->N'
open Bool renaming true->a8,false->c8,and_eq_true->C4,eq_iff_iff->P2,false_eq_true->Bv,false_ne_true->Cc,or_eq_true->jO,not_eq_true'->oH
open Char renaming toNat->Gi
open Classical renaming byContradiction->CL,propDecidable->DO
open Eq renaming mp->VQ
open ForIn renaming forIn->Hx
open ForInStep renaming yield->Gw
open Function renaming comp->Hs
open Int renaming toNat_natCast->Q7,lt_of_le_of_lt->DT,le_of_lt->Gn,le_trans->Jt,natCast_nonneg->Jx,toNat_of_nonneg->Mr,ofNat->Pm,eq_ofNat_of_zero_le->PU,neg_nonpos_of_nonneg->PY,toNat_lt->Qq,max_eq_left->Vj,lt_trans->Vn,max_eq_right->VI,fmod_nonneg_of_pos->jE,min_eq_right->jF,ediv_one->lG,ofNat_nonneg->nD,min_eq_left->nL,lt_of_lt_of_le->oD,sub_sub->oF,le_antisymm->qH
open Int.ofNat renaming inj->Ps
open LawfulBEq renaming eq_of_beq->O1
open LawfulMonad renaming bind_assoc->lA
open List renaming length_map->f7,mem_cons_self->j5,mem_cons_of_mem->k8,getElem?_map->o7,mem_singleton->o9,range->p0,mem_of_getElem?->p8,map_append->p9,length_append->u7,getElem?_eq_getElem->v5,map_map->v9,map_cons->y4,map_congr_left->A1,mem_append_left->G1,not_mem_nil->J7,mem_cons->K5,mem_append_right->K6,length_cons->N6,length_take->O9,filter->V1,all_eq_true->V6,mem_map_of_mem->V9,map_nil->W0,take_length->X6,append_nil->Y5,pairwise_map->Y6,take_add_one->Af,getElem?_eq_none->Au,nodup_cons->Az,getD_eq_getElem?_getD->AB,length_nil->AI,map_id->AZ,nodup_iff_pairwise_ne->Br,length_range->Bw,nodup_nil->By,nodup_append->BK,lookup_cons->BL,length->CJ,forIn_cons->Df,drop_zero->DP,zip_nil_left->DR,filter_cons->DS,length_filter_le->DX,append_assoc->Eb,getElem_mem->EN,sum_cons->Fo,idxOf_lt_length_of_mem->Ft,mem_map->Fv,ext_getElem?->Gk,take_zero->Gm,mem_append->Gr,head_cons->Hv,toArray->HB,drop_succ_cons->HK,mem_filter->HO,filterMap_cons->HQ,forIn_nil->HR,getElem_take->Jr,zip_cons_cons->Ju,of_mem_zip->Jy,exists_cons_of_length_eq_add_one->JC,length_mapIdx->JD,findIdx?_cons->JF,filter_map->JM,getElem?_range->JX,length_drop->LY,mem_of_find?_eq_some->Ma,size_toArray->Me,getElem?_zip_eq_some->Mg,findIdx?_eq_none_iff->Mj,mem_of_mem_take->Ml,all_cons->Mp,getElem?_append_left->Mq,drop->MH,getElem?_mapIdx->ML,getElem_idxOf->Pd,filter_append->Pf,foldl_cons->Pk,length_set->Pn,prefix_append->Pv,reverse_cons->Pw,getElem?_eq_none_iff->PD,find?_cons->PM,range'_succ->PN,reverse_reverse->Qb,mem_range->Qd,pairwise_singleton->Qf,map->Qg,drop_eq_nil_iff->Ql,modify_succ_cons->Qn,pairwise_append->Qs,length_zip->Qw,getElem?_cons_zero->UT,zip_nil_right->UW,mem_filterMap->UX,sum_append->UZ,filter_eq_nil_iff->Vi,find?_some->Vm,findIdx?_isSome->Vr,drop_drop->Vy,getElem?_append->VK,getElem?_toArray->VR,nodup_range->VV,take_append_drop->VY,length_pos_of_mem->Wh,getElem?_set->WF,range'->WH,getElem_map->hM,findIdx?->hZ,range_succ->iA,map_snd_zip->iC,eraseIdxIfInBounds_toArray->iM,getElem_range->iQ,exists_cons_of_ne_nil->iU,mem_flatMap->iY,drop_nil->jB,lookup->jK,zipIdx_nil->jM,getElem?_drop->jN,drop_eq_getElem_cons->jP,length_filterMap_le->jQ,length_erase_of_mem->jR,isEmpty_iff->jW,any_cons->jZ,getElem?_set_self->lZ,getElem?_cons_succ->mF,mem_of_mem_drop->mG,getElem_zip->mL,all_map->mS,range_succ_eq_map->nF,zipIdx_cons->nG,length_eraseIdx_le->nM,mem_erase_of_ne->nP,find?_isSome->nQ,find?_eq_some_iff_getElem->nR,length_eq_zero_iff->nZ,Nodup->oA,flatMap_append->oN,length_dropLast->oU,reverse_perm->oX,append_inj_left'->pE,toList_toArray->pG,getElem?_set_ne->pJ,take->pO,filter_congr->pP,map_inj_right->pR,map_reverse->pU,lookup_append->qE,getElem?_take_of_lt->qF,any_eq_true->qK
open List.Nodup renaming mem_erase_iff->zx
open List.Pairwise renaming imp_of_mem->Gg,nil->Gu,imp->qG,sublist->yj
open List.Perm renaming refl->kY,swap->mQ,map->xx,append_left->yr,cons->C',mem_iff->W',foldl_eq'->z_
open List.Sublist renaming map->j_
open List.cons renaming inj->Gq,injEq->d_
open Nat renaming le_trans->b6,lt_of_lt_of_le->j7,le_refl->l8,ne_of_lt->m6,le_of_lt->m9,lt_of_le_of_lt->q5,le_of_lt_succ->v0,le_of_eq->A5,lt_succ_self->B8,zero_le->F9,add_le_add_left->G2,le_add_right->G3,ne_of_gt->K0,le_add_left->K9,succ_pos->M7,le_succ->N8,add_le_add_right->O8,add_assoc->Q8,lt_irrefl->T9,add_le_add->U0,le_succ_of_le->U4,succ_le_succ->U6,not_lt_zero->X7,mul_le_mul_left->Y4,add_right_comm->Y7,add_comm->Ai,lt_trans->AH,le_antisymm->AL,lt_succ_of_le->BJ,lt_succ_of_lt->BM,lt_or_ge->Ce,ble->CH,add_sub_of_le->DM,lt_of_le_of_ne->DQ,min_eq_left->EI,mul_le_mul_right->EJ,add_lt_add_left->FZ,min_le_right->Ge,sub_le_of_le_add->Hz,min_eq_right->HC,add_left_comm->HJ,succ_pred_eq_of_pos->HT,add_lt_of_lt_sub->Jw,zero_add->JB,le_total->JJ,sub_pos_of_lt->JR,lt_of_mul_lt_mul_right->JT,lt_of_sub_pos->LL,beq->LN,le_of_ble_eq_true->LU,mod_lt->LZ,max_eq_left->Mn,sub_le->Mo,mul_two->Mz,max_eq_right->MB,pos_of_ne_zero->MC,lt_trichotomy->MD,min_le_left->Pc,eq_of_beq_eq_true->PE,le_div_iff_mul_le->PJ,mul_succ->Qc,lt_of_succ_le->Qk,lt_add_of_pos_right->Qm,le_of_sub_eq_zero->Va,le_sub_of_add_le->Vd,sub_add_eq->Vl,le_of_not_lt->Wg,sub_lt->Wj,sub_eq_zero_of_le->Wk,not_succ_le_zero->Wm,succ_le_of_lt->Wv,sub_le_sub_left->Wx,not_le_of_lt->WB,zero_lt_succ->WE,pow_le_pow_right->WN,lt_or_eq_of_le->iO,ble_eq_true_of_le->iX,mul_add->jG,not_succ_le_self->jJ,div_le_self->jU,lt_of_succ_lt_succ->jX,le_of_succ_le_succ->mB,succ_lt_succ_iff->mE,le_add_of_sub_le->mK,add_lt_add_right->nU,zero_lt_of_lt->nX,succ_mul->oO,pow_succ->oW,le_of_add_le_add_right->oZ,sub_add_cancel->pV,two_pos->pW,le_of_pred_lt->pY
open Nat.succ renaming inj->Aw
open Ne renaming symm->C8
open Option renaming some->a0,none->b4,map_eq_some_iff->At,map_some->Ax,bind_some->CM,map->JK,isSome_map->MO,isSome_some->Wr,isNone_some->mO,isNone_iff_eq_none->oG,some_ne_none->oY
open Option.some renaming inj->C6,injEq->AA
open Or renaming inr->Wa
open Prod renaming fst->Bu,ext->Fq,snd->mD
open Prod.mk renaming injEq->mI,inj->E_
open PyProof renaming noPylong_small->yx
open PyProof.Rows renaming seqObj->O2,IntsAre->EM,pairsOf->Fw,ClsAt->Hp,arrOf->JN,oneType'->Qt,failedOf->UV,keyLt'_oneType->Wl,K->iP,get?_update_seq->lO,listUpdate_at->mX,seqEpoch_at->pA
open PyProof.Rows.F renaming plain_set_update_loop->We,entry_set_update_loop->nI
open PySem renaming wpAny_bind->b5,Value->b8,wpAny->b9,model->d7,wpAny_pure->f6,Shared->f8,Addr->i7,Expr->j9,Heap->l5,Str->o3,cLine->t3,wpAny_mono->v6,Program->y9,Around->B7,Scope->E7,rawInt->G7,Env->I0,wpAny_holding->L0,Sem->M6,sizeLine_eq->O3,World->O7,Obj->V8,Pos->X1,DictEntry->Ag,wpAny_call_entry->Aj,NameKind->Av,SetTable->AC,Stmt->AK,wpAny_field->AY,starEach->Bt,codeAny->BI,mainGlobals->Cf,wpAny_seqItems->Cg,backTo->Ch,typeLookup->Ci,Comprehension->CK,codeAny_builtin->Dg,cellsFrom->Dh,plainId_quiet->Di,Tok->Dj,IsPair->Dk,pyIter->DW,Ctx->Ec,wpAny_rule->EK,wpAny_newObj_type->Fn,wpAny_setState_of->Fp,wpAny_standAt->Fs,wpAny_forIn_list->Fy,getItem->Ga,Model->Gb,setField->Gc,typeLookup_type->Gh,wpAny_truthy_bool->Go,pyNext->Gv,sizeLine->Hr,wpAny_Call_Name_kw->Ht,wpAny_specialOf->HH,wpAny_typeOf->HI,wpAny_setField_rec->HN,builtinLookup_eq_fast->HP,wpAny_callSpecial?_slot->HS,codeAny_mono->JA,treeTable->JH,typeOf->JI,wpAny_isInstance->JL,wpAny_items_nil->JP,OsState->JQ,builtinsNs->JS,wpAny_of_eq->JY,entryFor->JZ,Meets->LQ,Const->LR,wpAny_updateSeq->LV,Params->LX,slicePick->Mf,argBest->Mm,Wakes->Ms,isSubtype_type->Mt,Result->Mu,wpAny_items_cons->Mw,wpAny_pyIter_list->Mx,CmpOp->My,binaryOp->MA,wpAny_tryCatch->MF,codeAny_of_tree->MG,BoolOp->MI,wpAny_ite_split->MK,assignEach->MM,bindL->OZ,Fin->Pa,isInstance->Pb,compareOp->Pe,standAt->Pg,argsOk->Pi,richCompare->Pj,call_meets->Pl,setItem->Po,wpAny_operating->Pp,pushCells->Py,wpAny_tupleItemsOf->Pz,Frame->PB,callWith->PF,newExc->PG,wpAny_storeSet_of->PK,importedModules->PL,bindC->PO,runs_reach->PP,wpAny_loadPart_at->PQ,swappedStores->PV,reduceHash->PW,raiseNew->PX,wpAny_letGo->PZ,firstArgMember->Qh,wpAny_newTuple->Qi,wpAny_onRaise->Qj,wpAny_askSetting->Qr,cellOf->Qu,wpAny_pyHash_int->US,relayAll->UU,wpAny_updateDictKeys->UY,wpAny_Constant_str->Vf,wpAny_assign_Name->Vg,storeSet->Vh,carriedByValue->Vk,pickOrder->Vo,tupleKind->Vp,entryFor_alias->Vq,entryFor_of_tree->Vu,FuncBody->Vv,bindName->Vw,dictSet->Vx,slot_dict_contains->VB,wpAny_pyHash_str->VC,wpAny_call->VD,setRelay->VF,coversAll->VG,wpAny_pyIter_slot->VH,compTurn->VJ,letOwnedTupleGo->VL,FuncData->VN,preSum->VO,wpAny_pyNext_list_item->Wc,IsRange->Wd,GenResult->Wf,setAddHashedIn->Wi,wpAny_sequenceKey->Wn,IsPart->Wp,wpAny_setField->Wu,sliceRange->Ww,wpAny_load->Wy,wpAny_Slice->Wz,dictGet->WA,wpAny_execs_nil->WC,wpAny_pyIter_tuple->WD,setNext->WJ,isSubtype_tuple_tuple->WL,newFunctionEnv->WM,wpAny_notOrdered_dict->WO,Operator->WQ,callWith_type->WR,slot_dict_setitem->hU,PlainAttrs->hX,wpAny_fieldsOf->iH,methodCallForm->iI,getMethod_builtin->iJ,wpAny_getItem_list_slice->iS,methodCallPos->iV,isSubtype_stop->iW,wpAny_point->jA,wpAny_dictEntries->jC,slicePick_upto'->jD,wpAny_attempt->jI,closureFor->jL,callType_codes->jS,wpAny_handled->jV,wpAny_runValue->jY,wpAny_alloc->kQ,wpAny_throw->lB,intBits_le_64->lD,wpAny_pyNext_tuple_item->lE,recursionLimit->lF,builtinLookup->lI,wpAny_Assign_Name->lK,eqIsQuiet_byValue->lM,IsRangeIter->lP,wpAny_newList->lS,evalPairs_cons->lU,wpAny_eqBool_str->mP,dictSetHashed->mT,wpAny_eqBool_int->mU,wpAny_letTemporaryGo->mW,call->nE,wpAny_collect_seq->nH,slot_dict_getitem->nO,wpAny_ret_mkInt->nS,excClassObj->nW,foldedSetIterable->nY,setNextDrawn->oP,pushCells_keeps->oR,sysModules->pB,slot_list_setitem->pD,wpAny_pyNext_list_end->pH,ofAClassStatement->pI,name_of_addr->pN,wpAny_allTrue_Or_cons->pX,wpAny_comprehension_free->pZ,callType_new->qA,wpAny_richCompare_same_room->qB,wpAny_allTrue_And_cons->qD,wpAny_Constant_int->qI
open PySem.Around renaming under_plainId->DN
open PySem.AutoListH renaming list_append_list_val_0->xy
open PySem.AutoSeq1 renaming tuple___add___tuple_tuple_0->zj,tuple___add___tuple_tuple_1->O',list_extend_list_list_0->o_
open PySem.Builtin.Builtins renaming bindParams->V'
open PySem.Builtin.Dict renaming keyAndDefault->VE,addKeywords->lV,selfAndRest->pQ,pendingCount->xn,notOrdered->yi,merge->yp,takeOut->Z'
open PySem.Builtin.Frozenset renaming newClass->c_,updateFrom->m_,slot0->r_
open PySem.Builtin.Int renaming intBits->zf
open PySem.Builtin.List renaming listSameRef->kR,listSubscript?->yv,listLengthHint->zc,listExtendWith->s_,listTooLong->D_,listUpdate->J_
open PySem.Builtin.Range renaming rangeSize->Vc,small->kO,rangeFitsLong->zy
open PySem.Builtin.SmallTypes renaming nextOf->JO,ownedTupleIsFree->nT,ownedTupleHandOut->F_
open PySem.Builtin.Str renaming occurrences->lY
open PySem.Builtin.Tuple renaming tupleHashOf->JE,tupleItemsOf->iT,tupleExact->zt
open PySem.Calls renaming callWith_builtin->PC,Name_function_global->nK
open PySem.Challenge renaming pw_pq0014_01->w',rw_pq0014_01->K_
open PySem.Code renaming quiet_builtin->UQ,builtin->kI
open PySem.EqMixed renaming eq_int_str->xk,eq_str_int->xo
open PySem.F renaming plain_min_loop->Ho,slot_tuple_iterator_next->Pt,entry_min_loop->UR,entry_tuple_iterator_next->hW,slot_dict_len->iG,slot_dict_get->iK,slot_dict_pop->iN,slot_str_isspace->iZ,plain_extend_loop->jH,args_tuple_iterator_next_1->kJ,args_dict_init_2->kK,slot_list_append->kW,slot_tuple_lt->lL,plainAttrs_dict->lT,slot_tuple_hash->lW,slot_list_pop->lX,slot_dict_items->mC,plain_list_iadd->mH,slot_zip_next->mJ,slot_tuple_index->nB,slot_zip_iter->nC,slot_set_iter->nJ,plain_set_new->oJ,slot_dict_setdefault->oQ,slot_tuple_eq->pM,slot_list_extend->pT,entry_dict_init->qM,entry_tuple_add->xf,entry_dict_setdefault->xg,args_dict_setdefault_3->xi,type_list_pop->xj,entry_str_isspace->xl,entry_set_new->xm,args_object_init_2->xu,entry_dict_items->xz,type_str_isspace->ya,type_list_append->yh,entry_list_pop->yk,args_str_isspace_1->ym,type_dict_items->yn,entry_set_init->yo,entry_list_extend->yt,objNew->yu,slot_tuple_add->yw,args_tuple_index_2->yy,args_tuple_add_2->yz,args_list_pop_1->za,newCall_set_1->zd,entry_type_call->ze,type_dict_get->zh,type_list_extend->zi,type_dict_setdefault->zk,args_dict_pop_2->zn,newCall_tuple_1->zq,entry_tuple_new->zr,args_set_iter_1->zv,plainAttrs_str->z',entry_dict_pop->M',sub_list_set->U',entry_list_append->a_,entry_dict_len->b_,typeCall_set_1->f_,type_tuple_index->h_,args_dict_get_3->k_,type_dict_pop->l_,store_object->n_,typeCall_tuple_1->w_,args_dict_items_1->y_,plainAttrs_tuple->A_,plainAttrs_list->B_,called_tuple->C_,sub_list_frozenset->G_,slot_dict_init->H_,entry_tuple_index->I_,args_dict_len_1->L_,args_list_append_2->M_,plain_proto_collect->N_,args_list_extend_2->O_,entry_dict_get->P_
open PySem.Heap renaming get?_push_size->A0,get?_push_of_some->A9,lt_size->C2,size_push->J6,SameBut->Ah,get?_update_other->Hw,get?_update_self->Hy,ExtBut->Mc,nsMap->Ph,size_after_update->nV
open PySem.Heap.IsList renaming typeIs->yl
open PySem.Heap.IsSliceOf renaming new->UO
open PySem.Heap.IsTuple renaming typeIs->xt
open PySem.Heap.IsTupleIter renaming typeIs->Qa
open PySem.Heap.Ns renaming of_isNs->Pq,new->xh
open PySem.Heap.Ns1 renaming of_empty->zb
open PySem.Heap.SameBut renaming update->Ba,refl->Px
open PySem.IntMulOk renaming of_left->v_
open PySem.ItemsOf renaming nil->t_
open PySem.KeyKind renaming is_eq_decide->pK
open PySem.MeetsSeq renaming list_pop_last->Y'
open PySem.NameKind renaming cell->VW,free->oK
open PySem.Obj renaming mapSeq->AJ,putSet->Jz,data_mapFields->kL,data->kP
open PySem.P renaming gt_int->mZ,lt_int->pL
open PySem.ScopeKind renaming function->xp
open PySem.Sem renaming wp->Jv,wp_mono->nA
open PySem.SetTable renaming insertAt->U1,leap->V7,bits->Ak,below->Bx,runEnd->CI,Probe->DU,turns->DZ,toList_insertAt->HD,grown->JG,laid->Wt,fill->jT,layClean->kH,slot->lH,has->mR,sizeAbove->xv,gaveWay->xw,tooFull->yc,put->yd,Met->yf,freeSlot->G',orStandIn->p_,sameMemory->q_,fits->Q_
open PySem.SetTable.below renaming go->JU
open PySem.SetTable.drop renaming match_1->lJ
open PySem.SetTable.instReprSlot.repr renaming match_1->iL
open PySem.SetTable.layClean renaming free->Gd
open PySem.SetTable.probe renaming go->Jq
open PySem.Shared renaming TypeIs->EL,heap->VP
open PySem.Str renaming ofString->Cd,ofString_eq_toList->Qv
open PySem.StrLaws renaming found_one->zm
open PySem.Unicode renaming isSpace->PH
open PySem.Value renaming none->Hq,ref->Hu,int->Vb,type->VX
open PySem.Value.int renaming injEq->zu
open PySem.Value.type renaming inj->qL
open PySem.W renaming boot_heap->Dn,topRun->Fu,KasT->Gj,SharedT->Ka,kas_st->Pu,hashAt->PA,boot_drawn->PR,Looks->PS,kas_item->Qe,boot_toks->Qx,topFrom->VM,kat_kind->VU,topStub->Wo,kas_sort->WK,kwWritten?->lC,namesBound->mM,holds_open->X'
open PySem.W.Fast renaming tw10156331382660048174->xr,tw4187177175401517315->yb,te8920871248978507458->yg,tw8920871248978507458->yq,tw6613529449190102663->zw,te4187177175401517315->D',te14364793385576792824->K',te11892475500146522536->e_,tw11892475500146522536->g_,te10156331382660048174->i_,tw14364793385576792824->u_,te6613529449190102663->x_
open PySem.W.KatTups renaming cons->ye,nil->zp
open PySem.W.Looks renaming of_pure->hY
open PySem.W.SharedT renaming abs->xq
open PySem.W.WData renaming int->qJ
open PySem.W.WShape renaming hasItems->Vz,has->oC
open PySem.W.WTm renaming holds->VZ
open PySem.Walks renaming list->VA,tuple->lQ
open PySem.pickOrder renaming go->iF
open Std.Legacy.Range renaming size->iR,forIn_eq_forIn_range'->pF
open Sum renaming inl->Ve,inr->Wb
open ToString renaming toString->Gf
open _root_ renaming Nat->a6,List->a7,Bool->b7,Int->d3,if_pos->g0,Option->j0,String->j3,if_neg->j4,False->k6,Array->l4,congrArg->t0,absurd->u6,decide_eq_true_eq->C3,of_decide_eq_true->C5,or_false->X4,beq_iff_eq->Al,Unit->Ay,if_false->Bz,beq_self_eq_true->CG,Decidable->Dm,DecidableEq->DV,if_true->DY,beq_eq_false_iff_ne->Gp,not_or->Mh,bne_iff_ne->ME,decide_eq_true->MN,of_decide_eq_false->Pr,ne_eq->Qo,eq_comm->Vt,decide_eq_false->VS,ite_self->VT,decide_eq_false_iff_not->Wq,not_false_eq_true->WP,not_true_eq_false->iB,bne_self_eq_false->mY,decide_false->qC
namespace Internal
section
open Lean
def Ih(k:Name)(a:a7 Syntax):Syntax:=.node .none k a.toArray
def W3(s:j3):Syntax:=.atom .none s
def Ad(a:a7 Syntax):Syntax:=Ih `null a
def CP:Syntax:=Ad []def CV(s:j3)(a:a7 Syntax):Syntax:=Ih (`Lean.Parser.Tactic++s.toName) a
def BB(s:j3)(a:a7 Syntax):Syntax:=CV s (W3 ""::a)def Ky(s:j3)(a:a7 Syntax):Syntax:=Ih (`Lean.Parser.Term++s.toName) a
def Ig(l:a7 Syntax):Syntax:=CV "tacticSeq" [CV "tacticSeq1Indented" [Ad l]]
def Lr(f:Syntax->Syntax):a7 Syntax->a7 Syntax
 |a::l=>f a::Lr f l
 |l=>l
def YD:a7 j3->a7 Syntax
 |a::l=>mkIdent a.toName::YD l
 |_=>[]def NO(s:j3):a7 Syntax:=YD (s.splitOn " ")def sw(t:Syntax):Syntax:=Ih `group [W3 "|",Ig [t]]def Ii(l:a7 Syntax):Syntax:=BB "first" [Ad (Lr sw l)]def LC(l:a7 Syntax)(f:Syntax):Syntax:=BB "refine" [Ky "app" [f,Ad (l++[Ky "syntheticHole" [W3 "?",Ky "hole" [W3 "_"]]])]]def eQ(s:j3)(l:a7 Syntax):Syntax:=BB s [CV "optConfig" [CP],CV "rwRuleSeq" [W3 "[",Ad l,W3 "]"],CP]def RN(l:a7 Syntax):Syntax:=BB "paren" [Ig l,W3 ")"]def Kh(a b:Syntax):Syntax:=RN [a,W3 ";",b]
def MqmR(s:Syntax):MacroM Syntax:=
 let r:=s[2][1][0]
 let q:=s[2][1].getArgs.toList.drop 2
 let e:=if q.isEmpty then BB "tacticTry_" [Ig [BB "withReducible" [Ig [BB "tacticRfl" []]]]]else eQ "rwSeq" q
 if s[3].getNumArgs==0 then pure (Ii [Kh (LC [r[1]] (mkIdent (if r[0].getNumArgs==0 then `Internal.rwE else `Internal.rwS))) e,Kh (eQ "rewriteSeq" [r]) e])
 else Macro.throwUnsupported
def bL(p a:Syntax):Syntax:=CV "simpLemma" [p,CP,a]
def SH:a7 Syntax->a7 Syntax
 |a::l=>bL CP a::W3 ","::SH l
 |l=>l
def aT(l:a7 Syntax):Syntax:=BB "simp" [CV "optConfig" [CP],CP,Ad [W3 "only"],Ad [W3 "[",Ad l,W3 "]"],CP]def YZ:j3:="Z1 Z2 Z3 Z4 Z5 Z6 Z7 Z8 Z9 Z10 Z11 Z12 Z13 Z14 Z15 Z16 Z17 Z18 Z19 Z20 Z21 Z22 Z23 Z24 Z25 Z26 Z27 Z28 Z29 Z30 Z31 Z32 Z33 Z34 Z35 Z36 Z37 Z39 Z40 Z41 Z42 Z43 Z44 Z45 Z46 Z47 Z48 Z49 Z50 Z51 Z52 Z53 Z54 Z55 Z56 Z57 Z58 Z59 Z60 Z61 Z62 Z63 Z64 Z65 Z66 Z67 Z68 Z69 Z70 Z71 Z72 Z75 Z76 Z77 Z78 Z79 Z80 Z81 Z82 Z83 Z84 Z85 Z86 Z87 Z88 Z89 Z90 Z91 Z92 Z94 Z95 Z96 Z97 Z98 Z99 Z100 Z101 Z102 Z103 Z104 Z105 Z106 Z107 Z108 Z109 Z110 Z111 Z112 Z113 Z114 Z115 Z116 Z117 Z118 Z119 Z120 Z122 Z123 Z124 Z125 Z126 Z127 Z128 Z129 Z130 Z131 Z132 Z133 Z134 Z135 Z136 Z137 Z138 Z139"
def vn(f:Syntax):Syntax:=BB "exact" [f]
def MqmS(s:Syntax):MacroM Syntax:=
 let l:=s[1].getSepArgs.toList
 pure (if l.head!.isAtom||l.head!.isOfKind `num then
  aT (bL (Ad [CV "simpPre" [W3 "↓"]]) (mkIdent `reduceIte)::W3 ","::SH (NO (YZ++" Z38 Z73 Z74 Z93 Z121 envL_cons envL_nil set_ap String.reduceEq decide_true decide_false Bool.not_true Bool.not_false true_and and_true eq_self clr_ap bind1 bind2 tgE tgC List.contains_cons List.contains_nil String.reduceBEq Bool.or_false Bool.or_true Bool.false_or Bool.true_or List.cons_append List.nil_append Bool.false_eq_true")++l.tail!))
 else
  let c:=Ky "byTactic" [W3 "by",Ig [Ii (Lr vn l)]]
  BB "tacticRepeat_" [Ig [Ii [aT (SH (NO YZ)),Ii (Lr (LC [c]) (NO "oVs oQs oBs oIs oEs oSs oLs oMs k3s")),LC [c,c,c] (mkIdent `oMl),Ii (Lr (LC []) (NO "Y38 Y73 Y74 Y93 Y121"))]]])def RF(p q t:Syntax):Syntax:=BB "obtain" [Ad [CV "rcasesPatMed" [Ad [p]]],q,Ad [W3 ":=",Ad [t]]]def QV(t i:Syntax):Syntax:=Ky "proj" [t,W3 ".",i]def dK(t:Syntax)(s:j3):Syntax:=QV t (Ih `fieldIdx [W3 s])
def Ut(t:Syntax):a7 Syntax->a7 Syntax
 |a::r=>if r.isEmpty then[RF a[0] CP t]else RF a[0] CP (dK t "1")::W3 ";"::Ut (dK t "2") r
 |l=>l
def Uo(l:Syntax)(x:Syntax):Syntax:=Kh l (BB "clear" [Ad [x]])
def MqmE(s:Syntax):MacroM Syntax:=
 let a:=s[1]
 let x:=a[1][0][0]
 pure (Kh (Uo (LC [x] a[0][0][0]) x) (BB "rintro" [Ad (a.getArgs.toList.drop 2),CP]))
def QJ:a7 Syntax->a7 Syntax
 |a::l=>if a[0][0].getId==`rfl then QJ l else a[0][0]::QJ l
 |l=>l
def MqmC(s:Syntax):MacroM Syntax:=
 let a:=s[1]
 let r:=a.getArgs.toList.drop 2
 let x:=a[0][0][0]
 pure (Ii [Uo (RN (Ut x (a[1]::r))) x,Uo (Kh (RN (Ut (QV x (mkIdent `choose_spec)) r)) (BB "generalize" [Ad [CV "generalizeArg" [CP,QV x (mkIdent `choose),W3 "=",a[1][0][0]]],Ad [BB "location" [CV "locationHyp" [Ad (QJ r)]]]])) x])
def MqmL(s:Syntax):MacroM Syntax:=
 let d:=s[2][0]
 let y:=d[2][0][1]
 if d[0][0].isIdent&&!y.isOfKind `Lean.Parser.Term.hole then
  pure (RF (CV "rcasesPat.one" [d[0][0]]) (if y.isMissing then CP else Ad [W3 ":",y]) d[4])
 else Macro.throwUnsupported
def MqmD(s:Syntax):MacroM Syntax:=
 let d:=s[1]
 let v:=d[0].getAtomVal
 if v==""||s[0][1].getNumArgs != 0 then Macro.throwUnsupported else
  pure ((s.setArg 1 (d.setArg 0 (W3 ""))).setArg 0 (if v=="def"||v=="abbrev" then s[0].setArg 4 (Ad [Ih `Lean.Parser.Command.noncomputable [W3 ""]])else s[0]))
end
end Internal
section
local macro_rules (kind:=Lean.Parser.Command.declaration)
 |s=>Internal.MqmD s
local macro_rules (kind:=Lean.Elab.Tactic.Ext.ext)
 |s=>Internal.MqmE s
local macro_rules (kind:=Lean.Elab.Tactic.Ext.tacticExt1___)
 |s=>Internal.MqmC s
local macro_rules (kind:=Lean.Parser.Tactic.tacticLet__)
 |s=>Internal.MqmL s
set_option backward.match.sparseCases false
namespace Internal
section
variable{a b c d e f g n m o p r s t u:a6}{i j k l v w x y z:d3}
theorem gA(c:a<=n)(d:b<=a)(e:CH n m=a8):b<=m:=b6 d (b6 c (LU e))theorem gB(c:a+n<b)(e:CH m n=a8):a+m<b:=q5 (G2 (LU e) a) c
theorem gD(c:a+n<b)(e:CH (m+p) n=a8):a+m+p<b:=Q8 a m p▸gB c e
theorem gL(c:a+n<b)(e:CH (m+(p+o)) n=a8):a+m+p+o<b:=Q8 (a+m) p o▸gD c e
theorem gC(b:n<=a)(e:CH n m=c8):¬m=a:=λh=>Cc (e.symm.trans (iX (h▸b)))theorem gF(b:n<=a)(e:CH n m=c8):¬a=m:=λh=>gC b e h.symm
theorem gM(b:a<=n)(e:CH m n=c8):¬a=m:=λh=>Cc (e.symm.trans (iX (h▸b)))theorem gE(b:a=n)(e:CH m n=a8)(f:CH n p=a8):m<=a/\a<=p:=b▸⟨LU e,LU f⟩theorem gG(c:a<b)(d:b<=n)(e:CH n m=a8):a<=m:=gA d (m9 c) e
theorem gH(c:a=b)(d:b<=n)(e:CH n m=a8):a<=m:=gA d (A5 c) e
theorem gK(b:a<=n)(e:CH n m=a8):a<=m:=gA b (l8 a) e
theorem gJ(d:n<a)(f:a<=b)(g:b=c)(e:CH m n=a8):¬m=c:=λh=>T9 m (q5 (LU e) (j7 d (h▸g▸f)))theorem Bo(d:a<b)(e:c<=a):c<b:=q5 e d
theorem Cz(e:a<b)(d:c=b):a<c:=by subst d;assumption
theorem EG(d:a<b)(e:c=b+1):a<c:=by subst e;exact BM d
theorem FR(e:a<b)(f:b<=a):c<=d:=u6 e (Nat.not_lt.mpr f)theorem GL(e:a<b)(d:b=c):a<c:=by subst d;assumption
theorem GG(d:a<b)(e:b=c+1)(f:¬a=c):a<c:=by subst e;exact DQ (v0 d) f
theorem Ia(d:a+1+b<c):a<c:=m9 (q5 (G3 _ _) d)theorem Ke(c:a<b)(d:b<=a):k6:=T9 _ (j7 c d)theorem KO(c:a<b)(d:a=b):k6:=by subst d;exact u6 c (T9 _)theorem LI(c:a<=b+2/\b<=6):a<=100:=b6 c.1 (b6 (O8 c.2 _) (by decide))theorem KL(d:a<b)(e:b=c):a≠c:=by subst e;exact m6 d
theorem No(d:a<=b+1)(e:b<=c):a<=c+1:=b6 d (O8 e _)theorem Na(c:a=b+1):b<a:=by subst c;exact B8 _
theorem Nj(c:a<b+1)(d:a≥b):a=b:=AL (v0 c) d
theorem OR(c:a<b+1)(d:¬a=b):a<b:=DQ (v0 c) d
theorem Of(d:a<b)(e:b=c):¬a=c:=m6 (j7 d (A5 e))theorem MU(c:a<b):¬b+1=a:=λe=>T9 a (j7 c (e▸N8 b))theorem Ty(c:a<64)(d:b=a):b<=16777216:=by subst d;exact b6 (m9 c) (by decide)theorem Sc(c:a<b):b - a=b - (a+1)+1:=by rw[Vl];exact(HT (JR c)).symm
theorem SN(c:a+1<b):b=b - 1+1:=(HT (nX c)).symm
theorem SJ(c:a<=b+2/\b<=6):a<=1000:=b6 c.1 (b6 (O8 c.2 _) (by decide))theorem RH(d:a<b)(e:b<=20)(f:c<=a):c<=1000:=b6 f (b6 (m9 d) (b6 e (by decide)))theorem YG(d:a<64)(c:b=a):b<64:=by subst c;assumption
theorem bZ(a:0<i/\i<=10000000):i≠0:=by intro e;subst e;exact u6 a (by decide)theorem ZC(c:a<b):b - 1 - a<b:=q5 (Mo _ _) (Wj (nX c) (M7 0))theorem fP(d:a=b)(e:b<=c):a<=c:=by subst d;assumption
theorem cD(c:0<=i)(b:(↑a:d3)<j)(d:i<=(↑a:d3)):-j<=i/\i<j:=⟨Jt (PY (Gn (DT (Jx a) b))) c,DT d b⟩theorem ix(d:a - b=a - (b+1)+1)(e:a=c):b<c:=e▸LL (d▸M7 _)theorem Zf(d:a+1<=b)(e:a=c+1):c<=b:=b6 (N8 c) (b6 (A5 e.symm) (a6.le_of_succ_le d))theorem fX(d:a+1<=b)(e:a=c+1):c<b:=by subst e;exact m9 d
theorem dD(e:a<b)(f:a=b):c=d:=by subst f;exact u6 e (T9 _)theorem fe(c:a+1<=b)(d:b<=a):k6:=u6 c (Nat.not_lt.mpr d)theorem cM(c:a<b+1)(d:a≠0):a - 1<b:=j7 (Wj (MC d) (M7 0)) (v0 c)theorem Zt(c:a≠0):b+1+(a - 1)=b+a:=by rw[Q8,DM (MC c)]theorem eS(d:a+1+b=c):b<c:=d▸j7 (BJ (K9 b a)) (A5 (Y7 a b 1))theorem ZO(d:23<=a)(c:b=a):23<=b:=by subst c;assumption
theorem ZH(b:11<=a/\a<=15)(c:a<11\/15<a/\a<23):k6:=c.elim (λh=>u6 (q5 b.1 h) (by decide)) λh=>u6 (j7 h.1 b.2) (by decide)theorem Yy(b:23<=a)(c:a<11\/15<a/\a<23):k6:=c.elim (λh=>u6 (q5 b h) (by decide)) λh=>u6 (q5 b h.2) (by decide)theorem fB(b:11<=a/\a<=15)(c:23<=a):k6:=u6 (b6 c b.2) (by decide)theorem cF(b:a=19):a<11\/15<a/\a<23:=by subst b;decide
theorem WU(d:a<=b+2/\b<=6)(e:c<=a):c<=100:=b6 e (b6 d.1 (b6 (O8 d.2 2) (by decide)))theorem dI:a+b=b+a:=by simp only[Q8,Ai,HJ]theorem eF:¬a=a+1:=by simp
theorem Xi:a+1≠a:=by simp
theorem bU(e:a=b+1)(d:b=c+1):a=c+2:=by subst d;assumption
theorem Za(e:a=b+1)(d:b=c+2):a=c+3:=by subst d;assumption
theorem XG(c:a+b<=8):b<=100:=b6 (K9 b a) (b6 c (by decide))theorem sL(d:2<=a)(c:b=a):2<=b:=by subst c;assumption
theorem wx(c:a<2)(d:a=b+1+1):k6:=u6 (d▸c) (Nat.not_lt.mpr (K9 2 b))theorem qa(e:a=b)(d:c=b):a=c:=by subst d;assumption
theorem zV(d:a+(b+1)+1<c):a+1+b<c:=by rw[Y7];exact a6.lt_of_succ_lt d
theorem lg(b:3<a)(c:a<=1):k6:=u6 (j7 b c) (by decide)theorem pu(b:a=0):¬(↑a:d3) - 1> -1:=by subst b;decide
theorem pg(b:¬a=0):(↑a:d3) - 1> -1:=d3.lt_sub_right_of_add_lt (by show(-1+1:d3)<a;exact Int.ofNat_lt.mpr (MC b))theorem qg:((↑a:d3) - 1 - -1 - -1 - 1).toNat=a:=by simp
theorem mn:((↑a:d3) - 1+ -1*(↑b:d3)).toNat=a - 1 - b:=by rw[d3.neg_mul,d3.one_mul,<-d3.sub_eq_add_neg,oF];exact(d3.toNat_sub a (1+b)).trans (a6.sub_sub a 1 b).symm
theorem uD(b:0<=i/\i<=(↑a:d3))(c:(↑a:d3)<j):¬i< -j/\¬i≥j:=⟨Int.not_lt.mpr (Jt (PY (Gn (DT (Jx a) c))) b.1),Int.not_le.mpr (DT b.2 c)⟩theorem qz(b:0<=i/\i<=(↑a:d3))(c:(↑a:d3)<j):-j<=i:=Jt (PY (Gn (DT (Jx a) c))) b.1
theorem qN(d:1<=i/\i<=(↑a:d3)/\a<=b)(e:c=a):i.toNat<=c:=by subst e;exact Int.toNat_le.mpr d.2.1
theorem zF:i - 0 - 1+1=i:=by simp
theorem rj(c:0<=i)(b:(↑a:d3)<j)(d:i<=(↑a:d3)):-j<=i+(1 - 1)/\i+(1 - 1)<j:=by rw[show(1 - 1:d3)=0 from rfl,d3.add_zero];exact⟨Jt (PY (Gn (DT (Jx a) b))) c,DT d b⟩theorem dq(e:a<b)(f:c=b)(g:d<=a):d<c:=by subst f;exact q5 g e
theorem zB(e:a<b)(f:c=b)(g:d<=a):c - d=c - (d+1)+1:=by subst f;rw[Vl];exact(HT (JR (q5 g e))).symm
theorem uj(d:a+20*b+60<c):a+30<c:=q5 (b6 (G2 (by decide:30<=60) a) (O8 (G3 a _) 60)) d
theorem uX(d:a+3*(b+1)+3<c):a<c:=q5 (b6 (G3 a _) (G3 _ 3)) d
theorem tA(d:a+3*(b+1)+3<c):a+1+3*b+5<c:=q5 (by rw[Qc,Y7 a 1,Q8 (a+_),<-Q8 a,Q8 (a+_)];exact G2 (by decide) _) d
theorem yT(d:a+20*(b+1)+60<c):a+3+20*b+75<c:=q5 (by rw[Qc,Y7 a 3,Q8 (a+_),<-Q8 a,Q8 (a+_)];exact G2 (by decide) _) d
theorem vE(d:a+3*b+5<c):a+1+3*b+3<c:=q5 (by rw[Y7 a 1,Q8 (a+_)];exact G2 (by decide) _) d
theorem rY(d:a+20*b+75<c):a+1+20*b+60<c:=q5 (by rw[Y7 a 1,Q8 (a+_)];exact G2 (by decide) _) d
theorem rT:a+(b+1)=a+1+b:=by simp only[Q8,Ai,HJ]theorem rq(e:a=b)(d:b=c):a=c:=by subst d;assumption
theorem po(c:a+1<=b):a<b:=by assumption
theorem xT(c:(a+b)/2<b):a<=(a+b)/2:=v0 (BJ (PJ (M7 1)|>.mpr (by rw[Mz];exact G2 (Wg λq=>u6 c (Nat.not_lt.mpr (PJ (M7 1)|>.mpr (by rw[Mz];exact O8 (m9 q) b)))) a)))
theorem zP(d:a - b<=c+1):a - ((b+a)/2+1)<=c:=by
 rcases JJ b a with h|h
 .exact b6 (Wx (U6 ((PJ (by decide)).mpr (Mz b▸G2 h b))) a) (a6.pred_le_pred d)
 .rw[Wk (U4 ((PJ (by decide)).mpr (Mz a▸O8 h a)))];exact F9 _
theorem fb(d:a - b<=c+1):(b+a)/2 - b<=c:=Hz (v0 ((a6.div_lt_iff_lt_mul (by decide)).mpr (by rw[Mz];exact q5 (G2 (mK d) b) (a6.add_lt_add_of_lt_of_le (BJ (K9 b c)) (A5 (Y7 c 1 b))))))theorem iq(e:a+1<=b)(f:b=a):c=d+1:=by subst f;exact u6 e (T9 _)theorem lf(f:a<b+1)(g:c<a)(h:c=b):d=e+1:=(T9 c (j7 g (b6 (v0 f) (A5 h.symm)))).elim
theorem sN:a - a<=9/\a<=a/\(a<=b->a<=b):=by simp
theorem wh:¬a - a>0:=by simp
theorem vj(d:a<b+1)(e:a<c):b+1 - c+a<=b:=b6 (O8 (Wx (Wv e) (b+1)) a) (by rw[a6.add_sub_add_right,pV (v0 d)];exact l8 _)theorem ba(d:a<b+1):a+(b+1 - a+c)=b+1+c:=by rw[<-Q8,DM (m9 d)]theorem qq(e:a<=10*b)(f:b<=c+13)(g:d<=9):d+1+a<10*(c+15):=q5 (U0 (U6 g) (b6 e (Y4 10 f))) (by rw[jG,jG,HJ];exact FZ (by decide) _)theorem zZ(d:a+b<=c)(e:b>0):a+1+(b - 1)<=c:=by rw[Q8,DM e];exact d
theorem mf(c:¬a<b)(d:¬a=b):a - b=a - b - 1+1:=(HT (JR (DQ (Nat.not_lt.mp c) (C8 d)))).symm
theorem bu(c:a - b=a - b - 1+1):b+(a - b - 1)=a - 1:=by rw[<-a6.add_sub_assoc (JR (LL (c▸M7 _))),DM (m9 (LL (c▸M7 _)))]theorem jo(f:a<b+1 - c)(g:d<e+a):d - e<=b - c:=Hz (b6 (v0 (U6 (m9 g))) (Ai e a▸O8 (Vd (v0 (Jw f))) e))theorem wr(g:a<b+1 - c)(h:b<=d)(i:e<f+a):c+(e - f)<=d:=b6 (G2 (Hz (Ai f a▸m9 i)) c) (b6 (Ai c a▸v0 (Jw g)) h)theorem vo(e:a - b<=9/\b<=a/\(b<=c->a<=c))(f:a<=c)(g:d<=a - b):b+d<=c:=b6 (G2 g b) (b6 (A5 (DM e.2.1)) f)theorem yU(e:a - b<=9/\b<=a/\(b<=c->a<=c))(f:d<=a - b):d<a+1 - b:=by rw[a6.succ_sub e.2.1];exact BJ f
theorem zN(c:a*5<b*3):a<=b:=m9 (JT (a:=5) (j7 c (Y4 b (by decide))))
theorem ve(h:a<b+1)(f:c<d+a)(g:d<=c):d+a - (c+1)<b:=q5 (Wx (U6 g) (d+a)) (by
 refine(?_:d+a - (d+1)<b);rw[a6.add_sub_add_left];exact j7 (Wj (MC λe=>T9 d (q5 g (by rw[e]at f;exact f))) a6.one_pos) (v0 h))theorem bv(b:(a - 1)*5<7*3)(c:a*5≥7*3):a=5:=AL (pY (JT (a:=5) (j7 b (by decide:7*3<=5*5)))) (JT (a:=5) (j7 (by decide:4*5<7*3) c))theorem qo(b:(a - 1)*5<31*3)(c:a*5≥31*3):a=19:=AL (pY (JT (a:=5) (j7 b (by decide:31*3<=19*5)))) (JT (a:=5) (j7 (by decide:18*5<31*3) c))theorem iz(b:a*5≥127*3)(c:a<=64):k6:=u6 (b6 b (EJ 5 c)) (by decide)theorem rE(d:a - b=c+1):a - (b+1)=c:=by rw[Vl,d];rfl
theorem zR(d:a<b)(e:c=b):a≠c:=by subst e;exact m6 d
theorem ur:(↑a:d3)<(↑b:d3)↔a<b:=by simp
theorem kh(b:11<=a/\a<=15)(c:a=16):k6:=u6 (c▸b.2:16<=15) (by decide)theorem bl(b:23<=a)(c:a=16):k6:=u6 (c▸b:23<=16) (by decide)theorem xW(b:a=17):a<11\/15<a/\a<23:=by subst b;decide
theorem wN(b:a=20):a<11\/15<a/\a<23:=by subst b;decide
theorem ou(g:a<=b+2/\b<=6)(h:c<=a)(i:d<=b+c/\e<=c/\f<=c):f<=100:=b6 i.2.2 (b6 h (b6 g.1 (b6 (O8 g.2 2) (by decide))))theorem em(g:a<=b+2/\b<=6)(h:c<=a)(i:d<=b+c/\e<=c/\f<=c):d<=100:=b6 i.1 (b6 (U0 g.2 (b6 h (b6 g.1 (O8 g.2 2)))) (by decide))theorem py(g:a<=b+2/\b<=6)(h:c<=a)(i:d<=b+c/\e<=c/\f<=c):e<=100:=b6 i.2.1 (b6 h (b6 g.1 (b6 (O8 g.2 2) (by decide))))theorem jv(h:a+b+c<=d+20*e)(g:d<=f+2/\f<=6)(i:e<=d):b<=500:=b6 (b6 (b6 (K9 b a) (G3 (a+b) c)) h) (b6 (U0 (b6 g.1 (O8 g.2 2)) (Y4 20 (b6 i (b6 g.1 (O8 g.2 2))))) (by decide:6+2+20*(6+2)<=500))theorem og(h:a+b+c<=d+20*e)(g:d<=f+2/\f<=6)(i:e<=d):a<=500:=b6 (b6 (b6 (G3 a b) (G3 (a+b) c)) h) (b6 (U0 (b6 g.1 (O8 g.2 2)) (Y4 20 (b6 i (b6 g.1 (O8 g.2 2))))) (by decide:6+2+20*(6+2)<=500))theorem vw(f:a<=2*b)(e:b<=c+2/\c<=6)(g:d<=a):d<=100:=b6 g (b6 f (b6 (Y4 2 (b6 e.1 (O8 e.2 2))) (by decide)))theorem kj:a+b+c=c+b+a:=by simp only[Q8,Ai,HJ]theorem vz(f:a<=2*b)(e:b<=c+2/\c<=6)(g:d<=a):d<=16:=b6 g (b6 f (Y4 2 (b6 e.1 (O8 e.2 2))))theorem wo(h:a+1<=b)(i:c+d+e<=f+20*a)(j:g<=16):c+(d+g)+e<=f+20*b:=by rw[<-Q8 c d g,Y7 (c+d) g e];exact b6 (U0 i (b6 j (by decide:16<=20))) (by rw[Q8,<-Qc];exact G2 (Y4 20 h) f)theorem mr(h:a+1<=b)(i:c<=d+a/\e<=a/\f<=a)(j:d<=g/\g<=6):c+1<=g+b/\e+1<=b/\f+1<=b:=⟨Wv (q5 i.1 (q5 (O8 j.1 _) (FZ h _))),b6 (U6 i.2.1) h,b6 (U6 i.2.2) h⟩theorem me(f:a+1<=b)(g:b<=c)(h:d<=16):e+d+20*(c - b)<e+20*(c - a):=by rw[Q8];exact FZ (j7 (nU (q5 h (by decide:16<20)) _) (by rw[Ai,<-Qc];exact Y4 20 (Vd (by rw[a6.succ_add,<-a6.add_succ];exact b6 (G2 f _) (A5 (pV g)))))) e
theorem wM(f:a+b+(c+1)<=d+20*e):a+1+b+c<=d+20*e:=(by rw[Y7 a 1 b,Q8 (a+b) 1 c,Ai 1 c];exact f)theorem rf:a+(0+1)+(b+c)=a+b+(c+1):=by simp only[Q8,Ai,HJ]theorem sh:a+(b+c)=a+b+c:=by simp only[Q8,Ai,HJ]theorem dw(d:a=b)(e:c=b):a<=c:=A5 (d.trans e.symm)theorem wu(d:a<b)(e:a=b):b=c:=by subst e;exact u6 d (T9 _)theorem uR(d:a<b)(e:a=b):c=b:=by subst e;exact u6 d (T9 _)theorem xU(e:a<b)(f:b=a):c=d:=by subst f;exact u6 e (T9 _)theorem rU(f:a=b+1)(g:c<=2*b)(h:d<=2)(i:e<=d):c+e+(0+0)<=2*a:=by subst f;exact(U0 g (b6 i h):c+e<=2*b+2)theorem dy(e:a+1<=b+2/\c<=b/\b<=6)(f:d=a+1):d<=b+2/\b<=6:=by subst f;exact⟨e.1,e.2.2⟩theorem et(c:a<64)(d:b<=a):b<64:=q5 d c
theorem xY(c:23<=a)(d:b<=10):¬b=a:=λe=>u6 (b6 c (e▸d)) (by decide)theorem ce(f:a<b)(g:b<=c)(h:c<d)(i:e=d):a≠e:=by subst i;exact m6 (j7 f (b6 g (m9 h)))theorem mh(h:a=b+1)(i:c<b)(j:a<=d)(k:e<=c)(l:d<=f)(m:g<e):f≠g:=K0 (j7 m (b6 k (b6 (m9 i) (b6 (h▸N8 b) (b6 j l)))))theorem uh(b:a<=2\/a=21\/a=22):¬(3<=a/\a<=20\/23<=a):=by rcases b with h|h|h<;>first|exact λe=>e.elim (λe=>u6 (b6 e.1 h) (by decide)) (λe=>u6 (b6 e h) (by decide))|(subst h;decide)theorem yK(b:3<=a/\a<=20)(c:a<=2\/a=21\/a=22):k6:=by rcases c with h|h|h<;>first|exact u6 (b6 b.1 h) (by decide)|(subst h;exact u6 b.2 (by decide))theorem ow(b:23<=a)(c:a<=2\/a=21\/a=22):k6:=c.elim (λh=>u6 (b6 b h) (by decide)) λh=>h.elim (λh=>u6 (h▸b) (by decide)) λh=>u6 (h▸b) (by decide)theorem uu(c:23<=a)(d:a=b)(e:b<=2\/b=21\/b=22):k6:=by subst d;exact e.elim (λh=>u6 (b6 c h) (by decide)) λh=>h.elim (λh=>u6 (h▸c:23<=21) (by decide)) λh=>u6 (h▸c:23<=22) (by decide)theorem xQ(b:a<2):a=0\/a=1:=by revert b;revert a;decide
theorem xH(c:a<=b+2/\b<=6):1+3*b+1<=500:=b6 (U6 (G2 (Y4 3 c.2) 1)) (by decide)theorem dt(c:a<=b+2/\b<=6):1+3*b+1+1<=500:=b6 (U6 (U6 (G2 (Y4 3 c.2) 1))) (by decide)theorem tj(d:a+b<=c+2)(e:a<=c+2/\c<=6):b<=1000:=b6 (K9 b a) (b6 d (b6 (O8 e.2 2) (by decide)))theorem ny(e:a<b)(d:b<=c+1+2/\c+1<=6):a<=1000:=b6 (m9 e) (b6 d.1 (b6 (O8 d.2 2) (by decide)))theorem qO(b:a<7):1+3*a<=20:=b6 (G2 (Y4 3 (v0 b)) 1) (by decide)theorem ov(d:a=b)(e:a<=c):b<=c:=by subst d;assumption
theorem zE(d:a<b)(e:b=c):c≠a:=by subst e;exact K0 d
theorem tH(e:a+1<=b)(f:b<=c)(g:d=c - a+1):c - b+1<d:=by rw[g];exact a6.succ_lt_succ (a6.sub_lt_sub_left (j7 e f) e)theorem ug(c:21<a)(d:a=b):21≠b:=by subst d;exact m6 c
theorem rm(c:2<a)(d:a=b):b≠2:=by subst d;exact K0 c
theorem ma(e:a<1+b)(f:b<3)(g:c<=100)(h:d<=c+1+4*a):d<=500:=b6 h (b6 (U0 (U6 g) (Y4 4 (v0 (j7 e (G2 (v0 f) 1))))) (by decide:100+1+4*2<=500))theorem gh(b:a<6):a=0\/a=1\/a=2\/a=3\/a=4\/a=5:=by revert b;revert a;decide
theorem sJ(g:a<=100)(h:b<3)(i:c<=a+1+4*d)(j:d<1+b)(k:e<=3)(l:f<e):c+1+f<=500:=b6 (U0 (U6 (b6 i (U0 (U6 g) (Y4 4 (v0 (j7 j (G2 (v0 h) 1))))))) (b6 (m9 l) k)) (by decide:100+1+4*2+1+3<=500)theorem kq(b:a<4):a=0\/a=1\/a=2\/a=3:=by revert b;revert a;decide
theorem wk(d:a<1+b)(e:b<3)(f:c=a):c<=1000:=f▸b6 (m9 d) (b6 (G2 (m9 e) 1) (by decide))theorem qr(e:a<=3)(f:b<=c+1+4*d):b+1+a<=c+1+4*(d+1):=by rw[Q8 b 1 a];exact(U0 f (G2 e 1):b+(1+a)<=c+1+4*d+4)theorem yF(c:1<a)(d:a=b):¬1=b:=by subst d;exact m6 c
theorem ci(d:a<3)(e:b<=c+1+4*(1+a)):b<=c+13:=b6 e (G2 (Y4 4 (G2 (v0 d) 1)) (c+1))theorem zO(d:a=b)(e:c<=a):c<=b:=by subst d;assumption
theorem bx(h:a<=20)(i:b<=a)(j:c<=20*d)(k:d<b)(l:e<=a)(m:f<=g)(n:g<e):c+f<=900:=b6 (U0 (b6 j (Y4 20 (b6 (m9 k) (b6 i h)))) (b6 m (b6 (m9 n) (b6 l h)))) (by decide)theorem ic(c:a=b):a<=b:=by exact A5 ‹_›
theorem ju(f:a<b)(g:c=b+2)(h:c<=d)(i:d<=e):¬e=a:=K0 (j7 (j7 f (g▸G3 b 2)) (b6 h i))theorem wU(g:a<=50)(h:b<a)(i:c<=4)(j:d<=1+4*b+e)(k:e<c)(l:f<=d):f<=1000:=b6 l (b6 j (b6 (U0 (G2 (Y4 4 (b6 (m9 h) g)) 1) (b6 (m9 k) i)) (by decide)))theorem gq(c:a<=1+4*b)(d:b<=20):a<=1000:=b6 c (b6 (G2 (Y4 4 d) 1) (by decide))theorem um(c:a=b)(d:b<=10):a<64:=by subst c;exact q5 d (by decide)theorem cj(f:a+b<=c)(g:c<=6561)(h:d+e<=b):d<=6561:=b6 (b6 (G3 d e) h) (b6 (K9 b a) (b6 f g))theorem oz(e:a<b)(f:b=c)(g:d<b):c≠a/\c≠d:=by subst f;exact⟨K0 e,K0 g⟩theorem bt(c:a=1):b<b+a:=by subst c;exact B8 _
theorem vY(d:a<b)(f:b=c):¬c=a:=λe=>T9 a (j7 d (A5 (f.trans e)))theorem tZ(o:a=b)(h:b<c)(i:c<=d)(j:e<a)(k:f<a)(l:g<a)(m:n<a):e≠b/\e≠d/\f≠b/\f≠d/\g≠b/\g≠d/\n≠b/\n≠d:=by subst o;exact⟨m6 j,m6 (AH j (j7 h i)),m6 k,m6 (AH k (j7 h i)),m6 l,m6 (AH l (j7 h i)),m6 m,m6 (AH m (j7 h i))⟩theorem rn(f:a<b)(g:b=c)(h:c<d)(i:d<=e):¬(a=c\/a=e):=by subst g;exact λe=>e.elim (m6 f) (m6 (j7 (AH f h) i))theorem ut(e:a=b)(f:a<=c)(g:b=d)(h:c≠d)(i:c<=d):k6:=h (AL i (g▸e▸f))theorem oy(f:a=b)(g:a<=c)(h:c≠d)(i:c<=d):b≠d:=λe=>h (AL i (e▸f▸g))theorem ah(c:a<b):a<2+(b - 2):=j7 c (mK (l8 _)|>λh=>Ai 2 _▸h)theorem eo(f:a<b)(g:c=d)(h:c<=a):d≠b:=λe=>T9 a (j7 f (e▸g▸h))theorem eh(e:a<=b)(f:c<=d):a+c<=d+b:=Ai d b▸U0 e f
theorem aI(f:a+b<=8)(g:c<=a - 2)(i:d<=b+1)(j:e<=c)(k:e<=d):e<=3:=v0 (a6.lt_of_not_le λh=>u6 (b6 (U0 (Wv (Jw (b6 (b6 h j) g)):6<=a) (mB (b6 (b6 h k) i):3<=b)) f) (by decide))theorem qR(b:5<=a)(c:a<=4):k6:=u6 b (Nat.not_lt.mpr c)theorem uE(c:a=b):b<=a:=by subst c;exact l8 _
theorem ls(c:a<b)(d:b<=3):a<=2:=v0 (j7 c d)theorem vM(e:a<=64)(f:b<=a)(g:c<=b*8)(h:d<=c):d<=100000:=b6 h (b6 g (b6 (EJ 8 (b6 f e)) (by decide)))theorem tW(e:a=b+1)(d:b=c+3):a=c+4:=by subst d;assumption
theorem tw(c:a<b):¬b+2=a:=λe=>T9 a (j7 c (e▸G3 b 2))theorem qV(b:a=5):a+1+1=7:=by subst b;rfl
theorem lv(b:a=11):a+1+1=13:=by subst b;rfl
theorem nl(d:a<b)(c:b=5):a<5:=by subst c;assumption
theorem ni(e:a+b<=8)(f:c<=a)(g:d<=c):d<=100000:=b6 g (b6 f (b6 (G3 a b) (b6 e (by decide))))theorem fq(d:a+b<=8)(e:c<=a):c<64:=q5 e (q5 (b6 (G3 a b) d) (by decide))theorem sv(b:a=0):a+1=1:=by subst b;rfl
theorem sO(b:a=1):a+1=2:=by subst b;rfl
theorem vk(b:a=2):a+1=3:=by subst b;rfl
theorem tC(b:a=3):a+1+1=5:=by subst b;rfl
theorem tV(b:a=23):23<=a:=by subst b;exact l8 _
end
section
variable{α β:Type _}{l:a7 α}{j:a6}
theorem Y0(h:c∈l.map f):∃a,a∈l/\f a=c:=List.mem_map.mp h
theorem A8{G:Prop}(h:c∈l.map f)(k:∀a,a∈l->f a=c->G):G:=(List.mem_map.mp h).elim λa h=>k a h.1 h.2
theorem C0(h:a∈l)(e:f a=c):c∈l.map f:=List.mem_map.mpr ⟨a,h,e⟩theorem v3(h:a∈l++m):a∈l\/a∈m:=List.mem_append.mp h
theorem D9(h:a∈b::l):a=b\/a∈l:=List.mem_cons.mp h
theorem BP(h:a∈l.filter p):a∈l/\p a=a8:=List.mem_filter.mp h
theorem OD(h:a∈l.filter p):a∈l:=(List.mem_filter.mp h).1
theorem Hk(h:a∈l.filter p):p a=a8:=(List.mem_filter.mp h).2
theorem BE(h:a∈l)(e:p a=a8):a∈l.filter p:=List.mem_filter.mpr ⟨h,e⟩theorem P3:a∈[a]:=List.mem_singleton.mpr rfl
theorem cz(h:a∈[b]):a=b:=List.mem_singleton.mp h
theorem U8(h:i∈p0 n):i<n:=List.mem_range.mp h
theorem Cv(h:i<n):i∈p0 n:=List.mem_range.mpr h
theorem w6(h:l[i]?=a0 a):i<l.length:=(List.getElem?_eq_some_iff.mp h).1
theorem FS(h:l[i]?=a0 a):∃q:i<l.length,l[i]=a:=List.getElem?_eq_some_iff.mp h
theorem Ks{l:l4 α}(h:l[i]?=a0 a):i<l.size:=(Array.getElem?_eq_some_iff.mp h).1
theorem Se{l:l4 α}(h:l[i]?=a0 a):∃q:i<l.size,l[i]=a:=Array.getElem?_eq_some_iff.mp h
theorem N2(h:a∈l):∃i,∃q:i<l.length,l[i]=a:=List.mem_iff_getElem.mp h
theorem S7(h:l.all p=a8):∀x,x∈l->p x=a8:=List.all_eq_true.mp h
theorem Cw(h:∀x,x∈l->p x=a8):l.all p=a8:=List.all_eq_true.mpr h
theorem BR(h:l.Nodup):l.Pairwise (·≠·):=List.nodup_iff_pairwise_ne.mp h
theorem UM(h:l.Pairwise (·≠·)):l.Nodup:=List.nodup_iff_pairwise_ne.mpr h
theorem CS(h:∀a,a∈l->p a=a8):l.filter p=l:=List.filter_eq_self.mpr h
theorem Bq(h:¬i<j):j<=i:=Nat.not_lt.mp h
theorem Q0(h:j<=i):¬i<j:=Nat.not_lt.mpr h
theorem ZG(h:¬i<=j):j<i:=Nat.not_le.mp h
theorem Ct{p:α×β}(h:p=q):p.1=q.1/\p.2=q.2:=Prod.ext_iff.mp h
theorem DL{a:b7}(h:(a||b)=a8):a=a8\/b=a8:=(jO _ _).mp h
theorem o6{a:b7}(h:(a&&b)=a8):a=a8:=((C4 _ _).mp h).1
theorem o5{a:b7}(h:(a&&b)=a8):b=a8:=((C4 _ _).mp h).2
theorem Kv{a:b7}(h:a=a8/\b=a8):(a&&b)=a8:=Bool.and_eq_true_iff.mpr h
theorem Iu{β:Type _}{o:j0 α}{f:α->β}{b:β}(h:o.map f=a0 b):∃a,o=a0 a/\f a=b:=Option.map_eq_some_iff.mp h
theorem Nw(h:(a::l).Pairwise R):(∀b,b∈l->R a b)/\l.Pairwise R:=List.pairwise_cons.mp h
theorem Nx(h:(∀b,b∈l->R a b)/\l.Pairwise R):(a::l).Pairwise R:=List.pairwise_cons.mpr h
theorem aU{c:Prop}[Dm c]{a:Prop}(h:c)(k:a):if c then a else b:=by rw[g0 h];exact k
theorem ZT{c:Prop}[Dm c]{a:Prop}(h:¬c)(k:b):if c then a else b:=by rw[j4 h];exact k
theorem G6{c:Prop}[Dm c](h:c)(k:a=d):(if c then a else b)=d:=by rw[g0 h];exact k
theorem EE{c:Prop}[Dm c](h:¬c)(k:b=d):(if c then a else b)=d:=by rw[j4 h];exact k
end
theorem Hm{a:a6}(h:a<min b c):a<b:=j7 h (Pc _ _)theorem IQ{a:a6}(h:a<min b c):a<c:=j7 h (Ge _ _)theorem Jb{a:a6}(h:a<=c):min a b<=c:=b6 (Pc _ _) h
theorem GA{a:a6}(h:b<=c):min a b<=c:=b6 (Ge _ _) h
theorem cG:min a b+(b - a+1)=b+1:=by
 rcases JJ a b with h|h
 .rw[EI h,<-Q8,a6.add_sub_cancel' h]
 .rw[HC h,Wk h]theorem sE{a:a6}:min a b=a/\max a b=b\/min a b=b/\max a b=a:=(JJ a b).imp (λh=>⟨EI h,MB h⟩) λh=>⟨HC h,Mn h⟩
theorem TF{a:a6}(h:¬a=b):min a b<max a b:=by
 rcases a6.lt_or_gt_of_ne h with h|h
 .rw[EI (m9 h),MB (m9 h)];exact h
 .rw[HC (m9 h),Mn (m9 h)];exact h
theorem EX{a:a6}(h:a<=b):(a:d3)<=(b:d3):=Int.ofNat_le.mpr h
theorem mo{a:a6}(h:min a b<=c)(k:¬a<=c):b<=c:=by
 rcases JJ a b with q|q
 .rw[EI q]at h;exact(k h).elim
 .rw[HC q]at h;exact h
theorem uB{a b:a6}:min (a:d3) (b:d3)=((min a b:a6):d3):=by
 rcases JJ a b with q|q
 .rw[EI q,nL (EX q)]
 .rw[HC q,jF (EX q)]
theorem be{a b:a6}:max (a:d3) (b:d3)=((max a b:a6):d3):=by
 rcases JJ a b with q|q
 .rw[MB q,VI (EX q)]
 .rw[Mn q,Vj (EX q)]
theorem sj{a:a6}(b:a+u=s)(c:t+x=a+(x+u))(d:s<=n):t<=n:=by
 have e:t+x=s+x:=by rw[c,HJ,b,Ai]
 rw[a6.add_right_cancel e];exact d
@[elab_as_elim] theorem di{α:Type}{P:a7 α->Prop}{l:a7 α}(e:1<=l.length)(f:l.length<=3)(g:∀a,P [a])(h:∀a b,P [a,b])(i:∀a b c,P [a,b,c]):P l:=by
 cases l with
 |nil=>exact(Wm 0 e).elim
 |cons a l=>cases l with
  |nil=>exact g a
  |cons b l=>cases l with
   |nil=>exact h a b
   |cons c l=>cases l with|nil=>exact i a b c|cons d l=>exact(Wm l.length (oZ (b:=3) f)).elim
section
variable{α α' α'' β:Sort _}{P:β->Prop}{f:α->β}{p:α->Prop}{g:α->α'->α''->β}{p1 p2 p3:α->α'->α''->Prop}
@[elab_as_elim]theorem e1s(h:∃a,c=f a)(k:∀a,P (f a)):P c:=h.elim λa e=>e▸k a
@[elab_as_elim] theorem e1r(h:∃a,f a=c)(k:∀a,P (f a)):P c:=h.elim λa e=>e▸k a
@[elab_as_elim] theorem e2s(h:∃a,p a/\c=f a)(k:∀a,p a->P (f a)):P c:=h.elim λa e=>e.2▸k a e.1
@[elab_as_elim] theorem e2r(h:∃a,p a/\f a=c)(k:∀a,p a->P (f a)):P c:=h.elim λa e=>e.2▸k a e.1
@[elab_as_elim] theorem e2u(h:∃a,c=f a/\p a)(k:∀a,p a->P (f a)):P c:=h.elim λa e=>e.1▸k a e.2
@[elab_as_elim] theorem e2v(h:∃a,f a=c/\p a)(k:∀a,p a->P (f a)):P c:=h.elim λa e=>e.1▸k a e.2
@[elab_as_elim] theorem e34(h:∃x y z,c=g x y z/\p1 x y z/\p2 x y z/\p3 x y z)(k:∀x y z,p1 x y z->p2 x y z->p3 x y z->P (g x y z)):P c:=h.elim λx h=>h.elim λy h=>h.elim λz h=>h.1▸k x y z h.2.1 h.2.2.1 h.2.2.2
end
@[elab_as_elim] theorem B0{α β:Type _}{l:a7 α}{f:α->β}{c:β}{P:β->Prop}(h:c∈l.map f)(k:∀a,a∈l->P (f a)):P c:=A8 h λa i e=>e▸k a i
theorem p6{a:a6}(h:a<=b:=by assumption)(k:b<=c:=by decide):a<=c:=b6 h k
theorem Ca{a b c:a6}(h:a<=b:=by assumption)(k:b<c:=by decide):a<c:=q5 h k
@[elab_as_elim] theorem gen{α:Sort _}{P:α->Prop}(a:α)(h:∀x,P x):P a:=h a
@[elab_as_elim] theorem M8{α:Sort _}{P:α->Prop}(a:α)(h:∀x,a=x->P x):P a:=h a rfl
@[elab_as_elim] theorem rwS{α:Sort _}{a b:α}{c:α->Prop}(h:b=a)(k:c b):c a:=h▸k
@[elab_as_elim] theorem rwE{α:Sort _}{a b:α}{c:α->Prop}(h:a=b)(k:c b):c a:=h▸k
section
variable{p q r s t u v w G:Prop}
theorem m0(h:p)(i:q)(j:r):p/\q/\r:=⟨h,i,j⟩theorem M4(h:p)(i:q)(j:r)(k:s):p/\q/\r/\s:=⟨h,i,j,k⟩theorem k9(h:p/\q)(g:p->q->G):G:=g h.1 h.2
theorem t6(h:p/\q/\r)(g:p->q->r->G):G:=g h.1 h.2.1 h.2.2
theorem Cr(h:p/\q/\r/\s)(g:p->q->r->s->G):G:=g h.1 h.2.1 h.2.2.1 h.2.2.2
theorem Hf(h:p/\q/\r/\s/\t)(g:p->q->r->s->t->G):G:=g h.1 h.2.1 h.2.2.1 h.2.2.2.1 h.2.2.2.2
theorem bT(h:p/\q/\r/\s/\t/\u)(g:p->q->r->s->t->u->G):G:=g h.1 h.2.1 h.2.2.1 h.2.2.2.1 h.2.2.2.2.1 h.2.2.2.2.2
theorem rR(h:p/\q/\r/\s/\t/\u/\v/\w)(g:p->q->r->s->t->u->v->w->G):G:=g h.1 h.2.1 h.2.2.1 h.2.2.2.1 h.2.2.2.2.1 h.2.2.2.2.2.1 h.2.2.2.2.2.2.1 h.2.2.2.2.2.2.2
end
section
variable{A:Sort _}{p q r s t u:A->Prop}{G:Prop}
theorem d0(a:A)(h:p a)(i:q a):∃a,p a/\q a:=⟨a,h,i⟩theorem v8(a:A)(h:p a)(i:q a)(j:r a):∃a,p a/\q a/\r a:=⟨a,h,i,j⟩theorem CU(a:A)(h:p a)(i:q a)(j:r a)(k:s a):∃a,p a/\q a/\r a/\s a:=⟨a,h,i,j,k⟩theorem Hi(a:A)(h:p a)(i:q a)(j:r a)(k:s a)(l:t a):∃a,p a/\q a/\r a/\s a/\t a:=⟨a,h,i,j,k,l⟩theorem d4(h:∃a,p a)(g:∀a,p a->G):G:=h.elim λa h=>g a h
theorem c9(h:∃a,p a/\q a)(g:∀a,p a->q a->G):G:=h.elim λa h=>g a h.1 h.2
theorem y0(h:∃a,p a/\q a/\r a)(g:∀a,p a->q a->r a->G):G:=h.elim λa h=>g a h.1 h.2.1 h.2.2
theorem BU(h:∃a,p a/\q a/\r a/\s a)(g:∀a,p a->q a->r a->s a->G):G:=h.elim λa h=>g a h.1 h.2.1 h.2.2.1 h.2.2.2
theorem KW(h:∃a,p a/\q a/\r a/\s a/\t a)(g:∀a,p a->q a->r a->s a->t a->G):G:=h.elim λa h=>g a h.1 h.2.1 h.2.2.1 h.2.2.2.1 h.2.2.2.2
theorem Ni(h:∃a,p a/\q a/\r a/\s a/\t a/\u a)(g:∀a,p a->q a->r a->s a->t a->u a->G):G:=h.elim λa h=>g a h.1 h.2.1 h.2.2.1 h.2.2.2.1 h.2.2.2.2.1 h.2.2.2.2.2
end
section
variable{A B:Sort _}{p q r s t u v:A->B->Prop}{G:Prop}
theorem E9(a:A)(b:B)(h:p a b)(i:q a b)(j:r a b):∃a b,p a b/\q a b/\r a b:=⟨a,b,h,i,j⟩theorem P9(a:A)(b:B)(h:p a b)(i:q a b):∃a b,p a b/\q a b:=⟨a,b,h,i⟩theorem U9(a:A)(b:B)(h:p a b)(i:q a b)(j:r a b)(k:s a b)(l:t a b):∃a b,p a b/\q a b/\r a b/\s a b/\t a b:=⟨a,b,h,i,j,k,l⟩theorem Dw(a:A)(b:B)(h:p a b):∃a b,p a b:=⟨a,b,h⟩theorem R9(h:∃a b,p a b)(g:∀a b,p a b->G):G:=h.elim λa h=>h.elim λb h=>g a b h
theorem F8(h:∃a b,p a b/\q a b)(g:∀a b,p a b->q a b->G):G:=h.elim λa h=>h.elim λb h=>g a b h.1 h.2
theorem n4(h:∃a b,p a b/\q a b/\r a b)(g:∀a b,p a b->q a b->r a b->G):G:=h.elim λa h=>h.elim λb h=>g a b h.1 h.2.1 h.2.2
theorem T8(h:∃a b,p a b/\q a b/\r a b/\s a b)(g:∀a b,p a b->q a b->r a b->s a b->G):G:=h.elim λa h=>h.elim λb h=>g a b h.1 h.2.1 h.2.2.1 h.2.2.2
theorem C7(h:∃a b,p a b/\q a b/\r a b/\s a b/\t a b)(g:∀a b,p a b->q a b->r a b->s a b->t a b->G):G:=h.elim λa h=>h.elim λb h=>g a b h.1 h.2.1 h.2.2.1 h.2.2.2.1 h.2.2.2.2
theorem Lm(h:∃a b,p a b/\q a b/\r a b/\s a b/\t a b/\u a b/\v a b)(g:∀a b,p a b->q a b->r a b->s a b->t a b->u a b->v a b->G):G:=h.elim λa h=>h.elim λb h=>g a b h.1 h.2.1 h.2.2.1 h.2.2.2.1 h.2.2.2.2.1 h.2.2.2.2.2.1 h.2.2.2.2.2.2
end
section
variable{A B C:Sort _}{p q r s t u:A->B->C->Prop}{G:Prop}
theorem BS(a:A)(b:B)(c:C)(h:p a b c)(i:q a b c)(j:r a b c)(k:s a b c):∃a b c,p a b c/\q a b c/\r a b c/\s a b c:=⟨a,b,c,h,i,j,k⟩theorem KB(a:A)(b:B)(c:C)(h:p a b c)(i:q a b c):∃a b c,p a b c/\q a b c:=⟨a,b,c,h,i⟩theorem SW(h:∃a b c,p a b c)(g:∀a b c,p a b c->G):G:=h.elim λa h=>h.elim λb h=>h.elim λc h=>g a b c h
theorem EB(h:∃a b c,p a b c/\q a b c)(g:∀a b c,p a b c->q a b c->G):G:=h.elim λa h=>h.elim λb h=>h.elim λc h=>g a b c h.1 h.2
theorem FO(h:∃a b c,p a b c/\q a b c/\r a b c)(g:∀a b c,p a b c->q a b c->r a b c->G):G:=h.elim λa h=>h.elim λb h=>h.elim λc h=>g a b c h.1 h.2.1 h.2.2
theorem H9(h:∃a b c,p a b c/\q a b c/\r a b c/\s a b c)(g:∀a b c,p a b c->q a b c->r a b c->s a b c->G):G:=h.elim λa h=>h.elim λb h=>h.elim λc h=>g a b c h.1 h.2.1 h.2.2.1 h.2.2.2
theorem M0(h:∃a b c,p a b c/\q a b c/\r a b c/\s a b c/\t a b c/\u a b c)(g:∀a b c,p a b c->q a b c->r a b c->s a b c->t a b c->u a b c->G):G:=h.elim λa h=>h.elim λb h=>h.elim λc h=>g a b c h.1 h.2.1 h.2.2.1 h.2.2.2.1 h.2.2.2.2.1 h.2.2.2.2.2
end
section
variable{A B C D:Sort _}{p q r s t:A->B->C->D->Prop}{G:Prop}
theorem XV(h:∃a b c d,p a b c d/\q a b c d)(g:∀a b c d,p a b c d->q a b c d->G):G:=h.elim λa h=>h.elim λb h=>h.elim λc h=>h.elim λd h=>g a b c d h.1 h.2
theorem uK(h:∃a b c d,p a b c d/\q a b c d/\r a b c d/\s a b c d)(g:∀a b c d,p a b c d->q a b c d->r a b c d->s a b c d->G):G:=h.elim λa h=>h.elim λb h=>h.elim λc h=>h.elim λd h=>g a b c d h.1 h.2.1 h.2.2.1 h.2.2.2
theorem XU(h:∃a b c d,p a b c d/\q a b c d/\r a b c d/\s a b c d/\t a b c d)(g:∀a b c d,p a b c d->q a b c d->r a b c d->s a b c d->t a b c d->G):G:=h.elim λa h=>h.elim λb h=>h.elim λc h=>h.elim λd h=>g a b c d h.1 h.2.1 h.2.2.1 h.2.2.2.1 h.2.2.2.2
end
section
variable{A B C D E F:Sort _}{p:A->B->C->D->E->F->Prop}{G:Prop}
theorem Kb(h:∃a b c d e f,p a b c d e f)(g:∀a b c d e f,p a b c d e f->G):G:=h.elim λa h=>h.elim λb h=>h.elim λc h=>h.elim λd h=>h.elim λe h=>h.elim λf h=>g a b c d e f h
end
inductive b0 where
 |none|bool (b:b7)|int (i:d3)|str (l:a7 a6)|B (ds:a7 b0)|ref (a:a6)|ro (xs:a7 d3)
inductive AO where
 |L (xs:a7 b0)|D (es:a7 (b0×b0)) (ep:a6)|I (c:j3) (d:a6)|fld (es:a7 (j3×b0))
structure St where
 n:a6
 h:a6->AO
def St.set(st:St)(a:a6)(o:AO):St:={st with h:=λb=>if b=a then o else st.h b}def St.A(st:St)(o:AO):St:={n:=st.n+1,h:=λb=>if b=st.n then o else st.h b}def j8:a6:=100000
mutual
noncomputable def l3:b0->b0->b7
 | .none,.none=>a8
 | .bool a,.bool b=>a==b
 | .int a,.int b=>a==b
 | .str a,.str b=>a==b
 | .B a,.B b=>W2 a b
 |_,_=>c8
noncomputable def W2:a7 b0->a7 b0->b7
 |[],[]=>a8
 |a::r,b::t=>l3 a b&&W2 r t
 |_,_=>c8
end
def N0(f:b0->b0->b7):a7 b0->a7 b0->b7
 |a::r,b::t=>f a b&&N0 f r t
 |_,_=>a8
def yY:b0->b7
 | .int _=>a8
 |_=>c8
def vU:b0->b7
 | .str _=>a8
 |_=>c8
def ng(f:a7 b0->b7):b0->b7
 | .B b=>f b
 |_=>c8
def Rd(f:a7 b0->a7 b0->b7)(d e:b0):b7:=match d with
 | .int _=>yY e
 | .str _=>vU e
 | .B a=>ng (f a) e
 |_=>c8
def o0:a6->b0->b0->b7
 |0=>Rd λw0 w0=>c8
 |n+1=>Rd (N0 (o0 n))theorem no{P:Prop}(h:c8=a8):P:=(Cc h).elim
theorem ZZ{f:a7 b0->a7 b0->b7}{d:b0}{P:b0->b0->Prop}(h:Rd f d e=a8)(hi:∀a b,P (.int a) (.int b))(hs:∀a b,P (.str a) (.str b))(c:∀a b,f a b=a8->P (.B a) (.B b)):P d e:=by
 cases d with
 |int a=>cases e with|int b=>exact hi a b|_=>exact no h
 |str a=>cases e with|str b=>exact hs a b|_=>exact no h
 |B a=>cases e with|B b=>exact c a b h|_=>exact no h
 |_=>exact no h
@[elab_as_elim] theorem Fe{n:a6}{d:b0}{P:a6->b0->b0->Prop}(h:o0 n d e=a8)(hi:∀a b,P n (.int a) (.int b))(hs:∀a b,P n (.str a) (.str b))(c:∀n a b,N0 (o0 n) a b=a8->P (n+1) (.B a) (.B b)):P n d e:=by
 cases n with
 |zero=>exact ZZ h hi hs λf f h=>no h
 |succ n=>exact ZZ h hi hs (c n)
theorem HU{P:a6->b0->b0->Prop}(hi:∀n a b,P n (.int a) (.int b))(hs:∀n a b,P n (.str a) (.str b))(f:∀n a b,(∀d e,o0 n d e=a8->P n d e)->N0 (o0 n) a b=a8->P (n+1) (.B a) (.B b)):∀n d e,o0 n d e=a8->P n d e
 |0,_,_,h=>Fe (P:=λm d e=>m=0->P m d e) h (λa b c=>hi _ a b) (λa b c=>hs _ a b) (λc c c c h=>by cases h) rfl
 |n+1,_,_,h=>Fe (P:=λm d e=>m=n+1->P m d e) h (λa b c=>hi _ a b) (λa b c=>hs _ a b) (λc a b h e=>f _ a b (Aw e▸HU hi hs f n) h) rfl
theorem KR{n:a6}(h:o0 n (.int a) e=a8):∃b,e= .int b:=Fe (P:=λc d e=>∀a,d= .int a->∃b,e= .int b) h (λc b c c=>⟨b,rfl⟩) (λc c c h=>by cases h) (λc c c c c h=>by cases h) a rfl
theorem KE{n:a6}(h:o0 n (.str a) e=a8):∃b,e= .str b:=Fe (P:=λc d e=>∀a,d= .str a->∃b,e= .str b) h (λc c c h=>by cases h) (λc b c c=>⟨b,rfl⟩) (λc c c c c h=>by cases h) a rfl
theorem Tx(h:o0 (n+1) (.B a) e=a8):∃b,e= .B b/\N0 (o0 n) a b=a8:=by
 cases e with
 |B b=>exact⟨b,rfl,h⟩
 |_=>exact no h
theorem G5(h:(a&&b)=a8):a=a8/\b=a8:=C4 _ _▸h
def P0(a b:b0):b7:=o0 3 a b
def Kj(a b:a7 b0):b7:=N0 P0 a b
mutual
noncomputable def r9:b0->b0->b7
 | .int a,.int b=>decide (a<b)
 | .str a,.str b=>decide (a<b)
 | .B a,.B b=>U7 a b
 |_,_=>c8
noncomputable def U7:a7 b0->a7 b0->b7
 |[],[]=>c8
 |[],_::_=>a8
 |_::_,[]=>c8
 |a::r,b::t=>if l3 a b then U7 r t else r9 a b
end
theorem TC:U7 (a::r) (b::t)=if l3 a b then U7 r t else r9 a b:=rfl
def IK(x:b0):a7 b0->a7 b0
 |[]=>[x]
 |y::r=>if r9 y x then y::IK x r else x::y::r
theorem eU:IK x (y::r)=if r9 y x then y::IK x r else x::y::r:=rfl
def y8:a7 b0->a7 b0
 |[]=>[]
 |x::r=>IK x (y8 r)
def C9:a7 b0->a7 b0
 |[]=>[]
 |x::r=>if r.any (l3 x)then C9 r else x::C9 r
theorem eB:C9 (x::r)=if r.any (l3 x)then C9 r else x::C9 r:=rfl
def D2(es:a7 (b0×b0))(k:b0):j0 a6:=es.findIdx? λe=>l3 e.1 k
def t5(es:a7 (b0×b0))(k:b0):j0 b0:=(es.find? λe=>l3 e.1 k).map (·.2)
def Q5:a7 (b0×b0)->b0->b0->a7 (b0×b0)
 |[],k,v=>[(k,v)]
 |e::r,k,v=>if l3 e.1 k then(e.1,v)::r else e::Q5 r k v
theorem Ln:Q5 (e::r) k v=if l3 e.1 k then(e.1,v)::r else e::Q5 r k v:=rfl
def Fk:a7 (b0×b0)->b0->a7 (b0×b0)
 |[],_=>[]
 |e::r,k=>if l3 e.1 k then r else e::Fk r k
theorem gm:Fk (e::r) k=if l3 e.1 k then r else e::Fk r k:=rfl
def leaf:b0->b7
 | .int _=>a8
 | .str _=>a8
 |_=>c8
@[elab_as_elim] theorem EV{d:b0}{P:b0->Prop}(h:leaf d=a8)(hi:∀i,P (.int i))(hs:∀l,P (.str l)):P d:=by
 cases d with
 |int i=>exact hi i
 |str l=>exact hs l
 |_=>exact no h
def Q3:b0->a6
 | .int _=>1
 | .str _=>2
 | .B ds=>if ds.all leaf then 3 else 0
 |_=>0
theorem ey:∀{a:a7 b0},a.all leaf=a8->N0 (o0 2) a a=a8:=by
 intro c
 induction c with
 |nil=>intro b;exact rfl
 |cons _ _ e=>intro h;exact Kv ⟨EV (P:=λd=>o0 2 d d=a8) (o6 h) (λb=>rfl) λb=>rfl,e (o5 h)⟩
theorem On(a:Q3 k≠0):o0 3 k k=a8:=by
 cases k with
 |int i=>rfl
 |str l=>rfl
 |B d=>
  cases c:d.all leaf with
  |true=>exact ey c
  |false=>exact(a (t0 (λb=>if b=a8 then 3 else 0) c:)).elim
 |_=>exact(a rfl).elim
def v7(es:a7 (b0×b0))(k:b0):b7:=Q3 k != 0&&es.all λe=>Q3 e.1==Q3 k
inductive Ei where|add|sub|mul|fdiv|mod
inductive Dz where|eq|ne|lt|le|gt|ge|isin|notin|is|isnot
inductive Bi where|len|str|int|tuple|dict|sum|max|min|sorted|sS|sI|lR|dZ
 deriving DV
abbrev Q1:=b0->St->Prop
def o8(x:j0 (b0×St))(Q:Q1):Prop:=match x with
 |some (d,st)=>Q d st
 |none=>k6
def St.list?(st:St)(d:b0):j0 (a7 b0):=match d with
 | .ref a=>if a<st.n then(match st.h a with| .L xs=>a0 xs|_=>b4)else b4
 |_=>b4
def St.dict?(st:St)(d:b0):j0 (a7 (b0×b0)):=match d with
 | .ref a=>if a<st.n then(match st.h a with| .D es _=>a0 es|_=>b4)else b4
 |_=>b4
def St.items?(st:St)(d:b0):j0 (a7 b0):=match d with
 | .B ds=>a0 ds
 |d=>st.list? d
def St.inst?(st:St)(d:b0):j0 (j3×a6):=match d with
 | .ref a=>if a<st.n then(match st.h a with| .I c e=>if e<st.n then a0 (c,e)else b4|_=>b4)else b4
 |_=>b4
def St.fields?(st:St)(d:b0):j0 (a7 (j3×b0)):=match st.inst? d with
 |some (_,e)=>(match st.h e with| .fld es=>a0 es|_=>b4)
 |none=>b4
def q9(s:j3):b0:=.str (s.toList.map Gi)
theorem Nb{α β:Type}[BEq α][LawfulBEq α]{k:α}{v:β}:∀{l:a7 (α×β)},l.lookup k=a0 v->(k,v)∈l
 |[],h=>by cases h
 |(a,b)::l,h=>by
  rw[BL]at h;cases e:k==a with
  |true=>rw[e]at h;cases O1 e;cases h;exact j5
  |false=>rw[e]at h;exact k8 _ (Nb h)def Sp:a7 (j3×a7 j3):=[("Bank",["nodes","numbers","weights","depths"]),("Tables",["rows"]),("Joins",["classes","tables"]),("Unions",["above","lots","merged"]),("Heap",["bank","unions","edges","forest","known","above","waiting","backs"])]def CF(c:j3):a7 j3:=(Sp.lookup c).getD []def yM:a7 (j3×a7 j3):=[("",["is_op","trie_of","_law_draw","_law_built","_law_marks","_law_table","_law_asked","_law_fitted","_law_due"]),("Bank",["__init__","take","require","op","kids"]),("Tables",["__init__","table","trie"]),("Joins",["__init__","joined","shared"]),("Unions",["__init__","make","size","find","merge","members","classes"]),("Heap",["__init__","node","add","put","look_at","find","merge","join","settle","classes","members","nodes_of"])]def BO(c:j3):a7 j3:=(yM.lookup c).getD []
theorem Zh{T:a7 (j3×a7 j3)}{c:j3}(h:((T.lookup c).getD []).contains f=a8):c∈T.map Bu:=by
 cases e:T.lookup c with
 |none=>rw[e]at h;exact no h
 |some l=>exact V9 (f:=Bu) (Nb e)
def G8(st:St)(d:b0)(f:j3):j0 b0:=match st.inst? d with
 |some (c,e)=>if(CF c).contains f then(match st.h e with| .fld es=>es.lookup f|_=>b4)else b4
 |none=>b4
def noFld(st:St)(d:b0)(m:j3):Prop:=match st.fields? d with
 |some es=>es.lookup m=b4
 |none=>k6
theorem V0{p:Prop}[Dm p]{α:Type}{x:j0 α}{y:α}(h:(if p then x else b4)=a0 y):p/\x=a0 y:=by
 by_cases a:p
 .rw[g0 a]at h;exact⟨a,h⟩
 .rw[j4 a]at h;cases h
theorem tR{st:St}{d:b0}{m:j3}{e:a6}(h:noFld st d m)(hi:st.inst? d=a0 (c,e)):∃es,st.h e= .fld es/\es.lookup m=b4:=by
 unfold noFld St.fields? at h;rw[hi]at h;replace h:(match(match st.h e with| .fld es=>a0 es|_=>b4)with|some es=>es.lookup m=b4|none=>k6):=h;cases hs:st.h e with
 |fld es=>rw[hs]at h;exact⟨es,rfl,h⟩
 |_=>rw[hs]at h;exact h.elim
theorem js{st:St}{d:b0}{f:j3}(h:G8 st d f=a0 v):∃c e es,st.inst? d=a0 (c,e)/\(CF c).contains f=a8/\st.h e= .fld es/\es.lookup f=a0 v:=by
 unfold G8 at h;cases hi:st.inst? d with
 |none=>rw[hi]at h;cases h
 |some q=>
  rw[hi]at h;let zz:=V0 h;ext1 zz hc h;cases hs:st.h q.2 with
  |fld es=>rw[hs]at h;exact⟨q.1,q.2,es,rfl,hc,hs,h⟩
  |_=>rw[hs]at h;cases h
def sW(o:Ei)(x y:d3)(st:St):j0 (b0×St):=match o with
 | .add=>a0 (.int (x+y),st)
 | .sub=>a0 (.int (x - y),st)
 | .mul=>if x.natAbs<=1000000/\y.natAbs<=1000000 then a0 (.int (x*y),st)else b4
 | .fdiv=>if 0<y/\y<=10000000 then a0 (.int (x.fdiv y),st)else b4
 | .mod=>if 0<y/\y<=10000000 then a0 (.int (x.fmod y),st)else b4
def Oy(o:Ei)(r:j0 (b0×St)):j0 (b0×St):=match o with
 | .add=>r
 |_=>b4
def V3(o:Ei)(a b:b0)(st:St):j0 (b0×St):=match a with
 | .int x=>(match b with
  | .int y=>sW o x y st
  |_=>b4)
 | .str x=>(match b with
  | .str y=>Oy o (if x.length+y.length<=j8 then a0 (.str (x++y),st)else b4)
  |_=>b4)
 | .B x=>(match b with
  | .B y=>Oy o (if x.length+y.length<=j8 then a0 (.B (x++y),st)else b4)
  |_=>b4)
 | .ref x=>(match b with
  | .ref y=>Oy o ((st.list? (.ref x)).bind λxs=>(st.list? (.ref y)).bind λys=>if xs.length+ys.length<=j8 then a0 (.ref st.n,st.A (.L (xs++ys)))else b4)
  |_=>b4)
 |_=>b4
@[elab_as_elim] theorem QI{o:Ei}{r:j0 (b0×St)}{Q:Q1}{P:Ei->Prop}(h:o8 (Oy o r) Q)(k:o8 r Q->P .add):P o:=by
 cases o with
 |add=>exact k h
 |_=>exact h.elim
theorem Et[Dm p](h:o8 (if p then a0 (d,st)else b4) Q):p/\Q d st:=by
 by_cases a:p
 .rw[g0 a]at h;exact⟨a,h⟩
 .rw[j4 a]at h;exact h.elim
theorem dS(h:o8 (x.bind f) Q):∃a,x=a0 a/\o8 (f a) Q:=by
 cases x with
 |some a=>exact⟨a,rfl,h⟩
 |none=>exact h.elim
@[elab_as_elim] theorem rM{st:St}{d:b0}{xs:a7 b0}{P:b0->Prop}(h:st.list? d=a0 xs)(k:∀a,a<st.n->st.h a= .L xs->P (.ref a)):P d:=by
 cases d with
 |ref a=>
  let zz:=V0 h;ext1 zz ha h;refine k a ha ?_;cases hs:st.h a with
  |L ys=>rw[hs]at h;rw[C6 h]
  |_=>rw[hs]at h;cases h
 |_=>cases h
@[elab_as_elim] theorem ie{st:St}{d:b0}{es:a7 (b0×b0)}{P:b0->Prop}(h:st.dict? d=a0 es)(k:∀a e,a<st.n->st.h a= .D es e->P (.ref a)):P d:=by
 cases d with
 |ref a=>
  let zz:=V0 h;ext1 zz ha h;cases hs:st.h a with
  |D ys e=>rw[hs]at h;exact k a e ha (by rw[hs,C6 h])
  |_=>rw[hs]at h;cases h
 |_=>cases h
@[elab_as_elim] theorem tn{st:St}{d:b0}{q:j3×a6}{P:b0->Prop}(h:st.inst? d=a0 q)(k:∀a,a<st.n->st.h a= .I q.1 q.2->q.2<st.n->P (.ref a)):P d:=by
 cases d with
 |ref a=>
  let zz:=V0 h;ext1 zz ha h;cases hs:st.h a with
  |I c e=>rw[hs]at h;let zz:=V0 h;ext1 zz he h;let h:=C6 h;exact k a ha (by rw[hs,<-h]) (by rw[<-h];exact he)
  |_=>rw[hs]at h;cases h
 |_=>cases h
def QY(a b:b0):j0 b7:=if P0 a b then a0 (l3 a b)else b4
def Bj(st:St)(a b:b0):j0 b7:=match st.list? a with
 |some xs=>(match st.list? b with
  |some ys=>if Kj xs ys then a0 (W2 xs ys)else b4
  |none=>QY a b)
 |none=>QY a b
def Tn:b0->b7
 | .none=>a8
 |_=>c8
def Jg(k:d3->d3->b7)(a b:b0):j0 b7:=match a with
 | .int x=>(match b with
  | .int y=>a0 (k x y)
  |_=>b4)
 |_=>b4
@[elab_as_elim] theorem eg{k:d3->d3->b7}{a:b0}{r:b7}{P:b0->b0->Prop}(h:Jg k a b=a0 r)(H:∀x y,k x y=r->P (.int x) (.int y)):P a b:=by
 cases a with
 |int x=>
  cases b with
  |int y=>exact H x y (C6 h)
  |_=>cases h
 |_=>cases h
def Tz(b:b0)(r:b7):j0 b7:=match b with
 | .none=>a0 r
 |_=>b4
@[elab_as_elim] theorem cI{b:b0}{x:b7}{P:b0->Prop}(h:Tz b x=a0 r)(H:x=r->P .none):P b:=by
 cases b with
 |none=>exact H (C6 h)
 |_=>cases h
def KQ(a b:b0):j0 b7:=match b with
 | .str l=>(match a with
  | .str m=>(match m with
   |[]=>b4
   |c::r=>if r.isEmpty then a0 (l.contains c)else b4)
  |_=>b4)
 |_=>b4
@[elab_as_elim] theorem cv{a:b0}{r:b7}{P:b0->b0->Prop}(h:KQ a b=a0 r)(H:∀l c,l.contains c=r->P (.str [c]) (.str l)):P a b:=by
 cases b with
 |str l=>cases a with
  |str m=>cases m with
   |nil=>cases h
   |cons c t=>cases t with|nil=>exact H l c (C6 h)|cons=>cases h
  |_=>cases h
 |_=>cases h
def B5(o:Dz)(a b:b0)(st:St):j0 b7:=match o with
 | .eq=>Bj st a b
 | .ne=>(Bj st a b).map (!·)
 | .lt=>Jg (λx y=>decide (x<y)) a b
 | .le=>Jg (λx y=>decide (x<=y)) a b
 | .gt=>Jg (λx y=>decide (y<x)) a b
 | .ge=>Jg (λx y=>decide (y<=x)) a b
 | .isin=>inOp a b
 | .notin=>(inOp a b).map (!·)
 | .is=>Tz b (Tn a)
 | .isnot=>Tz b (!Tn a)
where
 inOp (a b:b0):j0 b7:=match st.items? b with
  |some xs=>if xs.all (λx=>P0 x a)then a0 (xs.any λx=>l3 x a)else b4
  |none=>match st.dict? b with
   |some es=>if v7 es a then a0 (D2 es a).isSome else b4
   |none=>KQ a b
def TN{α:Type}(xs:a7 α)(k:d3):j0 α:=if 0<=k/\k<=j8 then xs[k.toNat]? else b4
def IY(d i:b0)(st:St):j0 b0:=match st.dict? d with
 |some es=>if v7 es i then t5 es i else b4
 |none=>b4
def Ld(d:b0)(k:d3)(st:St):j0 b0:=match st.items? d with
 |some xs=>TN xs k
 |none=>(match d with
  | .str l=>(TN l k).map λc=>.str [c]
  |_=>IY d (.int k) st)
def J9(d i:b0)(st:St):j0 b0:=match i with
 | .int k=>Ld d k st
 |_=>IY d i st
set_option genCtorIdx false in
inductive KP (st:St):b0->b0->b0->Prop
 |it {d} (xs) {k:d3} {x} (h:st.items? d=a0 xs) (hk:0<=k/\k<=j8) (g:xs[k.toNat]?=a0 x):KP st d (.int k) x
 |dc {d i x} (es) (h:st.dict? d=a0 es) (ok:v7 es i=a8) (g:t5 es i=a0 x):KP st d i x
 |st {l} {k:d3} (ch) (hk:0<=k/\k<=j8) (g:l[k.toNat]?=a0 ch):KP st (.str l) (.int k) (.str [ch])
theorem Xr{d:b0}{st:St}(h:IY d i st=a0 x):KP st d i x:=by
 unfold IY at h;cases a:st.dict? d with
 |none=>rw[a]at h;cases h
 |some c=>rw[a]at h;let b:=V0 h;ext1 b e g;exact .dc c a e g
theorem WV{d:b0}{st:St}(h:J9 d i st=a0 x):KP st d i x:=by
 cases i with
 |int k=>
  replace h:Ld d k st=a0 x:=h;unfold Ld at h;cases b:st.items? d with
  |some e=>rw[b]at h;let a:=V0 h;ext1 a c g;exact .it e b c g
  |none=>
   rw[b]at h;clear b;cases d with
   |str l=>refine c9 (Iu (show(TN l k).map _=a0 x from h)) ?_;clear h;rintro f g rfl;let a:=V0 g;ext1 a c g;exact .st f c g
   |_=>exact Xr h
 |_=>exact Xr h
def Eh(d:b0)(k:d3)(st:St):j0 (b0×St):=match st.list? d with
 |some xs=>if 0<=k/\k<=j8 then a0 (.ref st.n,st.A (.L (xs.take k.toNat)))else b4
 |none=>(match d with
  | .ro xs=>if 0<=k/\k<=j8 then a0 (.ref st.n,st.A (.L ((xs.take k.toNat).map .int)))else b4
  |_=>b4)
def Er(d:b0)(k:d3)(st:St):j0 (b0×St):=match st.list? d with
 |some xs=>if 0<=k/\k<=j8 then a0 (.ref st.n,st.A (.L (xs.drop k.toNat)))else b4
 |none=>(match d with
  | .B xs=>if 1<=k/\k<=xs.length/\xs.length<=j8 then a0 (.B (xs.drop k.toNat),st)else b4
  |_=>b4)
theorem Xd{d:b0}{k:d3}{st:St}{Q:Q1}{G:Prop}(h:o8 (Eh d k st) Q)(kl:∀xs,st.list? d=a0 xs->0<=k/\k<=j8->Q (.ref st.n) (st.A (.L (xs.take k.toNat)))->G)
 (kr:∀xs,d= .ro xs->0<=k/\k<=j8->Q (.ref st.n) (st.A (.L ((xs.take k.toNat).map .int)))->G):G:=by
 unfold Eh at h;cases hx:st.list? d with
 |some xs=>rw[hx]at h;let zz:=Et h;ext1 zz hk h;exact kl xs hx hk h
 |none=>
  rw[hx]at h;clear kl hx;cases d with
  |ro xs=>let zz:=Et h;ext1 zz hk h;exact kr xs rfl hk h
  |_=>exact h.elim
theorem aO{d:b0}{k:d3}{st:St}{Q:Q1}{G:Prop}(h:o8 (Er d k st) Q)(f:∀a,st.list? d=a0 a->0<=k/\k<=j8->Q (.ref st.n) (st.A (.L (a.drop k.toNat)))->G)
 (g:∀a,d= .B a->1<=k/\k<=a.length/\a.length<=j8->Q (.B (a.drop k.toNat)) st->G):G:=by
 unfold Er at h;cases c:st.list? d with
 |some a=>rw[c]at h;let b:=Et h;ext1 b e h;exact f a c e h
 |none=>
  rw[c]at h;clear f c;cases d with
  |B a=>let b:=Et h;ext1 b e h;exact g a rfl e h
  |_=>exact h.elim
def Fi(d:b0)(st:St):j0 (b0×St):=match st.list? d with
 |some xs=>a0 (.ref st.n,st.A (.L xs.reverse))
 |none=>b4
theorem fE{d:b0}{st:St}{Q:Q1}{G:Prop}(h:o8 (Fi d st) Q)(c:∀a,st.list? d=a0 a->Q (.ref st.n) (st.A (.L a.reverse))->G):G:=by
 unfold Fi at h;cases b:st.list? d with
 |some a=>rw[b]at h;exact c a b h
 |none=>rw[b]at h;exact h.elim
def ints?:a7 b0->j0 (a7 d3)
 |[]=>a0 []
 | .int i::r=>(ints? r).map (i::·)
 |_::_=>b4
def gn:b0->b7
 | .int _=>a8
 | .str _=>a8
 | .B l=>!l.isEmpty
 |_=>c8
def B9(xs:a7 b0):b7:=decide (xs.length<64)&&xs.all (λx=>xs.all λy=>P0 x y)&&xs.all gn
theorem Ha(h:B9 xs=a8):xs.length<64:=C5 (o6 (o6 h))
def CB:a7 b0->b0->b0
 |[],m=>m
 |x::r,m=>CB r (if r9 x m then x else m)theorem Xw:CB (x::r) m=CB r (if r9 x m then x else m):=rfl
def II(n:a6):a7 a6:=(Gf n).toList.map Gi
def DJ(ds:a7 b0)(k:b0->j0 (b0×St))(k2:b0->b0->j0 (b0×St)):j0 (b0×St):=match ds with
 |[]=>b4
 |d::r=>match r with
  |[]=>k d
  |e::r=>match r with
   |[]=>k2 d e
   |_=>b4
def CA(ds:a7 b0)(k:b0->j0 (b0×St)):j0 (b0×St):=DJ ds k λw0 w0=>b4
def ZK(ds:a7 b0)(k:b0->b0->j0 (b0×St)):j0 (b0×St):=DJ ds (λw0=>b4) k
def Ej(d:b0)(k:d3->j0 (b0×St)):j0 (b0×St):=match d with
 | .int i=>k i
 |_=>b4
def CC(d:b0):b7:=match d with
 | .str _=>a8
 |_=>c8
def Xj(d:b0)(st:St):j0 (b0×St):=match d with
 | .B xs=>if xs.length<=j8 then a0 (.int xs.length,st)else b4
 |d=>(match st.list? d with
  |some xs=>a0 (.int xs.length,st)
  |none=>(st.dict? d).map λes=>(.int es.length,st))
def M3(f:Bi)(ds:a7 b0)(st:St):j0 (b0×St):=match f with
 | .len=>CA ds λd=>Xj d st
 | .str=>CA ds λd=>Ej d λi=>if 0<=i/\i<=1000 then a0 (.str (II i.toNat),st)else b4
 | .int=>CA ds λd=>Ej d λi=>a0 (.int i,st)
 | .tuple=>CA ds λd=>(st.items? d).map λxs=>(.B xs,st)
 | .dict=>CA ds λd=>(st.dict? d).bind λes=>if es.length<=8/\es.all (λe=>CC e.1)then a0 (.ref st.n,st.A (.D es es.length))else b4
 | .sum=>CA ds λd=>(st.list? d).bind λxs=>(ints? xs).bind λl=>a0 (.int l.sum,st)
 | .max=>DJ ds (λd=>(st.list? d).bind λxs=>(ints? xs).bind λl=>match l with
  |[]=>b4
  |x::r=>a0 (.int (r.foldl max x),st)) λa b=>Ej a λa=>Ej b λb=>a0 (.int (max a b),st)
 | .min=>DJ ds (λd=>(st.list? d).bind λxs=>match xs with
  |[]=>b4
  |x::r=>if B9 xs then a0 (CB r x,st)else b4) λa b=>Ej a λa=>Ej b λb=>a0 (.int (min a b),st)
 | .sorted=>CA ds λd=>(st.list? d).bind λxs=>if B9 xs then a0 (.ref st.n,st.A (.L (y8 xs)))else b4
 | .sS=>CA ds λd=>(st.list? d).bind λxs=>if xs.all (λx=>xs.all λy=>P0 x y)/\xs.length<=j8/\B9 (C9 xs)then a0 (.ref st.n,st.A (.L (y8 (C9 xs))))else b4
 | .sI=>CA ds λd=>(st.dict? d).bind λes=>if B9 (es.map λe=>b0.B [e.1,e.2])/\es.all (λe=>leaf e.1)then a0 (.ref st.n,st.A (.L (y8 (es.map λe=>b0.B [e.1,e.2]))))else b4
 | .lR=>CA ds λd=>Ej d λk=>if 0<=k/\k<=j8 then a0 (.ref st.n,st.A (.L ((p0 k.toNat).map λ(i:a6)=>b0.int (Pm i))))else b4
 | .dZ=>ZK ds λa b=>(st.items? a).bind λxs=>(st.items? b).bind λys=>if(xs.length<=j8)/\xs.all CC then a0 (.ref st.n,st.A (.D ((xs.zip ys).foldl (λes e=>Q5 es e.1 e.2) []) ((xs.zip ys).foldl (λes e=>Q5 es e.1 e.2) []).length))else b4
section
variable{P:a7 b0->Prop}
theorem aQ(h:o8 (DJ ds k k2) Q)(H:∀d,o8 (k d) Q->P [d])(a:∀d e,o8 (k2 d e) Q->P [d,e]):P ds:=match ds,h with
 |[d],h=>H d h
 |[d,e],h=>a d e h
theorem uA(h:o8 (CA ds k) Q)(H:∀d,o8 (k d) Q->P [d]):P ds:=aQ h H λa a h=>h.elim
theorem qf{P:b0->Prop}(h:o8 (Ej d ki) Q)(H:∀i,o8 (ki i) Q->P (.int i)):P d:=match d,h with
 | .int i,h=>H i h
theorem CZ{α:Type}{o:j0 α}{k:α->j0 (b0×St)}(h:o8 (o.bind k) Q):∃a,o=a0 a/\o8 (k a) Q:=match o,h with
 |some a,h=>⟨a,rfl,h⟩
theorem Lq{α:Type}{o:j0 α}{k:α->b0×St}(h:o8 (o.map k) Q):∃a,o=a0 a/\Q (k a).1 (k a).2:=match o,h with
 |some a,h=>⟨a,rfl,h⟩
theorem Zw[Dm p](h:o8 (if p then o else o2) Q):(p/\o8 o Q)\/o8 o2 Q:=by
 by_cases a:p
 .exact .inl ⟨a,by rwa [g0 a]at h⟩
 .exact .inr (by rwa [j4 a]at h)
theorem An[Dm p](h:o8 (if p then o else b4) Q):p/\o8 o Q:=by
 by_cases a:p
 .exact⟨a,by rwa [g0 a]at h⟩
 .rw[j4 a]at h;exact h.elim
end
def aA(m:j3)(l:a7 a6)(ds:a7 b0)(st:St):j0 (b0×St):=match l with
 |[]=>b4
 |c::r=>if r.isEmpty/\m="isspace"/\ds.isEmpty/\33<=c/\c<=126 then a0 (.bool c8,st)else b4
def bE(m:j3)(xs ds:a7 b0)(st:St):j0 (b0×St):=CA ds λx=>if m="index"/\xs.all (λy=>P0 y x)then(xs.findIdx? λy=>l3 y x).map λ(i:a6)=>(.int i,st)else b4
def FL(m:j3)(a:a6)(xs ds:a7 b0)(st:St):j0 (b0×St):=match ds with
 |[]=>if m="pop" then(xs.getLast?).map λx=>(x,st.set a (.L xs.dropLast))else b4
 |x::r=>match r with
  |[]=>if m="append" then(if xs.length<=j8 then a0 (.none,st.set a (.L (xs++[x])))else b4)
   else if m="extend" then(st.list? x).bind λys=>if xs.length+ys.length<=j8 then a0 (.none,st.set a (.L (xs++ys)))else b4
   else b4
  |_=>b4
def Fg(m:j3)(a:a6)(es:a7 (b0×b0))(ep:a6)(ds:a7 b0)(st:St):j0 (b0×St):=DJ ds
 (λk=>if m="pop"/\v7 es k then(t5 es k).map λv=>(v,st.set a (.D (Fk es k) (ep+1)))else b4)
 λk v=>if m="get" then(if v7 es k then a0 ((t5 es k).getD v,st)else b4)
  else if m="setdefault" then(if v7 es k/\es.length<=j8 then a0 (match t5 es k with
   |some u=>(u,st)
   |none=>(v,st.set a (.D (es++[(k,v)]) (ep+1))))else b4)
  else b4
def Ac(m:j3)(d:b0)(ds:a7 b0)(st:St):j0 (b0×St):=match d with
 | .str l=>aA m l ds st
 | .B xs=>bE m xs ds st
 | .ref a=>if a<st.n then(match st.h a with
  | .L xs=>FL m a xs ds st
  | .D es ep=>Fg m a es ep ds st
  |_=>b4)else b4
 |_=>b4
def To:b0->a6
 | .str _=>3
 | .B _=>4
 |_=>0
def P8(st:St)(d:b0):a6:=match st.list? d with
 |some _=>1
 |none=>(match st.dict? d with
  |some _=>2
  |none=>To d)
def AX(k:a6)(m:j3):b7:=match k with
 |1=>m=="pop"||m=="append"||m=="extend"
 |2=>m=="pop"||m=="get"||m=="setdefault"
 |3=>m=="isspace"
 |4=>m=="index"
 |_=>c8
inductive It where
 |seq (d:b0) (k:a6)
 |keys (a:a6) (k:a6) (n:a6) (ep:a6)
 |text (l:a7 a6)
 |range (i n:d3)
 |enum (k:a6) (d:b0)
 |zip (a b:b0) (k:a6)
def It.next(it:It)(st:St):j0 (j0 (b0×It)):=match it with
 | .seq d k=>(st.items? d).map λxs=>(xs[k]?).map λx=>(x,.seq d (k+1))
 | .keys a k n ep=>if a<st.n then(match st.h a with
  | .D es ep'=>if es.length=n/\ep'=ep/\es.all (λe=>leaf e.1)then a0 ((es[k]?).map λe=>(e.1,.keys a (k+1) n ep))else b4
  |_=>b4)else b4
 | .text l=>a0 (match l with|[]=>b4|c::r=>a0 (.str [c],.text r))
 | .range i n=>a0 (if i<n then a0 (.int i,.range (i+1) n)else b4)
 | .enum k d=>(st.items? d).map λxs=>(xs[k]?).map λx=>(.B [.int k,x],.enum (k+1) d)
 | .zip a b k=>(st.items? a).bind λxs=>(st.items? b).map λys=>match xs[k]?,ys[k]? with
  |some x,a0 y=>a0 (.B [x,y],.zip a b (k+1))
  |_,_=>b4
def BV(d:b0)(st:St):j0 It:=match d with
 | .str l=>if l.all (·<128)then a0 (.text l)else b4
 | .B ds=>a0 (.seq (.B ds) 0)
 | .ref a=>if a<st.n then(match st.h a with
  | .D es ep=>if es.all (λe=>leaf e.1)then a0 (.keys a 0 es.length ep)else b4
  | .L _=>a0 (.seq (.ref a) 0)
  |_=>b4)else b4
 |_=>b4
set_option genCtorIdx false in
mutual
inductive X where
 |e (d:b0)
 |str (x:j3)
 |a (x:j3)
 |C (e:X) (f:j3)
 |sub (e i:X)
 |to (e i:X)
 |from(e i:X)
 |rev (e:X)
 |B (es:Xs)
 |L (es:Xs)
 |D (ks:a7 j3) (es:Xs)
 |bin (o:Ei) (a b:X)
 |not (e:X)
 |and (a b:X)
 |or (a b:X)
 |cmp (o:Dz) (a b:X)
 |cmp2 (o p:Dz) (a b c:X)
 |ite (c a b:X)
 |Q (gs:Gs)
 |bi (f:Bi) (es:Xs)
 |call (f:j3) (es:Xs)
 |new (c:j3) (es:Xs)
 |m (o:X) (m:j3) (es:Xs)
inductive Xs where
 |nil
 |cons (e:X) (r:Xs)
inductive Gs where
 |elt (e:X)
 |cons (p:a7 j3) (it:Dd) (ifs:Xs) (r:Gs)
inductive Dd where
 |of (e:X)
 |range (e:X)
 |enum (e:X)
 |zip (a b:X)
end
set_option genCtorIdx true
set_option genCtorIdx false in
inductive Tg where
 |a (x:j3)
 |C (e:X) (f:j3)
 |sub (e i:X)
set_option genCtorIdx false in
inductive S where
 |xE (e:X)
 |k (t:Tg) (e:X)
 |uP (ps:a7 j3) (e:X)
 |ret (e:X)
 |iff (c:X) (a b:a7 S)
 |while (c:X) (b:a7 S)
 |for (p:a7 j3) (it:Dd) (b:a7 S)
 |cont
 |dead
abbrev Env:=j3->j0 b0
def Env.set(ρ:Env)(x:j3)(d:b0):Env:=λy=>if y=x then a0 d else ρ y
def Env.clear(ρ:Env)(xs:a7 j3):Env:=λy=>if xs.contains y then b4 else ρ y
def Gs.tgts:Gs->a7 j3
 | .elt _=>[]
 | .cons p _ _ r=>p++r.tgts
theorem tgE:(Gs.elt e).tgts=[]:=rfl
theorem tgC:(Gs.cons p a b r).tgts=p++r.tgts:=rfl
def AD(ps:a7 j3)(d:b0)(ρ:Env):j0 Env:=match ps with
 |[x]=>a0 (ρ.set x d)
 |ps=>(match d with
  | .B ds=>if ds.length=ps.length then a0 ((ps.zip ds).foldl (λρ p=>ρ.set p.1 p.2) ρ)else b4
  |_=>b4)
def Cj(ps:a7 j3)(d:b0)(st:St)(ρ:Env):j0 Env:=match st.items? d with
 |some ds=>if ds.length=ps.length then a0 ((ps.zip ds).foldl (λρ p=>ρ.set p.1 p.2) ρ)else b4
 |none=>b4
inductive Fl where|next|cont|ret (d:b0)abbrev Cl:=j3->j3->a7 b0->St->Q1->Prop
def Bm(step:b0->St->a7 b0->(a7 b0->St->Prop)->Prop):a6->It->St->a7 b0->(a7 b0->St->Prop)->Prop
 |0,_,_,_,_=>k6
 |n+1,it,st,acc,Q=>match it.next st with
  |none=>k6
  |some b4=>Q acc st
  |some (a0 (d,it'))=>step d st acc λacc st=>Bm step n it' st acc Q
inductive LG (step:b0->St->a7 b0->(a7 b0->St->Prop)->Prop) (m:a6) (it:It) (st:St) (acc:a7 b0) (Q:a7 b0->St->Prop):Prop
 |done (h:it.next st=a0 b4) (q:Q acc st)
 |turn (n) (hn:n<m) (d it') (h:it.next st=a0 (a0 (d,it'))) (w:step d st acc λacc st=>Bm step n it' st acc Q)
theorem rp(h:Bm step m it st acc Q):LG step m it st acc Q:=by
 cases m with
 |zero=>exact h.elim
 |succ n=>
  conv at h=>whnf
  cases a:it.next st with
  |none=>rw[a]at h;exact h.elim
  |some o=>
   rw[a]at h;cases o with
   |none=>exact .done a h
   |some q=>exact .turn n (B8 n) q.1 q.2 a h
inductive sX {α:Type} (o:j0 α) (K:α->Prop):Prop
 |mk (a) (h:o=a0 a) (k:K a)
theorem Yu{o:j0 Env}(h:match o with|none=>k6|some ρ=>K ρ):sX o K:=match o,h with
 |some a,h=>⟨a,rfl,h⟩
section
variable(C:Cl)
mutual
noncomputable def W:X->Env->St->Q1->Prop
 | .e d,_,st,Q=>Q d st
 | .str x,_,st,Q=>Q (q9 x) st
 | .a x,ρ,st,Q=>(match ρ x with|some d=>Q d st|none=>k6)
 | .C e f,ρ,st,Q=>W e ρ st λd st=>(match G8 st d f with|some v=>Q v st|none=>k6)
 | .sub e i,ρ,st,Q=>W e ρ st λd st=>W i ρ st λk st=>(match J9 d k st with|some v=>Q v st|none=>k6)
 | .to e i,ρ,st,Q=>W e ρ st λd st=>W i ρ st λk st=>(match k with| .int k=>o8 (Eh d k st) Q|_=>k6)
 | .from e i,ρ,st,Q=>W e ρ st λd st=>W i ρ st λk st=>(match k with| .int k=>o8 (Er d k st) Q|_=>k6)
 | .rev e,ρ,st,Q=>W e ρ st λd st=>o8 (Fi d st) Q
 | .B es,ρ,st,Q=>Ws es ρ st λds st=>Q (.B ds) st
 | .L es,ρ,st,Q=>Ws es ρ st λds st=>Q (.ref st.n) (st.A (.L ds))
 | .D ks es,ρ,st,Q=>Ws es ρ st λds st=>Q (.ref st.n) (st.A (.D ((ks.map q9).zip ds) ks.length))
 | .bin o a b,ρ,st,Q=>W a ρ st λx st=>W b ρ st λy st=>o8 (V3 o x y st) Q
 | .not e,ρ,st,Q=>WT e ρ st λb st=>Q (.bool !b) st
 | .and a b,ρ,st,Q=>W a ρ st λd st=>(match d with| .bool a8=>W b ρ st Q| .bool c8=>Q (.bool c8) st|_=>k6)
 | .or a b,ρ,st,Q=>W a ρ st λd st=>(match d with| .bool a8=>Q (.bool a8) st| .bool c8=>W b ρ st Q|_=>k6)
 | .cmp o a b,ρ,st,Q=>W a ρ st λx st=>W b ρ st λy st=>(match B5 o x y st with|some v=>Q (.bool v) st|none=>k6)
 | .cmp2 o p a b c,ρ,st,Q=>W a ρ st λx st=>W b ρ st λy st=>(match B5 o x y st with
  |some a8=>W c ρ st λz st=>(match B5 p y z st with|some v=>Q (.bool v) st|none=>k6)
  |some c8=>Q (.bool c8) st
  |none=>k6)
 | .ite c a b,ρ,st,Q=>WT c ρ st λt st=>(match t with|true=>W a ρ st Q|false=>W b ρ st Q)
 | .Q gs,ρ,st,Q=>WG gs ρ (ρ.clear (".0"::gs.tgts)) st [] λds st=>Q (.ref st.n) (st.A (.L ds))
 | .bi f es,ρ,st,Q=>Ws es ρ st λds st=>o8 (M3 f ds st) Q
 | .call f es,ρ,st,Q=>Ws es ρ st λds st=>C "" f ds st Q
 | .new c es,ρ,st,Q=>Ws es ρ st λds st=>C c "__init__" (.ref (st.n+1)::ds) ((st.A (.fld [])).A (.I c st.n)) λd st'=>(match d with| .none=>Q (.ref (st.n+1)) st'|_=>k6)
 | .m o m es,ρ,st,Q=>W o ρ st λd st=>(match st.inst? d with
  |some (c,_)=>noFld st d m/\c≠""/\(BO c).contains m=a8/\Ws es ρ st λds st=>C c m (d::ds) st Q
  |none=>AX (P8 st d) m=a8/\Ws es ρ st λds st'=>P8 st' d=P8 st d/\o8 (Ac m d ds st') Q)
noncomputable def Ws:Xs->Env->St->(a7 b0->St->Prop)->Prop
 | .nil,_,st,Q=>Q [] st
 | .cons e r,ρ,st,Q=>W e ρ st λd st=>Ws r ρ st λds st=>Q (d::ds) st
noncomputable def WT:X->Env->St->(b7->St->Prop)->Prop
 | .not e,ρ,st,Q=>WT e ρ st λb st=>Q (!b) st
 | .and a b,ρ,st,Q=>WT a ρ st λt st=>(match t with|true=>WT b ρ st Q|false=>Q c8 st)
 | .or a b,ρ,st,Q=>WT a ρ st λt st=>(match t with|true=>Q a8 st|false=>WT b ρ st Q)
 | .cmp o a b,ρ,st,Q=>W a ρ st λx st=>W b ρ st λy st=>(match B5 o x y st with|some v=>Q v st|none=>k6)
 | .cmp2 o p a b c,ρ,st,Q=>W a ρ st λx st=>W b ρ st λy st=>(match B5 o x y st with
  |some a8=>W c ρ st λz st=>(match B5 p y z st with|some v=>Q v st|none=>k6)
  |some c8=>Q c8 st
  |none=>k6)
 | .a x,ρ,st,Q=>(match ρ x with|some (.bool b)=>Q b st|_=>k6)
 | .call f es,ρ,st,Q=>Ws es ρ st λds st=>C "" f ds st λd st=>(match d with| .bool b=>Q b st|_=>k6)
 | .m o m es,ρ,st,Q=>W o ρ st λd st=>(match st.inst? d with
  |some (c,_)=>noFld st d m/\c≠""/\(BO c).contains m=a8/\Ws es ρ st λds st=>C c m (d::ds) st λd st=>(match d with| .bool b=>Q b st|_=>k6)
  |none=>AX (P8 st d) m=a8/\Ws es ρ st λds st'=>P8 st' d=P8 st d/\o8 (Ac m d ds st') λd st=>(match d with| .bool b=>Q b st|_=>k6))
 |_,_,_,_=>k6
noncomputable def Eg:Xs->Env->St->(b7->St->Prop)->Prop
 | .nil,_,st,Q=>Q a8 st
 | .cons e r,ρ,st,Q=>WT e ρ st λb st=>(match b with|true=>Eg r ρ st Q|false=>Q c8 st)
noncomputable def WI:Dd->Env->St->(It->St->Prop)->Prop
 | .of e,ρ,st,Q=>W e ρ st λd st=>(match BV d st with|some it=>Q it st|none=>k6)
 | .range e,ρ,st,Q=>W e ρ st λd st=>(match d with| .int n=>(if 0<=n/\n<=j8 then Q (.range 0 n) st else k6)|_=>k6)
 | .enum e,ρ,st,Q=>W e ρ st λd st=>(match st.list? d with|some _=>Q (.enum 0 d) st|none=>k6)
 | .zip a b,ρ,st,Q=>W a ρ st λx st=>W b ρ st λy st=>(match st.items? x,st.items? y with|some _,a0 _=>Q (.zip x y 0) st|_,_=>k6)
noncomputable def WG:Gs->Env->Env->St->a7 b0->(a7 b0->St->Prop)->Prop
 | .elt e,_,ρ,st,acc,Q=>W e ρ st λv st=>acc.length<=j8/\Q (acc++[v]) st
 | .cons p src ifs r,ρs,ρ,st,acc,Q=>WI src ρs st λit st=>∃n,Bm (λd st acc k=>(match AD p d ρ with
  |none=>k6
  |some ρ'=>Eg ifs ρ' st λb st=>(match b with
   |true=>WG r ρ' ρ' st acc k
   |false=>k acc st))) n it st acc Q
end
abbrev QS:=Fl->Env->St->Prop
def DC(step:b0->Env->St->QS->Prop):a6->It->Env->St->QS->Prop
 |0,_,_,_,_=>k6
 |n+1,it,ρ,st,Q=>match it.next st with
  |none=>k6
  |some b4=>Q .next ρ st
  |some (a0 (d,it'))=>step d ρ st λf ρ st=>match f with
   | .ret v=>Q (.ret v) ρ st
   |_=>DC step n it' ρ st Q
def IC(test:Env->St->(b7->St->Prop)->Prop)(body:Env->St->QS->Prop):a6->Env->St->QS->Prop
 |0,_,_,_=>k6
 |n+1,ρ,st,Q=>test ρ st λb st=>match b with
  |false=>Q .next ρ st
  |true=>body ρ st λf ρ st=>match f with
   | .ret v=>Q (.ret v) ρ st
   |_=>IC test body n ρ st Q
inductive LS (step:b0->Env->St->QS->Prop) (m:a6) (it:It) (ρ:Env) (st:St) (Q:QS):Prop
 |done (h:it.next st=a0 b4) (q:Q .next ρ st)
 |turn (n) (hn:n<m) (d it') (h:it.next st=a0 (a0 (d,it'))) (w:step d ρ st λf ρ st=>match f with
  | .ret v=>Q (.ret v) ρ st
  |_=>DC step n it' ρ st Q)
theorem zK(h:DC step m it ρ st Q):LS step m it ρ st Q:=by
 cases m with
 |zero=>exact h.elim
 |succ n=>
  conv at h=>whnf
  cases a:it.next st with
  |none=>rw[a]at h;exact h.elim
  |some o=>
   rw[a]at h;cases o with
   |none=>exact .done a h
   |some q=>exact .turn n (B8 n) q.1 q.2 a h
def setField(st:St)(d:b0)(f:j3)(v:b0):j0 St:=match st.inst? d with
 |some (c,e)=>if(CF c).contains f then(match st.h e with| .fld es=>if es.length<=j8 then a0 (st.set e (.fld ((f,v)::es)))else b4|_=>b4)else b4
 |none=>b4
def setItem(st:St)(d i v:b0):j0 St:=match d with
 | .ref a=>if a<st.n then(match st.h a with
  | .L xs=>(match i with| .int k=>if 0<=k/\k.toNat<xs.length then a0 (st.set a (.L (xs.set k.toNat v)))else b4|_=>b4)
  | .D es ep=>if v7 es i/\es.length<=j8 then a0 (st.set a (.D (Q5 es i v) (if(t5 es i).isSome then ep else ep+1)))else b4
  |_=>b4)else b4
 |_=>b4
mutual
noncomputable def WS:S->Env->St->QS->Prop
 | .xE e,ρ,st,Q=>W C e ρ st λd st=>(match d with| .ref _=>k6| .B _=>k6| .ro _=>k6|_=>Q .next ρ st)
 | .k t e,ρ,st,Q=>W C e ρ st λv st=>(match t with
  | .a x=>Q .next (ρ.set x v) st
  | .C o f=>W C o ρ st λd st=>(match setField st d f v with|some st=>Q .next ρ st|none=>k6)
  | .sub o i=>W C o ρ st λd st=>W C i ρ st λk st=>(match setItem st d k v with|some st=>Q .next ρ st|none=>k6))
 | .uP ps e,ρ,st,Q=>W C e ρ st λd st=>(match Cj ps d st ρ with|some ρ'=>Q .next ρ' st|none=>k6)
 | .ret e,ρ,st,Q=>W C e ρ st λd st=>Q (.ret d) ρ st
 | .iff c a b,ρ,st,Q=>WT C c ρ st λt st=>(match t with|true=>G4 a ρ st Q|false=>G4 b ρ st Q)
 | .while c b,ρ,st,Q=>∃n,IC (λρ st k=>WT C c ρ st k) (λρ st k=>G4 b ρ st k) n ρ st Q
 | .for p src b,ρ,st,Q=>WI C src ρ st λit st=>∃n,DC (λd ρ st k=>(match AD p d ρ with
  |none=>k6
  |some ρ'=>G4 b ρ' st k)) n it ρ st Q
 | .cont,ρ,st,Q=>Q .cont ρ st
 | .dead,_,_,_=>k6
noncomputable def G4:a7 S->Env->St->QS->Prop
 |[],ρ,st,Q=>Q .next ρ st
 |s::r,ρ,st,Q=>WS s ρ st λf ρ st=>(match f with| .next=>G4 r ρ st Q|f=>Q f ρ st)
end
end
structure FD where
 params:a7 j3
 body:a7 S
abbrev RA:=j3->j3->j0 FD
def u9(P:RA):a6->Cl
 |0,_,_,_,_,_=>k6
 |n+1,c,f,ds,st,Q=>match P c f with
  |none=>k6
  |some fd=>if ds.length=fd.params.length then
   G4 (u9 P n) fd.body (λx=>(fd.params.zip ds).lookup x) st λfl w0 st=>(match fl with| .ret d=>Q d st| .next=>Q .none st| .cont=>k6)
   else k6
end Internal
set_option genCtorIdx false
local macro_rules (kind:=Lean.Parser.Tactic.rwSeq)
 |s=>Internal.MqmR s
namespace Internal
open PySem PyProof.Rows
abbrev qVS:=b8->f8->Prop
theorem ji(h:let a:=M;let b:=Q;b9 a A t b E s):b9 M A t Q E s:=h
section
variable{α β:Type}[Dm c]
theorem Fb(h:c)(k:b9 M A x Q E s):b9 M A (if c then x else y) Q E s:=by rw[g0 h];exact k
theorem Y3(h:¬c)(k:b9 M A y Q E s):b9 M A (if c then x else y) Q E s:=by rw[j4 h];exact k
end
section
variable{α β:Type}
theorem R8{a:α}(h:b9 M A (f a) R E s):b9 M A (pure a>>=f) R E s:=b5 (f6 h)theorem Iv(h:b9 M A (g ()) R E s):b9 M A (rule tag>>=g) R E s:=b5 (EK h)theorem Nt(h:b9 M A (g ()) R E s):b9 M A (Pg pos>>=g) R E s:=b5 (Fs h)theorem IU(h:b9 M A (g ()) R E s):b9 M A (letGo removed keep>>=g) R E s:=b5 (PZ h)theorem Nm(b:s.heap.get? a=a0 o)(c:o.data= .fields vs)(hi:vs[i]?=a0 x)(h:b9 M A (k x) R E s):b9 M A (field (.ref a) i>>=k) R E s:=b5 (AY b c hi h)theorem LB{f:j0 (l4 b8)->M6 β}(b:s.heap.get? a=a0 o)(c:o.data= .seq items n)(h:b9 M A (f (a0 items)) R E s):b9 M A (seqItems? (.ref a)>>=f) R E s:=b5 (Cg b c h)theorem Xy(a:s.TypeIs v T)(h:b9 M A (k (.type T)) R E s):b9 M A (JI v>>=k) R E s:=b5 (HI a h)theorem GD{f:l4 Ag->M6 β}(b:s.heap.get? a=a0 o)(c:o.data= .dict es ep)(h:b9 M A (f es) R E s):b9 M A (dictEntries a part>>=f) R E s:=b5 (jC b c h)theorem dW{f:a6->M6 β}(b:s.heap.get? a=a0 o)(c:o.data= .dict es ep)(h:b9 M A (f ep) R E s):b9 M A (dictEpoch a part>>=f) R E s:=b5 (wpAny_dictEpoch b c h)theorem fG{f:j0 b8->M6 β}(a:s.TypeIs v T)(b:Ci (.type T) name=pure r)(h:b9 M A (f r) R E s):b9 M A (specialOf v name>>=f) R E s:=b5 (HH a b h)theorem UD{f:l4 b8->M6 β}(b:s.heap.get? a=a0 o)(c:o.data= .seq items n)(h:b9 M A (f items) R E s):b9 M A (iT (.ref a)>>=f) R E s:=b5 (Pz b c h)theorem Zj{f:b7->M6 β}(a:s.TypeIs v T)(hs:isSubtype (.type T) (.type U)=pure b)(h:b9 M A (f b) R E s):b9 M A (Pb v (.type U)>>=f) R E s:=b5 (JL a hs h)theorem io{f:j0 b8->M6 β}(h:b9 M A (f A.handled) R E s):b9 M A (handled>>=f) R E s:=b5 (jV h)theorem CW(h:b9 M A m (λa b=>b9 M A (f a) R E b) E s):b9 M A (holding vs m>>=f) R E s:=b5 (L0 h)theorem KS{f:l4 (d3×b8)×a6×AC->M6 β}(b:s.heap.get? a=a0 o)(c:o.data= .set es ep t)(d:t.fits es.size=a8)(h:b9 (d7 prog w) A (f (es,ep,t)) R E s):b9 (d7 prog w) A (setState a>>=f) R E s:=b5 (Fp b c d h)theorem NK(a:s.TypeIs (args.pos.headD .none) "dict")(h:b9 (d7 prog w) A (g ()) R E s):b9 (d7 prog w) A (yi name args>>=g) R E s:=b5 (WO a h)
end
structure Cx where
 κ:a6->i7
 P:i7->Prop
def D0(l:a7 a6):o3:=⟨l.toArray⟩def nm(x:j3):o3:=Cd x
abbrev x0(items:l4 b8)(e:a6):V8:={cls:=.type "tuple",dict:=b4,data:=.seq items e,slots:=#[]}abbrev AN(items:l4 b8)(e:a6):V8:={cls:=.type "list",dict:=b4,data:=.seq items e,slots:=#[]}abbrev E5(es:l4 Ag)(e:a6):V8:={cls:=.type "dict",dict:=b4,data:=.dict es e,slots:=#[]}abbrev FI(C:i7)(d:i7):V8:={cls:=.ref C,dict:=a0 d,data:=.plain,slots:=#[]}
section
variable(base:l5)
mutual
noncomputable def V(c:Cx)(n:a6)(h:l5):b0->b8->Prop
 | .none,v=>v= .none
 | .bool b,v=>v= .bool b
 | .int i,v=>∃t,v= .int i t
 | .str l,v=>∃t,v= .str (D0 l) t
 | .B ds,v=>∃a items e,v= .ref a/\¬c.P a/\h.get? a=a0 (x0 items e)/\Vs c n h ds items.toList
 | .ref a,v=>a<n/\v= .ref (c.κ a)
 | .ro xs,v=>∃a vs,v= .ref a/\base.IsList a vs/\EM vs.toList xs/\xs.length<=1000
noncomputable def Vs(c:Cx)(n:a6)(h:l5):a7 b0->a7 b8->Prop
 |[],vs=>vs=[]
 |d::ds,vs=>∃v r,vs=v::r/\V c n h d v/\Vs c n h ds r
end
theorem Ow(h:D0 a=D0 b):a=b:=by
 let c:(D0 a).cps.toList=(D0 b).cps.toList:=by rw[h]
 simpa[D0]using c
section
variable{base:l5}
theorem Vs.length:∀{b:a7 b0}{vs:a7 b8},Vs base c n h b vs->vs.length=b.length:=by
 intro f
 induction f with
 |nil=>intro d e;rw[show _=[] from e];rfl
 |cons _ b g=>intro d a;ext n4 a v r e d i;subst e;simp[g i]theorem od(h:a0 (x0 xs e)=a0 (x0 ys e')):xs=ys:=by injection h with q;injection q with _ _ q;injection q
theorem aZ:∀(k:a6){d e:b0}{v:b8},o0 k d e=a8->V base c n h d v->V base c n h e v->l3 d e=a8:=by
 have A:∀(f:b0->b0->b7),(∀d e,f d e=a8->∀v,V base c n h d v->V base c n h e v->l3 d e=a8)->
  ∀(a b:a7 b0)(vs:a7 b8),N0 f a b=a8->Vs base c n h a vs->Vs base c n h b vs->W2 a b=a8:=by
  intro f F a
  induction a with
  |nil=>
   intro b vs s i g;cases b with
   |nil=>rfl
   |cons y t=>ext F8 g v r e s;exact nomatch e.symm.trans i
  |cons x r w=>
   intro b vs o i g;ext n4 i v M e G H;cases b with
   |nil=>exact nomatch e.symm.trans g
   |cons y t=>ext n4 g N O j l B;let z:=Gq (e.symm.trans j);ext1 z I J;exact Kv ⟨F _ _ (o6 o) v G (I▸l),w t _ (o5 o) H (J▸B)⟩
 let C:=HU (P:=λk d e=>∀v,V base c n h d v->V base c n h e v->l3 d e=a8) (λk a b v i g=>by
  ext d4 i t e;ext d4 g u j;injection e.symm.trans j with e3;clear j;subst e3;exact CG a) (λk a b v i g=>by
  ext d4 i t e;ext d4 g u j;injection e.symm.trans j with e3;rw[Ow e3];exact CG b) λk a b w o v i g=>by
  ext H9 i p Q R q s D E;ext H9 g S T j K s m l;injection q.symm.trans K with q;rw[<-q]at m;exact A _ w _ _ _ o E (od (D.symm.trans m)▸l)
 exact λk d e v L i g=>C k d e L v i g
end
end
section
variable{s:f8}
theorem CN(h:s.heap.get? a=a0 (x0 items e)):s.TypeIs (.ref a) "tuple":=d0 _ h rfl
inductive ZI (f:b0->b0->b7) (base:l5) (c:Cx) (n:a6) (h:l5) (g:a7 b0->a7 b0->b7) (m:a6->a6->b7) (r l:b7) (rest:a7 (b8×b8)):Prop
 |mk (x y xs ys) (z:rest=a7.zip xs ys) (ok:N0 f x y=a8) (hx:Vs base c n h x xs) (hy:Vs base c n h y ys) (hg:g x y=r) (hm:m xs.length ys.length=l)
theorem ZI.cons(H:ZI f base c n h g m r l ((p,q)::rest)):∃d e x y,f d e=a8/\V base c n h d p/\V base c n h e q/\g (d::x) (e::y)=r/\(g x y=r->(∀a b,m (a+1) (b+1)=m a b)->ZI f base c n h g m r l rest):=by
 obtain⟨x,y,i,j,z,C,k,o,D,E⟩:=H;cases x with
 |nil=>rw[show i=[] from k]at z;exact nomatch (show(p,q)::rest=[] from z)
 |cons d x=>
  ext n4 k K i rfl t u;cases y with
  |nil=>rw[show j=[] from o]at z;exact nomatch (show(p,q)::rest=[] from z)
  |cons e y=>ext n4 o L j rfl v w;let s:=Gq z;ext1 s F G;exact k9 (E_ F) λI J=>⟨d,e,x,y,o6 C,I▸t,J▸v,D,λA B=>⟨x,y,i,j,G,(o5 C),u,w,A,(B _ _).symm.trans E⟩⟩
theorem ZI.nil(H:ZI f base c n h g m r l [])(k:∀y:a7 b0,m 0 y.length=g [] y)(o:∀d x,m (x.length+1) 0=g (d::x) []):l=r:=by
 obtain⟨x,y,s,t,z,p,b,i,j,q⟩:=H;rw[<-q,<-j,Vs.length b,Vs.length i];clear p j;cases x with
 |nil=>exact k y
 |cons d x=>cases y with|nil=>exact o d x|cons e y=>ext F8 b a a rfl a;ext F8 i a a rfl a;cases z
theorem Ls(k:a6)(I:A.units+k<t3)(M:o0 k d e=a8)(g:V base c n s.heap d v)(h:V base c n s.heap e u)(l:Q (l3 d e) s):
 b9 (d7 prog w) A (eqBool v u) Q E s:=by
 refine HU (P:=λk d e=>∀{A:B7}{v u:b8}{Q:b7->f8->Prop},A.units+k<t3->V base c n s.heap d v->V base c n s.heap e u->Q (l3 d e) s->b9 (d7 prog w) A (eqBool v u) Q E s) ?_ ?_ ?_ k d e M I g h l
 .intro k a b A v u Q I g h l;ext d4 g t rfl;ext d4 h u rfl;exact mU l
 .intro k a b A v u Q I g h l;ext d4 g t rfl;ext d4 h u rfl;refine mP ?_;let this:decide (D0 a=D0 b)=(a==b):=by rw[P2,C3,Al];exact⟨Ow,λe=>t0 _ e⟩
  rw[this];exact l
 .intro k x y W M A v u Q I g h l;have z:=g;have B:=h;ext H9 g a N e1 rfl O i C;ext H9 h b R e2 rfl O j D;unfold eqBool
  try with_reducible refine L0 ?_
  refine(?_:b9 _ _ (if(Hu a==Hu b)=a8 then _ else _) Q E s);by_cases G:(Hu a==Hu b)=a8
  .rw[g0 G];injection O1 G with e;let this:=aZ (k+1) (d:=.B x) (e:=.B y) M z (e▸B);rw[this]at l;exact b5 (EK (f6 l))
  .rw[j4 G];let J:b9 (d7 prog w) A.in1 (Builtin.«tuple.__eq__» ⟨[.ref a,.ref b],[]⟩) (λS o=>∃v,S= .done (.ret v)/\(v≠.notImplemented/\b9 (d7 prog w) A (truthOfDropped v) Q E o)) E s:=by
    refine(b5 (JL (CN j) WL ?_):b9 _ _ (Pb (.ref b) (.type "tuple")>>=_) _ _ s);refine b5 (Pz i rfl (b5 (Pz j rfl (b5 ?_))));refine Fy _
     (λm r o=>r.1=b4/\o=s/\ZI (o0 k) base c n s.heap W2 (·==·) (W2 x y) (N.size==R.size) m)
     _ ?_ ?_ _ _ ⟨rfl,rfl,x,y,N.toList,R.toList,rfl,M,C,D,rfl,rfl⟩
    .rintro z1 m r o X;obtain⟨p,q⟩:=z1;refine t6 X ?_;clear X;clear g h z i C B j D;rintro Y rfl H;refine XU H.cons λZ d2 x' y' T K L f H=>b5 (W _ _ T (q5 (A5 (Y7 _ _ _)) I) K L ?_);let f:(l3 Z d2&&W2 x' y')=W2 x y:=f;cases hk:l3 Z d2 with|true=>rw[hk]at f;exact f6 (m0 rfl rfl (H f λa b=>by rw[P2,Al,Al];exact a6.succ_inj))|false=>rw[hk]at f;exact b5 (f6 (f6 (f6 (v8 _ rfl (λe=>by cases e) (Go (by rw[show c8=W2 x y from f];exact l:Q c8 o))))))
    .rintro z3 o z4;obtain⟨r1,r2⟩:=z3;refine t6 z4 ?_;clear z4;clear g h W z i C B j D;rintro Y rfl H;cases Y;refine f6 ?_;let U:Q (N.size==R.size) o:=by rw[H.nil (λy=>by cases y<;>rfl) λO O=>rfl];exact l
     exact v8 _ rfl (λe=>by cases e) (Go U)
   exact b5 (qB (op:=.Eq) (CN i) (CN j) pM
    (Aj pM (CN i) F.entry_tuple_eq J (F.args_tuple_eq_2 _ _)) (q5 (G3 _ _) ‹_›))
end
end Internal
namespace Internal
open PySem PySem.W PyProof.Rows
theorem eA{α β:Type}{a c x:α}{b d y:β}(h:a=x/\b=y)(e:c=x/\d=y):a=c/\b=d:=⟨h.1.trans e.1.symm,h.2.trans e.2.symm⟩
theorem wW{M:Gb}{Γ:Ec}{base:a7 PB}{q:X1}{s i j:f8}{g:a6}{t:M6 Pa}{fs:a7 PB}{h f:Wf}(k:Γ.Fits base)
 (l:∃c d,Runs M Γ q t fs s c d/\c.quiet=a8/\h=c.result/\i=d.setGen g c.genState)(m:∃c d,Runs M Γ q t fs s c d/\c.quiet=a8/\f=c.result/\j=d.setGen g c.genState):h=f/\i=j:=by
 obtain⟨r,u,n,_,a⟩:=l;obtain⟨v,w,o,_,b⟩:=m;obtain⟨e,p⟩:=Reach.det (PP n _ k) (PP o _ k);rw[<-e,<-p]at b;exact eA a b
theorem Zn{M:Gb}{Γ:Ec}{p:X1}{g:a6}{r:Resume}{s:f8}{P:(Wf->f8->Prop)->Prop}(h0:P λw0 w0=>k6)
 (h1:∀c q t fs,P λres s'=>∃e₁ s₁,Runs M (Γ.wake c p) q t fs (s.setGen g .running) e₁ s₁/\e₁.quiet=a8/\res=e₁.result/\s'=s₁.setGen g e₁.genState)
 (h2:∀a b,b.heap=s.heap->P λres s'=>res=a/\s'=b):P (Ms M Γ p g r s):=by
 delta Ms;cases s.gens[g]? with
 |none=>exact h0
 |some gs=>cases gs with
  |fresh c=>cases r with
   |send v=>cases v with|none=>exact h1 _ _ _ _|_=>exact h2 _ _ rfl
   |throw x=>exact h2 _ _ rfl
  |suspended k l c q fs cl=>exact h1 _ _ _ _
  |_=>exact h2 _ _ rfl
theorem fj{M:Gb}{Γ:Ec}{base:a7 PB}{p:X1}{s:f8}{g:a6}{r:Resume}{l:a7 b8}{e d:Wf}{f i:f8}(j:Γ.Fits base)(k:Ms M Γ p g r s e f)(m:Ms M Γ p g r s d i):e=d/\f=i:=
 Zn (P:=λR=>R e f->R d i->e=d/\f=i) (λh=>h.elim) (λc q t o=>wW (j.wake c g (λn=>.pure (.done .next)) l p)) (λa b n=>eA) k m
theorem lu{α:Type}(M:Gb){Q1 Q2:α->X1->f8->Prop}{E1 E2:b8->X1->f8->Prop}(t:M6 α):∀(Γ:Ec)(base:a7 PB)(p:X1)(s:f8),Γ.Fits base->
 Jv M Γ t Q1 E1 p s->Jv M Γ t Q2 E2 p s->Jv M Γ t (λa p s=>Q1 a p s/\Q2 a p s) (λa p s=>E1 a p s/\E2 a p s) p s:=by
 induction t with
 |pure a=>intro Γ base p s w0 h1 h2;exact⟨h1,h2⟩
 |raise e=>intro Γ base p s w0 h1 h2;exact⟨h1,h2⟩
 |unsupported w=>intro Γ base p s w0 h1 h2;exact h1
 |finish w=>intro Γ base p s w0 h1 h2;exact h1
 |yield=>intro Γ base p s w0 h1 h2;exact h1
 |fork=>intro Γ base p s w0 h1 h2;exact h1
 |await=>intro Γ base p s w0 h1 h2;exact h1
 |register=>intro Γ base p s w0 h1 h2;exact h1
 |rule _ k ih|«at» _ k ih|alloc _ k ih|loadIfAlive _ k ih|point _ k ih|fresh k ih|ask k ih|os _ _ k ih|handled _ k ih|newGen _ k ih|stack k ih|thread k ih=>intro Γ base p s hf h1 h2;exact ih _ Γ base _ _ hf h1 h2
 |load a _ k ih|genState a k ih=>intro Γ base p s hf h1 h2;obtain⟨o,ho,h1⟩:=h1;obtain⟨o',ho',h2⟩:=h2;cases C6 (ho.symm.trans ho');exact⟨o,ho,ih _ Γ base _ _ hf h1 h2⟩
 |update a _ f k ih|choose _ _ k ih=>intro Γ base p s hf h1 h2;exact⟨h1.1,ih _ Γ base _ _ hf h1.2 h2.2⟩
 |call c h g l k ih=>intro Γ base p s hf h1 h2;obtain⟨r,s1,r1,h1⟩:=h1;obtain⟨r',s2,r2,h2⟩:=h2;let f':=hf.enter c (λw0=>.pure (.done .next)) h g l p [];obtain⟨e1,e2⟩:=Reach.det (PP r1 _ f') (PP r2 _ f');injection e2 with e2;clear r2;subst e1 e2;exact⟨r,s1,r1,ih _ Γ base _ _ hf h1 h2⟩
 |resume g r l k ih=>intro Γ base p s hf h1 h2;obtain⟨res,s1,w1,h1⟩:=h1;obtain⟨res',s2,w2,h2⟩:=h2;obtain⟨e1,e2⟩:=fj (l:=[]) hf w1 w2;cases e1;clear w2;cases e2;exact⟨res,s1,w1,ih _ Γ base _ _ hf h1 h2⟩
theorem tJ{α:Type}(M:Gb){P:Prop}(t:M6 α):∀(Γ:Ec)(p:X1)(s:f8),Jv M Γ t (λw0 w0 w0=>P) (λw0 w0 w0=>P) p s->P:=by
 induction t with
 |pure a=>intro Γ p s h;exact h
 |raise e=>intro Γ p s h;exact h
 |unsupported|finish|yield|fork|await|register=>intro Γ p s h;exact h.elim
 |rule _ k ih|«at» _ k ih|alloc _ k ih|loadIfAlive _ k ih|point _ k ih|fresh k ih|ask k ih|os _ _ k ih|handled _ k ih|newGen _ k ih|stack k ih|thread k ih=>intro Γ p s h;exact ih _ Γ _ _ h
 |load a _ k ih|genState a k ih=>intro Γ p s h;obtain⟨o,_,h⟩:=h;exact ih _ Γ _ _ h
 |update a _ f k ih|choose _ _ k ih=>intro Γ p s h;exact ih _ Γ _ _ h.2
 |call c h g l k ih=>intro Γ p s h;obtain⟨r,s1,_,h⟩:=h;exact ih _ Γ _ _ h
 |resume g r l k ih=>intro Γ p s h;obtain⟨r,s1,_,h⟩:=h;exact ih _ Γ _ _ h
def FE{α:Type}(cmp:a6->a6->b7):Gj α->α
 | .ret a=>a
 | .ask i j k=>FE cmp (k (cmp i j))
def AW{α:Type}(n:a6):Gj α->(α->Prop)->Prop
 | .ret a,R=>R a
 | .ask i j k,R=>i<n/\j<n/\∀b,AW n (k b) R
theorem Ik{α β:Type}{n:a6}{f:α->Gj β}{R:β->Prop}:∀(t:Gj α),AW n t (λa=>AW n (f a) R)->AW n (t.bind f) R
 | .ret _,h=>h
 | .ask _ _ k,h=>⟨h.1,h.2.1,λb=>Ik (k b) (h.2.2 b)⟩
theorem Ok{α:Type}{n:a6}{R c:α->Prop}(d:∀a,R a->c a):∀(t:Gj α),AW n t R->AW n t c
 | .ret _,h=>d _ h
 | .ask _ _ k,h=>⟨h.1,h.2.1,λb=>Ok d (k b) (h.2.2 b)⟩
theorem RE{α:Type}{n:a6}{R:α->Prop}{cmp:a6->a6->b7}:∀(t:Gj α),AW n t R->R (FE cmp t)
 | .ret _,h=>h
 | .ask _ _ k,h=>RE (k _) (h.2.2 _)
theorem Um{α:Type}{n:a6}{R:α->Prop}{cmp:a6->a6->b7}{a:a6->a6->(b7->f8->Prop)->f8->Prop}{Q:α->f8->Prop}{s:f8}
 (c:∀i j,i<n->j<n->∀C:b7->f8->Prop,C (cmp i j) s->a i j C s):∀(t:Gj α),AW n t R->Q (FE cmp t) s->t.kasWp a Q s
 | .ret _,_,h=>h
 | .ask i j k,b,h=>c i j b.1 b.2.1 _ (Um c (k _) (b.2.2 _) h)def S9(n:a6)(p:l4 a6):Prop:=p.toList.Perm (p0 n)
theorem S9.lt{n:a6}{p:l4 a6}(h:S9 n p)(b:0<n)(i:a6):p.getD i 0<n:=by
 by_cases a:i<p.size
 .have e:p.getD i 0=p[i]:=by simp[EH,a]
  rw[e];exact List.mem_range.mp (W' h|>.mp (by simp))
 .have e:p.getD i 0=0:=by simp[EH,a]
  rw[e];exact b
theorem S9.rev{n:a6}{p:l4 a6}(h:S9 n p)(i j:a6):S9 n (kas_rev p i j):=
 (Array.perm_iff_toList_perm.mp (mirror_perm _ _ _ _)).trans h
theorem S9.bub{n:a6}{p:l4 a6}(h:S9 n p)(i j:a6):S9 n (bubble p i j):=
 (Array.perm_iff_toList_perm.mp (bubble_perm _ _ _)).trans h
section
variable(hn:0<n)
include hn
theorem Te{R:a6->Prop}(a:∀m,R m){p:l4 a6}(h:S9 n p):∀(f m:a6),AW n (kas_asc p f m) R
 |0,m=>a _
 |f+1,m=>⟨h.lt hn _,h.lt hn _,λb=>by cases b<;>first|exact Te a h f (m+1)|exact a _⟩
theorem oe:∀(f:a6){p:l4 a6},S9 n p->∀(m q:a6),AW n (kas_desc f p m q) (λr=>S9 n r.1):=by
 intro d
 induction d with
 |zero=>intro p h m q;exact h
 |succ f a=>
  intro p h m q;refine⟨h.lt hn _,h.lt hn _,λb=>?_⟩;cases b with
  |true=>
   by_cases c:q>0
   .rw[g0 c];exact a (h.rev _ _) _ _
   .rw[j4 c];exact a h _ _
  |false=>
   refine⟨h.lt hn _,h.lt hn _,λb=>?_⟩;cases b with
   |true=>simp only[DY];exact h
   |false=>simp only[Bv,Bz];exact a h _ _
theorem YL{p:l4 a6}(h:S9 n p)(m a:a6):AW n (kas_tail3 m a p) (λr=>S9 n r.2):=
 Ik _ (Te hn (λb=>h.rev _ _) (h.rev _ _) _ _)
theorem ZF{p:l4 a6}(h:S9 n p)(m a:a6):AW n (kas_descPart m a p) (λr=>S9 n r.2):=by
 refine Ik _ (Ok (λr b=>?_) _ (oe hn _ h _ _));by_cases c:r.2.2>0
 .rw[g0 c];exact YL hn (b.rev _ _) _ _
 .rw[j4 c];exact YL hn b _ _
theorem rS{p:l4 a6}(h:S9 n p)(a:a6):AW n (kas_count a p) (λr=>S9 n r.2):=by
 refine Ik _ (Te hn (λm=>?_) h _ _);by_cases c:(m==a)=a8
 .rw[g0 c];exact h
 .rw[j4 c];by_cases d:m>1
  .rw[g0 d];refine⟨h.lt hn _,h.lt hn _,λb=>?_⟩;cases b with|true=>simp only[DY];exact h|false=>simp only[Bv,Bz];exact ZF hn (h.rev _ _) _ _
  .rw[j4 d];exact ZF hn h _ _
theorem Xn{p:l4 a6}(h:S9 n p)(k:a6):∀(f l r:a6),AW n (kas_place p k f l r) λc=>True
 |0,_,_=>trivial
 |f+1,l,r=>by
  unfold kas_place;by_cases a:l≥r
  .rw[g0 a];trivial
  .rw[j4 a];refine⟨h.lt hn _,h.lt hn _,λb=>?_⟩;cases b<;>first|exact Xn h k f _ _
theorem gi:∀(f:a6){p:l4 a6},S9 n p->∀(k:a6),AW n (kas_bin f p k) (S9 n):=by
 intro b
 induction b with
 |zero=>intro a h a;exact h
 |succ f c=>intro p h k;exact Ik _ (Ok (λl a=>c (h.bub _ _) (k+1)) _ (Xn hn h k k 0 k))
theorem Lv:AW n (WK n) (S9 n):=by
 refine Ik _ (Ok (λr a=>?_) _ (rS hn (by unfold S9;simp:S9 n (HB (p0 n))) n));by_cases b:r.1<n
 .rw[g0 b];exact gi hn _ a _
 .rw[j4 b];exact a
end
def EF(n:a6)(cmp:a6->a6->b7):l4 a6:=FE cmp (WK n)def KV(ns:a7 d3):a7 b8:=ns.zipIdx.map λx=>Vb x.1 x.2
theorem pz(ns:a7 d3):(KV ns).length=ns.length:=by simp[KV]theorem RD(ns:a7 d3){i:a6}(hi:i<ns.length):(KV ns).getD i .none= .int (ns.getD i 0) i:=by simp[KV,hi]
theorem rO(prog:y9)(w:O7)(ns:a7 d3)(h2:2<=ns.length)(h64:ns.length<64):
 ∀i j,i<=j->j<ns.length->ns.getD ((EF ns.length λa b=>decide (ns.getD a 0<ns.getD b 0)).getD i 0) 0<=ns.getD ((EF ns.length λa b=>decide (ns.getD a 0<ns.getD b 0)).getD j 0) 0:=by
 let hn:0<ns.length:=m9 ‹_›;generalize hp:(EF ns.length λa b=>decide (ns.getD a 0<ns.getD b 0))=p;let hord:S9 ns.length p:=by rw[<-hp];exact RE _ (Lv hn)
 let vs:_:=KV ns
 let s:_:=({}:f8)
 let Γ:_:=(Ec.of (.builtin "" {}) []:Ec)
 let A:_:=({handled:=Γ.handled,depth:=frameCount Γ.below+Γ.code.weight,frames:=b4,guards:=b4,units:=Γ.units}:B7)
 let hΓ:Γ.In A:=⟨rfl,l8 _,λl hl=>(by cases hl),λl hl=>(by cases hl),l8 _⟩
 let E:_:=(λw0 w0=>k6:qVS)
 have hsz:(Fw vs).size=ns.length:=by rw[pairsOf_size,(pz ns:vs.length=ns.length)]
 let a1:wpS (d7 prog w) A E s sortRuns' (λw0 st'=>SortedTo (JN st') ns.length) (Pu Qt (Fw vs) (HB (p0 ns.length))):=by
  refine wpS_sortRuns (a₀:=Fw vs) ?_ ?_ (by rw[hsz];exact h2) (by rw[hsz];exact h64) λst' w0 w0 h=>by rw[hsz]at h;exact h
  .intro q hq;rw[pairsOf_toList]at hq;obtain⟨x,_,hx⟩:=List.mem_map.mp ((mem_zip_self hq).2);exact⟨_,_,hx.symm⟩
  .let e:Pu Qt (Fw vs) (HB (p0 ns.length))=SortSt.mk' Qt (Fw vs) #[] 7 b4:=by unfold Pu;rw[<-hsz,kas_range]
   rw[e];exact⟨N' _,rfl,rfl,rfl⟩
 let a2:kasC (d7 prog w) A E sortRuns' (λw0 st' w0=>JN st'=p.map (Qe (Fw vs))) (Pu Qt (Fw vs) (HB (p0 ns.length))) s:=by refine kas_runs (G:=λp' w0=>p'=p) h2 h64 (λp' st' s' w0 ha w0 hg=>by rw[ha,hg]) ?_;rw[<-kas_ask_eq];refine Um (n:=ns.length) (cmp:=λa b=>decide (ns.getD a 0<ns.getD b 0)) ?_ _ (Lv hn) hp;intro i j hi hj C hC;unfold kas_ask;rw[RD ns hi,RD ns hj,Wl];exact oneLt_int hC
 refine tJ _ _ Γ default s (nA _ _ _ ?_ (λw0 w0 w0 h=>h.1.elim) _ _ (lu _ _ Γ [] default s (Ec.fits_of _ _) (a1 Γ default hΓ) (a2 Γ default hΓ)));rintro z1 w0 w0 z2;obtain⟨_,st'⟩:=z1;obtain⟨⟨_,hs⟩,ha⟩:=z2;intro i j hij hj;let c:=hs i j hij hj;simp only at ha;have hk:∀x,x<ns.length->iP (JN st') x=ns.getD (p.getD x 0) 0:=by
  intro x hx;let hx':x<p.size:=by let c:=hord.length_eq;simp only[A2,Bw]at c;exact j7 hx (A5 c.symm)
  unfold iP;rw[ha];let e3:(p.map (Qe (Fw vs)))[x]?=a0 (Qe (Fw vs) (p.getD x 0)):=by rw[(by simp[EH,hx']:p.getD x 0=p[x])];simp[hx']
  rw[e3,kas_item_eq,RD ns (hord.lt hn x)];rfl
 rw[hk i (q5 hij hj),hk j hj]at c;exact c
end Internal
namespace Internal
mutual
theorem W7:∀{a b:b0},l3 a b=a8->a=b
 | .none,b,h=>by cases b with|none=>rfl|_=>exact no h
 | .bool x,b,h=>by cases b with|bool y=>exact t0 _ (O1 h)|_=>exact no h
 | .int x,b,h=>by cases b with|int y=>exact t0 _ (O1 h)|_=>exact no h
 | .str x,b,h=>by cases b with|str y=>exact t0 _ (O1 h)|_=>exact no h
 | .B x,b,h=>by cases b with|B y=>exact t0 _ (Th h)|_=>exact no h
 | .ref x,b,h=>by cases b<;>exact no h
 | .ro x,b,h=>by cases b<;>exact no h
theorem Th:∀{a b:a7 b0},W2 a b=a8->a=b
 |[],b,h=>by cases b with|nil=>rfl|cons=>exact no h
 |x::r,b,h=>by
  cases b with
  |nil=>exact no h
  |cons y t=>rw[W7 (o6 h),Th (o5 h)]
end
theorem zM(g:∀d,f d d=a8->l3 d d=a8):N0 f a a=a8->W2 a a=a8:=by
 induction a with
 |nil=>intro c;rfl
 |cons x r b=>exact λh=>Kv ⟨g _ (o6 h),b (o5 h)⟩
theorem El(h:o0 k a a=a8):l3 a a=a8:=
 HU (P:=λc a b=>a=b->l3 a a=a8) (λc a c c=>CG a) (λc a c c=>CG a) (λk a b f g e=>by
  injection e with e;subst e;exact zM (λd h=>f d d h rfl) g) k a a h rfl
theorem cx(h:o0 k a b=a8):l3 a b=a8↔a=b:=⟨W7,λe=>by subst e;exact El h⟩
structure SB (ok lt:b0->b0->b7):Prop where
 irr:∀a,lt a a=c8
 tr:∀a b c,ok a b=a8->ok b c=a8->ok a c=a8->lt a b=a8->lt b c=a8->lt a c=a8
 tot:∀a b,ok a b=a8->lt a b=c8->lt b a=c8->a=b
 sym:∀a b,ok a b=a8->ok b a=a8
mutual
theorem Zv:∀a:b0,r9 a a=c8
 | .none=>rfl
 | .bool _=>rfl
 | .int i=>VS (d3.lt_irrefl i)
 | .str l=>VS (a7.lt_irrefl l)
 | .B l=>XB l
 | .ref _=>rfl
 | .ro _=>rfl
theorem XB:∀a:a7 b0,U7 a a=c8
 |[]=>rfl
 |x::r=>by
  rw[TC];split
  .exact XB r
  .exact Zv x
end
theorem fJ(c:∀a b,f a b=a8->g b a=a8):∀{a b:a7 b0},N0 f a b=a8->N0 g b a=a8
 |[],[],_=>rfl
 |[],_::_,_=>rfl
 |_::_,[],_=>rfl
 |_::_,_::_,h=>Kv ⟨c _ _ (o6 h),fJ c (o5 h)⟩
theorem fw(h:o0 k a b=a8):o0 k b a=a8:=
 HU (P:=λk a b=>o0 k b a=a8) (λk c c=>by cases k<;>rfl) (λk c c=>by cases k<;>rfl) (λc c c d e=>fJ d e) k a b h
theorem wO(S:SB ok r9)(p:∀a b,ok a b=a8->(l3 a b=a8↔a=b)):
 (∀a b c:a7 b0,N0 ok a b=a8->N0 ok b c=a8->N0 ok a c=a8->U7 a b=a8->U7 b c=a8->U7 a c=a8)/\
 (∀a b:a7 b0,N0 ok a b=a8->U7 a b=c8->U7 b a=c8->a=b):=by
 constructor
 .intro a
  induction a with
  |nil=>
   intro b c l i j f d;clear l f;clear i;cases b with
   |nil=>exact d
   |cons y t=>clear j;cases c with|nil=>exact no d|cons z u=>rfl
  |cons x r m=>
   intro b c l i j f d;cases b with
   |nil=>exact no f
   |cons y t=>
    cases c with
    |nil=>exact no d
    |cons z u=>
     replace l:=G5 l;replace i:=G5 i;replace j:=G5 j;rw[TC]at f d ⊢;by_cases g:l3 x y=a8
     .have s:=W7 g;subst s;rw[g0 g]at f;by_cases k:l3 x z=a8
      .rw[g0 k]at d ⊢;exact m t u l.2 i.2 j.2 f d
      .rw[j4 k]at d ⊢;exact d
     .rw[j4 g]at f;by_cases k:l3 y z=a8
      .let s:=W7 k;clear d i j k;subst s;rw[j4 g];exact f
      .rw[j4 k]at d;have n:=S.tr _ _ _ l.1 i.1 j.1 f d;rw[j4]
       .exact n
       .intro o;let s:=W7 o;clear d i j k o;subst s;rw[S.irr]at n;cases n
 .intro a
  induction a with
  |nil=>intro b q f d;clear d;cases b with|nil=>rfl|cons y t=>exact no f.symm
  |cons x r m=>
   intro b h f d;cases b with
   |nil=>exact no d.symm
   |cons y t=>
    replace h:=G5 h;rw[TC]at f d;by_cases g:l3 x y=a8
    .let s:=W7 g;subst s;rw[g0 g]at f d;rw[m t h.2 f d]
    .rw[j4 g]at f;rw[j4 (λe=>g (by rw[W7 e];rw[W7 e]at e;exact e):¬l3 y x=a8)]at d;let s:=S.tot _ _ h.1 f d;clear f d;subst s;exact(g ((p _ _ h.1).mpr rfl)).elim
theorem fY(T:∀{n},k=n+1->(∀a b c:a7 b0,N0 (o0 n) a b=a8->N0 (o0 n) b c=a8->N0 (o0 n) a c=a8->U7 a b=a8->U7 b c=a8->U7 a c=a8)/\
 (∀a b:a7 b0,N0 (o0 n) a b=a8->U7 a b=c8->U7 b a=c8->a=b)):SB (o0 k) r9:=by
 refine⟨Zv,λa b c i g h d f=>?_,λa b i d f=>?_,λa b=>fw⟩
 .refine Fe (P:=λm a b=>m=k->o0 k b c=a8->o0 k a c=a8->r9 a b=a8->r9 b c=a8->r9 a c=a8) i (λa b e g h d f=>?_) (λa b e g h d f=>?_) (λn a b j e g h d f=>?_) rfl g h d f
  .refine d4 (KR g) ?_;clear g h;clear g h;rintro c rfl;exact MN (Vn (C5 d) (C5 f))
  .refine d4 (KE g) ?_;clear g h;clear g h;rintro c rfl;exact MN (a7.lt_trans (C5 d) (C5 f))
  .clear i;subst e;refine c9 (Tx g) ?_;clear g;clear g;rintro c rfl l;exact(T rfl).1 _ _ _ j l h d f
 .refine Fe (P:=λm a b=>m=k->r9 a b=c8->r9 b a=c8->a=b) i (λa b e d f=>?_) (λa b e d f=>?_) (λn a b j e d f=>?_) rfl d f
  .exact t0 _ (qH (Int.not_lt.mp (Pr f)) (Int.not_lt.mp (Pr d)))
  .exact t0 _ (a7.le_antisymm (List.not_lt.mp (Pr f)) (List.not_lt.mp (Pr d)))
  .exact t0 _ ((T e.symm).2 _ _ j d f)
theorem Rt:∀k:a6,SB (o0 k) r9:=by
 intro c
 induction c with
 |zero=>exact fY λe=>by cases e
 |succ k d=>exact fY λe=>Aw e▸wO d λa b h=>cx h
def G9(xs:a7 b0):Prop:=∀x∈xs,∀y∈xs,P0 x y=a8
def Do(xs:a7 b0):Prop:=xs.Pairwise λa b=>r9 b a=c8
theorem Yj(x:b0):∀l,(IK x l).Perm (x::l):=by
 intro a
 induction a with
 |nil=>exact .refl _
 |cons y r b=>
  rw[eU];split
  .exact((b).cons y).trans (mQ x y r)
  .exact .refl _
theorem Y1:∀l,(y8 l).Perm l:=by
 intro a
 induction a with
 |nil=>exact .refl _
 |cons x r b=>exact(Yj x _).trans ((b).cons x)
theorem rc:∀{l:a7 b0},G9 (x::l)->Do l->Do (IK x l):=by
 intro k
 induction k with
 |nil=>intro m m;exact Qf _ _
 |cons y r n=>
  intro e h;let S:=Rt 3;unfold Do at h;rw[a7.pairwise_cons]at h;rw[eU];split
  .rename_i c;refine Nx ⟨?_,n (λa o b p=>e a (by rcases D9 o with rfl|h<;>simp[*]) b (by rcases D9 p with rfl|h<;>simp[*]):G9 (x::r)) h.2⟩;intro z d;rcases D9 ((Yj x r).mem_iff.mp d)with rfl|d
   .cases j:r9 z y with|false=>rfl|true=>let q:=S.tr _ _ _ (e y (k8 _ j5) z j5) (e z j5 y (k8 _ j5)) (e y (k8 _ j5) y (k8 _ j5)) c j;rw[S.irr]at q;cases q
   .exact h.1 z d
  .rename_i c;let c:r9 y x=c8:=by simpa using c
   refine Nx ⟨?_,Nx h⟩;intro z d;rcases D9 d with rfl|d
   .exact c
   .cases f:r9 z x with
    |false=>rfl
    |true=>
     let g:=e y (k8 _ j5) z (by simp[d]);cases i:r9 y z with
     |true=>have q:=S.tr _ _ _ g (e z (by simp[d]) x j5) (e y (k8 _ j5) x j5) i f;rw[c]at q;cases q
     |false=>have q:=S.tot _ _ g i (h.1 z d);clear d g i;clear d;subst q;rw[c]at f;cases f
theorem G9.perm(h:G9 a)(p:b.Perm a):G9 b:=λx c y d=>h x (p.mem_iff.mp c) y (p.mem_iff.mp d)
theorem KY:∀{l:a7 b0},G9 l->Do (y8 l):=by
 intro f
 induction f with
 |nil=>intro h;exact Gu
 |cons x r g=>intro e;exact rc (λa c b d=>e a ((((Y1 r).cons x).mem_iff).mp c) b ((((Y1 r).cons x).mem_iff).mp d)) (g λa c b d=>e a (k8 _ c) b (k8 _ d))
theorem Rk:∀{a b:a7 b0},G9 a->a.Perm b->Do a->Do b->a=b:=by
 intro j
 induction j with
 |nil=>intro b f p f f;exact(List.nil_perm.mp p).symm▸rfl
 |cons x r k=>
  intro b g p h i;cases b with
  |nil=>exact u6 p.length_eq (by simp)
  |cons y t=>
   let e:x=y:=by
    have d:x∈y::t:=p.mem_iff.mp j5;have c:y∈x::r:=p.mem_iff.mpr j5;rcases D9 d with e|d
    .exact e
    rcases D9 c with e|c
    .exact e.symm
    exact(Rt 3).tot _ _ (g x j5 y (k8 _ c)) ((Nw i).1 x d) ((Nw h).1 y c)
   subst e;rw[k (λa l b m=>g a (k8 _ l) b (k8 _ m)) p.cons_inv (Nw h).2 (Nw i).2]def Fh(xs:a7 b0)(x:b0):a6:=xs.countP λy=>r9 y x
theorem fR(ok:G9 xs)(ha:a∈xs)(hb:b∈xs):r9 a b=decide ((Fh xs a:d3)<(Fh xs b:d3)):=by
 let S:=Rt 3;let mono:∀{a b:b0},a∈xs->b∈xs->r9 b a=c8->Fh xs a<=Fh xs b:=by
  intro a b ha hb h;refine a7.countP_mono_left λy hy h1=>?_;cases h2:r9 a b with
  |true=>exact S.tr _ _ _ (ok y hy a ha) (ok a ha b hb) (ok y hy b hb) h1 h2
  |false=>let c:=S.tot _ _ (ok a ha b hb) h2 h;clear hb h h2;subst c;exact h1
 cases h:r9 a b with
 |false=>let c:=mono hb ha h;rw[Vt,Wq];exact λh=>WB (Int.ofNat_lt.mp h) c
 |true=>
  rw[Vt,C3];let h':r9 b a=c8:=by
   cases h2:r9 b a with
   |false=>rfl
   |true=>have c:=S.tr _ _ _ (ok a ha b hb) (ok b hb a ha) (ok a ha a ha) h h2;rw[S.irr]at c;cases c
  let strict:Fh xs a<Fh xs b:=by
   let c:∀l:a7 b0,(∀y∈l,y∈xs)->l.countP (λy=>r9 y a)+(l.countP λy=>l3 y a)<=l.countP λy=>r9 y b:=by
    intro l
    induction l with
    |nil=>intro w0;simp
    |cons y r ih=>
     intro hl;let hy:=hl y j5;have c:=ih λz hz=>hl z (k8 _ hz);simp only[a7.countP_cons];cases h1:r9 y a with
     |true=>
      let h4:l3 y a=c8:=by
       cases h5:l3 y a with
       |false=>rfl
       |true=>let c:=W7 h5;clear ha h h' ih h5;subst c;rw[S.irr]at h1;cases h1
      simp only[(S.tr _ _ _ (ok y hy a ha) (ok a ha b hb) (ok y hy b hb) h1 h),h4,DY,Bv,Bz];exact b6 (A5 (Y7 _ 1 _)) (U6 c)
     |false=>
      cases h5:l3 y a with
      |false=>simp only[Bv,Bz];exact b6 c (G3 _ _)
      |true=>let c:=W7 h5;clear ha h' ih h1 h5;subst c;simp only[h,Bv,Bz,DY];exact BJ ‹_›
   unfold Fh;exact j7 (Qm (List.countP_pos_iff.mpr (d0 a ha (El (ok a ha a ha))):0<xs.countP λy=>l3 y a)) (c xs λy hy=>hy)
  exact Int.ofNat_lt.mpr strict
end Internal
set_option backward.match.sparseCases true
namespace Internal
open PySem PySem.W PyProof.Rows
def Ext(h h':l5):Prop:=h.objs.size<=h'.objs.size/\∀b o,h.get? b=a0 o->h'.get? b=a0 o
theorem Ext.refl(h:l5):Ext h h:=⟨l8 _,λa a e=>e⟩theorem Ext.trans{a:l5}(x:Ext a b)(y:Ext b c):Ext a c:=⟨b6 x.1 y.1,λd d e=>y.2 _ _ (x.2 _ _ e)⟩theorem Ext.push(h:l5)(o:V8):Ext h (h.push o):=⟨by rw[J6];exact N8 _,λa a e=>A9 _ e⟩
section
variable{base:l5}{c:Cx}{n:a6}{h h':l5}
mutual
theorem Cb(k:∀b f e,¬c.P b->h.get? b=a0 (x0 f e)->h'.get? b=a0 (x0 f e)):∀{d:b0}{v:b8},V base c n h d v->V base c n h' d v
 | .none,_,x=>x
 | .bool _,_,x=>x
 | .int _,_,x=>x
 | .str _,_,x=>x
 | .B _,_,g=>by ext H9 g a f e q p o r;exact BS a f e q p (k _ _ _ p o) (Z0 k r)
 | .ref _,_,x=>x
 | .ro _,_,x=>x
theorem Z0(k:∀b a e,¬c.P b->h.get? b=a0 (x0 a e)->h'.get? b=a0 (x0 a e)):∀{f:a7 b0}{vs:a7 b8},Vs base c n h f vs->Vs base c n h' f vs
 |[],_,x=>x
 |_::_,_,d=>by ext n4 d v r e g i;exact E9 v r e (Cb k g) (Z0 k i)
end
theorem bQ{a:i7}{o:V8}(g:h.get? a=a0 o)(i:o.cls≠.type "tuple")(k:∀b o,b≠a->h.get? b=a0 o->h'.get? b=a0 o):
 ∀b d e,¬c.P b->h.get? b=a0 (x0 d e)->h'.get? b=a0 (x0 d e):=λb d e j f=>k b _ (λq=>by
 clear k;subst q;rw[g]at f;clear g;cases f;exact i rfl) f
theorem IZ:∀{b:a7 b0}{vs:a7 b8},Vs base c n h b vs->∀i,i<b.length->V base c n h (b.getD i .none) (vs.getD i .none):=by
 intro j
 induction j with
 |nil=>intro g g i f;simp at f
 |cons d b k=>
  intro g a i f;ext n4 a v r e l m;subst e;cases i with
  |zero=>simpa using l
  |succ i=>simpa using k m i (by simpa using f)
theorem SK:∀{f:a7 b0}{vs:a7 b8},Vs base c n h f vs->∀v∈vs,∃d∈f,V base c n h d v:=by
 intro g
 induction g with
 |nil=>intro vs e v a;rw[show vs=[] from e]at a;simp at a
 |cons d f i=>
  intro p b v a;ext n4 b u r e j k;subst e;rcases D9 a with rfl|a
  .exact d0 d j5 j
  .exact c9 (i k v a) λl m o=>d0 l (k8 _ m) o
theorem wP{a:a7 b0}{vs:a7 b8}(x:Vs base c n h a vs):∀(p:a7 a6),(∀i∈p,i<a.length)->Vs base c n h (p.map λi=>a.getD i .none) (p.map λi=>vs.getD i .none):=by
 intro d
 induction d with
 |nil=>intro g;exact rfl
 |cons i p e=>intro b;exact E9 _ _ rfl (IZ x i (b i j5)) (e λj f=>b j (k8 _ f))
end
section
variable{s:f8}
theorem wQ{p:Prop}(i j:Dm p):@decide p i=@decide p j:=by congr
theorem bP{a:a7 a6}{Q:b7->Prop}(h:Q (r9 (.str a) (.str b))){i:Dm (a<b)}:Q (@decide (a<b) i):=VQ (t0 Q (wQ _ _)) h
theorem dO(k:a6){A:B7}{E:qVS}{d:b0}{v:b8}{Q:qVS}(G:A.units+k<t3)(N:o0 k d e=a8)(g:V base c n s.heap d v)(h:V base c n s.heap e u)(l:Q (.bool (r9 d e)) s):
 b9 (d7 prog w) A (Pj .Lt v u) Q E s:=by
 refine HU (P:=λk d e=>∀{A:B7}{E:qVS}{v u:b8}{Q:qVS},A.units+k<t3->V base c n s.heap d v->V base c n s.heap e u->Q (.bool (r9 d e)) s->b9 (d7 prog w) A (Pj .Lt v u) Q E s) ?_ ?_ ?_ k d e N G g h l
 .intro k a b A E v u Q G g h l;ext d4 g t rfl;ext d4 h u rfl;exact lt_int l
 .intro k a b A E v u Q G g h l;ext d4 g t rfl;ext d4 h u rfl;exact lt_str (bP (Q:=λb=>Q (.bool b) s) l)
 .intro k x y W N A E v u Q G g h l;ext H9 g a O e1 rfl R i C;ext H9 h b S e2 rfl R j D;let M:b9 (d7 prog w) A.in1 (Builtin.«tuple.__lt__» ⟨[.ref a,.ref b],[]⟩) (λT B=>∃v,T= .done (.ret v)/\(v≠.notImplemented/\Q v B)) E s:=by
   refine Zj (CN j) WL (UD i rfl (UD j rfl (b5 ?_)));refine Fy _
    (λm r B=>r.1=b4/\B=s/\ZI (o0 k) base c n s.heap U7 (λa b=>decide (a<b)) (U7 x y) (decide (O.size<S.size)) m)
    _ ?_ ?_ _ _ ⟨rfl,rfl,x,y,O.toList,S.toList,rfl,N,C,D,rfl,rfl⟩
   .rintro z1 m r B X;obtain⟨p,q⟩:=z1;refine t6 X ?_;clear X;clear g h i C j D;rintro Y rfl H;refine XU H.cons λI J x' y' K o z f H=>?_;have L:A.in1.units+k<t3:=q5 (A5 (Y7 _ _ _)) G;refine b5 (Ls k L K o z ?_);let f:(if l3 I J then U7 x' y' else r9 I J)=U7 x y:=f;cases Z:l3 I J with|true=>rw[Z]at f;exact f6 (m0 rfl rfl (H f λa b=>by rw[P2,C3,C3];exact mE))|false=>rw[Z]at f;exact Iv (b5 (W _ _ K L o z (R8 (f6 (f6 (v8 _ rfl (λe=>by cases e) (by rw[show r9 I J=U7 x y from f];exact l:Q (.bool (r9 I J)) B)))))))
   .rintro z3 B z4;obtain⟨r1,r2⟩:=z3;refine t6 z4 ?_;clear z4;clear g h W i C j D;rintro Y rfl H;cases Y;refine f6 ?_;let U:Q (.bool (decide (O.size<S.size))) B:=by rw[H.nil (λy=>by cases y<;>rfl) λR R=>rfl];exact l
    exact v8 _ rfl (λe=>by cases e) U
  exact qB (op:=.Lt) (CN i) (CN j) lL
   (Aj lL (CN i) F.entry_tuple_lt M (F.args_tuple_lt_2 _ _)) (q5 (G3 _ _) ‹_›)
theorem pt{k:a6}{d:b0}{v:b8}{Q:b7->f8->Prop}(a:A.units+k<t3)(b:o0 k d e=a8)(f:V base c n s.heap d v)(g:V base c n s.heap e u)(h:Q (r9 d e) s):
 b9 (d7 prog w) A (oneLt' c8 v u) Q E s:=
 kat_one _ _ (dO k a b f g h)
def aS(prog:y9)(w:O7)(A:B7)(base:l5)(c:Cx)(n:a6)(xs:a7 b0)(s:f8)(κ:SortKind):Prop:=
 ∀x∈xs,∀y∈xs,∀v u,V base c n s.heap x v->V base c n s.heap y u->∀C:b7->f8->Prop,C (r9 x y) s->b9 (d7 prog w) A (keyLt' κ v u) C (λw0 w0=>k6) s
theorem QC{d:b0}{v:b8}{Q:b7->f8->Prop}{k:a6}(i:(∃k,d= .int k)\/∃l,d= .str l)(a:o0 k d e=a8)(f:V base c n s.heap d v)(g:V base c n s.heap e u)(h:Q (r9 d e) s):b9 (d7 prog w) A (oneLt' a8 v u) Q E s:=by
 rcases i with⟨k,rfl⟩|⟨l,rfl⟩
 .refine d4 (KR a) ?_;clear a;rintro b rfl;ext d4 f t rfl;ext d4 g u rfl;exact oneLt_int h
 .refine d4 (KE a) ?_;clear a;rintro b rfl;ext d4 f t rfl;ext d4 g u rfl;exact oneLt_str (bP (Q:=λb=>Q b s) h)
theorem gP{b:b7}{o:b7}{Q:b7->f8->Prop}(z:A.units+8<t3):∀(x y:a7 b0)(xs ys:a7 b8)(i:a6),Vs base c n s.heap x xs->Vs base c n s.heap y ys->N0 (o0 2) x y=a8->
 (b=a8->i=0->∀d r,x=d::r->(∃k,d= .int k)\/∃l,d= .str l)->o=decide (xs.length<ys.length)->Q (U7 x y) s->KatLex prog w A b o Q (xs.zip ys) i s
 |[],y,xs,ys,i,t,f,_,_,g,a=>by
  rw[show xs=[] from t]at g ⊢;refine kat_nil ?_;rw[g];cases y with
  |nil=>rw[show ys=[] from f];exact a
  |cons u J=>refine F8 f ?_;clear f;clear g;rintro F D rfl G;exact a
 |v::x,y,xs,ys,i,t,f,e,H,g,a=>by
  ext n4 t K I rfl j B;cases y with
  |nil=>rw[show ys=[] from f]at g ⊢;refine kat_nil ?_;rw[g];exact a
  |cons u y=>
   ext n4 f F D rfl m C;refine k9 (G5 e) λe q=>kat_cons (Ls 2 (gB z rfl) e j m ?_);have a:Q (if l3 v u then U7 x y else r9 v u) s:=a;cases E:l3 v u with
   |true=>rw[E]at a;exact kat_yes (gP z x y I D (i+1) B C q (λG h=>by cases h) (by rw[g,P2,C3,C3];exact mE) a)
   |false=>
    rw[E]at a;refine kat_no ?_;cases p:(b&&i==0)with
    |false=>exact pt (k:=2) (gB z rfl) e j m a
    |true=>exact QC (H (o6 p) (O1 (o5 p)) v x rfl) e j m a
theorem xI:∀{xs:a7 b0}{vs:a7 b8},Vs base c n s.heap xs vs->(∀x∈xs,∃d r,x= .B (d::r))->∃b,KatTups s.heap vs b/\(∀f∈b,∃x∈xs,∃d r,x= .B (d::r)/\V base c n s.heap d f)/\b.length=xs.length:=by
 intro u
 induction u with
 |nil=>intro vs h j;exact v8 [] (by rw[show vs=[] from h];exact zp) (by simp) rfl
 |cons x xs w=>
  intro j i o;ext n4 i v r e p z;subst e;refine R9 (o x j5) ?_;rintro d l rfl;refine y0 (w z λy A=>o y (k8 _ A)) λb B C D=>?_;ext H9 p a m e rfl j E q;ext n4 q f t F G j;refine v8 (f::b) (ye E rfl rfl ?_ B) ?_ (by simp[D])
  .rw[<-W6,F];rfl
  .intro g k;rcases D9 k with rfl|k
   .exact⟨_,j5,d,l,rfl,G⟩
   .exact c9 (C g k) λx H I=>d0 x (by simp[H]) I
theorem tz{d:b0}{f:b8}{l:a7 b0}(h:V base c n s.heap (.B l) f):PS (d7 prog w) s.heap (JI f) (.type "tuple"):=by ext H9 h a b e rfl g i g;exact(PS.ld i).andThen .now
theorem FN{xs:a7 b0}(h:B9 xs=a8):G9 xs:=λx a y b=>S7 (S7 (o5 (o6 h)) x a) y b
theorem bN{v:b8}{a:d3}{m:a6}{d:b0}(h:o0 m (.int a) d=a8)(e:V base c n s.heap d v):PS (d7 prog w) s.heap (JI v) (.type "int"):=by refine d4 (KR h) ?_;clear h;rintro b rfl;ext d4 e t rfl;exact hY rfl
theorem cB{v:b8}{a:a7 a6}{m:a6}{d:b0}(h:o0 m (.str a) d=a8)(e:V base c n s.heap d v):PS (d7 prog w) s.heap (JI v) (.type "str"):=by refine d4 (KE h) ?_;clear h;rintro b rfl;ext d4 e t rfl;exact hY rfl
theorem xS{xs:a7 b0}{vs:a7 b8}{Q:SortKind->f8->Prop}(hu:A.units+8<t3)(q:2<=vs.length)(U:B9 xs=a8)(K:Vs base c n s.heap xs vs)
 (h:∀κ,aS prog w A base c n xs s κ->Q κ s):b9 (d7 prog w) A (keyKind' vs.toArray) Q E s:=by
 have i:=FN U;have m:=Vs.length K;have B:=S7 (o5 U);cases xs with
 |nil=>rw[m]at q;exact u6 q (by decide)
 |cons P W=>
 let H:=B P j5;have g:∀y∈P::W,P0 P y=a8:=λy z=>i P j5 y z;cases P with
 |int k0=>
  refine kas_kind (T:=.type "int") q (λv I=>?_) (by decide) (by decide) (h _ ?_)
  .exact c9 (SK K v I) λd D J=>bN (g d D) J
  .intro x j y z v u o p C R;refine d4 (KR (g x j)) λa e=>?_;rw[Wl];exact QC (.inl ⟨a,e⟩) (i x j y z) o p R
 |str l0=>
  refine kas_kind (T:=.type "str") q (λv I=>?_) (by decide) (by decide) (h _ ?_)
  .exact c9 (SK K v I) λd D J=>cB (g d D) J
  .intro x j y z v u o p C R;refine d4 (KE (g x j)) λa e=>?_;rw[Wl];exact QC (.inr ⟨a,e⟩) (i x j y z) o p R
 |B l0=>
  have L:∀x∈b0.B l0::W,∃d r,x= .B (d::r):=λx j=>by
   refine c9 (Tx (g x j)) ?_;rintro l rfl M;cases l with
   |nil=>exact no (B _ j)
   |cons d r=>exact Dw d r rfl
  refine y0 (xI K L) λfs X Y Z=>R9 (L _ j5) λG r0 e0=>?_;injection e0 with e0;subst e0;have D:∀x∈b0.B (G::r0)::W,∀d r,x= .B (d::r)->o0 2 G d=a8:=λx j d r e=>by
   let F:=g x j;rw[e]at F;exact o6 F
  have N:∀f∈fs,∃d,o0 2 G d=a8/\V base c n s.heap d f:=λf N=>by
   refine c9 (Y f N) λx j rr=>?_;ext F8 rr d r e hf';exact d0 d (D x j d r e) hf'
  let k4:0<fs.length:=by rw[Z,<-m];exact j7 pW q
  have t:∀b:b7,(b=a8->(∃k,G= .int k)\/∃l,G= .str l)->aS prog w A base c n (b0.B (G::r0)::W) s (tuples' b):=by
   intro b hb x j y z v u o p C R;refine R9 (L x j) ?_;rintro d1 r1 rfl;refine R9 (L y z) ?_;rintro d2 r2 rfl;have hk:=D _ j _ _ rfl;ext H9 o a i1 e1 rfl M ho1 hv1;ext H9 p a' i2 e2 rfl M ho2 hv2;refine kat_lt ho1 rfl ho2 rfl (gP hu _ _ _ _ 0 hv1 hv2 (i _ j _ z) ?_ rfl R);intro hbt M d r e;injection e with e _;subst e;clear U K h i m B H g L Y Z D N j z;rcases hb hbt with⟨k,rfl⟩|⟨l,rfl⟩
   .exact .inl (KR hk)
   .exact .inr (KE hk)
  clear U K i m B H g L Y Z;cases G with
  |int i0=>exact VU (T:=.type "int") X k4 (λf S=>c9 (N f S) λd O q=>bN O q) (by decide) (h _ (t _ λM=>.inl ⟨_,rfl⟩))
  |str i0=>exact VU (T:=.type "str") X k4 (λf S=>c9 (N f S) λd O q=>cB O q) (by decide) (h _ (t _ λM=>.inr ⟨_,rfl⟩))
  |B i0=>refine VU (T:=.type "tuple") X k4 (λf S=>?_) (by decide) (h _ (t _ λe=>by cases e));refine c9 (N f S) λd O q=>c9 (Tx O) ?_;clear O;rintro l rfl M;exact tz (d:=.none) q
  |_=>exact no (D _ j5 _ _ rfl)
 |_=>exact no H
theorem Yx{α:Type}{n:a6}{R:α->Prop}{f:a6->a6->b7}(h:∀i j,i<n->j<n->f i j=g i j):∀(t:Gj α),AW n t R->FE f t=FE g t
 | .ret _,_=>rfl
 | .ask i j k,a=>by
  refine(?_:FE f (k (f i j))=FE g (k (g i j)));rw[h i j a.1 a.2.1];exact Yx h _ (a.2.2 _)
theorem jz(prog:y9)(w:O7){xs:a7 b0}(h2:2<=xs.length)(h64:xs.length<64)(ok:G9 xs):
 S9 xs.length (EF xs.length λi j=>r9 (xs.getD i .none) (xs.getD j .none))/\
 ((EF xs.length λi j=>r9 (xs.getD i .none) (xs.getD j .none)).toList.map λi=>xs.getD i .none)=y8 xs:=by
 let hn:0<xs.length:=m9 ‹_›;have hord:S9 xs.length (EF xs.length λi j=>r9 (xs.getD i .none) (xs.getD j .none)):=RE _ (Lv hn);refine⟨hord,?_⟩;have hmem:∀i,i<xs.length->xs.getD i .none∈xs:=λi hi=>by
  let c:xs.getD i .none=xs[i]:=by simp[hi]
  rw[c];exact EN hi
 let ns:_:=(xs.map λx=>(Fh xs x:d3):a7 d3)
 have hlen:ns.length=xs.length:=by simp[ns]
 have hget:∀i,i<xs.length->ns.getD i 0=(Fh xs (xs.getD i .none):d3):=λi hi=>by simp[ns,hi]
 let e:(EF xs.length λi j=>r9 (xs.getD i .none) (xs.getD j .none))=EF ns.length λa b=>decide (ns.getD a 0<ns.getD b 0):=by rw[hlen];refine Yx (λi j hi hj=>?_) _ (Lv hn);show r9 _ _=decide (_<_);rw[hget i hi,hget j hj];exact fR ok (hmem i hi) (hmem j hj)
 let hs:=rO prog w ns (sL h2 hlen) (YG h64 hlen);rw[<-e,hlen]at hs;generalize hp:(EF xs.length λi j=>r9 (xs.getD i .none) (xs.getD j .none))=p at*;let hperm:(p.toList.map λi=>xs.getD i .none).Perm xs:=by
  refine(hord.map _).trans ?_;let c:(p0 xs.length).map (λi=>xs.getD i .none)=xs:=by apply a7.ext_getElem (by simp);intro i h1 h2;simp at h1;simp[h1]
  rw[c]
 refine Rk (ok.perm hperm) (hperm.trans (Y1 xs).symm) ?_ (KY ok);unfold Do;rw[a7.pairwise_iff_getElem];intro i j hi hj hij;simp only[f7,A2]at hi hj;let hlt:∀k,k<p.size->p.getD k 0<xs.length:=λk w0=>hord.lt hn k;rw[(by simp[hi]:(p.toList.map λi=>xs.getD i .none)[i]'(by simpa using hi)=xs.getD (p.getD i 0) .none),(by simp[hj]:(p.toList.map λi=>xs.getD i .none)[j]'(by simpa using hj)=xs.getD (p.getD j 0) .none),fR ok (hmem _ (hlt j hj)) (hmem _ (hlt i hi))];let c:=hs i j (m9 ‹_›) (GL hj (by let c:=hord.length_eq;simpa using c:p.size=xs.length));rw[hget _ (hlt i hi),hget _ (hlt j hj)]at c;rw[Wq];exact Int.not_lt.mpr c
theorem Zy{xs:l4 b8}{e:a6}:(O2 "list" xs e).cls≠.type "tuple":=λh=>by injection h with h;exact u6 h (by decide)
theorem qp{a:i7}{e0:a6}{xs:a7 b0}{vs:a7 b8}{P:Pa->f8->Prop}(hu:A.units+8<t3)(F:s.heap.get? a=a0 (O2 "list" vs.toArray e0))
 (S:B9 xs=a8)(K:Vs base c n s.heap xs vs)
 (h:∀L g e,s.heap.objs.size<=L.objs.size->(∀b o,b≠a->s.heap.get? b=a0 o->L.get? b=a0 o)->L.get? a=a0 (O2 "list" g e)->Vs base c n s.heap (y8 xs) g.toList->P (.done (.ret .none)) {s with heap:=L}):
 b9 (d7 prog w) A (Builtin.«list.sort» ⟨[.ref a],[]⟩) P E s:=by
 let ha:=C2 F;have d:vs.length=xs.length:=Vs.length K;let l:=Ha S;obtain⟨M,H⟩:∃M,(s.heap.update a (AJ λk=>#[])).get? a=a0 (O2 "list" #[] M):=⟨_,lO F λk=>#[]⟩;let z:(((s.heap.update a (AJ λk=>#[])).push (O2 "tuple" vs.toArray 0)).push (O2 "list" #[] 0)).get? a=a0 (O2 "list" #[] M):=
  A9 _ (A9 _ H)
 have u:∀b o,b≠a->s.heap.get? b=a0 o->(((s.heap.update a (AJ λk=>#[])).push (O2 "tuple" vs.toArray 0)).push (O2 "list" #[] 0)).get? b=a0 o:=
  λb o N e=>A9 _ (A9 _ (((Ba s.heap a (AJ λk=>#[])).2 b N).trans e))
 have B:Vs base c n (((s.heap.update a (AJ λk=>#[])).push (O2 "tuple" vs.toArray 0)).push (O2 "list" #[] 0)) xs vs:=
  Z0 (bQ F Zy u) K
 have I:∀(g:a7 b8),g.length=vs.length->Vs base c n s.heap (y8 xs) g->∀f:SortSt,(JN f).map (·.2)=g.toArray->UV f=b4->
  b9 (d7 prog w) A (do
   let q:=(<-seqEpoch a) != M
   J_ (.ref a) λk=>(JN f).map (·.2)
   if let a0 e:=UV f then rule "list.sort.comparison-raised";throw e
   if q then rule "list.sort.modified";raiseError "ValueError" "list modified during sort"
   ret .none) P E {s with heap:=((s.heap.update a (AJ λk=>#[])).push (O2 "tuple" vs.toArray 0)).push (O2 "list" #[] 0)}:=by
  intro g O V f W T;rw[W,T];refine b5 (pA z rfl (b5 (mX z rfl ?_ (F9 _) (by rw[Me,O3];exact O▸d▸b6 (m9 l) (by decide)))));refine Y3 (by simp) (f6 (h _ g.toArray _ ?_ ?_ (lO z λk=>g.toArray) (by simpa using V)))
  .rw[nV,J6,J6,nV];solve_by_elim (maxDepth:=3)only[*,j7,b6,N8,B8]
  .intro b o N e;rw[Hw _ _ (C8 N)];exact u b o N e
 rw[list_sort_plain];refine b5 (listItems_at F rfl (b5 (mX F rfl ?_ (by rw[Me,O3];exact Ty l d) (F9 _))));refine b5 (pA H rfl (b5 (Qi ?_ (by refine(?_:vs.length<=_);rw[O3];exact Ty l d))));refine b5 (lS ?_ (F9 _));refine L0 ((?_:b9 (d7 prog w) A _ P E {s with heap:=((s.heap.update a (AJ λk=>#[])).push (O2 "tuple" vs.toArray 0)).push (O2 "list" #[] 0)}));dsimp only;by_cases r:vs.toArray.size<2
 .rw[g0 r,g0 r];refine R8 ?_;rw[StateT.run_pure];refine R8 ?_;have D:y8 xs=xs:=by
   rw[Me]at r
   match xs,d with
   |[],_=>rfl
   |[x],_=>rfl
   |_::_::_,O=>simp at O;exact(wx r O).elim
  refine I vs rfl (by rw[D];exact K) _ ?_ rfl;refine(?_:(vs.toArray.zip vs.toArray).map (·.2)=vs.toArray);apply Array.toList_inj.mp;rw[l4.toList_map];simp only[l4.toList_zip];exact iC (l8 _)
 .rw[j4 r,j4 r];rw[Me]at r;refine b5 (xS (s:={s with heap:=((s.heap.update a (AJ λk=>#[])).push (O2 "tuple" vs.toArray 0)).push (O2 "list" #[] 0)}) hu (Bq ‹_›) S B λκ X=>?_);let U:=jz prog w (d▸Nat.not_lt.mp r) l (FN S);ext1 U v t;generalize hp:(EF xs.length λi j=>r9 (xs.getD i .none) (xs.getD j .none))=p at*;let J:(WK vs.length).kasWp (kas_ask prog w A κ vs) (λZ G=>Z=p/\G={s with heap:=((s.heap.update a (AJ λk=>#[])).push (O2 "tuple" vs.toArray 0)).push (O2 "list" #[] 0)}) {s with heap:=((s.heap.update a (AJ λk=>#[])).push (O2 "tuple" vs.toArray 0)).push (O2 "list" #[] 0)}:=by
   rw[d];refine Um (n:=xs.length) (cmp:=λi j=>r9 (xs.getD i .none) (xs.getD j .none)) ?_ _ (Lv (d▸j7 pW (Nat.not_lt.mp r))) ⟨hp,rfl⟩;intro i j y hj C hC;let hm:∀i,i<xs.length->xs.getD i .none∈xs:=λi y=>by
    let m:xs.getD i .none=xs[i]:=by simp[y]
    rw[m];exact EN y
   exact X _ (hm i y) _ (hm j hj) _ _ (IZ B i y) (IZ B j hj) C hC
  refine b5 (v6 (kat_run (Q:=λf G=>JN f=p.map (Qe (vs.toArray.zip vs.toArray))/\UV f=b4/\G={s with heap:=((s.heap.update a (AJ λk=>#[])).push (O2 "tuple" vs.toArray 0)).push (O2 "list" #[] 0)})
   rfl (Bq ‹_›) (YG l d) (λZ f G k a2 a3 a4=>m0 (by rw[a2,a4.1]) a3 a4.2) J) ?_ λk k e=>e)
  rintro z5 G R;obtain⟨⟨⟩,f⟩:=z5;ext1 R Y T rfl;refine I (p.toList.map λi=>vs.getD i .none) (by rw[f7,A2];exact qa (by let m:=v.length_eq;simpa using m:p.size=xs.length) d) ?_ f ?_ T
  .rw[<-t];exact wP K _ λi y=>U8 (v.mem_iff.mp y)
  .exact kat_snds rfl Y
theorem Xc{v:b8}{Q:qVS}(F:A.units+10<t3)
 (C:b9 (d7 prog w) A.in1 (collect v) (λi d=>∃j,B9 j=a8/\Vs base c n d.heap j i/\
  ∀g a f e,d.heap.objs.size<=a->Ext d.heap g->g.get? a=a0 (AN f e)->Vs base c n g (y8 j) f.toList->Q (.ref a) {d with heap:=g}) E s):
 b9 (d7 prog w) A (call (.builtin "sorted") [v]) Q E s:=by
 refine Calls.call_function_entry kind_sorted plain_sorted entry_sorted (args_sorted1 _) (b5 (m:=checkCount "sorted" 1 1 _) (f6 (b5 (v6 C ?_ λu u e=>e))));rintro i d x;ext y0 x j y z D;refine b5 (lS ?_ (by rw[O3];exact Ty (Ha y) (Vs.length z)));let h:(d.heap.push (O2 "list" i.toArray 0)).get? d.heap.objs.size=a0 (O2 "list" i.toArray 0):=A0 _ rfl;let l:=Ext.push d.heap (O2 "list" i.toArray 0);refine(CW (Aj slot_list_sort (d0 _ h rfl) entry_list_sort ?body (args_list_sort _)))
 case body=>refine qp (s:={d with heap:=d.heap.push (O2 "list" i.toArray 0)}) (xs:=j) ‹_› h y (Z0 (λb t e u k=>l.2 _ _ k) z) ?_;intro g f e p B q r;exact d0 _ rfl (f6 (d0 _ rfl (D g d.heap.objs.size f e (l8 _) (⟨b6 l.1 p,λb o k=>B b o (m6 (C2 k)) (l.2 _ _ k)⟩:Ext d.heap g) q (Z0 (bQ h Zy B) r))))
end
end Internal
set_option backward.match.sparseCases false
namespace Internal
open PySem PySem.W PyProof.Rows
mutual
noncomputable def q8(w:O7):b0->d3
 | .int i=>hashInt i
 | .str l=>hashStr w (D0 l)
 | .B ds=>PW (JE (Db w ds))
 |_=>0
noncomputable def Db(w:O7):a7 b0->a7 d3
 |[]=>[]
 |d::ds=>q8 w d::Db w ds
end
theorem Xm:q8 w (.B ds)=PW (JE (Db w ds)):=rfl
abbrev SI:=o3 ⊕ d3
def Kr:SI->b8->b7
 | .inl x,v=>v.isStrOf x
 | .inr i,v=>v.isInt i
theorem ES(h:Kr (.inl x) v=a8):∃t,v= .str x t:=b8.isStrOf_shape h
theorem EP(h:Kr (.inr i) v=a8):∃t,v= .int i t:=b8.isInt_shape h
theorem ZB(hab:(a==b)=c8)
 (hf:∀x t y u,(a,b)≠(.float x t,.float y u))(h:∀Q':b8->f8->Prop,Q' (.bool c8) s->b9 (d7 prog w) A (Pj .Eq a b) Q' E s)(hq:Q c8 s):b9 (d7 prog w) A (eqBool a b) Q E s:=by
 unfold eqBool
 try with_reducible refine L0 ?_
 refine(Y3 (by rw[hab];exact Cc) ?_:b9 _ _ (if(a==b)=a8 then _ else _) Q E s);clear hab;cases a with
 |float x t=>cases b with|float y u=>exact(hf x t y u rfl).elim|_=>exact b5 (h _ (Go hq))
 |_=>exact b5 (h _ (Go hq))
def X0(prog:y9)(w:O7):KeyKind prog w SI where
 is:=Kr
 hash:=λx=>match x with| .inl s=>hashStr w s| .inr i=>hashInt i
 inj:=λv a b ha hb=>by
  cases a with
  |inl=>cases b with|inl=>exact t0 Ve (b8.isStrOf_inj v _ _ ha hb)|inr=>exact d4 (ES ha) λt e=>d4 (EP hb) λu e'=>nomatch e.symm.trans e'
  |inr=>cases b with|inl=>exact d4 (EP ha) λt e=>d4 (ES hb) λu e'=>nomatch e.symm.trans e'|inr=>exact t0 Wb (b8.isInt_inj v _ _ ha hb)
 byValue:=λk v h=>by
  cases k with
  |inl=>exact d4 (ES h) λt e=>e▸rfl
  |inr=>exact d4 (EP h) λt e=>e▸rfl
 pyHash:=λ{A E s k v Q}hv h=>by
  cases k with
  |inl=>exact d4 (ES hv) λt e=>rwE e (VC h)
  |inr=>exact d4 (EP hv) λt e=>rwE e (US h)
 eqBool:=λ{A E s a b u v Q}hu hv h=>by
  cases a with
  |inl x=>
   refine d4 (ES hu) λt e=>rwE e ?_;cases b with
   |inl y=>exact d4 (ES hv) λt' e=>rwE e (mP ((by simp:decide ((Ve x:SI)=Ve y)=decide (x=y))▸h))
   |inr y=>exact d4 (EP hv) λt' e=>rwE e (ZB (beq_eq_false_iff_ne.mpr λe=>by cases e) (λw0 w0 w0 w0 e=>by cases e) (λQ' hq=>xo hq) h)
  |inr x=>
   refine d4 (EP hu) λt e=>rwE e ?_;cases b with
   |inl y=>exact d4 (ES hv) λt' e=>rwE e (ZB (beq_eq_false_iff_ne.mpr λe=>by cases e) (λw0 w0 w0 w0 e=>by cases e) (λQ' hq=>xk hq) h)
   |inr y=>exact d4 (EP hv) λt' e=>rwE e (mU ((by rw[P2,C3,Al];simp:decide ((Wb x:SI)=Wb y)=(x==y))▸h))
 «strs»:=λk x t v h=>by
  cases k with
  |inl s=>refine d4 (ES h) λu hu=>?_;injection hu with hx;clear h;subst hx;cases v<;>rfl
  |inr i=>refine d4 (EP h) λu hu=>?_;cases hu
def y5:b0->SI
 | .str l=>.inl (D0 l)
 | .int i=>.inr i
 |_=>.inr 0
theorem Ff(b:leaf d=a8)(f:V base c n h d v):(X0 prog w).is (y5 d) v=a8:=
 EV (P:=λd=>V base c n h d v->(X0 prog w).is (y5 d) v=a8) b (λi a=>d4 a λg e=>e▸CG i) (λl a=>d4 a λg e=>e▸CG (D0 l)) f
theorem He(a:leaf d=a8):(X0 prog w).hash (y5 d)=q8 w d:=EV (P:=λd=>(X0 prog w).hash (y5 d)=q8 w d) a (λb=>rfl) λb=>rfl
theorem XI(b:leaf d=a8)(a:leaf e=a8):y5 d=y5 e->d=e:=
 EV (P:=λd=>y5 d=y5 e->d=e) b (λi=>EV (P:=λe=>y5 (.int i)=y5 e->.int i=e) a (λj h=>by injection h with h;rw[h]) λj h=>by cases h)
  (λi=>EV (P:=λe=>y5 (.str i)=y5 e->.str i=e) a (λj h=>by cases h) (λj h=>by injection h with h;rw[Ow h]))theorem Si(a:leaf d=a8)(b:leaf e=a8):y5 d=y5 e↔d=e:=⟨XI a b,λe=>by rw[e]⟩theorem Km(a:leaf d=a8)(b:leaf e=a8):l3 d e=a8↔d=e:=⟨W7,λh=>h▸EV (P:=λd=>l3 d d=a8) a (λi=>CG i) λi=>CG i⟩
theorem fo:∀{b:a7 b0}{vs:a7 b8},b.all leaf=a8->Vs base c n h b vs->ItemsAre (X0 prog w) (b.map y5) vs:=by
 intro g
 induction g with
 |nil=>intro vs i e;rw[show vs=[] from e];exact .nil
 |cons d b j=>intro i f a;ext n4 a v r e k l;subst e;simp only[Mp,C4]at f;exact .cons (Ff f.1 k) (j f.2 l)
theorem ag:∀{a b:a7 b0},a.all leaf=a8->b.all leaf=a8->(a.map y5=b.map y5↔a=b):=by
 intro g
 induction g with
 |nil=>
  intro d;cases d with
  |nil=>intro c c;exact⟨λc=>rfl,λc=>rfl⟩
  |cons _ _=>intro c c;exact⟨λh=>(by cases h),λh=>(by cases h)⟩
 |cons x a i=>
  intro d;cases d with
  |nil=>intro c c;exact⟨λh=>(by cases h),λh=>(by cases h)⟩
  |cons y b=>
   intro e f;exact⟨λh=>by
   injection h with e1 e2;rw[XI (o6 e) (o6 f) e1,(i (o5 e) (o5 f)).mp e2],λh=>by rw[h]⟩
theorem vm:∀{a b:a7 b0},a.all leaf=a8->b.all leaf=a8->(W2 a b=a8↔a=b):=by
 intro g
 induction g with
 |nil=>
  intro d;cases d with
  |nil=>intro c c;exact⟨λc=>rfl,λc=>rfl⟩
  |cons _ _=>intro c c;exact⟨no,λh=>by cases h⟩
 |cons x a i=>
  intro d;cases d with
  |nil=>intro c c;exact⟨no,λh=>by cases h⟩
  |cons y b=>
   intro e f;exact⟨Th,λh=>by
   injection h with e1 e2;exact Kv ⟨(Km (o6 e) (o6 f)).mpr e1,(i (o5 e) (o5 f)).mpr e2⟩⟩
theorem fS:∀{a:a7 b0},a.all leaf=a8->Db w a=(a.map y5).map (X0 prog w).hash:=by
 intro c
 induction c with
 |nil=>intro f;exact rfl
 |cons d a e=>intro b;refine(?_:q8 w d::Db w a=_::Qg _ (Qg _ a));rw[e (o5 b),He (o6 b)]
theorem Tw(g:Q3 d≠0)(f:Q3 e=Q3 d):l3 e d=a8↔e=d:=by
 let a:∀{c:a7 b0},Q3 (.B c)≠1/\Q3 (.B c)≠2/\(Q3 (.B c)≠0->c.all leaf=a8):=by
  intro c;cases h:c.all leaf
  .rw[show Q3 (.B c)=0 from(t0 (λb=>if b=a8 then 3 else 0) h:)];exact m0 (by decide) (by decide) λh=>(h rfl).elim
  .rw[show Q3 (.B c)=3 from(t0 (λb=>if b=a8 then 3 else 0) h:)];exact m0 (by decide) (by decide) λk=>rfl
 cases d with
 |int i=>
  cases e with
  |int j=>exact Km rfl rfl
  |B c=>exact(a.1 f).elim
  |_=>cases f
 |str i=>
  cases e with
  |str j=>exact Km rfl rfl
  |B c=>exact(a.2.1 f).elim
  |_=>cases f
 |B x=>
  cases e with
  |B y=>exact⟨W7,λh=>by rw[h];exact(vm (a.2.2 g) (a.2.2 g)).mpr rfl⟩
  |int j=>exact(a.1 f.symm).elim
  |str j=>exact(a.2.1 f.symm).elim
  |_=>exact(g (by rw[<-f];rfl)).elim
 |_=>exact(g rfl).elim
theorem Lg:∀(k:a6){A:B7}{s:f8}{d:b0}{v:b8}{Q:d3->f8->Prop},A.units+k<t3->o0 k d d=a8->V base c n s.heap d v->(∀t,Q (q8 w d) {s with toks:=t})->
 b9 (d7 prog w) A (pyHash v) Q E s:=by
 intro k
 induction k with
 |zero=>
  intro A s d v Q R r g m;cases d with
  |int=>ext d4 g t rfl;exact US (m _)
  |str=>ext d4 g t rfl;exact VC (m _)
  |_=>exact no r
 |succ k X=>
  intro A s d v Q R r g m;cases d with
  |int=>ext d4 g t rfl;exact US (m _)
  |str=>ext d4 g t rfl;exact VC (m _)
  |B S=>
   ext H9 g a P e rfl Y z G;let C:=CN (s:=s) z
   first|unfold pyHashByItsType|skip
   first|refine b5 (wpAny_cRoomFor_or (.inr (q5 (G3 _ _) ‹_›)) ?_)|skip
   refine b5 (HH C F.slot_tuple_hash.lookup (Y3 (by rw[beq_builtin_none];exact Cc) (b5 (HH C F.slot_tuple_hash.lookup (b5 (wpAny_callSpecialIfBoundUnlessNone?_slot C lW (Aj lW C F.entry_tuple_hash ?_ (F.args_tuple_hash_1 _))))))));refine(b5 (Pz z rfl ?_):b9 _ _ (iT (.ref a)>>=_) _ _ s);refine b5 ?_;rw[<-Gl];refine Fy _
    (λf b H=>∃done left,S=done++left/\Vs base c n s.heap left f/\b.toList=Db w done/\∃t,H={s with toks:=t})
    _ ?_ ?_ _ _ ⟨[],S,rfl,G,rfl,s.toks,rfl⟩
   .rintro x f b H T;ext T8 T done left rfl q I u;ext d4 u t rfl;clear m G;cases left with
    |nil=>have:x::f=[]:=q;cases this
    |cons d left=>
     ext n4 q Z r1 J K L;cases J;let M:o0 k d d=a8:=by
      let this:∀(a b:a7 b0),N0 (o0 k) (a++d::b) (a++d::b)=a8->o0 k d d=a8:=by
       intro a
       induction a with
       |nil=>intro b h;exact o6 h
       |cons y a o=>intro b h;exact o b (o5 h)
      exact this done left r
     have N:∀a:a7 b0,Db w (a++[d])=Db w a++[q8 w d]:=by
      intro a
      induction a with
      |nil=>rfl
      |cons y a o=>exact t0 _ o
     refine b5 (X ((Y7 _ 1 _).symm▸R) M K λU=>?_);have B:(∃i j,done++d::left=i++j/\Vs base c n s.heap j f/\(b.push (q8 w d)).toList=Db w i/\∃O,({s with toks:=U})={s with toks:=O}):=
      ⟨done++[d],left,by simp,L,by rw[N,Js,I],U,rfl⟩
     first
      |exact f6 B
      |exact b5 (f6 (f6 B))
   .rintro b H W;ext T8 W done left rfl q I u;ext d4 u t rfl;clear r G;cases left with
    |cons y l=>ext F8 q Z r1 J Y;cases J
    |nil=>
     rw[Y5]at m;refine(?_:b9 _ _ (retInt (JE b.toList)) _ _ _);rw[I];refine nS ?_;have p:∀t,Q (PW (JE (Db w done))) {s with toks:=t}:=m;unfold PW at p;by_cases D:(decide (-(2:d3) ^ 63<=JE (Db w done))&&decide (JE (Db w done)<2 ^ 63))=a8
     .exact Fb D (f6 (by have:=p (t+1);rwa [g0 D]at this))
     .exact Y3 D (b5 (EK (f6 (by have:=p (t+1);rwa [j4 D]at this))))
  |_=>exact no r
section
variable(w:O7)(base:l5)(c:Cx)(n:a6)(h:l5)
def t4:a7 (b0×b0)->a7 Ag->Prop
 |[],es=>es=[]
 |x::xs,es=>∃e r,es=e::r/\V base c n h x.1 e.key/\V base c n h x.2 e.val/\e.hash=q8 w x.1/\t4 xs r
end
def DK(xs:a7 (b0×b0)):Prop:=xs.Pairwise λa b=>l3 a.1 b.1=c8/\l3 b.1 a.1=c8
theorem sn(e:DK xs)(h:Q3 k≠0)(f:xs[j]?=a0 x)(c:x.1=k)(hs:l3 k k=a8):D2 xs k=a0 j:=by unfold D2;refine d4 (FS f) λb d=>?_;rw[a7.findIdx?_eq_some_iff_getElem];refine d0 b (by rw[d,c];exact hs) λi g=>?_;let a:=(List.pairwise_iff_getElem.mp e) i j (b6 ‹_› (m9 ‹_›)) b g;rw[d,c]at a;simp[a.1]
theorem tF(h:∀(j:a6)(x:b0×b0),xs[j]?=a0 x->x.1≠k):D2 xs k=b4:=by
 unfold D2;rw[Mj];intro x a;refine d4 (N2 a) λi b=>d4 b ?_;clear b;clear a;rintro c rfl;cases d:l3 xs[i].1 k with
 |false=>rfl
 |true=>exact(h i _ (by simp[c]) (W7 d)).elim
theorem t4.len:∀{xs:a7 (b0×b0)}{es:a7 Ag},t4 w base c n h xs es->es.length=xs.length:=by
 intro d
 induction d with
 |nil=>intro es e;rw[show es=[] from e];rfl
 |cons _ xs f=>intro b a;ext C7 a e r q b b b g;subst q;simp[f g]
theorem t4.get:∀{xs:a7 (b0×b0)}{es:a7 Ag},t4 w base c n h xs es->∀(i:a6)(x:b0×b0),xs[i]?=a0 x->∃e,es[i]?=a0 e/\V base c n h x.1 e.key/\V base c n h x.2 e.val/\e.hash=q8 w x.1:=by
 intro f
 induction f with
 |nil=>intro d d i x a;simp at a
 |cons y xs g=>
  intro d b i x a;ext C7 b e r q j k l m;subst q;cases i with
  |zero=>simp only[UT,AA]at a;subst a;exact CU e rfl j k l
  |succ i=>simpa using g m i x (by simpa using a)
theorem t4.ext(k:∀b a e,¬c.P b->h.get? b=a0 (x0 a e)->h'.get? b=a0 (x0 a e)):∀{xs:a7 (b0×b0)}{es:a7 Ag},t4 w base c n h xs es->t4 w base c n h' xs es:=by
 intro g
 induction g with
 |nil=>intro f e;exact e
 |cons f f i=>intro f d;ext C7 d e r q j l m o;exact U9 e r q (Cb k j) (Cb k l) m (i o)theorem Yc(f:ds.all leaf=a8)(d:V base c n h (.B ds) v):∃a,v= .ref a/\IsTupleKey (X0 prog w) h (ds.map y5) a:=by ext H9 d a b e rfl j g i;exact⟨a,rfl,_,b,e,g,rfl,rfl,fo f i⟩
def Nu:b0->a7 SI
 | .B ds=>ds.map y5
 |_=>[]
theorem YB{d:b0}(h:Q3 d=1\/Q3 d=2):leaf d=a8:=by
 cases d with
 |int i=>rfl
 |str l=>rfl
 |B a=>
  have e:Q3 (.B a)=if a.all leaf then 3 else 0:=rfl
  rw[e]at h;by_cases q:a.all leaf=a8
  .rw[g0 q]at h;rcases h with h|h<;>cases h
  .rw[j4 q]at h;rcases h with h|h<;>cases h
 |_=>rcases h with h|h<;>cases h
theorem OH(c:Q3 d=3):∃a,d= .B a/\a.all leaf=a8:=by
 cases d with
 |B a=>
  refine d0 a rfl ?_;cases h:a.all leaf with
  |true=>rfl
  |false=>exact nomatch (t0 (λb=>if b=a8 then 3 else 0) h).symm.trans c
 |_=>cases c
theorem cE(c:Q3 d=3)(f:Q3 e=3):Nu d=Nu e↔d=e:=by refine c9 (OH c) ?_;clear c;rintro a rfl i;refine c9 (OH f) ?_;rintro b rfl g;refine(?_:a.map y5=b.map y5↔_);rw[ag i g];exact⟨λh=>h▸rfl,λh=>by clear f g;cases h;rfl⟩
theorem ku:∀{xs:a7 (b0×b0)}{es:a7 Ag},t4 w base c n h xs es->(∀x∈xs,Q3 x.1=3)->
 ∃d:a7 (a7 SI×i7×b8),es=d.map (entryOfKey (Vp (X0 prog w)))/\(∀y∈d,(Vp (X0 prog w)).is h y.1 y.2.1)/\d.map (·.1)=xs.map λx=>Nu x.1:=by
 intro p
 induction p with
 |nil=>intro es e s;exact v8 [] (by rw[show es=[] from e];rfl) (by simp) rfl
 |cons x xs t=>
  intro s g l;ext C7 g e r q m C j u;subst q;refine y0 (t u λy f=>l y (k8 _ f)) λd v z A=>c9 (OH (l x j5)) λB b o=>?_;rw[b]at m;refine c9 (Yc (prog:=prog) (w:=w) o m) λa i k=>v8 ((B.map y5,a,e.val)::d) ?_ ?_ ?_
  .rw[y4,v];congr 1;obtain⟨D,E,F⟩:=e;simp only at i j;subst i;rw[b,Xm,fS (prog:=prog) o]at j;rw[j];rfl
  .intro y f;rcases D9 f with rfl|f
   .exact k
   .exact z y f
  .rw[y4,y4,A,b];rfl
theorem Ol(hu:A.units+8<t3)
 (N:s.heap.get? a=a0 (E5 es ep))(G:t4 w base c n s.heap xs es.toList)(Y:DK xs)(O:v7 xs k=a8)(P:V base c n s.heap k key)(H:Q (D2 xs k) s):
 b9 (d7 prog w) A (dictFind a key (q8 w k)) Q E s:=by
 simp only[v7,C4,ME,V6,Al]at O;ext k9 O F u;have D:l3 k k=a8:=(Tw F rfl).mpr rfl;have g:leaf k=a8->(∀x∈xs,leaf x.1=a8)->b9 (d7 prog w) A (dictFind a key (q8 w k)) Q E s:=by
  intro B t;rw[<-He (prog:=prog) B];refine wpAny_dictFind_of (Ff B P) N rfl ?_ ?_
  .intro e T;refine d4 (Array.mem_iff_getElem.mp T) λi Z=>?_;ext d4 Z hi rfl;let K:=t4.len G;have I:i<xs.length:=by rw[<-K];simpa using hi
   refine BU (t4.get G i xs[i] (by simp[I])) λe' L R w0 k4=>?_;let b:e'=es[i]:=by rw[W6]at L;simpa[hi]using L.symm
   subst b;have o:=t xs[i] (EN I);exact d0 (y5 xs[i].1) (Ff o R) (by rw[k4,He o])
  .let b:(es.findIdx? λe=>(X0 prog w).is (y5 k) e.key)=D2 xs k:=by
    let tl:(es.findIdx? λe=>(X0 prog w).is (y5 k) e.key)=es.toList.findIdx? λe=>(X0 prog w).is (y5 k) e.key:=by clear N G;cases es with|mk l=>exact a7.findIdx?_toArray ..
    rw[tl];let go:∀(xs:a7 (b0×b0))(es:a7 Ag),t4 w base c n s.heap xs es->(∀x∈xs,leaf x.1=a8)->(es.findIdx? λe=>(X0 prog w).is (y5 k) e.key)=xs.findIdx? λx=>l3 x.1 k:=by
     intro xs
     induction xs with
     |nil=>intro es e w0;rw[show es=[] from e];rfl
     |cons x xs ih=>
      rintro w0 z1 t;ext C7 z1 e r rfl S h2 M hr;let o:=t x j5;rw[JF,JF,ih r hr λy z=>t y (k8 _ z)];let b:(X0 prog w).is (y5 k) e.key=l3 x.1 k:=by rw[pK (Ff o S) (y5 k),P2,C3,Km o B,Si B o];exact Vt
      rw[b]
    exact go xs _ G t
   rw[b];exact H
 cases k with
 |int i=>exact g rfl λx h=>YB (.inl (u x h))
 |str l=>exact g rfl λx h=>YB (.inr (u x h))
 |B C=>
  have M:Q3 (.B C)=3:=by
   let b:Q3 (.B C)=if C.all leaf then 3 else 0:=rfl
   rw[b]at F ⊢;split
   .rfl
   .rename_i q;rw[j4 q]at F;exact(F rfl).elim
  have B:C.all leaf=a8:=by refine c9 (OH M) λb e hb=>?_;cases e;exact hb
  let f:∀x∈xs,Q3 x.1=3:=λx h=>(u x h).trans M;refine c9 (Yc (prog:=prog) (w:=w) B P) ?_;clear P g;rintro ka rfl U;refine y0 (ku (prog:=prog) G f) λys L R k3=>?_;rw[Xm,fS (prog:=prog) B];have v:∀(j:a6),(ys[j]?).map (·.1)=(xs[j]?).map λx=>Nu x.1:=λj=>by
   rw[<-o7,k3,o7]
  refine wpAny_dictFind_heap (knd:=Vp (X0 prog w)) (k:=C.map y5) (q5 (G3 _ _) ‹_›) U N rfl L R ?_ ?_ ?_
  .rw[k3];unfold oA;rw[Y6];exact Gg (λh z J e=>by
    let b:=(cE (f _ h) (f _ z)).mp e;have S:=(Tw (d:=_) (by rw[f _ z];decide) ((f _ h).trans (f _ z).symm)).mpr b;rw[S]at J;cases J.1) Y
  .intro W;let b:D2 xs (.B C)=b4:=tF λj x h e=>by
    let m:=v j;rw[h]at m;cases z:ys[j]? with
    |none=>rw[z]at m;cases m
    |some y=>rw[z]at m;simp only[Ax,AA]at m;refine W j y.2 ?_;rw[z,<-show y.1=C.map y5 by rw[m,e];rfl]
   rw[b]at H;exact H
  .intro j p hp;let m:=v j;rw[hp]at m;cases h:xs[j]? with|none=>rw[h]at m;cases m|some x=>rw[h]at m;simp only[Ax,AA]at m;let X:=p8 h;let e:=(cE (f x X) M).mp m.symm;rw[sn Y F h e D]at H;exact H
 |_=>exact(F rfl).elim
structure Fx where
 w:O7
 M:l5
 cls:j3->i7
 os:JQ
 g:i7
 b:i7
 mg:o3->j0 b8
 mb:o3->j0 b8
 fn:j3->j3->i7
section
variable(X:Fx)
def J3(c:Cx)(n:a6)(h:l5):AO->i7->Prop
 | .L xs,a=>∃items e,h.get? a=a0 (AN items e)/\Vs X.M c n h xs items.toList/\xs.length<=j8+1
 | .D es e,a=>∃ents,h.get? a=a0 (E5 ents e)/\t4 X.w X.M c n h es ents.toList/\DK es/\es.length<=j8+1
 | .I cn d,a=>d<n/\h.get? a=a0 (FI (X.cls cn) (c.κ d))
 | .fld es,a=>∃m,h.Ns1 a m/\(∀f d,es.lookup f=a0 d->∃v,m (nm f)=a0 v/\V X.M c n h d v)/\(∀y,m y≠b4->y∈es.map λe=>nm e.1)/\es.length<=j8+1
structure i8 (c:Cx) (st:St) (s:f8):Prop where
 stays:∀b o,X.M.get? b=a0 o->s.heap.get? b=a0 o
 lo:∀a,a<st.n->X.M.objs.size<=c.κ a
 inj:∀a b,a<st.n->b<st.n->c.κ a=c.κ b->a=b
 obj:∀a,a<st.n->J3 X c st.n s.heap (st.h a) (c.κ a)
 priv:∀a,a<st.n->¬c.P (c.κ a)
 pold:∀b,c.P b->X.M.objs.size<=b/\b<s.heap.objs.size
 gens:s.gens=#[]
 os:s.os=X.os
 three:3<X.M.objs.size
 bsz:X.M.objs.size<=s.heap.objs.size
structure k7 (c:Cx) (st:St) (s:f8) (c':Cx) (st':St) (s':f8) (F:i7->Prop):Prop where
 n:st.n<=st'.n
 aG:∀a,a<st.n->c'.κ a=c.κ a
 P:c'.P=c.P
 keep:∀b o,s.heap.get? b=a0 o->(∀a,a<st.n->c.κ a≠b)->¬F b->s'.heap.get? b=a0 o
 new:∀a,st.n<=a->a<st'.n->s.heap.objs.size<=c'.κ a
 size:s.heap.objs.size<=s'.heap.objs.size
end
def y6:i7->Prop:=λw0=>k6
section
variable{X:Fx}{c:Cx}{st:St}
theorem k7.refl:k7 c st s c st s F:=⟨l8 _,λa a=>rfl,rfl,λa a e a a=>e,λa b d=>FR d b,l8 _⟩
theorem k7.trans(x:k7 c st s c' st' s' F)(y:k7 c' st' s' c'' st'' s'' F):k7 c st s c'' st'' s'' F:=
 ⟨b6 x.n y.n,λa d=>(y.aG a (j7 d x.n)).trans (x.aG a d),y.P.trans x.P,
  λb o e f g=>y.keep b o (x.keep b o e f g) (λa d=>by
   by_cases h:a<st.n
   .rw[x.aG a h];exact f a h
   .exact K0 (j7 (C2 e) (x.new a (Bq ‹_›) d))) g,
  λa i j=>by
   by_cases h:a<st'.n
   .rw[y.aG a h];exact x.new a i h
   .exact b6 x.size (y.new a (Bq ‹_›) j),
  b6 x.size y.size⟩
theorem k7.z(x:k7 c st s c' st' s' F)(h:∀b,F b->F' b):k7 c st s c' st' s' F':=
 ⟨x.n,x.aG,x.P,λb o a d e=>x.keep b o a d λq=>e (h b q),x.new,x.size⟩
theorem k7.narrow(x:k7 c st s c' st' s' F)(h:∀b,F b->s.heap.objs.size<=b):k7 c st s c' st' s' F':=
 ⟨x.n,x.aG,x.P,λb o a d e=>x.keep b o a d λq=>(Q0 (h b q) (C2 a)).elim,x.new,x.size⟩
theorem i8.noTup(R:i8 X c st s)(ha:a<st.n):s.heap.get? (c.κ a)≠a0 (x0 items e):=by
 intro h;let b:=R.obj a ha;cases hs:st.h a with
 |L xs=>rw[hs]at b;ext F8 b w0 w0 h1 w0;rw[h]at h1;injection h1 with q;injection q with q;injection q with q;exact u6 q (by decide)
 |D es ep=>rw[hs]at b;ext c9 b w0 h1 w0;rw[h]at h1;injection h1 with q;injection q with q;injection q with q;exact u6 q (by decide)
 |I cn d=>rw[hs]at b;ext1 b w0 h1;rw[h]at h1;injection h1 with q;injection q with q;cases q
 |fld es=>rw[hs]at b;ext c9 b w0 z1 w0;ext FO z1 o es ep h1 h2 w0;rw[h]at h1;injection h1 with q;subst q;cases h2
theorem k7.tups(R:i8 X c st s)(x:k7 c st s c' st' s' F)(g:∀b,F b->c.P b\/s.heap.objs.size<=b):
 ∀b d e,¬c.P b->s.heap.get? b=a0 (x0 d e)->s'.heap.get? b=a0 (x0 d e):=λb d e i f=>
 x.keep b _ f (λa j q=>R.noTup j (q▸f)) λq=>(g b q).elim i λh=>(Q0 h (C2 f)).elim
mutual
theorem Hg(g:n<=n')(i:∀a,a<n->c'.κ a=c.κ a)(j:∀a,a<h.objs.size->¬c.P a->¬c'.P a):∀{d:b0}{v:b8},V base c n h d v->V base c' n' h d v
 | .none,_,x=>x
 | .bool _,_,x=>x
 | .int _,_,x=>x
 | .str _,_,x=>x
 | .B _,_,b=>by ext H9 b a f e q p o r;exact BS a f e q (j a (C2 o) p) o (MY g i j r)
 | .ref a,_,b=>by ext k9 b k l;exact⟨j7 k g,by rw[l,i a k]⟩
 | .ro _,_,x=>x
theorem MY(d:n<=n')(f:∀a,a<n->c'.κ a=c.κ a)(g:∀a,a<h.objs.size->¬c.P a->¬c'.P a):∀{i:a7 b0}{vs:a7 b8},Vs base c n h i vs->Vs base c' n' h i vs
 |[],_,x=>x
 |_::_,_,b=>by ext n4 b v r e j k;exact E9 v r e (Hg d f g j) (MY d f g k)
end
theorem aq(f:n<=n')(g:∀a,a<n->c'.κ a=c.κ a)(i:∀a,a<h.objs.size->¬c.P a->¬c'.P a):∀{xs:a7 (b0×b0)}{es:a7 Ag},t4 w base c n h xs es->t4 w base c' n' h xs es:=by
 intro j
 induction j with
 |nil=>intro d x;exact x
 |cons d d k=>intro d b;ext C7 b e r q l m o p;exact U9 e r q (Hg f g i l) (Hg f g i m) o (k p)
theorem k7.V(R:i8 X c st s)(x:k7 c st s c' st' s' F)(h:∀b,F b->c.P b\/s.heap.objs.size<=b)(i:V X.M c st.n s.heap d v):V X.M c' st'.n s'.heap d v:=
 Cb (λb f e g=>x.tups R h b f e (by rw[x.P]at g;exact g)) (Hg x.n x.aG (λa j=>by rw[x.P];exact id) i)
theorem k7.Vs(R:i8 X c st s)(x:k7 c st s c' st' s' F)(h:∀b,F b->c.P b\/s.heap.objs.size<=b)(i:Vs X.M c st.n s.heap d v):Vs X.M c' st'.n s'.heap d v:=
 Z0 (λb f e g=>x.tups R h b f e (by rw[x.P]at g;exact g)) (MY x.n x.aG (λa j=>by rw[x.P];exact id) i)
theorem RY(k:∀b items e,¬c.P b->h.get? b=a0 (x0 items e)->h'.get? b=a0 (x0 items e))(ha:∀x,h.get? a=a0 x->h'.get? a=a0 x)(x:J3 X c n h o a):J3 X c n h' o a:=by
 cases o with
 |L xs=>ext n4 x items e h1 h2 h3;exact E9 items e (ha _ h1) (Z0 k h2) h3
 |D es ep=>ext1 x ents h1 h2 h3;exact v8 ents (ha _ h1) (t4.ext k h2) h3
 |I cn d=>exact⟨x.1,ha _ x.2⟩
 |fld es=>ext y0 x m h1 h2 h3;exact v8 m (h1.at ha) (λf d e=>c9 (h2 f d e) λv a b=>d0 v a (Cb k b)) h3
theorem ZX(hn:n<=n')(hk:∀a,a<n->c'.κ a=c.κ a)(hp:∀a,a<h.objs.size->¬c.P a->¬c'.P a)(x:J3 X c n h o a):J3 X c' n' h o a:=by
 cases o with
 |L xs=>ext n4 x items e h1 h2 h3;exact E9 items e h1 (MY hn hk hp h2) h3
 |D es ep=>ext1 x ents h1 h2 h3;exact v8 ents h1 (aq hn hk hp h2) h3
 |I cn d=>exact⟨j7 x.1 hn,by rw[hk d x.1];exact x.2⟩
 |fld es=>ext y0 x m h1 h2 h3;exact v8 m h1 (λf d e=>c9 (h2 f d e) λv a b=>d0 v a (Hg hn hk hp b)) h3
theorem i8.keep(R:i8 X c st s)(k:∀b o,s.heap.get? b=a0 o->¬c.P b->s'.heap.get? b=a0 o)(hz:s.heap.objs.size<=s'.heap.objs.size)(g:s'.gens=s.gens)(h:s'.os=s.os):i8 X c st s' where
 stays b o d:=k b o (R.stays b o d) λq=>(Q0 (R.pold b q).1 (C2 d)).elim
 lo:=R.lo
 inj:=R.inj
 obj a ha:=RY (λb f e i d=>k b _ d i) (λx j=>k _ x j (R.priv a ha)) (R.obj a ha)
 priv:=R.priv
 pold b d:=⟨(R.pold b d).1,j7 (R.pold b d).2 hz⟩
 gens:=g.trans R.gens
 os:=h.trans R.os
 three:=R.three
 bsz:=b6 R.bsz hz
theorem i8.ext(R:i8 X c st s)(x:Ext s.heap s'.heap)(a:s'.gens=s.gens)(d:s'.os=s.os):i8 X c st s':=R.keep (λb o e f=>x.2 b o e) x.1 a d
theorem k7.ext(x:Ext s.heap s'.heap):k7 c st s c st s' F:=⟨l8 _,λa a=>rfl,rfl,λb o d a a=>x.2 b o d,λa e f=>FR f e,x.1⟩def Cx.add(c:Cx)(n:a6)(x:i7):Cx:=⟨λa=>if a=n then x else c.κ a,c.P⟩theorem Cx.o(h:a<n):(c.add n x).κ a=c.κ a:=by simp[Cx.add,m6 h]theorem Cx.p:(c.add n x).κ n=x:=by simp[Cx.add]
theorem i8.A(R:i8 X c st s)(hx:s.heap.objs.size<=x)(he:Ext s.heap s'.heap)(hg:s'.gens=s.gens)(hos:s'.os=s.os)(ho:J3 X c st.n s'.heap o x):i8 X (c.add st.n x) (st.A o) s':=by
 have R':=R.ext he hg hos;have hxs:∀a,a<st.n->c.κ a≠x:=λa ha q=>by
  let f:=R.obj a ha;let hlt:c.κ a<s.heap.objs.size:=by
   cases hs:st.h a with
   |L xs=>rw[hs]at f;ext F8 f w0 w0 h1 w0;exact C2 h1
   |D es ep=>rw[hs]at f;ext c9 f w0 h1 w0;exact C2 h1
   |I cn d=>rw[hs]at f;ext1 f w0 h1;exact C2 h1
   |fld es=>rw[hs]at f;ext c9 f w0 z2 w0;ext EB z2 w0 w0 w0 h1 w0;exact C2 h1
  rw[q]at hlt;exact(Q0 hx hlt).elim
 have up:∀{o:AO}{y:i7},J3 X c st.n s'.heap o y->J3 X (c.add st.n x) (st.n+1) s'.heap o y:=λh=>ZX (N8 _) (λa ha=>Cx.o ha) (λw0 w0=>id) h;have split:∀a,a<st.n+1->a<st.n\/a=st.n:=λa ha=>iO (v0 ha);refine{stays:=R'.stays,lo:=?_,inj:=?_,obj:=?_,priv:=?_,pold:=R'.pold,gens:=R'.gens,os:=R'.os,three:=R'.three,bsz:=R'.bsz}
 .intro a ha;rcases split a ha with h|rfl
  .rw[Cx.o h];exact R.lo a h
  .rw[Cx.p];exact b6 R.bsz hx
 .intro a b ha hb e;rcases split a ha with h|rfl<;>rcases split b hb with h'|rfl
  .rw[Cx.o h,Cx.o h']at e;exact R.inj a b h h' e
  .rw[Cx.o h,Cx.p]at e;exact(hxs a h e).elim
  .rw[Cx.p,Cx.o h']at e;exact(hxs b h' e.symm).elim
  .rfl
 .intro a ha;rcases split a ha with h|rfl
  .rw[Cx.o h];let f:(st.A o).h a=st.h a:=by simp[St.A,m6 h]
   rw[f];exact up (R'.obj a h)
  .rw[Cx.p];let f:(st.A o).h st.n=o:=by simp[St.A]
   rw[f];exact up ho
 .intro a ha;rcases split a ha with h|rfl
  .rw[Cx.o h];exact R.priv a h
  .rw[Cx.p];exact λq=>(Q0 hx (R.pold x q).2).elim
theorem k7.A(R:i8 X c st s)(g:s.heap.objs.size<=x)(d:Ext s.heap s'.heap):k7 c st s (c.add st.n x) (st.A o) s' F:=
 ⟨N8 _,λa h=>Cx.o h,rfl,λb o i j j=>d.2 b o i,λa e f=>by
  have k:a=st.n:=by have k:a<st.n+1:=f;exact AL (v0 k) e
  clear e f;subst k;rw[Cx.p];exact g,d.1⟩
theorem i8.put(R:i8 X c st s)(f:a<st.n)(k:∀b x,s.heap.get? b=a0 x->b≠c.κ a->s'.heap.get? b=a0 x)(hz:s.heap.objs.size<=s'.heap.objs.size)(l:s'.gens=s.gens)(i:s'.os=s.os)
 (m:J3 X c st.n s'.heap o (c.κ a)):i8 X c (st.set a o) s' where
 stays b x hb:=k b x (R.stays b x hb) λq=>u6 (C2 hb) (by rw[q];exact Q0 (R.lo a f))
 lo:=R.lo
 inj:=R.inj
 obj b hb:=by
  by_cases h:b=a
  .clear f k hb;subst h;let d:(st.set b o).h b=o:=by simp[St.set]
   rw[d];exact m
  .let d:(st.set a o).h b=st.h b:=by simp[St.set,h]
   rw[d];exact RY (λx j e n g=>k x _ g λq=>R.noTup f (q▸g)) (λx g=>k _ x g (λq=>h (R.inj b a hb f q):c.κ b≠c.κ a)) (R.obj b hb)
 priv:=R.priv
 pold b hb:=⟨(R.pold b hb).1,j7 (R.pold b hb).2 hz⟩
 gens:=l.trans R.gens
 os:=i.trans R.os
 three:=R.three
 bsz:=b6 R.bsz hz
theorem k7.put(e:a<st.n)(k:∀b x,s.heap.get? b=a0 x->b≠c.κ a->s'.heap.get? b=a0 x)(hz:s.heap.objs.size<=s'.heap.objs.size):k7 c st s c (st.set a o) s' F:=
 ⟨l8 _,λd d=>rfl,rfl,λb x f g d=>k b x f λq=>g a e q.symm,λd h i=>by have j:_<st.n:=i;exact FR j h,hz⟩
end
section
variable(X:Fx)
inductive j6 (c:Cx) (st:St) (s:f8) (F:i7->Prop) (Q:Q1) (v:b8) (s':f8):Prop
 |mk (d st' c') (q:Q d st') (R:i8 X c' st' s') (v:V X.M c' st'.n s'.heap d v) (S:k7 c st s c' st' s' F)
end
end Internal
namespace Internal
theorem Ze{h a1 a2 i j k l:Sort _}{m n o p q r s:h->a1->a2->i->j->k->l->Prop}(a:h)(b:a1)(c:a2)(d:i)(e:j)(f:k)(g:l)(t:m a b c d e f g)(u:n a b c d e f g)(v:o a b c d e f g)(w:p a b c d e f g)(x:q a b c d e f g)(y:r a b c d e f g)(z:s a b c d e f g):∃a,∃b,∃c,∃d,∃e,∃f,∃g,m a b c d e f g/\n a b c d e f g/\o a b c d e f g/\p a b c d e f g/\q a b c d e f g/\r a b c d e f g/\s a b c d e f g:=⟨a,b,c,d,e,f,g,t,u,v,w,x,y,z⟩
open PySem PySem.W PyProof.Rows
def u0:b8->f8->Prop:=λw0 w0=>k6
section
variable{X:Fx}{c c':Cx}{st st':St}{s s' s'':f8}{F:i7->Prop}{Q:Q1}{d:b0}{v:b8}
theorem V.int(i:d3)(t:Dj):V base c n h (.int i) (.int i t):=⟨t,rfl⟩theorem V.str(l:a7 a6)(t:Dj):V base c n h (.str l) (.str (D0 l) t):=⟨t,rfl⟩theorem V.B(b:¬c.P a)(d:h.get? a=a0 (x0 items e))(f:Vs base c n h ds items.toList):V base c n h (.B ds) (.ref a):=BS a items e rfl b d f
theorem J3.L(b:h.get? a=a0 (AN items e))(d:Vs X.M c n h xs items.toList)(hz:xs.length<=j8+1):J3 X c n h (.L xs) a:=E9 items e b d hz
theorem J3.D(b:h.get? a=a0 (E5 items e))(d:t4 X.w X.M c n h xs items.toList)(f:DK xs)(hz:xs.length<=j8+1):J3 X c n h (.D xs e) a:=CU items b d f hz
theorem j6.U(R:i8 X c st s)(a:V X.M c st.n s.heap d v)(b:Q d st):j6 X c st s F Q v s:=⟨d,st,c,b,R,a,k7.refl⟩
theorem j6.toks(R:i8 X c st s)(a:V X.M c st.n s.heap d v)(b:Q d st):j6 X c st s F Q v {s with toks:=t}:=
 ⟨d,st,c,b,R.ext (Ext.refl _) rfl rfl,a,k7.ext (Ext.refl _)⟩
theorem j6.ext(R:i8 X c st s)(a:Ext s.heap s'.heap)(b:s'.gens=s.gens)(e:s'.os=s.os)(f:V X.M c st.n s'.heap d v)(g:Q d st):j6 X c st s F Q v s':=
 ⟨d,st,c,g,R.ext a b e,f,k7.ext a⟩theorem j6.after(x:k7 c st s c' st' s' F)(p:j6 X c' st' s' F Q v s''):j6 X c st s F Q v s'':=by obtain⟨d,a,b,e,R,f,g⟩:=p;exact⟨d,a,b,e,R,f,x.trans g⟩
theorem j6.new(R:i8 X c st s)(b:s.heap.objs.size<=x)(d:Ext s.heap s'.heap)(e:s'.gens=s.gens)(a:s'.os=s.os)(f:J3 X c st.n s'.heap o x)
 (g:Q (.ref st.n) (st.A o)):j6 X c st s F Q (.ref x) s':=
 ⟨.ref st.n,st.A o,c.add st.n x,g,R.A b d e a f,⟨B8 _,by rw[Cx.p]⟩,k7.A R b d⟩
theorem Tt:∀{f:a7 b0}{vs:a7 b8},Vs base c n h f vs->V base c n h d v->Vs base c n h (f++[d]) (vs++[v]):=by
 intro g
 induction g with
 |nil=>intro i e b;rw[show _=[] from e];exact E9 v [] rfl b rfl
 |cons _ _ j=>intro i a b;ext n4 a u r e k l;exact E9 u (r++[v]) (by rw[e];rfl) k (j l b)
theorem RC:∀{f es:a7 b0}{vs us:a7 b8},Vs base c n h f vs->Vs base c n h es us->Vs base c n h (f++es) (vs++us):=by
 intro g
 induction g with
 |nil=>intro a a a e d;rw[show _=[] from e];exact d
 |cons _ _ i=>intro a a a b d;ext n4 b u r e j k;exact E9 u (r++_) (by rw[e];rfl) j (i k d)
theorem j6.list(R:i8 X c st s)(b:Vs X.M c st.n s.heap ds vs.toList)(hz:ds.length<=j8+1)(d:Q (.ref st.n) (st.A (.L ds))):
 j6 X c st s F Q (.ref s.heap.objs.size) {s with heap:=s.heap.push (AN vs 0)}:=
 j6.new R (l8 _) (Ext.push _ _) rfl rfl (J3.L (A0 _ rfl) (Z0 (λa a a a=>(Ext.push _ _).2 _ _) b) hz) d
theorem Rc(R:i8 X c st s):¬c.P s.heap.objs.size:=λh=>(T9 _ (R.pold _ h).2).elim
theorem j6.B(R:i8 X c st s)(b:Vs X.M c st.n s.heap ds vs.toList)(d:Q (.B ds) st):
 j6 X c st s F Q (.ref s.heap.objs.size) {s with heap:=s.heap.push (x0 vs 0)}:=
 j6.ext R (Ext.push _ _) rfl rfl (V.B (Rc R) (A0 _ rfl) (Z0 (λa a a a=>(Ext.push _ _).2 _ _) b)) d
theorem i8.list(R:i8 X c st s)(f:V X.M c st.n s.heap d v)(h:st.list? d=a0 xs):
 ∃a b e,d= .ref a/\a<st.n/\st.h a= .L xs/\v= .ref (c.κ a)/\s.heap.get? (c.κ a)=a0 (AN b e)/\Vs X.M c st.n s.heap xs b.toList/\xs.length<=j8+1:=by
 revert f;refine rM (d:=d) h ?_;intro a i j f;let g:=R.obj a i;rw[j]at g;ext n4 g b e k l m;exact⟨a,b,e,rfl,i,j,f.2,k,l,m⟩
theorem i8.dict(R:i8 X c st s)(i:V X.M c st.n s.heap d v)(h:st.dict? d=a0 xs):
 ∃a b e,d= .ref a/\a<st.n/\st.h a= .D xs e/\v= .ref (c.κ a)/\s.heap.get? (c.κ a)=a0 (E5 b e)/\t4 X.w X.M c st.n s.heap xs b.toList/\DK xs/\xs.length<=j8+1:=by
 revert i;refine ie (d:=d) h ?_;intro a p j k i;let f:=R.obj a j;rw[k]at f;ext1 f g l m n o;exact⟨a,g,p,rfl,j,k,i.2,l,m,n,o⟩
theorem i8.I(R:i8 X c st s)(b:V X.M c st.n s.heap d v)(h:st.inst? d=a0 (cn,e)):
 ∃a,d= .ref a/\a<st.n/\st.h a= .I cn e/\e<st.n/\v= .ref (c.κ a)/\s.heap.get? (c.κ a)=a0 (FI (X.cls cn) (c.κ e)):=by
 revert b;refine tn (d:=d) h ?_;intro a f g j b;let i:=R.obj a f;rw[g]at i;exact⟨a,rfl,f,g,j,b.2,i.2⟩
theorem i8.items(R:i8 X c st s)(g:V X.M c st.n s.heap d v)(h:st.items? d=a0 xs):
 ∃a f e,v= .ref a/\Vs X.M c st.n s.heap xs f.toList/\(s.heap.get? a=a0 (x0 f e)/\¬c.P a/\d= .B xs\/∃b,d= .ref b/\b<st.n/\a=c.κ b/\st.h b= .L xs/\s.heap.get? a=a0 (AN f e)/\xs.length<=j8+1):=by
 by_cases i:∃o,d= .B o
 .ext d4 i o rfl;cases C6 h;ext H9 g a f e j k l m;exact⟨a,f,e,j,m,.inl (m0 l k rfl)⟩
 .let p:st.list? d=a0 xs:=by clear g;cases d<;>first|exact h|(exact(i ⟨_,rfl⟩).elim)
  refine M0 (R.list g p) λa f e j k l m q n=>?_;ext1 n r t;exact⟨_,f,e,m,r,.inr ⟨a,j,k,rfl,l,q,t⟩⟩
end
def Ic:Ei->WQ
 | .add=>.Add| .sub=>.Sub| .mul=>.Mult| .fdiv=>.FloorDiv| .mod=>.Mod
section
variable{prog:y9}{X:Fx}{A:B7}{E:qVS}{c:Cx}{st:St}{s:f8}{F:i7->Prop}{Q:Q1}
theorem sK(x y:a7 a6):D0 x++D0 y=D0 (x++y):=by refine(?_:(⟨(D0 x).cps++(D0 y).cps⟩:o3)=_);simp[D0]theorem NA(x:a7 a6):(D0 x).length=x.length:=by simp[D0,o3.length]theorem sd{y:d3}(h:0<y/\y<=10000000):y.natAbs<1073741824:=by obtain⟨n,rfl⟩:=PU (Gn h.1);exact q5 (Int.ofNat_le.mp h.2) (by decide)
theorem lm(h:x.natAbs<=1000000):zf x<=64:=by
 cases x with
 |ofNat n=>exact lD (oD (by decide) (Jx n)) (DT (EX (a:=n) (b:=1000000) h) (by decide))
 |negSucc n=>exact lD (oD (by decide) (d3.neg_le_neg (EX (a:=n+1) (b:=1000000) h))) (Vn (d3.negSucc_lt_zero n) (by decide))
theorem zG{o:Ei}{a:b0}{va:b8}(R:i8 X c st s)(ha:V X.M c st.n s.heap a va)(hb:V X.M c st.n s.heap b vb)(h:o8 (V3 o a b st) Q):
 b9 (d7 prog X.w) A (MA (Ic o) va vb) (j6 X c st s F Q) E s:=by
 cases a with
 |int x=>
  cases b with
  |int y=>
   ext d4 ha t rfl;ext d4 hb u rfl;cases o with
   |add=>exact P.add_int (j6.toks R (V.int _ _) h)
   |sub=>exact P.sub_int (j6.toks R (V.int _ _) h)
   |mul=>let zz:=Et h;ext1 zz hz h;exact P.mul_int (j6.toks R (V.int _ _) h) (v_ (lm hz.1))
   |fdiv=>let zz:=Et h;ext1 zz hz h;exact floordiv_int (bZ hz) (j6.toks R (V.int _ _) h) (.inl (yx (sd hz)))
   |mod=>let zz:=Et h;ext1 zz hz h;exact mod_int' (bZ hz) (j6.toks R (V.int _ _) h)
  |_=>exact h.elim
 |str x=>
  cases b with
  |str y=>
   ext d4 ha t rfl;ext d4 hb u rfl;refine QI (P:=λo=>b9 _ A (MA (Ic o) _ _) _ E s) h λh=>?_;let zz:=Et h;ext1 zz hz h;refine P.add_str ?_;by_cases h0:((D0 x).length==0)=a8
   .rw[g0 h0];rw[Al,NA,nZ]at h0;clear hz;subst h0;exact j6.U R (V.str _ _) h
   rw[j4 h0];by_cases h0:((D0 y).length==0)=a8
   .rw[g0 h0];rw[Al,NA,nZ]at h0;clear hz;subst h0;rw[Y5]at h;exact j6.U R (V.str _ _) h
   rw[j4 h0,sK];exact⟨by rw[NA,u7,O3];unfold j8 at hz;exact p6,j6.toks R (V.str _ _) h⟩
  |_=>exact h.elim
 |B x=>
  cases b with
  |B y=>
   refine QI (P:=λo=>b9 _ A (MA (Ic o) _ _) _ E s) h λh=>?_;let zz:=Et h;ext1 zz hz h;refine H9 (id ha) ?_;rintro p xs e1 rfl hp ho1 hv1;refine H9 (id hb) ?_;rintro q ys e2 rfl hq ho2 hv2;have l1:=Vs.length hv1;have l2:=Vs.length hv2;have one:∀{S:PySem.Spec},LQ (Builtin.«tuple.__add__» ⟨[.ref p,.ref q],[]⟩) S->S A (wants (j6 X c st s F Q) E) s->b9 (d7 prog X.w) A (MA .Add (.ref p) (.ref q)) (j6 X c st s F Q) E s:=
    λm hs=>concat_meets (d0 _ ho1 rfl) (d0 _ ho2 rfl) noFill_tuple_add seq_tuple_add yw xf (yz _ _) m hs
   by_cases h1:xs.isEmpty=a8
   .refine one (zj p xs e1 q ys e2 h1) (m0 ho1 ho2 ?_);let d:x=[]:=by
     rw[pS]at h1;clear ho1;subst h1;clear hz h ha l1;clear h;cases x with
     |nil=>rfl
     |cons=>ext F8 hv1 w0 w0 e w0;cases e
    clear hz ha hv1 l1;subst d;exact j6.U R hb h
   .by_cases h2:ys.isEmpty=a8
    .refine one (O' p xs e1 q ys e2 h1 h2) (m0 ho1 ho2 ?_);let d:y=[]:=by
      rw[pS]at h2;clear ho2;subst h2;clear hz h hb l2;clear h;cases y with
      |nil=>rfl
      |cons=>ext F8 hv2 w0 w0 e w0;cases e
     clear hz hb hv2 l2;subst d;rw[Y5]at h;exact j6.U R ha h
    .refine P.add_tuple ho1 ho2 h1 h2 (j6.B R (by rw[UN];exact RC hv1 hv2) h) ?_;rw[A2]at l1 l2;rw[l1,l2,O3];unfold j8 at hz;exact p6
  |_=>exact h.elim
 |ref x=>
  cases b with
  |ref y=>refine QI (P:=λo=>b9 _ A (MA (Ic o) _ _) _ E s) h λh=>c9 (dS h) λxs hx h=>c9 (dS h) λys hy h=>?_;let zz:=Et h;ext1 zz hz h;refine M0 (R.list ha hx) ?_;clear ha;rintro a i1 e1 w0 w0 w0 rfl ho1 rr;ext k9 rr hv1 hl1;refine M0 (R.list hb hy) ?_;clear hb;rintro b i2 e2 w0 w0 w0 rfl ho2 rr;ext k9 rr hv2 hl2;refine P.add_list ho1 ho2 (j6.list R (by rw[UN];exact RC hv1 hv2) (by rw[u7];exact U4 ‹_›) h) ?_;have l1:=Vs.length hv1;have l2:=Vs.length hv2;rw[A2]at l1 l2;rw[l1,l2,O3];unfold j8 at hz;exact p6
  |_=>exact h.elim
 |_=>exact h.elim
end
end Internal
namespace Internal
open PySem PySem.W PyProof.Rows PySem.SeqAt
theorem bS(k:a6)(b:A.units+k<t3)(f:o0 k d e=a8)(g:V base c n s.heap d v)(h:V base c n s.heap e u):EqAt A s v u (l3 d e):=
 λa w E Q i=>Ls k b f g h i
theorem Yz:∀(x y:a7 b0)(e:a6->b7),(∀j,j<x.length->j<y.length->e j=l3 (x.getD j .none) (y.getD j .none))->
 ((p0 (min x.length y.length)).all e&&x.length==y.length)=W2 x y:=by
 intro i
 induction i with
 |nil=>
  intro c;cases c with
  |nil=>intro e f;rfl
  |cons _ _=>intro e f;rfl
 |cons a x k=>
  intro c;cases c with
  |nil=>intro e f;rfl
  |cons b y=>
   intro e h;let g:=h 0 (M7 _) (M7 _);refine(?_:_=(l3 a b&&W2 x y));rw[<-(k y (λj=>e (j+1)) λj l m=>by simpa using h (j+1) (by simpa using l) (by simpa using m))];simp only[N6,a6.add_min_add_right,nF,Mp,mS];simp only[a7.getD_cons_zero]at g;rw[g];let d:(x.length+1==y.length+1)=(x.length==y.length):=by rw[P2];simp
   rw[d,b7.and_assoc];rfl
theorem uF:∀{x y:a7 b0},N0 f x y=a8->∀j,j<x.length->j<y.length->f (x.getD j .none) (y.getD j .none)=a8:=by
 intro g
 induction g with
 |nil=>intro a a a b a;exact(X7 _ b).elim
 |cons _ _ i=>
  intro d;cases d with
  |nil=>intro a a a c;exact(X7 _ c).elim
  |cons _ _=>
   intro h e;cases e with
   |zero=>intro a a;exact o6 h
   |succ j=>intro b c;exact i (o5 h) j (jX b) (jX c)
theorem MT{k:a6}{x y:a7 b0}{xs ys:l4 b8}(l:A.units+k<t3)(hz:N0 (o0 k) x y=a8)(f:Vs base c n s.heap x xs.toList)(g:Vs base c n s.heap y ys.toList):
 ∀j a(b:j<ys.size),EqAt A s xs[j] ys[j] (l3 (x.getD j .none) (y.getD j .none)):=by
 intro j a b;let d:=Vs.length f;let e:=Vs.length g;rw[A2]at d e;let h:=IZ f j (GL a d);let i:=IZ g j (GL b e);rw[(by simp[a]:xs.toList.getD j .none=xs[j])]at h;rw[(by simp[b]:ys.toList.getD j .none=ys[j])]at i;exact bS k l (uF hz j (GL a d) (GL b e)) h i
theorem cw{k:a6}{a b:i7}{x y:a7 b0}{xs ys:l4 b8}{p q:a6}(g:A.units+1+k<t3)(h:s.heap.get? a=a0 (x0 xs p))(i:s.heap.get? b=a0 (x0 ys q))
 (hz:N0 (o0 k) x y=a8)(e:Vs base c n s.heap x xs.toList)(f:Vs base c n s.heap y ys.toList):RcAt A s (.ref a) (.ref b) (W2 x y)/\RcNeAt A s (.ref a) (.ref b) (!W2 x y):=by
 let l:=Vs.length e;let m:=Vs.length f;rw[A2]at l m;let d:=Yz x y (λj=>l3 (x.getD j .none) (y.getD j .none)) λo o o=>rfl;rw[<-l,<-m]at d;refine⟨?_,?_⟩
 .rw[<-d];exact RcAt.tuples ⟨_,h,rfl,_,rfl⟩ ⟨_,i,rfl,_,rfl⟩ (Ia g) (MT (A:=A.in1) (k:=k) (by refine(?_:A.units+1+k<t3);assumption) hz e f)
 .rw[<-d];exact RcNeAt.tuples ⟨_,h,rfl,_,rfl⟩ ⟨_,i,rfl,_,rfl⟩ (Ia g) (MT (A:=A.in1) (k:=k) (by refine(?_:A.units+1+k<t3);assumption) hz e f)
theorem mw{k:a6}{a b:i7}{x y:a7 b0}{xs ys:l4 b8}{q r:a6}(f:A.units+1+k<t3)(g:s.heap.get? a=a0 (AN xs q))(h:s.heap.get? b=a0 (AN ys r))
 (hz:N0 (o0 k) x y=a8)(i:Vs base c n s.heap x xs.toList)(l:Vs base c n s.heap y ys.toList):RcAt A s (.ref a) (.ref b) (W2 x y)/\RcNeAt A s (.ref a) (.ref b) (!W2 x y):=by
 let m:=Vs.length i;let o:=Vs.length l;rw[A2]at m o;let d:=Yz x y (λj=>l3 (x.getD j .none) (y.getD j .none)) λp p p=>rfl;rw[<-m,<-o]at d;by_cases e:xs.size=ys.size
 .rw[e,a6.min_self,<-e]at d;simp only[CG,b7.and_true]at d;refine⟨?_,?_⟩
  .rw[<-d];exact RcAt.lists ⟨_,g,rfl,_,rfl⟩ ⟨_,h,rfl,_,rfl⟩ e (Ia f) (MT (A:=A.in1) (k:=k) (by refine(?_:A.units+1+k<t3);assumption) hz i l)
  .rw[<-d];exact RcNeAt.lists ⟨_,g,rfl,_,rfl⟩ ⟨_,h,rfl,_,rfl⟩ e (Ia f) (MT (A:=A.in1) (k:=k) (by refine(?_:A.units+1+k<t3);assumption) hz i l)
 .let t:W2 x y=c8:=by rw[<-d];simp[e]
  rw[t];exact⟨RcAt.lists_lengths ⟨_,g,rfl,_,rfl⟩ ⟨_,h,rfl,_,rfl⟩ (by simpa using e) (Ia f),RcNeAt.lists_lengths ⟨_,g,rfl,_,rfl⟩ ⟨_,h,rfl,_,rfl⟩ (by simpa using e) (Ia f)⟩theorem pn(x y:a7 a6):(D0 x==D0 y)=(x==y):=by rw[P2,Al,Al];exact⟨Ow,λe=>by rw[e]⟩
theorem jh(h:A.units+k+1<t3)(i:o0 k d e=a8)(f:V base c n s.heap d v)(g:V base c n s.heap e u):
 RcAt A s v u (l3 d e)/\RcNeAt A s v u (!l3 d e):=by
 revert h f g;refine Fe i (λa b h f g=>?_) (λa b h f g=>?_) λk a b i h f g=>?_
 .ext d4 f t rfl;ext d4 g u rfl;exact⟨RcAt.int_int _ _ _ _,RcNeAt.int_int _ _ _ _⟩
 .ext d4 f t rfl;ext d4 g u rfl;rw[show l3 (.str a) (.str b)=_ from(pn ..).symm];exact⟨RcAt.str_str _ _ _ _,RcNeAt.str_str _ _ _ _⟩
 .ext H9 f a q r rfl p j l;ext H9 g b w x rfl p m o;exact cw (k:=k) (zV h) j m i l o
section
variable{X:Fx}{st:St}
theorem bB(t:A.units+6<t3)(R:i8 X c st s)(w:V X.M c st.n s.heap a v)(x:V X.M c st.n s.heap b u)(h:Bj st a b=a0 r):
 RcAt A s v u r/\RcNeAt A s v u (!r):=by
 have f:QY a b=a0 r->RcAt A s v u r/\RcNeAt A s v u (!r):=λh=>by
  refine k9 (V0 h) λg h=>?_;cases h;exact jh (k:=3) (gD t rfl) g w x
 unfold Bj at h;cases i:st.list? a with
 |none=>rw[i]at h;exact f h
 |some y=>
  rw[i]at h;cases j:st.list? b with
  |none=>rw[j]at h;exact f h
  |some z=>rw[j]at h;refine k9 (V0 h) λg h=>?_;cases h;refine M0 (R.list w i) ?_;rintro p B C d d d rfl l e;ext1 e m d;clear f;refine M0 (R.list x j) ?_;rintro q D E d d d rfl n e;ext1 e o d;exact mw (k:=3) (gD t rfl) l n g m o
open Classical in
def Lh(X:Fx)(c:Cx)(st:St)(s:f8)(xs:a7 b0)(a:b0)(v:b8):b7:=@decide (∃d∈xs,V X.M c st.n s.heap d v/\l3 d a=a8) (DO _)
theorem fQ{xs:a7 b0}{a d:b0}{v u:b8}(j:∀x∈xs,P0 x a=a8)(g:d∈xs)(h:V X.M c st.n s.heap d v):Lh X c st s xs a v=l3 d a:=by
 unfold Lh;rw[P2,@C3 _ (DO _)];constructor
 .rintro i;ext y0 i l k f e;let b:=W7 e;clear e;subst b;exact aZ 3 (j d g) h f
 .exact λe=>v8 d g h e
theorem fi{a:b0}:∀{ys:a7 b0}{vs:a7 b8}{xs:a7 b0},(∀x∈xs,P0 x a=a8)->(∀y∈ys,y∈xs)->Vs X.M c st.n s.heap ys vs->vs.any (Lh X c st s xs a)=ys.any λx=>l3 x a:=by
 intro h
 induction h with
 |nil=>intro vs d d d e;rw[show vs=[] from e];rfl
 |cons y ys i=>intro d xs f g b;ext n4 b v r e j k;subst e;rw[jZ,jZ,fQ (u:=v) f (g y j5) j,i f (λz l=>g z (k8 _ l)) k]
end
section
variable{prog:y9}{X:Fx}{st:St}
theorem Sm{a:i7}{ep:a6}{es:l4 Ag}{xs:a7 (b0×b0)}{k:b0}{d:b8}{Q:j0 b8->f8->Prop}{base:l5}{n:a6}{w:O7}(l:A.units+8<t3)
 (m:s.heap.get? a=a0 (E5 es ep))(o:t4 w base c n s.heap xs es.toList)(y:DK xs)(q:v7 xs k=a8)(r:V base c n s.heap k d)
 (z:∀t,match t5 xs k with|some x=>∀v,V base c n s.heap x v->Q (a0 v) {s with toks:=t}|none=>Q b4 {s with toks:=t}):
 b9 (d7 prog w) A (WA a d) Q E s:=by
 refine L0 (b5 (Lg 3 (gB l rfl) (On (bne_iff_ne.mp (o6 q)):o0 3 k k=a8) r λt=>b5 (Ol (s:={s with toks:=t}) l m o y q r ?_)));let b:=z t;cases h:D2 xs k with
 |none=>
  let e:t5 xs k=b4:=by unfold D2 at h;unfold t5;rw[Mj]at h;rw[List.find?_eq_none.mpr (λx B=>by rw[h x B];exact Cc)];rfl
  rw[e]at b;exact f6 b
 |some i=>
  have f:=h;unfold D2 at f;refine c9 (List.findIdx?_eq_some_iff_getElem.mp f) λg C D=>?_;have e:t5 xs k=a0 xs[i].2:=by unfold t5;rw[(nR (p:=λe:b0×b0=>l3 e.1 k)).mpr ⟨C,i,g,rfl,λj F=>by simpa using D j F⟩];rfl
  rw[e]at b;refine BU (t4.get o i xs[i] (by simp[g])) λH u I G J=>b5 (jC m rfl (f6 ?_));rw[W6]at u;rw[u];exact b _ G
theorem GK(R:i8 X c st s){a:a6}(f:a<st.n):(c.κ a==pB)=c8:=by let d:=R.lo a f;rw[Gp];intro e;let b:pB=1:=rfl;rw[e,b]at d;exact(lg R.three d).elim
theorem eP{a b:b0}{C W:b8}{r:b7}(g:b7)(Y:A.units+12<t3)(R:i8 X c st s)(z:V X.M c st.n s.heap a C)(k:V X.M c st.n s.heap b W)(h:B5.inOp st a b=a0 r)
 (D:Q (.bool (if g then !r else r)) st):
 b9 (d7 prog X.w) A (Pe (if g then .NotIn else .In) C W) (j6 X c st s F Q) E s:=by
 have f:∀t,j6 X c st s F Q (.bool (if g then !r else r)) {s with toks:=t}:=λt=>j6.toks R (d:=.bool _) rfl D;unfold B5.inOp at h;cases O:st.items? b with
 |some Z=>
  rw[O]at h;refine k9 (V0 h) λB h=>?_;rw[V6]at B;injection h with h;refine FO (R.items k O) ?_;clear k;rintro p j e rfl I J;have K:∀y,y∈j->EqAt A.in1 s y C (Lh X c st s Z a y):=by intro y q;let L:=SK I y (Array.mem_toList_iff.mpr q);ext1 L d G w;rw[fQ (u:=y) B G w];exact bS 3 (gD Y rfl) (B d G) w z
  let i:j.any (Lh X c st s Z a)=r:=by rw[<-h,<-l4.any_toList];exact fi B (λy q=>q) I
  rcases J with⟨m,_⟩|⟨_,_,_,_,_,m,_⟩
  .clear D;cases g
   .exact in_tupleAt _ ⟨_,m,rfl,_,rfl⟩ K (by rw[i];exact f s.toks)
   .exact notIn_tupleAt _ ⟨_,m,rfl,_,rfl⟩ K (by rw[i];exact f s.toks)
  .clear D;cases g
   .exact in_listAt _ ⟨_,m,rfl,_,rfl⟩ K (by rw[i];exact f s.toks)
   .exact notIn_listAt _ ⟨_,m,rfl,_,rfl⟩ K (by rw[i];exact f s.toks)
 |none=>
  rw[O]at h;cases q:st.dict? b with
  |some n=>
   replace h:(match st.dict? b with|some n=>if v7 n a then a0 (D2 n a).isSome else b4|none=>KQ a b)=a0 r:=h;rw[q]at h;refine k9 (V0 h) λB h=>?_;injection h with h;refine M0 (R.dict k q) ?_;clear k;rintro p ents e S hp S rfl m M;ext1 M I G S;have T:s.TypeIs (.ref (c.κ p)) "dict":=d0 _ m rfl;let o:∀U:b8->f8->Prop,(∀t,U (.bool r) {s with toks:=t})->b9 (d7 prog X.w) A (call (.builtin "dict.__contains__") [.ref (c.κ p),C]) U E s:=by
    intro U H;refine Aj VB T entry_dict_contains ?_ (args_dict_contains _ _);refine(?_:b9 _ _ (WA (c.κ p) C>>=_) _ _ s);refine b5 (Sm (gD Y rfl) m I G B z λt=>?_);have N:(t5 n a).isSome=r:=by rw[<-h];unfold t5 D2;rw[MO];rw[P2];simp[Vr]
    cases J:t5 n a with
    |some x=>rw[J]at N;intro v S;exact f6 (d0 _ rfl (by let this:=H t;rw[<-N]at this;exact this))
    |none=>rw[J]at N;refine b5 (wpAny_pendingKey_other (GK R hp) (f6 (d0 _ rfl (by let this:=H t;rw[<-N]at this;exact this))))
   clear D;cases g
   .exact In_slot T VB (o _ λt=>Go (f t))
   .exact NotIn_slot T VB (o _ λt=>Go (f t))
  |none=>
   replace h:(match st.dict? b with|some n=>if v7 n a then a0 (D2 n a).isSome else b4|none=>KQ a b)=a0 r:=h;rw[q]at h;revert z k;refine cv (show KQ a b=a0 r from h) λl ch h z k=>?_;ext d4 z t rfl;ext d4 k u rfl;have i:(!(lY (D0 l) (D0 [ch]) 0 (D0 l).length 1).isEmpty)=r:=by rw[<-h];refine(?_:(!(lY (D0 l) ⟨#[ch]⟩ 0 (D0 l).length 1).isEmpty)=_);rw[zm,P2,C3];simp[D0]
   clear D;cases g
   .exact P.in_str (by rw[i];exact f s.toks)
   .exact P.notIn_str (by rw[i];exact f s.toks)
def Cy:Dz->My
 | .eq=>.Eq| .ne=>.NotEq| .lt=>.Lt| .le=>.LtE| .gt=>.Gt| .ge=>.GtE| .isin=>.In| .notin=>.NotIn| .is=>.Is| .isnot=>.IsNot
theorem cJ(ha:V base c n h a v):(v==Hq)=Tn a:=by
 cases a with
 |none=>rw[show v= .none from ha];rfl
 |bool b=>rw[show v= .bool b from ha];rfl
 |int i=>ext d4 ha t rfl;rfl
 |str i=>ext d4 ha t rfl;rfl
 |B i=>ext EB ha w0 w0 w0 rfl w0;rfl
 |ref i=>ext1 ha w0 rfl;rfl
 |ro i=>ext F8 ha w0 w0 rfl w0;rfl
theorem FY(hu:A.units+12<t3)(R:i8 X c st s)(ha:V X.M c st.n s.heap a va)(hb:V X.M c st.n s.heap b vb)(h:B5 o a b st=a0 r)(hq:Q (.bool r) st):
 b9 (d7 prog X.w) A (Pe (Cy o) va vb) (j6 X c st s F Q) E s:=by
 have here:j6 X c st s F Q (.bool r) s:=j6.U R (d:=.bool _) rfl hq;have num:∀{k:d3->d3->b7}{op:My},Jg k a b=a0 r->(∀x y t u,k x y=r->b9 (d7 prog X.w) A (Pe op (.int x t) (.int y u)) (j6 X c st s F Q) E s)->b9 (d7 prog X.w) A (Pe op va vb) (j6 X c st s F Q) E s:=by intro k op h H;revert ha hb;refine eg h λx y hr ha hb=>?_;ext d4 ha t rfl;ext d4 hb u rfl;exact H x y t u hr
 cases o with
 |eq=>exact(bB (gB hu rfl) R ha hb h).1 prog X.w E _ here
 |ne=>clear hq num;refine c9 (Iu h) ?_;clear h;rintro r' hr rfl;exact(bB (gB hu rfl) R ha hb hr).2 prog X.w E _ here
 |lt=>exact num h λx y t u e=>pL (by rw[e];exact here)
 |le=>exact num h λx y t u e=>P.le_int (by rw[e];exact here)
 |gt=>exact num h λx y t u e=>mZ (by rw[e];exact here)
 |ge=>exact num h λx y t u e=>P.ge_int (by rw[e];exact here)
 |isin=>exact eP c8 hu R ha hb h hq
 |notin=>clear here num;refine c9 (Iu h) ?_;clear h;rintro r' hr rfl;exact eP a8 hu R ha hb hr hq
 |«is»=>revert hb;refine cI h λe hb=>?_;rw[show vb= .none from hb];refine is_none_gen ?_;rw[cJ ha,e];exact here
 |isnot=>revert hb;refine cI h λe hb=>?_;rw[show vb= .none from hb];refine isnot_none_gen ?_;rw[cJ ha,e];exact here
end
end Internal
namespace Internal
open PySem PySem.W PyProof.Rows
theorem uM(items:l4 b8):Mf items b4 b4 (a0 (-1))=items.toList.reverse.toArray:=by
 obtain⟨l⟩:=items;let e:Ww ((l.length:d3) - 1) (-1) (-1)=(p0 l.length).map λk=>l.length - 1 - k:=by
  unfold Ww;rw[j4 (by decide)];by_cases h:l.length=0
  .rw[j4 (pu h),h];rfl
  .rw[g0 (pg h)];let a:(((l.length:d3) - 1 - -1 - -1 - 1)/ - -1).toNat=l.length:=by rw[show(- -1:d3)=1 by solve_by_elim (maxDepth:=2)only[*,j7],lG];exact qg
   dsimp only;rw[a];apply A1;intro k b;rw[Qd]at b;exact mn
 unfold Mf;simp only[sliceBounds,j0.getD_some];refine(?_:((Ww ((l.length:d3) - 1) (-1) (-1)).filterMap ((HB l)[·]?)).toArray=_);rw[e];congr 1;apply Gk;intro i;rw[a7.filterMap_map];let d:(p0 l.length).filterMap ((λx=>(HB l)[x]?) ∘ λk=>l.length - 1 - k)=(p0 l.length).map λk=>l.getD (l.length - 1 - k) .none:=by
  let g:∀(c:a7 a6),(∀k∈c,k<l.length)->c.filterMap ((λx=>(HB l)[x]?) ∘ λk=>l.length - 1 - k)=c.map λk=>l.getD (l.length - 1 - k) .none:=by
   intro c
   induction c with
   |nil=>intro o;rfl
   |cons k c m=>intro b;rw[HQ,m λj n=>b j (k8 _ n)];simp[(by let a:=b k j5;exact ZC a:l.length - 1 - k<l.length)]
  exact g _ λk b=>U8 b
 rw[d];by_cases f:i<l.length
 .let a:=ZC f;simp[f,a]
 .simp[f]
section
variable{X:Fx}{st:St}
theorem Vs_get?{base:l5}{n:a6}{h:l5}{e:a7 b0}{vs:l4 b8}(j:Vs base c n h e vs.toList){i:a6}{d:b0}(m:e[i]?=a0 d):∃v,vs[i]?=a0 v/\V base c n h d v:=by let k:=Vs.length j;rw[A2]at k;let f:=FS m;ext1 f g l;let a:=IZ j i g;let b:=Cz g k;rw[(by simp[g,l]:e.getD i .none=d),(by simp[b]:vs.toList.getD i .none=vs[i])]at a;exact d0 (vs[i]) (by simp[b]) a
theorem nq(n:A.units+12<t3)(R:i8 X c st s)(j:V X.M c st.n s.heap d vd)(hi:V X.M c st.n s.heap i vi)(h:st.dict? d=a0 es)
 (o:v7 es i=a8)(p:t5 es i=a0 x)(q:Q x st):b9 (d7 prog X.w) A (Ga vd vi) (j6 X c st s F Q) E s:=by
 refine M0 (R.dict j h) ?_;clear j;rintro a m e k w k rfl l b;ext1 b r u k;let f:s.TypeIs (.ref (c.κ a)) "dict":=d0 _ l rfl;unfold Ga
 try with_reducible refine L0 ?_
 first|refine b5 (f6 ?_)|skip
 refine b5 (Wn f (by decide) ?_);refine b5 (HS (name:=Cd "__getitem__") f nO
  (Aj nO f entry_dict_getitem ?_ (args_dict_getitem _ _)))
 refine(?_:b9 _ _ (WA (c.κ a) vi>>=_) _ _ s);refine b5 (Sm (gD n rfl) l r u o hi λt=>?_);rw[p];intro v g;exact f6 (d0 v rfl (f6 (j6.toks R g q)))theorem cX(b:0<=k)(c:k.toNat<n):seqIndex? k n=a0 k.toNat:=by unfold seqIndex?;let a:=Int.not_lt.mpr b;simp only[a,Bz];refine G6 (by simp only[C4,C3];exact⟨Int.not_lt.mp a,(Qq (Int.not_lt.mp a)).mp c⟩) ?_;try with_reducible rfl
theorem uv{d:b0}{vd:b8}(hu:A.units+12<t3)(R:i8 X c st s)(hd:V X.M c st.n s.heap d vd)(hi:V X.M c st.n s.heap i vi)(h:J9 d i st=a0 x)(hq:Q x st):
 b9 (d7 prog X.w) A (Ga vd vi) (j6 X c st s F Q) E s:=by
 cases WV h with
 |st ch h0 hl=>ext d4 hd t rfl;ext d4 hi u rfl;refine P.getItem_str (c:=ch) (by simp only[b7.or_eq_false_iff,Wq];exact uD h0 (by decide:(j8:d3)<2 ^ 63)) ?_ (j6.toks R (V.str [ch] _) hq);rw[cX h0.1 (by rw[NA];exact w6 hl)];simp[D0,hl]
 |it xs hx h0 h=>
  ext d4 hi u rfl;refine FO (R.items hd hx) ?_;clear hd;rintro p items e rfl hv hk;let zz:=Vs_get? hv h;ext1 zz v hv1 hv2;let hb:(j8:d3)<2 ^ 63:=by decide
  rcases hk with⟨ho,_⟩|⟨_,_,_,_,_,ho,_⟩
  .exact P.getItem_tuple ho (qz h0 hb) (DT h0.2 hb) (cX h0.1 (Ks hv1)) hv1 (j6.U R hv2 hq)
  .exact wpAny_getItem_list ⟨_,ho,rfl,_,rfl⟩ h0.1 (DT h0.2 hb) hv1 (j6.U R hv2 hq)
 |dc es he ok hx=>exact nq hu R hd hi he ok hx hq
abbrev Dq(a b d:b8):V8:={cls:=.type "slice",data:=.fields #[a,b,d]}
theorem Us:∀{b:a7 b0}{vs:a7 b8},Vs base c n h b vs->∀k,Vs base c n h (b.take k) (vs.take k)
 |_,_,_,0=>by rw[Gm,Gm];exact rfl
 |[],_,e,k+1=>by rw[show _=[] from e];exact rfl
 |_::_,_,a,k+1=>by ext n4 a v r e d f;subst e;exact E9 v (r.take k) rfl d (Us f k)
theorem QG:∀{b:a7 b0}{vs:a7 b8},Vs base c n h b vs->∀k,Vs base c n h (b.drop k) (vs.drop k)
 |_,_,x,0=>by rw[DP,DP];exact x
 |[],_,e,k+1=>by rw[show _=[] from e];exact rfl
 |_::_,_,a,k+1=>by ext n4 a v r e f d;subst e;exact QG d k
theorem gZ:∀{b:a7 b0}{vs:a7 b8},Vs base c n h b vs->Vs base c n h b.reverse vs.reverse:=by
 intro d
 induction d with
 |nil=>intro f e;rw[show _=[] from e];exact rfl
 |cons _ _ g=>intro f a;ext n4 a v r e i j;subst e;rw[Pw,Pw];exact Tt (g j) i
theorem nk:∀{vs:a7 b8}{ns:a7 d3},EM vs ns->Vs base c n h (ns.map .int) vs:=by
 intro vs ns z
 induction z with
 |nil=>exact rfl
 |cons i t b a=>exact E9 (.int i t) _ rfl (V.int i t) a
theorem Ug(R:i8 X c st s){d:b0}{k:b8}{a b e:b8}{lo hi g:j0 d3}{xs:a7 b0}(l:V X.M c st.n s.heap d k)(h:st.list? d=a0 xs)(q:Wp a lo)(r:Wp b hi)(ps:Wp e g)(t:g≠a0 0)
 {ys:a7 b0}(u:∀f:l4 b8,Vs X.M c st.n s.heap xs f.toList->Vs X.M c st.n s.heap ys (Mf f lo hi g).toList)(v:ys.length<=j8+1)(w:Q (.ref st.n) (st.A (.L ys))):
 b9 (d7 prog X.w) A (Ga k (.ref s.heap.objs.size)) (j6 X c st s F Q) E {s with heap:=s.heap.push (Dq a b e)}:=by
 refine M0 (R.list l h) ?_;clear l;rintro p f y i z i rfl x j;ext1 j m B;let n:=Vs.length m;rw[A2]at n;let o:=(Ext.push s.heap (Dq a b e)).trans (Ext.push (s.heap.push (Dq a b e)) {cls:=.type "list",data:=.seq (Mf f lo hi g)});refine iS ⟨_,A9 _ x,rfl,_,rfl⟩ (UO ..) q r ps t ?_ (by rw[n,O3];exact p6);exact j6.new R (by rw[J6];exact N8 _) o rfl rfl (J3.L (A0 _ rfl) (Z0 (λi i i i=>o.2 _ _) (u _ m)) v) w
theorem vP(R:i8 X c st s)(j:V X.M c st.n s.heap d vd)(h:o8 (Eh d k st) Q):
 b9 (d7 prog X.w) A (Ga vd (.ref s.heap.objs.size)) (j6 X c st s F Q) E {s with heap:=s.heap.push (Dq .none (.int k t) .none)}:=by
 let q:∀{k:d3},0<=k->k=(k.toNat:d3):=λh=>(Mr h).symm;refine Xd h (λm r l h=>?_) λm e l z=>?_
 .refine M0 (R.list j r) λb b b b b b b b f=>?_;ext1 f b B;refine Ug R j r .none (.int k t) .none (by decide) (ys:=m.take k.toNat) (λp C=>?_) (b6 (a7.length_take_le' _ _) B) h;rw[q l.1,jD];exact Us C _
 .clear h;cases e;ext T8 j a u rfl i v D;ext1 i o w x f;ext1 f n g;let y:=v.length;rw[A2]at y;refine iS (items:=u) (lo:=b4) (hi:=a0 k) (st:=b4) ⟨_,A9 _ (R.stays _ _ w),x,n,g⟩ (UO ..) .none (.int k t) .none (by decide) ?_ (by rw[y,O3];exact p6);refine j6.new R (by rw[J6];exact N8 _) ((Ext.push s.heap (Dq .none (.int k t) .none)).trans (Ext.push (s.heap.push (Dq .none (.int k t) .none)) {cls:=.type "list",data:=.seq (Mf u b4 (a0 k) b4)})) rfl rfl (J3.L (xs:=(m.take k.toNat).map .int) (A0 _ rfl) ?_ ?_) z
  .rw[q l.1,jD];rw[pG];exact nk (v.take _)
  .rw[f7,O9];exact U4 (Jb (Int.toNat_le.mpr l.2))
theorem jc(R:i8 X c st s)(l:V X.M c st.n s.heap d vd)(h:o8 (Er d k st) Q):
 b9 (d7 prog X.w) A (Ga vd (.ref s.heap.objs.size)) (j6 X c st s F Q) E {s with heap:=s.heap.push (Dq (.int k t) .none .none)}:=by
 let p:∀{k:d3},0<=k->k=(k.toNat:d3):=λh=>(Mr h).symm;refine aO h (λr v i h=>?_) λr e i w=>?_
 .refine M0 (R.list l v) λf f f f f f f f n=>?_;ext1 n f x;refine Ug R l v (.int k t) .none .none (by decide) (ys:=r.drop k.toNat) (λg m=>?_) (by rw[LY];exact b6 (Mo _ _) x) h;rw[p i.1,slicePick_from'];exact QG m _
 .clear h;cases e;ext H9 l a g e rfl B y m;let o:=Vs.length m;rw[A2]at o;let j:=(Ext.push s.heap (Dq (.int k t) .none .none)).trans (Ext.push (s.heap.push (Dq (.int k t) .none .none)) {cls:=.type "tuple",data:=.seq (g.toList.drop k.toNat).toArray});let z:(s.heap.push (Dq (.int k t) .none .none)).IsSliceOf s.heap.objs.size (.int ((k.toNat:a6):d3) t) .none .none:=by let b:=UO s.heap (.int k t) .none .none;rw[<-p (Jt (by decide) i.1)];exact b
  refine getItem_tuple_from (a:=k.toNat) (u:=t) ⟨_,A9 _ y,rfl,_,rfl⟩ z (d3.le_toNat (Jt (by decide) i.1)|>.mpr i.1) (qN i o) ?_ (by rw[o,O3];unfold j8 at i;exact b6 i.2.2 (by decide));refine j6.ext R j rfl rfl (V.B ?_ (A0 _ rfl) ?_) w
  .intro q;let b:=(R.pold _ q).2;rw[J6]at b;exact(Q0 (N8 _) b).elim
  .rw[pG];exact Z0 (λf f f f=>j.2 _ _) (QG m _)
theorem km(R:i8 X c st s)(f:V X.M c st.n s.heap d vd)(h:o8 (Fi d st) Q):
 b9 (d7 prog X.w) A (Ga vd (.ref s.heap.objs.size)) (j6 X c st s F Q) E {s with heap:=s.heap.push (Dq .none .none (.int (-1) t))}:=by
 refine fE h λi g h=>M0 (R.list f g) λa a a a a a a a b=>?_;ext1 b a k;refine Ug R f g .none .none (.int (-1) t) (by decide) (ys:=i.reverse) (λe j=>?_) (by rw[a7.length_reverse];assumption) h;rw[uM];exact gZ j
end
theorem cC(h:l5)(a:i7)(f:V8->V8):(h.update a f).objs.size=h.objs.size:=(Ba h a f).1
theorem Yw{Γ:Ec}(h:Runs M Γ p t fs s e s'):s.heap.objs.size<=s'.heap.objs.size:=by
 induction h<;>(try simp only[f8.setGen,cC,J6]at*)<;>first|(apply l8)|assumption|skip
 all_goals first|exact b6 ‹_› ‹_›|exact b6 (N8 _) ‹_›|skip
theorem yD{Γ:Ec}(h:Ms M Γ p g r s res s'):s.heap.objs.size<=s'.heap.objs.size:=
 Zn (P:=λR=>R res s'->s.heap.objs.size<=s'.heap.objs.size) (λh=>h.elim) (λc q t fs h=>by
  ext T8 h e₁ s₁ hr w0 w0 rfl;exact(Yw hr:(s.setGen g .running).heap.objs.size<=s₁.heap.objs.size)) (λa b hb h=>by rw[h.2,hb];exact l8 _) h
theorem gl{α:Type}(M:Gb)(n:a6)(t:M6 α):∀(Γ:Ec)(Q:α->X1->f8->Prop)(E:b8->X1->f8->Prop)(p:X1)(s:f8),n<=s.heap.objs.size->Jv M Γ t Q E p s->
 Jv M Γ t (λa p' s'=>n<=s'.heap.objs.size/\Q a p' s') (λe p' s'=>n<=s'.heap.objs.size/\E e p' s') p s:=by
 induction t with
 |pure a=>intro Γ Q E p s hn h;exact⟨hn,h⟩
 |raise e=>intro Γ Q E p s hn h;exact⟨hn,h⟩
 |unsupported|finish|register|yield|fork|await=>intro Γ Q E p s w0 h;exact h
 |rule _ k ih|point _ k ih|ask k ih|stack k ih|thread k ih|handled _ k ih|loadIfAlive _ k ih|fresh k ih|os _ _ k ih|newGen _ k ih|«at» _ k ih=>intro Γ Q E p s hn h;exact ih _ Γ Q E _ _ hn h
 |alloc o k ih=>intro Γ Q E p s hn h;exact ih _ Γ Q E p _ (b6 hn (by rw[J6];exact N8 _)) h
 |load a _ k ih=>intro Γ Q E p s hn h;ext c9 h o ho h;exact d0 o ho (ih o Γ Q E p s hn h)
 |genState g k ih=>intro Γ Q E p s hn h;ext c9 h o ho h;exact d0 o ho (ih _ Γ Q E p s hn h)
 |update a _ f k ih=>intro Γ Q E p s hn h;exact⟨h.1,ih () Γ Q E p _ (by rw[cC];exact hn) h.2⟩
 |choose src m k ih=>intro Γ Q E p s hn h;exact⟨h.1,ih _ Γ Q E p _ hn h.2⟩
 |call c hd _ _ k ih=>intro Γ Q E p s hn h;ext F8 h r s' hr h;exact P9 r s' hr (ih r Γ Q E p s' (b6 hn (Yw hr)) h)
 |resume g r _ k ih=>intro Γ Q E p s hn h;ext F8 h res s' hw h;exact P9 res s' hw (ih res Γ Q E p s' (b6 hn (yD hw)) h)theorem W5(h:b9 M A t (λa d=>s.heap.objs.size<=d.heap.objs.size->Q a d) E s):b9 M A t Q E s:=λΓ p c=>nA M Γ t (λb b b x=>x.2 x.1) (λb b b x=>x.2) p s (gl M s.heap.objs.size t Γ _ _ p s (l8 _) (h Γ p c))
structure Fr (fp:a7 i7) (s s':f8):Prop where
 keep:∀b o,b∉fp->s.heap.get? b=a0 o->s'.heap.get? b=a0 o
 size:s.heap.objs.size<=s'.heap.objs.size
 gens:s'.gens=s.gens
 os:s'.os=s.os
theorem Fr.refl(fp:a7 i7)(s:f8):Fr fp s s:=⟨λa a a e=>e,l8 _,rfl,rfl⟩
theorem Fr.trans(x:Fr fp s s')(y:Fr fp s' s''):Fr fp s s'':=
 ⟨λb o a e=>y.keep b o a (x.keep b o a e),b6 x.size y.size,y.gens.trans x.gens,y.os.trans x.os⟩theorem Fr.z(x:Fr fp s s')(h:∀b∈fp,b∈fp'):Fr fp' s s':=⟨λb o a e=>x.keep b o (λq=>a (h b q)) e,x.size,x.gens,x.os⟩
theorem Fr.same(x:Ah a s.heap h')(c:a∈fp)(t:a6):Fr fp s {s with heap:=h',toks:=t}:=
 ⟨λb o d e=>x.extBut b o (λq=>d (q▸c)) e,by rw[x.1];exact l8 _,rfl,rfl⟩
theorem Fr.ext(x:Mc a s.heap h')(c:a∈fp)(hz:s.heap.objs.size<=h'.objs.size)(t:a6):Fr fp s {s with heap:=h',toks:=t}:=
 ⟨λb o d e=>x b o (λq=>d (q▸c)) e,hz,rfl,rfl⟩
section
variable{X:Fx}{st:St}
theorem Fr.rep(x:Fr fp s s')(R:i8 X c st s)(a:∀b∈fp,c.P b):i8 X c st s':=R.keep (λb o e d=>x.keep b o (λq=>d (a b q)) e) x.size x.gens x.os
theorem Fr.step(x:Fr fp s s'):k7 c st s c st s' (·∈fp):=⟨l8 _,λa a=>rfl,rfl,λb o e a d=>x.keep b o d e,λa f g=>FR g f,x.size⟩
theorem Fr.V(x:Fr fp s s')(a:∀b∈fp,c.P b)(h:V base c n s.heap d v):V base c n s'.heap d v:=
 Cb (λb f f g e=>x.keep b _ (λq=>g (a b q)) e) h
theorem Fr.Vs(x:Fr fp s s')(a:∀b∈fp,c.P b)(h:Vs base c n s.heap d v):Vs base c n s'.heap d v:=
 Z0 (λb f f g e=>x.keep b _ (λq=>g (a b q)) e) h
end
def M5(h:l5)(T:b7)(i l:i7)(k:a6):Prop:=match T with|true=>h.IsTupleIter i l k|false=>h.IsListIter i l k
def y3(h:l5)(T:b7)(l:i7)(xs:l4 b8):Prop:=match T with|true=>h.IsTuple l xs|false=>h.IsList l xs
theorem M5.at(x:M5 h T i l k)(e:∀o,h.get? i=a0 o->h'.get? i=a0 o):M5 h' T i l k:=by cases T<;>(obtain⟨o,a,r⟩:=x;exact d0 o (e o a) r)theorem y3.at(x:y3 h T l xs)(e:∀o,h.get? l=a0 o->h'.get? l=a0 o):y3 h' T l xs:=by cases T<;>(obtain⟨o,a,r⟩:=x;exact d0 o (e o a) r)theorem M5.lt(x:M5 h T i l k):i<h.objs.size:=by cases T<;>(obtain⟨o,a,r⟩:=x;exact C2 a)theorem y3.lt(x:y3 h T l xs):l<h.objs.size:=by cases T<;>(obtain⟨o,a,r⟩:=x;exact C2 a)
theorem M5.cls(x:M5 h T i l k):∃o,h.get? i=a0 o/\(o.cls= .type "tuple_iterator"\/o.cls= .type "list_iterator"):=by
 cases T
 .ext y0 x o a r b;exact d0 o a (.inr r)
 .ext y0 x o a r b;exact d0 o a (.inl r)
section
variable{prog:y9}{w:O7}{A:B7}
theorem Jh(hi:M5 s.heap T i l k)(c:y3 s.heap T l xs)(p:xs[k]?=a0 x)
 (m:∀e,M5 e T i l (k+1)->Ah i s.heap e->Q x {s with heap:=e}):b9 (d7 prog w) A (JO (.ref i)) Q E s:=by
 have u:=m;clear u;cases T with
 |false=>exact wpAny_nextOf_list_item hi c p m
 |true=>
  let z:=lE (prog:=prog) (w:=w) (A:=A) (E:=λq q=>k6) (Q:=λr y=>∃v,r=a0 v/\Q v y) hi c p λe a b=>d0 x rfl (m e a b);let f:=id hi;ext1 f o g t d;ext1 c B h q n;ext1 n C j;refine b5 (HS (name:=Cd "__next__") (Qa hi) Pt (Aj Pt (Qa hi) hW ?_ (kJ _)));refine Nm g d (x:=.ref l) rfl (Y3 (show¬((Hu l==Hq)=a8) from Cc) (Nm g d (x:=.int k 0) rfl (LB h j ?_)));simp only[Q7,p];refine b5 (Wu g d (by simp) (f6 (d0 x rfl (f6 (m _ ?_ (Ba ..))))));exact(v8 _ (Hy _ g (V8.isFreed_of_fields (kL d _))) ((V8.cls_mapFields ..).trans t) (by
   rw[kL d];simp[G7]))
theorem mj{α:Type}{Q:α->f8->Prop}(hh:A.handled=b4)(hE:∀h' e,(∀b o,s.heap.get? b=a0 o->h'.get? b=a0 o)->(∃o,h'.get? e=a0 o/\o.cls= .type "StopIteration")->E (.ref e) {s with heap:=h'}):
 b9 (d7 prog w) A (PG (.type "StopIteration") []>>=λe=>(PX e:M6 α)) Q E s:=by
 refine b5 (b5 (Fn ?_ (by size_fits)));refine b5 (m:=Qh _ _) (JY (a:=Hq) (by first|rfl|(simp only[Qh];rfl)) (Fn ?_ (by size_fits)));refine io ?_;rw[hh];refine R8 (lB (hE _ _ (λb o e=>A9 _ (A9 _ e)) (d0 _ (A0 _ rfl) rfl)))
theorem OA{Q:qVS}(n:A.handled=b4)(hi:M5 s.heap T i l k)(h:y3 s.heap T l xs)(p:xs[k]?=b4)
 (r:∀a e,Mc i s.heap a->(∃o,a.get? e=a0 o/\o.cls= .type "StopIteration")->E (.ref e) {s with heap:=a}):b9 (d7 prog w) A (JO (.ref i)) Q E s:=by
 cases T with
 |false=>exact wpAny_nextOf_list_end n hi h p r
 |true=>let c:=id hi;ext1 c o f t g;ext y0 h z m B j;ext1 j C d;refine b5 (HS (name:=Cd "__next__") (Qa hi) Pt (Aj Pt (Qa hi) hW ?_ (kJ _)));refine Nm f g (x:=.ref l) rfl (Y3 (show¬((Hu l==Hq)=a8) from Cc) (Nm f g (x:=.int k 0) rfl (LB m d ?_)));simp only[Q7,p];refine Iv (b5 (Wu f g (M7 _) (mj (A:=A.in1) n ?_)));intro a e u v;exact r a e (λb o y q=>u b o ((Ba ..).extBut b o y q)) v
abbrev Nv(f0:b8)(f1:b7)(TI TO:i7):V8:={cls:=.type "zip",dict:=b4,data:=.fields #[f0,.bool f1,.bool c8,.ref TI,.ref TO],slots:=#[]}
structure ZR (h:l5) (f0:b8) (z TI TO i1 i2:i7) (T1:b7) (l1:i7) (k1:a6) (T2:b7) (l2:i7) (k2:a6):Prop where
 zo:∃f1,h.get? z=a0 (Nv f0 f1 TI TO)
 ti:Dk h TI (.ref i1) (.ref i2)
 to:∃a b,Dk h TO a b
 s1:M5 h T1 i1 l1 k1
 s2:M5 h T2 i2 l2 k2
 TT:TI≠TO
 ii:i1≠i2
 l1:l1≠TO
 l2:l2≠TO
theorem y3.ne(x:y3 h T l xs)(d:h.get? a=a0 o)(f:o.cls≠.type "list")(g:o.cls≠.type "tuple"):l≠a:=λe=>by
 subst e;cases T<;>(obtain⟨i,b,c,_⟩:=x;rw[d]at b;cases b;first|exact f c|exact g c)
theorem M5.ne(x:M5 h T i l k)(d:h.get? a=a0 o)(f:o.cls≠.type "list_iterator")(g:o.cls≠.type "tuple_iterator"):i≠a:=λe=>by
 subst e;cases T<;>(obtain⟨j,b,c,_⟩:=x;rw[d]at b;cases b;first|exact f c|exact g c)
end
theorem Fj(hz:s.heap.get? z=a0 {cls:=cl,dict:=b4,data:=.fields fs,slots:=#[]})(b:k<fs.size)
 (c:∀a,a.get? z=a0 {cls:=cl,dict:=b4,data:=.fields (fs.setIfInBounds k x),slots:=#[]}->Ah z s.heap a->Q () {s with heap:=a}):
 b9 (d7 prog w) A (Gc (.ref z) k x) Q E s:=
 HN hz b c
theorem FrOf.set(x:Ah a s.heap h')(b:a∈fp):Fr fp s {s with heap:=h'}:=Fr.same x b s.toks
theorem Fr.push(fp:a7 i7)(o:V8):Fr fp s {s with heap:=s.heap.push o}:=⟨λa a a e=>A9 _ e,by rw[J6];exact N8 _,rfl,rfl⟩abbrev x9(z TO i1 i2:i7):a7 i7:=[z,TO,i1,i2]
theorem WZ(b:s.heap.get? a=a0 o)(h:Q (a0 o) s):b9 (d7 prog w) A (loadIfAlive a) Q E s:=λΓ p c=>by
 refine(?_:Q (s.heap.get? a) s);rw[b];exact h
theorem DA{h:l5}(x:h.get? a=a0 o)(y:h.get? a=a0 o'):o.cls=o'.cls:=by rw[x]at y;cases y;rfl
theorem Uk(d:Dk s.heap T a b)
 (h:∀c,c.get? T=a0 {cls:=.type "tuple",data:=.seq ((#[a,b]:l4 b8).setIfInBounds k x)}->Ah T s.heap c->Q () {s with heap:=c}):
 b9 (d7 prog w) A (updateSeq T (·.setIfInBounds k x)) Q E s:=wpAny_updateSeq_pair d h
theorem aC{Q:qVS}(hz:ZR s.heap .none z TI TO i1 i2 T1 l1 k1 T2 l2 k2)(h1:y3 s.heap T1 l1 xs)(h2:y3 s.heap T2 l2 ys)(hx:xs[k1]?=a0 x)(hy:ys[k2]?=a0 y)
 (J:∀(V:l5)(T:i7),ZR V (G7 (T:a6)) z TI TO i1 i2 T1 l1 (k1+1) T2 l2 (k2+1)->Dk V T x y->s.heap.objs.size<=T->Fr (x9 z TO i1 i2) s {s with heap:=V}->Q (.ref T) {s with heap:=V}):
 b9 (d7 prog w) A (Builtin.«zip.__next__» ⟨[.ref z],[]⟩) (λfin s'=>∃v,fin= .done (.ret v)/\Q v s') E s:=by
 refine d4 hz.zo λf1 f=>R9 hz.to λa b r=>?_;have g:=hz.s1.ne f (by simp) (by simp);have i:=hz.s2.ne f (by simp) (by simp);have t:=hz.s1.ne r (by simp) (by simp);have u:=hz.s2.ne r (by simp) (by simp);have j:TO≠z:=λe=>by clear hz J g i;subst e;let d:=DA f r;simp at d
 let M:TI≠z:=λe=>by clear J g i j;subst e;let d:=DA f hz.ti;simp at d
 let B:∀{h:l5}{k:a6},M5 h T1 i1 l1 k->∀{T:b7}{l:i7}{K:l4 b8},y3 h T l K->l≠i1:=λ{_ _}hi{T l K}hl e=>by
  exact c9 hi.cls λo D p=>hl.ne D (by rcases p with q|q<;>rw[q]<;>simp) (by rcases p with q|q<;>rw[q]<;>simp) e
 let R:∀{h:l5}{k:a6},M5 h T2 i2 l2 k->∀{T:b7}{l:i7}{K:l4 b8},y3 h T l K->l≠i2:=λ{_ _}hi{T l K}hl e=>by
  exact c9 hi.cls λo D p=>hl.ne D (by rcases p with q|q<;>rw[q]<;>simp) (by rcases p with q|q<;>rw[q]<;>simp) e
 let m:∀q∈x9 z TO i1 i2,q=z\/q=TO\/q=i1\/q=i2:=by intro q hq;simpa using hq
 refine(b5 (AY f rfl (x:=.bool c8) rfl ?_):b9 _ _ (field (.ref z) 2>>=_) _ _ _);refine b5 (AY f rfl (x:=.ref TI) rfl (b5 (Cg hz.ti rfl ?_)));refine b5 (b5 (AY f rfl (x:=.none) rfl (f6 ?_)));refine b5 (EK (b5 (AY f rfl (x:=.ref TO) rfl ?_)));refine b5 (Fj f (M7 _) λg1 z1 F=>b5 ?_);simp only[nG,jM,Df,HR];refine b5 (b5 (Qj (b5 (Jh (s:={s with heap:=g1}) (hz.s1.at λo e=>F.extBut _ _ g e) (h1.at λo e=>F.extBut _ _ (h1.ne f (by simp) (by simp)) e) hx λW j1 G=>f6 ?_))));let N:Dk W TO a b:=G.extBut _ _ (C8 t) (F.extBut _ _ j r);refine b5 (Cg N rfl (b5 (Uk (s:={s with heap:=W}) N λX to3 H=>?_)));refine b5 (PZ (f6 ?_));refine b5 (b5 (Qj (b5 (Jh (s:={s with heap:=X}) (hz.s2.at λo e=>H.extBut _ _ u (G.extBut _ _ (C8 hz.ii) (F.extBut _ _ i e))) (h2.at λo e=>H.extBut _ _ hz.l2 (G.extBut _ _ (B hz.s1 h2) (F.extBut _ _ (h2.ne f (by simp) (by simp)) e))) hy λY O I=>f6 ?_))));let P:Dk Y TO x b:=I.extBut _ _ (C8 u) (to3:Dk X TO x b);refine b5 (Cg P rfl (b5 (Uk (s:={s with heap:=Y}) P λn to5 L=>?_)));have C:Dk n TO x y:=to5;let Z:Fr (x9 z TO i1 i2) s {s with heap:=n}:=((((FrOf.set F (j5):Fr (x9 z TO i1 i2) s {s with heap:=g1}).trans (FrOf.set (s:={s with heap:=g1}) G (k8 _ (k8 _ j5))):Fr (x9 z TO i1 i2) s {s with heap:=W}).trans (FrOf.set (s:={s with heap:=W}) H (k8 _ j5)):Fr (x9 z TO i1 i2) s {s with heap:=X}).trans (FrOf.set (s:={s with heap:=X}) I (k8 _ (k8 _ (k8 _ j5)))):Fr (x9 z TO i1 i2) s {s with heap:=Y}).trans (FrOf.set (s:={s with heap:=Y}) L (k8 _ j5));refine b5 (PZ (f6 (f6 (b5 (Cg C rfl ?_)))));refine b5 (Qi ?_);have z5:n.get? z=a0 (Nv .ellipsis f1 TI TO):=L.extBut _ _ (C8 j) (I.extBut _ _ (C8 i) (H.extBut _ _ (C8 j) (G.extBut _ _ (C8 g) z1)));refine(b5 ?_:b9 _ _ (F_ (.ref z) (.ref n.objs.size)>>=_) _ _ _);refine b5 (Fj (s:={s with heap:=n.push (O2 "tuple" [x,y].toArray 0)}) (A9 _ z5) (M7 _) λg7 z7 w7=>?_);refine Fj (s:={s with heap:=g7}) z7 (by simp) λg8 z8 w8=>?_;have up:∀c o,c≠z->n.get? c=a0 o->g8.get? c=a0 o:=λc o c1 e=>w8.extBut _ _ c1 (w7.extBut _ _ c1 (A9 _ e));let zl:z<n.objs.size:=C2 z5;refine f6 (d0 _ rfl (J g8 _ ⟨⟨c8,z8⟩,?_,(Dw x y (up _ _ j C)),?_,?_,hz.TT,hz.ii,hz.l1,hz.l2⟩ ?_ Z.size (((Z.trans (Fr.push (s:={s with heap:=n}) _ _):Fr (x9 z TO i1 i2) s {s with heap:=n.push (O2 "tuple" [x,y].toArray 0)}).trans (FrOf.set (s:={s with heap:=n.push (O2 "tuple" [x,y].toArray 0)}) w7 j5):Fr (x9 z TO i1 i2) s {s with heap:=g7}).trans (FrOf.set (s:={s with heap:=g7}) w8 j5):Fr (x9 z TO i1 i2) s {s with heap:=g8})))
 .have S:TI≠i1:=λe=>by
   clear J g t B m j1 G Z;subst e;refine c9 hz.s1.cls λo D p=>?_;let d:=DA D hz.ti;rcases p with q|q<;>(rw[q]at d;simp at d)
  have U:TI≠i2:=λe=>by
   clear J i u R m O I Z;subst e;refine c9 hz.s2.cls λo D p=>?_;let d:=DA D hz.ti;rcases p with q|q<;>(rw[q]at d;simp at d)
  exact up _ _ M (L.extBut _ _ hz.TT (I.extBut _ _ U (H.extBut _ _ hz.TT (G.extBut _ _ S (F.extBut _ _ M hz.ti)))))
 .exact j1.at λo e=>up _ o g (L.extBut _ _ t (I.extBut _ _ hz.ii (H.extBut _ _ t e)))
 .exact O.at λo e=>up _ o i (L.extBut _ _ u e)
 .exact w8.extBut _ _ (K0 zl) (w7.extBut _ _ (K0 zl) (A0 _ rfl))
theorem SM{Q:Pa->f8->Prop}(S:A.handled=b4)(hz:ZR s.heap .none z TI TO i1 i2 T1 l1 k1 T2 l2 k2)(U:y3 s.heap T1 l1 xs)(L:y3 s.heap T2 l2 ys)(F:xs[k1]?=b4\/ys[k2]?=b4)
 (H:∀M e,(∀b o,b∉x9 z TO i1 i2->s.heap.get? b=a0 o->M.get? b=a0 o)->(∃o,M.get? e=a0 o/\o.cls= .type "StopIteration")->E (.ref e) {s with heap:=M}):
 b9 (d7 prog w) A (Builtin.«zip.__next__» ⟨[.ref z],[]⟩) Q E s:=by
 refine d4 hz.zo λf1 c=>R9 hz.to λa b n=>?_;have g:=hz.s1.ne c (by simp) (by simp);have p:=hz.s2.ne c (by simp) (by simp);have y:TO≠z:=λe=>by clear hz H g p;subst e;let f:=DA c n;simp at f
 let G:∀{h:l5}{k:a6},M5 h T1 i1 l1 k->∀{T:b7}{l:i7}{V:l4 b8},y3 h T l V->l≠i1:=λ{_ _}hi{T l V}hl e=>by
  let I:=hi.cls;ext1 I o m j;exact hl.ne m (by rcases j with q|q<;>rw[q]<;>simp) (by rcases j with q|q<;>rw[q]<;>simp) e
 have i:∀{h:l5}{e:i7}{o N:V8},h.get? e=a0 o->o.cls= .type "StopIteration"->h.get? z=a0 N->N.cls= .type "zip"->e≠z:=λ{h e o N}p1 p2 p3 p4 q=>by
  clear hz H c g p y;subst q;let f:=DA p1 p3;rw[p2,p4]at f;simp at f
 refine(b5 (AY c rfl (x:=.bool c8) rfl ?_):b9 _ _ (field (.ref z) 2>>=_) _ _ _);refine b5 (AY c rfl (x:=.ref TI) rfl (b5 (Cg hz.ti rfl (b5 (b5 (AY c rfl (x:=.none) rfl (f6 (b5 (EK (b5 (AY c rfl (x:=.ref TO) rfl (b5 (Fj c (M7 _) λJ W t=>b5 ?_)))))))))))));simp only[nG,jM,Df,HR];refine b5 (b5 (Qj ?_));have B:M5 J T1 i1 l1 k1:=hz.s1.at λo e=>t.extBut _ _ g e;have C:y3 J T1 l1 xs:=U.at λo e=>t.extBut _ _ (U.ne c (by simp) (by simp)) e;cases O:xs[k1]? with
 |none=>
  refine b5 (OA (s:={s with heap:=J}) S B C O λK e r u=>?_);ext c9 u o m j;have X:=r _ _ (C8 g) W;refine Fj (s:={s with heap:=K}) X (M7 _) λP z3 v=>H P e (λb o R q=>?_) (d0 o (v.extBut _ _ (i m j X rfl) m) j);let d:b≠z/\b≠TO/\b≠i1/\b≠i2:=by simpa using R
  exact v.extBut _ _ d.1 (r _ _ d.2.2.1 (t.extBut _ _ d.1 q))
 |some x=>
  refine b5 (Jh (s:={s with heap:=J}) B C O λK j1 r=>f6 ?_);let D:Dk K TO a b:=r.extBut _ _ (C8 (hz.s1.ne n (by simp) (by simp))) (t.extBut _ _ y n);refine b5 (Cg D rfl (b5 (Uk (s:={s with heap:=K}) D λP to3 v=>b5 (PZ (f6 (b5 (b5 (Qj (b5 (OA (s:={s with heap:=P}) S (hz.s2.at λo e=>v.extBut _ _ (hz.s2.ne n (by simp) (by simp)) (r.extBut _ _ (C8 hz.ii) (t.extBut _ _ p e))) (L.at λo e=>v.extBut _ _ hz.l2 (r.extBut _ _ (G hz.s1 L) (t.extBut _ _ (L.ne c (by simp) (by simp)) e))) (by rcases F with h|h;rw[O]at h;cases h;exact h:ys[k2]?=b4) λg4 e Y u=>?_))))))))));ext1 u o m j;have Z:=Y _ _ (C8 p) (v.extBut _ _ (C8 y) (r.extBut _ _ (C8 g) W));refine Fj (s:={s with heap:=g4}) Z (M7 _) λg5 z5 w5=>H g5 e (λb o R q=>?_) (d0 o (w5.extBut _ _ (i m j Z rfl) m) j);let d:b≠z/\b≠TO/\b≠i1/\b≠i2:=by simpa using R
  exact w5.extBut _ _ d.1 (Y _ _ d.2.2.2 (v.extBut _ _ d.2.1 (r.extBut _ _ d.2.2.1 (t.extBut _ _ d.1 q))))
theorem gr{Q:qVS}{I:i7}(V:∃o,s.heap.get? I=a0 o)(hz:ZR s.heap (G7 (I:a6)) z TI TO i1 i2 T1 l1 k1 T2 l2 k2)(h1:y3 s.heap T1 l1 xs)(W:y3 s.heap T2 l2 ys)(hx:xs[k1]?=a0 x)(hy:ys[k2]?=a0 y)
 (X:∀(M:l5)(T:i7),ZR M (G7 (I:a6)) z TI TO i1 i2 T1 l1 (k1+1) T2 l2 (k2+1)->Dk M T x y->s.heap.objs.size<=T->Fr (x9 z TO i1 i2) s {s with heap:=M}->Q (.ref T) {s with heap:=M}):
 b9 (d7 prog w) A (Builtin.«zip.__next__» ⟨[.ref z],[]⟩) (λp r=>∃v,p= .done (.ret v)/\Q v r) E s:=by
 refine d4 hz.zo λf1 d=>R9 hz.to λa b B=>?_;ext1 V oT L;have C:=hz.s1.ne d (by simp) (by simp);have D:=hz.s2.ne d (by simp) (by simp);let itc:∀{h:l5}{T T':b7}{i l l':i7}{k:a6}{zs:l4 b8},M5 h T i l k->y3 h T' l' zs->l'≠i:=λ{_ _ _ _ _ _ _ _}N hl e=>by
  exact c9 N.cls λo Y O=>hl.ne Y (by rcases O with q|q<;>rw[q]<;>simp) (by rcases O with q|q<;>rw[q]<;>simp) e
 let F:∀{h:l5}{T:b7}{i l:i7}{k:a6}{t:i7}{a b:b8},M5 h T i l k->Dk h t a b->t≠i:=λ{_ _ _ _ _ _ _ _}N hp e=>by
  refine c9 N.cls λo Y O=>?_;clear N;subst e;let j:=DA Y hp;rcases O with q|q<;>(rw[q]at j;simp at j)
 refine(b5 (AY d rfl (x:=.bool c8) rfl ?_):b9 _ _ (field (.ref z) 2>>=_) _ _ _);refine b5 (AY d rfl (x:=.ref TI) rfl (b5 (Cg hz.ti rfl ?_)));have G:∀(g:l5),Ah z s.heap g->(∃f,g.get? z=a0 (Nv (G7 (I:a6)) f TI TO))->∀{P:Pa->f8->Prop},(∀v r,Q v r->P (.done (.ret v)) r)->
  b9 (d7 prog w) A (JO (.ref i1)) (λZ s1=>b9 (d7 prog w) A (JO (.ref i2)) (λv2 s2=>b9 (d7 prog w) A (newTuple [Z,v2]) (λt s3=>P (.done (.ret t)) s3) E s2) E s1) E {s with heap:=g}:=by
  intro g u ⟨f,J⟩ P hP;refine Jh (s:={s with heap:=g}) (hz.s1.at λo e=>u.extBut _ _ C e) (h1.at λo e=>u.extBut _ _ (h1.ne d (by simp) (by simp)) e) hx λg2 j1 K=>Jh (s:={s with heap:=g2}) (hz.s2.at λo e=>K.extBut _ _ (C8 hz.ii) (u.extBut _ _ D e)) (W.at λo e=>K.extBut _ _ (itc hz.s1 W) (u.extBut _ _ (W.ne d (by simp) (by simp)) e)) hy λg4 j2 R=>?_;let S:Fr (x9 z TO i1 i2) s {s with heap:=g4}:=((FrOf.set u (j5):Fr (x9 z TO i1 i2) s {s with heap:=g}).trans (FrOf.set (s:={s with heap:=g}) K (k8 _ (k8 _ j5))):Fr (x9 z TO i1 i2) s {s with heap:=g2}).trans (FrOf.set (s:={s with heap:=g2}) R (k8 _ (k8 _ (k8 _ j5))));refine Qi (hP _ _ ?_);let U:∀c o,c≠z->c≠i1->c≠i2->s.heap.get? c=a0 o->(g4.push (O2 "tuple" [x,y].toArray 0)).get? c=a0 o:=λc o c1 c2 c3 e=>A9 _ (R.extBut _ _ c3 (K.extBut _ _ c2 (u.extBut _ _ c1 e)));refine X _ _ ⟨⟨f,A9 _ (R.extBut _ _ (C8 D) (K.extBut _ _ (C8 C) J))⟩,U _ _ (λe=>by clear X C D u J S U;subst e;let j:=DA d hz.ti;simp at j:TI≠z) (F hz.s1 hz.ti) (F hz.s2 hz.ti) hz.ti,(Dw a b (U _ _ (λe=>by clear hz X C D u J S U;subst e;let j:=DA d B;simp at j:TO≠z) (F hz.s1 B) (F hz.s2 B) B)),?_,?_,hz.TT,hz.ii,hz.l1,hz.l2⟩ (A0 _ rfl) S.size
   (S.trans (Fr.push (s:={s with heap:=g4}) _ _))
  .exact j1.at λo e=>A9 _ (R.extBut _ _ hz.ii e)
  .exact j2.at λo e=>A9 _ e
 refine b5 (m:=nT (.ref z)) (b5 (AY d rfl (x:=G7 (I:a6)) rfl (b5 (WZ (a:=((I:a6):d3).toNat) (o:=oT) (by rw[Q7];exact L) (b5 (AY d rfl (x:=.bool f1) rfl ?_))))));cases f1 with
 |false=>refine b5 (Fj d (by simp) λg J u=>f6 (b5 ?_));rw[<-Gl];simp only[Df,HR];refine b5 (b5 (L0 (b5 (v6 (G g u ⟨a8,J⟩ (P:=λp r=>∃v,p= .done (.ret v)/\Q v r) λv r q=>d0 v rfl q) ?_ λn n e=>e))));intro Z s1 hr;refine f6 (f6 (b5 (b5 (L0 (b5 (v6 hr ?_ λn n e=>e))))));intro v2 s2 H;exact f6 (f6 (f6 (b5 (v6 H (λt s3 q=>f6 q) λn n e=>e))))
 |true=>refine f6 (b5 ?_);rw[<-Gl];simp only[Df,HR];refine b5 (b5 (L0 (b5 (v6 (G s.heap (Px ..) ⟨a8,d⟩ (P:=λp r=>∃v,p= .done (.ret v)/\Q v r) λv r q=>d0 v rfl q) ?_ λn n e=>e))));intro Z s1 hr;refine f6 (f6 (b5 (b5 (L0 (b5 (v6 hr ?_ λn n e=>e))))));intro v2 s2 H;exact f6 (f6 (f6 (b5 (v6 H (λt s3 q=>f6 q) λn n e=>e))))
theorem qP(M:A.handled=b4)(y:∃o,s.heap.get? B=a0 o)(hz:ZR s.heap (G7 (B:a6)) z TI TO i1 i2 T1 l1 k1 T2 l2 k2)(N:y3 s.heap T1 l1 xs)(C:y3 s.heap T2 l2 ys)
 (v:xs[k1]?=b4\/ys[k2]?=b4)(O:∀D e,(∀b o,b∉x9 z TO i1 i2->s.heap.get? b=a0 o->D.get? b=a0 o)->(∃o,D.get? e=a0 o/\o.cls= .type "StopIteration")->E (.ref e) {s with heap:=D}):
 b9 (d7 prog w) A (Builtin.«zip.__next__» ⟨[.ref z],[]⟩) Q E s:=by
 refine d4 hz.zo λR c=>?_;ext1 y W r;let L:∀{h:l5}{T X:b7}{i l S:i7}{k:a6}{Y:l4 b8},M5 h T i l k->y3 h X S Y->S≠i:=λ{_ _ _ _ _ _ _ _}Z hl e=>by
  exact c9 Z.cls λo ho U=>hl.ne ho (by rcases U with q|q<;>rw[q]<;>simp) (by rcases U with q|q<;>rw[q]<;>simp) e
 refine(b5 (AY c rfl (x:=.bool c8) rfl ?_):b9 _ _ (field (.ref z) 2>>=_) _ _ _);refine b5 (AY c rfl (x:=.ref TI) rfl (b5 (Cg hz.ti rfl ?_)));have n:∀(g:l5),Ah z s.heap g->∀{P:qVS},
  b9 (d7 prog w) A (JO (.ref i1)) (λV F=>b9 (d7 prog w) A (JO (.ref i2)) P E F) E {s with heap:=g}:=by
  intro g j P;have t:M5 g T1 i1 l1 k1:=hz.s1.at λo e=>j.extBut _ _ (hz.s1.ne c (by simp) (by simp)) e;have u:y3 g T1 l1 xs:=N.at λo e=>j.extBut _ _ (N.ne c (by simp) (by simp)) e;cases G:xs[k1]? with
  |none=>exact OA (s:={s with heap:=g}) M t u G λH e p I=>O H e (λb o J q=>by
   let f:b≠z/\b≠TO/\b≠i1/\b≠i2:=by simpa using J
   exact p _ _ f.2.2.1 (j.extBut _ _ f.1 q)) I
  |some x=>
   refine Jh (s:={s with heap:=g}) t u G λH j1 p=>?_;exact OA (s:={s with heap:=H}) M (hz.s2.at λo e=>p.extBut _ _ (C8 hz.ii) (j.extBut _ _ (hz.s2.ne c (by simp) (by simp)) e)) (C.at λo e=>p.extBut _ _ (L hz.s1 C) (j.extBut _ _ (C.ne c (by simp) (by simp)) e)) (by rcases v with h|h;rw[G]at h;cases h;exact h:ys[k2]?=b4) λg4 e w4 I=>O g4 e (λb o J q=>by
    let f:b≠z/\b≠TO/\b≠i1/\b≠i2:=by simpa using J
    exact w4 _ _ f.2.2.2 (p.extBut _ _ f.2.2.1 (j.extBut _ _ f.1 q))) I
 refine b5 (m:=nT (.ref z)) (b5 (AY c rfl (x:=G7 (B:a6)) rfl (b5 (WZ (a:=((B:a6):d3).toNat) (o:=W) (by rw[Q7];exact r) (b5 (AY c rfl (x:=.bool R) rfl ?_))))));cases R with
 |false=>refine b5 (Fj c (by simp) λg zg j=>f6 (b5 ?_));rw[<-Gl];simp only[Df,HR];refine b5 (b5 (L0 (b5 (v6 (n g j (P:=λd d=>k6)) ?_ λd d e=>e))));intro V F K;exact f6 (f6 (b5 (b5 (L0 (b5 (v6 K (λd d q=>q.elim) λd d e=>e))))))
 |true=>refine f6 (b5 ?_);rw[<-Gl];simp only[Df,HR];refine b5 (b5 (L0 (b5 (v6 (n s.heap (Px ..) (P:=λd d=>k6)) ?_ λd d e=>e))));intro V F K;exact f6 (f6 (b5 (b5 (L0 (b5 (v6 K (λd d q=>q.elim) λd d e=>e))))))
theorem GO(hz:ZR s.heap f0 z TI TO i1 i2 T1 l1 k1 T2 l2 k2)
 (h:b9 (d7 prog w) A.in1 (Builtin.«zip.__next__» ⟨[.ref z],[]⟩) (λd c=>∃v,d= .done (.ret v)/\Q (a0 v) c) (λe c=>(∃a o,e= .ref a/\c.heap.get? a=a0 o/\o.cls= .type "StopIteration")/\Q b4 c) s):
 b9 (d7 prog w) A (Gv (.ref z)) Q E s:=by
 let g:=hz.zo;ext1 g p f;let k:s.TypeIs (.ref z) "zip":=d0 _ f rfl;refine b5 (jI (HS (name:=Cd "__next__") k mJ (Aj mJ k F.entry_zip_next (v6 h ?_ ?_) (F.args_zip_next_1 _))))
 .rintro d c l;ext c9 l v rfl i;exact d0 v rfl (f6 i)
 .rintro e c j;obtain⟨a,o,rfl,m,n⟩:=j.1;let i:=j.2;clear j;exact b5 (JL (T:="StopIteration") (b:=true) (d0 o m n) iW (f6 i))def ET(T:b7)(l:i7):V8:={cls:=.type (if T then"tuple_iterator" else"list_iterator"),data:=.fields #[.ref l,.int 0 0]}
theorem NL(a:y3 s.heap T l xs)(b:Q (.ref s.heap.objs.size) {s with heap:=s.heap.push (ET T l)}):b9 (d7 prog w) A (DW (.ref l)) Q E s:=by
 cases T with
 |false=>exact Mx a b
 |true=>exact WD a b
theorem Nh{h:l5}:M5 (h.push (ET T l)) T h.objs.size l 0:=by cases T<;>exact v8 _ (A0 _ rfl) rfl rfl
abbrev Jf(h:l5)(T1:b7)(l1:i7):l5:=h.push (ET T1 l1)abbrev Jo(h:l5)(T1:b7)(l1:i7)(T2:b7)(l2:i7):l5:=(Jf h T1 l1).push (ET T2 l2)abbrev GU(h:l5)(T1:b7)(l1:i7)(T2:b7)(l2:i7):l5:=(Jo h T1 l1 T2 l2).push {cls:=.type "tuple",data:=.seq #[.ref h.objs.size,.ref (Jf h T1 l1).objs.size]}abbrev Ny(h:l5)(T1:b7)(l1:i7)(T2:b7)(l2:i7):l5:=(GU h T1 l1 T2 l2).push {cls:=.type "tuple",data:=.seq #[.none,.none]}abbrev aF(h:l5)(T1:b7)(l1:i7)(T2:b7)(l2:i7):l5:=(Ny h T1 l1 T2 l2).push {cls:=.type "zip",data:=.fields #[.none,.bool c8,.bool c8,.ref (Jo h T1 l1 T2 l2).objs.size,.ref (GU h T1 l1 T2 l2).objs.size]}
theorem qi(b:b7)(a:i7)(f:b7)(c:i7)(xs ys:l4 b8):
 LQ (Builtin.«zip.__new__» ⟨[.type "zip",.ref a,.ref c],[]⟩) (λq R s=>y3 s.heap b a xs/\y3 s.heap f c ys/\
  R (.ok (.ret (.ref (Ny s.heap b a f c).objs.size))) {s with heap:=aF s.heap b a f c}):=
 .of_wp λn w A R s h=>by
  obtain⟨k,g,d,l,m⟩:=s;let i:=h.1;let j:=h.2.1;let h:=h.2.2;let p:=sub_zip
  wp_walk using NL (i:y3 (VP ⟨k,g,d,l,m⟩) b a xs),NL (j.at λo e=>A9 _ e:y3 (VP ⟨k.push (ET b a),g,d,l,m⟩) f c ys)
  exact d0 _ rfl h
theorem yS{p:i7->Prop}(c:p z)(d:p TO)(e:p i1)(f:p i2):∀b∈x9 z TO i1 i2,p b:=by intro b a;simp only[K5,J7,X4]at a;rcases a with rfl|rfl|rfl|rfl<;>assumption
theorem TE{p:i7->Prop}(c:p TI)(d:p z)(e:p TO)(f:p i1)(g:p i2):∀b∈TI::x9 z TO i1 i2,p b:=by
 intro b a;rcases D9 a with rfl|a
 .exact c
 .exact yS d e f g b a
theorem xM(u:y3 s.heap T1 l1 xs)(v:y3 s.heap T2 l2 ys)
 (y:∀g z l m n p,ZR g .none z l m n p T1 l1 0 T2 l2 0->Ext s.heap g->(∀b∈l::x9 z m n p,s.heap.objs.size<=b)->(∀b∈l::x9 z m n p,b<g.objs.size)->Q (.ref z) {s with heap:=g}):
 b9 (d7 prog w) A (call (.type "zip") [.ref l1,.ref l2]) Q E s:=by
 refine qA F.called_zip (by decide) (F.typeCall_zip_2 _ _) (F.newCall_zip_2 _ _) (λt=>F.args_object_init_3 t _ _) F.entry_zip_new (qi T1 l1 T2 l2 xs ys) (m0 u v ?_);let x:=Ext.push (Jf s.heap T1 l1) (ET T2 l2);let q:=Ext.push (Jo s.heap T1 l1 T2 l2) {cls:=.type "tuple",data:=.seq #[.ref s.heap.objs.size,.ref (Jf s.heap T1 l1).objs.size]};let i:=Ext.push (GU s.heap T1 l1 T2 l2) {cls:=.type "tuple",data:=.seq #[.none,.none]};let c:=Ext.push (Ny s.heap T1 l1 T2 l2) {cls:=.type "zip",data:=.fields #[.none,.bool c8,.bool c8,.ref (Jo s.heap T1 l1 T2 l2).objs.size,.ref (GU s.heap T1 l1 T2 l2).objs.size]};let j:(Jf s.heap T1 l1).objs.size=s.heap.objs.size+1:=J6 ..;have k:(Jo s.heap T1 l1 T2 l2).objs.size=s.heap.objs.size+2:=by rw[J6,j]
 have d:(GU s.heap T1 l1 T2 l2).objs.size=s.heap.objs.size+3:=by rw[J6,k]
 let r:(Ny s.heap T1 l1 T2 l2).objs.size=s.heap.objs.size+4:=by rw[J6,d]
 let f:∀{a:i7},a<s.heap.objs.size->a≠(GU s.heap T1 l1 T2 l2).objs.size:=λ{a}h e=>by
  rw[e,d]at h;exact(Nat.not_lt.mpr (G3 _ _) h).elim
 refine⟨(d0 _ (A0 _ rfl) rfl),y _ _ (Jo s.heap T1 l1 T2 l2).objs.size (GU s.heap T1 l1 T2 l2).objs.size s.heap.objs.size (Jf s.heap T1 l1).objs.size ?_ ((Ext.push s.heap (ET T1 l1)).trans (x.trans (q.trans (i.trans c)))) ?_ ?_⟩
 .refine⟨⟨c8,A0 _ rfl⟩,c.2 _ _ (i.2 _ _ (A0 _ rfl)),(Dw _ _ (c.2 _ _ (A0 _ rfl))),
   Nh.at λo e=>c.2 _ _ (i.2 _ _ (q.2 _ _ (x.2 _ _ e))),Nh.at λo e=>c.2 _ _ (i.2 _ _ (q.2 _ _ e)),?_,?_,f u.lt,f v.lt⟩
  .rw[k,d];exact m6 (B8 _)
  .rw[j];exact m6 (B8 _)
 .refine TE ?_ ?_ ?_ ?_ ?_
  .rw[k];exact G3 _ _
  .rw[r];exact G3 _ _
  .rw[d];exact G3 _ _
  .exact l8 _
  .rw[j];exact G3 _ _
 .rw[(by rw[J6,r]:(aF s.heap T1 l1 T2 l2).objs.size=s.heap.objs.size+5)];refine TE ?_ ?_ ?_ ?_ ?_
  .rw[k];exact FZ (by decide) _
  .rw[r];exact B8 _
  .rw[d];exact FZ (by decide) _
  .exact Qm (by decide)
  .rw[j];exact FZ (by decide) _
section
variable(X:Fx)(c:Cx)(n:a6)(h:l5)
def N5(d:b0)(T:b7)(l:i7):Prop:=(T=a8/\∃ds,d= .B ds/\V X.M c n h (.B ds) (.ref l))\/(T=c8/\∃b,d= .ref b/\b<n/\l=c.κ b)
inductive Am:It->i7->a7 i7->Prop
 |seq {d:b0} {k:a6} {I:i7} {T:b7} {l:i7}:N5 X c n h d T l->M5 h T I l k->Am (.seq d k) I [I]
 |keys {b k m ep:a6} {I:i7}:b<n->h.IsKeyIter I (c.κ b) k m ep->Am (.keys b k m ep) I [I]
 |text {x:o3} {t:Dj} {k:a6} {l:a7 a6} {I:i7}:h.IsStrIter I "str_ascii_iterator" x t k->x.cps.toList.drop k=l->Am (.text l) I [I]
 |range {i m:d3} {I:i7}:lP h I i (m - i) 1->Am (.range i m) I [I]
 |enum {k b:a6} {I J:i7} {old:b8}:b<n->IsEnum h I J k old->h.IsListIter J (c.κ b) k->I≠J->Am (.enum k (.ref b)) I [I,J]
 |zip {a b:b0} {k:a6} {I TI TO i1 i2 l1 l2:i7} {T1 T2:b7}:N5 X c n h a T1 l1->N5 X c n h b T2 l2->ZR h .none I TI TO i1 i2 T1 l1 k T2 l2 k->Am (.zip a b k) I (TI::x9 I TO i1 i2)
inductive Fz:It->i7->a7 i7->b8->Prop
 |seq {d:b0} {k:a6} {I:i7} {T:b7} {l:i7} (u:b8):N5 X c n h d T l->M5 h T I l k->Fz (.seq d k) I [I] u
 |keys {b k m ep:a6} {I:i7} (u:b8):b<n->h.IsKeyIter I (c.κ b) k m ep->Fz (.keys b k m ep) I [I] u
 |text {x:o3} {t:Dj} {k:a6} {l:a7 a6} {I:i7} (u:b8):h.IsStrIter I "str_ascii_iterator" x t k->x.cps.toList.drop k=l->Fz (.text l) I [I] u
 |range {i m:d3} {I:i7} (u:b8):lP h I i (m - i) 1->Fz (.range i m) I [I] u
 |enum {k b:a6} {I J T:i7} {old:b8}:b<n->IsEnumOut h I J k old T->h.IsListIter J (c.κ b) k->I≠J->Fz (.enum k (.ref b)) I [I,J] (.ref T)
 |zip {a b:b0} {k:a6} {I TI TO i1 i2 l1 l2 T:i7} {T1 T2:b7}:N5 X c n h a T1 l1->N5 X c n h b T2 l2->ZR h (G7 (T:a6)) I TI TO i1 i2 T1 l1 k T2 l2 k->Fz (.zip a b k) I (TI::x9 I TO i1 i2) (.ref T)
end
def Cx.hide(c:Cx)(fp:a7 i7):Cx:=⟨c.κ,λb=>c.P b\/b∈fp⟩
section
variable{c:Cx}{s s':f8}{fp:a7 i7}
theorem FX{P':i7->Prop}(k:∀a b e,¬c.P a->h.get? a=a0 (x0 b e)->¬P' a):∀(d:b0)(v:b8),V base c n h d v->V base ⟨c.κ,P'⟩ n h d v:=by
 intro d;exact(b0.rec (motive_1:=λd=>∀v,V base c n h d v->V base ⟨c.κ,P'⟩ n h d v) (motive_2:=λg=>∀i,Vs base c n h g i->Vs base ⟨c.κ,P'⟩ n h g i)
  (λf x=>x) (λf f x=>x) (λf f x=>x) (λf f x=>x) (λg l v j=>H9 j λa b e q p o r=>BS a b e q (k a b e p o) o (l _ r)) (λf f x=>x) (λf f x=>x)
  (λf x=>x) (λd g m s i j=>n4 j λv r e t u=>E9 v r e (m _ t) (s _ u)) d)
theorem Ll{P':i7->Prop}(i:∀a b e,¬c.P a->h.get? a=a0 (x0 b e)->¬P' a):∀(g:a7 b0)(vs:a7 b8),Vs base c n h g vs->Vs base ⟨c.κ,P'⟩ n h g vs
 |[],_,x=>x
 |d::g,_,f=>by ext n4 f v r e j k;exact E9 v r e (FX i d v j) (Ll i g r k)
theorem tQ{κ:a6->i7}{P:i7->Prop}(e:∀a,P a->P' a):∀(d:b0)(v:b8),V base ⟨κ,P'⟩ n h d v->V base ⟨κ,P⟩ n h d v:=
 λd v f=>FX (c:=⟨κ,P'⟩) (P':=P) (λa b b g b h=>g (e a h)) d v f
theorem Sb(f:∀b∈fp,s.heap.objs.size<=b):∀a d e,¬c.P a->s.heap.get? a=a0 (x0 d e)->¬(c.hide fp).P a:=λa d e g i q=>q.elim g λh=>(Q0 (f a h) (C2 i)).elim
theorem NH(x:Fr [] s s')(e:∀b∈fp,s.heap.objs.size<=b)(f:V base c n s.heap d v):V base (c.hide fp) n s'.heap d v:=
 Cb (λb a a a q=>x.keep b _ J7 q) (FX (c:=c) (Sb e) d v f)
end
section
variable{X:Fx}{c c':Cx}{st st':St}{s s':f8}{F:i7->Prop}{fp:a7 i7}{it:It}{I:i7}
theorem N5.step(R:i8 X c st s)(x:k7 c st s c' st' s' F)(e:∀b,F b->c.P b\/s.heap.objs.size<=b)(h:N5 X c st.n s.heap d T l):N5 X c' st'.n s'.heap d T l:=by
 rcases h with⟨rfl,f,rfl,g⟩|⟨rfl,b,rfl,a,rfl⟩
 .exact .inl ⟨rfl,f,rfl,x.V R e g⟩
 .exact .inr ⟨rfl,b,rfl,j7 a x.n,(x.aG b a).symm⟩
theorem Am.step(R:i8 X c st s)(x:k7 c st s c' st' s' F)(hF:∀b,F b->c.P b\/s.heap.objs.size<=b)(h1:∀b∈fp,c.P b)(h2:∀b∈fp,¬F b)(h:Am X c st.n s.heap it I fp):Am X c' st'.n s'.heap it I fp:=by
 let k:∀b∈fp,∀o,s.heap.get? b=a0 o->s'.heap.get? b=a0 o:=λb hb o ho=>x.keep b o ho (λa ha e=>R.priv a ha (e▸h1 b hb)) (h2 b hb)
 induction h with
 |seq hv hi=>exact .seq (hv.step R x hF) (hi.at (k _ j5))
 |keys hb hi=>rw[<-x.aG _ hb]at hi;ext c9 hi o ho r;exact .keys (j7 hb x.n) (d0 o (k _ j5 _ ho) r)
 |text hi hl=>ext c9 hi o ho r;exact .text (d0 o (k _ j5 _ ho) r) hl
 |range hi=>exact .range (k _ j5 _ hi)
 |enum hb he hi hne=>rw[<-x.aG _ hb]at hi;ext1 hi o ho r;exact .enum (j7 hb x.n) (k _ j5 _ he) (d0 o (k _ (k8 _ j5) _ ho) r) hne
 |zip ha hb hz=>refine .zip (ha.step R x hF) (hb.step R x hF) ?_;let zz:=hz.zo;ext1 zz f1 zo;exact R9 hz.to λp q to=>⟨⟨f1,k _ (k8 _ j5) _ zo⟩,k _ j5 _ hz.ti,(Dw p q (k _ (k8 _ (k8 _ j5)) _ to)),hz.s1.at (k _ (k8 _ (k8 _ (k8 _ j5)))),hz.s2.at (k _ (by simp)),hz.TT,hz.ii,hz.l1,hz.l2⟩
theorem N5.items(R:i8 X c st s)(h:N5 X c st.n s.heap d T l)(g:st.items? d=a0 xs):∃f,y3 s.heap T l f/\Vs X.M c st.n s.heap xs f.toList:=by
 rcases h with⟨rfl,t,rfl,n⟩|⟨rfl,b,rfl,o,rfl⟩
 .let g:=C6 g;subst g;ext H9 n a f e i u j k;cases i;exact d0 f ⟨_,j,rfl,_,rfl⟩ k
 .refine M0 (R.list (d:=.ref b) (v:=.ref (c.κ b)) ⟨o,rfl⟩ g) λa f e i p j k q m=>?_;ext1 m r w;clear p j k;cases i;exact d0 f ⟨_,q,rfl,_,rfl⟩ r
theorem N5.of(R:i8 X c st s)(g:V X.M c st.n s.heap d v)(h:st.items? d=a0 xs):∃T l,v= .ref l/\N5 X c st.n s.heap d T l/\∃f,y3 s.heap T l f/\Vs X.M c st.n s.heap xs f.toList:=by
 refine FO (R.items g h) ?_;rintro a f e rfl i m;clear h;rcases m with⟨j,k,rfl⟩|⟨b,rfl,n,rfl,j,k,o⟩
 .exact⟨a8,a,rfl,.inl ⟨rfl,xs,rfl,g⟩,f,⟨_,j,rfl,_,rfl⟩,i⟩
 .exact⟨c8,_,rfl,.inr ⟨rfl,b,rfl,n,rfl⟩,f,⟨_,k,rfl,_,rfl⟩,i⟩
end
section
variable{prog:y9}{X:Fx}{A:B7}{E:qVS}{c:Cx}{st:St}{s:f8}{fp:a7 i7}{it:It}{I:i7}
theorem aE{Q:j0 b8->f8->Prop}(hi:M5 s.heap T i l k)(b:y3 s.heap T l xs)(c:xs[k]?=a0 x)
 (d:∀a,M5 a T i l (k+1)->Ah i s.heap a->Q (a0 x) {s with heap:=a}):b9 (d7 prog X.w) A (Gv (.ref i)) Q E s:=by
 cases T with
 |false=>exact Wc hi b c d
 |true=>exact lE hi b c d
theorem Zb{Q:j0 b8->f8->Prop}(a:A.handled=b4)(hi:M5 s.heap T i l k)(b:y3 s.heap T l xs)(c:xs[k]?=b4)
 (d:∀e,Mc i s.heap e->Q b4 {s with heap:=e}):b9 (d7 prog X.w) A (Gv (.ref i)) Q E s:=by
 cases T with
 |false=>exact pH a hi b c d
 |true=>exact wpAny_pyNext_tuple_end a hi b c d
theorem GY{base:l5}{n:a6}{h:l5}{a:a7 b0}{vs:l4 b8}(e:Vs base c n h a vs.toList){i:a6}(b:a[i]?=b4):vs[i]?=b4:=by let d:=Vs.length e;rw[A2]at d;rw[PD]at b;rw[l4.getElem?_eq_none_iff];exact fP d b
def Gz:a7 (b0×b0)->a7 Ag->a7 (SI×b8)
 |x::xs,e::es=>(y5 x.1,e.val)::Gz xs es
 |_,_=>[]
theorem oi:∀{xs:a7 (b0×b0)}{es:a7 Ag},t4 w base c n h xs es->(∀x∈xs,leaf x.1=a8)->Pairs (X0 prog w) es (Gz xs es):=by
 intro d
 induction d with
 |nil=>intro es e f;rw[show es=[] from e];exact .nil
 |cons x xs g=>intro f a b;ext C7 a e r q i l m j;subst q;exact .cons (Ff (b x j5) i) rfl (g j λy k=>b y (k8 _ k))
theorem Jd:∀{xs:a7 (b0×b0)}{es:a7 Ag},t4 w base c n h xs es->(Gz xs es).length=xs.length:=by
 intro d
 induction d with
 |nil=>intro es e;rw[show es=[] from e];rfl
 |cons x xs f=>intro b a;ext C7 a e r q b b b g;subst q;exact t0 a6.succ (f g)
theorem wX:∀{xs:a7 (b0×b0)}{es:a7 Ag},t4 w base c n h xs es->∀(i:a6)(x:b0×b0),xs[i]?=a0 x->∃v,(Gz xs es)[i]?=a0 (y5 x.1,v):=by
 intro f
 induction f with
 |nil=>intro es e i x a;simp at a
 |cons y xs g=>
  intro d b i x a;ext C7 b e r q d d d j;subst q;cases i with
  |zero=>simp only[UT,AA]at a;subst a;exact⟨e.val,rfl⟩
  |succ i=>exact g j i x a
theorem ox:∀{xs:a7 (b0×b0)}{es:a7 Ag},t4 w base c n h xs es->(Gz xs es).map (·.1)=xs.map λx=>y5 x.1:=by
 intro d
 induction d with
 |nil=>intro es e;rw[show es=[] from e];rfl
 |cons x xs f=>intro b a;ext C7 a e r q b b b g;subst q;exact t0 (_::·) (f g)
theorem fL(b:leaf d=a8)(a:Kr (y5 d) key=a8):V base c n h d key:=
 EV (P:=λd=>Kr (y5 d) key=a8->V base c n h d key) b (λi a=>d4 (EP a) λt e=>rwE e (V.int i t)) (λl a=>d4 (ES a) λt e=>rwE e (V.str l t)) a
theorem NJ(r:h.get? a=a0 (E5 es ep))(k:t4 w base c n h xs es.toList)(s:DK xs)(b:∀x∈xs,leaf x.1=a8):
 h.DictAt (X0 prog w) a (Gz xs es.toList) ep:=by
 refine⟨_,es,r,m0 rfl rfl rfl,rfl,?_,oi k b,?_⟩
 .intro e d;refine d4 (Array.mem_iff_getElem.mp d) λi m=>d4 m ?_;clear m;clear d;rintro o rfl;have f:i<xs.length:=by rw[<-(t4.len k)];simpa using o
  refine BU (t4.get k i xs[i] (by simp[f])) λt l u y v=>?_;let z:t=es[i]:=by rw[W6]at l;simpa[o]using l.symm
  clear l;subst z;have g:=b xs[i] (EN f);exact d0 (y5 xs[i].1) (Ff g u) (by rw[v,He g])
 .rw[ox k];unfold oA;rw[Y6];exact Gg (λp q j e=>by
   have z:=(Si (b _ p) (b _ q)).mp e;rw[((Km (b _ p) (b _ q)).mpr z)]at j;cases j.1) s
def sV(X:Fx)(c:Cx)(st:St)(I:i7)(fp:a7 i7)(r:j0 (b0×It))(r':j0 b8)(s':f8):Prop:=match r with
 |none=>r'=b4
 |some (d,it')=>∃u,r'=a0 u/\V X.M c st.n s'.heap d u/\Fz X c st.n s'.heap it' I fp u
theorem N5.fr(x:Fr fp s s')(a:∀b∈fp,c.P b)(h:N5 X c n s.heap d T l):N5 X c n s'.heap d T l:=by
 rcases h with⟨rfl,e,rfl,f⟩|h
 .exact .inl ⟨rfl,e,rfl,x.V a f⟩
 .exact .inr h
set_option tactic.hygienic true in
theorem NY(P:A.handled=b4)(R:i8 X c st s)(S:∀b∈fp,c.P b)(hI:Am X c st.n s.heap it I fp){r:j0 (b0×It)}(h:it.next st=a0 r){Q:j0 b8->f8->Prop}
 (w:∀r' s',Fr fp s s'->sV X c st I fp r r' s'->Q r' s'):b9 (d7 prog X.w) A (Gv (.ref I)) Q E s:=by
 induction hI with
 |seq hv B=>
  rename_i d k I T l;delta It.next at h;dsimp only at h;cases M:st.items? d with
  |none=>rw[M]at h;cases h
  |some xs=>
   rw[M]at h;simp only[Ax,AA]at h;refine c9 (hv.items R M) λitems L H=>?_;cases g:xs[k]? with
   |none=>rw[g]at h;subst h;refine W5 (Zb P B L (GY H g) λu n p=>w _ _ (Fr.ext n j5 p s.toks) rfl)
   |some y=>rw[g]at h;subst h;refine c9 (Vs_get? H g) λv U Y=>aE B L U λu f C=>?_;let F:=FrOf.set C j5;exact w _ _ F (v8 v rfl (F.V S Y) (.seq v (hv.fr F S) f))
 |keys G B=>
  rename_i b k m ep I;delta It.next at h;dsimp only at h;rw[g0 G]at h;cases hs:st.h b with
  |D es ep'=>
   rw[hs]at h;dsimp only at h;by_cases hc:es.length=m/\ep'=ep/\(es.all λe=>leaf e.1)=a8
   .rw[g0 hc]at h;ext t6 hc rfl rfl Z;rw[V6]at Z;let ho:=R.obj b G;rw[hs]at ho;ext BU ho ents ho n hd p;have hD:=NJ (prog:=prog) ho n hd Z;rw[<-Jd n]at B;injection h with h;cases g:es[k]? with|none=>rw[g]at h;subst h;refine W5 (wpAny_pyNext_dict_end P B hD ?_ λu hx' D=>w _ _ (Fr.ext hx' j5 D s.toks) rfl);rw[PD]at g ⊢;rw[Jd n];exact g|some y=>rw[g]at h;subst h;let zz:=wX n k y g;ext1 zz v hv;refine wpAny_pyNext_dict_item B hD hv λkey u hkey f C=>?_;rw[Jd n]at f;refine w _ _ (FrOf.set C (j5):Fr [I] s {s with heap:=u}) (v8 key rfl ?_ (.keys key G f));have hly:=Z y (p8 g);exact fL hly hkey
   .rw[j4 hc]at h;cases h
  |_=>rw[hs]at h;cases h
 |text B L=>
  rename_i x t k l I;delta It.next at h;dsimp only at h;let h:=C6 h;cases l with
  |nil=>simp only at h;subst h;refine W5 (wpAny_pyNext_ascii_end P B ?_ λu n p=>w _ _ (Fr.ext n j5 p s.toks) rfl);rw[<-W6];rw[Ql]at L;rw[PD];exact L
  |cons y l=>
   simp only at h;subst h;have M:x.cps[k]?=a0 y:=by rw[<-W6];let j:=t0 (λz=>z[0]?) L;simpa using j
   refine wpAny_pyNext_ascii_item B M λu f C=>w _ _ (Fr.same C j5 _:Fr [I] s {s with heap:=u,toks:=s.toks+1}) (v8 _ rfl (V.str [y] _) (.text _ f ?_));let j:=t0 (MH 1) L;simpa using j
 |range B=>
  rename_i i m I;delta It.next at h;dsimp only at h;let h:=C6 h;by_cases hm:i<m
  .rw[g0 hm]at h;subst h;refine wpAny_pyNext_range_item B (d3.sub_pos_of_lt hm) λu f C=>w _ _ (Fr.same C j5 _:Fr [I] s {s with heap:=u,toks:=s.toks+1}) (v8 _ rfl (V.int i _) (.range _ ?_));rw[(oF _ _ 1)]at f;exact f
  .rw[j4 hm]at h;subst h;exact W5 (wpAny_pyNext_range_end P B (d3.sub_nonpos_of_le (Int.not_lt.mp hm)) λu n p=>w _ _ (Fr.ext n j5 p s.toks) rfl)
 |enum G n B hne=>
  rename_i k b I J old;delta It.next at h;dsimp only at h;cases M:st.items? (.ref b)with
  |none=>rw[M]at h;cases h
  |some xs=>
   rw[M]at h;simp only[Ax,AA]at h;refine c9 (N5.items R (T:=false) (l:=c.κ b) (.inr ⟨rfl,b,rfl,G,rfl⟩) M) λitems L H=>?_;cases g:xs[k]? with
   |none=>rw[g]at h;subst h;exact W5 (wpAny_pyNext_enum_end P n B L (GY H g) λu hx' p=>w _ _ (Fr.ext hx' (k8 _ j5) p s.toks) rfl)
   |some y=>
    rw[g]at h;subst h;refine c9 (Vs_get? H g) λv U Y=>wpAny_pyNext_enum_item n B L U hne λu he' f ht' p K=>?_;let F:Fr [I,J] s {s with heap:=u,toks:=s.toks+1}:=⟨λq o w e=>by
     let j:q≠I/\q≠J:=by simpa using w
     exact K q o j.1 j.2 e,by rw[p];exact N8 _,rfl,rfl⟩
    refine w _ _ F (v8 _ rfl (V.B (Rc R) ht' ⟨_,_,rfl,V.int _ _,_,_,rfl,F.V S Y,rfl⟩) (.enum G he' f hne))
 |zip ha G p=>
  rename_i a b k I TI TO i1 i2 l1 l2 T1 T2;delta It.next at h;dsimp only at h;cases N:st.items? a with
  |none=>rw[N]at h;cases h
  |some xs=>
   cases hxb:st.items? b with
   |none=>rw[N,hxb]at h;cases h
   |some ys=>
    rw[N,hxb]at h;simp only[CM,Ax,AA]at h;refine c9 (ha.items R N) λia hla hva=>c9 (G.items R hxb) λib hlb hvb=>?_;have W:∀{s'},Fr (x9 I TO i1 i2) s s'->Fr (TI::x9 I TO i1 i2) s s':=λx=>x.z λb G=>k8 _ G;cases g:xs[k]? with
    |none=>rw[g]at h;simp only at h;subst h;refine W5 (GO p (SM (A:=A.in1) P p hla hlb (.inl (GY hva g)) λu e K n=>⟨(P9 e _ rfl n.choose_spec),λD=>w _ _ (W ⟨K,D,rfl,rfl⟩) rfl⟩))
    |some y=>
     cases O:ys[k]? with
     |none=>rw[g,O]at h;simp only at h;subst h;refine W5 (GO p (SM (A:=A.in1) P p hla hlb (.inr (GY hvb O)) λu e K n=>⟨(P9 e _ rfl n.choose_spec),λD=>w _ _ (W ⟨K,D,rfl,rfl⟩) rfl⟩))
     |some y2=>rw[g,O]at h;simp only at h;subst h;refine c9 (Vs_get? hva g) λv1 p1 p2=>c9 (Vs_get? hvb O) λv2 q1 q2=>GO p (aC (A:=A.in1) p hla hlb p1 q1 λu T D ht' hT F=>w _ _ (W F) (v8 _ rfl ?_ (.zip (ha.fr (W F) S) (G.fr (W F) S) D)));refine V.B (λq=>(Q0 hT (R.pold _ q).2).elim) ht' ⟨_,_,rfl,(W F).V S p2,_,_,rfl,(W F).V S q2,rfl⟩def ZU(it:It)(target:PySem.Expr):Prop:=(∃id pos,target= .Name id pos/\(match it with| .enum ..=>k6| .zip ..=>k6|_=>True))\/∃elts k pos,target= .Tuple elts k pos
theorem NM{Q:Ay->f8->Prop}(ho:s.heap.get? I=a0 o)
 (hc:∀n,o.cls= .type n->(["enumerate","zip","dict_itemiterator","dict_reverseitemiterator","odict_iterator","itertools.zip_longest","itertools.pairwise"].contains n)=c8)(hQ:Q () s):
 b9 (d7 prog X.w) A (VL (.Tuple elts x1 pos) (.ref I) u) Q E s:=by
 cases u<;>first|exact f6 hQ|skip
 refine b5 (Wy ho ?_);clear ho;cases o with
 |mk cls dict data slots=>
  cases cls with
  |type n=>cases data with|fields vs=>dsimp only;rw[hc n rfl,b7.false_and];exact f6 hQ|_=>exact f6 hQ
  |_=>exact f6 hQ
set_option tactic.hygienic true in
theorem ZS(hp:∀b∈fp,c.P b)(hO:Fz X c n s.heap it I fp u)(ht:ZU it target){Q:Ay->f8->Prop}(hq:∀s',Fr fp s s'->Am X c n s'.heap it I fp->Q () s'):
 b9 (d7 prog X.w) A (VL target (.ref I) u) Q E s:=by
 rcases ht with⟨id,pos,rfl,hne⟩|⟨elts,k,pos,rfl⟩
 .refine f6 (hq s (Fr.refl _ _) ?_)
  induction hO with
  |seq _ hv hi=>exact .seq hv hi
  |keys _ hb hi=>exact .keys hb hi
  |text _ hi hl=>exact .text hi hl
  |range _ hi=>exact .range hi
  |enum=>exact hne.elim
  |zip=>exact hne.elim
 .induction hO with
  |seq _ hv hi=>refine c9 hi.cls λo ho hc=>NM ho (λn hn=>?_) (hq s (Fr.refl _ _) (.seq hv hi));rcases hc with q|q<;>(rw[q]at hn;cases hn;decide)
  |keys _ hb hi=>exact y0 (id hi) λo ho hc w0=>NM ho (λn hn=>by rw[hc]at hn;cases hn;decide) (hq s (Fr.refl _ _) (.keys hb hi))
  |text _ hi hl=>exact y0 (id hi) λo ho hc w0=>NM ho (λn hn=>by rw[hc]at hn;cases hn;decide) (hq s (Fr.refl _ _) (.text hi hl))
  |range _ hi=>exact NM hi (λn hn=>by cases hn;decide) (hq s (Fr.refl _ _) (.range hi))
  |enum hb he hi hne=>exact wpAny_letOwnedTupleGo_enum he λh' he' hs'=>hq _ (FrOf.set hs' j5) (.enum hb he' (hi.extBut hs'.extBut (C8 hne)) hne)
  |zip ha hb hz=>
   rename_i a b k I TI TO i1 i2 l1 l2 T T1 T2;refine d4 hz.zo λf1 zo=>b5 (Wy zo ?_);refine(?_:b9 _ _ (if(["enumerate","zip","dict_itemiterator","dict_reverseitemiterator","odict_iterator","itertools.zip_longest","itertools.pairwise"].contains "zip"&&
    (#[G7 (T:a6),.bool f1,.bool c8,.ref TI,.ref TO])[0]?==a0 (G7 (T:a6)))=a8 then _ else _) Q E s)
   refine Fb (by simp) (Iv (Fj zo (M7 _) λh' zo' hs'=>?_));let F1:=FrOf.set hs' (k8 _ j5);exact R9 hz.to λp q to=>hq _ F1 (.zip (ha.fr F1 hp) (hb.fr F1 hp) ⟨⟨f1,zo'⟩,hs'.extBut _ _ (λe=>by clear hp hq zo' hs' F1;subst e;let d:=DA zo hz.ti;simp at d:TI≠I) hz.ti,(Dw p q (hs'.extBut _ _ (λe=>by clear hz hp hq zo' hs' F1;subst e;let d:=DA zo to;simp at d:TO≠I) to)),hz.s1.at λo e=>hs'.extBut _ _ (hz.s1.ne zo (by simp) (by simp)) e,hz.s2.at λo e=>hs'.extBut _ _ (hz.s2.ne zo (by simp) (by simp)) e,hz.TT,hz.ii,hz.l1,hz.l2⟩)
theorem N5.hide(x:Fr [] s s')(a:∀b∈fp,s.heap.objs.size<=b)(h:N5 X c n s.heap d T l):N5 X (c.hide fp) n s'.heap d T l:=by
 rcases h with⟨rfl,e,rfl,f⟩|h
 .exact .inl ⟨rfl,e,rfl,NH x a f⟩
 .exact .inr h
inductive GI (X:Fx) (c:Cx) (st:St) (s:f8) (it:It) (v:b8) (s':f8):Prop
 |mk (I:i7) (fp:a7 i7) (e:v= .ref I) (F:Fr [] s s') (n:∀b∈fp,s.heap.objs.size<=b/\b<s'.heap.objs.size) (h:Am X (c.hide fp) st.n s'.heap it I fp)theorem FP(o:V8)(t:a6):Fr [] s {s with heap:=s.heap.push o,toks:=t}:=⟨λa a a e=>A9 _ e,by rw[J6];exact N8 _,rfl,rfl⟩
theorem Jj(h:l5)(o:V8):∀b∈[h.objs.size],h.objs.size<=b/\b<(h.push o).objs.size:=by
 intro b c;let a:b=h.objs.size:=by simpa using c
 clear c;subst a;rw[J6];exact⟨l8 _,B8 _⟩theorem fW(hs:N5 X c st.n s.heap d T l)(e:y3 s.heap T l xs){Q:qVS}(f:∀v a,GI X c st s (.seq d 0) v a->Q v a):b9 (d7 prog X.w) A (DW (.ref l)) Q E s:=by refine NL e (f _ _ ⟨_,_,rfl,FP _ s.toks,Jj _ _,.seq (hs.hide (FP (ET T l) s.toks) λb g=>(Jj s.heap (ET T l) b g).1) Nh⟩)
theorem tc(R:i8 X c st s)(hv:V X.M c st.n s.heap d v)(h:BV d st=a0 it){Q:qVS}(hq:∀v s',GI X c st s it v s'->Q v s'):b9 (d7 prog X.w) A (DW v) Q E s:=by
 cases d with
 |str l=>refine k9 (V0 h) λhl h=>?_;cases h;ext d4 hv t rfl;refine wpAny_pyIter_ascii (by simpa[D0]using hl) (hq _ _ ⟨_,_,rfl,FP _ s.toks,Jj _ _,.text (k:=0) (v8 _ (A0 _ rfl) rfl rfl) (by simp[D0])⟩)
 |B ds=>cases(C6 h);refine n4 (N5.of R hv (xs:=ds) rfl) ?_;clear hv;rintro T l rfl hs rr;ext1 rr items hl w0;exact fW hs hl hq
 |ref a=>
  refine k9 (V0 h) λha h=>?_;cases hs:st.h a with
  |D es ep=>rw[hs]at h;refine k9 (V0 h) λhlf h=>?_;rw[V6]at hlf;cases h;let ho:=R.obj a ha;rw[hs]at ho;ext BU ho ents ho he hd hz;ext1 hv w0 rfl;refine wpAny_pyIter_dict (GK R ha) (NJ (prog:=prog) ho he hd hlf) (hq _ _ ⟨_,_,rfl,FP _ s.toks,Jj _ _,.keys ha (v8 _ (A0 _ rfl) rfl ?_)⟩);rw[Jd he];rfl
  |L xs=>rw[hs]at h;cases(C6 h);refine n4 (N5.of R hv (xs:=xs) (G6 ha (by rw[hs]))) ?_;clear hv;rintro T l rfl hsv rr;ext1 rr items hl w0;exact fW hsv hl hq
  |_=>rw[hs]at h;cases h
 |_=>cases h
set_option tactic.hygienic true in
theorem LH(hI:Am X c n s.heap it I fp){Q:qVS}(h:Q (.ref I) s):b9 (d7 prog X.w) A (DW (.ref I)) Q E s:=by
 induction hI with
 |seq hv hi=>
  rename_i T l;clear hv;cases T with
  |false=>exact wpAny_pyIter_listiter hi h
  |true=>exact wpAny_pyIter_tupleiter hi h
 |keys hb hi=>exact wpAny_pyIter_keyiter hi h
 |text hi hl=>exact wpAny_pyIter_striter_ascii hi h
 |range hi=>exact wpAny_pyIter_rangeiter hi h
 |enum hb he hi hne=>exact wpAny_pyIter_enum he h
 |zip ha hb hz=>rename_i a b k I TI TO i1 i2 l1 l2 T1 T2;let zz:=hz.zo;ext1 zz f1 zo;let hT:s.TypeIs (.ref I) "zip":=d0 _ zo rfl;refine VH hT nC (Aj nC hT F.entry_zip_iter ?_ (F.args_zip_iter_1 _));exact f6 ⟨_,rfl,"zip",_,hT,F.slot_zip_next.lookup,h⟩
theorem NW{n:d3}(h0:0<=n)(h1:n<=j8):kO 0 n 1=a8/\Vc 0 n 1=n:=by
 let e:Vc 0 n 1=n:=by refine G6 (by decide) ?_;rw[lG];split<;>(first|exact zF|exact(qH (Int.not_lt.mp ‹_›) h0).symm)
 refine⟨?_,e⟩;unfold kO;rw[e];let hb:(j8:d3)<2 ^ 63:=by decide
 simp only[zy,C4,C3,jO];refine⟨⟨⟨⟨by decide,cD h0 hb h1⟩,by decide⟩,cD h0 hb h1⟩,.inr (G6 (by decide) ?_)⟩;try with_reducible rfl
 simp only[C4,C3];exact rj h0 hb h1
theorem aV{Q:qVS}(b:∀r a,Fr [] s a->(∃t u v,Wd a.heap r 0 n 1 t u v)->Q (.ref r) a):b9 (d7 prog X.w) A (call (.type "range") [.int n t]) Q E s:=
 call_range_1 (b _ _ (FP _ _) ⟨_,_,_,A0 _ rfl⟩)theorem sM{n:d3}{r:i7}{t:Dj}(a:0<=n)(b:n<=j8)(e:Wd s.heap r 0 n 1 t u v){Q:qVS}(f:∀v d,GI X c st s (.range 0 n) v d->Q v d):b9 (d7 prog X.w) A (DW (.ref r)) Q E s:=by refine wpAny_pyIter_range e (NW a b).1 (f _ _ ⟨_,_,rfl,FP _ s.toks,Jj _ _,.range ?_⟩);rw[(NW a b).2,d3.sub_zero];exact A0 _ rfl
theorem bg(R:i8 X c st s)(j:V X.M c st.n s.heap d v)(h:st.list? d=a0 xs){Q:qVS}(n:∀v k,GI X c st s (.enum 0 d) v k->Q v k):
 b9 (d7 prog X.w) A (call (.type "enumerate") [v]) Q E s:=by
 refine M0 (R.list j h) ?_;clear j h;rintro a i e rfl p f rfl r g;ext1 g f f;refine call_enumerate_list ⟨_,r,rfl,_,rfl⟩ λx t u l w=>n _ _ ⟨_,[s.heap.objs.size+1,s.heap.objs.size],rfl,⟨λb o f q=>w b o q,by rw[l];exact G3 _ _,rfl,rfl⟩,?_,.enum p t u (K0 (B8 _))⟩;intro b m;simp only[K5,J7,X4]at m;rw[l];rcases m with rfl|rfl
 .exact⟨G3 _ _,B8 _⟩
 .exact⟨l8 _,Qm (by decide)⟩
theorem YM(R:i8 X c st s)(i:V X.M c st.n s.heap a va)(e:V X.M c st.n s.heap b vb)(n:st.items? a=a0 xs)(p:st.items? b=a0 ys){Q:qVS}
 (r:∀v j,GI X c st s (.zip a b 0) v j->Q v j):b9 (d7 prog X.w) A (call (.type "zip") [va,vb]) Q E s:=by
 refine n4 (N5.of R i n) ?_;clear i;rintro D F rfl t d;ext1 d u k f;refine n4 (N5.of R e p) ?_;clear e;rintro G H rfl w d;ext1 d x l f;refine xM k l λy z I J u x B m g C=>?_;let h:Fr [] s {s with heap:=y}:=⟨λb o f q=>m.2 b o q,m.1,rfl,rfl⟩;exact r _ _ ⟨z,_,rfl,h,λb e=>⟨g b e,C b e⟩,.zip (t.hide h g) (w.hide h g) B⟩
end
theorem dG{E:qVS}{Q:a7 b8->f8->Prop}(d:y3 s.heap T l items)(c:items.size<=Hr)
 (j:∀a,Ext s.heap a->Q items.toList {s with heap:=a}):b9 (d7 prog w) A (collect (.ref l)) Q E s:=by
 cases T with
 |false=>ext y0 d o e f b;ext d4 b n g;exact W5 (nH l (.inl rfl) e f g (λa h i=>j a ⟨i,h⟩) c)
 |true=>ext y0 d o e f b;ext d4 b n g;exact W5 (nH l (.inr rfl) e f g (λa h i=>j a ⟨i,h⟩) c)
open AutoSeq1 (wpAny_loadPart') in
theorem rG(l:i7)(o:V8)(items:l4 b8)(n:a6)(f:o.cls= .type "list")(q:o.data= .seq items n)(b:items.size<=Hr):
 LQ (Builtin.«tuple.__new__» ⟨[.type "tuple",.ref l],[]⟩)
  (λy R s=>s.heap.get? l=a0 o/\∀a:l5,Ext s.heap a->R (.ok (.ret (.ref a.objs.size))) {s with heap:=a.push {cls:=.type "tuple",data:=.seq items}}):=
 .of_wp λm w A R s h=>by
  obtain⟨i,g,d,j,k⟩:=s;let c:=h.1;let h:=h.2;let p:=sub_tuple_self;let e:=init_tuple_lookup;let x:=madeHere_tuple;let r:EL ⟨i,g,d,j,k⟩ (.ref l) "list":=d0 o c f;let t:y3 (VP ⟨i,g,d,j,k⟩) c8 l items:=⟨o,c,f,n,q⟩
  wp_walk using wpAny_loadPart' c,HI r,dG t b
  intro a u;refine(b5 (Fn ?_ (by refine(?_:items.toList.toArray.size<=Hr);simpa using b)):b9 _ _ (zt items.toList.toArray>>=λv=>ret v) _ _ _);refine f6 (d0 _ rfl ?_);rw[(by simp:items.toList.toArray=items)];exact h a u
section
variable{prog:y9}{X:Fx}{A:B7}{E:qVS}{c:Cx}{st:St}{s:f8}{F:i7->Prop}{Q:Q1}
theorem MZ(h:n<=j8+1):((n:a6):d3)<2 ^ 63:=by
 let a:((j8+1:a6):d3)<2 ^ 63:=by decide
 exact DT (Int.ofNat_le.mpr h) a
theorem qT(R:i8 X c st s)(i:V X.M c st.n s.heap d v)(k:st.list? d=a0 xs)(l:Q (.int xs.length) st):b9 (d7 prog X.w) A (call (.builtin "len") [v]) (j6 X c st s F Q) E s:=by refine M0 (R.list i k) ?_;clear i;rintro a h e j j j rfl m b;ext1 b g n;let f:=Vs.length g;rw[A2]at f;refine Calls.call_len_list ⟨_,m,rfl,_,rfl⟩ (by rw[f];exact MZ n) (j6.toks R ?_ l);rw[<-f];exact V.int _ _
theorem uI(R:i8 X c st s)(g:V X.M c st.n s.heap d v)(o:st.dict? d=a0 es)(h:Q (.int es.length) st):b9 (d7 prog X.w) A (call (.builtin "len") [v]) (j6 X c st s F Q) E s:=by refine M0 (R.dict g o) ?_;clear g;rintro a m e i p i rfl j b;ext1 b f i q;let k:=t4.len f;rw[A2]at k;have l:s.TypeIs (.ref (c.κ a)) "dict":=d0 _ j rfl;refine call_len_slot l iG (n:=(es.length:d3)) (λt r=>?_) (Int.not_lt.mpr (Jx _)) (Int.not_le.mpr (MZ q)) (j6.toks R (V.int _ _) h);refine Aj iG l b_ ?_ (L_ _);refine(b5 (GD j rfl (f6 ?_)):b9 _ _ (dictSize (c.κ a)>>=_) _ _ s);refine(b5 (wpAny_pendingCount_other (GK R p) ?_):b9 _ _ (xn (c.κ a)>>=_) _ _ s);refine nS ?_;rw[a6.add_zero,k];exact r
theorem vK(R:i8 X c st s)(b:V X.M c st.n s.heap d v)(h:o8 (match st.list? d with
 |some e=>a0 (.int e.length,st)
 |none=>(st.dict? d).map λf=>(.int f.length,st)) Q):b9 (d7 prog X.w) A (call (.builtin "len") [v]) (j6 X c st s F Q) E s:=by
 cases a:st.list? d with
 |some e=>rw[a]at h;exact qT R b a h
 |none=>rw[a]at h;exact c9 (Lq h) λf g h=>uI R b g h
theorem gk(R:i8 X c st s)(b:V X.M c st.n s.heap d v)(h:o8 (Xj d st) Q):b9 (d7 prog X.w) A (call (.builtin "len") [v]) (j6 X c st s F Q) E s:=by
 cases d with
 |B m=>let f:=An h;ext1 f k h;ext H9 b a j e rfl n l i;let g:=Vs.length i;rw[A2]at g;refine P.len_tuple l (Int.not_le.mpr (MZ (by rw[g];exact U4 k))) (j6.toks R ?_ h);rw[<-g];exact V.int _ _
 |_=>exact vK R b h
theorem ew(R:i8 X c st s)(a:V X.M c st.n s.heap d v)(h:o8 (Ej d λi=>if 0<=i/\i<=1000 then a0 (.str (II i.toNat),st)else b4) Q):b9 (d7 prog X.w) A (call (.type "str") [v]) (j6 X c st s F Q) E s:=by
 revert a;refine qf (P:=λd=>V X.M c st.n s.heap d v->_) h λi h a=>?_;ext d4 a t rfl;let f:=An h;ext1 f b h;refine P.str_of_int ?_ (j6.toks R (d:=.str (II i.toNat)) ⟨s.toks,?_⟩ h)
 .refine d4 (PU b.1) ?_;clear h;rintro n rfl;exact q5 (a6.log2_le_self n) (q5 (Int.ofNat_le.mp b.2) (by decide))
 .let e:(Gf i)=Gf i.toNat:=by refine d4 (PU b.1) ?_;clear b h;clear h;rintro n rfl;rfl
  refine(?_:b8.str (Cd (Gf i)) s.toks=_);rw[e,Qv];rfl
theorem rC(R:i8 X c st s)(h:Q (.int i) st):b9 (d7 prog X.w) A (call (.type "int") [.int i t]) (j6 X c st s F Q) E s:=
 call_int_int (j6.U R (V.int _ _) h)
theorem sR(R:i8 X c st s)(m:V X.M c st.n s.heap d v)(h:o8 ((st.items? d).map λn=>(.B n,st)) Q):b9 (d7 prog X.w) A (call (.type "tuple") [v]) (j6 X c st s F Q) E s:=by
 refine c9 (Lq h) λn o p=>FO (R.items m o) ?_;rintro a f e rfl g i;clear h o;rcases i with⟨j,x,rfl⟩|⟨b,rfl,y,rfl,z,j,r⟩
 .exact call_tuple_same ⟨_,j,rfl,_,rfl⟩ (j6.U R m p)
 .let t:=Vs.length g;rw[A2]at t;refine qA C_ (by decide) (w_ _) (zq _) (λl=>xu l _) zr
   (rG _ _ f e rfl rfl (by rw[t,O3];unfold j8 at r;exact b6 r (by decide))) ⟨j,λw i=>⟨(d0 _ (A0 _ rfl) rfl),?_⟩⟩
  let u:=i.trans (Ext.push w {cls:=.type "tuple",data:=.seq f});exact j6.ext R u rfl rfl (V.B (λq=>(Q0 i.1 (R.pold _ q).2).elim) (A0 _ rfl) (Z0 (λk k k k=>u.2 _ _) g)) p
end
section
variable{prog:y9}{w:O7}{A:B7}{R:Mu->f8->Prop}{base:l5}{c:Cx}{n:a6}
theorem qd{xs:a7 b0}{j:a6}{x:b0}{b:a7 b0}(h:xs.drop j=x::b):xs[j]?=a0 x/\xs.drop (j+1)=b:=by
 constructor
 .let a:=t0 (λl=>l[0]?) h;simpa using a
 .let a:=t0 (MH 1) h;simpa[Vy]using a
theorem zC(hu:A.units+8<t3)(hh:A.handled=b4){I l S:i7}{xs:a7 b0}{items:l4 b8}(ok:G9 xs)(hS:c.P S)(hI:c.P I)(X:l≠S)(Y:l≠I)(p:S≠I):∀(a:a7 b0)(j:a6)(m:b0)(g:b8)(s:f8)(e:a6),
 xs.drop j=a->m∈xs->M5 s.heap c8 I l j->y3 s.heap c8 l items->s.heap.get? S=a0 (AN #[g,g] e)->Vs base c n s.heap xs items.toList->V base c n s.heap m g->
 (∀v i,Fr [I,S] s i->V base c n i.heap (CB a m) v->R (.ok (.ret v)) i)->BI (d7 prog w) A (.builtin "min.loop" ⟨[.ref I,.none,.ref S],[]⟩) R s:=by
 let f:(Gf "min"++Gf ".loop")="min.loop":=by decide
 have k:∀b∈[I,S],c.P b:=by intro b B;simp only[K5,J7,X4]at B;rcases B with rfl|rfl<;>assumption
 intro a
 induction a with
 |nil=>intro j m g s e L O P M C D h N;refine Dg UR ?_;rw[DN Ho _];refine LB C rfl (b5 (MF (W5 (pH hh P M (GY D (by rw[Ql]at L;simpa using L:xs[j]?=b4)) λd he hz=>b5 (LV (he _ _ p C) rfl (IU (f6 ?_)))))));let y:=(Fr.ext he j5 hz s.toks:Fr [I,S] s {s with heap:=d}).trans (FrOf.set (s:={s with heap:=d}) (fp:=[I,S]) (Ba d S (AJ λw0=>#[])) (k8 _ j5));exact N g _ y (y.V k h)
 |cons x a ih=>
  intro j m g s e L O P M C D h N;let Q:=qd L;ext1 Q hx E;refine c9 (Vs_get? D hx) λv Z G=>?_;let H:x∈xs:=p8 hx;refine Dg UR ?_;rw[DN Ho _];refine LB C rfl (b5 (MF (Wc P M Z λd J r=>?_)));let z:Fr [I,S] s {s with heap:=d}:=FrOf.set r j5;let t:d.get? S=a0 (AN #[g,g] e):=r.extBut _ _ p C;have K:y3 d c8 l items:=M.at λo q=>r.extBut _ _ Y q;refine(b5 (MF (L0 (b5 (dO (s:={s with heap:=d}) (base:=base) (c:=c) (n:=n) 3 (gD hu rfl) (ok x H m O) (z.V k G) (z.V k h) ?_)))):b9 _ A.in1 (tryCatch (holding [v,v] (Pj .Lt v g>>=_)) _>>=_) _ _ _);refine CW (Go (IU (f6 ?_)));cases B:r9 x m with
  |true=>
   refine b5 (LV t rfl (IU ?_));let y:=z.trans (FrOf.set (s:={s with heap:=d}) (fp:=[I,S]) (Ba d S (AJ λw0=>#[v,v])) (k8 _ j5));rw[f];refine f6 ⟨Di Ho _,ih (j+1) x v _ _ E H ?_ ?_ (Hy _ t rfl) (y.Vs k D) (y.V k G) λU i W u=>N U i (y.trans W) ?_⟩
   .exact M5.at (T:=false) J λo q=>(Hw _ _ p).trans q
   .exact K.at λo q=>(Hw _ _ (C8 X)).trans q
   .rw[Xw,B];exact u
  |false=>refine IU ?_;rw[f];refine f6 ⟨Di Ho _,ih (j+1) m g {s with heap:=d} e E O J K t (z.Vs k D) (z.V k h) λU i W u=>N U i (z.trans W) ?_⟩;rw[Xw,B];exact u
end
section
variable{prog:y9}{X:Fx}{A:B7}{E:qVS}{c:Cx}{st:St}{s:f8}{G:i7->Prop}{Q:Q1}
theorem rb(hu:A.units+10<t3)(hh:A.handled=b4)(R:i8 X c st s)(hv:V X.M c st.n s.heap d v)(hx:st.list? d=a0 xs)(m:xs=x::r)(ok:B9 xs=a8)(hq:Q (CB r x) st):
 b9 (d7 prog X.w) A (call (.builtin "min") [v]) (j6 X c st s G Q) E s:=by
 let j:(Gf "min"++Gf ".loop")="min.loop":=by decide
 refine M0 (R.list hv hx) ?_;clear hv hx;rintro a f e rfl ha hs rfl O U;ext1 U Z hz;let C:c.κ a<s.heap.objs.size:=C2 O;refine call_function_tree F.kind_min F.plain_min F.entry_min (F.args_min1 _) (b5 (JY (show V' "min" ["key","default"] 0 ⟨[],[]⟩=pure [b4,b4] from rfl) (R8 (b5 (Mx ⟨_,O,rfl,_,rfl⟩ (b5 (Fn ?_)))))));rw[j]
 let I:_:=(s.heap.objs.size:i7)
 let w:_:=s.heap.push {cls:=.type "list_iterator",data:=.fields #[.ref (c.κ a),.int 0 0]}
 let S:_:=(w.objs.size:i7)
 let g:_:=w.push {cls:=.type "list",data:=.seq [].toArray}
 have L:Ext s.heap w:=Ext.push _ _;let y:Ext w g:=Ext.push _ _;have i:I<S:=by refine(?_:s.heap.objs.size<w.objs.size);rw[J6];exact B8 _
 have gI:g.get? I=a0 {cls:=.type "list_iterator",data:=.fields #[.ref (c.κ a),.int 0 0]}:=y.2 _ _ (A0 _ rfl);have W:g.get? S=a0 (AN #[] 0):=A0 _ rfl;refine(?_:b9 _ _ (again (.builtin "min.loop" ⟨[.ref I,.none,.ref S],[]⟩)) _ _ {s with heap:=g})
 let M:_:=(⟨c.κ,λb=>c.P b\/b=I\/b=S⟩:Cx)
 let nn:∀(h:l5),(∀o,h.get? I=a0 o->o.cls≠.type "tuple")->(∀o,h.get? S=a0 o->o.cls≠.type "tuple")->∀b f e,¬c.P b->h.get? b=a0 (x0 f e)->¬M.P b:=by
  intro h k1 k2 b f e l hg t;rcases t with t|rfl|rfl
  .exact l t
  .exact k1 _ hg rfl
  .exact k2 _ hg rfl
 have k:Vs X.M M st.n g xs f.toList:=Ll (nn g (λo q=>by rw[gI]at q;cases q;simp) (λo q=>by rw[W]at q;cases q;simp)) _ _ (Z0 (λu u u u q=>y.2 _ _ (L.2 _ _ q)) Z);have D:y3 g c8 (c.κ a) f:=⟨_,y.2 _ _ (L.2 _ _ O),rfl,_,rfl⟩;refine c9 (Vs_get? k (by rw[m];rfl:xs[0]?=a0 x)) λz p1 p2=>?_;let H:c.κ a≠I:=m6 C;let J:c.κ a≠S:=m6 (AH C i);let t:∀b∈[I,S],M.P b:=by
  intro b l;simp only[K5,J7,X4]at l;rcases l with rfl|rfl
  .exact .inr (.inl rfl)
  .exact .inr (.inr rfl)
 refine f6 ⟨Di Ho _,Dg UR ?_⟩;rw[DN Ho _];refine LB (s:={s with heap:=g}) W rfl (b5 (MF (Wc (s:={s with heap:=g}) (v8 _ gI rfl rfl) D p1 λB hi3 p=>?_)));let K:B.get? S=a0 (AN #[] 0):=p.extBut _ _ (K0 i) W;refine(b5 (LV (s:={s with heap:=B}) K rfl ?_):b9 _ A.in1 (updateSeq S (λu=>#[z,z])>>=_) _ _ _);let Y:=(FrOf.set (s:={s with heap:=g}) p (j5):Fr [I,S] {s with heap:=g} {s with heap:=B}).trans (FrOf.set (s:={s with heap:=B}) (fp:=[I,S]) (Ba B S (AJ λu=>#[z,z])) (k8 _ j5));rw[j];refine f6 ⟨Di Ho _,zC (base:=X.M) (c:=M) (n:=st.n) (by refine(?_:A.units+8<t3);exact gB hu rfl) hh (FN ok) (.inr (.inr rfl)) (.inr (.inl rfl)) J H (K0 i) r 1 x z _ _ (by rw[m];rfl) (by rw[m];simp) ?_ ?_ (Hy _ K rfl) (Y.Vs t k) (Y.V t p2) λv' s' F3 hv'=>?_⟩
 .exact M5.at (T:=false) hi3 λo q=>(Hw _ _ (K0 i)).trans q
 .exact(D.at λo q=>p.extBut _ _ H q).at λo q=>(Hw _ _ (C8 J)).trans q
 .have N:=Y.trans F3;let he:Ext s.heap s'.heap:=⟨b6 L.1 (b6 y.1 N.size),λb o q=>N.keep b o (by
   let l:b<s.heap.objs.size:=C2 q;simp only[K5,J7,X4,Mh];exact⟨m6 l,m6 (AH l i)⟩) (y.2 _ _ (L.2 _ _ q))⟩
  exact j6.ext R he N.gens N.os (tQ (P:=c.P) (λu h=>.inl h) _ _ hv') hq
theorem Yd:∀{xs:a7 b0}{vs:a7 b8}{l:a7 d3},Vs base c n h xs vs->ints? xs=a0 l->EM vs l:=by
 intro g
 induction g with
 |nil=>intro vs l e a;rw[show vs=[] from e];cases a;exact .nil
 |cons d xs j=>
  intro o l b a;ext n4 b v r e f k;subst e;cases d with
  |int i=>refine c9 (Option.map_eq_some_iff.mp a) ?_;clear a;rintro p m rfl;ext d4 f t rfl;exact .cons _ _ (j k m)
  |_=>cases a
theorem lh:∀{vs:a7 b8}{l:a7 d3},EM vs l->∀(i:a6)(v:b8),vs[i]?=a0 v->∃t,v=Vb (l.getD i 0) t:=by
 intro vs l h
 induction h with
 |nil=>exact λa a h=>by cases h
 |cons k t c b=>
  intro i v h;cases i with
  |zero=>exact⟨t,(C6 h).symm⟩
  |succ i=>exact b i v h
theorem FB{items:l4 b8}{l:a7 d3}(hi:EM items.toList l):∀(i:a6)(v:b8),items[i]?=a0 v->∃t,v=Vb (l.getD i 0) t:=λi v h=>lh hi i v (by rw[W6];exact h)theorem XC{items:l4 b8}{l:a7 d3}(hi:EM items.toList l)(A:B7):CmpOf prog X.w A .Gt (λi v=>items[i]?=a0 v) λi j=>decide (l.getD i 0>l.getD j 0):=by intro i j d e s Q E a b c;refine d4 (FB hi i _ a) ?_;clear a;rintro t rfl;refine d4 (FB hi j _ b) ?_;clear b;rintro u rfl;exact mZ c
theorem sY{items:l4 b8}{l:a7 d3}(hi:EM items.toList l)(A:B7):CmpOf prog X.w A .Lt (λi v=>items[i]?=a0 v) λi j=>decide (l.getD i 0<l.getD j 0):=by intro i j d e s Q E a b c;refine d4 (FB hi i _ a) ?_;clear a;rintro t rfl;refine d4 (FB hi j _ b) ?_;clear b;rintro u rfl;exact pL c
theorem yQ(l:a7 d3):∀k,l.getD (Mm (λi j=>decide (l.getD i 0>l.getD j 0)) k) 0=(p0 k).foldl (λm i=>max m (l.getD (i+1) 0)) (l.getD 0 0):=by
 intro a
 induction a with
 |zero=>exact rfl
 |succ k b=>
  rw[iA,a7.foldl_append,Pk,a7.foldl_nil,<-b];rw[Mm];split
  .rename_i h;rw[C3]at h;exact(VI (Gn h)).symm
  .rename_i h;rw[C3]at h;exact(Vj (Int.not_lt.mp h)).symm
theorem el(x:d3)(r:a7 d3):(p0 r.length).foldl (λm i=>max m ((x::r).getD (i+1) 0)) x=r.foldl max x:=by
 have a:∀(r:a7 d3)(x:d3),(p0 r.length).foldl (λm i=>max m (r.getD i 0)) x=r.foldl max x:=by
  intro r
  induction r with
  |nil=>intro x;rfl
  |cons y r b=>intro x;rw[N6,nF,Pk,a7.foldl_map,Pk,<-b];simp
 rw[<-a r x];simp
theorem bz{d:b0}{v:b8}(F:A.handled=b4)(R:i8 X c st s)(z:V X.M c st.n s.heap d v){xs:a7 b0}{x:d3}{r:a7 d3}(B:st.list? d=a0 xs)(hi:ints? xs=a0 (x::r))(H:Q (.int (r.foldl max x)) st):
 b9 (d7 prog X.w) A (call (.builtin "max") [v]) (j6 X c st s G Q) E s:=by
 refine M0 (R.list z B) ?_;clear z B;rintro a f e rfl K L rfl k l;ext1 l p M;have g:=Yd p hi;let m:=g.length;rw[A2]at m;let h:c.κ a<s.heap.objs.size:=C2 k;refine W5 (call_max_walkS (Mx ⟨_,k,rfl,_,rfl⟩ ⟨s.heap.objs.size,_,_,_,_,_,_,_,rfl,(VA (prog:=prog) (w:=X.w) (A:=A.in1) F s.heap.objs.size (c.κ a) (m6 h) f).toS,⟨(v8 _ (A0 _ rfl) rfl rfl),⟨_,A9 _ k,rfl,_,rfl⟩⟩,?_,?_,XC g _,?_⟩))
 .intro b C;simp only[K5,J7,X4]at C;rw[J6];rcases C with rfl|rfl
  .exact B8 _
  .exact BM h
 .rw[m];simp
 .intro N I D n u;refine d4 (FB g _ _ D) ?_;clear D;rintro t rfl;let J:Ext s.heap I.heap:=⟨u,λb o q=>n.heap b o (by
   simp only[K5,J7,X4];exact m6 (C2 q)) (A9 _ q)⟩
  let y:(x::r).getD (Mm (λi j=>decide ((x::r).getD i 0>(x::r).getD j 0)) (f.size - 1)) 0=r.foldl max x:=by rw[yQ,<-el,m,N6,a6.add_sub_cancel];rfl
  rw[y];exact j6.ext R J n.gens n.os (V.int _ _) H
theorem rI{d:b0}{v:b8}(F:A.handled=b4)(R:i8 X c st s)(z:V X.M c st.n s.heap d v){xs:a7 b0}{l:a7 d3}(B:st.list? d=a0 xs)(hi:ints? xs=a0 l)(H:Q (.int l.sum) st):
 b9 (d7 prog X.w) A (call (.builtin "sum") [v]) (j6 X c st s G Q) E s:=by
 refine M0 (R.list z B) ?_;clear z B;rintro a f e rfl L M rfl m n;ext1 n r N;have g:=Yd r hi;let C:=g.length;rw[A2]at C;let j:c.κ a<s.heap.objs.size:=C2 m;refine W5 (call_sum_walkAnyS (Mx ⟨_,m,rfl,_,rfl⟩ ⟨s.heap.objs.size,_,_,_,_,_,_,λi=>l.getD i 0,rfl,(VA (prog:=prog) (w:=X.w) (A:=A.in1) F s.heap.objs.size (c.κ a) (m6 j) f).toS,⟨(v8 _ (A0 _ rfl) rfl rfl),⟨_,A9 _ m,rfl,_,rfl⟩⟩,?_,λi v h=>FB g i v h,?_⟩))
 .intro b D;simp only[K5,J7,X4]at D;rw[J6];rcases D with rfl|rfl
  .exact B8 _
  .exact BM j
 .intro I t p u;let J:Ext s.heap I.heap:=⟨u,λb o q=>p.heap b o (by
   simp only[K5,J7,X4];exact m6 (C2 q)) (A9 _ q)⟩
  let x:VO (λi=>l.getD i 0) f.size=l.sum:=by
   let y:∀k,k<=l.length->VO (λi=>l.getD i 0) k=(l.take k).sum:=by
    intro k
    induction k with
    |zero=>intro O;rfl
    |succ k K=>intro P;rw[VO,K (m9 ‹_›),Af,UZ];simp[show k<l.length by assumption]
   rw[C,y _ (l8 _),X6]
  rw[x];exact j6.ext R J p.gens p.os (V.int _ _) H
end
section
variable{prog:y9}{X:Fx}{A:B7}{E:qVS}{c:Cx}{st:St}{s:f8}{G:i7->Prop}{Q:Q1}
theorem bR(R:i8 X c st s){a:d3}{t:Dj}{d:f8}{r:d3}(hs:∃o,d={s with heap:=(s.heap.push (x0 #[.int a t,.int b u] 0)).push o}){e:l5}{g:a6}{f:a7 i7}(h:∀b,b<s.heap.objs.size->b∉f)
 (i:∀b o,b∉f->d.heap.get? b=a0 o->e.get? b=a0 o)(hz:s.heap.objs.size<=e.objs.size)(v:Dj)(j:Q (.int r) st):j6 X c st s G Q (.int r v) {d with heap:=e,toks:=g}:=by
 ext d4 hs o rfl;exact j6.ext R (⟨hz,λb o q=>i b o (h b (C2 q)) (A9 _ (A9 _ q))⟩:Ext s.heap e) rfl rfl (V.int _ _) j
theorem xC{a:d3}{t:Dj}(l:A.handled=b4)(R:i8 X c st s)(m:Q (.int (min a b)) st):b9 (d7 prog X.w) A (call (.builtin "min") [.int a t,.int b u]) (j6 X c st s G Q) E s:=by
 let d:EM (#[.int a t,.int b u]).toList [a,b]:=.cons _ _ (.cons _ _ .nil);let e:=J6 ..;refine W5 (call_min_two (WD (⟨_,A0 _ rfl,rfl,_,rfl⟩:(s.heap.push (x0 #[.int a t,.int b u] 0)).IsTuple s.heap.objs.size #[.int a t,.int b u]) (Ze ((s.heap.push (x0 #[.int a t,.int b u] 0)).objs.size) _ _ _ _ _ _ rfl (lQ (prog:=prog) (w:=X.w) (A:=A.in1) l _ s.heap.objs.size (by rw[e];exact m6 (B8 _)) #[.int a t,.int b u]) ⟨(v8 _ (A0 _ rfl) rfl rfl),⟨_,A9 _ (A0 _ rfl),rfl,_,rfl⟩⟩ ?_ (WE _) (sY d _) ?_)))
 .intro b f;simp only[K5,J7,X4]at f;refine(?_:b<((s.heap.push (x0 #[.int a t,.int _ u] 0)).push _).objs.size);rw[J6,e];rcases f with rfl|rfl
  .rw[e];exact B8 _
  .exact BM (B8 _)
 .intro v q r n o g;refine d4 (FB d _ _ n) ?_;rintro p rfl;let k:[a,b].getD (Mm (λi j=>decide ([a,b].getD i 0<[a,b].getD j 0)) ((#[.int a t,.int b u]:l4 b8).size - 1)) 0=min a b:=by
   refine(?_:[a,b].getD (if decide (b<a)=a8 then 1 else 0) 0=_);split
   .rename_i h;rw[C3]at h;exact((jF (Gn h)).symm:b=_)
   .rename_i h;rw[C3]at h;exact((nL (Int.not_lt.mp h)).symm:a=_)
  rw[k];refine bR R (t:=t) (u:=u) (a:=a) (b:=b) ⟨_,rfl⟩ (λb f=>?_) o g p m;simp only[K5,J7,X4];rw[e];exact m6 (BM f)
theorem jq{a:d3}{t:Dj}(l:A.handled=b4)(R:i8 X c st s)(m:Q (.int (max a b)) st):b9 (d7 prog X.w) A (call (.builtin "max") [.int a t,.int b u]) (j6 X c st s G Q) E s:=by
 let d:EM (#[.int a t,.int b u]).toList [a,b]:=.cons _ _ (.cons _ _ .nil);let e:=J6 ..;refine W5 (call_max_two (WD (⟨_,A0 _ rfl,rfl,_,rfl⟩:(s.heap.push (x0 #[.int a t,.int b u] 0)).IsTuple s.heap.objs.size #[.int a t,.int b u]) (Ze ((s.heap.push (x0 #[.int a t,.int b u] 0)).objs.size) _ _ _ _ _ _ rfl (lQ (prog:=prog) (w:=X.w) (A:=A.in1) l _ s.heap.objs.size (by rw[e];exact m6 (B8 _)) #[.int a t,.int b u]) ⟨(v8 _ (A0 _ rfl) rfl rfl),⟨_,A9 _ (A0 _ rfl),rfl,_,rfl⟩⟩ ?_ (WE _) (XC d _) ?_)))
 .intro b f;simp only[K5,J7,X4]at f;refine(?_:b<((s.heap.push (x0 #[.int a t,.int _ u] 0)).push _).objs.size);rw[J6,e];rcases f with rfl|rfl
  .rw[e];exact B8 _
  .exact BM (B8 _)
 .intro v q r n o g;refine d4 (FB d _ _ n) ?_;rintro p rfl;let k:[a,b].getD (Mm (λi j=>decide ([a,b].getD i 0>[a,b].getD j 0)) ((#[.int a t,.int b u]:l4 b8).size - 1)) 0=max a b:=by
   refine(?_:[a,b].getD (if decide (b>a)=a8 then 1 else 0) 0=_);split
   .rename_i h;rw[C3]at h;exact((VI (Gn h)).symm:b=_)
   .rename_i h;rw[C3]at h;exact((Vj (Int.not_lt.mp h)).symm:a=_)
  rw[k];refine bR R (t:=t) (u:=u) (a:=a) (b:=b) ⟨_,rfl⟩ (λb f=>?_) o g p m;simp only[K5,J7,X4];rw[e];exact m6 (BM f)theorem ZL(xs:a7 b0):(y8 xs).length=xs.length:=(Y1 xs).length_eq
theorem WW(m:A.units+12<t3)(R:i8 X c st s)(j:B9 xs=a8)(o:Q (.ref st.n) (st.A (.L (y8 xs))))
 (p:b9 (d7 prog X.w) A.in1 (collect v) (λk b=>Vs X.M c st.n b.heap xs k/\Ext s.heap b.heap/\b.gens=s.gens/\b.os=s.os) E s):
 b9 (d7 prog X.w) A (call (.builtin "sorted") [v]) (j6 X c st s G Q) E s:=by
 refine Xc (base:=X.M) (c:=c) (n:=st.n) (gB m rfl) (v6 p ?_ λq q e=>e);rintro k b d;ext1 d r l t u;refine v8 xs j r λy a x e w h f i=>j6.new R (b6 l.1 w) (l.trans h) t u (J3.L f i ?_) o;rw[ZL];let g:=Ha j;unfold j8;exact m9 (j7 g (by decide))
theorem iv(k:A.units+12<t3)(R:i8 X c st s)(l:V X.M c st.n s.heap d v)(m:st.list? d=a0 xs)(n:B9 xs=a8)(o:Q (.ref st.n) (st.A (.L (y8 xs)))):
 b9 (d7 prog X.w) A (call (.builtin "sorted") [v]) (j6 X c st s G Q) E s:=by
 refine M0 (R.list l m) ?_;rintro a h e rfl q r rfl p f;ext1 f b t;let i:=Vs.length b;rw[A2]at i;refine WW k R n o (dG (T:=false) ⟨_,p,rfl,_,rfl⟩ (by rw[i,O3];exact p6) λu j=>M4 (Z0 (λg g g g=>j.2 _ _) b) j rfl rfl)
theorem ZW:∀{e:a7 b0}{vs:a7 b8},vs.length=e.length->(∀(i:a6)(d:b0)(v:b8),e[i]?=a0 d->vs[i]?=a0 v->V base c n h d v)->Vs base c n h e vs:=by
 intro g
 induction g with
 |nil=>
  intro a;cases a with
  |nil=>intro f f;exact rfl
  |cons _ _=>intro b f;simp at b
 |cons d e j=>
  intro a;cases a with
  |nil=>intro b f;simp at b
  |cons v vs=>intro b h;exact E9 v vs rfl (h 0 d v rfl rfl) (j (by simpa using b) λi d v k l=>h (i+1) d v (by simpa using k) (by simpa using l))
theorem vJ{n:d3}{r:i7}{t:Dj}(m:A.handled=b4)(R:i8 X c st s)(e:0<=n)(f:n<=j8)(a:Wd s.heap r 0 n 1 t u v)(o:Q (.ref st.n) (st.A (.L ((p0 n.toNat).map λ(i:a6)=>b0.int (Pm i))))):
 b9 (d7 prog X.w) A (call (.type "list") [.ref r]) (j6 X c st s G Q) E s:=by
 let j:=Int.toNat_le.mpr f;refine W5 (call_list_range m a (NW e f).1 (by rw[(NW e f).2];exact(Mr e).symm:Vc 0 n 1=(n.toNat:d3)) (by unfold j8 at j;exact p6) λB C y D p q l w=>j6.new R (l8 _) ⟨w,p⟩ rfl rfl (J3.L q ?_ ?_) o)
 .refine ZW ?_ λi d v b x=>?_
  .rw[A2,l.1,f7,Bw]
  .refine d4 (l.2 i v (by rw[<-W6];exact x)) ?_;rintro F rfl;rw[o7]at b;cases a:(p0 n.toNat)[i]? with|none=>rw[a]at b;cases b|some k=>rw[a]at b;simp only[Ax,AA]at b;let g:=FS a;ext1 g z h;rw[iQ]at h;clear a;subst h b;rw[(by simp:(0:d3)+(i:d3)*1=Pm i)];exact V.int _ _
 .rw[f7,Bw];exact U4 ‹_›
end
theorem ID(h:D2 a k=b4):Q5 a k d=a++[(k,d)]:=by
 unfold D2 at h
 induction a with
 |nil=>rfl
 |cons x a b=>rw[Mj]at h;rw[Ln,(h x j5)];simp only[Bv,Bz,a7.cons_append,d_,true_and];exact b (List.findIdx?_eq_none_iff.mpr λy c=>h y (k8 _ c))
theorem Nk:∀{xs:a7 (b0×b0)}{k d:b0}{i:a6},D2 xs k=a0 i->Q5 xs k d=xs.modify i λe=>(e.1,d):=by
 intro f
 induction f with
 |nil=>intro b b b h;simp[D2]at h
 |cons x xs g=>
  intro k d i h;unfold D2 at h;rw[JF]at h;rw[Ln];cases c:l3 x.1 k with
  |true=>rw[c]at h;simp only[DY,AA]at h;subst h;rfl
  |false=>
   rw[c]at h;simp only[Bv,Bz]at h ⊢;cases a:xs.findIdx? (λe=>l3 e.1 k)with
   |none=>rw[a]at h;cases h
   |some j=>rw[a]at h;simp only[Ax,AA]at h;subst h;rw[Qn,g (i:=j) a]
theorem eZ(xs:a7 (b0×b0))(k d:b0):(Q5 xs k d).length<=xs.length+1:=by
 cases h:D2 xs k with
 |none=>rw[ID h];simp
 |some i=>rw[Nk h];simp
theorem IM:(t5 xs k).isSome=(D2 xs k).isSome:=by unfold t5 D2;rw[MO,P2];simp[Vr]theorem YT(h:D2 xs k=a0 i):∃x,xs[i]?=a0 x/\t5 xs k=a0 x.2/\l3 x.1 k=a8:=by unfold D2 at h;refine c9 (List.findIdx?_eq_some_iff_getElem.mp h) λa b c=>?_;refine v8 (xs[i]) (by simp[a]) ?_ b;unfold t5;rw[(nR (p:=λe:b0×b0=>l3 e.1 k)).mpr ⟨b,i,a,rfl,λj d=>by simpa using c j d⟩];rfl
theorem t4.snoc:∀{xs:a7 (b0×b0)}{es:a7 Ag}{k d:b0}{b v:b8},t4 w base c n h xs es->V base c n h k b->V base c n h d v->t4 w base c n h (xs++[(k,d)]) (es++[⟨q8 w k,b,v⟩]):=by
 intro j
 induction j with
 |nil=>intro a a a a a e g i;rw[show _=[] from e];exact U9 _ [] rfl g i rfl rfl
 |cons _ _ l=>intro a a a a a f g i;ext C7 f e r q m o p s;subst q;exact U9 e (r++_) rfl m o p (l s g i)
theorem t4.mod:∀{xs:a7 (b0×b0)}{es:a7 Ag}{d:b0}{v:b8},t4 w base c n h xs es->V base c n h d v->∀i,t4 w base c n h (xs.modify i λe=>(e.1,d)) (es.modify i λe=>{e with val:=v}):=by
 intro o
 induction o with
 |nil=>intro b b b e b i;rw[show _=[] from e];simp only[a7.modify_nil];exact rfl
 |cons _ _ p=>
  intro b b b a l k;cases k with
  |zero=>ext C7 a e r q f m g j;subst q;exact U9 _ r rfl f l g j
  |succ i=>ext C7 a e r q f m g j;subst q;rw[Qn,Qn];exact U9 e _ rfl f m g (p j l i)
theorem t4.erase:∀{xs:a7 (b0×b0)}{es:a7 Ag},t4 w base c n h xs es->∀i,t4 w base c n h (xs.eraseIdx i) (es.eraseIdx i):=by
 intro k
 induction k with
 |nil=>intro l e i;rw[show _=[] from e];simp only[a7.eraseIdx_nil];exact rfl
 |cons _ _ m=>
  intro l a d;cases d with
  |zero=>ext C7 a e r q f g j b;subst q;exact b
  |succ i=>ext C7 a e r q f g j b;subst q;exact U9 e _ rfl f g j (m b i)
theorem dd(xs:a7 (b0×b0))(i:a6)(d:b0):(xs.modify i λe=>(e.1,d)).map (·.1)=xs.map (·.1):=by
 induction xs generalizing i with
 |nil=>simp
 |cons x xs a=>cases i with|zero=>rfl|succ i=>rw[Qn,y4,y4,a]theorem bF:DK xs↔(xs.map (·.1)).Pairwise λa b=>l3 a b=c8/\l3 b a=c8:=by unfold DK;rw[Y6]
theorem Sw(f:DK xs)(c:v7 xs k=a8):DK (Q5 xs k d):=by
 cases h:D2 xs k with
 |some i=>rw[Nk h,bF,dd];exact bF.mp f
 |none=>
  rw[ID h];unfold DK;rw[Qs];refine m0 f (Qf _ _) λa g b j=>?_;rw[o9]at j;subst j;unfold D2 at h;rw[Mj]at h;have e:=h a g;refine⟨e,?_⟩;simp only[v7,C4,ME,V6,Al]at c;let m:=c.2 a g;cases l:l3 k a.1 with
  |false=>rfl
  |true=>rw[<-(W7 l),(Tw (d:=k) c.1 rfl).mpr rfl]at e;cases e
theorem Uu:∀{xs:a7 (b0×b0)}{k:b0}{i:a6},D2 xs k=a0 i->Fk xs k=xs.eraseIdx i:=by
 intro c
 induction c with
 |nil=>intro d d h;simp[D2]at h
 |cons x xs f=>
  intro k i h;unfold D2 at h;rw[JF]at h;rw[gm];cases b:l3 x.1 k with
  |true=>rw[b]at h;simp only[DY,AA]at h;subst h;rfl
  |false=>
   rw[b]at h;simp only[Bv,Bz]at h ⊢;cases a:xs.findIdx? (λe=>l3 e.1 k)with
   |none=>rw[a]at h;cases h
   |some j=>rw[a]at h;simp only[Ax,AA]at h;subst h;rw[a7.eraseIdx_cons_succ,f (i:=j) a]
section
variable{X:Fx}{st:St}
def CY(X:Fx)(c:Cx)(st:St)(s:f8)(st':St)(s':f8):Prop:=i8 X c st' s'/\k7 c st s c st' s' y6
theorem Lf(R:i8 X c st s)(h:a<st.n)(j:s.heap.get? (c.κ a)=a0 x)(l:(f x).isFreed=c8)
 (m:∀d,Ah (c.κ a) s.heap d->d.get? (c.κ a)=a0 (f x)->J3 X c st.n d o (c.κ a)):CY X c st s (st.set a o) {s with heap:=s.heap.update (c.κ a) f,toks:=t}:=by
 let e:=Ba ..;let k:∀b x,s.heap.get? b=a0 x->b≠c.κ a->(s.heap.update (c.κ a) f).get? b=a0 x:=λb x n g=>e.extBut _ _ g n;let i:s.heap.objs.size<=(s.heap.update (c.κ a) f).objs.size:=by rw[e.1];exact l8 _
 exact⟨R.put h k i rfl rfl (m _ e (Hy _ j l)),k7.put h k i⟩
theorem IP(R:i8 X c st s)(g:a<st.n)(hs:Ah (c.κ a) s.heap h'):∀b d e,¬c.P b->s.heap.get? b=a0 (x0 d e)->h'.get? b=a0 (x0 d e):=
 λb d e h f=>hs.extBut _ _ (λq=>R.noTup g (q▸f)) f
def BC(es:a7 (b0×b0))(k d:b0)(ep:a6):AO:=.D (Q5 es k d) (if(t5 es k).isSome then ep else ep+1)theorem SR(a:v7 es k=a8):Q3 k≠0:=by exact bne_iff_ne.mp (o6 a)
theorem dM(C:A.units+12<t3)(R:i8 X c st s)(j:a<st.n)(hs:st.h a= .D es ep)(w:V X.M c st.n s.heap k key)(x:V X.M c st.n s.heap d v)
 (n:v7 es k=a8)(hz:es.length<=j8)(y:∀p,CY X c st s (st.set a (BC es k d ep)) p->(∀b o,b≠c.κ a->s.heap.get? b=a0 o->p.heap.get? b=a0 o)->Q () p):b9 (d7 prog X.w) A (mT (c.κ a) key (q8 X.w k) v) Q E s:=by
 let f:=R.obj a j;rw[hs]at f;ext BU f B f l r F;let z:=t4.len l;rw[A2]at z;refine L0 (b5 (Ol (gB C rfl) f l r n w ?_));let g:=eZ es k d;cases m:D2 es k with
 |some i=>refine b5 (EK (b5 (wpAny_updateDict f rfl ?_ (by simp))));refine jA (y _ ?_ λb o t q=>(Ba ..).extBut b o t q);refine Lf R j f rfl λD h u=>?_;unfold BC;rw[(by rw[IM,m];rfl:(t5 es k).isSome=a8),g0 rfl];refine J3.D (e:=ep) u ?_ (Sw r n) (No g hz);rw[Nk m,l4.toList_modify];exact t4.ext (IP R j h) (t4.mod l x i)
 |none=>refine b5 (EK (UY f rfl ?_ (by rw[z,O3];unfold j8 at hz;exact p6) (by simp)));refine y _ (Lf R j f rfl λD h u=>?_) λb o t q=>(Ba ..).extBut b o t q;unfold BC;rw[(by rw[IM,m];rfl:(t5 es k).isSome=c8)];refine J3.D (e:=ep+1) u ?_ (Sw r n) (No g hz);rw[ID m,Js];exact t4.ext (IP R j h) (t4.snoc l w x)
theorem eY(g:A.units+12<t3)(R:i8 X c st s)(l:a<st.n)(hs:st.h a= .D es ep)(h:V X.M c st.n s.heap k key)(m:V X.M c st.n s.heap d v)
 (i:v7 es k=a8)(hz:es.length<=j8)(n:∀e,CY X c st s (st.set a (BC es k d ep)) e->(∀b o,b≠c.κ a->s.heap.get? b=a0 o->e.heap.get? b=a0 o)->Q () e):b9 (d7 prog X.w) A (Vx (c.κ a) key v) Q E s:=by
 exact L0 (b5 (Lg 3 (gB g rfl) (On (SR i)) h λt=>dM (s:={s with toks:=t}) g (R.ext (Ext.refl _) rfl rfl) l hs h m i hz λe j f=>n e ⟨j.1,(k7.ext (s:=s) (s':={s with toks:=t}) (F:=y6) (Ext.refl s.heap)).trans j.2⟩ f))
theorem bq(f:A.units+12<t3)(R:i8 X c st s)(g:c.κ a=D)(h:a<st.n)(hs:st.h a= .D es ep)(i:V X.M c st.n s.heap k key)(j:V X.M c st.n s.heap d v)
 (l:v7 es k=a8)(hz:es.length<=j8)(m:∀e,CY X c st s (st.set a (BC es k d ep)) e->(∀b o,b≠D->s.heap.get? b=a0 o->e.heap.get? b=a0 o)->Q () e):b9 (d7 prog X.w) A (mT D key (q8 X.w k) v) Q E s:=by
 subst g;exact dM f R h hs i j l hz m
theorem Tf(f:A.units+12<t3)(R:i8 X c st s)(g:c.κ a=D)(h:a<st.n)(hs:st.h a= .D es ep)(i:V X.M c st.n s.heap k key)(j:V X.M c st.n s.heap d v)
 (l:v7 es k=a8)(hz:es.length<=j8)(m:∀e,CY X c st s (st.set a (BC es k d ep)) e->(∀b o,b≠D->s.heap.get? b=a0 o->e.heap.get? b=a0 o)->Q () e):b9 (d7 prog X.w) A (Vx D key v) Q E s:=by
 subst g;exact eY f R h hs i j l hz m
end
section
variable{prog:y9}{X:Fx}{st:St}
theorem j6.put(x:CY X c st s st' s')(a:V X.M c st'.n s'.heap d v)(b:Q d st'):j6 X c st s G Q v s':=
 ⟨d,st',c,b,x.1,a,x.2.z λe h=>h.elim⟩
theorem OI(R:i8 X c st s)(d:a<st.n)(g:s.heap.get? (c.κ a)=a0 (AN items e))(h:Vs X.M c st.n s.heap ys (f items).toList)(hz:ys.length<=j8+1):
 CY X c st s (st.set a (.L ys)) {s with heap:=s.heap.update (c.κ a) (AJ f),toks:=t}:=
 Lf R d g rfl λj b i=>J3.L (items:=f items) (e:=if(f items).size==items.size then e else e+1) i (Z0 (IP R d b) h) hz
theorem ul{Q:Ay->f8->Prop}(b:s.heap.get? l=a0 (AN items e))(c:0<=k)(a:k<2 ^ 63)(g:k.toNat<items.size)
 (d:Q () {s with heap:=s.heap.update l (AJ (·.setIfInBounds k.toNat v))}):b9 (d7 prog X.w) A (Po (.ref l) (.int k t) v) Q E s:=by
 let f:s.TypeIs (.ref l) "list":=d0 _ b rfl;unfold Po
 try with_reducible refine L0 ?_
 first|refine b5 (f6 ?_)|skip
 refine b5 (Wn f (by decide) (b5 (HS (name:=Cd "__setitem__") f pD (Aj pD f entry_list_setitem ?_ (args_list_setitem _ _ _)))));refine(b5 (wpAny_listSubscript_int (fitsIndex_of c a) ?_):b9 _ _ (yv (.int k t)>>=_) _ _ s);clear a;refine d4 (PU c) ?_;clear c;rintro j rfl;simp only[Q7]at g d;refine b5 (b5 (wpAny_seqItemAt b rfl (f6 ?_)));rw[Ea g];refine b5 (wpAny_setSeqItemAt b rfl ?_)
 first
  |exact b5 (f6 (f6 (d0 (.none) rfl (f6 d))))
  |exact f6 ⟨.none,rfl,f6 d⟩
theorem bf:∀{i:a7 b0}{vs:a7 b8}{d:b0}{v:b8},Vs base c n h i vs->V base c n h d v->∀j,Vs base c n h (i.set j d) (vs.set j v):=by
 intro l
 induction l with
 |nil=>intro b b b e b b;rw[show _=[] from e];simp only[a7.set_nil];exact rfl
 |cons _ _ m=>
  intro b b b a k g;cases g with
  |zero=>ext n4 a u r e b f;subst e;exact E9 _ r rfl k f
  |succ j=>ext n4 a u r e o f;subst e;exact E9 u _ rfl o (m f k j)
set_option tactic.hygienic true in
theorem ss{Q:Ay->f8->Prop}(C:A.units+14<t3)(R:i8 X c st s)(p:V X.M c st.n s.heap d vd)(hi:V X.M c st.n s.heap i vi)(r:V X.M c st.n s.heap v vv)(h:setItem st d i v=a0 st')
 (u:∀l,CY X c st s st' l->Q () l):b9 (d7 prog X.w) A (Po vd vi vv) Q E s:=by
 unfold setItem at h;split at h
 .rename_i a;split at h
  .rename_i m;ext1 p w rfl;split at h
   .rename_i x n;split at h
    .rename_i k;split at h
     .rename_i g;injection h with h;subst h;ext d4 hi t rfl;let b:=R.obj a m;rw[n]at b;ext n4 b q e b j y;let z:=Vs.length j;rw[A2]at z;refine ul b g.1 (Vn ((Qq g.1).mp g.2) (MZ y)) (z▸g.2) (u _ (OI R m b (f:=λx=>x.setIfInBounds k.toNat vv) (t:=s.toks) ?_ ?_))
      .rw[l4.toList_setIfInBounds];exact bf j r _
      .rw[Pn];exact y
     .cases h
    .cases h
   .rename_i F G n;split at h
    .rename_i g;injection h with h;subst h;let b:=R.obj a m;rw[n]at b;ext c9 b B b w;let o:s.TypeIs (.ref (c.κ a)) "dict":=d0 _ b rfl;unfold Po
     try with_reducible refine L0 ?_
     first|refine b5 (f6 ?_)|skip
     refine b5 (Wn o (by decide) ?_);refine b5 (HS (name:=Cd "__setitem__") o hU
      (Aj hU o entry_dict_setitem ?_ (args_dict_setitem _ _ _)))
     refine b5 (WO o ((?_:b9 _ _ (Vx (c.κ a) vi vv>>=_) _ _ s)));exact b5 (eY (gD C rfl) R m n hi r g.1 g.2 λl D w=>f6 (d0 (.none) rfl (f6 (u l D))))
    .cases h
   .cases h
  .cases h
 .cases h
theorem ea{base:l5}{n:a6}{h:l5}{xs:a7 b0}{items:l4 b8}(b:Vs base c n h xs items.toList){x:b0}(i:xs.getLast?=a0 x):
 ∃v,items[items.size - 1]?=a0 v/\V base c n h x v/\Vs base c n h xs.dropLast (items.eraseIdxIfInBounds (items.size - 1)).toList:=by
 let d:=Vs.length b;rw[A2]at d;rw[a7.getLast?_eq_getElem?]at i;refine c9 (Vs_get? b i) λv f j=>?_;rw[<-d]at f;refine v8 v f j ?_;let g:=Ks f;let e:(items.eraseIdxIfInBounds (items.size - 1)).toList=items.toList.take (items.size - 1):=by
  clear b d f g;obtain⟨l⟩:=items;simp only[iM];let a:l.length - 1=l.length - 1:=rfl;refine(?_:l.eraseIdx (l.length - 1)=l.take (l.length - 1));rw[a7.eraseIdx_eq_take_drop_succ];let a:l.drop (l.length - 1+1)=[]:=by rw[Ql];exact a6.le_succ_of_pred_le (l8 _)
  rw[a,Y5]
 rw[e,a7.dropLast_eq_take,<-d];exact Us b _
theorem qn{a:a6}{m:j3}{q:a7 b0}{vs:a7 b8}(R:i8 X c st s)(u:a<st.n){xs:a7 b0}(hs:st.h a= .L xs)(l:Vs X.M c st.n s.heap q vs)(h:o8 (FL m a xs q st) Q):
 b9 (d7 prog X.w) A (call (.builtin ("list."++m)) (.ref (c.κ a)::vs)) (j6 X c st s G Q) E s:=by
 let j:=R.obj a u;rw[hs]at j;ext n4 j g e j B F;have C:=Vs.length B;rw[A2]at C;have o:g.size<=Hr:=by rw[C,O3];unfold j8 at F;exact b6 F (by decide)
 have H:s.TypeIs (.ref (c.κ a)) "list":=d0 _ j rfl;cases q with
 |nil=>rw[show vs=[] from l];let i:=An h;ext1 i w h;refine c9 (Lq h) λx D h=>?_;rw[w];exact y0 (ea B D) λv M N O=>Pl lX H yk (za _) (Y' (c.κ a) g e v M o) ⟨j,j6.put (OI R u j (f:=λxs=>xs.eraseIdxIfInBounds (g.size - 1)) O (by rw[oU];exact Hz (U4 F)) (t:=s.toks)) (Cb (IP R u (Ba ..)) N) h⟩
 |cons x q=>
  cases q with
  |cons y q=>exact h.elim
  |nil=>
   obtain⟨v,k,rfl⟩:∃v,∃_:V X.M c st.n s.heap x v,vs=[v]:=by ext n4 l v r rfl k P;exact⟨v,k,by rw[show r=[] from P]⟩
   rcases Zw h with⟨w,h⟩|h
   .rw[w];let i:=An h;ext1 i n h;exact Pl kW H a_ (M_ _ _) (xy (c.κ a) g e v o) ⟨j,j6.put (d:=.none) (OI R u j (f:=λxs=>xs.push v) (ys:=xs++[x]) (by rw[Js];exact Tt B k) (by simp;exact n) (t:=s.toks)) rfl h⟩
   .let i:=An h;ext1 i w h;refine c9 (CZ h) λS D I=>?_;let i:=An I;ext1 i n I;rw[w];clear l h;refine M0 (R.list k D) ?_;clear k h D;rintro b L T rfl W U rfl K J;ext1 J z Y;let p:=Vs.length z;rw[A2]at p;refine Pl pT H yt (O_ _ _) (o_ (c.κ a) g e (c.κ b) L T ?_ o ?_) (m0 j K (j6.put (d:=.none) (OI R u j (f:=λxs=>xs++L) (ys:=xs++S) (by rw[UN];exact RC B z) (by rw[u7];exact U4 n) (t:=s.toks)) rfl I))
    .simp only[D_,C4,C3,not_and];intro U;rw[C,p,O3];unfold j8 at n;exact Nat.not_lt.mpr (b6 n (by decide))
    .rw[C,p,O3];unfold j8 at n;exact b6 n (by decide)
end
section
variable{prog:y9}{X:Fx}{st:St}{G:i7->Prop}{Q:Q1}
theorem ko(H:A.units+14<t3)(R:i8 X c st s)(I:a<st.n)(j:s.heap.get? (c.κ a)=a0 (E5 ents e0))(n:t4 X.w X.M c st.n s.heap es ents.toList)(J:DK es)(hz:es.length<=j8+1)
 (K:V X.M c st.n s.heap k key)(L:v7 es k=a8)(M:t5 es k=a0 x)(z:st'=st.set a (.D (Fk es k) (e0+1)))(T:Q x st'):
 b9 (d7 prog X.w) A (call (.builtin ("dict."++"pop")) [.ref (c.κ a),key]) (j6 X c st s G Q) E s:=by
 let v:=t4.len n;rw[A2]at v;let N:s.TypeIs (.ref (c.κ a)) "dict":=d0 _ j rfl;obtain⟨i,o⟩:∃i,D2 es k=a0 i:=Option.isSome_iff_exists.mp (by rw[<-IM,M];rfl);refine y0 (YT o) λy B C f=>BU (t4.get n i y B) λw u Y U Z=>?_;rw[W6]at u;let g:b9 (d7 prog X.w) A.in1 (Z' (c.κ a) key) (λr d=>r=a0 w/\CY X c st s st' d) (λf f=>k6) s:=by
  refine L0 (b5 (Lg 3 (gD H rfl) (On (SR L)) K λt=>b5 (Ol (s:={s with toks:=t}) (gD H rfl) j n J L K ?_)));rw[o];refine GD (s:={s with toks:=t}) j rfl ?_;rw[u];have O:(ents.eraseIdxIfInBounds i).toList=ents.toList.eraseIdx i:=by clear j n v u;obtain⟨l⟩:=ents;simp only[iM]
  refine b5 (UY (s:={s with toks:=t}) j rfl (f6 ⟨rfl,?_⟩) (by rw[v,O3];exact p6) ?_)
  .rw[z];refine Lf R I j rfl λh' D F=>J3.D (e:=e0+1) F ?_ ?_ ?_
   .rw[Uu o,O];exact t4.ext (IP R I D) (t4.erase n i)
   .rw[Uu o];exact yj (a7.eraseIdx_sublist ..) J
   .rw[Uu o];exact b6 (nM ..) hz
  .let h:=nM ents.toList i;rw[<-O,A2,A2]at h;exact U4 h
 let q:∀d,CY X c st s st' d->j6 X c st s G Q w.val d:=λd p=>j6.put p (by rw[(C6 (M.symm.trans C))];exact p.2.V R (λb W=>W.elim) U) T;refine Aj iN N M' ?_ (zn _ _);refine b5 (m:=VE "pop" _) (NK N (R8 (R8 (R8 (f6 ?_)))));dsimp only;split
 .refine R8 (b5 (v6 g ?_ λf f e=>e.elim));rintro f d P;ext k9 P rfl p;simp only[mO,Bv,Bz];exact IU (f6 (d0 _ rfl (q d p)))
 .refine GD j rfl (R8 ?_);rw[(Array.isEmpty_eq_false_iff_exists_mem.mpr ⟨w,MJ u⟩)];refine b5 (v6 g ?_ λf f e=>e.elim);rintro f d S;ext k9 S rfl p;simp only[mO,Bv,Bz];exact IU (f6 (d0 _ rfl (q d p)))
theorem ac(i:A.units+14<t3)(R:i8 X c st s)(j:a<st.n)(e:s.heap.get? (c.κ a)=a0 (E5 ents e0))(l:t4 X.w X.M c st.n s.heap es ents.toList)(n:DK es)
 (o:V X.M c st.n s.heap k key)(b:V X.M c st.n s.heap v dv)(p:v7 es k=a8)(h:Q ((t5 es k).getD v) st):
 b9 (d7 prog X.w) A (call (.builtin ("dict."++"get")) [.ref (c.κ a),key,dv]) (j6 X c st s G Q) E s:=by
 let f:s.TypeIs (.ref (c.κ a)) "dict":=d0 _ e rfl;refine Aj iK f P_ ?_ (k_ _ _ _);refine b5 (m:=VE "get" _) (NK f (R8 (R8 (R8 (f6 (b5 (Sm (gD i rfl) e l n p o λt=>?_)))))));cases g:t5 es k with
 |some x=>rw[g]at h;exact λq d=>f6 (d0 _ rfl (j6.toks R d h))
 |none=>rw[g]at h;exact b5 (wpAny_missed_other (GK R j) (f6 (d0 _ rfl (j6.toks R b h))))
theorem qw(D:A.units+14<t3)(R:i8 X c st s)(o:a<st.n)(f:s.heap.get? (c.κ a)=a0 (E5 ents e0))(n:t4 X.w X.M c st.n s.heap es ents.toList)(F:DK es)
 (q:V X.M c st.n s.heap k key)(g:V X.M c st.n s.heap v dv)(r:v7 es k=a8)(w:es.length<=j8)(h:o8 (a0 (match t5 es k with
  |some u=>(u,st)
  |none=>(v,st.set a (.D (es++[(k,v)]) (e0+1))))) Q):
 b9 (d7 prog X.w) A (call (.builtin ("dict."++"setdefault")) [.ref (c.κ a),key,dv]) (j6 X c st s G Q) E s:=by
 let H:=t4.len n;rw[A2]at H;let I:s.TypeIs (.ref (c.κ a)) "dict":=d0 _ f rfl;refine Aj oQ I xg ?_ (xi _ _ _);refine b5 (m:=VE "setdefault" _) (NK I (R8 (R8 (R8 (f6 (Y3 (by rw[GK R o];exact Cc) (b5 (L0 (b5 (Lg 3 (gD D rfl) (On (SR r)) q λt=>b5 (Ol (s:={s with toks:=t}) (gD D rfl) f n F r q ?_)))))))))));cases x:D2 es k with
 |some i=>let d:=YT x;ext1 d y j l K;rw[l]at h;let d:=t4.get n i y j;ext1 d N z L J M;rw[W6]at z;refine GD (s:={s with toks:=t}) f rfl ?_;rw[z];exact Iv (f6 (f6 (d0 _ rfl (j6.toks R J h))))
 |none=>
  rw[(Option.isNone_iff_eq_none.mp (by rw[<-j0.not_isSome,(IM (xs:=es) (k:=k)),x];rfl):t5 es k=b4)]at h;refine Iv (b5 (UY (s:={s with toks:=t}) f rfl (f6 (f6 (d0 _ rfl ?_))) (by rw[H,O3];exact p6) (by simp)));let p:CY X c st s (st.set a (.D (es++[(k,v)]) (e0+1))) {s with heap:=s.heap.update (c.κ a) (V8.mapDictKeys (·.push ⟨q8 X.w k,key,dv⟩)),toks:=t}:=
   Lf R o f rfl λO B C=>J3.D (e:=e0+1) C (by rw[Js];exact t4.ext (IP R o B) (t4.snoc n q g)) (by rw[<-ID x];exact Sw F r) (by rw[u7];exact U6 w)
  exact j6.put p (p.2.V R (λb w=>w.elim) g) h
theorem ue(p:A.units+14<t3)(R:i8 X c st s)(n:a<st.n)(hs:st.h a= .D es ep)(d:Vs X.M c st.n s.heap q vs)(h:o8 (Fg m a es ep q st) Q):
 b9 (d7 prog X.w) A (call (.builtin ("dict."++m)) (.ref (c.κ a)::vs)) (j6 X c st s G Q) E s:=by
 let e:=R.obj a n;rw[hs]at e;ext BU e C e t u D;revert d;refine aQ (P:=λq=>Vs X.M c st.n s.heap q vs->_) h (λk h d=>?_) λk v h d=>?_
 .let b:=An h;obtain⟨i,g⟩:=b.1;let h:=b.2;clear b;let b:=Lq h;ext1 b x z h;ext n4 d y r f o w;rw[i,f,show r=[] from w];exact ko p R n e t u D o g z rfl h
 .ext n4 d y r f o B;ext n4 B H F l j w;rw[f,l,show F=[] from w];rcases Zw h with⟨i,h⟩|h
  .let b:=An h;ext1 b g h;rw[i];exact ac p R n e t u o j g h
  .let b:=An h;ext1 b i h;let b:=An h;ext1 b g h;rw[i];exact qw p R n e t u o j g.1 g.2 h
theorem gf:∀n:a6,n<127->33<=n->PH n=c8:=by decide+kernel
theorem mv(R:i8 X c st s)(f:Vs X.M c st.n s.heap ds vs)(h:o8 (aA m l ds st) Q):
 b9 (d7 prog X.w) A (call (.builtin ("str."++m)) (.str (D0 l) t::vs)) (j6 X c st s G Q) E s:=by
 cases l with
 |nil=>exact h.elim
 |cons a r=>
  let b:=An h;obtain⟨g,i,j,k,o⟩:=b.1;let n:=b.2;clear b;cases List.isEmpty_iff.mp g;cases List.isEmpty_iff.mp j;rw[i,show vs=[] from f];let e:((D0 [a]).length>0&&(D0 [a]).cps.all PH)=c8:=by
   let p:(D0 [a]).cps.all PH=c8:=by refine(?_:#[a].all PH=c8);simp[gf a (BJ ‹_›) k]
   rw[p,b7.and_false]
  refine call_gives iZ (typeIs_str s _ _) xl (ym _) (gives_str_isspace (D0 [a]) t) ?_;rw[e];exact j6.U (d:=.bool c8) R rfl n
theorem zL(Z:A.units+10<t3)(R:i8 X c st s)(M:V X.M c st.n s.heap (.B xs) v)(k:Vs X.M c st.n s.heap H vs)(h:o8 (bE m xs H st) Q):
 b9 (d7 prog X.w) A (call (.builtin ("tuple."++m)) (v::vs)) (j6 X c st s G Q) E s:=by
 revert k;refine uA (P:=λH=>Vs X.M c st.n s.heap H vs->_) h λx h k=>?_;let l:=An h;obtain⟨hm,N⟩:=l.1;let h:=l.2;clear l;refine c9 (Lq h) λi O h'=>?_;ext n4 k u r K S g;rw[hm,K,show r=[] from g];rw[V6]at N;refine c9 (List.findIdx?_eq_some_iff_getElem.mp O) λt z w=>?_;ext H9 M a d e rfl w0 C p;have D:=Vs.length p;rw[A2]at D;refine Aj nB (d0 _ C rfl) I_ ?_ (yy _ _);refine b5 (m:=selfAndSome "tuple.index" "index" 1 3 _) (f6 (UD C rfl (R8 (R8 (b5 ?_)))));rw[pF];rw[(by simp[iR]:[:min d.size d.size].size=d.size)];refine Fy _ (λn b I=>b=(b4,())/\I=s/\∃j,n=WH j (d.size - j)/\j<=i) _ ?_ ?_ _ _ ⟨rfl,rfl,0,rfl,F9 _⟩
 .rintro F n b I T;clear C;refine t6 T ?_;clear T;clear g;rintro rfl rfl o;ext1 o j g f;have U:d.size - j=(d.size - (j+1))+1:=Sc (dq t D f);rw[U,PN]at g;injection g with h1 h2;subst h1;let L:=ix U D;let q:=v5 L;let l:=Vs_get? p q;ext1 l v W J;rw[W];refine b5 (Ls 3 (gD Z rfl) (N _ (p8 q)) J S ?_);by_cases y:F=i
  .clear O w q J;subst y;rw[z];exact b5 (b5 (wpAny_mkInt (f6 (f6 (f6 (d0 _ rfl (j6.toks R (V.int _ _) h')))))))
  .let B:=DQ f y;let this:l3 xs[F] x=c8:=by simpa using w F B
   rw[this];exact f6 ⟨rfl,rfl,F+1,h2,by assumption⟩
 .rintro b I Y;clear R S C p;refine t6 Y ?_;clear Y;clear g;rintro rfl rfl o;ext c9 o j g f;exfalso;rw[(zB t D f),PN]at g;cases g
end
theorem Uw:mroOf (.type "dict")=pure [.type "dict",.type "object"]:=by rw[mroOf_type];kernel_rfl
theorem wi:Ci (.type "dict") "__new__"=pure (a0 (.builtin "dict.__new__")):=by rw[Gh,HP];kernel_rfl
theorem dC:TypeCalled "dict" "dict.__new__" "dict.__init__":=
 ⟨by decide+kernel,by decide+kernel,(Dw _ _ Uw),madeBy_type Uw wi (by decide+kernel),by decide+kernel,by rw[Mt];kernel_rfl,H_⟩theorem cZ(a:b8):checkTypeCall "dict" ⟨[a],[]⟩=pure ():=by kernel_rfl
theorem vc(a:b8):checkBuiltinCall "dict.__new__" ⟨[.type "dict",a],[]⟩=pure ():=by kernel_rfl
theorem vZ:JZ table "dict.__new__"=a0 Builtin.«dict.__new__»:=Vu (by kernel_rfl)theorem Yp:plainId "dict.__new__"=a8:=by decide+kernel
theorem Xo:isSubtype (.type "dict") (.type "dict")=pure a8:=by rw[Mt];kernel_rfl
theorem MW:plainId "dict.update.loop"=a8:=by decide+kernel
theorem Yi:JZ table "dict.update.loop"=a0 Builtin.«dict.update.loop»:=Vu (by kernel_rfl)
section
variable{prog:y9}{w:O7}{A:B7}{E:qVS}{s:f8}
theorem Zl(a:b8){Q₁:qVS}(h:Q₁ (.ref s.heap.objs.size) {s with heap:=s.heap.push (E5 #[] 0)}):
 BI (d7 prog w) A (.call (.builtin "dict.__new__") ⟨[.type "dict",a],[]⟩) (wants Q₁ E) s:=by
 refine MG (b5 (JY (vc a) (f6 ⟨Di Yp _,Dg vZ ?_⟩)));rw[DN Yp _];let b:=Xo;let c:=Uw;obtain⟨e,g,d,f,i⟩:=s
 wp_walk
 exact h
end
section
variable{prog:y9}{X:Fx}{A:B7}{E:qVS}{c:Cx}{st:St}{s:f8}{G:i7->Prop}{Q:Q1}
theorem Ox(st:St)(o a:AO):(st.A o).set st.n a=st.A a:=by unfold St.A St.set;congr 1;funext b;by_cases h:b=st.n<;>simp[h]
theorem re(hu:A.units+20<t3)(R:i8 X c st s)(hv:V X.M c st.n s.heap d v)(q:st.dict? d=a0 es)(h8:es.length<=8)(y:es.all (λe=>CC e.1)=a8)
 (hq:Q (.ref st.n) (st.A (.D es es.length))):b9 (d7 prog X.w) A (call (.type "dict") [v]) (j6 X c st s G Q) E s:=by
 refine ji ?_;intro M9 Q9;refine M0 (R.dict hv q) ?_;clear hv q;rintro a f e rfl ha hs rfl ho P;ext t6 P he hd hz;let hT:s.TypeIs (.ref (c.κ a)) "dict":=d0 _ ho rfl;refine jS (Q₁:=λW z=>W= .ref s.heap.objs.size/\z={s with heap:=s.heap.push (E5 #[] 0)}) dC (cZ _) qM (Zl _ ⟨rfl,rfl⟩) λW z o=>?_;ext1 o rfl rfl;let R1:i8 X (c.add st.n s.heap.objs.size) (st.A (.D [] 0)) {s with heap:=s.heap.push (E5 #[] 0)}:=
  R.A (l8 _) (Ext.push _ _) rfl rfl (J3.D (e:=0) (A0 _ rfl) rfl Gu (F9 _))
 let Y:EL {s with heap:=s.heap.push (E5 #[] 0)} (.ref s.heap.objs.size) "dict":=d0 _ (A0 _ rfl) rfl;have F:EL {s with heap:=s.heap.push (E5 #[] 0)} (.ref (c.κ a)) "dict":=d0 _ (A9 _ ho) rfl;refine m0 Y (kK _ _) (b5 (m:=pQ "__init__" _) (NK Y (R8 (f6 ?_))));dsimp only;refine Xy F (Y3 (by decide) (b5 (m:=yp _ _ _) ?_));have k:∀x∈es,∃l,x.1= .str l:=by intro x q;rw[V6]at y;have:=y x q;cases h1:x.1<;>rw[h1]at this<;>first|(cases this;done)|exact⟨_,rfl⟩
 have L:=t4.len he;rw[A2]at L;let u:=A9 _ ho;let Z:=m6 (C2 ho);refine b5 (Zj F Xo (fG F PySem.F.slot_dict_iter.lookup (f6 (Fb rfl (R8 (Y3 (by simpa using C8 Z) (b5 (Y3 (by rw[GK R ha];exact Cc) (f6 ?_)))))))));refine GD (s:={s with heap:=s.heap.push (E5 #[] 0)}) u rfl ?_;let hfew:(decide (f.size<=8)&&f.all λe=>(keyPart e.key).isSome)=a8:=by rw[C4,C3];refine⟨gH L h8 rfl,?_⟩;rw[l4.all_eq_true];intro i M;let hix:=GL M L;let n:=t4.get he i es[i] (v5 hix);ext1 n en r D S T;rw[W6,Ea M]at r;injection r with r;clear S T;subst r;refine d4 (k es[i] (EN _)) λl H=>?_;rw[H]at D;ext d4 D t ht;rw[ht];rfl
 rw[hfew];refine dW (s:={s with heap:=s.heap.push (E5 #[] 0)}) u rfl (GD (s:={s with heap:=s.heap.push (E5 #[] 0)}) u rfl (b5 ?_));rw[pF];rw[(by simp[iR]:[:f.size].size=f.size)];refine Fy _ (λB _ U=>∃i,B=WH i (f.size - i)/\i<=f.size/\i8 X (c.add st.n s.heap.objs.size) (st.A (.D (es.take i) i)) U/\k7 c st s (c.add st.n s.heap.objs.size) (st.A (.D (es.take i) i)) U y6/\U.heap.get? (c.κ a)=a0 (E5 f e)) _ ?_ ?_ _ _
  (Hi 0 rfl (F9 _) R1 (k7.A R (l8 _) (Ext.push _ _):k7 c st s (c.add st.n s.heap.objs.size) (st.A (.D [] 0)) {s with heap:=s.heap.push (E5 #[] 0)} y6) u)
 .rintro g B b U z1;ext KW z1 j w I Rj N J;by_cases O:j<f.size
  case neg=>let this:=Wk (Nat.not_lt.mp O);rw[this]at w;cases w
  let e1:=Sc O;rw[e1,PN]at w;injection w with h1 h2;subst h1;have K:g<es.length:=L▸LL (e1▸M7 _);let hgx:es[g]?=a0 es[g]:=by simp[K]
  let n:=t4.get he g es[g] hgx;ext1 n en r D S T;rw[W6]at r;refine d4 (k es[g] (EN _)) λl H=>GD J rfl ?_;rw[r];let p:D2 (es.take g) es[g].1=b4:=by unfold D2;rw[Mj];intro x q;refine d4 (N2 q) λi P=>d4 P ?_;clear P;clear q;rintro M rfl;rw[O9]at M;rw[Jr];exact((List.pairwise_iff_getElem.mp hd) i g (IQ M) K (Hm M)).1
  let hok:v7 (es.take g) es[g].1=a8:=by simp only[v7,C4,ME,V6,Al];rw[H];refine⟨by simp[Q3],λx q=>d4 (k x (Ml q)) λl' hl'=>?_⟩;rw[hl'];rfl
  let hset:(st.A (.D (es.take g) g)).set st.n (BC (es.take g) es[g].1 es[g].2 g)=st.A (.D (es.take (g+1)) (g+1)):=by
   rw[Ox];unfold BC;let this:(t5 (es.take g) es[g].1).isSome=c8:=by rw[IM,p];rfl
   rw[this,ID p];congr 2;rw[Af,hgx];rfl
  refine CW ?_;rw[T];refine bq (gL hu rfl) Rj Cx.p (B8 _) (es:=es.take g) (ep:=g) (by simp[St.A]) (d:=es[g].2) (N.V R (λb hb=>hb.elim) D) (N.V R (λb hb=>hb.elim) S) hok (by rw[O9];exact Jb (v0 (j7 K hz))) ?_
  .intro s'' hp hk;rw[hset]at hp;let C:=hk _ _ Z J;exact dW C rfl (Y3 (by simp) (f6 (Hi (g+1) h2 ‹_› hp.1 (N.trans hp.2) C)))
 .rintro b U z2;ext KW z2 j w I Rj N J;by_cases O:j<f.size
  .have e1:f.size - j=(f.size - (j+1))+1:=Sc O;rw[e1,PN]at w;cases w
  .have hjn:j=es.length:=AL (L▸I) (L▸Nat.not_lt.mp O);clear w I O;subst hjn;rw[X6]at Rj N;exact f6 (b5 (m:=lV _ []) (f6 (f6 ⟨rfl,⟨_,_,_,hq,Rj,⟨B8 _,by rw[Cx.p]⟩,N.z λ_ h=>h.elim⟩⟩)))
end
def Cx.O(c:Cx)(P:i7->Prop):Cx:=⟨c.κ,P⟩
section
variable{X:Fx}{st:St}
theorem eG(hn:∀a items e,¬c.P a->h.get? a=a0 (x0 items e)->¬P' a)(x:J3 X c n h o a):J3 X ⟨c.κ,P'⟩ n h o a:=by
 have ep:∀{xs:a7 (b0×b0)}{es:a7 Ag},t4 X.w X.M c n h xs es->t4 X.w X.M ⟨c.κ,P'⟩ n h xs es:=by
  intro xs
  induction xs with
  |nil=>intro es x;exact x
  |cons x xs ih=>rintro es z1;ext C7 z1 e r q h1 h2 h3 hr;exact U9 e r q (FX hn _ _ h1) (FX hn _ _ h2) h3 (ih hr)
 cases o with
 |L xs=>ext n4 x items e h1 h2 h3;exact E9 items e h1 (Ll hn _ _ h2) h3
 |D es e=>ext1 x ents h1 h2 h3;exact v8 ents h1 (ep h2) h3
 |I cn d=>exact x
 |fld es=>ext y0 x m h1 h2 h3;exact v8 m h1 (λf d e=>c9 (h2 f d e) λv a b=>d0 v a (FX hn _ _ b)) h3
theorem i8.hide(R:i8 X c st s)(x:Fr [] s s')(hf:∀b∈fp,s.heap.objs.size<=b/\b<s'.heap.objs.size):i8 X (c.hide fp) st s':=by
 have he:Ext s.heap s'.heap:=⟨x.size,λb o q=>x.keep b o J7 q⟩;have hlt:∀a,a<st.n->c.κ a<s.heap.objs.size:=λa ha=>by
  let f:=R.obj a ha;cases hs:st.h a with
  |L xs=>rw[hs]at f;ext F8 f w0 w0 h1 w0;exact C2 h1
  |D es ep=>rw[hs]at f;ext c9 f w0 h1 w0;exact C2 h1
  |I cn d=>rw[hs]at f;ext1 f w0 h1;exact C2 h1
  |fld es=>rw[hs]at f;ext c9 f w0 z1 w0;ext EB z1 w0 w0 w0 h1 w0;exact C2 h1
 exact{
  stays:=λb o hb=>he.2 _ _ (R.stays b o hb)
  lo:=R.lo
  inj:=R.inj
  obj:=λa ha=>RY (λb items e w0 hb=>he.2 _ _ hb) (λx hx=>he.2 _ _ hx) (eG (c:=c) (Sb λb hb=>(hf b hb).1) (R.obj a ha))
  priv:=λa ha q=>q.elim (R.priv a ha) λh=>(Q0 (hf _ h).1 (hlt a ha)).elim
  pold:=λb q=>q.elim (λh=>⟨(R.pold b h).1,j7 (R.pold b h).2 x.size⟩) λh=>⟨b6 R.bsz (hf b h).1,(hf b h).2⟩
  gens:=x.gens.trans R.gens
  os:=x.os.trans R.os
  three:=R.three
  bsz:=b6 R.bsz x.size}
theorem i8.O(R:i8 X c st s)(d:∀b,P b->c.P b):i8 X (c.O P) st s where
 stays:=R.stays
 lo:=R.lo
 inj:=R.inj
 obj a ha:=eG (c:=c) (λa e e f e h=>f (d a h)) (R.obj a ha)
 priv a ha q:=R.priv a ha (d _ q)
 pold b q:=R.pold b (d b q)
 gens:=R.gens
 os:=R.os
 three:=R.three
 bsz:=R.bsz
theorem Jk(f:∀b,P b->c.P b)(g:V base c n h d v):V base (c.O P) n h d v:=
 FX (c:=c) (λa e e i e h=>i (f a h)) d v g
theorem k7.uH(x:Fr [] s s')(e:∀b,F b->G b\/s.heap.objs.size<=b)(y:k7 (c.hide fp) st s' c' st' s'' F):k7 c st s (c'.O c.P) st' s'' G:=
 ⟨y.n,y.aG,rfl,λb o d f g=>y.keep b o (x.keep b o J7 d) f λh=>(e b h).elim g λq=>(Q0 q (C2 d)).elim,
  λa i j=>b6 x.size (y.new a i j),b6 x.size y.size⟩
theorem j6.uH(x:Fr [] s s')(g:∀b,F b->G b\/s.heap.objs.size<=b)(p:j6 X (c.hide fp) st s' F Q v s''):j6 X c st s G Q v s'':=by
 obtain⟨d,a,e,h,R,i,y⟩:=p;let f:∀b,c.P b->e.P b:=λb j=>by rw[y.P];exact .inl j
 exact⟨d,a,e.O c.P,h,R.O f,Jk f i,y.uH x g⟩
end
theorem br:Ci (.type "zip") "__getattr__"=pure b4:=by rw[Gh,HP];kernel_rfl
theorem ft:Ci (.type "zip") "keys"=pure b4:=by rw[Gh,HP];kernel_rfl
theorem su:JZ table "zip.__getattribute__"=a0 Builtin.«object.__getattribute__»:=
 Vq (id':="object.__getattribute__") (by kernel_rfl) (by decide+kernel) (by decide+kernel) (by kernel_rfl)
theorem jw(a:i7)(fs:l4 b8)(u:Dj):
 LQ (Builtin.«object.__getattribute__» ⟨[.ref a,.str "keys" u],[]⟩) (λA R s=>s.heap.get? a=a0 {cls:=.type "zip",dict:=b4,data:=.fields fs,slots:=#[]}/\raisesAttr (.ref a) "keys" A R s):=
 LQ.of_wp λe w A R s b=>by
  obtain⟨f,g,d,h,i⟩:=s;let j:=b.1;let b:=b.2;let k:(⟨f,g,d,h,i⟩:f8).TypeIs (.ref a) "zip":=d0 _ j rfl;let c:=ft;unfold Builtin.«object.__getattribute__»
  repeat(any_goals(first|assumption|wp_step))
  try simp only[(by decide:(["__module__","__name__","__qualname__","__doc__","__annotations__"]).contains ("keys":o3)=c8),Bv,Bz]
  repeat(any_goals(first|assumption|wp_step))
  exact wpAny_raiseAttrError b.1 b.2 (attrMsg_fits (by decide+kernel) (by rw[O3];decide:("keys":o3).length+100<=Hr))
theorem xZ(j:s.heap.get? a=a0 {cls:=.type "zip",dict:=b4,data:=.fields fs,slots:=#[]})(m:A.handled=b4)
 (h:∀i k,(∀b o,s.heap.get? b=a0 o->i.get? b=a0 o)->Q b4 {s with heap:=i,toks:=k}):b9 (d7 prog w) A (getAttr? (.ref a) "keys") Q E s:=by
 obtain⟨n,g,d,k,p⟩:=s;let l:∀c,(⟨n,g,d,c,p⟩:f8).TypeIs (.ref a) "zip":=λq=>d0 _ j rfl;let r:=sub_AttributeError;let t:=F.slot_zip_getattribute.lookup;let u:=F.slot_zip_getattribute.bind (.ref a);let v:=br
 repeat(any_goals(first|assumption|exact l _|((with_reducible show b9 _ _ (call (b8.builtin "zip.__getattribute__") _ _) _ _ _);refine Pl F.slot_zip_getattribute (l _) su (F.args_zip_getattribute_2 _ _) (jw a fs _) ⟨j,m,λi c e f=>?_⟩)|wp_step))
 refine R9 f.there λx y z=>?_;unfold getattributeRaised
 repeat(any_goals(first|assumption|wp_step))
 exact h _ _ f.keeps
def Ir(es:a7 (b0×b0))(ps:a7 (b0×b0)):a7 (b0×b0):=ps.foldl (λes e=>Q5 es e.1 e.2) es
theorem qj{es:a7 (b0×b0)}{k:b0}(h:∀x∈es,CC x.1=a8)(b:CC k=a8):∀x∈Q5 es k d,CC x.1=a8:=by
 induction es with
 |nil=>intro x a;rw[List.mem_singleton.mp a];exact b
 |cons y es c=>
  intro x a;rw[Ln]at a;split at a
  .rcases D9 a with rfl|a
   .exact h y j5
   .exact h x (k8 _ a)
  .rcases D9 a with rfl|a
   .exact h _ j5
   .exact c (λz e=>h z (k8 _ e)) x a
theorem pe{es:a7 (b0×b0)}{k:b0}(h:∀x∈es,CC x.1=a8)(b:CC k=a8):v7 es k=a8:=by
 let a:∀d,CC d=a8->Q3 d=2:=λd c=>by
  cases d with
  |str l=>rfl
  |_=>exact no c
 simp only[v7,C4,ME,V6,Al];rw[a k b];exact⟨by decide,λx e=>a _ (h x e)⟩
theorem ud(es:a7 (b0×b0))(k d:b0):BC es k d es.length= .D (Q5 es k d) (Q5 es k d).length:=by
 unfold BC;congr 1;rw[IM];cases h:D2 es k with
 |none=>rw[ID h];simp
 |some i=>rw[Nk h];simp
section
variable{prog:y9}{X:Fx}{A:B7}{E:qVS}{c c1:Cx}{st:St}{s:f8}{G:i7->Prop}{Q:Q1}
theorem ZR.put{h:l5}{i:b8}{z c d e f j k:i7}{l m:b7}{n r:a6}(x:ZR h i z c d e f l j n m k r)(a:∀b∈c::x9 z d e f,∀o,h.get? b=a0 o->h'.get? b=a0 o):ZR h' i z c d e f l j n m k r:=by let g:=x.zo;ext1 g t s;exact R9 x.to λp q u=>⟨⟨t,a _ (k8 _ j5) _ s⟩,a _ j5 _ x.ti,(Dw p q (a _ (k8 _ (k8 _ j5)) _ u)),x.s1.at (a _ (k8 _ (k8 _ (k8 _ j5)))),x.s2.at (a _ (by simp)),x.TT,x.ii,x.l1,x.l2⟩def Og(h:l5)(f0:b8):Prop:=f0= .none\/∃T:i7,f0=G7 (T:a6)/\∃o,h.get? T=a0 o
theorem xN{z:i7}{m:b7}{n:a6}{xs:l4 b8}{x:b8}{Q:j0 b8->f8->Prop}(hz:ZR s.heap f0 z TI TO i1 i2 m l1 n T2 l2 k2)(L:Og s.heap f0)
 {D:i7}(M:D<s.heap.objs.size)(g:∀q∈D::x9 z TO i1 i2,∀T:i7,f0=G7 (T:a6)->T≠q)
 (B:y3 s.heap m l1 xs)(C:y3 s.heap T2 l2 ys)(F:xs[n]?=a0 x)(G:ys[k2]?=a0 y)
 (H:∀(c:l5)(T:i7)(d:b8),ZR c d z TI TO i1 i2 m l1 (n+1) T2 l2 (k2+1)->Og c d->(∀q∈D::x9 z TO i1 i2,∀T:i7,d=G7 (T:a6)->T≠q)->Dk c T x y->s.heap.objs.size<=T->Fr (x9 z TO i1 i2) s {s with heap:=c}->Q (a0 (.ref T)) {s with heap:=c}):
 b9 (d7 prog X.w) A (Gv (.ref z)) Q E s:=by
 let i:∀{a b:i7},G7 (a:a6)=G7 (b:a6)->a=b:=λ{a b}h=>by
  simp only[G7,zu,and_true]at h;exact Ps h
 let w:∀q∈D::x9 z TO i1 i2,q<s.heap.objs.size:=by let t:=hz.zo;ext1 t P I;exact R9 hz.to λp r N=>TE M (C2 I) (C2 N) hz.s1.lt hz.s2.lt
 rcases L with rfl|⟨u,rfl,o,J⟩
 .refine GO hz (aC (A:=A.in1) hz B C F G λc T f j k l=>H c T _ f (.inr ⟨T,rfl,_,j⟩) (λq v K e=>?_) j k l);have p:=i e;clear e;subst p;exact λe=>u6 (w q v) (by rw[<-e];exact Q0 k)
 .refine GO hz (gr (A:=A.in1) ⟨o,J⟩ hz B C F G λc T f j k l=>H c T _ f (.inr ⟨u,rfl,o,l.keep _ _ (λO=>g u (k8 _ O) u rfl rfl) J⟩) (λq v K e=>?_) j k l);exact g q v K e
theorem gd{z:i7}{f:b7}{g:a6}{xs:l4 b8}{h:b8}{Q:j0 b8->f8->Prop}(i:A.handled=b4)(hz:ZR s.heap h z TI TO i1 i2 f l1 g T2 l2 k2)(n:Og s.heap h)
 (j:y3 s.heap f l1 xs)(k:y3 s.heap T2 l2 ys)(a:xs[g]?=b4\/ys[k2]?=b4)(l:∀m,Fr (x9 z TO i1 i2) s m->Q b4 m):b9 (d7 prog X.w) A (Gv (.ref z)) Q E s:=by
 rcases n with rfl|⟨q,rfl,o⟩
 .exact W5 (GO hz (SM (A:=A.in1) i hz j k a λp e b d=>⟨(P9 e _ rfl d.choose_spec),λc=>l _ ⟨b,c,rfl,rfl⟩⟩))
 .exact W5 (GO hz (qP (A:=A.in1) i o hz j k a λp e b d=>⟨(P9 e _ rfl d.choose_spec),λc=>l _ ⟨b,c,rfl,rfl⟩⟩))
theorem NR{st:St}{a:b0}{xs:a7 b0}{o:AO}(h:st.items? a=a0 xs)(c:∀q,a= .ref q->q<st.n):(st.A o).items? a=a0 xs:=by
 have ref:∀q,a= .ref q->(st.A o).list? a=st.list? a:=by
  intro q e;let b:=c q e;subst e;let d:(st.A o).h q=st.h q:=by simp[St.A,m6 b]
  let f:q<(st.A o).n:=BM b;exact G6 f (by rw[d];exact(G6 b rfl).symm)
 cases a<;>first|exact h|skip
 exact(ref _ rfl).trans h
theorem iw{R':Mu->f8->Prop}(hu:A.units+20<t3)(hh:A.handled=b4){a:b0}{xs:a7 b0}{D:i7}{T1:b7}(V:c.κ st.n=D)(f:∀q∈TI::x9 z TO i1 i2,c.P q)
 (hxs:∀x∈xs,CC x=a8)(O:xs.length<=j8)(ia:st.items? a=a0 xs)(ib:st.items? b=a0 ys)(H:∀q,a= .ref q->q<st.n)(I:∀q,b= .ref q->q<st.n):
 ∀(ps:a7 (b0×b0))(k:a6)(es:a7 (b0×b0))(F:b8)(i:d3)(s:f8),(xs.zip ys).drop k=ps->(∀x∈es,CC x.1=a8)->es.length<=k->ZR s.heap F z TI TO i1 i2 T1 l1 k T2 l2 k->
 Og s.heap F->(∀q∈D::x9 z TO i1 i2,∀T:i7,F=G7 (T:a6)->T≠q)->i8 X c (st.A (.D es es.length)) s->N5 X c (st.n+1) s.heap a T1 l1->N5 X c (st.n+1) s.heap b T2 l2->
 (∀C,i8 X c (st.A (.D (Ir es ps) (Ir es ps).length)) C->k7 c (st.A (.D es es.length)) s c (st.A (.D (Ir es ps) (Ir es ps).length)) C (·∈TI::x9 z TO i1 i2)->R' (.ok (.ret .none)) C)->
 BI (d7 prog X.w) A (.builtin "dict.update.loop" ⟨[.ref D,.ref z,.int i 0,.none],[]⟩) R' s:=by
 let hfp':∀q∈x9 z TO i1 i2,c.P q:=λq n=>f q (k8 _ n);intro ps
 induction ps with
 |nil=>
  intro k es F i s E v j W Y J R Q S Z;refine c9 (Q.items R (NR ia H)) λK wa w=>c9 (S.items R (NR ib I)) λL wb B=>?_;let P:K[k]?=b4\/L[k]?=b4:=by
   rw[Ql,Qw]at E;by_cases h:xs.length<=k
   .exact .inl (GY w (by simpa using h))
   .exact .inr (GY B (by rw[PD];exact mo E h))
  refine Dg Yi ?_;rw[DN MW _];refine b5 (gd (A:=A.in1) hh W Y wa wb P λC F1=>?_);let r:Fr (TI::x9 z TO i1 i2) s C:=F1.z λq n=>k8 _ n;exact b5 (m:=lV D []) (f6 (f6 (Z C (r.rep R f) r.step)))
 |cons p ps ih=>
  intro k es F i s E v j W Y J R Q S Z;let hk:(xs.zip ys)[k]?=a0 p:=by let d:=t0 (λl=>l[0]?) E;simpa using d
  let hd':(xs.zip ys).drop (k+1)=ps:=by let d:=t0 (MH 1) E;simpa[Vy]using d
  clear E;obtain⟨x,y⟩:=p;have t:xs[k]?=a0 x/\ys[k]?=a0 y:=by rw[Mg]at hk;exact hk
  refine c9 (Q.items R (NR ia H)) λK wa w=>c9 (S.items R (NR ib I)) λL wb B=>c9 (Vs_get? w t.1) λvx p1 p2=>c9 (Vs_get? B t.2) λvy q1 q2=>?_;have M:CC x=a8:=hxs x (p8 t.1);let hDs:D<s.heap.objs.size:=by let d:=R.obj st.n (B8 _);rw[show(st.A (.D es es.length)).h st.n= .D es es.length by simp[St.A],V]at d;ext1 d G h1 G;exact C2 h1
  refine Dg Yi ?_;rw[DN MW _];refine b5 (xN (A:=A.in1) W Y (D:=D) hDs J wa wb p1 q1 λU T f0' hz' hf' u ht hT F1=>?_);have r:Fr (TI::x9 z TO i1 i2) s {s with heap:=U}:=F1.z λq n=>k8 _ n;let R2:=r.rep R f;refine b5 (L0 (b5 (MF (b5 (HI ((d0 _ ht rfl):EL {s with heap:=U} (.ref T) "tuple") (Fb (by decide) (b5 (Cg (s:={s with heap:=U}) ht rfl (f6 (L0 (Tf (s:={s with heap:=U}) (gD hu rfl) R2 V (B8 _) (es:=es) (ep:=es.length) (by simp[St.A]) (r.V f p2) (r.V f q2) (pe v M) (b6 j (m9 (j7 (w6 t.1) O))) λs3 g N=>?_)))))))))));rw[(by rw[Ox,ud]:(st.A (.D es es.length)).set st.n (BC es x y es.length)=st.A (.D (Q5 es x y) (Q5 es x y).length))]at g;refine f6 ⟨Di MW _,ih (k+1) (Q5 es x y) f0' (i+1) s3 hd' (qj v M) ?_ ?_ ?_ u g.1 ?_ ?_ ?_⟩
  .let d:=eZ es x y;exact No d j
  .exact hz'.put λq n o ho=>N q o ((λq n e=>R.priv st.n (B8 _) (by rw[V,<-e];exact n):∀q,c.P q->q≠D) q (f q n)) ho
  .rcases hf' with e|⟨T',e,o,ho⟩
   .exact .inl e
   .exact .inr ⟨T',e,o,N _ _ (u D j5 T' e) ho⟩
  .exact N5.step R2 g.2 (λG h=>h.elim) (Q.fr r f)
  .exact N5.step R2 g.2 (λG h=>h.elim) (S.fr r f)
  .intro s4 R4 S4;refine Z s4 R4 ((r.step.trans (g.2.z λG h=>h.elim)).trans S4)
set_option tactic.hygienic true in
theorem ol{a:b0}{v:b8}{xs:a7 b0}{f:f8}(hu:A.units+26<t3)(hh:A.handled=b4)(R:i8 X c st s)(O:GI X c st s (.zip a b 0) v f)(ia:st.items? a=a0 xs)(ib:st.items? b=a0 ys)(M:xs.length<=j8)(hxs:∀x∈xs,CC x=a8)
 (n:Q (.ref st.n) (st.A (.D (Ir [] (xs.zip ys)) (Ir [] (xs.zip ys)).length))):b9 (d7 prog X.w) A (call (.type "dict") [v]) (j6 X c st s G Q) E f:=by
 obtain⟨I,fp,rfl,F0,B,O⟩:=O;let R1:=R.hide F0 B;cases O with
 |zip va vb hz=>
  rename_i g i j k l1 l2 T1 T2;refine v6 (Q:=j6 X (c.hide (g::x9 I i j k)) st f (·∈g::x9 I i j k) Q) ?_ (λv s2 p=>p.uH F0 λq n=>.inr (B q n).1) λt t e=>e;have han:∀q,a= .ref q->q<st.n:=λq e=>by
   clear ia;subst e;rcases va with⟨_,S,h,_⟩|⟨_,q',h,z,_⟩
   .cases h
   .cases h;exact z
  have hbn:∀q,b= .ref q->q<st.n:=λq e=>by
   clear ib;subst e;rcases vb with⟨_,S,h,_⟩|⟨_,q',h,z,_⟩
   .cases h
   .cases h;exact z
  let hP:∀q∈g::x9 I i j k,(c.hide (g::x9 I i j k)).P q:=λq n=>.inr n;refine jS (Q₁:=λC u=>C= .ref f.heap.objs.size/\u={f with heap:=f.heap.push (E5 #[] 0)}) dC (cZ _) qM (Zl _ ⟨rfl,rfl⟩) λC u r=>?_;ext1 r rfl rfl;let R2:i8 X ((c.hide (g::x9 I i j k)).add st.n f.heap.objs.size) (st.A (.D [] 0)) {f with heap:=f.heap.push (E5 #[] 0)}:=
   R1.A (l8 _) (Ext.push _ _) rfl rfl (J3.D (e:=0) (A0 _ rfl) rfl Gu (F9 _))
  let F:EL {f with heap:=f.heap.push (E5 #[] 0)} (.ref f.heap.objs.size) "dict":=d0 _ (A0 _ rfl) rfl;let U:=hz.zo;ext1 U f1 zo;let H:(f.heap.push (E5 #[] 0)).get? I=a0 (Nv .none f1 g i):=A9 _ zo;refine m0 F (kK _ _) (b5 (m:=pQ "__init__" _) (b5 (WO F (b5 (f6 (f6 ?_))))));dsimp only;refine b5 (HI ((d0 _ H rfl):EL {f with heap:=f.heap.push (E5 #[] 0)} (.ref I) "zip") (Fb (by decide) (b5 (W5 (xZ (s:={f with heap:=f.heap.push (E5 #[] 0)}) H hh λy V W hz3=>b5 (EK ?_))))));let Y:Fr (g::x9 I i j k) {f with heap:=f.heap.push (E5 #[] 0)} {f with heap:=y,toks:=V}:=⟨λb o t q=>W b o q,hz3,rfl,rfl⟩;let z3:ZR y .none I g i j k T1 l1 0 T2 l2 0:=hz.put λq t o ho=>W q o (A9 _ ho);let J:Fr [] f {f with heap:=y,toks:=V}:=⟨λb o t q=>W b o (A9 _ q),by let N:=Y.size;let h5:f.heap.objs.size<=(f.heap.push (E5 #[] 0)).objs.size:=(Ext.push _ _).1;exact b6 h5 N,rfl,rfl⟩;let K:=va.fr J (λq n=>by simp at n);let L:=vb.fr J (λq n=>by simp at n);let w:∀{d:b0}{T:b7}{l:i7},N5 X (c.hide (g::x9 I i j k)) st.n y d T l->N5 X ((c.hide (g::x9 I i j k)).add st.n f.heap.objs.size) (st.n+1) y d T l:=by
   intro d T l Z;rcases Z with⟨rfl,S,rfl,Z⟩|⟨rfl,q,rfl,n,rfl⟩
   .exact .inl ⟨rfl,S,rfl,Hg (N8 _) (λa ha=>Cx.o ha) (λt t=>id) Z⟩
   .exact .inr ⟨rfl,q,rfl,BM n,(Cx.o n).symm⟩
  refine b5 (LH (s:={f with heap:=y,toks:=V}) (.zip K L z3:Am X (c.hide (g::x9 I i j k)) st.n y (.zip a b 0) I (g::x9 I i j k)) (f6 ⟨Di MW _,iw (A:=A.in1) (c:=(c.hide (g::x9 I i j k)).add st.n f.heap.objs.size) (st:=st) (D:=f.heap.objs.size) (gD hu rfl) hh Cx.p hP hxs M ia ib han hbn (xs.zip ys) 0 [] .none 0 _ rfl (λt h=>by simp at h) (l8 _) z3 (.inl rfl) (λq t T e=>by simp[G7]at e) (Y.rep R2 hP) ?_ ?_ λs' R4 S4=>?_⟩))
  .exact w K
  .exact w L
  .exact⟨rfl,_,_,_,n,R4,⟨B8 _,by rw[Cx.p]⟩,(((k7.A R1 (l8 _) (Ext.push _ _):k7 (c.hide (g::x9 I i j k)) st f ((c.hide (g::x9 I i j k)).add st.n f.heap.objs.size) (st.A (.D [] 0)) {f with heap:=f.heap.push (E5 #[] 0)} y6).z (F':=(·∈g::x9 I i j k)) λt h=>h.elim).trans Y.step).trans S4⟩
end
section
variable{prog:y9}{X:Fx}{A:B7}{E:qVS}{c:Cx}{st:St}{s:f8}{G:i7->Prop}{Q:Q1}
theorem wD:∀{xs:a7 (b0×b0)}{es:a7 Ag},t4 w base c n h xs es->∀(i:a6)(k:SI)(v:b8),(Gz xs es)[i]?=a0 (k,v)->∃x,xs[i]?=a0 x/\k=y5 x.1/\V base c n h x.2 v:=by
 intro f
 induction f with
 |nil=>intro es e i k v b;cases b
 |cons y xs g=>
  intro d a i k v b;ext C7 a e r q d j d l;subst q;cases i with
  |zero=>cases b;exact v8 y rfl rfl j
  |succ i=>exact g l i k v b
theorem uS(R:i8 X c st s)(h:V X.M c st.n s.heap d v)(i:st.dict? d=a0 es)(g:∀x∈es,leaf x.1=a8){Q:qVS}
 (l:∀(r a:i7)f,Fr [] s f->v= .ref a->f.heap.IsItemsView r a->Q (.ref r) f):b9 (d7 prog X.w) A (call (.builtin "dict.items") [v]) Q E s:=by
 refine M0 (R.dict h i) ?_;clear h i;rintro a k e rfl m p rfl j b;ext1 b n o q;exact call_meetsIn mC (T:="dict") (d0 _ j rfl) xz (y_ _) (meets_dict_items (X0 prog X.w) (c.κ a) (GK R m))
  ⟨⟨_,(NJ (prog:=prog) j n o g).dictOf⟩,l _ _ _ (FP _ s.toks) rfl (v8 _ (A0 _ rfl) rfl rfl)⟩
theorem uq(L:A.units+12<t3)(M:A.handled=b4)(R:i8 X c st s)(N:V X.M c st.n s.heap d (.ref a))(C:st.dict? d=a0 es)(n:∀x∈es,leaf x.1=a8)(m:s.heap.IsItemsView r a)
 (O:B9 (es.map λe=>b0.B [e.1,e.2])=a8)(P:Q (.ref st.n) (st.A (.L (y8 (es.map λe=>b0.B [e.1,e.2]))))):b9 (d7 prog X.w) A (call (.builtin "sorted") [.ref r]) (j6 X c st s G Q) E s:=by
 refine M0 (R.dict N C) ?_;clear C;rintro b K e rfl hb hs l S D;ext t6 D o T hz;injection l with l;subst l;refine WW L R O P (W5 (kdx_collect (A:=A.in1) M m (NJ (prog:=prog) S o T n) (by rw[Jd o,O3];exact p6) λF tk U W Y H u=>?_));let I:Ext s.heap F:=⟨u,W⟩;refine M4 ?_ I rfl rfl;refine ZW (by simp[Y,Jd o]) λi d v f g=>?_;rw[o7]at f g;cases h:es[i]? with
 |none=>rw[h]at f;cases f
 |some x=>
  rw[h]at f;simp only[Ax,AA]at f;subst f;cases j:U[i]? with
  |none=>rw[j]at g;cases g
  |some q=>rw[j]at g;simp only[Ax,AA]at g;subst g;refine FO (H.pairs i q j) λw k x2 J Z h3=>y0 (wD o i _ _ J) ?_;rintro y p rfl h5;rw[h]at p;injection p with p;clear J;subst p;let z:=n x (p8 h);let B:V X.M c st.n F x.1 w:=fL z Z;exact V.B (λhp=>(Q0 (m9 (H.above q (p8 j))) (R.pold _ hp).2).elim) h3 ⟨_,_,rfl,B,_,_,rfl,Cb (λt t t t=>I.2 _ _) h5,rfl⟩
end
theorem Eo(h:nm x=nm y):x=y:=by
 let c:(Cd x).cps.toList=(Cd y).cps.toList:=by rw[show Cd x=Cd y from h]
 rw[Qv,Qv]at c;exact String.toList_inj.mp ((pR λa b e=>Char.toNat_inj.mp e).mp (by simpa using c:x.toList.map Gi=y.toList.map Gi))def cf(env:I0)(x:o3):Prop:=env.kindOf x=a0 .cell\/env.kindOf x=a0 .free
structure p7 (X:Fx) (c:Cx) (n:a6) (h:l5) (env:I0) (ρ:Env):Prop where
 kind:env.scope.kind= .function
 g:env.globals=X.g
 b:env.builtins=X.b
 pl:c.P env.locals
 loc:∃m,h.Ns env.locals m/\∀x d,ρ x=a0 d->x≠".0"->env.kindOf (nm x)=a0 .local->∃v,m (nm x)=a0 v/\V X.M c n h d v
 cel:∀k,cf env k->∃a u,env.cells.lookup k=a0 a/\c.P a/\a≠env.locals/\h.IsCell a u/\∀x d,nm x=k->ρ x=a0 d->∃v,u=a0 v/\V X.M c n h d v
 apart:∀x y a,cf env x->cf env y->env.cells.lookup x=a0 a->env.cells.lookup y=a0 a->x=y
def De(env:I0)(x:j3):i7:=if env.kindOf (nm x)=a0 .local then env.locals else(env.cells.lookup (nm x)).getD 0
def Ee(env:I0)(T:j3->Prop):i7->Prop:=λb=>∃x,T x/\De env x=b
section
variable{X:Fx}{st:St}{s':f8}
theorem p7.map(H:p7 X c n h env ρ)(k:∀b,c.P b->c'.P b)(l:∀b o,c.P b->h.get? b=a0 o->h'.get? b=a0 o)
 (s:∀d v,V X.M c n h d v->V X.M c' n' h' d v):p7 X c' n' h' env ρ where
 kind:=H.kind
 g:=H.g
 b:=H.b
 pl:=k _ H.pl
 loc:=by refine c9 H.loc ?_;rintro m⟨o,t,w,e,r⟩f;exact(d0 m (KB o t w (l _ _ H.pl e) r) λx d i y j=>c9 (f x d i y j) λv a b=>d0 v a (s _ _ b))
 cel x hx:=by refine C7 (H.cel x hx) ?_;rintro a u i f j⟨o,z,A⟩B;exact(U9 a u i (k _ f) j (d0 o (l _ _ f z) A) λx d C e=>c9 (B x d C e) λv p q=>d0 v p (s _ _ q))
 apart:=H.apart
theorem p7.step(H:p7 X c st.n s.heap env ρ)(R:i8 X c st s)(x:k7 c st s c' st' s' y6):p7 X c' st'.n s'.heap env ρ:=
 H.map (λb d=>by rw[x.P];exact d) (λb o d e=>x.keep b o e (λa g q=>R.priv a g (q▸d)) id) λf f i=>x.V R (λf h=>h.elim) i
theorem p7.ext(H:p7 X c st.n s.heap env ρ)(R:i8 X c st s)(x:Ext s.heap s'.heap):p7 X c st.n s'.heap env ρ:=
 H.step (st':=st) R (k7.ext x)
theorem p7.hide(H:p7 X c st.n s.heap env ρ)(x:Fr [] s s')(d:∀b∈fp,s.heap.objs.size<=b):p7 X (c.hide fp) st.n s'.heap env ρ:=
 H.map (λa=>.inl) (λb o a e=>x.keep b o J7 e) λa a f=>NH x d f
theorem p7.O{l:Env}(r:p7 X c n0 s env l)(H:p7 X c' n h env ρ)(t:∀b,c.P b->c'.P b):p7 X (c'.O c.P) n h env ρ where
 kind:=H.kind
 g:=H.g
 b:=H.b
 pl:=r.pl
 loc:=by exact c9 H.loc λm i y=>(d0 m i λx d j s k=>c9 (y x d j s k) λv a b=>d0 v a (Jk t b))
 cel x hx:=by refine C7 (H.cel x hx) λa u i w j k z=>n4 (r.cel x hx) λB w f o w=>?_;rw[i]at f;cases f;exact(U9 a u i o j k λx d A e=>c9 (z x d A e) λv p q=>d0 v p (Jk t q))
 apart:=H.apart
theorem Nr(b:env.kindOf (nm x)=a0 .cell)(h:env.cells.lookup (nm x)=a0 a):De env x=a:=by unfold De;rw[b,h];rfl
theorem Ov(a:env.kindOf (nm x)=a0 .local):De env x=env.locals:=by unfold De;refine G6 a ?_;try with_reducible rfl
theorem QX(h:x≠"__debug__"):(nm x==("__debug__":o3))=c8:=by rw[Gp];exact λq=>h (Eo q)
theorem p7.load(H:p7 X c st.n s.heap env ρ)(i:ρ x=a0 d)(b:env.kindOf (nm x)=a0 .local\/cf env (nm x)) (n:x≠"__classdict__") (hz:x≠".0") {Q:qVS}
 (h:∀v,V X.M c st.n s.heap d v->Q v s):b9 (d7 prog X.w) A (loadName env (nm x)) Q E s:=by
 rcases b with b|b
 .refine c9 H.loc λm o p=>?_;let g:=p x d i hz b;ext1 g v e f;exact wpAny_loadName_local H.kind b o e (h v f)
 .refine C7 (H.cel _ b) λa u j r r k l=>c9 (l x d rfl i) ?_;clear l;rintro v rfl f;rcases b with b|b
  .exact wpAny_loadName_cell H.kind b j k (h v f)
  .refine wpAny_loadName_free H.kind b j k (h v f) ?_;rw[Gp];exact λq=>n (Eo q)
theorem k7.priv(R:i8 X c st s)(k:∀b o,s.heap.get? b=a0 o->¬F b->s'.heap.get? b=a0 o)(hz:s.heap.objs.size<=s'.heap.objs.size):k7 c st s c st s' F:=
 ⟨l8 _,λa a=>rfl,rfl,λb o d a e=>k b o d e,λa f g=>FR g f,hz⟩
theorem p7.store(H:p7 X c st.n s.heap env ρ)(R:i8 X c st s)(k:env.kindOf (nm x)=a0 .local\/env.kindOf (nm x)=a0 .cell) (W:V X.M c st.n s.heap d v) (M:F (De env x))
 {Q:Ay->f8->Prop} (P:∀Y,i8 X c st Y->p7 X c st.n Y.heap env (ρ.set x d)->k7 c st s c st Y F->Q () Y):b9 (d7 prog X.w) A (storeName env (nm x) v) Q E s:=by
 have i:∀(a:i7)(l:l5)(t:a6),c.P a->F a->Ah a s.heap l->(p7 X c st.n s.heap env ρ->(∀d v,V X.M c st.n s.heap d v->V X.M c st.n l d v)->p7 X c st.n l env (ρ.set x d))->Q () {s with heap:=l,toks:=t}:=by
  intro a l t hp hf f hE;have I:s.heap.objs.size<=l.objs.size:=by rw[f.1];exact l8 _
  refine P _ (R.keep (λb o D hnp=>f.extBut b o (λq=>hnp (q▸hp)) D) I rfl rfl:i8 X c st {s with heap:=l,toks:=t}) (hE H λd v W=>?_) (k7.priv R (λb o D J=>f.extBut b o (λq=>J (q▸hf)) D) I:k7 c st s c st {s with heap:=l,toks:=t} F);exact(k7.priv R (λb o D J=>f.extBut b o J D) I:k7 c st s c st {s with heap:=l,toks:=t} (λb=>b=a)).V R (λb D=>.inl (D▸hp)) W
 rcases k with k|k
 .refine c9 H.loc λm hn hm=>wpAny_storeName_local k hn (λl K f=>i env.locals l _ H.pl (Ov k▸M) f λH G=>?_) (by rw[H.kind];rfl);refine⟨H.kind,H.g,H.b,H.pl,(d0 _ K λy e h L r=>?_),λy h=>?_,H.apart⟩
  .simp only[Env.set]at h;by_cases g:y=x
   .clear M P i k K;subst g;rw[g0 rfl]at h ⊢;cases h;exact d0 v rfl (G _ _ W)
   .rw[j4 g]at h;rw[j4 λq=>g (Eo q)];let j:=hm y e h L r;ext1 j u n p;exact d0 u n (G _ _ p)
  .refine C7 (H.cel y h) λa u B S N Z h5=>U9 a u B S N (Z.sameBut f N) λz e O C=>?_;clear B;subst O;have g:z≠x:=by clear M P i K C;rintro rfl;rcases h with h|h<;>rw[k]at h<;>cases h
   simp only[Env.set,j4 g]at C;let j:=h5 z e rfl C;ext1 j w n p;exact d0 w n (G _ _ p)
 .refine C7 (H.cel _ (.inl k)) λa u B S N Z h5=>wpAny_storeName_cell H.kind k B Z λl T f=>i a l _ S (Nr k B▸M) f λH G=>c9 H.loc λm hn hm=>⟨H.kind,H.g,H.b,H.pl,(d0 m (hn.sameBut f (C8 N)) λy e h L r=>?_),λy h=>?_,H.apart⟩
  .let g:y≠x:=by clear M P i B h5 h;rintro rfl;rw[k]at r;cases r
   simp only[Env.set,j4 g]at h;let j:=hm y e h L r;ext1 j w n p;exact d0 w n (G _ _ p)
  .by_cases g:y=nm x
   .subst g;refine U9 a _ B S N T λz e O C=>?_;clear M P i k B h5 h;obtain rfl:=Eo O;simp only[Env.set,DY]at C;cases C;exact d0 v rfl (G _ _ W)
   .refine C7 (H.cel y h) λa' u' U h2' h3' h4' h5'=>U9 a' u' U h2' h3' (h4'.sameBut f λq=>g ?_) λz e O C=>?_
    .clear S N Z T f;subst q;exact H.apart y (nm x) a' h (.inl k) U B
    .let hzx:z≠x:=λq=>g (by rw[<-O,q]);simp only[Env.set,j4 hzx]at C;let j:=h5' z e O C;ext1 j w n p;exact d0 w n (G _ _ p)
end
abbrev MX:=Internal.X
inductive fK (X:Fx) (c:Cx) (st:St) (s:f8) (F:i7->Prop) (Q:a7 b0->St->Prop) (vs:a7 b8) (s':f8):Prop
 |mk (ds st' c') (q:Q ds st') (R:i8 X c' st' s') (v:Vs X.M c' st'.n s'.heap ds vs) (S:k7 c st s c' st' s' F)
inductive DB (X:Fx) (c:Cx) (st:St) (s:f8) (F:i7->Prop) (Q:b7->St->Prop) (b:b7) (s':f8):Prop
 |mk (st' c') (q:Q b st') (R:i8 X c' st' s') (S:k7 c st s c' st' s' F)
def SX(prog:y9)(X:Fx)(C:Cl)(A:B7)(sc:E7)(e:MX)(E:j9):Prop:=
 ∀⦃c:Cx⦄⦃st:St⦄⦃s:f8⦄⦃env:I0⦄⦃ρ:Env⦄⦃Q:Q1⦄,env.scope=sc->p7 X c st.n s.heap env ρ->i8 X c st s->W C e ρ st Q->
  b9 (d7 prog X.w) A (eval E env) (j6 X c st s y6 Q) u0 s
def ST(prog:y9)(X:Fx)(C:Cl)(A:B7)(sc:E7)(e:MX)(E:j9):Prop:=
 ∀⦃c:Cx⦄⦃st:St⦄⦃s:f8⦄⦃env:I0⦄⦃ρ:Env⦄⦃Q:b7->St->Prop⦄,env.scope=sc->p7 X c st.n s.heap env ρ->i8 X c st s->WT C e ρ st Q->
  b9 (d7 prog X.w) A (isTrue E env (eval E env)) (DB X c st s y6 Q) u0 s
structure Bn (A:B7):Prop where
 hh:A.handled=b4
 hu:A.units+30<t3
section
variable{prog:y9}{X:Fx}{C:Cl}{c:Cx}{st:St}{s:f8}
theorem B6(h:b9 (d7 prog X.w) A m (j6 X c st s F Q) u0 s₀)
 (k:∀v b d a e,Q d a->i8 X e a b->Internal.V X.M e a.n b.heap d v->k7 c st s e a b F->Q2 v b):b9 (d7 prog X.w) A m Q2 E2 s₀:=
 v6 h (λv b⟨d,a,e,q,R,f,S⟩=>k v b d a e q R f S) λg g x=>x.elim
theorem OW{Q:b7->St->Prop}{e:b7->f8->Prop}{f:qVS}(h:b9 (d7 prog X.w) A m (DB X c st s F Q) u0 s₀)
 (k:∀v b a d,Q v a->i8 X d a b->k7 c st s d a b F->e v b):b9 (d7 prog X.w) A m e f s₀:=
 v6 h (λv b⟨a,d,q,R,S⟩=>k v b a d q R S) λg g x=>x.elim
theorem Iy{P:a7 b8->Prop}{Q:a7 b0->St->Prop}{g:a7 b8->f8->Prop}{i:qVS}(h:b9 (d7 prog X.w) A m (λb j=>P b/\fK X c st s F Q b j) u0 s₀)
 (k:∀b d,P b->∀f a e,Q f a->i8 X e a d->Vs X.M e a.n d.heap f b->k7 c st s e a d F->g b d):b9 (d7 prog X.w) A m g i s₀:=
 v6 h (λb d⟨p,f,a,e,q,R,l,S⟩=>k b d p f a e q R l S) λn n x=>x.elim
theorem DB.after(x:k7 c st s c' st' s' F){Q:b7->St->Prop}(p:DB X c' st' s' F Q b s''):DB X c st s F Q b s'':=by obtain⟨a,d,e,R,f⟩:=p;exact⟨a,d,e,R,x.trans f⟩theorem k7.v(R:i8 X c st s)(x:k7 c st s c' st' s' y6){d:b0}{v:b8}(a:Internal.V X.M c st.n s.heap d v):Internal.V X.M c' st'.n s'.heap d v:=x.V R (λb h=>h.elim) a
theorem Qz{α:Type}{k:b8->M6 α}{f:α->f8->Prop}(h:b9 (d7 prog X.w) A m (j6 X c st s y6 Q) u0 s)
 (g:∀v d e a b,Q d a->i8 X e a b->V X.M e a.n b.heap d v->k7 c st s e a b y6->b9 (d7 prog X.w) A (k v) f u0 b):b9 (d7 prog X.w) A (m>>=k) f u0 s:=
 b5 (v6 h (λv b⟨d,a,e,i,R,j,S⟩=>g v d e a b i R j S) λl l x=>x)
theorem Y8(S:k7 c st s c' st' s' y6)(h:b9 (d7 prog X.w) A m (j6 X c' st' s' y6 Q) u0 s''):b9 (d7 prog X.w) A m (j6 X c st s y6 Q) u0 s'':=
 v6 h (λa a p=>p.after S) λa a x=>x
theorem TL{Q:b7->St->Prop}(S:k7 c st s c' st' s' y6)(h:b9 (d7 prog X.w) A m (DB X c' st' s' y6 Q) u0 s'):b9 (d7 prog X.w) A m (DB X c st s y6 Q) u0 s':=
 v6 h (λa a p=>p.after S) λa a x=>x
theorem il:SX prog X C A sc (.e (.int i)) (.Constant (.int i) k pos):=λa a a a a a a a R h=>qI (j6.toks R (V.int _ _) h)theorem kt:SX prog X C A sc (.e .none) (.Constant .none k pos):=λa a a a a a a a R h=>wpAny_Constant_none (j6.U R (d:=.none) rfl h)theorem kx:SX prog X C A sc (.e (.bool b)) (.Constant (.bool b) k pos):=λa a a a a a a a R h=>wpAny_Constant_bool (j6.U R (d:=.bool b) rfl h)
theorem Rp(x:j3)(t:Dj):V base c n h (q9 x) (.str (nm x) t):=⟨t,by
 let a:nm x=D0 (x.toList.map Gi):=by unfold nm;rw[Qv];rfl
 rw[a]⟩theorem ot:SX prog X C A sc (.str x) (.Constant (.str (nm x)) k pos):=λa a a a a a a a R h=>Vf (j6.toks R (Rp x _) h)
def GR(sc:E7)(x:j3):b7:=
 (decide (sc.names.lookup (nm x)=a0 .local)||(decide (sc.names.lookup (nm x)=a0 .cell)||decide (sc.names.lookup (nm x)=a0 .free)))&&(x != "__classdict__"&&(x != "__debug__"&&x != ".0"))theorem ph(h:GR env.scope x=a8):(env.kindOf (nm x)=a0 .local\/cf env (nm x))/\x≠"__classdict__"/\x≠"__debug__"/\x≠".0":=by let a:=G5 h;ext1 a b h;let a:=G5 h;ext1 a c h;let a:=G5 h;ext1 a d e;exact M4 ((DL b).imp C5 λh=>(DL h).imp C5 C5) (bne_iff_ne.mp c) (bne_iff_ne.mp d) (bne_iff_ne.mp e)
theorem bI(e:GR sc x=a8):SX prog X C A sc (.a x) (.Name (nm x) pos):=by
 intro c n s m ρ Q f H R h;subst f;let a:=ph e;ext1 a g i j k
 conv at h=>whnf
 cases b:ρ x with
 |none=>rw[b]at h;exact h.elim
 |some d=>rw[b]at h;exact wpAny_Name (H.load b g i k λv l=>j6.U R l h) (QX j)
theorem tT(l:SX prog X C A sc a a')(m:SX prog X C A sc b b'):SX prog X C A sc (.bin o a b) (.BinOp a' (Ic o) b' pos):=by
 intro c x s r ρ Q g H R h
 conv at h=>whnf
 rw[arm_eval_BinOp];exact Qz (l g H R h) λv d y t z f i n j=>Qz (L0 (m g (H.step R j) i f)) λu e B w D f p q k=>Nt (Pp (Y8 (j.trans k) (zG p (k.v i n) q f)))theorem Dr{Q:b7->f8->Prop}(h:Q b s):b9 (d7 prog X.w) A (truthy (.bool b)) Q u0 s:=Go h
set_option tactic.hygienic true in
theorem vu(k:SX prog X C A sc a a')(l:SX prog X C A sc b b'):SX prog X C A sc (.and a b) (.BoolOp .And [a',b'] pos):=by
 intro c p s o ρ Q i H R h
 conv at h=>whnf
 refine wpAny_And2 (B6 (k i H R h) λv q d g m e j n f=>?_);cases d<;>first|exact e.elim|skip
 rename_i t;obtain rfl:=n;cases t with
 |false=>exact Dr ⟨_,g,m,e,j,rfl,f⟩
 |true=>exact Dr (Y8 f (l i (H.step R f) j e))
set_option tactic.hygienic true in
theorem sC(k:SX prog X C A sc a a')(l:SX prog X C A sc b b'):SX prog X C A sc (.or a b) (.BoolOp .Or [a',b'] pos):=by
 intro c p s o ρ Q i H R h
 conv at h=>whnf
 refine wpAny_Or2 (B6 (k i H R h) λv q d g m e j n f=>?_);cases d<;>first|exact e.elim|skip
 rename_i t;obtain rfl:=n;cases t with
 |true=>exact Dr ⟨_,g,m,e,j,rfl,f⟩
 |false=>exact Dr (Y8 f (l i (H.step R f) j e))def isK(e:j9)(k:a6):b7:=LN e.ctorIdx k
def AF(e:j9):b7:=!isK e 7
theorem TQ(h:AF e=a8):behindInMarks op e=c8:=by cases e<;>first|rfl|exact no h
theorem sZ(m:Bn A)(n:SX prog X C A sc a a')(p:SX prog X C A sc b b')(q:AF b'=a8):SX prog X C A sc (.cmp o a b) (.Compare a' [Cy o] [b'] pos):=by
 intro c E s z ρ Q i H R h
 conv at h=>whnf
 refine wpAny_Compare1 (B6 (n i H R h) λv F d B G f j t k=>?_) (TQ q);refine B6 (p i (H.step R k) j f) λu I e D J f w x l=>?_;split at f
 .rename_i r y;exact Y8 (k.trans l) (FY (by let g:=m.hu;exact gB g rfl:A.units+12<t3) w (l.v j t) x y f)
 .exact f.elim
set_option tactic.hygienic true in
theorem vT(q:Bn A)(t:SX prog X C A sc a a')(w:SX prog X C A sc b b')(x:AF b'=a8):ST prog X C A sc (.cmp o a b) (.Compare a' [Cy o] [b'] pos):=by
 intro c k s J ρ Q l H R h
 conv at h=>whnf
 refine wpAny_isTrue_Compare1 (B6 (t l H R h) λv M d K N f m i n=>?_) (TQ x);refine B6 (w l (H.step R n) m f) λu O e L P f y B p=>?_;split at f
 .rename_i r D;refine B6 (FY (F:=y6) (Q:=λd k=>d= .bool r/\Q r k) (by let g:=q.hu;exact gB g rfl:A.units+12<t3) y (p.v m i) B D ⟨rfl,f⟩) λv S d j E z G i I=>?_;obtain⟨rfl,f⟩:=z;obtain rfl:=i;exact Dr ⟨j,E,f,G,(n.trans p).trans I⟩
 .exact f.elim
theorem cH{o:My}{b c:j9}(a:AF c=a8):lastMarks [o,p] [b,c]=c8:=by exact TQ a
theorem xK(M:Bn A)(N:SX prog X C A sc a a')(O:SX prog X C A sc b b')(P:SX prog X C A sc g g')(S:AF g'=a8):SX prog X C A sc (.cmp2 o p a b g) (.Compare a' [Cy o,Cy p] [b',g'] pos):=by
 intro c t s W ρ Q B H R h
 conv at h=>whnf
 let j:A.units+12<t3:=by let q:=M.hu;exact gB q rfl
 refine Compare_chain (B6 (N B H R h) λv s1 d Y c1 i D k w=>?_) (cH S);refine chain_link (B6 (O B (H.step R w) D i) λu s2 e I c2 i E G l=>?_);split at i
 .rename_i x;refine B6 (FY (F:=y6) (Q:=λd t=>d= .bool a8/\t=I) j E (l.v D k) G x ⟨rfl,rfl⟩) λv T d n K z y k m=>?_;clear x;obtain⟨rfl,rfl⟩:=z;obtain rfl:=k;refine Dr (chain_last (B6 (P B (H.step R ((w.trans l).trans m)) y i) λz s4 f Z c4 i U V L=>?_));split at i
  .rename_i r J;exact Y8 (((w.trans l).trans m).trans L) (FY j U (L.v y (m.v E G)) V J i)
  .exact i.elim
 .rename_i x;refine B6 (FY (F:=y6) (Q:=λd t=>d= .bool c8/\Q d t) j E (l.v D k) G x ⟨rfl,i⟩) λv T d n K z y k m=>?_;obtain⟨rfl,i⟩:=z;obtain rfl:=k;exact Dr ⟨_,n,K,i,y,rfl,(w.trans l).trans m⟩
 .exact i.elim
set_option tactic.hygienic true in
theorem wT(N:Bn A)(O:SX prog X C A sc a a')(P:SX prog X C A sc b b')(S:SX prog X C A sc g g')(T:AF g'=a8):ST prog X C A sc (.cmp2 o p a b g) (.Compare a' [Cy o,Cy p] [b',g'] pos):=by
 intro c l s env ρ Q B H R h
 conv at h=>whnf
 let k:A.units+12<t3:=by let t:=N.hu;exact gB t rfl
 refine isTrue_chain (B6 (O B H R h) λv s1 d st1 c1 i D j w=>?_) (cH T);refine test_link (B6 (P B (H.step R w) D i) λu s2 e I c2 i E G m=>?_);split at i
 .rename_i x;refine B6 (FY (F:=y6) (Q:=λd l=>d= .bool a8/\l=I) k E (m.v D j) G x ⟨rfl,rfl⟩) λv U d q L z y j n=>?_;clear x;obtain⟨rfl,rfl⟩:=z;obtain rfl:=j;refine Dr (test_last (B6 (S B (H.step R ((w.trans m).trans n)) y i) λz s4 f st4 c4 i V W M=>?_));split at i
  .rename_i r J;refine B6 (FY (F:=y6) (Q:=λd l=>d= .bool r/\Q r l) k V (M.v y (n.v E G)) W J ⟨rfl,i⟩) λv s5 d K Y z Z j S5=>?_;obtain⟨rfl,i⟩:=z;obtain rfl:=j;exact Dr ⟨K,Y,i,Z,(((w.trans m).trans n).trans M).trans S5⟩
  .exact i.elim
 .rename_i x;refine B6 (FY (F:=y6) (Q:=λd l=>d= .bool c8/\Q c8 l) k E (m.v D j) G x ⟨rfl,i⟩) λv U d q L z y j n=>?_;obtain⟨rfl,i⟩:=z;obtain rfl:=j;exact Dr ⟨q,L,i,y,(w.trans m).trans n⟩
 .exact i.elim
theorem cq(i:ST prog X C A sc t t')(j:SX prog X C A sc a a')(k:SX prog X C A sc b b'):SX prog X C A sc (.ite t a b) (.IfExp t' a' b' pos):=by
 intro c p s n ρ Q e H R h
 conv at h=>whnf
 refine wpAny_IfExp (v6 (i e H R h) (λv q l=>?_) λm m x=>x);obtain⟨o,r,f,g,d⟩:=l;cases v with
 |true=>exact Y8 d (j e (H.step R d) g f)
 |false=>exact Y8 d (k e (H.step R d) g f)
theorem qt(d:ST prog X C A sc e e'):ST prog X C A sc (.not e) (.UnaryOp .Not e' pos):=by
 intro c m s l ρ Q f H R h
 conv at h=>whnf
 exact wpAny_isTrue_Not (OW (d f H R h) λb n a g i j k=>⟨a,g,i,j,k⟩)
def SA(prog:y9)(X:Fx)(C:Cl)(A:B7)(sc:E7)(op:MI)(e:MX)(Es:a7 j9):Prop:=
 ∀⦃c:Cx⦄⦃st:St⦄⦃s:f8⦄⦃env:I0⦄⦃ρ:Env⦄⦃Q:b7->St->Prop⦄,env.scope=sc->p7 X c st.n s.heap env ρ->i8 X c st s->WT C e ρ st Q->
  b9 (d7 prog X.w) A (allTrue op Es env) (DB X c st s y6 Q) u0 s
theorem MP(he:ST prog X C A sc e e'):SA prog X C A sc op e [e']:=by
 intro c st s env ρ Q hs H R h;cases op with
 |And=>
  refine qD (v6 (he hs H R h) (λb s1 p=>?_) λw0 w0 x=>x);cases b
  .exact p
  .exact wpAny_allTrue_And_nil p
 |Or=>
  refine pX (v6 (he hs H R h) (λb s1 p=>?_) λw0 w0 x=>x);cases b
  .exact wpAny_allTrue_Or_nil p
  .exact p
theorem Uj(j:ST prog X C A sc a a')(k:SA prog X C A sc .And b r):SA prog X C A sc .And (.and a b) (a'::r):=by
 intro c o s n ρ Q f H R h
 conv at h=>whnf
 refine qD (v6 (j f H R h) (λt q p=>?_) λl l x=>x);obtain⟨e,m,g,i,d⟩:=p;cases t with
 |false=>exact⟨e,m,g,i,d⟩
 |true=>exact TL d (k f (H.step R d) i g)
theorem RX(j:ST prog X C A sc a a')(k:SA prog X C A sc .Or b r):SA prog X C A sc .Or (.or a b) (a'::r):=by
 intro c o s n ρ Q f H R h
 conv at h=>whnf
 refine pX (v6 (j f H R h) (λt q p=>?_) λl l x=>x);obtain⟨e,m,g,i,d⟩:=p;cases t with
 |true=>exact⟨e,m,g,i,d⟩
 |false=>exact TL d (k f (H.step R d) i g)theorem NQ(h:SA prog X C A sc op e Es):ST prog X C A sc e (.BoolOp op Es pos):=λa a a a a a b H R c=>wpAny_isTrue_BoolOp (h b H R c)def Iw(e:j9):b7:=!(isK e 0||(isK e 3||(isK e 5||isK e 15)))theorem af(h:Iw e=a8):isTrue e env whole=(do let v<-whole;Pg e.pos;holding [v] (truthy v)):=by cases e<;>first|rfl|exact no h
theorem QL(f:Iw e'=a8)(g:∀⦃c:Cx⦄⦃st:St⦄⦃s:f8⦄⦃env:I0⦄⦃ρ:Env⦄⦃Q:b7->St->Prop⦄,env.scope=sc->p7 X c st.n s.heap env ρ->i8 X c st s->WT C e ρ st Q->
 b9 (d7 prog X.w) A (eval e' env) (λv a=>∃b,v= .bool b/\DB X c st s y6 Q b a) u0 s):ST prog X C A sc e e':=by
 intro c st s env ρ Q i H R h;refine wpAny_isTrue_value (v6 (g i H R h) (λv a d=>?_) λj j x=>x) (af f);ext c9 d b rfl p;exact Dr p
theorem Uf{Q:b7->St->Prop}(h:b9 (d7 prog X.w) A (eval e' env) (j6 X c a s y6 λd a=>match d with| .bool b=>Q b a|_=>k6) u0 s):
 b9 (d7 prog X.w) A (eval e' env) (λv f=>∃b,v= .bool b/\DB X c a s y6 Q b f) u0 s:=by
 refine v6 h (λv f⟨d,e,i,g,R,j,S⟩=>?_) λk k x=>x;cases d<;>first|exact g.elim|skip
 exact⟨_,j,e,i,g,R,S⟩
theorem uY(d:GR sc x=a8):ST prog X C A sc (.a x) (.Name (nm x) pos):=by
 refine QL rfl λc g s f ρ Q e H R h=>Uf (bI (prog:=prog) (C:=C) d e H R ?_)
 conv at h=>whnf
 conv=>whnf
 cases a:ρ x with
 |none=>rw[a]at h;exact h.elim
 |some b=>rw[a]at h;cases b<;>first|exact h|exact h.elim
def J4(e:j9):b7:=!isK e 22
theorem ON(h:J4 e=a8):Bt (e::r) env=(c8,eval e env)::Bt r env:=by cases e<;>first|rfl|exact no h
end
section
variable{prog:y9}{X:Fx}{C:Cl}{st:St}{s:f8}
theorem i8.toks(R:i8 X c st s)(t:a6):i8 X c st {s with toks:=t}:=R.ext (Ext.refl _) rfl rfl
theorem k7.toks(t:a6):k7 c st s c st {s with toks:=t} F:=k7.ext (Ext.refl _)
def SD(prog:y9)(X:Fx)(C:Cl)(A:B7)(sc:E7)(es:Xs)(Es:a7 j9):Prop:=
 ∀⦃c:Cx⦄⦃st:St⦄⦃s:f8⦄⦃env:I0⦄⦃ρ:Env⦄⦃Q:a7 b0->St->Prop⦄(pos:X1),env.scope=sc->p7 X c st.n s.heap env ρ->i8 X c st s->Ws C es ρ st Q->
  b9 (d7 prog X.w) A (spliced (Ch pos (Bt Es env))) (λvs s'=>vs.length=Es.length/\fK X c st s y6 Q vs s') u0 s
theorem GC:SD prog X C A sc .nil []:=λa b a a a a a a a R h=>JP ⟨rfl,[],b,_,h,R,rfl,k7.refl⟩
theorem Fc(m:SX prog X C A sc e e')(n:SD prog X C A sc es r)(o:J4 e'=a8):SD prog X C A sc (.cons e es) (e'::r):=by
 intro c z s x ρ Q b i H R h
 conv at h=>whnf
 refine Mw (B6 (m i H R h) λv B d y D a j p k=>?_) (ON o);exact Iy (n b i (H.step R k) j a) λq E t F f u a w g l=>⟨by rw[N6,N6,t],_,f,u,a,w,(E9 v q rfl (l.v j p) g),k.trans l⟩
theorem gz(h:SD prog X C A sc es Es)(hz:Es.length<=1000):SX prog X C A sc (.B es) (.Tuple Es k pos):=by
 intro c n s l ρ Q d H R b
 conv at b=>whnf
 exact wpAny_Tuple (Iy (h pos d H R b) λe o f p m q g i a j=>⟨by rw[f,O3];exact p6,(j6.B i (vs:=e.toArray) (by simpa using a) g).after j⟩)
theorem rz(h:SD prog X C A sc es Es)(hz:Es.length<=1000):SX prog X C A sc (.L es) (.List Es pos):=by
 intro c m s k ρ Q e H R b
 conv at b=>whnf
 exact wpAny_List (Iy (h pos e H R b) λf n d o l p g i a j=>⟨by rw[d,O3];exact p6,(j6.list i (vs:=f.toArray) (by simpa using a) (by rw[<-(Vs.length a),d];exact p6) g).after j⟩)
theorem ai:SX prog X C A sc (.D [] .nil) (.Dict [] [] pos):=by
 intro c d s b ρ Q f H R a
 conv at a=>whnf
 exact wpAny_Dict_empty (j6.new R (l8 _) (Ext.push _ _) rfl rfl (J3.D (xs:=[]) (items:=#[]) (e:=0) (A0 _ rfl) rfl Gu (F9 _)) a)
theorem Np(R:i8 X c st s)(f:V X.M c st.n s.heap d v)(h:(∃i,st.items? d=a0 i)\/(∃m,st.dict? d=a0 m)\/(∃l,d= .str l)\/∃i,d= .ro i):
 ∃T p,s.TypeIs v T/\Ci (.type T) "__getitem__"=pure (a0 (.builtin p)):=by
 rcases h with⟨i,h⟩|⟨m,h⟩|⟨l,rfl⟩|⟨i,rfl⟩
 .refine FO (R.items f h) ?_;clear f;rintro a k e rfl j q;rcases q with⟨g,_,_⟩|⟨b,_,_,_,_,g,_⟩
  .exact P9 ("tuple") _ (d0 _ g rfl) PySem.F.slot_tuple_getitem.lookup
  .exact P9 ("list") _ (d0 _ g rfl) PySem.F.slot_list_getitem.lookup
 .refine M0 (R.dict f h) ?_;clear f;rintro a n e j j j rfl g j;exact P9 ("dict") _ (d0 _ g rfl) PySem.F.slot_dict_getitem.lookup
 .ext d4 f t rfl;exact P9 ("str") _ rfl PySem.F.slot_str_getitem.lookup
 .ext n4 f a u rfl ⟨o,g,r,_⟩ _;exact P9 ("list") _ (d0 _ (R.stays _ _ g) r) PySem.F.slot_list_getitem.lookup
theorem vS{v:b8}{T b:j3}(a:s.TypeIs v T)(c:Ci (.type T) "__getitem__"=pure (a0 (.builtin b))){Q:b7->f8->Prop}(h:Q c8 s):b9 (d7 prog X.w) A (getitemInPython v) Q u0 s:=by rw[getitemInPython_of_ne a.not_modules];exact b5 (HH a c (f6 h))
theorem NS{Q:qVS}
 (h:b9 (d7 prog X.w) A (eval value env) (λo s1=>b9 (d7 prog X.w) A (eval slice env) (λi s2=>(∃T id,s2.TypeIs o T/\Ci (.type T) "__getitem__"=pure (a0 (.builtin id)))/\b9 (d7 prog X.w) A (Ga o i) Q u0 s2) u0 s1) u0 s):
 b9 (d7 prog X.w) A (eval (.Subscript value slice pos) env) Q u0 s:=by
 rw[arm_eval_Subscript];refine b5 (v6 h (λo s1 h1=>?_) λw0 w0 x=>x);refine b5 (L0 (v6 h1 (λi s2 h2=>?_) λw0 w0 x=>x));ext k9 h2 ⟨T,id,hT,hl⟩ h2;refine b5 (Fs (b5 (vS hT hl ?_)));let main:b9 (d7 prog X.w) A (subscripted slice c8 o i) (λr s3=>Q r s3) u0 s2:=by
  cases slice with
  |Slice a b c p=>clear h h1;cases c with|none=>exact Pp h2|some c=>exact Pp h2
  |_=>exact Pp h2
 exact b5 (v6 main (λr s3 h3=>b5 (mW (f6 h3))) λw0 w0 x=>x)
theorem sH(h:J9 d i st=a0 x):(∃xs,st.items? d=a0 xs)\/(∃es,st.dict? d=a0 es)\/(∃l,d= .str l)\/∃xs,d= .ro xs:=by
 cases WV h with
 |st=>exact .inr (.inr (.inl ⟨_,rfl⟩))
 |it xs h1=>exact .inl ⟨xs,h1⟩
 |dc es h1=>exact .inr (.inl ⟨es,h1⟩)
theorem fv(p:Bn A)(q:SX prog X C A sc e e')(hi:SX prog X C A sc i i'):SX prog X C A sc (.sub e i) (.Subscript e' i' pos):=by
 intro c B s w ρ Q g H R h
 conv at h=>whnf
 refine NS (B6 (q g H R h) λv D d y E a j r l=>B6 (hi g (H.step R l) j a) λu F k z G a m t n=>?_);split at a
 .rename_i x o;let b:=n.v j r;exact⟨Np m b (sH o),Y8 (l.trans n) (uv (by let f:=p.hu;exact gB f rfl:A.units+12<t3) m b t o a)⟩
 .exact a.elim
theorem Sq(f:o=Eh d k st\/o=Er d k st\/o=Fi d st)(h:o8 o Q):(∃a,st.items? d=a0 a)\/(∃g,st.dict? d=a0 g)\/(∃l,d= .str l)\/∃a,d= .ro a:=by
 have e:∀a,st.list? d=a0 a->∃a,st.items? d=a0 a:=by intro a b;clear f;cases d<;>first|(cases b;done)|exact⟨a,b⟩
 rcases f with rfl|rfl|rfl
 .exact Xd h (λa b c c=>.inl (e a b)) λa b c c=>.inr (.inr (.inr ⟨a,b⟩))
 .exact aO h (λa b c c=>.inl (e a b)) λa b c c=>.inl ⟨a,by rw[b];rfl⟩
 .exact fE h λa b c=>.inl (e a b)
theorem TypeIs.push(h:s.TypeIs v T):EL {s with heap:=s.heap.push o} v T:=by
 cases v with
 |ref a=>ext c9 h x b c;exact d0 x (A9 _ b) c
 |_=>exact h
theorem dg(o:SX prog X C A sc e e')(hi:SX prog X C A sc i i'):SX prog X C A sc (.to e i) (.Subscript e' (.Slice b4 (a0 i') b4 p) pos):=by
 intro c E s z ρ Q f H R h
 conv at h=>whnf
 refine NS (B6 (o f H R h) λv F d B G a g q j=>Wz (f6 (B6 (hi f (H.step R j) g a) λu r k D I a l m n=>f6 ?_)));cases k<;>first|exact a.elim|skip
 rename_i k;ext d4 m t rfl;have b:=n.v g q;exact F8 (Np l b (Sq (.inl rfl) a)) λT w x y=>⟨(P9 T w (TypeIs.push x) y),Y8 (s':=r) (j.trans n) (vP l b a)⟩
theorem yZ(o:SX prog X C A sc e e')(hi:SX prog X C A sc i i'):SX prog X C A sc (.from e i) (.Subscript e' (.Slice (a0 i') b4 b4 p) pos):=by
 intro c E s z ρ Q f H R h
 conv at h=>whnf
 refine NS (B6 (o f H R h) λv F d B G a g q j=>Wz (B6 (hi f (H.step R j) g a) λu r k D I a l m n=>f6 (f6 ?_)));cases k<;>first|exact a.elim|skip
 rename_i k;ext d4 m t rfl;have b:=n.v g q;exact F8 (Np l b (Sq (.inr (.inl rfl)) a)) λT w x y=>⟨(P9 T w (TypeIs.push x) y),Y8 (s':=r) (j.trans n) (jc l b a)⟩
theorem mt(l:SX prog X C A sc e e'):SX prog X C A sc (.rev e) (.Subscript e' (.Slice b4 b4 (a0 (.UnaryOp .USub (.Constant (.int 1) k p1) p2)) p) pos):=by
 intro c m s x ρ Q n H R h
 conv at h=>whnf
 refine NS (B6 (l n H R h) λv a d b g i o q r=>Wz (f6 (f6 (wpAny_UnaryOp (qI (P.neg_int ?_))))));have j:=o.toks (a.toks+1+1);have f:V X.M g b.n ({a with toks:=a.toks+1+1}).heap d v:=q;exact F8 (Np j f (Sq (k:=0) (.inr (.inr rfl)) i)) λT t u w=>⟨(P9 T t (TypeIs.push u) w),Y8 (r.trans (k7.toks _):k7 c m s g b {a with toks:=a.toks+1+1} y6) (km j f i)⟩
end
def Hh:a7 (j3×b8):=
 [("len",.builtin "len"),("str",.type "str"),("int",.type "int"),("tuple",.type "tuple"),("list",.type "list"),("dict",.type "dict"),("sum",.builtin "sum"),("max",.builtin "max"),
  ("min",.builtin "min"),("sorted",.builtin "sorted"),("set",.type "set"),("range",.type "range"),("zip",.type "zip"),("enumerate",.type "enumerate")]
structure Laid0 (X:Fx):Prop where
 glob:X.M.Ns X.g X.mg
 blt:X.M.Ns X.b X.mb
 lim:X.M.NoLimit
 bi:∀p∈Hh,X.mg (nm p.1)=b4/\X.mb (nm p.1)=a0 p.2
def N9(sc:E7)(x:j3):b7:=sc.names.lookup (nm x)==a0 .globalImplicit&&x != "__debug__"
section
variable{prog:y9}{X:Fx}{st:St}
theorem KJ(L:Laid0 X)(H:p7 X c st.n s.heap env ρ)(R:i8 X c st s)(b:(x,v)∈Hh)(a:N9 env.scope x=a8){Q:qVS}(h:Q v s):
 b9 (d7 prog X.w) A (eval (.Name (nm x) pos) env) Q u0 s:=by
 unfold N9 at a;simp only[C4,Al,ME]at a;exact nK H.kind a.1 (Calls.loadGlobal_builtin (by rw[H.g];exact L.glob.keeps R.stays:s.heap.Ns env.globals X.mg) (L.bi _ b).1 (by rw[H.b];exact L.blt.keeps R.stays:s.heap.Ns env.builtins X.mb) (L.bi _ b).2 h) (QX a.2)
theorem FT:∀{a:a7 j9},a.all J4=a8->(Ch pos (Bt a env)).any (·.1)=c8:=by
 intro b
 induction b with
 |nil=>intro d;exact rfl
 |cons e r c=>intro h;simp only[Mp,C4]at h;rw[ON h.1];refine(?_:(c8||(Ch pos (Bt r env)).any (·.1))=c8);rw[c h.2];rfl
theorem FH{E:qVS}{Q:Args->f8->Prop}(a:Es.all J4=a8)(h:b9 M A (spliced (Ch pos (Bt Es env))) (λb c=>Q ⟨b,[]⟩ c) E s):
 b9 M A (evalArgs f a8 (Ch pos (Bt Es env)) []) Q E s:=by
 cases Es with
 |nil=>refine b5 (v6 h (λb c d=>b5 (f6 ?_)) λg g x=>x);exact L0 (b5 (f6 (b5 (f6 (f6 d)))))
 |cons e r=>simp only[Mp,C4]at a;rw[ON a.1]at h ⊢;exact Calls.evalArgs_plain h
theorem YR{Q1:a7 b0->St->Prop}{Q:qVS}(q:(∃o,f= .builtin o)\/∃T,f= .type T)(j:Es.all J4=a8)
 (h:SD prog X C A sc es Es)(hs:env.scope=sc)(H:p7 X c st.n s.heap env ρ)(R:i8 X c st s)(r:Ws C es ρ st Q1)
 (p:∀e g k b i,Q1 g b->i8 X k b i->Vs X.M k b.n i.heap g e->k7 c st s k b i y6->b9 (d7 prog X.w) A (call f (first++e)) Q u0 i):
 b9 (d7 prog X.w) A (PF pos f first (Ch pos (Bt Es env)) []) Q u0 s:=by
 let d:b9 (d7 prog X.w) A (evalArgs f a8 (Ch pos (Bt Es env)) []) (λa l=>b9 (d7 prog X.w) A (call f (first++a.pos) a.kw) Q u0 l) u0 s:=by exact FH j (Iy (h pos hs H R r) λe l x g m t u v n w=>p e g t m l u v n w)
 clear p;rcases q with⟨o,rfl⟩|⟨T,rfl⟩
 .exact PC (FT j) d
 .exact WR (FT j) d
theorem Hn{Q1:a7 b0->St->Prop}{Q:qVS}(L:Laid0 X)(g:(x,v)∈Hh)(i:(∃j,v= .builtin j)\/∃T,v= .type T)(k:Es.all J4=a8)(l:N9 sc x=a8)
 (h:SD prog X C A sc es Es)(hs:env.scope=sc)(H:p7 X c st.n s.heap env ρ)(R:i8 X c st s)(m:Ws C es ρ st Q1)
 (n:∀e f d a b,Q1 f a->i8 X d a b->Vs X.M d a.n b.heap f e->k7 c st s d a b y6->b9 (d7 prog X.w) A (call v e) Q u0 b):
 b9 (d7 prog X.w) A (eval (.Call (.Name (nm x) p) Es [] pos) env) Q u0 s:=by
 exact Ht (KJ L H R g (hs▸l) (YR (first:=[]) i k h hs H R m n))
def KI(f:Bi):j3:=match f with
 | .len=>"len"| .str=>"str"| .int=>"int"| .tuple=>"tuple"| .dict=>"dict"| .sum=>"sum"| .max=>"max"| .min=>"min"| .sorted=>"sorted"
 |_=>""
def Od(f:Bi):b8:=match f with
 | .len=>.builtin "len"| .str=>.type "str"| .int=>.type "int"| .tuple=>.type "tuple"| .dict=>.type "dict"| .sum=>.builtin "sum"| .max=>.builtin "max"| .min=>.builtin "min"| .sorted=>.builtin "sorted"
 |_=>.none
def NB(f:Bi):b7:=match f with
 | .sS=>c8| .sI=>c8| .lR=>c8| .dZ=>c8
 |_=>a8
theorem As(i:a6)(h:Hh[i]?=a0 p):p∈Hh:=p8 h
theorem Zr(h:NB f=a8):(KI f,Od f)∈Hh/\((∃id,Od f= .builtin id)\/∃T,Od f= .type T):=by
 cases f with
 |len=>exact⟨As 0 rfl,.inl ⟨_,rfl⟩⟩
 |str=>exact⟨As 1 rfl,.inr ⟨_,rfl⟩⟩
 |int=>exact⟨As 2 rfl,.inr ⟨_,rfl⟩⟩
 |tuple=>exact⟨As 3 rfl,.inr ⟨_,rfl⟩⟩
 |dict=>exact⟨As 5 rfl,.inr ⟨_,rfl⟩⟩
 |sum=>exact⟨As 6 rfl,.inl ⟨_,rfl⟩⟩
 |max=>exact⟨As 7 rfl,.inl ⟨_,rfl⟩⟩
 |min=>exact⟨As 8 rfl,.inl ⟨_,rfl⟩⟩
 |sorted=>exact⟨As 9 rfl,.inl ⟨_,rfl⟩⟩
 |_=>exact no h
theorem NV(x:Vs base c n h [d] vs):∃v,vs=[v]/\V base c n h d v:=by ext n4 x v r rfl a b;exact d0 v (by rw[show r=[] from b]) a
theorem YF(x:Vs base c n h [d,e] vs):∃v u,vs=[v,u]/\V base c n h d v/\V base c n h e u:=by ext n4 x v r rfl b a;refine c9 (NV a) ?_;clear a;rintro u rfl f;exact E9 v u rfl b f
theorem OL(a:Vs base c n hp ds vs)(h:o8 (DJ ds k k2) Q)(H:∀d v,V base c n hp d v->o8 (k d) Q->b9 M A (call f [v]) Qp Ep s)(g:∀d e v u,V base c n hp d v->V base c n hp e u->o8 (k2 d e) Q->b9 M A (call f [v,u]) Qp Ep s):b9 M A (call f vs) Qp Ep s:=by
 cases ds with
 |nil=>exact h.elim
 |cons d r=>
  cases r with
  |nil=>refine c9 (NV a) ?_;clear a;rintro v rfl b;exact H d v b h
  |cons e r=>
   cases r with
   |nil=>refine n4 (YF a) ?_;clear a;rintro v u rfl b i;exact g d e v u b i h
   |cons=>exact h.elim
theorem EQ(b:Vs base c n hp ds vs)(h:o8 (CA ds k) Q)(H:∀d v,V base c n hp d v->o8 (k d) Q->b9 M A (call f [v]) Qp Ep s):b9 M A (call f vs) Qp Ep s:=OL b h H λa a a a a a h=>h.elim
theorem mc(a:Vs base c n hp ds vs)(h:o8 (ZK ds k2) Q)(g:∀d e v u,V base c n hp d v->V base c n hp e u->o8 (k2 d e) Q->b9 M A (call f [v,u]) Qp Ep s):b9 M A (call f vs) Qp Ep s:=OL a h (λb b b h=>h.elim) g
theorem IN{k:d3->j0 (b0×St)}(G:b8->Prop)(a:V base c n hp d v)(h:o8 (Ej d k) Q)(H:∀i t,o8 (k i) Q->G (.int i t)):G v:=by
 cases d with
 |int i=>ext d4 a t rfl;exact H i t h
 |_=>exact h.elim
theorem rZ(hp:NB f=a8)(hA:Bn A)(R:i8 X c st s)(hvs:Vs X.M c st.n s.heap ds vs)(h:o8 (M3 f ds st) Q):
 b9 (d7 prog X.w) A (call (Od f) vs) (j6 X c st s F Q) u0 s:=by
 let hu:=hA.hu;cases f with
 |len=>exact EQ hvs h λd v hv h=>gk R hv h
 |str=>exact EQ hvs h λd v hv h=>ew R hv h
 |int=>exact EQ hvs h λd v hv h=>IN (λv=>b9 _ A (call _ [v]) _ _ _) hv h λi t h=>rC R h
 |tuple=>exact EQ hvs h λd v hv h=>sR R hv h
 |dict=>refine EQ hvs h λd v hv h=>?_;let zz:=CZ h;ext1 zz es hx h;let zz:=An h;ext1 zz h8 h;exact re (gB hu rfl) R hv hx h8.1 h8.2 h
 |sum=>exact EQ hvs h λd v hv h=>c9 (CZ h) λxs hx h=>c9 (CZ h) λl hi h=>rI hA.hh R hv hx hi h
 |max=>
  refine OL hvs h (λd v hv h=>?_) λd e v u hv hu h=>IN (λv=>b9 _ A (call _ [v,u]) _ _ _) hv h λi t h=>IN (λu=>b9 _ A (call _ [_,u]) _ _ _) hu h λj t' h=>jq hA.hh R h;refine c9 (CZ h) λxs hx h=>c9 (CZ h) λl hi h=>?_;cases l with
  |nil=>exact h.elim
  |cons y r=>exact bz hA.hh R hv hx hi h
 |min=>
  refine OL hvs h (λd v hv h=>?_) λd e v u hv hu h=>IN (λv=>b9 _ A (call _ [v,u]) _ _ _) hv h λi t h=>IN (λu=>b9 _ A (call _ [_,u]) _ _ _) hu h λj t' h=>xC hA.hh R h;refine c9 (CZ h) λxs hx h=>?_;cases xs with
  |nil=>exact h.elim
  |cons y r=>let zz:=An h;ext1 zz ok h;exact rb (gB hu rfl) hA.hh R hv hx rfl ok h
 |sorted=>refine EQ hvs h λd v hv h=>?_;let zz:=CZ h;ext1 zz xs hx h;let zz:=An h;ext1 zz ok h;exact iv (gB hu rfl) R hv hx ok h
 |_=>exact no hp
theorem wm(L:Laid0 X)(d:Bn A)(a:NB f=a8)(e:Es.all J4=a8)(g:N9 sc (KI f)=a8)(h:SD prog X C A sc es Es):
 SX prog X C A sc (.bi f es) (.Call (.Name (nm (KI f)) p) Es [] pos):=by
 intro c q s n ρ Q i H R j;exact Hn L (Zr a).1 (Zr a).2 e g h i H R j λr t u o v k l b m=>Y8 m (rZ a d l b k)
theorem th(L:Laid0 X)(z:Bn A)(p:J4 e'=a8)(l:N9 sc "list"=a8)(m:N9 sc "range"=a8)(h:SX prog X C A sc e e'):
 SX prog X C A sc (.bi .lR (.cons e .nil)) (.Call (.Name (nm "list") p1) [.Call (.Name (nm "range") p2) [e'] [] pos2] [] pos1):=by
 intro c q s J ρ Q u H R B;refine Ht (KJ L H R (x:="list") (v:=.type "list") (As 4 rfl) (u▸l) (WR (FT (by rfl)) (FH (by rfl) (Mw (Hn (es:=.cons e .nil) (Q1:=λw q=>o8 (M3 .lR w q) Q) L (x:="range") (v:=.type "range") (As 11 rfl) (.inr ⟨_,rfl⟩) (by simp[p]) m (Fc h GC p) u H R B λM w N K D a E n F=>EQ n a λd v G a=>IN (λv=>b9 _ A (call _ [v]) _ _ _) G a λi t a=>?_)))));let k:=An a;ext1 k f a;refine aV λr I g j=>JP ?_;ext SW j O P S j;let y:Ext D.heap I.heap:=⟨g.size,λb o f=>g.keep b o J7 f⟩;exact Y8 (F.trans (k7.ext y)) (vJ z.hh (E.ext y g.gens g.os) f.1 f.2 j a)
theorem vf(L:Laid0 X)(n:Bn A)(g:J4 a'=a8)(h:J4 b'=a8)(k:N9 sc "dict"=a8)(l:N9 sc "zip"=a8)(y:SX prog X C A sc a a')(B:SX prog X C A sc b b'):
 SX prog X C A sc (.bi .dZ (.cons a (.cons b .nil))) (.Call (.Name (nm "dict") p1) [.Call (.Name (nm "zip") p2) [a',b'] [] pos2] [] pos1):=by
 intro c o s J ρ Q p H R D;refine Ht (KJ L H R (x:="dict") (v:=.type "dict") (As 5 rfl) (p▸k) (WR (FT (by rfl)) (FH (by rfl) (Mw (Hn (es:=.cons a (.cons b .nil)) (Q1:=λq o=>o8 (M3 .dZ q o) Q) L (x:="zip") (v:=.type "zip") (As 12 rfl) (.inr ⟨_,rfl⟩) (by simp[g,h]) l (Fc y (Fc B GC h) g) p H R D λM q N K O f r m E=>mc m f λd e v u F G f=>c9 (CZ f) λP i f=>c9 (CZ f) λS t f=>?_)))));let j:=An f;ext1 j w f;exact YM r F G i t λz T I=>JP (Y8 E (ol (gB n.hu rfl) n.hh r I i t w.1 (λx i=>S7 w.2 x i) f))
end
def kid(k:a6)(m:j3):j3:=match k with
 |1=>"list."++m
 |2=>"dict."++m
 |3=>"str."++m
 |_=>"tuple."++m
structure EZ (k:a6) (A:B7):Prop where
 hh:A.handled=b4
 depth:A.depth+3*k+3<lF
 units:A.units+20*k+60<t3
structure DF (k:a6) (A:B7):Prop where
 hh:A.handled=b4
 depth:A.depth+3*k+5<lF
 units:A.units+20*k+75<t3
theorem DF.room(h:DF k A):EZ k A:=⟨h.hh,by let a:=h.depth;exact q5 (G2 (by decide) _) a,by let a:=h.units;exact q5 (G2 (by decide) _) a⟩
structure kb (X:Fx) (cn:j3) (mN:o3->j0 b8):Prop where
 at_:∃N,Hp X.M (X.cls cn) N mN
 noga:mN "__getattribute__"=b4
 nogat:mN "__getattr__"=b4
 nosa:mN "__setattr__"=b4
 fld:∀f,(CF cn).contains f=a8->mN (nm f)=b4/\Ci (.type "object") (nm f)=pure b4
 m:∀m,(BO cn).contains m=a8->mN (nm m)=a0 (.ref (X.fn cn m))/\(∃y,Ci (.type "object") (nm m)=pure y)/\∃o fd,X.M.get? (X.fn cn m)=a0 o/\o.cls= .type "function"/\o.data= .func fd
structure Laid1 (X:Fx):Prop extends Laid0 X where
 cls:∀cn,cn∈["Bank","Tables","Joins","Unions","Heap"]->∃mN,kb X cn mN
 clsName:∀cn,cn∈["Bank","Tables","Joins","Unions","Heap"]->X.mg (nm cn)=a0 (.ref (X.cls cn))
 funName:∀f,(BO "").contains f=a8->X.mg (nm f)=a0 (.ref (X.fn "" f))/\∃o fd,X.M.get? (X.fn "" f)=a0 o/\o.data= .func fd
def GQ(prog:y9)(X:Fx)(C:Cl)(k:a6):Prop:=
 ∀⦃A:B7⦄⦃cl f:j3⦄⦃ds:a7 b0⦄⦃st:St⦄⦃Q:Q1⦄⦃c:Cx⦄⦃s:f8⦄⦃vs:a7 b8⦄,EZ k A->C cl f ds st Q->i8 X c st s->Vs X.M c st.n s.heap ds vs->
  b9 (d7 prog X.w) A (call (.ref (X.fn cl f)) vs) (j6 X c st s y6 Q) u0 s
def FU:j9->b7
 | .Call f ..=>!isK f 23
 |_=>a8
theorem Yt(h:(CF cn).contains f=a8):cn∈["Bank","Tables","Joins","Unions","Heap"]:=Zh h
theorem vQ(h:(BO cn).contains m=a8):cn=""\/cn∈["Bank","Tables","Joins","Unions","Heap"]:=D9 (Zh h)
section
variable{X:Fx}{st:St}
theorem cL(h:FU o=a8):attributeBase o attr env whole=whole:=by
 cases o with
 |Call f as ks p=>cases f with|Name=>exact no h|_=>rfl
 |_=>rfl
theorem ZD(R:i8 X c st s)(g:V X.M c st.n s.heap d v)(f:AX (P8 st d) m=a8){P:b0->b8->a6->Prop}
 (A:∀i a b e,a<st.n->st.h a= .L i->s.heap.get? (c.κ a)=a0 (AN b e)->(m="pop"\/m="append")\/m="extend"->P (.ref a) (.ref (c.κ a)) 1)
 (B:∀i C a b e,a<st.n->st.h a= .D i C->s.heap.get? (c.κ a)=a0 (E5 b e)->(m="pop"\/m="get")\/m="setdefault"->P (.ref a) (.ref (c.κ a)) 2)
 (hs:∀l t,m="isspace"->P (.str l) (.str (D0 l) t) 3)(D:∀o a b e,V X.M c st.n s.heap (.B o) (.ref a)->s.heap.get? a=a0 (x0 b e)->m="index"->P (.B o) (.ref a) 4):P d v (P8 st d):=by
 have n:∀{x y z:j3},((m==x||m==y)||m==z)=a8->(m=x\/m=y)\/m=z:=λh=>(DL h).imp (λh=>(DL h).imp O1 O1) O1;unfold P8 at f ⊢;cases j:st.list? d with
 |some i=>rw[j]at f;refine M0 (R.list g j) ?_;clear g j;rintro a b e rfl q r rfl k u;exact A i a b e q r k (n f)
 |none=>
  rw[j]at f;cases p:st.dict? d with
  |some i=>replace f:AX (match st.dict? d with|some _=>2|none=>To d) m=a8:=f;rw[p]at f;refine M0 (R.dict g p) ?_;rintro a b e rfl q r rfl k u;exact B i e a b e q r k (n f)
  |none=>
   replace f:AX (match st.dict? d with|some _=>2|none=>To d) m=a8:=f;rw[p]at f;clear j p;cases d with
   |str l=>ext d4 g t rfl;exact hs l t (O1 f)
   |B o=>have w:=g;ext H9 g a b e rfl u k u;exact D o a b e w k (O1 f)
   |_=>exact no f
theorem rW(R:i8 X c st s)(n:V X.M c st.n s.heap d v)(f:AX (P8 st d) m=a8):
 ∃T,s.TypeIs v T/\hX T/\Slot T (nm m) (kid (P8 st d) m)/\JI (.builtin (kid (P8 st d) m))=pure (.type "method_descriptor")/\∀a,v= .ref a->∃o,s.heap.get? a=a0 o/\o.dict=b4:=by
 refine ZD (P:=λd v k=>∃T,s.TypeIs v T/\hX T/\Slot T (nm m) (kid k m)/\JI (.builtin (kid k m))=pure (.type "method_descriptor")/\∀a,v= .ref a->∃o,s.heap.get? a=a0 o/\o.dict=b4) R n f
  (λp a g e q r i f=>Hi ("list") (d0 _ i rfl) B_ ?_ ?_ (λb j=>by cases j;exact d0 _ i rfl))
  (λp w a g e q r i f=>Hi ("dict") (d0 _ i rfl) lT ?_ ?_ (λb j=>by cases j;exact d0 _ i rfl))
  (λl t f=>f▸(Hi ("str") rfl z' iZ ya λu h=>by cases h))
  λx a g e u i f=>f▸(Hi ("tuple") (d0 _ i rfl) A_ nB h_ (λb h=>by cases h;exact d0 _ i rfl))
 .rcases f with(rfl|rfl)|rfl
  .exact lX
  .exact kW
  .exact pT
 .rcases f with(rfl|rfl)|rfl
  .exact xj
  .exact yh
  .exact zi
 .rcases f with(rfl|rfl)|rfl
  .exact iN
  .exact iK
  .exact oQ
 .rcases f with(rfl|rfl)|rfl
  .exact l_
  .exact zh
  .exact zk
theorem np(y:Bn A)(R:i8 X c st s)(r:V X.M c st.n s.heap d v)(f:Vs X.M c st.n s.heap g vs)(z:AX (P8 st d) m=a8)(h:o8 (Ac m d g st) Q):
 b9 (d7 prog X.w) A (call (.builtin (kid (P8 st d) m)) ([v]++vs)) (j6 X c st s F Q) u0 s:=by
 let w:=y.hu;revert h;have x:∀{a:a6}{o:AO},a<st.n->st.h a=o->o8 (Ac m (.ref a) g st) Q->o8 (match o with| .L n=>FL m a n g st| .D u q=>Fg m a u q g st|_=>b4) Q:=λ{a o}i B h=>by
  replace h:o8 (if a<st.n then(match st.h a with| .L n=>FL m a n g st| .D u q=>Fg m a u q g st|_=>b4)else b4) Q:=h;rw[g0 i,B]at h;exact h
 exact ZD (P:=λd v k=>o8 (Ac m d g st) Q->b9 (d7 prog X.w) A (call (.builtin (kid k m)) ([v]++vs)) (j6 X c st s F Q) u0 s) R r z
  (λn a b e i p j j h=>qn R i p f (x i p h)) (λn q a b e i p j j h=>ue (gB w rfl) R i p f (x i p h))
  (λl t j h=>mv R f h) λg a b e r j j h=>zL (gB w rfl) R r f h
theorem lw:∀{a:a7 j9},a.all J4=a8->(Ch pos (Bt a env)).all (λx=>!x.1)=a8:=by
 intro b
 induction b with
 |nil=>intro d;exact rfl
 |cons e r c=>intro h;replace h:=G5 h;rw[ON h.1];refine(?_:(a8&&(Ch pos (Bt r env)).all λx=>!x.1)=a8);rw[c h.2];rfl
theorem XE{Q:qVS}{E:qVS}(j:FU o=a8)(k:Es.all J4=a8)(c:Es.length<30)(a:(apos.endLine==pos.line)=a8)
 (h:b9 M A (eval o env) (λf g=>∀l,b9 M A (getMethod f name l) (λp i=>b9 M A (PF pos p.1 p.2 (Ch pos (Bt Es env)) []) Q E i) E g) E s):
 b9 M A (eval (.Call (.Attribute o name apos) Es [] pos) env) Q E s:=by
 rw[arm_eval_Call,cL j];refine b5 (v6 h (λf g m=>b5 (Fs ?_)) λd d e=>e);let b:iI (Es.length+[].length) (Ch pos (Bt Es env)) (backToKw pos (keywordEach [] env))=a8:=by unfold iI;rw[lw k];exact MN c
 unfold methodCall;rw[b];unfold calleeOf;refine b5 (L0 (v6 (m _) (λp i n=>?_) λd d e=>e));exact b5 (JY (by unfold iV;simp[a]:iV a8 o env apos pos=pure pos) n)
theorem Sd(R:i8 X c st s)(l:V X.M c st.n s.heap d v)(h:st.inst? d=a0 (cn,e))(i:st.h e= .fld es):
 ∃x j,v= .ref x/\s.heap.Inst x (X.cls cn) j/\(∀f d,es.lookup f=a0 d->∃v,j (nm f)=a0 v/\V X.M c st.n s.heap d v)/\(∀y,j y≠b4->y∈es.map λe=>nm e.1)/\es.length<=j8+1:=by
 refine Ni (R.I l h) ?_;rintro a rfl n o b rfl p;have k:=R.obj e b;rw[i]at k;ext BU k m r t u w;refine U9 _ m rfl (CU _ p rfl (λA z=>by cases z) (.inr (v8 _ rfl (λq=>?_) r))) t u w;let g:=R.inj _ _ b n q;subst g;rw[o]at i;cases i
theorem uT{es:a7 (j3×b0)}(h:es.lookup m=b4):nm m∉es.map λe=>nm e.1:=by intro c;refine A8 c λe d f=>?_;let a:=Eo f;rw[a7.lookup_eq_none_iff]at h;let b:=h e d;rw[a]at b;exact(bne_iff_ne.mp b rfl).elim
theorem vW(hv:V base c n h d v):handedOut v=pure v:=by
 cases d with
 |none=>obtain rfl:=hv;rfl
 |bool b=>obtain rfl:=hv;rfl
 |int i=>ext d4 hv t rfl;rfl
 |str l=>ext d4 hv t rfl;rfl
 |B ds=>ext EB hv w0 w0 w0 rfl w0;rfl
 |ref a=>ext k9 hv w0 rfl;rfl
 |ro xs=>ext F8 hv w0 w0 rfl w0;rfl
theorem ClsAt.heap(R:i8 X c st s){C:i7}(h:Hp X.M C N mN):Hp s.heap C N mN:=h.keeps R.stays
theorem Hl{h:l5}{C:i7}(x:Hp h C N mN){G:Prop}(k:∀{a b d e f g i l m n o p},h.get? C=a0 (nW a b C N d [.type "object"] a8 e f c8 g i l m n o p "object.__new__")->G):G:=by refine Kb x.obj λc c c c c c j=>?_;ext Kb j c c c c c c q;exact k q
theorem vl{e:MX}{l:j9}{f:j3}{o:X1}(L:Laid1 X)(y:FU l=a8)(z:SX prog X C A sc e l):SX prog X C A sc (.C e f) (.Attribute l (nm f) o):=by
 intro c U s T ρ Q B H R h
 conv at h=>whnf
 rw[arm_eval_Attribute,cL y];refine Qz (z B H R h) λv d V p D j m r E=>?_;cases b:G8 p d f with
 |none=>rw[b]at j;exact j.elim
 |some x=>rw[b]at j;refine H9 (js b) λF W Y G n q b=>C7 (Sd m r G q) ?_;rintro Z mA rfl I u J J;refine d4 (L.cls F (Yt n)) λmN k=>d4 k.at_ λN a=>?_;have a:=ClsAt.heap m a;refine Hl a λK=>c9 (u f _ b) λw M i=>b5 (Fs (b5 (L0 ?_)));clear r u;obtain⟨O,g,P,t,S⟩:=D;exact load_attr K a.ns k.noga (k.fld f n).1 (k.fld f n).2 I M (vW i) (b5 (mW (f6 ((j6.toks (s:=⟨O,g,P,t,S⟩) m i j).after E))))
theorem gR{Q1:a7 b0->St->Prop}{Q:qVS}(l:X.M.get? a=a0 o)(m:o.data= .func fd)(n:Es.all J4=a8)
 (h:SD prog X C A sc es Es)(hs:env.scope=sc)(H:p7 X c st.n s.heap env ρ)(R:i8 X c st s)(p:Ws C es ρ st Q1)
 (q:∀d e g b f,Q1 e b->i8 X g b f->Vs X.M g b.n f.heap e d->k7 c st s g b f y6->b9 (d7 prog X.w) A (call (.ref a) (first++d)) Q u0 f):
 b9 (d7 prog X.w) A (PF pos (.ref a) first (Ch pos (Bt Es env)) []) Q u0 s:=by
 exact Calls.callWith_function (o:=o) (fd:=fd) (FH n (Iy (h pos hs H R p) λd r w e i t u k j v=>⟨⟨k.stays _ _ l,m⟩,q d e t i r u k j v⟩))theorem fh(h:N9 sc x=a8):sc.names.lookup (nm x)=a0 .globalImplicit/\x≠"__debug__":=⟨O1 (o6 h),bne_iff_ne.mp (o5 h)⟩
theorem gX(L:Laid0 X)(H:p7 X c st.n s.heap env ρ)(R:i8 X c st s)(b:X.mg (nm x)=a0 v)(a:N9 env.scope x=a8){Q:qVS}(h:Q v s):
 b9 (d7 prog X.w) A (eval (.Name (nm x) pos) env) Q u0 s:=by
 let a:=fh a;exact nK H.kind a.1 (Calls.loadGlobal_global (by rw[H.g];exact L.glob.keeps R.stays:s.heap.Ns env.globals X.mg) b h) (QX a.2)theorem EZ.ok(h:EZ k A):Bn A:=⟨h.hh,by let a:=h.units;exact uj a⟩
theorem tY(L:Laid1 X)(i:EZ k A)(j:GQ prog X C k)(l:(BO "").contains f=a8)(m:Es.all J4=a8)(n:N9 sc f=a8)(h:SD prog X C A sc es Es):
 SX prog X C A sc (.call f es) (.Call (.Name (nm f) p) Es [] pos):=by
 intro c z s x ρ Q d H R e
 conv at e=>whnf
 let a:=L.funName f l;ext1 a q g;ext F8 g o B r t;exact Ht (gX L.toLaid0 H R q (d▸n) (gR (first:=[]) r t m h d H R e λD E F y G u v b w=>Y8 w (j i u v b)))
theorem zH(L:Laid1 X)(Z:EZ k A)(hC:GQ prog X C k)(hb:FU e'=a8)(F:Es.all J4=a8)(x:Es.length<30)(l:(apos.endLine==pos.line)=a8)
 (he:SX prog X C A sc e e')(h:SD prog X C A sc es Es):SX prog X C A sc (.m e m es) (.Call (.Attribute e' (nm m) apos) Es [] pos):=by
 intro c st s env ρ Q G H R hw
 conv at hw=>whnf
 refine XE hb F x l (B6 (he G H R hw) λv s1 d K c1 a f z B pl=>?_);cases D:K.inst? d with
 |some q=>
  obtain⟨cn,e1⟩:=q;rw[D]at a;ext Cr a n M h2 a;refine c9 (tR n D) λes O n=>C7 (Sd f z D O) ?_;rintro x1 mA rfl I w0 P w0;refine d4 (L.cls cn ((vQ h2).resolve_left M)) λmN E=>d4 E.at_ λN b=>?_;let b:=ClsAt.heap f b;refine Hl b λS=>t6 (E.m m h2) ?_;rintro hm⟨y,hy⟩rr;ext n4 rr o fd ho U hd;let V:mA (nm m)=b4:=by
   cases W:mA (nm m)with
   |none=>rfl
   |some u=>exact(uT n (P _ (by rw[W];exact nofun))).elim
  obtain⟨hp,g,dr,t,os⟩:=s1;exact method_of S b.ns E.noga E.nogat hm (f.stays _ _ ho) U hy I V (gR ho hd F h G (H.step R B) f a λvs ds c2 Y s2 a J j p=>Y8 (B.trans p) (hC Z a J (E9 _ vs rfl (p.v f z) j)))
 |none=>rw[D]at a;ext k9 a n a;let i:=rW f z n;ext1 i T hT pa sl r w;refine iJ hT pa sl r w (YR (.inl ⟨_,rfl⟩) F h G (H.step R B) f a λvs ds c2 Y s2 a J j p=>?_);rw[<-a.1];exact Y8 (B.trans p) (np Z.ok J (p.v f z) j (by rw[a.1];exact n) a.2)
end
def Kz(X:Fx)(c:Cx)(n:a6)(h:l5):Fl->Flow->Prop
 | .next,f=>f= .next
 | .cont,f=>f= .cont
 | .ret d,f=>∃v,f= .ret v/\V X.M c n h d v
inductive CD (X:Fx) (c:Cx) (st:St) (s:f8) (env:I0) (F:i7->Prop) (Q:QS) (f:Flow) (s':f8):Prop
 |mk (fl ρ' st' c') (q:Q fl ρ' st') (R:i8 X c' st' s') (v:Kz X c' st'.n s'.heap fl f) (e:p7 X c' st'.n s'.heap env ρ') (S:k7 c st s c' st' s' F)
theorem Qy{prog:y9}{X:Fx}{A:B7}{c:Cx}{st:St}{s:f8}{env:I0}{F:i7->Prop}{Q:QS}{m:M6 Flow}{i:Flow->f8->Prop}{j:qVS}(h:b9 (d7 prog X.w) A m (CD X c st s env F Q) u0 s₀)
 (k:∀f d g b a e,Q g b a->i8 X e a d->Kz X e a.n d.heap g f->p7 X e a.n d.heap env b->k7 c st s e a d F->i f d):b9 (d7 prog X.w) A m i j s₀:=
 v6 h (λf d⟨g,b,a,e,q,R,l,H,S⟩=>k f d g b a e q R l H S) λn n x=>x.elim
def own(env:I0):i7->Prop:=Ee env λx=>env.kindOf (nm x)=a0 .local\/env.kindOf (nm x)=a0 .cell
def Ew(prog:y9)(X:Fx)(C:Cl)(A:B7)(sc:E7)(b:a7 S)(B:a7 AK):Prop:=
 ∀⦃c:Cx⦄⦃st:St⦄⦃s:f8⦄⦃env:I0⦄⦃ρ:Env⦄⦃Q:QS⦄,env.scope=sc->p7 X c st.n s.heap env ρ->i8 X c st s->G4 C b ρ st Q->
  b9 (d7 prog X.w) A (execs B env) (CD X c st s env (own env) Q) u0 s
theorem pf{α β:Type}{f g:α->j0 β}:∀{l:a7 α},(∀x∈l,f x=g x)->l.filterMap f=l.filterMap g:=by
 intro a
 induction a with
 |nil=>intro d;exact rfl
 |cons x l b=>intro h;rw[HQ,HQ,h x j5,b λy c=>h y (k8 _ c)]
theorem nh{α:Type}:∀{ps:a7 o3}{vs:a7 α},ps.Nodup->ps.length=vs.length->ps.filterMap (λn=>((ps.zip vs).lookup n).map (n,·))=ps.zip vs:=by
 intro f
 induction f with
 |nil=>
  intro a;cases a with
  |nil=>intro c c;exact rfl
  |cons _ _=>intro c h;cases h
 |cons p ps g=>
  intro a;cases a with
  |nil=>intro c h;cases h
  |cons v vs=>
   intro d e;rw[Az]at d;rw[Ju,HQ];simp only[BL,CG,Ax];congr 1;refine Eq.trans (pf λn i=>?_) (g (vs:=vs) d.2 (by simpa using e));let b:(n==p)=c8:=by rw[Gp];clear e;rintro rfl;exact d.1 i
   rw[b]
theorem uZ{α:Type}:∀{ps:a7 o3}{vs:a7 α}{n:o3},ps.length=vs.length->n∈ps->((ps.zip vs).lookup n).isNone=c8:=by
 intro d
 induction d with
 |nil=>intro b b b h;cases h
 |cons p ps e=>
  intro c;cases c with
  |nil=>intro b h b;cases h
  |cons v vs=>
   intro n f g;rw[Ju,BL];cases i:n==p with
   |true=>rfl
   |false=>let a:=(D9 g).resolve_left (beq_eq_false_iff_ne.mp i);exact e (by simpa using f) a
theorem wH(hp:F.params=⟨[],as,b4,[],[],b4,[]⟩)(hd:F.defaults= .none)(hl:as.length=vs.length)(hn:(as.map (·.arg)).Nodup):
 bindArgs F ⟨vs,[]⟩=pure ((as.map (·.arg)).zip vs):=by
 have hl2:(as.map (·.arg)).length=vs.length:=by rw[f7,hl]
 let h1:((as.map (·.arg)).filter λn=>(((as.map (·.arg)).zip vs).lookup n).isNone)=[]:=by rw[Vi];intro n hm;rw[uZ hl2 hm];simp
 let hf:=nh hn hl2;clear hn hl;cases F with
 |mk=>
 dsimp only at hp hd;subst hp hd;unfold bindArgs;refine EE (by refine(?_:¬(decide (vs.length>(as.map (·.arg)).length)&&a8)=a8);rw[hl2,VS (T9 _)];exact Cc) ?_;refine EE (by
  refine(?_:¬(!(V1 (λn=>(jK n ((as.map (·.arg)).zip vs)).isNone) (pO ((as.map (·.arg)).length - (MH (0 - (as.map (·.arg)).length) []).length) (as.map (·.arg)))).isEmpty)=a8);rw[jB,AI,a6.sub_zero,X6,h1];exact Cc) ?_
 rw[show none.getD #[]=#[] from rfl,show #[].toList=[] from rfl,jB,UW];exact t0 (pure:a7 (o3×b8)->M6 (a7 (o3×b8))) ((t0 (a7.filterMap λn=>JK (λx=>(n,x)) (jK n ((as.map (·.arg)).zip vs))) (Y5 (as.map (·.arg)))).trans hf)
structure Xa (X:Fx) (a:i7) (fd:FD) (F:VN) (B:a7 AK):Prop where
 obj:∃o,X.M.get? a=a0 o/\o.data= .func F
 g:F.globals=X.g
 b:F.builtins=X.b
 clo:F.closure=[]
 body:F.body= .stmts B
 code:X.M.CodeRec F.code F.qualname
 kind:F.scope.kind= .function
 gen:F.scope.isGenerator=c8
 co:F.scope.isCoroutine=c8
 params:∃as,F.params=⟨[],as,b4,[],[],b4,[]⟩/\as.map (·.arg)=fd.params.map nm
 dflt:F.defaults= .none
 nodup:fd.params.Nodup
 pk:∀x∈fd.params,F.scope.names.lookup (nm x)=a0 .local\/F.scope.names.lookup (nm x)=a0 .cell
 nofree:∀n,F.scope.names.lookup n≠a0 .free
theorem Ub:∀(names:a7 (o3×Av))(k:a6)(a:a7 (o3×i7))(n:o3),((n,VW)∈names\/(a.lookup n).isSome=a8)->((Dh k names a).lookup n).isSome=a8:=by
 intro d
 induction d with
 |nil=>intro b b b h;exact h.elim (λh=>by cases h) id
 |cons f r c=>
  obtain⟨m,i⟩:=f;intro k a n h;unfold Dh;split
  .refine c _ _ n ?_;rcases h with h|h
   .rcases D9 h with e|h
    .clear h;cases e;exact .inr (by simp)
    .exact .inl h
   .refine .inr ?_;rw[BL];cases n==m<;>simp[h]
  .rename_i g;refine c _ _ n ?_;rcases h with h|h
   .rcases D9 h with e|h
    .clear h;cases e;exact(g rfl).elim
    .exact .inl h
   .exact .inr h
section
variable{X:Fx}{st:St}
theorem Zz(x:Fr [] s s')(e:∀b∈fp,s.heap.objs.size<=b)(f:Vs base c n s.heap d v):Vs base (c.hide fp) n s'.heap d v:=
 Z0 (λb a a a q=>x.keep b _ J7 q) (Ll (c:=c) (Sb e) d v f)
theorem rh{a:o3->j0 Av}:∀{c:a7 (o3×b8)}{m:o3->j0 b8},(∀b∈c,b.1≠y)->OZ a c m y=m y:=by
 intro d
 induction d with
 |nil=>intro e e;exact rfl
 |cons f r g=>
  obtain⟨n,v⟩:=f;intro m h;unfold OZ;rw[g λb i=>h b (k8 _ i)];split
  .exact j4 λq:y=n=>h (n,v) j5 q.symm
  .rfl
theorem tg{a:o3->j0 Av}:∀{c:a7 (o3×b8)}{m:o3->j0 b8},(∀b∈c,b.1≠y)->PO a c m y=m y:=by
 intro d
 induction d with
 |nil=>intro e e;exact rfl
 |cons f r g=>
  obtain⟨n,v⟩:=f;intro m h;unfold PO;rw[g λb i=>h b (k8 _ i)];split
  .rfl
  .exact j4 λq:y=n=>h (n,v) j5 q.symm
theorem eV{ps:a7 j3}{vs:a7 b8}{x:j3}(h:x∉ps):∀b∈(ps.map nm).zip vs,b.1≠nm x:=by intro b c q;let a:=(Jy c).1;rw[q]at a;exact A8 a λy d e=>h (Eo e▸d)
theorem ZQ{base:l5}{n:a6}{h:l5}{a:o3->j0 Av}{x:j3}{d:b0}:∀{ps:a7 j3}{j:a7 b0}{vs:a7 b8}(m q:o3->j0 b8),ps.Nodup->Vs base c n h j vs->(ps.zip j).lookup x=a0 d->
 (a (nm x)=a0 .local->∃v,OZ a ((ps.map nm).zip vs) m (nm x)=a0 v/\V base c n h d v)/\(a (nm x)≠a0 .local->∃v,PO a ((ps.map nm).zip vs) q (nm x)=a0 v/\V base c n h d v):=by
 intro u
 induction u with
 |nil=>intro b b b b b b h;simp at h
 |cons p ps s=>
  intro o;cases o with
  |nil=>intro b b b b b h;simp at h
  |cons y j=>
   intro b m q i g f;ext n4 g v r e t w;subst e;rw[Az]at i;rw[Ju,BL]at f;rw[y4,Ju];cases k:x==p with
   |true=>
    rw[k]at f;simp only[AA]at f;clear s;subst f;obtain rfl:=beq_iff_eq.mp k;constructor
    .intro l;refine d0 v ?_ t;unfold OZ;rw[rh (eV i.1),g0 l,g0 rfl]
    .intro l;refine d0 v ?_ t;unfold PO;rw[tg (eV i.1),j4 l,g0 rfl]
   |false=>rw[k]at f;exact s _ _ i.2 w f
theorem Hj{n:o3}{k:Av}{l:a7 (o3×Av)}(h:l.lookup n=a0 k):(n,k)∈l:=mem_of_lookup h
theorem ak(S:X.M.NoLimit)(hA:EZ (k+1) A)(L:Xa X a fd FF B)(T:ds.length=fd.params.length)(R:i8 X c G s)(N:Vs X.M c G.n s.heap ds vs)
 (hB:∀A',DF k A'->Ew prog X C A' FF.scope fd.body B)(h:G4 C fd.body (λx=>(fd.params.zip ds).lookup x) G λfl E G=>(match fl with| .ret d=>Q d G| .next=>Q .none G| .cont=>k6)):
 b9 (d7 prog X.w) A (call (.ref a) vs) (j6 X c G s y6 Q) u0 s:=by
 refine c9 L.obj λo ho J=>c9 L.params λas U I=>?_;let hnd:(as.map (·.arg)).Nodup:=by rw[I];let g:=L.nodup;rw[Br]at g ⊢;rw[Y6];exact g.imp λh e=>h (Eo e)
 let t:=wH U L.dflt (by rw[(by rw[Vs.length N,T]:vs.length=fd.params.length),<-f7 (f:=nm) (as:=fd.params),<-I,f7]:as.length=vs.length) hnd;rw[I]at t;let W:=hA.depth;refine VD (codeAny_call_cells (body:=B) (uX W) (R.stays _ _ ho) J (S.keeps R.stays) (L.code.keeps R.stays) L.body t L.clo (λx q=>?_) (λY y=>?_) L.co L.gen L.kind)
 .have hm:=(Jy q).1;refine A8 hm λp hp e=>?_;rw[<-e];rcases L.pk p hp with K|K
  .exact .inl K
  .exact .inr ⟨K,Ub _ _ _ _ (.inl (Hj K))⟩
 .generalize M:callEnvC FF s.heap.objs.size a=i at y ⊢;have j:i.scope=FF.scope:=by rw[<-M];rfl
  have m:i.locals=s.heap.objs.size:=by rw[<-M];rfl
  have F:Fr [] s Y:=by refine R9 y.toInCall.same ?_;rintro h' tk rfl;refine⟨λb o E e=>y.toInCall.keep b o e,?_,rfl,rfl⟩;let g:=y.toInCall.ns.lt;rw[m]at g;exact m9 g
  let w:∀x,i.kindOf x=FF.scope.names.lookup x:=λx=>by unfold Env.kindOf;rw[j]
  generalize r:i.locals::(i.cells.map (·.1)).filterMap (λn=>i.cells.lookup n)=Z;have V:∀n b,i.cells.lookup n=a0 b->b∈Z:=by intro n b l;rw[<-r];refine k8 _ (List.mem_filterMap.mpr (d0 n ?_ l));exact C0 (a:=(n,b)) (mem_of_lookup l) rfl
  let O:∀b∈Z,s.heap.objs.size<=b/\b<Y.heap.objs.size:=by
   intro b l;rw[<-r]at l;rcases D9 l with rfl|l
   .exact⟨by rw[m];exact l8 _,y.toInCall.ns.lt⟩
   .refine c9 (List.mem_filterMap.mp l) λn E hn=>⟨?_,(y.cell n b hn).lt⟩;let g:=y.above n b (mem_of_lookup hn);rw[m]at g;exact m9 g
  have H:Vs X.M (c.hide Z) G.n Y.heap ds vs:=Zz F (λb l=>(O b l).1) N;have H1:p7 X (c.hide Z) G.n Y.heap i (λx=>(fd.params.zip ds).lookup x):=by
   refine⟨by rw[j];exact L.kind,(by rw[<-M];exact L.g:i.globals=X.g),(by rw[<-M];exact L.b:i.builtins=X.b),.inr (by rw[<-r];exact j5),(d0 _ y.toInCall.ns λx d q E K=>?_),λx q=>?_,λx z a q hz h1 h2=>?_⟩
   .exact(ZQ (λE=>b4) (λE=>b4) L.nodup H q).1 K
   .have hc:i.kindOf x=a0 .cell:=q.elim id λh=>(L.nofree _ (w x▸h)).elim;let D:(i.cells.lookup x).isSome=a8:=by rw[(by rw[<-M];rfl:i.cells=Dh (s.heap.objs.size+1) FF.scope.names [])];exact Ub _ _ _ _ (.inl (Hj (w x▸hc)))
    refine d4 (Option.isSome_iff_exists.mp D) λb l=>U9 b _ l (.inr (V _ _ l)) ?_ (y.cell _ _ l) λz d hz W=>?_
    .let g:=y.above _ b (mem_of_lookup l);exact K0 g
    .clear q D l;subst hz;refine(ZQ (λE=>b4) (λE=>b4) L.nodup H W).2 ?_;rw[hc];simp
   .exact pN y.apart (mem_of_lookup h1) (mem_of_lookup h2)
  refine v6 (hB _ (⟨hA.hh,by exact tA W,by exact yT hA.units⟩:DF k (A.deeper i)) j H1 (R.hide F O) h) (λf s2 p=>?_) λE E x=>x.elim;obtain⟨fl,ρ',P,c',hq,R2,hf,H2,S2⟩:=p;have hF:∀b,own i b->y6 b\/s.heap.objs.size<=b:=by
   rintro b z1;ext c9 z1 x q rfl;refine .inr ?_;rcases q with q|q
   .rw[Ov q,m];exact l8 _
   .refine F8 (H2.cel _ (.inl q)) λb u l E=>?_;rw[Nr q l];let g:=y.above _ b (mem_of_lookup l);rw[m]at g;exact m9 g
  cases fl with
  |next=>obtain rfl:=hf;exact j6.uH F hF ⟨.none,P,c',hq,R2,rfl,S2⟩
  |cont=>exact hq.elim
  |ret d=>ext c9 hf v rfl hv;exact j6.uH F hF ⟨d,P,c',hq,R2,hv,S2⟩
end
def GJ(h:l5)(C:i7):l5:=(h.push (E5 #[] 0)).push (FI C h.objs.size)
section
variable{os:JQ}
theorem Ta(a:h.get? b=a0 o):(GJ h C).get? b=a0 o:=A9 _ (A9 _ a)theorem XF:(GJ h C).get? (h.objs.size+1)=a0 (FI C h.objs.size):=by let a:=(J6 ..).symm;rw[a];exact A0 _ rfl
theorem gc(X:Hp h C N mN)(hi:mN "__init__"=a0 (.ref fI))(hf:h.get? fI=a0 oI)(hfc:oI.cls= .type "function"){Q:Fin->f8->Prop}
 (hq:b9 (d7 prog w) A (call (.ref fI) (.ref (h.objs.size+1)::rest)) (λr s'=>r= .none/\Q (.done (.ret (.ref (h.objs.size+1)))) s') E ⟨GJ h C,g,dr,t,os⟩):
 b9 (d7 prog w) A (Builtin.«type.__call__» ⟨.ref C::rest,[]⟩) Q E ⟨h,g,dr,t,os⟩:=by
 refine Hl X λhC=>?_;let F0:=yu
 repeat(first|with_reducible refine PQ hC ?_|with_reducible refine wpAny_madeBy_exc hC ?_|wp_step)
 refine codeAny_call_builtin_code (UQ _ F0.quiet) (wpAny_check_obj_new F0 hC (codeAny_obj_new F0 hC X.ns hi ((?_:b9 _ _ _ _ _ ⟨GJ h C,g,dr,t,os⟩))));let hC1:=Ta (C:=C) hC
 repeat(first|with_reducible refine PQ (XF (h:=h) (C:=C)) ?_|(with_reducible refine wpAny_isSubtype_exc hC1 ?_;rw[(by simp:(Hu C::[VX "object"]).contains (.ref C)=a8)])|wp_step)
 refine wpAny_typeLookup_exc hC1 (X.keeps λb o hb=>Ta hb).ns (by kernel_rfl:mroOf (.type "object")=pure [.type "object"]) (by rw[Gh,HP];kernel_rfl:Ci (.type "object") "__init__"=pure (a0 (.builtin "object.__init__"))) ?_;rw[hi];refine L0 (b5 (Xy (T:="function") (d0 _ (Ta hf) hfc) (Fb (by decide) (f6 (b5 (v6 hq (λr s' hr=>?_) λw0 w0 x=>x))))));ext1 hr rfl hQ
 wp_walk
 exact hQ
theorem rP(X:Hp h C N mN)(hi:mN "__init__"=a0 (.ref fI))(c:h.get? fI=a0 oI)(b:oI.cls= .type "function"){Q:qVS}
 (d:b9 (d7 prog w) (A.under (.builtin "type.__call__" ⟨.ref C::rest,[]⟩)) (call (.ref fI) (.ref (h.objs.size+1)::rest)) (λr e=>r= .none/\Q (.ref (h.objs.size+1)) e) E ⟨GJ h C,g,dr,t,os⟩):
 b9 (d7 prog w) A (call (.ref C) rest) Q E ⟨h,g,dr,t,os⟩:=by
 refine Hl X λa=>?_;let f:=tc_lookup;let i:=tc_bind (.ref C);let j:(⟨h,g,dr,t,os⟩:f8).TypeIs (.ref C) "type":=d0 _ a rfl;refine VD (MG ((?_:b9 _ _ (callAny (.ref C) _) _ _ _)))
 repeat(any_goals(first|assumption|with_reducible refine PQ a ?_|wp_step))
 exact⟨rfl,codeAny_call_builtin_at (UQ _ (by decide+kernel)) entry_typeCall (wpAny_check_type_call_sub a (gc X hi c b d))⟩
end
section
variable{X:Fx}{st:St}
theorem xJ{K:i7}{z:o3->j0 b8}{a:X1}{j:a7 j9}{es:Xs}{Q1:a7 b0->St->Prop}{Q:qVS}(B:Hp X.M K N z)(q:j.all J4=a8)
 (h:SD prog X C A sc es j)(hs:env.scope=sc)(H:p7 X c st.n s.heap env ρ)(R:i8 X c st s)(D:Ws C es ρ st Q1)
 (E:∀k l m b e,Q1 l b->i8 X m b e->Vs X.M m b.n e.heap l k->k7 c st s m b e y6->b9 (d7 prog X.w) A (call (.ref K) k) Q u0 e):
 b9 (d7 prog X.w) A (PF a (.ref K) [] (Ch a (Bt j env)) []) Q u0 s:=by
 refine CW (FH q (Iy (h a hs H R D) λk u v l o F G w f y=>?_));let i:=E k l F o u G w f y;let p:((Ch a (Bt j env)).any (λx=>x.fst)||([]:a7 (j0 o3×M6 b8)).any λx=>x.fst.isNone)=c8:=by rw[FT q];rfl
 clear f y;obtain⟨I,g,d,t,J⟩:=u;refine Hl (ClsAt.heap w B) λn=>?_;let M:=tc_lookup;let O:(⟨I,g,d,t,J⟩:f8).TypeIs (.ref K) "type":=d0 _ n rfl;refine Nt ?_
 repeat(any_goals(first|assumption|with_reducible refine PQ n ?_|with_reducible refine wpAny_load' n ?_|wp_step))
 rw[g0 (by rfl),p];exact b5 (v6 i (λr e L=>CW (jA (f6 L))) λv v x=>x)
theorem yH(h:DF k A)(K:i7)(vs:a7 b8):EZ k (A.under (.builtin "type.__call__" ⟨.ref K::vs,[]⟩)):=by
 refine⟨h.hh,?_,?_⟩
 .exact(vE h.depth:A.depth+1+3*k+3<_)
 .let a:(kI "type.__call__" ⟨.ref K::vs,[]⟩).cUnits=1:=rfl;refine(?_:A.units+(kI "type.__call__" ⟨.ref K::vs,[]⟩).cUnits+20*k+60<_);rw[a];exact rY h.units
theorem yX(L:Laid1 X)(V:DF k A)(W:GQ prog X C k)(i:cn∈["Bank","Tables","Joins","Unions","Heap"])(Y:Es.all J4=a8)(M:N9 sc cn=a8)(h:SD prog X C A sc es Es):
 SX prog X C A sc (.new cn es) (.Call (.Name (nm cn) p) Es [] pos):=by
 intro c st s env ρ Q O H R w
 conv at w=>whnf
 refine d4 (L.cls cn i) λmN x=>?_;let z:=x.at_;ext1 z N j;let F:(BO cn).contains "__init__"=a8:=by simp only[K5,J7,X4]at i;clear M w x j;rcases i with rfl|rfl|rfl|rfl|rfl<;>rfl
 refine t6 (x.m "__init__" F) λZ B P=>?_;ext n4 P o fd ho G hd;refine Ht (gX L.toLaid0 H R (L.clsName cn i) (O▸M) (xJ j Y h O H R w λvs ds l a b hq n I S=>Y8 S ?_));let D:i8 X (l.add a.n b.heap.objs.size) (a.A (.fld [])) {b with heap:=b.heap.push (E5 #[] 0)}:=by refine n.A (l8 _) (Ext.push _ _) rfl rfl (CU (λB=>b4) (zb (BS _ (#[]) _ (A0 _ rfl) rfl (λe he=>u6 he (by simp)) λB=>rfl)) (λf d h=>by simp at h) (λy hy=>(hy rfl).elim) (by unfold j8;simp))
 let m:=J6 ..;let Ri:i8 X ((l.add a.n b.heap.objs.size).add (a.n+1) (b.heap.objs.size+1)) ((a.A (.fld [])).A (.I cn a.n)) {b with heap:=GJ b.heap (X.cls cn)}:=by refine D.A (o:=.I cn a.n) (by rw[m];exact l8 _) (Ext.push _ _) rfl rfl ⟨B8 _,?_⟩;rw[Cx.p];exact XF
 let T:k7 (l.add a.n b.heap.objs.size) (a.A (.fld [])) {b with heap:=b.heap.push (E5 #[] 0)} ((l.add a.n b.heap.objs.size).add (a.n+1) (b.heap.objs.size+1)) ((a.A (.fld [])).A (.I cn a.n)) {b with heap:=GJ b.heap (X.cls cn)} y6:=
  k7.A D (by rw[m];exact l8 _) (Ext.push _ _)
 let U:=(k7.A n (l8 _) (Ext.push _ _):k7 l a b (l.add a.n b.heap.objs.size) (a.A (.fld [])) {b with heap:=b.heap.push (E5 #[] 0)} y6).trans T;let q:((l.add a.n b.heap.objs.size).add (a.n+1) (b.heap.objs.size+1)).κ (a.n+1)=b.heap.objs.size+1:=Cx.p;clear S D m T;obtain⟨hp,g,dr,t,os⟩:=b;refine rP (ClsAt.heap n j) Z (n.stays _ _ ho) G (B6 (W (yH V _ _) hq Ri (E9 _ vs rfl ⟨B8 _,by rw[q]⟩ (U.Vs n (λB h=>h.elim) I))) λr s3 d J c3 u R3 K E=>?_);cases d<;>first|exact u.elim|skip
 refine⟨K,.ref (a.n+1),J,c3,u,R3,⟨(j7 (B8 _) E.n),?_⟩,U.trans E⟩;let v:=E.aG (a.n+1) (B8 _);rw[v,q]
end
theorem p7.weaken{X:Fx}{c:Cx}{n:a6}{h:l5}{env:I0}{ρ:Env}(hs:∀x d,ρ x=a0 d->ρ' x=a0 d)(H:p7 X c n h env ρ'):p7 X c n h env ρ where
 kind:=H.kind
 g:=H.g
 b:=H.b
 pl:=H.pl
 loc:=by exact c9 H.loc λm e f=>(d0 m e λx d i=>f x d (hs x d i))
 cel x hx:=by exact C7 (H.cel x hx) λa u e f i j k=>(U9 a u e f i j λz d l o=>k z d l (hs z d o))
 apart:=H.apart
inductive GE:a7 j3->a7 j9->Prop
 |nil:GE [] []
 |cons {x:j3} {ps:a7 j3} {pos:X1} {es:a7 j9}:GE ps es->GE (x::ps) (.Name (nm x) pos::es)
inductive AV:a7 j3->j9->Prop
 |one {x:j3} {pos:X1}:AV [x] (.Name (nm x) pos)
 |many {x y:j3} {ps:a7 j3} {es:a7 j9} {k:a6} {pos:X1}:GE (x::y::ps) es->AV (x::y::ps) (.Tuple es k pos)def BA(env:I0)(x:j3):Prop:=env.kindOf (nm x)=a0 .local\/env.kindOf (nm x)=a0 .cell
def Dp(ρ:Env)(l:a7 (j3×b0)):Env:=l.foldl (λρ p=>ρ.set p.1 p.2) ρ
theorem bb{ρ:Env}:∀(l:a7 (j3×b0)),(∀p∈l,ρ p.1=b4)->∀x d,ρ x=a0 d->Dp ρ l x=a0 d:=by
 intro l;let b:∀(l:a7 (j3×b0))(ρ:Env)(x:j3),(∀p∈l,p.1≠x)->Dp ρ l x=ρ x:=by
  intro l
  induction l with
  |nil=>intro ρ x i;rfl
  |cons p l c=>intro ρ x h;refine(?_:Dp (ρ.set p.1 p.2) l x=_);rw[c _ _ λq f=>h q (k8 _ f)];refine EE (λe=>h p j5 e.symm) ?_;try with_reducible rfl
 intro h x d a;rw[b l ρ x λp g e=>by rw[<-e,h p g]at a;cases a];exact a
theorem db{ρ:Env}{ps:a7 j3}{b:a7 b0}(l:ps.Nodup)(m:ps.length=b.length):Dp ρ (ps.reverse.zip b.reverse)=Dp ρ (ps.zip b):=by
 let n:ps.reverse.zip b.reverse=(ps.zip b).reverse:=by let a:ps.reverse.zip b.reverse=a7.zipWith Prod.mk ps.reverse b.reverse:=rfl;rw[a,<-a7.reverse_zipWith m];rfl
 rw[n];refine z_ (oX _) ?_ ρ;intro x d y f z;by_cases h:x.1=y.1
 .let a:x=y:=by refine d4 (N2 (List.mem_reverse.mp d)) λi c=>d4 c ?_;clear c;clear d;rintro o rfl;refine d4 (N2 (List.mem_reverse.mp f)) λj c=>?_;ext d4 c p rfl;rw[mL,mL]at h;let a:=(a7.getElem_inj l).mp h;subst a;rfl
  clear f h;subst a;rfl
 .funext w;refine(?_:(if w=y.1 then a0 y.2 else if w=x.1 then a0 x.2 else z w)=(if w=x.1 then a0 x.2 else if w=y.1 then a0 y.2 else z w));by_cases g:w=y.1<;>by_cases k:w=x.1<;>simp[g,k]<;>first|exact(h (k.symm.trans g)).elim|skip
  .exact λe=>(h e.symm).elim
  .exact λe=>(h e).elim
section
variable{prog:y9}{X:Fx}{C:Cl}{A:B7}{E:qVS}{c c':Cx}{st st':St}{s s' s'':f8}{env:I0}{ρ:Env}{F:i7->Prop}
theorem y3.typeIs(h:y3 s.heap T l xs):s.TypeIs (.ref l) (if T then"tuple" else"list"):=by
 cases T
 .exact yl h
 .exact xt h
theorem xG(j:l≠I):∀(n k:a6)(s:f8)(Q:a7 b8->f8->Prop),M5 s.heap T I l k->y3 s.heap T l items->k+n<=items.size->
 (∀g,M5 g T I l (k+n)->Ah I s.heap g->Q ((items.toList.drop k).take n) {s with heap:=g})->b9 (d7 prog X.w) A (draw (.ref I) n) Q E s:=by
 intro r
 induction r with
 |zero=>intro k s Q h t t i;exact f6 (by simpa using i s.heap h (Px ..))
 |succ n u=>intro k s Q h p m i;have e:k<items.size:=q5 (G3 _ _) ‹_›;refine b5 (aE h p (x:=items[k]) (by simp[e]) λq b a=>CW (u (k+1) _ _ b (p.at λo v=>a.extBut l o j v) (b6 (A5 (Y7 _ 1 _)) m) λf c d=>f6 ?_));have q:=i f (by rw[show k+(n+1)=k+1+n by exact rT];exact c) (a.trans d);rw[(by simp[jP,e]:items.toList.drop k=items[k]::items.toList.drop (k+1)),a7.take_succ_cons]at q;exact q
theorem bG(J:A.handled=b4)(R:i8 X c st s)(C:V X.M c st.n s.heap d v)(K:st.items? d=a0 xs)(L:xs.length=n){Q:a7 b8->f8->Prop}
 (M:∀D B,Fr [] s B->Vs X.M c st.n B.heap xs D->Q D B):b9 (d7 prog X.w) A (unpackItems v n b4) Q E s:=by
 refine W5 (n4 (N5.of R C K) ?_);clear C;rintro T l rfl F G;ext c9 G a t u;have f:a.size=n:=by let j:=Vs.length u;rw[A2]at j;exact rq j L
 have w:l≠s.heap.objs.size:=m6 t.lt;refine b5 ?_;let i:∃H,Ci (.type (if T then"tuple" else"list")) "__iter__"=pure (a0 (.builtin H)):=by
  clear t;cases T
  .exact⟨_,PySem.F.slot_list_iter.lookup⟩
  .exact⟨_,PySem.F.slot_tuple_iter.lookup⟩
 ext d4 i H i;refine fG (y3.typeIs t) i (f6 (CW (NL t ?_)));let x:=t.at λo p=>A9 _ p;refine CW (xG w n 0 _ _ Nh x (A5 ((JB _).trans f.symm)) λI q g=>?_);let z:pO n (MH 0 a.toList)=a.toList:=by rw[DP];exact a7.take_of_length_le (by simp[f])
 rw[z];refine Y3 (by simp[f]) (CW (Zb J q (x.at λo p=>g.extBut l o w p) (by simp[f]) λm r=>?_));let k:∀b o,s.heap.get? b=a0 o->m.get? b=a0 o:=λb o p=>r b o (m6 (C2 p)) (g.extBut b o (m6 (C2 p)) (A9 _ p))
 refine f6 λN=>?_;let y:Fr [] s {s with heap:=m}:=⟨λb o F e=>k b o e,N,rfl,rfl⟩;exact M _ _ y (y.Vs (λF h=>by cases h) u)
inductive HZ (prog:y9) (w:O7) (A:B7) (env:I0):a7 j3->a7 (b8->M6 Ay)->Prop
 |nil:HZ prog w A env [] []
 |cons {x:j3} {ps:a7 j3} {f:b8->M6 Ay} {fs:a7 (b8->M6 Ay)} (hf:∀(v:b8)(Q:Ay->f8->Prop)(E:qVS)(s:f8),b9 (d7 prog w) A (storeName env (nm x) v) Q E s->b9 (d7 prog w) A (f v) Q E s)
  (hr:HZ prog w A env ps fs):HZ prog w A env (x::ps) (f::fs)
theorem Zk(o:∀b,F b->c.P b):∀{ps:a7 j3}{fs:a7 (b8->M6 Ay)}{a:a7 b0}{vs:a7 b8}{ρ:Env}{s:f8},HZ prog X.w A env ps fs->p7 X c st.n s.heap env ρ->i8 X c st s->Vs X.M c st.n s.heap a vs->ps.length=a.length->
 (∀x∈ps,BA env x)->(∀x∈ps,F (De env x))->∀{Q:Ay->f8->Prop},(∀f,i8 X c st f->p7 X c st.n f.heap env (Dp ρ (ps.zip a))->k7 c st s c st f F->Q () f)->b9 (d7 prog X.w) A (assignInOrder fs vs) Q E s:=by
 intro ps
 induction ps with
 |nil=>
  intro fs a vs ρ s h H R e g p p Q i;cases h;cases a with
  |cons d a=>cases g
  |nil=>obtain rfl:=e;exact f6 (i s R H k7.refl)
 |cons x ps q=>
  intro fs a vs ρ s h H R e g l m Q i;cases h with
  |cons t u=>
   cases a with
   |nil=>cases g
   |cons d a=>ext n4 e v r rfl e k;exact CW (t _ _ _ _ (H.store R (l x j5) e (m x j5) λJ w z n=>q u z w (n.Vs R (λb B=>.inl (o b B)) k) (by simpa using g) (λy j=>l y (k8 _ j)) (λy j=>m y (k8 _ j)) λC D G I=>i C D G (n.trans I)))
theorem uV(h:GE b a):HZ prog X.w A env b ((MM a env).map (·.2))/\(MM a env).length=b.length/\(MM a env).findIdx? (·.1)=b4:=by
 induction h with
 |nil=>exact m0 (.nil) rfl rfl
 |@cons x b d a h c=>refine m0 (.cons (λv Q E s h=>Vg h) c.1) (by refine(?_:(MM a env).length+1=_);rw[c.2.1];rfl) ?_;refine(?_:hZ _ ((c8,assign (.Name (nm x) d) env)::MM a env)=b4);rw[JF];simp[c.2.2]
theorem cA(z:∀b,F b->c.P b)(B:A.handled=b4)(C:AV a target)(H:p7 X c st.n s.heap env ρ)(R:i8 X c st s)(p:V X.M c st.n s.heap d v)
 (q:(∃x,a=[x]/\ds=[d])\/(2<=a.length/\st.items? d=a0 ds/\ds.length=a.length))(r:∀x∈a,BA env x)(t:∀x∈a,F (De env x)){Q:Ay->f8->Prop}
 (u:∀e,i8 X c st e->p7 X c st.n e.heap env (Dp ρ (a.zip ds))->k7 c st s c st e F->Q () e):b9 (d7 prog X.w) A (assign target env v) Q E s:=by
 cases C with
 |@one x m=>
  rcases q with⟨y,h,rfl⟩|⟨i,_⟩
  .cases h;exact Vg (H.store R (r x j5) p (t x j5) λj D G I=>u j D G I)
  .simp at i
 |@many x y a U k m J=>
  rcases q with⟨y,h,_⟩|⟨_,K,w⟩
  .cases h
  .rw[arm_assign_Tuple];let f:=uV (prog:=prog) (X:=X) (A:=A) (env:=env) J;ext1 f L i M;refine Nt ?_;unfold unpack;rw[i,M];refine CW (bG B R p K w λW j g n=>?_);have l:Ext s.heap j.heap:=⟨g.size,λb o N=>g.keep b o J7 N⟩;refine Zk z L (H.ext R l) (R.ext l g.gens g.os) n w.symm r t λO P S T=>u O P S ((k7.ext l).trans T)
theorem RJ{b:Env}(h:AD ps d ρ=a0 b)(c:ps≠[]):∃a,((∃x,ps=[x]/\a=[d])\/(2<=ps.length/\st.items? d=a0 a/\a.length=ps.length))/\b=Dp ρ (ps.zip a):=by
 cases ps with
 |nil=>exact(c rfl).elim
 |cons x r=>
  cases r with
  |nil=>exact d0 [d] (.inl (d0 _ rfl rfl)) ((C6 h).symm)
  |cons y r=>
   cases d with
   |B a=>exact k9 (V0 h) λe h=>d0 a (.inr (m0 (U6 (U6 (F9 _))) rfl e)) ((C6 h).symm)
   |_=>cases h
theorem AV.ne(h:AV ps t):ps≠[]:=by cases h<;>simp
theorem dH{a:Env}(h:∀b,F b->c.P b)(i:A.handled=b4)(f:AV ps target)(H:p7 X c st.n s.heap env ρ)(R:i8 X c st s)(j:V X.M c st.n s.heap d v)
 (g:AD ps d ρ=a0 a)(k:∀x∈ps,BA env x)(l:∀x∈ps,F (De env x)){Q:Ay->f8->Prop}
 (m:∀e,i8 X c st e->p7 X c st.n e.heap env a->k7 c st s c st e F->Q () e):b9 (d7 prog X.w) A (assign target env v) Q E s:=by
 refine c9 (RJ (st:=st) g f.ne) ?_;clear g;rintro o n rfl;exact cA h i f H R j n k l m
end
def ER:It->b7
 | .enum ..=>c8
 | .zip ..=>c8
 |_=>a8
def Du:Dd->b7
 | .of _=>a8
 | .range _=>a8
 |_=>c8
theorem Xx{it:It}{st:St}{d:b0}(h:it.next st=a0 (a0 (d,it')))(hp:ER it=a8):ER it'=a8:=by
 cases it with
 |seq d k=>refine c9 (Option.map_eq_some_iff.mp h) λw0 w0 h=>c9 (Option.map_eq_some_iff.mp h) λw0 w0 h=>?_;cases h;rfl
 |keys a k n ep=>
  let h:=(V0 h).2;cases hs:st.h a with
  |D es ep'=>rw[hs]at h;refine c9 (Option.map_eq_some_iff.mp (C6 (V0 h).2)) λw0 w0 h=>?_;cases h;rfl
  |_=>rw[hs]at h;cases h
 |text l=>
  cases l with
  |nil=>exact nomatch C6 h
  |cons c r=>cases C6 h;rfl
 |range i n=>cases(V0 (C6 h)).2;rfl
 |_=>exact no hp
theorem se{d:b0}{st:St}{it:It}(h:BV d st=a0 it):ER it=a8:=by
 cases d with
 |str l=>cases(V0 h).2;rfl
 |B ds=>cases(C6 h);rfl
 |ref a=>
  let h:=(V0 h).2;cases hs:st.h a with
  |D es ep=>rw[hs]at h;cases(V0 h).2;rfl
  |L xs=>rw[hs]at h;cases h;rfl
  |_=>rw[hs]at h;cases h
 |_=>cases h
theorem dB(hT:AV p target)(h:ER it=a8\/2<=p.length):ZU it target:=by
 cases hT with
 |one=>
  rcases h with h|h
  .refine .inl (P9 _ _ rfl ?_);cases it<;>first|trivial|cases h
  .simp at h
 |many=>exact .inr ⟨_,_,_,rfl⟩
inductive si (X:Fx) (c:Cx) (st:St) (s:f8) (Q:It->St->Prop) (pl:b7) (u:b8) (s2:f8):Prop
 |mk (it st' c' s0) (q:Q it st') (R:i8 X c' st' s0) (S:k7 c st s c' st' s0 y6) (m:GI X c' st' s0 it u s2) (h:pl=a8->ER it=a8)
def BX(prog:y9)(X:Fx)(C:Cl)(A:B7)(sc:E7)(src:Dd)(E:j9):Prop:=
 ∀⦃c:Cx⦄⦃st:St⦄⦃s:f8⦄⦃env:I0⦄⦃ρ:Env⦄⦃Q:It->St->Prop⦄,env.scope=sc->p7 X c st.n s.heap env ρ->i8 X c st s->WI C src ρ st Q->
  b9 (d7 prog X.w) A (eval E env) (λv s1=>b9 (d7 prog X.w) A (DW v) (si X c st s Q (Du src)) u0 s1) u0 s
def SF(prog:y9)(X:Fx)(C:Cl)(A:B7)(sc:E7)(es:Xs)(Es:a7 j9):Prop:=
 ∀⦃c:Cx⦄⦃st:St⦄⦃s:f8⦄⦃env:I0⦄⦃ρ:Env⦄⦃Q:b7->St->Prop⦄,env.scope=sc->p7 X c st.n s.heap env ρ->i8 X c st s->Eg C es ρ st Q->
  b9 (d7 prog X.w) A (Hx Es a8 λc r=>if r=a8 then do let ok<-isTrue c env (eval c env);pure (Gw ok)else pure (Gw r)) (DB X c st s y6 Q) u0 s
inductive AP (X:Fx) (c:Cx) (n:a6) (h:l5) (D:i7) (acc:a7 b0):Prop
 |mk (items) (p:h.PlainList D items) (v:Vs X.M c n h acc items.toList) (l:acc.length<=j8+1)def AU(env:I0)(b:i7):Prop:=b=env.locals\/∃k,cf env k/\env.cells.lookup k=a0 b
section
variable{prog:y9}{X:Fx}
theorem zW(i:SX prog X C A sc e E):BX prog X C A sc (.of e) E:=by
 intro c r s q ρ Q j H R h
 conv at h=>whnf
 refine B6 (i j H R h) λv k d b l f g m n=>?_;cases a:BV d b with
 |none=>rw[a]at f;exact f.elim
 |some o=>rw[a]at f;exact tc g m a λu t p=>⟨o,b,l,k,f,g,n,p,λw=>se a⟩
theorem gb(L:Laid0 X)(l:J4 e'=a8)(z:N9 sc "range"=a8)(B:SX prog X C A sc e e'):BX prog X C A sc (.range e) (.Call (.Name (nm "range") p) [e'] [] pos):=by
 intro c m s N ρ Q D H R h
 conv at h=>whnf
 refine Hn (es:=.cons e .nil) (Q1:=λj m=>match j with|[d]=>(match d with| .int n=>(if 0<=n/\n<=j8 then Q (.range 0 n) m else k6)|_=>k6)|_=>k6) L (x:="range") (v:=.type "range") (As 11 rfl) (.inr ⟨_,rfl⟩) (by simp[l]) z (Fc B GC l) D H R h λO j E k F a G g I=>?_;cases j with
 |nil=>exact a.elim
 |cons d r=>
  cases r with
  |cons e r=>exact a.elim
  |nil=>
   cases d with
   |int n=>
    by_cases f:0<=n/\n<=j8
    .let a:=VQ (g0 f) a;refine c9 (NV g) ?_;rintro v rfl q;refine d4 q ?_;clear q;clear g;rintro t rfl;refine aV λr w i J=>SW J λP S T K=>?_;let y:Ext F.heap w.heap:=⟨i.size,λb o f=>i.keep b o J7 f⟩;exact sM f.1 f.2 K λu U M=>⟨.range 0 n,k,E,w,a,(G.ext y i.gens i.os),I.trans (k7.ext y),M,λV=>rfl⟩
    .exact(VQ (j4 f) a).elim
   |_=>exact a.elim
theorem oq(L:Laid0 X)(k:J4 e'=a8)(n:N9 sc "enumerate"=a8)(o:SX prog X C A sc e e'):BX prog X C A sc (.enum e) (.Call (.Name (nm "enumerate") p) [e'] [] pos):=by
 intro c f s E ρ Q t H R h
 conv at h=>whnf
 refine Hn (es:=.cons e .nil) (Q1:=λg f=>match g with|[d]=>(match f.list? d with|some _=>Q (.enum 0 d) f|none=>k6)|_=>k6) L (x:="enumerate") (v:=.type "enumerate") (As 13 rfl) (.inr ⟨_,rfl⟩) (by simp[k]) n (Fc o GC k) t H R h λG g w b y a l j z=>?_;cases g with
 |nil=>exact a.elim
 |cons d r=>
  cases r with
  |cons e r=>exact a.elim
  |nil=>
   dsimp only at a;refine c9 (NV j) ?_;rintro v rfl B;cases i:b.list? d with
   |none=>rw[i]at a;exact a.elim
   |some J=>rw[i]at a;refine bg l B i λu K m=>?_;obtain⟨I,M,rfl,N,F,D⟩:=id m;exact LH D ⟨_,b,w,y,a,l,z,m,λq=>by cases q⟩
theorem qb(L:Laid0 X)(j:J4 a'=a8)(k:J4 b'=a8)(B:N9 sc "zip"=a8)(D:SX prog X C A sc a a')(E:SX prog X C A sc b b'):BX prog X C A sc (.zip a b) (.Call (.Name (nm "zip") p) [a',b'] [] pos):=by
 intro c l s P ρ Q F H R h
 conv at h=>whnf
 refine Hn (es:=.cons a (.cons b .nil)) (Q1:=λn l=>match n with|[x,y]=>(match l.items? x,l.items? y with|some _,a0 _=>Q (.zip x y 0) l|_,_=>k6)|_=>k6) L (x:="zip") (v:=.type "zip") (As 12 rfl) (.inr ⟨_,rfl⟩) (by simp[j,k]) B (Fc D (Fc E GC k) j) F H R h λT n G i J f w t K=>?_;cases n with
 |nil=>exact f.elim
 |cons d r=>
  cases r with
  |nil=>exact f.elim
  |cons e r=>
   cases r with
   |cons g r=>exact f.elim
   |nil=>
    dsimp only at f;refine n4 (YF t) ?_;rintro v u rfl M N;cases m:i.items? d with
    |none=>rw[m]at f;exact f.elim
    |some U=>
     cases o:i.items? e with
     |none=>rw[m,o]at f;exact f.elim
     |some V=>rw[m,o]at f;refine YM w M N m o λu W z=>?_;obtain⟨I,Y,rfl,Z,S,O⟩:=id z;exact LH O ⟨_,i,G,J,f,w,K,z,λq=>by cases q⟩theorem xF:SF prog X C A sc .nil []:=λa b a a a a a a R h=>f6 ⟨b,_,h,R,k7.refl⟩
theorem ek{a:a7 j9}{Q:b7->f8->Prop}(h:Q c8 s):
 b9 (d7 prog X.w) A (Hx a c8 λc r=>if r=a8 then do let b<-isTrue c env (eval c env);pure (Gw b)else pure (Gw r)) Q u0 s:=by
 induction a with
 |nil=>exact f6 h
 |cons e r d=>rw[Df,j4 (by decide)];exact b5 (f6 d)
theorem qe{e:MX}{es:Xs}{f:j9}{g:a7 j9}(l:ST prog X C A sc e f)(m:SF prog X C A sc es g):SF prog X C A sc (.cons e es) (f::g):=by
 intro c p s o ρ Q i H R h
 conv at h=>whnf
 rw[Df,g0 rfl];refine b5 (b5 (OW (l i H R h) λb q d n j k a=>f6 ?_));cases b with
 |true=>exact TL a (m i (H.step R a) k j)
 |false=>exact ek ⟨d,n,j,k,a⟩
end
section
variable{X:Fx}{st:St}
theorem p7.at(H:p7 X c n h env ρ)(l:∀b,AU env b->c.P b->c'.P b)(s:∀b o,AU env b->h.get? b=a0 o->h'.get? b=a0 o)
 (t:∀d v,V X.M c n h d v->V X.M c' n' h' d v):p7 X c' n' h' env ρ where
 kind:=H.kind
 g:=H.g
 b:=H.b
 pl:=l _ (.inl rfl) H.pl
 loc:=by refine c9 H.loc ?_;rintro m w j;ext EB w o B C e r;exact(d0 m (KB o B C (s _ _ (.inl rfl) e) r) λx d f D k=>c9 (j x d f D k) λv a b=>d0 v a (t _ _ b))
 cel x hx:=by refine C7 (H.cel x hx) ?_;rintro a u f j k i E;ext1 i o y z;let A:AU env a:=.inr (d0 x hx f);exact(U9 a u f (l _ A j) k (d0 o (s _ _ A y) z) λx d F e=>c9 (E x d F e) λv p q=>d0 v p (t _ _ q))
 apart:=H.apart
theorem p7.P(H:p7 X c n h env ρ){b:i7}(f:AU env b):c.P b:=by
 rcases f with rfl|⟨k,g,d⟩
 .exact H.pl
 .refine n4 (H.cel k g) λa i e j i=>?_;rw[e]at d;clear e;cases d;exact j
theorem p7.sF(H:p7 X c st.n s.heap env ρ)(R:i8 X c st s)(x:k7 c st s c' st' s' F)(f:∀b,F b->c.P b\/s.heap.objs.size<=b)(g:∀b,AU env b->¬F b):p7 X c' st'.n s'.heap env ρ:=
 H.at (λb d h=>by rw[x.P];exact h) (λb o e i=>x.keep b o i (λa j q=>R.priv a j (q▸H.P e)) (g b e)) λd d k=>x.V R f k
theorem GH(H:p7 X c n h env ρ)(b:BA env x):AU env (De env x):=by
 rcases b with b|b
 .rw[Ov b];exact .inl rfl
 .refine F8 (H.cel (nm x) (.inl b)) λa e d e=>?_;rw[Nr b d];exact .inr (d0 _ (.inl b) d)theorem AP.sF(h:AP X c st.n s.heap D acc)(R:i8 X c st s)(f:c.P D)(x:k7 c st s c' st' s' F)(g:∀b,F b->c.P b\/s.heap.objs.size<=b)(i:¬F D):AP X c' st'.n s'.heap D acc:=by obtain⟨d,⟨e,j⟩,k,l⟩:=h;exact⟨d,⟨e,x.keep _ _ j (λa m q=>R.priv a m (q▸f)) i⟩,x.Vs R g k,l⟩
theorem vH(R:i8 X c st s)(m:c.P D)(h:AP X c st.n s.heap D acc)(r:V X.M c st.n s.heap d v)(hz:acc.length<=j8)
 (t:∀u i,i8 X c st i->AP X c st.n i.heap D (acc++[d])->k7 c st s c st i (·=D)->Q u i):b9 (d7 prog X.w) A (call (.builtin "list.append") [.ref D,v]) Q u0 s:=by
 obtain⟨l,k,f,_⟩:=h;let n:=Vs.length f;rw[A2]at n;refine wpAny_list_append_plain k (λw g a=>?_) (by rw[n,O3];unfold j8 at hz;exact p6);let S:k7 c st s c st {s with heap:=w} (·=D):=k7.priv R (λb o e j=>a.extBut b o j e) (by rw[a.1];exact l8 _);refine t _ _ (R.keep (λb o e j=>a.extBut b o (λq=>j (q▸m)) e) (by rw[a.1];exact l8 _) rfl rfl) ?_ S;refine⟨_,g,?_,by simp;assumption⟩;rw[Js];let p:∀b,b=D->c.P b\/s.heap.objs.size<=b:=λb e=>.inl (e▸m);exact Tt (S.Vs R p f) (S.V R p r)
inductive Ti (X:Fx) (c:Cx) (st:St) (s:f8) (env:I0) (ρ:Env) (D:i7) (F:i7->Prop) (Q:a7 b0->St->Prop) (s':f8):Prop
 |mk (acc st' c') (q:Q acc st') (R:i8 X c' st' s') (v:AP X c' st'.n s'.heap D acc) (e:p7 X c' st'.n s'.heap env ρ) (S:k7 c st s c' st' s' F)
def SE(prog:y9)(X:Fx)(C:Cl)(A:B7)(sc:E7)(G:Gs)(m:b8->I0->M6 Ay):Prop:=
 ∀⦃c:Cx⦄⦃st:St⦄⦃s:f8⦄⦃env:I0⦄⦃ρ:Env⦄⦃acc:a7 b0⦄⦃D:i7⦄⦃Q:a7 b0->St->Prop⦄,env.scope=sc->p7 X c st.n s.heap env ρ->(∀x∈G.tgts,ρ x=b4)->i8 X c st s->c.P D->¬AU env D->
  AP X c st.n s.heap D acc->WG C G ρ ρ st acc Q->b9 (d7 prog X.w) A (m (.ref D) env) (λw0 s'=>Ti X c st s env ρ D (λb=>b=D\/Ee env (·∈G.tgts) b) Q s') u0 s
def Cp(e elt:j9)(gens:a7 CK)(depth:a6)(acc:b8)(env:I0):M6 Ay:=match gens[depth+1]? with
 |some g'=>do
  let x<-eval g'.iter env
  Pg g'.iter.pos
  let x<-nY g'.iter env x
  let _<-runOwn (.compStart e (depth+1) (<-holding [x] (DW x)) acc env) env
 |none=>do let _<-call (.builtin "list.append") [acc,<-eval elt env]
theorem uL(hg:gens[depth]?=a0 ⟨target,iter,ifs,0⟩)(h0:∀g'∈gens,g'.is_async=0):
 VJ (.ListComp elt gens scope pos) depth it acc env=(do
  Pg iter.pos
  match<-Gv it with
  |none=>pure (.done .next)
  |some v=>
   VL target it v
   assign target env v
   let mut ok:=true
   for c in ifs do
    if ok then ok<-isTrue c env (eval c env)
   if ok then
    Cp (.ListComp elt gens scope pos) elt gens depth acc env
   again (.compLoop (.ListComp elt gens scope pos) depth it acc env)):=by
 unfold VJ Cp;dsimp only;rw[hg];dsimp only;cases hq:gens[depth+1]? with
 |none=>rfl
 |some g'=>obtain⟨t',i',f',a'⟩:=g';obtain rfl:=h0 _ (p8 hq);simp only[mY,Bv,Bz,lA];rfl
inductive zJ (X:Fx) (env:I0) (ρ:Env) (D I:i7) (fp:a7 i7) (p:a7 j3) (c0:Cx) (BG:St) (s0:f8) (F:i7->Prop) (step:b0->St->a7 b0->(a7 b0->St->Prop)->Prop) (Q:a7 b0->St->Prop) (n:a6) (s:f8):Prop
 |mk (it st acc c) (H:p7 X c st.n s.heap env ρ) (R:i8 X c st s) (HA:AP X c st.n s.heap D acc) (hI:Am X c st.n s.heap it I fp) (hk:ER it=a8\/2<=p.length) (S0:k7 c0 BG s0 c st s F) (hw:Bm step n it st acc Q)
theorem dL
 (hh:A.handled=b4)(hg:gens[depth]?=a0 ⟨target,iter,ifs,0⟩)(h0:∀g'∈gens,g'.is_async=0)(hT:AV p target)(hs:env.scope=sc)(hlc:∀x∈p++r.tgts,BA env x)(hnd:∀x∈r.tgts,x∉p)
 (hF:SF prog X C A sc ifX ifs)(hr:SE prog X C A sc r (Cp (.ListComp elt gens scope pos) elt gens depth))
 (hfE:∀b∈fp,¬AU env b/\b≠D)(hDE:¬AU env D)(hρ:∀x∈p++r.tgts,ρ x=b4)(hPD:c0.P D)(hPf:∀b∈fp,c0.P b)(n:a6)
 (h:zJ X env ρ D I fp p c0 BG s0 (λb=>b∈fp\/b=D\/Ee env (·∈p++r.tgts) b) (λd st acc k=>(match AD p d ρ with
  |none=>k6
  |some ρ'=>Eg C ifX ρ' st λb st=>(match b with
   |true=>WG C r ρ' ρ' st acc k
   |false=>k acc st))) Q n s):
 BI (d7 prog X.w) A (.compLoop (.ListComp elt gens scope pos) depth (.ref I) (.ref D) env)
  (λres s'=>res= .ok .next/\Ti X c0 BG s0 env ρ D (λb=>b∈fp\/b=D\/Ee env (·∈p++r.tgts) b) Q s') s:=by
 refine codeAny_loop rfl _ (λn s hI=>?_) n h;clear h;obtain⟨it,st,acc,c,H,R,HA,hI,hk,S0,hw⟩:=hI;refine(?_:b9 _ A ((VJ (.ListComp elt gens scope pos) depth (.ref I) (.ref D) env).onRaise (λx=>do noteFrame x env;theTreesLotGoes x)) _ _ s);refine wpAny_noted ?_;rw[uL hg h0];let hcP:=S0.P;let hPD':c.P D:=by rw[hcP];exact hPD
 have hPf':∀b∈fp,c.P b:=λb hb=>by rw[hcP];exact hPf b hb
 refine Nt (b5 ?_);let hS1:∀b,b∈fp->c.P b\/s.heap.objs.size<=b:=λb hb=>.inl (hPf' b hb);rcases rp hw with⟨hnx,hw⟩|⟨n',hn',d,it',hnx,hw⟩
 .refine NY hh R hPf' hI hnx λr' s1 F1 hN=>?_;have S1:=F1.step (c:=c) (st:=st);cases hN;exact f6 ⟨rfl,acc,st,c,hw,F1.rep R hPf',HA.sF R hPD' S1 hS1 λhb=>(hfE D hb).2 rfl,H.sF R S1 hS1 λb he hb=>(hfE b hb).1 he,S0.trans (S1.z λb hb=>.inl hb)⟩
 obtain⟨ρ',hb,hw⟩:=Yu hw;refine NY hh R hPf' hI hnx λr' s1 F1 hN=>?_;ext y0 hN u hr' hu hO;cases hr';let R1:=F1.rep R hPf';let S1:=F1.step (c:=c) (st:=st);have hk':ER it'=a8\/2<=p.length:=hk.imp (Xx hnx) id;refine b5 (ZS hPf' hO (dB hT hk') λs2 F2 hI2=>?_);let R2:=F2.rep R1 hPf';let S2:=F2.step (c:=c) (st:=st);have hS2:∀b,b∈fp->c.P b\/s1.heap.objs.size<=b:=λb hb=>.inl (hPf' b hb);have H2:=(H.sF R S1 hS1 λb he hb=>(hfE b hb).1 he).sF R1 S2 hS2 λb he hb=>(hfE b hb).1 he;let hpl:∀b,Ee env (·∈p++r.tgts) b->AU env b:=by rintro b z1;ext c9 z1 x hx rfl;exact GH H (hlc x hx)
 have hTF:∀b,Ee env (·∈p) b->c.P b:=by rintro b z2;ext c9 z2 x hx rfl;exact H2.P (GH H (hlc x (G1 _ hx)))
 refine b5 (dH (F:=Ee env (·∈p)) hTF hh hT H2 R2 (S2.V R1 hS2 hu) hb (λx hx=>hlc x (G1 _ hx)) (λx hx=>d0 x hx rfl) λs3 R3 H3 S3=>?_);let hS3:∀b,Ee env (·∈p) b->c.P b\/s2.heap.objs.size<=b:=λb hb=>.inl (hTF b hb);have hmono:∀x d,ρ x=a0 d->ρ' x=a0 d:=by refine c9 (RJ (st:=st) hb hT.ne) ?_;clear hb hw H3;rintro ds w0 rfl;exact bb _ λq hq=>hρ _ (G1 _ (Jy hq).1)
 let hρ':∀x∈r.tgts,ρ' x=b4:=by
  refine c9 (RJ (st:=st) hb hT.ne) ?_;clear hb hw H3 hmono;rintro ds w0 rfl;let key:∀(l:a7 (j3×b0))(ρ:Env)(x:j3),(∀p∈l,p.1≠x)->Dp ρ l x=ρ x:=by
   intro l
   induction l with
   |nil=>intro ρ x w0;rfl
   |cons p l ih=>intro ρ x h;refine(?_:Dp (ρ.set p.1 p.2) l x=_);rw[ih _ _ λq hq=>h q (k8 _ hq)];refine EE (λe=>h p j5 e.symm) ?_;try with_reducible rfl
  intro x hx;rw[key _ _ _ λq hq e=>hnd x hx (by rw[<-e];exact(Jy (a:=q.1) (b:=q.2) hq).1)];exact hρ x (K6 _ hx)
 have S03:k7 c0 BG s0 c st s3 (λb=>b∈fp\/b=D\/Ee env (·∈p++r.tgts) b):=
  ((S0.trans (S1.z λb hb=>.inl hb)).trans (S2.z λb hb=>.inl hb)).trans (S3.z λb z9=>c9 z9 λx hx e=>.inr (.inr (d0 x (G1 _ hx) e)))
 refine b5 (v6 (hF hs H3 R3 hw) (λok s4 p4=>?_) λw0 w0 x=>x.elim);obtain⟨st4,c4,hq4,R4,S4⟩:=p4;let H4:=H3.step R3 S4;have HA4:=(((HA.sF R hPD' S1 hS1 λhb=>(hfE D hb).2 rfl).sF R1 hPD' S2 hS2 λhb=>(hfE D hb).2 rfl).sF R2 hPD' S3 hS3 λhq=>hDE (by ext c9 hq x hx e;exact e▸GH H (hlc x (G1 _ hx)))).sF R3 hPD' S4 (λw0 h=>h.elim) id;have hI4:=(hI2.step R2 S3 hS3 hPf' λb hb hq=>(hfE b hb).1 (by refine c9 hq ?_;clear hq;clear hb;rintro x hx rfl;exact GH H (hlc x (G1 _ hx)))).step R3 S4 (λw0 h=>h.elim) hPf' λw0 w0 h=>h;cases ok with
 |false=>dsimp only at hq4;refine f6 ⟨rfl,n',hn',it',st4,acc,c4,H4.weaken hmono,R4,HA4,hI4,hk',S03.trans (S4.z λw0 h=>h.elim),hq4⟩
 |true=>
  dsimp only at hq4;let hPD4:c4.P D:=by rw[S4.P];exact hPD'
  refine b5 (v6 (hr hs H4 hρ' R4 hPD4 hDE HA4 hq4) (λw0 s5 p5=>?_) λw0 w0 x=>x.elim);obtain⟨acc5,st5,c5,hq5,R5,HA5,H5,S5⟩:=p5;let hI5:=hI4.step R4 S5 (λb hb=>.inl (by
   rcases hb with rfl|⟨x,hx,rfl⟩
   .exact hPD4
   .exact H4.P (GH H4 (hlc x (K6 _ hx))))) (λb hb=>by rw[S4.P];exact hPf' b hb:∀b∈fp,c4.P b) λb hb hq=>by
    rcases hq with rfl|⟨x,hx,rfl⟩
    .exact(hfE _ hb).2 rfl
    .exact(hfE _ hb).1 (GH H4 (hlc x (K6 _ hx)))
  exact f6 ⟨rfl,n',hn',it',st5,acc5,c5,H5.weaken hmono,R5,HA5,hI5,hk',(S03.trans (S4.z λw0 h=>h.elim)).trans (S5.z λb hb=>hb.elim (λe=>.inr (.inl e)) λz9=>c9 z9 λx hx e=>.inr (.inr (d0 x (K6 _ hx) e))),hq5⟩
end
section
variable{X:Fx}
theorem bH(f:∀b,P b->c.P b)(g:Vs base c n h d v):Vs base (c.O P) n h d v:=
 Ll (c:=c) (λa e e i e h=>i (f a h)) d v g
theorem AP.O(d:∀b,P b->c.P b)(x:AP X c n h D acc):AP X (c.O P) n h D acc:=by obtain⟨a,e,f,g⟩:=x;exact⟨a,e,bH d f,g⟩theorem AP.hide(x:Fr [] s s')(d:∀b∈fp,s.heap.objs.size<=b)(h:AP X c n s.heap D acc):AP X (c.hide fp) n s'.heap D acc:=by obtain⟨a,⟨e,f⟩,g,i⟩:=h;exact⟨a,⟨e,x.keep _ _ J7 f⟩,Zz x d g,i⟩theorem AP.lt(x:AP X c n h D acc):D<h.objs.size:=by obtain⟨a,⟨e,b⟩,_⟩:=x;exact C2 b
theorem p7.lt{n:a6}{h:l5}(H:p7 X c n h env ρ){b:i7}(g:AU env b):b<h.objs.size:=by
 rcases g with rfl|⟨k,i,e⟩
 .exact c9 H.loc λm j d=>j.lt
 .refine C7 (H.cel k i) λa u f d d l d=>?_;rw[f]at e;clear f;cases e;exact l.lt
theorem Am.hide(x:Fr [] s s')(hf:∀b∈fp,s.heap.objs.size<=b)(h:Am X c n s.heap it I fp'):Am X (c.hide fp) n s'.heap it I fp':=by
 have k:∀b o,s.heap.get? b=a0 o->s'.heap.get? b=a0 o:=λb o ho=>x.keep b o J7 ho
 induction h with
 |seq hv hi=>exact .seq (hv.hide x hf) (hi.at λo=>k _ o)
 |keys hb hi=>ext c9 hi o ho r;exact .keys hb (d0 o (k _ _ ho) r)
 |text hi hl=>ext c9 hi o ho r;exact .text (d0 o (k _ _ ho) r) hl
 |range hi=>exact .range (k _ _ hi)
 |enum hb he hi hne=>ext1 hi o ho r;exact .enum hb (k _ _ he) (d0 o (k _ _ ho) r) hne
 |zip ha hb hz=>refine .zip (ha.hide x hf) (hb.hide x hf) ?_;let zz:=hz.zo;ext1 zz f1 zo;exact R9 hz.to λp q to=>⟨⟨f1,k _ _ zo⟩,k _ _ hz.ti,(Dw p q (k _ _ to)),hz.s1.at λo=>k _ o,hz.s2.at λo=>k _ o,hz.TT,hz.ii,hz.l1,hz.l2⟩theorem Oj(h:AF e=a8)(x:b8):nY e env x=pure x:=by cases e<;>first|rfl|exact no h
theorem eO(d:gens[depth]?=a0 ⟨target,iter,ifs,0⟩)
 (b:BI (d7 prog X.w) A (.compLoop (.ListComp elt gens scope pos) depth it acc env) R s)
 (h:b9 (d7 prog X.w) A (DW it) (λa c=>BI (d7 prog X.w) A (.compLoop (.ListComp elt gens scope pos) depth a acc env) R c) u0 s):
 BI (d7 prog X.w) A (.compStart (.ListComp elt gens scope pos) depth it acc env) R s:=by
 refine MG (wpAny_notedAt ?_);have e:(clausesOf (.ListComp elt gens scope pos))[depth]?=a0 ⟨target,iter,ifs,0⟩:=d;unfold compStart;rw[e];refine b5 (Qr (wpAny_ite ?_));split
 .first
   |exact b5 (f6 (f6 (UP rfl b)))
   |exact f6 (UP rfl b)
 .exact b5 (EK (b5 (Fs (b5 (v6 h (λa c f=>f6 (UP rfl f)) λg g x=>x.elim)))))
theorem yW(i:SX prog X C A sc e elt)(t:gens[depth+1]?=b4):SE prog X C A sc (.elt e) (Cp E elt gens depth):=by
 intro c G s B ρ F D Q w H m R n j x h
 conv at h=>whnf
 unfold Cp;rw[t];refine b5 (B6 (i w H R h) λv I d k o p q y g=>?_);have f:o.P D:=by rw[g.P];exact n
 exact b5 (vH q f (x.sF R n g (λm h=>h.elim) id) y p.1 λu J z l r=>f6 ⟨_,k,o,p.2,z,l,((H.step R g).sF q r (λb a=>.inl (a▸f)) λb i a=>j (a▸i)),(g.z λm h=>h.elim).trans (r.z λb a=>.inl a)⟩)
theorem fk
 (hh:A.handled=b4)(z:gens[depth+1]?=a0 ⟨target,iter,ifs,0⟩)(h0:∀g'∈gens,g'.is_async=0)(hT:AV p target)(G:∀d:I0,d.scope=sc->∀x∈p++r.tgts,BA d x)(J:∀x∈r.tgts,x∉p)(K:AF iter=a8)
 (hk:Du src=a8\/2<=p.length)(hS:BX prog X C A sc src iter)(hF:SF prog X C A sc ifX ifs)(hr:SE prog X C A sc r (Cp (.ListComp elt gens scope pos) elt gens (depth+1))):
 SE prog X C A sc (.cons p src ifX r) (Cp (.ListComp elt gens scope pos) elt gens depth):=by
 intro c st s d ρ L D Q B H M R U N HA h
 conv at h=>whnf
 unfold Cp;rw[z];dsimp only;refine b5 (v6 (hS B H R h) (λv s1 h1=>?_) λk k x=>x);refine b5 (Fs ?_);rw[Oj K];refine b5 (f6 (b5 (L0 (v6 h1 (λu V h2=>?_) λk k x=>x))));obtain⟨it,m,j,s0,⟨n,hq⟩,R0,w,⟨I,l,rfl,y,f,W⟩,O⟩:=h2;let E:=H.step R w;have o:=HA.sF R U w (λk h=>h.elim) id;let i:BI (d7 prog X.w) A (.compLoop (.ListComp elt gens scope pos) (depth+1) (.ref I) (.ref D) d)
  (λq Y=>q= .ok .next/\Ti X (j.hide l) m V d ρ D (λb=>b∈l\/b=D\/Ee d (·∈p++r.tgts) b) Q Y) V:=
  dL (c0:=j.hide l) hh z h0 hT B (G d B) J hF hr (λb a=>⟨λhe=>(Q0 (f b a).1 (E.lt he)).elim,λe=>(Q0 (e▸(f b a).1) o.lt).elim⟩:∀b∈l,¬AU d b/\b≠D) N M (Or.inl (by rw[w.P];exact U:j.P D)) (λb a=>Wa a) n ⟨it,m,L,j.hide l,(E.hide y λb a=>(f b a).1),(R0.hide y f),(o.hide y λb a=>(f b a).1),W,hk.imp O id,k7.refl,hq⟩
 refine b5 (wpAny_runOwn (JA (eO z i (LH W i)) λq Y g=>?_));ext1 g rfl rr;obtain⟨t,P,Z,S,R5,T,H5,S5⟩:=rr;refine f6 ?_;let F:∀b,j.P b->Z.P b:=λb a=>by rw[S5.P];exact .inl a
 refine⟨t,P,Z.O j.P,S,R5.O F,T.O F,E.O H5 F,(w.z λk h=>h.elim).trans (S5.uH y λb a=>?_)⟩;rcases a with a|a|a
 .exact .inr (f b a).1
 .exact .inl (.inl a)
 .exact .inl (.inr a)
end
def Cu(scope sc:E7):E7:=
 {scope with names:=scope.names.map λ(n,k)=>if(k==.free&&sc.kind==.function&&sc.names.lookup n==a0 .cell)then(n,.cell)else(n,k)}
theorem rg{g:o3->Av->Av}:∀(l:a7 (o3×Av))(x:o3),(l.map λp=>(p.1,g p.1 p.2)).lookup x=(l.lookup x).map (g x):=by
 intro a
 induction a with
 |nil=>intro d;exact rfl
 |cons b r c=>
  obtain⟨n,k⟩:=b;intro x;rw[y4,BL,BL];cases h:x==n with
  |true=>
   have e:x=n:=by simpa using h
   clear h;subst e;rfl
  |false=>exact c x
theorem vI(a b:E7)(x:o3):(Cu a b).names.lookup x=(a.names.lookup x).map λk=>if(k==.free&&b.kind==.function&&b.names.lookup x==a0 .cell)then .cell else k:=by rw[<-rg (g:=λn k=>if(k==.free&&b.kind==.function&&b.names.lookup n==a0 .cell)then .cell else k)];unfold Cu;dsimp only;congr 1;refine A1 λp c=>?_;obtain⟨n,k⟩:=p;split<;>rfl
structure HV (scope sc:E7) (tgts:a7 j3):Prop where
 kind:scope.kind= .function
 nodup:(scope.names.map (·.1)).Nodup
 own:∀x:j3,scope.names.lookup (nm x)=a0 .local\/scope.names.lookup (nm x)=a0 .cell->x=".0"\/x∈tgts
 tgt:∀x∈tgts,scope.names.lookup (nm x)=a0 .local\/scope.names.lookup (nm x)=a0 .cell
 free:∀k,scope.names.lookup k=a0 .free->sc.names.lookup k=a0 .cell\/sc.names.lookup k=a0 .free
theorem MS{α:Type}:∀{l:a7 (o3×α)}{p:o3×α},(l.map (·.1)).Nodup->p∈l->l.lookup p.1=a0 p.2
 :=by
 intro l
 induction l with
 |nil=>intro p c b;cases b
 |cons q r d=>
  intro p c b;cases q with|mk n v=>
  rw[y4,Az]at c;rw[BL];rcases D9 b with rfl|b
  .simp
  .have f:(p.1==n)=c8:=by rw[Gp];rintro e;exact c.1 (e▸(C0 (a:=p) b rfl))
   rw[f];exact d c.2 b
theorem wj:∀(names:a7 (o3×Av))(n:a6)(a:a7 (o3×i7)),Dh n names a=Dh n names []++a:=by
 intro c
 induction c with
 |nil=>intro d d;exact rfl
 |cons e r b=>
  obtain⟨m,k⟩:=e;intro n a;unfold Dh;split
  .rw[b (n+1) ((m,n)::a),b (n+1) [(m,n)],Eb];rfl
  .exact b n a
theorem vR:∀(names:a7 (o3×Av))(n:a6)(b:a7 (o3×i7))(k:o3)(a:i7),(k,a)∈Dh n names b->(k,VW)∈names\/(k,a)∈b:=by
 intro g
 induction g with
 |nil=>intro c c c c h;exact .inr h
 |cons i r d=>
  obtain⟨m,j⟩:=i;intro n b k a h;unfold Dh at h;split at h
  .rename_i f;rcases d _ _ k a h with h|h
   .exact .inl (k8 _ h)
   .rcases D9 h with e|h
    .clear h;clear h;cases e;refine .inl ?_;have l:j= .cell:=by simpa using f
     clear f;subst l;exact j5
    .exact .inr h
  .exact(d _ _ k a h).imp (k8 _) id
section
variable{X:Fx}{st:St}
theorem ui{names:a7 (o3×Av)}(m:∀p∈names,p.2= .free->∃a,env.cells.lookup p.1=a0 a):∀c:a7 (o3×i7),∃f,(Hx names c λ(x:o3×Av)(cs:a7 (o3×i7))=>(if x.2==.free then do let a<-Qu env x.1;pure (Gw ((x.1,a)::cs))else pure (Gw cs):M6 _))=pure f/\
 ∀k a,(k,a)∈f↔((k,a)∈c\/((k,oK)∈names/\env.cells.lookup k=a0 a)):=by
 induction names with
 |nil=>exact λc=>d0 c rfl λk a=>by simp
 |cons p r t=>
  intro c;obtain⟨n,o⟩:=p;let q:=t λp u=>m p (k8 _ u);by_cases i:o= .free
  .subst i;refine d4 (m _ j5 rfl) λa s=>c9 (q ((n,a)::c)) λf j l=>d0 f ?_ λk b=>?_
   .rw[Df];let d:Qu env n=pure a:=by unfold Qu;rw[s]
    simp only[CG,DY,d,pure_bind];exact j
   .rw[l];have g:env.cells.lookup n=a0 a:=s;simp only[K5,mI];constructor
    .rintro((⟨rfl,rfl⟩|h)|⟨h,e⟩)
     .exact .inr ⟨.inl ⟨rfl,trivial⟩,g⟩
     .exact .inl h
     .exact .inr ⟨.inr h,e⟩
    .rintro(h|⟨⟨rfl,_⟩|h,e⟩)
     .exact .inl (.inr h)
     .rw[g]at e;cases e;exact .inl (.inl ⟨rfl,rfl⟩)
     .exact .inr ⟨h,e⟩
  .refine c9 (q c) λf j l=>d0 f ?_ λk b=>?_
   .rw[Df];let d:(o==oK)=c8:=by simpa using i
    simp only[d,Bv,Bz,pure_bind];exact j
   .rw[l];simp only[K5,mI];constructor
    .rintro(h|⟨h,e⟩)
     .exact .inl h
     .exact .inr ⟨.inr h,e⟩
    .rintro(h|⟨⟨_,h⟩|h,e⟩)
     .exact .inl h
     .exact(i h.symm).elim
     .exact .inr ⟨h,e⟩
abbrev Xf(scope:E7)(L globals:i7)(cells:a7 (o3×i7))(qual:o3)(outer:I0):I0:=
 {scope,locals:=L,globals,cells,qual,func:=b4,code:=outer.code,frame:=outer.frame,builtins:=outer.builtins}
theorem wn
 (h:Q (Xf scope s.heap.objs.size globals (Dh (s.heap.objs.size+1) scope.names cl) qual env) {s with heap:=Py (s.heap.push {cls:=.type "dict",data:=.dict #[]}) scope.names}):
 b9 M A (WM scope globals cl [] qual b4 .none (a0 env)) Q E s:=by
 simp only[WM,Wr,DY];refine b5 (kQ (b5 (wpAny_layCells _ (λd a c=>by cases b:a==VW<;>simp[b]) _ _ _ _ ?_)));rw[show({s with heap:=s.heap.push {cls:=.type "dict",data:=.dict #[]}}:f8).heap.objs.size=s.heap.objs.size+1 from J6 ..];exact b5 (f6 (f6 h))
theorem dn:∀(names:a7 (o3×Av))(h:l5),h.objs.size<=(Py h names).objs.size:=by
 intro b
 induction b with
 |nil=>intro d;exact l8 _
 |cons c r a=>
  obtain⟨_,k⟩:=c;intro h;unfold Py;split
  .exact b6 (by rw[J6];exact N8 _) (a _)
  .exact a h
theorem wE{α:Type}:∀{l:a7 (o3×α)}{k:o3}{a:α},(k,a)∈l->∃b,l.lookup k=a0 b
 :=by
 intro l
 induction l with
 |nil=>intro k a h;cases h
 |cons p r c=>
  intro k a h;cases p with|mk n v=>
  rw[BL];cases d:k==n with
  |true=>exact⟨v,rfl⟩
  |false=>
   rcases D9 h with e|h
   .clear h;cases e;simp at d
   .exact c h
theorem i8.adopt(R:i8 X c st s)(i:X.M.objs.size<=x)(j:∀a,a<st.n->c.κ a≠x)(l:¬c.P x)(m:J3 X c st.n s.heap o x):i8 X (c.add st.n x) (st.A o) s:=by
 have k:∀{o:AO}{y:i7},J3 X c st.n s.heap o y->J3 X (c.add st.n x) (st.n+1) s.heap o y:=λh=>ZX (N8 _) (λa d=>Cx.o d) (λn n=>id) h;have split:∀a,a<st.n+1->a<st.n\/a=st.n:=λa d=>iO (v0 d);refine{stays:=R.stays,lo:=?_,inj:=?_,obj:=?_,priv:=?_,pold:=R.pold,gens:=R.gens,os:=R.os,three:=R.three,bsz:=R.bsz}
 .intro a d;rcases split a d with h|rfl
  .rw[Cx.o h];exact R.lo a h
  .rw[Cx.p];exact i
 .intro a b d i e;rcases split a d with h|rfl<;>rcases split b i with g|rfl
  .rw[Cx.o h,Cx.o g]at e;exact R.inj a b h g e
  .rw[Cx.o h,Cx.p]at e;exact(j a h e).elim
  .rw[Cx.p,Cx.o g]at e;exact(j b g e.symm).elim
  .rfl
 .intro a d;rcases split a d with h|rfl
  .rw[Cx.o h];let f:(st.A o).h a=st.h a:=by simp[St.A,m6 h]
   rw[f];exact k (R.obj a h)
  .rw[Cx.p];let f:(st.A o).h st.n=o:=by simp[St.A]
   rw[f];exact k m
 .intro a d;rcases split a d with h|rfl
  .rw[Cx.o h];exact R.priv a h
  .rw[Cx.p];exact l
theorem k7.adopt(y:k7 c st s c' st' s' F)(f:s.heap.objs.size<=x):k7 c st s (c'.add st'.n x) (st'.A o) s' F:=
 ⟨U4 y.n,λa b=>(Cx.o (j7 b y.n)).trans (y.aG a b),y.P,y.keep,λa d e=>by
  by_cases h:a<st'.n
  .rw[Cx.o h];exact y.new a d h
  .let g:a=st'.n:=by have g:a<st'.n+1:=e;exact AL (v0 g) (Nat.not_lt.mp h)
   clear d e h;subst g;rw[Cx.p];exact f,y.size⟩
end
abbrev rk(b c:b7)(o:j0 Av):j0 Av:=o.map λkd=>if(kd==.free&&b&&c)then .cell else kd
theorem av(h:rk b c o=a0 .cell\/rk b c o=a0 .free):o=a0 .cell\/o=a0 .free:=by
 cases o with
 |none=>rcases h with h|h<;>cases h
 |some a=>cases a<;>first|exact .inl rfl|exact .inr rfl|(rcases h with h|h<;>cases h)
theorem vB(h:rk b c o=a0 .local):o=a0 .local:=by
 cases o with
 |none=>cases h
 |some a=>cases a<;>first|rfl|(cases h;done)|(cases b<;>cases c<;>cases h)
theorem ir(h:o=a0 .local\/o=a0 .cell):rk b c o=a0 .local\/rk b c o=a0 .cell:=by
 rcases h with rfl|rfl
 .exact .inl rfl
 .exact .inr rfl
theorem uk(h:o=a0 .local) (q:rk b c o=a0 .cell):k6:=by subst h;cases q
section
variable{X:Fx}{st:St}
theorem aL{Q:Q1}{RR:b8->i7->Mu->f8->Prop}
 (hh:A.handled=b4)(F:HV scope sc (p++r.tgts))(h0:∀g'∈(⟨target,iter,ifs,0⟩::rest:a7 CK),g'.is_async=0)(hT:AV p target)(hnd:∀x∈r.tgts,x∉p)(hk:Du src=a8\/2<=p.length)
 (hS:BX prog X C A sc src iter)(hF:SF prog X C A (Cu scope sc) ifX ifs)(hr:SE prog X C A (Cu scope sc) r (Cp (.ListComp elt (⟨target,iter,ifs,0⟩::rest) scope pos) elt (⟨target,iter,ifs,0⟩::rest) 0))
 (hs:env.scope=sc)(H:p7 X c st.n s.heap env ρ)(R:i8 X c st s)(h:W C (.Q (.cons p src ifX r)) ρ st Q)
 (hfin:∀D L s5 d st6 c6,Q d st6->i8 X c6 st6 s5->V X.M c6 st6.n s5.heap d (.ref D)->(∀b,c6.P b↔c.P b\/b=L)->(∃m,s5.heap.Ns L m)->s.heap.objs.size<=L->k7 c st s (c6.O c.P) st6 s5 y6->RR (.ref D) L (.ok .next) s5):
 ∃U,jL scope env=pure U/\b9 (d7 prog X.w) A (eval iter env) (λx s1=>b9 (d7 prog X.w) A (DW x) (λit l=>b9 (d7 prog X.w) A (newList []) (λacc s3=>b9 (d7 prog X.w) A (WM scope env.globals U [] env.qual b4 .none (a0 env)) (λf s4=>BI (d7 prog X.w) A (.compStart (.ListComp elt (⟨target,iter,ifs,0⟩::rest) scope pos) 0 it acc {f with scope:=relabel scope env}) (RR acc f.locals) s4) u0 s3) u0 l) u0 s1) u0 s:=by
 subst hs;let hmemf:∀p∈scope.names,p.2= .free->cf env p.1:=λp hp e=>by
  let this:=MS F.nodup hp;rw[e]at this;exact F.free _ this
 obtain⟨U,hcl,hmem⟩:=ui (env:=env) (names:=scope.names) (λp hp e=>by
  exact F8 (H.cel p.1 (hmemf p hp e)) λa w0 h w0=>⟨a,h⟩) []
 refine d0 U ?_ ?_
 .unfold jL;let this:(Hx scope.names [] λ(x:o3×Av)(cs:a7 (o3×i7))=>(if x.2==.free then do let a<-Qu env x.1;pure (Gw ((x.1,a)::cs))else pure (Gw cs):M6 _))>>=pure=pure U:=by rw[hcl];rfl
  exact this
 refine v6 (hS rfl H R h) (λv s1 K=>?_) λw0 w0 x=>x;refine v6 K (λu l h2=>?_) λw0 w0 x=>x;obtain⟨it,st1,M,s0,⟨n,hq⟩,R0,S0,⟨I,fp,rfl,F1,hfp,hI⟩,hpl⟩:=h2;have H0:=H.step R S0;refine Fn (wn ?_);dsimp only;refine M8 (l.heap.push {cls:=.type "list",dict:=b4,data:=.seq ([]:a7 b8).toArray}) λt hH3=>?_;have Y:t.objs.size=l.heap.objs.size+1:=by rw[<-hH3,J6]
 refine M8 (Py (t.push {cls:=.type "dict",data:=.dict #[]}) scope.names) λH4 hH4=>?_;have hz4:t.objs.size+1<=H4.objs.size:=by rw[<-hH4];exact b6 (by rw[J6];exact l8 _) (dn _ _)
 have old4:∀b o,t.get? b=a0 o->H4.get? b=a0 o:=λb o ho=>by rw[<-hH4];exact oR _ _ _ _ (A9 _ ho)
 have F2:Fr [] l {l with heap:=H4}:=⟨λb o w0 ho=>old4 _ _ ((λb o ho=>by rw[<-hH3];exact A9 _ ho:∀b o,l.heap.get? b=a0 o->t.get? b=a0 o) _ _ ho),by exact Zf hz4 Y,rfl,rfl⟩;let ok:=cellsFrom_ok scope.names (t.push {cls:=.type "dict",data:=.dict #[]}) (t.objs.size+1) [] ⟨λw0 w0 j=>(by cases j),Gu⟩ (by rw[J6];exact l8 _);rw[J6,hH4]at ok;revert ok;refine M8 (Dh (t.objs.size+1) scope.names []) λJ hown ok=>?_;refine M8 ({Xf scope t.objs.size env.globals (Dh (t.objs.size+1) scope.names U) env.qual env with scope:=relabel scope env}:I0) λf E=>?_;have e1:f.scope=Cu scope env.scope:=by rw[<-E];rfl
 have e2:f.locals=t.objs.size:=by rw[<-E]
 have e3:f.cells=J++U:=by rw[<-E,<-(by rw[wj,hown]:Dh (t.objs.size+1) scope.names U=J++U)]
 have hkd:∀k,f.kindOf k=(scope.names.lookup k).map λkd=>if(kd==.free&&env.scope.kind==.function&&env.scope.names.lookup k==a0 .cell)then .cell else kd:=λk=>by
  unfold Env.kindOf;rw[e1,vI]
 have i:∀k a,(k,a)∈J->scope.names.lookup k=a0 .cell/\t.objs.size+1<=a/\a<H4.objs.size:=λk a j=>by
  let K:=ok.empty k a j;refine m0 ?_ K.2 K.1.lt;rw[<-hown]at j;let this:=(vR _ _ _ _ _ j).resolve_right (by simp);exact MS F.nodup this
 have w:∀k a,(k,a)∈U->scope.names.lookup k=a0 .free/\env.cells.lookup k=a0 a/\cf env k:=λk a j=>by
  let this:=((hmem k a).mp j).resolve_left (by simp);exact m0 (MS F.nodup this.1) this.2 (hmemf _ this.1 rfl)
 have G:∀k a,f.cells.lookup k=a0 a->(k,a)∈J\/(k,a)∈U:=λk a hl=>by
  rw[e3]at hl;exact v3 (mem_of_lookup hl)
 let hcf:∀k,cf f k->scope.names.lookup k=a0 .cell\/scope.names.lookup k=a0 .free:=λk hk=>by
  unfold cf at hk;rw[hkd]at hk;exact av hk
 have S:∀k a,(k,a)∈U->a<s0.heap.objs.size:=λk a j=>H0.lt (.inr (d0 k ((w k a j).2.2) ((w k a j).2.1)));let z:=F1.size;refine M8 (l.heap.objs.size::t.objs.size::J.map (·.2)) λN T=>?_;have O:∀b∈N,l.heap.objs.size<=b/\b<H4.objs.size:=by
  intro b g;rw[<-T]at g;rcases D9 g with rfl|g
  .exact⟨l8 _,fX hz4 Y⟩
  rcases D9 g with rfl|g
  .exact⟨Y▸N8 _,po hz4⟩
  ext B0 g ⟨k,a⟩ j;let this:=i k a j;exact⟨m9 (q5 (Y▸N8 _) this.2.1),this.2.2⟩
 let hI4:=hI.hide F2 λb g=>(O b g).1;let HL:H4.Ns t.objs.size (λw0=>b4):=by rw[<-hH4];exact(xh t (.type "dict")).keeps (oR _ _)
 have hDP:((M.hide fp).hide N).P l.heap.objs.size:=.inr (by rw[<-T];exact j5);have hLP:((M.hide fp).hide N).P t.objs.size:=.inr (by rw[<-T];exact k8 _ j5);rw[(show(Gs.cons p src ifX r).tgts=p++r.tgts from rfl)]at hq;generalize hρ0:ρ.clear (".0"::(p++r.tgts))=ρ0 at hq;have hclr:∀x,x=".0"\/x∈p++r.tgts->ρ0 x=b4:=λx B=>by
  rw[<-hρ0];unfold Env.clear;rw[g0];simpa using B
 let hρle:∀x d,ρ0 x=a0 d->ρ x=a0 d:=λx d B=>by
  rw[<-hρ0]at B;unfold Env.clear at B;split at B
  .cases B
  .exact B
 have H4':p7 X ((M.hide fp).hide N) st1.n H4 f ρ0:=by
  refine⟨by rw[e1];exact F.kind,(by rw[<-E]:f.globals=env.globals).trans H.g,(by rw[<-E]:f.builtins=env.builtins).trans H.b,by rw[e2];exact hLP,(d0 _ (by rw[e2];exact HL) λx d B hx0 hkk=>?_),λk hk=>?_,λx y a B hy K h2=>?_⟩
  .rw[hkd]at hkk;have:scope.names.lookup (nm x)=a0 .local:=vB hkk;rw[hclr x (F.own x (.inl this))]at B;cases B
  .rcases hcf k hk with Z|Z
   .let hsome:(J.lookup k).isSome=a8:=by rw[<-hown];exact Ub _ _ _ _ (.inl (Hj Z))
    refine d4 (Option.isSome_iff_exists.mp hsome) λa ha=>?_;let j:=mem_of_lookup ha;let g:=i k a j;refine U9 a b4 (by rw[e3,qE,ha];rfl) (.inr ?_) ?_ ((ok.empty k a j).1) λx d B hd=>?_
    .rw[<-T];exact k8 _ (k8 _ (C0 j rfl))
    .rw[e2];exact K0 g.2.1
    .subst B;rw[hclr x (F.own x (.inr Z))]at hd;cases hd
   .refine C7 (H0.cel k (F.free k Z)) λa u K h2 h3 h4 h5=>?_;have j:(k,a)∈U:=(hmem k a).mpr (.inr ⟨Hj Z,K⟩);refine d4 (wE j) λb g=>?_;have hbe:b=a:=by have:=(w k b (mem_of_lookup g)).2.1;rw[K]at this;cases this;rfl
    subst hbe;have hno:J.lookup k=b4:=by
     cases hq:J.lookup k with
     |none=>rfl
     |some a'=>let this:=(i k a' (mem_of_lookup hq)).1;rw[Z]at this;cases this
    refine U9 b u (by rw[e3,qE,hno];exact g) (.inl (.inl h2)) ?_ ?_ λx d B hd=>?_
    .rw[e2];exact m6 (j7 (S k b j) (b6 z (Y▸N8 _)))
    .ext c9 h4 o ho hd;exact d0 o (F2.keep _ _ (by simp) (F1.keep _ _ (by simp) ho)) hd
    .exact c9 (h5 x d B (hρle x d hd)) λv q1 q2=>d0 v q1 (NH F2 (λb g=>(O b g).1) (NH F1 (λb g=>(hfp b g).1:∀b∈fp,s0.heap.objs.size<=b) q2))
  .rcases G x a K with m1|m1<;>rcases G y a h2 with m2|m2
   .exact pN ok.apart m1 m2
   .exact(Q0 (i x a m1).2.1 (j7 (S y a m2) ((Y▸b6 z (G3 _ 2)):s0.heap.objs.size<=t.objs.size+1))).elim
   .exact(Q0 (i y a m2).2.1 (j7 (S x a m1) ((Y▸b6 z (G3 _ 2)):s0.heap.objs.size<=t.objs.size+1))).elim
   .exact H.apart x y a (w x a m1).2.2 (w y a m2).2.2 (w x a m1).2.1 (w y a m2).2.1
 have hlc:∀x∈p++r.tgts,BA f x:=λx B=>by
  unfold BA;rw[hkd];exact ir (F.tgt x B)
 have hEb:∀b,AU f b->b<s0.heap.objs.size\/l.heap.objs.size<b:=by
  intro b g;rcases g with rfl|⟨k,hk,hl⟩
  .rw[e2];exact .inr (Na Y)
  .rcases G k b hl with j|j
   .let this:=(i k b j).2.1;exact .inr (fX this Y)
   .exact .inl (S k b j)
 let hDE:¬AU f l.heap.objs.size:=λhe=>by
  rcases hEb _ he with h|h
  .let h:=h;exact(Ke h z).elim
  .exact T9 _ h
 let hfE:∀b∈fp,¬AU f b/\b≠l.heap.objs.size:=λb g=>by
  let K:=hfp b g;refine⟨λhe=>?_,m6 K.2⟩;rcases hEb _ he with h|h
  .exact(Q0 K.1 h).elim
  .exact(Q0 (m9 K.2) h).elim
 let loop:BI (d7 prog X.w) A (.compLoop (.ListComp elt (⟨target,iter,ifs,0⟩::rest) scope pos) 0 (.ref I) (.ref l.heap.objs.size) f)
  (RR (.ref l.heap.objs.size) t.objs.size) {l with heap:=H4}:=by
  refine JA (dL (c0:=(M.hide fp).hide N) hh rfl h0 hT e1 hlc hnd hF hr hfE hDE (λx B=>hclr x (.inr B)) hDP (λb g=>Or.inl (Wa g)) n
   ⟨it,st1,[],(M.hide fp).hide N,H4',((R0.hide F1 hfp).hide F2 O),(⟨#[],⟨0,(old4 _ _ (by rw[<-hH3];exact A0 _ rfl):H4.get? l.heap.objs.size=a0 (AN #[] 0))⟩,rfl,F9 _⟩:AP X ((M.hide fp).hide N) st1.n H4 l.heap.objs.size []),hI4,hk.imp hpl id,k7.refl,hq⟩) λres s5 hres=>?_
  ext k9 hres rfl rr;obtain⟨acc5,st5,c5,hq5,R5,HA5,H5,S5⟩:=rr;let hp5:∀b,(M.hide [t.objs.size]).P b->c5.P b:=λb g=>by
   rw[S5.P];rcases g with g|g
   .exact .inl (.inl g)
   .rw[o9]at g;subst g;exact hLP
  let hp51:∀b,M.P b->c5.P b:=λb g=>hp5 b (.inl g);let hnD:¬(M.hide [t.objs.size]).P l.heap.objs.size:=λq=>by
   rcases q with q|q
   .let this:=(R0.pold _ q).2;exact(Q0 z this).elim
   .rw[o9]at q;exact(a6.succ_ne_self _ (Y.symm.trans (q:l.heap.objs.size=t.objs.size).symm)).elim
  obtain⟨items,⟨e,hoD⟩,hvs,hz⟩:=HA5;have hpl5:∀x∈p++r.tgts,l.heap.objs.size<=De f x:=λx B=>by
   rcases hlc x B with hl|hl
   .rw[Ov hl,e2];exact(Y▸N8 _:l.heap.objs.size<=t.objs.size)
   .refine F8 (H4'.cel (nm x) (.inl hl)) λa w0 K w0=>?_;rw[Nr hl K];have hkc:scope.names.lookup (nm x)=a0 .cell:=by
     rcases F.tgt x B with h|h
     .rw[hkd]at hl;exact(uk h hl).elim
     .exact h
    rcases G _ _ K with j|j
    .let this:=(i _ _ j).2.1;exact Zf this Y
    .have:=(w _ _ j).1;rw[hkc]at this;cases this
  let S6:=S5.uH F2 λb g=>by
   rcases g with g|rfl|⟨x,B,rfl⟩
   .exact .inl g
   .exact .inr (l8 _)
   .exact .inr (hpl5 x B)
  let S8:=S0.trans ((S6.uH F1 λb g=>.inr (hfp b g).1:k7 M st1 s0 ((c5.O (M.hide fp).P).O M.P) st5 s5 y6).adopt (x:=l.heap.objs.size) (o:=.L acc5) z);let ec:((c5.O (M.hide fp).P).O M.P).add st5.n l.heap.objs.size=((c5.O (M.hide [t.objs.size]).P).add st5.n l.heap.objs.size).O c.P:=by unfold Cx.add Cx.O;rw[S0.P]
  rw[ec]at S8;refine hfin _ _ s5 (.ref st5.n) _ _ hq5 ((R5.O hp5).adopt (x:=l.heap.objs.size) (o:=.L acc5) (b6 R0.bsz z) (λa ha q=>R5.priv a ha (q▸(by rw[S5.P];exact hDP:c5.P l.heap.objs.size)):∀a,a<st5.n->c5.κ a≠l.heap.objs.size) hnD (E9 items e hoD (bH hp5 hvs) hz)) ⟨B8 _,by rw[Cx.p]⟩ (λb=>?_) ?_ (b6 (b6 S0.size z) (Y▸N8 _)) S8
  .refine(?_:(M.P b\/b∈[t.objs.size])↔_);rw[o9,S0.P]
  .refine c9 H5.loc λm j w0=>?_;rw[e2]at j;exact⟨m,j⟩
 exact eO rfl loop (LH hI4 loop)
end
def KN(e:j9):b7:=!(isK e 8||(isK e 9||isK e 10))theorem Yl(h:KN v=a8):swapsWith v t l env=pure c8:=by cases v<;>first|rfl|exact no h
def SS(prog:y9)(X:Fx)(C:Cl)(A:B7)(sc:E7)(b:S)(B:AK):Prop:=
 ∀⦃c:Cx⦄⦃st:St⦄⦃s:f8⦄⦃env:I0⦄⦃ρ:Env⦄⦃Q:QS⦄,env.scope=sc->p7 X c st.n s.heap env ρ->i8 X c st s->WS C b ρ st Q->
  b9 (d7 prog X.w) A (exec B env) (CD X c st s env (own env) Q) u0 s
section
variable{X:Fx}{st:St}
theorem Nz(H:p7 X c n h env ρ)(a:own env b):AU env b:=by ext c9 a x d rfl;exact GH H d
theorem Ie(H:p7 X c n h env ρ):∀b,own env b->c.P b:=λd a=>H.P (Nz H a)theorem CD.after(x:k7 c st s c' st' s' (own env))(p:CD X c' st' s' env (own env) Q f s''):CD X c st s env (own env) Q f s'':=by obtain⟨d,a,b,e,g,h,i,j,k⟩:=p;exact⟨d,a,b,e,g,h,i,j,x.trans k⟩
theorem QM(S:k7 c st s c' st' s' (own env))(h:b9 (d7 prog X.w) A m (CD X c' st' s' env (own env) Q) u0 s''):b9 (d7 prog X.w) A m (CD X c st s env (own env) Q) u0 s'':=
 v6 h (λa a p=>p.after S) λa a x=>x
theorem nb(n:Q d st')(R:i8 X c' st' s')(p:V X.M c' st'.n s'.heap d v)(l:∀b,c'.P b↔c.P b\/b=L)(r:s.heap.objs.size<=L)
 (S:k7 c st s (c'.O c.P) st' s' y6)(hs:Ah L s'.heap h'):j6 X c st s F Q v {s' with heap:=h'}:=by
 let g:s'.heap.objs.size<=h'.objs.size:=by rw[hs.1];exact l8 _
 have k:∀b o,s'.heap.get? b=a0 o->¬c'.P b->h'.get? b=a0 o:=λb o a f=>hs.extBut b o (λq=>f ((l b).mpr (.inr q))) a;let m:∀b,c.P b->c'.P b:=λb a=>(l b).mpr (.inl a);exact⟨d,st',c'.O c.P,n,(R.keep (s':={s' with heap:=h'}) k g rfl rfl).O m,Jk m (Cb (λb j e f t=>k b _ t f) p),((S.z λi h=>h.elim).trans (⟨l8 _,λi i=>rfl,rfl,λb o a i f=>hs.extBut b o f a,λi u w=>FR w u,g⟩:k7 (c'.O c.P) st' s' (c'.O c.P) st' {s' with heap:=h'} (·=L)):k7 c st s (c'.O c.P) st' {s' with heap:=h'} (·=L)).narrow λb a=>a▸r⟩theorem fA(h:HV scope sc tgts):∀x∈scope.names,x.2= .local->scope.names.lookup x.1=a0 .local:=λx a e=>by rw[MS h.nodup a,e]
theorem eH
 (l:A.handled=b4)(a:HV scope sc (p++r.tgts))(n:∀o∈(⟨target,iter,ifs,0⟩::rest:a7 CK),o.is_async=0)(q:AV p target)(e:∀x∈r.tgts,x∉p)(f:AF iter=a8)(t:Du src=a8\/2<=p.length)
 (u:BX prog X C A sc src iter)(v:SF prog X C A (Cu scope sc) ifX ifs)(w:SE prog X C A (Cu scope sc) r (Cp (.ListComp elt (⟨target,iter,ifs,0⟩::rest) scope pos) elt (⟨target,iter,ifs,0⟩::rest) 0)):
 SX prog X C A sc (.Q (.cons p src ifX r)) (.ListComp elt (⟨target,iter,ifs,0⟩::rest) scope pos):=by
 intro c y s M ρ Q z H R h;rw[eval_ListComp];obtain⟨O,g,B⟩:=aL (RR:=λi L=>compPost (d7 prog X.w) A u0 b4 (j6 X c y s y6 Q) i L) l a n q e t u v w z H R h λD L P d N S E F G I b J K=>by
  ext1 b m k;exact d0 m k λT j=>nb E F G I J K j
 exact pZ (use:=b4) rfl (Oj f) g a.kind (fA a) B
theorem wK(H:p7 X c n h env ρ):interactive env=c8:=by unfold interactive;rw[H.kind];rfl
theorem Rx(H:p7 X c n h env ρ):env.blockKind= .function:=by unfold Env.blockKind;rw[H.kind];rfl
theorem ig(he:SX prog X C A sc e E)(hc:KN E=a8):SS prog X C A sc (.xE e) (.Expr E pos):=by
 intro c st s env ρ Q hs H R h
 conv at h=>whnf
 refine wpAny_Expr (B6 (he hs H R h) λv s1 d st1 c1 hq R1 hv S1=>?_) (wK H) (Yl hc);have fin:Q .next ρ st1->CD X c st s env (own env) Q .next s1:=λhq=>⟨.next,ρ,st1,c1,hq,R1,rfl,H.step R S1,S1.z λw0 h=>h.elim⟩;cases d with
 |none=>obtain rfl:=hv;exact fin hq
 |bool b=>obtain rfl:=hv;exact fin hq
 |int i=>ext d4 hv t rfl;exact fin hq
 |str l=>ext d4 hv t rfl;exact fin hq
 |B ds=>exact hq.elim
 |ref a=>exact hq.elim
 |ro xs=>exact hq.elim
def Dv(sc:E7)(x:j3):b7:=decide (sc.names.lookup (nm x)=a0 .local)||decide (sc.names.lookup (nm x)=a0 .cell)theorem cU(h:Dv sc x=a8):sc.names.lookup (nm x)=a0 .local\/sc.names.lookup (nm x)=a0 .cell:=(DL h).imp C5 C5
theorem Kc(h:Dv env.scope x=a8):BA env x:=cU h
theorem Ji(h:BA env x):own env (De env x):=d0 x h rfl
theorem xd(i:SX prog X C A sc e E)(j:KN E=a8)(k:Dv sc x=a8):SS prog X C A sc (.k (.a x) e) (.Assign [.Name (nm x) px] E pos):=by
 intro c u s b ρ Q l H R h;subst l
 conv at h=>whnf
 refine lK (B6 (i rfl H R h) λv w d f m n o p g=>?_) (Yl j);let a:=Kc k;exact(H.step R g).store o a p (F:=own b) (Ji a) λy q r t=>⟨.next,_,f,m,n,q,rfl,r,(g.z λz h=>h.elim).trans t⟩def cV(sc scope:E7)(x:o3)(px vp:X1):b7:=sc.names.lookup x==a0 .local&&px.line==vp.line&&!(scope.names.any λp=>p.1==x&&(p.2==.local||p.2==.cell))theorem dJ(H:p7 X c n h env ρ):swapsWith (.ListComp elt gens scope vp) (a0 (.Name x px)) l env=pure (cV env.scope scope x px vp):=by show pure (env.blockKind==.function&&env.kindOf x==a0 .local&&px.line==vp.line&&!(scope.names.any λ(n,k)=>n==x&&(k==.local||k==.cell)))=_;rw[Rx H];rfl
theorem vC
 (hh:A.handled=b4)(w:HV scope sc (p++r.tgts))(h0:∀g'∈(⟨target,iter,ifs,0⟩::rest:a7 CK),g'.is_async=0)(hT:AV p target)(S:∀x∈r.tgts,x∉p)(T:AF iter=a8)(J:Du src=a8\/2<=p.length)
 (hS:BX prog X C A sc src iter)(hF:SF prog X C A (Cu scope sc) ifX ifs)(hr:SE prog X C A (Cu scope sc) r (Cp (.ListComp elt (⟨target,iter,ifs,0⟩::rest) scope vp) elt (⟨target,iter,ifs,0⟩::rest) 0))(hx:Dv sc x=a8):
 SS prog X C A sc (.k (.a x) (.Q (.cons p src ifX r))) (.Assign [.Name (nm x) px] (.ListComp elt (⟨target,iter,ifs,0⟩::rest) scope vp) pos):=by
 intro c B s f ρ Q hs H R h;let hh2:=h;replace h:W C (.Q (.cons p src ifX r)) ρ B λv B=>Q .next (ρ.set x v) B:=h;have y:BA f x:=Kc (hs▸hx);cases U:cV f.scope scope (nm x) px vp with
 |false=>refine lK (B6 (eH hh w h0 hT S T J hS hF hr hs H R h) λv s1 d st1 c1 u R1 E S1=>?_) (by rw[dJ H,U]);exact(H.step R S1).store R1 y E (F:=own f) (Ji y) λs2 R2 H2 S2=>⟨.next,_,st1,c1,u,R2,rfl,H2,(S1.z λg h=>h.elim).trans S2⟩
 |true=>
  rw[exec_Assign_Name_used _ _ _ _ (by rw[dJ H,U])];refine b5 (Fs (b5 ?_));obtain⟨cl,hcl,hw⟩:=aL (RR:=λacc L=>compPost (d7 prog X.w) A u0 (a0 (assign (.Name (nm x) px) f)) (λg s'=>CD X c B s f (own f) Q .next s') acc L) hh w h0 hT S J hS hF hr hs H R h λD L s5 d t l u R6 E K V hL S6=>by
   ext d4 V m hm;have I:∀a j e,¬(l.O c.P).P a->s5.heap.get? a=a0 (x0 j e)->¬l.P a:=λa j e n ho u=>by
    rcases(K a).mp u with u|rfl
    .exact n u
    .ext FO hm o es ep h1 h2 g;rw[ho]at h1;cases h1;cases h2
   refine Vg (((H.step R S6).map (λb i=>(K b).mpr (.inl i)) (λg g g h=>h) λd v E=>FX (c:=l.O c.P) I d v E).store R6 y E (F:=own f) (Ji y) λG R7 H7 O=>?_);let hLo:¬own f L:=λq=>by
    let Z:=H.lt (Nz H q);exact(Q0 hL Z).elim
   ext EB hm o es ep hm1 hm2;refine d0 m (KB o es ep (O.keep _ _ hm1 (λa ha q=>R6.priv a ha (q▸(K L).mpr (.inr rfl))) hLo) hm2) λM z=>?_;let hF6:∀b,own f b->l.P b\/s5.heap.objs.size<=b:=λb i=>.inl ((K b).mpr (.inl (Ie H b i)));have Y:G.heap.objs.size<=M.objs.size:=by rw[z.1];exact l8 _
   have k:∀b o,G.heap.get? b=a0 o->¬l.P b->M.get? b=a0 o:=λb o i n=>z.extBut b o (λq=>n ((K b).mpr (.inr q))) i;let hp:∀b,c.P b->l.P b:=λb i=>(K b).mpr (.inl i);have N:k7 c B s (l.O c.P) t {G with heap:=M} (λb=>own f b\/b=L):=(((S6.z λg h=>h.elim).trans ⟨O.n,λg g=>rfl,rfl,λb o i J n=>O.keep b o i J n,O.new,O.size⟩).z λg h=>.inl h).trans (⟨l8 _,λg g=>rfl,rfl,λb o i g n=>z.extBut b o (λq=>n (.inr q)) i,λg h1 h2=>FR h2 h1,Y⟩:k7 (l.O c.P) t G (l.O c.P) t {G with heap:=M} (λb=>own f b\/b=L));exact⟨.next,ρ.set x d,t,l.O c.P,u,(R7.keep (s':={G with heap:=M}) k Y rfl rfl).O hp,rfl,H.O (H7.at (λg g h=>h) (λb o he i=>z.extBut b o (λq=>(Q0 hL (H.lt (q▸he))).elim) i) λd v E=>Cb (λb j e n ho=>k b _ ho n) E) hp,(⟨N.n,N.aG,N.P,λb o i J n=>N.keep b o i J λq=>q.elim n λe=>(Q0 (e▸hL) (C2 i)).elim,N.new,N.size⟩:k7 c B s (l.O c.P) t {G with heap:=M} (own f))⟩
  refine b5 (v6 (pZ (use:=a0 (assign (.Name (nm x) px) f)) (Q:=λg s'=>CD X c B s f (own f) Q .next s') rfl (Oj T) hcl w.kind (fA w) hw) (λg s' u=>f6 (f6 u)) λg g e=>e)
theorem zT(f:SX prog X C A sc e E):SS prog X C A sc (.ret e) (.Return (a0 E) pos):=by
 intro c n s m ρ Q g H R h
 conv at h=>whnf
 exact wpAny_Return_some (B6 (f g H R h) λv o d a i j k l b=>⟨.ret d,ρ,a,i,j,k,(d0 v rfl l),H.step R b,b.z λp h=>h.elim⟩)theorem qQ:SS prog X C A sc .cont (.Continue pos):=λc a s b ρ Q d H R h=>wpAny_Continue ⟨.cont,ρ,a,c,h,R,rfl,H,k7.refl⟩theorem tU:SS prog X C A sc .dead B:=λc b s a ρ Q d H R h=>h.elim
theorem fy:Ew prog X C A sc [] []:=λc a s b ρ Q d H R h=>WC ⟨.next,ρ,a,c,h,R,rfl,H,k7.refl⟩
theorem dk(hb:SS prog X C A sc b B)(hr:Ew prog X C A sc bs Bs):Ew prog X C A sc (b::bs) (B::Bs):=by
 intro c st s env ρ Q hs H R h
 conv at h=>whnf
 rw[execs_cons];refine b5 (Qy (hb hs H R h) λf s1 fl ρ1 st1 c1 hq R1 hf H1 S1=>?_);cases fl with
 |next=>obtain rfl:=hf;exact QM S1 (hr hs H1 R1 hq)
 |cont=>obtain rfl:=hf;exact f6 ⟨.cont,ρ1,st1,c1,hq,R1,rfl,H1,S1⟩
 |ret d=>ext c9 hf v rfl hv;exact f6 ⟨.ret d,ρ1,st1,c1,hq,R1,(d0 v rfl hv),H1,S1⟩
theorem rX(i:ST prog X C A sc t t')(j:Ew prog X C A sc a A')(k:Ew prog X C A sc b B'):SS prog X C A sc (.iff t a b) (.If t' A' B' pos):=by
 intro c o s m ρ Q e H R h
 conv at h=>whnf
 refine wpAny_If (OW (i e H R h) λv p n q f g d=>?_);cases v with
 |true=>refine aU rfl ?_;exact QM (d.z λl h=>h.elim) (j e (H.step R d) g f)
 |false=>refine ZT (by decide) ?_;exact QM (d.z λl h=>h.elim) (k e (H.step R d) g f)
end
section
variable{prog:y9}{X:Fx}{C:Cl}{A:B7}{sc:E7}{c c':Cx}{st st':St}{s s' s'':f8}{env:I0}{ρ:Env}{F:i7->Prop}{fp:a7 i7}
inductive ct (st:St) (d:b0) (f:j3) (v:b0) (st':St):Prop
 |mk (cn e es) (hi:st.inst? d=a0 (cn,e)) (hc:(CF cn).contains f=a8) (hes:st.h e= .fld es) (hb:es.length<=j8) (eq:st'=st.set e (.fld ((f,v)::es)))
theorem bo(h:setField st d f v=a0 st'):ct st d f v st':=by
 cases hi:st.inst? d with
 |none=>unfold setField at h;rw[hi]at h;cases h
 |some q=>
  unfold setField at h;rw[hi]at h;refine k9 (V0 h) λhc h=>?_;cases hes:st.h q.2 with
  |fld es=>rw[hes]at h;exact k9 (V0 h) λhb h=>⟨q.1,q.2,es,hi,hc,hes,hb,(C6 h).symm⟩
  |_=>rw[hes]at h;cases h
theorem NZ{h:l5}{a:i7}{x:V8}(p:h.get? a=a0 x)(q:h.get? a=a0 y):x=y:=C6 (p.symm.trans q)
theorem om{d:b0}{vd:b8}{f:j3}{st':St}{Q:Ay->f8->Prop}{E:qVS}(L:Laid1 X)(R:i8 X c st s)(T:V X.M c st.n s.heap d vd)(U:V X.M c st.n s.heap v vv)(h:setField st d f v=a0 st')
 (hq:∀s',CY X c st s st' s'->Q () s'):b9 (d7 prog X.w) A (setAttr vd (nm f) vv) Q E s:=by
 obtain⟨u,e,es,hi,K,i,m,rfl⟩:=bo h;refine W5 (Ni (R.I T hi) ?_);rintro a rfl ha hsa j rfl W;refine C7 (Sd R T hi i) λx1 mA hx1 I hm C hle=>?_;cases hx1;refine d4 (L.cls u (Yt K)) λmN M=>d4 M.at_ λN l=>?_;have D:=ClsAt.heap R l;refine Hl D λhC=>?_;let hae:c.κ a≠c.κ e:=λq=>by
  rw[<-R.inj _ _ ha j q,hsa]at i;cases i
 let Y:=R.obj e j;rw[i]at Y;ext c9 Y _ ⟨o,es',ep,h1,h2,_⟩ _;clear T;obtain⟨hp,g,dr,t,os⟩:=s;refine store_attr n_ hC D.ns M.nosa (M.fld f K).1 (M.fld f K).2 (λe=>Hl l λhC0=>(Q0 (e▸R.lo a ha) (C2 hC0)).elim:c.κ a≠X.cls u) I (λz tk' Z hk r hz=>?_) (ns:=es.map λe=>nm e.1) (λy O=>C y O) (by rw[f7,O3];unfold j8 at m;exact gK m rfl);refine KW (r _ W) λo1 F g1 g2 g3 g4=>?_;have G:z.get? (c.κ a)=a0 (FI (X.cls u) (c.κ e)):=by rw[F];clear F;obtain⟨q1,q2,q3,q4⟩:=o1;let g4':q2=a0 (c.κ e):=g4 _ rfl;have g1':q1=(FI (X.cls u) (c.κ e)).cls:=g1;have g2':q3=(FI (X.cls u) (c.κ e)).data:=g2;have g3':q4=(FI (X.cls u) (c.κ e)).slots:=g3;rw[g1',g2',g3',g4']
 have k:∀b x,hp.get? b=a0 x->b≠c.κ e->z.get? b=a0 x:=λb x m hne=>by
  by_cases H:b=c.κ a
  .rw[H]at m ⊢;rw[<-NZ W m];exact G
  .exact hk b x H (λo₀ dx n hdx q=>hne (q.trans (C6 (hdx.symm.trans (t0 V8.dict (NZ n W)))))) m
 let P:z.Ns1 (c.κ e) (λy=>if y=nm f then a0 vv else mA y):=by
  ext BU Z o hoI w0 w0 hI;let q:=NZ G hoI;rcases hI with⟨n,_⟩|⟨dx,n,_,P⟩
  .rw[<-q]at n;cases n
  .rw[<-q]at n;rw[C6 n];exact P
 have tv:∀{d:b0}{v:b8},V X.M c st.n hp d v->V X.M c st.n z d v:=λU=>Cb (λb items ee w0 hx=>k b _ hx λq=>by
  rw[q]at hx;rw[NZ h1 hx]at h2;cases h2) U
 refine hq _ ⟨R.put (a:=e) j (s':=⟨z,g,dr,tk',os⟩) k hz rfl rfl (CU _ P (λf' d' B=>?_) (λy O=>?_) (U6 m)),k7.put j k hz⟩
 .rw[BL]at B;by_cases p:f'=f
  .clear K h hq Z P;subst p;rw[CG]at B;cases C6 B;exact d0 vv (g0 rfl) (tv U)
  .rw[beq_false_of_ne p]at B;let S:=hm f' d' B;ext1 S w e1 e2;exact d0 w ((j4 λq=>p (Eo q)).trans e1) (tv e2)
 .refine(?_:y∈nm f::es.map λe=>nm e.1);by_cases J:y=nm f
  .rw[J];exact j5
  .rw[j4 J]at O;exact k8 _ (C y O)
theorem wB(L:Laid1 X)(m:SX prog X C A sc e E)(r:SX prog X C A sc o O):SS prog X C A sc (.k (.C o f) e) (.Assign [.Attribute O (nm f) px] E pos):=by
 intro c G s D ρ Q n H R h
 conv at h=>whnf
 refine plainObj_wpAny_Assign_Attribute (B6 (m n H R h) λv I d F J a b t g=>?_) (by clear m;cases E<;>rfl);refine B6 (r n (H.step R g) b a) λu K w k x a p y i=>?_;cases j:setField k w f d with
 |none=>rw[j]at a;exact a.elim
 |some l=>rw[j]at a;exact om L p y (i.v b t) j λM z=>k9 z λB q=>⟨.next,ρ,l,x,a,B,rfl,((H.step R g).step b i).step p q,((g.trans i).trans q).z λN h=>h.elim⟩
theorem yL(x:Bn A)(q:SX prog X C A sc e E)(y:SX prog X C A sc o O)(hi:SX prog X C A sc i I):SS prog X C A sc (.k (.sub o i) e) (.Assign [.Subscript O I px] E pos):=by
 intro c S s M ρ Q k H R h
 conv at h=>whnf
 refine wpAny_Assign_Subscript (B6 (q k H R h) λv T d N U a b z f=>?_) (by clear q;cases E<;>rfl);refine B6 (y k (H.step R f) b a) λu V B P W a l D g=>B6 (hi k ((H.step R f).step b g) l a) λw Y F n G a r J j=>?_;cases m:setItem n B F d with
 |none=>rw[m]at a;exact a.elim
 |some p=>rw[m]at a;exact ss (gB x.hu rfl) r (j.v l D) J ((g.trans j).v b z) m λZ K=>k9 K λL t=>⟨.next,ρ,p,G,a,L,rfl,(((H.step R f).step b g).step l j).step r t,(((f.trans g).trans j).trans t).z λw0 h=>h.elim⟩
theorem XA{b:Env}(h:Cj ps d st ρ=a0 b):∃a,st.items? d=a0 a/\a.length=ps.length/\b=Dp ρ (ps.zip a):=by
 cases c:st.items? d with
 |none=>unfold Cj at h;rw[c]at h;cases h
 |some a=>unfold Cj at h;rw[c]at h;refine k9 (V0 h) λe h=>?_;cases h;exact v8 a rfl e rfl
theorem vt(u:A.handled=b4)(n:SX prog X C A sc e E)(o:AV ps (.Tuple elts k tpos))(j:∀x∈ps,Dv sc x=a8)
 (p:∀a:I0,a.scope=sc->a.blockKind= .function->PV [.Tuple elts k tpos] E a=pure b4):SS prog X C A sc (.uP ps e) (.Assign [.Tuple elts k tpos] E pos):=by
 intro c K s a ρ Q l H R h
 conv at h=>whnf
 refine Assign_Tuple (B6 (n l H R h) λv L d i w g y z q=>?_) (by clear n p;cases E<;>rfl) (p a l (Rx H));cases b:Cj ps d i ρ with
 |none=>rw[b]at g;exact g.elim
 |some J=>rw[b]at g;refine y0 (XA b) ?_;rintro M B r rfl;have f:∀x∈ps,BA a x:=λx m=>Kc (l▸j x m);let t:=H.step R q;exact cA (F:=own a) (Ie t) u o t y z (.inr (m0 (by clear j h r b g f;cases o;simp:2<=ps.length) B r)) f (λx j=>Ji (f x j)) λN D G I=>⟨.next,_,i,w,g,D,rfl,G,(q.z λO h=>h.elim).trans I⟩
theorem qy:HZ prog X.w A env ps (ps.map λx=>Vw env (nm x)):=by
 induction ps with
 |nil=>exact .nil
 |cons x r a=>exact .cons (λv Q E s h=>wpAny_bindName h) a
theorem xV(J:A.handled=b4)(z:SX prog X C A sc e E)(u:ps.Nodup)(g:∀x∈ps,Dv sc x=a8)
 (B:∀a:I0,a.scope=sc->a.blockKind= .function->PV [.Tuple elts k tpos] E a=pure (a0 (ps.map nm))):SS prog X C A sc (.uP ps e) (.Assign [.Tuple elts k tpos] E pos):=by
 intro c W s a ρ Q p H R h
 conv at h=>whnf
 refine Assign_Tuple_swapped (B6 (z p H R h) λv K d i L l q M D=>?_) (by clear z B;cases E<;>rfl) (B a p (Rx H));cases f:Cj ps d i ρ with
 |none=>rw[f]at l;exact l.elim
 |some V=>
  rw[f]at l;refine y0 (XA f) ?_;clear f;rintro Y N r rfl;have j:∀x∈ps,BA a x:=λx w=>Kc (p▸g x w);refine bG J q M N (by rw[r,f7]) λZ O m y=>?_;have t:Ext K.heap O.heap:=⟨m.size,λb o P=>m.keep b o (by simp) P⟩;let G:=(H.step R D).ext q t;let S:(ps.map nm).reverse.map (λn=>Vw a n)=ps.reverse.map λx=>Vw a (nm x):=by rw[<-pU,v9];rfl
  rw[S];refine Zk (F:=own a) (Ie G) qy G (q.ext t m.gens m.os) (gZ y) (by simp[r]) (λx g=>j x (List.mem_reverse.mp g)) (λx g=>Ji (j x (List.mem_reverse.mp g))) λs3 T I U=>?_;rw[db u r.symm]at I;exact⟨.next,_,i,L,l,T,rfl,I,((D.trans (k7.ext t)).z λw0 h=>h.elim).trans U⟩
theorem df(ht:ST prog X C A sc t t')(hb:Ew prog X C A sc b B):SS prog X C A sc (.while t b) (.While t' B [] pos):=by
 intro c0 BG s0 env ρ0 Q hs H R h
 conv at h=>whnf
 ext d4 h n hn;let loop:BI (d7 prog X.w) A (.whileLoop t' B [] env) (λr s'=>∃f,r= .ok f/\CD X c0 BG s0 env (own env) Q f s') s0:=by
  refine codeAny_whileLoop (λn s=>∃ρ st c,p7 X c st.n s.heap env ρ/\i8 X c st s/\k7 c0 BG s0 c st s (own env)/\IC (λρ st k=>WT C t ρ st k) (λρ st k=>G4 C b ρ st k) n ρ st Q) (λn s hI=>?_) n (BS ρ0 BG c0 H R k7.refl hn);ext H9 hI ρ st c H R S0 hw;cases n with
  |zero=>exact hw.elim
  |succ n=>
  conv at hw=>whnf
  refine OW (ht hs H R hw) λv s1 st1 c1 hq R1 S1=>?_;have S01:=S0.trans (S1.z (F':=own env) λw0 h=>h.elim);cases v with
  |false=>exact ZT (by decide) (WC ⟨.next,rfl,.next,ρ,st1,c1,hq,R1,rfl,H.step R S1,S01⟩)
  |true=>
   refine aU rfl (Qy (hb hs (H.step R S1) R1 hq) λf s2 fl ρ2 st2 c2 hq R2 hf H2 S2=>?_);cases fl with
   |next=>obtain rfl:=hf;exact⟨n,B8 n,ρ2,st2,c2,H2,R2,S01.trans S2,hq⟩
   |cont=>obtain rfl:=hf;exact⟨n,B8 n,ρ2,st2,c2,H2,R2,S01.trans S2,hq⟩
   |ret d=>ext c9 hf v rfl hv;exact⟨_,rfl,.ret d,ρ2,st2,c2,hq,R2,(d0 v rfl hv),H2,S01.trans S2⟩
 refine wpAny_While (JA loop λr s' hr=>?_);ext c9 hr f rfl hp;exact hp
theorem Kz.O{P:i7->Prop}(hp:∀b,P b->c.P b)(x:Kz X c n h fl f):Kz X (c.O P) n h fl f:=by
 cases fl with
 |next=>exact x
 |cont=>exact x
 |ret d=>ext1 x v h1 h2;exact d0 v h1 (Jk hp h2)
inductive uW (X:Fx) (env:I0) (I:i7) (fp:a7 i7) (p:a7 j3) (c0:Cx) (BG:St) (s0:f8) (F:i7->Prop) (step:b0->Env->St->QS->Prop) (Q:QS) (n:a6) (s:f8):Prop
 |mk (it ρ st c) (H:p7 X c st.n s.heap env ρ) (R:i8 X c st s) (hI:Am X c st.n s.heap it I fp) (hk:ER it=a8\/2<=p.length) (S0:k7 c0 BG s0 c st s F) (hw:DC step n it ρ st Q)
theorem rJ(hh:A.handled=b4)(hT:AV p target)(hx:∀x∈p,Dv sc x=a8)(hns:AF iter=a8)(hk:Du src=a8\/2<=p.length)
 (hS:BX prog X C A sc src iter)(a:Ew prog X C A sc b B):SS prog X C A sc (.for p src b) (.For target iter B [] pos):=by
 intro c t s e ρ0 Q hs H R h
 conv at h=>whnf
 refine wpAny_For (v6 (hS hs H R h) (λv s1 h1=>?_) λw0 w0 x=>x) (Oj hns);refine v6 h1 (λu s2 h2=>?_) λw0 w0 x=>x;obtain⟨it0,D,T,s0,⟨n,w⟩,R0,N,⟨I,i,rfl,l,m,O⟩,hpl⟩:=h2;have H0:=H.step R N;let R2:=R0.hide l m;let P:=H0.hide l λb a=>(m b a).1;have j:∀b∈i,¬AU e b:=λb a y=>(Q0 (m b a).1 (H0.lt y)).elim;have V:∀x∈p,BA e x:=λx hx'=>Kc (hs▸hx x hx');let loop:BI (d7 prog X.w) A (.forLoop target (.ref I) B [] e) (λr s'=>∃f,r= .ok f/\CD X (T.hide i) D s2 e (λb=>b∈i\/own e b) Q f s') s2:=by
  refine codeAny_forLoop_any (uW X e I i p (T.hide i) D s2 (λb=>b∈i\/own e b) (λd ρ t k=>(match AD p d ρ with
   |none=>k6
   |some o=>G4 C b o t k)) Q) (λn s O=>?_) n ⟨it0,ρ0,D,T.hide i,P,R2,O,hk.imp hpl id,k7.refl,w⟩
  obtain⟨it,ρ,t,c,H,R,O,hk,N,z⟩:=O;have g:∀b∈i,c.P b:=λb a=>by rw[N.P];exact .inr a
  have W:∀b,b∈i->c.P b\/s.heap.objs.size<=b:=λb a=>.inl (g b a);rcases zK z with⟨q,z⟩|⟨n',Y,d,E,q,z⟩
  .refine NY hh R g O q λr' s1 l hN=>?_;have U:=l.step (c:=c) (st:=t);cases hN;exact WC ⟨.next,rfl,.next,ρ,t,c,z,l.rep R g,rfl,H.sF R U W λb y a=>j b a y,N.trans (U.z (F':=λb=>b∈i\/own e b) λb a=>.inl a)⟩
  obtain⟨o,hbp,z⟩:=Yu z;refine NY hh R g O q λr' s1 l hN=>?_;ext y0 hN u hr' hu hO;cases hr';let R1:=l.rep R g;have U:=l.step (c:=c) (st:=t);have G:ER E=a8\/2<=p.length:=hk.imp (Xx q) id;refine ZS g hO (dB hT G) λs2' F2 hI2=>?_;let R2:=F2.rep R1 g;let S2:=F2.step (c:=c) (st:=t);let Z:∀b,b∈i->c.P b\/s1.heap.objs.size<=b:=λb a=>.inl (g b a);have P:=(H.sF R U W λb y a=>j b a y).sF R1 S2 Z λb y a=>j b a y;refine dH (F:=own e) (Ie P) hh hT P R2 (S2.V R1 Z hu) hbp V (λx hx=>Ji (V x hx)) λs3 R3 H3 S3=>Qy (a hs H3 R3 z) λf s4 fl J K c4 L R4 S H4 S4=>?_;let hI4:=(hI2.step R2 S3 (λb a=>.inl (Ie P b a):∀b,own e b->c.P b\/s2'.heap.objs.size<=b) g λb a w=>j b a (Nz P w)).step R3 S4 (λb a=>.inl (Ie H3 b a)) g λb a w=>j b a (Nz H3 w);have M:=(((N.trans (U.z (F':=λb=>b∈i\/own e b) λb a=>.inl a)).trans (S2.z (F':=λb=>b∈i\/own e b) λb a=>.inl a)).trans (S3.z (F':=λb=>b∈i\/own e b) λb a=>.inr a)).trans (S4.z (F':=λb=>b∈i\/own e b) λb a=>.inr a);cases fl with
  |next=>obtain rfl:=S;exact⟨n',Y,E,J,K,c4,H4,R4,hI4,G,M,L⟩
  |cont=>obtain rfl:=S;exact⟨n',Y,E,J,K,c4,H4,R4,hI4,G,M,L⟩
  |ret d=>ext c9 S v rfl hv;exact⟨_,rfl,.ret d,J,K,c4,L,R4,(d0 v rfl hv),H4,M⟩
 refine JA loop λr s' hr=>?_;ext c9 hr f rfl rr;obtain⟨fl,o,st',c',w,R',S,H',S'⟩:=rr;let hp:∀b,T.P b->c'.P b:=λb a=>by rw[S'.P];exact .inl a
 exact⟨fl,o,st',c'.O T.P,w,R'.O hp,S.O hp,H0.O H' hp,(N.z λw0 h=>h.elim).trans (S'.uH l λb a=>a.elim (λh=>.inr (m b h).1) .inl)⟩
end
section
variable{X:Fx}
theorem iu(x:j3):v7 [] (q9 x)=a8:=rfl
theorem dp(h:x≠y):l3 (q9 x) (q9 y)=c8:=by exact beq_eq_false_iff_ne.mpr λe=>h (String.toList_inj.mp ((pR λa b e=>Char.toNat_inj.mp e).mp e))
theorem ij(hA:Bn A)(P:x≠y)(he:SX prog X C A sc e E)(hf:SX prog X C A sc f F'):
 SX prog X C A sc (.D [x,y] (.cons e (.cons f .nil))) (.Dict [a0 (.Constant (.str (nm x)) k1 p1),a0 (.Constant (.str (nm y)) k2 p2)] [E,F'] pos):=by
 intro c F s env ρ Q W H R h;let Y:=hA.hu;refine wpAny_Dict_any rfl rfl (by simp) (by simp) ?_;let I:=FP (E5 #[] 0) s.toks;let t:=Jj s.heap (E5 #[] 0);let Z:=R.hide I t;let H0:=H.hide I λb J=>(t b J).1;refine lU (Vf ?_);let R1:=Z.toks (s.toks+1);refine b5 (B6 (he W (s:={s with heap:=s.heap.push (E5 #[] 0),toks:=s.toks+1}) H0 R1 h) λv j i w c2 K R2 L S2=>b5 (Fs (f6 (lU (Vf ?_)))));have H2:=p7.step (s:={s with heap:=s.heap.push (E5 #[] 0),toks:=s.toks+1}) H0 R1 S2;have z:=R2.toks (j.toks+1);refine b5 (B6 (hf W (s:={j with toks:=j.toks+1}) H2 z K) λu M p g n K R3 S S3=>b5 (Fs (f6 (evalPairs_nil ?_))));have B:k7 (c.hide [s.heap.objs.size]) F {s with heap:=s.heap.push (E5 #[] 0)} n g M y6:=by exact(((k7.toks _:k7 (c.hide [s.heap.objs.size]) F {s with heap:=s.heap.push (E5 #[] 0)} (c.hide [s.heap.objs.size]) F {s with heap:=s.heap.push (E5 #[] 0),toks:=s.toks+1} y6).trans S2).trans (k7.toks _:k7 c2 w j c2 w {j with toks:=j.toks+1} y6)).trans S3
 have hp:∀b,c.P b->n.P b:=λb J=>by rw[B.P];exact .inl J
 have R4:=(R3.O hp).adopt (x:=s.heap.objs.size) (o:=.D [] 0) R.bsz (λa r q=>R3.priv a r (by let q:n.κ a=s.heap.objs.size:=q;rw[q];exact(by rw[B.P];exact .inr (j5):n.P s.heap.objs.size))) (show¬c.P s.heap.objs.size from Rc R) (J3.D (xs:=[]) (items:=#[]) (e:=0) (B.keep _ _ (A0 _ rfl) (λa r q=>Z.priv a r (by rw[q];exact Wa P3)) id) rfl Gu (F9 _));let l:=Cx.p;let m:=B8 _;have up:∀{d:b0}{v:b8},V X.M n g.n M.heap d v->V X.M ((n.O c.P).add g.n s.heap.objs.size) (g.n+1) M.heap d v:=λL=>Hg (N8 _) (λa r=>Cx.o r) (λD D=>id) (Jk hp L);unfold storeAll;rw[Df];refine b5 (b5 (Tf (gB Y rfl) R4 l m (by simp[St.A]:(g.A (.D [] 0)).h g.n= .D [] 0) (k:=q9 x) (d:=i) (Rp x _) (up (S3.v (s:={j with toks:=j.toks+1}) z L)) (iu x) (F9 _) λs5 N D=>k9 N λR5 O=>f6 ?_));let e5:(g.A (.D [] 0)).set g.n (BC [] (q9 x) i 0)=g.A (.D [(q9 x,i)] 1):=Ox _ _ _;rw[e5]at R5 O;dsimp only;rw[Df];refine b5 (b5 ?_);let T:(g.A (.D [(q9 x,i)] 1)).h g.n= .D [(q9 x,i)] 1:=by simp[St.A]
 refine Tf (gB Y rfl) R5 l m T (k:=q9 y) (d:=p) (Rp y _) (O.v R4 (up S)) (by rfl) (by simp[j8]) λs6 N D=>k9 N λR6 S6=>f6 ?_;let U:BC [(q9 x,i)] (q9 y) p 1= .D [(q9 x,i),(q9 y,p)] 2:=by
  let h1:=dp P;let hg:(t5 [(q9 x,i)] (q9 y)).isSome=c8:=by unfold t5;rw[PM,h1];rfl
  unfold BC;rw[hg];rw[Ln,h1];rfl
 let e6:(g.A (.D [(q9 x,i)] 1)).set g.n (BC [(q9 x,i)] (q9 y) p 1)=g.A (.D [(q9 x,i),(q9 y,p)] 2):=by rw[U];exact Ox _ _ _
 rw[e6]at R6 S6;dsimp only;rw[HR];refine f6 ⟨.ref g.n,_,_,K,R6,⟨m,?_⟩,(((B.uH (G:=y6) I λD h=>h.elim).adopt (l8 _)).trans O).trans S6⟩;rw[l]
theorem qZ(L:Laid0 X)(w:Bn A)(i:FU E=a8)(f:(apos.endLine==pos2.line)=a8)(G:N9 sc "sorted"=a8)(I:SX prog X C A sc e E):
 SX prog X C A sc (.bi .sI (.cons e .nil)) (.Call (.Name (nm "sorted") p1) [.Call (.Attribute E (nm "items") apos) [] [] pos2] [] pos1):=by
 intro c V s O ρ Q y H R h;refine Ht (KJ L H R (x:="sorted") (v:=.builtin "sorted") (As 9 rfl) (y▸G) (PC (FT (by rfl)) (FH (by rfl) (Mw (XE i rfl (by decide) f (B6 (I y H R h) λv J d P W j n q K Y=>c9 (CZ j) λM k j=>?_))))));let t:=An j;ext1 t l j;refine M0 (n.dict q k) ?_;rintro a F Z S ha U rfl z w0;have m:∀x∈M,leaf x.1=a8:=λx k=>S7 l.2 x k;refine iJ (T:="dict") (d0 _ z rfl) lT mC yn (λb i=>by cases i;exact d0 _ z rfl) (PC (FT (by rfl)) (FH (by rfl) (JP (uS n q k m λr a' N p u g=>JP ?_))));cases u;have B:Ext J.heap N.heap:=⟨p.size,λb o i=>p.keep b o J7 i⟩;let D:=k7.ext B;exact Y8 (K.trans D) (uq (gB w.hu rfl) w.hh (n.ext B p.gens p.os) (D.v n q) k m g l.1 j)
theorem wZ(a:Iw E=a8)(b:SX prog X C A sc (.call f es) E):ST prog X C A sc (.call f es) E:=by
 refine QL a λc g s e ρ Q d H R h=>Uf (b d H R ?_)
 conv at h=>whnf
 conv=>whnf
 exact h
theorem gp(a:Iw E=a8)(b:SX prog X C A sc (.m o m es) E):ST prog X C A sc (.m o m es) E:=by
 refine QL a λc f s e ρ Q d H R h=>Uf (b d H R ?_)
 conv at h=>whnf
 conv=>whnf
 exact h
end
abbrev DD(xs:l4 a6):Prop:=xs.toList.Pairwise (·<·)
theorem DD.lt(h:DD xs)(b:i<j)(c:j<xs.size):xs.getD i 0<xs.getD j 0:=by
 let a:=List.pairwise_iff_getElem.mp h i j (by simp;exact b6 ‹_› (m9 ‹_›)) (by simpa using c) b;let d:i<xs.size:=by exact b6 ‹_› (m9 ‹_›)
 simpa[EH,d,c]using a
theorem fu{xs:l4 a6}{j a lo:a6}:JU xs j (a+1) lo hi=if lo<hi then(if xs.getD ((lo+hi)/2) j<j then JU xs j a ((lo+hi)/2+1) hi else JU xs j a lo ((lo+hi)/2))else lo:=rfl
theorem ZY{α:Type}{a b:Ay->α}{c:a6->α}(h:s=s'):iL (λd=>α) s a b c=iL (λd=>α) s' a b c:=by rw[h]theorem bA{t:AC}{H:a6->d3}(hs:t.slot p.j= .live i):Jq t H h (fuel+1) p=if(H i==h)=a8 then a0 (.candidate p.j i (t.advance p))else Jq t H h fuel (t.advance p):=ZY hs
theorem Zs{t:AC}{H:a6->d3}(hs:t.slot p.j= .empty):Jq t H h (fuel+1) p=a0 (.empty p.j p.dummy):=ZY hs
theorem cQ{α:Type}{a:a6->α}{b:Ay->α}(h:s=s'):lJ (λc=>α) s a b=lJ (λc=>α) s' a b:=by rw[h]theorem jl{mask:a6}{o:l4 (j0 a6)}(hs:((p0 (CI mask i+1 - i)).find? λk=>(o.getD (i+k) (a0 0)).isNone)=a0 k):Gd mask o (fuel+1) i q=a0 (i+k):=cQ hs
theorem oc{mask:a6}{o:l4 (j0 a6)}(hs:((p0 (CI mask i+1 - i)).find? λk=>(o.getD (i+k) (a0 0)).isNone)=b4):Gd mask o (fuel+1) i q=Gd mask o fuel (V7 mask i q).1 (V7 mask i q).2:=cQ hs
theorem rB(o:DD xs)(j:a6):∀(a lo hi:a6),hi - lo<=a->lo<=hi->hi<=xs.size->(∀i,i<lo->xs.getD i 0<j)->(∀i,hi<=i->i<xs.size->j<=xs.getD i 0)->
 JU xs j a lo hi<=xs.size/\(∀i,i<JU xs j a lo hi->xs.getD i 0<j)/\∀i,JU xs j a lo hi<=i->i<xs.size->j<=xs.getD i 0:=by
 intro s
 induction s with
 |zero=>intro lo hi e f g l m;have u:lo=hi:=AL f (Va (Nat.le_zero.mp e));clear e f;subst u;exact(m0 g l m)
 |succ a p=>
  intro lo hi e f g l m;rw[fu];by_cases b:lo<hi
  .rw[g0 b];have q:(lo+hi)/2<hi:=a6.div_lt_of_lt_mul (by rw[a6.two_mul];exact nU b _);have n:lo<=(lo+hi)/2:=xT q;have k:(lo+hi)/2<xs.size:=j7 q g;have r:xs.getD ((lo+hi)/2) j=xs.getD ((lo+hi)/2) 0:=by simp[EH,k]
   by_cases c:xs.getD ((lo+hi)/2) j<j
   .rw[g0 c];rw[r]at c;refine p _ hi (zP e) ‹_› g (λi d=>?_) m;rcases Ce i ((lo+hi)/2)with h|h
    .exact AH (o.lt h k) c
    .have u:i=(lo+hi)/2:=AL (v0 d) h;rw[u];exact c
   .rw[j4 c];rw[r]at c;refine p lo _ (fb e) n (m9 ‹_›) l (λi d t=>?_);rcases Ce ((lo+hi)/2) i with h|h
    .have u:=o.lt h t;exact m9 (q5 (Nat.not_lt.mp c) u)
    .have u:i=(lo+hi)/2:=AL h d;rw[u];exact Bq ‹_›
  .rw[j4 b];have u:lo=hi:=AL f (Nat.not_lt.mp b);clear e f b;subst u;exact(m0 g l m)
theorem Ix(a:DD xs)(j:a6):Bx xs j<=xs.size/\(∀i,i<Bx xs j->xs.getD i 0<j)/\∀i,Bx xs j<=i->i<xs.size->j<=xs.getD i 0:=
 rB a j xs.size 0 xs.size (l8 _) (F9 _) (l8 _) (λi h=>by exact(X7 _ ‹_›).elim) λi b c=>FR c b
theorem Xh{xs:l4 a6}(h:xs[i]?=a0 v):i<xs.size/\xs.getD i 0=v:=by let a:=Se h;ext1 a c b;exact⟨c,by simp[EH,c,b]⟩
theorem Lu{xs:l4 a6}(c:DD xs){i:a6}(h:xs[i]?=a0 j):Bx xs j=i:=by
 let b:=Xh h;ext1 b e d;refine t6 (Ix c j) λm f g=>?_;rcases MD (Bx xs j) i with h|h|h
 .let k:=g _ (l8 _) (b6 ‹_› (m9 ‹_›));let l:=c.lt h e;exact(T9 _ (j7 l (d▸k))).elim
 .exact h
 .let a:=f i h;exact dD a d
theorem zA{xs:l4 a6}(b:DD xs){i:a6}(h:xs[i]?=a0 j):Bx xs (j+1)=i+1:=by
 let a:=Xh h;ext1 a d c;refine t6 (Ix b (j+1)) λe f g=>?_;rcases MD (Bx xs (j+1)) (i+1)with h|h|h
 .have m:=g i (v0 ‹_›) d;exact iq m c
 .exact h
 .let k:=f (i+1) h;let l:=b.lt (show i<i+1 by exact l8 _) (j7 h e);exact lf k l c
theorem eb(c:DD xs):Bx xs 0=0:=by
 let a:=Ix c 0;ext1 a e d f;cases h:Bx xs 0 with
 |zero=>rfl
 |succ n=>let b:=d 0 (h▸M7 _);exact(X7 _ ‹_›).elim
theorem nc(m:DD xs)(r:j∉xs.toList):DD (U1 xs (Bx xs j) j):=by
 refine t6 (Ix m j) λv s t=>?_;unfold DD;rw[HD];have c:∀i h,xs.toList[i]=xs.getD i 0:=λi h=>by
  let u:i<xs.size:=by simpa using h
  simp[EH,u]
 let o:∀x∈xs.toList.take (Bx xs j),x<j:=by intro x d;refine d4 (N2 d) λi g=>d4 g ?_;clear g;clear d;rintro f rfl;rw[Jr,c];rw[O9]at f;exact s i (Hm f)
 have p:∀x∈xs.toList.drop (Bx xs j),j<x:=by intro x d;let k:x≠j:=λe=>r (e▸mG d);refine d4 (N2 d) λi g=>d4 g ?_;clear g;clear d;rintro f rfl;rw[LY]at f;let l:=t (Bx xs j+i) (G3 _ _) (by simp at f;exact Ai _ _▸Jw f);rw[a7.getElem_drop,c]at k ⊢;exact DQ l k.symm
 rw[Qs];refine m0 (m.sublist (a7.take_sublist _ _)) (Nx ⟨p,m.sublist (a7.drop_sublist _ _)⟩) λa q b n=>?_;rcases D9 n with rfl|n
 .exact o a q
 .exact AH (o a q) (p b n)
structure TI (t:AC) (n:a6):Prop where
 rise:DD t.place
 size:t.place.size=n
 dum:t.dummies=#[]
 fill:n<=t.mask
theorem TI.fits(h:TI t n):t.fits n=a8:=by unfold Q_ jT;rw[h.dum,h.size];simp[h.fill]theorem gU(j:a6):mR #[] j=c8:=by simp[mR]
theorem Yr(h:TI t n)(j:a6):(∃i,t.place[i]?=a0 j/\t.slot j= .live i)\/(j∉t.place.toList/\t.slot j= .empty):=by
 by_cases b:j∈t.place.toList
 .refine d4 (N2 b) λi c=>?_;ext1 c hi e;have a:t.place[i]?=a0 j:=by rw[l4.getElem?_eq_some_iff];exact⟨(by simpa using hi:i<t.place.size),by simpa using e⟩
  refine .inl (d0 i a ?_);unfold lH;simp only[Lu h.rise a,a,CG,DY]
 .refine .inr ⟨b,?_⟩;unfold lH;let d:(t.place[Bx t.place j]?==a0 j)=c8:=by rw[Gp];intro e;exact b (Array.mem_toList_iff.mpr (MJ e))
  simp only[d,Bv,Bz,h.dum,gU]theorem Rn(h:TI t n)(a:j∈t.place.toList):∃i,t.place[i]?=a0 j/\t.slot j= .live i:=(Yr h j).resolve_right λx=>x.1 a
theorem YN(h:TI t n)(a:j∉t.place.toList):t.slot j= .empty:=by
 rcases Yr h j with⟨i,b,_⟩|c
 .exact(a (Array.mem_toList_iff.mpr (MJ b))).elim
 .exact c.2
theorem yE(h:TI t n)(a:j∉t.place.toList)(b:n+1<=t.mask):TI (t.put j).1 (n+1)/\(t.put j).1.led=t.led/\(t.put j).1.plain=t.plain/\(t.put j).1.mask=t.mask/\
 (t.put j).1.place=U1 t.place (t.put j).2 j/\(t.put j).2<=n/\(t.put j).1.moves=t.moves/\(t.put j).1.finger=t.finger:=by
 unfold yd;dsimp only;rw[h.dum,gU];refine⟨⟨nc h.rise a,?_,rfl,b⟩,rfl,rfl,rfl,rfl,?_,rfl,rfl⟩
 .refine(?_:(U1 t.place _ j).size=_);rw[<-A2,HD,u7,N6,O9,LY,A2,h.size];have c:=(Ix h.rise j).1;rw[h.size]at c;exact cG
 .have c:=(Ix h.rise j).1;rw[h.size]at c;exact c
def Cq(mask:a6)(p:DU):DU:=
 if p.more>0 then{p with j:=p.j+1,more:=p.more - 1}else
 {p with j:=(V7 mask p.i p.perturb).1,more:=CI mask (V7 mask p.i p.perturb).1 - (V7 mask p.i p.perturb).1,i:=(V7 mask p.i p.perturb).1,perturb:=(V7 mask p.i p.perturb).2}theorem XN(t:AC)(p:DU):t.advance p=Cq t.mask p:=rfl
def J5(mask:a6)(p:DU):a6->DU
 |0=>p
 |k+1=>Cq mask (J5 mask p k)
theorem Ja(mask:a6)(p:DU)(a:a6):∀b,J5 mask p (a+b)=J5 mask (J5 mask p a) b
 |0=>rfl
 |b+1=>by
  refine(?_:Cq mask (J5 mask p (a+b))=Cq mask (J5 mask (J5 mask p a) b));rw[Ja mask p a b]def sp(mask i q:a6)(d:j0 a6):DU:={j:=i,more:=CI mask i - i,i,perturb:=q,dummy:=d}theorem IR(mask i:a6):CI mask i - i<=9/\i<=CI mask i/\(i<=mask->CI mask i<=mask):=by unfold CI;split<;>(first|exact⟨A5 (a6.add_sub_cancel_left ..),G3 _ _,λ_=>‹_›⟩|exact sN)
theorem YA(mask:a6):∀(k:a6)(p:DU),k<=p.more->J5 mask p k={p with j:=p.j+k,more:=p.more - k}:=by
 intro a
 induction a with
 |zero=>intro p c;exact rfl
 |succ k b=>
  intro p h;refine(?_:Cq mask (J5 mask p k)=_);rw[b p (m9 ‹_›)];refine G6 (JR h) ?_;try with_reducible rfl
  congr 1
theorem Tj(mask:a6)(p:DU):J5 mask p (p.more+1)=sp mask (V7 mask p.i p.perturb).1 (V7 mask p.i p.perturb).2 p.dummy:=by
 refine(?_:Cq mask (J5 mask p p.more)=_);rw[YA mask p.more p (l8 _)];refine EE wh ?_;try with_reducible rfl
 rfl
def lp(mask:a6):a6->a6×a6->a6×a6
 |0,x=>x
 |n+1,x=>V7 mask (lp mask n x).1 (lp mask n x).2
theorem wz(mask:a6):∀(n:a6)(x:a6×a6),lp mask (n+1) x=lp mask n (V7 mask x.1 x.2):=by
 intro a
 induction a with
 |zero=>intro c;exact rfl
 |succ n b=>intro x;refine(?_:V7 mask (lp mask (n+1) x).1 (lp mask (n+1) x).2=V7 mask _ _);rw[b x]
theorem Yb(mask a:a6)(x:a6×a6):∀b,lp mask (a+b) x=lp mask b (lp mask a x)
 |0=>rfl
 |b+1=>by
  refine(?_:V7 mask (lp mask (a+b) x).1 (lp mask (a+b) x).2=V7 mask _ _);rw[Yb mask a x b]
theorem gj(mask:a6)(d:j0 a6):∀(n i q:a6),∃k,k<=10*n/\J5 mask (sp mask i q d) k=sp mask (lp mask n (i,q)).1 (lp mask n (i,q)).2 d:=by
 intro a
 induction a with
 |zero=>intro i q;exact d0 0 (l8 _) rfl
 |succ n b=>
  intro i q;refine c9 (b i q) λk c e=>d0 (k+((sp mask (lp mask n (i,q)).1 (lp mask n (i,q)).2 d).more+1)) ?_ ?_
  .have f:=(IR mask (lp mask n (i,q)).1).1;exact(U0 c (U6 f):k+(CI mask (lp mask n (i,q)).1 - (lp mask n (i,q)).1+1)<=_)
  .rw[Ja,e,Tj];rfl
theorem fZ(mask:a6):∀(n:a6)(x:a6×a6),(lp mask n x).2=x.2/32 ^ n
 |0,x=>(a6.div_one _).symm
 |n+1,x=>by
  refine(?_:(lp mask n x).2/32=_);rw[fZ mask n x,a6.div_div_eq_div_mul,oW]
def CR(M:a6):a6->a6->a6
 |0,i=>i
 |n+1,i=>(CR M n i*5+1) % M
theorem ej(mask:a6):∀(n i:a6),lp mask n (i,0)=(CR (mask+1) n i,0):=by
 intro a
 induction a with
 |zero=>intro i;exact rfl
 |succ n b=>intro i;refine(?_:V7 mask (lp mask n (i,0)).1 (lp mask n (i,0)).2=_);rw[b i];simp[V7];rfl
theorem OU(M a i:a6):∀b,CR M (a+b) i=CR M b (CR M a i)
 |0=>rfl
 |b+1=>by
  refine(?_:(CR M (a+b) i*5+1) % M=(CR M b (CR M a i)*5+1) % M);rw[OU M a i b]def Ed(m:a6):Prop:=m=7\/m=31\/m=127
def KM(M:a6):b7:=CR M M 0==0&&(p0 M).all λe=>(p0 M).any λn=>CR M n 0==e
theorem uC:KM 8=a8:=by decide+kernel
theorem wl:KM 32=a8:=by decide+kernel
theorem bk:KM 128=a8:=by decide+kernel
theorem wL(o:Ed mask)(hi:i<=mask)(j:e<=mask):∃n,n<=mask/\CR (mask+1) n i=e:=by
 let c:KM (mask+1)=a8:=by
  clear hi j;rcases o with rfl|rfl|rfl
  .exact uC
  .exact wl
  .exact bk
 unfold KM at c;rw[C4,Al]at c;ext k9 c p f;have d:∀x,x<=mask->∃n,n<mask+1/\CR (mask+1) n 0=x:=λx r=>by
  have s:=S7 f x (Cv (BJ ‹_›));let g:=List.any_eq_true.mp s;ext1 g n k e;exact d0 n (U8 k) (by simpa using e)
 refine c9 (d i hi) λa q l=>c9 (d e j) λb c m=>?_;rcases Ce b a with h|h
 .refine d0 (mask+1 - a+b) (vj c h) ?_;rw[<-l,<-OU,show a+(mask+1 - a+b)=mask+1+b by exact ba q,OU,p,m]
 .refine d0 (b - a) (b6 (Mo _ _) (v0 c)) ?_;rw[<-l,<-OU,show a+(b - a)=b by exact DM h,m]theorem Oe(mask i q:a6):(V7 mask i q).1<=mask:=by let a:=LZ (i*5+1+q/32) (M7 mask);exact v0 a
theorem im(mask:a6):∀(n:a6)(x:a6×a6),x.1<=mask->(lp mask n x).1<=mask:=by
 intro a
 induction a with
 |zero=>intro _ h;exact h
 |succ n b=>intro x _;exact Oe mask _ _
theorem cY(g:Ed mask)(hi:i<=mask)(h:q<2 ^ 64)(j:e<=mask):∃n,n<=mask+13/\(lp mask n (i,q)).1=e:=by
 let c:lp mask 13 (i,q)=((lp mask 13 (i,q)).1,0):=by let a:=fZ mask 13 (i,q);rw[(a6.div_eq_of_lt (j7 h (by decide)))]at a;exact Fq rfl a
 let b:=wL g (im mask 13 (i,q) hi) j;ext1 b n d f;refine d0 (13+n) (b6 (G2 d 13) (A5 (Ai 13 _))) ?_;rw[Yb,c,ej];exact f
theorem vG(g:Ed mask)(a:p.more<=9)(h:p.perturb<2 ^ 64)(i:e<=mask):∃k,k<10*DZ mask/\(J5 mask p k).j=e:=by
 let c:(V7 mask p.i p.perturb).2<2 ^ 64:=by exact q5 (jU _ _) h
 refine c9 (cY g (Oe mask p.i p.perturb) c i) λn l m=>?_;let b:=gj mask p.dummy n (V7 mask p.i p.perturb).1 (V7 mask p.i p.perturb).2;ext1 b k d f;refine d0 (p.more+1+k) (by unfold DZ;exact qq d l a) ?_;rw[Ja,Tj,f];exact m
theorem XZ(h:d3):Ak h<2 ^ 64:=by unfold Ak;let a:=d3.emod_nonneg h (show(2 ^ 64:d3)≠0 by decide);let b:=d3.emod_lt_of_pos h (show(0:d3)<2 ^ 64 by decide);exact(Qq a).mpr b
theorem Uv(mask:a6)(h:d3):∀k,(J5 mask (sp mask (Ak h % (mask+1)) (Ak h) b4) k).more<=9/\(J5 mask (sp mask (Ak h % (mask+1)) (Ak h) b4) k).perturb<2 ^ 64/\(J5 mask (sp mask (Ak h % (mask+1)) (Ak h) b4) k).dummy=b4:=by
 intro d
 induction d with
 |zero=>exact m0 ((IR mask _).1) (XZ h) rfl
 |succ k e=>
  refine t6 e λa b c=>(?_:(Cq mask _).more<=9/\(Cq mask _).perturb<2 ^ 64/\(Cq mask _).dummy=b4);unfold Cq;split
  .exact m0 (by dsimp only;exact b6 (Mo _ _) a) b c
  .refine m0 ((IR mask _).1) ?_ c;exact q5 (jU _ 32) b
theorem V4{α:Type}[DV α]:∀{l m:a7 α},l.Nodup->(∀x∈l,x∈m)->l.length<=m.length:=by
 intro i
 induction i with
 |nil=>intro d d d;exact F9 _
 |cons x l b=>
  intro m c h;rw[Az]at c;let f:=h x j5;let b:=b (m:=m.erase x) c.2 λy g=>by
   exact(nP (λe=>c.1 (e▸g):y≠x)).mpr (h y (k8 _ g))
  rw[jR f]at b;let a:=Wh f;rw[N6];exact b6 (U6 b) (A5 (HT a))def Ab(mask:a6)(h:d3):DU:=sp mask (Ak h % (mask+1)) (Ak h) b4
def pj(mask:a6)(h:d3)(k:a6):a6:=(J5 mask (Ab mask h) k).j
def Reach(mask:a6)(occ:a6->Prop)(h:d3)(j:a6):Prop:=∃k,pj mask h k=j/\∀m,m<k->occ (pj mask h m)theorem Reach.mono(b:∀x,occ x->occ' x)(r:Reach mask occ h j):Reach mask occ' h j:=by ext c9 r k e a;exact d0 k e λm h=>b _ (a m h)
theorem wY:∀k,pj mask h k<=mask:=by
 let b:∀k,(J5 mask (Ab mask h) k).j+(J5 mask (Ab mask h) k).more<=mask:=by
  intro k
  induction k with
  |zero=>let a:=IR mask (Ak h % (mask+1));exact b6 (A5 (DM a.2.1)) (a.2.2 (v0 (LZ _ (M7 _))))
  |succ k c=>
   refine(?_:(Cq mask _).j+(Cq mask _).more<=mask);generalize J5 mask (Ab mask h) k=p at c;unfold Cq;split
   .dsimp only;exact zZ c ‹_›
   .dsimp only;let a:=IR mask (V7 mask p.i p.perturb).1;exact b6 (A5 (DM a.2.1)) (a.2.2 (Oe mask p.i p.perturb))
 exact λk=>by let a:=b k;exact b6 (G3 _ _) a
structure TT (t:AC) (es:l4 (d3×b8)):Prop where
 ti:TI t es.size
 mask:Ed t.mask
 room:es.size*5<t.mask*3
 le:∀j,j∈t.place.toList->j<=t.mask
 reach:∀(i:a6)(e:d3×b8)(j:a6),es[i]?=a0 e->t.place[i]?=a0 j->Reach t.mask (·∈t.place.toList) e.1 j
theorem wy{mask:a6}{xs:a7 a6}(d:xs.length<=mask):∃e,e<=mask/\e∉xs:=by
 apply CL;intro f;let b:∀x∈p0 (mask+1),x∈xs:=λx g=>by
  apply CL;intro c;exact f (d0 x (v0 (U8 g)) c)
 let a:=V4 VV b;rw[Bw]at a;exact(jJ _ (b6 a d)).elim
theorem TT.ends{t:AC}{es:l4 (d3×b8)}(T:TT t es)(h:d3)(k:a6):∃d,d<10*DZ t.mask/\pj t.mask h (k+d)∉t.place.toList:=by refine c9 (wy (mask:=t.mask) (xs:=t.place.toList) (by rw[A2,T.ti.size];exact T.ti.fill)) λe f g=>?_;let a:=Uv t.mask h k;ext1 a i j l;let a:=vG T.mask i j f;ext1 a d b c;refine d0 d b ?_;unfold pj Ab;rw[Ja];rw[c];exact g
inductive KZ (t:AC) (es:l4 (d3×b8)) (h:d3) (k:a6):j0 yf->Prop
 |empty (K:a6) (hk:k<=K) (hj:pj t.mask h K∉t.place.toList) (hb:∀m,k<=m->m<K->∃(i:a6)(e:d3×b8),t.place[i]?=a0 (pj t.mask h m)/\es[i]?=a0 e/\e.1≠h):KZ t es h k (a0 (.empty (pj t.mask h K) b4))
 |cand (K i:a6) (e:d3×b8) (hk:k<=K) (hj:t.place[i]?=a0 (pj t.mask h K)) (he:es[i]?=a0 e) (hh:e.1=h) (hb:∀m,k<=m->m<K->∃(i:a6)(e:d3×b8),t.place[i]?=a0 (pj t.mask h m)/\es[i]?=a0 e/\e.1≠h):
  KZ t es h k (a0 (.candidate (pj t.mask h K) i (J5 t.mask (Ab t.mask h) (K+1))))
theorem mm{t:AC}{es:l4 (d3×b8)}(T:TT t es){PA:a6->d3}(hH:∀(i:a6)(e:d3×b8),es[i]?=a0 e->PA i=e.1)(h:d3):∀(fuel k:a6),(∃d,d<fuel/\pj t.mask h (k+d)∉t.place.toList)->
 KZ t es h k (Jq t PA h fuel (J5 t.mask (Ab t.mask h) k)):=by
 intro z7
 induction z7 with
 |zero=>intro k z91;ext c9 z91 d hd w0;exact(X7 _ hd).elim
 |succ fuel IH=>
  intro k z91;ext c9 z91 d hd hx;by_cases hm:pj t.mask h k∈t.place.toList
  .refine c9 (Rn T.ti hm) λi hi hs=>?_;have hs':t.slot (J5 t.mask (Ab t.mask h) k).j= .live i:=hs;rw[bA hs'];have hil:i<es.size:=by refine d4 (Se hi) λh1 w0=>?_;rw[T.ti.size]at h1;exact h1
   have he:es[i]?=a0 es[i]:=Ea hil;rw[hH i _ he,XN];by_cases hq:es[i].1=h
   .rw[g0 (by simpa using hq)];exact .cand k i es[i] (l8 _) hi he hq λm h1 h2=>by exact(Ke h2 h1).elim
   .rw[j4 (by simpa using hq)];have hd0:d≠0:=by clear hd;rintro rfl;exact hx hm
    have ih:=IH (k+1) (d0 (d - 1) (cM hd hd0) (by rw[show k+1+(d - 1)=k+d by exact Zt hd0];exact hx));have hstep:∀m,k<=m->m<k+1->∃(i:a6)(e:d3×b8),t.place[i]?=a0 (pj t.mask h m)/\es[i]?=a0 e/\e.1≠h:=λm h1 h2=>by
     have a:m=k:=AL (v0 h2) h1;clear hx hm hs hs' ih h1 h2;subst a;exact E9 i _ hi he hq
    revert ih;refine gen (Jq t PA h fuel (J5 t.mask (Ab t.mask h) (k+1))) λr ih=>?_;cases ih with
    |empty K hk hj hb=>exact .empty K (m9 ‹_›) hj λm h1 h2=>if hm:m<k+1 then hstep m h1 hm else hb m (Bq ‹_›) h2
    |cand K i e hk hj he hh hb=>exact .cand K i e (m9 ‹_›) hj he hh λm h1 h2=>if hm:m<k+1 then hstep m h1 hm else hb m (Bq ‹_›) h2
  .have hs':t.slot (J5 t.mask (Ab t.mask h) k).j= .empty:=YN T.ti hm;rw[Zs hs'];have hdum:(J5 t.mask (Ab t.mask h) k).dummy=b4:=(Uv t.mask h k).2.2;rw[hdum];exact .empty k (l8 _) hm λm h1 h2=>(Ke h2 h1).elim
theorem rQ(T:TT t es){a:a6->d3}(b:∀(i:a6)(e:d3×b8),es[i]?=a0 e->a i=e.1)(h:d3)(k:a6):KZ t es h k (t.probe a h (J5 t.mask (Ab t.mask h) k)):=
 mm T b h _ k (T.ends h k)
theorem gQ{α:Type}(xs:l4 α)(p:a6)(x:α)(d:p<=xs.size)(i:a6):(U1 xs p x)[i]?=if i<p then xs[i]? else if i=p then a0 x else xs[i - 1]?:=by
 rw[(W6).symm,HD];rw[VK];rw[(by rw[O9,A2];exact EI d:(xs.toList.take p).length=p)];split
 .rw[qF ‹_›,W6]
 .split
  .rename_i b c;clear d b;subst c;simp
  .rename_i b c;let a:=mf b c;rw[a,mF,jN,W6];congr 1;exact bu a
theorem tB{α:Type}(xs:l4 α)(p:a6)(x:α)(a:p<=xs.size):(U1 xs p x).size=xs.size+1:=by rw[<-A2,HD,u7,N6,O9,LY,A2];exact cG
theorem zD(h:y∈xs.toList):y∈(U1 xs p x).toList:=by
 rw[HD,Gr,K5];rw[<-VY p xs.toList,Gr]at h;rcases h with h|h
 .exact .inl h
 .exact .inr (.inr h)
theorem xA{t:AC}{es:l4 (d3×b8)}(T:TT t es){h:d3}{x:b8}{K:a6}(o:pj t.mask h K∉t.place.toList)(p:∀m,m<K->pj t.mask h m∈t.place.toList):
 (t.put (pj t.mask h K)).2<=es.size/\TI (t.put (pj t.mask h K)).1 (es.size+1)/\(t.put (pj t.mask h K)).1.led=t.led/\(t.put (pj t.mask h K)).1.mask=t.mask/\(∀j,j∈(t.put (pj t.mask h K)).1.place.toList->j<=t.mask)/\
  ∀(i:a6)(e:d3×b8)(j:a6),(U1 es (t.put (pj t.mask h K)).2 (h,x))[i]?=a0 e->(t.put (pj t.mask h K)).1.place[i]?=a0 j->Reach t.mask (·∈(t.put (pj t.mask h K)).1.place.toList) e.1 j:=by
 let q:es.size+1<=t.mask:=by let d:=T.room;exact JT (j7 d (Y4 _ (by decide)))
 refine rR (yE T.ti o q) λr s z u f g v v=>⟨g,r,s,u,λj b=>?_,λi e j c a=>?_⟩
 .rw[f,HD,Gr,K5]at b;rcases b with b|rfl|b
  .exact T.le j (Ml b)
  .exact wY _
  .exact T.le j (mG b)
 .have k:∀y,y∈t.place.toList->y∈(t.put (pj t.mask h K)).1.place.toList:=λy w=>by rw[f];exact zD w
  rw[gQ _ _ _ g]at c;rw[f,gQ _ _ _ (by rw[T.ti.size];exact g:(t.put (pj t.mask h K)).2<=t.place.size)]at a;split at c
  .rename_i l;rw[g0 l]at a;exact(T.reach i e j c a).mono k
  .rename_i l;rw[j4 l]at a;split at c
   .rename_i n;rw[g0 n]at a;cases c;cases a;exact d0 K rfl λm b=>k _ (p m b)
   .rename_i n;rw[j4 n]at a;exact(T.reach _ e j c a).mono k
abbrev Iq:=l4 (j0 a6)def DE(o:Iq)(j:a6):Prop:=∃k,o[j]?=a0 (a0 k)
theorem XO:(∃k,k<n/\(p0 n).find? f=a0 k/\f k=a8/\∀m,m<k->f m=c8)\/((p0 n).find? f=b4/\∀m,m<n->f m=c8):=by
 cases h:(p0 n).find? f with
 |none=>refine .inr ⟨rfl,λm d=>?_⟩;let a:=List.find?_eq_none.mp h m (Cv d);simpa using a
 |some k=>
  refine .inl (CU k (U8 (Ma h)) rfl (Vm h) λm d=>?_);let g:=List.find?_eq_some_iff_append.mp h;ext1 g p o;ext F8 o i q e j;let r:=U8 (Ma h);let c:i.length=k:=by
   let b:(p0 n)[i.length]?=a0 k:=by rw[e];simp
   rw[JX]at b
   .simpa using b
   .let a:=t0 CJ e;simp at a;exact a▸Qm (M7 _)
  let l:m∈i:=by let b:(p0 n)[m]?=a0 m:=JX (b6 ‹_› (m9 ‹_›));rw[e,Mq (Cz d c)]at b;exact p8 b
  let a:=j m l;simpa using a
theorem jt(E:o.size=mask+1):∀(c n i q a:a6),i<=mask->J5 mask (Ab mask h) a=sp mask i q b4->(∀m,m<a->DE o (pj mask h m))->n<c->¬DE o (lp mask n (i,q)).1->
 ∃j K,Gd mask o c i q=a0 j/\pj mask h K=j/\o[j]?=a0 b4/\∀m,m<K->DE o (pj mask h m):=by
 intro F
 induction F with
 |zero=>intro n v v v v v v A v;exact(X7 _ A).elim
 |succ c G=>
  intro n i q a H B C A s;have t:=IR mask i;have u:=t.2.2 H;have d:∀k,k<=CI mask i - i->pj mask h (a+k)=i+k:=λk b=>by
   unfold pj;rw[Ja,B,YA mask k (sp mask i q b4) b];rfl
  have g:∀k,i+k<=mask->((o.getD (i+k) (a0 0)).isNone=a8↔o[i+k]?=a0 b4)/\((o.getD (i+k) (a0 0)).isNone=c8↔DE o (i+k)):=λk b=>by
   have D:i+k<o.size:=E▸BJ b;rw[(by simp[EH,D]:o.getD (i+k) (a0 0)=o[i+k])];unfold DE;rw[(Ea D)];cases o[i+k]<;>simp
  rcases XO (f:=λk=>(o.getD (i+k) (a0 0)).isNone) (n:=CI mask i+1 - i)with⟨k,b,x,I,y⟩|⟨x,w⟩
  .rw[jl x];refine⟨i+k,a+k,rfl,d k (Vd (v0 (Jw b))),(g k (b6 (Ai _ _▸v0 (Jw b)) u)).1.mp I,λm p=>?_⟩;rcases Ce m a with r|r
   .exact C m r
   .have e:m=a+(m - a):=(DM r).symm;rw[e,d (m - a) (jo b p)];exact(g (m - a) (wr b u p)).2.mp (y (m - a) (a6.lt_of_add_lt_add_left (q5 (A5 e.symm) p)))
  .rw[oc x];have l:∀k,k<=CI mask i - i->DE o (i+k):=λk b=>(g k (vo t u b)).2.mp (w k (yU t b));cases n with
   |zero=>exact(s (l 0 (F9 _))).elim
   |succ n=>
    have z:J5 mask (Ab mask h) (a+((sp mask i q b4).more+1))=sp mask (V7 mask i q).1 (V7 mask i q).2 b4:=by rw[Ja,B,Tj];rfl
    refine G n _ _ _ (Oe mask i q) z (λm p=>?_) (v0 ‹_›) (by rw[wz]at s;exact s);rw[(rfl:(sp mask i q b4).more=CI mask i - i)]at p;rcases Ce m a with r|r
    .exact C m r
    .have e:m=a+(m - a):=(DM r).symm;rw[e,d (m - a) (Hz (Ai _ _▸v0 p))];exact l (m - a) (Hz (Ai _ _▸v0 p))
structure FG (mask:a6) (hs:a7 d3) (o:Iq) (l:a6):Prop where
 size:o.size=mask+1
 has:∀(k:a6),k<l->∃(j:a6)(h:d3),hs[k]?=a0 h/\o[j]?=a0 (a0 k)/\Reach mask (DE o) h j
 lt:∀(j k:a6),o[j]?=a0 (a0 k)->k<l
 inj:∀(j j' k:a6),o[j]?=a0 (a0 k)->o[j']?=a0 (a0 k)->j=j'
theorem FG.free(I:FG mask hs o l)(t:l<=mask):∃e,e<=mask/\¬DE o e:=by
 apply CL;intro u;let c:∀j,j<=mask->DE o j:=λj g=>by
  apply CL;intro h;exact u (d0 j g h)
 let s:∀j∈p0 (mask+1),∃k,o[j]?=a0 (a0 k):=λj g=>c j (v0 (U8 g))
 let f:_:=(λj=>((o[j]?).getD b4).getD 0:a6->a6)
 have i:∀j,j<=mask->o[j]?=a0 (a0 (f j)):=λj g=>by
  let n:=c j g;ext1 n k e;refine(?_:o[j]?=a0 (a0 (((o[j]?).getD b4).getD 0)));rw[e];rfl
 let v:((p0 (mask+1)).map f).Nodup:=by rw[Br,Y6];refine Gg ?_ (BR VV);intro a b w y p e;let q:=i a (v0 (U8 w));rw[e]at q;exact p (I.inj a b _ q (i b (v0 (U8 y))))
 let d:=V4 (m:=p0 l) v λx r=>by
  ext B0 r j g;exact Cv (I.lt j _ (i j (v0 (U8 g))))
 rw[f7,Bw,Bw]at d;exact(fe d t).elim
theorem HY(o:Iq)(j:a6)(v:j0 a6)(x:a6)(a:j<o.size):(o.setIfInBounds j v)[x]?=if x=j then a0 v else o[x]?:=by
 rw[l4.getElem?_setIfInBounds];by_cases h:j=x
 .subst h;simp[a]
 .refine EE h ?_;rw[j4 λe=>h e.symm]
theorem ke(p:Ed mask)(I:FG mask hs o l)(A:l<=mask)(F:hs[l]?=a0 h):
 ∃j,Gd mask o (DZ mask) (Ak h % (mask+1)) (Ak h)=a0 j/\FG mask hs (o.setIfInBounds j (a0 l)) (l+1):=by
 let g:=I.free A;ext1 g e B q;have C:Ak h % (mask+1)<=mask:=v0 (LZ _ (M7 _));let g:=cY p C (XZ h) B;ext1 g n D E;refine T8 (jt I.size (DZ mask) n _ _ 0 C (h:=h) rfl (λm p=>(X7 _ p).elim) (by unfold DZ;exact q5 D (FZ (by decide) _)) (by rw[E];exact q)) λj K t u v G=>d0 j t ?_;have c:j<o.size:=Ks v;have w:∀x,DE o x->DE (o.setIfInBounds j (a0 l)) x:=λx H=>d4 H λk i=>by
  refine⟨k,?_⟩;rw[HY o j _ x c];rw[j4]
  .exact i
  .clear t u c;rintro rfl;rw[v]at i;cases i
 refine⟨by rw[l4.size_setIfInBounds];exact I.size,λk i=>?_,λx k f=>?_,λx y k f d=>?_⟩
 .rcases Ce k l with s|s
  .refine n4 (I.has k s) λx J L z M=>E9 x J L ?_ (M.mono w);rw[HY o j _ x c,j4]
   .exact z
   .clear t u c w;rintro rfl;rw[v]at z;cases z
  .let r:=Nj i s;clear I A i s;subst r;exact⟨j,h,F,by rw[HY o j _ j c,g0 rfl],K,u,λm p=>w _ (G m p)⟩
 .rw[HY o j _ x c]at f;split at f
  .cases f;exact B8 _
  .exact BM (I.lt x k f)
 .rw[HY o j _ x c]at f;rw[HY o j _ y c]at d;split at f<;>split at d
  .rename_i a b;rw[a,b]
  .cases f;exact(T9 _ (I.lt y _ d)).elim
  .cases d;exact(T9 _ (I.lt x _ f)).elim
  .exact I.inj x y k f d
theorem vh(i:Ed mask):∀(a done:a7 d3)(o:Iq),hs=done++a->FG mask hs o done.length->hs.length<=mask+1->
 ∃d,(a.foldl (init:=a0 (o,done.length)) λ(f:j0 (Iq×a6))h=>do
  let(owner,k)<-f
  let j<-Gd mask owner (DZ mask) (Ak h % (mask+1)) (Ak h)
  pure (owner.setIfInBounds j (a0 k),k+1))=a0 (d,hs.length)/\FG mask hs d hs.length:=by
 intro l
 induction l with
 |nil=>intro done o e I r;rw[Y5]at e;subst e;exact d0 o rfl I
 |cons h a m=>
  intro done o e I b;refine c9 (ke i (h:=h) I (v0 (j7 (by rw[e];simp:done.length<hs.length) b)) (by rw[e];simp)) λj n p=>?_;have c:(done++[h]).length=done.length+1:=by simp
  refine c9 (m (done++[h]) _ (by rw[e];simp:hs=(done++[h])++a) (by rw[c];exact p) b) λd g q=>d0 d ?_ q;rw[Pk];rw[c]at g;have s:(do
   let(owner,k)<-a0 (o,done.length)
   let j<-Gd mask owner (DZ mask) (Ak h % (mask+1)) (Ak h)
   pure (owner.setIfInBounds j (a0 k),k+1):j0 (Iq×a6))=a0 (o.setIfInBounds j (a0 done.length),done.length+1):=by
   refine(?_:(Gd mask o (DZ mask) (Ak h % (mask+1)) (Ak h)).bind _=_);rw[n];rfl
  rw[s];exact g
theorem ao(e:Ed mask)(hs:l4 d3)(c:hs.size<=mask+1):∃o,kH mask hs=a0 o/\FG mask hs.toList o hs.size:=by
 let f:FG mask hs.toList (l4.replicate (mask+1) b4) 0:=by
  refine⟨by simp,λk g=>(X7 _ g).elim,λj k b=>?_,λj l k b m=>?_⟩<;>
  .rw[l4.getElem?_replicate]at b;split at b<;>cases b
 refine c9 (vh e (hs:=hs.toList) hs.toList [] _ (rfl) f (by rw[A2];exact c)) λh d i=>d0 h ?_ (by simpa using i);unfold kH;rw[<-l4.foldl_toList];let a:[].length=0:=rfl;rw[a]at d;rw[d];rfl
theorem Li{α:Type}[DV α]:∀{l m:a7 α},l.Nodup->m.Nodup->(∀x,x∈l↔x∈m)->l.Perm m:=by
 intro f
 induction f with
 |nil=>
  intro m g g h;cases m with
  |nil=>exact .nil
  |cons y m=>exact(J7 ((h y).mpr j5)).elim
 |cons x l i=>
  intro m a c h;rw[Az]at a;let j:x∈m:=(h x).mp j5;refine(C' x (i (m:=m.erase x) a.2 (c.erase x) λy=>?_)).trans (a7.perm_cons_erase j).symm;rw[zx c];constructor
  .intro d;exact⟨λe=>a.1 (e▸d),(h y).mp (k8 _ d)⟩
  .rintro b;ext1 b k n;exact(D9 ((h y).mpr n)).resolve_left k
theorem aB{mask finger moves:a6}{led plain:b7}{es:l4 (d3×b8)}(T:Ed mask)(U:es.size*5<mask*3):
 ∃B f,Wt mask finger moves led plain (es.map (·.1))=a0 (B,f)/\TT B (f.filterMap (es[·]?))/\(f.filterMap (es[·]?)).size=es.size/\(f.filterMap (es[·]?)).toList.Perm es.toList/\B.led=led/\B.plain=plain/\B.mask=mask/\f.toList.Perm (p0 es.size):=by
 let O:es.size<=mask:=zN U;refine c9 (ao T (es.map (·.1)) (by rw[mV];exact U4 ‹_›)) λo h1 I=>?_;rw[mV]at I;refine M8 ((p0 (mask+1)).filterMap λj=>(o.getD j b4).map λk=>(j,k)) λL J=>?_;let v:Wt mask finger moves led plain (es.map (·.1))=a0 ({mask,place:=(L.map (·.1)).toArray,dummies:=#[],finger,led,moves,plain},(L.map (·.2)).toArray):=by unfold Wt;rw[h1,<-J];rfl
 rw[v];have d:∀j k,(j,k)∈L↔o[j]?=a0 (a0 k):=λj k=>by
  rw[<-J,UX];constructor
  .rintro V;ext c9 V x E e;rw[At]at e;ext c9 e y W e2;cases e2;have w:j<o.size:=by rw[I.size];exact U8 E
   let c:o.getD j b4=o[j]:=by simp[EH,w]
   rw[c]at W;rw[Ea w,W]
  .intro e;let w:j<o.size:=Ks e;refine d0 j (Cv (by rw[<-I.size];exact w)) ?_;rw[(by simp[EH,w]:o.getD j b4=o[j])];rw[Ea w]at e;rw[C6 e];rfl
 have r:L.map (·.1)=(p0 (mask+1)).filter (λj=>(o.getD j b4).isSome):=by
  rw[<-J];let t:∀l:a7 a6,(l.filterMap λj=>(o.getD j b4).map λk=>(j,k)).map (·.1)=l.filter (λj=>(o.getD j b4).isSome):=by
   intro l
   induction l with
   |nil=>rfl
   |cons x l F=>
    rw[HQ,DS];cases o.getD x b4 with
    |none=>simpa using F
    |some k=>simp only[Ax,Wr,DY,y4];rw[F]
  exact t _
 have m:(L.map (·.1)).Pairwise (·<·):=by rw[r];exact List.pairwise_lt_range.filter _
 let P:(L.map (·.2)).Nodup:=by rw[Br,Y6];let c:=List.pairwise_map.mp (qG (λh=>m6 h) m);refine Gg ?_ c;rintro z3 z4 ha hb Q e;obtain⟨a,x⟩:=z3;obtain⟨b,y⟩:=z4;have e:x=y:=e;subst e;exact Q (I.inj a b x ((d a x).mp ha) ((d b x).mp hb))
 have u:(L.map (·.2)).Perm (p0 es.size):=Li P VV λk=>by
  rw[Qd];constructor
  .intro z;ext A8 z ⟨j,K⟩ R rfl;exact I.lt j _ ((d j _).mp R)
  .intro z;exact n4 (I.has k z) λj h X A X=>C0 (a:=(j,k)) ((d j k).mpr A) rfl
 have s:((L.map (·.2)).toArray.filterMap (es[·]?)).toList.Perm es.toList:=by rw[pC];exact(u.filterMap _).trans (by rw[filterMap_getElem?_range])
 let n:((L.map (·.2)).toArray.filterMap (es[·]?)).size=es.size:=by rw[<-A2,s.length_eq,A2]
 have D:∀(i:a6)(e:d3×b8),((L.map (·.2)).toArray.filterMap (es[·]?))[i]?=a0 e->∃(j k:a6),L[i]?=a0 (j,k)/\es[k]?=a0 e:=by
  intro i e G;rw[<-W6,pC]at G;let t:∀(l:a7 (a6×a6)),(∀p∈l,p.2<es.size)->∀(i:a6),((l.map (·.2)).filterMap (es[·]?))[i]?=a0 e->∃(j k:a6),l[i]?=a0 (j,k)/\es[k]?=a0 e:=by
   intro l
   induction l with
   |nil=>intro X i h;simp at h
   |cons p l F=>
    intro H i h;let C:=H p j5;rw[y4,HQ,Ea C]at h;cases i with
    |zero=>simp only[UT,AA]at h;exact P9 p.1 p.2 rfl (by rw[Ea C,h])
    |succ i=>simp only[mF]at h;exact F (λq hq=>H q (k8 _ hq)) i h
  exact t L (λp H=>I.lt p.1 _ ((d p.1 p.2).mp H)) i G
 refine⟨_,_,rfl,⟨⟨?_,?_,rfl,?_⟩,T,?_,λj A=>?_,λi e j G g=>?_⟩,n,s,rfl,rfl,rfl,u⟩
 .exact(m:((L.map (·.1)).toArray).toList.Pairwise (·<·))
 .refine(?_:((L.map (·.1)).toArray).size=_);rw[n];simp[(by let c:=u.length_eq;simpa using c:L.length=es.size)]
 .rw[n];exact O
 .rw[n];exact U
 .let A:j∈L.map (·.1):=A;rw[r]at A;exact v0 (U8 (OD A))
 .refine F8 (D i e G) λM k Y z=>?_;have g:((L.map (·.1)).toArray)[i]?=a0 j:=g;rw[VR,o7,Y]at g;simp only[Ax,AA]at g;subst g;have Z:=(d M k).mp (p8 Y);refine n4 (I.has k (I.lt M k Z)) λj2 h N b2 b3=>?_;let c:=I.inj M j2 k Z b2;clear b2;subst c;let hh:h=e.1:=by
   let c:(es.map (·.1)).toList[k]?=a0 e.1:=by rw[W6,l4.getElem?_map,z];rfl
   rw[c]at N;exact(C6 N).symm
  clear N;subst hh;refine b3.mono λx E=>?_;ext d4 E K S;exact C0 (a:=(x,K)) ((d x K).mpr S) rfl
theorem RO:∀{b:a7 b0},N0 f b b=a8->∀d∈b,f d d=a8:=by
 intro c
 induction c with
 |nil=>intro e e h;cases h
 |cons x r g=>
  intro a d h;replace a:=G5 a;rcases D9 h with rfl|h
  .exact a.1
  .exact g a.2 d h
section
variable{s:f8}
theorem Oh(g:o0 k d d=a8)(i:V base c n s.heap d v):(∀b,d≠.B b)->Vk v=a8:=by exact Fe (P:=λa d a=>V base c n s.heap d v->(∀b,d≠.B b)->Vk v=a8) g (λa a f a=>d4 f λa e=>e▸rfl) (λa a f a=>d4 f λa e=>e▸rfl) (λa a a a a h=>(h _ rfl).elim) i
theorem Zi:∀(k:a6){m:a6}{d:b0}{v:b8}{Q:b7->f8->Prop},k<m->o0 k d d=a8->V base c n s.heap d v->Q a8 s->b9 (d7 prog w) A (eqIsQuiet m v) Q E s:=by
 intro k
 induction k with
 |zero=>intro m d v Q w0 ho hv hq;rw[lM _ (Oh ho hv λds e=>by clear hv;subst e;exact no ho)];exact f6 hq
 |succ k ih=>
  intro m d v Q hm ho hv hq;by_cases hd:∃ds,d= .B ds
  .ext d4 hd ds rfl;obtain⟨m,rfl⟩:∃m',m=m'+1:=⟨m - 1,SN hm⟩;ext H9 hv a items e rfl w0 ho1 hi;let hT:=CN (s:=s) ho1;unfold eqIsQuiet;refine b5 (HH hT F.slot_tuple_eq.lookup (b5 (JL hT WL (b5 (Cg ho1 rfl (b5 ((?_:b9 _ _ (Hx items _ _) _ _ s))))))));rw[<-Gl];refine Fy _ (λrest r s'=>r.1=b4/\s'=s/\∃left,(∀x∈left,o0 k x x=a8)/\Vs base c n s.heap left rest) _ ?_ ?_ _ _ ⟨rfl,rfl,ds,(RO ho:∀x∈ds,o0 k x x=a8),hi⟩
   .rintro v rest r s' z1;clear hq ho1 hi hT;ext t6 z1 hr rfl rr;ext c9 rr left hl hvs;cases left with
    |nil=>have b:v::rest=[]:=hvs;cases b
    |cons x left=>
     ext n4 hvs v1 r1 e1 hv1 hr1;cases e1
     set_option smartUnfolding false in refine b5 (ih (v0 ‹_›) (hl x j5) hv1 ?_)
     exact f6 ⟨rfl,rfl,left,λy hy=>hl y (k8 _ hy),hr1⟩
   .rintro z2 s' z3;obtain⟨r1,r2⟩:=z2;refine t6 z3 ?_;clear z3;clear ih ho1 hi hT;rintro hr rfl w0;simp only at hr;subst hr;exact f6 hq
  .rw[lM _ (Oh ho hv λds e=>hd ⟨ds,e⟩)];exact f6 hq
theorem eK(m:a6)(h:Vk v=a8):pI m v=pure c8:=by
 cases v with
 |ref a=>exact no h
 |_=>cases m<;>rfl
theorem Zm:∀(k:a6){m:a6}{d:b0}{v:b8}{Q:b7->f8->Prop},k<m->o0 k d d=a8->V base c n s.heap d v->Q c8 s->b9 (d7 prog w) A (pI m v) Q E s:=by
 intro k
 induction k with
 |zero=>intro m d v Q w0 ho hv hq;rw[eK _ (Oh ho hv λds e=>by clear hv;subst e;exact no ho)];exact f6 hq
 |succ k ih=>
  intro m d v Q hm ho hv hq;by_cases hd:∃ds,d= .B ds
  .ext d4 hd ds rfl;obtain⟨m,rfl⟩:∃m',m=m'+1:=⟨m - 1,SN hm⟩;ext H9 hv a items e rfl w0 ho1 hi;let hT:=CN (s:=s) ho1
   set_option smartUnfolding false in refine b5 (HI hT ?_)
   refine Fb (by decide) (b5 (f6 (b5 (Cg ho1 rfl (b5 ((?_:b9 _ _ (Hx items _ _) _ _ s)))))));rw[<-Gl];refine Fy _ (λrest r s'=>r.1=b4/\s'=s/\∃left,(∀x∈left,o0 k x x=a8)/\Vs base c n s.heap left rest) _ ?_ ?_ _ _ ⟨rfl,rfl,ds,(RO ho:∀x∈ds,o0 k x x=a8),hi⟩
   .rintro v rest r s' z4;clear hq ho1 hi hT;ext t6 z4 hr rfl rr;ext c9 rr left hl hvs;cases left with
    |nil=>have b:v::rest=[]:=hvs;cases b
    |cons x left=>
     ext n4 hvs v1 r1 e1 hv1 hr1;cases e1
     set_option smartUnfolding false in refine b5 (ih (v0 ‹_›) (hl x j5) hv1 ?_)
     exact f6 ⟨rfl,rfl,left,λy hy=>hl y (k8 _ hy),hr1⟩
   .rintro z5 s' z6;obtain⟨r1,r2⟩:=z5;refine t6 z6 ?_;clear z6;clear ih ho1 hi hT;rintro hr rfl w0;simp only at hr;subst hr;exact f6 hq
  .rw[eK _ (Oh ho hv λds e=>hd ⟨ds,e⟩)];exact f6 hq
theorem vg:∀(k:a6){m:a6}{d:b0}{v:b8}{Q:b7->f8->Prop},k<m->o0 k d d=a8->V base c n s.heap d v->(∀b,Q b s)->b9 (d7 prog w) A (hashByValue m v) Q E s:=by
 intro k
 induction k with
 |zero=>
  intro m d v Q w0 ho hv hq;cases d with
  |int=>ext d4 hv t rfl;cases m<;>exact f6 (hq _)
  |str=>ext d4 hv t rfl;cases m<;>exact f6 (hq _)
  |_=>exact no ho
 |succ k ih=>
  intro m d v Q hm ho hv hq;cases d with
  |int=>ext d4 hv t rfl;clear hm;cases m<;>exact f6 (hq _)
  |str=>ext d4 hv t rfl;clear hm;cases m<;>exact f6 (hq _)
  |B ds=>
   obtain⟨m,rfl⟩:∃m',m=m'+1:=⟨m - 1,SN hm⟩;ext H9 hv a items e rfl w0 ho1 hi;let hT:=CN (s:=s) ho1;refine b5 (HH hT F.slot_tuple_hash.lookup (b5 (Cg ho1 rfl (b5 ((?_:b9 _ _ (Hx items _ _) _ _ s))))));rw[<-Gl];refine Fy _ (λrest r s'=>r.1=b4/\s'=s/\∃left,(∀x∈left,o0 k x x=a8)/\Vs base c n s.heap left rest) _ ?_ ?_ _ _ ⟨rfl,rfl,ds,(RO ho:∀x∈ds,o0 k x x=a8),hi⟩
   .rintro v rest r s' z7;clear ho1 hi hT;ext t6 z7 hr rfl rr;ext c9 rr left hl hvs;cases left with
    |nil=>have f:v::rest=[]:=hvs;cases f
    |cons x left=>
     ext n4 hvs v1 r1 e1 hv1 hr1;cases e1
     set_option smartUnfolding false in refine b5 (ih (v0 ‹_›) (hl x j5) hv1 λb=>?_)
     cases b with
     |true=>exact f6 ⟨rfl,rfl,left,λy hy=>hl y (k8 _ hy),hr1⟩
     |false=>exact f6 (f6 (hq _))
   .rintro z8 s' z9;obtain⟨r1,r2⟩:=z8;refine t6 z9 ?_;clear z9;clear ih ho1 hi hT;rintro hr rfl w0;simp only at hr;subst hr;exact f6 (hq _)
  |_=>exact no ho
theorem Sh{α:Type}{M:Gb}{b:b7}{a c:M6 α}{Q:α->f8->Prop}(d:b9 M A a Q E s)(e:b9 M A c Q E s):b9 M A (if b=a8 then a else c) Q E s:=by
 cases b
 .exact e
 .exact d
theorem vV{d:b0}{v:b8}(q:o0 3 d d=a8)(k:V base c n s.heap d v):∀{i:a7 b0}{vs:a7 b8}{Q:b7->f8->Prop},(∀x∈i,o0 3 x x=a8)->Vs base c n s.heap i vs->Q c8 s->b9 (d7 prog w) A (searchCouldBeSeen v vs) Q E s:=by
 intro i vs Q m a t;refine b5 (Fy _ (λb r j=>r.1=b4/\j=s/\∃left,(∀x∈left,o0 3 x x=a8)/\Vs base c n s.heap left b) _ ?_ ?_ _ _ ⟨rfl,rfl,i,m,a⟩)
 .rintro y b r j e;clear t;refine t6 e ?_;clear e;clear a;rintro l rfl u;ext c9 u left z a;cases left with
  |nil=>have J:y::b=[]:=a;cases J
  |cons x left=>
   ext n4 a G C D f o;cases D;let B:=z x j5;have g:(∃left,(∀x∈left,o0 3 x x=a8)/\Vs base c n j.heap left b):=⟨left,λy F=>z y (k8 _ F),o⟩;refine Sh ?_ ?_
   .exact f6 ⟨rfl,rfl,g⟩
   .exact b5 (Zi 3 (show 3<8 by exact K9 _ _) q k (b5 (Zi 3 (show 3<8 by exact K9 _ _) B f (b5 (Zm 3 (show 3<8 by exact K9 _ _) q k (b5 (Zm 3 (show 3<8 by exact K9 _ _) B f (f6 ⟨rfl,rfl,g⟩))))))))
 .rintro p j h;obtain⟨C,H⟩:=p;refine t6 h ?_;clear h;clear k a;rintro l rfl I;simp only at l;subst l;exact f6 t
end
abbrev Bh(es:l4 (d3×b8))(ep:a6)(t:AC):V8:={cls:=.type "set",dict:=b4,data:=.set es ep t,slots:=#[]}
section
variable(w:O7)(base:l5)(c:Cx)(n:a6)(h:l5)
def SV:a7 b0->a7 (d3×b8)->Prop
 |[],es=>es=[]
 |y::ys,es=>∃e r,es=e::r/\e.1=q8 w y/\V base c n h y e.2/\SV ys r
end
theorem SV.len:∀{ys:a7 b0}{es:a7 (d3×b8)},SV w base c n h ys es->es.length=ys.length:=by
 intro d
 induction d with
 |nil=>intro es e;rw[show es=[] from e];rfl
 |cons _ _ f=>intro b a;ext T8 a e r q b b g;subst q;simp[f g]
theorem SV.get:∀{ys:a7 b0}{es:a7 (d3×b8)},SV w base c n h ys es->∀(i:a6)(e:d3×b8),es[i]?=a0 e->∃y,ys[i]?=a0 y/\e.1=q8 w y/\V base c n h y e.2:=by
 intro d
 induction d with
 |nil=>intro es q i e a;rw[show es=[] from q]at a;simp at a
 |cons y ys f=>
  intro l b i e a;ext T8 b m r q g j k;subst q;cases i with
  |zero=>simp at a;subst a;exact v8 y rfl g j
  |succ i=>simpa using f k i e (by simpa using a)
theorem SV.get':∀{ys:a7 b0}{es:a7 (d3×b8)},SV w base c n h ys es->∀(i:a6)(y:b0),ys[i]?=a0 y->∃e,es[i]?=a0 e/\e.1=q8 w y/\V base c n h y e.2:=by
 intro d
 induction d with
 |nil=>intro es q i y a;simp at a
 |cons m ys f=>
  intro o b i y a;ext T8 b g r q j k l;subst q;cases i with
  |zero=>simp at a;subst a;exact v8 g rfl j k
  |succ i=>simpa using f l i y (by simpa using a)
theorem SV.ext(k:∀b a e,¬c.P b->h.get? b=a0 (x0 a e)->h'.get? b=a0 (x0 a e)):∀{ys:a7 b0}{es:a7 (d3×b8)},SV w base c n h ys es->SV w base c n h' ys es:=by
 intro g
 induction g with
 |nil=>intro f q;exact q
 |cons f f i=>intro f d;ext T8 d e r q j l m;exact⟨e,r,q,j,Cb k l,i m⟩
theorem SV.perm(p:es'.Perm es):∀{ys:a7 b0},SV w base c n h ys es->∃ys',ys'.Perm ys/\SV w base c n h ys' es':=by
 induction p with
 |nil=>exact λ{ys}x=>d0 ys (.rfl) x
 |cons a p ih=>
  rintro ys x;cases ys with
  |nil=>cases(show _=[] from x)
  |cons y ys=>ext T8 x e r q h1 h2 hr;cases q;exact c9 (ih hr) λys' p' x'=>⟨y::ys',p'.cons y,_,_,rfl,h1,h2,x'⟩
 |swap a b l=>
  rintro ys x;cases ys with
  |nil=>cases(show _=[] from x)
  |cons y ys=>
   ext T8 x e r q h1 h2 hr;cases q;cases ys with
   |nil=>cases(show _=[] from hr)
   |cons y2 ys=>ext T8 hr e2 r2 q2 g1 g2 hr2;cases q2;exact⟨y2::y::ys,.swap ..,_,_,rfl,g1,g2,_,_,rfl,h1,h2,hr2⟩
 |trans _ _ ih1 ih2=>rintro ys x;refine c9 (ih2 x) λy1 p1 x1=>?_;let zz:=ih1 x1;ext1 zz y2 p2 x2;exact d0 y2 (p2.trans p1) x2
theorem SV.vals:∀{ys:a7 b0}{es:a7 (d3×b8)},SV w base c n h ys es->Vs base c n h ys (es.map (·.2)):=by
 intro b
 induction b with
 |nil=>intro es q;rw[show es=[] from q];rfl
 |cons _ _ d=>intro f a;ext T8 a e r q f g i;subst q;exact E9 _ _ rfl g (d i)
section
variable{s:f8}{t:AC}
theorem kg(h:Ed t.mask):t.gaveWay=c8:=by unfold xw;rcases h with e|e|e<;>rw[e]<;>rfl
theorem gy{α:Type}{M:Gb}{b:b7}{a:M6 b7}{m c:M6 α}{Q:α->f8->Prop}(d:∀R:b7->f8->Prop,R c8 s->b9 M A a R E s)(h:b9 M A m Q E s):
 b9 M A (if(!b)=a8 then a>>=λr=>if r=a8 then c else m else m) Q E s:=by
 cases b
 .refine(b5 (d _ ?_):b9 M A (a>>=λr=>if r=a8 then c else m) Q E s);exact h
 .exact h
theorem QP{xs:l4 a6}{i:a6}(h:xs[i]?=a0 j):j∈xs.toList:=Array.mem_toList_iff.mpr (MJ h)
theorem mq{f:d3×b8->b7}:∀{ys:a7 b0}{es:a7 (d3×b8)},SV w base c n s.heap ys es->(∀y∈ys,o0 3 y y=a8)->∃a,(∀z∈a,o0 3 z z=a8)/\Vs base c n s.heap a ((es.filter f).map (·.2)):=by
 intro l
 induction l with
 |nil=>intro es q i;exact d0 [] (λi h=>by cases h) (by rw[show es=[] from q];rfl)
 |cons y ys m=>
  intro i d g;ext T8 d e r q i o p;subst q;refine c9 (m p λz b=>g z (k8 _ b)) λa j k=>?_;rw[DS];split
  .refine⟨y::a,λz b=>?_,e.2,_,rfl,o,k⟩;rcases D9 b with rfl|b
   .exact g z j5
   .exact j z b
  .exact d0 a j k
theorem zI(hu:A.units+6<t3)(ho:s.heap.get? a=a0 (Bh es ep t))(T:TT t es)(hS:SV w base c n s.heap ys es.toList)(hv:V base c n s.heap y x)(hyt:∃ds,y= .B ds)(hys:∀z∈ys,∃ds,z= .B ds)
 (X:∀z∈ys,P0 z y=a8)(u:o0 3 y y=a8)(F:∀z∈ys,o0 3 z z=a8){Q:SetFound->f8->Prop}
 (hq1:y∈ys->Q (.there b4) s)(Y:∀K,y∉ys->pj t.mask (q8 w y) K∉t.place.toList->(∀m,m<K->pj t.mask (q8 w y) m∈t.place.toList)->Q (.free (pj t.mask (q8 w y) K) c8) s):
 ∀(l k:a6)(b:j0 DU),b.getD (t.probeStart (q8 w y))=J5 t.mask (Ab t.mask (q8 w y)) k->(∃d,d<l/\pj t.mask (q8 w y) (k+d)∉t.place.toList)->
  (∀m,m<k->∃(i:a6)(z:b0),t.place[i]?=a0 (pj t.mask (q8 w y) m)/\ys[i]?=a0 z/\z≠y)->b9 (d7 prog w) A (setSearchFrom a x (q8 w y) a8 l b) Q E s:=by
 intro l
 induction l with
 |zero=>rintro k b P z1;ext1 z1 d hd P;exact(X7 _ hd).elim
 |succ l ih=>
  rintro k b Z z2 v;ext c9 z2 d hd W;refine KS ho rfl T.ti.fits ?_;dsimp only;rw[kg T.mask];refine Y3 Cc ?_;rw[Z];have conv:∀(e:d3×b8)(i:a6),es[i]?=a0 e->∃z,ys[i]?=a0 z/\e.1=q8 w z/\V base c n s.heap z e.2:=λe i p=>hS.get i e (by rw[W6];exact p)
  generalize I:t.probe _ (q8 w y) (J5 t.mask (Ab t.mask (q8 w y)) k)=r;have hH':KZ t es (q8 w y) k r:=by rw[<-I];exact rQ T (λi e p=>by refine(?_:(es[i]?.map (·.1)).getD 0=e.1);rw[p];rfl) _ k
  have g:∀K,(∀m,k<=m->m<K->∃(i:a6)(e:d3×b8),t.place[i]?=a0 (pj t.mask (q8 w y) m)/\es[i]?=a0 e/\e.1≠q8 w y)->
   ∀m,m<K->∃(i:a6)(z:b0),t.place[i]?=a0 (pj t.mask (q8 w y) m)/\ys[i]?=a0 z/\z≠y:=λK G m S=>by
   rcases Ce m k with h|h
   .exact v m h
   .exact n4 (G m h S) λi e U a2 a3=>y0 (conv e i a2) λz b1 b2 P=>E9 i z U b1 λq=>a3 (by rw[b2,q])
  have o:∀{m:a6},(∃(i:a6)(z:b0),t.place[i]?=a0 (pj t.mask (q8 w y) m)/\ys[i]?=a0 z/\z≠y)->pj t.mask (q8 w y) m∈t.place.toList:=λz9=>F8 z9 λi z U P=>Array.mem_toList_iff.mpr (MJ U);cases hH' with
  |empty K hk B G=>
   let H:=g K G;refine f6 (Y K (λhmem=>?_) B λm S=>o (H m S));refine d4 (N2 hmem) λi rr=>?_;ext d4 rr hi e1;have hyi:ys[i]?=a0 y:=by rw[v5 hi,e1]
   refine y0 (hS.get' i y hyi) λe p hh P=>?_;rw[W6]at p;let hip:i<t.place.size:=by rw[T.ti.size];exact Ks p
   obtain⟨jp,C⟩:∃j,t.place[i]?=a0 j:=⟨_,Ea hip⟩;refine c9 (T.reach i e _ p C) λki J hbi=>?_;rw[hh]at J hbi;rcases MD ki K with h|h|h
   .refine n4 (H ki h) λi' z U a2 a3=>?_;rw[J]at U;have R:i'=i:=by rw[<-(Lu T.ti.rise U),<-(Lu T.ti.rise C)]
    clear hi e1 p hip C;subst R;rw[hyi]at a2;cases a2;exact a3 rfl
   .subst h;rw[J]at B;exact B (QP C)
   .exact B (hbi K h)
  |cand K i e hk B p hh G=>
   let H:=g K G;have L:K<k+d:=by
    apply CL;intro hc;rcases Ce (k+d) K with h|h
    .exact W (o (H (k+d) h))
    .have R:k+d=K:=AL (Nat.not_lt.mp hc) h;rw[R]at W;exact W (QP B)
   refine y0 (conv e i p) λz hz1 hz2 M=>?_;let D:=p8 hz1;let zz:=mq (f:=λe=>e.1==q8 w y) hS F;ext1 zz zs hz4 N;refine gy (λR hR=>?_) ?_
   .rw[l4.toList_filter];exact vV u hv hz4 N hR
   .rw[p];refine CW (Ls 3 (gB hu rfl) (X z D) M hv (KS ho rfl T.ti.fits ?_));dsimp only;by_cases O:z=y
    .clear hv hyt X Y ih Z v W g o B hh G I H N;subst O;have R:l3 z z=a8:=El u;rw[R];exact f6 (hq1 D)
    .let hne:l3 z y=c8:=by
      cases hb2:l3 z y with
      |false=>rfl
      |true=>exact(O (W7 hb2)).elim
     rw[hne];refine Y3 Cc ?_;rw[(by unfold q_;simp:t.sameMemory t.moves t.mask=a0 a8)];dsimp only;rw[g0 (rfl:a8=a8)];refine c9 (Rn T.ti (QP B)) λi' hi' hsl=>?_;let hii:i'=i:=by rw[<-Lu T.ti.rise hi',<-Lu T.ti.rise B]
     subst hii;rw[hsl];dsimp only;rw[p];dsimp only;refine d4 (hys z D) ?_;clear hz2 D hne;rintro ds rfl;ext EB M ad items ee hev P;rw[hev];refine b5 (wpAny_isSame_ref_self (R8 (ih (K+1) _ rfl (d0 (k+d - (K+1)) ?_ ?_) λm S=>?_)))
     .exact ve hd L hk
     .rw[show K+1+(k+d - (K+1))=k+d by exact DM L];exact W
     .rcases Ce m K with h|h
      .exact H m h
      .have R:m=K:=Nj S h;clear hk G H L hi' hsl I S h;subst R;exact E9 i' _ B hz1 O
end
structure PT (t:AC) (es:l4 (d3×b8)):Prop where
 ti:TI t es.size
 mask:Ed t.mask
 prev:(es.size - 1)*5<t.mask*3
 le:∀j,j∈t.place.toList->j<=t.mask
 reach:∀(i:a6)(e:d3×b8)(j:a6),es[i]?=a0 e->t.place[i]?=a0 j->Reach t.mask (·∈t.place.toList) e.1 j
theorem PT.plain(T:PT t es)(b:b7):PT {t with plain:=b} es:=⟨⟨T.ti.rise,T.ti.size,T.ti.dum,T.ti.fill⟩,T.mask,T.prev,T.le,T.reach⟩theorem qY(h:TI t n):t.tooFull=decide (n*5≥t.mask*3):=by unfold yc jT;rw[h.dum,h.size];rfl
theorem cR{t:AC}{es:l4 (d3×b8)}(T:TT t es){h:d3}{x:b8}{K:a6}(d:pj t.mask h K∉t.place.toList)(e:∀m,m<K->pj t.mask h m∈t.place.toList):
 PT (t.put (pj t.mask h K)).1 (U1 es (t.put (pj t.mask h K)).2 (h,x))/\(t.put (pj t.mask h K)).1.led=t.led/\(U1 es (t.put (pj t.mask h K)).2 (h,x)).size=es.size+1/\
  (U1 es (t.put (pj t.mask h K)).2 (h,x)).toList.Perm ((h,x)::es.toList):=by
 let a:=xA (x:=x) T d e;ext1 a f g i b j k;let c:=tB es (t.put (pj t.mask h K)).2 (h,x) f;refine M4 ⟨by rw[c];exact g,by rw[b];exact T.mask,?_,by rw[b];exact j,by rw[b];exact k⟩ i c ?_
 .rw[c,b];exact T.room
 .rw[HD];refine List.perm_middle.trans ?_;rw[VY]
theorem PT.room(P:PT t es)(hz:es.size<=64):
 (t.tooFull=c8/\TT t es)\/(t.tooFull=a8/\xv (JG es.size)<=Hr/\∃c a,t.relaid (es.map (·.1)) (JG es.size)=a0 (c,a)/\VG a es.size=a8/\
  TT c (a.filterMap (es[·]?))/\(a.filterMap (es[·]?)).size=es.size/\(a.filterMap (es[·]?)).toList.Perm es.toList/\c.led=t.led):=by
 rw[qY P.ti];by_cases h:es.size*5≥t.mask*3
 .right;let f:=P.prev;refine⟨by simpa using h,?_⟩;rcases P.mask with e|e|e
  .rw[e]at h f;have b:es.size=5:=bv f h;rw[b];refine⟨by decide,Lm (aB (mask:=31) (finger:=t.finger) (moves:=t.movedTo 31) (led:=t.led) (plain:=t.plain) (es:=es) (.inr (.inl rfl)) (by rw[b];decide)) λc a g i j k l m d=>k9 d ?_⟩;clear d;rintro m n;refine⟨c,a,g,?_,i,by rw[j,b],k,l⟩;unfold VG;rw[<-b];exact List.isPerm_iff.mpr n
  .rw[e]at h f;let b:=qo f h;rw[b];refine⟨by decide,Lm (aB (mask:=127) (finger:=t.finger) (moves:=t.movedTo 127) (led:=t.led) (plain:=t.plain) (es:=es) (.inr (.inr rfl)) (by rw[b];decide)) λc a g i j k l m d=>k9 d ?_⟩;clear d;rintro m n;refine⟨c,a,g,?_,i,by rw[j,b],k,l⟩;unfold VG;rw[<-b];exact List.isPerm_iff.mpr n
  .rw[e]at h;exact(iz h hz).elim
 .exact .inl ⟨by simpa using h,P.ti,P.mask,(ZG ‹_›),P.le,P.reach⟩def Dc(w:O7)(base:l5)(c:Cx)(n:a6)(h:l5)(a:i7)(ys:a7 b0)(led:b7):Prop:=∃es ep t,h.get? a=a0 (Bh es ep t)/\TT t es/\SV w base c n h ys es.toList/\t.led=led
section
variable{prog:y9}{w:O7}{A:B7}{c:Cx}
theorem OO{h:l5}{es':l4 (d3×b8)}{t':AC}(c:h.get? a=a0 (Bh es ep t)):(h.update a (Jz es' t')).get? a=a0 (Bh es' (ep+1) t'):=by let b:=Hy (Jz es' t') c (by rw[putSet_of es' t' rfl];rfl);rw[putSet_of es' t' rfl]at b;exact b
theorem OJ(f:h.get? a=a0 (Bh es ep t))(g:Ah a h h'):∀b d e,¬c.P b->h.get? b=a0 (x0 d e)->h'.get? b=a0 (x0 d e):=λb d e i q=>by
 rewrite[g.2 b ?_];exact q;rintro rfl;rw[f]at q;have j:=t0 kP (C6 q);cases j
theorem qW(g:s.heap.get? a=a0 (Bh es ep t))(P:PT t es)(hz:es.size<=64)(m:t.tooFull=a8)(o:SV w base c n s.heap ys es.toList){Q:Ay->f8->Prop}
 (u:∀i d,Ah a s.heap i->d.Perm ys->Dc w base c n i a d t.led->Q () {s with heap:=i}):b9 (d7 prog w) A (VF a (JG es.size)) Q E s:=by
 rcases P.room hz with h|⟨_,v,j,b,x,F,y,p,z,B⟩
 .rw[h.1]at m;cases m
 .unfold VF;refine b5 (Fp g rfl P.ti.fits (Y3 (Q0 v) ?_));rw[x];refine c9 (SV.perm z o) λd C l=>?_;let f:b9 (d7 prog w) A (do
   if((b.filterMap (es[·]?)).size != es.size)=a8 then unsupported "internal:set-table-lost-an-element"
   pure (b.filterMap (es[·]?),j):M6 (l4 (d3×b8)×AC)) (λr D=>r=(b.filterMap (es[·]?),j)/\D=s) E s:=by
   rw[(by rw[p];simp:((b.filterMap (es[·]?)).size != es.size)=c8)];exact f6 ⟨rfl,rfl⟩
  refine b5 (v6 f ?_ λk k e=>e);rintro k k q;refine k9 q ?_;clear q;clear o f;rintro rfl rfl;refine PK g rfl ?_ (by rw[p,O3];exact p6);refine u _ d (Ba ..) C (BS _ _ j (OO g) y ?_ B);exact SV.ext (OJ g (Ba ..)) l
end
theorem rV(hu:A.units+6<t3)(u:s.heap.get? a=a0 (Bh es ep t))(T:TT t es)(hS:SV w base c n s.heap ys es.toList)(hz:es.size<=63)(O:V base c n s.heap y x)(F:∃f,y= .B f)(X:∀z∈ys,∃f,z= .B f)
 (Y:∀z∈ys,P0 z y=a8)(i:o0 3 y y=a8)(o:∀z∈ys,o0 3 z z=a8)(Z:y∈ys->Q c8 s)
 (G:∀B l,y∉ys->Ah a s.heap B->l.Perm (y::ys)->Dc w base c n B a l t.led->Q a8 {s with heap:=B}):
 b9 (d7 prog w) A (Wi a x (q8 w y) 100000) Q E s:=by
 ext d4 F f rfl;refine EB (id O) ?_;rintro C items ee rfl hrest;refine KS u rfl T.ti.fits ?_;dsimp only;let j:=T.ends (q8 w (.B f)) 0;ext1 j d hd hx;let hd':d<100000:=by
  let M:DZ t.mask<=142:=by rcases T.mask with e|e|e<;>rw[e]<;>decide
  exact j7 hd (b6 (Y4 10 M) (by decide))
 refine b5 (zI hu u T hS O ⟨f,rfl⟩ X Y i o (λv=>f6 (Z v)) (λK v hj hb=>?_) 100000 0 b4 rfl (d0 d hd' hx) λm v=>(X7 _ v).elim);refine KS u rfl T.ti.fits ?_;let j:=cR (x:=.ref C) T hj hb;ext1 j P q g W;refine c9 (SV.perm (ys:=(.B f)::ys) W ⟨_,_,rfl,rfl,O,hS⟩) λys1 p1 H=>?_;generalize htp:t.put (pj t.mask (q8 w (.B f)) K)=tp at P q g W H;clear htp W;obtain⟨k,p⟩:=tp;have I:∀b:b7,b9 (d7 prog w) A (do
  Vh a (U1 es p (q8 w (.B f),.ref C)) (if b=a8 then k else{k with plain:=false})
  if(!c8&&(if b=a8 then k else{k with plain:=false}).tooFull)=a8 then VF a (JG (es.size+1))
  return a8) Q E s:=by
  intro b;let D:PT (if b=a8 then k else{k with plain:=false}) (U1 es p (q8 w (.B f),.ref C)):=by
   cases b
   .exact P.plain c8
   .exact P
  let R:(if b=a8 then k else{k with plain:=false}).led=t.led:=by clear D;cases b<;>exact q
  revert D R;refine gen (if b=a8 then k else{k with plain:=false}) λS D R=>?_;refine b5 (PK u rfl ?_ (by rw[g,O3];exact Ca));let r:=Ba s.heap a (Jz (U1 es p (q8 w (.B f),.ref C)) S);let J:=SV.ext (OJ u r) H;let L:=OO (es':=U1 es p (q8 w (.B f),.ref C)) (t':=S) u;by_cases U:S.tooFull=a8
  .refine Fb U ?_;rw[<-g];refine b5 (qW (s:={s with heap:=_}) L D (by rw[g];exact BJ ‹_›) U J λB l N p' hA=>f6 ?_);rw[R]at hA;exact G B l v (r.trans N) (p'.trans p1) hA
  .refine Y3 U (R8 (f6 (G _ ys1 v r p1 (BS _ _ S L ?_ J R))));rcases D.room (by rw[g];exact BJ ‹_›)with h|h
   .exact h.2
   .exact(U h.1).elim
 refine Sh ?_ ?_
 .exact b5 (vg 3 (K9 _ _) i O λb=>I b)
 .exact R8 (I a8)
theorem sq(T:TT t es)(h:d3):∃K,t.freeSlot h=a0 (pj t.mask h K,c8)/\pj t.mask h K∉t.place.toList/\∀m,m<K->pj t.mask h m∈t.place.toList:=by
 let v:∀(a k:a6),(∃d,d<a/\pj t.mask h (k+d)∉t.place.toList)->(∀m,m<k->pj t.mask h m∈t.place.toList)->
  ∃K,Jq t (λr=>h+1) h a (J5 t.mask (Ab t.mask h) k)=a0 (.empty (pj t.mask h K) b4)/\pj t.mask h K∉t.place.toList/\∀m,m<K->pj t.mask h m∈t.place.toList:=by
  intro a
  induction a with
  |zero=>rintro k o;ext1 o d f r;exact(X7 _ f).elim
  |succ a y=>
   rintro k p w;ext1 p d f s;by_cases b:pj t.mask h k∈t.place.toList
   .let q:=Rn T.ti b;ext1 q i z x;have c:t.slot (J5 t.mask (Ab t.mask h) k).j= .live i:=x;rw[bA c,(by rw[Gp];exact d3.ne_of_gt (d3.lt_succ _):(h+1==h)=c8),XN];have l:d≠0:=by clear f;rintro rfl;exact s b
    refine y (k+1) (d0 (d - 1) (cM f l) (by rw[show k+1+(d - 1)=k+d by exact Zt l];exact s)) λm u=>?_;rcases Ce m k with g|g
    .exact w m g
    .rw[show m=k by exact Nj u g];exact b
   .have c:t.slot (J5 t.mask (Ab t.mask h) k).j= .empty:=YN T.ti b;rw[Zs c];let n:(J5 t.mask (Ab t.mask h) k).dummy=b4:=(Uv t.mask h k).2.2;rw[n];exact v8 k rfl b w
 refine y0 (v (10*DZ t.mask) 0 (T.ends h 0) λm b=>(X7 _ b).elim) λK u g A=>v8 K ?_ g A;unfold G';have e:t.probe (λr=>h+1) h (t.probeStart h)=a0 (.empty (pj t.mask h K) b4):=u;rw[e];rfl
section
variable{prog:y9}{w:O7}{s:f8}
theorem eT(b:leaf d=a8)(a:V base c n s.heap d v):v.scannable=a8:=
 EV (P:=λd=>V base c n s.heap d v->v.scannable=a8) b (λi a=>d4 a λt e=>e▸rfl) (λl a=>d4 a λt e=>e▸rfl) a
theorem SV.elems:∀{ys:a7 b0}{es:a7 (d3×b8)},SV w base c n s.heap ys es->(∀y∈ys,leaf y=a8)->ElemsOf (X0 prog w) es:=by
 intro h
 induction h with
 |nil=>intro es q i;rw[show es=[] from q];exact λe j=>by cases j
 |cons y ys k=>
  intro i d f;ext T8 d e r q l g m;subst q;let a:=f y j5;intro o b;rcases D9 b with rfl|b
  .exact⟨(d0 (y5 y) (Ff a g) (by rw[He a];exact l)),eT a g⟩
  .exact k m (λz p=>f z (k8 _ p)) o b
theorem SV.find(g:leaf y=a8):∀{ys:a7 b0}{es:a7 (d3×b8)},SV w base c n s.heap ys es->(∀y∈ys,leaf y=a8)->((es.findIdx? λe=>(X0 prog w).is (y5 y) e.2).isSome=a8↔y∈ys)
 |[],es,q,_=>by rw[show es=[] from q];simp
 |z::ys,_,a,b=>by
  ext T8 a e r q l h i;subst q;have d:=b z j5;have j:(X0 prog w).is (y5 y) e.2=decide (y5 y=y5 z):=by rw[pK (Ff d h) (y5 y)]
  rw[JF,j];by_cases f:y5 y=y5 z
  .have m:y=z:=(Si g d).mp f;simp[f,m]
  .have m:y≠z:=λq=>f (by rw[q]);simp only[f,qC,Bv,Bz,MO,K5,m,false_or];exact SV.find g i λz k=>b z (k8 _ k)
theorem wC(ho:s.heap.get? a=a0 (Bh es ep t))(T:TT t es)(hS:SV w base c n s.heap ys es.toList)(hz:es.size<=63)(hv:V base c n s.heap y x)(hyt:leaf y=a8)(hys:∀z∈ys,leaf z=a8)(hq1:y∈ys->Q c8 s)
 (hq2:∀h' ys',y∉ys->Ah a s.heap h'->ys'.Perm (y::ys)->Dc w base c n h' a ys' t.led->Q a8 {s with heap:=h'}):
 b9 (d7 prog w) A (Wi a x (q8 w y) 100000) Q E s:=by
 have hsc:=eT hyt hv;let hel:=hS.elems (prog:=prog) hys;refine KS ho rfl T.ti.fits ?_;dsimp only;rw[byScan_of hsc (by unfold scanBound;exact Ca) hel];refine b5 (Iv ?_);rw[<-He (prog:=prog) (w:=w) hyt];refine b5 (wpAny_setScan_of (Ff hyt hv) ho rfl T.ti.fits hel ?_);let hfind:=SV.find (prog:=prog) hyt hS hys;cases hr:hZ (λe=>(X0 prog w).is (y5 y) e.2) es.toList with
 |some j=>rw[hr]at hfind;exact f6 (f6 (hq1 (hfind.mp rfl)))
 |none=>
  rw[hr]at hfind;have hm:y∉ys:=λh=>by cases hfind.mpr h
  rw[He (prog:=prog) (w:=w) hyt];refine y0 (sq T (q8 w y)) λK hfree hj hb=>?_;let zz:=cR (x:=x) T hj hb;ext1 zz P hled hsz hp;refine c9 (SV.perm (ys:=y::ys) hp ⟨_,_,rfl,rfl,hv,hS⟩) λys1 p1 hS1=>?_;let hlay:layNew t es (q8 w y) x=(U1 es (t.put (pj t.mask (q8 w y) K)).2 (q8 w y,x),(t.put (pj t.mask (q8 w y) K)).1,c8,c8):=by unfold layNew;rw[hfree];dsimp only;unfold p_;rw[P.ti.fits];rfl
  rw[hlay];generalize t.put (pj t.mask (q8 w y) K)=tp at P hled hsz hp hS1;clear hp;obtain⟨t1,p⟩:=tp;refine R8 ?_;let fin:∀b:b7,b9 (d7 prog w) A (do
   Vh a (U1 es p (q8 w y,x)) (if b=a8 then t1 else{t1 with plain:=false})
   if(!c8&&(if b=a8 then t1 else{t1 with plain:=false}).tooFull)=a8 then
    let r:=UU (if b=a8 then t1 else{t1 with plain:=false}) (U1 es p (q8 w y,x)) (JG (U1 es p (q8 w y,x)).size)
    (match r.2.2 with|true=>rule "set.scan.the-table-gave-way"|false=>pure ())
    Vh a r.1 r.2.1
   return a0 a8:M6 (j0 b7)) (λr s'=>b9 (d7 prog w) A (match r with
    |some added=>(pure added:M6 b7)
    |none=>Wi a x (q8 w y) 99999) Q E s') E s:=by
   intro b;let hP:PT (if b=a8 then t1 else{t1 with plain:=false}) (U1 es p (q8 w y,x)):=by
    cases b
    .exact P.plain c8
    .exact P
   let hl:(if b=a8 then t1 else{t1 with plain:=false}).led=t.led:=by clear hP;cases b<;>exact hled
   revert hP hl;refine gen (if b=a8 then t1 else{t1 with plain:=false}) λt2 hP hl=>?_;refine b5 (PK ho rfl ?_ (by rw[hsz,O3];exact Ca));let hsb:=Ba s.heap a (Jz (U1 es p (q8 w y,x)) t2);let hS2:=SV.ext (OJ ho hsb) hS1;let ho2:=OO (es':=U1 es p (q8 w y,x)) (t':=t2) ho;rcases hP.room (by rw[hsz];exact BJ ‹_›)with⟨hf,hT⟩|⟨hf,h1,t',order,h2,h3,h4,h5,h6,h7⟩
   .rw[hf];exact f6 (f6 (hq2 _ ys1 hm hsb p1 (BS _ _ t2 ho2 hT hS2 hl)))
   .rw[hf];let hrel:UU t2 (U1 es p (q8 w y,x)) (JG (U1 es p (q8 w y,x)).size)=(order.filterMap ((U1 es p (q8 w y,x))[·]?),t',c8):=by unfold UU;rw[h2];dsimp only;rw[h3,h4.ti.fits];rfl
    rw[hrel];refine R8 (c9 (SV.perm h6 hS2) λys2 p2 hS3=>b5 (PK (s:={s with heap:=_}) ho2 rfl ?_ (by rw[h5,hsz,O3];exact Ca)));let hsb2:=Ba (s.heap.update a (Jz (U1 es p (q8 w y,x)) t2)) a (Jz (order.filterMap ((U1 es p (q8 w y,x))[·]?)) t');exact f6 (f6 (hq2 _ ys2 hm (hsb.trans hsb2) (p2.trans p1) (BS _ _ t' (OO ho2) h4 (SV.ext (OJ ho2 hsb2) hS3) (by rw[h7,hl]))))
  refine Sh ?_ ?_
  .refine b5 ?_;rw[hashByValue_scannable 8 hsc];exact f6 (fin _)
  .exact R8 (fin a8)
end
theorem YK(h:G9 xs)(e:y∈xs)(hz:z∈xs):(leaf y=a8/\leaf z=a8)\/((∃c,y= .B c)/\∃c,z= .B c):=by exact Fe (P:=λd y z=>(leaf y=a8/\leaf z=a8)\/((∃c,y= .B c)/\∃c,z= .B c)) (h y e z hz) (λd d=>.inl ⟨rfl,rfl⟩) (λd d=>.inl ⟨rfl,rfl⟩) λd a b d=>.inr ⟨⟨a,rfl⟩,b,rfl⟩
structure Ek (l:a7 i7) (s s':f8):Prop where
 heap:∀b o,b∉l->s.heap.get? b=a0 o->s'.heap.get? b=a0 o
 gens:s'.gens=s.gens
 os:s'.os=s.os
theorem Ek.trans(x:Ek l s s')(y:Ek l s' s''):Ek l s s'':=⟨λb o a e=>y.heap b o a (x.heap b o a e),y.gens.trans x.gens,y.os.trans x.os⟩theorem Ek.of(x:Moved l (λa b=>b=a) s s')(h:∀b∈l,b∈l'):Ek l' s s':=⟨λb o c e=>x.heap b o (λq=>c (h b q)) e,x.gens,x.os⟩
theorem EW(h:G9 xs):∀z,z∈C9 xs↔z∈xs:=by
 induction xs with
 |nil=>intro z;exact Iff.rfl
 |cons x r c=>
  let c:=c (λa f b g=>h a (k8 _ f) b (k8 _ g):G9 r);intro z;rw[eB];by_cases d:r.any (l3 x)=a8
  .rw[g0 d,c z,K5];refine⟨.inr,?_⟩;rintro(rfl|i)
   .refine c9 (List.any_eq_true.mp d) λy j e=>?_;rw[W7 e];exact j
   .exact i
  .rw[j4 d,K5,K5,c z]
theorem GB(h:G9 xs):(C9 xs).Nodup:=by
 induction xs with
 |nil=>exact By
 |cons x r e=>
  have c:G9 r:=λa f b g=>h a (k8 _ f) b (k8 _ g);rw[eB];by_cases d:r.any (l3 x)=a8
  .rw[g0 d];exact e c
  .rw[j4 d,Az];refine⟨λi=>d ?_,e c⟩;exact List.any_eq_true.mpr (d0 x ((EW c x).mp i) (El (h x j5 x j5)))
theorem Vs.at:∀{e:a7 b0}{vs:a7 b8}{h:l5},Vs base c n h e vs->∀(i:a6)(v:b8),vs[i]?=a0 v->∃d,e[i]?=a0 d/\V base c n h d v:=by
 intro g
 induction g with
 |nil=>intro vs f q i v a;rw[show vs=[] from q]at a;simp at a
 |cons d e j=>
  intro f f b i v a;ext n4 b m r q k l;subst q;cases i with
  |zero=>simp at a;subst a;exact d0 d rfl k
  |succ i=>simpa using j l i v (by simpa using a)
theorem dz(K:A.units+6<t3)(j:G9 xs)(C:(C9 xs).length<64)(r:Dc w base c n s.heap a ys led)(G:ys.Nodup)(d:∀z∈ys,z∈xs)(p:y∈xs)(H:V base c n s.heap y x)
 (L:∀m o g b,Ah a s.heap m->(∀f e,s.heap.get? a≠a0 (x0 f e))->Dc w base c n m a g led->g.Nodup->(∀z,z∈g↔z=y\/z∈ys)->Q b {s with heap:=m,toks:=o}):
 b9 (d7 prog w) A (setAdd a x) Q E s:=by
 ext H9 r M W t D T F N;have u:∀f e,s.heap.get? a≠a0 (x0 f e):=λf e q=>by
  rw[D]at q;have Y:=t0 kP (C6 q);cases Y
 let l:=j y p y p;refine L0 (b5 (Lg 3 (gB K rfl) l H λo=>L0 ?_));haveI:DV b0:=λa b=>DO _
 let v:M.size<=63:=by let O:=F.len;rw[A2]at O;exact O▸b6 (V4 G λz k=>(EW j z).mpr (d z k)) (v0 C)
 have P:y∈ys->Q c8 {s with toks:=o}:=λI=>L s.heap o ys c8 (Px _ _) u (BS M W t D T F N) G λz=>⟨.inr,λh=>h.elim (λe=>e▸I) id⟩;have R:∀m g,y∉ys->Ah a s.heap m->g.Perm (y::ys)->Dc w base c n m a g t.led->Q a8 {s with heap:=m,toks:=o}:=λm g I X S r=>by
  rw[N]at r;refine L m o g a8 X u r (S.nodup_iff.mpr (List.nodup_cons.mpr ⟨I,G⟩)) λz=>?_;rw[S.mem_iff,K5]
 by_cases i:leaf y=a8
 .have J:∀z∈ys,leaf z=a8:=λz k=>by
   rcases YK j p (d z k)with h|⟨⟨U,rfl⟩,_⟩
   .exact h.2
   .exact no i
  exact wC (s:={s with toks:=o}) D T F v H i J P R
 .have B:∀z∈xs,∃U,z= .B U:=λz k=>by
   rcases YK j p k with h|h
   .exact(i h.1).elim
   .exact h.2
  exact rV (s:={s with toks:=o}) K D T F v H (B y p) (λz k=>B z (d z k)) (λz k=>j z (d z k) y p) l (λz k=>j z (d z k) z (d z k)) P R
theorem ez{R:Mu->f8->Prop}{I l S:i7}{items:l4 b8}(hh:A.handled=b4)(hu:A.units+8<t3)(x:l≠I)(g:S≠I)(J:S≠l)(hom:G9 xs)(M:(C9 xs).length<64)(hxi:xs.length=items.size):
 ∀(k i:a6)(s:f8)(ys:a7 b0),items.size - i=k->i<=items.size->s.heap.IsListIter I l i->s.heap.IsList l items->Vs base c n s.heap xs items.toList->Dc w base c n s.heap S ys led->ys.Nodup->(∀z,z∈ys↔z∈xs.take i)->
  (∀h j,Ek [S,I] s h->Dc w base c n h.heap S j led->j.Nodup->(∀z,z∈j↔z∈xs)->R (.ok (.ret .none)) h)->
  BI (d7 prog w) A (.builtin "set.update.loop" ⟨[.ref S,.ref I],[]⟩) R s:=by
 let W:=(VA (prog:=prog) (w:=w) (A:=A.in1) (by simpa using hh) I l x items).toS;intro k
 induction k with
 |zero=>intro i s ys E X f Y y r Z U D;have hin:i=items.size:=AL X (Va E);clear E X;subst hin;refine Dg nI ?_;rw[DN We _];refine b5 (W.done s _ _ ⟨f,Y⟩ λh a=>f6 (D h ys (Ek.of a (by simp)) ?_ Z λz=>by rw[U z,<-hxi,X6]));ext H9 r es ep t ho T r B;refine BS es ep t (a.heap S _ (by simpa using g) ho) T (SV.ext (λb items e V q=>a.heap b _ (λu=>?_) q) r) B;simp only[o9]at u;clear x g W D a;subst u;ext y0 f o G H V;rw[q]at G;rw[<-C6 G]at H;exact u6 (qL H) (by decide)
 |succ k ih=>
  intro i s ys E X f Y y r Z U D;have K:i<items.size:=LL (E▸M7 _);refine Dg nI ?_;rw[DN We _];refine b5 (W.item i s _ _ K ⟨f,Y⟩ λv h hP p a=>c9 (Vs.at y i v (by rw[W6];exact hP)) λd hd hvd=>?_);have kp:∀b items e,¬c.P b->s.heap.get? b=a0 (x0 items e)->h.heap.get? b=a0 (x0 items e):=λb items e V q=>a.heap b _ (λu=>by
   simp only[o9]at u;clear x g W ih D p a;subst u;ext y0 f o G H V;rw[q]at G;rw[<-C6 G]at H;exact u6 (qL H) (by decide)) q
  let L:Dc w base c n h.heap S ys led:=by ext H9 r es ep t ho T r B;exact BS es ep t (a.heap S _ (by simpa using g) ho) T (SV.ext kp r) B
  refine b5 (L0 (dz (m9 ‹_›) hom M L Z (λz hz=>Ml ((U z).mp hz)) (p8 hd) (Cb kp hvd) λh' tk j b m hnt hA hn' hm'=>?_));let kp2:∀b items e,¬c.P b->h.heap.get? b=a0 (x0 items e)->h'.get? b=a0 (x0 items e):=λb items e V q=>by
   rewrite[m.2 b λe=>?_];exact q;clear g J ih r D L m hA;subst e;exact hnt _ _ q
  refine f6 ⟨Di We _,ih (i+1) _ j (rE E) K ?_ ?_ ?_ hA hn' (λz=>?_) λs'' N C O P Q=>?_⟩
  .exact p.1.at λo e=>by rw[m.2 I (C8 g)];exact e
  .exact p.2.at λo e=>by rw[m.2 l (C8 J)];exact e
  .exact Z0 kp2 (Z0 kp y)
  .rw[hm' z,U z,(by rw[Af,hd];rfl:xs.take (i+1)=xs.take i++[d]),Gr,o9];exact or_comm
  .refine D s'' N ?_ O P Q;have hk2:Ek [S,I] h {h with heap:=h',toks:=tk}:=⟨λb o u e=>?_,rfl,rfl⟩;exact(Ek.of a (by simp)).trans (hk2.trans C);rw[m.2 b λq=>u (by rw[q];simp)];exact e
def BQ(w:O7):b7:=!w.params.followText "set-order"
abbrev FW(led:b7):V8:=Bh #[] 0 (.fresh 0 0 led)theorem bm(led:b7):TT (.fresh 0 0 led) #[]:=⟨⟨Gu,rfl,rfl,F9 _⟩,.inl rfl,(by refine(?_:0*5<7*3);decide),(λj a=>by cases a),(λi e j b c=>by simp at b)⟩
theorem tI(a:b8)(h:Q₁ (.ref s.heap.objs.size) {s with heap:=s.heap.push (FW (BQ w))}):
 BI (d7 prog w) A (.call (.builtin "set.__new__") ⟨[.type "set",a],[]⟩) (wants Q₁ E) s:=by
 refine MG (b5 (JY (zd a) (f6 ⟨Di oJ _,Dg xm ?_⟩)));rw[DN oJ _];let b:=sub_set_self;unfold Builtin.«set.__new__» c_;obtain⟨c,g,d,e,f⟩:=s
 wp_walk
 exact Qr (f6 (b5 (kQ (f6 (f6 h)))))
set_option maxHeartbeats 3200000 in
theorem gx(hh:A.handled=b4)(hu:A.units+20<t3)(ho:s.heap.get? l=a0 (AN items e))(hvs:Vs base c n s.heap xs items.toList)(hom:G9 xs)(hlen:(C9 xs).length<64)
 (hq:∀s' ys,(∀b o,s.heap.get? b=a0 o->s'.heap.get? b=a0 o)->s'.gens=s.gens->s'.os=s.os->Dc w base c n s'.heap s.heap.objs.size ys (BQ w)->ys.Nodup->(∀z,z∈ys↔z∈xs)->Q (.ref s.heap.objs.size) s'):
 b9 (d7 prog w) A (call (.type "set") [.ref l]) Q E s:=by
 refine R9 PySem.F.called_set.mro λcm tl hmro=>?_;let hmade:=PySem.F.called_set.made;let hsub:=PySem.F.called_set.sub;refine VD (MG (f6 ⟨UQ _ (by decide+kernel),Dg ze ?_⟩));rw[B7.under_plain (weight_type_call_type "set" [.ref l] []) rfl];let h1:=PySem.F.called_set.notType;let h2:=PySem.F.called_set.canCreate;let hct:=f_ (.ref l)
 repeat(any_goals(first|assumption|wp_step))
 refine JA (tI (.ref l) (E:=E) (Q₁:=λobj s₁=>obj= .ref s.heap.objs.size/\s₁={s with heap:=s.heap.push (FW (BQ w))}) ⟨rfl,rfl⟩) λr s₁ hr=>?_;cases r with
 |error e=>exact hr
 |ok fl=>
  cases fl with
  |ret obj=>
   ext k9 hr rfl rfl;let hS:(s.heap.push (FW (BQ w))).get? s.heap.objs.size=a0 (FW (BQ w)):=A0 _ rfl;let hT:EL {s with heap:=s.heap.push (FW (BQ w))} (.ref s.heap.objs.size) "set":=d0 _ hS rfl;have hli:=PySem.F.called_set.init.lookup;have hbi:=PySem.F.called_set.init.bind (.ref s.heap.objs.size)
   repeat(any_goals(first|assumption|wp_step))
   refine JA (codeAny_call_builtin (R:=wants (λr s₂=>r= .none/\Q (.ref s.heap.objs.size) s₂) E) PySem.F.called_set.init.plain yo (check_set_init_1 hT ?_)) λr₂ s₂ hr₂=>?_
   .let hol:=A9 _ ho;let hsls:=U';let hslf:=G_;let hne:(VX "list"==VX "dict")=c8:=by decide
    let hl1:(s.heap.push (FW (BQ w))).IsList l items:=⟨_,hol,rfl,e,rfl⟩;unfold Builtin.«set.__init__» noKeywords m_;generalize hPI:DW=PI
    wp_walk
    subst hPI;refine Mx hl1 (b5 (jY ?_));let hlS:=C2 ho;let z1:=J6 ..;let hneI:l≠(s.heap.push (FW (BQ w))).objs.size:=by rw[z1];exact m6 (BM hlS)
    let hSI:s.heap.objs.size≠(s.heap.push (FW (BQ w))).objs.size:=by rw[z1];exact m6 (B8 _)
    let hxi:xs.length=items.size:=by rw[<-A2];exact(Vs.length hvs).symm
    refine ez (led:=BQ w) (xs:=xs) (base:=base) (c:=c) (n:=n) (items:=items) (l:=l) (by simpa using hh) ?_ hneI hSI (K0 hlS) hom hlen hxi items.size 0 _ [] rfl (F9 _)
     (v8 _ (A0 _ rfl) rfl rfl) (hl1.push _) ?_ (BS _ _ _ (A9 _ hS) (bm _) rfl rfl) By (λz=>by trivial) λs' ys' hk hA hn hm=>?_
    .exact(gL hu rfl:A.units+1+1+8<t3)
    .exact Z0 (λb items e w0 q=>A9 _ (A9 _ q)) hvs
    .refine(f6 ?_:b9 _ _ _ _ _ _);refine f6 ⟨rfl,hq s' ys' (λb o q=>?_) hk.gens hk.os hA hn hm⟩;let hb:=C2 q;refine hk.heap b o ?_ (A9 _ (A9 _ q));simp only[K5,J7,X4,Mh];refine⟨m6 hb,?_⟩;rw[z1];exact m6 (BM hb)
   .cases r₂ with
    |error e=>exact hr₂
    |ok fl₂=>
     cases fl₂ with
     |ret r=>
      ext k9 hr₂ rfl hq'
      repeat(any_goals(first|assumption|wp_step))
     |_=>exact hr₂.elim
  |_=>exact hr.elim
theorem Ng:Slot "set_iterator" "__next__" "set_iterator.__next__":=
 .of (owner:="set_iterator") (n:="__next__") (by rw[Gh,HP];kernel_rfl) (by decide+kernel) (by decide+kernel) (by decide+kernel)
  (by first|exact .inl (by decide+kernel)|exact .inr (by decide+kernel)) (by rw[Mt];kernel_rfl)theorem cu:JZ table "set_iterator.__next__"=a0 Builtin.«set_iterator.__next__»:=Vu (by kernel_rfl)theorem yJ(a:b8):Pi "set_iterator.__next__" ⟨[a],[]⟩:=by unfold Pi;kernel_rfl
theorem tX:JZ table "set.__iter__"=a0 Builtin.«frozenset.__iter__»:=
 Vq (id':="frozenset.__iter__") (by kernel_rfl) rfl (by decide+kernel) (by kernel_rfl)
theorem Zq{α:Type}:∀{l:a7 α}{i:a6}{x:α},l[i]?=a0 x->(x::l.eraseIdx i).Perm l:=by
 intro b
 induction b with
 |nil=>intro c c h;simp at h
 |cons y l d=>
  intro a;cases a with
  |zero=>intro x h;simp at h;subst h;exact kY _
  |succ i=>intro x h;exact(mQ _ _ _).trans ((d (by simpa using h:l[i]?=a0 x)).cons y)
theorem ip{α:Type}(a:a6->a6):∀(b k:a6)(left:a7 α)(c:l4 α),left.length<=b->(iF a b k left c).toList.Perm (c.toList++left):=by
 intro g
 induction g with
 |zero=>intro k left c h;have l:left=[]:=List.length_eq_zero_iff.mp (Nat.le_zero.mp h);clear h;subst l;refine(?_:c.toList.Perm _);rw[Y5]
 |succ b i=>
  intro k left c h
  conv in iF _ _ _ _ _=>whnf
  cases d:left[a k % left.length]? with
  |none=>
   dsimp only;have e:left.length<=a k % left.length:=List.getElem?_eq_none_iff.mp d;have l:left=[]:=by
    clear h d;cases left with
    |nil=>rfl
    |cons y r=>have l:=LZ (a k) (show 0<(y::r).length from WE _);exact(Ke l e).elim
   clear h d e;subst l;rw[Y5]
  |some x=>
   have f:=Zq d;have j:(left.eraseIdx (a k % left.length)).length<=b:=by have l:=f.length_eq;rw[N6]at l;exact mB (b6 (A5 l) h)
   refine(i (k+1) _ (c.push x) j).trans ?_;rw[Js,Eb];exact yr _ f
theorem jg{α:Type}(a:a6->a6)(xs:l4 α):(Vo a xs).toList.Perm xs.toList:=by let b:=ip a xs.size 0 xs.toList #[] (by simp);simpa[Vo]using b
theorem eu(a:k≠0)(h:∀i d,i<k->Q i {s with drawn:=d}):b9 M A (choose src k) Q E s:=λb b b=>⟨a,h _ _ (LZ _ (MC a))⟩
theorem yG{α:Type}:∀(k:a6)(xs:a7 α)(s:f8){Q:a7 α->f8->Prop},xs.length=k->(∀c d,c.Perm xs->Q c {s with drawn:=d})->b9 M A (drawOrder k xs) Q E s:=by
 intro j
 induction j with
 |zero=>intro xs s Q b h;let a:=List.length_eq_zero_iff.mp b;clear b;subst a;exact f6 (h [] s.drawn .nil)
 |succ k l=>
  intro e;cases e with
  |nil=>intro s Q b h;simp at b
  |cons x r=>
   intro s Q b h;refine b5 (eu (by rw[b];exact a6.succ_ne_zero _) λi d m=>?_);let f:=v5 m;rw[f];let g:=Zq f;let n:((x::r).eraseIdx i).length=k:=by let a:=g.length_eq;rw[N6]at a;exact Aw (a.trans b)
   exact b5 (l _ _ n λc o p=>f6 (h _ o ((p.cons _).trans g)))theorem NF(h:Q (w.params.followText "set-order") s):b9 (d7 prog w) A setsByText Q E s:=by exact b5 (Qr (f6 h))
end Internal
set_option backward.match.sparseCases true
namespace Internal
open PySem PySem.W PyProof.Rows
abbrev FC(first:b8)(i:a6)(a:i7)(n ep:a6):V8:={cls:=.type "set_iterator",dict:=b4,data:=.fields #[first,.int i 0,.ref a,.int n 0,.int ep 0],slots:=#[]}def dU(w:O7)(es:l4 (d3×b8))(ep:a6)(a:i7)(ps:a7 (d3×b8)):Prop:=w.params.followText "set-order"=a8/\ps=(Vo (w.params.setOrder a ep) es).toList
def fC(w:O7)(es:l4 (d3×b8))(t:AC)(ps:a7 (d3×b8)):Prop:=w.params.followText "set-order"=c8/\(!t.plain&&decide (es.size>1))=c8/\t.led=a8/\ps=es.toList
theorem Xp(c:s.heap.get? a=a0 (Bh es ep t))(T:TT t es)(h:dU w es ep a ps)(i b:a6)(d:Q ((ps[i]?).map λe=>(e.2,b)) s):b9 (d7 prog w) A (WJ a b i ep) Q E s:=by ext1 h f rfl;refine b5 (Fp c rfl T.ti.fits ?_);dsimp only;refine b5 (NF ?_);rw[f];refine Fb rfl (Y3 (by simp) (b5 (b5 (Fp c rfl T.ti.fits (b5 (NF ?_))))));rw[f];refine b5 (Qr (f6 (f6 ?_)));rw[W6]at d;exact d
theorem eE(m:s.heap.get? a=a0 (Bh es ep t))(T:TT t es)(h:fC w es t ps)(i:a6)(b:a6)(hs:Bx t.place b=i)(c:∀e j,ps[i]?=a0 e->t.place[i]?=a0 j->Q (a0 (e.2,j+1)) s)(d:ps[i]?=b4->Q b4 s):
 b9 (d7 prog w) A (WJ a b i ep) Q E s:=by
 ext1 h n o p rfl;refine b5 (Fp m rfl T.ti.fits ?_);dsimp only;refine b5 (NF ?_);rw[n];refine(?_:b9 _ _ (if(!t.plain&&decide (es.size>1))=a8 then _ else _) _ _ _);rw[o];refine b5 ((?_:b9 _ _ (if(!t.led&&!es.isEmpty)=a8 then _ else _) _ _ _));rw[p];refine f6 ?_;rw[hs];rw[W6]at c d;cases f:es[i]? with
 |none=>exact f6 (d f)
 |some e=>let g:=Se f;ext1 g k q;obtain⟨j,l⟩:∃j,t.place[i]?=a0 j:=⟨_,Ea (by rw[T.ti.size];exact k)⟩;rw[l];exact f6 (c e j f l)theorem nr(b:s.heap.get? a=a0 (Bh es ep t))(T:TT t es)(c:es[p]?=a0 e)(d:Q e.2 s):b9 (d7 prog w) A (oP a p ep) Q E s:=by refine b5 (Fp b rfl T.ti.fits (Y3 (by simp) ?_));rw[c];exact f6 d
theorem Om(c:s.heap.get? it=a0 (FC (.int slot u) i a es.size ep))(f:s.heap.get? a=a0 (Bh es ep t))(T:TT t es)
 (h:b9 (d7 prog w) A (WJ a slot.toNat (i:d3).toNat (ep:d3).toNat>>=λr=>match r with
  |some (x,b)=>Gc (.ref it) 0 (G7 b)>>=λd=>Gc (.ref it) 1 (G7 (i+1))>>=λd=>ret x
  |none=>Gc (.ref it) 2 .none>>=λd=>PG (.type "StopIteration") []>>=λe=>PX e) R E' s):
 b9 (d7 prog w) A (Builtin.«set_iterator.__next__» ⟨[.ref it],[]⟩) R E' s:=by
 refine b5 (f6 (b5 (iH c rfl ?_)));dsimp only;exact b5 (b5 (Fp f rfl T.ti.fits (f6 (Y3 (by simp) h))))
theorem fU(c:s.heap.get? it=a0 (FC (.ref p) i a es.size ep))(f:s.heap.get? a=a0 (Bh es ep t))(T:TT t es)(g:s.heap.get? p=a0 (x0 places e))
 (h:b9 (d7 prog w) A (match places[(i:d3).toNat]? with
  |some (.int b _)=>oP a b.toNat (ep:d3).toNat>>=λx=>Gc (.ref it) 1 (G7 (i+1))>>=λd=>ret x
  |some _=>unsupported "internal:set_iterator"
  |none=>Gc (.ref it) 0 (G7 0)>>=λd=>Gc (.ref it) 2 .none>>=λd=>PG (.type "StopIteration") []>>=λe=>PX e) R E' s):
 b9 (d7 prog w) A (Builtin.«set_iterator.__next__» ⟨[.ref it],[]⟩) R E' s:=by
 refine b5 (f6 (b5 (iH c rfl ?_)));dsimp only;exact b5 (b5 (Fp f rfl T.ti.fits (f6 (Y3 (by simp) (b5 (Cg g rfl h))))))
theorem ZA(c:s.TypeIs (.ref it) "set_iterator")
 (h:b9 (d7 prog w) A.in1 (Builtin.«set_iterator.__next__» ⟨[.ref it],[]⟩) (λb a=>∃r,b= .done (.ret r)/\Q (a0 r) a) (λe a=>b9 (d7 prog w) A (do if<-Pb e (.type "StopIteration")then pure b4 else throw e) Q E a) s):
 b9 (d7 prog w) A (Gv (.ref it)) Q E s:=by
 refine b5 (jI (HS (name:=Cd "__next__") c Ng
  (Aj Ng c cu ?_ (yJ _))))
 refine v6 h ?_ ?_
 .rintro b a d;ext c9 d r rfl f;exact d0 r rfl (f6 f)
 .intro e a g;exact g
end Internal
set_option backward.match.sparseCases false
namespace Internal
open PySem PySem.W PyProof.Rows
theorem XK:Slot "set_iterator" "__iter__" "set_iterator.__iter__":=
 .of (owner:="set_iterator") (n:="__iter__") (by rw[Gh,HP];kernel_rfl) (by decide+kernel) (by decide+kernel) (by decide+kernel)
  (by first|exact .inl (by decide+kernel)|exact .inr (by decide+kernel)) (by rw[Mt];kernel_rfl)
theorem rK:JZ table "set_iterator.__iter__"=a0 Builtin.«dict_keyiterator.__iter__»:=
 Vq (id':="dict_keyiterator.__iter__") (by kernel_rfl) rfl (by decide+kernel) (by kernel_rfl)theorem sr(a:b8):Pi "set_iterator.__iter__" ⟨[a],[]⟩:=by unfold Pi;kernel_rfl
def xa(w:O7)(h:l5)(es:l4 (d3×b8))(p:i7)(ps:a7 (d3×b8)):Prop:=
 ∃(order:a7 a6)(e:a6),h.get? p=a0 (x0 (order.map λ(i:a6)=>G7 i).toArray e)/\(∀j∈order,j<es.size)/\ps=order.map λj=>(es[j]?).getD (0,.none)
def Md(w:O7)(h:l5)(es:l4 (d3×b8))(ep:a6)(t:AC)(a p:i7)(ps:a7 (d3×b8))(first:b8)(i:a6):Prop:=
 (∃sl:a6,first=G7 sl/\dU w es ep a ps)\/(∃sl:a6,first=G7 sl/\fC w es t ps/\Bx t.place sl=i)\/(first= .ref p/\xa w h es p ps)
def bD(w:O7)(es:l4 (d3×b8))(ep:a6)(t:AC)(it a p:i7)(ps:a7 (d3×b8))(i:a6)(s:f8):Prop:=
 ∃first,s.heap.get? it=a0 (FC first i a es.size ep)/\s.heap.get? a=a0 (Bh es ep t)/\Md w s.heap es ep t a p ps first i
theorem Td{R:Fin->f8->Prop}{Q:j0 b8->f8->Prop}(f:A.handled=b4)(c:s.heap.get? it=a0 {cls:=cls,dict:=b4,data:=.fields vs,slots:=#[]})(g:2<vs.size)
 (h:∀d,Mc it s.heap d->Q b4 {s with heap:=d}):
 b9 (d7 prog w) A.in1 (Gc (.ref it) 2 .none>>=λj=>PG (.type "StopIteration") []>>=λe=>PX e) R
  (λe i=>b9 (d7 prog w) A (do if<-Pb e (.type "StopIteration")then pure b4 else throw e) Q E i) s:=by
 refine b5 (Wu c rfl g ?_);refine b5 ?_;refine b5 (Fn ?_ (by size_fits));refine b5 (m:=Qh _ _) (JY (a:=Hq) (by first|rfl|(simp only[Qh];rfl)) ?_);refine Fn ?_ (by size_fits);refine b5 (jV ?_);rw[show A.in1.handled=b4 from f];refine b5 (f6 (lB ?_));refine b5 (JL (T:="StopIteration") (b:=true) (d0 _ (A0 _ rfl) rfl) iW ?_);exact f6 (h _ (((Ba ..).extBut.push _).push _))
theorem ql(N:A.handled=b4)(T:TT t es)(W:a≠it)(X:p≠it)(l:ps.length=es.size):
 WalksS prog w A it [it,a,p] [it] (λx y=>y=x) es.size (λi v=>∃e,ps[i]?=a0 e/\v=e.2) (bD w es ep t it a p ps) where
 sub:=λb F=>by simp at F;simp[F]
 grefl:=λI=>rfl
 gtrans:=λI I I f g=>g.trans f
 frame:=λi s h tk⟨first,f,g,d⟩_ O=>by
  refine v8 first (O it j5 _ f) (O a (k8 _ j5) _ g) ?_;rcases d with d|d|⟨d,c,e,B,J⟩
  .exact .inl d
  .exact .inr (.inl d)
  .exact .inr (.inr ⟨d,c,e,O p (k8 _ (k8 _ j5)) _ B,J⟩)
 self:=λi s Q E P K=>y0 P λfirst f g d=>by
  let R:s.TypeIs (.ref it) "set_iterator":=d0 _ f rfl;refine VH R XK (Aj XK R rK ?_ (sr _));exact f6 ⟨_,rfl,"set_iterator",_,R,Ng.lookup,K⟩
 done:=λs Q E P K=>y0 P λfirst f g d=>by
  have M:ps[es.size]?=b4:=Au (A5 l);have z:∀h,Mc it s.heap h->Q b4 {s with heap:=h}:=λh r=>K _ ⟨λb o F e=>r b o (λq=>F (by simp[q])) e,rfl,rfl,rfl,l8 _⟩;refine ZA (d0 _ f rfl) ?_;rcases d with⟨L,rfl,d⟩|⟨L,rfl,d,B⟩|⟨rfl,c,e,B,J,rfl⟩
  .refine Om f g T (b5 (Xp g T d _ _ ?_));simp only[Q7,M];exact Td N f (by simp) z
  .refine Om f g T (b5 (eE g T d _ _ (by rw[Q7,Q7];exact B) (λe j r I=>?_) λI=>?_))
   .rw[Q7,M]at r;cases r
   .exact Td N f (by simp) z
  .refine fU f g T B ?_;have S:((c.map λ(i:a6)=>G7 i).toArray)[((es.size:a6):d3).toNat]?=b4:=by rw[Q7,VR,Au];rw[f7]at l ⊢;exact A5 ‹_›
   rw[S];exact b5 (HN f (M7 _) λh r C=>Td (s:={s with heap:=h}) N r (by simp) λu k=>z u (C.extBut.trans k))
 item:=λi s Q E Z⟨first,f,g,d⟩K=>by
  obtain⟨e,r⟩:=(⟨_,v5 (Cz Z l)⟩:∃e,ps[i]?=a0 e);refine ZA (d0 _ f rfl) ?_;have U:∀(first:b8)(h:l5),h.get? it=a0 (FC first (i+1) a es.size ep)->Ah it s.heap h->Md w h es ep t a p ps first (i+1)->Q (a0 e.2) {s with heap:=h}:=λfirst h q1 q2 q3=>K e.2 _ (d0 e r rfl) (v8 first q1 (by rw[q2.2 a W];exact g) q3) ⟨λb o F q=>by rw[q2.2 b λx=>F (by simp[x])];exact q,rfl,rfl,rfl,l8 _⟩
  let n:(G7 ((i:d3)+1))= .int ((i+1:a6):d3) 0:=by simp[G7]
  rcases d with⟨L,rfl,d⟩|⟨L,rfl,d,B⟩|⟨rfl,c,e',B,J,V⟩
  .refine Om f g T (b5 (Xp g T d _ _ ?_));simp only[Q7,r,Ax];refine b5 (HN f (M7 _) λh k C=>b5 (HN (s:={s with heap:=h}) k (by simp) λu m D=>?_));rw[n]at m;exact f6 (d0 _ rfl (U (G7 L) u (by simpa[FC]using m) (C.trans D) (.inl (d0 L rfl d))))
  .refine Om f g T (b5 (eE g T d _ _ (by rw[Q7,Q7];exact B) (λe1 j G H=>?_) λG=>?_))
   .rw[Q7]at G H;rw[r]at G;cases G;refine b5 (HN f (M7 _) λh k C=>b5 (HN (s:={s with heap:=h}) k (by simp) λu m D=>?_));rw[n]at m;exact f6 (d0 _ rfl (U (G7 ((j+1:a6):d3)) u (by simpa[FC]using m) (C.trans D) (.inr (.inl (v8 (j+1) rfl d (zA T.ti.rise H))))))
   .rw[Q7,r]at G;cases G
  .refine fU f g T B ?_;obtain⟨j,H⟩:∃j,c[i]?=a0 j:=by rw[V,f7]at l;exact⟨_,v5 (Cz Z l)⟩
   have S:((c.map λ(i:a6)=>G7 i).toArray)[((i:a6):d3).toNat]?=a0 (.int j 0):=by rw[Q7,VR,o7,H];rfl
   rw[S];have Y:es[j]?=a0 e:=by rw[V,o7,H,Ax]at r;rw[Ea (J j (p8 H))]at r ⊢;simpa using r
   refine b5 (nr g T (by rw[Q7];exact Y) (b5 (HN f (by simp) λh k C=>?_)));rw[n]at k;exact f6 (d0 _ rfl (U (.ref p) h (by simpa[FC]using k) C (.inr (.inr ⟨rfl,c,e',by rw[C.2 p X];exact B,J,V⟩))))
theorem sT(k:s.heap.get? a=a0 (Bh es ep t))(T:TT t es)(H:t.led=BQ w)(hz:es.size<=64)
 (I:∀o p first b d ps,Ext s.heap b->s.heap.objs.size<=o->p≠o->p<b.objs.size->(p=a\/s.heap.objs.size<=p)->b.get? o=a0 (FC first 0 a es.size ep)->Md w b es ep t a p ps first 0->ps.Perm es.toList->Q (.ref o) {s with heap:=b,drawn:=d}):
 b9 (d7 prog w) A (DW (.ref a)) Q E s:=by
 let C:s.TypeIs (.ref a) "set":=d0 _ k rfl;let m:=C2 k;refine VH C nJ (Aj nJ C tX ?_ (zv _));unfold Builtin.«frozenset.__iter__» r_ slotArgs;simp only[a7.isEmpty_nil,b7.not_true,Bv,↓reduceIte,lA,AI,mY];refine b5 (f6 ?_)
 try dsimp only
 refine b5 (f6 ?_)
 try dsimp only
 refine b5 (b5 (wpAny_setEntries_of k rfl T.ti.fits (f6 (b5 (b5 (Fp k rfl T.ti.fits (b5 (NF (f6 ?_)))))))));have c:∀(first:b8)(h:l5)(p:i7)(ps:a7 (d3×b8))(d:Drawn),Ext s.heap h->p<h.objs.size->(p=a\/s.heap.objs.size<=p)->ps.Perm es.toList->(∀b,Ext h b->Md w b es ep t a p ps first 0)->
  b9 (d7 prog w) A.in1 (setEpoch a>>=λe=>newFields "set_iterator" [first,G7 0,.ref a,G7 es.size,G7 e]>>=λv=>ret v) (λc D=>∃v,c= .done (.ret v)/\∃F r,D.TypeIs v F/\Ci (.type F) (Cd "__next__")=pure (a0 r)/\Q v D) E {s with heap:=h,drawn:=d}:=by
  intro first h p ps d l g y z J
  refine b5 (wpAny_setEpoch_of (s:={s with heap:=h,drawn:=d}) (l.2 _ _ k) rfl T.ti.fits (b5 ?_));refine Fn (f6 ⟨_,rfl,"set_iterator",_,(d0 _ (A0 _ rfl) rfl),Ng.lookup,?_⟩)
   (by simp only[sizeOk,Me,N6,AI,O3];exact K9 _ _)
  refine I _ p first _ d ps (l.trans (Ext.push _ _)) l.1 (m6 g) ?_ y ?_ (J _ (Ext.push _ _)) z
  .refine(?_:p<(h.push _).objs.size);rw[J6];exact BM g
  .exact A0 _ rfl
 cases q:w.params.followText "set-order" with
 |true=>exact c (G7 0) s.heap a _ s.drawn (Ext.refl _) m (.inl rfl) (jg _ _) λb u=>.inl ⟨0,rfl,q,rfl⟩
 |false=>
  by_cases x:(!t.plain&&decide (es.size>1))=a8
  .refine MK (λu=>?_) λK=>(K x).elim;refine b5 (yG _ _ _ (by simp) λf d g=>b5 (Qi ?_ (by rw[f7,g.length_eq,Bw,O3];exact p6)));refine c _ _ s.heap.objs.size (f.map λj=>(es[j]?).getD (0,.none)) d (Ext.push _ _) (by rw[J6];exact B8 _) (.inr (l8 _)) ?_ λb l=>?_
   .refine(g.map _).trans ?_;let n:(p0 es.size).map (λj=>(es[j]?).getD (0,Hq))=es.toList:=by
     apply Gk;intro i;rw[o7];by_cases G:i<es.size
     .rw[JX G];simp[G]
     .rw[Au (by simp;exact Bq ‹_›),Au (by simp;exact Bq ‹_›)];rfl
    rw[n]
   .refine .inr (.inr ⟨rfl,f,_,l.2 _ _ (A0 _ rfl),λj L=>?_,rfl⟩);exact U8 (g.mem_iff.mp L)
  .refine MK (λM=>(x M).elim) λu=>b5 (f6 ?_);let B:(!t.plain&&decide (es.size>1))=c8:=by
    cases h:(!t.plain&&decide (es.size>1))with
    |true=>exact(x h).elim
    |false=>rfl
   exact c (G7 0) s.heap a _ s.drawn (Ext.refl _) m (.inl rfl) (kY _) λb u=>.inr (.inl (v8 0 rfl (M4 q B (by rw[H];unfold BQ;rw[q];rfl) rfl) (eb T.ti.rise)))
theorem wF(d:s.TypeIs (.ref a) "set")(h:Q c8 s):b9 (d7 prog w) A (zc (.ref a)) Q E s:=by
 refine b5 (HH d PySem.F.slot_set_len.lookup ?_);generalize e:"set.__len__"=g
 wp_delta
 subst e;refine b5 (JL (T:="set") (b:=true) d (by rw[Mt];kernel_rfl) (MK (λc=>u6 c (by decide)) λf=>MK (λf=>?_) λc=>(c (by decide+kernel)).elim));exact b5 (HI d (f6 h))
end Internal
set_option backward.match.sparseCases true
namespace Internal
open PySem PySem.W PyProof.Rows
section
variable{prog:y9}{w:O7}{A:B7}{E:qVS}{base:l5}{c:Cx}{n:a6}{s:f8}{a:i7}{ys:a7 b0}
theorem ll(hh:A.handled=b4)(hA:Dc w base c n s.heap a ys (BQ w))(hz:ys.length<=64){Q:a7 b8->f8->Prop}
 (hq:∀s' vs u,u.Perm ys->Vs base c n s'.heap u vs->Ext s.heap s'.heap->s'.gens=s.gens->s'.os=s.os->Q vs s'):b9 (d7 prog w) A (collect (.ref a)) Q E s:=by
 refine W5 ?_;ext H9 hA C ep t ho T hS hl;have O:C.size=ys.length:=by rw[<-A2];exact hS.len
 let P:=C2 ho;refine b5 (jY (Dg entry_proto_collect' ?_));rw[DN N_ _];refine(b5 (Fn ?_):b9 _ A.in1 (newList []>>=λl=>again (.builtin "list.__iadd__" ⟨[l,.ref a],[]⟩)) _ _ s);refine f6 ⟨Di mH _,Dg entry_list_iadd' ?_⟩;rw[DN mH _];let h:(s.heap.push {cls:=.type "list",data:=.seq [].toArray}).get? s.heap.objs.size=a0 {cls:=.type "list",dict:=b4,data:=.seq #[] 0,slots:=#[]}:=A0 _ rfl;let g:=A9 _ ho;let z0:=J6 ..;let S:=Ext.push _ _;generalize s.heap.push {cls:=.type "list",data:=.seq [].toArray}=h0 at h g z0 S;refine(?_:b9 _ A.in1 (s_ (.ref s.heap.objs.size) (.ref a) (.ref s.heap.objs.size)) _ _ _);let x:=K0 P;refine b5 (HI ((d0 _ g rfl):EL {s with heap:=h0} (.ref a) "set") (Y3 (by rw[(by simp[kR,x]:kR (.ref s.heap.objs.size) (.ref a)=c8)];decide) (b5 (sT (s:={s with heap:=h0}) g T hl (gH O hz rfl) λM p first h' d K D hit hpit hp H hio F U=>b5 (L0 (wF ((d0 _ (D.2 _ _ g) rfl):EL {s with heap:=h',drawn:=d} (.ref a) "set") ?_))))));let q0:s.heap.objs.size+1<=M:=by rw[<-z0];exact hit
 let V:=m6 (Qk q0);have z:K.length=C.size:=by rw[U.length_eq,A2]
 let zz:=SV.perm U hS;ext1 zz u W y;let X:∀(s':f8)(f:l4 b8)(r:a6),(∀b o,s.heap.get? b=a0 o->s'.heap.get? b=a0 o)->s'.gens=s.gens->s'.os=s.os->s'.heap.get? s.heap.objs.size=a0 {cls:=.type "list",dict:=b4,data:=.seq f r,slots:=#[]}->
  ItemsOf (λi v=>∃e,K[i]?=a0 e/\v=e.2) f C.size->b9 (d7 prog w) A (load s.heap.objs.size>>=λo=>match o.data with
   | .seq xs _=>pure xs.toList
   |_=>unsupported "internal:collect") (λvs s'=>s.heap.objs.size<=s'.heap.objs.size->Q vs s') E s':=by
  intro s' f r G hg ho' hS2 j;refine b5 (Wy hS2 (f6 λhsz=>?_));let hv:f.toList=K.map (·.2):=by
   apply Gk;intro i;rw[W6,o7];cases hi:f[i]? with
   |some v=>refine c9 (j.2 i v hi) ?_;clear hi;rintro e D rfl;rw[D];rfl
   |none=>have:=Array.getElem?_eq_none_iff.mp hi;rw[j.1]at this;rw[Au (fP z this)];rfl
  let Y:=SV.vals (SV.ext (λb items e w0 q=>G b _ q) y);rw[<-hv]at Y;exact hq s' f.toList u W Y ⟨hsz,G⟩ hg ho'
 let B:∀(N:l5)(c1:a6),(∀b o,b≠s.heap.objs.size->h'.get? b=a0 o->N.get? b=a0 o)->N.get? s.heap.objs.size=a0 {cls:=.type "list",dict:=b4,data:=.seq #[] c1,slots:=#[]}->∀{R:Mu->f8->Prop},
  (∀(s':f8)(f:l4 b8)(r:a6),(∀b o,s.heap.get? b=a0 o->s'.heap.get? b=a0 o)->s'.gens=s.gens->s'.os=s.os->s'.heap.get? s.heap.objs.size=a0 {cls:=.type "list",dict:=b4,data:=.seq f r,slots:=#[]}->
   ItemsOf (λi v=>∃e,K[i]?=a0 e/\v=e.2) f C.size->R (.ok (.ret (.ref s.heap.objs.size))) s')->
  BI (d7 prog w) A (.builtin "list.extend.loop" ⟨[.ref s.heap.objs.size,.ref M,.ref s.heap.objs.size],[]⟩) R {s with heap:=N,drawn:=d}:=by
  intro N c1 G hS1 R hR;have Z:s.heap.objs.size≠p:=by
   rcases H with rfl|H
   .exact x
   .let this:s.heap.objs.size+1<=p:=by rw[<-z0];exact H
    exact m6 (Qk this)
  let hSf:s.heap.objs.size∉[M,a,p]:=by simp only[K5,J7,X4,Mh];exact m0 V x Z
  let hst:bD w C ep t M a p K 0 {s with heap:=N,drawn:=d}:=by
   refine v8 first (G _ _ (C8 V) hio) (G _ _ (C8 x) (D.2 _ _ g)) ?_;rcases F with F|F|⟨F,J,e,h4,h5⟩
   .exact .inl F
   .exact .inr (.inl F)
   .exact .inr (.inr ⟨F,J,e,G p _ (C8 Z) h4,h5⟩)
  refine codeAny_extend_loopS (ql (prog:=prog) (w:=w) (A:=A.in1) (a:=a) (it:=M) (p:=p) (ep:=ep) (ps:=K) (by simpa using hh) T (m6 (AH P (Qk q0))) hpit z) (by rw[O3];exact gH O hz rfl:C.size<=Hr) _ hSf _ C.size 0 _ _ _ rfl (F9 _) hst hS1 (t_ _) λs' f r I y j=>hR s' f r (λb o e=>?_) I.gens I.os y j;let L:=C2 e;refine I.heap b o ?_ (G b o (m6 L) (D.2 _ _ (S.2 _ _ e)));simp only[K5,J7,X4,Mh];exact⟨m6 L,m6 (AH L (Qk q0))⟩
 refine MK (λw0=>?_) λw0=>f6 ⟨Di jH _,B _ 0 (λb o w0 e=>e) (D.2 _ _ h) λs' f r k1 k2 k3 k4 k5=>X s' f r k1 k2 k3 k4 k5⟩;refine b5 (EK ?_);let k:=D.2 _ _ h;refine b5 (b5 (LV (s:={s with heap:=h',drawn:=d}) k rfl ?_));let m:=Hy (AJ (·.push Hq)) k rfl;refine LV (hz:=by decide) m rfl (f6 ⟨Di jH _,B _ _ (λb o L e=>?_) (Hy (AJ (·.pop)) m rfl) λs' f r k1 k2 k3 k4 k5=>X s' f r k1 k2 k3 k4 k5⟩);exact(Hw _ _ (C8 L)).trans ((Hw _ _ (C8 L)).trans e)theorem xO(h:xs.all (λx=>xs.all λy=>P0 x y)=a8):G9 xs:=λx a y b=>S7 (S7 h x a) y b
theorem ZJ(p:ys.Perm xs)(h:B9 xs=a8):B9 ys=a8:=by unfold B9 at h ⊢;simp only[C4,C3,V6]at h ⊢;ext k9 h ⟨b,c⟩ d;exact⟨⟨by rw[p.length_eq];exact b,λx a y e=>c x (p.mem_iff.mp a) y (p.mem_iff.mp e)⟩,λx a=>d x (p.mem_iff.mp a)⟩theorem RU(d:G9 xs)(c:G9 ys)(p:ys.Perm xs):y8 ys=y8 xs:=by refine Rk (λa e b f=>c a ((Y1 ys).mem_iff.mp e) b ((Y1 ys).mem_iff.mp f)) ?_ (KY c) (KY d);exact((Y1 ys).trans p).trans (Y1 xs).symm
end
section
variable{prog:y9}{X:Fx}{A:B7}{E:qVS}{c:Cx}{st:St}{s:f8}{G:i7->Prop}{Q:Q1}
theorem rA(u:A.handled=b4)(v:A.units+12<t3)(R:i8 X c st s₀)(k:Ext s₀.heap s.heap)(l:s.gens=s₀.gens)(m:s.os=s₀.os)(w:Dc X.w X.M c st.n s.heap a ys (BQ X.w))(t:ys.Perm xs)(j:B9 xs=a8)
 (x:Q (.ref st.n) (st.A (.L (y8 xs)))):b9 (d7 prog X.w) A (call (.builtin "sorted") [.ref a]) (j6 X c st s₀ G Q) E s:=by
 let H:=Ha j;refine Xc (base:=X.M) (c:=c) (n:=st.n) (gB v rfl) (ll (by simpa using u) w (by rw[t.length_eq];exact m9 ‹_›) λI J o p y z B C=>?_);have f:=p.trans t;let d:=ZJ f j;refine v8 o d y λK b F e D q h r=>?_;let g:=k.trans z;refine j6.new R (b6 g.1 D) (g.trans q) (B.trans l) (C.trans m) (J3.L h r ?_) ?_
 .rw[ZL];let i:=Ha d;unfold j8;exact m9 (j7 i (by decide))
 .rw[RU (FN j) (FN d) f];exact x
end
end Internal
set_option backward.match.sparseCases false
namespace Internal
open PySem PySem.W PyProof.Rows
section
variable{prog:y9}{X:Fx}{C:Cl}{A:B7}{sc:E7}{c c':Cx}{st st':St}{s s' s'':f8}{env:I0}{ρ:Env}{F:i7->Prop}{fp:a7 i7}
theorem qm(L:Laid0 X)(i:Bn A)(y:J4 E=a8)(O:N9 sc "sorted"=a8)(l:N9 sc "set"=a8)(P:SX prog X C A sc e E):
 SX prog X C A sc (.bi .sS (.cons e .nil)) (.Call (.Name (nm "sorted") p1) [.Call (.Name (nm "set") p2) [E] [] pos2] [] pos1):=by
 intro c B s Z ρ Q D H R S;let F:=i.hu;refine Ht (KJ L H R (x:="sorted") (v:=.builtin "sorted") (As 9 rfl) (D▸O) (PC (FT (by rfl)) (FH (by rfl) (Mw (Hn (es:=.cons e .nil) (Q1:=λG B=>o8 (M3 .sS G B) Q) L (x:="set") (v:=.type "set") (As 10 rfl) (.inr ⟨_,rfl⟩) (by simp[y]) l (Fc P GC y) D H R S λvs G c1 st1 s1 h I m T=>EQ m h λd v J h=>c9 (CZ h) λxs K n=>?_)))));let j:=An n;ext1 j M o;ext t6 M U h2 N;have f:=xO U;clear h;refine M0 (I.list J K) ?_;clear J K;rintro a w e rfl ha hsa rfl V k;ext1 k p hz;refine W5 (gx i.hh (gB F rfl) V p f (Ha N) λs2 ys W q r g t Y u=>JP ?_);haveI:DV b0:=λa b=>DO _
 exact Y8 T (rA i.hh (gB F rfl) I ⟨u,W⟩ q r g (Li t (GB f) λz=>by rw[Y z,EW f z]) N o)
end
theorem bd(h:(a&&b)=a8):a=a8/\b=a8:=C4 _ _▸h
structure HE where
 const:LR->b7:=λw0=>c8
 name:o3->b7:=λw0=>c8
 C:j9->o3->X1->b7:=λw0 w0 w0=>c8
 sub:j9->j9->b7:=λw0 w0=>c8
 slice:(j0 j9)->(j0 j9)->(j0 j9)->b7:=λw0 w0 w0=>c8
 un:UnaryOp->j9->b7:=λw0 w0=>c8
 B:(a7 j9)->b7:=λw0=>c8
 list:(a7 j9)->b7:=λw0=>c8
 dict:(a7 (j0 j9))->(a7 j9)->b7:=λw0 w0=>c8
 bin:j9->WQ->j9->b7:=λw0 w0 w0=>c8
 bool:MI->(a7 j9)->b7:=λw0 w0=>c8
 cmp:j9->(a7 My)->(a7 j9)->b7:=λw0 w0 w0=>c8
 ite:j9->j9->j9->b7:=λw0 w0 w0=>c8
 Q:j9->(a7 CK)->E7->b7:=λw0 w0 w0=>c8
 call:j9->(a7 j9)->(a7 Keyword)->X1->b7:=λw0 w0 w0 w0=>c8
def Bl(h:HE)(E:j9):b7:=match E with
 | .Constant c _ _=>h.const c
 | .Name t _=>h.name t
 | .Attribute e g p=>h.C e g p
 | .Subscript e i _=>h.sub e i
 | .Slice a b c _=>h.slice a b c
 | .UnaryOp o e _=>h.un o e
 | .Tuple l _ _=>h.B l
 | .List l _=>h.list l
 | .Dict a b _=>h.dict a b
 | .BinOp a o b _=>h.bin a o b
 | .BoolOp o l _=>h.bool o l
 | .Compare a o l _=>h.cmp a o l
 | .IfExp c a b _=>h.ite c a b
 | .ListComp e g s _=>h.Q e g s
 | .Call f es ks p=>h.call f es ks p
 |_=>c8
section
variable{P:j9->Prop}
theorem BD(x:Bl h E=a8)(c0:∀c n p,h.const c=a8->P (.Constant c n p))(v:∀t p,h.name t=a8->P (.Name t p))(w:∀e g p,h.C e g p=a8->P (.Attribute e g p))(y:∀e i p,h.sub e i=a8->P (.Subscript e i p))(z:∀a b c p,h.slice a b c=a8->P (.Slice a b c p))(A:∀o e p,h.un o e=a8->P (.UnaryOp o e p))(B:∀l n p,h.B l=a8->P (.Tuple l n p))(C:∀l p,h.list l=a8->P (.List l p))(D:∀a b p,h.dict a b=a8->P (.Dict a b p))(F:∀a o b p,h.bin a o b=a8->P (.BinOp a o b p))(d:∀o l p,h.bool o l=a8->P (.BoolOp o l p))(j:∀a o l p,h.cmp a o l=a8->P (.Compare a o l p))(k:∀c a b p,h.ite c a b=a8->P (.IfExp c a b p))(m:∀e g s p,h.Q e g s=a8->P (.ListComp e g s p))(q:∀f r u p,h.call f r u p=a8->P (.Call f r u p)):P E:=by cases E<;>first|exact no x|exact c0 _ _ _ x|exact v _ _ x|exact w _ _ _ x|exact y _ _ _ x|exact z _ _ _ _ x|exact A _ _ _ x|exact B _ _ _ x|exact C _ _ x|exact D _ _ _ x|exact F _ _ _ _ x|exact d _ _ _ x|exact j _ _ _ _ x|exact k _ _ _ _ x|exact m _ _ _ _ x|exact q _ _ _ _ x
def IJ(E:j9)(k:LR->b7):b7:=Bl {const:=k} E
theorem KU(h:IJ E k=a8)(H:∀c n p,k c=a8->P (.Constant c n p)):P E:=by apply BD h<;>first|exact H|exact λa a=>no|exact λa a a=>no|exact λa a a a=>no
def GZ(E:j9)(k:o3->b7):b7:=Bl {name:=k} E
theorem OY(h:GZ E k=a8)(H:∀t p,k t=a8->P (.Name t p)):P E:=by apply BD h<;>first|exact H|exact λa a=>no|exact λa a a=>no|exact λa a a a=>no
def Lj(E:j9)(k:j9->o3->X1->b7):b7:=Bl {C:=k} E
theorem OB(h:Lj E k=a8)(H:∀e g p,k e g p=a8->P (.Attribute e g p)):P E:=by apply BD h<;>first|exact H|exact λa a=>no|exact λa a a=>no|exact λa a a a=>no
def Id(E:j9)(k:j9->j9->b7):b7:=Bl {sub:=k} E
theorem Ko(h:Id E k=a8)(H:∀e i p,k e i=a8->P (.Subscript e i p)):P E:=by apply BD h<;>first|exact H|exact λa a=>no|exact λa a a=>no|exact λa a a a=>no
def NC(E:j9)(k:(j0 j9)->(j0 j9)->(j0 j9)->b7):b7:=Bl {slice:=k} E
theorem RP(h:NC E k=a8)(H:∀a b c p,k a b c=a8->P (.Slice a b c p)):P E:=by apply BD h<;>first|exact H|exact λa a=>no|exact λa a a=>no|exact λa a a a=>no
def TW(E:j9)(k:UnaryOp->j9->b7):b7:=Bl {un:=k} E
theorem Xz(h:TW E k=a8)(H:∀o e p,k o e=a8->P (.UnaryOp o e p)):P E:=by apply BD h<;>first|exact H|exact λa a=>no|exact λa a a=>no|exact λa a a a=>no
def TJ(E:j9)(k:(a7 j9)->b7):b7:=Bl {B:=k} E
theorem dN(h:TJ E k=a8)(H:∀l n p,k l=a8->P (.Tuple l n p)):P E:=by apply BD h<;>first|exact H|exact λa a=>no|exact λa a a=>no|exact λa a a a=>no
def fV(E:j9)(k:(a7 j9)->b7):b7:=Bl {list:=k} E
theorem sf(h:fV E k=a8)(H:∀l p,k l=a8->P (.List l p)):P E:=by apply BD h<;>first|exact H|exact λa a=>no|exact λa a a=>no|exact λa a a a=>no
def XD(E:j9)(k:(a7 (j0 j9))->(a7 j9)->b7):b7:=Bl {dict:=k} E
theorem wS(h:XD E k=a8)(H:∀a b p,k a b=a8->P (.Dict a b p)):P E:=by apply BD h<;>first|exact H|exact λa a=>no|exact λa a a=>no|exact λa a a a=>no
def WY(E:j9)(k:j9->WQ->j9->b7):b7:=Bl {bin:=k} E
theorem yI(h:WY E k=a8)(H:∀a o b p,k a o b=a8->P (.BinOp a o b p)):P E:=by apply BD h<;>first|exact H|exact λa a=>no|exact λa a a=>no|exact λa a a a=>no
def Ul(E:j9)(k:MI->(a7 j9)->b7):b7:=Bl {bool:=k} E
theorem Rb(h:Ul E k=a8)(H:∀o l p,k o l=a8->P (.BoolOp o l p)):P E:=by apply BD h<;>first|exact H|exact λa a=>no|exact λa a a=>no|exact λa a a a=>no
def Rq(E:j9)(k:j9->(a7 My)->(a7 j9)->b7):b7:=Bl {cmp:=k} E
theorem aP(h:Rq E k=a8)(H:∀a o l p,k a o l=a8->P (.Compare a o l p)):P E:=by apply BD h<;>first|exact H|exact λa a=>no|exact λa a a=>no|exact λa a a a=>no
def dA(E:j9)(k:j9->j9->j9->b7):b7:=Bl {ite:=k} E
theorem yN(h:dA E k=a8)(H:∀c a b p,k c a b=a8->P (.IfExp c a b p)):P E:=by apply BD h<;>first|exact H|exact λa a=>no|exact λa a a=>no|exact λa a a a=>no
def Un(E:j9)(k:j9->(a7 CK)->E7->b7):b7:=Bl {Q:=k} E
theorem XY(h:Un E k=a8)(H:∀e g s p,k e g s=a8->P (.ListComp e g s p)):P E:=by apply BD h<;>first|exact H|exact λa a=>no|exact λa a a=>no|exact λa a a a=>no
def NN(E:j9)(k:j9->a7 j9->X1->b7):b7:=Bl {call:=λf es ks p=>ks.isEmpty&&k f es p} E
theorem Sv(h:NN E k=a8)(H:∀f b p,k f b p=a8->P (.Call f b [] p)):P E:=BD h (λa a a=>no) (λa a=>no) (λa a a=>no) (λa a a=>no) (λa a a a=>no) (λa a a=>no) (λa a a=>no) (λa a=>no) (λa a a=>no) (λa a a a=>no) (λa a a=>no) (λa a a a=>no) (λa a a a=>no) (λa a a a=>no) (λf b c p h=>by have d:(c.isEmpty&&k f b p)=a8:=h;clear h;cases c with|nil=>exact H f b p (o5 d)|cons=>exact no (o6 d))def BZ(E:j9)(x:j3)(k:a7 j9->b7):b7:=NN E λf es w0=>GZ f λt=>nm x==t&&k es
theorem Cm(h:BZ E x k=a8)(H:∀a p q,k a=a8->P (.Call (.Name (nm x) p) a [] q)):P E:=by refine Sv h λf a q h=>OY (P:=λf=>P (.Call f a [] q)) h λt p h=>k9 (bd h) λb c=>?_;clear h;cases O1 b;exact H _ _ _ c
end
section
variable{α:Type}
def one(l:a7 α)(k:α->b7):b7:=match l with|[a]=>k a|_=>c8
theorem Cn{P:a7 α->Prop}(h:one l k=a8)(H:∀a,k a=a8->P [a]):P l:=by
 cases l with
 |nil=>exact no h
 |cons a l=>cases l with|nil=>exact H _ h|cons=>exact no h
def two(l:a7 α)(k:α->α->b7):b7:=match l with|[a,b]=>k a b|_=>c8
theorem EA{P:a7 α->Prop}(h:two l k=a8)(H:∀a b,k a b=a8->P [a,b]):P l:=by
 cases l with
 |nil=>exact no h
 |cons a l=>cases l with
  |nil=>exact no h
  |cons b l=>cases l with|nil=>exact H _ _ h|cons=>exact no h
def FQ(l:a7 α)(k:α->a7 α->b7):b7:=match l with|a::r=>k a r|_=>c8
theorem Jl{P:a7 α->Prop}(h:FQ l k=a8)(H:∀a r,k a r=a8->P (a::r)):P l:=by
 cases l with
 |nil=>exact no h
 |cons a l=>exact H _ _ h
theorem EO{P:a7 α->Prop}(h:l.isEmpty=a8)(H:P []):P l:=by
 cases l with
 |nil=>exact H
 |cons=>exact no h
def KG(l:Xs)(k:MX->b7):b7:=match l with| .cons a r=>(match r with| .nil=>k a|_=>c8)|_=>c8
theorem Ob{l:Xs}{P:Xs->Prop}{k:MX->b7}(h:KG l k=a8)(H:∀a,k a=a8->P (.cons a .nil)):P l:=by
 cases l with
 |nil=>exact no h
 |cons a l=>cases l with|nil=>exact H _ h|cons=>exact no h
def SO(l:Xs)(k:MX->MX->b7):b7:=match l with| .cons a r=>KG r (k a)|_=>c8
theorem YO{l:Xs}{P:Xs->Prop}{k:MX->MX->b7}(h:SO l k=a8)(H:∀a b,k a b=a8->P (.cons a (.cons b .nil))):P l:=by
 cases l with
 |nil=>exact no h
 |cons a l=>exact Ob (l:=l) (P:=λl=>P (.cons a l)) h λb h=>H a b h
def Nl(c:LR)(k:o3->b7):b7:=match c with| .str t=>k t|_=>c8
theorem Rr{P:LR->Prop}(h:Nl c k=a8)(H:∀t,k t=a8->P (.str t)):P c:=by cases c with|str t=>exact H _ h|_=>exact no h
end
def NP:a7 j3->a7 j9->b7
 |[],es=>es.isEmpty
 |x::ps,es=>FQ es λe es=>GZ e λt=>nm x==t&&NP ps es
def QN(p:a7 j3)(t:j9):b7:=match t with
 | .Name id _=>one p λx=>nm x==id
 | .Tuple es _ _=>decide (2<=p.length)&&NP p es
 |_=>c8
def RZ(o:j0 Av):b7:=match o with|some k=>decide (k= .local)||decide (k= .cell)|none=>c8
def freeB(o:j0 Av):b7:=match o with|some k=>decide (k= .cell)||decide (k= .free)|none=>c8
def XQ(scope sc:E7)(tgts:a7 j3):b7:=
 decide (scope.kind= .function)&&(decide (scope.names.map (·.1)).Nodup&&
 ((scope.names.all λp=>(!(decide (p.2= .local)||decide (p.2= .cell))||(p.1==nm ".0"||tgts.any λx=>nm x==p.1))&&(!decide (p.2= .free)||freeB (sc.names.lookup p.1)))&&
 tgts.all λx=>RZ (scope.names.lookup (nm x))))def dX(sc:E7)(x:j3):b7:=RZ (sc.names.lookup (nm x))def aM:a7 j3:=["Bank","Tables","Joins","Unions","Heap"]
structure Ck where
 x:E7->MX->j9->b7
 d:E7->Xs->a7 j9->b7
 t:E7->MX->j9->b7
 i:E7->Xs->a7 j9->b7
 r:E7->Dd->j9->b7
 g:E7->Gs->j9->a7 CK->b7
 c:E7->a7 j3->Dd->Xs->Gs->j9->a7 CK->E7->b7
section
variable(K:Ck)(sc:E7)
def OV(d:b0)(c:LR):b7:=match d with
 | .int i=>(match c with| .int j=>i==j|_=>c8)
 | .none=>(match c with| .none=>a8|_=>c8)
 | .bool b=>(match c with| .bool b'=>b==b'|_=>c8)
 |_=>c8
def SG(f:Bi)(es:Xs)(E:j9):b7:=
 if f= .lR then KG es λe=>BZ E "list" λA=>one A λF=>BZ F "range" λB=>one B λe'=>J4 e'&&(N9 sc "list"&&(N9 sc "range"&&K.x sc e e'))
 else if f= .dZ then SO es λa b=>BZ E "dict" λA=>one A λF=>BZ F "zip" λB=>two B λa' b'=>J4 a'&&(J4 b'&&(N9 sc "dict"&&(N9 sc "zip"&&(K.x sc a a'&&K.x sc b b'))))
 else if f= .sI then KG es λe=>BZ E "sorted" λA=>one A λF=>NN F λF B q=>B.isEmpty&&Lj F λe' t p=>nm "items"==t&&(FU e'&&(p.endLine==q.line&&(N9 sc "sorted"&&K.x sc e e')))
 else if f= .sS then KG es λe=>BZ E "sorted" λA=>one A λF=>BZ F "set" λB=>one B λe'=>J4 e'&&(N9 sc "sorted"&&(N9 sc "set"&&K.x sc e e'))
 else NB f&&BZ E (KI f) λA=>A.all J4&&(N9 sc (KI f)&&K.d sc es A)def eJ(o:MI)(a b:MX)(E:j9)(k:MX->j9->b7):b7:=Ul E λp l=>decide (p=o)&&two l λa' b'=>k a a'&&k b b'
def iy(ks:a7 j3)(es:Xs)(E:j9):b7:=XD E λA B=>
 if ks.isEmpty then(match es with| .nil=>A.isEmpty&&B.isEmpty|_=>c8)
 else two ks λx y=>SO es λe f=>two A λk1 k2=>two B λe' f'=>k1.any λk1=>k2.any λk2=>IJ k1 λc1=>Nl c1 λs=>IJ k2 λc2=>Nl c2 λt=>nm x==s&&(nm y==t&&(x != y&&(K.x sc e e'&&K.x sc f f')))def Sr(o p:Dz)(a b c:MX)(E:j9):b7:=Rq E λa' os l=>two os λo' p'=>two l λb' c'=>decide (o'=Cy o)&&(decide (p'=Cy p)&&(AF c'&&(K.x sc a a'&&(K.x sc b b'&&K.x sc c c'))))def Ru(o:Dz)(a b:MX)(E:j9):b7:=Rq E λa' os l=>one os λo'=>one l λb'=>decide (o'=Cy o)&&(AF b'&&(K.x sc a a'&&K.x sc b b'))
def cP(x:MX)(E:j9):b7:=match x with
 | .e d=>IJ E λc=>OV d c
 | .str s=>IJ E λc=>Nl c λt=>nm s==t
 | .a y=>GZ E λt=>nm y==t&&GR sc y
 | .C e f=>Lj E λe' g w0=>nm f==g&&(FU e'&&K.x sc e e')
 | .sub e i=>Id E λe' i'=>K.x sc e e'&&K.x sc i i'
 | .to e i=>Id E λe' s=>NC s λa b c=>a.isNone&&(c.isNone&&b.any λi'=>K.x sc e e'&&K.x sc i i')
 | .from e i=>Id E λe' s=>NC s λa b c=>b.isNone&&(c.isNone&&a.any λi'=>K.x sc e e'&&K.x sc i i')
 | .rev e=>Id E λe' s=>NC s λa b c=>a.isNone&&(b.isNone&&c.any λi'=>TW i' λo u=>decide (o= .USub)&&IJ u λc=>OV (.int 1) c&&K.x sc e e')
 | .B es=>TJ E λl=>decide (l.length<=1000)&&K.d sc es l
 | .L es=>fV E λl=>decide (l.length<=1000)&&K.d sc es l
 | .D ks es=>iy K sc ks es E
 | .bin o a b=>WY E λa' op b'=>decide (op=Ic o)&&(K.x sc a a'&&K.x sc b b')
 | .and a b=>eJ .And a b E (K.x sc)
 | .or a b=>eJ .Or a b E (K.x sc)
 | .cmp o a b=>Ru K sc o a b E
 | .cmp2 o p a b c=>Sr K sc o p a b c E
 | .ite c a b=>dA E λc' a' b'=>K.t sc c c'&&(K.x sc a a'&&K.x sc b b')
 | .Q g=>(match g with| .cons p src ifs r=>Un E λe gs s=>K.c sc p src ifs r e gs s|_=>c8)
 | .bi f es=>SG K sc f es E
 | .call f es=>BZ E f λA=>(BO "").contains f&&(A.all J4&&(N9 sc f&&K.d sc es A))
 | .new c es=>BZ E c λA=>aM.contains c&&(A.all J4&&(N9 sc c&&K.d sc es A))
 | .m o m es=>NN E λF A q=>Lj F λo' g p=>nm m==g&&(FU o'&&(A.all J4&&(decide (A.length<30)&&(p.endLine==q.line&&(K.x sc o o'&&K.d sc es A)))))
 |_=>c8
def vL(es:Xs)(l:a7 j9):b7:=match es with
 | .nil=>l.isEmpty
 | .cons e es=>FQ l λE l=>J4 E&&(K.x sc e E&&K.d sc es l)
def pi(es:Xs)(l:a7 j9):b7:=match es with
 | .nil=>l.isEmpty
 | .cons e es=>FQ l λE l=>K.t sc e E&&K.i sc es l
def UE(o:MI)(a b:MX)(E:j9)(q:MX->j0 (MX×MX)):b7:=Ul E λp l=>decide (p=o)&&FQ l λa' r=>K.t sc a a'&&(one r (K.t sc b)||two r λb' c'=>(q b).any λu=>K.t sc u.1 b'&&K.t sc u.2 c')def wI(b:MX):j0 (MX×MX):=match b with| .and b c=>a0 (b,c)|_=>b4
def uQ(b:MX):j0 (MX×MX):=match b with| .or b c=>a0 (b,c)|_=>b4
def stepT(x:MX)(E:j9):b7:=match x with
 | .not e=>TW E λo e'=>decide (o= .Not)&&K.t sc e e'
 | .and a b=>UE K sc .And a b E wI
 | .or a b=>UE K sc .Or a b E uQ
 | .cmp o a b=>Ru K sc o a b E
 | .cmp2 o p a b c=>Sr K sc o p a b c E
 | .a y=>GZ E λt=>nm y==t&&GR sc y
 | .call f es=>Iw E&&K.x sc (.call f es) E
 | .m o m es=>Iw E&&K.x sc (.m o m es) E
 |_=>c8
def ub(s:Dd)(E:j9):b7:=match s with
 | .of e=>K.x sc e E
 | .range e=>BZ E "range" λA=>one A λe'=>J4 e'&&(N9 sc "range"&&K.x sc e e')
 | .enum e=>BZ E "enumerate" λA=>one A λe'=>J4 e'&&(N9 sc "enumerate"&&K.x sc e e')
 | .zip a b=>BZ E "zip" λA=>two A λa' b'=>J4 a'&&(J4 b'&&(N9 sc "zip"&&(K.x sc a a'&&K.x sc b b')))def XX(p:a7 j3)(src:Dd)(r:Gs)(q:CK):b7:=QN p q.target&&((r.tgts.all λx=>!p.contains x)&&(AF q.iter&&((Du src||decide (2<=p.length))&&K.r sc src q.iter)))
def qk(G:Gs)(elt:j9)(rest:a7 CK):b7:=match G with
 | .elt e=>rest.isEmpty&&K.x sc e elt
 | .cons p src ifs r=>FQ rest λq rest=>XX K sc p src r q&&((p++r.tgts).all (dX sc)&&(K.i sc ifs q.ifs&&K.g sc r elt rest))def tm(p:a7 j3)(src:Dd)(ifs:Xs)(r:Gs)(elt:j9)(gs:a7 CK)(scope:E7):b7:=FQ gs λq rest=>XQ scope sc (p++r.tgts)&&((gs.all λg=>g.is_async==0)&&(XX K sc p src r q&&(K.i (Cu scope sc) ifs q.ifs&&K.g (Cu scope sc) r elt rest)))
end
def ck:a6->Ck
 |0=>⟨λw0 w0 w0=>c8,λw0 w0 w0=>c8,λw0 w0 w0=>c8,λw0 w0 w0=>c8,λw0 w0 w0=>c8,λw0 w0 w0 w0=>c8,λw0 w0 w0 w0 w0 w0 w0 w0=>c8⟩
 |n+1=>⟨cP (ck n),vL (ck n),stepT (ck n),pi (ck n),ub (ck n),qk (ck n),tm (ck n)⟩
theorem cW:∀{ps:a7 j3}{es:a7 j9},NP ps es=a8->GE ps es
 |[],_,h=>EO h .nil
 |_::_,_,h=>Jl h λe es h=>by
  refine OY (P:=λe=>GE _ (e::es)) h λt p h=>?_;cases O1 (o6 h);exact .cons (cW (o5 h))
theorem OS(h:QN p t=a8):AV p t:=by
 cases t with
 |Name id k=>exact Cn (l:=p) (P:=λp=>AV p _) h λx h=>by cases O1 h;exact .one
 |Tuple es k q=>
  let zz:=bd h;ext1 zz h1 h2;let h3:=C5 h1;cases p with
  |nil=>exact u6 h3 (Wm 1)
  |cons x p=>cases p with|nil=>exact u6 h3 (jJ 1)|cons y p=>exact .many (cW h2)
 |_=>exact no h
theorem fO(h:RZ o=a8):o=a0 .local\/o=a0 .cell:=by
 cases o with
 |none=>exact no h
 |some k=>exact(DL h).imp (λh=>t0 a0 (C5 h)) λh=>t0 a0 (C5 h)
theorem so(h:freeB o=a8):o=a0 .cell\/o=a0 .free:=by
 cases o with
 |none=>exact no h
 |some k=>exact(DL h).imp (λh=>t0 a0 (C5 h)) λh=>t0 a0 (C5 h)
theorem bj(h:XQ scope sc tgts=a8):HV scope sc tgts:=by
 let a:=bd h;ext1 a d h;let a:=bd h;ext1 a f h;refine k9 (bd h) λc g=>?_;have c:=λp i=>bd (S7 c p i);refine⟨C5 d,C5 f,λx b=>?_,λx b=>fO (S7 g x b),λk j=>so (c _ (Hj j)).2⟩;let l:(nm x==nm ".0"||tgts.any λy=>nm y==nm x)=a8:=by rcases b with b|b<;>exact(c _ (Hj b)).1
 rcases DL l with e|e
 .exact .inl (Eo (O1 e))
 .exact c9 (List.any_eq_true.mp e) λy m e=>.inr (Eo (O1 e)▸m)theorem de(h:dX env.scope x=a8):BA env x:=fO h
structure tN (prog:y9) (X:Fx) (C:Cl) (A:B7) (sc:E7) (p:a7 j3) (src:Dd) (ifX:Xs) (r:Gs) (elt target iter:j9) (ifs:a7 j9) (rest:a7 CK) (scope:E7):Prop where
 hCS:HV scope sc (p++r.tgts)
 h0:∀g'∈(⟨target,iter,ifs,0⟩::rest:a7 CK),g'.is_async=0
 hT:AV p target
 hnd:∀x∈r.tgts,x∉p
 hns:AF iter=a8
 hk:Du src=a8\/2<=p.length
 hS:BX prog X C A sc src iter
 hF:SF prog X C A (Cu scope sc) ifX ifs
 hr:∀pos,SE prog X C A (Cu scope sc) r (Cp (.ListComp elt (⟨target,iter,ifs,0⟩::rest) scope pos) elt (⟨target,iter,ifs,0⟩::rest) 0)
structure GT (prog:y9) (X:Fx) (C:Cl) (A:B7) (K:Ck):Prop where
 x:∀{sc x E},K.x sc x E=a8->SX prog X C A sc x E
 d:∀{sc x E},K.d sc x E=a8->SD prog X C A sc x E
 t:∀{sc x E},K.t sc x E=a8->ST prog X C A sc x E
 i:∀{sc x E},K.i sc x E=a8->SF prog X C A sc x E
 r:∀{sc x E},K.r sc x E=a8->BX prog X C A sc x E
 g:∀{sc G elt rest},K.g sc G elt rest=a8->∀gens depth scope pos,gens.drop (depth+1)=rest->(∀g∈gens,g.is_async=0)->SE prog X C A sc G (Cp (.ListComp elt gens scope pos) elt gens depth)
 c:∀{sc p src ifX r elt gs scope},K.c sc p src ifX r elt gs scope=a8->∃target iter ifs rest,gs=⟨target,iter,ifs,0⟩::rest/\tN prog X C A sc p src ifX r elt target iter ifs rest scope
theorem Hb{α:Type}{o:j0 α}{P:j0 α->Prop}{k:α->b7}(h:o.any k=a8)(H:∀a,k a=a8->P (a0 a)):P o:=by
 cases o with
 |none=>exact no h
 |some a=>exact H a h
theorem IX{α:Type}{o:j0 α}{P:j0 α->Prop}(h:o.isNone=a8)(H:P b4):P o:=by
 cases o with
 |none=>exact H
 |some a=>exact no h
section
variable{prog:y9}{X:Fx}{C:Cl}{A:B7}{K:Ck}
theorem jd(h:OV d c=a8):SX prog X C A sc (.e d) (.Constant c n p):=by
 cases d with
 |int i=>cases c with|int j=>cases O1 h;exact il|_=>exact no h
 |none=>cases c with|none=>exact kt|_=>exact no h
 |bool i=>cases c with|bool j=>cases O1 h;exact kx|_=>exact no h
 |_=>exact no h
theorem ty(h:OV (.int 1) c=a8):c= .int 1:=by cases c with|int j=>cases O1 h;rfl|_=>exact no h
theorem XS(m:Bn A)(I:GT prog X C A K)(h:Ru K sc o a b E=a8){P:j9->Prop}(H:∀{d f e p},SX prog X C A sc a d->SX prog X C A sc b e->AF e=a8->f=Cy o->P (.Compare d [f] [e] p)):P E:=by refine aP h λd g l p h=>Cn (P:=λg=>P (.Compare d g l p)) h λi h=>Cn (P:=λl=>P (.Compare d [i] l p)) h λe h=>?_;let c:=bd h;ext1 c j h;let c:=bd h;ext1 c k h;exact H (I.x (o6 h)) (I.x (o5 h)) k (C5 j)
theorem aW(I:GT prog X C A K)(h:Sr K sc o q a b c E=a8){P:j9->Prop}
 (H:∀{e g f p},SX prog X C A sc a e->SX prog X C A sc b g->SX prog X C A sc c f->AF f=a8->P (.Compare e [Cy o,Cy q] [g,f] p)):P E:=by
 refine aP h λe i l p h=>EA (P:=λi=>P (.Compare e i l p)) h λj k h=>EA (P:=λl=>P (.Compare e [j,k] l p)) h λg f h=>?_;let d:=bd h;ext1 d m h;let d:=bd h;ext1 d n h;let d:=bd h;ext1 d r h;let d:=bd h;ext1 d s h;rw[C5 m,C5 n];exact H (I.x s) (I.x (o6 h)) (I.x (o5 h)) r
theorem cN(h:(GZ E λt=>nm y==t&&GR sc y)=a8){P:j9->Prop}(H:∀{p},GR sc y=a8->P (.Name (nm y) p)):P E:=by refine OY h λt p h=>?_;cases O1 (o6 h);exact H (o5 h)
theorem rH(L:Laid1 X)(U:GQ prog X C k)(W:DF k A)(I:GT prog X C A K){x:MX}(h:cP K sc x E=a8):SX prog X C A sc x E:=by
 have Y:=W.room;have H:=Y.ok;cases x with
 |e d=>exact KU h λc n p h=>jd h
 |str s=>refine KU h λc n p h=>Rr (P:=λc=>SX prog X C A sc _ (.Constant c n p)) h λt h=>?_;cases O1 h;exact ot
 |a y=>exact cN h λh=>bI h
 |C e f=>refine OB h λw g p h=>k9 (bd h) λv g=>?_;clear h;cases O1 v;exact vl L (o6 g) (I.x (o5 g))
 |sub e i=>exact Ko h λw Z p h=>fv H (I.x (o6 h)) (I.x (o5 h))
 |to e i=>refine Ko h λw s p h=>RP (P:=λs=>SX prog X C A sc _ (.Subscript w s p)) h λa b c q h=>k9 (bd h) λv h=>?_;let j:=bd h;ext1 j D h;exact IX v (P:=λa=>SX prog X C A sc _ (.Subscript w (.Slice a b c q) p)) (IX D (P:=λc=>SX prog X C A sc _ (.Subscript w (.Slice b4 b c q) p)) (Hb (P:=λb=>SX prog X C A sc _ (.Subscript w (.Slice b4 b b4 q) p)) h λZ h=>dg (I.x (o6 h)) (I.x (o5 h))))
 |«from» e i=>refine Ko h λw s p h=>RP (P:=λs=>SX prog X C A sc _ (.Subscript w s p)) h λa b c q h=>?_;let j:=bd h;ext1 j v h;exact k9 (bd h) λD h=>IX v (P:=λb=>SX prog X C A sc _ (.Subscript w (.Slice a b c q) p)) (IX D (P:=λc=>SX prog X C A sc _ (.Subscript w (.Slice a b4 c q) p)) (Hb (P:=λa=>SX prog X C A sc _ (.Subscript w (.Slice a b4 b4 q) p)) h λZ h=>yZ (I.x (o6 h)) (I.x (o5 h))))
 |rev e=>refine Ko h λw s p h=>RP (P:=λs=>SX prog X C A sc _ (.Subscript w s p)) h λa b c q h=>?_;let j:=bd h;ext1 j v h;let j:=bd h;ext1 j D h;refine IX v (P:=λa=>SX prog X C A sc _ (.Subscript w (.Slice a b c q) p)) (IX D (P:=λb=>SX prog X C A sc _ (.Subscript w (.Slice b4 b c q) p)) (Hb (P:=λc=>SX prog X C A sc _ (.Subscript w (.Slice b4 b4 c q) p)) h λZ h=>Xz (P:=λi=>SX prog X C A sc _ (.Subscript w (.Slice b4 b4 (a0 i) q) p)) h λo u r h=>k9 (bd h) λv g=>?_));clear h;cases C5 v;refine KU (P:=λu=>SX prog X C A sc _ (.Subscript w (.Slice b4 b4 (a0 (.UnaryOp .USub u r)) q) p)) g λc n r' h=>k9 (bd h) λv g=>?_;clear h;cases ty v;exact mt (I.x g)
 |B z=>exact dN h λl n p h=>gz (I.d (o5 h)) (C5 (o6 h))
 |L z=>exact sf h λl p h=>rz (I.d (o5 h)) (C5 (o6 h))
 |D Q z=>
  refine wS h λl m p h=>?_;cases Q with
  |nil=>
   cases z with
   |nil=>exact EO (o6 h) (P:=λl=>SX prog X C A sc _ (.Dict l m p)) (EO (o5 h) (P:=λm=>SX prog X C A sc _ (.Dict [] m p)) ai)
   |cons=>exact no h
  |cons x Q=>refine EA (l:=x::Q) (P:=λQ=>SX prog X C A sc (.D Q z) (.Dict l m p)) h λx y h=>YO (P:=λz=>SX prog X C A sc (.D [x,y] z) (.Dict l m p)) h λe f h=>EA (P:=λl=>SX prog X C A sc _ (.Dict l m p)) h λM J h=>EA (P:=λm=>SX prog X C A sc _ (.Dict [M,J] m p)) h λw O h=>Hb (P:=λM=>SX prog X C A sc _ (.Dict [M,J] [w,O] p)) h λM h=>Hb (P:=λJ=>SX prog X C A sc _ (.Dict [a0 M,J] [w,O] p)) h λJ h=>KU (P:=λM=>SX prog X C A sc _ (.Dict [a0 M,a0 J] [w,O] p)) h λc1 n1 p1 h=>Rr (P:=λc1=>SX prog X C A sc _ (.Dict [a0 (.Constant c1 n1 p1),a0 J] [w,O] p)) h λs h=>?_;refine KU (P:=λJ=>SX prog X C A sc _ (.Dict [_,a0 J] [w,O] p)) h λc2 n2 p2 h=>Rr (P:=λc2=>SX prog X C A sc _ (.Dict [_,a0 (.Constant c2 n2 p2)] [w,O] p)) h λt h=>k9 (bd h) λv g=>?_;clear h;cases O1 v;let j:=bd g;ext1 j D g;let j:=bd g;ext1 j N k;clear h;cases O1 D;exact ij H (bne_iff_ne.mp N) (I.x (o6 k)) (I.x (o5 k))
 |bin o a b=>refine yI h λS op T p h=>k9 (bd h) λv g=>?_;clear h;cases C5 v;exact tT (I.x (o6 g)) (I.x (o5 g))
 |and a b=>refine Rb h λo l p h=>k9 (bd h) λv g=>?_;clear h;cases C5 v;exact EA (P:=λl=>SX prog X C A sc _ (.BoolOp _ l p)) g λS T h=>vu (I.x (o6 h)) (I.x (o5 h))
 |or a b=>refine Rb h λo l p h=>k9 (bd h) λv g=>?_;clear h;cases C5 v;exact EA (P:=λl=>SX prog X C A sc _ (.BoolOp _ l p)) g λS T h=>sC (I.x (o6 h)) (I.x (o5 h))
 |cmp o a b=>exact XS H I h λha R G e=>e▸sZ H ha R G
 |cmp2 o p a b c=>exact aW I h λha R hc G=>xK H ha R hc G
 |ite c a b=>exact yN h λc' S T p h=>cq (I.t (o6 h)) (I.x (o6 (o5 h))) (I.x (o5 (o5 h)))
 |Q g=>
  cases g with
  |cons p src ifs r=>refine XY h λe gs s q h=>XV (I.c h) ?_;clear h;rintro _ _ _ _ rfl V;exact eH W.hh V.hCS V.h0 V.hT V.hnd V.hns V.hk V.hS V.hF (V.hr _)
  |_=>exact no h
 |bi f z=>
  have h:SG K sc f z E=a8:=h;unfold SG at h;by_cases v:f= .lR
  .rw[g0 v]at h;subst v;refine Ob (P:=λz=>SX prog X C A sc (.bi _ z) E) h λe h=>Cm h λl p q h=>Cn (P:=λl=>SX prog X C A sc _ (.Call _ l _ _)) h λF h=>Cm (P:=λF=>SX prog X C A sc _ (.Call _ [F] _ _)) h λl p' q' h=>Cn (P:=λl=>SX prog X C A sc _ (.Call _ [.Call _ l _ _] _ _)) h λw h=>?_;let j:=bd h;ext1 j v h;let j:=bd h;ext1 j D h;exact th L.toLaid0 H v D (o6 h) (I.x (o5 h))
  .rw[j4 v]at h;by_cases v:f= .dZ
   .rw[g0 v]at h;subst v;refine YO (P:=λz=>SX prog X C A sc (.bi _ z) E) h λa b h=>Cm h λl p q h=>Cn (P:=λl=>SX prog X C A sc _ (.Call _ l _ _)) h λF h=>Cm (P:=λF=>SX prog X C A sc _ (.Call _ [F] _ _)) h λl p' q' h=>EA (P:=λl=>SX prog X C A sc _ (.Call _ [.Call _ l _ _] _ _)) h λS T h=>?_;let j:=bd h;ext1 j v h;let j:=bd h;ext1 j D h;let j:=bd h;ext1 j N h;let j:=bd h;ext1 j h4 h;exact vf L.toLaid0 H v D N h4 (I.x (o6 h)) (I.x (o5 h))
   .rw[j4 v]at h;by_cases v:f= .sI
    .rw[g0 v]at h;subst v;refine Ob (P:=λz=>SX prog X C A sc (.bi _ z) E) h λe h=>Cm h λl p q h=>Cn (P:=λl=>SX prog X C A sc _ (.Call _ l _ _)) h λF h=>Sv (P:=λF=>SX prog X C A sc _ (.Call _ [F] _ _)) h λF B p' h=>?_;let j:=bd h;ext1 j G h;refine EO G (P:=λB=>SX prog X C A sc _ (.Call _ [.Call F B _ _] _ _)) (OB (P:=λF=>SX prog X C A sc _ (.Call _ [.Call F _ _ _] _ _)) h λw t a h=>k9 (bd h) λv g=>?_);clear h;cases O1 v;let j:=bd g;ext1 j D g;let j:=bd g;ext1 j N g;exact qZ L.toLaid0 H D N (o6 g) (I.x (o5 g))
    .rw[j4 v]at h;by_cases v:f= .sS
     .rw[g0 v]at h;subst v;refine Ob (P:=λz=>SX prog X C A sc (.bi _ z) E) h λe h=>Cm h λl p q h=>Cn (P:=λl=>SX prog X C A sc _ (.Call _ l _ _)) h λF h=>Cm (P:=λF=>SX prog X C A sc _ (.Call _ [F] _ _)) h λl p' q' h=>Cn (P:=λl=>SX prog X C A sc _ (.Call _ [.Call _ l _ _] _ _)) h λw h=>?_;let j:=bd h;ext1 j v h;let j:=bd h;ext1 j D h;exact qm L.toLaid0 H v D (o6 h) (I.x (o5 h))
     .rw[j4 v]at h;refine k9 (bd h) λR h=>Cm h λl p q' h=>?_;let j:=bd h;ext1 j v h;exact wm L.toLaid0 H R v (o6 h) (I.d (o5 h))
 |call f z=>exact Cm h λl p q h=>k9 (bd h) λG h=>k9 (bd h) λv h=>tY L Y U G v (o6 h) (I.d (o5 h))
 |new f z=>exact Cm h λl p q h=>k9 (bd h) λG h=>k9 (bd h) λv h=>yX L W U (List.contains_iff_mem.mp G) v (o6 h) (I.d (o5 h))
 |m o m z=>refine Sv h λF l q h=>OB (P:=λF=>SX prog X C A sc _ (.Call F _ _ _)) h λo' g p h=>k9 (bd h) λG g=>?_;clear h;cases O1 G;let j:=bd g;ext1 j v g;let j:=bd g;ext1 j D g;let j:=bd g;ext1 j N g;let j:=bd g;ext1 j h4 g;exact zH L Y U v D (C5 N) h4 (I.x (o6 g)) (I.d (o5 g))
 |_=>exact no h
theorem dT{q:MX->j0 (MX×MX)}(I:GT prog X C A K)(h:UE K sc o a b E q=a8){P:j9->Prop}
 (j:∀{c d p},ST prog X C A sc a c->ST prog X C A sc b d->P (.BoolOp o [c,d] p))
 (k:∀{c d f u p},ST prog X C A sc a c->q b=a0 u->ST prog X C A sc u.1 d->ST prog X C A sc u.2 f->P (.BoolOp o [c,d,f] p)):P E:=by
 refine Rb h λm l p h=>k9 (bd h) λe g=>?_;clear h;cases C5 e;refine Jl (P:=λl=>P (.BoolOp _ l p)) g λc r h=>k9 (bd h) λe h=>?_;rcases DL h with h|h
 .exact Cn (P:=λr=>P (.BoolOp _ (c::r) p)) h λd h=>j (I.t e) (I.t h)
 .refine EA (P:=λr=>P (.BoolOp _ (c::r) p)) h λd f h=>?_;cases i:q b with|none=>rw[i]at h;exact no h|some u=>rw[i]at h;exact k (I.t e) i (I.t (o6 h)) (I.t (o5 h))
theorem qS(hA:DF k A)(I:GT prog X C A K)(h:stepT K sc x E=a8):ST prog X C A sc x E:=by
 have hO:=hA.room.ok;cases x with
 |not e=>refine Xz h λo e' p h=>?_;cases C5 (o6 h);exact qt (I.t (o5 h))
 |and a b=>
  refine dT I h (λha hb=>NQ (Uj ha (MP hb))) λha hq hb hc=>?_;clear h;cases b with
  |and b c=>cases hq;exact NQ (Uj ha (Uj hb (MP hc)))
  |_=>cases hq
 |or a b=>
  refine dT I h (λha hb=>NQ (RX ha (MP hb))) λha hq hb hc=>?_;clear h;cases b with
  |or b c=>cases hq;exact NQ (RX ha (RX hb (MP hc)))
  |_=>cases hq
 |cmp o a b=>exact XS hO I h λha hb h0 e=>e▸vT hO ha hb h0
 |cmp2 o p a b c=>exact aW I h λha hb hc h0=>wT hO ha hb hc h0
 |a y=>exact cN h λh=>uY h
 |call f es=>exact wZ (o6 h) (I.x (o5 h))
 |m o m es=>exact gp (o6 h) (I.x (o5 h))
 |_=>exact no h
theorem cS{p l:a7 j3}(h:(l.all λx=>!p.contains x)=a8):∀x∈l,x∉p:=λx a b=>by
 have c:=S7 h x a;rw[oH,<-b7.not_eq_true]at c;exact c (List.contains_iff_mem.mpr b)theorem QF{a:Dd}{p:a7 j3}(h:(Du a||decide (2<=p.length))=a8):Du a=a8\/2<=p.length:=(DL h).imp id C5
theorem lz(L:Laid1 X)(hC:GQ prog X C k)(hA:DF k A):∀n,GT prog X C A (ck n):=by
 intro z7
 induction z7 with
 |zero=>exact⟨λh=>no h,λh=>no h,λh=>no h,λh=>no h,λh=>no h,λh=>no h,λh=>no h⟩
 |succ n IH=>
  have I:=IH;refine⟨λh=>rH L hC hA I h,λ{sc es l}h=>?_,λh=>qS hA I h,λ{sc es l}h=>?_,λ{sc s E}h=>?_,λ{sc G elt rest}h gens depth scope pos hd h0=>?_,λ{sc p src ifX r elt gs scope}h=>?_⟩
  .cases es with|nil=>exact EO h GC|cons e es=>exact Jl h λE l h=>Fc (I.x (o6 (o5 h))) (I.d (o5 (o5 h))) (o6 h)
  .cases es with|nil=>exact EO h xF|cons e es=>exact Jl h λE l h=>qe (I.t (o6 h)) (I.i (o5 h))
  .cases s with|of e=>exact zW (I.x h)|range e=>exact Cm h λl p q h=>Cn (P:=λl=>BX prog X C A sc _ (.Call _ l _ _)) h λe' h=>gb L.toLaid0 (o6 h) (o6 (o5 h)) (I.x (o5 (o5 h)))|enum e=>exact Cm h λl p q h=>Cn (P:=λl=>BX prog X C A sc _ (.Call _ l _ _)) h λe' h=>oq L.toLaid0 (o6 h) (o6 (o5 h)) (I.x (o5 (o5 h)))|zip a b=>exact Cm h λl p q h=>EA (P:=λl=>BX prog X C A sc _ (.Call _ l _ _)) h λa' b' h=>k9 (bd h) λh1 h=>k9 (bd h) λh2 h=>k9 (bd h) λh3 h=>qb L.toLaid0 h1 h2 h3 (I.x (o6 h)) (I.x (o5 h))
  .cases G with
   |elt e=>refine k9 (bd h) λh1 h=>yW (I.x h) (Au (List.drop_eq_nil_iff.mp (hd.trans (List.isEmpty_iff.mp h1))))
   |cons p src ifs r=>
    revert hd;refine Jl (l:=rest) (P:=λrest=>gens.drop (depth+1)=rest->_) h λq rest' h hd=>k9 (bd h) λh1 h=>k9 (bd h1) λh3 h1=>k9 (bd h1) λh4 h1=>k9 (bd h1) λh5 h1=>k9 (bd h) λh2 h=>?_;have hg:gens[depth+1]?=a0 q:=by have c:=jN (xs:=gens) (i:=depth+1) (j:=0);rw[hd]at c;exact c.symm
    obtain⟨target,iter,ifE,kk⟩:=q;have hk0:kk=0:=h0 _ (p8 hg);subst hk0;exact fk hA.hh hg h0 (OS h3) (λenv hs x hx=>de (hs▸S7 h2 x hx)) (cS h4) h5 (QF (o6 h1)) (I.r (o5 h1)) (I.i (o6 h))
     (I.g (o5 h) gens (depth+1) scope pos (by rw[<-Vy,hd];rfl) h0)
  .cases gs with|nil=>exact no h|cons q rest=>obtain⟨target,iter,ifE,kk⟩:=q;refine k9 (bd h) λh1 h=>k9 (bd h) λha h=>k9 (bd h) λh2 h=>k9 (bd h2) λh3 h2=>k9 (bd h2) λh4 h2=>k9 (bd h2) λh5 h2=>?_;have h0:=λg hg=>O1 (S7 ha g hg);clear ha;cases h0 _ j5;exact⟨_,_,_,_,rfl,bj h1,h0,OS h3,cS h4,h5,QF (o6 h2),I.r (o5 h2),I.i (o6 h),λpos=>I.g (o5 h) _ 0 scope pos rfl h0⟩
end
end Internal
set_option backward.match.sparseCases true
namespace Internal
open PySem PySem.W PyProof.Rows
def Sy(sc:E7)(ts:a7 j9)(E:j9):j0 (j0 (a7 o3)):=match E with
 | .Tuple vs _ _=>
  if !(ts.length==2||ts.length==3)||vs.length != ts.length then a0 b4
  else if(vs.any fun| .Starred ..=>a8|_=>c8)then a0 b4
  else
   let line:=(ts.head?.map (·.pos.line)).getD 0
   let names:=ts.filterMap fun
    | .Name id pos=>if sc.names.lookup id==a0 .local&&pos.line==line then a0 id else b4
    |_=>b4
   if names.length != ts.length||names.eraseDups.length != names.length then a0 b4
   else if vs.all (foldedForSure 8)then a0 b4
   else if vs.all (constantsAlone 8)then b4
   else a0 (a0 names)
 |_=>a0 b4
theorem LK{c:Prop}[Dm c]{x:j0 (j0 (a7 o3))}{u:M6 (j0 (a7 o3))}{r:j0 (a7 o3)}(h:(if c then x else y)=a0 r)(b:x=a0 r->u=pure r)(d:y=a0 r->v=pure r):(if c then u else v)=pure r:=by
 by_cases a:c
 .rw[g0 a]at h ⊢;exact b h
 .rw[j4 a]at h ⊢;exact d h
theorem Lz(h:a0 b4=a0 r):(pure b4:M6 (j0 (a7 o3)))=pure r:=by rw[C6 h]
theorem bX{env:I0}{ts:a7 j9}{k:a6}{p:X1}{E:j9}{r:j0 (a7 o3)}(hb:env.blockKind= .function)(h:Sy env.scope ts E=a0 r):PV [.Tuple ts k p] E env=pure r:=by
 cases E with
 |Tuple vs k' p'=>delta PV;dsimp only;rw[(λb=>by rw[hb];exact b7.or_false b:∀b,(b||(env.blockKind != xp))=b)];exact LK h Lz λh=>LK h Lz λh=>LK h Lz λh=>LK h Lz λh=>LK h (λh=>by cases h) λh=>by rw[<-C6 h];rfl
 |_=>exact Lz h
section
variable{P:AK->Prop}
def Kd(_:j9):b7:=false
def GV(B:AK)(x:j9->b7)(r:j0 (j0 j9->b7))(i:j0 (j9->a7 AK->a7 AK->b7))(w:j0 (j9->a7 AK->a7 AK->b7))(f:j0 (j9->j9->a7 AK->a7 AK->b7))(c:b7):b7:=match B with
 | .Expr E _=>x E
 | .Return o _=>r.any (· o)
 | .If c a b _=>i.any λi=>i c a b
 | .While c a b _=>w.any λi=>i c a b
 | .For t c a b _=>f.any λi=>i t c a b
 | .Continue _=>c
 |_=>c8
theorem Je{r i w f}(h:GV B x r i w f c=a8)(hx:∀E p,x E=a8->P (.Expr E p))(hr:∀o p,r.any (· o)=a8->P (.Return o p))(hi:∀c a b p,(i.any λi=>i c a b)=a8->P (.If c a b p))
 (hw:∀c a b p,(w.any λi=>i c a b)=a8->P (.While c a b p))(hf:∀t c a b p,(f.any λi=>i t c a b)=a8->P (.For t c a b p))(hc:∀p,c=a8->P (.Continue p)):P B:=by
 cases B with
 |Expr E p=>exact hx E p h
 |Return o p=>exact hr o p h
 |If c a b p=>exact hi c a b p h
 |While c a b p=>exact hw c a b p h
 |For t i a b p=>exact hf t i a b p h
 |Continue p=>exact hc p h
 |_=>exact no h
def TA(B:AK)(k:j9->j9->b7):b7:=match B with| .Assign l E _=>one l λt=>k t E|_=>c8
theorem XT(h:TA B k=a8)(H:∀t E p,k t E=a8->P (.Assign [t] E p)):P B:=by
 cases B with
 |Assign l E p=>exact Cn (P:=λl=>P (.Assign l E p)) h λt h=>H _ _ _ h
 |_=>exact no h
end
structure Cs where
 s:E7->S->AK->b7
 l:E7->a7 S->a7 AK->b7
section
variable(K:Ck)(D:Cs)(sc:E7)
def uz(t:Tg)(e:MX)(T E:j9):b7:=match t with
 | .a x=>GZ T λt=>nm x==t&&(Dv sc x&&((KN E&&K.x sc e E)||(match e with
  | .Q g=>(match g with| .cons p src ifs r=>Un E λe gs s=>K.c sc p src ifs r e gs s|_=>c8)
  |_=>c8)))
 | .C o f=>Lj T λO g w0=>nm f==g&&(K.x sc e E&&K.x sc o O)
 | .sub o i=>Id T λO I=>K.x sc e E&&(K.x sc o O&&K.x sc i I)
def dj(ps:a7 j3)(e:MX)(T E:j9):b7:=TJ T λelts=>(decide (2<=ps.length)&&NP ps elts)&&(ps.all (Dv sc)&&(K.x sc e E&&(match Sy sc elts E with
 |some o=>(match o with|none=>a8|some names=>decide (names=ps.map nm)&&decide ps.Nodup)
 |none=>c8)))
def Xg(s:S)(B:AK):b7:=match s with
 | .xE e=>GV B (λE=>KN E&&K.x sc e E) b4 b4 b4 b4 c8
 | .k t e=>TA B (uz K sc t e)
 | .uP ps e=>TA B (dj K sc ps e)
 | .ret e=>GV B Kd (a0 λo=>o.any (K.x sc e)) b4 b4 b4 c8
 | .iff c a b=>GV B Kd b4 (a0 λc' a' b'=>K.t sc c c'&&(D.l sc a a'&&D.l sc b b')) b4 b4 c8
 | .while c b=>GV B Kd b4 b4 (a0 λc' b' e=>e.isEmpty&&(K.t sc c c'&&D.l sc b b')) b4 c8
 | .for p src b=>GV B Kd b4 b4 b4 (a0 λtarget iter b' e=>e.isEmpty&&(QN p target&&(p.all (Dv sc)&&(AF iter&&((Du src||decide (2<=p.length))&&(K.r sc src iter&&D.l sc b b')))))) c8
 | .cont=>GV B Kd b4 b4 b4 b4 a8
 | .dead=>a8
def du(s:a7 S)(l:a7 AK):b7:=match s with
 |[]=>l.isEmpty
 |s::r=>FQ l λB l=>D.s sc s B&&D.l sc r l
end
def cs:a6->Cs
 |0=>⟨λw0 w0 w0=>c8,λw0 w0 w0=>c8⟩
 |n+1=>⟨Xg (ck n) (cs n),du (cs n)⟩
section
variable{X:Fx}{K:Ck}
theorem oh(hA:DF k A)(I:GT prog X C A K)(L:Laid1 X)(J1:∀{sc s B},D.s sc s B=a8->SS prog X C A sc s B)(J2:∀{sc s B},D.l sc s B=a8->Ew prog X C A sc s B)(h:Xg K D sc s B=a8):SS prog X C A sc s B:=by
 cases s with
 |xE e=>exact Je h (λE p h=>ig (I.x (o5 h)) (o6 h)) (λw0 w0=>no) (λw0 w0 w0 w0=>no) (λw0 w0 w0 w0=>no) (λw0 w0 w0 w0 w0=>no) λw0=>no
 |k t e=>
  refine XT h λT E p h=>?_;cases t with
  |a x=>
   refine OY (P:=λT=>SS prog X C A sc _ (.Assign [T] E p)) h λt q h=>k9 (bd h) λh1 g=>?_;cases O1 h1;refine k9 (bd g) λh2 g=>?_;rcases DL g with g|g
   .exact xd (I.x (o5 g)) (o6 g) h2
   .cases e with
    |Q r=>
     cases r with
     |cons p' src ifs r=>refine XY (P:=λE=>SS prog X C A sc _ (.Assign [_] E p)) g λe gs s q h=>XV (I.c h) ?_;clear h;rintro w0 w0 w0 w0 rfl V;exact vC hA.hh V.hCS V.h0 V.hT V.hnd V.hns V.hk V.hS V.hF (V.hr _) h2
     |_=>exact no g
    |_=>exact no g
  |C o f=>refine OB (P:=λT=>SS prog X C A sc _ (.Assign [T] E p)) h λO g q h=>k9 (bd h) λh1 g=>?_;clear h;cases O1 h1;exact wB L (I.x (o6 g)) (I.x (o5 g))
  |sub o i=>exact Ko (P:=λT=>SS prog X C A sc _ (.Assign [T] E p)) h λO I' q h=>yL hA.room.ok (I.x (o6 h)) (I.x (o6 (o5 h))) (I.x (o5 (o5 h)))
 |uP ps e=>
  refine XT h λT E p h=>dN (P:=λT=>SS prog X C A sc _ (.Assign [T] E p)) h λelts n q h=>?_;let zz:=bd h;ext1 zz h1 h;refine k9 (bd h) λh2 h=>k9 (bd h) λh3 h=>?_;have hx:=λx hx=>S7 h2 x hx;cases hs:Sy sc elts E with
  |none=>rw[hs]at h;exact no h
  |some o=>
   rw[hs]at h;cases o with
   |none=>exact vt hA.hh (I.x h3) (OS (t:=.Tuple elts n q) h1) hx λenv e hb=>bX hb (e▸hs)
   |some names=>refine k9 (bd h) λh4 h5=>?_;clear h;cases C5 h4;exact xV hA.hh (I.x h3) (C5 h5) hx λenv e hb=>bX hb (e▸hs)
 |ret e=>exact Je h (λw0 w0=>no) (λo p h=>Hb (P:=λo=>SS prog X C A sc _ (.Return o p)) h λE h=>zT (I.x h)) (λw0 w0 w0 w0=>no) (λw0 w0 w0 w0=>no) (λw0 w0 w0 w0 w0=>no) λw0=>no
 |iff c a b=>exact Je h (λw0 w0=>no) (λw0 w0=>no) (λc' a' b' p h=>rX (I.t (o6 h)) (J2 (o6 (o5 h))) (J2 (o5 (o5 h)))) (λw0 w0 w0 w0=>no) (λw0 w0 w0 w0 w0=>no) λw0=>no
 |«while» c b=>exact Je h (λw0 w0=>no) (λw0 w0=>no) (λw0 w0 w0 w0=>no) (λc' b' e p h=>EO (o6 h) (P:=λe=>SS prog X C A sc _ (.While c' b' e p)) (df (I.t (o6 (o5 h))) (J2 (o5 (o5 h))))) (λw0 w0 w0 w0 w0=>no) λw0=>no
 |«for» p src b=>refine Je h (λw0 w0=>no) (λw0 w0=>no) (λw0 w0 w0 w0=>no) (λw0 w0 w0 w0=>no) (λtarget iter b' e q h=>?_) λw0=>no;let zz:=bd h;ext1 zz h0 h;let zz:=bd h;ext1 zz h1 h;let zz:=bd h;ext1 zz h2 h;let zz:=bd h;ext1 zz h3 h;let zz:=bd h;ext1 zz h4 h;exact EO h0 (P:=λe=>SS prog X C A sc _ (.For target iter b' e q)) (rJ hA.hh (OS h1) (λx hx=>S7 h2 x hx) h3 (QF h4) (I.r (o6 h)) (J2 (o5 h)))
 |cont=>exact Je h (λw0 w0=>no) (λw0 w0=>no) (λw0 w0 w0 w0=>no) (λw0 w0 w0 w0=>no) (λw0 w0 w0 w0 w0=>no) λw0 w0=>qQ
 |dead=>exact tU
theorem uo(L:Laid1 X)(c:GQ prog X C k)(b:DF k A):∀n,(∀{a s B},(cs n).s a s B=a8->SS prog X C A a s B)/\∀{a s B},(cs n).l a s B=a8->Ew prog X C A a s B:=by
 intro d
 induction d with
 |zero=>exact⟨λh=>no h,λh=>no h⟩
 |succ n e=>
  have J:=e;refine⟨λh=>oh b (lz L c b n) L J.1 J.2 h,λ{a s l}h=>?_⟩;cases s with
  |nil=>exact EO h fy
  |cons s r=>exact Jl h λB l h=>dk (J.1 (o6 h)) (J.2 (o5 h))def Rv(X:Fx)(P:RA):Prop:=∀c f fd,P c f=a0 fd->∃FF B n,Xa X (X.fn c f) fd FF B/\(cs n).l FF.scope fd.body B=a8
theorem au(L:Laid1 X)(p:Rv X P):∀k,GQ prog X (u9 P k) k:=by
 intro k
 induction k with
 |zero=>intro A b f l q Q c s r m h;exact h.elim
 |succ k t=>
  intro A b f l q Q c s r m h R g;cases d:P b f with
  |none=>
   conv at h=>whnf
   rw[d]at h;exact h.elim
  |some o=>
   conv at h=>whnf
   rw[d]at h;by_cases e:l.length=o.params.length
   .replace h:=(g0 e).mp h;exact EB (p b f o d) λu B n i a=>ak L.lim m i e R g (λv j=>(uo L t j n).2 a) h
   .exact((j4 e).mp h).elim
end
end Internal
set_option backward.match.sparseCases false
namespace Internal
def MV:FD:=⟨["text"],[.ret (.and (.cmp .ne (.a "text") (.str "")) (.cmp .eq (.Q (.cons ["sign"] (.of (.a "text")) (.cons (.or (.m (.a "sign") "isspace" .nil) (.cmp .isin (.a "sign") (.str "()[]{},:"))) .nil) (.elt (.a "sign")))) (.L .nil)))]⟩
def Ry:FD:=⟨["self"],[.k (.C (.a "self") "nodes") (.L .nil),
 .k (.C (.a "self") "numbers") (.D [] .nil),
 .k (.C (.a "self") "weights") (.L .nil),
 .k (.C (.a "self") "depths") (.L .nil)]⟩
def Sk:FD:=⟨["self","op","kids"],[.k (.a "node") (.bin .add (.B (.cons (.a "op") .nil)) (.bi .tuple (.cons (.a "kids") .nil))),
 .iff (.cmp .isin (.a "node") (.C (.a "self") "numbers")) [.ret (.sub (.C (.a "self") "numbers") (.a "node"))] [],
 .xE (.m (.a "self") "require" (.cons (.a "op") .nil)),
 .for ["kid"] (.of (.from (.a "node") (.e (.int 1)))) [.iff (.not (.cmp2 .le .lt (.e (.int 0)) (.a "kid") (.bi .len (.cons (.C (.a "self") "nodes") .nil)))) [.dead] []],
 .k (.sub (.C (.a "self") "numbers") (.a "node")) (.bi .len (.cons (.C (.a "self") "nodes") .nil)),
 .xE (.m (.C (.a "self") "nodes") "append" (.cons (.a "node") .nil)),
 .xE (.m (.C (.a "self") "weights") "append" (.cons (.bin .add (.e (.int 1)) (.bi .sum (.cons (.Q (.cons ["kid"] (.of (.from (.a "node") (.e (.int 1)))) .nil (.elt (.sub (.C (.a "self") "weights") (.a "kid"))))) .nil))) .nil)),
 .xE (.m (.C (.a "self") "depths") "append" (.cons (.bin .add (.e (.int 1)) (.bi .max (.cons (.bin .add (.Q (.cons ["kid"] (.of (.from (.a "node") (.e (.int 1)))) .nil (.elt (.sub (.C (.a "self") "depths") (.a "kid"))))) (.L (.cons (.e (.int 0)) .nil))) .nil))) .nil)),
 .ret (.bin .sub (.bi .len (.cons (.C (.a "self") "nodes") .nil)) (.e (.int 1)))]⟩def SQ:FD:=⟨["self","op"],[.iff (.or (.not (.call "is_op" (.cons (.a "op") .nil))) (.cmp .eq (.sub (.a "op") (.e (.int 0))) (.str "?"))) [.dead] []]⟩def TY:FD:=⟨["self","n"],[.ret (.sub (.sub (.C (.a "self") "nodes") (.a "n")) (.e (.int 0)))]⟩def Tk:FD:=⟨["self","n"],[.ret (.from (.sub (.C (.a "self") "nodes") (.a "n")) (.e (.int 1)))]⟩
def RT:FD:=⟨["rows"],[.k (.a "found") (.D [] .nil),
 .for ["row"] (.of (.a "rows")) [.k (.a "here") (.a "found"),
  .for ["v"] (.of (.a "row")) [.k (.a "here") (.m (.a "here") "setdefault" (.cons (.a "v") (.cons (.D [] .nil) .nil)))]],
 .ret (.a "found")]⟩
def SZ:FD:=⟨["self","heap"],[.k (.C (.a "self") "rows") (.D [] .nil),
 .for ["c"] (.of (.m (.a "heap") "classes" .nil)) [.for ["node"] (.of (.m (.a "heap") "nodes_of" (.cons (.a "c") .nil))) [.xE (.m (.m (.C (.a "self") "rows") "setdefault" (.cons (.B (.cons (.sub (.a "node") (.e (.int 0))) (.cons (.bi .len (.cons (.a "node") .nil)) .nil))) (.cons (.L .nil) .nil))) "append" (.cons (.bin .add (.B (.cons (.a "c") .nil)) (.from (.a "node") (.e (.int 1)))) .nil))]]]⟩def UA:FD:=⟨["self","op","many"],[.ret (.m (.C (.a "self") "rows") "get" (.cons (.B (.cons (.a "op") (.cons (.a "many") .nil))) (.cons (.L .nil) .nil)))]⟩
def RB:FD:=⟨["self","op","names","order"],[.k (.a "kept") (.Q (.cons ["row"] (.of (.m (.a "self") "table" (.cons (.a "op") (.cons (.bi .len (.cons (.a "names") .nil)) .nil)))) (.cons (.cmp .eq (.Q (.cons ["k"] (.range (.bi .len (.cons (.a "names") .nil))) (.cons (.cmp .ne (.sub (.a "row") (.a "k")) (.sub (.a "row") (.m (.a "names") "index" (.cons (.sub (.a "names") (.a "k")) .nil)))) .nil) (.elt (.a "k")))) (.L .nil)) .nil) (.elt (.a "row")))),
 .k (.a "places") (.Q (.cons ["name"] (.of (.a "order")) (.cons (.cmp .isin (.a "name") (.a "names")) .nil) (.elt (.m (.a "names") "index" (.cons (.a "name") .nil))))),
 .ret (.call "trie_of" (.cons (.Q (.cons ["row"] (.of (.a "kept")) .nil (.elt (.bi .tuple (.cons (.Q (.cons ["k"] (.of (.a "places")) .nil (.elt (.sub (.a "row") (.a "k"))))) .nil))))) .nil))]⟩
def Ue:FD:=⟨["self","heap"],[.k (.C (.a "self") "classes") (.m (.a "heap") "classes" .nil),
 .k (.C (.a "self") "tables") (.new "Tables" (.cons (.a "heap") .nil))]⟩
def Em:FD:=⟨["self","atoms","order"],[.uP ["found","waiting"] (.B (.cons (.L .nil) (.cons (.L (.cons (.B (.cons (.B .nil) (.cons (.bi .tuple (.cons (.Q (.cons ["op","names"] (.of (.a "atoms")) .nil (.elt (.m (.C (.a "self") "tables") "trie" (.cons (.a "op") (.cons (.a "names") (.cons (.a "order") .nil))))))) .nil)) .nil))) .nil)) .nil))),
 .while (.cmp .gt (.bi .len (.cons (.a "waiting") .nil)) (.e (.int 0))) [.uP ["values","tries"] (.m (.a "waiting") "pop" .nil),
  .iff (.cmp .eq (.bi .len (.cons (.a "values") .nil)) (.bi .len (.cons (.a "order") .nil))) [.xE (.m (.a "found") "append" (.cons (.bi .dZ (.cons (.a "order") (.cons (.a "values") .nil))) .nil))] [.k (.a "users") (.Q (.cons ["k"] (.range (.bi .len (.cons (.a "atoms") .nil))) (.cons (.cmp .isin (.sub (.a "order") (.bi .len (.cons (.a "values") .nil))) (.sub (.sub (.a "atoms") (.a "k")) (.e (.int 1)))) .nil) (.elt (.a "k")))),
   .for ["v"] (.of (.m (.a "self") "shared" (.cons (.Q (.cons ["k"] (.of (.a "users")) .nil (.elt (.sub (.a "tries") (.a "k"))))) .nil))) [.k (.a "late") (.Q (.cons ["k"] (.range (.bi .len (.cons (.a "atoms") .nil))) .nil (.elt (.ite (.cmp .isin (.a "k") (.a "users")) (.sub (.sub (.a "tries") (.a "k")) (.a "v")) (.sub (.a "tries") (.a "k")))))),
    .xE (.m (.a "waiting") "append" (.cons (.B (.cons (.bin .add (.a "values") (.B (.cons (.a "v") .nil))) (.cons (.bi .tuple (.cons (.a "late") .nil)) .nil))) .nil))]]],
 .ret (.a "found")]⟩
def Sg:FD:=⟨["self","tries"],[.k (.a "least") (.sub (.bi .min (.cons (.Q (.cons ["k","trie"] (.enum (.a "tries")) .nil (.elt (.B (.cons (.bi .len (.cons (.a "trie") .nil)) (.cons (.a "k") .nil)))))) .nil)) (.e (.int 1))),
 .ret (.Q (.cons ["v"] (.of (.sub (.a "tries") (.a "least"))) (.cons (.cmp .eq (.Q (.cons ["trie"] (.of (.a "tries")) (.cons (.cmp .notin (.a "v") (.a "trie")) .nil) (.elt (.a "trie")))) (.L .nil)) .nil) (.elt (.a "v"))))]⟩
def TK:FD:=⟨["self"],[.k (.C (.a "self") "above") (.L .nil),
 .k (.C (.a "self") "lots") (.L .nil),
 .k (.C (.a "self") "merged") (.L .nil)]⟩
def RQ:FD:=⟨["self"],[.xE (.m (.C (.a "self") "above") "append" (.cons (.bi .len (.cons (.C (.a "self") "above") .nil)) .nil)),
 .xE (.m (.C (.a "self") "lots") "append" (.cons (.L (.cons (.bi .len (.cons (.C (.a "self") "lots") .nil)) .nil)) .nil)),
 .ret (.bin .sub (.bi .len (.cons (.C (.a "self") "above") .nil)) (.e (.int 1)))]⟩def Ui:FD:=⟨["self"],[.ret (.bi .len (.cons (.C (.a "self") "above") .nil))]⟩
def SY:FD:=⟨["self","a"],[.while (.cmp .ne (.sub (.C (.a "self") "above") (.a "a")) (.a "a")) [.k (.a "a") (.sub (.C (.a "self") "above") (.a "a"))],
 .ret (.a "a")]⟩
def TH:FD:=⟨["self","a","b"],[.uP ["kept","gone"] (.bi .sorted (.cons (.L (.cons (.m (.a "self") "find" (.cons (.a "a") .nil)) (.cons (.m (.a "self") "find" (.cons (.a "b") .nil)) .nil))) .nil)),
 .iff (.cmp .eq (.a "kept") (.a "gone")) [.ret (.e .none)] [],
 .k (.sub (.C (.a "self") "above") (.a "gone")) (.a "kept"),
 .xE (.m (.sub (.C (.a "self") "lots") (.a "kept")) "extend" (.cons (.sub (.C (.a "self") "lots") (.a "gone")) .nil)),
 .xE (.m (.C (.a "self") "merged") "append" (.cons (.B (.cons (.a "kept") (.cons (.a "gone") .nil))) .nil)),
 .ret (.B (.cons (.a "kept") (.cons (.a "gone") .nil)))]⟩def RV:FD:=⟨["self","a"],[.ret (.bi .sorted (.cons (.sub (.C (.a "self") "lots") (.m (.a "self") "find" (.cons (.a "a") .nil))) .nil))]⟩def Uh:FD:=⟨["self"],[.ret (.Q (.cons ["a"] (.range (.bi .len (.cons (.C (.a "self") "above") .nil))) (.cons (.cmp .eq (.sub (.C (.a "self") "above") (.a "a")) (.a "a")) .nil) (.elt (.a "a"))))]⟩
def SC:FD:=⟨["self"],[.k (.C (.a "self") "bank") (.new "Bank" .nil),
 .k (.C (.a "self") "unions") (.new "Unions" .nil),
 .k (.C (.a "self") "edges") (.L .nil),
 .k (.C (.a "self") "forest") (.L .nil),
 .k (.C (.a "self") "known") (.D [] .nil),
 .k (.C (.a "self") "above") (.D [] .nil),
 .k (.C (.a "self") "waiting") (.L .nil),
 .k (.C (.a "self") "backs") (.e (.int 0))]⟩def Rl:FD:=⟨["self","n"],[.ret (.bin .add (.B (.cons (.m (.C (.a "self") "bank") "op" (.cons (.a "n") .nil)) .nil)) (.bi .tuple (.cons (.Q (.cons ["kid"] (.of (.m (.C (.a "self") "bank") "kids" (.cons (.a "n") .nil))) .nil (.elt (.m (.a "self") "find" (.cons (.a "kid") .nil))))) .nil)))]⟩
def Ts:FD:=⟨["self","op","numbers"],[.k (.a "n") (.m (.C (.a "self") "bank") "take" (.cons (.a "op") (.cons (.a "numbers") .nil))),
 .iff (.cmp .lt (.a "n") (.m (.C (.a "self") "unions") "size" .nil)) [.ret (.a "n")] [],
 .xE (.m (.C (.a "self") "unions") "make" .nil),
 .k (.sub (.C (.a "self") "above") (.a "n")) (.L .nil),
 .for ["c"] (.of (.bi .sS (.cons (.Q (.cons ["kid"] (.of (.a "numbers")) .nil (.elt (.m (.a "self") "find" (.cons (.a "kid") .nil))))) .nil))) [.xE (.m (.sub (.C (.a "self") "above") (.a "c")) "append" (.cons (.a "n") .nil))],
 .xE (.m (.a "self") "look_at" (.cons (.a "n") .nil)),
 .ret (.a "n")]⟩def dF:FD:=⟨["self","term"],[.ret (.m (.a "self") "add" (.cons (.sub (.a "term") (.e (.int 0))) (.cons (.bi .tuple (.cons (.Q (.cons ["part"] (.of (.from (.a "term") (.e (.int 1)))) .nil (.elt (.m (.a "self") "put" (.cons (.a "part") .nil))))) .nil)) .nil)))]⟩
def Ua:FD:=⟨["self","n"],[.k (.a "other") (.m (.C (.a "self") "known") "setdefault" (.cons (.m (.a "self") "node" (.cons (.a "n") .nil)) (.cons (.a "n") .nil))),
 .iff (.cmp .ne (.m (.a "self") "find" (.cons (.a "other") .nil)) (.m (.a "self") "find" (.cons (.a "n") .nil))) [.xE (.m (.a "self") "join" (.cons (.a "other") (.cons (.a "n") (.cons (.B (.cons (.str "like") .nil)) .nil))))] []]⟩def Tm:FD:=⟨["self","n"],[.ret (.m (.C (.a "self") "unions") "find" (.cons (.a "n") .nil))]⟩def gT:FD:=⟨["self","a","b","reason"],[.ret (.m (.a "self") "join" (.cons (.a "a") (.cons (.a "b") (.cons (.a "reason") .nil))))]⟩
def UL:FD:=⟨["self","a","b","reason"],[.xE (.m (.C (.a "self") "edges") "append" (.cons (.B (.cons (.a "a") (.cons (.a "b") (.cons (.a "reason") .nil)))) .nil)),
 .k (.a "merged") (.m (.C (.a "self") "unions") "merge" (.cons (.a "a") (.cons (.a "b") .nil))),
 .iff (.cmp .is (.a "merged") (.e .none)) [.ret (.e (.bool c8))] [],
 .uP ["kept","gone"] (.a "merged"),
 .xE (.m (.C (.a "self") "forest") "append" (.cons (.bin .sub (.bi .len (.cons (.C (.a "self") "edges") .nil)) (.e (.int 1))) .nil)),
 .xE (.m (.C (.a "self") "waiting") "extend" (.cons (.sub (.C (.a "self") "above") (.a "gone")) .nil)),
 .k (.sub (.C (.a "self") "above") (.a "kept")) (.bin .add (.sub (.C (.a "self") "above") (.a "kept")) (.m (.C (.a "self") "above") "pop" (.cons (.a "gone") .nil))),
 .ret (.e (.bool a8))]⟩def Sn:FD:=⟨["self"],[.while (.cmp .gt (.bi .len (.cons (.C (.a "self") "waiting") .nil)) (.e (.int 0))) [.xE (.m (.a "self") "look_at" (.cons (.m (.C (.a "self") "waiting") "pop" .nil) .nil))]]⟩def Uz:FD:=⟨["self"],[.ret (.m (.C (.a "self") "unions") "classes" .nil)]⟩def TV:FD:=⟨["self","c"],[.ret (.m (.C (.a "self") "unions") "members" (.cons (.a "c") .nil))]⟩def So:FD:=⟨["self","c"],[.ret (.bi .sS (.cons (.Q (.cons ["n"] (.of (.m (.a "self") "members" (.cons (.a "c") .nil))) .nil (.elt (.m (.a "self") "node" (.cons (.a "n") .nil))))) .nil))]⟩
def Sf:FD:=⟨["feed","many"],[.k (.a "spot") (.sub (.a "feed") (.str "spot")),
 .k (.sub (.a "feed") (.str "spot")) (.bin .add (.a "spot") (.e (.int 1))),
 .ret (.bin .mod (.ite (.cmp .lt (.a "spot") (.bi .len (.cons (.sub (.a "feed") (.str "cells")) .nil))) (.sub (.sub (.a "feed") (.str "cells")) (.a "spot")) (.bin .fdiv (.bin .add (.bin .add (.bin .mul (.bin .mul (.e (.int 3)) (.a "spot")) (.a "spot")) (.bin .mul (.e (.int 13)) (.a "spot"))) (.e (.int 4))) (.e (.int 2)))) (.a "many"))]⟩
def QB:FD:=⟨["feed","heap","rows","pairs"],[.for ["leaf"] (.of (.B (.cons (.str "a") (.cons (.str "b") .nil)))) [.xE (.m (.a "heap") "put" (.cons (.B (.cons (.a "leaf") .nil)) .nil)),
 .xE (.m (.a "rows") "append" (.cons (.B (.cons (.a "leaf") .nil)) .nil))],
 .for ["lap"] (.range (.call "_law_draw" (.cons (.a "feed") (.cons (.e (.int 7)) .nil)))) [.uP ["way","x","y"] (.B (.cons (.call "_law_draw" (.cons (.a "feed") (.cons (.e (.int 3)) .nil))) (.cons (.call "_law_draw" (.cons (.a "feed") (.cons (.bi .len (.cons (.a "rows") .nil)) .nil))) (.cons (.call "_law_draw" (.cons (.a "feed") (.cons (.bi .len (.cons (.a "rows") .nil)) .nil))) .nil)))),
  .iff (.cmp .eq (.a "way") (.e (.int 2))) [.xE (.m (.a "pairs") "append" (.cons (.B (.cons (.a "x") (.cons (.a "y") .nil))) .nil)),
   .xE (.m (.a "heap") "merge" (.cons (.a "x") (.cons (.a "y") (.cons (.B (.cons (.str "told") (.cons (.bin .add (.str "t") (.bi .str (.cons (.a "lap") .nil))) .nil))) .nil)))),
   .cont] [],
  .k (.a "node") (.ite (.cmp .eq (.a "way") (.e (.int 0))) (.B (.cons (.str "f") (.cons (.a "x") .nil))) (.B (.cons (.str "g") (.cons (.a "x") (.cons (.a "y") .nil))))),
  .k (.a "n") (.m (.a "heap") "add" (.cons (.sub (.a "node") (.e (.int 0))) (.cons (.from (.a "node") (.e (.int 1))) .nil))),
  .iff (.cmp .eq (.a "n") (.bi .len (.cons (.a "rows") .nil))) [.xE (.m (.a "rows") "append" (.cons (.a "node") .nil))] [],
  .iff (.cmp .ne (.sub (.a "rows") (.a "n")) (.a "node")) [.ret (.e (.bool c8))] []],
 .xE (.m (.a "heap") "settle" .nil),
 .ret (.e (.bool a8))]⟩
def RG:FD:=⟨["rows","pairs"],[.uP ["marks","goes_on"] (.B (.cons (.bi .lR (.cons (.bi .len (.cons (.a "rows") .nil)) .nil)) (.cons (.e (.bool a8)) .nil))),
 .while (.a "goes_on") [.uP ["goes_on","known"] (.B (.cons (.e (.bool c8)) (.cons (.D [] .nil) .nil))),
  .k (.a "due") (.bin .add (.a "pairs") (.Q (.cons ["n","row"] (.enum (.a "rows")) .nil (.elt (.B (.cons (.m (.a "known") "setdefault" (.cons (.bin .add (.B (.cons (.sub (.a "row") (.e (.int 0))) .nil)) (.bi .tuple (.cons (.Q (.cons ["kid"] (.of (.from (.a "row") (.e (.int 1)))) .nil (.elt (.sub (.a "marks") (.a "kid"))))) .nil))) (.cons (.a "n") .nil))) (.cons (.a "n") .nil))))))),
  .for ["a","b"] (.of (.a "due")) [.uP ["kept","gone"] (.B (.cons (.bi .min (.cons (.sub (.a "marks") (.a "a")) (.cons (.sub (.a "marks") (.a "b")) .nil))) (.cons (.bi .max (.cons (.sub (.a "marks") (.a "a")) (.cons (.sub (.a "marks") (.a "b")) .nil))) .nil))),
   .iff (.cmp .ne (.a "kept") (.a "gone")) [.uP ["marks","goes_on"] (.B (.cons (.Q (.cons ["mark"] (.of (.a "marks")) .nil (.elt (.ite (.cmp .eq (.a "mark") (.a "gone")) (.a "kept") (.a "mark"))))) (.cons (.e (.bool a8)) .nil)))] []]],
 .ret (.a "marks")]⟩
def QO:FD:=⟨["rows","marks","op","many"],[.k (.a "found") (.L .nil),
 .for ["n","row"] (.enum (.a "rows")) [.k (.a "line") (.bin .add (.B (.cons (.sub (.a "marks") (.a "n")) .nil)) (.bi .tuple (.cons (.Q (.cons ["kid"] (.of (.from (.a "row") (.e (.int 1)))) .nil (.elt (.sub (.a "marks") (.a "kid"))))) .nil))),
  .iff (.and (.cmp .eq (.sub (.a "row") (.e (.int 0))) (.a "op")) (.and (.cmp .eq (.bi .len (.cons (.a "line") .nil)) (.a "many")) (.cmp .notin (.a "line") (.a "found")))) [.xE (.m (.a "found") "append" (.cons (.a "line") .nil))] []],
 .ret (.a "found")]⟩
def TG:FD:=⟨["feed"],[.k (.a "found") (.L .nil),
 .for ["lap"] (.range (.bin .add (.e (.int 1)) (.call "_law_draw" (.cons (.a "feed") (.cons (.e (.int 3)) .nil))))) [.uP ["op","many"] (.sub (.L (.cons (.B (.cons (.str "f") (.cons (.e (.int 2)) .nil))) (.cons (.B (.cons (.str "g") (.cons (.e (.int 3)) .nil))) (.cons (.B (.cons (.str "f") (.cons (.e (.int 2)) .nil))) (.cons (.B (.cons (.str "g") (.cons (.e (.int 3)) .nil))) (.cons (.B (.cons (.str "a") (.cons (.e (.int 1)) .nil))) (.cons (.B (.cons (.str "z") (.cons (.e (.int 2)) .nil))) .nil))))))) (.call "_law_draw" (.cons (.a "feed") (.cons (.e (.int 6)) .nil)))),
  .xE (.m (.a "found") "append" (.cons (.B (.cons (.a "op") (.cons (.bi .tuple (.cons (.Q (.cons ["k"] (.range (.a "many")) .nil (.elt (.sub (.str "xyzw") (.call "_law_draw" (.cons (.a "feed") (.cons (.e (.int 4)) .nil))))))) .nil)) .nil))) .nil))],
 .ret (.a "found")]⟩
def Ra:FD:=⟨["env","names","line"],[.k (.a "found") (.bi .dict (.cons (.a "env") .nil)),
 .for ["name","worth"] (.zip (.a "names") (.a "line")) [.iff (.cmp .ne (.m (.a "found") "setdefault" (.cons (.a "name") (.cons (.a "worth") .nil))) (.a "worth")) [.ret (.e .none)] []],
 .ret (.a "found")]⟩
def TS:FD:=⟨["rows","marks","asked"],[.k (.a "envs") (.L (.cons (.D [] .nil) .nil)),
 .for ["op","names"] (.of (.a "asked")) [.k (.a "table") (.call "_law_table" (.cons (.a "rows") (.cons (.a "marks") (.cons (.a "op") (.cons (.bi .len (.cons (.a "names") .nil)) .nil))))),
  .k (.a "late") (.Q (.cons ["env"] (.of (.a "envs")) .nil (.cons ["line"] (.of (.a "table")) .nil (.elt (.call "_law_fitted" (.cons (.a "env") (.cons (.a "names") (.cons (.a "line") .nil)))))))),
  .k (.a "envs") (.Q (.cons ["env"] (.of (.a "late")) (.cons (.cmp .isnot (.a "env") (.e .none)) .nil) (.elt (.a "env"))))],
 .ret (.bi .sS (.cons (.Q (.cons ["env"] (.of (.a "envs")) .nil (.elt (.bi .tuple (.cons (.bi .sI (.cons (.a "env") .nil)) .nil))))) .nil))]⟩
def w9:FD:=⟨["script"],[.k (.a "feed") (.D ["cells","spot"] (.cons (.Q (.cons ["cell"] (.of (.to (.a "script") (.e (.int 48)))) .nil (.elt (.bin .mod (.bi .int (.cons (.a "cell") .nil)) (.e (.int 1000003)))))) (.cons (.e (.int 0)) .nil))),
 .uP ["heap","rows","pairs"] (.B (.cons (.new "Heap" .nil) (.cons (.L .nil) (.cons (.L .nil) .nil)))),
 .iff (.not (.call "_law_built" (.cons (.a "feed") (.cons (.a "heap") (.cons (.a "rows") (.cons (.a "pairs") .nil)))))) [.ret (.e (.bool c8))] [],
 .uP ["asked","joins"] (.B (.cons (.call "_law_asked" (.cons (.a "feed") .nil)) (.cons (.new "Joins" (.cons (.a "heap") .nil)) .nil))),
 .k (.a "some") (.bi .sS (.cons (.Q (.cons ["op","names"] (.of (.a "asked")) .nil (.cons ["name"] (.of (.a "names")) .nil (.elt (.a "name"))))) .nil)),
 .uP ["turn","due"] (.B (.cons (.call "_law_draw" (.cons (.a "feed") (.cons (.bi .len (.cons (.a "some") .nil)) .nil))) (.cons (.call "_law_due" (.cons (.a "rows") (.cons (.call "_law_marks" (.cons (.a "rows") (.cons (.a "pairs") .nil))) (.cons (.a "asked") .nil)))) .nil))),
 .for ["order"] (.of (.L (.cons (.bin .add (.from (.a "some") (.a "turn")) (.to (.a "some") (.a "turn"))) (.cons (.rev (.a "some")) .nil)))) [.k (.a "found") (.Q (.cons ["env"] (.of (.m (.a "joins") "joined" (.cons (.a "asked") (.cons (.a "order") .nil)))) .nil (.elt (.bi .tuple (.cons (.bi .sI (.cons (.a "env") .nil)) .nil))))),
  .iff (.cmp .ne (.bi .sorted (.cons (.a "found") .nil)) (.a "due")) [.ret (.e (.bool c8))] []],
 .ret (.cmp .eq (.Q (.cons ["op","names"] (.of (.to (.a "asked") (.e (.int 1)))) .nil (.cons ["pair"] (.of (.m (.C (.a "joins") "tables") "table" (.cons (.a "op") (.cons (.bi .len (.cons (.a "names") .nil)) .nil)))) .nil (.elt (.a "pair"))))) (.bi .sorted (.cons (.call "_law_table" (.cons (.a "rows") (.cons (.call "_law_marks" (.cons (.a "rows") (.cons (.a "pairs") .nil))) (.cons (.sub (.sub (.a "asked") (.e (.int 0))) (.e (.int 0))) (.cons (.bi .len (.cons (.sub (.sub (.a "asked") (.e (.int 0))) (.e (.int 1))) .nil)) .nil))))) .nil)))]⟩def aD:a7 ((j3×j3)×FD):=[(("","is_op"),MV),(("Bank","__init__"),Ry),(("Bank","take"),Sk),(("Bank","require"),SQ),(("Bank","op"),TY),(("Bank","kids"),Tk),(("","trie_of"),RT),(("Tables","__init__"),SZ),(("Tables","table"),UA),(("Tables","trie"),RB),(("Joins","__init__"),Ue),(("Joins","joined"),Em),(("Joins","shared"),Sg),(("Unions","__init__"),TK),(("Unions","make"),RQ),(("Unions","size"),Ui),(("Unions","find"),SY),(("Unions","merge"),TH),(("Unions","members"),RV),(("Unions","classes"),Uh),(("Heap","__init__"),SC),(("Heap","node"),Rl),(("Heap","add"),Ts),(("Heap","put"),dF),(("Heap","look_at"),Ua),(("Heap","find"),Tm),(("Heap","merge"),gT),(("Heap","join"),UL),(("Heap","settle"),Sn),(("Heap","classes"),Uz),(("Heap","members"),TV),(("Heap","nodes_of"),So),(("","_law_draw"),Sf),(("","_law_built"),QB),(("","_law_marks"),RG),(("","_law_table"),QO),(("","_law_asked"),TG),(("","_law_fitted"),Ra),(("","_law_due"),TS),(("","law"),w9)]def u8:RA:=λc f=>aD.lookup (c,f)
end Internal
set_option backward.defeqAttrib.useBackward true
namespace Internal
def oV(o:j0 b0)(Q:Q1)(st:St):Prop:=match o with|some v=>Q v st|none=>k6
def oB(o:j0 b7)(Q:b7->St->Prop)(st:St):Prop:=match o with|some v=>Q v st|none=>k6
def oI(o:j0 It)(Q:It->St->Prop)(st:St):Prop:=match o with|some v=>Q v st|none=>k6
def oE(o:j0 Env)(K:Env->Prop):Prop:=match o with|some v=>K v|none=>k6
def oS(o:j0 St)(K:St->Prop):Prop:=match o with|some v=>K v|none=>k6
section
variable(C:Cl)
def kA(f:j3)(Q:Q1):Q1:=λd st=>oV (G8 st d f) Q st
def RS(d:b0)(Q:Q1):Q1:=λk st=>oV (J9 d k st) Q st
def kU(i:X)(ρ:Env)(Q:Q1):Q1:=λd st=>W C i ρ st (RS d Q)def TZ(d:b0)(Q:Q1):Q1:=λk st=>match k with| .int k=>o8 (Eh d k st) Q|_=>k6
def bW(i:X)(ρ:Env)(Q:Q1):Q1:=λd st=>W C i ρ st (TZ d Q)def QQ(d:b0)(Q:Q1):Q1:=λk st=>match k with| .int k=>o8 (Er d k st) Q|_=>k6
def dR(i:X)(ρ:Env)(Q:Q1):Q1:=λd st=>W C i ρ st (QQ d Q)def dY(Q:Q1):Q1:=λd st=>o8 (Fi d st) Q
def ZN(Q:Q1):a7 b0->St->Prop:=λds st=>Q (.B ds) st
def Tq(Q:Q1):a7 b0->St->Prop:=λds st=>Q (.ref st.n) (st.A (.L ds))def Ym(ks:a7 j3)(Q:Q1):a7 b0->St->Prop:=λds st=>Q (.ref st.n) (st.A (.D ((ks.map q9).zip ds) ks.length))def UB(o:Ei)(x:b0)(Q:Q1):Q1:=λy st=>o8 (V3 o x y st) Q
def bV(o:Ei)(b:X)(ρ:Env)(Q:Q1):Q1:=λx st=>W C b ρ st (UB o x Q)def eM(Q:Q1):b7->St->Prop:=λb st=>Q (.bool !b) st
def Sa(b:X)(ρ:Env)(Q:Q1):Q1:=λd st=>match d with| .bool a8=>W C b ρ st Q| .bool c8=>Q (.bool c8) st|_=>k6
def Ud(b:X)(ρ:Env)(Q:Q1):Q1:=λd st=>match d with| .bool a8=>Q (.bool a8) st| .bool c8=>W C b ρ st Q|_=>k6
def kB(Q:Q1):b7->St->Prop:=λv st=>Q (.bool v) st
def KH(o:Dz)(x:b0)(Q:b7->St->Prop):Q1:=λy st=>oB (B5 o x y st) Q st
def kC(o:Dz)(b:X)(ρ:Env)(Q:b7->St->Prop):Q1:=λx st=>W C b ρ st (KH o x Q)def Oo(p:Dz)(c:X)(ρ:Env)(y:b0)(Q:b7->St->Prop):b7->St->Prop:=λv st=>match v with|true=>W C c ρ st (KH p y Q)|false=>Q c8 st
def TR(o p:Dz)(c:X)(ρ:Env)(x:b0)(Q:b7->St->Prop):Q1:=λy st=>oB (B5 o x y st) (Oo C p c ρ y Q) st
def kD(o p:Dz)(b c:X)(ρ:Env)(Q:b7->St->Prop):Q1:=λx st=>W C b ρ st (TR C o p c ρ x Q)def Tl(a b:X)(ρ:Env)(Q:Q1):b7->St->Prop:=λt st=>match t with|true=>W C a ρ st Q|false=>W C b ρ st Q
def Xk(f:Bi)(Q:Q1):a7 b0->St->Prop:=λds st=>o8 (M3 f ds st) Q
def SU(c f:j3)(Q:Q1):a7 b0->St->Prop:=λds st=>C c f ds st Q
def QH(n:a6)(Q:Q1):Q1:=λd st'=>match d with| .none=>Q (.ref (n+1)) st'|_=>k6
def fD(c:j3)(Q:Q1):a7 b0->St->Prop:=λds st=>C c "__init__" (.ref (st.n+1)::ds) ((st.A (.fld [])).A (.I c st.n)) (QH st.n Q)def Oc(c m:j3)(d:b0)(Q:Q1):a7 b0->St->Prop:=λds st=>C c m (d::ds) st Q
def Lb(k:a6)(m:j3)(d:b0)(Q:Q1):a7 b0->St->Prop:=λds st'=>P8 st' d=k/\o8 (Ac m d ds st') Q
def oM(o:j0 (j3×a6))(m:j3)(es:Xs)(ρ:Env)(Q:Q1)(d:b0)(st:St):Prop:=match o with
 |some (c,_)=>noFld st d m/\c≠""/\(BO c).contains m=a8/\Ws C es ρ st (Oc C c m d Q)
 |none=>AX (P8 st d) m=a8/\Ws C es ρ st (Lb (P8 st d) m d Q)def kM(m:j3)(es:Xs)(ρ:Env)(Q:Q1):Q1:=λd st=>oM C (st.inst? d) m es ρ Q d st
def Tp(d:b0)(Q:a7 b0->St->Prop):a7 b0->St->Prop:=λds st=>Q (d::ds) st
def kX(r:Xs)(ρ:Env)(Q:a7 b0->St->Prop):Q1:=λd st=>Ws C r ρ st (Tp d Q)def YH(Q:b7->St->Prop):b7->St->Prop:=λb st=>Q (!b) st
def QU(b:X)(ρ:Env)(Q:b7->St->Prop):b7->St->Prop:=λt st=>match t with|true=>WT C b ρ st Q|false=>Q c8 st
def UH(b:X)(ρ:Env)(Q:b7->St->Prop):b7->St->Prop:=λt st=>match t with|true=>Q a8 st|false=>WT C b ρ st Q
def kT(Q:b7->St->Prop):Q1:=λd st=>match d with| .bool b=>Q b st|_=>k6
def kF(r:Xs)(ρ:Env)(Q:b7->St->Prop):b7->St->Prop:=λb st=>match b with|true=>Eg C r ρ st Q|false=>Q c8 st
def aH(Q:It->St->Prop):Q1:=λd st=>oI (BV d st) Q st
def eN(Q:It->St->Prop):Q1:=λd st=>match d with| .int n=>(if 0<=n/\n<=j8 then Q (.range 0 n) st else k6)|_=>k6
def oL(o:j0 (a7 b0))(K:Prop):Prop:=match o with|some _=>K|none=>k6
def fN(Q:It->St->Prop):Q1:=λd st=>oL (st.list? d) (Q (.enum 0 d) st)def Rg(x:b0)(Q:It->St->Prop):Q1:=λy st=>match st.items? x,st.items? y with|some _,a0 _=>Q (.zip x y 0) st|_,_=>k6
def kZ(b:X)(ρ:Env)(Q:It->St->Prop):Q1:=λx st=>W C b ρ st (Rg x Q)def XH(acc:a7 b0)(Q:a7 b0->St->Prop):Q1:=λv st=>acc.length<=j8/\Q (acc++[v]) st
def NG(r:Gs)(ρ:Env)(acc:a7 b0)(k:a7 b0->St->Prop):b7->St->Prop:=λb st=>match b with|true=>WG C r ρ ρ st acc k|false=>k acc st
def UJ(ifs:Xs)(r:Gs)(st:St)(acc:a7 b0)(k:a7 b0->St->Prop):Env->Prop:=λρ'=>Eg C ifs ρ' st (NG C r ρ' acc k)def gS(p:a7 j3)(ifs:Xs)(r:Gs)(ρ:Env)(d:b0)(st:St)(acc:a7 b0)(k:a7 b0->St->Prop):Prop:=oE (AD p d ρ) (UJ C ifs r st acc k)def kG(p:a7 j3)(ifs:Xs)(r:Gs)(ρ:Env)(acc:a7 b0)(Q:a7 b0->St->Prop):It->St->Prop:=λit st=>∃n,Bm (gS C p ifs r ρ) n it st acc Q
def KT(ρ:Env)(Q:QS):Q1:=λd st=>match d with| .ref _=>k6| .B _=>k6| .ro _=>k6|_=>Q .next ρ st
def kN(ρ:Env)(Q:QS):St->Prop:=λst=>Q .next ρ st
def Rh(f:j3)(v:b0)(ρ:Env)(Q:QS):Q1:=λd st=>oS (setField st d f v) (kN ρ Q)def QA(d v:b0)(ρ:Env)(Q:QS):Q1:=λk st=>oS (setItem st d k v) (kN ρ Q)def SP(i:X)(v:b0)(ρ:Env)(Q:QS):Q1:=λd st=>W C i ρ st (QA d v ρ Q)
def Nc(t:Tg)(ρ:Env)(Q:QS):Q1:=λv st=>match t with
 | .a x=>Q .next (ρ.set x v) st
 | .C o f=>W C o ρ st (Rh f v ρ Q)
 | .sub o i=>W C o ρ st (SP C i v ρ Q)def kE(st:St)(Q:QS):Env->Prop:=λρ=>Q .next ρ st
def Yg(ps:a7 j3)(ρ:Env)(Q:QS):Q1:=λd st=>oE (Cj ps d st ρ) (kE st Q)def aY(ρ:Env)(Q:QS):Q1:=λd st=>Q (.ret d) ρ st
def QT(a b:a7 S)(ρ:Env)(Q:QS):b7->St->Prop:=λt st=>match t with|true=>G4 C a ρ st Q|false=>G4 C b ρ st Q
def TP(b:a7 S)(st:St)(k:QS):Env->Prop:=λρ'=>G4 C b ρ' st k
def sS(p:a7 j3)(b:a7 S)(d:b0)(ρ:Env)(st:St)(k:QS):Prop:=oE (AD p d ρ) (TP C b st k)def Sx(p:a7 j3)(b:a7 S)(ρ:Env)(Q:QS):It->St->Prop:=λit st=>∃n,DC (sS C p b) n it ρ st Q
def kS(r:a7 S)(Q:QS):QS:=λf ρ st=>match f with| .next=>G4 C r ρ st Q|f=>Q f ρ st
end
theorem Z1:W C (.e d) ρ st Q=Q d st:=rfl
theorem Z2:W C (.str f) ρ st Q=Q (q9 f) st:=rfl
theorem Z3:W C (.a f) ρ st Q=oV (ρ f) Q st:=rfl
theorem Z4:W C (.C e f) ρ st Q=W C e ρ st (kA f Q):=rfl
theorem Z5:kA f Q d st=oV (G8 st d f) Q st:=rfl
theorem Z6:W C (.sub e i) ρ st Q=W C e ρ st (kU C i ρ Q):=rfl
theorem Z7:kU C i ρ Q d st=W C i ρ st (RS d Q):=rfl
theorem Z8:RS d Q v st=oV (J9 d v st) Q st:=rfl
theorem Z9:W C (.to e i) ρ st Q=W C e ρ st (bW C i ρ Q):=rfl
theorem Z10:bW C i ρ Q d st=W C i ρ st (TZ d Q):=rfl
theorem Z11:TZ d Q (.int n) st=o8 (Eh d n st) Q:=rfl
theorem Z12:W C (.from e i) ρ st Q=W C e ρ st (dR C i ρ Q):=rfl
theorem Z13:dR C i ρ Q d st=W C i ρ st (QQ d Q):=rfl
theorem Z14:QQ d Q (.int n) st=o8 (Er d n st) Q:=rfl
theorem Z15:W C (.rev e) ρ st Q=W C e ρ st (dY Q):=rfl
theorem Z16:dY Q d st=o8 (Fi d st) Q:=rfl
theorem Z17:W C (.B es) ρ st Q=Ws C es ρ st (ZN Q):=rfl
theorem Z18:ZN Q ds st=Q (.B ds) st:=rfl
theorem Z19:W C (.L es) ρ st Q=Ws C es ρ st (Tq Q):=rfl
theorem Z20:Tq Q ds st=Q (.ref st.n) (st.A (.L ds)):=rfl
theorem Z21:W C (.D ps es) ρ st Q=Ws C es ρ st (Ym ps Q):=rfl
theorem Z22:Ym ps Q ds st=Q (.ref st.n) (st.A (.D ((ps.map q9).zip ds) ps.length)):=rfl
theorem Z23:W C (.bin g a b) ρ st Q=W C a ρ st (bV C g b ρ Q):=rfl
theorem Z24:bV C g b ρ Q d st=W C b ρ st (UB g d Q):=rfl
theorem Z25:UB g d Q v st=o8 (V3 g d v st) Q:=rfl
theorem Z26:W C (.not e) ρ st Q=WT C e ρ st (eM Q):=rfl
theorem Z27:eM Q t' st=Q (.bool !t') st:=rfl
theorem Z28:W C (.and a b) ρ st Q=W C a ρ st (Sa C b ρ Q):=rfl
theorem Z29:Sa C b ρ Q (.bool a8) st=W C b ρ st Q:=rfl
theorem Z30:Sa C b ρ Q (.bool c8) st=Q (.bool c8) st:=rfl
theorem Z31:W C (.or a b) ρ st Q=W C a ρ st (Ud C b ρ Q):=rfl
theorem Z32:Ud C b ρ Q (.bool a8) st=Q (.bool a8) st:=rfl
theorem Z33:Ud C b ρ Q (.bool c8) st=W C b ρ st Q:=rfl
theorem Z34:W C (.cmp o a b) ρ st Q=W C a ρ st (kC C o b ρ (kB Q)):=rfl
theorem Z35:kB Q t' st=Q (.bool t') st:=rfl
theorem Z36:kC C o b ρ B d st=W C b ρ st (KH o d B):=rfl
theorem Z37:KH o d B v st=oB (B5 o d v st) B st:=rfl
theorem Z38:W C (.cmp2 o p a b c) ρ st Q=W C a ρ st (kD C o p b c ρ (kB Q)):=by
 refine(?_:W C a ρ st _=W C a ρ st _);congr 1;funext x st;refine(?_:W C b ρ st _=W C b ρ st _);congr 1;funext y st;refine(?_:_=oB _ _ _);cases B5 o x y st with
 |none=>rfl
 |some t=>cases t<;>rfl
theorem Z39:kD C o p b c ρ B d st=W C b ρ st (TR C o p c ρ d B):=rfl
theorem Z40:TR C o p c ρ d B v st=oB (B5 o d v st) (Oo C p c ρ v B) st:=rfl
theorem Z41:Oo C p c ρ v B a8 st=W C c ρ st (KH p v B):=rfl
theorem Z42:Oo C p c ρ v B c8 st=B c8 st:=rfl
theorem Z43:W C (.ite c a b) ρ st Q=WT C c ρ st (Tl C a b ρ Q):=rfl
theorem Z44:Tl C a b ρ Q a8 st=W C a ρ st Q:=rfl
theorem Z45:Tl C a b ρ Q c8 st=W C b ρ st Q:=rfl
theorem Z46:W C (.Q G) ρ st Q=WG C G ρ (ρ.clear (".0"::G.tgts)) st [] (Tq Q):=rfl
theorem Z47:W C (.bi h es) ρ st Q=Ws C es ρ st (Xk h Q):=rfl
theorem Z48:Xk h Q ds st=o8 (M3 h ds st) Q:=rfl
theorem Z49:W C (.call f es) ρ st Q=Ws C es ρ st (SU C "" f Q):=rfl
theorem Z50:SU C m f Q ds st=C m f ds st Q:=rfl
theorem Z51:W C (.new m es) ρ st Q=Ws C es ρ st (fD C m Q):=rfl
theorem Z52:fD C m Q ds st=C m "__init__" (.ref (st.n+1)::ds) ((st.A (.fld [])).A (.I m st.n)) (QH st.n Q):=rfl
theorem Z53{n:a6}:QH n Q .none st=Q (.ref (n+1)) st:=rfl
theorem Z54:W C (.m e m es) ρ st Q=W C e ρ st (kM C m es ρ Q):=rfl
theorem Z55:kM C m es ρ Q d st=oM C (st.inst? d) m es ρ Q d st:=rfl
theorem Z56:oM C (a0 (f,k)) m es ρ Q d st=(noFld st d m/\f≠""/\(BO f).contains m=a8/\Ws C es ρ st (Oc C f m d Q)):=rfl
theorem Z57:oM C b4 m es ρ Q d st=(AX (P8 st d) m=a8/\Ws C es ρ st (Lb (P8 st d) m d Q)):=rfl
theorem Z58:Oc C f m d Q ds st=C f m (d::ds) st Q:=rfl
theorem Z59:Lb k m d Q ds st=(P8 st d=k/\o8 (Ac m d ds st) Q):=rfl
theorem Z60:Ws C .nil ρ st L=L [] st:=rfl
theorem Z61:Ws C (.cons e r) ρ st L=W C e ρ st (kX C r ρ L):=rfl
theorem Z62:kX C r ρ L d st=Ws C r ρ st (Tp d L):=rfl
theorem Z63:Tp d L ds st=L (d::ds) st:=rfl
theorem Z64:WT C (.not e) ρ st B=WT C e ρ st (YH B):=rfl
theorem Z65:YH B t' st=B (!t') st:=rfl
theorem Z66:WT C (.and a b) ρ st B=WT C a ρ st (QU C b ρ B):=rfl
theorem Z67:QU C b ρ B a8 st=WT C b ρ st B:=rfl
theorem Z68:QU C b ρ B c8 st=B c8 st:=rfl
theorem Z69:WT C (.or a b) ρ st B=WT C a ρ st (UH C b ρ B):=rfl
theorem Z70:UH C b ρ B a8 st=B a8 st:=rfl
theorem Z71:UH C b ρ B c8 st=WT C b ρ st B:=rfl
theorem Z72:WT C (.cmp o a b) ρ st B=W C a ρ st (kC C o b ρ B):=rfl
theorem Z73:WT C (.cmp2 o p a b c) ρ st B=W C a ρ st (kD C o p b c ρ B):=by
 refine(?_:W C a ρ st _=W C a ρ st _);congr 1;funext x st;refine(?_:W C b ρ st _=W C b ρ st _);congr 1;funext y st;refine(?_:_=oB _ _ _);cases B5 o x y st with
 |none=>rfl
 |some t=>cases t<;>rfl
theorem Z74:WT C (.a f) ρ st B=oV (ρ f) (kT B) st:=by
 conv=>lhs;whnf
 generalize ρ f=o;cases o with
 |none=>rfl
 |some d=>cases d<;>rfl
theorem Z75:kT B (.bool t') st=B t' st:=rfl
theorem Z76:WT C (.call f es) ρ st B=Ws C es ρ st (SU C "" f (kT B)):=rfl
theorem Z77:WT C (.m e m es) ρ st B=W C e ρ st (kM C m es ρ (kT B)):=rfl
theorem Z78:Eg C .nil ρ st B=B a8 st:=rfl
theorem Z79:Eg C (.cons e r) ρ st B=WT C e ρ st (kF C r ρ B):=rfl
theorem Z80:kF C r ρ B a8 st=Eg C r ρ st B:=rfl
theorem Z81:kF C r ρ B c8 st=B c8 st:=rfl
theorem Z82:WI C (.of e) ρ st I=W C e ρ st (aH I):=rfl
theorem Z83:aH I d st=oI (BV d st) I st:=rfl
theorem Z84:WI C (.range e) ρ st I=W C e ρ st (eN I):=rfl
theorem Z85:eN I (.int n) st=(if 0<=n/\n<=j8 then I (.range 0 n) st else k6):=rfl
theorem Z86:WI C (.enum e) ρ st I=W C e ρ st (fN I):=rfl
theorem Z87:fN I d st=oL (st.list? d) (I (.enum 0 d) st):=rfl
theorem Z88:WI C (.zip a b) ρ st I=W C a ρ st (kZ C b ρ I):=rfl
theorem Z89:kZ C b ρ I d st=W C b ρ st (Rg d I):=rfl
theorem Z90:Rg d I v st=(match st.items? d,st.items? v with|some _,a0 _=>I (.zip d v 0) st|_,_=>k6):=rfl
theorem Z91:WG C (.elt e) ρs ρ st acc L=W C e ρ st (XH acc L):=rfl
theorem Z92:XH acc L v st=(acc.length<=j8/\L (acc++[v]) st):=rfl
theorem Z93:WG C (.cons ps src ifs G) ρs ρ st acc L=WI C src ρs st (kG C ps ifs G ρ acc L):=by refine(?_:WI C src ρs st _=WI C src ρs st _);congr 1;funext it st;refine(?_:(∃n,Bm _ n it st acc L)=∃n,Bm _ n it st acc L);congr 1;funext n;congr 1;funext d st acc k;refine(?_:_=oE _ _);cases AD ps d ρ<;>rfl
theorem Z94:kG C ps ifs G ρ acc L it st=∃n,Bm (gS C ps ifs G ρ) n it st acc L:=rfl
theorem Z95:gS C ps ifs G ρ d st acc L=oE (AD ps d ρ) (UJ C ifs G st acc L):=rfl
theorem Z96:UJ C ifs G st acc L ρ=Eg C ifs ρ st (NG C G ρ acc L):=rfl
theorem Z97:NG C G ρ acc L a8 st=WG C G ρ ρ st acc L:=rfl
theorem Z98:NG C G ρ acc L c8 st=L acc st:=rfl
theorem Z99:WS C (.xE e) ρ st K=W C e ρ st (KT ρ K):=rfl
theorem Z100:KT ρ K .none st=K .next ρ st:=rfl
theorem Z101:KT ρ K (.bool t') st=K .next ρ st:=rfl
theorem Z102:KT ρ K (.int n) st=K .next ρ st:=rfl
theorem Z103:KT ρ K (.str l) st=K .next ρ st:=rfl
theorem Z104:WS C (.k t e) ρ st K=W C e ρ st (Nc C t ρ K):=rfl
theorem Z105:Nc C (.a f) ρ K v st=K .next (ρ.set f v) st:=rfl
theorem Z106:Nc C (.C e f) ρ K v st=W C e ρ st (Rh f v ρ K):=rfl
theorem Z107:Nc C (.sub e i) ρ K v st=W C e ρ st (SP C i v ρ K):=rfl
theorem Z108:Rh f v ρ K d st=oS (setField st d f v) (kN ρ K):=rfl
theorem Z109:SP C i v ρ K d st=W C i ρ st (QA d v ρ K):=rfl
theorem Z110:QA d v ρ K x st=oS (setItem st d x v) (kN ρ K):=rfl
theorem Z111:kN ρ K st=K .next ρ st:=rfl
theorem Z112:WS C (.uP ps e) ρ st K=W C e ρ st (Yg ps ρ K):=rfl
theorem Z113:Yg ps ρ K d st=oE (Cj ps d st ρ) (kE st K):=rfl
theorem Z114:kE st K ρ=K .next ρ st:=rfl
theorem Z115:WS C (.ret e) ρ st K=W C e ρ st (aY ρ K):=rfl
theorem Z116:aY ρ K d st=K (.ret d) ρ st:=rfl
theorem Z117:WS C (.iff c A D) ρ st K=WT C c ρ st (QT C A D ρ K):=rfl
theorem Z118:QT C A D ρ K a8 st=G4 C A ρ st K:=rfl
theorem Z119:QT C A D ρ K c8 st=G4 C D ρ st K:=rfl
theorem Z120:WS C (.while c D) ρ st K=∃n,IC (WT C c) (G4 C D) n ρ st K:=rfl
theorem Z121:WS C (.for ps src D) ρ st K=WI C src ρ st (Sx C ps D ρ K):=by refine(?_:WI C src ρ st _=WI C src ρ st _);congr 1;funext it st;refine(?_:(∃n,DC _ n it ρ st K)=∃n,DC _ n it ρ st K);congr 1;funext n;congr 1;funext d st acc k;refine(?_:_=oE _ _);cases AD ps d st<;>rfl
theorem Z122:Sx C ps D ρ K it st=∃n,DC (sS C ps D) n it ρ st K:=rfl
theorem Z123:sS C ps D d ρ st K=oE (AD ps d ρ) (TP C D st K):=rfl
theorem Z124:TP C D st K ρ=G4 C D ρ st K:=rfl
theorem Z125:WS C .cont ρ st K=K .cont ρ st:=rfl
theorem Z126:G4 C [] ρ st K=K .next ρ st:=rfl
theorem Z127:G4 C (s::D) ρ st K=WS C s ρ st (kS C D K):=rfl
theorem Z128:kS C D K .next ρ st=G4 C D ρ st K:=rfl
theorem Z129:kS C D K .cont ρ st=K .cont ρ st:=rfl
theorem Z130:kS C D K (.ret v) ρ st=K (.ret v) ρ st:=rfl
theorem Z131:oV (a0 v) Q st=Q v st:=rfl
theorem Z132:oB (a0 t') B st=B t' st:=rfl
theorem Z133:oI (a0 it) I st=I it st:=rfl
theorem Z134:oE (a0 ρ) F=F ρ:=rfl
theorem Z135:oS (a0 st) T=T st:=rfl
theorem Z136:oL (a0 xs) P=P:=rfl
theorem Z137:o8 (a0 (d,st)) Q=Q d st:=rfl
theorem oVs{o:j0 b0}(h:o=a0 v)(k:Q v st):oV o Q st:=h▸k
theorem oBs{o:j0 b7}(h:o=a0 t')(k:B t' st):oB o B st:=h▸k
theorem oIs{o:j0 It}(h:o=a0 it)(k:I it st):oI o I st:=h▸k
theorem oEs{o:j0 Env}(h:o=a0 ρ)(k:F ρ):oE o F:=h▸k
theorem oSs{o:j0 St}(h:o=a0 st)(k:T st):oS o T:=h▸k
theorem oLs{o:j0 (a7 b0)}(h:o=a0 xs)(k:P):oL o P:=h▸k
theorem oQs{o:j0 (b0×St)}(h:o=a0 (d,st))(k:Q d st):o8 o Q:=h▸k
theorem oMs{o:j0 (j3×a6)}(h:o=a0 (f,k))(q:noFld st d m/\f≠""/\(BO f).contains m=a8/\Ws C es ρ st (Oc C f m d Q)):oM C o m es ρ Q d st:=h▸q
theorem oMl{o:j0 (j3×a6)}(h:o=b4)(a:P8 st d=k)(b:AX k m=a8)(q:Ws C es ρ st (Lb k m d Q)):oM C o m es ρ Q d st:=by subst a;exact h▸⟨b,q⟩theorem k3s(a:P8 st d=k)(q:o8 (Ac m d ds st) Q):Lb k m d Q ds st:=⟨a,q⟩theorem Y38(h:W C a ρ st (kD C o p b c ρ (kB Q))):W C (.cmp2 o p a b c) ρ st Q:=Z38▸h
theorem Y73(h:W C a ρ st (kD C o p b c ρ B)):WT C (.cmp2 o p a b c) ρ st B:=Z73▸h
theorem Y74(h:oV (ρ f) (kT B) st):WT C (.a f) ρ st B:=Z74▸h
theorem Y93(h:WI C src ρs st (kG C ps ifs G ρ acc L)):WG C (.cons ps src ifs G) ρs ρ st acc L:=Z93▸h
theorem Y121(h:WI C src ρ st (Sx C ps D ρ K)):WS C (.for ps src D) ρ st K:=Z121▸h
def Dx(Q:Q1):QS:=λfl w0 st=>match fl with| .ret d=>Q d st| .next=>Q .none st| .cont=>k6
theorem Z138:Dx Q (.ret d) ρ st=Q d st:=rfl
theorem Z139:Dx Q .next ρ st=Q .none st:=rfl
def FK(ps:a7 j3)(ds:a7 b0):Env:=λx=>(ps.zip ds).lookup x
theorem envL_cons(p:j3)(ps:a7 j3)(d:b0)(a:a7 b0)(x:j3):FK (p::ps) (d::a) x=if x=p then a0 d else FK ps a x:=by
 unfold FK;rw[Ju,BL];by_cases h:x=p
 .rw[g0 h,show(x==p)=a8 from by simpa using h]
 .rw[j4 h,show(x==p)=c8 from by simpa using h]theorem envL_nil(x:j3):FK [] [] x=b4:=rfl
theorem set_ap(ρ:Env)(x:j3)(d:b0)(y:j3):(ρ.set x d) y=if y=x then a0 d else ρ y:=rfl
theorem clr_ap(ρ:Env)(xs:a7 j3)(y:j3):(ρ.clear xs) y=if xs.contains y=a8 then b4 else ρ y:=rfl
theorem bind1(x:j3)(d:b0)(ρ:Env):AD [x] d ρ=a0 (ρ.set x d):=rfl
theorem bind2(x y:j3)(v w:b0)(ρ:Env):AD [x,y] (.B [v,w]) ρ=a0 ((ρ.set x v).set y w):=rfl
theorem E3(a:u8 c f=a0 fd)(b:ds.length=fd.params.length)
 (h:G4 (u9 u8 k) fd.body (FK fd.params ds) st (Dx Q)):u9 u8 (k+1) c f ds st Q:=by
 conv=>whnf
 rw[a];dsimp only;rw[g0 b];exact h
theorem CT{c:b0->St->a7 b0->(a7 b0->St->Prop)->Prop}{nx:a6->It}{xs:a7 b0}{I:a6->St->a7 b0->Prop}{Q:a7 b0->St->Prop}
 (o:∀i st a,i<=xs.length->I i st a->(nx i).next st=a0 ((xs[i]?).map λx=>(x,nx (i+1))))
 (hs:∀i x st a k,xs[i]?=a0 x->I i st a->(∀d b,I (i+1) d b->k b d)->c x st a k)
 (q:∀st a,I xs.length st a->Q a st){st:St}{a:a7 b0}(r:I 0 st a):∃n,Bm c n (nx 0) st a Q:=by
 let g:∀j i st a,j+i=xs.length->I i st a->Bm c (j+1) (nx i) st a Q:=by
  intro j
  induction j with
  |zero=>
   intro i st a e f;let l:=(JB _).symm.trans e;clear e;subst l
   conv=>whnf
   rw[o _ st a (l8 _) f,Au (l8 _)];exact q st a f
  |succ j s=>
   intro i st a e f
   conv=>whnf
   let m:=eS e;let p:=v5 m;rw[o _ st a (e▸K9 _ _) f,p];exact hs i _ st a _ p f λd b h=>s (i+1) d b ((Y7 _ _ 1).trans e) h
 exact⟨_,g xs.length 0 st a (by solve_by_elim (maxDepth:=2)only[*,j7]) r⟩
theorem BF{c:b0->Env->St->QS->Prop}{nx:a6->It}{xs:a7 b0}{I:a6->Env->St->Prop}{Q:QS}
 (m:∀i ρ st,i<=xs.length->I i ρ st->(nx i).next st=a0 ((xs[i]?).map λx=>(x,nx (i+1))))
 (hs:∀i x ρ st(k:QS),xs[i]?=a0 x->I i ρ st->(∀a b,I (i+1) a b->k .next a b/\k .cont a b)->(∀v a b,Q (.ret v) a b->k (.ret v) a b)->c x ρ st k)
 (q:∀ρ st,I xs.length ρ st->Q .next ρ st){st:St}{ρ:Env}(r:I 0 ρ st):∃n,DC c n (nx 0) ρ st Q:=by
 let f:∀j i ρ st,j+i=xs.length->I i ρ st->DC c (j+1) (nx i) ρ st Q:=by
  intro j
  induction j with
  |zero=>
   intro i ρ st d e;let g:=(JB _).symm.trans d;clear d;subst g
   conv=>whnf
   rw[m _ ρ st (l8 _) e,Au (l8 _)];exact q ρ st e
  |succ j o=>
   intro i ρ st d e
   conv=>whnf
   let l:=eS d;let p:=v5 l;rw[m _ ρ st (d▸K9 _ _) e,p];exact hs i _ ρ st _ p e (λa b h=>⟨o (i+1) a b ((Y7 _ _ 1).trans d) h,o (i+1) a b ((Y7 _ _ 1).trans d) h⟩) λv a b h=>h
 exact⟨_,f xs.length 0 ρ st (by solve_by_elim (maxDepth:=2)only[*,j7]) r⟩
theorem NX{e:Env->St->(b7->St->Prop)->Prop}{body:Env->St->QS->Prop}{I:a6->Env->St->Prop}{Q:QS}
 (hs:∀m ρ a(K:Env->St->Prop),I m ρ a->(∀g c d,g<m->I g c d->K c d)->
  e ρ a (λb a=>match b with
   |false=>Q .next ρ a
   |true=>body ρ a (λf ρ a=>match f with
    | .ret v=>Q (.ret v) ρ a
    |_=>K ρ a))){ρ:Env}(p:I m ρ a):∃n,IC e body n ρ a Q:=by
 let l:∀j m ρ a,m<=j->I m ρ a->IC e body (j+1) ρ a Q:=by
  intro j
  induction j with
  |zero=>
   intro m ρ a i k
   conv=>whnf
   exact hs m ρ a _ k λg c d h r=>(X7 _ (j7 h i)).elim
  |succ j q=>
   intro m ρ a i k
   conv=>whnf
   exact hs m ρ a _ k λg c d h o=>q g c d (v0 (j7 h i)) o
 exact⟨_,l m m ρ a (l8 _) p⟩
end Internal
local macro_rules (kind:=Lean.Parser.Tactic.«tacticExists_,,»)
 |s=>Internal.MqmS s
namespace Internal
abbrev iD(n:a6):b0:=.int n
def d6(st:St)(a:a6)(xs:a7 b0):Prop:=a<st.n/\st.h a= .L xs
def m7(st:St)(a:a6)(es:a7 (b0×b0))(ep:a6):Prop:=a<st.n/\st.h a= .D es ep
def v4(st:St)(a:a6)(c:j3)(e:a6)(es:a7 (j3×b0)):Prop:=a<st.n/\st.h a= .I c e/\e<st.n/\st.h e= .fld es
section
variable{st:St}
theorem d6.list(h:d6 st a xs):st.list? (.ref a)=a0 xs:=by refine G6 h.1 ?_;rw[h.2]theorem d6.items(h:d6 st a xs):st.items? (.ref a)=a0 xs:=h.list
theorem d6.I(h:d6 st a xs):st.inst? (.ref a)=b4:=by refine G6 h.1 ?_;rw[h.2]theorem m7.dict(h:m7 st a es ep):st.dict? (.ref a)=a0 es:=by refine G6 h.1 ?_;rw[h.2]theorem m7.list(h:m7 st a es ep):st.list? (.ref a)=b4:=by refine G6 h.1 ?_;rw[h.2]theorem m7.items(h:m7 st a es ep):st.items? (.ref a)=b4:=h.list
theorem m7.I(h:m7 st a es ep):st.inst? (.ref a)=b4:=by refine G6 h.1 ?_;rw[h.2]theorem v4.I(h:v4 st a c e fs):st.inst? (.ref a)=a0 (c,e):=by refine G6 h.1 ?_;rw[h.2.1];refine G6 h.2.2.1 ?_;try with_reducible rfl
theorem v4.C(h:v4 st a c e fs)(b:(CF c).contains f=a8)(d:fs.lookup f=a0 v):G8 st (.ref a) f=a0 v:=by unfold G8;rw[h.I];refine G6 b ?_;rw[h.2.2.2];exact d
theorem v4.q(h:v4 st a c e fs)(d:fs.lookup m=b4):noFld st (.ref a) m:=by unfold Internal.noFld St.fields?;rw[h.I];refine(?_:(match(match st.h e with| .fld b=>a0 b|_=>b4)with|some b=>b.lookup m=b4|none=>k6));rw[h.2.2.2];exact d
theorem v4.go{x:b7}{z:Prop}(h:v4 st a c e fs)(k:z)(i:fs.lookup m=b4:=by rfl)(j:c≠"":=by decide)(l:x=y:=by rfl):Internal.noFld st (.ref a) m/\c≠""/\x=y/\z:=⟨h.q i,j,l,k⟩theorem v4.set(h:v4 st a c e fs)(b:(CF c).contains f=a8)(d:fs.length<=20):setField st (.ref a) f v=a0 (st.set e (.fld ((f,v)::fs))):=by unfold setField;rw[h.I];refine G6 b ?_;rw[h.2.2.2];refine G6 (by unfold j8;exact p6) ?_;try with_reducible rfl
theorem d6.kind(h:d6 st a xs):P8 st (.ref a)=1:=by unfold P8;rw[h.list]theorem m7.kind(h:m7 st a es ep):P8 st (.ref a)=2:=by unfold P8;rw[h.list,h.dict]
theorem AT(h:d6 st a b)(hi:i<=1000)(c:b[i]?=a0 v):J9 (.ref a) (iD i) st=a0 v:=by
 refine(?_:(match st.items? (.ref a)with
  |some b=>if 0<=(i:d3)/\(i:d3)<=j8 then b[(i:d3).toNat]? else b4
  |none=>_)=_)
 rw[h.items];refine G6 ⟨by solve_by_elim (maxDepth:=2)only[*,j7],by unfold j8;exact Int.ofNat_le.mpr (b6 hi (by decide))⟩ ?_;rw[Q7,c]theorem BY(hi:i<=1000)(a:xs[i]?=a0 v):J9 (.B xs) (iD i) st=a0 v:=by refine G6 ⟨by solve_by_elim (maxDepth:=2)only[*,j7],by unfold j8;exact Int.ofNat_le.mpr (b6 hi (by decide))⟩ ?_;rw[Q7,a]
theorem Gx(h:m7 st a b ep)(c:v7 b k=a8)(d:t5 b k=a0 v):J9 (.ref a) k st=a0 v:=by
 cases k with
 |int i=>refine(?_:Ld (.ref a) i st=_);unfold Ld;rw[h.items];refine(?_:IY (.ref a) (.int i) st=_);unfold IY;rw[h.dict];exact(g0 c).trans d
 |_=>
  refine(?_:(match st.dict? (.ref a)with
   |some b=>if v7 b _ then t5 b _ else b4
   |none=>b4)=_)
  rw[h.dict];refine G6 c ?_;rw[d]
theorem W8(h:d6 st a b):M3 .len [.ref a] st=a0 (iD b.length,st):=by
 refine(?_:(match st.list? (.ref a)with
  |some b=>a0 (b0.int b.length,st)
  |none=>_)=_)
 rw[h.list]
theorem fz(h:m7 st a es ep):M3 .len [.ref a] st=a0 (iD es.length,st):=by
 refine(?_:(match st.list? (.ref a)with
  |some b=>a0 (b0.int b.length,st)
  |none=>(st.dict? (.ref a)).map λ(es:a7 (b0×b0))=>(b0.int es.length,st))=_)
 rw[h.list,h.dict];rfl
theorem GS(h:xs.length<=1000):M3 .len [.B xs] st=a0 (iD xs.length,st):=by refine G6 (by unfold j8;exact p6) ?_;try with_reducible rfl
theorem DG:B5 .eq (iD i) (iD j) st=a0 (decide (i=j)):=by refine(?_:a0 ((i:d3)==(j:d3))=_);congr 1;rw[P2,Al,C3];exact⟨Ps,λh=>h▸rfl⟩theorem FV:B5 .ne (iD i) (iD j) st=a0 (decide (i≠j)):=by refine(?_:a0 (!((i:d3)==(j:d3)))=_);congr 1;rw[P2,oH,Gp,C3];exact not_congr ⟨Ps,λh=>h▸rfl⟩theorem IL:B5 .lt (iD i) (iD j) st=a0 (decide (i<j)):=by refine(?_:a0 (decide ((i:d3)<(j:d3)))=_);congr 1;rw[P2];simp
theorem aK:B5 .gt (iD i) (iD j) st=a0 (decide (j<i)):=by refine(?_:a0 (decide ((j:d3)<(i:d3)))=_);congr 1;rw[P2];simp
theorem qU:B5 .le (iD i) (iD j) st=a0 (decide (i<=j)):=by refine(?_:a0 (decide ((i:d3)<=(j:d3)))=_);congr 1;rw[P2];simp
theorem gY:V3 .add (iD i) (iD j) st=a0 (iD (i+j),st):=by refine(?_:a0 (b0.int ((i:d3)+(j:d3)),st)=_);rw[<-d3.natCast_add]theorem RL(h:j<=i):V3 .sub (iD i) (iD j) st=a0 (iD (i - j),st):=by refine(?_:a0 (b0.int ((i:d3) - (j:d3)),st)=_);rw[<-d3.ofNat_sub h]theorem IA(h:xs.length+ys.length<=1000):V3 .add (.B xs) (.B ys) st=a0 (.B (xs++ys),st):=by refine G6 (by unfold j8;exact p6) ?_;try with_reducible rfl
theorem Oq(h:d6 st a c)(e:d6 st b d)(f:c.length+d.length<=1000):V3 .add (.ref a) (.ref b) st=a0 (.ref st.n,st.A (.L (c++d))):=by refine(?_:((st.list? (.ref a)).bind λc=>(st.list? (.ref b)).bind λd=>if c.length+d.length<=j8 then a0 (b0.ref st.n,st.A (.L (c++d)))else b4)=_);rw[h.list,e.list];refine G6 (by unfold j8;exact p6) ?_;try with_reducible rfl
theorem QE(h:d6 st a xs):Ac m (.ref a) ds st=FL m a xs ds st:=by refine G6 h.1 ?_;rw[h.2]theorem Oa(h:m7 st a es ep):Ac m (.ref a) ds st=Fg m a es ep ds st:=by refine G6 h.1 ?_;rw[h.2]theorem Uy(h:d6 st a xs)(b:xs.length<=j8):Ac "append" (.ref a) [v] st=a0 (.none,st.set a (.L (xs++[v]))):=by rw[QE h];unfold FL;refine G6 rfl ?_;rw[g0 b]theorem NI(h:n<=1000):n<=j8:=b6 h (by decide)theorem Bc(h:d6 st a xs)(b:xs.length<=1000):Ac "append" (.ref a) [v] st=a0 (.none,st.set a (.L (xs++[v]))):=Uy h (NI b)theorem dQ(h:d6 st a xs)(c:d6 st b ys)(d:xs.length+ys.length<=1000):Ac "extend" (.ref a) [.ref b] st=a0 (.none,st.set a (.L (xs++ys))):=by rw[QE h];unfold FL;refine EE (by decide) ?_;rw[g0 rfl,c.list];exact g0 (NI d)
theorem cK(h:d6 st a (xs++[v])):Ac "pop" (.ref a) [] st=a0 (v,st.set a (.L xs)):=by
 rw[QE h];unfold FL;refine G6 rfl ?_;try with_reducible rfl
 simp
theorem qX(h:m7 st a es ep)(b:v7 es k=a8)(c:t5 es k=a0 v):Ac "pop" (.ref a) [k] st=a0 (v,st.set a (.D (Fk es k) (ep+1))):=by rw[Oa h];unfold Fg DJ;refine G6 ⟨rfl,b⟩ ?_;rw[c];rfl
theorem ae(h:m7 st a es ep)(b:v7 es k=a8):Ac "get" (.ref a) [k,u] st=a0 ((t5 es k).getD u,st):=by rw[Oa h];unfold Fg DJ;refine G6 rfl ?_;rw[g0 b]theorem KX(h:m7 st a es ep)(b:v7 es k=a8)(c:es.length<=1000)(d:t5 es k=a0 v):Ac "setdefault" (.ref a) [k,u] st=a0 (v,st):=by rw[Oa h];unfold Fg DJ;refine EE (by decide) ?_;rw[g0 rfl,g0 ⟨b,NI c⟩,d]theorem LJ(h:m7 st a es ep)(b:v7 es k=a8)(c:es.length<=1000)(d:t5 es k=b4):Ac "setdefault" (.ref a) [k,u] st=a0 (u,st.set a (.D (es++[(k,u)]) (ep+1))):=by rw[Oa h];unfold Fg DJ;refine EE (by decide) ?_;rw[g0 rfl,g0 ⟨b,NI c⟩,d]theorem wc(h:d6 st a xs)(hi:i<xs.length):setItem st (.ref a) (iD i) v=a0 (st.set a (.L (xs.set i v))):=by unfold setItem;refine G6 h.1 ?_;rw[h.2];refine G6 ⟨by solve_by_elim (maxDepth:=2)only[*,j7],by rw[Q7];exact hi⟩ ?_;rw[Q7]theorem OP(h:m7 st a es ep)(b:v7 es k=a8)(c:es.length<=1000):setItem st (.ref a) k v=a0 (st.set a (.D (Q5 es k v) (if(t5 es k).isSome then ep else ep+1))):=by unfold setItem;refine G6 h.1 ?_;rw[h.2];refine G6 ⟨b,by unfold j8;exact p6⟩ ?_;try with_reducible rfl
theorem Q6(h:d6 st a xs):BV (.ref a) st=a0 (.seq (.ref a) 0):=by unfold BV;refine G6 h.1 ?_;rw[h.2]theorem T0(h:d6 st a xs)(i:a6):(It.seq (.ref a) i).next st=a0 ((xs[i]?).map λx=>(x,.seq (.ref a) (i+1))):=by unfold It.next;dsimp only;rw[h.items];rfl
theorem Ds(i:a6):(It.seq (.B xs) i).next st=a0 ((xs[i]?).map λx=>(x,.seq (.B xs) (i+1))):=rfl
theorem Hc{n:a6}(hi:i<=n):(It.range (i:d3) (n:d3)).next st=a0 ((((p0 n).map iD)[i]?).map λx=>(x,.range ((i+1:a6):d3) n)):=by
 unfold It.next;dsimp only;congr 1;rw[o7];by_cases h:i<n
 .refine G6 (Int.ofNat_lt.mpr h) ?_;rw[JX h];rfl
 .refine EE (λq=>h (Int.ofNat_lt.mp q)) ?_;rw[Au (by simp;exact Bq ‹_›)];rfl
theorem Rm(h:d6 st a xs)(i:a6):(It.enum i (.ref a)).next st=a0 (((xs.mapIdx λj x=>b0.B [iD j,x])[i]?).map λx=>(x,.enum (i+1) (.ref a))):=by unfold It.next;dsimp only;rw[h.items,ML];refine(?_:a0 (JK (λx=>(b0.B [b0.int ↑i,x],It.enum (i+1) (b0.ref a))) xs[i]?)=_);cases xs[i]?<;>rfl
def Ex(st st':St):Prop:=st.n<=st'.n/\∀b,b<st.n->st'.h b=st.h b
theorem Ex.refl(st:St):Ex st st:=⟨l8 _,λa a=>rfl⟩theorem Ex.trans(x:Ex st st')(y:Ex st' st''):Ex st st'':=⟨b6 x.1 y.1,λb a=>(y.2 b (j7 a x.1)).trans (x.2 b a)⟩theorem Ex.A(st:St)(o:AO):Ex st (st.A o):=⟨N8 _,λb a=>j4 (m6 a)⟩theorem d6.ex(h:d6 st a xs)(x:Ex st st'):d6 st' a xs:=⟨j7 h.1 x.1,(x.2 a h.1).trans h.2⟩theorem m7.ex(h:m7 st a es ep)(x:Ex st st'):m7 st' a es ep:=⟨j7 h.1 x.1,(x.2 a h.1).trans h.2⟩theorem v4.ex(h:v4 st a c e fs)(x:Ex st st'):v4 st' a c e fs:=M4 (j7 h.1 x.1) ((x.2 a h.1).trans h.2.1) (j7 h.2.2.1 x.1) ((x.2 e h.2.2.1).trans h.2.2.2)theorem d6.new(st:St)(xs:a7 b0):d6 (st.A (.L xs)) st.n xs:=⟨B8 _,g0 rfl⟩theorem m7.new(st:St)(es:a7 (b0×b0))(ep:a6):m7 (st.A (.D es ep)) st.n es ep:=⟨B8 _,g0 rfl⟩theorem d6.U(h:a<st.n):d6 (st.set a (.L xs)) a xs:=⟨h,g0 rfl⟩theorem m7.U(h:a<st.n):m7 (st.set a (.D es ep)) a es ep:=⟨h,g0 rfl⟩theorem d6.set(h:d6 st a xs)(c:a≠b):d6 (st.set b o) a xs:=⟨h.1,(j4 c).trans h.2⟩theorem m7.set(h:m7 st a es ep)(c:a≠b):m7 (st.set b o) a es ep:=⟨h.1,(j4 c).trans h.2⟩theorem d6.A(h:d6 st a xs):d6 (st.A o) a xs:=h.ex (Ex.A _ _)theorem m7.A(h:m7 st a es ep):m7 (st.A o) a es ep:=h.ex (Ex.A _ _)theorem v4.A(h:v4 st a c e fs):v4 (st.A o) a c e fs:=h.ex (Ex.A _ _)
end
theorem O0{α:Type}{l:a7 α}(h:n<l.length):∃p,l[n]?=a0 p:=⟨_,v5 h⟩
structure UF (N:a6) (par:a7 a6) (R:a6->a6):Prop where
 len:par.length=N
 le:∀(n p:a6),par[n]?=a0 p->p<=n
 up:∀(n p:a6),par[n]?=a0 p->R n=R p
 top:∀(n:a6),par[n]?=a0 n->R n=n
theorem UF.root{N:a6}{b:a7 a6}{R:a6->a6}(F:UF N b R):∀(n:a6),n<N->R n<=n/\b[R n]?=a0 (R n):=by
 intro n
 induction n using a6.strongRecOn with
 |_ n e=>
  intro f;refine d4 (O0 (l:=b) (by rw[F.len];exact f)) λp d=>?_;let c:=F.le n p d;rcases Ce p n with h|h
  .let a:=e p h (b6 ‹_› (m9 ‹_›));rw[F.up n p d];exact⟨b6 a.1 c,a.2⟩
  .let a:=AL c h;clear e f c h;subst a;rw[F.top p d];exact⟨l8 _,d⟩theorem UF.iE(F:UF N par R)(a:n<N):R (R n)=R n:=F.top _ (F.root n a).2
theorem UF.ltN(F:UF N par R)(a:n<N):R n<N:=q5 (F.root n a).1 a
theorem UF.isRoot(F:UF N par R)(b:par[n]?=a0 p):p=n↔R n=n:=by
 constructor
 .rintro rfl;exact F.top _ b
 .intro h;let a:=(F.root n (by rw[<-F.len];exact(w6 b):n<N)).2;rw[h,b]at a;exact C6 a
def C1(R:a6->a6)(k g:a6):a6->a6:=λn=>if R n=g then k else R n
theorem UF.merge(F:UF N par R)(d:R k=k)(c:R g=g)(a:k<g)(b:g<N):UF N (par.set g k) (C1 R k g):=by
 refine⟨by rw[Pn];exact F.len,λn p h=>?_,λn p h=>?_,λn h=>?_⟩
 .rw[WF]at h;split at h
  .rename_i e;subst e;split at h
   .cases h;exact m9 ‹_›
   .cases h
  .exact F.le n p h
 .rw[WF]at h;unfold C1;split at h
  .rename_i e;subst e;split at h
   .cases h;rw[g0 c,d,j4 (m6 ‹_›)]
   .cases h
  .rw[F.up n p h]
 .rw[WF]at h;unfold C1;split at h
  .rename_i e;subst e;split at h
   .clear c b;cases h;exact u6 a (T9 _)
   .cases h
  .rename_i e;rw[F.top n h,j4 λf=>e f.symm]
structure UG where
 par:a7 a6
 S:a7 (a7 a6)
 la:a7 a6
 mg:a6
def Fm(P:a6->Prop)(st st':St):Prop:=st.n<=st'.n/\∀b,b<st.n->¬P b->st'.h b=st.h b
theorem Fm.refl(st:St):Fm P st st:=⟨l8 _,λa a a=>rfl⟩theorem Fm.trans(x:Fm P st st')(y:Fm P st' st''):Fm P st st'':=⟨b6 x.1 y.1,λb a c=>(y.2 b (j7 a x.1) c).trans (x.2 b a c)⟩theorem Fm.mono(x:Fm P st st')(h:∀b,b<st.n->P b->P' b):Fm P' st st':=⟨x.1,λb a c=>x.2 b a λq=>c (h b a q)⟩theorem Fm.set(c:P a):Fm P st (st.set a o):=⟨l8 _,λb f d=>j4 (λe:b=a=>d (e▸c))⟩theorem Fm.ex(x:Ex st st'):Fm P st st':=⟨x.1,λb a c=>x.2 b a⟩theorem d6.fr(h:d6 st a xs)(x:Fm P st st')(b:¬P a:=by decide):d6 st' a xs:=⟨j7 h.1 x.1,(x.2 a h.1 b).trans h.2⟩theorem m7.fr(h:m7 st a es ep)(x:Fm P st st')(b:¬P a:=by decide):m7 st' a es ep:=⟨j7 h.1 x.1,(x.2 a h.1 b).trans h.2⟩
theorem v4.fr(h:v4 st a c e fs)(x:Fm P st st')(d:¬P a:=by decide)(b:¬P e:=by decide):v4 st' a c e fs:=
 (M4 (j7 h.1 x.1) ((x.2 a h.1 d).trans h.2.1) (j7 h.2.2.1 x.1) ((x.2 e h.2.2.1 b).trans h.2.2.2))
structure Bd (st:St) (u:UG):Prop where
 Z:v4 st 12 "Unions" 11 [("merged",.ref 15),("lots",.ref 14),("above",.ref 13)]
 par:d6 st 13 (u.par.map iD)
 S:d6 st 14 (u.la.map .ref)
 mgd:∃ms,d6 st 15 ms/\ms.length=u.mg
 len:u.la.length=u.S.length
 nd:u.la.Nodup
 lo:∀a∈u.la,23<=a
 lot:∀(i a:a6)(l:a7 a6),u.la[i]?=a0 a->u.S[i]?=a0 l->d6 st a (l.map iD)def UG.own(u:UG)(b:a6):Prop:=(11<=b/\b<=15)\/b∈u.la
theorem Bd.fr(h:Bd st u)(x:Fm P st st')(c:∀b,u.own b->¬P b):Bd st' u where
 Z:=h.Z.fr x (c 12 (.inl (by decide))) (c 11 (.inl (by decide)))
 par:=h.par.fr x (c 13 (.inl (by decide)))
 S:=h.S.fr x (c 14 (.inl (by decide)))
 mgd:=c9 h.mgd λf d e=>(d0 f (d.fr x (c 15 (.inl (by decide)))) e)
 len:=h.len
 nd:=h.nd
 lo:=h.lo
 lot:=λi a l d e=>(h.lot i a l d e).fr x (c a (.inr (p8 d)))theorem Bd.ex(h:Bd st u)(x:Ex st st'):Bd st' u:=h.fr (P:=λa=>k6) (Fm.ex x) λa a=>id
theorem OK{st:St}{u:UG}{R:a6->a6}{N:a6}{Q:Q1}(U:Bd st u)(F:UF N u.par R)(r:N<=100)(s:a<N)(t:Q (iD (R a)) st):u9 u8 (k+1) "Unions" "find" [.ref 12,iD a] st Q:=by
 refine E3 (fd:=SY) rfl rfl ?_;delta SY;exists 0;refine NX (I:=λm ρ b=>b=st/\ρ "self"=a0 (.ref 12)/\ρ "a"=a0 (iD m)/\m<N/\R m=R a) ?_ ⟨rfl,rfl,rfl,s,rfl⟩;rintro m ρ b K o q;ext Hf o rfl h i f j;refine d4 (O0 (l:=u.par) (by rw[F.len];exact f)) λp g=>?_;have n:J9 (.ref 13) (iD m) b=a0 (iD p):=AT U.par (gG f r rfl) (by rw[o7,g];rfl);have d:G8 b (.ref 12) "above"=a0 (.ref 13):=U.Z.C rfl rfl;exists h,i,d,n,FV,rfl;(try exists 0,h,i,d,n,FV);by_cases c:p=m
 .clear q i f n;subst c;exists 0,Qo,iB;rw[F.top p g]at j;rw[j];exact t
 .let e:=F.le m p g;exists 0,Qo,c,WP;refine q p _ _ (DQ e c) ⟨rfl,?_,?_,Bo f e,by rw[<-F.up m p g];exact j⟩
  .simpa[Env.set]using h
  .simp[Env.set]theorem X9:AX 1 "append"=a8:=rfl
theorem gV:AX 1 "extend"=a8:=rfl
theorem eX:AX 1 "pop"=a8:=rfl
theorem lj:AX 2 "pop"=a8:=rfl
theorem vO:AX 2 "get"=a8:=rfl
theorem Ib:AX 2 "setdefault"=a8:=rfl
theorem bJ(U:Bd st u)(b:Q (iD u.par.length) st):u9 u8 (k+1) "Unions" "size" [.ref 12] st Q:=by refine E3 (fd:=Ui) rfl rfl ?_;let a:=W8 U.par;rw[f7]at a;delta Ui;exists 0,(U.Z.C rfl rfl:G8 st (.ref 12) "above"=a0 (.ref 13)),a;exact b
def UG.make(u:UG)(a:a6):UG:={par:=u.par++[u.par.length],S:=u.S++[[u.par.length]],la:=u.la++[a],mg:=u.mg}
theorem uG(U:Bd st u)(G:23<=st.n)(B:u.par.length<=100)(H:u.S.length=u.par.length)
 (R:∀r,Fm u.own st r->st.n<r.n->Bd r (u.make st.n)->Q (iD u.par.length) r):u9 u8 (k+1) "Unions" "make" [.ref 12] st Q:=by
 refine E3 (fd:=RQ) rfl rfl ?_;let I:=W8 U.par;rw[f7]at I;delta RQ;exists(U.Z.C rfl rfl),I,U.par.I,U.par.kind,X9,(Bc U.par (v:=iD u.par.length) (by rw[f7];exact p6)),rfl;let D:∀a∈u.la,a<st.n:=λa o=>by
  refine d4 (N2 o) λi J=>d4 J ?_;clear J;clear o;rintro t rfl;let s:=O0 (l:=u.S) (n:=i) (by rw[<-U.len];exact t);ext1 s l z;exact(U.lot i _ l (v5 t) z).1
 refine M8 (st.set 13 (.L (u.par.map iD++[iD u.par.length]))) λd q=>?_;have x:Fm (·=13) st d:=by rw[<-q];exact Fm.set rfl
 have K:=U.Z.fr x;have A:=U.S.fr x;let L:=W8 A;rw[f7,U.len,H]at L;let C:=A.A;exists(K.C rfl rfl),L,A.I,A.kind,C.kind,X9,(Bc C (v:=.ref d.n) (by rw[f7,U.len,H];exact p6)),rfl;generalize g:(d.A (.L [iD u.par.length])).set 14 (.L (u.la.map .ref++[.ref d.n]))=f;have w:d.n=st.n:=by rw[<-q];rfl
 have y:Fm (·=14) d f:=by rw[<-g];exact(Fm.ex (Ex.A _ _)).trans (Fm.set rfl)
 let E:f.n=st.n+1:=by rw[<-g,<-w];rfl
 let M:=(by rw[<-q];exact d6.U U.par.1:d6 d 13 (u.par.map iD++[iD u.par.length])).fr y;let N:=K.fr y;let S:G8 f (.ref 12) "above"=a0 (.ref 13):=N.C rfl rfl;let O:=W8 M;rw[u7,f7]at O;let T:V3 .sub (iD (u.par.length+1)) (.int 1) f=a0 (iD u.par.length,f):=RL (j:=1) (K9 _ _);exists 0,S,O,T,N6,AI,JB;let F:Fm u.own st f:=(x.mono λb _ h=>.inl (gE h rfl rfl)).trans (y.mono λb _ h=>.inl (gE h rfl rfl));refine R f F (Na E) ⟨N,?_,?_,?_,?_,?_,?_,?_⟩
 .let c:(u.make st.n).par.map iD=u.par.map iD++[iD u.par.length]:=p9;rw[c];exact M
 .let c:(u.make st.n).la.map b0.ref=u.la.map .ref++[.ref d.n]:=by rw[w];exact p9
  rw[c,<-g];exact d6.U C.1
 .let s:=U.mgd;ext1 s V m p;exact d0 V ((m.fr x).fr y) p
 .refine(?_:(u.la++[st.n]).length=(u.S++[[u.par.length]]).length);rw[u7,u7,U.len];rfl
 .refine(?_:(u.la++[st.n]).Nodup);rw[BK];refine m0 U.nd (by simp) λa o b B=>?_;rw[o9]at B;let c:=D a o;exact zR c B
 .intro a o;rcases v3 o with o|o
  .exact U.lo a o
  .rw[o9]at o;exact ZO G o
 .intro i a l m p;let m:(u.la++[st.n])[i]?=a0 a:=m;let p:(u.S++[[u.par.length]])[i]?=a0 l:=p;rw[VK]at m p;by_cases t:i<u.la.length
  .rw[g0 t]at m;rw[g0 (by rw[<-U.len];exact t)]at p;let c:=U.lo a (p8 m);exact((U.lot i a l m p).fr x (gF c rfl)).fr y (gF c rfl)
  .rw[j4 t]at m;rw[j4 (by rw[<-U.len];exact t)]at p;have P:i - u.la.length=0:=by let c:=w6 m;simpa using c
   rw[P]at m;rw[(by rw[<-U.len];exact P:i - u.S.length=0)]at p;cases m;cases p;rw[<-g];let c:=d6.new d [iD u.par.length];rw[w]at c;exact c.set λe=>u6 (e▸G) (by decide)
theorem Ef{α:Type}{l:a7 α}(h:l.Nodup){i:a6}{a:α}(hi:l[i]?=a0 a)(k:l[j]?=a0 a):i=j:=by
 refine d4 (FS hi) λc d=>d4 (FS k) λe f=>?_;have g:=List.pairwise_iff_getElem.mp (BR h);rcases MD i j with b|b|b
 .exact(g i j c e b (d.trans f.symm)).elim
 .exact b
 .exact(g j i e c b (f.trans d.symm)).elim
theorem Sl(a b:a6):l3 (iD a) (iD b)=decide (a=b):=by refine(?_:((a:d3)==(b:d3))=_);rw[P2,Al,C3];exact⟨Ps,λh=>h▸rfl⟩theorem eI(a b:a6):r9 (iD a) (iD b)=decide (a<b):=by refine(?_:decide ((a:d3)<(b:d3))=_);rw[P2,C3,C3];exact ur
theorem qc(a b:a6):y8 [iD a,iD b]=[iD (min a b),iD (max a b)]:=by
 refine(?_:(if r9 (iD b) (iD a)then[iD b,iD a]else[iD a,iD b])=_);rw[eI];by_cases h:b<a
 .rw[g0 (by simpa using h),HC (m9 ‹_›),Mn (m9 ‹_›)]
 .rw[j4 (by simpa using h),EI (Bq ‹_›),MB (Bq ‹_›)]theorem sU(a b:a6):B9 [iD a,iD b]=a8:=rfl
theorem Lp(h:d6 st a b)(c:B9 b=a8):M3 .sorted [.ref a] st=a0 (.ref st.n,st.A (.L (y8 b))):=by refine(?_:((st.list? (.ref a)).bind λb=>if B9 b then a0 (b0.ref st.n,st.A (.L (y8 b)))else b4)=_);rw[h.list,CM,g0 c]theorem tD(h:d6 st a [v,w]):Cj [x,y] (.ref a) st ρ=a0 ((ρ.set x v).set y w):=by unfold Cj;rw[h.items];rfl
theorem Ey:Cj [x,y] (.B [v,w]) st ρ=a0 ((ρ.set x v).set y w):=rfl
theorem Yq:Cj [x,y,z] (.B [v,w,u]) st ρ=a0 (((ρ.set x v).set y w).set z u):=rfl
def UG.merge(u:UG)(k g:a6):UG:={par:=u.par.set g k,S:=u.S.set k (u.S.getD k []++u.S.getD g []),la:=u.la,mg:=u.mg+1}
theorem xe(U:Bd st u)(F:UF N u.par R)(S:N<=100)(g:u.S.length=N)(O:∀l∈u.S,l.length<=100)(hmg:u.mg<=100)(ha:a<N)(hb':b<N)
 (hq1:R a=R b->∀e,Ex st e->Q .none e)
 (hq2:∀e x y,(x=R a/\y=R b\/x=R b/\y=R a)->x<y->Fm u.own st e->Bd e (u.merge x y)->Q (.B [iD x,iD y]) e):u9 u8 (k+2) "Unions" "merge" [.ref 12,iD a,iD b] st Q:=by
 refine E3 (fd:=TH) rfl rfl ?_;delta TH;exists U.Z.I,rfl;refine U.Z.go (OK U F S ha ?_);exists U.Z.I,rfl;refine U.Z.go (OK U F S hb' ?_);let H:Ex st ((st.A (.L [iD (R a),iD (R b)])).A (.L (y8 [iD (R a),iD (R b)]))):=(Ex.A _ _).trans (Ex.A _ _);exists(Lp (d6.new _ _) (sU _ _)),rfl;let T:=d6.new (st.A (.L [iD (R a),iD (R b)])) (y8 [iD (R a),iD (R b)]);rw[qc]at T H ⊢;exists 0,(tD T);revert H T;refine gen ((st.A (.L [iD (R a),iD (R b)])).A (.L [iD (min (R a) (R b)),iD (max (R a) (R b))])) λp H T=>?_;exists DG,rfl;by_cases he:R a=R b
 .have:decide (min (R a) (R b)=max (R a) (R b))=a8:=by rw[he];simp
  rw[this];exists 0;exact hq1 he p H
 .let P:=TF he;have:decide (min (R a) (R b)=max (R a) (R b))=c8:=by simpa using m6 P
  rw[this];let A:=sE;generalize min (R a) (R b)=x at*;generalize max (R a) (R b)=y at*;have V:x<N:=by rcases A with h|h<;>rw[h.1]<;>exact F.ltN ‹_›
  have W:y<N:=by rcases A with h|h<;>rw[h.2]<;>exact F.ltN ‹_›
  have o:=U.ex H;exists(o.Z.C rfl rfl),(wc o.par (i:=y) (v:=iD x) (by rw[f7,F.len];exact W)),rfl;refine M8 (p.set 13 (.L ((u.par.map iD).set y (iD x)))) λj q=>?_;have s:Fm (·=13) p j:=by rw[<-q];exact Fm.set rfl
  have i2:=o.Z.fr s;let l2:=o.S.fr s;refine d4 (O0 (l:=u.la) (n:=x) (by rw[U.len,g];exact V)) λt f=>d4 (O0 (l:=u.la) (n:=y) (by rw[U.len,g];exact W)) λay B=>d4 (O0 (l:=u.S) (n:=x) (by rw[g];exact V)) λI C=>d4 (O0 (l:=u.S) (n:=y) (by rw[g];exact W)) λJ D=>?_;have d:=U.lo t (p8 f);have K:=(o.lot x t I f C).fr s (gF d rfl);exists(i2.C rfl rfl),(AT l2 (gG V S rfl) (by rw[o7,f];rfl)),(AT l2 (gG W S rfl) (by rw[o7,B];rfl)),K.I,K.kind,gV,(dQ K ((o.lot y ay J B D).fr s (gF (U.lo ay (p8 B)) rfl)) (by rw[f7,f7];exact b6 (U0 (O I (p8 C)) (O J (p8 D))) (by decide))),rfl;refine M8 (j.set t (.L (I.map iD++J.map iD))) λc m=>?_;have w:Fm (·=t) j c:=by rw[<-m];exact Fm.set rfl
  have i3:=i2.fr w (gC d rfl) (gC d rfl);refine c9 o.mgd λL hms r=>?_;let X:=(hms.fr s).fr w (gC d rfl);exists 0,(i3.C rfl rfl:G8 c (.ref 12) "merged"=a0 (.ref 15)),X.I,X.kind,X9,(Bc X (v:=.B [iD x,iD y]) (gH r hmg rfl));let z:Fm (·=15) c (c.set 15 (.L (L++[.B [iD x,iD y]]))):=Fm.set rfl;let m4:d6 (c.set 15 (.L (L++[.B [iD x,iD y]]))) 15 (L++[.B [iD x,iD y]]):=d6.U X.1;generalize c.set 15 (.L (L++[.B [iD x,iD y]]))=st4 at z m4;refine hq2 st4 x y A P ((Fm.ex H).trans ((s.mono (λb w0 h=>.inl (gE h rfl rfl):∀b,b<p.n->b=13->u.own b)).trans ((w.mono (λb w0 h=>.inr (by rw[h];exact p8 f):∀b,b<j.n->b=t->u.own b)).trans (z.mono (λb w0 h=>.inl (gE h rfl rfl):∀b,b<c.n->b=15->u.own b))))) ⟨i3.fr z,?_,(l2.fr w (gC d rfl)).fr z,(d0 _ m4 ?_),?_,U.nd,U.lo,?_⟩
  .let this:(u.merge x y).par.map iD=(u.par.map iD).set y (iD x):=by refine(?_:(u.par.set y x).map iD=_);rw[a7.map_set]
   rw[this];exact((by rw[<-q];exact d6.U o.par.1:d6 j 13 ((u.par.map iD).set y (iD x))).fr w (gC d rfl)).fr z
  .refine(?_:(L++_).length=u.mg+1);rw[u7,r];rfl
  .refine(?_:u.la.length=(u.S.set x _).length);rw[Pn];exact U.len
  .intro i Y l h1 h2;have M:u.la[i]?=a0 Y:=h1;have Z:(u.S.set x (u.S.getD x []++u.S.getD y []))[i]?=a0 l:=h2;clear h1 h2;have E:=U.lo Y (p8 M);by_cases G:x=i
   .subst G;rw[lZ (by rw[g];exact V)]at Z;rw[f]at M;cases M;cases Z;rw[(by rw[AB,C];rfl:u.S.getD x []=I),(by rw[AB,D];rfl:u.S.getD y []=J),p9];exact(by rw[<-m];exact d6.U K.1:d6 c t (I.map iD++J.map iD)).fr z (gF E rfl)
   .rw[pJ G]at Z;have hne:Y≠t:=by clear d K m w;rintro rfl;exact G (Ef U.nd f M)
    exact(((o.lot i Y l M Z).fr s (gF E rfl)).fr w hne).fr z (gF E rfl)theorem XJ{α:Type}{p:α->b7}{xs:a7 α}{i:a6}{x:α}(a:xs[i]?=a0 x):(xs.take (i+1)).filter p=(xs.take i).filter p++(if p x then[x]else[]):=by rw[Af,a,Pf];congr 1;refine(?_:[x].filter p=_);rw[DS];rfl
theorem Oz{d:b0->St->a7 b0->(a7 b0->St->Prop)->Prop}{nx:a6->It}{xs:a7 b0}{p:b0->b7}{f:b0->b0}{Q:a7 b0->St->Prop}{st:St}
 (l:∀(i:a6)a,i<=xs.length->Ex st a->(nx i).next a=a0 ((xs[i]?).map λx=>(x,nx (i+1))))
 (hs:∀(i:a6)(x:b0)a b k,xs[i]?=a0 x->Ex st a->b.length<=xs.length->(∀c,Ex a c->k (if p x then b++[f x]else b) c)->d x a b k)
 (m:∀a,Ex st a->Q ((xs.filter p).map f) a):∃n,Bm d n (nx 0) st [] Q:=by
 refine CT (xs:=xs) (I:=λi a b=>Ex st a/\b=((xs.take i).filter p).map f) (λi a b o q=>l i a o q.1) ?_ ?_ ⟨Ex.refl _,rfl⟩
 .rintro i x a b k g h r;ext k9 h e rfl;refine hs i x a _ k g e ?_ λc s=>?_
  .rw[f7];exact b6 (DX _ _) (by rw[O9];exact Ge _ _)
  .refine r c _ ⟨e.trans s,?_⟩;rw[XJ g,p9];cases p x<;>simp
 .rintro a b j;ext k9 j e rfl;rw[X6];exact m a e
theorem Ae{c:b0->St->a7 b0->(a7 b0->St->Prop)->Prop}{nx:a6->It}{xs:a7 b0}{p:b0->b7}{f:b0->b0}{Q:a7 b0->St->Prop}{st:St}
 (d:∀(i:a6),i<=xs.length->(nx i).next st=a0 ((xs[i]?).map λx=>(x,nx (i+1))))
 (hs:∀(i:a6)(x:b0)a k,xs[i]?=a0 x->a.length<=xs.length->k (if p x then a++[f x]else a) st->c x st a k)
 (e:Q ((xs.filter p).map f) st):∃n,Bm c n (nx 0) st [] Q:=by
 refine CT (xs:=xs) (I:=λi b a=>b=st/\a=((xs.take i).filter p).map f) (λi b a l m=>by rw[m.1];exact d i l) ?_ ?_ ⟨rfl,rfl⟩
 .rintro i x b a k g h o;refine k9 h ?_;clear h;clear d e;rintro rfl rfl;refine hs i x _ k g ?_ (o _ _ ⟨rfl,?_⟩)
  .rw[f7];exact b6 (DX _ _) (by rw[O9];exact Ge _ _)
  .rw[XJ g,p9];cases p x<;>simp
 .rintro b a j;refine k9 j ?_;clear j;clear d hs;rintro rfl rfl;rw[X6];exact e
theorem X8{l:a7 a6}{i:a6}(h:(l.map iD)[i]?=a0 x):∃n,l[i]?=a0 n/\x=iD n:=by rw[o7,At]at h;ext c9 h n a b;exact d0 n a b.symm
def t9:b0->a6
 | .int i=>i.toNat
 |_=>0
theorem O5(n:a6):t9 (iD n)=n:=Q7 n
theorem YV(h:xs.Perm (l.map iD)):∃b:a7 a6,b.Perm l/\xs=b.map iD:=by
 refine d0 (xs.map t9) ?_ ?_
 .let a:=h.map t9;rw[v9]at a;let e:l.map (t9 ∘ iD)=l:=by
   conv=>rhs;rw[<-AZ l]
   exact A1 λn d=>O5 n
  rw[e]at a;exact a
 .rw[v9]
  conv=>lhs;rw[<-AZ xs]
  refine A1 λx c=>B0 (h.mem_iff.mp c) ?_;clear c;rintro n d;refine(?_:iD n=iD (t9 (iD n)));rw[O5]
theorem XL{l:a7 a6}(h:l.length<64):B9 (l.map iD)=a8:=by
 unfold B9;rw[f7];simp only[C4,C3,V6,Fv];refine⟨⟨h,?_⟩,?_⟩
 .rintro x c y d;ext c9 c a e rfl;ext c9 d b e rfl;rfl
 .rintro x f;ext c9 f a e rfl;rfl
theorem uN{st:St}{u:UG}{R:a6->a6}{N:a6}{l:a7 a6}{Q:Q1}(U:Bd st u)(F:UF N u.par R)(i:N<=100)(g:u.S.length=N)(j:a<N)(m:u.S[R a]?=a0 l)(h:l.length<64)
 (o:∀c r(f:a7 a6),Ex st c->d6 c r (f.map iD)->f.Perm l->Q (.ref r) c):u9 u8 (k+2) "Unions" "members" [.ref 12,iD a] st Q:=by
 refine E3 (fd:=RV) rfl rfl ?_;delta RV;exists U.Z.I,(U.Z.C rfl rfl),rfl;refine U.Z.go (OK U F i j ?_);let d:=F.ltN j;refine d4 (O0 (l:=u.la) (n:=R a) (by rw[U.len,g];exact d)) λb e=>?_;exists 0,(AT U.S (gG d i rfl) (by rw[o7,e];rfl)),(Lp (U.lot _ b l e m) (XL h));refine c9 (YV (Y1 (l.map iD))) λf p q=>?_;rw[q];exact o _ _ f (Ex.A _ _) (d6.new _ _) p
theorem sB{st:St}{u:UG}{R:a6->a6}{N:a6}{Q:Q1}(U:Bd st u)(F:UF N u.par R)(h:N<=100)
 (v:∀b r,Ex st b->d6 b r (((p0 N).filter λa=>R a==a).map iD)->Q (.ref r) b):u9 u8 (k+1) "Unions" "classes" [.ref 12] st Q:=by
 refine E3 (fd:=Uh) rfl rfl ?_;delta Uh;have j:G8 st (.ref 12) "above"=a0 (.ref 13):=U.Z.C rfl rfl;let o:=W8 U.par;rw[f7,F.len]at o;exists 0,j,o;rw[g0 ⟨by solve_by_elim (maxDepth:=2)only[*,j7],by unfold j8;exact Int.ofNat_le.mpr (b6 h (by decide))⟩];refine Ae (nx:=λi=>.range i N) (xs:=(p0 N).map iD) (p:=λx=>R (t9 x)==t9 x) (f:=id) (λi w=>Hc (by simpa using w)) ?_ ?_
 .rintro i x z A q s c;refine c9 (X8 q) ?_;clear q;rintro m y rfl;have d:m<N:=by simpa using U8 (p8 y)
  refine d4 (O0 (l:=u.par) (n:=m) (by rw[F.len];exact d)) λp t=>?_;simp only[O5,id]at c;exists j,(AT U.par (gG d h rfl) (by rw[o7,t];rfl)),DG,rfl;let B:=F.isRoot t;by_cases g:R m=m
  .rw[show(R m==m)=a8 from by simpa using g]at c;rw[show decide (p=m)=a8 from by simpa using B.mpr g];refine⟨?_,c⟩;simp at s;unfold j8;exact gA h s rfl
  .rw[show(R m==m)=c8 from by simpa using g]at c;rw[show decide (p=m)=c8 from by simpa using λe=>g (B.mp e)];exact c
 .refine v _ _ (Ex.A _ _) ?_;let B:(V1 (λx=>R (t9 x)==t9 x) (Qg iD (p0 N))).map id=((p0 N).filter λa=>R a==a).map iD:=by rw[AZ,JM];congr 1
  rw[B];exact d6.new _ _
abbrev Nd:=a7 a6×a7 a6
def o4(nd:Nd):b0:=.B (.str nd.1::nd.2.map iD)def Fd(o:a7 a6):Prop:=o=[97]\/o=[98]\/o=[102]\/o=[103]theorem Kp(k a b:a6):o0 k (iD a) (iD b)=a8:=by cases k<;>rfl
theorem gO(k:a6)(a b:a7 a6):o0 k (.str a) (.str b)=a8:=by cases k<;>rfl
theorem Rs(k:a6):∀(l m:a7 a6),N0 (o0 k) (l.map iD) (m.map iD)=a8
 |[],_=>rfl
 |_::_,[]=>rfl
 |a::l,b::m=>by
  refine(?_:(o0 k (iD a) (iD b)&&N0 (o0 k) (l.map iD) (m.map iD))=a8);rw[Kp,Rs k l m];rfl
theorem Kf(a b:Nd):o0 3 (o4 a) (o4 b)=a8:=by refine(?_:(o0 2 (.str a.1) (.str b.1)&&N0 (o0 2) (a.2.map iD) (b.2.map iD))=a8);rw[gO,Rs];rfl
theorem Uq{l:a7 a6}(h:l.map iD=m.map iD):l=m:=by
 let a:=t0 (Qg t9) h;rw[v9,v9]at a;let e:∀l:a7 a6,l.map (t9 ∘ iD)=l:=λl=>by
  conv=>rhs;rw[<-AZ l]
  exact A1 λn b=>O5 n
 rwa [e,e]at a
theorem Kt{a:Nd}(h:o4 a=o4 b):a=b:=by unfold o4 at h;injection h with h;injection h with h1 h2;injection h1 with h1;exact Fq h1 (Uq h2)theorem rN(l:a7 a6):(l.map iD).all leaf=a8:=by rw[mS];exact Cw λa a=>rfl
theorem Nf(nd:Nd):Q3 (o4 nd)=3:=by refine(?_:(if(b0.str nd.1::nd.2.map iD).all leaf then 3 else 0)=3);rw[Mp,rN];rfl
theorem KA(g:o0 3 k k=a8)(d:(c.map Bu).Nodup)(b:(k,v)∈c):t5 c k=a0 v:=by
 unfold t5
 induction c with
 |nil=>cases b
 |cons e c i=>
  rw[PM];rw[y4,Az]at d;rcases D9 b with rfl|b
  .rw[show l3 k k=a8 from El g];rfl
  .let f:l3 e.1 k=c8:=by
    cases h:l3 e.1 k with
    |false=>rfl
    |true=>let j:=W7 h;exact(d.1 (C0 (a:=(k,v)) b j.symm)).elim
   rw[f];exact i d.2 b
theorem Ij(h:∀e∈es,e.1≠k):t5 es k=b4:=by
 unfold t5;rw[List.find?_eq_none.mpr]
 .rfl
 .intro e a b;exact h e a (W7 b)theorem ed:(D2 es k).isSome=(t5 es k).isSome:=by unfold D2 t5;rw[Vr,MO];rw[P2,nQ];simp
def Bp(nodes:a7 Nd):a7 (b0×b0):=nodes.mapIdx λi nd=>(o4 nd,iD i)theorem QR(nodes:a7 Nd):(Bp nodes).map Bu=nodes.map o4:=by unfold Bp;apply Gk;intro i;rw[o7,ML,o7];cases nodes[i]?<;>rfl
theorem xb(h:nodes.Nodup):((Bp nodes).map Bu).Nodup:=by rw[QR,Br,Y6];exact(BR h).imp λa e=>a (Kt e)theorem ca(h:nodes.Nodup)(hi:nodes[i]?=a0 nd):t5 (Bp nodes) (o4 nd)=a0 (iD i):=by refine KA (Kf _ _) (xb h) (p8 (i:=i) ?_);unfold Bp;rw[ML,hi];rfl
theorem wV(h:nd∉nodes):t5 (Bp nodes) (o4 nd)=b4:=by
 refine Ij λe c d=>?_;let b:o4 nd∈nodes.map o4:=by rw[<-QR,<-d];exact V9 c
 exact A8 b λa f g=>h (Kt g▸f)
theorem QZ(nodes:a7 Nd)(nd:Nd):v7 (Bp nodes) (o4 nd)=a8:=by
 unfold v7;rw[Nf];simp only[C4,V6];refine⟨rfl,λe c=>?_⟩;let b:e.1∈nodes.map o4:=by rw[<-QR];exact V9 c
 refine A8 b λa f d=>?_;rw[<-d,Nf];rfl
structure DI (st:St) (N:a7 Nd):Prop where
 Z:v4 st 6 "Bank" 5 [("depths",.ref 10),("weights",.ref 9),("numbers",.ref 8),("nodes",.ref 7)]
 nds:d6 st 7 (N.map o4)
 numbers:∃ep,m7 st 8 (Bp N) ep
 weights:∃ws:a7 d3,d6 st 9 (ws.map .int)/\ws.length=N.length
 depths:∃ws:a7 d3,d6 st 10 (ws.map .int)/\ws.length=N.length
theorem DI.fr{P:a6->Prop}(h:DI st nodes)(x:Fm P st st')(a:∀b,5<=b->b<=10->¬P b):DI st' nodes where
 Z:=h.Z.fr x (a 6 (by decide) (by decide)) (a 5 (by decide) (by decide))
 nds:=h.nds.fr x (a 7 (by decide) (by decide))
 numbers:=d4 h.numbers λf c=>⟨f,c.fr x (a 8 (by decide) (by decide))⟩
 weights:=c9 h.weights λd c e=>(d0 d (c.fr x (a 9 (by decide) (by decide))) e)
 depths:=c9 h.depths λd c e=>d0 d (c.fr x (a 10 (by decide) (by decide))) e
theorem DI.ex(h:DI st nodes)(x:Ex st st'):DI st' nodes:=h.fr (P:=λa=>k6) (Fm.ex x) λa a a=>id
theorem yA{a:b0->St->a7 b0->(a7 b0->St->Prop)->Prop}{Q:a7 b0->St->Prop}(h:it.next c=a0 (a0 (d,it')))(w:a d c b λb c=>Bm a n it' c b Q):Bm a (n+1) it c b Q:=by
 conv=>whnf
 rw[h];exact w
theorem tx{a:b0->St->a7 b0->(a7 b0->St->Prop)->Prop}{Q:a7 b0->St->Prop}(h:it.next st=a0 b4)(w:Q acc st):Bm a (n+1) it st acc Q:=by
 conv=>whnf
 rw[h];exact w
theorem nw{Q:Q1}(j:Fd o)(l:∀b,Ex st b->Q (.bool a8) b):u9 u8 (k+1) "" "is_op" [.str o] st Q:=by
 refine E3 (fd:=MV) rfl rfl ?_;have a:∀c:a6,(c=97\/c=98\/c=102\/c=103)->G4 (u9 u8 k) MV.body (FK ["text"] [.str [c]]) st (Dx Q):=by
  intro c f;delta MV;let e:B5 .ne (.str [c]) (q9 "") st=a0 a8:=rfl;let g:BV (.str [c]) st=a0 (.text [c]):=by unfold BV;dsimp only;rw[g0];clear e;rcases f with rfl|rfl|rfl|rfl<;>rfl
  let h:B5 .isin (.str [c]) (q9 "()[]{},:") st=a0 c8:=by clear e g;rcases f with rfl|rfl|rfl|rfl<;>rfl
  let m:Ac "isspace" (.str [c]) [] st=a0 (.bool c8,st):=by clear e g h;rcases f with rfl|rfl|rfl|rfl<;>rfl
  let p:st.inst? (.str [c])=b4:=rfl;exists 0,e,g;refine⟨2,yA (it':=.text []) (d:=.str [c]) rfl ?_⟩;exists 0,h,m,p;refine⟨rfl,tx rfl ?_⟩;exists 0;let q:=Ex.A st (.L []);let i:=Ex.A (st.A (.L [])) (.L []);let r:=(d6.new st []).ex i;let s:=d6.new (st.A (.L [])) [];let t:B5 .eq (.ref st.n) (.ref (st.A (.L [])).n) ((st.A (.L [])).A (.L []))=a0 a8:=by refine(?_:Bj _ _ _=_);unfold Bj;rw[r.list,s.list];rfl
  exists 0,t;exact l _ (q.trans i)
 rcases j with rfl|rfl|rfl|rfl
 .exact a 97 (.inl rfl)
 .exact a 98 (.inr (.inl rfl))
 .exact a 102 (.inr (.inr (.inl rfl)))
 .exact a 103 (.inr (.inr (.inr rfl)))theorem mu{Q:Q1}(b:Fd o)(c:∀a,Ex st a->Q .none a):u9 u8 (k+2) "Bank" "require" [.ref 6,.str o] st Q:=by refine E3 (fd:=SQ) rfl rfl ?_;delta SQ;exists rfl;refine nw b λa x=>?_;exists 0,(λa=>by rcases b with rfl|rfl|rfl|rfl<;>rfl:∀a,J9 (.str o) (.int 0) a=a0 (.str o)),(λa=>by rcases b with rfl|rfl|rfl|rfl<;>rfl:∀a,B5 .eq (.str o) (q9 "?") a=a0 c8);exact c a x
theorem gN(h:m7 st a b ep)(d:v7 b k=a8):B5 .isin k (.ref a) st=a0 (t5 b k).isSome:=by
 refine(?_:(match st.items? (.ref a)with
  |some c=>if c.all (λx=>P0 x k)then a0 (c.any λx=>l3 x k)else b4
  |none=>match st.dict? (.ref a)with
   |some b=>if v7 b k then a0 (D2 b k).isSome else b4
   |none=>b4)=_)
 rw[h.items,h.dict];refine(?_:(if v7 b k then a0 (D2 b k).isSome else b4)=_);rw[g0 d,ed]
theorem Ro(h:t5 a k=b4):Q5 a k v=a++[(k,v)]:=by
 induction a with
 |nil=>rfl
 |cons e a b=>
  unfold t5 at h b;rw[PM]at h;rw[Ln];cases c:l3 e.1 k with
  |true=>rw[c]at h;cases h
  |false=>rw[c]at h;rw[b h];rfl
theorem fH(l:a7 d3):ints? (l.map b0.int)=a0 l:=by
 induction l with
 |nil=>rfl
 |cons x l a=>refine(?_:(ints? (l.map b0.int)).map (x::·)=_);rw[a];rfl
theorem gg{st:St}{a:a6}{l:a7 d3}(h:d6 st a (l.map b0.int)):M3 .sum [.ref a] st=a0 (.int l.sum,st):=by refine(?_:((st.list? (.ref a)).bind λb=>(ints? b).bind λl=>a0 (b0.int l.sum,st))=_);rw[h.list,CM,fH];rfl
theorem lr(h:d6 st a (l.map b0.int))(b:l≠[]):∃m,M3 .max [.ref a] st=a0 (.int m,st):=by
 cases l with
 |nil=>exact(b rfl).elim
 |cons x r=>
  refine⟨r.foldl max x,?_⟩;refine(?_:((st.list? (.ref a)).bind λc=>(ints? c).bind λl=>match l with
   |[]=>b4
   |x::r=>a0 (b0.int (r.foldl max x),st))=_)
  rw[h.list,CM,fH];rfl
theorem CO(h:nd.2.length<=100):Er (o4 nd) (1:d3) st=a0 (.B (nd.2.map iD),st):=by
 refine(?_:(if(1:d3)<=1/\(1:d3)<=(b0.str nd.1::nd.2.map iD).length/\(b0.str nd.1::nd.2.map iD).length<=j8 then a0 (b0.B ((b0.str nd.1::nd.2.map iD).drop (1:d3).toNat),st)else b4)=_);rw[g0]
 .rfl
 .rw[N6,f7];refine m0 (by solve_by_elim (maxDepth:=2)only[*,j7]) (Int.ofNat_le.mpr (M7 _)) ?_;unfold j8;exact Ca
theorem Ez:BV (.B xs) st=a0 (.seq (.B xs) 0):=rfl
theorem uO:M3 .tuple [.B xs] st=a0 (.B xs,st):=rfl
theorem ED(h:d6 st a b):M3 .tuple [.ref a] st=a0 (.B b,st):=by refine(?_:((st.items? (.ref a)).map λb=>(b0.B b,st))=_);rw[h.items];rfl
structure Da (N:a7 Nd):Prop where
 nd:N.Nodup
 few:N.length<=20
 op:∀nd∈N,Fd nd.1/\nd.2.length<=2
 kid:∀(i:a6)(nd:Nd),N[i]?=a0 nd->∀x∈nd.2,x<i
theorem ry(B:DI st nodes)(G:Da nodes)(ho:Fd nd.1)(U:nd.2.length<=2)(hk:∀x∈nd.2,x<nodes.length)
 (hq1:∀i:a6,nodes[i]?=a0 nd->Q (iD i) st)
 (hq2:nd∉nodes->∀a,Fm (λb=>5<=b/\b<=10) st a->DI a (nodes++[nd])->Q (iD nodes.length) a):u9 u8 (k+3) "Bank" "take" [.ref 6,.str nd.1,.B (nd.2.map iD)] st Q:=by
 refine E3 (fd:=Sk) rfl rfl ?_;delta Sk;refine d4 B.numbers λO hN=>?_;let e0:V3 .add (.B [.str nd.1]) (.B (nd.2.map iD)) st=a0 (o4 nd,st):=IA (xs:=[.str nd.1]) (by rw[f7];simp;exact b6 (G2 U 1) (by decide));have e1:G8 st (.ref 6) "numbers"=a0 (.ref 8):=B.Z.C rfl rfl;let e2:=gN hN (QZ nodes nd);exists uO,e0,e1,e2,rfl;by_cases y:nd∈nodes
 .clear ho U hk hq2 e0 e2;refine d4 (N2 y) λi rr=>d4 rr ?_;clear rr;clear y;rintro hi rfl;let hi':nodes[i]?=a0 nodes[i]:=v5 hi;let P:=ca G.nd hi';rw[P];exists 0,Wr,e1,(Gx hN (QZ nodes nodes[i]) P);exact hq1 i hi'
 .let P:=wV y;rw[P];exists j0.isSome_none,B.Z.I,rfl;refine B.Z.go (mu ho λst1 x1=>?_);let t:=B.ex x1;let H:=hN.ex x1;exists 0,(CO (nd:=nd) p6),Ez;refine BF (nx:=λi=>.seq (.B (nd.2.map iD)) i) (xs:=nd.2.map iD) (I:=λi ρ a=>a=st1/\ρ "self"=a0 (.ref 6)/\ρ "node"=a0 (o4 nd)) (λi ρ a hi hI=>Ds i) ?_ ?_ (m0 rfl rfl rfl)
  .rintro i x ρ a kk R z1 hk1 hk2;refine t6 z1 ?_;clear z1;clear x1 H;rintro rfl u S;refine c9 (X8 R) ?_;rintro m E rfl;let V:=W8 t.nds;rw[f7]at V;let f3:B5 .le (.int 0) (iD m) a=a0 a8:=by have:=qU (st:=a) (i:=0) (j:=m);rw[show decide (0<=m)=a8 from by exact rfl]at this;exact this
   let f4:B5 .lt (iD m) (iD nodes.length) a=a0 a8:=by rw[IL,show decide (m<nodes.length)=a8 from by simpa using(hk m (p8 E))]
   exists 0,u,(t.Z.C rfl rfl:G8 a (.ref 6) "nodes"=a0 (.ref 7)),V,f3,f4;exact(hk1 _ _ (m0 rfl (by exact u) (by exact S))).1
  .rintro ρ a z2;ext t6 z2 rfl u S;let V:=W8 t.nds;rw[f7]at V;let f3:=OP (v:=iD nodes.length) H (QZ nodes nd) (by rw[(by unfold Bp;rw[JD]:(Bp nodes).length=nodes.length)];have:=G.few;exact p6);exists u,S,(t.Z.C rfl rfl),(t.Z.C rfl rfl),V,f3,rfl;rw[P]at f3 ⊢;rw[Ro P];let nN:Bp (nodes++[nd])=Bp nodes++[(o4 nd,iD nodes.length)]:=by unfold Bp;rw[a7.mapIdx_append];simp
   rw[<-nN];refine M8 (a.set 8 (.D (Bp (nodes++[nd])) _)) λo J=>?_;have g2:Fm (λb=>5<=b/\b<=10) a o:=by rw[<-J];exact Fm.set (by decide)
   have A:Fm (λb=>b=8) a o:=by rw[<-J];exact Fm.set rfl
   have i2:=t.Z.fr A;have n2:=t.nds.fr A;refine c9 t.weights λl hw K=>c9 t.depths λn hd L=>?_;exists(i2.C rfl rfl),n2.I,n2.kind,X9,S,(Bc n2 (v:=o4 nd) (by rw[f7];have:=G.few;exact p6)),rfl;refine M8 (o.set 7 (.L (nodes.map o4++[o4 nd]))) λc hs3=>?_;have W:Fm (λb=>b=7) o c:=by rw[<-hs3];exact Fm.set rfl
   obtain⟨ep3,N3⟩:∃O,m7 c 8 (Bp (nodes++[nd])) O:=d4 ((by rw[<-J];exact⟨_,m7.U H.1⟩:∃O,m7 o 8 (Bp (nodes++[nd])) O)) λO h=>⟨O,h.fr W⟩;let i3:=i2.fr W;have w3:=(hw.fr A).fr W;have a3:G8 c (.ref 6) "weights"=a0 (.ref 9):=i3.C rfl rfl;exists u,a3,w3.I,w3.kind,X9,S,(CO (nd:=nd) (show nd.2.length<=100 by exact p6)),Ez,rfl;refine Ae (nx:=λi=>.seq (.B (nd.2.map iD)) i) (xs:=nd.2.map iD) (p:=λd=>a8) (f:=λx=>.int (l.getD (t9 x) 0)) (λi hi=>Ds i) ?_ ?_
   .rintro i x acc kk R Y q;refine c9 (X8 R) ?_;rintro m E rfl;let r:=hk m (p8 E);have f5:J9 (.ref 9) (iD m) c=a0 (.int (l.getD m 0)):=AT w3 (by have:=G.few;exact gG r this rfl) (by
     rw[o7,AB,v5 (Cz r K)];rfl)
    exists u,a3,f5,rfl;rw[O5]at q;rw[f7]at Y;exact⟨by unfold j8;exact gA U Y rfl,by simpa using q⟩
   .exists 0;let L4:=d6.new c ((V1 (λd=>a8) (nd.2.map iD)).map λx=>b0.int (l.getD (t9 x) 0));let w:=Ex.A c (.L ((V1 (λd=>a8) (nd.2.map iD)).map λx=>b0.int (l.getD (t9 x) 0)));let hL:(V1 (λd=>a8) (nd.2.map iD)).map (λx=>b0.int (l.getD (t9 x) 0))=(nd.2.map λm=>l.getD m 0).map b0.int:=by rw[CS λd d=>rfl,v9,v9];refine A1 λm d=>(?_:b0.int (l.getD (t9 (iD m)) 0)=_);rw[O5];rfl
    rw[hL]at L4 w ⊢;revert L4 w;refine gen (c.A (.L ((nd.2.map λm=>l.getD m 0).map b0.int))) λC L4 w=>?_;let w4:=w3.ex w;exists(gg L4),(λz=>rfl:∀z:d3,V3 .add (.int 1) (.int z) C=a0 (.int (1+z),C)),w4.kind,rfl;rw[Bc w4 (by rw[f7];have:=G.few;exact gH K this rfl)];exists 0;generalize hz:1+(nd.2.map λm=>l.getD m 0).sum=z;rw[(by rw[p9];rfl:l.map b0.int++[.int z]=(l++[z]).map b0.int)];refine M8 (C.set 9 (.L ((l++[z]).map b0.int))) λe hs5=>?_;have Z:Fm (λb=>b=9) C e:=by rw[<-hs5];exact Fm.set rfl
    let w5:d6 e 9 ((l++[z]).map b0.int):=by rw[<-hs5];exact d6.U w4.1
    have i5:=(i3.ex w).fr Z;have d5:=(((hd.fr A).fr W).ex w).fr Z;have a5:G8 e (.ref 6) "depths"=a0 (.ref 10):=i5.C rfl rfl;exists u,a5,d5.I,d5.kind,X9,S,(CO (nd:=nd) (show nd.2.length<=100 by exact p6)),Ez,rfl;refine Ae (nx:=λi=>.seq (.B (nd.2.map iD)) i) (xs:=nd.2.map iD) (p:=λd=>a8) (f:=λx=>.int (n.getD (t9 x) 0)) (λi hi=>Ds i) ?_ ?_
    .rintro i x acc kk R Y q;refine c9 (X8 R) ?_;clear R;rintro m E rfl;let r:=hk m (p8 E);let f5:J9 (.ref 10) (iD m) e=a0 (.int (n.getD m 0)):=AT d5 (by have:=G.few;exact gG r this rfl) (by
      rw[o7,AB,v5 (Cz r L)];rfl)
     exists u,a5,f5,rfl;rw[O5]at q;rw[f7]at Y;exact⟨by unfold j8;exact gA U Y rfl,by simpa using q⟩
    .exists 0;let L6:=d6.new e ((V1 (λd=>a8) (nd.2.map iD)).map λx=>b0.int (n.getD (t9 x) 0));let x6:=Ex.A e (.L ((V1 (λd=>a8) (nd.2.map iD)).map λx=>b0.int (n.getD (t9 x) 0)));have hL2:(V1 (λd=>a8) (nd.2.map iD)).map (λx=>b0.int (n.getD (t9 x) 0))=(nd.2.map λm=>n.getD m 0).map b0.int:=by rw[CS λd d=>rfl,v9,v9];refine A1 λm d=>(?_:b0.int (n.getD (t9 (iD m)) 0)=_);rw[O5];rfl
     rw[hL2]at L6 x6 ⊢;generalize hls:(nd.2.map λm=>n.getD m 0)=T at L6 x6 ⊢;let hlsl:T.length<=2:=by rw[<-hls,f7];exact U
     generalize e.A (.L (T.map b0.int))=M at x6 L6 ⊢;let x7:=Ex.A M (.L [.int 0]);let L7:=d6.new M [.int 0];let N:=L6.ex x7;revert x7 L7 N;refine gen (M.A (.L [.int 0])) λD x7 L7 N=>?_;rw[Oq N L7 (by rw[f7];simp;exact p6)];exists 0;let x8:=Ex.A D (.L (T.map b0.int++[.int 0]));let L8:=d6.new D (T.map b0.int++[.int 0]);generalize D.A (.L (T.map b0.int++[.int 0]))=s at x8 L8 ⊢;refine d4 (lr (by rw[p9];exact L8:d6 s D.n ((T++[0]).map b0.int)) (by simp)) λm E=>?_;have X:=(x6.trans x7).trans x8;let d8:=d5.ex X;let w8:=w5.ex X;rw[E];exists(λz=>rfl:∀z:d3,V3 .add (.int 1) (.int z) s=a0 (.int (1+z),s)),d8.kind,rfl;rw[Bc d8 (by rw[f7];have:=G.few;exact gH L this rfl)];exists 0;rw[(by rw[p9];rfl:n.map b0.int++[.int (1+m)]=(n++[1+m]).map b0.int)];refine M8 (s.set 10 (.L ((n++[1+m]).map b0.int))) λg hs9=>?_;have g9:Fm (λb=>b=10) s g:=by rw[<-hs9];exact Fm.set rfl
     let d9:d6 g 10 ((n++[1+m]).map b0.int):=by rw[<-hs9];exact d6.U d8.1
     let n9:=((((by rw[<-hs3,p9];exact d6.U n2.1:d6 c 7 ((nodes++[nd]).map o4)).ex w).fr Z).ex X).fr g9;have i9:=(i5.ex X).fr g9;let a9:G8 g (.ref 6) "nodes"=a0 (.ref 7):=i9.C rfl rfl;let f9:=W8 n9;rw[f7,u7]at f9;let e9:V3 .sub (iD (nodes.length+1)) (.int 1) g=a0 (iD nodes.length,g):=RL (j:=1) (K9 _ _);exists 0,u,a9,f9,N6,AI,JB,e9;let F:Fm (λb=>5<=b/\b<=10) st g:=(Fm.ex x1).trans (g2.trans ((W.mono λb d h=>gE h rfl rfl).trans ((Fm.ex w).trans ((Z.mono λb d h=>gE h rfl rfl).trans ((Fm.ex X).trans (g9.mono λb d h=>gE h rfl rfl))))));refine hq2 y g F ⟨i9,n9,⟨ep3,(((N3.ex w).fr Z).ex X).fr g9⟩,(d0 (l++[z]) (w8.fr g9) ?_),(d0 (n++[1+m]) d9 ?_)⟩
     .rw[u7,u7,K];rfl
     .rw[u7,u7,L];rfl
structure HG where
 N:a7 Nd
 u:UG
 R:a6->a6
 y:a7 (Nd×a6)
 ab:a7 (a6×a6×a7 a6)
 Y:a7 a6
 ne:a6
 nf:a6
def Ao(l:a7 (Nd×a6)):a7 (b0×b0):=l.map λe=>(o4 e.1,iD e.2)def Q4(l:a7 (a6×a6×a7 a6)):a7 (b0×b0):=l.map λe=>(iD e.1,.ref e.2.1)
structure y7 (st:St) (h:HG):Prop where
 n23:23<=st.n
 Z:v4 st 4 "Heap" 3 [("backs",.int 0),("waiting",.ref 20),("above",.ref 19),("known",.ref 18),("forest",.ref 17),("edges",.ref 16),("unions",.ref 12),("bank",.ref 6)]
 bank:DI st h.N
 uni:Bd st h.u
 edges:∃es,d6 st 16 es/\es.length=h.ne
 forest:∃es,d6 st 17 es/\es.length=h.nf
 y:∃ep,m7 st 18 (Ao h.y) ep
 above:∃ep,m7 st 19 (Q4 h.ab) ep
 Y:d6 st 20 (h.Y.map iD)
 abl:∀e∈h.ab,23<=e.2.1/\e.2.1∉h.u.la/\d6 st e.2.1 (e.2.2.map iD)
 abn:(h.ab.map (·.2.1)).Nodup
def HG.own(h:HG)(b:a6):Prop:=(3<=b/\b<=20)\/b∈h.u.la\/b∈h.ab.map (·.2.1)
theorem y7.fr(H:y7 st h)(x:Fm P st st')(d:∀b,h.own b->¬P b):y7 st' h where
 n23:=b6 H.n23 x.1
 Z:=H.Z.fr x (d 4 (.inl (by decide))) (d 3 (.inl (by decide)))
 bank:=H.bank.fr x λb c f=>d b (.inl ⟨b6 (by decide) c,p6⟩)
 uni:=H.uni.fr x λb g=>d b (by
  rcases g with g|g
  .exact .inl ⟨b6 (by decide) g.1,b6 g.2 (by decide)⟩
  .exact .inr (.inl g))
 edges:=c9 H.edges λi c f=>(d0 i (c.fr x (d 16 (.inl (by decide)))) f)
 forest:=c9 H.forest λi c f=>(d0 i (c.fr x (d 17 (.inl (by decide)))) f)
 y:=d4 H.y λj c=>⟨j,c.fr x (d 18 (.inl (by decide)))⟩
 above:=d4 H.above λj c=>⟨j,c.fr x (d 19 (.inl (by decide)))⟩
 Y:=H.Y.fr x (d 20 (.inl (by decide)))
 abl:=λe k=>t6 (H.abl e k) λc f l=>(m0 c f (l.fr x (d _ (.inr (.inr (C0 (a:=e) k rfl))))))
 abn:=H.abn
theorem y7.ex(H:y7 st h)(x:Ex st st'):y7 st' h:=H.fr (P:=λa=>k6) (Fm.ex x) λa a=>id
theorem Ip(H:y7 st h)(F:UF h.N.length h.u.par h.R)(b:h.N.length<=100)(c:a<h.N.length)(d:Q (iD (h.R a)) st):u9 u8 (k+2) "Heap" "find" [.ref 4,iD a] st Q:=by refine E3 (fd:=Tm) rfl rfl ?_;delta Tm;exists(H.Z.C rfl rfl),H.uni.Z.I,rfl;exact H.uni.Z.go (OK H.uni F b c d)theorem tu(B:DI st nodes)(c:nodes.length<=100)(b:nodes[a]?=a0 nd)(d:Q (.str nd.1) st):u9 u8 (k+1) "Bank" "op" [.ref 6,iD a] st Q:=by refine E3 (fd:=TY) rfl rfl ?_;delta TY;exists 0,(B.Z.C rfl rfl:G8 st (.ref 6) "nodes"=a0 (.ref 7)),(AT B.nds (gG (w6 b) c rfl) (by rw[o7,b];rfl):J9 (.ref 7) (iD a) st=a0 (o4 nd)),(BY (i:=0) (F9 _) rfl:J9 (o4 nd) (.int 0) st=a0 (.str nd.1));exact d
theorem wf(B:DI st nodes)(c:nodes.length<=100)(b:nodes[a]?=a0 nd)(d:nd.2.length<=100)(e:Q (.B (nd.2.map iD)) st):u9 u8 (k+1) "Bank" "kids" [.ref 6,iD a] st Q:=by refine E3 (fd:=Tk) rfl rfl ?_;delta Tk;exists 0,(B.Z.C rfl rfl:G8 st (.ref 6) "nodes"=a0 (.ref 7)),(AT B.nds (gG (w6 b) c rfl) (by rw[o7,b];rfl):J9 (.ref 7) (iD a) st=a0 (o4 nd)),(CO d);exact e
def q6(R:a6->a6)(nd:Nd):Nd:=(nd.1,nd.2.map R)theorem IO{l:a7 a6}{f:a6->a6}:(V1 (λa=>a8) (l.map iD)).map (λx=>iD (f (t9 x)))=(l.map f).map iD:=by rw[CS λa a=>rfl,v9,v9];refine A1 λm a=>(?_:iD (f (t9 (iD m)))=_);rw[O5];rfl
theorem YY(H:y7 st h)(G:Da h.N)(F:UF h.N.length h.u.par h.R)(d:h.N[a]?=a0 nd)(r:∀e,Ex st e->Q (o4 (q6 h.R nd)) e):u9 u8 (k+3) "Heap" "node" [.ref 4,iD a] st Q:=by
 refine E3 (fd:=Rl) rfl rfl ?_;delta Rl;let t:=w6 d;let q:=G.few;let b:=G.op nd (p8 d);let j:G8 st (.ref 4) "bank"=a0 (.ref 6):=H.Z.C rfl rfl;exists j,H.bank.Z.I,rfl;refine H.bank.Z.go (tu H.bank p6 d ?_);exists j,H.bank.Z.I,rfl;refine H.bank.Z.go (wf H.bank p6 d (b6 b.2 (by decide)) ?_);exists 0,Ez;refine Ae (nx:=λi=>.seq (.B (nd.2.map iD)) i) (xs:=nd.2.map iD) (p:=λw=>a8) (f:=λx=>iD (h.R (t9 x))) (λi y=>Ds i) ?_ ?_
 .rintro i x u z l n g;refine c9 (X8 l) ?_;clear l;rintro m s rfl;have v:=G.kid a nd d m (p8 s);exists H.Z.I,rfl;refine H.Z.go (Ip H F p6 (b6 ‹_› (m9 ‹_›)) ?_);rw[O5]at g;rw[f7]at n;exact⟨b6 n (b6 b.2 (by decide)),by simpa using g⟩
 .exists 0;rw[IO];let L:=d6.new st ((nd.2.map h.R).map iD);let o:=Ex.A st (.L ((nd.2.map h.R).map iD));generalize st.A (.L ((nd.2.map h.R).map iD))=c at L o ⊢;exists(ED L),rfl;exists 0,(IA (xs:=[.str nd.1]) (by rw[f7,f7];exact b6 (G2 b.2 1) (by decide)):V3 .add (.B [.str nd.1]) (.B ((nd.2.map h.R).map iD)) c=a0 (o4 (q6 h.R nd),c));exact r c o
theorem EC(h:iD a=iD b):a=b:=by
 let c:=t0 t9 h
 rwa [O5,O5]at c
theorem Xe(a b:a6):l3 (iD a) (iD b)=(a==b):=by rw[Sl,P2];simp
theorem Jc(l:a7 (a6×a6×a7 a6))(c:a6):v7 (Q4 l) (iD c)=a8:=by unfold v7 Q4;simp only[C4,V6,Fv];refine⟨rfl,?_⟩;rintro e a;ext c9 a x b rfl;rfl
theorem OE(c:(l.map (·.1)).Nodup)(d:e∈l):t5 (Q4 l) (iD e.1)=a0 (.ref e.2.1):=by refine KA (Kp _ _ _) ?_ (C0 (a:=e) d rfl);unfold Q4;rw[v9];let b:(Bu ∘ λ(e:a6×a6×a7 a6)=>(iD e.1,b0.ref e.2.1))=iD ∘ λe=>e.1:=rfl;rw[b,<-v9,Br,Y6];exact(BR c).imp λh e=>h (EC e)
theorem sx(c:(l.map (·.1)).Nodup)(y:a6):Fk (Q4 l) (iD y)=Q4 (l.filter λe=>e.1 != y):=by
 induction l with
 |nil=>rfl
 |cons e l d=>
  rw[y4,Az]at c;refine(?_:(if l3 (iD e.1) (iD y)then Q4 l else(iD e.1,b0.ref e.2.1)::Fk (Q4 l) (iD y))=_);rw[Xe];by_cases h:e.1=y
  .rw[g0 (by simpa using h),DS,j4 (by simpa using h)];let b:l.filter (λe=>e.1 != y)=l:=CS λx f=>by
    let b:x.1≠y:=λq=>c.1 (by rw[h,<-q];exact C0 (a:=x) f rfl);simpa using b
   rw[b]
  .rw[j4 (by simpa using h),DS,g0 (by simpa using h),d c.2];rfl
theorem li(c:(l.map (·.1)).Nodup)(d:x∈l.map (·.1)):Q5 (Q4 l) (iD x) (.ref a)=Q4 (l.map λe=>if e.1=x then(x,a,us)else e):=by
 induction l with
 |nil=>cases d
 |cons e l f=>
  rw[y4,Az]at c;refine(?_:(if l3 (iD e.1) (iD x)then(iD e.1,b0.ref a)::Q4 l else(iD e.1,b0.ref e.2.1)::Q5 (Q4 l) (iD x) (.ref a))=_);rw[Xe];by_cases h:e.1=x
  .rw[g0 (by simpa using h),y4,g0 h];let b:l.map (λe=>if e.1=x then(x,a,us)else e)=l:=by
    conv=>rhs;rw[<-AZ l]
    refine A1 λz g=>?_;rw[j4]
    .rfl
    .intro q;exact c.1 (by rw[h,<-q];exact C0 (a:=z) g rfl)
   rw[b,h];rfl
  .rw[j4 (by simpa using h),y4,j4 h];rw[y4,K5]at d;rw[f c.2 (d.resolve_left λq=>h q.symm)];rfl
def GP(l:a7 (a6×a6×a7 a6))(x y a:a6)(us:a7 a6):a7 (a6×a6×a7 a6):=(l.filter λe=>e.1 != y).map λe=>if e.1=x then(x,a,us)else e
def HG.join(h:HG)(x y a:a6)(ux uy:a7 a6):HG:={h with u:=h.u.merge x y,R:=C1 h.R x y,ab:=GP h.ab x y a (ux++uy),Y:=h.Y++uy,ne:=h.ne+1,nf:=h.nf+1}def HF(b:a6):Prop:=(3<=b/\b<=20)\/23<=b
theorem UG.own_HF(U:Bd st u)(h:u.own b):HF b:=by
 rcases h with h|h
 .exact .inl ⟨b6 (by decide) h.1,b6 h.2 (by decide)⟩
 .exact .inr (U.lo b h)
structure Xv (h:HG):Prop where
 n:h.N.length<=20
 S:h.u.S.length=h.N.length
 lot:∀l∈h.u.S,l.length<=100
 mg:h.u.mg<=100
 ne:h.ne<=100
 nf:h.nf<=100
 Y:h.Y.length<=500
 us:∀e∈h.ab,e.2.2.length<=100
 ab:h.ab.length<=100
 kn:h.y.length<=500
theorem YS{Q:Q1}(H:y7 st h)(F:UF h.N.length h.u.par h.R)(S:Xv h)(r:(h.ab.map (·.1)).Nodup)(hall:∀c,c<h.N.length->h.R c=c->∃e∈h.ab,e.1=c)
 (ha:a<h.N.length)(w:b<h.N.length)
 (hq1:h.R a=h.R b->∀B,Fm HF st B->y7 B {h with ne:=h.ne+1}->Q (.bool c8) B)
 (hq2:∀B x y adr Z L,(x=h.R a/\y=h.R b\/x=h.R b/\y=h.R a)->x<y->(∃ax,(x,ax,Z)∈h.ab)->(∃ay,(y,ay,L)∈h.ab)->Fm HF st B->y7 B (h.join x y adr Z L)->Q (.bool a8) B):
 u9 u8 (k+3) "Heap" "join" [.ref 4,iD a,iD b,rs] st Q:=by
 refine E3 (fd:=UL) rfl rfl ?_;delta UL;refine c9 H.edges λes hE hEl=>?_;exists(H.Z.C rfl rfl:G8 st (.ref 4) "edges"=a0 (.ref 16)),hE.I,hE.kind,X9,(Bc hE (v:=.B [iD a,iD b,rs]) (by let this:=S.ne;exact gH hEl this rfl)),rfl;generalize hs1:st.set 16 (.L (es++[.B [iD a,iD b,rs]]))=U;have P:Fm (λb=>b=16) st U:=by rw[<-hs1];exact Fm.set rfl
 have E1:d6 U 16 (es++[.B [iD a,iD b,rs]]):=by rw[<-hs1];exact d6.U hE.1
 let own16:∀b,h.u.own b->¬b=16:=λb w q=>by
  rcases w with w|w
  .exact(kh w q).elim
  .let this:=H.uni.lo b w;exact(bl this q).elim
 have i1:=H.Z.fr P;let b1:=H.bank.fr P λb A A=>gM ‹_› rfl;have u1:=H.uni.fr P own16;let f1:=H.forest;refine c9 H.forest λfs hf hfl=>?_;replace hf:=hf.fr P;let s:=H.y;ext1 s kep hK;replace hK:=hK.fr P;refine d4 H.above λaep hA=>?_;replace hA:=hA.fr P;let w1:=H.Y.fr P;have abl1:∀e∈h.ab,23<=e.2.1/\e.2.1∉h.u.la/\d6 U e.2.1 (e.2.2.map iD):=λe C=>t6 (H.abl e C) λz u h3=>m0 z u (h3.fr P (gF z rfl));have n1:23<=U.n:=b6 H.n23 P.1;exists(i1.C rfl rfl:G8 U (.ref 4) "unions"=a0 (.ref 12)),u1.Z.I,rfl;refine u1.Z.go (xe u1 F (by let this:=S.n;exact gK this rfl) S.S S.lot S.mg ha w ?_ ?_)
 .intro hR m R;exists 0,(rfl:B5 .is b0.none b0.none m=a0 a8);refine hq1 hR m ((P.mono λb A q=>.inl (gE q rfl rfl)).trans (Fm.ex R)) ⟨b6 n1 R.1,i1.ex R,b1.ex R,u1.ex R,(d0 _ (E1.ex R) ?_),(d0 fs (hf.ex R) hfl),⟨kep,hK.ex R⟩,⟨aep,hA.ex R⟩,w1.ex R,λe C=>t6 (abl1 e C) λz u h3=>m0 z u (h3.ex R),H.abn⟩;rw[u7,hEl];rfl
 .intro m x y hxy hlt W u2;let e3:B5 .is (.B [iD x,iD y]) b0.none m=a0 c8:=rfl;exists e3,Ey,rfl;let no2:∀c,¬h.u.own c->∀d,d=c->¬h.u.own d:=λc hc d hd=>hd▸hc;have g:∀c,c<11\/(15<c/\c<23)->¬h.u.own c:=λc hc hq=>by
   rcases hq with hq|hq
   .exact(ZH hq hc).elim
   .let this:=H.uni.lo c hq;exact(Yy this hc).elim
  let i2:=i1.fr W (g _ (by decide)) (g _ (by decide));let E2:=E1.fr W (g _ (by decide));have F2:=hf.fr W (g _ (by decide));have abl2:∀e∈h.ab,23<=e.2.1/\e.2.1∉h.u.la/\d6 m e.2.1 (e.2.2.map iD):=λe C=>t6 (abl1 e C) λz u h3=>(m0 z u (h3.fr W λq=>by
   rcases q with q|q
   .exact(fB q z).elim
   .exact u q))
  let e6:=W8 E2;rw[u7]at e6;exists(i2.C rfl rfl:G8 m (.ref 4) "forest"=a0 (.ref 17)),(i2.C rfl rfl:G8 m (.ref 4) "edges"=a0 (.ref 16)),e6,N6,AI,JB,(RL (j:=1) (K9 _ _):V3 .sub (iD (es.length+1)) (.int 1) m=a0 (iD es.length,m)),F2.I,F2.kind,X9,(Bc F2 (v:=iD es.length) (by let this:=S.nf;exact gH hfl this rfl)),rfl;refine M8 (m.set 17 (.L (fs++[iD es.length]))) λt hs3=>?_;have X:Fm (λb=>b=17) m t:=by rw[<-hs3];exact Fm.set rfl
  have i3:=i2.fr X;let u3:=u2.fr X (λb w q=>g b (xW q) w:∀b,(h.u.merge x y).own b->¬b=17);have A3:=(hA.fr W (g _ (by decide))).fr X;have w3:=(w1.fr W (g _ (by decide))).fr X;have D:∀e∈h.ab,23<=e.2.1/\e.2.1∉h.u.la/\d6 t e.2.1 (e.2.2.map iD):=λe C=>t6 (abl2 e C) λz u h3=>m0 z u (h3.fr X (gF z rfl));have n3:23<=t.n:=b6 (b6 n1 W.1:23<=m.n) X.1;let hRx:h.R x=x/\x<h.N.length:=by
   rcases hxy with q|q<;>rw[q.1]
   .exact⟨F.iE ha,F.ltN ha⟩
   .exact⟨F.iE w,F.ltN w⟩
  let hRy:h.R y=y/\y<h.N.length:=by
   rcases hxy with q|q<;>rw[q.2]
   .exact⟨F.iE w,F.ltN w⟩
   .exact⟨F.iE ha,F.ltN ha⟩
  refine c9 (hall x hRx.2 hRx.1) ?_;clear hRx;rintro⟨Y,ax,Z⟩V rfl;refine c9 (hall y hRy.2 hRy.1) ?_;clear hRy u2 e3;rintro⟨I,ay,L⟩J rfl;dsimp only at*;let s:=D _ V;ext1 s lx mx Lx;let s:=D _ J;ext1 s ly my Ly;dsimp only at lx mx Lx ly my Ly;exists(i3.C rfl rfl:G8 t (.ref 4) "waiting"=a0 (.ref 20)),(i3.C rfl rfl:G8 t (.ref 4) "above"=a0 (.ref 19)),(Gx A3 (Jc _ _) (OE r J):J9 (.ref 19) (iD I) t=a0 (.ref ay)),w3.I,w3.kind,gV,(dQ w3 Ly (by rw[f7,f7];let this:=S.Y;let this:=S.us _ J;dsimp only at this;exact b6 (U0 ‹_› this) (by decide))),rfl;refine M8 (t.set 20 (.L (h.Y.map iD++L.map iD))) λK hs4=>?_;have M:Fm (λb=>b=20) t K:=by rw[<-hs4];exact Fm.set rfl
  have i4:=i3.fr M;have A4:=A3.fr M;let e14:=qX A4 (Jc _ I) (OE r J);rw[sx r]at e14;exists(i4.C rfl rfl:G8 K (.ref 4) "above"=a0 (.ref 19)),(Gx A4 (Jc _ _) (OE r V):J9 (.ref 19) (iD Y) K=a0 (.ref ax)),A4.I,A4.kind,lj,e14,rfl;refine M8 (K.set 19 (.D (Q4 (h.ab.filter λe=>e.1 != I)) (aep+1))) λo hs5=>?_;have N:Fm (λb=>b=19) K o:=by rw[<-hs5];exact Fm.set rfl
  exists(Oq ((Lx.fr M (gF lx rfl)).fr N (gF lx rfl)) ((Ly.fr M (gF ly rfl)).fr N (gF ly rfl)) (by rw[f7,f7];let z:=S.us _ V;let u:=S.us _ J;dsimp only at z u;exact b6 (U0 z u) (by decide))),rfl;let O:=Ex.A o (.L (Z.map iD++L.map iD));let L6:=d6.new o (Z.map iD++L.map iD);generalize hs6:o.A (.L (Z.map iD++L.map iD))=st6 at O L6 ⊢;have i6:=(i4.fr N).ex O;have A6:=(by rw[<-hs5];exact m7.U A4.1:m7 o 19 (Q4 (h.ab.filter λe=>e.1 != I)) (aep+1)).ex O;let G:=r.sublist (List.filter_sublist.map _);let e16:=OP (v:=.ref o.n) A6 (Jc _ Y) (by
   unfold Q4;rw[f7];let u:=S.ab;exact gA u (DX (λe:a6×a6×a7 a6=>e.1 != I) h.ab) rfl)
  rw[li (us:=Z++L) G (C0 (BE V (by simpa using(m6 hlt:Y≠I))) rfl:Y∈(h.ab.filter λe=>e.1 != I).map (·.1))]at e16;exists 0,(i6.C rfl rfl:G8 st6 (.ref 4) "above"=a0 (.ref 19)),e16;refine M8 (st6.set 19 (.D _ _)) λst7 hs7=>?_;have T:Fm (λb=>b=19) st6 st7:=by rw[<-hs7];exact Fm.set rfl
  have E:o.n=t.n:=by rw[<-hs5,<-hs4];rfl
  refine hq2 st7 Y I o.n Z L hxy hlt ⟨ax,V⟩ ⟨ay,J⟩ ?_ ⟨?_,?_,?_,?_,?_,?_,?_,?_,?_,?_,?_⟩
  .exact(P.mono λb A q=>.inl (gE q rfl rfl)).trans ((W.mono λb A q=>UG.own_HF H.uni q).trans ((X.mono λb A q=>.inl (gE q rfl rfl)).trans ((M.mono λb A q=>.inl (gE q rfl rfl)).trans ((N.mono λb A q=>.inl (gE q rfl rfl)).trans ((Fm.ex O).trans (T.mono λb A q=>.inl (gE q rfl rfl)))))))
  .exact b6 n3 (b6 M.1 (b6 N.1 (b6 O.1 T.1)))
  .exact i6.fr T
  .exact(((((b1.fr W λb z u=>g _ (.inl (BJ u))).fr X λb A A=>gM ‹_› rfl).fr M λb A A=>gM ‹_› rfl).fr N λb A A=>gM ‹_› rfl).ex O).fr T λb A A=>gM ‹_› rfl
  .exact(((u3.fr M λb w q=>g b (wN q) w).fr N λb w q=>g b (cF q) w).ex O).fr T λb w q=>g b (cF q) w
  .refine d0 _ (((((E2.fr X).fr M).fr N).ex O).fr T) ?_;rw[u7,hEl];rfl
  .refine d0 _ (((((by rw[<-hs3];exact d6.U F2.1:d6 t 17 (fs++[iD es.length])).fr M).fr N).ex O).fr T) ?_;rw[u7,hfl];rfl
  .exact⟨kep,(((((hK.fr W (g _ (by decide))).fr X).fr M).fr N).ex O).fr T⟩
  .exact(by rw[<-hs7];exact⟨_,m7.U A6.1⟩:∃ep,m7 st7 19 (Q4 (GP h.ab Y I o.n (Z++L))) ep)
  .let this:=(((by rw[<-hs4];exact d6.U w3.1:d6 K 20 (h.Y.map iD++L.map iD)).fr N).ex O).fr T;refine(?_:d6 st7 20 ((h.Y++L).map iD));rw[p9];exact this
  .intro e C;refine B0 (show e∈(h.ab.filter λe=>e.1 != I).map _ from C) ?_;clear C;rintro e0 he0;by_cases hx0:e0.1=Y
   .rw[g0 hx0];refine m0 (by exact ZO n3 E) ?_ ?_
    .intro hq;refine d4 (N2 (show o.n∈h.u.la from hq)) λi rr=>?_;ext1 rr hi hie;let s:=O0 (l:=(h.u.merge Y I).S) (n:=i) (by rw[<-u3.len];exact hi);ext1 s l hl;let this:=(u3.lot i o.n l (by rw[<-hie];exact v5 hi) hl).1;exact(KO this E).elim
    .dsimp only;rw[p9];exact L6.fr T λe=>u6 (b6 n3 (A5 (E.symm.trans e))) (by decide)
   .rw[j4 hx0];let s:=D e0 (OD he0);ext1 s q1 q2 q3;exact m0 q1 q2 ((((q3.fr M (gF ‹_› rfl)).fr N (gF ‹_› rfl)).ex O).fr T (gF ‹_› rfl))
  .unfold HG.join GP;rw[v9,Br,Y6];refine Gg ?_ ((List.pairwise_map.mp (BR (H.abn.sublist (j_ (·.2.1) (a7.filter_sublist (p:=λe=>e.1 != I) (l:=h.ab)))))).and (List.pairwise_map.mp (BR G)));rintro e f C hf z2;ext1 z2 q1 q2;let bnd:∀e∈h.ab.filter λe=>e.1 != I,e.2.1<o.n:=λe C=>by
    let this:=(D e (OD C)).2.2.1;exact Cz this E
   dsimp only[Hs];by_cases z:e.1=Y<;>by_cases u:f.1=Y
   .exact(q2 (z.trans u.symm)).elim
   .rw[g0 z,j4 u];exact K0 (bnd f hf)
   .rw[j4 z,g0 u];exact m6 (bnd e C)
   .rw[j4 z,j4 u];exact q1
def DH(nodes:a7 Nd)(E:a6->a6):Prop:=∀(m n:a6)(a b:Nd),nodes[m]?=a0 a->nodes[n]?=a0 b->a.1=b.1->a.2.map E=b.2.map E->E m=E n
def J8(R:a6->a6)(N:a6):a6:=((p0 N).filter λn=>R n != n).length
theorem NU(R:a6->a6)(N:a6):J8 R N<=N:=by
 let a:=DX (λn=>R n != n) (p0 N)
 rwa [Bw]at a
structure O6 (h:HG) (P:a7 (a6×a6)) (X:a6->Prop) (lap z:a6):Prop where
 N:Da h.N
 uf:UF h.N.length h.u.par h.R
 lN:h.u.S.length=h.N.length
 lotm:∀(c:a6)(l:a7 a6),h.u.S[c]?=a0 l->l.Nodup/\(∀n∈l,n<h.N.length)/\(h.R c=c->∀n,n<h.N.length->(n∈l↔h.R n=c))
 kn:∀e∈h.y,(∀x∈e.1.2,x<h.N.length)/\∃nd,h.N[e.2]?=a0 nd/\e.1.1=nd.1/\e.1.2.map h.R=nd.2.map h.R
 knn:(h.y.map (·.1)).Nodup
 abk:(h.ab.map (·.1)).Nodup
 abr:∀e∈h.ab,e.1<h.N.length/\h.R e.1=e.1/\∀n∈e.2.2,n<h.N.length
 aba:∀c,c<h.N.length->h.R c=c->∃e∈h.ab,e.1=c
 abc:∀e∈h.ab,∀(n:a6)(nd:Nd)(x:a6),h.N[n]?=a0 nd->x∈nd.2->h.R x=e.1->n∈e.2.2
 wt:∀n∈h.Y,n<h.N.length
 cl:∀(n:a6)(nd:Nd),h.N[n]?=a0 nd->X n\/n∈h.Y\/∃v,(q6 h.R nd,v)∈h.y/\h.R v=h.R n
 least:∀E:a6->a6,(∀p∈P,E p.1=E p.2)->DH h.N E->∀m n,m<h.N.length->n<h.N.length->h.R m=h.R n->E m=E n
 tO:∀p∈P,p.1<h.N.length/\p.2<h.N.length/\h.R p.1=h.R p.2
 sum:(h.ab.map (·.2.2.length)).sum<=2*h.N.length
 lapN:h.N.length<=lap+2/\lap<=6
 bw:h.y.length+h.Y.length+z<=h.N.length+20*J8 h.R h.N.length
 bn:h.ne<=lap+J8 h.R h.N.length/\h.nf<=J8 h.R h.N.length/\h.u.mg<=J8 h.R h.N.length
theorem fM{α:Type}{f:α->a6}:∀{l:a7 α}{e:α},e∈l->f e<=(l.map f).sum:=by
 intro a
 induction a with
 |nil=>intro c h;cases h
 |cons x l b=>
  intro e h;rw[y4,Fo];rcases D9 h with rfl|h
  .exact G3 _ _
  .have d:=b h;exact b6 d (K9 _ _)
theorem Nn{l:a7 a6}{N:a6}(h:l.Nodup)(b:∀n∈l,n<N):l.length<=N:=by
 let a:=V4 h (m:=p0 N) λn c=>Cv (b n c)
 rwa [Bw]at a
theorem O6.few{h:HG}{P:a7 (a6×a6)}{X:a6->Prop}{k z:a6}(K:O6 h P X k z):Xv h:=by
 let b:=K.lapN;let d:=NU h.R h.N.length;let m:=K.bw;let c:=K.bn;refine⟨K.N.few,K.lN,λl o=>?_,ou b d c,em b d c,py b d c,jv m b d,λe j=>?_,?_,og m b d⟩
 .refine d4 (N2 o) λi p=>d4 p ?_;clear p;clear o;rintro q rfl;let g:=K.lotm i _ (v5 q);ext1 g r s w;let a:=Nn r s;exact WU b a
 .let t:=fM (f:=λe:a6×a6×a7 a6=>e.2.2.length) j;let u:=K.sum;have v:(h.ab.map λe=>e.2.2.length).sum<=2*h.N.length:=u;exact vw v b t
 .let a:=Nn K.abk λn c=>by
   ext B0 c e j;exact(K.abr e j).1
  rw[f7]at a;exact WU b a
theorem YW(g:R x=x)(d:R y=y)(f:x<y)(c:y<N):J8 R N+1<=J8 (C1 R x y) N:=by
 have i:=V4 (l:=y::(p0 N).filter λn=>R n != n) (m:=(p0 N).filter λn=>C1 R x y n != n) ?_ ?_
 .rwa [N6]at i
 .rw[Az];refine⟨λh=>?_,List.nodup_range.filter _⟩;let i:=Hk h;simp[d]at i
 .intro n a;rw[HO];unfold C1;rcases D9 a with rfl|a
  .refine⟨Cv c,?_⟩;rw[g0 d];simp;exact m6 ‹_›
  .refine k9 (BP a) λe b=>?_;have b:R n≠n:=by simpa using b
   refine⟨e,?_⟩;by_cases h:R n=y
   .rw[g0 h];let i:x≠n:=by clear a e h;clear a;rintro rfl;solve_by_elim (maxDepth:=3)only[*,j7,q5,b6]
    simpa using i
   .rw[j4 h];simpa using b
theorem nj{f:a6×a6×a7 a6->a6}:∀{l:a7 (a6×a6×a7 a6)},(l.map (·.1)).Nodup->∀{e:a6×a6×a7 a6},e∈l->((l.filter λd=>d.1 != e.1).map f).sum+f e=(l.map f).sum:=by
 intro g
 induction g with
 |nil=>intro i i h;cases h
 |cons d l j=>
  intro c e h;rw[y4,Az]at c;rw[DS,y4,Fo];by_cases b:d.1=e.1
  .rw[j4 (by simpa using b)];have m:l.filter (λd=>d.1 != e.1)=l:=CS λx k=>by
    have m:x.1≠e.1:=λq=>c.1 (by rw[b,<-q];exact C0 (a:=x) k rfl);simpa using m
   rw[m];rcases D9 h with rfl|h
   .exact dI
   .exact(c.1 (C0 (a:=e) h b.symm)).elim
  .rw[g0 (by simpa using b),y4,Fo];rcases D9 h with rfl|h
   .exact(b rfl).elim
   .have m:=j c.2 h;exact(Q8 _ _ _).trans (t0 (_+·) m)
theorem sy{f:a6×a6×a7 a6->a6}:∀{l:a7 (a6×a6×a7 a6)},(l.map (·.1)).Nodup->∀{e:a6×a6×a7 a6},e∈l->((l.map λd=>if d.1=e.1 then r else d).map f).sum+f e=(l.map f).sum+f r:=by
 intro g
 induction g with
 |nil=>intro i i h;cases h
 |cons d l j=>
  intro c e h;rw[y4,Az]at c;rw[y4,y4,Fo,y4,Fo];by_cases b:d.1=e.1
  .rw[g0 b];have m:l.map (λd=>if d.1=e.1 then r else d)=l:=by
    conv=>rhs;rw[<-AZ l]
    refine A1 λz k=>?_;rw[j4]
    .rfl
    .intro q;exact c.1 (by rw[b,<-q];exact C0 (a:=z) k rfl)
   rw[m];rcases D9 h with rfl|h
   .exact kj
   .exact(c.1 (C0 (a:=e) h b.symm)).elim
  .rw[j4 b];rcases D9 h with rfl|h
   .exact(b rfl).elim
   .have m:=j c.2 h;exact(Q8 _ _ _).trans ((t0 (_+·) m).trans (Q8 _ _ _).symm)theorem Ur(l:a7 a6):l.map (C1 R x y)=(l.map R).map λz=>if z=y then x else z:=by rw[v9];rfl
theorem O6.join{X:a6->Prop}(K:O6 h P X lap z)(hx:(x,ax,ux)∈h.ab)(N:(y,ay,uy)∈h.ab)(u:x<y)
 (hPP:∀p∈P,p∈P')(k:∀p∈P',p.1<h.N.length/\p.2<h.N.length/\C1 h.R x y p.1=C1 h.R x y p.2)(C:lap<=lap'/\lap'<=6)
 (hj:∀E:a6->a6,(∀p∈P',E p.1=E p.2)->DH h.N E->E x=E y):
 O6 (h.join x y adr ux uy) P' X lap' z/\(h.join x y adr ux uy).Y.length+20*(h.N.length - J8 (C1 h.R x y) h.N.length)<h.Y.length+20*(h.N.length - J8 h.R h.N.length):=by
 refine t6 (K.abr _ hx) λH w Z=>t6 (K.abr _ N) λs j Q=>?_;dsimp only at H w Z s j Q;let R:=m6 u;let huy:uy.length<=16:=by let J:=fM (f:=λe:a6×a6×a7 a6=>e.2.2.length) N;dsimp only at J;exact vz K.sum K.lapN J
 let A:=YW w j u s;have g:∀n,C1 h.R x y n=if h.R n=y then x else h.R n:=λn=>rfl
 refine⟨⟨K.N,K.uf.merge w j u s,?_,?_,?_,K.knn,?_,?_,?_,?_,?_,?_,?_,k,?_,?_,?_,?_⟩,?_⟩
 .refine(?_:(h.u.S.set x _).length=_);rw[Pn];exact K.lN
 .intro c l O;let O:(h.u.S.set x (h.u.S.getD x []++h.u.S.getD y []))[c]?=a0 l:=O;refine d4 (O0 (l:=h.u.S) (n:=x) (by rw[K.lN];exact H)) λlx hlx=>d4 (O0 (l:=h.u.S) (n:=y) (by rw[K.lN];exact s)) λly S=>?_;rw[(by rw[AB,hlx];rfl:h.u.S.getD x []=lx),(by rw[AB,S];rfl:h.u.S.getD y []=ly)]at O;refine t6 (K.lotm x lx hlx) λa1 a2 a3=>t6 (K.lotm y ly S) λb1 b2 b3=>?_;by_cases D:x=c
  .subst D;rw[lZ (by rw[K.lN];exact H)]at O;cases O;refine m0 ?_ (λn d=>?_) λw0 n d=>?_
   .rw[BK];refine m0 a1 b1 λm hm n d e=>?_;subst e;exact R (((a3 w m (a2 m hm)).mp hm).symm.trans ((b3 j m (b2 m d)).mp d))
   .exact(v3 d).elim (a2 n) (b2 n)
   .refine(?_:n∈lx++ly↔C1 h.R x y n=x);rw[Gr,a3 w n d,b3 j n d,g];by_cases q:h.R n=y
    .rw[g0 q];simp[q]
    .rw[j4 q];simp[q]
  .rw[pJ D]at O;refine t6 (K.lotm c l O) λc1 c2 c3=>m0 c1 c2 λb n d=>?_;let b:C1 h.R x y c=c:=b;have B:h.R c=c:=by
    rw[g]at b;by_cases q:h.R c=y
    .rw[g0 q]at b;exact(D b).elim
    .rwa [j4 q]at b
   have I:c≠y:=by clear N u k hj s j R A S b3 d;rintro rfl;rw[g,g0 B]at b;exact D b
   refine(?_:n∈l↔C1 h.R x y n=c);rw[c3 B n d,g];by_cases q:h.R n=y
   .rw[g0 q,q];exact⟨λe=>(I e.symm).elim,λe=>(D e).elim⟩
   .rw[j4 q]
 .intro e F;let i:=K.kn e F;ext1 i V W;ext1 W o t q3 q4;refine⟨V,o,t,q3,(?_:e.1.2.map (C1 h.R x y)=o.2.map (C1 h.R x y))⟩;rw[Ur,Ur,q4]
 .refine(?_:((GP h.ab x y adr (ux++uy)).map (·.1)).Nodup);unfold GP;rw[v9];let this:((h.ab.filter λe=>e.1 != y).map ((λe:a6×a6×a7 a6=>e.1) ∘ λe=>if e.1=x then(x,adr,ux++uy)else e))=(h.ab.filter λe=>e.1 != y).map (·.1):=by
   refine A1 λe w0=>?_;dsimp only[Hs];by_cases q:e.1=x
   .rw[g0 q,q]
   .rw[j4 q]
  rw[this];exact K.abk.sublist (List.filter_sublist.map _)
 .intro e F;refine B0 (show e∈(h.ab.filter λe=>e.1 != y).map _ from F) ?_;clear F;rintro G T;let i:=BP T;ext1 i U hy0;let i:=K.abr G U;ext1 i V t q3;let b:C1 h.R x y G.1=G.1:=by rw[g,t,j4 (by simpa using hy0:G.1≠y)]
  by_cases q:G.1=x
  .rw[g0 q];exact m0 H (by rw[q]at b;exact b) λn d=>(v3 d).elim (Z n) (Q n)
  .rw[j4 q];exact m0 V b q3
 .intro c D b;have b:C1 h.R x y c=c:=b;have I:c≠y:=by
   clear N u k hj s A D;rintro rfl;rw[g,g0 j]at b
   solve_by_elim (maxDepth:=3)only[*,j7,q5,b6]
  have B:h.R c=c:=by
   rw[g]at b;by_cases q:h.R c=y
   .rw[g0 q]at b;clear D I q;subst b;assumption
   .rwa [j4 q]at b
  refine c9 (K.aba c D B) ?_;clear D b B;clear b;rintro e F rfl;refine d0 _ (C0 (a:=e) (BE F (by simpa using I)) rfl) ?_;by_cases q:e.1=x
  .rw[g0 q,q]
  .rw[j4 q]
 .intro e F n o v d L b;refine A8 (show e∈(h.ab.filter λe=>e.1 != y).map _ from F) ?_;clear F;rintro G T rfl;let i:=BP T;ext1 i U hy0;let b:C1 h.R x y v=(if G.1=x then(x,adr,ux++uy)else G).1:=b;rw[g]at b;by_cases q:G.1=x
  .rw[g0 q]at b ⊢;by_cases t:h.R v=y
   .exact K6 _ (K.abc _ N n o v d L t)
   .rw[j4 t]at b;exact G1 _ (K.abc _ hx n o v d L b)
  .rw[j4 q]at b ⊢;by_cases t:h.R v=y
   .rw[g0 t]at b;exact(q b.symm).elim
   .rw[j4 t]at b;exact K.abc _ U n o v d L b
 .intro n d;exact(v3 (show n∈h.Y++uy from d)).elim (K.wt n) (Q n)
 .intro n o d;rcases K.cl n o d with q|q|⟨v,V,t⟩
  .exact .inl q
  .exact .inr (.inl (G1 _ q))
  .by_cases Y:∃v∈o.2,h.R v=y
   .ext1 Y v L b;exact .inr (.inl (K6 _ (K.abc _ N n o v d L b)))
   .refine .inr (.inr (d0 v ?_ ?_))
    .let this:q6 (C1 h.R x y) o=q6 h.R o:=by unfold q6;congr 1;refine A1 λv L=>?_;rw[g,j4 λq=>Y (d0 v L q)]
     refine(?_:(q6 (C1 h.R x y) o,v)∈h.y);rw[this];exact V
    .refine(?_:C1 h.R x y v=C1 h.R x y n);rw[g,g,t]
 .intro E hE hC m n hm d b;let M:∀n,n<h.N.length->E n=E (C1 h.R x y n):=λn d=>by
   let J:=K.least E (λp hp=>hE p (hPP p hp):∀p∈P,E p.1=E p.2) hC n (h.R n) d (K.uf.ltN d) (K.uf.iE d).symm;rw[g];by_cases q:h.R n=y
   .rw[g0 q,hj E hE hC,<-q];exact J
   .rw[j4 q];exact J
  let b:C1 h.R x y m=C1 h.R x y n:=b;rw[M m hm,M n d,b]
 .let J:=nj (f:=λe:a6×a6×a7 a6=>e.2.2.length) K.abk N;let h2:=sy (f:=λe:a6×a6×a7 a6=>e.2.2.length) (r:=(x,adr,ux++uy)) (K.abk.sublist (List.filter_sublist.map _)) (BE hx (by simpa using R):(x,ax,ux)∈h.ab.filter λe=>e.1 != y);let h3:=K.sum;refine(?_:((GP h.ab x y adr (ux++uy)).map λe=>e.2.2.length).sum<=2*h.N.length);unfold GP;dsimp only at J h2;rw[u7]at h2;exact sj J h2 h3
 .let this:=K.lapN;exact⟨b6 this.1 (O8 C.1 2),C.2⟩
 .let this:=K.bw;refine(?_:h.y.length+(h.Y++uy).length+z<=h.N.length+20*J8 (C1 h.R x y) h.N.length);rw[u7];exact wo A this huy
 .let this:=K.bn;exact mr A this C
 .refine(?_:(h.Y++uy).length+_<_);rw[u7];exact me A (NU (C1 h.R x y) h.N.length) huy
theorem Ou(l:a7 (Nd×a6))(nd:Nd):v7 (Ao l) (o4 nd)=a8:=by unfold v7 Ao;rw[Nf];simp only[C4,V6,Fv];refine⟨rfl,?_⟩;rintro e a;ext c9 a x b rfl;rw[Nf];rfl
theorem YX(b:(l.map (·.1)).Nodup)(c:(nd,v)∈l):t5 (Ao l) (o4 nd)=a0 (iD v):=by refine KA (Kf _ _) ?_ (C0 c rfl);unfold Ao;rw[v9];let a:(Bu ∘ λ(e:Nd×a6)=>(o4 e.1,iD e.2))=o4 ∘ λe=>e.1:=rfl;rw[a,<-v9,Br,Y6];exact(BR b).imp λh e=>h (Kt e)theorem Yk(h:∀v,(nd,v)∉l):t5 (Ao l) (o4 nd)=b4:=by refine Ij λe a b=>?_;ext A8 a x c rfl;exact h x.2 (Kt b▸c)def IW(h:HG):a6:=h.Y.length+20*(h.N.length - J8 h.R h.N.length)theorem Zd(F:UF N par R){nd:Nd}(h:∀x∈nd.2,x<N):(nd.2.map R).map R=nd.2.map R:=by rw[v9];exact A1 λx a=>F.iE (h x a)
theorem XW{st:St}{h:HG}{k:a6}{P:a7 (a6×a6)}{X:a6->Prop}{Q:Q1}(H:y7 st h)(K:O6 h P (λm=>X m\/m=n) lap (z+1))(o:n<h.N.length)
 (hq:∀F h',Fm HF st F->y7 F h'->O6 h' P X lap z->h'.N=h.N->IW h'<=IW h->Q .none F):u9 u8 (k+4) "Heap" "look_at" [.ref 4,iD n] st Q:=by
 refine E3 (fd:=Ua) rfl rfl ?_;delta Ua;let S:=K.few;let T:=K.lapN;refine d4 (O0 o) λc g=>?_;have j:∀x∈c.2,x<h.N.length:=λx N=>AH (K.N.kid n c g x N) o;refine d4 H.y λZ hK=>?_;exists(H.Z.C rfl rfl),hK.I,hK.kind,Ib,H.Z.I,rfl;refine H.Z.go (YY H K.N K.uf g λG U=>?_);have K1:=hK.ex U;have f:=H.ex U;exists K1.kind,rfl;by_cases I:∃v,(q6 h.R c,v)∈h.y
 .ext d4 I v O;rw[KX K1 (Ou _ _) (by unfold Ao;rw[f7];let a:=S.kn;exact p6) (YX K.knn O)];let zz:=K.kn _ O;ext1 zz w0 rr;ext y0 rr nv C hv1 hv2;dsimp only at C hv1 hv2;let u:=w6 C;exists f.Z.I,rfl;refine f.Z.go (Ip f K.uf (LI T) u ?_);exists f.Z.I,rfl;refine f.Z.go (Ip f K.uf (LI T) o ?_);exists FV,rfl;by_cases V:h.R v=h.R n
  .rw[show decide (h.R v≠h.R n)=c8 from by simp[V]];exists 0;refine hq G h (Fm.ex U) f {K with cl:=λm r i=>?_,bw:=by let a:=K.bw;exact m9 ‹_›} rfl (l8 _);rcases K.cl m r i with(q|q)|q
   .exact .inl q
   .clear K o;subst q;rw[g]at i;cases i;exact .inr (.inr (d0 v O V))
   .exact .inr q
  .rw[show decide (h.R v≠h.R n)=a8 from by simpa using V];exists f.Z.I,rfl;refine f.Z.go (YS f K.uf S K.abk K.aba u o (λq=>(V q).elim) λl x y adr ux uy hxy hlt⟨ax,hax⟩⟨ay,hay⟩s A=>?_);let hEv:∀E:a6->a6,(∀p∈P,E p.1=E p.2)->DH h.N E->E v=E n:=λE W R=>by
    refine R v n nv c C g hv1.symm ?_;let kn':∀(m:a6)(r:Nd),h.N[m]?=a0 r->r.2.map E=(r.2.map h.R).map E:=λm r i=>by
     rw[v9];refine A1 λx N=>?_;let J:=AH (K.N.kid m r i x N) (w6 i);exact K.least E W R x (h.R x) J (K.uf.ltN J) (K.uf.iE J).symm
    let hv2':c.2.map h.R=nv.2.map h.R:=by let a:(q6 h.R c).2.map h.R=c.2.map h.R:=Zd K.uf j;rw[<-a,hv2]
    rw[kn' v nv C,kn' n c g,hv2']
   let M:∀E:a6->a6,(∀p∈P,E p.1=E p.2)->DH h.N E->E x=E y:=λE W R=>by
    let h1:=K.least E W R v (h.R v) u (K.uf.ltN u) (K.uf.iE u).symm;let h2:=K.least E W R n (h.R n) o (K.uf.ltN o) (K.uf.iE o).symm;have h3:=hEv E W R;rcases hxy with q|q
    .rw[q.1,q.2,<-h1,<-h2,h3]
    .rw[q.1,q.2,<-h1,<-h2,h3]
   obtain⟨K2,M2⟩:=K.join (P':=P) (lap':=lap) (adr:=adr) hax hay hlt (λp hp=>hp) (λp hp=>by
    refine t6 (K.tO p hp) λt B q3=>m0 t B ((?_:(if h.R p.1=y then x else h.R p.1)=(if h.R p.2=y then x else h.R p.2)));rw[q3]) ⟨l8 _,T.2⟩ M
   exists 0;refine hq l _ ((Fm.ex U).trans s) A {K2 with cl:=λm r i=>?_,bw:=by let a:=K2.bw;exact m9 ‹_›} rfl (m9 M2);rcases K2.cl m r i with(q|q)|q
   .exact .inl q
   .clear o hEv K2;subst q;let i:h.N[m]?=a0 r:=i;rw[g]at i;cases i;by_cases hk:∃w∈c.2,h.R w=y
    .ext c9 hk w Y hwr;exact .inr (.inl (K6 _ (K.abc _ hay m c w g Y hwr)))
    .refine .inr (.inr (d0 v ?_ ?_))
     .let a:q6 (C1 h.R x y) c=q6 h.R c:=by unfold q6;congr 1;refine A1 λw Y=>(?_:(if h.R w=y then x else h.R w)=h.R w);rw[j4 λq=>hk (d0 w Y q)]
      refine(?_:(q6 (C1 h.R x y) c,v)∈h.y);rw[a];exact O
     .refine(?_:(if h.R v=y then x else h.R v)=(if h.R m=y then x else h.R m));rcases hxy with q|q
      .rw[q.1,q.2,j4 V,g0 rfl]
      .rw[q.1,q.2,g0 rfl,VT]
   .exact .inr q
 .have hno:∀v,(q6 h.R c,v)∉h.y:=λv O=>I ⟨v,O⟩;rw[LJ K1 (Ou _ _) (by unfold Ao;rw[f7];have a:=S.kn;exact p6) (Yk hno)];exists rfl;rw[(by unfold Ao;rw[p9];rfl:Ao h.y++[(o4 (q6 h.R c),iD n)]=Ao (h.y++[(q6 h.R c,n)]))];generalize L:G.set 18 (.D (Ao (h.y++[(q6 h.R c,n)])) (Z+1))=l;have s:Fm (λb=>b=18) G l:=by rw[<-L];exact Fm.set rfl
  let A:y7 l {h with y:=h.y++[(q6 h.R c,n)]}:=by
   refine⟨b6 f.n23 s.1,f.Z.fr s,f.bank.fr s λb w0 w0=>gM ‹_› rfl,f.uni.fr s λb hb=>?_,?_,?_,⟨_,(by rw[<-L];exact m7.U K1.1:m7 l 18 (Ao (h.y++[(q6 h.R c,n)])) (Z+1))⟩,?_,f.Y.fr s,λe D=>?_,f.abn⟩
   .rcases hb with q|q
    .exact λe=>u6 (b6 (A5 e.symm) q.2) (by decide)
    .let a:=f.uni.lo b q;exact gF a rfl
   .exact c9 f.edges λes t B=>d0 es (t.fr s) B
   .exact c9 f.forest λes t B=>d0 es (t.fr s) B
   .exact d4 f.above λep t=>⟨ep,t.fr s⟩
   .exact t6 (f.abl e D) λt B q3=>m0 t B (q3.fr s (gF ‹_› rfl))
  exists A.Z.I,rfl;refine A.Z.go (Ip A K.uf (by refine(?_:h.N.length<=100);exact LI T) o ?_);exists A.Z.I,rfl;refine A.Z.go (Ip A K.uf (by refine(?_:h.N.length<=100);exact LI T) o ?_);exists FV,rfl;rw[show decide (h.R n≠h.R n)=c8 from by simp];exists 0;refine hq l _ ((Fm.ex U).trans (s.mono λb w0 q=>.inl (gE q rfl rfl))) A ⟨K.N,K.uf,K.lN,K.lotm,?_,?_,K.abk,K.abr,K.aba,K.abc,K.wt,?_,K.least,K.tO,K.sum,K.lapN,?_,K.bn⟩ rfl (l8 _)
  .intro e D;rcases v3 (show e∈h.y++[(q6 h.R c,n)] from D)with D|D
   .exact K.kn e D
   .rw[o9]at D;subst D;refine⟨λx N=>?_,c,g,rfl,Zd K.uf j⟩;refine B0 (show x∈c.2.map h.R from N) ?_;clear N;rintro w Y;exact K.uf.ltN (j w Y)
  .refine(?_:((h.y++[(q6 h.R c,n)]).map (·.1)).Nodup);rw[p9,BK];refine m0 K.knn (by simp) λa ha b hb e=>?_;simp only[y4,W0,o9]at hb;subst hb;exact A8 ha λd hd q=>hno d.2 (by rw[<-e,<-q];exact hd)
  .intro m r i;rcases K.cl m r i with(q|q)|q|⟨v,t,B⟩
   .exact .inl q
   .clear K o L A;subst q;let i:=i;rw[g]at i;cases i;exact .inr (.inr (d0 m (K6 _ P3) rfl))
   .exact .inr (.inl q)
   .exact .inr (.inr (d0 v (G1 _ t) B))
  .let a:=K.bw;rw[u7];exact wM a
theorem fc(H:y7 st h)(K:O6 h P (λv=>k6) lap 0)
 (T:∀f p,Fm HF st f->y7 f p->O6 p P (λv=>k6) lap 0->p.N=h.N->p.Y=[]->Q .none f):u9 u8 (k+5) "Heap" "settle" [.ref 4] st Q:=by
 refine E3 (fd:=Sn) rfl rfl ?_;delta Sn;exists 0;refine NX (I:=λm ρ f=>ρ "self"=a0 (.ref 4)/\Fm HF st f/\∃p,y7 f p/\O6 p P (λv=>k6) lap 0/\p.N=h.N/\IW p=m) ?_ ⟨rfl,Fm.refl _,h,H,K,rfl,rfl⟩;rintro m ρ s Kk L U;ext t6 L B M N;ext BU N l d t z w;let S1:=t.few;let C:G8 s (.ref 4) "waiting"=a0 (.ref 20):=d.Z.C rfl rfl;let D:=W8 d.Y;rw[f7]at D;let O:=aK (j:=0);exists B,C,D,O,rfl;(try exists 0,B,C,D,O);cases R:l.Y.reverse with
 |nil=>
  let a:l.Y=[]:=by rw[<-Qb l.Y,R];rfl
  rw[a];exact T s l M d t z a
 |cons n r=>
  have a:l.Y=r.reverse++[n]:=by rw[<-Qb l.Y,R,Pw]
  rw[(by rw[a];simp:decide (0<l.Y.length)=a8)];have x:=d.Y;rw[a,p9]at x;exists d.Z.I,rfl;refine d.Z.go ?_;exists B,C,x.I,x.kind,eX,(cK x),rfl;refine M8 (s.set 20 (.L (r.reverse.map iD))) λu A=>?_;have o:Fm (λb=>b=20) s u:=by rw[<-A];exact Fm.set rfl
  let V:y7 u {l with Y:=r.reverse}:=by
   refine⟨b6 d.n23 o.1,d.Z.fr o,d.bank.fr o λb v v=>gM ‹_› rfl,d.uni.fr o λb W=>?_,?_,?_,?_,?_,(by rw[<-A];exact d6.U x.1:d6 u 20 (r.reverse.map iD)),λe X=>?_,d.abn⟩
   .rcases W with q|q
    .exact λe=>u6 (b6 (A5 e.symm) q.2) (by decide)
    .let c:=d.uni.lo b q;exact gF c rfl
   .exact c9 d.edges λE i y=>d0 E (i.fr o) y
   .exact c9 d.forest λE i y=>d0 E (i.fr o) y
   .let g:=d.y;ext1 g F i;exact⟨F,i.fr o⟩
   .let g:=d.above;ext1 g F i;exact⟨F,i.fr o⟩
   .let g:=d.abl e X;ext1 g i y Y;exact m0 i y (Y.fr o (gF ‹_› rfl))
  let Z:O6 {l with Y:=r.reverse} P (λm=>k6\/m=n) lap (0+1):=by
   refine{t with wt:=λm w=>t.wt m (by rw[a];exact G1 _ w),cl:=λm md w=>?_,bw:=?_}
   .rcases t.cl m md w with q|q|q
    .exact q.elim
    .rw[a]at q;rcases v3 q with q|q
     .exact .inr (.inl q)
     .exact .inl (.inr (cz q))
    .exact .inr (.inr q)
   .let c:=t.bw;rw[a,u7]at c;simp only[N6,AI]at c;assumption
  refine XW V Z (t.wt n (by rw[a];simp)) λst3 S g3 H3 K3 G J=>?_;exists 0;refine U (IW S) _ _ ?_ ⟨B,M.trans ((o.mono λb v q=>.inl (gE q rfl rfl)).trans g3),S,H3,K3,G.trans z,rfl⟩;let c:IW {l with Y:=r.reverse}<m:=by rw[<-w];unfold IW;rw[a,u7];simp
  exact q5 J c
def Aq(l:a7 (a6×a6×a7 a6))(cs:a7 a6)(n:a6):a7 (a6×a6×a7 a6):=l.map λe=>if e.1∈cs then(e.1,e.2.1,e.2.2++[n])else e
theorem Xu(l:a7 (a6×a6×a7 a6))(cs:a7 a6)(n:a6):(Aq l cs n).map (·.1)=l.map (·.1):=by
 unfold Aq;rw[v9];refine A1 λe a=>?_;dsimp only[Hs];by_cases q:e.1∈cs
 .rw[g0 q]
 .rw[j4 q]
theorem zY:∀(l:a7 (a6×a6×a7 a6))(cs:a7 a6)(n:a6),((Aq l cs n).map (·.2.2.length)).sum=(l.map (·.2.2.length)).sum+(l.filter λe=>decide (e.1∈cs)).length:=by
 intro b
 induction b with
 |nil=>intro cs n;exact rfl
 |cons e l a=>
  intro cs n;let a:=a cs n;unfold Aq at a ⊢;rw[y4,y4,Fo,y4,Fo,DS,a];by_cases q:e.1∈cs
  .rw[g0 q,g0 (by simpa using q),u7,N6];exact rf
  .rw[j4 q,j4 (by simpa using q)];exact sh
def HG.ext(h:HG)(nd:Nd)(a1 a2:a6)(cs:a7 a6):HG:=
 {h with N:=h.N++[nd],u:=h.u.make a1,R:=λm=>if m=h.N.length then h.N.length else h.R m,ab:=Aq h.ab cs h.N.length++[(h.N.length,a2,[])]}
theorem GM{α:Type}{l:a7 α}{x y:α}{i:a6}(h:(l++[x])[i]?=a0 y):l[i]?=a0 y/\i<l.length\/i=l.length/\y=x:=by
 rw[VK]at h;by_cases q:i<l.length
 .rw[g0 q]at h;exact .inl ⟨h,q⟩
 .rw[j4 q]at h;have a:i - l.length=0:=by let a:=w6 h;simpa using a
  rw[a]at h;cases h;exact .inr ⟨AL (Va a) (Nat.not_lt.mp q),rfl⟩
theorem O6.ext{h:HG}{P:a7 (a6×a6)}{X lap' a1 a2:a6}{nd:Nd}{cs:a7 a6}(K:O6 h P (λV=>k6) X 0)(k:nd∉h.N)(ho:Fd nd.1)(W:nd.2.length<=2)(M:∀x∈nd.2,x<h.N.length)
 (hcs:cs.Nodup)(G:∀c,c∈cs↔c∈nd.2.map h.R)(J:h.N.length+1<=lap'+2/\X<=lap'/\lap'<=6):O6 (h.ext nd a1 a2 cs) P (λm=>k6\/m=h.N.length) lap' 1:=by
 have g:(h.N++[nd]).length=h.N.length+1:=by rw[u7];rfl
 have F:∀m,m<h.N.length->(if m=h.N.length then h.N.length else h.R m)=h.R m:=λm C=>j4 (m6 C);let Y:(if h.N.length=h.N.length then h.N.length else h.R h.N.length)=h.N.length:=g0 rfl;have o:∀(n:a6)(y:Nd),(h.N++[nd])[n]?=a0 y->∀x∈y.2,x<n/\x<h.N.length:=λn y C x u=>by
  rcases GM C with⟨q,D⟩|⟨t,w⟩
  .let this:=K.N.kid n y q x u;exact⟨this,AH this D⟩
  .clear k ho W G g C;subst t w;exact⟨M x u,M x u⟩
 have H:∀l:a7 a6,(∀x∈l,x<h.N.length)->l.map (λm=>if m=h.N.length then h.N.length else h.R m)=l.map h.R:=λl J=>A1 λx u=>F x (J x u);let Z:J8 (λm=>if m=h.N.length then h.N.length else h.R m) (h.N.length+1)=J8 h.R h.N.length:=by
  unfold J8;rw[iA,Pf,u7];let e1:(p0 h.N.length).filter (λn=>(if n=h.N.length then h.N.length else h.R n) != n)=(p0 h.N.length).filter λn=>h.R n != n:=
   pP λn k=>by rw[F n (U8 k)]
  let e2:[h.N.length].filter (λn=>(if n=h.N.length then h.N.length else h.R n) != n)=[]:=by rw[DS,Y,j4 (by simp)];rfl
  rw[e1,e2];rfl
 let hcsN:∀c∈cs,c<h.N.length:=λc I=>by
  refine B0 ((G c).mp I) ?_;clear I;rintro x u;exact K.uf.ltN (M x u)
 let hcl:cs.length<=2:=by let this:=V4 hcs λc I=>(G c).mp I;rw[f7]at this;exact gA W this rfl
 refine⟨⟨?_,?_,?_,?_⟩,⟨?_,?_,?_,?_⟩,?_,?_,?_,K.knn,?_,?_,?_,?_,?_,?_,?_,?_,?_,?_,?_,?_⟩
 .refine(?_:(h.N++[nd]).Nodup);rw[BK];refine m0 K.N.nd (by simp) λa O b N e=>?_;rw[o9]at N;clear ho W M G g o;subst N e;exact k O
 .exact(g▸b6 J.1 (b6 (O8 J.2.2 2) (by decide)):(h.N++[nd]).length<=20)
 .intro x u;rcases v3 (show x∈h.N++[nd] from u)with u|u
  .exact K.N.op x u
  .rw[o9]at u;clear k M G g o;subst u;exact⟨ho,W⟩
 .exact λi y C x u=>(o i y C x u).1
 .refine(?_:(h.u.par++[h.u.par.length]).length=(h.N++[nd]).length);rw[u7,u7,K.uf.len];rfl
 .intro n p Q;rcases GM (show(h.u.par++[h.u.par.length])[n]?=a0 p from Q)with⟨q,D⟩|⟨t,w⟩
  .exact K.uf.le n p q
  .exact dw ‹_› ‹_›
 .intro n p Q;refine(?_:(if n=h.N.length then h.N.length else h.R n)=(if p=h.N.length then h.N.length else h.R p));rcases GM (show(h.u.par++[h.u.par.length])[n]?=a0 p from Q)with⟨q,D⟩|⟨t,w⟩
  .let h1:=K.uf.le n p q;rw[K.uf.len]at D;rw[F n D,F p (Bo D h1)];exact K.uf.up n p q
  .rw[t,w]
 .intro n Q;refine(?_:(if n=h.N.length then h.N.length else h.R n)=n);rcases GM (show(h.u.par++[h.u.par.length])[n]?=a0 n from Q)with⟨q,D⟩|⟨t,w⟩
  .rw[K.uf.len]at D;rw[F n D];exact K.uf.top n q
  .rw[K.uf.len]at t;refine G6 t ?_;rw[t]
 .refine(?_:(h.u.S++[[h.u.par.length]]).length=(h.N++[nd]).length);rw[u7,u7,K.lN];rfl
 .intro c l J;refine(?_:l.Nodup/\(∀n∈l,n<(h.N++[nd]).length)/\((if c=h.N.length then h.N.length else h.R c)=c->∀n,n<(h.N++[nd]).length->(n∈l↔(if n=h.N.length then h.N.length else h.R n)=c)));rcases GM (show(h.u.S++[[h.u.par.length]])[c]?=a0 l from J)with⟨q,D⟩|⟨t,w⟩
  .rw[K.lN]at D;refine t6 (K.lotm c l q) λa1 a2 a3=>m0 a1 (λn k=>by let this:=a2 n k;exact EG this g) λs n k=>?_;rw[F c D]at s;by_cases B:n=h.N.length
   .rw[g0 B];refine⟨λC=>?_,λe=>?_⟩
    .let this:=a2 n C;exact wu this B
    .exact(m6 D e.symm).elim
   .rw[j4 B];exact a3 s n (GG k g B)
  .rw[K.lN]at t;rw[K.uf.len]at w;clear J;subst t w;refine m0 (by simp) (λn k=>?_) λV n k=>?_
   .rw[o9]at k;exact g▸k▸B8 _
   .rw[o9];by_cases B:n=h.N.length
    .rw[g0 B];simp[B]
    .rw[j4 B];let this:=K.uf.ltN (n:=n) (GG k g B);exact⟨λe=>(B e).elim,λe=>uR this e⟩
 .intro e z;let A:=K.kn e z;ext1 A t R;ext y0 R y w q3 q4;let hl2:=w6 w;refine⟨λx u=>?_,y,?_,q3,?_⟩
  .refine(?_:x<(h.N++[nd]).length);let this:=t x u;exact EG this g
  .refine(?_:(h.N++[nd])[e.2]?=a0 y);rw[Mq hl2];exact w
  .refine(?_:e.1.2.map (λm=>if m=h.N.length then h.N.length else h.R m)=y.2.map λm=>if m=h.N.length then h.N.length else h.R m);rw[H _ t,H _ λx u=>(o e.2 y (by rw[Mq hl2];exact w) x u).2];exact q4
 .refine(?_:((Aq h.ab cs h.N.length++[(h.N.length,a2,[])]).map (λe:a6×a6×a7 a6=>e.1)).Nodup);rw[p9,Xu,BK];refine m0 K.abk (by simp) λa O b N e=>?_;ext A8 O d T rfl;simp only[y4,W0,o9]at N;let this:=(K.abr d T).1;exact(m6 this (e.trans N)).elim
 .intro e z;refine(?_:e.1<(h.N++[nd]).length/\(if e.1=h.N.length then h.N.length else h.R e.1)=e.1/\∀n∈e.2.2,n<(h.N++[nd]).length);rcases v3 (show e∈Aq h.ab cs h.N.length++[(h.N.length,a2,[])] from z)with z|z
  .refine B0 z ?_;clear z;clear z;rintro d T;let A:=K.abr d T;ext1 A b1 b2 b3;by_cases q:d.1∈cs
   .rw[g0 q];refine m0 (by refine(?_:d.1<_);exact EG b1 g) (by refine(?_:(if d.1=_ then _ else _)=d.1);rw[F _ b1];exact b2) λn k=>?_;rcases v3 (show n∈d.2.2++[h.N.length] from k)with k|k
    .let this:=b3 n k;exact EG this g
    .rw[o9]at k;exact g▸k▸B8 _
   .rw[j4 q];exact m0 (EG b1 g) (by rw[F _ b1];exact b2) (λn k=>by let this:=b3 n k;exact EG this g)
  .rw[o9]at z;subst z;exact m0 (Na g) Y λn k=>by cases k
 .intro c I s;have s:(if c=h.N.length then h.N.length else h.R c)=c:=s;by_cases L:c=h.N.length
  .exact d0 (h.N.length,a2,[]) (K6 _ P3) L.symm
  .rw[j4 L]at s;refine c9 (K.aba c (GG I g L) s) ?_;clear I s L;clear s;rintro e z rfl;refine d0 _ (G1 _ (C0 (a:=e) z rfl)) ?_;by_cases q:e.1∈cs
   .rw[g0 q]
   .rw[j4 q]
 .intro e z n y x C u s;have s:(if x=h.N.length then h.N.length else h.R x)=e.1:=s;let A:=o n y C x u;ext1 A hxn S;rw[F x S]at s;rcases v3 (show e∈Aq h.ab cs h.N.length++[(h.N.length,a2,[])] from z)with z|z
  .ext A8 z d T rfl;rcases GM (show(h.N++[nd])[n]?=a0 y from C)with⟨q,D⟩|⟨t,w⟩
   .by_cases U:d.1∈cs
    .rw[g0 U]at s ⊢;exact G1 _ (K.abc d T n y x q u s)
    .rw[j4 U]at s ⊢;exact K.abc d T n y x q u s
   .clear k ho W M g o C hxn;clear z;subst t w;by_cases U:d.1∈cs
    .rw[g0 U];exact K6 _ P3
    .rw[j4 U]at s;exact(U ((G d.1).mpr (by let hr2:=(F x S).symm.trans s;rw[<-hr2];exact V9 (f:=h.R) u))).elim
  .rw[o9]at z;subst z;let this:=K.uf.ltN S;exact(KO this s).elim
 .intro n k;let this:=K.wt n k;exact EG this g
 .intro n y C;rcases GM (show(h.N++[nd])[n]?=a0 y from C)with⟨q,D⟩|⟨t,w⟩
  .rcases K.cl n y q with r|r|⟨v,r1,r2⟩
   .exact r.elim
   .exact .inr (.inl r)
   .refine .inr (.inr (d0 v ?_ ?_))
    .let this:q6 (λm=>if m=h.N.length then h.N.length else h.R m) y=q6 h.R y:=by unfold q6;rw[H _ λx u=>(o n y C x u).2]
     refine(?_:(q6 (λm=>if m=h.N.length then h.N.length else h.R m) y,v)∈h.y);rw[this];exact r1
    .let hvN:v<h.N.length:=by let A:=K.kn _ r1;ext1 A V R;ext1 R V w V;exact w6 w
     refine(?_:(if v=h.N.length then h.N.length else h.R v)=(if n=h.N.length then h.N.length else h.R n));rw[F v hvN,F n D,r2]
  .exact .inl (.inr t)
 .intro E hE hC m n C k s;let s:(if m=h.N.length then h.N.length else h.R m)=(if n=h.N.length then h.N.length else h.R n):=s;let C:m<(h.N++[nd]).length:=C;let k:n<(h.N++[nd]).length:=k;have hC':DH h.N E:=λi j a b O N hab M=>hC i j a b (by
   refine(?_:(h.N++[nd])[i]?=a0 a);rw[Mq (w6 O)];exact O) (by
   refine(?_:(h.N++[nd])[j]?=a0 b);rw[Mq (w6 N)];exact N) hab M
  by_cases t:m=h.N.length
  .by_cases w:n=h.N.length
   .rw[t,w]
   .rw[g0 t,j4 w]at s;let this:=K.uf.ltN (n:=n) (GG k g ‹_›);exact xU this s
  .by_cases w:n=h.N.length
   .rw[j4 t,g0 w]at s;let this:=K.uf.ltN (n:=m) (GG C g t);exact dD this s
   .rw[j4 t,j4 w]at s;exact K.least E hE hC' m n (GG C g t) (GG k g ‹_›) s
 .intro p Q;let A:=K.tO p Q;ext1 A t w q3;refine(?_:p.1<(h.N++[nd]).length/\p.2<(h.N++[nd]).length/\(if p.1=h.N.length then h.N.length else h.R p.1)=(if p.2=h.N.length then h.N.length else h.R p.2));rw[F _ t,F _ w];exact m0 (EG t g) (EG ‹_› g) q3
 .refine(?_:((Aq h.ab cs h.N.length++[(h.N.length,a2,[])]).map (λe:a6×a6×a7 a6=>e.2.2.length)).sum<=2*(h.N++[nd]).length);rw[p9,UZ,zY];let h1:((h.ab.filter λe=>decide (e.1∈cs)).map (·.1)).length<=cs.length:=V4 (K.abk.sublist (List.filter_sublist.map _)) λc I=>by
   ext B0 I e z;simpa using(Hk z)
  rw[f7]at h1;exact rU g K.sum hcl h1
 .exact(dy J g:(h.N++[nd]).length<=lap'+2/\lap'<=6)
 .have:=K.bw;refine(?_:h.y.length+h.Y.length+1<=(h.N++[nd]).length+20*J8 (λm=>if m=h.N.length then h.N.length else h.R m) (h.N++[nd]).length);rw[g,Z];exact b6 (U6 this) (A5 (Y7 _ _ 1))
 .have:=K.bn;refine(?_:h.ne<=lap'+J8 (λm=>if m=h.N.length then h.N.length else h.R m) (h.N++[nd]).length/\h.nf<=J8 (λm=>if m=h.N.length then h.N.length else h.R m) (h.N++[nd]).length/\h.u.mg<=J8 (λm=>if m=h.N.length then h.N.length else h.R m) (h.N++[nd]).length);rw[g,Z];exact⟨b6 this.1 (O8 J.2.1 _),this.2⟩theorem Uc(l:a7 a6):G9 (l.map iD):=by intro x c y d;ext B0 c a e;ext B0 d b e;rfl
theorem Hd(h:G9 xs):xs.all (λx=>xs.all λy=>P0 x y)=a8:=
 Cw λx a=>Cw λy b=>h x a y b
theorem TX(h:d6 st a b)(c:G9 b)(e:b.length<=1000)(d:B9 (C9 b)=a8):M3 .sS [.ref a] st=a0 (.ref st.n,st.A (.L (y8 (C9 b)))):=by refine(?_:((st.list? (.ref a)).bind λb=>if b.all (λx=>b.all λy=>P0 x y)/\b.length<=j8/\B9 (C9 b)then a0 (b0.ref st.n,st.A (.L (y8 (C9 b))))else b4)=_);rw[h.list,CM,g0 (m0 (Hd c) (by unfold j8;exact p6) d)]
theorem tG{l:a7 a6}(h:l.length<64):B9 (C9 (l.map iD))=a8/\∃g:a7 a6,g.Nodup/\(∀c,c∈g↔c∈l)/\y8 (C9 (l.map iD))=g.map iD:=by
 let p:=EW (Uc l);let q:=GB (Uc l);have i:C9 (l.map iD)=((C9 (l.map iD)).map t9).map iD:=by
  rw[v9]
  conv=>lhs;rw[<-AZ (C9 (l.map iD))]
  refine A1 λx k=>B0 ((p x).mp k) ?_;clear k;rintro n w;refine(?_:iD n=iD (t9 (iD n)));rw[O5]
 generalize v:(C9 (l.map iD)).map t9=m at i;haveI:DV b0:=λa b=>DO _
 let j:m.length<64:=by let f:=V4 q λx k=>(p x).mp k;rw[i,f7,f7]at f;exact et h f
 have t:∀c,c∈m↔c∈l:=λc=>by
  let f:=p (iD c);rw[i]at f;constructor
  .intro h;exact A8 (f.mp (V9 h)) λd r e=>EC e▸r
  .intro h;exact A8 (f.mpr (V9 h)) λd r e=>EC e▸r
 let u:m.Nodup:=by rw[i,Br,Y6]at q;exact UM (q.imp λh e=>h (by rw[e]))
 rw[i];refine⟨XL j,?_⟩;let o:=YV (Y1 (m.map iD));ext1 o g s e;exact v8 g (s.nodup_iff.mpr u) (λc=>s.mem_iff.trans (t c)) e
theorem y7.app(H:y7 st h)(D:(h.ab.map (·.1)).Nodup)(p:e∈h.ab):
 y7 (st.set e.2.1 (.L (e.2.2.map iD++[iD n]))) {h with ab:=h.ab.map λd=>if d.1=e.1 then(d.1,d.2.1,d.2.2++[n])else d}:=by
 refine t6 (H.abl e p) λa m A=>?_;let g:Fm (λb=>b=e.2.1) st (st.set e.2.1 (.L (e.2.2.map iD++[iD n]))):=Fm.set rfl;let r:d6 (st.set e.2.1 (.L (e.2.2.map iD++[iD n]))) e.2.1 (e.2.2.map iD++[iD n]):=d6.U A.1;revert g r;refine gen (st.set e.2.1 (.L (e.2.2.map iD++[iD n]))) λG g r=>?_;refine⟨b6 H.n23 g.1,H.Z.fr g (gC a rfl) (gC a rfl),H.bank.fr g λb s s=>xY a ‹_›,H.uni.fr g λb E=>?_,?_,?_,?_,?_,H.Y.fr g (gC a rfl),?_,?_⟩
 .rcases E with q|q
  .exact λe=>u6 (b6 a (e▸q.2)) (by decide)
  .exact λe=>m (e▸q)
 .exact c9 H.edges λt a m=>d0 t (a.fr g (gC ‹_› rfl)) m
 .exact c9 H.forest λt a m=>d0 t (a.fr g (gC ‹_› rfl)) m
 .let c:=H.y;ext1 c u a;exact⟨u,a.fr g (gC ‹_› rfl)⟩
 .let c:=H.above;ext1 c u a;refine⟨u,?_⟩;let G:Q4 (h.ab.map λd=>if d.1=e.1 then(d.1,d.2.1,d.2.2++[n])else d)=Q4 h.ab:=by
   unfold Q4;rw[v9];refine A1 λd s=>?_;dsimp only[Hs];by_cases q:d.1=e.1
   .rw[g0 q]
   .rw[j4 q]
  rw[G];exact a.fr g (gC ‹_› rfl)
 .intro I o;refine B0 o ?_;rintro d v;let c:=H.abl d v;ext1 c B C F;by_cases q:d.1=e.1
  .let z:d=e:=by refine d4 (N2 v) λi f=>?_;ext d4 f w k;refine d4 (N2 p) λj f=>?_;ext d4 f y l;have G:=Ef D (by rw[o7,v5 w,k];rfl:(h.ab.map (·.1))[i]?=a0 d.1) (by rw[o7,v5 y,l,q];rfl:(h.ab.map (·.1))[j]?=a0 d.1);subst G;rw[<-k,l]
   clear p a m A g o q;subst z;rw[g0 rfl];refine m0 B C ?_;rw[p9];exact r
  .rw[j4 q];refine m0 B C (F.fr g λx=>?_);refine d4 (N2 v) λi f=>?_;ext d4 f w k;refine d4 (N2 p) λj f=>?_;ext d4 f y l;let G:=Ef H.abn (by rw[o7,v5 w,k];rfl:(h.ab.map (·.2.1))[i]?=a0 d.2.1) (by rw[o7,v5 y,l,x];rfl:(h.ab.map (·.2.1))[j]?=a0 d.2.1);subst G;rw[<-k,l]at q;exact q rfl
 .refine(?_:((h.ab.map λd=>if d.1=e.1 then(d.1,d.2.1,d.2.2++[n])else d).map (λe:a6×a6×a7 a6=>e.2.1)).Nodup);rw[v9];let G:(h.ab.map ((λe:a6×a6×a7 a6=>e.2.1) ∘ λd=>if d.1=e.1 then(d.1,d.2.1,d.2.2++[n])else d))=h.ab.map λe=>e.2.1:=by
   refine A1 λd s=>?_;dsimp only[Hs];by_cases q:d.1=e.1
   .rw[g0 q]
   .rw[j4 q]
  rw[G];exact H.abn
theorem bp(l:a7 (a6×a6×a7 a6))(a:a7 a6)(c n:a6)(e:c∉a):(Aq l a n).map (λd:a6×a6×a7 a6=>if d.1=c then(d.1,d.2.1,d.2.2++[n])else d)=Aq l (a++[c]) n:=by
 unfold Aq;rw[v9];refine A1 λd f=>?_;by_cases q:d.1∈a
 .have g:d.1≠c:=λx=>e (x▸q);simp[q,g]
 .by_cases b:d.1=c
  .subst b;simp[q]
  .simp[q,b]
theorem WX(H:y7 st h)(K:O6 h P (λO=>k6) lap 0)(ho:Fd nd.1)(h2:nd.2.length<=2)(hk:∀x∈nd.2,x<h.N.length)
 (hl:nd∉h.N->h.N.length+1<=lap'+2/\lap<=lap'/\lap'<=6)
 (hq1:∀i:a6,h.N[i]?=a0 nd->Q (iD i) st)
 (hq2:nd∉h.N->∀z h',Fm HF st z->y7 z h'->O6 h' P (λO=>k6) lap' 0->h'.N=h.N++[nd]->Q (iD h.N.length) z):
 u9 u8 (k+5) "Heap" "add" [.ref 4,.str nd.1,.B (nd.2.map iD)] st Q:=by
 refine E3 (fd:=Ts) rfl rfl ?_;delta Ts;exists(H.Z.C rfl rfl),H.bank.Z.I,rfl;refine H.bank.Z.go (ry H.bank K.N ho h2 hk (λi V=>?_) λhn s F B1=>?_)
 .let e2:G8 st (.ref 4) "unions"=a0 (.ref 12):=H.Z.C rfl rfl;exists e2,H.uni.Z.I,rfl;refine H.uni.Z.go (bJ H.uni ?_);exists K.uf.len,IL,(show decide (i<h.N.length)=a8 from by simpa using(w6 V)),rfl;(try exists 0,K.uf.len,IL,(show decide (i<h.N.length)=a8 from by simpa using(w6 V)));exact hq1 i V
 .let i1:=H.Z.fr F;let u1:=H.uni.fr F λb hb=>by
   rcases hb with q|q
   .exact λh=>u6 (b6 q.1 h.2) (by decide)
   .let this:=H.uni.lo b q;exact λh=>u6 (b6 this h.2) (by decide)
  have n1:23<=s.n:=b6 H.n23 F.1;let e2:G8 s (.ref 4) "unions"=a0 (.ref 12):=i1.C rfl rfl;exists e2,u1.Z.I,rfl;refine u1.Z.go (bJ u1 ?_);exists K.uf.len,IL,(show decide (h.N.length<h.N.length)=c8 from by simp),e2,u1.Z.I,rfl;(try exists 0,K.uf.len,IL,(show decide (h.N.length<h.N.length)=c8 from by simp),e2,u1.Z.I);refine u1.Z.go (uG u1 n1 (by rw[K.uf.len];exact LI K.lapN) (by rw[K.lN,K.uf.len]) λg S hn2 U2=>?_);exists rfl;have r:∀c,c<11\/(15<c/\c<23)->¬h.u.own c:=λc hc hq=>by
   rcases hq with hq|hq
   .exact(ZH hq hc).elim
   .let this:=H.uni.lo c hq;exact(Yy this hc).elim
  let o:=H.edges;ext1 o es hE hEl;let o:=H.forest;ext1 o fs hF hFl;let o:=H.y;ext1 o kep hK;refine d4 H.above λaep hA=>?_;have X:∀e∈h.ab,23<=e.2.1/\e.2.1∉h.u.la/\e.2.1<st.n/\d6 g e.2.1 (e.2.2.map iD):=λe A=>by
   refine t6 (H.abl e A) λq1 q2 W=>M4 q1 q2 W.1 ((W.fr F λh=>u6 (b6 ‹_› h.2) (by decide)).fr S λq=>?_);rcases q with q|q
   .exact(fB q ‹_›).elim
   .exact q2 q
  let E:=Ex.A g (.L []);let L3:=d6.new g [];let U:(g.A (.L [])).n=g.n+1:=rfl;revert E L3 U;refine gen (g.A (.L [])) λst3 E L3 U=>?_;have i3:=(i1.fr S (r _ (by decide)) (r _ (by decide))).ex E;have A3:=((hA.fr F).fr S (r _ (by decide))).ex E;let Y:t5 (Q4 h.ab) (iD h.N.length)=b4:=Ij λe A q=>by
   ext A8 A d hd rfl;let this:=(K.abr d hd).1;let this:=EC q;exact(KO ‹_› this).elim
  let hab100:=K.few.ab;let e4:=OP (v:=.ref g.n) A3 (Jc _ h.N.length) (by unfold Q4;rw[f7];exact p6);rw[Y,Ro Y]at e4;exists(i3.C rfl rfl),e4,rfl;rw[(by unfold Q4;rw[p9];rfl:Q4 h.ab++[(iD h.N.length,.ref g.n)]=Q4 (h.ab++[(h.N.length,g.n,[])]))];refine M8 (st3.set 19 (.D (Q4 (h.ab++[(h.N.length,g.n,[])])) _)) λt hs4=>?_;have G:Fm (λb=>b=19) st3 t:=by rw[<-hs4];exact Fm.set rfl
  have C:s.n<g.n:=hn2;have Z:st3.n<=t.n:=G.1;have hla2:∀a∈(h.u.make s.n).la,a<g.n:=λa ha=>by
   refine d4 (N2 ha) λi T=>d4 T ?_;clear T;clear ha;rintro V rfl;let o:=O0 (l:=(h.u.make s.n).S) (n:=i) (by rw[<-U2.len];exact V);ext1 o l hl2;exact(U2.lot i _ l (v5 V) hl2).1
  have nst:st.n<=s.n:=F.1;have H4:y7 t {h with N:=h.N++[nd],u:=h.u.make s.n,R:=λm=>if m=h.N.length then h.N.length else h.R m,ab:=h.ab++[(h.N.length,g.n,[])]}:=by
   refine⟨b6 n1 (b6 (m9 C) (b6 (U▸N8 _) Z)),i3.fr G,((B1.fr S λb h1 h2=>r _ (.inl (BJ h2))).ex E).fr G λb O O=>gM ‹_› rfl,(U2.ex E).fr G λb hb=>?_,(d0 es ((((hE.fr F).fr S (r _ (by decide))).ex E).fr G) hEl),(d0 fs ((((hF.fr F).fr S (r _ (by decide))).ex E).fr G) hFl),⟨kep,(((hK.fr F).fr S (r _ (by decide))).ex E).fr G⟩,(by rw[<-hs4];exact⟨_,m7.U A3.1⟩:∃ep,m7 t 19 (Q4 (h.ab++[(h.N.length,g.n,[])])) ep),(((H.Y.fr F).fr S (r _ (by decide))).ex E).fr G,?_,?_⟩
   .rcases hb with q|q
    .exact λe=>u6 (b6 (A5 e.symm) q.2) (by decide)
    .let this:=U2.lo b q;exact gF this rfl
   .intro e A;rcases v3 A with A|A
    .let o:=X e A;ext1 o q1 q2 W q4;refine m0 q1 (λB=>?_) ((q4.ex E).fr G (gF ‹_› rfl));rcases v3 (show e.2.1∈h.u.la++[s.n] from B)with B|B
     .exact q2 B
     .rw[o9]at B;exact(T9 _ (j7 W (B▸nst))).elim
    .rw[o9]at A;subst A;refine m0 (b6 ‹_› (m9 ‹_›)) (λB=>?_) (L3.fr G (K0 (j7 (by decide) (b6 n1 (m9 C)))));let this:=hla2 _ B;dsimp only at this;exact(T9 _ this).elim
   .refine(?_:((h.ab++[(h.N.length,g.n,[])]).map (λe:a6×a6×a7 a6=>e.2.1)).Nodup);rw[p9,BK];refine m0 H.abn (by simp) λa ha b hb=>?_;ext B0 ha d hd;simp only[y4,W0,o9]at hb;let this:=(X d hd).2.2.1;exact ce this nst C hb
  have L:(h.N++[nd]).length=h.N.length+1:=by rw[u7];rfl
  let hl':=hl hn;let o:=tG (l:=nd.2.map h.R) (by rw[f7];exact Ca);ext1 o hok T;ext y0 T y hcs1 hcs2 hcs3;have Kx:=K.ext (a1:=s.n) (a2:=g.n) (cs:=y) hn ho h2 hk hcs1 hcs2 hl';exists 0,Ez;refine Ae (nx:=λi=>.seq (.B (nd.2.map iD)) i) (xs:=nd.2.map iD) (p:=λO=>a8) (f:=λx=>iD (h.R (t9 x))) (λi V=>Ds i) ?_ ?_
  .rintro i x acc kk hx hl3 hk3;refine c9 (X8 hx) ?_;clear hx;rintro m B rfl;have hml:=hk m (p8 B);exists H4.Z.I,rfl;refine H4.Z.go (Ip H4 Kx.uf (L▸b6 hl'.1 (b6 (O8 hl'.2.2 2) (by decide))) (EG hml L) ?_);rw[O5]at hk3;rw[f7]at hl3;refine⟨by unfold j8;exact gA h2 hl3 rfl,(?_:kk (acc++[iD (if m=h.N.length then h.N.length else h.R m)]) t)⟩;rw[(λm B=>j4 (m6 B):∀m,m<h.N.length->(if m=h.N.length then h.N.length else h.R m)=h.R m) m hml];simpa using hk3
  .exists 0;rw[IO];let L5:=d6.new t ((nd.2.map h.R).map iD);have x5:=Ex.A t (.L ((nd.2.map h.R).map iD));revert L5 x5;refine gen (t.A (.L ((nd.2.map h.R).map iD))) λD L5 x5=>?_;exists 0,(TX L5 (Uc _) (by rw[f7,f7];exact p6) hok),hcs3;have L6:=d6.new D (y.map iD);have x6:=Ex.A D (.L (y.map iD));have hn45:t.n<=D.n:=x5.1;generalize D.A (.L (y.map iD))=st6 at L6 x6 ⊢;exists(Q6 L6),rfl;refine BF (nx:=λi=>.seq (.ref D.n) i) (xs:=y.map iD) (I:=λi ρ z=>Fm HF st z/\d6 z D.n (y.map iD)/\ρ "self"=a0 (.ref 4)/\ρ "n"=a0 (iD h.N.length)/\
    y7 z {h with N:=h.N++[nd],u:=h.u.make s.n,R:=λm=>if m=h.N.length then h.N.length else h.R m,ab:=Aq h.ab (y.take i) h.N.length++[(h.N.length,g.n,[])]}) (λi ρ z V hI=>T0 hI.2.1 i) ?_ ?_ ?_
   .rintro i x ρ st7 kk hx z1 hk1 hk2;ext1 z1 F7 L7 r1 r2 N;refine c9 (X8 hx) ?_;clear hx;rintro c hc rfl;refine A8 ((hcs2 c).mp (p8 hc)) λw hw hwc=>?_;have hcN:c<h.N.length:=hwc▸K.uf.ltN (hk w hw);let hcR:h.R c=c:=by rw[<-hwc];exact K.uf.iE (hk w hw)
    refine c9 (K.aba c hcN hcR) λe A J=>?_;have hnt:e.1∉y.take i:=λB=>by
     refine d4 (N2 B) λj T=>?_;ext1 T hj hje;rw[O9]at hj;let h1:y[j]?=a0 c:=by rw[Jr]at hje;rw[<-J,<-hje,v5 (IQ hj)]
     let this:=Ef hcs1 h1 hc;exact u6 this (m6 (Hm hj))
    have hem:e∈Aq h.ab (y.take i) h.N.length++[(h.N.length,g.n,[])]:=G1 _ (C0 (a:=e) A (j4 hnt));let M:((Aq h.ab (y.take i) h.N.length++[(h.N.length,g.n,[])]).map (λe:a6×a6×a7 a6=>e.1)).Nodup:=by let this:=Kx.abk;have h1:((Aq h.ab y h.N.length++[(h.N.length,g.n,[])]).map (λe:a6×a6×a7 a6=>e.1)).Nodup:=this;rw[p9,Xu]at h1 ⊢;exact h1
    let f1:G8 st7 (.ref 4) "above"=a0 (.ref 19):=N.Z.C rfl rfl;let o:=N.above;ext1 o ep7 A7;let f2:J9 (.ref 19) (iD c) st7=a0 (.ref e.2.1):=by rw[<-J];exact Gx A7 (Jc _ _) (OE M hem)
    let o:=N.abl e hem;ext1 o q1 q2 W;let hus:=K.few.us e A;let f3:=Bc W (v:=iD h.N.length) (by rw[f7];exact p6);exists 0,r1,r2,f1,f2,W.I,W.kind,X9,f3;let hadr:=(H.abl e A).2.2.1;refine(hk1 _ _ ⟨F7.trans (Fm.set (.inr q1)),L7.set (mh U C Z nst hn45 hadr),by exact r1,by exact r2,?_⟩).1;let this:(Aq h.ab (y.take i) h.N.length++[(h.N.length,g.n,[])]).map (λd:a6×a6×a7 a6=>if d.1=e.1 then(d.1,d.2.1,d.2.2++[h.N.length])else d)=Aq h.ab (y.take (i+1)) h.N.length++[(h.N.length,g.n,[])]:=by
     rw[p9];congr 1
     .rw[J];let this:=bp h.ab (y.take i) c h.N.length (by rw[<-J];exact hnt);rw[Af,hc];exact this
     .rw[y4,j4]
      .rfl
      .dsimp only;rw[J];exact K0 ‹_›
    let H8':=N.app (n:=h.N.length) M hem;dsimp only at H8';rw[this]at H8';exact H8'
   .rintro ρ st7 z2;ext1 z2 F7 L7 r1 r2 N;rw[f7,X6]at N;exists r1,r2,N.Z.I,rfl;(try exists 0,r1,r2,N.Z.I);refine N.Z.go (XW (h:=h.ext nd s.n g.n y) N Kx (Na L) λst8 h8 g8 H8 K8 hn8 O=>?_);exists 0,r2;exact hq2 hn st8 h8 (F7.trans g8) H8 K8 hn8
   .refine⟨((F.mono λb O q=>.inl (⟨b6 (by decide) q.1,b6 q.2 (by decide)⟩)).trans ((S.mono λb O q=>UG.own_HF H.uni q).trans ((Fm.ex E).trans (G.mono λb O q=>.inl (gE q rfl rfl))))).trans (Fm.ex (x5.trans x6)),L6,rfl,rfl,?_⟩;let this:Aq h.ab (y.take 0) h.N.length=h.ab:=by
     conv=>rhs;rw[<-AZ h.ab]
     exact A1 λe O=>j4 J7
    rw[this];exact H4.ex (x5.trans x6)def V5(st:St)(sp:a6):Prop:=∃(cells:a7 a6)(ep:a6),d6 st 1 (cells.map iD)/\m7 st 2 [(q9 "cells",.ref 1),(q9 "spot",iD sp)] ep/\cells.length<=48
theorem V5.fr{P:a6->Prop}{st:St}{b:a6}(F:V5 st b)(x:Fm P st st')(c:¬P 1:=by decide)(d:¬P 2:=by decide):V5 st' b:=by ext n4 F a e f g h;exact E9 a e (f.fr x c) (g.fr x d) h
theorem V5.ex{st:St}{a:a6}(F:V5 st a)(x:Ex st st'):V5 st' a:=F.fr (P:=λb=>k6) (Fm.ex x) id id
theorem QW(h:i.natAbs<=1000000/\j.natAbs<=1000000):V3 .mul (.int i) (.int j) st=a0 (.int (i*j),st):=g0 h
theorem bY(h:0<m)(c:m<=1000):∃r,r<m/\V3 .mod (.int i) (iD m) st=a0 (iD r,st):=by let a:=Int.ofNat_lt.mpr h;let b:=jE i a;refine d0 ((i.fmod m).toNat) ((Qq b).mpr (d3.fmod_lt_of_pos i a)) ((?_:(if(0:d3)<(m:d3)/\(m:d3)<=10000000 then a0 (b0.int (i.fmod m),st)else b4)=_));rw[g0 ⟨by assumption,Int.ofNat_le.mpr (b6 c (by decide))⟩];refine(?_:_=a0 (b0.int (((i.fmod m).toNat:a6):d3),st));rw[Mr b]
theorem FA{st:St}{e:a6}{Q:Q1}(F:V5 st e)(p:e<=500)(v:0<m)(q:m<=1000)(w:∀h r,Fm (λb=>b=2) st h->V5 h (e+1)->r<m->Q (iD r) h):u9 u8 (k+1) "" "_law_draw" [.ref 2,iD m] st Q:=by
 refine E3 (fd:=Sf) rfl rfl ?_;delta Sf;ext n4 F d s D t E;exists(Gx t rfl rfl),(gY (j:=1)),(OP t rfl (by simp)),rfl;refine M8 (st.set 2 (.D [(q9 "cells",.ref 1),(q9 "spot",iD (e+1))] s)) λa x=>?_;have g:Fm (λb=>b=2) st a:=by rw[<-x];exact Fm.set rfl
 have y:m7 a 2 [(q9 "cells",.ref 1),(q9 "spot",iD (e+1))] s:=by rw[<-x];exact m7.U t.1
 have u:=D.fr g;have z:V5 a (e+1):=E9 d s u y E;have A:J9 (.ref 2) (q9 "cells") a=a0 (.ref 1):=Gx y rfl rfl;let B:=W8 u;rw[f7]at B;exists A,B,IL,rfl;by_cases l:e<d.length
 .rw[show decide (e<d.length)=a8 from by simpa using l];let f:=O0 l;ext1 f c C;let f:=bY (st:=a) (i:=(c:d3)) v q;ext1 f r n o;exists A,(AT u p6 (by rw[o7,C];rfl)),rfl;rw[show V3 .mod (iD c) (iD m) a=a0 (iD r,a) from o];exact w a r g z n
 .rw[show decide (e<d.length)=c8 from by simpa using l];have G:(e:d3)<=500:=Int.ofNat_le.mpr p;exists(QW ⟨(K9 _ _),p6⟩),(QW ⟨(b6 (Y4 3 p) (by decide):3*e<=1000000),p6⟩),(QW ⟨(K9 _ _),p6⟩),(fdiv_ii ⟨by solve_by_elim (maxDepth:=2)only[*,j7],by solve_by_elim (maxDepth:=2)only[*,j7]⟩),add_zz,rfl;let f:=bY (st:=a) (i:=(3*(e:d3)*e+13*e+4).fdiv 2) v q;ext1 f r n o;rw[o];exact w a r g z n
theorem O6.eqv{X:a6->Prop}(K:O6 h P X lap z)(e:a<h.N.length)(f:b<h.N.length)(g:h.R a=h.R b)(i:lap+1<=6):
 O6 {h with ne:=h.ne+1} (P++[(a,b)]) X (lap+1) z:=by
 refine{K with least:=λE j k=>K.least E (λp d=>j p (G1 _ d)) k,tO:=λp d=>?_,lapN:=?_,bn:=?_}
 .rcases v3 d with d|d
  .exact K.tO p d
  .rw[o9]at d;subst d;exact m0 e f g
 .let c:=K.lapN;exact⟨U4 c.1,i⟩
 .let c:=K.bn;exact⟨Y7 _ 1 _▸U6 c.1,c.2⟩
theorem xB{Q:Q1}(H:y7 st h)(K:O6 h P (λF=>k6) lap 0)(e:a<h.N.length)(f:b<h.N.length)(v:lap+1<=6)
 (w:∀c m t,Fm HF st c->y7 c m->O6 m (P++[(a,b)]) (λF=>k6) (lap+1) 0->m.N=h.N->Q (.bool t) c):u9 u8 (k+4) "Heap" "merge" [.ref 4,iD a,iD b,rs] st Q:=by
 refine E3 (fd:=gT) rfl rfl ?_;exists H.Z.I,rfl;refine H.Z.go (YS H K.uf K.few K.abk K.aba e f (λG c g n=>w c _ c8 g n (K.eqv e f G v) rfl) λc x y o O R i r⟨S,s⟩⟨T,u⟩g n=>?_);let I:C1 h.R x y a=C1 h.R x y b:=by
  refine(?_:(if h.R a=y then x else h.R a)=(if h.R b=y then x else h.R b));rcases i with q|q
  .rw[g0 q.2.symm,q.1,VT]
  .rw[g0 q.2.symm,q.1,VT]
 obtain⟨J,_⟩:=K.join (P':=P++[(a,b)]) (lap':=lap+1) (adr:=o) s u r (λp d=>G1 _ d) (λp d=>by
  rcases v3 d with d|d
  .let l:=K.tO p d;ext1 l L M N;refine m0 L M ((?_:(if h.R p.1=y then x else h.R p.1)=(if h.R p.2=y then x else h.R p.2)));rw[N]
  .rw[o9]at d;subst d;exact m0 e f I) ⟨(N8 _),v⟩ (λE z A=>by
  let j:∀p∈P,E p.1=E p.2:=λp d=>z p (G1 _ d);let B:=K.least E j A a (h.R a) e (K.uf.ltN e) (K.uf.iE e).symm;let C:=K.least E j A b (h.R b) f (K.uf.ltN f) (K.uf.iE f).symm;have D:E a=E b:=z (a,b) (K6 _ P3);rcases i with q|q
  .rw[q.1,q.2,<-B,<-C,D]
  .rw[q.1,q.2,<-B,<-C,D])
 exact w c _ a8 g n J rfl
theorem sG{Q:Q1}(H:y7 st h)(K:O6 h [] (λb=>k6) 0 0)(m:Fd o)(n:(o,[])∉h.N)(v:h.N.length+1<=2)
 (q:∀a c,Fm HF st a->y7 a c->O6 c [] (λb=>k6) 0 0->c.N=h.N++[(o,[])]->Q (iD h.N.length) a):u9 u8 (k+6) "Heap" "put" [.ref 4,.B [.str o]] st Q:=by
 refine E3 (fd:=dF) rfl rfl ?_;exists H.Z.I,(BY (i:=0) (F9 _) rfl),(rfl:Er (.B [.str o]) (1:d3) st=a0 (.B [],st)),Ez,rfl;refine H.Z.go (Ae (nx:=λi=>.seq (.B []) i) (xs:=[]) (p:=λb=>a8) (f:=id) (λi l=>Ds i) ?_ ?_)
 .intro i x t w d;simp at d
 .exists 0;let L:=d6.new st ([].filter (λb=>a8)|>.map id);let e:=Ex.A st (.L ([].filter (λb=>a8)|>.map id));generalize st.A (.L ([].filter (λb=>a8)|>.map id))=u at L e ⊢;exists(ED L),rfl;exact WX (nd:=(o,[])) (lap':=0) (H.ex e) K m (F9 _) (λx d=>by cases d) (λb=>m0 ‹_› (l8 _) (F9 _)) (λi l=>(n (p8 l)).elim) λb a c g r s j=>q a c ((Fm.ex e).trans g) r s j
def AR(p:a6×a6):b0:=.B [iD p.1,iD p.2]theorem Be(b:a6)(h:b<=2\/b=21\/b=22:=by decide):¬HF b:=by unfold HF;exact uh h
structure NT (st:St) (h:HG) (P:a7 (a6×a6)) (lap sp:a6):Prop where
 H:y7 st h
 K:O6 h P (λw0=>k6) lap 0
 rows:d6 st 21 (h.N.map o4)
 pairs:d6 st 22 (P.map AR)
 feed:V5 st sp
 two:h.N.take 2=[([97],[]),([98],[])]
 cnt:h.N.length+P.length<=lap+2
theorem y7.out(H:y7 st h)(g:Fm (λb=>b=a) st st')(f:a<=2\/a=21\/a=22):y7 st' h:=H.fr g λb c q=>by
 clear g;subst q;rcases c with c|c|c
 .exact(yK c f).elim
 .let d:=H.uni.lo b c;exact(ow d f).elim
 .exact A8 c λe i q=>uu (H.abl e i).1 q f
theorem we(h:st.list? a=b4)(c:P0 a b=a8):B5 .ne a b st=a0 (!l3 a b):=by refine(?_:(Bj st a b).map (!·)=_);unfold Bj;rw[h];exact t0 (JK (!·)) (g0 c)theorem vN(h:st.list? a=b4)(c:P0 a b=a8):B5 .eq a b st=a0 (l3 a b):=by refine(?_:Bj st a b=_);unfold Bj;rw[h];exact g0 c
theorem wd(b:l<7):∃t,M3 .str [iD l] st=a0 (.str t,st)/\t.length<=10:=by
 refine d0 (II l) ?_ ?_
 .refine(?_:(if(0:d3)<=(l:d3)/\(l:d3)<=1000 then a0 (b0.str (II (l:d3).toNat),st)else b4)=_);rw[g0 ⟨by solve_by_elim (maxDepth:=2)only[*,j7],EX (b6 (m9 b) (by decide))⟩,Q7]
 .let a:∀l,l<7->(II l).length<=10:=by decide+kernel
  exact a l b
theorem zU{Q:Q1}(H:y7 st h)(K:O6 h [] (λw0=>k6) 0 0)(hn:h.N=[])(Y:d6 st 21 [])(hp:d6 st 22 [])(F:V5 st 0)
 (hq:∀e N P lap sp,NT e N P lap sp->N.Y=[]->sp<=20->Q (.bool a8) e):u9 u8 (k+7) "" "_law_built" [.ref 2,.ref 4,.ref 21,.ref 22] st Q:=by
 refine E3 (fd:=QB) rfl rfl ?_;delta QB;exists 0,Ez;refine BF (nx:=λi=>.seq (.B [q9 "a",q9 "b"]) i) (xs:=[q9 "a",q9 "b"]) (I:=λi ρ e=>ρ "feed"=a0 (.ref 2)/\ρ "heap"=a0 (.ref 4)/\ρ "rows"=a0 (.ref 21)/\ρ "pairs"=a0 (.ref 22)/\
  ∃N,y7 e N/\O6 N [] (λw0=>k6) 0 0/\N.N=[([97],[]),([98],[])].take i/\d6 e 21 (N.N.map o4)/\d6 e 22 []/\V5 e 0) (λi ρ e hi hI=>Ds i) ?_ ?_ ⟨rfl,rfl,rfl,rfl,h,H,K,hn,by rw[hn];exact Y,hp,F⟩
 .rintro i x ρ st1 kk C z1 R hk2;ext Hf z1 v w D O E;ext Ni E h1 H1 K1 f L1 P1 F1;let hi:i<2:=w6 C;obtain⟨o,hxo,hoo,hno,hsn⟩:∃o:a7 a6,x= .str o/\Fd o/\(o,[])∉h1.N/\h1.N++[(o,[])]=[([97],[]),([98],[])].take (i+1):=by
   rcases(show i=0\/i=1 by exact xQ hi)with rfl|rfl
   .cases C;exact CU [97] rfl (.inl rfl) (by rw[f];simp) (by rw[f];rfl)
   .cases C;exact CU [98] rfl (.inr (.inl rfl)) (by rw[f];simp) (by rw[f];rfl)
  clear C;subst hxo;exists w,H1.Z.I,rfl;refine H1.Z.go (sG H1 K1 hoo hno (by rw[f,O9];exact U6 (Jb (v0 hi))) λS h2 Z H2 K2 hn2=>?_);let L2:=L1.fr Z (Be _);exists D,L2.I,L2.kind,X9,rfl;rw[Bc L2 (by rw[f7,f,O9];exact GA (by decide))];exists 0;generalize V:S.set 21 _=T;let g3:Fm (λb=>b=21) S T:=by rw[<-V];exact Fm.set rfl
  refine(R _ _ ⟨by exact v,by exact w,by exact D,by exact O,h2,H2.out g3 (by decide),K2,by rw[hn2,hsn],(by rw[<-V,hn2,p9];exact d6.U L2.1:d6 T 21 (h2.N.map o4)),(P1.fr Z (Be _)).fr g3,(F1.fr Z (Be _) (Be _)).fr g3⟩).1
 .rintro ρ st1 z2;ext Hf z2 v w D O E;ext Ni E h1 H1 K1 f L1 P1 F1;let f:h1.N=[([97],[]),([98],[])]:=f;exists 0,v;refine FA (m:=7) F1 (F9 _) (K9 _ _) (K9 _ _) λS r Z F2 Y=>?_;exists 0;rw[g0 ⟨by solve_by_elim (maxDepth:=2)only[*,j7],by unfold j8;exact Int.ofNat_le.mpr (b6 (m9 Y) (by decide))⟩];refine BF (nx:=λi=>.range i r) (xs:=(p0 r).map iD) (I:=λi ρ e=>ρ "feed"=a0 (.ref 2)/\ρ "heap"=a0 (.ref 4)/\ρ "rows"=a0 (.ref 21)/\ρ "pairs"=a0 (.ref 22)/\
   ∃N P,NT e N P i (1+3*i)) (λi ρ e hi hI=>Hc (by simpa using hi)) ?_ ?_ ⟨v,w,D,O,h1,[],(⟨H1.out Z (by decide),K1,L1.fr Z,P1.fr Z,F2,by rw[f];rfl,by rw[f];simp⟩:NT S h1 [] 0 1)⟩
  .rintro i x ρ T kk C z3 R hk2;ext Hf z3 v w D O E;ext R9 E J P B;refine c9 (X8 C) ?_;rintro A hi' rfl;have q:i<r/\A=i:=by let zz:=FS hi';ext1 zz q1 q2;rw[iQ]at q2;exact⟨by simpa using q1,q2.symm⟩
   refine k9 q ?_;clear q;clear hi' C;rintro q rfl;have hN:=B.K.lapN;have h2N:2<=J.N.length:=by let this:=t0 CJ B.two;rw[O9]at this;simp at this;exact b6 (A5 this.symm) (Ge _ _)
   let e1:=W8 B.rows;rw[f7]at e1;exists 0,v;refine FA (m:=3) B.feed (b6 (G2 (Y4 3 hN.2) 1) (by decide)) (K9 _ _) (K9 _ _) λst4 d g4 F4 hway=>?_;have L4:=B.rows.fr g4;let e4:=W8 L4;rw[f7]at e4;exists v,D,e4,rfl;refine FA (m:=J.N.length) F4 (xH hN) (m9 ‹_›) (SJ hN) λst5 x g5 F5 C=>?_;have L5:=L4.fr g5;let e5:=W8 L5;rw[f7]at e5;exists v,D,e5,rfl;refine FA (m:=J.N.length) F5 (dt hN) (m9 ‹_›) (SJ hN) λs y g6 F6 hy=>?_;have L6:=L5.fr g6;have P6:=((B.pairs.fr g4).fr g5).fr g6;have H6:=((B.H.out g4 (by decide)).out g5 (by decide)).out g6 (by decide);let e7:B5 .eq (iD d) (.int 2) s=a0 (decide (d=2)):=DG (j:=2);exists Yq,e7,rfl;by_cases hw2:d=2
   .rw[show decide (d=2)=a8 from by simpa using hw2];exists O,P6.I,P6.kind,X9,rfl;rw[Bc P6 (by rw[f7];exact(by let this:=B.cnt;exact tj this hN:P.length<=1000))];exists rfl;refine M8 (s.set 22 _) λc V=>?_;let g7:Fm (λb=>b=22) s c:=by rw[<-V];exact Fm.set rfl
    let W:=H6.out g7 (by decide);refine c9 (wd (st:=c) (show A<7 by exact b6 ‹_› (m9 ‹_›))) λt ht htl=>?_;let e8:V3 .add (q9 "t") (.str t) c=a0 (.str ("t".toList.map Gi++t),c):=by refine(?_:(if("t".toList.map Gi).length+t.length<=j8 then _ else _)=_);rw[g0];let this:("t".toList.map Gi).length=1:=rfl;rw[this];exact b6 (G2 htl 1) (by decide)
    exists w,W.Z.I,ht,e8,rfl;(try exists 0,w,W.Z.I,ht,e8);refine W.Z.go (xB W B.K C hy (b6 q (v0 Y)) λU h8 t8 g8 H8 K8 hn8=>?_);exists 0;refine(R _ _ ⟨by exact v,by exact w,by exact D,by exact O,h8,P++[(x,y)],H8,K8,?_,(by rw[<-V,p9];exact d6.U P6.1:d6 c 22 ((P++[(x,y)]).map AR)).fr g8 (Be _),?_,by rw[hn8];exact B.two,?_⟩).2
    .rw[hn8];exact(L6.fr g7).fr g8 (Be _)
    .rw[show 1+3*(A+1)=1+3*A+1+1+1 by solve_by_elim (maxDepth:=2)only[*,j7]];exact(F6.fr g7).fr g8 (Be _) (Be _)
    .rw[hn8,u7];let this:=B.cnt;simp;exact BJ ‹_›
   .rw[show decide (d=2)=c8 from by simpa using hw2];exists(DG (j:=0)),rfl;obtain⟨g,hnd,hok,h2,hkk⟩:∃g:Nd,(g=([102],[x])/\d=0\/g=([103],[x,y])/\d≠0)/\Fd g.1/\g.2.length<=2/\∀z∈g.2,z<J.N.length:=by
     by_cases u:d=0
     .exact CU _ (.inl ⟨rfl,u⟩) (.inr (.inr (.inl rfl))) (M7 _) (by simp;exact C)
     .exact CU _ (.inr ⟨rfl,u⟩) (.inr (.inr (.inr rfl))) (by simp) (by simp;exact⟨C,hy⟩)
    let X:∀a:Env,a "feed"=a0 (.ref 2)->a "heap"=a0 (.ref 4)->a "rows"=a0 (.ref 21)->a "pairs"=a0 (.ref 22)->a "node"=a0 (o4 g)->
     G4 (u9 u8 (k+6)) [.k (.a "n") (.m (.a "heap") "add" (.cons (.sub (.a "node") (.e (.int 0))) (.cons (.from (.a "node") (.e (.int 1))) .nil))),
      .iff (.cmp .eq (.a "n") (.bi .len (.cons (.a "rows") .nil))) [.xE (.m (.a "rows") "append" (.cons (.a "node") .nil))] [],
      .iff (.cmp .ne (.sub (.a "rows") (.a "n")) (.a "node")) [.ret (.e (.bool c8))] []] a s kk:=by
     intro a s1 s2 p s4 L;let f1:J9 (o4 g) (.int 0) s=a0 (.str g.1):=BY (i:=0) (F9 _) rfl;exists s1,s2,p,L,H6.Z.I,f1,(CO (nd:=g) (show g.2.length<=100 by exact p6)),rfl;(try exists 0,s1,s2,p,L,H6.Z.I,f1,(CO (nd:=g) (show g.2.length<=100 by exact p6)));refine H6.Z.go ?_;have fin:∀(c:St)(G:HG)(n:a6)(a:Env),y7 c G->O6 G P (λw0=>k6) (A+1) 0->d6 c 21 (G.N.map o4)->d6 c 22 (P.map AR)->V5 c (1+3*(A+1))->G.N.take 2=[([97],[]),([98],[])]->G.N.length+P.length<=A+1+2->
      G.N[n]?=a0 g->a "feed"=a0 (.ref 2)->a "heap"=a0 (.ref 4)->a "rows"=a0 (.ref 21)->a "pairs"=a0 (.ref 22)->a "node"=a0 (o4 g)->a "n"=a0 (iD n)->
      G4 (u9 u8 (k+6)) [.iff (.cmp .ne (.sub (.a "rows") (.a "n")) (.a "node")) [.ret (.e (.bool c8))] []] a c kk:=by
      intro c G n a W K7 M P7 F7 t7 c7 l s1 s2 p s4 L s6;let f3:B5 .ne (o4 g) (o4 g) c=a0 c8:=by rw[we rfl (Kf _ _),El (Kf g g)];rfl
      exists 0,p,L,s6,(AT M (ny (w6 l) K7.lapN) (by rw[o7,l];rfl)),f3;exact(R _ _ ⟨s1,s2,p,s4,G,P,W,K7,M,P7,F7,t7,c7⟩).1
     let hF3:1+3*(A+1)=1+3*A+1+1+1:=by solve_by_elim (maxDepth:=2)only[*,j7]
     refine WX (lap':=A+1) H6 B.K hok h2 hkk (λhno=>m0 (by let this:=B.K.lapN;exact U6 this.1) (N8 _) (b6 q (v0 Y))) (λn hn=>?_) λhno c G g7 W K7 l=>?_
     .let hnl:=w6 hn;let e6:=W8 L6;rw[f7]at e6;exists p,e6,DG,(show decide (n=J.N.length)=c8 from by simp;exact m6 ‹_›),rfl;(try exists 0,p,e6,DG,(show decide (n=J.N.length)=c8 from by simp;exact m6 ‹_›));let this:=fin s J n (a.set "n" (iD n)) H6 (by
       let K:=B.K;refine{K with lapN:=?_,bn:=?_}
       .let this:=K.lapN;exact⟨U4 this.1,v0 (q5 q Y)⟩
       .let this:=K.bn;exact⟨b6 this.1 (O8 (N8 _) _),this.2⟩) L6 P6 (by rw[hF3];exact F6) B.two (by let this:=B.cnt;exact U4 ‹_›) hn s1 s2 p s4 L rfl
      revert this;exists 0,p,L;exact id
     .let M:=L6.fr g7 (Be _);let e7:=W8 M;rw[f7]at e7;exists p,e7,DG,L,M.I,M.kind,X9,rfl;(try exists 0,p,e7,DG,L,M.I,M.kind,X9);rw[Bc M (by rw[f7];exact SJ hN)];exists rfl;generalize V:c.set 21 _=U;let g8:Fm (λb=>b=21) c U:=by rw[<-V];exact Fm.set rfl
      let this:=fin U G J.N.length (a.set "n" (iD J.N.length)) (W.out g8 (by decide)) K7 (by rw[<-V,l,p9];exact d6.U M.1:d6 U 21 (G.N.map o4)) ((P6.fr g7 (Be _)).fr g8) (by rw[hF3];exact(F6.fr g7 (Be _) (Be _)).fr g8)
       (by rw[l,a7.take_append_of_le_length h2N];exact B.two) (by rw[l,u7];let this:=B.cnt;simp;exact(Y7 _ 1 _).symm▸U6 this) (by rw[l,a7.getElem?_append_right (l8 _)];simp) s1 s2 p s4 L rfl
      revert this;exists 0,p,L;exact id
    clear hok h2 hkk;rcases hnd with⟨rfl,u⟩|⟨rfl,u⟩
    .rw[show decide (d=0)=a8 from by simpa using u];have:=X ((((ρ.set "lap" (iD A)).set "way" (iD d)).set "x" (iD x)|>.set "y" (iD y)).set "node" (o4 ([102],[x]))) v w D O rfl;revert this;exists 0;intro this;exists rfl;exact this
    .rw[show decide (d=0)=c8 from by simpa using u];have:=X ((((ρ.set "lap" (iD A)).set "way" (iD d)).set "x" (iD x)|>.set "y" (iD y)).set "node" (o4 ([103],[x,y]))) v w D O rfl;revert this;exists 0;intro this;exists rfl;exact this
  .rintro ρ T z4;ext Hf z4 v w D O E;ext R9 E J P B;exists w,B.H.Z.I,rfl;refine B.H.Z.go (fc B.H B.K λst4 h4 g4 H4 K4 hn4 hw4=>?_);exists 0;rw[(by simp:((p0 r).map iD).length=r)]at B K4;refine hq st4 h4 P r (1+3*r) ⟨H4,K4,?_,B.pairs.fr g4 (Be _),B.feed.fr g4 (Be _) (Be _),by rw[hn4];exact B.two,by rw[hn4];exact B.cnt⟩ hw4 (qO Y);rw[hn4];exact B.rows.fr g4 (Be _)
structure Lc (N:a7 Nd) (P:a7 (a6×a6)) (R:a6->a6):Prop where
 le:∀n,n<N.length->R n<=n
 iE:∀n,n<N.length->R (R n)=R n
 cong:DH N R
 tO:∀p∈P,R p.1=R p.2
 least:∀E:a6->a6,(∀p∈P,E p.1=E p.2)->DH N E->∀m n,m<N.length->n<N.length->R m=R n->E m=E n
theorem Lc.le_of(h:Lc nodes P R)(b:Lc nodes P R')(a:n<nodes.length):R' n<=R n:=by let c:=h.le n a;exact ov (h.least R' b.tO b.cong (R n) n (Bo a c) a (h.iE n a)) (b.le (R n) (Bo a c))
theorem Lc.eq(h:Lc nodes P R)(a:Lc nodes P R')(b:n<nodes.length):R n=R' n:=
 AL (a.le_of h b) (h.le_of a b)theorem eC{l:a7 (Nd×a6)}(e:(l.map (·.1)).Nodup){k:Nd}{v:a6}(f:(k,v)∈l)(g:(k,w)∈l):v=w:=by refine d4 (N2 f) λi a=>?_;ext d4 a h d;refine d4 (N2 g) λj a=>?_;ext1 a m c;let b:=Ef e (by rw[o7,v5 h,d];rfl:(l.map (·.1))[i]?=a0 k) (by rw[o7,v5 m,c];rfl:(l.map (·.1))[j]?=a0 k);subst b;rw[d]at c;exact t0 mD c
theorem O6.lc{h:HG}{P:a7 (a6×a6)}{e:a6}(K:O6 h P (λu=>k6) e z)(i:h.Y=[]):Lc h.N P h.R where
 le:=λn c=>(K.uf.root n c).1
 iE:=λn c=>K.uf.iE c
 cong:=λm n a b d j k l=>by
  have f:∀(m:a6)(a:Nd),h.N[m]?=a0 a->∃v,(q6 h.R a,v)∈h.y/\h.R v=h.R m:=λm a d=>by
   rcases K.cl m a d with q|q|q
   .exact q.elim
   .rw[i]at q;cases q
   .exact q
  refine c9 (f m a d) λv g o=>c9 (f n b j) λw r s=>?_;rw[(Fq k l:q6 h.R a=q6 h.R b)]at g;rw[<-o,<-s,eC K.knn g r]
 tO:=λp t=>(K.tO p t).2.2
 least:=K.least
structure Mk (N:a7 Nd) (P:a7 (a6×a6)) (M:a6->a6):Prop where
 le:∀n,n<N.length->M n<=n
 iE:∀n,n<N.length->M (M n)=M n
 least:∀E:a6->a6,(∀p∈P,E p.1=E p.2)->DH N E->∀m n,m<N.length->n<N.length->M m=M n->E m=E n
theorem Mk.zero(nodes:a7 Nd)(P:a7 (a6×a6)):Mk nodes P id:=⟨λn a=>l8 n,λa a=>rfl,λE a a m n a a h=>by rw[show m=n from h]⟩
theorem Mk.merge(h:Mk nodes P M)(s:a<nodes.length)(t:b<nodes.length)(y:M a≠M b)
 (D:∀E:a6->a6,(∀p∈P,E p.1=E p.2)->DH nodes E->E a=E b):
 Mk nodes P (C1 M (min (M a) (M b)) (max (M a) (M b)))/\J8 M nodes.length+1<=J8 (C1 M (min (M a) (M b)) (max (M a) (M b))) nodes.length:=by
 let z:=h.le a s;let A:=h.le b t;let v:∃k g,k=min (M a) (M b)/\g=max (M a) (M b)/\k<g/\g<nodes.length/\M k=k/\M g=g/\(k=M a/\g=M b\/k=M b/\g=M a):=by
  refine U9 _ _ rfl rfl (TF y) (Nat.max_lt.mpr ⟨q5 z s,q5 A t⟩) ?_;rcases Ce (M a) (M b)with q|q
  .rw[EI (m9 ‹_›),MB (m9 ‹_›)];exact m0 (h.iE a s) (h.iE b t) (.inl ⟨rfl,rfl⟩)
  .rw[HC ‹_›,Mn ‹_›];exact m0 (h.iE b t) (h.iE a s) (.inr ⟨rfl,rfl⟩)
 ext Lm v k g F G i d B H r;rw[<-F,<-G];let e:∀n,C1 M k g n=if M n=g then k else M n:=λK=>rfl
 refine⟨⟨λn f=>?_,λn f=>?_,λE j x m n I f J=>?_⟩,YW B H i d⟩
 .rw[e];let c:=h.le n f;by_cases q:M n=g
  .rw[g0 q];exact b6 (m9 i) (q▸c)
  .rw[j4 q];exact c
 .rw[e n];by_cases q:M n=g
  .rw[g0 q,e,B,j4 (m6 ‹_›)]
  .rw[j4 q,e,h.iE n f,j4 q]
 .let l:=D E j x;let w:E k=E g:=by
   let u:=h.least E j x (M a) a (r.elim (λq=>q.1▸AH i d) λq=>q.2▸d) s (h.iE a s);let C:=h.least E j x (M b) b (r.elim (λq=>q.2▸d) λq=>q.1▸AH i d) t (h.iE b t);rcases r with q|q
   .rw[q.1,q.2,u,C,l]
   .rw[q.1,q.2,u,C,l]
  let o:∀n,n<nodes.length->E n=E (C1 M k g n):=λn f=>by
   let u:=h.least E j x (M n) n (by let c:=h.le n f;exact Bo f c) f (h.iE n f);rw[e];by_cases q:M n=g
   .rw[g0 q,w,<-q,u]
   .rw[j4 q,u]
  rw[o m I,o n f,J]def Y2(M:a6->a6)(N:a6):a7 b0:=((p0 N).map M).map iD
theorem Kw(L:d6 st a (Y2 M N))(c:N<=100)(b:n<N):J9 (.ref a) (iD n) st=a0 (iD (M n)):=
 AT L (gG b c rfl) (by unfold Y2;rw[o7,o7,JX b];rfl)theorem sQ:M3 .min [iD a,iD b] st=a0 (iD (min a b),st):=by refine(?_:a0 (b0.int (min (a:d3) (b:d3)),st)=_);congr 2;congr 1;exact uB
theorem vD:M3 .max [iD a,iD b] st=a0 (iD (max a b),st):=by refine(?_:a0 (b0.int (max (a:d3) (b:d3)),st)=_);congr 2;congr 1;exact be
theorem jn(h:n<=1000):M3 .lR [iD n] st=a0 (.ref st.n,st.A (.L (Y2 id n))):=by refine(?_:(if(0:d3)<=(n:d3)/\(n:d3)<=j8 then a0 (b0.ref st.n,st.A (.L ((p0 (n:d3).toNat).map λ(i:a6)=>b0.int (Pm i))))else b4)=_);rw[g0 ⟨by solve_by_elim (maxDepth:=2)only[*,j7],by unfold j8;exact Int.ofNat_le.mpr (b6 h (by decide))⟩,Q7];unfold Y2;rw[AZ];rfl
theorem cT{a:a7 Nd}{i:a6}{x:b0}(h:((a.map o4).mapIdx λj x=>b0.B [iD j,x])[i]?=a0 x):∃b,a[i]?=a0 b/\x= .B [iD i,o4 b]:=by
 rw[ML,o7]at h;cases c:a[i]? with
 |none=>rw[c]at h;cases h
 |some b=>rw[c]at h;simp only[Ax,AA]at h;exact d0 b rfl h.symm
theorem Ex.fm(x:Ex st st2)(g:Fm P st2 st3)(h:∀b,b<st.n->¬P b):Ex st st3:=
 ⟨b6 x.1 g.1,λb a=>(g.2 b (j7 a x.1) (h b a)).trans (x.2 b a)⟩
theorem bC(G:Da nodes)(L:d6 st 21 (nodes.map o4))(LP:d6 st 22 (P.map AR))(hP:∀p∈P,p.1<nodes.length/\p.2<nodes.length)(hPl:P.length<=100)
 (hq:∀s a M,Ex st s->d6 s a (Y2 M nodes.length)->Lc nodes P M->Q (.ref a) s):u9 u8 (k+1) "" "_law_marks" [.ref 21,.ref 22] st Q:=by
 refine E3 (fd:=RG) rfl rfl ?_;delta RG;let hN:=G.few;let e1:=W8 L;rw[f7]at e1;exists e1,(jn (st:=st) (show nodes.length<=1000 by exact p6)),Ey,rfl;let x1:=Ex.A st (.L (Y2 id nodes.length));let M1:=d6.new st (Y2 id nodes.length);generalize st.A (.L (Y2 id nodes.length))=st1 at x1 M1 ⊢;refine NX (I:=λm ρ s=>Ex st s/\ρ "rows"=a0 (.ref 21)/\ρ "pairs"=a0 (.ref 22)/\∃(a:a6)(M:a6->a6)(b:b7),ρ "marks"=a0 (.ref a)/\ρ "goes_on"=a0 (.bool b)/\d6 s a (Y2 M nodes.length)/\Mk nodes P M/\
  (b=c8->Lc nodes P M)/\(b=a8->m=nodes.length - J8 M nodes.length+1)/\(b=c8->m=0)) (m:=nodes.length - J8 id nodes.length+1) ?_
  ⟨x1,rfl,rfl,st.n,id,a8,rfl,rfl,M1,Mk.zero _ _,(λh=>by cases h),λV=>rfl,(λh=>by cases h)⟩
 rintro m ρ Y KK z1 hK;ext Cr z1 x2 r1 r2 u;ext M0 u a M b r3 r4 LM HM hb0 u;ext1 u hb1 hb2;exists r4,rfl;clear r4 hb2;cases b with
 |false=>exists 0,r3;exact hq Y a M x2 LM (hb0 rfl)
 |true=>
  let hm:=hb1 rfl;exists Ey,W0,DR,AI,rfl;(try exists 0,Ey,W0,DR,AI);let x3:=Ex.A Y (.D [] 0);let D3:=m7.new Y [] 0;generalize hkd:Y.n=kd at D3;generalize hs3:Y.A (.D [] 0)=st3 at x3 D3 ⊢;let L3:=(L.ex x2).ex x3;let LP3:=(LP.ex x2).ex x3;let LM3:=LM.ex x3;let hkda:kd≠a:=by let c:=LM.1;exact zE c hkd
  exists r1,r2,r3,L3.list,rfl;refine CT (nx:=λi=>.enum i (.ref 21)) (xs:=(nodes.map o4).mapIdx λj x=>b0.B [iD j,x])
   (I:=λi s J=>Fm (λb=>b=kd) st3 s/\∃(K:a7 (Nd×a6))(ep:a6)(B:a7 (a6×a6)),m7 s kd (Ao K) ep/\(K.map (·.1)).Nodup/\K.length<=i/\(∀e∈K,∃o,nodes[e.2]?=a0 o/\e.1=q6 M o)/\
    J=B.map AR/\B.length=i/\(∀d∈B,∃o,nodes[d.2]?=a0 o/\(q6 M o,d.1)∈K)/\(∀n o,n<i->nodes[n]?=a0 o->∃v,(v,n)∈B)) ?_ ?_ ?_ ⟨Fm.refl _,[],0,[],D3,By,l8 _,(λe N=>by cases N),rfl,rfl,(λd r=>by cases r),(λn o h=>(X7 _ h).elim)⟩
  .rintro i s J hi z2;ext1 z2 g V;exact Rm (L3.fr g (by let c:=L.1;let c:=x2.1;exact gJ ‹_› c hkd rfl)) i
  .rintro i x C J kk O z3 hkk;ext k9 z3 g4 u;ext M0 u K ep B D4 Z hk2 t rfl u;ext t6 u R S T;refine c9 (cT O) ?_;rintro o A rfl;let hiN:=w6 A;let hop:=G.op o (p8 A);let f1:J9 (o4 o) (.int 0) C=a0 (.str o.1):=BY (i:=0) (F9 _) rfl;exists 0,D4.I,D4.kind,Ib,f1,(CO (nd:=o) (show o.2.length<=100 from b6 hop.2 (by decide))),Ez;refine Ae (nx:=λi=>.seq (.B (o.2.map iD)) i) (xs:=o.2.map iD) (p:=λV=>a8) (f:=λx=>iD (M (t9 x))) (λi hi=>Ds i) ?_ ?_
   .rintro j x J kk O hl t;refine c9 (X8 O) ?_;clear O;rintro w hw rfl;have hwl:=G.kid i o A w (p8 hw);exists r3,(Kw (LM3.fr g4 (C8 hkda)) p6 (show w<nodes.length by exact b6 ‹_› (m9 ‹_›))),rfl;rw[O5]at t;rw[f7]at hl;exact⟨b6 hl (b6 hop.2 (by decide)),by simpa using t⟩
   .exists 0;rw[IO];let L5:=d6.new C ((o.2.map M).map iD);let W:=Ex.A C (.L ((o.2.map M).map iD));generalize C.A (.L ((o.2.map M).map iD))=D at L5 W ⊢;let e2:V3 .add (.B [.str o.1]) (.B ((o.2.map M).map iD)) D=a0 (o4 (q6 M o),D):=IA (xs:=[.str o.1]) (by rw[f7,f7];exact b6 (G2 hop.2 1) (by decide));let D5:=D4.ex W;exists(ED L5),e2,D5.kind,rfl;let accl:(B.map AR).length<=j8:=by rw[f7];exact R▸b6 (m9 hiN) (b6 hN (by decide))
    by_cases hin:∃v,(q6 M o,v)∈K
    .ext d4 hin v hv;rw[KX D5 (Ou _ _) (by unfold Ao;rw[f7];exact RH hiN hN hk2) (YX Z hv)];exists rfl;refine⟨accl,hkk D _ ⟨g4.trans (Fm.ex W),K,ep,B++[(v,i)],D5,Z,by exact U4 ‹_›,t,by rw[p9];rfl,by rw[u7,R];rfl,λd r=>?_,λn X hn hmd=>?_⟩⟩
     .rcases v3 r with r|r
      .exact S d r
      .rw[o9]at r;subst r;exact d0 o A hv
     .by_cases hni:n=i
      .subst hni;exact⟨v,K6 _ P3⟩
      .let y:=T n X (OR hn hni) hmd;ext1 y v' hv';exact⟨v',G1 _ hv'⟩
    .have hno:∀v,(q6 M o,v)∉K:=λv hv=>hin ⟨v,hv⟩;rw[LJ D5 (Ou _ _) (by unfold Ao;rw[f7];exact RH hiN hN hk2) (Yk hno)];exists rfl;refine⟨accl,?_⟩;rw[(by unfold Ao;rw[p9];rfl:Ao K++[(o4 (q6 M o),iD i)]=Ao (K++[(q6 M o,i)]))];refine hkk _ _ ⟨(g4.trans (Fm.ex W)).trans (Fm.set rfl),K++[(q6 M o,i)],ep+1,B++[(i,i)],m7.U D5.1,?_,by rw[u7];simp;assumption,λe N=>?_,by rw[p9];rfl,by rw[u7,R];rfl,λd r=>?_,λn X hn hmd=>?_⟩
     .rw[p9,BK];refine m0 Z (by simp) λc hc d r e=>?_;simp only[y4,W0,o9]at r;subst r;exact A8 hc λd' hd' q=>hno d'.2 (by rw[<-e,<-q];exact hd')
     .rcases v3 N with N|N
      .exact t e N
      .rw[o9]at N;subst N;exact d0 o A rfl
     .rcases v3 r with r|r
      .let y:=S d r;ext1 y X q1 q2;exact d0 X q1 (G1 _ q2)
      .rw[o9]at r;subst r;exact d0 o A (K6 _ P3)
     .by_cases hni:n=i
      .subst hni;exact⟨n,K6 _ P3⟩
      .let y:=T n X (OR hn hni) hmd;ext1 y v' hv';exact⟨v',G1 _ hv'⟩
  .rintro C J z4;ext k9 z4 g4 u;ext M0 u K ep B D4 Z hk2 t rfl u;ext t6 u R S T;rw[(by rw[JD,f7]:((nodes.map o4).mapIdx λj x=>b0.B [iD j,x]).length=nodes.length)]at hk2 R T;have x4:Ex st C:=(x2.trans x3).fm g4 λb hb=>m6 (j7 hb (by rw[<-hkd];exact x2.1:st.n<=kd));exists 0;let W:=Ex.A C (.L (B.map AR));have L5:=d6.new C (B.map AR);revert W L5;refine gen (C.A (.L (B.map AR))) λD W L5=>?_;exists(Oq (LP.ex (x4.trans W)) L5 (by rw[f7,f7];exact b6 (U0 hPl (R▸hN)) (by decide))),rfl;let x6:=Ex.A D (.L (P.map AR++B.map AR));let L6:=d6.new D (P.map AR++B.map AR);rw[<-p9]at x6 L6 ⊢;revert x6 L6;refine gen (D.A (.L ((P++B).map AR))) λst6 x6 L6=>?_;exists(Q6 L6),rfl;let hdue:∀d∈P++B,d.1<nodes.length/\d.2<nodes.length/\∀E:a6->a6,(∀p∈P,E p.1=E p.2)->DH nodes E->E d.1=E d.2:=λd r=>by
    rcases v3 r with r|r
    .exact m0 ((hP d r).1) ((hP d r).2) λE hE V=>hE d r
    .refine c9 (S d r) λo A hkn=>c9 (t _ hkn) λnd' hnd' hcr=>m0 (w6 hnd') (w6 A) λE hE hC=>?_;let kn':∀(m:a6)(X:Nd),nodes[m]?=a0 X->X.2.map E=(X.2.map M).map E:=λm X hm=>by
      rw[v9];refine A1 λx O=>?_;let hxN:=AH (G.kid m X hm x O) (w6 hm);exact(HM.least E hE hC (M x) x (by let c:=HM.le x hxN;exact Bo hxN c) hxN (HM.iE x hxN)).symm
     have hcr':q6 M o=q6 M nd':=hcr;let h1:=(Ct hcr').1;let h2:o.2.map M=nd'.2.map M:=(Ct hcr').2;exact hC d.1 d.2 nd' o hnd' A h1.symm (by rw[kn' _ _ hnd',kn' _ _ A,h2])
   refine BF (nx:=λi=>.seq (.ref D.n) i) (xs:=(P++B).map AR) (I:=λi ρ s=>Ex st6 s/\ρ "rows"=a0 (.ref 21)/\ρ "pairs"=a0 (.ref 22)/\∃(a:a6)(l:a6->a6)(b:b7),ρ "marks"=a0 (.ref a)/\ρ "goes_on"=a0 (.bool b)/\
    d6 s a (Y2 l nodes.length)/\Mk nodes P l/\(b=c8->l=M/\∀(j:a6)(d:a6×a6),j<i->(P++B)[j]?=a0 d->M d.1=M d.2)/\(b=a8->J8 M nodes.length+1<=J8 l nodes.length)) (λi ρ s hi hI=>T0 (L6.ex hI.1) i) ?_ ?_
    ⟨Ex.refl _,r1,r2,a,M,c8,r3,rfl,(((LM3.fr g4 (C8 hkda)).ex W).ex x6),HM,(λV=>⟨rfl,λj d h=>(X7 _ h).elim⟩),(λh=>by cases h)⟩
   .rintro i x ρ' st7 kk O z5 hk1' hk2';ext1 z5 x7 s1 s2 u;ext M0 u a' l b' s3 s4 F H hf ht;rw[o7,At]at O;ext c9 O d r rfl;refine t6 (hdue d (p8 r)) λhd1N hd2N hdE=>?_;exists 0,AR,s3,(Kw F p6 hd1N),(Kw F p6 hd2N),sQ,vD,Ey,FV;by_cases N:l d.1=l d.2
    .rw[show decide (min (l d.1) (l d.2)≠max (l d.1) (l d.2))=c8 from by rw[N];simp];exists 0;refine(hk1' _ _ ⟨x7,by exact s1,by exact s2,a',l,b',by exact s3,by exact s4,F,H,λhb=>?_,ht⟩).1;refine k9 (hf hb) λq1 q2=>⟨q1,λj d' hj hd'=>?_⟩;rcases Ce j i with h|h
     .exact q2 j d' h hd'
     .let c:=Nj hj h;subst c;rw[r]at hd';cases hd';rw[<-q1];exact N
    .rw[show decide (min (l d.1) (l d.2)≠max (l d.1) (l d.2))=a8 from MN (m6 (TF N))];let y:=H.merge hd1N hd2N N hdE;ext1 y HM2 hnr2;exists s3,(Q6 F),rfl;refine Ae (nx:=λi=>.seq (.ref a') i) (xs:=Y2 l nodes.length) (p:=λV=>a8) (f:=λx=>iD (if t9 x=max (l d.1) (l d.2)then min (l d.1) (l d.2)else t9 x)) (λi hi=>T0 F i) ?_ ?_
     .rintro j x J kk' O hl t;refine c9 (X8 O) ?_;clear O;rintro w hw rfl;rw[O5]at t;let hl':J.length<=j8:=by
       let c:(Y2 l nodes.length).length=nodes.length:=by unfold Y2;simp
       rw[c]at hl;exact gA hN hl rfl
      exists DG,rfl;by_cases U:w=max (l d.1) (l d.2)
      .rw[show decide (w=max (l d.1) (l d.2))=a8 from by simpa using U];rw[g0 U]at t;exact⟨hl',by simpa using t⟩
      .rw[show decide (w=max (l d.1) (l d.2))=c8 from by simpa using U];rw[j4 U]at t;exact⟨hl',by simpa using t⟩
     .let hres:(V1 (λV=>a8) (Y2 l nodes.length)).map (λx=>iD (if t9 x=max (l d.1) (l d.2)then min (l d.1) (l d.2)else t9 x))=Y2 (C1 l (min (l d.1) (l d.2)) (max (l d.1) (l d.2))) nodes.length:=by unfold Y2;rw[IO (f:=λz=>if z=max (l d.1) (l d.2)then min (l d.1) (l d.2)else z),Ur]
      exists 0,Ey;rw[hres];refine(hk1' _ _ ⟨x7.trans (Ex.A _ _),by exact s1,by exact s2,st7.n,_,a8,by exact rfl,by exact rfl,d6.new _ _,HM2,(λh=>by cases h),λV=>?_⟩).1;clear s4;cases b' with
      |true=>let c:=ht rfl;exact b6 ‹_› (m9 ‹_›)
      |false=>let y:=hf rfl;ext1 y q1 V;rw[q1]at hnr2 ⊢;exact hnr2
   .rintro ρ' st7 z6;ext Cr z6 x7 s1 s2 u;ext M0 u a' l b' s3 s4 F H hf ht;exists 0;let hle0:=NU M nodes.length;cases b' with
    |true=>have c:=ht rfl;exact hK (nodes.length - J8 l nodes.length+1) _ _ (tH c (NU l nodes.length) hm) ⟨x4.trans (W.trans (x6.trans x7)),s1,s2,a',l,a8,s3,s4,F,H,(λh=>by cases h),λV=>rfl,(λh=>by cases h)⟩
    |false=>
     let y:=hf rfl;ext1 y q1 q2;clear LM HM hb0 hb1 LM3 t hle0 hf ht;subst q1;rw[f7]at q2;have hall:∀d∈P++B,l d.1=l d.2:=λd r=>by
      refine d4 (N2 r) λj u=>d4 u ?_;clear u;clear r;rintro hj rfl;exact q2 j _ hj (v5 hj)
     refine hK 0 _ _ (hm▸M7 _) ⟨x4.trans (W.trans (x6.trans x7)),s1,s2,a',l,c8,s3,s4,F,H,λV=>⟨H.le,H.iE,λm n a b ha hb h1 h2=>?_,λp hp=>hall p (G1 _ hp),H.least⟩,(λh=>by cases h),λV=>rfl⟩;refine d4 (T m a (w6 ha) ha) λv hv=>d4 (T n b (w6 hb) hb) λw hw=>c9 (S _ hv) λa2 ha2 hv2=>c9 (S _ hw) λb2 hb2' U=>?_;rw[ha]at ha2;cases ha2;rw[hb]at hb2';cases hb2';rw[(Fq h1 h2:q6 l a=q6 l b)]at hv2;let hvw:=eC Z hv2 U;let h3:=hall _ (K6 P hv);let h4:=hall _ (K6 P hw);dsimp only at hvw h3 h4;rw[<-h3,<-h4,hvw]def m8(l:a7 a6):b0:=.B (l.map iD)theorem az(h:m8 a=m8 b):a=b:=by unfold m8 at h;injection h with h;exact Uq h
theorem Rw(a b:a7 a6):P0 (m8 a) (m8 b)=a8:=Rs 2 a b
theorem XM(h:d6 st a c)(k:∀x∈c,P0 x d=a8)(e:P0 d d=a8):∃b,B5 .isin d (.ref a) st=a0 b/\(b=a8↔d∈c):=by
 refine d0 (c.any λx=>l3 x d) ?_ ?_
 .refine(?_:(match st.items? (.ref a)with
   |some c=>if c.all (λx=>P0 x d)then a0 (c.any λx=>l3 x d)else b4
   |none=>match st.dict? (.ref a)with
    |some g=>if v7 g d then a0 (D2 g d).isSome else b4
    |none=>b4)=_)
  rw[h.items];refine(?_:(if c.all (λx=>P0 x d)then a0 (c.any λx=>l3 x d)else b4)=_);rw[g0 (Cw k)]
 .rw[qK];constructor
  .rintro f;ext1 f x i j;rw[<-W7 j];exact i
  .exact λl=>d0 d l (El e)theorem eL(h:B5 .isin d a st=a0 b):B5 .notin d a st=a0 (!b):=by refine(?_:(B5.inOp st d a).map (!·)=_);have c:B5.inOp st d a=a0 b:=h;rw[c];rfl
theorem aN(g:∀x∈xs,P0 x d=a8)(a:P0 d d=a8):∃b,B5 .isin d (.B xs) st=a0 b/\(b=a8↔d∈xs):=by
 refine d0 (xs.any λx=>l3 x d) ?_ ?_
 .refine(?_:(if xs.all (λx=>P0 x d)then a0 (xs.any λx=>l3 x d)else b4)=_);rw[g0 (Cw g)]
 .rw[qK];constructor
  .rintro c;ext1 c x e f;rw[<-W7 f];exact e
  .exact λh=>d0 d h (El a)def Y9(nodes:a7 Nd)(R:a6->a6)(o:a7 a6)(m:a6)(l:a7 a6):Prop:=∃(n:a6)(nd:Nd),nodes[n]?=a0 nd/\nd.1=o/\nd.2.length+1=m/\l=R n::nd.2.map R
theorem Zp(G:Da nodes)(L:d6 st 21 (nodes.map o4))(LM:d6 st am (Y2 R nodes.length))
 (hq:∀u a(r:a7 (a7 a6)),Ex st u->d6 u a (r.map m8)->r.Nodup->(∀l,l∈r↔Y9 nodes R o m l)->r.length<=nodes.length->Q (.ref a) u):u9 u8 (k+1) "" "_law_table" [.ref 21,.ref am,.str o,iD m] st Q:=by
 refine E3 (fd:=QO) rfl rfl ?_;delta QO;let hN:=G.few;exists 0;let x1:=Ex.A st (.L []);let F1:=d6.new st [];let hst1:st.n=st.n:=rfl;generalize W:st.n=X at F1;generalize st.A (.L [])=st1 at x1 F1 ⊢;let L1:=L.ex x1;let LM1:=LM.ex x1;let h21:21≠X:=by let c:=L.1;exact ug c W
 let ham:am≠X:=by let c:=LM.1;exact KL c W
 exists 0,L1.list;refine BF (nx:=λi=>.enum i (.ref 21)) (xs:=(nodes.map o4).mapIdx λj x=>b0.B [iD j,x])
  (I:=λi ρ u=>Fm (λb=>b=X) st1 u/\ρ "rows"=a0 (.ref 21)/\ρ "marks"=a0 (.ref am)/\ρ "op"=a0 (.str o)/\ρ "many"=a0 (iD m)/\ρ "found"=a0 (.ref X)/\
   ∃r:a7 (a7 a6),d6 u X (r.map m8)/\r.Nodup/\r.length<=i/\∀l,l∈r↔∃(n:a6)(nd:Nd),n<i/\nodes[n]?=a0 nd/\nd.1=o/\nd.2.length+1=m/\l=R n::nd.2.map R) ?_ ?_ ?_
  ⟨Fm.refl _,rfl,rfl,rfl,rfl,rfl,[],F1,By,l8 _,λl=>⟨λh=>(by cases h),λz9=>F8 z9 λn nd h w0=>(X7 _ h).elim⟩⟩
 .rintro i ρ u hi z3;ext1 z3 g w0;exact Rm (L1.fr g h21) i
 .rintro i x ρ E kk H z4 A hk2;ext bT z4 g2 r1 S Y Z D;let N:=D.1;let D:=D.2;ext BU D r F2 B C q;refine c9 (cT H) ?_;rintro nd s rfl;let J:=w6 s;have K:=G.op nd (p8 s);have LM2:=LM1.fr g2 ham;exists 0,S,(Kw LM2 p6 J),(CO (nd:=nd) (show nd.2.length<=100 from b6 K.2 (by decide))),Ez;refine Ae (nx:=λi=>.seq (.B (nd.2.map iD)) i) (xs:=nd.2.map iD) (p:=λw0=>a8) (f:=λx=>iD (R (t9 x))) (λi hi=>Ds i) ?_ ?_
  .rintro j x acc kk H hl hk3;refine c9 (X8 H) ?_;clear H;rintro w hw rfl;have hwl:=G.kid i nd s w (p8 hw);exists 0,S,(Kw LM2 p6 (show w<nodes.length by exact b6 ‹_› (m9 ‹_›)));rw[O5]at hk3;rw[f7]at hl;exact⟨b6 hl (b6 K.2 (by decide)),by simpa using hk3⟩
  .exists 0;rw[IO];let L3:=d6.new E ((nd.2.map R).map iD);let x3:=Ex.A E (.L ((nd.2.map R).map iD));revert L3 x3;refine gen (E.A (.L ((nd.2.map R).map iD))) λv L3 x3=>?_;let e2:V3 .add (.B [iD (R i)]) (.B ((nd.2.map R).map iD)) v=a0 (m8 (R i::nd.2.map R),v):=IA (xs:=[iD (R i)]) (by rw[f7,f7];exact b6 (G2 K.2 1) (by decide));let e3:J9 (o4 nd) (.int 0) v=a0 (.str nd.1):=BY (i:=0) (F9 _) rfl;let e4:B5 .eq (.str nd.1) (.str o) v=a0 (nd.1==o):=vN rfl rfl;let e5:M3 .len [m8 (R i::nd.2.map R)] v=a0 (iD (nd.2.length+1),v):=by let c:=GS (st:=v) (xs:=(R i::nd.2.map R).map iD) (by rw[f7,N6,f7];exact b6 (U6 K.2) (by decide));rw[f7,N6,f7]at c;exact c
   let O:=F2.ex x3;obtain⟨b,e6,hb⟩:=XM O (d:=m8 (R i::nd.2.map R)) (λx H=>by
    ext B0 H l w0;exact Rw _ _) (Rw _ _)
   let e7:=eL e6;let M:b=a8↔(R i::nd.2.map R)∈r:=by
    rw[hb];constructor
    .intro h;exact A8 h λl hl e=>az e▸hl
    .exact λh=>V9 h
   exists 0,(ED L3),e2,Y,e3,e4;have z:(¬(nd.1=o/\nd.2.length+1=m)\/(R i::nd.2.map R)∈r)->∀l,l∈r↔∃(n:a6)(nd:Nd),n<i+1/\nodes[n]?=a0 nd/\nd.1=o/\nd.2.length+1=m/\l=R n::nd.2.map R:=λF l=>by
    rw[q l];constructor
    .rintro z5;ext F8 z5 n T P t;exact P9 n T (BM ‹_›) t
    .rintro z6;ext C7 z6 n T P t U h4 h5;by_cases y:n=i
     .clear A C H J e2 e5 e6 hb e7 M P;subst y;rw[s]at t;cases t;rcases F with F|F
      .exact(F ⟨U,h4⟩).elim
      .rw[h5];exact(q _).mp F
     .exact U9 n T (OR P y) t U h4 h5
   let g3:=g2.trans (Fm.ex x3);by_cases ho:nd.1=o
   .rw[show(nd.1==o)=a8 from by simpa using ho];exists 0,e5,Z,DG;by_cases hm:nd.2.length+1=m
    .rw[show decide (nd.2.length+1=m)=a8 from by simpa using hm];exists 0,N,e7;clear e6 hb e7;cases b with
     |true=>exists 0;exact(A _ _ ⟨g3,by exact r1,by exact S,by exact Y,by exact Z,by exact N,r,O,B,by exact U4 ‹_›,z (.inr (M.mp rfl))⟩).1
     |false=>
      exists 0,N,O.I,O.kind,X9;rw[Bc O (by rw[f7];exact RH J hN C)];exists 0;refine(A _ _ ⟨g3.trans (Fm.set rfl),by exact r1,by exact S,by exact Y,by exact Z,by exact N,r++[R i::nd.2.map R],?_,?_,by rw[u7];simp;assumption,λl=>?_⟩).1
      .rw[p9];exact d6.U O.1
      .have y:(R i::nd.2.map R)∉r:=λh=>by cases M.mpr h
       rw[BK];refine m0 B (by simp) λc hc d hd e=>?_;rw[o9]at hd;subst hd e;exact y hc
      .rw[Gr,o9,q l];constructor
       .rintro(⟨n,T,P,t⟩|rfl)
        .exact P9 n T (BM ‹_›) t
        .exact U9 i nd (l8 _) s ho hm rfl
       .rintro z7;ext C7 z7 n T P t U h4 h5;by_cases y:n=i
        .clear A C q H J e2 e5 z M P;subst y;rw[s]at t;clear U h4;cases t;exact .inr h5
        .exact .inl (U9 n T (OR P y) t U h4 h5)
    .rw[show decide (nd.2.length+1=m)=c8 from by simpa using hm];exists 0;exact(A _ _ ⟨g3,by exact r1,by exact S,by exact Y,by exact Z,by exact N,r,O,B,by exact U4 ‹_›,z (.inl λh=>hm h.2)⟩).1
   .rw[show(nd.1==o)=c8 from by simpa using ho];exists 0;exact(A _ _ ⟨g3,by exact r1,by exact S,by exact Y,by exact Z,by exact N,r,O,B,by exact U4 ‹_›,z (.inl λh=>ho h.1)⟩).1
 .rintro ρ E V;ext1 V g2 r1 S Y Z D;let N:=D.1;let D:=D.2;ext BU D r F2 B C q;have hlN:((nodes.map o4).mapIdx λj x=>b0.B [iD j,x]).length=nodes.length:=by rw[JD,f7]
  rw[hlN]at C q;exists 0,N;refine hq E X r (x1.fm g2 λb hb=>Of hb W) F2 B (λl=>?_) C;rw[q l];constructor
  .rintro z9;ext F8 z9 n nd P t;exact Dw n nd t
  .rintro z10;ext F8 z10 n nd t U;exact E9 n nd (w6 t) t U
abbrev AQ:=a7 a6×a7 a6
def sD(c:a6):b0:=.str [c]def W9(a:AQ):b0:=.B [.str a.1,.B (a.2.map sD)]def Io(c:a6):Prop:=c=120\/c=121\/c=122\/c=119
def isAtom(a:AQ):Prop:=((a.1=[102]/\a.2.length=2)\/(a.1=[103]/\a.2.length=3)\/(a.1=[97]/\a.2.length=1)\/(a.1=[122]/\a.2.length=2))/\∀c∈a.2,Io c
theorem Tu(h:isAtom a):a.2.length<=3:=by rcases h.1 with q|q|q|q<;>exact b6 (A5 q.2) (by decide)def KC:a7 b0:=[.B [q9 "f",.int 2],.B [q9 "g",.int 3],.B [q9 "f",.int 2],.B [q9 "g",.int 3],.B [q9 "a",.int 1],.B [q9 "z",.int 2]]
theorem uw{st:St}{M:a6}{Q:Q1}(F:V5 st M)(R:M<=100)
 (hq:∀d a(ats:a7 AQ)s,Fm (λb=>b=2) st d->d6 d a (ats.map W9)->st.n<=a->V5 d s->s<=M+13->1<=ats.length->ats.length<=3->(∀G∈ats,isAtom G)->Q (.ref a) d):u9 u8 (k+2) "" "_law_asked" [.ref 2] st Q:=by
 refine E3 (fd:=TG) rfl rfl ?_;delta TG;exists rfl;let N:=Ex.A st (.L []);let F1:=d6.new st [];generalize H:st.n=K at F1;generalize st.A (.L [])=st1 at N F1 ⊢;have g:2≠K:=by ext n4 F h h h q h;exact m6 (j7 q.1 (A5 H))
 refine FA (m:=3) (F.ex N) p6 (K9 _ _) (K9 _ _) λst2 r g2 F2 L=>?_;exists(gY (i:=1)),rfl;rw[g0 ⟨by solve_by_elim (maxDepth:=2)only[*,j7],(EX (b6 (G2 (m9 L) 1) (by decide)))⟩];refine BF (nx:=λi=>.range i ((1+r:a6):d3)) (xs:=(p0 (1+r)).map iD) (I:=λi ρ d=>Fm (λb=>b=2\/b=K) st1 d/\ρ "feed"=a0 (.ref 2)/\ρ "found"=a0 (.ref K)/\
  ∃(ats:a7 AQ)(s:a6),d6 d K (ats.map W9)/\ats.length=i/\(∀G∈ats,isAtom G)/\V5 d s/\s<=M+1+4*i) (λi ρ d E hI=>Hc (by simpa using E)) ?_ ?_
  ⟨g2.mono λb h q=>.inl q,rfl,rfl,[],M+1,F1.fr g2 (C8 g),rfl,(λa D=>by cases D),F2,(l8 _)⟩
 .rintro i x ρ f kk hx z1 hk1 hk2;ext Cr z1 W X Y p;ext C7 p ats z L3 n u O e;have E:i<1+r:=by have:=w6 hx;simpa using this
  exists 0,X;let Z:=Ex.A f (.L KC);let K4:=d6.new f KC;let hk:f.A (.L [.B [q9 "f",.int 2],.B [q9 "g",.int 3],.B [q9 "f",.int 2],.B [q9 "g",.int 3],.B [q9 "a",.int 1],.B [q9 "z",.int 2]])=f.A (.L KC):=rfl;rw[hk];generalize hka:f.n=ka at K4;generalize f.A (.L KC)=st4 at Z K4 ⊢;refine FA (m:=6) (O.ex Z) (ma E L R e) (K9 _ _) (K9 _ _) λst5 j g5 F5 hj=>?_;obtain⟨o,m,V,S⟩:∃(o:a7 a6)(m:a6),KC[j]?=a0 (.B [.str o,iD m])/\((o=[102]/\m=2)\/(o=[103]/\m=3)\/(o=[97]/\m=1)\/(o=[122]/\m=2)):=by
   rcases(show j=0\/j=1\/j=2\/j=3\/j=4\/j=5 by exact gh hj)with rfl|rfl|rfl|rfl|rfl|rfl
   .exact P9 [102] 2 rfl (.inl ⟨rfl,rfl⟩)
   .exact P9 [103] 3 rfl (.inr (.inl ⟨rfl,rfl⟩))
   .exact P9 [102] 2 rfl (.inl ⟨rfl,rfl⟩)
   .exact P9 [103] 3 rfl (.inr (.inl ⟨rfl,rfl⟩))
   .exact P9 [97] 1 rfl (.inr (.inr (.inl ⟨rfl,rfl⟩)))
   .exact P9 [122] 2 rfl (.inr (.inr (.inr ⟨rfl,rfl⟩)))
  have A:m<=3:=by rcases S with q|q|q|q<;>(rw[q.2];decide)
  have L5:=(L3.ex Z).fr g5 (C8 g);exists(AT (K4.fr g5 (by ext n4 O h h h q h;have:=q.1;exact rm this hka:ka≠2)) (m9 (j7 hj (by decide))) V),Ey,Y,L5.I,L5.kind,X9,rfl;rw[g0 ⟨by solve_by_elim (maxDepth:=2)only[*,j7],EX (b6 A (by decide))⟩];refine CT (nx:=λi=>.range i m) (xs:=(p0 m).map iD) (I:=λi d B=>Fm (λb=>b=2) st5 d/\V5 d (z+1+i)/\∃w:a7 a6,B=w.map sD/\w.length=i/\∀c∈w,Io c) (λi d B E hI=>Hc (by simpa using E)) ?_ ?_ ⟨Fm.refl _,F5,[],rfl,rfl,λc y=>by cases y⟩
  .rintro i' x' C B kk' hx' z2 hkk;ext1 z2 g6 F6 p;ext y0 p w rfl t v;have T:i'<m:=by have:=w6 hx';simpa using this
   exists X,rfl;refine FA (m:=4) F6 (sJ R L e E A T) (K9 _ _) (K9 _ _) λU c g7 F7 y=>?_;obtain⟨l,J,hl⟩:∃l:a6,J9 (q9 "xyzw") (iD c) U=a0 (sD l)/\Io l:=by
    rcases(show c=0\/c=1\/c=2\/c=3 by exact kq y)with rfl|rfl|rfl|rfl
    .exact d0 120 rfl (.inl rfl)
    .exact d0 121 rfl (.inr (.inl rfl))
    .exact d0 122 rfl (.inr (.inr (.inl rfl)))
    .exact d0 119 rfl (.inr (.inr (.inr rfl)))
   exists 0,J;refine⟨by rw[f7];exact t▸b6 (m9 T) (b6 A (by decide)),hkk _ _ ⟨g6.trans g7,F7,w++[l],by rw[p9];rfl,by rw[u7,t];rfl,λc y=>?_⟩⟩;rcases v3 y with y|y
   .exact v c y
   .rw[o9]at y;rw[y];exact hl
  .rintro C B z3;ext1 z3 g6 F6 p;ext y0 p w rfl t v;rw[f7,Bw]at t F6;exists 0;let x7:=Ex.A C (.L (w.map sD));let N7:=d6.new C (w.map sD);generalize C.A (.L (w.map sD))=U at x7 N7 ⊢;let L7:=(L5.fr g6 (C8 g)).ex x7;exists(ED N7),L7.kind,rfl;rw[Bc L7 (by rw[f7];exact wk E L n)];exists 0;refine(hk1 _ _ ⟨(W.trans ((Fm.ex Z).trans ((g5.mono λb h q=>.inl q).trans ((g6.mono λb h q=>.inl q).trans (Fm.ex x7))))).trans (Fm.set (.inr rfl)),by exact X,by exact Y,ats++[(o,w)],z+1+m,?_,by rw[u7,n];rfl,λa D=>?_,?_,qr A e⟩).1
   .rw[p9];exact d6.U L7.1
   .rcases v3 D with D|D
    .exact u a D
    .rw[o9]at D;subst D;refine⟨?_,v⟩;rw[t];exact S
   .refine(F6.ex x7).fr (P:=λb=>b=K) (Fm.set rfl) ?_ g;ext n4 F h h q q2 h;have:=q.1;exact yF this H
 .rintro ρ f z4;ext Cr z4 W X Y p;ext C7 p ats z L3 n u O e;rw[(by simp:((p0 (1+r)).map iD).length=1+r)]at n e;exists 0,Y;refine hq f K ats z ?_ L3 (A5 ‹_›) O (ci L e) (n▸G3 1 _) (n▸G2 (v0 L) 1) u;refine⟨b6 N.1 W.1,λb hb hp=>(W.2 b (j7 hb N.1) λq=>?_).trans (N.2 b hb)⟩;rcases q with q|q
  .exact hp q
  .exact(m6 hb (q.trans H.symm)).elim
structure IS (h:HG) (P:a7 (a6×a6)):Prop where
 G:Da h.N
 uf:UF h.N.length h.u.par h.R
 lN:h.u.S.length=h.N.length
 lotm:∀(c:a6)(l:a7 a6),h.u.S[c]?=a0 l->l.Nodup/\(∀n∈l,n<h.N.length)/\(h.R c=c->∀n,n<h.N.length->(n∈l↔h.R n=c))
 lc:Lc h.N P h.R
def Bf(h:HG):a7 a6:=(p0 h.N.length).filter λa=>h.R a==a
theorem dP(H:y7 st h)(S:IS h P)(c:∀a r,Ex st a->d6 a r ((Bf h).map iD)->Q (.ref r) a):u9 u8 (k+2) "Heap" "classes" [.ref 4] st Q:=by refine E3 (fd:=Uz) rfl rfl ?_;delta Uz;let d:G8 st (.ref 4) "unions"=a0 (.ref 12):=H.Z.C rfl rfl;exists d,H.uni.Z.I,rfl;exact H.uni.Z.go (sB H.uni S.uf (by let b:=S.G.few;exact p6) c)
theorem sz(H:y7 st h)(S:IS h P)(i:c<h.N.length)(f:h.R c=c)
 (o:∀a r(d:a7 a6),Ex st a->d6 a r (d.map iD)->d.length<=h.N.length->(∀n,n∈d↔n<h.N.length/\h.R n=c)->Q (.ref r) a):u9 u8 (k+3) "Heap" "members" [.ref 4,iD c] st Q:=by
 refine E3 (fd:=TV) rfl rfl ?_;delta TV;let q:=S.G.few;refine d4 (O0 (l:=h.u.S) (n:=c) (by rw[S.lN];exact i)) λl j=>t6 (S.lotm c l j) λs g m=>?_;let e:=Nn s g;exists(H.Z.C rfl rfl),H.uni.Z.I,rfl;refine H.uni.Z.go (uN H.uni S.uf p6 S.lN i (by rw[f];exact j) (q5 e (q5 q (by decide))) λa r d x L p=>o a r d x L (by rw[p.length_eq];exact e) λn=>?_);rw[p.mem_iff];exact⟨λb=>⟨g n b,(m f n (g n b)).mp b⟩,λb=>(m f n b.1).mpr b.2⟩theorem La(l:a7 Nd):G9 (l.map o4):=by intro x c y d;refine c9 (Y0 c) ?_;clear c;rintro a e rfl;refine c9 (Y0 d) ?_;rintro b e rfl;exact Kf a b
theorem vq{α:Type}{f:α->b0}:∀{l:a7 b0},(∀x∈l,∃a,x=f a)->∃m:a7 α,l=m.map f:=by
 intro b
 induction b with
 |nil=>intro i;exact⟨[],rfl⟩
 |cons x l c=>intro h;exact d4 (h x j5) λa d=>d4 (c λy e=>h y (k8 _ e)) λm g=>⟨a::m,by rw[d,g];rfl⟩theorem cy{α:Type}{f:α->b0}{m:a7 α}(h:(m.map f).Nodup):m.Nodup:=by rw[Br,Y6]at h;exact UM (h.imp λh e=>h (by rw[e]))
theorem eR{α:Type}{f:α->b0}(p:∀a b,f a=f b->a=b){l:a7 α}(c:G9 (l.map f)):∃m:a7 α,m.Nodup/\(∀a,a∈m↔a∈l)/\y8 (C9 (l.map f))=m.map f/\Do (m.map f)/\m.length<=l.length:=by
 let i:=EW c;let k:=Y1 (C9 (l.map f));obtain⟨m,e⟩:=vq (f:=f) (l:=y8 (C9 (l.map f))) λx n=>by
  let j:=Y0 ((i x).mp (k.mem_iff.mp n));ext1 j a s e;exact⟨a,e.symm⟩
 let d:=cy (f:=f) (by rw[<-e];exact k.nodup_iff.mpr (GB c));have g:∀a,a∈m↔a∈l:=λa=>by
  let r:f a∈m.map f↔f a∈l.map f:=by rw[<-e,k.mem_iff];exact i (f a)
  constructor
  .intro h;exact c9 (Y0 (r.mp (V9 h))) λb o q=>p b a q▸o
  .intro h;exact c9 (Y0 (r.mpr (V9 h))) λb o q=>p b a q▸o
 haveI:DV α:=λa b=>DO _
 exact Hi m d g e (by rw[<-e];exact KY (λx n y t=>c x ((i x).mp n) y ((i y).mp t):G9 (C9 (l.map f)))) (V4 d λa u=>(g a).mp u)
theorem nu(H:y7 st h)(S:IS h P)(Y:c<h.N.length)(Z:h.R c=c)
 (hq:∀s r(o:a7 Nd),Ex st s->st.n<=r->d6 s r (o.map o4)->o.Nodup->Do (o.map o4)->o.length<=h.N.length->(∀d,d∈o↔∃(n:a6)(nd:Nd),h.N[n]?=a0 nd/\h.R n=c/\d=q6 h.R nd)->Q (.ref r) s):
 u9 u8 (k+4) "Heap" "nodes_of" [.ref 4,iD c] st Q:=by
 refine E3 (fd:=So) rfl rfl ?_;delta So;let I:=S.G.few;exists 0,H.Z.I;refine H.Z.go (sz H S Y Z λst1 r D J U B u=>?_);exists(Q6 U),rfl;refine Oz (nx:=λi=>.seq (.ref r) i) (xs:=D.map iD) (p:=λw=>a8) (f:=λx=>o4 (q6 h.R ((h.N[t9 x]?).getD ([],[])))) (λi s hi x=>T0 (U.ex x) i) ?_ ?_
 .rintro i x t acc kk q E z hk;refine c9 (X8 q) ?_;clear q;rintro n K rfl;let g:=(u n).mp (p8 K);ext1 g N hnR;let g:=O0 N;ext1 g nd j;let L:=H.ex (J.trans E);exists L.Z.I,rfl;refine L.Z.go (YY L S.G S.uf j λC A=>?_);rw[f7]at z;refine⟨by unfold j8;exact b6 z (b6 B (b6 I (by decide))),?_⟩;let e:=hk C A;rw[g0 rfl,O5,j]at e;exact e
 .intro t E;have O:(V1 (λw=>a8) (D.map iD)).map (λx=>o4 (q6 h.R ((h.N[t9 x]?).getD ([],[]))))=(D.map λn=>q6 h.R ((h.N[n]?).getD ([],[]))).map o4:=by rw[CS λw w=>rfl,v9,v9];refine A1 λn w=>(?_:o4 (q6 h.R ((h.N[t9 (iD n)]?).getD ([],[])))=_);rw[O5];rfl
  rw[O];refine M8 (D.map λn=>q6 h.R ((h.N[n]?).getD ([],[]))) λl z=>?_;have v:l.length<=h.N.length:=by rw[<-z,f7];exact B
  have R:∀d,d∈l↔∃(n:a6)(nd:Nd),h.N[n]?=a0 nd/\h.R n=c/\d=q6 h.R nd:=λd=>by
   rw[<-z,Fv];constructor
   .rintro V;ext c9 V n K rfl;let g:=(u n).mp K;ext1 g F M;let g:=O0 F;ext1 g nd j;exact E9 n nd j M (by rw[j];rfl)
   .rintro W;ext n4 W n nd F M rfl;exact d0 n ((u n).mpr ⟨(w6 F),M⟩) (by rw[F];rfl)
  refine KW (eR (λa b=>Kt) (La l)) λm m1 m2 m3 m4 m5=>?_;exists 0;let X:=d6.new t (l.map o4);let A:=Ex.A t (.L (l.map o4));generalize t.A (.L (l.map o4))=C at X A ⊢;let T:B9 (C9 (l.map o4))=a8:=by
   let G:=EW (La l);haveI:DV b0:=λa b=>DO _
   unfold B9;simp only[C4,C3];refine⟨⟨?_,Hd λx q y hy=>La l x ((G x).mp q) y ((G y).mp hy)⟩,Cw λx q=>?_⟩
   .let e:=V4 (GB (La l)) λx q=>(G x).mp q;rw[f7]at e;exact q5 e (q5 v (q5 I (by decide)))
   .refine c9 (Y0 ((G x).mp q)) ?_;clear q;rintro a w rfl;rfl
  rw[TX X (La l) (by rw[f7];exact gA I v rfl) T,m3];exists 0;exact hq _ _ m ((J.trans E).trans (A.trans (Ex.A _ _))) ((J.trans E).trans A).1 (d6.new _ _) m1 m4 (b6 m5 v) λd=>(m2 d).trans (R d)abbrev Bg:=a7 a6×a6
abbrev Tb:=Bg×a6×a7 (a7 a6)abbrev Ev:=Bg×a7 a6
def AM(k:Bg):b0:=.B [.str k.1,iD k.2]theorem Yv(h:AM a=AM b):a=b:=by unfold AM at h;injection h with h;injection h with h1 h2;injection h1 with h1;injection h2 with h2 _;exact Fq h1 (EC h2)theorem ln(a b:Bg):o0 3 (AM a) (AM b)=a8:=rfl
def Bk(l:a7 Tb):a7 (b0×b0):=l.map λt=>(AM t.1,.ref t.2.1)def E8(ev:a7 Ev)(k:Bg):a7 (a7 a6):=(ev.filter λe=>e.1==k).map (·.2)def G0(c:a6)(d:Nd):Ev:=((d.1,d.2.length+1),c::d.2)
structure CE (st:St) (rd lo:a6) (tbs:a7 Tb) (ev:a7 Ev):Prop where
 dict:∃ep,m7 st rd (Bk tbs) ep
 keys:(tbs.map (·.1)).Nodup
 adrs:(tbs.map (·.2.1)).Nodup
 cell:∀t∈tbs,lo<=t.2.1/\t.2.1≠rd/\d6 st t.2.1 (t.2.2.map m8)/\t.2.2=E8 ev t.1
 has:∀e∈ev,e.1∈tbs.map (·.1)
 few:tbs.length<=ev.length
theorem CE.ex(T:CE st rd lo tbs ev)(x:Ex st st'):CE st' rd lo tbs ev where
 dict:=d4 T.dict λe h=>⟨e,h.ex x⟩
 keys:=T.keys
 adrs:=T.adrs
 cell:=λt f=>Cr (T.cell t f) λa b c d=>(M4 a b (c.ex x) d)
 has:=T.has
 few:=T.few
theorem TB(l:a7 Tb)(k:Bg):v7 (Bk l) (AM k)=a8:=by unfold v7 Bk;simp only[C4,V6,Fv];refine⟨rfl,?_⟩;rintro e a;ext c9 a x b rfl;rfl
theorem bO(b:(l.map (·.1)).Nodup)(c:t∈l):t5 (Bk l) (AM t.1)=a0 (.ref t.2.1):=by refine KA (ln _ _) ?_ (C0 c rfl);unfold Bk;rw[v9];let a:(Bu ∘ λ(t:Tb)=>(AM t.1,b0.ref t.2.1))=AM ∘ λt=>t.1:=rfl;rw[a,<-v9,Br,Y6];exact(BR b).imp λh e=>h (Yv e)theorem ZV(h:k∉l.map (·.1)):t5 (Bk l) (AM k)=b4:=by refine Ij λe b c=>?_;ext A8 b x d rfl;exact h (Yv c▸(C0 (a:=x) d rfl))
theorem MQ(ev:a7 Ev)(e:Ev)(k:Bg):E8 (ev++[e]) k=E8 ev k++(if e.1=k then[e.2]else[]):=by
 unfold E8;rw[Pf,p9];congr 1;rw[DS];by_cases h:e.1=k
 .rw[g0 (by simpa using h),g0 h];rfl
 .rw[j4 (by simpa using h),j4 h];rfl
theorem tS(ev:a7 Ev)(k:Bg):(E8 ev k).length<=ev.length:=by unfold E8;rw[f7];exact DX _ _
def ZM:a7 S:=[.xE (.m (.m (.C (.a "self") "rows") "setdefault" (.cons (.B (.cons (.sub (.a "node") (.e (.int 0))) (.cons (.bi .len (.cons (.a "node") .nil)) .nil))) (.cons (.L .nil) .nil))) "append" (.cons (.bin .add (.B (.cons (.a "c") .nil)) (.from (.a "node") (.e (.int 1)))) .nil))]
theorem yR(T:CE st rd lo tbs ev)(hlo:lo<=st.n)(K:ev.length<=900)(h2:nd.2.length<=2)(I:v4 st ta "Tables" te [("rows",.ref rd)])
 (r1:ρ "self"=a0 (.ref ta))(R:ρ "node"=a0 (o4 nd))(r3:ρ "c"=a0 (iD c))
 (hk:∀l F,Fm (λb=>b=rd\/b∈tbs.map (·.2.1)) st l->CE l rd lo F (ev++[G0 c nd])->(∀t∈F,t.2.1∈tbs.map (·.2.1)\/st.n<=t.2.1)->kk .next ρ l):G4 C ZM ρ st kk:=by
 simp only[ZM];refine d4 T.dict λep D=>?_;let e1:G8 st (.ref ta) "rows"=a0 (.ref rd):=I.C rfl rfl;let e2:J9 (o4 nd) (.int 0) st=a0 (.str nd.1):=BY (i:=0) (F9 _) rfl;let e3:M3 .len [o4 nd] st=a0 (iD (nd.2.length+1),st):=by let this:=GS (st:=st) (xs:=b0.str nd.1::nd.2.map iD) (by rw[N6,f7];exact Ca);rw[N6,f7]at this;exact this
 exists r1,R,e1,D.I,D.kind,Ib,e2,e3,rfl;let A:=Ex.A st (.L []);let N1:=d6.new st [];generalize B:st.n=p at N1;generalize st.A (.L [])=n at A N1 ⊢;have S:=D.ex A;have T1:=T.ex A;let Y:(.B [.str nd.1,iD (nd.2.length+1)]:b0)=AM (G0 c nd).1:=rfl;rw[S.kind,Y];refine⟨rfl,?_⟩;let f:∀l,V3 .add (.B [iD c]) (.B (nd.2.map iD)) l=a0 (m8 (G0 c nd).2,l):=λl=>IA (xs:=[iD c]) (by rw[f7];simp;exact b6 (G2 h2 1) (by decide));let G:=T.few;by_cases o:(G0 c nd).1∈tbs.map (·.1)
 .refine A8 o λt O L=>?_;rw[<-L,KX S (TB _ _) (by unfold Bk;rw[f7];exact gA K G rfl) (bO T.keys O)];let g:=T1.cell t O;ext1 g q1 q2 J q4;exists J.I,J.kind,X9,r3,R,(CO (nd:=nd) (show nd.2.length<=100 by exact p6)),f,rfl;(try exists 0,J.I,J.kind,X9,r3,R,(CO (nd:=nd) (show nd.2.length<=100 by exact p6)),f);rw[Bc J (by rw[f7,q4];let this:=tS ev t.1;exact gA K this rfl:(t.2.2.map m8).length<=1000)];exists 0;let m:Fm (λb=>b=t.2.1) n (n.set t.2.1 (.L (t.2.2.map m8++[m8 (G0 c nd).2]))):=Fm.set rfl;let y:d6 (n.set t.2.1 (.L (t.2.2.map m8++[m8 (G0 c nd).2]))) t.2.1 (t.2.2.map m8++[m8 (G0 c nd).2]):=d6.U J.1;revert m y;refine gen (n.set t.2.1 (.L (t.2.2.map m8++[m8 (G0 c nd).2]))) λh m y=>?_;let M:∀s:Tb,(if s.1=t.1 then(s.1,s.2.1,s.2.2++[(G0 c nd).2])else s).1=s.1:=λs=>by
   by_cases q:s.1=t.1
   .rw[g0 q]
   .rw[j4 q]
  have E:∀s:Tb,(if s.1=t.1 then(s.1,s.2.1,s.2.2++[(G0 c nd).2])else s).2.1=s.2.1:=λs=>by
   by_cases q:s.1=t.1
   .rw[g0 q]
   .rw[j4 q]
  let N:(tbs.map λs:Tb=>if s.1=t.1 then(s.1,s.2.1,s.2.2++[(G0 c nd).2])else s).map (λs:Tb=>s.1)=tbs.map λs:Tb=>s.1:=by rw[v9];exact A1 λs w0=>M s
  let V:(tbs.map λs:Tb=>if s.1=t.1 then(s.1,s.2.1,s.2.2++[(G0 c nd).2])else s).map (λs:Tb=>s.2.1)=tbs.map λs:Tb=>s.2.1:=by rw[v9];exact A1 λs w0=>E s
  refine hk h (tbs.map λs=>if s.1=t.1 then(s.1,s.2.1,s.2.2++[(G0 c nd).2])else s) ((Fm.ex A).trans (m.mono λb w0 q=>.inr (by rw[q];exact C0 (a:=t) O rfl))) ⟨⟨ep,?_⟩,by rw[N];exact T.keys,by rw[V];exact T.adrs,?_,?_,?_⟩ ?_
  .let this:Bk (tbs.map λs=>if s.1=t.1 then(s.1,s.2.1,s.2.2++[(G0 c nd).2])else s)=Bk tbs:=by unfold Bk;rw[v9];refine A1 λs w0=>?_;dsimp only[Hs];rw[M,E]
   rw[this];exact S.fr m (C8 q2)
  .intro s' u;refine B0 u ?_;rintro s d;let g:=T1.cell s d;ext1 g p1 U p3 p4;by_cases q:s.1=t.1
   .let hst:s=t:=by refine d4 (N2 d) λi r=>?_;ext d4 r hi v;refine d4 (N2 O) λj r=>?_;ext d4 r hj w;let this:=Ef T.keys (by rw[o7,v5 hi,v,<-q];rfl:(tbs.map (·.1))[i]?=a0 t.1) (by rw[o7,v5 hj,w];rfl:(tbs.map (·.1))[j]?=a0 t.1);subst this;rw[<-v,w]
    clear O q1 q2 J q4 m M E N V u q;subst hst;rw[g0 rfl];refine M4 p1 U ?_ ?_
    .dsimp only;rw[p9];exact y
    .refine(?_:s.2.2++[(G0 c nd).2]=E8 (ev++[G0 c nd]) s.1);rw[MQ,g0 L.symm,<-p4]
   .rw[j4 q];refine M4 p1 U (p3.fr m λx=>?_) ?_
    .refine d4 (N2 d) λi r=>?_;ext d4 r hi v;refine d4 (N2 O) λj r=>?_;ext d4 r hj w;let this:=Ef T.adrs (by rw[o7,v5 hi,v,<-x];rfl:(tbs.map (·.2.1))[i]?=a0 t.2.1) (by rw[o7,v5 hj,w];rfl:(tbs.map (·.2.1))[j]?=a0 t.2.1);subst this;rw[<-v,w]at q;exact q rfl
    .rw[MQ,j4 λx=>q (by rw[L];exact x.symm),Y5];exact p4
  .intro e k;rw[N];rcases v3 k with k|k
   .exact T.has e k
   .rw[o9]at k;subst k;exact o
  .rw[f7,u7];simp;exact U4 ‹_›
  .intro s' u;ext B0 u s d;rw[E];exact .inl (C0 (a:=s) d rfl)
 .rw[LJ S (TB _ _) (by unfold Bk;rw[f7];exact gA K G rfl) (ZV o)];exists 0;let hna1:=N1.1;have hrn:rd<p:=by rw[<-B];exact D.1
  generalize W:n.set rd (.D (Bk tbs++[(AM (G0 c nd).1,.ref p)]) (ep+1))=h;have m:Fm (λb=>b=rd) n h:=by rw[<-W];exact Fm.set rfl
  have y:=N1.fr m (K0 ‹_›);exists y.I,y.kind,X9,r3,R,(CO (nd:=nd) (show nd.2.length<=100 by exact p6)),f,rfl;(try exists 0,y.I,y.kind,X9,r3,R,(CO (nd:=nd) (show nd.2.length<=100 by exact p6)),f);rw[Bc y (by decide)];exists 0;let Q:Fm (λb=>b=p) h (h.set p (.L [m8 (G0 c nd).2])):=Fm.set rfl;let N3:d6 (h.set p (.L [m8 (G0 c nd).2])) p [m8 (G0 c nd).2]:=d6.U y.1;revert Q N3;refine gen (h.set p (.L [m8 (G0 c nd).2])) λX Q N3=>?_;let Z:Fm (λb=>b=rd\/b∈tbs.map (·.2.1)) st X:=by let this:=A.fm m (st:=st) (P:=λb=>b=rd);refine⟨b6 A.1 (b6 m.1 Q.1),λb z hp=>?_⟩;rw[Q.2 b (j7 z (b6 A.1 m.1)) (m6 (j7 z (A5 B))),m.2 b (j7 z A.1) λq=>hp (.inl q),A.2 b z]
  have H:∀s∈tbs,s.2.1<p:=λs d=>by
   let this:=(T.cell s d).2.2.1.1;exact GL this B
  refine hk X (tbs++[((G0 c nd).1,p,[(G0 c nd).2])]) Z ⟨⟨ep+1,?_⟩,?_,?_,?_,?_,?_⟩ ?_
  .let this:Bk (tbs++[((G0 c nd).1,p,[(G0 c nd).2])])=Bk tbs++[(AM (G0 c nd).1,.ref p)]:=by unfold Bk;rw[p9];rfl
   rw[this];exact(by rw[<-W];exact m7.U S.1:m7 h rd (Bk tbs++[(AM (G0 c nd).1,.ref p)]) (ep+1)).fr Q (m6 ‹_›)
  .rw[p9,BK];refine m0 T.keys (by simp) λa ha b z e=>?_;simp only[y4,W0,o9]at z;subst z e;exact o ha
  .rw[p9,BK];refine m0 T.adrs (by simp) λa ha b z e=>?_;simp only[y4,W0,o9]at z;ext A8 ha s d rfl;let this:=H s d;exact(m6 this (e.trans z)).elim
  .intro s d;rcases v3 d with d|d
   .let g:=T1.cell s d;ext1 g p1 U p3 p4;have:=H s d;refine M4 p1 U ((p3.fr m U).fr Q (m6 ‹_›)) ?_;rw[MQ,j4,Y5]
    .exact p4
    .intro q;exact o (by rw[q];exact C0 (a:=s) d rfl)
   .rw[o9]at d;subst d;refine M4 (zO B hlo) (K0 ‹_›) N3 ((?_:[(G0 c nd).2]=E8 (ev++[G0 c nd]) (G0 c nd).1));let h0:E8 ev (G0 c nd).1=[]:=by
     unfold E8;rw[List.filter_eq_nil_iff.mpr]
     .rfl
     .intro e k hq;let this:e.1=(G0 c nd).1:=by simpa using hq
      exact o (by rw[<-this];exact T.has e k)
    rw[MQ,h0,g0 rfl];rfl
  .intro e k;rw[p9];rcases v3 k with k|k
   .exact G1 _ (T.has e k)
   .rw[o9]at k;subst k;exact K6 _ P3
  .rw[u7,u7];simp;assumption
  .intro s d;rcases v3 d with d|d
   .exact .inl (C0 (a:=s) d rfl)
   .rw[o9]at d;subst d;exact .inr (A5 ‹_›)def GF(ev:a7 Ev):Prop:=ev.Pairwise λa b=>a.1=b.1->a.2≠b.2/\r9 (m8 b.2) (m8 a.2)=c8
def YI(nodes:a7 Nd)(R:a6->a6)(c:a6)(d:Nd):Prop:=∃(n:a6)(nd:Nd),nodes[n]?=a0 nd/\R n=c/\d=q6 R nd
theorem y7.own_lt(H:y7 st h)(j:h.own b):b<st.n:=by
 rcases j with q|q|q
 .let a:=H.n23;exact q5 q.2 (j7 (by decide) a)
 .refine d4 (N2 q) λi d=>?_;ext d4 d f rfl;let c:=O0 (l:=h.u.S) (n:=i) (by rw[<-H.uni.len];exact f);ext1 c l g;exact(H.uni.lot i _ l (v5 f) g).1
 .refine B0 q ?_;rintro e k;exact(H.abl e k).2.2.1
theorem qs(h:c'<c):r9 (m8 (c::l)) (m8 (c'::l'))=c8:=by refine(?_:(if l3 (iD c) (iD c')then U7 (l.map iD) (l'.map iD)else r9 (iD c) (iD c'))=c8);rw[Sl,j4 (by simp;exact K0 h),eI];simp;exact m9 h
theorem wv(h:r9 (o4 (o,l)) (o4 (o,l'))=c8):r9 (m8 (c::l)) (m8 (c::l'))=c8:=by have a:(if l3 (.str o) (.str o)then U7 (l.map iD) (l'.map iD)else r9 (.str o) (.str o))=c8:=h;rw[(by refine(?_:(o==o)=a8);simp:l3 (.str o) (.str o)=a8),g0 rfl]at a;refine(?_:(if l3 (iD c) (iD c)then U7 (l.map iD) (l'.map iD)else r9 (iD c) (iD c))=c8);rw[Sl,g0 (by simp)];exact a
theorem xP(H:y7 st h)(S:IS h P)(I:v4 st ta "Tables" te [])(hte:∀b,h.own b->b≠te)(hta:ta≠te)
 (hq:∀p w lo tbs ev,Fm (λb=>b=te) st p->v4 p ta "Tables" te [("rows",.ref w)]->st.n<=w->st.n<=lo->CE p w lo tbs ev->GF ev->(∀(ky:Bg)l,(ky,l)∈ev↔Y9 h.N h.R ky.1 ky.2 l)->Q .none p):
 u9 u8 (k+5) "Tables" "__init__" [.ref ta,.ref 4] st Q:=by
 refine E3 (fd:=SZ) rfl rfl ?_;delta SZ;let hN:=S.G.few;exists 0,W0,DR,AI;let x1:=Ex.A st (.D [] 0);let D1:=m7.new st [] 0;let I1:=I.ex x1;generalize J:st.n=w at D1;generalize st.A (.D [] 0)=st1 at x1 D1 I1 ⊢;exists(I1.set (f:="rows") (v:=.ref w) rfl (by simp)),rfl;refine M8 (st1.set te (.fld [("rows",.ref w)])) λst2 hs2=>?_;have g2:Fm (λb=>b=te) st1 st2:=by rw[<-hs2];exact Fm.set rfl
 have Y:te<w:=by rw[<-J];exact I.2.2.1
 let I2:v4 st2 ta "Tables" te [("rows",.ref w)]:=by rw[<-hs2];exact M4 I1.1 ((j4 hta).trans I1.2.1) I1.2.2.1 (g0 rfl)
 have H2:y7 st2 h:=(H.ex x1).fr g2 hte;exists H2.Z.I,rfl;refine H2.Z.go (dP H2 S λy r x3 L3=>?_);exists(Q6 L3),rfl;have D3:=(D1.fr g2 (K0 Y)).ex x3;have I3:=I2.ex x3;let hrdl:w<y.n:=D3.1;let Z:(Bf h).Pairwise (·<·):=List.pairwise_lt_range.filter _;let hrt:∀c∈Bf h,c<h.N.length/\h.R c=c:=λc G=>by
  let M:=BP G;ext1 M B h2;exact⟨U8 B,by simpa using h2⟩
 let hrl:(Bf h).length<=h.N.length:=by let this:=DX (λa=>h.R a==a) (p0 h.N.length);rw[Bw]at this;exact this
 refine BF (nx:=λi=>.seq (.ref r) i) (xs:=(Bf h).map iD) (I:=λi ρ p=>Fm (λb=>b=w) y p/\ρ "self"=a0 (.ref ta)/\ρ "heap"=a0 (.ref 4)/\r≠w/\
  ∃(tbs:a7 Tb)(ev:a7 Ev),CE p w y.n tbs ev/\GF ev/\ev.length<=20*i/\(∀e∈ev,∃c d,c∈(Bf h).take i/\e=G0 c d/\YI h.N h.R c d)/\(∀c d,c∈(Bf h).take i->YI h.N h.R c d->G0 c d∈ev)) ?_ ?_ ?_ ?_
 .rintro i ρ p hi z1;ext1 z1 g D D hr D;exact T0 (L3.fr g hr) i
 .rintro i x ρ O kk hx z2 hk1 hk2;ext Hf z2 g4 r1 r2 hrr m;ext C7 m tbs ev T4 E4 hl4 R E;refine c9 (X8 hx) ?_;rintro c G rfl;let M:=hrt c (p8 G);ext1 M hcN hcR;have hi:i<(Bf h).length:=w6 G;let nown:∀b,h.own b->b≠w:=λb N=>by
   let this:=H.own_lt N;exact KL this J
  let H4:=(H2.ex x3).fr g4 nown;let hterd:te≠w:=m6 Y;let htard:ta≠w:=by let this:=I.1;exact KL this J
  let I4:=I3.fr g4 htard hterd;exists r2,H4.Z.I,rfl;refine H4.Z.go (nu H4 S hcN hcR λst5 r5 A x5 hr5n L5 hnd hso hnl hnm=>?_);exists(Q6 L5),rfl;let hcn:c∉(Bf h).take i:=λhm=>by
   refine d4 (N2 hm) λj m=>?_;ext d4 m hj T;rw[O9]at hj;have B:(Bf h)[j]?=a0 c:=by rw[Jr]at T;rw[<-T,v5 (IQ hj)]
   have:=Ef (qG (λh=>m6 h) Z) B G;exact u6 this (m6 (Hm hj))
  let hlow:∀c'∈(Bf h).take i,c'<c:=λc' hm=>by
   refine d4 (N2 hm) λj m=>?_;ext d4 m hj T;rw[O9]at hj;rw[Jr]at T;let this:=List.pairwise_iff_getElem.mp Z j i (IQ hj) hi (Hm hj);rw[T]at this;let hci:(Bf h)[i]=c:=by rw[v5 hi]at G;exact C6 G
   rwa [hci]at this
  have htk:(Bf h).take (i+1)=(Bf h).take i++[c]:=by rw[Af,G];rfl
  refine BF (nx:=λj=>.seq (.ref r5) j) (xs:=A.map o4) (I:=λj ρ p=>ρ "self"=a0 (.ref ta)/\ρ "heap"=a0 (.ref 4)/\ρ "c"=a0 (iD c)/\
   ∃(tbs:a7 Tb)(U:a7 Ev),Fm (λb=>b=w\/y.n<=b) y p/\d6 p r5 (A.map o4)/\(∀t∈tbs,t.2.1≠r5)/\O.n<=p.n/\CE p w y.n tbs (ev++U)/\GF (ev++U)/\U.length<=j/\(∀e∈U,∃d,d∈A.take j/\e=G0 c d)/\(∀d∈A.take j,G0 c d∈U)) (λj ρ p hj hI=>by
    ext1 hI D D D m;ext n4 m D D D L D;exact T0 L j) ?_ ?_ ?_
  .rintro j x ρ' st6 kk' hx z3 hk1' hk2';ext Cr z3 s1 s2 s3 m;ext Lm m tbs6 ev6 g6 L6 ha6 hn6 T6 E6 m;ext t6 m V K F;rw[o7,At]at hx;ext c9 hx d hd rfl;refine n4 ((hnm d).mp (p8 hd)) ?_;rintro n s hnn hnc rfl;have hstep:=yR (C:=u9 u8 (k+4)) (c:=c) (nd:=q6 h.R s) (ρ:=ρ'.set "node" (o4 (q6 h.R s))) (kk:=kk') T6 (b6 g6.1 (l8 _)) (by rw[u7];have:j<A.length:=w6 hd;exact bx hN hrl hl4 hi hnl V this) (by refine(?_:(s.2.map h.R).length<=2);rw[f7];exact(S.G.op s (p8 hnn)).2) (I3.fr g6 (by have:=I3.1;exact λh=>h.elim htard (WB this)) (by have:=I3.2.2.1;exact λh=>h.elim hterd (WB this))) s1 rfl s3
    (λst7 tbs7 g7 T7 ha7=>?_)
   .exact hstep
   .have hr6:r5<st6.n:=L6.1;refine(hk1' _ _ ⟨by exact s1,by exact s2,by exact s3,tbs7,ev6++[G0 c (q6 h.R s)],g6.trans (g7.mono λb D q=>?_),L6.fr g7 λq=>?_,λt z e=>?_,b6 hn6 g7.1,by rw[<-Eb];exact T7,?_,by rw[u7];simp;exact V,λe u=>?_,λd hd'=>?_⟩).1
    .rcases q with q|q
     .exact .inl q
     .ext B0 q t z;exact .inr (T6.cell t z).1
    .rcases q with q|q
     .exact(T9 _ (j7 (by refine d4 T4.dict λD q=>?_;exact q.1:w<O.n) (q▸hr5n))).elim
     .exact A8 q λt z q=>ha6 t z q
    .rcases ha7 t z with q|q
     .exact A8 q λt' ht' q=>ha6 t' ht' (q.trans e)
     .exact(T9 _ (j7 hr6 (e▸q))).elim
    .
     rw[<-Eb];unfold GF;rw[Qs];refine m0 E6 (Qf _ _) λa ha b N hab=>?_;rw[o9]at N;subst N;rcases v3 ha with ha|ha
     .refine n4 (R a ha) ?_;clear hab ha;clear ha;rintro c' d' W rfl D;have X:=hlow c' W;refine⟨λq=>?_,qs X⟩;let this:c'=c:=by injection q
      exact(KO X this).elim
     .refine c9 (K a ha) ?_;clear ha;clear ha;rintro d' hd' rfl;refine d4 (N2 hd') λt m=>?_;ext d4 m z htd;rw[O9]at z;rw[Jr]at htd;let hjl:j<A.length:=w6 hd;let hdj:A[j]=q6 h.R s:=(FS hd).2;let hne:d'≠q6 h.R s:=by rw[<-htd,<-hdj];exact List.pairwise_iff_getElem.mp (BR hnd) t j (IQ z) hjl (Hm z)
      let X:=List.pairwise_iff_getElem.mp hso t j (by rw[f7];exact IQ z) (by rw[f7];exact hjl) (Hm z);rw[hM,hM,htd,hdj]at X;have B:d'.1=(q6 h.R s).1:=(Ct hab).1;refine⟨λq=>hne (Fq B ?_),?_⟩
      .let q:c::d'.2=c::(q6 h.R s).2:=q;injection q
      .refine wv (o:=d'.1) ?_;rw[(rfl:(d'.1,d'.2)=d'),(by rw[B]:(d'.1,(q6 h.R s).2)=q6 h.R s)];exact X
    .rcases v3 u with u|u
     .let M:=K e u;ext1 M d hd1 hd2;exact d0 d (by rw[Af];exact G1 _ hd1) hd2
     .rw[o9]at u;exact d0 _ (by rw[Af,hd];exact K6 _ (by simp)) u
    .rw[Af,hd]at hd';rcases v3 hd' with q|q
     .exact G1 _ (F d q)
     .simp at q;rw[q];exact K6 _ P3
  .rintro ρ' st6 z4;ext1 z4 s1 s2 s3 m;ext Lm m tbs6 ev6 g6 L6 ha6 hn6 T6 E6 m;ext1 m V K F;rw[f7,X6]at K F;rw[f7]at V;refine(hk1 _ _ ⟨⟨g6.1,λb N hp=>g6.2 b N λq=>?_⟩,s1,s2,hrr,tbs6,ev++ev6,T6,E6,by rw[u7];exact b6 (U0 hl4 (b6 V (b6 hnl hN))) (l8 _),λe u=>?_,λc' d W u=>?_⟩).1
   .rcases q with q|q
    .exact hp q
    .exact(Ke N q).elim
   .rcases v3 u with u|u
    .exact n4 (R e u) λc' d q1 q2 q3=>E9 c' d (by rw[htk];exact G1 _ q1) q2 q3
    .exact c9 (K e u) λd q1 q2=>E9 c d (by rw[htk];exact K6 _ P3) q2 ((hnm d).mp q1)
   .rw[htk]at W;rcases v3 W with q|q
    .exact G1 _ (E c' d q u)
    .rw[o9]at q;clear G hx hcN hcR hcn hlow htk s3 K W;subst q;exact K6 _ (F d ((hnm d).mpr u))
  .refine⟨r1,r2,rfl,tbs,[],?_,L5,λt z e=>?_,x5.1,by rw[Y5];exact T4.ex x5,by rw[Y5];exact E4,l8 _,(λe u=>by cases u),(λd hd=>by cases hd)⟩
   .exact(g4.mono λb D q=>.inl q).trans (Fm.ex x5)
   .let this:=(λt z=>(T4.cell t z).2.2.1.1:∀t∈tbs,t.2.1<O.n) t z;exact(T9 _ (j7 this (e▸hr5n))).elim
 .rintro ρ O z5;ext Hf z5 g4 r1 r2 hrr m;ext C7 m tbs ev T4 E4 hl4 R E;rw[f7,X6]at R E;exists 0;refine hq O w y.n tbs ev ?_ (I3.fr g4 (by let this:=I.1;exact KL this J:ta≠w) (m6 Y)) (ic J) (by let this:=x1.1;let this:=g2.1;let this:=x3.1;exact b6 ‹_› (b6 ‹_› this)) T4 E4 λky l=>?_
  .refine⟨b6 x1.1 (b6 g2.1 (b6 x3.1 g4.1)),λb N hp=>?_⟩;let B:b<st1.n:=j7 N x1.1;let h2:b<st2.n:=j7 B g2.1;rw[g4.2 b (j7 h2 x3.1) (m6 (j7 N (A5 J))),x3.2 b h2,g2.2 b B hp,x1.2 b N]
  .constructor
   .intro hm;refine n4 (R _ hm) λc d D u m=>?_;ext n4 m n s hn G rfl;let he1:ky=(s.1,(s.2.map h.R).length+1):=(Ct u).1;let he2:l=c::s.2.map h.R:=(Ct u).2;rw[f7]at he1;exact⟨n,s,hn,by rw[he1],by rw[he1],by rw[he2,G]⟩
   .rintro z6;ext T8 z6 n s hn B h2 rfl;let hnN:=w6 hn;let hr:h.R n∈Bf h:=by unfold Bf;rw[HO];refine⟨Cv (S.uf.ltN hnN),?_⟩;rw[S.uf.iE hnN];simp
    let this:=E (h.R n) (q6 h.R s) hr (E9 n s hn rfl rfl);let e:G0 (h.R n) (q6 h.R s)=(ky,h.R n::s.2.map h.R):=by refine(?_:((s.1,(s.2.map h.R).length+1),h.R n::s.2.map h.R)=_);rw[f7,B,h2]
    rw[e]at this;exact this
 .refine⟨Fm.refl _,rfl,rfl,λe=>?_,[],[],(⟨⟨0,D3⟩,By,By,(λt z=>by cases z),(λe u=>by cases u),l8 _⟩:CE y w y.n [] []),Gu,F9 _,(λe u=>by cases u),(λc d G=>by simp at G)⟩;have B:=L3.2;rw[e,D3.2]at B;cases B
theorem YQ(I:v4 st ta "Tables" te [("rows",.ref rd)])(T:CE st rd lo tbs ev)
 (l:∀c a,Ex st c->d6 c a ((E8 ev (o,m)).map m8)->Q (.ref a) c):u9 u8 (k+1) "Tables" "table" [.ref ta,.str o,iD m] st Q:=by
 refine E3 (fd:=UA) rfl rfl ?_;delta UA;let b:=T.dict;ext1 b w D;exists(I.C rfl rfl),D.I,D.kind,vO,rfl;let f:=Ex.A st (.L []);let n:=d6.new st [];generalize st.A (.L [])=g at f n ⊢;let p:=D.ex f;rw[p.kind];refine⟨rfl,?_⟩;let i:(.B [.str o,iD m]:b0)=AM (o,m):=rfl;exists 0,i,(ae p (TB _ _));by_cases d:(o,m)∈tbs.map (·.1)
 .refine A8 d λt q h=>?_;let b:=(T.ex f).cell t q;ext1 b x y r s;rw[<-h,bO T.keys q];rw[s,h]at r;exact l g _ f r
 .rw[ZV d];refine l g st.n f ?_;let u:E8 ev (o,m)=[]:=by
   unfold E8;rw[List.filter_eq_nil_iff.mpr]
   .rfl
   .intro e v l;let j:e.1=(o,m):=by simpa using l
    exact d (by rw[<-j];exact T.has e v)
  rw[u];exact n
theorem Kq(ev:a7 Ev)(k:Bg)(l:a7 a6):l∈E8 ev k↔(k,l)∈ev:=by
 unfold E8;rw[Fv];constructor
 .rintro c;ext c9 c e d rfl;let b:=BP d;ext1 b f g;let a:e.1=k:=by simpa using g
  rw[<-a];exact f
 .intro h;exact d0 (k,l) (BE h (by simp)) rfl
theorem Zc(h:GF ev)(k:Bg):(E8 ev k).Nodup/\Do ((E8 ev k).map m8):=by
 let d:(ev.filter λe=>e.1==k).Pairwise λa b=>a.2≠b.2/\r9 (m8 b.2) (m8 a.2)=c8:=by refine Gg ?_ (h.filter _);intro a b f g c;exact c ((by simpa using(Hk f):a.1=k).trans (by simpa using(Hk g):b.1=k).symm)
 constructor
 .unfold E8;rw[Br,Y6];exact d.imp λh=>h.1
 .unfold E8 Do;rw[v9,Y6];exact d.imp λh=>h.2
theorem OT(l:a7 (a7 a6)):G9 (l.map m8):=by intro x c y d;ext B0 c a e;ext B0 d b e;exact Rw a b
theorem dl{ev:a7 Ev}(h:GF ev){k:Bg}{c:a7 (a7 a6)}(e:c.Nodup)(f:∀l,l∈c↔(k,l)∈ev):y8 (c.map m8)=(E8 ev k).map m8:=by let d:=Zc h k;ext1 d g i;refine Rk (λa j b m=>OT c a ((Y1 _).mem_iff.mp j) b ((Y1 _).mem_iff.mp m)) ?_ (KY (OT c)) i;exact(Y1 _).trans (xx _ (Li e g λl=>by rw[f l,Kq]))
structure IT (st:St) (ja je ta te rd lo:a6) (tbs:a7 Tb) (ev:a7 Ev):Prop where
 j:∃cr,v4 st ja "Joins" je [("tables",.ref ta),("classes",.ref cr)]
 t:v4 st ta "Tables" te [("rows",.ref rd)]
 T:CE st rd lo tbs ev
 E:GF ev
theorem IT.ex(J:IT st ja je ta te rd lo tbs ev)(x:Ex st st'):IT st' ja je ta te rd lo tbs ev:=
 ⟨d4 J.j λa h=>⟨a,h.ex x⟩,J.t.ex x,J.T.ex x,J.E⟩
theorem qh(H:y7 st h)(S:IS h P)(I:v4 st ja "Joins" je [])(N:∀b,h.own b->b≠je)(x:ja≠je)
 (hq:∀o ta te C D e s,Fm (λb=>b=je) st o->IT o ja je ta te C D e s->(∀(K:Bg)l,(K,l)∈s↔Y9 h.N h.R K.1 K.2 l)->Q .none o):
 u9 u8 (k+6) "Joins" "__init__" [.ref ja,.ref 4] st Q:=by
 refine E3 (fd:=Ue) rfl rfl ?_;delta Ue;exists H.Z.I,rfl;refine H.Z.go (dP H S λy r u L1=>?_);let E:=I.ex u;exists(E.set (f:="classes") (v:=.ref r) rfl (by decide)),rfl;refine M8 (y.set je (.fld [("classes",.ref r)])) λa z=>?_;have F:Fm (λb=>b=je) y a:=by rw[<-z];exact Fm.set rfl
 have L:v4 a ja "Joins" je [("classes",.ref r)]:=by rw[<-z];exact M4 E.1 ((j4 x).trans E.2.1) E.2.2.1 (g0 rfl)
 have U:y7 a h:=(H.ex u).fr F N;let m:=(Ex.A a (.fld [])).trans (Ex.A (a.A (.fld [])) (.I "Tables" a.n));let M:v4 ((a.A (.fld [])).A (.I "Tables" a.n)) (a.n+1) "Tables" a.n []:=by refine M4 (B8 _) (g0 rfl) (N8 _) ((?_:(if a.n=a.n+1 then _ else if a.n=a.n then _ else _)=_));rw[j4 eF,g0 rfl]
 let g:((a.A (.fld [])).A (.I "Tables" a.n)).n=a.n+2:=rfl;revert m M g;refine gen ((a.A (.fld [])).A (.I "Tables" a.n)) λst3 m M g=>?_;refine xP (U.ex m) S M (λb G=>by let this:=U.own_lt G;exact m6 ‹_›) Xi λA C D e s J I4 O R p E4 T=>?_;have c:je<a.n:=L.2.2.1;let hjan:=L.1;have i:=(L.ex m).fr J (m6 ‹_›) (m6 ‹_›);exists rfl;exists 0,(i.set (f:="tables") (v:=.ref (a.n+1)) rfl (M7 _));refine M8 (A.set je _) λj B=>?_;have w:Fm (λb=>b=je) A j:=by rw[<-B];exact Fm.set rfl
 let I5:v4 j ja "Joins" je [("tables",.ref (a.n+1)),("classes",.ref r)]:=by rw[<-B];exact M4 i.1 ((j4 x).trans i.2.1) i.2.2.1 (g0 rfl)
 let T5:CE j C D e s:=by
  refine⟨?_,p.keys,p.adrs,λt ht=>?_,p.has,p.few⟩
  .let d:=p.dict;ext1 d ep q;exact⟨ep,q.fr w (K0 (j7 c (b6 (g▸G3 _ 2) O)))⟩
  .let d:=p.cell t ht;ext1 d V q2 q3 q4;exact M4 V q2 (q3.fr w (ju c g R V)) q4
 refine hq j (a.n+1) a.n C D e s ?_ ⟨⟨r,I5⟩,I4.fr w (MU c) (K0 ‹_›),T5,E4⟩ T;refine⟨b6 u.1 (b6 F.1 (b6 m.1 (b6 J.1 w.1))),λb G W=>?_⟩;let X:=j7 G u.1;let Y:=j7 X F.1;let Z:=j7 Y m.1;rw[w.2 b (j7 Z J.1) W,J.2 b Z (m6 ‹_›),m.2 b Y,F.2 b X W,u.2 b G]
def Fa:a7 a6->a7 a6->j0 a6
 |[],[v]=>a0 v
 |x::p,y::q=>if x=y then Fa p q else b4
 |_,_=>b4
theorem Jp:∀{p q:a7 a6}{v:a6},Fa p q=a0 v↔q=p++[v]
 |[],[],v=>⟨nofun,nofun⟩
 |[],[w],v=>⟨λh=>t0 (λx=>[x]) (C6 h),λh=>t0 a0 (Gq h).1⟩
 |[],w::a::q,v=>⟨nofun,nofun⟩
 |x::p,[],v=>⟨nofun,nofun⟩
 |x::p,y::q,v=>by
  refine(?_:(if x=y then Fa p q else b4)=a0 v↔_);by_cases h:x=y
  .rw[g0 h,Jp,h];simp
  .rw[j4 h];constructor
   .intro e;cases e
   .intro e;have b:=(Gq e).1;exact(h b.symm).elim
def Aa(ps:a7 (a7 a6))(p:a7 a6):a7 a6:=ps.filterMap (Fa p)
theorem GW:v∈Aa ps p↔p++[v]∈ps:=by
 unfold Aa;rw[UX];constructor
 .rintro a;ext1 a q b e;rw[<-Jp.mp e];exact b
 .intro h;exact d0 _ h (Jp.mpr rfl)theorem td(ps:a7 (a7 a6))(q p:a7 a6):Aa (ps++[q]) p=Aa ps p++(Fa p q).toList:=by unfold Aa;rw[a7.filterMap_append];congr 1
theorem Xb(h:b.Nodup)(p:a7 a6):(Aa b p).Nodup:=by
 induction b with
 |nil=>exact By
 |cons q b c=>
  rw[Az]at h;unfold Aa;rw[HQ];cases e:Fa p q with
  |none=>exact c h.2
  |some v=>rw[Az];refine⟨λd=>h.1 ?_,c h.2⟩;let a:=GW.mp d;rw[Jp.mp e];exact a
theorem Zg(ps:a7 (a7 a6))(p:a7 a6):(Aa ps p).length<=ps.length:=jQ _ _
def Ar(ps:a7 (a7 a6))(ad:a7 a6->a6)(p:a7 a6):a7 (b0×b0):=(Aa ps p).map λv=>(iD v,.ref (ad (p++[v])))theorem TU(ps:a7 (a7 a6))(b:a7 a6->a6)(p:a7 a6)(v:a6):v7 (Ar ps b p) (iD v)=a8:=by unfold v7 Ar;simp only[C4,V6,Fv];refine⟨rfl,?_⟩;rintro e a;ext c9 a x c rfl;rfl
theorem aR(c:ps.Nodup)(h:p++[v]∈ps):t5 (Ar ps ad p) (iD v)=a0 (.ref (ad (p++[v]))):=by refine KA (Kp _ _ _) ?_ (C0 (a:=v) (GW.mpr h) rfl);unfold Ar;rw[v9];let b:(Bu ∘ λ(v:a6)=>(iD v,b0.ref (ad (p++[v]))))=iD:=rfl;rw[b,Br,Y6];exact(BR (Xb c p)).imp λh e=>h (EC e)theorem tq(h:p++[v]∉ps):t5 (Ar ps ad p) (iD v)=b4:=by refine Ij λe b c=>?_;ext A8 b x d rfl;let a:=EC c;clear c;subst a;exact h (GW.mp d)
structure BN (st:St) (ps:a7 (a7 a6)) (ad:a7 a6->a6) (lo:a6):Prop where
 root:[]∈ps
 nd:ps.Nodup
 up:∀p v,p++[v]∈ps->p∈ps
 cell:∀p∈ps,∃ep,m7 st (ad p) (Ar ps ad p) ep
 inj:∀p∈ps,∀q∈ps,ad p=ad q->p=q
 lo:∀p∈ps,lo<=ad p
theorem BN.ex{st:St}{ps:a7 (a7 a6)}{a:a7 a6->a6}{lo:a6}(T:BN st ps a lo)(x:Ex st st'):BN st' ps a lo:=
 ⟨T.root,T.nd,T.up,λp b=>d4 (T.cell p b) λc h=>⟨c,h.ex x⟩,T.inj,T.lo⟩
theorem BN.put{st:St}{ps:a7 (a7 a6)}{f:a7 a6->a6}{lo:a6}{p:a7 a6}{v:a6}(T:BN st ps f lo)(o:p∈ps)(u:p++[v]∉ps)(N:m7 st na [] ep)(m:∀q∈ps,f q≠na)(y:lo<=na):
 BN (st.set (f p) (.D (Ar ps f p++[(iD v,.ref na)]) ep')) (ps++[p++[v]]) (λq=>if q=p++[v]then na else f q) lo:=by
 let l:=T.cell p o;ext1 l H D;let z:p≠p++[v]:=λe=>by simpa using t0 CJ e
 let g:Fm (λb=>b=f p) st (st.set (f p) (.D (Ar ps f p++[(iD v,.ref na)]) ep')):=Fm.set rfl;let B:m7 (st.set (f p) (.D (Ar ps f p++[(iD v,.ref na)]) ep')) (f p) (Ar ps f p++[(iD v,.ref na)]) ep':=m7.U D.1;generalize st.set (f p) (.D (Ar ps f p++[(iD v,.ref na)]) ep')=I at g B;have d:∀q,q∈ps->(if q=p++[v]then na else f q)=f q:=λq c=>j4 (λe:q=p++[v]=>u (e▸c));let s:∀q,(Aa ps q).map (λw=>(iD w,b0.ref (if q++[w]=p++[v]then na else f (q++[w]))))=Ar ps f q:=λq=>by
  refine A1 λw F=>?_;rw[d _ (GW.mp F)]
 refine⟨G1 _ T.root,?_,λq w c=>?_,λq c=>?_,λq c x h e=>?_,λq c=>?_⟩
 .rw[BK];refine m0 T.nd (by simp) λa G b C e=>?_;rw[o9]at C;subst C e;exact u G
 .rcases v3 c with c|c
  .exact G1 _ (T.up q w c)
  .rw[o9]at c;let i:=pE c rfl;rw[i];exact G1 _ o
 .let n:Ar (ps++[p++[v]]) (λq=>if q=p++[v]then na else f q) q=Ar ps f q++(Fa q (p++[v])).toList.map (λw=>(iD w,b0.ref (if q++[w]=p++[v]then na else f (q++[w])))):=by refine(?_:(Aa (ps++[p++[v]]) q).map (λw=>(iD w,b0.ref (if q++[w]=p++[v]then na else f (q++[w]))))=_);rw[td,p9,s q]
  rw[n];by_cases k:q=p
  .clear o u D g d s c n;subst k;rw[Jp.mpr rfl];rw[j4 z];refine⟨ep',?_⟩;let i:(a0 v).toList.map (λw=>(iD w,b0.ref (if q++[w]=q++[v]then na else f (q++[w]))))=[(iD v,b0.ref na)]:=by simp
   rw[i];exact B
  .let j:Fa q (p++[v])=b4:=by
    cases e:Fa q (p++[v])with
    |none=>rfl
    |some w=>let i:=Jp.mp e;exact(k (pE i rfl).symm).elim
   rw[j];simp only[j0.toList_none,W0,Y5];rcases v3 c with c|c
   .rw[d q c];let l:=T.cell q c;ext1 l A E;exact⟨A,E.fr g λe=>k (T.inj q c p o e)⟩
   .rw[o9]at c;clear n k j;subst c;rw[g0 rfl];let t:Ar ps f (p++[v])=[]:=by
     unfold Ar;let i:Aa ps (p++[v])=[]:=by
      cases e:Aa ps (p++[v])with
      |nil=>rfl
      |cons w r=>exact(u (T.up _ _ (GW.mp (by rw[e];exact j5:w∈Aa ps (p++[v]))))).elim
     rw[i];rfl
    rw[t];exact⟨ep,N.fr g λe=>m p o e.symm⟩
 .rcases v3 c with c|c<;>rcases v3 h with h|h
  .rw[d q c,d x h]at e;exact T.inj q c x h e
  .rw[o9]at h;rw[d q c,h,g0 rfl]at e;exact(m q c e).elim
  .rw[o9]at c;rw[d x h,c,g0 rfl]at e;exact(m x h e.symm).elim
  .rw[o9]at c h;rw[c,h]
 .rcases v3 c with c|c
  .rw[d q c];exact T.lo q c
  .rw[o9]at c;rw[g0 c];exact y
theorem jk{st:St}{k:a6}{N:a7 (a7 a6)}{Q:Q1}(L:d6 st ra (N.map m8))(hl:N.length<=50)(h3:∀r∈N,r.length<=4)
 (A:∀a ps B,Ex st a->BN a ps B st.n->ps.length<=1+4*N.length->(∀q,q∈ps↔q=[]\/∃r∈N,∃t,t<=r.length/\q=r.take t)->Q (.ref (B [])) a):u9 u8 (k+1) "" "trie_of" [.ref ra] st Q:=by
 refine E3 (fd:=RT) rfl rfl ?_;delta RT;exists W0,DR,AI,rfl;(try exists 0,W0,DR,AI);let x1:=Ex.A st (.D [] 0);let D1:=m7.new st [] 0;let H:(st.A (.D [] 0)).n=st.n+1:=rfl;generalize st.A (.D [] 0)=P at x1 D1 H ⊢;let L1:=L.ex x1;exists(Q6 L1),rfl;let T1:BN P [[]] (λw0=>st.n) st.n:=by
  refine⟨P3,by decide,λp v h=>?_,λp y=>?_,λp y q A w0=>?_,λp w0=>l8 _⟩
  .rw[o9]at h;simp at h
  .rw[o9]at y;subst y;exact⟨0,D1⟩
  .rw[o9]at y A;rw[y,A]
 refine BF (nx:=λi=>.seq (.ref ra) i) (xs:=N.map m8) (I:=λi ρ a=>Fm (λb=>st.n<=b) P a/\ρ "found"=a0 (.ref st.n)/\
  ∃(ps:a7 (a7 a6))(B:a7 a6->a6),BN a ps B st.n/\B []=st.n/\ps.length<=1+4*i/\∀q,q∈ps↔q=[]\/∃r∈N.take i,∃t,t<=r.length/\q=r.take t) (λi ρ a hi hI=>T0 (L1.fr hI.1 (Nat.not_le.mpr L.1)) i) ?_ ?_
  ⟨Fm.refl _,by exact rfl,[[]],λw0=>st.n,T1,rfl,by decide,λq=>by simp⟩
 .rintro i x ρ R kk V z4 hk1 hk2;ext1 z4 g2 r1 l;ext T8 l ps B W C S E;rw[o7,At]at V;ext c9 V r hr rfl;let T:=h3 r (p8 hr);exists 0,r1;let hit:BV (m8 r) R=a0 (.seq (m8 r) 0):=rfl;exists hit,rfl;refine BF (nx:=λj=>.seq (m8 r) j) (xs:=r.map iD) (I:=λj ρ a=>Fm (λb=>st.n<=b) P a/\ρ "found"=a0 (.ref st.n)/\
   ∃(F:a7 (a7 a6))(U:a7 a6->a6),ρ "here"=a0 (.ref (U (r.take j)))/\BN a F U st.n/\U []=st.n/\F.length<=1+4*i+j/\r.take j∈F/\∀q,q∈F↔q∈ps\/∃t,t<=j/\q=r.take t) (λj ρ a hj hI=>Ds j) ?_ ?_
   ⟨g2,by exact r1,ps,B,by exists 0;rw[Gm,C],W,C,by assumption,by rw[Gm];exact W.root,λq=>⟨.inl,λA=>?_⟩⟩
  .rintro j x ρ' w kk' V z5 J hk2';ext1 z5 X s1 l;ext C7 l m s s2 O G o l;ext k9 l z c;refine c9 (X8 V) ?_;clear V;rintro v hv rfl;refine d4 (O.cell _ z) λep Y=>?_;have u:r.take (j+1)=r.take j++[v]:=by rw[Af,hv];rfl
   exists s2,Y.I,Y.kind,Ib,W0,DR,AI,rfl;(try exists 0,s2,Y.I,Y.kind,Ib,W0,DR,AI);let Z:=Ex.A w (.D [] 0);let N4:=m7.new w [] 0;let K:∀q∈m,s q<w.n:=λq A=>by let zz:=O.cell q A;ext1 zz w0 D;exact D.1
   generalize hna:w.n=na at N4 K;generalize w.A (.D [] 0)=st4 at Z N4 ⊢;let D4:=Y.ex Z;let T4:=O.ex Z;let M:(Ar m s (r.take j)).length<=1000:=by unfold Ar;rw[f7];let f:=Zg m (r.take j);exact wU hl (w6 hr) T o (w6 hv) f
   let hlon:st.n<=na:=by let f:=X.1;exact b6 (H▸N8 _) (hna▸f)
   rw[D4.kind];refine⟨rfl,?_⟩;by_cases y:r.take j++[v]∈m
   .rw[KX D4 (TU _ _ _ _) M (aR O.nd y)];exists 0;refine(J _ _ ⟨X.trans (Fm.ex Z),by exact s1,m,s,by exists 0;rw[u],T4,G,(U4 ‹_›),by rw[u];exact y,λq=>?_⟩).1;rw[c q];constructor
    .rintro(h|⟨t,g,d⟩)
     .exact .inl h
     .exact .inr (d0 t (U4 ‹_›) d)
    .rintro(h|⟨t,g,d⟩)
     .exact .inl h
     .by_cases ht:t=j+1
      .rw[ht,u]at d;rw[d];exact(c _).mp y
      .exact .inr (d0 t (v0 (DQ g ht)) d)
   .rw[LJ D4 (TU _ _ _ _) M (tq y)];exists 0;refine(J _ _ ⟨(X.trans (Fm.ex Z)).trans (Fm.set (O.lo _ z)),by exact s1,m++[r.take j++[v]],λq=>if q=r.take j++[v]then na else s q,by exists 0;rw[u,g0 rfl],(T4.put (v:=v) (ep':=ep+1) z y N4 (λq A=>by let f:=K q A;exact m6 ‹_›) hlon),by refine(?_:(if[]=r.take j++[v]then na else s [])=st.n);rw[j4 (λe=>by simpa using t0 CJ e:[]≠r.take j++[v])];exact G,by rw[u7];simp;exact BJ ‹_›,by rw[u];exact K6 _ P3,λq=>?_⟩).1;rw[Gr,c q,o9];constructor
    .rintro((h|⟨t,g,d⟩)|h)
     .exact .inl h
     .exact .inr (d0 t (U4 ‹_›) d)
     .exact .inr (d0 (j+1) (l8 _) (by rw[u];exact h))
    .rintro(h|⟨t,g,d⟩)
     .exact .inl (.inl h)
     .by_cases ht:t=j+1
      .rw[ht,u]at d;exact .inr d
      .exact .inl (.inr (d0 t (v0 (DQ g ht)) d))
  .rintro ρ' w z6;ext1 z6 X s1 l;ext C7 l m s s2 O G o l;ext1 l z c;rw[f7]at o c;refine(hk1 _ _ ⟨X,s1,m,s,O,G,b6 o (G2 T (1+4*_)),λq=>?_⟩).1;rw[c q,E q,Af,hr];constructor
   .rintro((h|⟨r',g,d⟩)|⟨t,g,d⟩)
    .exact .inl h
    .exact .inr (d0 r' (G1 _ g) d)
    .exact .inr ⟨r,K6 _ j5,t,g,d⟩
   .rintro(h|⟨r',g,t,d,h3⟩)
    .exact .inl (.inl h)
    .rcases v3 g with g|g
     .exact .inl (.inr ⟨r',g,t,d,h3⟩)
     .simp at g;clear hr T hit s2 o z c;subst g;exact .inr (d0 t d h3)
  .rcases A with h|⟨t,g,d⟩
   .exact h
   .let f:=a6.eq_zero_of_le_zero g;clear g;subst f;rw[Gm]at d;rw[d];exact W.root
 .rintro ρ R z7;ext1 z7 g2 r1 l;ext T8 l ps B W C S E;rw[f7,X6]at E;rw[f7]at S;exists 0,r1;rw[<-C];exact A R ps B (x1.fm g2 λb hb=>Nat.not_le.mpr hb) W S E
def Gy:b0->a7 a6
 | .B ds=>ds.map t9
 |_=>[]
theorem OC(l:a7 a6):Gy (m8 l)=l:=by
 refine(?_:(l.map iD).map t9=l);rw[v9]
 conv=>rhs;rw[<-AZ l]
 exact A1 λn a=>O5 n
def IE:b0->a6
 | .str [c]=>c
 |_=>0
theorem mi(c:a6):IE (sD c)=c:=rfl
theorem Lo(h:sD a=sD b):a=b:=by let c:=t0 IE h;exact c
theorem fF(a b:a6):l3 (sD a) (sD b)=decide (a=b):=by refine(?_:([a]==[b])=_);rw[P2,Al,C3];simp
theorem bM{l:a7 a6}{i:a6}(h:(l.map sD)[i]?=a0 x):∃n,l[i]?=a0 n/\x=sD n:=by rw[o7,At]at h;ext1 h n a b;exact⟨n,a,b.symm⟩
theorem Ys{st:St}{ns:a7 a6}{c:a6}(e:c∈ns):Ac "index" (.B (ns.map sD)) [sD c] st=a0 (iD (ns.idxOf c),st):=by
 let a:(ns.map sD).all (λy=>P0 y (sD c))=a8:=by rw[V6];intro y f;refine B0 f ?_;rintro d h;rfl
 refine(g0 ⟨rfl,a⟩).trans ?_;rw[a7.findIdx?_map];let g:((λy=>l3 y (sD c)) ∘ sD)=λd=>d==c:=by funext d;refine(?_:l3 (sD d) (sD c)=(d==c));rw[fF,P2];simp
 rw[g];let b:ns.findIdx? (λd=>d==c)=a0 (ns.idxOf c):=by rw[a7.findIdx?_eq_some_iff_findIdx_eq];exact⟨Ft e,rfl⟩
 rw[b];rfl
theorem OG(h:d6 st a xs)(c:d6 st b []):B5 .eq (.ref a) (.ref b) st=a0 xs.isEmpty:=by
 refine(?_:Bj st (.ref a) (.ref b)=_);unfold Bj;rw[h.list,c.list];have:Kj xs []=a8:=by cases xs<;>rfl
 refine(?_:(if Kj xs []then a0 (W2 xs [])else b4)=_);cases xs<;>rfl
def BH(ns:a7 a6)(l:a7 a6):b7:=(p0 ns.length).all λk=>l.getD k 0==l.getD (ns.idxOf (ns.getD k 0)) 0
def proj(ns os:a7 a6)(l:a7 a6):a7 a6:=(os.filter λc=>decide (c∈ns)).map λc=>l.getD (ns.idxOf c) 0
theorem QD(h:k<l.length)(a:l.length<=100):J9 (m8 l) (iD k) st=a0 (iD (l.getD k 0)):=
 BY (gG h a rfl) (by rw[o7,v5 h,AB,v5 h];rfl)theorem UK:P8 st (.B xs)=4:=rfl
theorem Ux:AX 4 "index"=a8:=rfl
theorem rF{st:St}{ta:a6}{o:a7 a6}{ns:a7 a6}{tbs:a7 Tb}{ev:a7 Ev}{Q:Q1}(I:v4 st ta "Tables" te [("rows",.ref rd)])(T:CE st rd lo tbs ev)(LO:d6 st oa (os.map sD))(C:ns.length<=4)(W:os.length<=4)
 (hl:(E8 ev (o,ns.length)).length<=20)(G:∀l∈E8 ev (o,ns.length),l.length=ns.length)
 (hq:∀u ps ad lo,Ex st u->BN u ps ad lo->ps.length<=1000->(∀q,q∈ps↔q=[]\/∃l∈E8 ev (o,ns.length),BH ns l=a8/\∃t,t<=(proj ns os l).length/\q=(proj ns os l).take t)->Q (.ref (ad [])) u):
 u9 u8 (k+2) "Tables" "trie" [.ref ta,.str o,.B (ns.map sD),.ref oa] st Q:=by
 refine E3 (fd:=RB) rfl rfl ?_;delta RB;have H:∀u,M3 .len [.B (ns.map sD)] u=a0 (iD ns.length,u):=λu=>by
  let this:=GS (st:=u) (xs:=ns.map sD) (by rw[f7];exact p6)
  rwa [f7]at this
 exists 0,I.I,H;refine⟨I.q rfl,by decide,rfl,YQ I T λst1 a x1 L1=>?_⟩;generalize hL:E8 ev (o,ns.length)=g at hl G L1 hq;exists(Q6 L1),rfl;refine Oz (nx:=λi=>.seq (.ref a) i) (xs:=g.map m8) (p:=λx=>BH ns (Gy x)) (f:=id) (λi u O x=>T0 (L1.ex x) i) ?_ ?_
 .rintro i x n M kk v x2 D L;rw[o7,At]at v;ext c9 v l E rfl;let B:=G l (p8 E);exists H,rfl;(try exists 0,H);rw[g0 ⟨by solve_by_elim (maxDepth:=2)only[*,j7],by unfold j8;exact Int.ofNat_le.mpr (b6 C (by decide))⟩];refine Ae (nx:=λi=>.range i ns.length) (xs:=(p0 ns.length).map iD) (p:=λx=>decide (l.getD (t9 x) 0≠l.getD (ns.idxOf (ns.getD (t9 x) 0)) 0)) (f:=id) (λi O=>Hc (by simpa using O)) ?_ ?_
  .rintro j x M kk' v y z;refine c9 (X8 v) ?_;rintro w V rfl;have X:w<ns.length:=by let this:=p8 V;exact U8 this
   refine d4 (O0 X) λc hc=>?_;let hcm:=p8 hc;exists(QD (st:=n) (l:=l) (k:=w) (Cz X B) (gH B C rfl)),(rfl:n.inst? (.B (ns.map sD))=b4),UK,Ux,(BY (gG X C rfl) (by rw[o7,hc];rfl)),(Ys (st:=n) hcm),(QD (st:=n) (l:=l) (k:=ns.idxOf c) (Cz (Ft hcm) B) (gH B C rfl)),FV,rfl;rw[O5,(by rw[AB,hc];rfl:ns.getD w 0=c)]at z;by_cases hd:l.getD w 0=l.getD (ns.idxOf c) 0
   .rw[show decide (l.getD w 0≠l.getD (ns.idxOf c) 0)=c8 from by simp only[Qo,hd,iB,qC]]at z ⊢;exact z
   .rw[show decide (l.getD w 0≠l.getD (ns.idxOf c) 0)=a8 from by simp only[Qo,hd,WP,decide_true]]at z ⊢;refine⟨?_,z⟩;rw[f7,Bw]at y;unfold j8;exact gA C y rfl
  .refine M8 ((V1 (λx=>decide (l.getD (t9 x) 0≠l.getD (ns.idxOf (ns.getD (t9 x) 0)) 0)) ((p0 ns.length).map iD)).map id) λN hbad=>?_;let S:N.isEmpty=BH ns l:=by
    rw[<-hbad,AZ,P2,jW,Vi];unfold BH;rw[V6];constructor
    .intro h w V;let this:=h (iD w) (V9 V);rw[O5]at this;simpa using this
    .intro h x v;refine B0 v ?_;rintro w V;rw[O5];let this:=h w V;simpa using this
   exists 0;let P:=Ex.A n (.L N);let B3:=d6.new n N;generalize n.A (.L N)=s at P B3 ⊢;let K:=Ex.A s (.L []);have B4:=d6.new s [];have Y:=B3.ex K;generalize s.A (.L [])=st4 at K B4 Y ⊢;exists(OG Y B4),S,rfl;(try exists 0,(OG Y B4),S);let this:=L st4 (P.trans K);rw[OC]at this;cases hf:BH ns l with
   |true=>rw[hf]at this;exists rfl;refine⟨?_,this⟩;rw[f7]at D;exact gA hl D rfl
   |false=>rw[hf]at this;exact this
 .intro n x2;let hkept:(V1 (λx=>BH ns (Gy x)) (g.map m8)).map id=(g.filter λl=>BH ns l).map m8:=by rw[AZ,JM];congr 1;refine pP λl R=>(?_:BH ns (Gy (m8 l))=_);rw[OC]
  exists rfl;rw[hkept];have P:=Ex.A n (.L ((g.filter λl=>BH ns l).map m8));let K3:=d6.new n ((g.filter λl=>BH ns l).map m8);revert P K3;refine M8 (g.filter λl=>BH ns l) λm hks P K3=>?_;have Z:∀l,l∈m↔l∈g/\BH ns l=a8:=λl=>by rw[<-hks,HO]
  have hkl:m.length<=20:=by rw[<-hks];exact b6 (DX _ _) hl
  generalize hka:n.n=ka at K3;revert P K3;refine gen (n.A (.L (m.map m8))) λs P K3=>?_;let X3:=x1.trans (x2.trans P);let LO3:=LO.ex X3;exists(Q6 LO3),rfl;refine Ae (nx:=λi=>.seq (.ref oa) i) (xs:=os.map sD) (p:=λx=>decide (IE x∈ns)) (f:=λx=>iD (ns.idxOf (IE x))) (λi O=>T0 LO3 i) ?_ ?_
  .rintro j x M kk v y L;refine c9 (bM v) ?_;rintro c hc rfl;obtain⟨b,e1,hb⟩:=aN (st:=s) (xs:=ns.map sD) (d:=sD c) (λx v=>by
    refine B0 v ?_;rintro d R;rfl) rfl
   let hb':b=decide (c∈ns):=by
    rw[P2,hb,C3];constructor
    .intro h;exact A8 h λd hd e=>Lo e▸hd
    .exact λh=>V9 h
   let e3:s.inst? (.B (ns.map sD))=b4:=rfl;exists e1,e3,UK,Ux,rfl;rw[mi]at L;rw[hb'];by_cases hm:c∈ns
   .rw[show decide (c∈ns)=a8 from by simpa using hm]at L ⊢;exists e3,UK,Ux,(Ys (st:=s) hm),rfl;refine⟨?_,L⟩;rw[f7]at y;exact gA W y rfl
   .rw[show decide (c∈ns)=c8 from by simpa using hm]at L ⊢;exact L
  .let hpl:(V1 (λx=>decide (IE x∈ns)) (os.map sD)).map (λx=>iD (ns.idxOf (IE x)))=((os.filter λc=>decide (c∈ns)).map λc=>ns.idxOf c).map iD:=by rw[JM,v9,v9];congr 1
   exists rfl;rw[hpl];let K:=Ex.A s (.L (((os.filter λc=>decide (c∈ns)).map λc=>ns.idxOf c).map iD));let P4:=d6.new s (((os.filter λc=>decide (c∈ns)).map λc=>ns.idxOf c).map iD);revert K P4;refine M8 ((os.filter λc=>decide (c∈ns)).map λc=>ns.idxOf c) λF J K P4=>?_;let hpll:F.length<=4:=by rw[<-J,f7];exact b6 (DX _ _) W
   have hplm:∀i∈F,i<ns.length:=λi O=>by
    rw[<-J]at O;refine B0 O ?_;rintro c hc;let this:c∈ns:=by simpa using(Hk hc)
    exact Ft this
   have hproj:∀l:a7 a6,F.map (λi=>l.getD i 0)=proj ns os l:=λl=>by
    rw[<-J,v9];rfl
   generalize hpa:s.n=pa at P4;revert K P4;refine gen (s.A (.L (F.map iD))) λst4 K P4=>?_;let K4:=K3.ex K;exists(Q6 K4),rfl;refine Oz (nx:=λi=>.seq (.ref ka) i) (xs:=m.map m8) (p:=λR=>a8) (f:=λx=>m8 (proj ns os (Gy x))) (λi u O x=>T0 (K4.ex x) i) ?_ ?_
   .rintro i x A M kk v x5 D L;rw[o7,At]at v;ext c9 v l E rfl;let B:=G l ((Z l).mp (p8 E)).1;have P5:=P4.ex x5;exists(Q6 P5),rfl;refine Ae (nx:=λi=>.seq (.ref pa) i) (xs:=F.map iD) (p:=λR=>a8) (f:=λx=>iD (l.getD (t9 x) 0)) (λi O=>T0 P5 i) ?_ ?_
    .rintro j x M kk' v y z;refine c9 (X8 v) ?_;clear v;rintro w V rfl;exists(QD (st:=A) (l:=l) (k:=w) (Cz (hplm w (p8 V)) B) (gH B C rfl)),rfl;rw[O5]at z;rw[f7]at y;exact⟨by unfold j8;exact gA hpll y rfl,by simpa using z⟩
    .exists 0;rw[IO (f:=λi=>l.getD i 0),hproj l];let L6:=d6.new A ((proj ns os l).map iD);let x6:=Ex.A A (.L ((proj ns os l).map iD));generalize A.A (.L ((proj ns os l).map iD))=st6 at L6 x6 ⊢;exists(ED L6),rfl;refine⟨by rw[f7]at D;exact gA hkl D rfl,?_⟩;let this:=L st6 x6;rw[g0 rfl,OC]at this;exact this
   .intro A x5;have hrows:(V1 (λR=>a8) (m.map m8)).map (λx=>m8 (proj ns os (Gy x)))=(m.map λl=>proj ns os l).map m8:=by rw[CS λR R=>rfl,v9,v9];refine A1 λl R=>(?_:m8 (proj ns os (Gy (m8 l)))=_);rw[OC];rfl
    rw[hrows];exists 0;let x6:=Ex.A A (.L ((m.map λl=>proj ns os l).map m8));let L6:=d6.new A ((m.map λl=>proj ns os l).map m8);generalize A.A (.L ((m.map λl=>proj ns os l).map m8))=st6 at x6 L6 ⊢;refine jk L6 (by rw[f7];exact p6) (λr hr=>?_) λst7 ps ad x7 T7 U hps=>?_
    .ext B0 hr l R;unfold proj;rw[f7];exact b6 (DX _ _) W
    .refine hq st7 ps ad st6.n (X3.trans (K.trans (x5.trans (x6.trans x7)))) T7 ?_ λq=>?_
     .rw[f7]at U;exact gq U hkl
     .rw[hps q];constructor
      .rintro(h|⟨r,hr,t,h1,h2⟩)
       .exact .inl h
       .ext A8 hr l E rfl;let zz:=(Z l).mp E;ext1 zz h3 h4;exact .inr ⟨l,h3,h4,t,h1,h2⟩
      .rintro(h|⟨l,h3,h4,t,h1,h2⟩)
       .exact .inl h
       .exact .inr ⟨_,C0 (a:=l) ((Z l).mpr ⟨h3,h4⟩) rfl,t,h1,h2⟩
theorem tE:∀(r:a7 b0)(m:b0),CB r m∈m::r:=by
 intro a
 induction a with
 |nil=>intro m;exact P3
 |cons x r b=>
  intro m;refine(?_:CB r (if r9 x m then x else m)∈m::x::r);let h:=b (if r9 x m then x else m);by_cases q:r9 x m=a8
  .rw[g0 q]at h ⊢;exact k8 _ h
  .rw[j4 q]at h ⊢;rcases D9 h with h|h
   .rw[h];exact j5
   .exact k8 _ (k8 _ h)
theorem qx(h:d6 st a (x::r))(c:B9 (x::r)=a8):M3 .min [.ref a] st=a0 (CB r x,st):=by
 refine(?_:((st.list? (.ref a)).bind λb=>match b with
  |[]=>b4
  |x::r=>if B9 b then a0 (CB r x,st)else b4)=_)
 rw[h.list,CM];refine(?_:(if B9 (x::r)then a0 (CB r x,st)else b4)=_);rw[g0 c]def KD(st:St)(a:a6)(vs:a7 a6):Prop:=∃es ep,m7 st a es ep/\es.map Bu=vs.map iD
theorem vF{es:a7 (b0×b0)}{vs:a7 a6}(h:es.map Bu=vs.map iD)(v:a6):v7 es (iD v)=a8:=by
 unfold v7;simp only[C4,V6];refine⟨rfl,λe b=>?_⟩;let a:e.1∈vs.map iD:=by rw[<-h];exact V9 b
 refine A8 a λw c q=>?_;rw[<-q];rfl
theorem sA{es:a7 (b0×b0)}{vs:a7 a6}(h:es.map Bu=vs.map iD)(v:a6):(t5 es (iD v)).isSome=decide (v∈vs):=by
 rw[P2,C3];unfold t5;rw[MO,nQ];constructor
 .rintro b;ext1 b e c q;let a:iD v∈vs.map iD:=by rw[<-h,<-W7 q];exact V9 c
  exact A8 a λw d f=>EC f▸d
 .intro g;let a:iD v∈es.map Bu:=by rw[h];exact V9 g
  refine A8 a λe c q=>d0 e c ?_;rw[q];exact El (Kp 3 v v)
theorem wA{es:a7 (b0×b0)}{vs:a7 a6}(h:es.map Bu=vs.map iD):es.length=vs.length:=by
 let a:=t0 CJ h
 rwa [f7,f7]at a
theorem YC{es:a7 (b0×b0)}{vs:a7 a6}(h:es.map Bu=vs.map iD):es.all (λe=>leaf e.1)=a8:=by
 rw[V6];intro e b;let a:e.1∈vs.map iD:=by rw[<-h];exact V9 b
 refine A8 a λw c q=>?_;rw[<-q];rfl
theorem ei(h:m7 st a es ep)(b:es.all (λe=>leaf e.1)=a8):BV (.ref a) st=a0 (.keys a 0 es.length ep):=by unfold BV;dsimp only;rw[g0 h.1,h.2];dsimp only;rw[g0 b]theorem ff{st:St}{a:a6}{es:a7 (b0×b0)}{vs:a7 a6}(h:m7 st a es ep)(b:es.map Bu=vs.map iD)(i:a6):(It.keys a i es.length ep).next st=a0 (((vs.map iD)[i]?).map λx=>(x,.keys a (i+1) es.length ep)):=by unfold It.next;dsimp only;rw[g0 h.1,h.2];dsimp only;rw[g0 (m0 rfl rfl (YC b)),<-b,o7];cases es[i]?<;>rfl
def QK(trs:a7 (a6×a7 a6)):b0->b0
 | .B [.int i,_]=>.B [iD ((trs.getD i.toNat (0,[])).2.length),.int i]
 |_=>.none
def Sj(trs:a7 (a6×a7 a6))(v:a6):b0->b7
 | .ref a=>(match trs.find? (λt=>t.1==a)with|some t=>!decide (v∈t.2)|none=>c8)
 |_=>c8
theorem Sz(h:trs.find? (λt=>t.1==a)=a0 t):Sj trs v (.ref a)=!decide (v∈t.2):=by refine(?_:(match trs.find? (λt=>t.1==a)with|some t=>!decide (v∈t.2)|none=>c8)=_);rw[h]
theorem tM{st:St}{k:a6}{fs:a7 (j3×b0)}{c:a7 (a6×a7 a6)}{Q:Q1}(L:d6 st tl (c.map λt=>.ref t.1))(U:∀t∈c,KD st t.1 t.2/\t.2.Nodup/\t.2.length<=1000)(hne:c≠[])(o:c.length<=10)
 (hq:∀z r(vs:a7 a6),Ex st z->st.n<=r->d6 z r (vs.map iD)->vs.Nodup->(∀v,v∈vs↔∀t∈c,v∈t.2)->Q (.ref r) z):u9 u8 (k+1) "Joins" "shared" [.ref ja,.ref tl] st Q:=by
 refine E3 (fd:=Sg) rfl rfl ?_;delta Sg;exists 0,L.list;refine Ae (nx:=λi=>.enum i (.ref tl)) (xs:=(c.map λt=>b0.ref t.1).mapIdx λj x=>b0.B [iD j,x]) (p:=λe=>a8)
  (f:=QK c) (λi I=>Rm L i) ?_ ?_
 .rintro i x W kk g hl S;rw[ML,o7]at g;cases J:c[i]? with
  |none=>rw[J]at g;cases g
  |some t=>
   rw[J]at g;simp only[Ax,AA]at g;subst g;let d:=U t (p8 J);ext1 d z1 e e;ext F8 z1 es ep D A;exists(fz D),rfl;rw[g0 rfl]at S;let hlo:QK c (.B [iD i,.ref t.1])= .B [iD es.length,iD i]:=by refine(?_:b0.B [iD ((c.getD ((i:a6):d3).toNat (0,[])).2.length),iD i]=_);rw[(by rw[Q7,AB,J];rfl:(c.getD ((i:a6):d3).toNat (0,[]))=t),<-wA A]
   rw[hlo]at S;refine⟨?_,S⟩;rw[JD,f7]at hl;unfold j8;exact gA o hl rfl
 .generalize X:(V1 (λe=>a8) ((c.map λt=>b0.ref t.1).mapIdx λj x=>b0.B [iD j,x])).map (QK c)=T;have B:∀x∈T,∃i l:a6,i<c.length/\x= .B [iD l,iD i]:=λx g=>by
   rw[<-X]at g;refine A8 g ?_;rintro y hy rfl;refine d4 (N2 (OD hy)) λi rr=>?_;ext d4 rr I rfl;rw[JD,f7]at I;rw[a7.getElem_mapIdx];exact P9 i _ I rfl
  have N:T.length=c.length:=by rw[<-X,f7,CS λe e=>rfl,JD,f7]
  exists 0;let L1:=d6.new st T;let K:=Ex.A st (.L T);revert L1 K;refine gen (st.A (.L T)) λY L1 K=>?_;cases C:T with
  |nil=>rw[C]at N;exact(hne (List.length_eq_zero_iff.mp N.symm)).elim
  |cons x r=>
   rw[C]at L1;have hok:B9 (x::r)=a8:=by
    unfold B9;rw[<-C];simp only[C4,C3,V6];refine⟨⟨um N o,λa ha b hb=>?_⟩,λa ha=>?_⟩
    .refine F8 (B a ha) ?_;rintro e e e rfl;refine F8 (B b hb) ?_;rintro e e e rfl;rfl
    .refine F8 (B a ha) ?_;rintro e e e rfl;rfl
   exists(qx L1 hok),rfl;refine F8 (B (CB r x) (by rw[C];exact tE r x)) λi l I hle=>?_;let e1:J9 (CB r x) (.int 1) Y=a0 (iD i):=by rw[hle];exact BY (i:=1) (K9 _ _) rfl
   rw[e1];let L':=L.ex K;refine d4 (O0 I) λt J=>?_;have Z:=p8 J;have e2:J9 (.ref tl) (iD i) Y=a0 (.ref t.1):=AT L' (gG I o rfl) (by rw[o7,J];rfl);let d:=U t Z;ext1 d z2 hnd htl;ext F8 z2 es ep D A;have D1:=D.ex K;exists e2,(ei D1 (YC A)),rfl;refine Oz (nx:=λj=>.keys t.1 j es.length ep) (xs:=t.2.map iD) (p:=λx=>decide (∀s∈c,t9 x∈s.2)) (f:=id) (λj z hj x=>ff (D1.ex x) A j) ?_ ?_
   .rintro j x E W kk g V hal S;refine c9 (X8 g) ?_;rintro v hv rfl;have L2:=L'.ex V;rw[O5]at S;exists(Q6 L2),rfl;refine Ae (nx:=λi=>.seq (.ref tl) i) (xs:=c.map λt=>b0.ref t.1) (p:=Sj c v) (f:=id) (λi I=>T0 L2 i) ?_ ?_
    .rintro q x W kk' g hl3 u;rw[o7,At]at g;ext c9 g s M rfl;have w:∃n,c.find? (λt=>t.1==s.1)=a0 n/\n∈c/\n.1=s.1:=by
      cases m:c.find? (λt=>t.1==s.1)with
      |none=>let this:=List.find?_eq_none.mp m s (p8 M);simp at this
      |some n=>refine v8 n rfl (Ma m) ?_;let this:=Vm m;simpa using this
     ext y0 w n m hs'm hs'1;let d:=U n hs'm;ext1 d z3 e e;ext F8 z3 es1 ep1 D3 G;rw[hs'1]at D3;let e3:=eL (gN ((D3.ex K).ex V) (vF G v));rw[sA G]at e3;exists e3,rfl;rw[Sz m]at u;cases hb:(!decide (v∈n.2))with
     |true=>rw[hb]at u;refine⟨?_,u⟩;rw[f7]at hl3;unfold j8;exact gA o hl3 rfl
     |false=>rw[hb]at u;exact u
    .generalize hbad:(V1 (Sj c v) (c.map λt=>b0.ref t.1)).map id=F;let H:F.isEmpty=decide (∀s∈c,v∈s.2):=by
      rw[<-hbad,AZ,P2,jW,Vi,C3];constructor
      .intro h s M;have h1:=h (.ref s.1) (C0 (a:=s) M rfl);cases m:c.find? (λt=>t.1==s.1)with
       |none=>have:=List.find?_eq_none.mp m s M;simp at this
       |some n=>
        rw[Sz m]at h1;let d:=U s M;ext1 d z4 e e;ext F8 z4 e1 p1 D1' h1';let d:=U n (Ma m);ext1 d z5 e e;ext F8 z5 e2 p2 O h2';rw[(by simpa using Vm m:n.1=s.1)]at O;let this:e1=e2:=by let h3:=D1'.2;rw[O.2]at h3;injection h3 with h3;exact h3.symm
        clear O;subst this;let this:=Uq (h1'.symm.trans h2');rw[this];exact(by simpa using h1:v∈n.2)
      .intro h x g;refine A8 g ?_;rintro s M rfl;cases m:c.find? (λt=>t.1==s.1)with|none=>let this:=List.find?_eq_none.mp m s M;simp at this|some n=>let this:=h n (Ma m);rw[Sz m];simp[this]
     exists 0;let x3:=Ex.A E (.L F);have B3:=d6.new E F;generalize E.A (.L F)=P at x3 B3 ⊢;have x4:=Ex.A P (.L []);have B4:=d6.new P [];have R:=B3.ex x4;generalize P.A (.L [])=st4 at x4 B4 R ⊢;exists(OG R B4),H,rfl;(try exists 0,(OG R B4),H);let this:=S st4 (x3.trans x4);cases m:decide (∀s∈c,v∈s.2)with
     |true=>rw[m]at this;exists rfl;refine⟨?_,this⟩;rw[f7]at hal;exact gA htl hal rfl
     |false=>rw[m]at this;exact this
   .intro E V;let hres:(V1 (λx=>decide (∀s∈c,t9 x∈s.2)) (t.2.map iD)).map id=(t.2.filter λv=>decide (∀s∈c,v∈s.2)).map iD:=by rw[AZ,JM];congr 1
    rw[hres];refine hq _ _ _ (K.trans (V.trans (Ex.A _ _))) (by let this:=K.1;let this:=V.1;exact b6 ‹_› this) (d6.new _ _) (hnd.filter _) λv=>?_;rw[HO,C3];exact⟨λh=>h.2,λh=>⟨h t Z,h⟩⟩def pr(ns os w:a7 a6):a7 a6:=((os.zip w).filter λp=>decide (p.1∈ns)).map (·.2)
theorem sk:∀(os w:a7 a6),os[w.length]?=a0 c->os.zip (w++[v])=os.zip w++[(c,v)]:=by
 intro d
 induction d with
 |nil=>intro w h;simp at h
 |cons o os b=>
  intro a;cases a with
  |nil=>intro h;simp at h;clear b;subst h;refine(?_:(o,v)::os.zip []=_);rw[UW];rfl
  |cons x w=>intro h;refine(?_:(o,x)::os.zip (w++[v])=(o,x)::(os.zip w++[(c,v)]));rw[b w (by simpa using h:os[w.length]?=a0 c)]
theorem OX(h:os[w.length]?=a0 c):pr ns os (w++[v])=pr ns os w++(if c∈ns then[v]else[]):=by
 unfold pr;rw[sk os w h,Pf,p9];congr 1;rw[DS];by_cases q:c∈ns
 .rw[g0 (by simpa using q),g0 q];rfl
 .rw[j4 (by simpa using q),j4 q];rfl
theorem Yh(ns os:a7 a6):pr ns os []=[]:=by unfold pr;rw[UW];rfl
theorem xc:∀(os x f:a7 a6),x<+:f->os.zip x<+:os.zip f:=by
 intro c
 induction c with
 |nil=>intro x f _;simp
 |cons o os d=>
  intro b;cases b with
  |nil=>intro f _;simp
  |cons a x=>intro f h;ext d4 h y rfl;exact(List.cons_prefix_cons.mpr ⟨rfl,d x (x++y) (Pv x y)⟩:(o,a)::os.zip x<+:(o,a)::os.zip (x++y))theorem lq(h:x<+:f):pr ns os x<+:pr ns os f:=((xc os x f h).filter _).map _
theorem BN.pre{st:St}{ps:a7 (a7 a6)}{d:a7 a6->a6}{lo:a6}(T:BN st ps d lo){p:a7 a6}(h:p<+:q)(c:q∈ps):p∈ps:=by
 ext d4 h y rfl
 induction hy:y.length generalizing y with
 |zero=>
  let b:=List.length_eq_zero_iff.mp hy;clear hy;subst b
  rwa [Y5]at c
 |succ n f=>
  let a:y≠[]:=λe=>by rw[e]at hy;cases hy
  refine f y.dropLast (T.up _ (y.getLast a) ?_) (by rw[oU,hy];rfl);rw[Eb,(a7.dropLast_concat_getLast a)];exact c
abbrev Tr:=AQ×a7 (a7 a6)×(a7 a6->a6)def BW(os:a7 a6)(tas:a7 Tr)(w:a7 a6):b0:=.B [m8 w,.B (tas.map λt=>.ref (t.2.2 (pr t.1.2 os w)))]def HX(os:a7 a6)(tas:a7 Tr)(w:a7 a6):Prop:=∀t∈tas,pr t.1.2 os w∈t.2.1
def CX(os w:a7 a6):a7 (b0×b0):=(os.zip w).map λp=>(sD p.1,iD p.2)def Co(st:St)(t:Tr):Prop:=(∃lo,BN st t.2.1 t.2.2 lo)/\t.2.1.length<=1000/\∀p∈t.2.1,∀x∈p,x<8
theorem Co.ex(h:Co st t)(x:Ex st st'):Co st' t:=let⟨⟨a,b⟩,c⟩:=h;⟨⟨a,b.ex x⟩,c⟩theorem yO(h:∀e∈es,∃d,e.1=sD d/\d≠c):Q5 es (sD c) v=es++[(sD c,v)]:=by exact Ro (Ij λe a q=>c9 (h e a) λd b f=>f (Lo (b.symm.trans q)))
theorem jj:∀(os w:a7 a6)(es:a7 (b0×b0)),os.Nodup->(∀e∈es,∃d,e.1=sD d/\d∉os)->((os.map sD).zip (w.map iD)).foldl (λes e=>Q5 es e.1 e.2) es=es++CX os w:=by
 intro i
 induction i with
 |nil=>intro w es _ _;unfold CX;simp
 |cons o os j=>
  intro g;cases g with
  |nil=>intro es _ _;unfold CX;simp
  |cons x w=>
   intro es b h;rw[Az]at b;refine(?_:((os.map sD).zip (w.map iD)).foldl (λes e=>Q5 es e.1 e.2) (Q5 es (sD o) (iD x))=_);rw[yO λe a=>c9 (h e a) λd c f=>d0 d c λq=>f (by rw[q];exact j5)];rewrite[j w _ b.2 λe a=>?_]
   .rw[Eb];rfl
   .rcases v3 a with a|a
    .exact c9 (h e a) λd c f=>d0 d c λq=>f (k8 _ q)
    .rw[o9]at a;subst a;exact d0 o rfl b.1
theorem er(L:d6 st oa (os.map sD))(f:os.Nodup)(k:os.length<=100):∃n,M3 .dZ [.ref oa,m8 w] st=a0 (.ref st.n,st.A (.D (CX os w) n)):=by
 refine⟨(CX os w).length,?_⟩;let g:=L.items;let h:st.items? (m8 w)=a0 (w.map iD):=rfl;refine(?_:((st.items? (.ref oa)).bind λb=>(st.items? (m8 w)).bind λi=>
  if(b.length<=j8)/\b.all (λx=>match x with| .str _=>a8|_=>c8)then
   let a:=(b.zip i).foldl (λa e=>Q5 a e.1 e.2) []
   a0 (b0.ref st.n,st.A (.D a a.length))else b4)=_)
 rw[g,h,CM,CM,g0]
 .dsimp only;rw[jj os w [] f λe j=>by cases j];rfl
 .refine⟨by rw[f7];exact p6,Cw λx d=>B0 d ?_⟩;clear d;rintro c _;rfl
def wt(n:a6)(w:a7 a6):a6:=9 ^ (n - w.length)def V2(n:a6)(ws:a7 (a7 a6)):a6:=(ws.map (wt n)).sum
theorem zX(n:a6)(b:a7 (a7 a6)):b.length<=V2 n b:=by
 induction b with
 |nil=>exact F9 _
 |cons w b c=>unfold V2 at c ⊢;rw[y4,Fo,N6];let a:1<=wt n w:=a6.one_le_pow _ _ (by decide);exact b6 (U0 c a) (A5 (Ai _ _))theorem ND(n:a6)(a b:a7 (a7 a6)):V2 n (a++b)=V2 n a+V2 n b:=by unfold V2;rw[p9,UZ]
theorem gw(h:w.length<n):∀(vs:a7 a6),V2 n (vs.map λv=>w++[v])=vs.length*9 ^ (n - w.length - 1):=by
 intro b
 induction b with
 |nil=>simp[V2]
 |cons v vs c=>
  have a:=c;unfold V2 at a ⊢;rw[y4,y4,Fo,a,N6,oO];have d:wt n (w++[v])=9 ^ (n - w.length - 1):=by unfold wt;rw[u7];rfl
  rw[d];exact dI
structure Jn (os:a7 a6) (tas:a7 Tr) (ws:a7 (a7 a6)) (fs:a7 (a6×a7 a6)):Prop where
 w:∀w∈ws,HX os tas w/\w.length<=os.length
 f:∀f∈fs,HX os tas f.2/\f.2.length=os.length
 all:∀f:a7 a6,f.length=os.length->HX os tas f->f∈fs.map (·.2)\/∃w∈ws,w<+:f
 nd:(fs.map (·.2)).Nodup
 ap:∀f∈fs,∀w∈ws,¬w<+:f.2
 pw:ws.Pairwise λa b=>¬a<+:b/\¬b<+:a
 few:fs.length+V2 os.length ws<=9 ^ os.length
theorem Jn.full{os:a7 a6}{tas:a7 Tr}{m:a7 (a7 a6)}{fs:a7 (a6×a7 a6)}{w:a7 a6}(J:Jn os tas (m++[w]) fs)(j:w.length=os.length)(a:a6):Jn os tas m (fs++[(a,w)]):=by
 let g:=K6 _ P3;let k:=List.pairwise_append.mp J.pw;refine⟨λx d=>J.w x (G1 _ d),λf b=>?_,λf b o=>?_,?_,λf b x d=>?_,k.1,?_⟩
 .rcases v3 b with b|b
  .exact J.f f b
  .rw[o9]at b;subst b;exact⟨(J.w w g).1,j⟩
 .rcases J.all f b o with h|⟨x,d,i⟩
  .left;rw[p9];exact G1 _ h
  .rcases v3 d with d|d
   .exact .inr (d0 x d i)
   .rw[o9]at d;clear J g k;subst d;left;let c:=i.eq_of_length (by rw[j,b]);rw[p9,<-c];exact K6 _ P3
 .rw[p9,BK];refine m0 J.nd (by simp) λx d y n e=>?_;simp only[y4,W0,o9]at n;ext A8 d f b rfl;rw[n]at e;exact J.ap f b w g (by rw[e];exact a7.prefix_refl _)
 .rcases v3 b with b|b
  .exact J.ap f b x (G1 _ d)
  .rw[o9]at b;subst b;exact(k.2.2 x d w P3).1
 .let c:=J.few;rw[ND]at c;let l:V2 os.length [w]=1:=by unfold V2 wt;simp[j]
  rw[l]at c;rw[u7];simp;exact b6 (A5 (Y7 _ 1 _)) c
theorem Jn.step{os:a7 a6}{tas:a7 Tr}{i:a7 (a7 a6)}{fs:a7 (a6×a7 a6)}{w:a7 a6}{vs:a7 a6}{st:St}(J:Jn os tas (i++[w]) fs)(z:∀t∈tas,Co st t)(m:w.length<os.length)(A:vs.Nodup)(B:vs.length<=8)
 (p:∀v,v∈vs↔HX os tas (w++[v])):Jn os tas (i++vs.map λv=>w++[v]) fs/\V2 os.length (i++vs.map λv=>w++[v])<V2 os.length (i++[w]):=by
 let n:=List.pairwise_append.mp J.pw;have e:V2 os.length (i++vs.map λv=>w++[v])<V2 os.length (i++[w]):=by
  rw[ND,ND,gw m];rw[(by unfold V2 wt;simp:V2 os.length [w]=9 ^ (os.length - w.length))];let l:9 ^ (os.length - w.length)=9*9 ^ (os.length - w.length - 1):=by rw[<-a6.pow_succ'];congr 1;exact(HT (JR m)).symm
  rw[l];exact FZ (q5 (EJ (9 ^ (os.length - w.length - 1)) B) (a6.mul_lt_mul_of_pos_right (by decide) (a6.pow_pos (by decide)))) _
 refine⟨⟨λx c=>?_,J.f,λf j q=>?_,J.nd,λf j x c=>?_,?_,by have E:=J.few;exact b6 (G2 (m9 e) _) E⟩,e⟩
 .rcases v3 c with c|c
  .exact J.w x (G1 _ c)
  .refine B0 c ?_;clear c;clear c;rintro v o;exact⟨(p v).mp o,by rw[u7];simp;assumption⟩
 .rcases J.all f j q with h|⟨x,c,g⟩
  .exact .inl h
  .rcases v3 c with c|c
   .exact .inr (d0 x (G1 _ c) g)
   .rw[o9]at c;clear J n e;subst c;ext d4 g y rfl;cases y with|nil=>rw[Y5]at j;exact(KO m j).elim|cons v y=>have d:x++[v]<+:x++v::y:=⟨y,by simp⟩;refine .inr (d0 (x++[v]) (K6 _ (C0 (a:=v) ((p v).mpr λt r=>?_) rfl)) d);let s:=z t r;obtain⟨D,T⟩:=s.1;clear s;exact T.pre (lq d) (q t r)
 .rcases v3 c with c|c
  .exact J.ap f j x (G1 _ c)
  .refine B0 c ?_;clear c;clear c;rintro v _;exact λh=>J.ap f j w (K6 _ P3) ((Pv w [v]).trans h)
 .rw[Qs];refine m0 n.1 ?_ λx c y u=>?_
  .rw[Y6];refine(BR A).imp λ{a b}k=>⟨λh=>k ?_,λh=>k ?_⟩
   .have E:=h.eq_of_length (by simp);simpa using E
   .have E:=h.eq_of_length (by simp);simpa using E.symm
  .ext B0 u v _;refine k9 (n.2.2 x c w P3) λC l=>⟨λh=>?_,λh=>l ((Pv w [v]).trans h)⟩;rcases List.prefix_concat_iff.mp h with h|h
   .exact l (by rw[h];exact Pv _ _)
   .exact C h
theorem Co.keys(h:Co st t)(b:p∈t.2.1):KD st (t.2.2 p) (Aa t.2.1 p)/\(Aa t.2.1 p).Nodup/\(Aa t.2.1 p).length<=1000:=by ext t6 h a c e;ext d4 a f T;refine d4 (T.cell p b) λd D=>m0 (P9 _ d D ?_) (Xb T.nd p) (b6 (Zg _ _) c);unfold Ar;rw[v9];rfl
theorem Co.sub(h:Co st t)(a:p++[v]∈t.2.1):J9 (.ref (t.2.2 p)) (iD v) st=a0 (.ref (t.2.2 (p++[v]))):=by ext t6 h b c d;ext d4 b e T;exact d4 (T.cell p (T.up p v a)) λf D=>Gx D (TU _ _ _ _) (aR T.nd a)
inductive JW (ja aa oa fa wa:a6) (os:a7 a6) (tas:a7 Tr) (st:St) (m:a6) (ρ:Env) (st':St):Prop
 |mk (r1:ρ "self"=a0 (.ref ja)) (r2:ρ "atoms"=a0 (.ref aa)) (r3:ρ "order"=a0 (.ref oa)) (r4:ρ "found"=a0 (.ref fa)) (r5:ρ "waiting"=a0 (.ref wa)) (g:Fm (λb=>b=fa\/b=wa) st st')
  (ws:a7 (a7 a6)) (fs:a7 (a6×a7 a6)) (LW:d6 st' wa (ws.map (BW os tas))) (LF:d6 st' fa (fs.map λf=>.ref f.1)) (hfs:∀f∈fs,f.1≠fa/\f.1≠wa/\∃ep,m7 st' f.1 (CX os f.2) ep) (J:Jn os tas ws fs) (hm:V2 os.length ws=m)
structure JV (ja aa oa fa wa ua:a6) (os:a7 a6) (tas:a7 Tr) (w:a7 a6) (ws':a7 (a7 a6)) (vs:a7 a6) (st5:St) (i:a6) (ρ:Env) (st':St):Prop where
 r1:ρ "self"=a0 (.ref ja)
 r2:ρ "atoms"=a0 (.ref aa)
 r3:ρ "order"=a0 (.ref oa)
 r4:ρ "found"=a0 (.ref fa)
 r5:ρ "waiting"=a0 (.ref wa)
 r6:ρ "values"=a0 (m8 w)
 r7:ρ "tries"=a0 (.B (tas.map λt=>.ref (t.2.2 (pr t.1.2 os w))))
 r8:ρ "users"=a0 (.ref ua)
 g:Fm (λb=>b=wa) st5 st'
 L:d6 st' wa ((ws'++(vs.take i).map λv=>w++[v]).map (BW os tas))
theorem bc(hJ:v4 st ja "Joins" je jf)(hjf:jf.lookup "shared"=b4)(LA:d6 st aa ((tas.map (·.1)).map W9))(LO:d6 st oa (os.map sD))
 (hT:∀t∈tas,Co st t)(hno:os.Nodup)(S:os.length<=4)(F:tas.length<=3)(hcov:∀c∈os,∃t∈tas,c∈t.1.2)(hnl:∀t∈tas,t.1.2.length<=4)
 (LF:d6 st fa [])(LW:d6 st wa [BW os tas []])(hfw:fa≠wa)(hold:∀b,b<st.n->b≠fa->b≠wa->True)
 (z:ja≠fa/\ja≠wa/\je≠fa/\je≠wa/\aa≠fa/\aa≠wa/\oa≠fa/\oa≠wa)(hTa:∀t∈tas,∀p∈t.2.1,t.2.2 p≠fa/\t.2.2 p≠wa)
 (hq:∀U(fs:a7 (a6×a7 a6)),Fm (λb=>b=fa\/b=wa) st U->d6 U fa (fs.map λf=>.ref f.1)->(∀f∈fs,∃M,m7 U f.1 (CX os f.2) M)->(fs.map (·.2)).Nodup->(∀f,f∈fs.map (·.2)↔f.length=os.length/\HX os tas f)->Q (.ref fa) U)(r1:ρ "self"=a0 (.ref ja))(r2:ρ "atoms"=a0 (.ref aa))(r3:ρ "order"=a0 (.ref oa))(r4:ρ "found"=a0 (.ref fa))(r5:ρ "waiting"=a0 (.ref wa)):
 G4 (u9 u8 (k+2)) (Em.body.drop 1) ρ st (Dx Q):=by
 simp only[Em,HK,DP];exists 0;let J0:Jn os tas [[]] []:=by
  refine⟨λw hw=>?_,(λf B=>by cases B),λf B hg=>.inr (d0 [] P3 a7.nil_prefix),By,(λf B=>by cases B),Qf _ _,?_⟩
  .rw[o9]at hw;subst hw;refine⟨λt g=>?_,F9 _⟩;rw[Yh];refine k9 (hT t g) ?_;rintro z3 o;ext d4 z3 lo T;exact T.root
  .unfold V2 wt;simp
 refine NX (I:=JW ja aa oa fa wa os tas st) (m:=V2 os.length [[]]) ?_
  ⟨r1,r2,r3,r4,r5,Fm.refl _,[[]],[],LW,LF,(λf B=>by cases B),J0,rfl⟩
 rintro m ρ st1 KK z1 hK;obtain⟨r1,r2,r3,r4,r5,g1,ws,fs,N,LF1,hfs,J,hm⟩:=z1;let h9:9 ^ os.length<=6561:=by let this:9 ^ os.length<=9 ^ 4:=WN (by decide) S;exact this
 let hwl:=zX os.length ws;let hfew:=J.few;let e1:=W8 N;rw[f7]at e1;let e2:=aK (j:=0);exists r5,e1,e2,rfl;clear e1 e2;cases hw:ws.reverse with
 |nil=>
  have hw0:ws=[]:=by rw[<-Qb ws,hw];rfl
  subst hw0;exists 0,r4;refine hq st1 fs g1 LF1 (λf B=>(hfs f B).2.2) J.nd λf=>?_;constructor
  .intro h;refine B0 h ?_;rintro x E;exact⟨(J.f x E).2,(J.f x E).1⟩
  .rintro z2;ext k9 z2 h1 Z;rcases J.all f h1 Z with h|⟨w,hw,_⟩
   .exact h
   .cases hw
 |cons w L=>
  let hw0:ws=L.reverse++[w]:=by rw[<-Qb ws,hw,Pw]
  generalize hws':L.reverse=u at hw0;subst hw0;rw[(by simp:decide (0<(u++[w]).length)=a8)];rw[p9]at N;exists 0,r5,N.I,N.kind,eX,(cK N);refine M8 (st1.set wa (.L (u.map (BW os tas)))) λl hs2=>?_;have g2:Fm (λb=>b=wa) st1 l:=by rw[<-hs2];exact Fm.set rfl
  have V:d6 l wa (u.map (BW os tas)):=by rw[<-hs2];exact d6.U N.1
  have W:=LF1.fr g2 hfw;have K:Fm (λb=>b=fa\/b=wa) st l:=g1.trans (g2.mono λb o q=>.inr q);have LO2:=LO.fr K λh=>h.elim z.2.2.2.2.2.2.1 z.2.2.2.2.2.2.2;have LA2:=LA.fr K λh=>h.elim z.2.2.2.2.1 z.2.2.2.2.2.1;have hfs2:∀f∈fs,f.1≠fa/\f.1≠wa/\∃M,m7 l f.1 (CX os f.2) M:=λf B=>by
   refine t6 (hfs f B) λq1 q2 L=>?_;ext d4 L M D;exact⟨q1,q2,M,D.fr g2 q2⟩
  let hT2:∀t∈tas,Co l t:=λt g=>by
   refine k9 (hT t g) ?_;rintro z4 Z;ext d4 z4 lo T;refine⟨⟨lo,T.root,T.nd,T.up,λp hp=>?_,T.inj,T.lo⟩,Z⟩;refine d4 (T.cell p hp) λM D=>?_;let this:=hTa t g p hp;exact⟨M,D.fr K λh=>h.elim this.1 this.2⟩
  let hup:Cj ["values","tries"] (BW os tas w) l ρ=a0 ((ρ.set "values" (m8 w)).set "tries" (.B (tas.map λt=>.ref (t.2.2 (pr t.1.2 os w))))):=rfl;rw[hup];have hwn:=(J.w w (K6 _ P3)).2;have hwg:=(J.w w (K6 _ P3)).1;have e4:M3 .len [m8 w] l=a0 (iD w.length,l):=by
   let this:=GS (st:=l) (xs:=w.map iD) (by rw[f7];exact gA S hwn rfl)
   rwa [f7]at this
  let e5:=W8 LO2;rw[f7]at e5;exists e4,r3,e5,DG,rfl;let hwl2:u.length<=6561:=by rw[u7]at hwl;exact cj hfew h9 hwl
  by_cases y:w.length=os.length
  .rw[show decide (w.length=os.length)=a8 from by simpa using y];refine d4 (er (w:=w) LO2 hno (gK S rfl)) λnn e6=>?_;exists r4,W.I,W.kind,X9,r3,e6,rfl;let R:=Ex.A l (.D (CX os w) nn);let D3:=m7.new l (CX os w) nn;generalize hda:l.n=da at D3;generalize l.A (.D (CX os w) nn)=X at R D3 ⊢;let LF3:=W.ex R;rw[LF3.kind,Uy LF3 (by rw[f7];exact b6 (G3 _ _) (b6 hfew (b6 h9 (by decide))))];exists 0;let hdf:da≠fa/\da≠wa:=by let this:=W.1;let this:=V.1;exact oz ‹_› hda this
   refine hK (V2 os.length u) _ _ ?_ ⟨r1,r2,r3,r4,r5,(K.trans (Fm.ex R)).trans (Fm.set (.inl rfl)),u,fs++[(da,w)],(V.ex R).set (C8 hfw),?_,λf B=>?_,(J.full y da),rfl⟩
   .rw[<-hm,ND];let this:V2 os.length [w]=1:=by unfold V2 wt;simp[y]
    exact bt this
   .rw[p9];exact d6.U LF3.1
   .rcases v3 B with B|B
    .refine t6 (hfs2 f B) λq1 q2 L=>?_;ext d4 L M D;exact⟨q1,q2,M,(D.ex R).set q1⟩
    .rw[o9]at B;subst B;exact⟨hdf.1,hdf.2,nn,D3.set hdf.1⟩
  .rw[show decide (w.length=os.length)=c8 from by simpa using y];let hi:=DQ hwn y;refine d4 (O0 hi) λc hc=>?_;let hcm:=p8 hc;let elA:=W8 LA2;rw[f7,f7]at elA;exists 0,r2,elA;rw[g0 ⟨nD _,by unfold j8;exact Int.ofNat_le.mpr (b6 F (by decide))⟩];refine Ae (nx:=λi=>.range i tas.length) (xs:=(p0 tas.length).map iD) (p:=λx=>decide (c∈((tas.map (·.1))[t9 x]?.getD ([],[])).2)) (f:=id) (λi hi=>Hc (by simpa using hi)) ?_ ?_
   .rintro j x O kk E hl C;refine c9 (X8 E) ?_;rintro q A rfl;have r:q<tas.length:=U8 (p8 A);refine d4 (O0 r) λt g=>?_;have hta:(tas.map (·.1))[q]?=a0 t.1:=by rw[o7,g];rfl
    rw[O5,hta]at C;obtain⟨b,f4,hb⟩:=aN (st:=l) (xs:=t.1.2.map sD) (d:=sD c) (λx E=>by
     refine B0 E ?_;rintro d o;rfl) rfl
    let hb':b=decide (c∈t.1.2):=by
     rw[P2,hb,C3];constructor
     .intro h;exact A8 h λd hd e=>Lo e▸hd
     .exact λh=>V9 h
    exists r3,e4,(AT LO2 (gG hi S rfl) (by rw[o7,hc];rfl)),r2,(AT LA2 (gG r F rfl) (by rw[o7,hta];rfl)),(BY (i:=1) (K9 _ _) rfl),f4,rfl;rw[hb'];replace C:kk (if decide (c∈t.1.2)=a8 then O++[iD q]else O) l:=C;cases hd:decide (c∈t.1.2)with
    |true=>rw[hd]at C;exists rfl;refine⟨?_,C⟩;rw[f7,Bw]at hl;unfold j8;exact gA F hl rfl
    |false=>rw[hd]at C;exact C
   .let hus:(V1 (λx=>decide (c∈((tas.map (·.1))[t9 x]?.getD ([],[])).2)) ((p0 tas.length).map iD)).map id=((p0 tas.length).filter λq=>decide (c∈((tas.map (·.1))[q]?.getD ([],[])).2)).map iD:=by rw[AZ,JM];congr 1
    exists rfl;rw[hus];generalize hus':(p0 tas.length).filter (λq=>decide (c∈((tas.map (·.1))[q]?.getD ([],[])).2))=us;have H:∀q,q∈us↔∃t,tas[q]?=a0 t/\c∈t.1.2:=λq=>by
     rw[<-hus',HO,Qd,C3];constructor
     .rintro z3;ext k9 z3 h1 Z;refine d4 (O0 h1) λt g=>?_;rw[(by rw[o7,g];rfl:(tas.map (·.1))[q]?=a0 t.1)]at Z;exact d0 t g Z
     .rintro z4;ext c9 z4 t g Z;rw[(by rw[o7,g];rfl:(tas.map (·.1))[q]?=a0 t.1)];exact⟨(w6 g),Z⟩
    have husl:us.length<=3:=by rw[<-hus'];let this:=DX (λq=>decide (c∈((tas.map (·.1))[q]?.getD ([],[])).2)) (p0 tas.length);rw[Bw]at this;exact gA F this rfl
    have R:=Ex.A l (.L (us.map iD));let U3:=d6.new l (us.map iD);generalize hua:l.n=ua at U3;generalize l.A (.L (us.map iD))=X at R U3 ⊢;let hJ3:=(hJ.fr K (λe=>e.elim z.1 z.2.1) λe=>e.elim z.2.2.1 z.2.2.2.1).ex R;exists r1,hJ3.I,(Q6 U3),rfl;(try exists 0,r1,hJ3.I,(Q6 U3));refine M4 (hJ3.q hjf) (by decide) rfl ?_;refine Ae (nx:=λi=>.seq (.ref ua) i) (xs:=us.map iD) (p:=λo=>a8) (f:=λx=>.ref ((tas[t9 x]?.getD (([],[]),[],λo=>0)).2.2 (pr (tas[t9 x]?.getD (([],[]),[],λo=>0)).1.2 os w))) (λi hi=>T0 U3 i) ?_ ?_
    .rintro j x O kk E hl C;refine c9 (X8 E) ?_;clear E;rintro q A rfl;refine c9 ((H q).mp (p8 A)) λt g o=>?_;rw[O5,g]at C;exists(BY (by let this:=w6 g;exact gG this F rfl) (by rw[o7,g];rfl)),rfl;rw[f7]at hl;exact⟨by unfold j8;exact gA husl hl rfl,by simpa using C⟩
    .refine M8 (us.map λq=>((tas[q]?.getD (([],[]),[],λo=>0)).2.2 (pr (tas[q]?.getD (([],[]),[],λo=>0)).1.2 os w),Aa (tas[q]?.getD (([],[]),[],λo=>0)).2.1 (pr (tas[q]?.getD (([],[]),[],λo=>0)).1.2 os w))) λP htr=>?_;let hL:(V1 (λo=>a8) (us.map iD)).map (λx=>b0.ref ((tas[t9 x]?.getD (([],[]),[],λo=>0)).2.2 (pr (tas[t9 x]?.getD (([],[]),[],λo=>0)).1.2 os w)))=P.map λt=>b0.ref t.1:=by rw[<-htr,CS λo o=>rfl,v9,v9];refine A1 λq o=>(?_:b0.ref ((tas[t9 (iD q)]?.getD (([],[]),[],λo=>0)).2.2 (pr (tas[t9 (iD q)]?.getD (([],[]),[],λo=>0)).1.2 os w))=_);rw[O5];rfl
     exists 0;rw[hL];have x4:=Ex.A X (.L (P.map λt=>.ref t.1));have L4:=d6.new X (P.map λt=>b0.ref t.1);generalize hta:X.n=tl at L4;generalize X.A (.L (P.map λt=>.ref t.1))=st4 at x4 L4 ⊢;have htrm:∀s∈P,∃t∈tas,c∈t.1.2/\s=(t.2.2 (pr t.1.2 os w),Aa t.2.1 (pr t.1.2 os w)):=λs hs=>by
      rw[<-htr]at hs;ext B0 hs q A;refine c9 ((H q).mp A) λt g n=>v8 t (p8 g) n ?_;rw[g];rfl
     have Y:∀t∈tas,c∈t.1.2->(t.2.2 (pr t.1.2 os w),Aa t.2.1 (pr t.1.2 os w))∈P:=λt g n=>by
      refine d4 (N2 g) λq L=>d4 L ?_;clear L;clear g;rintro A rfl;let h1:=v5 A;rw[<-htr];refine C0 (a:=q) ((H q).mpr (d0 _ h1 n)) (?_);rw[h1];rfl
     refine tM (fs:=jf) L4 (λs hs=>?_) (λe=>?_) (by rw[<-htr,f7];exact gK husl rfl) λst5 vr vs x5 hvr L5 hvn hvm=>?_
     .refine y0 (htrm s hs) ?_;rintro t g o rfl;exact((λt g=>(hT2 t g).ex (R.trans x4):∀t∈tas,Co st4 t) t g).keys (hwg t g)
     .refine c9 (hcov c hcm) λt g n=>?_;let this:=Y t g n;rw[e]at this;cases this
     .exists(Q6 L5),rfl;have hvg:∀v,v∈vs↔HX os tas (w++[v]):=λv=>by
       rw[hvm v];constructor
       .intro h t g;rw[OX hc];by_cases n:c∈t.1.2
        .rw[g0 n];exact GW.mp (h _ (Y t g n))
        .rw[j4 n,Y5];exact hwg t g
       .intro h s hs;refine y0 (htrm s hs) ?_;rintro t g n rfl;let this:=h t g;rw[OX hc,g0 n]at this;exact GW.mpr this
      have hv8:vs.length<=8:=Nn hvn λv hv=>by
       refine c9 (hcov c hcm) λt g n=>?_;let this:=(hvg v).mp hv t g;rw[OX hc,g0 n]at this;exact(hT t g).2.2 _ this v (K6 _ P3)
      have X5:=R.trans (x4.trans x5);refine k9 (J.step hT hi hvn hv8 hvg) λJ' hlt=>?_;refine BF (nx:=λi=>.seq (.ref vr) i) (xs:=vs.map iD) (I:=JV ja aa oa fa wa ua os tas w u vs st5) (λi ρ' U hi hI=>T0 (L5.fr hI.g (by let this:=V.1;let this:=X5.1;let this:=R.1;let this:=x4.1;exact K0 (j7 ‹_› (b6 ‹_› (b6 this hvr))))) i) ?_ ?_
       ⟨r1,r2,r3,r4,r5,rfl,rfl,rfl,Fm.refl _,by rw[Gm,W0,Y5];exact V.ex X5⟩
      .rintro i x ρ' G kk E z5 hk1 hk2;obtain⟨s1,s2,s3,s4,s5,s6,s7,s8,g6,LW6⟩:=z5;refine c9 (X8 E) ?_;rintro v hv rfl;let hiv:=w6 hv;have g56:Fm (λb=>b=fa\/b=wa) st G:=(K.trans (Fm.ex X5)).trans (g6.mono λb o q=>.inr q);let hT6:∀t∈tas,Co G t:=λt g=>by
        refine k9 (hT t g) ?_;rintro z5 Z;ext d4 z5 lo T;refine⟨⟨lo,T.root,T.nd,T.up,λp hp=>?_,T.inj,T.lo⟩,Z⟩;refine d4 (T.cell p hp) λM D=>?_;let this:=hTa t g p hp;exact⟨M,D.fr g56 λh=>h.elim this.1 this.2⟩
       let elA6:=W8 (LA.fr g56 λh=>h.elim z.2.2.2.2.1 z.2.2.2.2.2.1);rw[f7,f7]at elA6;exists 0,s2,elA6;rw[g0 ⟨nD _,by unfold j8;exact Int.ofNat_le.mpr (b6 F (by decide))⟩];refine Ae (nx:=λi=>.range i tas.length) (xs:=(p0 tas.length).map iD) (p:=λo=>a8) (f:=λx=>.ref ((tas[t9 x]?.getD (([],[]),[],λo=>0)).2.2 (pr (tas[t9 x]?.getD (([],[]),[],λo=>0)).1.2 os (w++[v])))) (λi hi=>Hc (by simpa using hi)) ?_ ?_
       .rintro j x O kk' E hl C;refine c9 (X8 E) ?_;clear E;rintro q A rfl;have r:q<tas.length:=U8 (p8 A);refine d4 (O0 r) λt g=>?_;let htm:=p8 g;rw[O5,g]at C;have hl':O.length<=j8:=by rw[f7,Bw]at hl;unfold j8;exact gA F hl rfl
        let f1:J9 (.B (tas.map λt=>.ref (t.2.2 (pr t.1.2 os w)))) (iD q) G=a0 (.ref (t.2.2 (pr t.1.2 os w))):=BY (gG r F rfl) (by rw[o7,g];rfl);obtain⟨b,f2,hb⟩:=XM ((U3.ex (x4.trans x5)).fr g6 (by let this:=V.1;exact vY this hua)) (d:=iD q) (λx E=>by
         ext B0 E d o;rfl) rfl
        have hb':b=a8↔c∈t.1.2:=by
         rw[hb];constructor
         .intro h;refine A8 h λd hd e=>?_;let this:=EC e;clear A E r f1 f2 hb h e;subst this;refine c9 ((H d).mp hd) λt' ht' n=>?_;rw[g]at ht';cases ht';exact n
         .exact λh=>V9 ((H q).mpr (d0 t g h))
        let hgt:=((hvg v).mp (p8 hv)) t htm;rw[OX hc]at hgt C;replace C:kk' (O++[b0.ref (t.2.2 (pr t.1.2 os w++if c∈t.1.2 then[v]else[]))]) G:=C;exists s8,s7,f1,f2,rfl;clear f2 hb;cases b with
        |true=>rw[g0 (hb'.mp rfl)]at hgt C;exists s7,f1,((hT6 t htm).sub hgt),rfl;exact⟨hl',by simpa using C⟩
        |false=>rw[j4 (λh=>by cases hb'.mpr h:c∉t.1.2),Y5]at C;exists s7,f1,rfl;exact⟨hl',by simpa using C⟩
       .let hlate:(V1 (λo=>a8) ((p0 tas.length).map iD)).map (λx=>b0.ref ((tas[t9 x]?.getD (([],[]),[],λo=>0)).2.2 (pr (tas[t9 x]?.getD (([],[]),[],λo=>0)).1.2 os (w++[v]))))=tas.map λt=>b0.ref (t.2.2 (pr t.1.2 os (w++[v]))):=by
         rw[CS λo o=>rfl,v9];apply Gk;intro q;rw[o7,o7];by_cases r:q<tas.length
         .rw[JX r,v5 r];simp only[Ax,Hs];rw[O5,v5 r];rfl
         .rw[Au (by simp;exact Wg r),Au (Wg r)];rfl
        exists rfl;rw[hlate];let x7:=Ex.A G (.L (tas.map λt=>b0.ref (t.2.2 (pr t.1.2 os (w++[v])))));let L7:=d6.new G (tas.map λt=>b0.ref (t.2.2 (pr t.1.2 os (w++[v]))));generalize G.A (.L (tas.map λt=>b0.ref (t.2.2 (pr t.1.2 os (w++[v])))))=st7 at x7 L7 ⊢;let LW7:=LW6.ex x7;let f3:V3 .add (m8 w) (.B [iD v]) st7=a0 (m8 (w++[v]),st7):=by let this:=IA (st:=st7) (xs:=w.map iD) (ys:=[iD v]) (by rw[f7];simp;exact gG hi S rfl);unfold m8;rw[p9];exact this
        exists s5,LW7.I,LW7.kind,X9,s6,f3,(ED L7),rfl;rw[Uy LW7 (by
         rw[f7,u7,f7,O9];exact b6 (U0 hwl2 (GA hv8)) (by decide))]
        exists 0;refine(hk1 _ _ ⟨by exact s1,by exact s2,by exact s3,by exact s4,by exact s5,by exact s6,by exact s7,by exact s8,(g6.trans (Fm.ex x7)).trans (Fm.set rfl),?_⟩).1;let happ:(u++(vs.take (i+1)).map λv=>w++[v])=(u++(vs.take i).map λv=>w++[v])++[w++[v]]:=by rw[Af,hv,p9,Eb];rfl
        let hme:(u++(vs.take (i+1)).map λv=>w++[v]).map (BW os tas)=(u++(vs.take i).map λv=>w++[v]).map (BW os tas)++[BW os tas (w++[v])]:=by rw[happ,p9];rfl
        rw[hme];exact d6.U LW7.1
      .rintro ρ' G z6;obtain⟨s1,s2,s3,s4,s5,s6,s7,s8,g6,LW6⟩:=z6;rw[f7,X6]at LW6;exists 0;refine hK _ _ _ ?_ ⟨s1,s2,s3,s4,s5,(K.trans (Fm.ex X5)).trans (g6.mono λb o q=>.inr q),_,fs,LW6,(W.ex X5).fr g6 hfw,λf B=>?_,J',rfl⟩
       .rw[<-hm];exact hlt
       .refine t6 (hfs2 f B) λq1 q2 L=>?_;ext d4 L M D;exact⟨q1,q2,M,(D.ex X5).fr g6 q2⟩def sg(os f:a7 a6)(c:a6):a6:=f.getD (os.idxOf c) 0
theorem HW{os:a7 a6}(h:os.Nodup)(j:f.length=os.length):os.zip f=os.map λc=>(c,sg os f c):=by
 apply Gk;intro i;rw[o7];by_cases b:i<os.length
 .let d:=v5 b;let e:=j7 b (A5 j.symm);let g:=v5 e;rw[d,(Mg (z:=(os[i],f[i]))).mpr ⟨d,g⟩];let a:os.idxOf os[i]=i:=by
   let k:os[os.idxOf os[i]]?=a0 os[i]:=by rw[v5 (Ft (EN b)),Pd]
   exact Ef h k d
  refine(?_:a0 (os[i],f[i])=a0 (os[i],sg os f os[i]));unfold sg;rw[a,AB,g];rfl
 .rw[Au (by rw[Qw];exact Jb (Nat.not_lt.mp b)),Au (Bq ‹_›)];rfl
theorem ww{ns:a7 a6}(a:os.Nodup)(b:f.length=os.length):pr ns os f=(os.filter λc=>decide (c∈ns)).map (sg os f):=by unfold pr;rw[HW a b,JM,v9];congr 1
theorem eW{ns os f:a7 a6}{ps b:a7 (a7 a6)}(p:∀q,q∈ps↔q=[]\/∃l∈b,BH ns l=a8/\∃t,t<=(proj ns os l).length/\q=(proj ns os l).take t)(C:os.Nodup)(D:f.length=os.length)(g:∀c∈ns,c∈os)(x:ns≠[])
 (i:∀l∈b,l.length=ns.length):pr ns os f∈ps↔ns.map (sg os f)∈b:=by
 rw[ww C D,p];let y:(os.filter λc=>decide (c∈ns))≠[]:=by
  clear p i;cases ns with
  |nil=>exact(x rfl).elim
  |cons c r=>intro e;have H:c∈os.filter λE=>decide (E∈c::r):=BE (g c j5) (by simp);rw[e]at H;cases H
 constructor
 .rintro(h|⟨l,s,u,t,F,v⟩)
  .exact(y (List.map_eq_nil_iff.mp h)).elim
  .let z:(proj ns os l).length=(os.filter λc=>decide (c∈ns)).length:=by unfold proj;rw[f7]
   let A:t=(proj ns os l).length:=by let H:=t0 CJ v;rw[f7,O9]at H;exact((z.trans H).trans (EI F)).symm
   rw[A,X6]at v;have d:∀c∈ns,sg os f c=l.getD (ns.idxOf c) 0:=λc d=>by
    unfold proj at v;let H:=List.map_inj_left.mp v c (BE (g c d) (by simpa using d));exact H
   have n:=i l s;let H:ns.map (sg os f)=l:=by
    apply Gk;intro k;rw[o7];by_cases a:k<ns.length
    .let B:=j7 a (A5 n.symm);rw[v5 a,v5 B];let w:=S7 u k (Cv a);rw[Al]at w;rw[(by rw[AB,v5 a];rfl:ns.getD k 0=ns[k]),(by rw[AB,v5 (show k<l.length by exact Cz a n)];rfl:l.getD k 0=l[k])]at w;refine(?_:a0 (sg os f ns[k])=a0 l[k]);rw[d _ (EN a),<-w]
    .rw[Au (Bq ‹_›),Au (n▸Nat.not_lt.mp a)];rfl
   rw[H];exact s
 .intro h;have j:∀k,k<ns.length->(ns.map (sg os f)).getD k 0=sg os f (ns.getD k 0):=λk a=>by
   rw[AB,o7,v5 a,AB,v5 a];rfl
  let m:∀c,c∈ns->(ns.map (sg os f)).getD (ns.idxOf c) 0=sg os f c:=λc d=>by
   rw[j _ (Ft d)];congr 1;rw[AB,v5 (Ft d),Pd];rfl
  let o:proj ns os (ns.map (sg os f))=(os.filter λc=>decide (c∈ns)).map (sg os f):=by
   refine A1 λc d=>?_;let H:c∈ns:=by simpa using(Hk d)
   exact m c H
  refine .inr ⟨_,h,?_,(proj ns os (ns.map (sg os f))).length,l8 _,?_⟩
  .unfold BH;rw[V6];intro k a;let a:=U8 a;rw[Al,j k a];let G:ns.getD k 0∈ns:=by rw[AB,v5 a];exact EN a
   rw[m _ G]
  .rw[X6,o]
theorem al{st:St}{ja:a6}{os:a7 a6}{ats:a7 AQ}{tbs:a7 Tb}{ev:a7 Ev}{Q:Q1}(J:IT st ja je ta te rd lo tbs ev)(LA:d6 st aa (ats.map W9))(LO:d6 st oa (os.map sD))
 (N:os.Nodup)(ho4:os.length<=4)(ht3:ats.length<=3)(hcov:∀c∈os,∃a∈ats,c∈a.2)(v:∀a∈ats,a.2≠[]/\a.2.length<=4/\∀c∈a.2,c∈os)
 (O:∀a∈ats,(E8 ev (a.1,a.2.length)).length<=20/\∀l∈E8 ev (a.1,a.2.length),l.length=a.2.length/\∀x∈l,x<8)
 (hq:∀o r(fs:a7 (a6×a7 a6)),Ex st o->d6 o r (fs.map λf=>.ref f.1)->(∀f∈fs,∃ep,m7 o f.1 (CX os f.2) ep)->(fs.map (·.2)).Nodup->(∀f,f∈fs.map (·.2)↔f.length=os.length/\∀a∈ats,a.2.map (sg os f)∈E8 ev (a.1,a.2.length))->Q (.ref r) o):
 u9 u8 (k+3) "Joins" "joined" [.ref ja,.ref aa,.ref oa] st Q:=by
 refine E3 (fd:=Em) rfl rfl ?_;let d:=J.j;ext1 d cr hJ;let hb:Em.body=Em.body.head (by simp[Em])::Em.body.drop 1:=rfl;rw[hb];generalize R:Em.body.drop 1=rest;simp only[Em,Hv];exists rfl;let Y:=Ex.A st (.L []);let Z:=d6.new st [];generalize hfa:st.n=fa at Z;generalize st.A (.L [])=st1 at Y Z ⊢;let LA1:=LA.ex Y;exists(Q6 LA1),rfl;refine CT (nx:=λi=>.seq (.ref aa) i) (xs:=ats.map W9) (I:=λi o C=>Ex st1 o/\∃g:a7 Tr,g.map (·.1)=ats.take i/\C=g.map (λt=>.ref (t.2.2 []))/\∀t∈g,Co o t/\∀q,q∈t.2.1↔q=[]\/∃l∈E8 ev (t.1.1,t.1.2.length),BH t.1.2 l=a8/\∃tt,tt<=(proj t.1.2 os l).length/\q=(proj t.1.2 os l).take tt)
  (λi o C hi hI=>T0 (LA1.ex hI.1) i) ?_ ?_ ⟨Ex.refl _,[],rfl,rfl,λt j=>by cases j⟩
 .rintro i x E C kk A V hk;ext k9 V K rr;ext y0 rr g m rfl s;rw[o7,At]at A;ext c9 A a n rfl;let ham:=p8 n;have J2:=(J.ex Y).ex K;let d:=J2.j;ext1 d cr2 hJ2;exists(rfl:AD ["op","names"] (W9 a) ((FK ["self","atoms","order"] [.ref ja,.ref aa,.ref oa]).clear [".0","op","names"])=a0 ((((FK ["self","atoms","order"] [.ref ja,.ref aa,.ref oa]).clear [".0","op","names"]).set "op" (.str a.1)).set "names" (.B (a.2.map sD)))),(hJ2.C rfl rfl),J2.t.I,rfl;refine J2.t.go (k9 (O a ham) λhl1 F=>?_);let d:=v a ham;ext1 d G hns H;refine rF J2.t J2.T ((LO.ex Y).ex K) hns ho4 hl1 (λl hl=>(F l hl).1) λu ps ad lo3 B T3 hpl hps=>?_;let htl:g.length<=3:=by let b:=t0 CJ m;rw[f7,O9]at b;exact b6 (A5 b) (GA ht3)
  refine⟨by rw[f7];exact p6,hk u _ ⟨K.trans B,g++[(a,ps,ad)],?_,by rw[p9];rfl,λt j=>?_⟩⟩
  .rw[p9,m,Af,n];rfl
  .rcases v3 j with j|j
   .exact⟨(s t j).1.ex B,(s t j).2⟩
   .rw[o9]at j;subst j;refine⟨(m0 ⟨lo3,T3⟩ hpl λp L x A=>?_),hps⟩;rcases(hps p).mp L with h|⟨l,hlm,_,tt,_,hpt⟩
    .rw[h]at A;cases A
    .rw[hpt]at A;refine B0 (show x∈(os.filter λc=>decide (c∈a.2)).map _ from(Ml A)) ?_;clear A;rintro c hc;let d:=F l hlm;ext1 d y h2;let hix:a.2.idxOf c<l.length:=by rw[y];exact Ft (by simpa using(Hk hc):c∈a.2)
     rw[AB,v5 hix];exact h2 _ (EN hix)
 .rintro E C W;ext k9 W K rr;ext y0 rr g m rfl s;rw[f7,X6]at m;exists 0;let B:=Ex.A E (.L (g.map λt=>b0.ref (t.2.2 [])));have L3:=d6.new E (g.map λt=>b0.ref (t.2.2 []));generalize E.A (.L (g.map λt=>b0.ref (t.2.2 [])))=u at B L3 ⊢;exists 0,(ED L3),Ey;have M:∀t∈g,∀p∈t.2.1,t.2.2 p<u.n:=λt j p L=>by
   let d:=(s t j).1.ex B;ext1 d V z;ext1 V lo' T;let d:=T.cell p L;ext1 d z D;exact D.1
  have S:∀t∈g,∀p∈t.2.1,t.2.2 p≠fa:=λt j p L e=>by
   let d:=(s t j).1;ext1 d W z;ext1 W lo' T;refine d4 (T.cell p L) λz D=>?_;have y:=(Z.ex K).2;rw[<-e,D.2]at y;cases y
  have U:(b0.B [.B [],.B (g.map λt=>b0.ref (t.2.2 []))])=BW os g []:=by
   unfold BW;let b:(g.map λt=>b0.ref (t.2.2 (pr t.1.2 os [])))=g.map λt=>b0.ref (t.2.2 []):=A1 λt z=>by rw[Yh]
   rw[b];rfl
  rw[U];let x4:=Ex.A u (.L [BW os g []]);let W4:=d6.new u [BW os g []];generalize hwa:u.n=wa at W4 M;revert x4 W4;refine gen (u.A (.L [BW os g []])) λst4 x4 W4=>?_;have hst:st.n=fa:=hfa;have P:=Z.1;have w:st1.n<=wa:=by have b:=K.1;let b:=B.1;exact hwa▸b6 ‹_› b
  have X:Ex st st4:=Y.trans (K.trans (B.trans x4));rw[<-R];refine bc (tas:=g) (os:=os) (hJ.ex X) rfl (by rw[m];exact LA.ex X) (LO.ex X) (λt j=>(s t j).1.ex (B.trans x4)) N ho4 (by rw[<-f7 (f:=(·.1)),m];exact ht3) (λc hc=>?_) (λt j=>?_) (Z.ex (K.trans (B.trans x4))) W4 (m6 (j7 P w)) (λz z z z=>trivial) (tZ hst P w hJ.1 hJ.2.2.1 LA.1 LO.1) (λt j p L=>⟨S t j p L,by let b:=M t j p L;exact m6 ‹_›⟩)
   (λst5 fs g5 L5 D5 hnd hm=>?_) rfl rfl rfl rfl rfl
  .let d:=hcov c hc;ext1 d a n hca;rw[<-m]at n;ext A8 n t j rfl;exact d0 t j hca
  .let b:t.1∈ats:=by rw[<-m];exact V9 j
   exact(v _ b).2.1
  .refine hq st5 fa fs (X.fm g5 λb hb=>rn hb hst P w) L5 D5 hnd λf=>?_;rw[hm f];constructor
   .rintro z3;ext1 z3 y h2;refine⟨y,λa n=>?_⟩;let d:=v a n;ext1 d G z H;let F:=(O a n).2;rw[<-m]at n;ext A8 n t j rfl;exact(eW (s t j).2 N y H G λl hl=>(F l hl).1).mp (h2 t j)
   .rintro z4;ext1 z4 y h2;refine⟨y,λt j=>?_⟩;have n:t.1∈ats:=by rw[<-m];exact V9 j
    let d:=v _ n;ext1 d G z H;exact(eW (s t j).2 N y H G λl hl=>(((O _ n).2) l hl).1).mpr (h2 _ n)abbrev En:=a7 (a6×a6)def eD(e:En):a7 (b0×b0):=e.map λp=>(sD p.1,iD p.2)def Eu(e:En):Prop:=(e.map (·.1)).Nodup/\∀p∈e,Io p.1
theorem Eu.len(h:Eu e):e.length<=4:=by
 let a:=V4 (m:=[120,121,122,119]) h.1 λc b=>by
  ext B0 b p d;rcases h.2 p d with q|q|q|q<;>rw[q]<;>simp
 rwa [f7]at a
def lk(e:En)(c:a6):a6:=(e.lookup c).getD 0
theorem UC:∀{e:En}{c v:a6},e.lookup c=a0 v->(c,v)∈e
 |[],c,v,h=>by simp at h
 |(d,w)::e,c,v,h=>by
  rw[BL]at h;by_cases q:c=d
  .subst q;simp at h;rw[h];exact j5
  .rw[show(c==d)=c8 from by simpa using q]at h;exact k8 _ (UC h)
theorem IV:∀{e:En}{c v:a6},(e.map (·.1)).Nodup->(c,v)∈e->e.lookup c=a0 v:=by
 intro g
 induction g with
 |nil=>intro c v k h;cases h
 |cons i e j=>
  obtain⟨d,w⟩:=i;intro c v b h;rw[y4,Az]at b;rw[BL];rcases D9 h with h|h
  .cases h;simp
  .have f:c≠d:=λq=>b.1 (by rw[<-q];exact C0 (a:=(c,v)) h rfl);rw[show(c==d)=c8 from by simpa using f];exact j b.2 h
theorem Xl{e:En}{c:a6}(h:e.lookup c=b4):c∉e.map (·.1):=by
 intro a
 induction e with
 |nil=>cases a
 |cons p e b=>
  obtain⟨d,w⟩:=p;rw[BL]at h;by_cases q:c=d
  .clear a;subst q;simp at h
  .rw[show(c==d)=c8 from by simpa using q]at h;rw[y4,K5]at a;exact b h (a.resolve_left q)
def Ap:En->a7 (a6×a6)->j0 En
 |e,[]=>a0 e
 |e,(c,v)::r=>match e.lookup c with
  |some u=>if u=v then Ap e r else b4
  |none=>Ap (e++[(c,v)]) r
theorem Tv(e:En)(c v:a6)(r:a7 (a6×a6)):Ap e ((c,v)::r)=match e.lookup c with
 |some u=>if u=v then Ap e r else b4
 |none=>Ap (e++[(c,v)]) r:=rfl
theorem Zu:v7 (eD e) (sD c)=a8:=by unfold v7 eD;simp only[C4,V6,Fv];refine⟨rfl,?_⟩;rintro x a;ext c9 a p _ rfl;rfl
theorem xR:∀{e:En}{c:a6},t5 (eD e) (sD c)=(e.lookup c).map iD:=by
 intro b
 induction b with
 |nil=>intro c;exact rfl
 |cons f e a=>
  obtain⟨d,w⟩:=f;intro c;have a:=a (c:=c);unfold t5 eD at a ⊢;rw[y4,PM,BL];rw[fF];by_cases q:c=d
  .subst q;simp
  .rw[show(c==d)=c8 from by simpa using q,show decide (d=c)=c8 from by simpa using λh:d=c=>q h.symm];exact a
theorem xX:∀(r:a7 (a6×a6))(e g:En),Ap e r=a0 g->Eu e->(∀p∈r,Io p.1)->Eu g/\(∀p∈e,p∈g)/\(∀p∈r,p∈g)/\(∀c,c∈g.map (·.1)↔c∈e.map (·.1)\/c∈r.map (·.1)):=by
 intro z
 induction z with
 |nil=>intro e g h i C;cases h;exact M4 i (λp f=>f) (λp f=>by cases f) λc=>by simp
 |cons A r t=>
  obtain⟨c,v⟩:=A;intro e g h i k;rw[Tv]at h;cases l:e.lookup c with
  |some u=>
   rw[l]at h;dsimp only at h;by_cases q:u=v
   .rw[g0 q]at h;subst q;have w:=UC l;refine Cr (t e g h i λp f=>k p (k8 _ f)) λm j n o=>M4 m j (λp f=>?_) λd=>?_
    .rcases D9 f with rfl|f
     .exact j _ w
     .exact n p f
    .rw[o d,y4,K5];constructor
     .rintro(x|x)
      .exact .inl x
      .exact .inr (.inr x)
     .rintro(x|x|x)
      .exact .inl x
      .rw[x];exact .inl (C0 (a:=(c,u)) w rfl)
      .exact .inr x
   .rw[j4 q]at h;cases h
  |none=>
   rw[l]at h;dsimp only at h;have s:Eu (e++[(c,v)]):=by
    refine⟨?_,λp f=>?_⟩
    .rw[p9,BK];refine m0 i.1 (by simp) λa B b y q=>?_;simp only[y4,W0,o9]at y;clear k h;subst y q;exact(Xl l) B
    .rcases v3 f with f|f
     .exact i.2 p f
     .rw[o9]at f;subst f;exact k _ j5
   refine Cr (t (e++[(c,v)]) g h s λp f=>k p (k8 _ f)) λm j n o=>M4 m (λp f=>j p (G1 _ f)) (λp f=>?_) λd=>?_
   .rcases D9 f with rfl|f
    .exact j _ (K6 _ P3)
    .exact n p f
   .rw[o d];simp only[p9,Gr,y4,W0,K5,J7,X4];constructor
    .rintro((x|x)|x)
     .exact .inl x
     .exact .inr (.inl x)
     .exact .inr (.inr x)
    .rintro(x|x|x)
     .exact .inl (.inl x)
     .exact .inl (.inr x)
     .exact .inr x
theorem zQ(σ:a6->a6):∀(r:a7 (a6×a6))(e:En),(∀p∈e,p.2=σ p.1)->(∀p∈r,p.2=σ p.1)->∃f,Ap e r=a0 f/\∀p∈f,p.2=σ p.1:=by
 intro i
 induction i with
 |nil=>intro e b m;exact d0 e rfl b
 |cons j r g=>
  obtain⟨c,v⟩:=j;intro e b d;have h:v=σ c:=d (c,v) j5;rw[Tv];cases k:e.lookup c with
  |some u=>dsimp only;have l:u=σ c:=b _ (UC k);rw[g0 (by rw[l,h])];exact g e b λp a=>d p (k8 _ a)
  |none=>
   refine g _ (λp a=>?_) λp a=>d p (k8 _ a);rcases v3 a with a|a
   .exact b p a
   .rw[o9]at a;subst a;exact h
theorem fx(D:m7 st a (eD e) ep)(h:e.length<=4):M3 .dict [.ref a] st=a0 (.ref st.n,st.A (.D (eD e) (eD e).length)):=by refine(?_:((st.dict? (.ref a)).bind λb=>if b.length<=8/\b.all (λe=>match e.1 with| .str _=>a8|_=>c8)then a0 (b0.ref st.n,st.A (.D b b.length))else b4)=_);rw[D.dict,CM,g0];refine⟨gH (by unfold eD;rw[f7]:(eD e).length=e.length) h rfl,Cw λx c=>B0 c ?_⟩;clear c;rintro p _;rfl
theorem vX{st:St}{X:a6}{e:En}{ns:a7 a6}{Q:Q1}(D:m7 st X (eD e) ep)(Y:Eu e)(P:∀c∈ns,Io c)(Z:l.length=ns.length)(hn4:ns.length<=4)
 (R:Ap e (ns.zip l)=b4->∀d,Ex st d->Q .none d)(S:∀e' d a T,Ap e (ns.zip l)=a0 e'->Ex st d->m7 d a (eD e') T->Q (.ref a) d):
 u9 u8 (k+1) "" "_law_fitted" [.ref X,.B (ns.map sD),m8 l] st Q:=by
 refine E3 (fd:=Ra) rfl rfl ?_;delta Ra;exists(fx D Y.len),rfl;let L:=Ex.A st (.D (eD e) (eD e).length);let M:=m7.new st (eD e) (eD e).length;let hfan:st.n=st.n:=rfl;generalize H:st.n=N at M;revert L M;refine gen (st.A (.D (eD e) (eD e).length)) λs L M=>?_;have i1:s.items? (.B (ns.map sD))=a0 (ns.map sD):=rfl;have i2:s.items? (m8 l)=a0 (l.map iD):=rfl;exists 0,i1,i2;refine BF (nx:=λi=>.zip (.B (ns.map sD)) (m8 l) i) (xs:=(ns.zip l).map λp=>.B [sD p.1,iD p.2]) (I:=λi ρ d=>Fm (λb=>b=N) s d/\ρ "found"=a0 (.ref N)/\
  ∃(f:En)(h:a6),m7 d N (eD f) h/\Eu f/\Ap e (ns.zip l)=Ap f ((ns.zip l).drop i)) (λi ρ d hi hI=>?_) ?_ ?_ ⟨Fm.refl _,rfl,e,_,M,Y,by rw[DP]⟩
 .refine(?_:((d.items? (.B (ns.map sD))).bind λxs=>(d.items? (m8 l)).map λys=>match xs[i]?,ys[i]? with
   |some x,a0 y=>a0 (b0.B [x,y],It.zip (.B (ns.map sD)) (m8 l) (i+1))
   |_,_=>b4)=_)
  let j1:d.items? (.B (ns.map sD))=a0 (ns.map sD):=rfl;let j2:d.items? (m8 l)=a0 (l.map iD):=rfl;rw[j1,j2];simp only[CM,Ax];rw[o7,o7,o7];by_cases t:i<ns.length
  .let h1:=v5 t;let U:=Cz t Z;let h2:=v5 U;rw[(Mg (z:=(ns[i],l[i]))).mpr ⟨h1,h2⟩,h1,h2];rfl
  .rw[Au (l:=ns) (Bq ‹_›),Au (l:=ns.zip l) ((by rw[Qw];exact EI (A5 Z.symm):(ns.zip l).length=ns.length)▸Nat.not_lt.mp t)];rfl
 .rintro i x ρ w kk O z2 J V;ext t6 z2 C E F;ext n4 F f h o m g;rw[o7,At]at O;ext c9 O ⟨c,v⟩ j rfl;have n:(ns.zip l).drop i=(c,v)::(ns.zip l).drop (i+1):=by rw[jP (w6 j)];congr 1;exact(FS j).2
  rw[n,Tv]at g;let K:=P c ((Jy (p8 j)).1);let G:=xR (e:=f) (c:=c);let hel:=m.len;have r:(eD f).length<=1000:=by unfold eD;rw[f7];exact p6
  exists 0,E,o.I,o.kind,Ib;cases A:f.lookup c with
  |some u=>
   rw[A]at g G;dsimp only at g;rw[KX o Zu r G];exists FV,rfl;by_cases q:u=v
   .rw[g0 q]at g;rw[show decide (u≠v)=c8 from by simpa using q];exists 0;exact(J _ _ ⟨C,by exact E,f,h,o,m,g⟩).1
   .rw[j4 q]at g;rw[show decide (u≠v)=a8 from by simpa using q];exists 0;exact V _ _ _ (R g w (L.fm C λb B=>Of B H))
  |none=>
   rw[A]at g G;dsimp only at g;rw[LJ o Zu r G];exists FV,rfl;rw[(by unfold eD;rw[p9];rfl:eD f++[(sD c,iD v)]=eD (f++[(c,v)]))];have W:Eu (f++[(c,v)]):=by
    refine⟨?_,λp j=>?_⟩
    .rw[p9,BK];refine m0 m.1 (by simp) λa ha b B q=>?_;simp only[y4,W0,o9]at B;clear g j n K G;subst B q;exact(Xl A) ha
    .rcases v3 j with j|j
     .exact m.2 p j
     .rw[o9]at j;subst j;exact K
   rw[show decide (v≠v)=c8 from by simp];exists 0;exact(J _ _ ⟨C.trans (Fm.set rfl),by exact E,f++[(c,v)],h+1,m7.U o.1,W,g⟩).1
 .rintro ρ w z3;ext t6 z3 C E F;ext n4 F f h o m g;rw[f7,a7.drop_length]at g;exists 0,E;exact S f w N h g (L.fm C λb B=>Of B H) o
def W1(nodes:a7 Nd)(R:a6->a6)(n:a6):j0 Nd:=(nodes[n]?).map (q6 R)def first(nodes:a7 Nd)(R:a6->a6)(n:a6):b7:=(p0 n).all λm=>W1 nodes R m != W1 nodes R n
def r0(nodes:a7 Nd)(R:a6->a6)(n:a6):a6:=((p0 nodes.length).find? λm=>W1 nodes R m==W1 nodes R n).getD n
theorem GN(d:n<nodes.length):r0 nodes R n<=n/\W1 nodes R (r0 nodes R n)=W1 nodes R n/\∀m,m<r0 nodes R n->W1 nodes R m≠W1 nodes R n:=by
 unfold r0;rcases XO (f:=λm=>W1 nodes R m==W1 nodes R n) (n:=nodes.length)with⟨k,i,b,e,c⟩|⟨b,a⟩
 .rw[b];refine(m0 ?_ (by simpa using e) (λm g=>by simpa using c m g));apply CL;intro h;let j:=c n (ZG ‹_›);simp at j
 .have j:=a n d;simp at j
theorem OF:first nodes R n=a8↔∀m,m<n->W1 nodes R m≠W1 nodes R n:=by
 unfold first
 rw[V6];constructor
 .intro h m a;have b:=h m (Cv a);simpa using b
 .intro h m a;have b:=h m (U8 a);simpa using b
theorem dE(b:n<nodes.length):first nodes R (r0 nodes R n)=a8:=by let a:=GN (R:=R) b;ext1 a f c d;exact OF.mpr λm e=>by rw[c];exact d m e
theorem ZE(c:n<nodes.length)(h:first nodes R n=a8):r0 nodes R n=n:=by let a:=GN (R:=R) c;ext1 a d e f;apply CL;intro b;exact OF.mp h _ (DQ d b) e
def Dl(nodes:a7 Nd)(R:a6->a6):a7 a6:=(p0 nodes.length).filter λn=>first nodes R n&&R n != n
structure Mi (N:a7 Nd) (P:a7 (a6×a6)) (R M:a6->a6) (done:a7 (a6×a6)):Prop where
 le:∀n,n<N.length->M n<=n
 iE:∀n,n<N.length->M (M n)=M n
 sub:∀n,n<N.length->R (M n)=R n
 coarse:∀m n,m<N.length->n<N.length->W1 N R m=W1 N R n->M m=M n
 tO:∀p∈done,M p.1=M p.2
 few:J8 M N.length<=J8 (r0 N R) N.length+done.length
theorem SL(f:Lc nodes P R)(g:m<nodes.length)(i:n<nodes.length)(h:W1 nodes R m=W1 nodes R n):R m=R n:=by refine d4 (O0 g) λa e=>?_;let c:=O0 i;ext1 c b d;unfold W1 at h;rw[e,d]at h;let h:=C6 h;exact f.cong m n a b e d (Ct h).1 (Ct h).2
theorem Mi.zero(e:Lc nodes P R):Mi nodes P R (r0 nodes R) []:=by
 refine⟨λn a=>(GN a).1,λn a=>?_,λn a=>?_,λm n j a h=>?_,(λp f=>by cases f),l8 _⟩
 .let d:=(GN (R:=R) a).1;exact ZE (Bo a d) (dE a)
 .let c:=GN (R:=R) a;ext1 c d g l;exact SL e (Bo a d) a g
 .unfold r0;rw[h];cases i:(p0 nodes.length).find? (λk=>W1 nodes R k==W1 nodes R n)with|none=>let b:=List.find?_eq_none.mp i n (Cv a);simp at b|some k=>rfl
theorem Mi.step(h:Mi nodes P R M done)(f:p.1<nodes.length)(i:p.2<nodes.length)(u:R p.1=R p.2):∃A,Mi nodes P R A (done++[p]):=by
 by_cases v:M p.1=M p.2
 .refine⟨M,h.le,h.iE,h.sub,h.coarse,λx c=>?_,by let a:=h.few;rw[u7];exact U4 ‹_›⟩;rcases v3 c with c|c
  .exact h.tO x c
  .rw[o9]at c;clear f i u;subst c;exact v
 .let o:=h.le _ f;let r:∃k g,k<g/\g<nodes.length/\M k=k/\M g=g/\(k=M p.1/\g=M p.2\/k=M p.2/\g=M p.1):=by
   rcases Ce (M p.1) (M p.2)with q|q
   .exact U9 (M p.1) (M p.2) q (Bo i (h.le _ i)) (h.iE _ f) (h.iE _ i) (.inl ⟨rfl,rfl⟩)
   .exact U9 (M p.2) (M p.1) (DQ q λe=>v e.symm) (Bo f o) (h.iE _ i) (h.iE _ f) (.inr ⟨rfl,rfl⟩)
  ext C7 r k g z E B F s;let b:∀n,C1 M k g n=if M n=g then k else M n:=λG=>rfl
  let t:R k=R g:=by
   rcases s with q|q
   .rw[q.1,q.2,h.sub _ f,h.sub _ i,u]
   .rw[q.1,q.2,h.sub _ f,h.sub _ i,u]
  refine⟨C1 M k g,λn d=>?_,λn d=>?_,λn d=>?_,λm n C d D=>?_,λx c=>?_,?_⟩
  .rw[b];let a:=h.le n d;by_cases q:M n=g
   .rw[g0 q];exact b6 (m9 z) (q▸a)
   .rw[j4 q];exact a
  .rw[b n];by_cases q:M n=g
   .rw[g0 q,b,B,j4 (m6 ‹_›)]
   .rw[j4 q,b,h.iE n d,j4 q]
  .rw[b];by_cases q:M n=g
   .rw[g0 q,t,<-q];exact h.sub n d
   .rw[j4 q];exact h.sub n d
  .rw[b,b,h.coarse m n C d D]
  .rw[b,b];rcases v3 c with c|c
   .rw[h.tO x c]
   .rw[o9]at c;clear f i u v o;subst c;rcases s with q|q
    .rw[<-q.1,<-q.2,j4 (m6 ‹_›),g0 rfl]
    .rw[<-q.1,<-q.2,g0 rfl,j4 (m6 ‹_›)]
  .let w:J8 (C1 M k g) nodes.length<=J8 M nodes.length+1:=by
    let a:=V4 (l:=(p0 nodes.length).filter λn=>C1 M k g n != n) (m:=g::(p0 nodes.length).filter λn=>M n != n) (List.nodup_range.filter _) λn d=>by
     let y:=BP d;ext1 y w j;let j:C1 M k g n≠n:=by simpa using j
     by_cases q:n=g
     .rw[q];exact j5
     .refine k8 _ (BE w (?_));let a:M n≠n:=λe=>by
       rw[b]at j;rw[j4 (by rw[e];exact q)]at j;exact j e
      simpa using a
    rwa [N6]at a
   let a:=h.few;rw[u7];simp;exact b6 w (O8 a _)
theorem Mi.all(f:Lc nodes P R)(g:∀p∈P,p.1<nodes.length/\p.2<nodes.length):∃M,Mi nodes P R M P:=by
 let d:∀(a done:a7 (a6×a6))(M:a6->a6),P=done++a->Mi nodes P R M done->∃M,Mi nodes P R M P:=by
  intro a
  induction a with
  |nil=>intro done M e h;rw[Y5]at e;subst e;exact⟨M,h⟩
  |cons p a j=>
   intro done M e h;let b:p∈P:=by rw[e];exact K6 _ j5
   let c:=h.step (g p b).1 (g p b).2 (f.tO p b);ext1 c k i;exact j (done++[p]) k (by rw[e,Eb];rfl) i
 exact d P [] _ rfl (Mi.zero f)
theorem YJ(G:Da nodes)(q:Lc nodes P R)(z:∀p∈P,p.1<nodes.length/\p.2<nodes.length):(Dl nodes R).length<=P.length:=by
 refine d4 (Mi.all q z) λM h=>?_;let A:DH nodes M:=λm n a b r s t u=>by
  refine h.coarse m n (w6 r) (w6 s) ?_;unfold W1;rw[r,s];refine(?_:a0 (q6 R a)=a0 (q6 R b));let w:∀(i:a6)(d:Nd),nodes[i]?=a0 d->d.2.map R=(d.2.map M).map R:=λi d y=>by
   rw[v9];exact A1 λx B=>(h.sub x (AH (G.kid i d y x B) (w6 y))).symm
  congr 1;exact Fq t (by refine(?_:a.2.map R=b.2.map R);rw[w m a r,w n b s,u])
 let t:J8 R nodes.length<=J8 M nodes.length:=by
  refine V4 (List.nodup_range.filter _) λn l=>?_;let c:=BP l;ext1 c j k;let f:=U8 j;let o:=q.le n f;refine BE j (?_);let g:M n≠n:=λe=>by
   exact(ut (q.least M h.tO A (R n) n (Bo f o) f (q.iE n f)) (h.le (R n) (Bo f o)) e (by simpa using k:R n≠n) o).elim
  simpa using g
 let u:(Dl nodes R).length+J8 (r0 nodes R) nodes.length<=J8 R nodes.length:=by
  unfold J8;rw[<-u7];refine V4 ?_ λn l=>?_
  .rw[BK];refine m0 (List.nodup_range.filter _) (List.nodup_range.filter _) λa r b s e=>?_;subst e;let c:=BP r;ext1 c j k;let c:=BP s;ext1 c C D;simp only[C4]at k;let g:=ZE (U8 j) k.1;simp[g]at D
  .rcases v3 l with l|l
   .let c:=BP l;ext1 c j k;simp only[C4]at k;exact BE j k.2
   .let c:=BP l;ext1 c j k;let f:=U8 j;let c:=GN (R:=R) f;ext1 c v E C;refine BE j (?_);let g:=oy (SL q (Bo f v) f E) (q.le (r0 nodes R n) (Bo f v)) (by simpa using k:r0 nodes R n≠n) v;simpa using g
 exact oZ (b6 u (b6 t (Ai _ _▸h.few)))def O4(nodes:a7 Nd)(n:a6):Nd:=(nodes[n]?).getD ([],[])def AS(nodes:a7 Nd)(R:a6->a6)(n:a6):a7 a6:=R n::(O4 nodes n).2.map R
def Kl(nodes:a7 Nd)(R:a6->a6)(o:a7 a6)(m:a6):a7 a6:=(p0 nodes.length).filter λn=>first nodes R n&&((O4 nodes n).1==o&&(O4 nodes n).2.length+1==m)theorem IG:n∈Kl nodes R o m↔n<nodes.length/\first nodes R n=a8/\(O4 nodes n).1=o/\(O4 nodes n).2.length+1=m:=by unfold Kl;rw[HO,Qd];simp only[C4,Al]theorem IB:(Kl nodes R o m).Nodup:=List.nodup_range.filter _
theorem Lk(t:Lc nodes P R)(h:Y9 nodes R o m l):∃n∈Kl nodes R o m,AS nodes R n=l:=by
 ext T8 h n i r u v rfl;have a:=w6 r;let c:=GN (R:=R) a;ext1 c k j w;let c:=O0 (l:=nodes) (n:=r0 nodes R n) (Bo a k);ext1 c b d;let s:q6 R b=q6 R i:=by unfold W1 at j;rw[d,r]at j;exact C6 j
 let e:O4 nodes (r0 nodes R n)=b:=by unfold O4;rw[d];rfl
 let p:b.1=i.1:=(Ct s).1;let f:b.2.map R=i.2.map R:=(Ct s).2;let q:b.2.length=i.2.length:=by
  let g:=t0 CJ f
  rwa [f7,f7]at g
 refine d0 (r0 nodes R n) (IG.mpr (M4 (Bo a k) (dE a) (by rw[e,p,u]) (by rw[e,q,v]))) ?_;unfold AS;rw[e,f,SL t (q5 k a) a j]def fg(o:a7 a6)(m:a6):Prop:=(o=[102]/\m=2)\/(o=[103]/\m=3)
section
variable(G:Da nodes)(two:nodes.take 2=[([97],[]),([98],[])])(lc:Lc nodes P R)(hP:∀p∈P,p.1<nodes.length/\p.2<nodes.length)
include two
theorem hG:nodes[0]?=a0 ([97],[])/\nodes[1]?=a0 ([98],[]):=by
 let a:(nodes.take 2)[0]?=a0 ([97],[]):=by rw[two];rfl
 let b:(nodes.take 2)[1]?=a0 ([98],[]):=by rw[two];rfl
 rw[qF (by decide)]at a b;exact⟨a,b⟩
theorem gW(h:fg o m):(Kl nodes R o m).length<=nodes.length - 2:=by
 let b:=V4 (l:=Kl nodes R o m) (m:=WH 2 (nodes.length - 2)) IB λn f=>by
  refine Cr (IG.mp f) λg i a i=>?_;rw[a7.mem_range'_1];let c:=hG two;ext1 c j k;let e:o≠[97]/\o≠[98]:=by rcases h with q|q<;>rw[q.1]<;>exact⟨by decide,by decide⟩
  refine⟨?_,ah g⟩;apply CL;intro d;rcases(show n=0\/n=1 by exact(a6.le_one_iff_eq_zero_or_eq_one).mp (v0 (Nat.not_le.mp d)))with rfl|rfl
  .unfold O4 at a;rw[j]at a;exact e.1 a.symm
  .unfold O4 at a;rw[k]at a;exact e.2 a.symm
 rwa [a7.length_range']at b
include G in
theorem Yn:(Kl nodes R [97] 1).length<=1:=by
 let a:=V4 (l:=Kl nodes R [97] 1) (m:=[0]) IB λn g=>by
  refine Cr (IG.mp g) λh i d e=>d4 (O0 h) λf b=>?_;let c:O4 nodes n=f:=by unfold O4;rw[b];rfl
  rw[c]at d e;let a:f=([97],[]):=Fq d (List.length_eq_zero_iff.mp (Aw e));rw[a]at b;rw[o9];exact Ef G.nd b (hG two).1
 exact a
omit two
include G lc hP
theorem mz:((Kl nodes R o m).filter λn=>R n==v).length<=P.length+1:=by
 let d:=YJ G lc hP;let b:=V4 (l:=(Kl nodes R o m).filter λn=>R n==v) (m:=v::Dl nodes R) (IB.filter _) λn f=>by
  let a:=BP f;ext1 a g c;let c:R n=v:=by simpa using c
  let a:=IG.mp g;ext1 a h i j;by_cases q:n=v
  .rw[q];exact j5
  .refine k8 _ (BE (Cv h) (?_));rw[i,c];simpa using λe:v=n=>q e.symm
 rw[N6]at b;exact No b d
theorem jm:((Kl nodes R o m).filter λn=>decide (R n∈(O4 nodes n).2.map R)).length<=P.length:=by
 let j:=YJ G lc hP;let a:=V4 (l:=(Kl nodes R o m).filter λn=>decide (R n∈(O4 nodes n).2.map R)) (m:=Dl nodes R) (IB.filter _) λn k=>by
  let d:=BP k;ext1 d p c;let c:R n∈(O4 nodes n).2.map R:=by simpa using c
  refine t6 (IG.mp p) λh q s=>d4 (O0 h) λi b=>?_;let e:O4 nodes n=i:=by unfold O4;rw[b];rfl
  rw[e]at c;refine A8 c λx r f=>?_;let g:=G.kid n i b x r;let a:=lc.le x (b6 ‹_› (m9 ‹_›));refine BE (Cv h) (?_);rw[q];let a:=eo g f a;simpa using a
 exact b6 a j
omit lc hP G
theorem xD:((Kl nodes R o m).filter λn=>(O4 nodes n).2.map R==tl).length<=1:=by
 cases g:(Kl nodes R o m).filter (λn=>(O4 nodes n).2.map R==tl)with
 |nil=>exact F9 _
 |cons a r=>
  cases r with
  |nil=>exact l8 _
  |cons b r=>
   let c:((Kl nodes R o m).filter λn=>(O4 nodes n).2.map R==tl).Nodup:=IB.filter _;rw[g]at c;let j:a≠b:=by rw[Az]at c;exact λe=>c.1 (by rw[e];exact j5)
   let h:a∈(Kl nodes R o m).filter λn=>(O4 nodes n).2.map R==tl:=by rw[g];exact j5
   have k:∀a,a∈(Kl nodes R o m).filter (λn=>(O4 nodes n).2.map R==tl)->a<nodes.length/\first nodes R a=a8/\W1 nodes R a=a0 (o,tl):=λa h=>by
    let d:=BP h;ext1 d u f;let f:(O4 nodes a).2.map R=tl:=by simpa using f
    let d:=IG.mp u;ext1 d l v p y;refine d4 (O0 l) λi c=>?_;rw[(by unfold O4;rw[c];rfl:O4 nodes a=i)]at f p;refine m0 l v ?_;unfold W1;rw[c];refine(?_:a0 (i.1,i.2.map R)=_);rw[f,p]
   refine t6 (k a h) λz w s=>t6 (k b (by rw[g];exact k8 _ j5:b∈(Kl nodes R o m).filter λn=>(O4 nodes n).2.map R==tl)) λA x t=>?_;rcases MD a b with q|q|q
   .exact(OF.mp x a q (s.trans t.symm)).elim
   .exact(j q).elim
   .exact(OF.mp w b q (t.trans s.symm)).elim
end
theorem Rz{α β:Type}{rel:α->β->Prop}:∀{l:a7 α}{m:a7 β},l.Nodup->(∀f∈l,∃t∈m,rel f t)->(∀f∈l,∀g∈l,∀t,rel f t->rel g t->f=g)->l.length<=m.length:=by
 intro r
 induction r with
 |nil=>intro m p p p;exact F9 _
 |cons f l j=>
  intro m k h q;haveI:DV β:=λa b=>DO _
  rw[Az]at k;refine c9 (h f j5) λt n s=>?_;let j:=j (m:=m.erase t) k.2 (λg d=>by
   refine c9 (h g (k8 _ d)) λu o i=>d0 u ((nP λe=>?_).mpr o) i;clear n;subst e;let c:=q f j5 g (k8 _ d) _ s i;exact k.1 (c▸d)) λa v b w=>q a (k8 _ v) b (k8 _ w)
  rw[jR n]at j;let c:0<m.length:=Wh n;rw[N6];exact b6 (U6 j) (A5 (HT c))
theorem Im{α β:Type}{g:α->a7 β}:∀(l:a7 α),(∀a∈l,(g a).length<=B)->(l.flatMap g).length<=l.length*B:=by
 intro b
 induction b with
 |nil=>intro e;exact F9 _
 |cons a l c=>intro h;rw[a7.flatMap_cons,u7,N6,oO];exact eh (h a j5) (c λx d=>h x (k8 _ d))theorem Il{os:a7 a6}(b:os.Nodup)(c:f.length=os.length):f=os.map (sg os f):=by let a:(os.zip f).map mD=f:=iC (A5 ‹_›);rw[(HW b c),v9]at a;exact a.symm
def Mb(nodes:a7 Nd)(R:a6->a6)(b:AQ)(s v:a6):a7 a6:=
 (Kl nodes R b.1 b.2.length).filter λn=>@decide (∃w,AS nodes R n=b.2.map λc=>if c=s then v else w) (DO _)theorem TM:n∈Mb nodes R b s v↔n∈Kl nodes R b.1 b.2.length/\∃w,AS nodes R n=b.2.map λc=>if c=s then v else w:=by unfold Mb;rw[HO];simp only[C3]
section
variable(G:Da nodes)(two:nodes.take 2=[([97],[]),([98],[])])(lc:Lc nodes P R)(hP:∀p∈P,p.1<nodes.length/\p.2<nodes.length)(hcnt:nodes.length+P.length<=8)
include G two lc hP hcnt
theorem fT:2<=nodes.length:=by let a:=t0 CJ two;rw[O9]at a;simp at a;exact b6 (A5 a.symm) (Ge _ _)def nz(a:AQ):Prop:=fg a.1 a.2.length\/(a.1=[97]/\a.2.length=1)
theorem Up(h:nz a):(Kl nodes R a.1 a.2.length).length<=6:=by
 let c:=fT G two lc hP hcnt;rcases h with h|h
 .let b:=gW (R:=R) two h;exact b6 b (Hz (b6 (G3 _ _) hcnt))
 .rw[h.1,h.2];let b:=Yn (R:=R) G two;exact p6
theorem Zx(h:nz b)(s v:a6):(Mb nodes R b s v).length<=3:=by
 let E:=fT G two lc hP hcnt;let p:(Mb nodes R b s v).Nodup:=IB.filter _;have t:(Mb nodes R b s v).length<=(Kl nodes R b.1 b.2.length).length:=DX _ _;rcases h with h|h
 .let z:=gW (R:=R) two h;let d:∀n∈Mb nodes R b s v,n∈Kl nodes R b.1 b.2.length/\∃w,R n::(O4 nodes n).2.map R=b.2.map λc=>if c=s then v else w:=λn k=>TM.mp k
  cases r:b.2 with
  |nil=>rcases h with q|q<;>rw[r]at q<;>simp at q
  |cons D u=>
   rw[r]at d;by_cases A:D=s
   .let C:=V4 p (m:=(Kl nodes R b.1 b.2.length).filter λn=>R n==v) λn k=>by
     refine k9 (d n k) λg i=>?_;ext d4 i w j;rw[<-r]at g;rw[y4,g0 A]at j;refine BE g (?_);simpa using(Gq j).1
    have C:=mz (o:=b.1) (m:=b.2.length) (v:=v) G lc hP;exact aI hcnt z C t ‹_›
   .by_cases e:∃c∈u,c≠s
    .ext1 e c x f;let C:=V4 p (m:=(Kl nodes R b.1 b.2.length).filter λn=>decide (R n∈(O4 nodes n).2.map R)) λn k=>by
      refine k9 (d n k) λg i=>?_;ext d4 i w j;rw[<-r]at g;rw[y4,j4 A]at j;let l:=Gq j;ext1 l B y;refine BE g (?_);let C:R n∈(O4 nodes n).2.map R:=by rw[y,B];exact C0 (a:=c) x (j4 f)
      simpa using C
     let C:=jm (o:=b.1) (m:=b.2.length) G lc hP;exact aI hcnt z (U4 C) t ‹_›
    .let C:=V4 p (m:=(Kl nodes R b.1 b.2.length).filter λn=>(O4 nodes n).2.map R==u.map λC=>v) λn k=>by
      refine k9 (d n k) λg i=>?_;ext d4 i w j;rw[<-r]at g;rw[y4]at j;let l:=Gq j;ext1 l B y;refine BE g (?_);let C:(O4 nodes n).2.map R=u.map λC=>v:=by rw[y];refine A1 λc x=>?_;rw[g0];apply CL;intro f;exact e (d0 c x f)
      simpa using C
     let C:=xD (nodes:=nodes) (R:=R) (o:=b.1) (m:=b.2.length) (tl:=u.map λC=>v);exact gA C ‹_› rfl
 .let C:=Yn (R:=R) G two;rw[h.1,h.2]at t;exact gA C t rfl
variable{os:a7 a6}{fs:a7 (a7 a6)}(hno:os.Nodup)(hnd:fs.Nodup)
include hno hnd
theorem Kg{a:AQ}(v:nz a)(w:nz b)(k:∀c∈os,c∈a.2\/c∈b.2)(o:∀f∈fs,f.length=os.length/\Y9 nodes R a.1 a.2.length (a.2.map (sg os f))/\Y9 nodes R b.1 b.2.length (b.2.map (sg os f))):fs.length<=36:=by
 have E:=Rz (rel:=λ(f:a7 a6)(t:a6×a6)=>AS nodes R t.1=a.2.map (sg os f)/\AS nodes R t.2=b.2.map (sg os f)) (m:=(Kl nodes R a.1 a.2.length).flatMap λn=>(Kl nodes R b.1 b.2.length).map λi=>(n,i)) hnd (λf e=>?_) λf e x l t p r=>?_
 .let y:=Im (B:=6) (g:=λn=>(Kl nodes R b.1 b.2.length).map λi=>(n,i)) (Kl nodes R a.1 a.2.length) λn z=>by
   rw[f7];exact Up G two lc hP hcnt w
  exact b6 E (b6 y (EJ 6 (Up G two lc hP hcnt v)))
 .let d:=o f e;ext1 d z A C;let d:=Lk lc A;ext1 d n s h;let d:=Lk lc C;ext1 d i u j;exact v8 (n,i) (List.mem_flatMap.mpr (d0 n s (C0 (a:=i) u rfl))) h j
 .rw[Il hno (o f e).1,Il hno (o x l).1];refine A1 λc D=>?_;rcases k c D with q|q
  .exact List.map_inj_left.mp (p.1.symm.trans r.1) c q
  .exact List.map_inj_left.mp (p.2.symm.trans r.2) c q
theorem Rf{a:AQ}{s:a6}(H:nz a)(I:nz b)(J:nz c)(p:∀x∈os,x∈a.2\/x∈b.2\/x∈c.2)(hs:s∈a.2)(y:∀x∈b.2,x=pb\/x=s)(z:∀x∈c.2,x=pc\/x=s)
 (u:∀f∈fs,f.length=os.length/\Y9 nodes R a.1 a.2.length (a.2.map (sg os f))/\Y9 nodes R b.1 b.2.length (b.2.map (sg os f))/\Y9 nodes R c.1 c.2.length (c.2.map (sg os f))):fs.length<=54:=by
 have Q:=Rz (rel:=λ(f:a7 a6)(t:a6×a6×a6)=>AS nodes R t.1=a.2.map (sg os f)/\AS nodes R t.2.1=b.2.map (sg os f)/\AS nodes R t.2.2=c.2.map (sg os f))
  (m:=(Kl nodes R a.1 a.2.length).flatMap λn=>(Mb nodes R b s ((AS nodes R n).getD (a.2.idxOf s) 0)).flatMap λi=>(Mb nodes R c s ((AS nodes R n).getD (a.2.idxOf s) 0)).map λj=>(n,i,j)) hnd (λf e=>?_) λf e K r t v w=>?_
 .let L:=Im (B:=9) (g:=λn=>(Mb nodes R b s ((AS nodes R n).getD (a.2.idxOf s) 0)).flatMap λi=>(Mb nodes R c s ((AS nodes R n).getD (a.2.idxOf s) 0)).map λj=>(n,i,j)) (Kl nodes R a.1 a.2.length) λn A=>by
   let M:=Im (B:=3) (g:=λi=>(Mb nodes R c s ((AS nodes R n).getD (a.2.idxOf s) 0)).map λj=>(n,i,j)) (Mb nodes R b s ((AS nodes R n).getD (a.2.idxOf s) 0)) λi A=>by
    rw[f7];exact Zx G two lc hP hcnt J _ _
   exact b6 M (EJ 3 (Zx G two lc hP hcnt I s ((AS nodes R n).getD (a.2.idxOf s) 0)))
  exact b6 Q (b6 L (EJ 9 (Up G two lc hP hcnt H)))
 .let d:=u f e;ext1 d A N O P;let d:=Lk lc N;ext1 d n C h;let d:=Lk lc O;ext1 d i D k;let d:=Lk lc P;ext1 d j E l;let F:(AS nodes R n).getD (a.2.idxOf s) 0=sg os f s:=by rw[h,AB,o7,v5 (Ft hs),Pd];rfl
  refine CU (n,i,j) (List.mem_flatMap.mpr (d0 n C (List.mem_flatMap.mpr (d0 i (TM.mpr ⟨D,sg os f pb,?_⟩) (C0 (a:=j) (TM.mpr ⟨E,sg os f pc,?_⟩) rfl))))) h k l
  .rw[k,F];refine A1 λx o=>?_;by_cases q:x=s
   .rw[g0 q,q]
   .rw[j4 q,(y x o).resolve_right q]
  .rw[l,F];refine A1 λx o=>?_;by_cases q:x=s
   .rw[g0 q,q]
   .rw[j4 q,(z x o).resolve_right q]
 .rw[Il hno (u f e).1,Il hno (u K r).1];refine A1 λx o=>?_;rcases p x o with q|q|q
  .exact List.map_inj_left.mp (v.1.symm.trans w.1) x q
  .exact List.map_inj_left.mp (v.2.1.symm.trans w.2.1) x q
  .exact List.map_inj_left.mp (v.2.2.symm.trans w.2.2) x q
theorem yP{ats:a7 AQ}(t:∀a∈ats,isAtom a)(h1:1<=ats.length)(h3:ats.length<=3)(ho4:os.length<=4)(j:∀c∈os,∃a∈ats,c∈a.2)(k:∀a∈ats,∀c∈a.2,c∈os)
 (p:∀f∈fs,f.length=os.length/\∀a∈ats,Y9 nodes R a.1 a.2.length (a.2.map (sg os f))):fs.length<64:=by
 cases T:fs with
 |nil=>simp
 |cons f0 r=>
  rw[<-T];let o:∀a∈ats,nz a:=λa w=>by
   refine n4 ((p f0 (by rw[T];exact j5)).2 a w) λn nd Y ho w0=>?_;let U:=(G.op nd (p8 Y)).1;rcases(t a w).1 with q|q|q|q
   .exact .inl (.inl q)
   .exact .inl (.inr q)
   .exact .inr q
   .rw[ho,q.1]at U;rcases U with q|q|q|q<;>cases q
  revert t o j k p;refine di h1 h3 (λa t j k p o=>?_) (λa b t j k p o=>?_) λa b c t j k p o=>?_
  .have w:=o a j5;have n:=Kg G two lc hP hcnt hno hnd w w (λc B=>by
    refine c9 (j c B) λx g D=>?_;rw[o9]at g;clear o j k p t w;subst g;exact .inl D) λf d=>m0 ((p f d).1) ((p f d).2 a j5) ((p f d).2 a j5)
   exact Ca
  .have n:=Kg G two lc hP hcnt hno hnd (o a j5) (o b (k8 _ j5)) (λc B=>by
    refine c9 (j c B) λx g D=>?_;simp only[K5,J7,X4]at g;rcases g with rfl|rfl
    .exact .inl D
    .exact .inr D) λf d=>m0 ((p f d).1) ((p f d).2 a j5) ((p f d).2 b (k8 _ j5))
   exact Ca
  .have w:=o a j5;have O:=o b (k8 _ j5);have B:=o c (k8 _ (k8 _ j5));have P:∀f∈fs,Y9 nodes R a.1 a.2.length (a.2.map (sg os f)):=λf d=>(p f d).2 a j5;have Q:∀f∈fs,Y9 nodes R b.1 b.2.length (b.2.map (sg os f)):=λf d=>(p f d).2 b (k8 _ j5);have S:∀f∈fs,Y9 nodes R c.1 c.2.length (c.2.map (sg os f)):=λf d=>(p f d).2 c (k8 _ (k8 _ j5));have i:∀x∈os,x∈a.2\/x∈b.2\/x∈c.2:=λx g=>by
    refine c9 (j x g) λy H J=>?_;simp only[K5,J7,X4]at H;rcases H with rfl|rfl|rfl
    .exact .inl J
    .exact .inr (.inl J)
    .exact .inr (.inr J)
   by_cases c1:∀x∈os,x∈a.2\/x∈b.2
   .let n:=Kg G two lc hP hcnt hno hnd w O c1 λf d=>m0 ((p f d).1) (P f d) (Q f d);exact Ca
   by_cases c2:∀x∈os,x∈a.2\/x∈c.2
   .let n:=Kg G two lc hP hcnt hno hnd w B c2 λf d=>m0 ((p f d).1) (P f d) (S f d);exact Ca
   by_cases c3:∀x∈os,x∈b.2\/x∈c.2
   .let n:=Kg G two lc hP hcnt hno hnd O B c3 λf d=>m0 ((p f d).1) (Q f d) (S f d);exact Ca
   have Z:∀{u v:a7 a6},(¬∀x∈os,x∈u\/x∈v)->∃x∈os,x∉u/\x∉v:=λ{u v}h=>by
    apply CL;intro Y;refine h λx g=>?_;apply CL;intro z;exact Y (v8 x g (λe=>z (.inl e)) λe=>z (.inr e))
   refine y0 (Z c1) λE hpc K L=>y0 (Z c2) λI hpb M V=>y0 (Z c3) λC hpa W X=>?_;let pcc:E∈c.2:=((i E hpc).resolve_left K).resolve_left L;have N:C∈a.2:=(i C hpa).resolve_right λh=>h.elim W X;have F:∀s,(∀x∈os,x=C\/x=I\/x=E\/x=s)->(s∈a.2\/s∈b.2\/s∈c.2)->fs.length<=54:=λs A hs=>by
    let sa:∀x∈a.2,x=C\/x=s:=λx g=>by
     rcases A x (k a j5 x g)with q|q|q|q
     .exact .inl q
     .rw[q]at g;exact(M g).elim
     .rw[q]at g;exact(K g).elim
     .exact .inr q
    have sb:∀x∈b.2,x=I\/x=s:=λx g=>by
     rcases A x (k b (k8 _ j5) x g)with q|q|q|q
     .rw[q]at g;exact(W g).elim
     .exact .inl q
     .rw[q]at g;exact(L g).elim
     .exact .inr q
    have sc:∀x∈c.2,x=E\/x=s:=λx g=>by
     rcases A x (k c (k8 _ (k8 _ j5)) x g)with q|q|q|q
     .rw[q]at g;exact(X g).elim
     .rw[q]at g;exact(V g).elim
     .exact .inl q
     .exact .inr q
    rcases hs with q|q|q
    .exact Rf G two lc hP hcnt hno hnd w O B i q sb sc λf d=>M4 ((p f d).1) (P f d) (Q f d) (S f d)
    .exact Rf G two lc hP hcnt hno hnd O w B (λx g=>by
      rcases i x g with q|q|q
      .exact .inr (.inl q)
      .exact .inl q
      .exact .inr (.inr q)) q sa sc λf d=>M4 ((p f d).1) (Q f d) (P f d) (S f d)
    .exact Rf G two lc hP hcnt hno hnd B w O (λx g=>by
      rcases i x g with q|q|q
      .exact .inr (.inl q)
      .exact .inr (.inr q)
      .exact .inl q) q sa sb λf d=>M4 ((p f d).1) (S f d) (P f d) (Q f d)
   let h54:fs.length<=54:=by
    by_cases g:∃x∈os,x≠C/\x≠I/\x≠E
    .ext BU g s hs s1 s2 s3;refine F s (λx g=>?_) (i s hs);apply CL;intro z;let h5:=V4 (l:=[C,I,E,s,x]) (m:=os) (by
      simp only[Az,K5,J7,X4,Mh,By,and_true,WP];exact M4 (M4 (λe=>M (e▸N):C≠I) (λe=>K (e▸N):C≠E) (C8 s1) λe=>z (.inl e.symm)) (m0 (λe=>L (e▸(((i I hpb).resolve_left M).resolve_right V)):I≠E) (C8 s2) λe=>z (.inr (.inl e.symm))) ⟨C8 s3,λe=>z (.inr (.inr (.inl e.symm)))⟩ λe=>z (.inr (.inr (.inr e.symm)))) (λy H=>by
      simp only[K5,J7,X4]at H;rcases H with rfl|rfl|rfl|rfl|rfl<;>assumption)
     simp at h5;exact(qR h5 ho4).elim
    .refine F C (λy H=>?_) (.inl N);apply CL;intro z;exact g (CU y H (λe=>z (.inl e)) (λe=>z (.inr (.inl e))) λe=>z (.inr (.inr (.inl e))))
   exact Ca
end
def AG(e:En):a7 b0:=e.map λp=>.B [sD p.1,iD p.2]def TD(e:En):b0:=.B (y8 (AG e))
theorem ZP:∀{a b:a7 b0},(∀x∈a,∀y∈b,f x y=a8)->N0 f a b=a8:=by
 intro e
 induction e with
 |nil=>intro d d;exact rfl
 |cons x a g=>
  intro c;cases c with
  |nil=>intro d;exact rfl
  |cons y b=>intro h;refine(?_:(f x y&&N0 f a b)=a8);rw[h x j5 y j5,g λu i v j=>h u (k8 _ i) v (k8 _ j)];rfl
theorem cO(k:a6)(p q:a6×a6):o0 (k+1) (.B [sD p.1,iD p.2]) (.B [sD q.1,iD q.2])=a8:=by refine(?_:(o0 k (sD p.1) (sD q.1)&&(o0 k (iD p.2) (iD q.2)&&a8))=a8);rw[Kp,show o0 k (sD p.1) (sD q.1)=a8 from gO k _ _];rfl
theorem Su(e:En):G9 (AG e):=by intro x a y b;refine c9 (Y0 a) ?_;clear a;rintro p c rfl;refine c9 (Y0 b) ?_;clear b;rintro q c rfl;exact cO 2 p q
theorem zS(h:e.length<=10):B9 (AG e)=a8:=by unfold B9;simp only[C4,C3];refine⟨⟨by unfold AG;rw[f7];exact Ca,Hd (Su e)⟩,Cw λx a=>c9 (Y0 a) ?_⟩;clear a;rintro p b rfl;rfl
theorem Jm(es:a7 En):G9 (es.map TD):=by intro x b y c;refine c9 (Y0 b) ?_;clear b;rintro e a rfl;refine c9 (Y0 c) ?_;clear c;rintro g a rfl;refine ZP λu d v f=>c9 (Y0 ((Y1 _).mem_iff.mp d)) ?_;clear d;rintro p a rfl;refine c9 (Y0 ((Y1 _).mem_iff.mp f)) ?_;clear f;rintro q a rfl;exact cO 1 p q
theorem XR(D:m7 st a (eD e) ep)(h:e.length<=10):M3 .sI [.ref a] st=a0 (.ref st.n,st.A (.L (y8 (AG e)))):=by
 refine(?_:((st.dict? (.ref a)).bind λb=>let c:=b.map λe=>b0.B [e.1,e.2]
  if B9 c/\b.all (λe=>leaf e.1)then a0 (b0.ref st.n,st.A (.L (y8 c)))else b4)=_)
 exists 0,D.dict,CM;rw[(by unfold eD AG;rw[v9];rfl:((eD e).map λe=>b0.B [e.1,e.2])=AG e),g0];refine⟨zS h,Cw λx d=>c9 (Y0 d) ?_⟩;clear d;rintro p f rfl;rfl
theorem aj{p:a6×a6}(h:(b0.B [sD p.1,iD p.2])= .B [sD q.1,iD q.2]):p=q:=by injection h with h;injection h with h1 h2;injection h2 with h2 _;exact Fq (Lo h1) (EC h2)theorem OM(h:e.Perm e'):TD e=TD e':=by unfold TD;rw[RU (Su e') (Su e) (h.map _)]theorem cb(h:TD e=TD e'){p:a6×a6}(c:p∈e):p∈e':=by unfold TD at h;injection h with h;let b:b0.B [sD p.1,iD p.2]∈AG e':=(Y1 _).mem_iff.mp (h▸(Y1 _).mem_iff.mpr (C0 (a:=p) c rfl));refine c9 (Y0 b) λq d f=>?_;rw[<-aj f];exact d
theorem Os{e:En}{os:a7 a6}(h:Eu e)(g:∀c,c∈e.map (·.1)↔c∈os)(k:os.Nodup):e.Perm (os.map λc=>(c,lk e c)):=by
 let l:e.Nodup:=by let f:=List.pairwise_map.mp (BR h.1);exact UM (f.imp λh q=>h (by rw[q]))
 let m:(os.map λc=>(c,lk e c)).Nodup:=by rw[Br,Y6];exact(BR k).imp λh q=>h (Ct q).1
 refine Li l m λp=>?_;constructor
 .intro b;refine C0 (a:=p.1) ((g p.1).mp (C0 (a:=p) b rfl)) (?_);unfold lk;rw[(IV h.1 b)];rfl
 .intro b;refine c9 (Y0 b) ?_;clear b;rintro c n rfl;refine c9 (Y0 ((g c).mpr n)) λq i d=>?_;let j:=IV h.1 i;rw[d]at j;unfold lk;rw[j];rw[<-d];exact i
theorem RK(h:c∈os):sg os (os.map g) c=g c:=by unfold sg;rw[AB,o7,v5 (Ft h),Pd];rfl
theorem yV{α:Type}{f:α->b0}{P:α->Prop}:∀{l:a7 b0},(∀x∈l,∃a,P a/\x=f a)->∃m:a7 α,l=m.map f/\∀a∈m,P a:=by
 intro e
 induction e with
 |nil=>intro o;exact d0 [] rfl λa h=>by cases h
 |cons x l g=>
  intro h;refine c9 (h x j5) λa i j=>c9 (g λy k=>h y (k8 _ k)) λm n d=>?_;exact(d0 (a::m) (by rw[j,n];rfl) (λb c=>by
   rcases D9 c with rfl|c
   .exact i
   .exact d b c))
structure Dy (N:a7 Nd) (R:a6->a6) (ats:a7 AQ) (es:a7 En):Prop where
 ok:∀e∈es,Eu e/\(∀c,c∈e.map (·.1)↔∃a∈ats,c∈a.2)/\∀a∈ats,Y9 N R a.1 a.2.length (a.2.map (lk e))
 all:∀σ:a6->a6,(∀a∈ats,Y9 N R a.1 a.2.length (a.2.map σ))->∃e∈es,∀p∈e,p.2=σ p.1
theorem Dy.next(h:Dy nodes R ats es)(A:isAtom a)
 (w:∀i,i∈es'↔∃e∈es,∃l,Y9 nodes R a.1 a.2.length l/\Ap e (a.2.zip l)=a0 i):Dy nodes R (ats++[a]) es':=by
 refine⟨λi m=>?_,λσ u=>?_⟩
 .refine c9 ((w i).mp m) λe B o=>?_;ext c9 o l C r;refine t6 (h.ok e B) λK x D=>?_;have g:=(λl P=>T8 P λn T Q Q x D=>by rw[D,N6,f7,x]:∀l,Y9 nodes R a.1 a.2.length l->l.length=a.2.length) l C;refine Cr (xX _ e i r K λp q=>A.2 p.1 (Jy q).1) λE S L F=>m0 E (λc=>?_) λb f=>?_
  .rw[F c,(a7.map_fst_zip (uE g)),x c];constructor
   .rintro(⟨b,f,j⟩|G)
    .exact d0 b (G1 _ f) j
    .exact d0 a (K6 _ P3) G
   .rintro M;ext c9 M b f j;rcases v3 f with f|f
    .exact .inl (d0 b f j)
    .rw[o9]at f;clear A w C r g L F;subst f;exact .inr j
  .rcases v3 f with f|f
   .let d:b.2.map (lk i)=b.2.map (lk e):=A1 λc G=>by
     refine c9 (Y0 ((x c).mpr (d0 b f G))) λp q H=>?_;let N:=IV K.1 q;let O:=IV E.1 (S p q);rw[H]at N O;unfold lk;rw[N,O]
    rw[d];exact D b f
   .rw[o9]at f;clear A w r F;subst f;let d:b.2.map (lk i)=l:=by
     apply Gk;intro k;rw[o7];by_cases s:k<b.2.length
     .let y:b.2[k]?=a0 b.2[k]:=v5 s;let I:k<l.length:=Cz s g;let t:l[k]?=a0 l[k]:=v5 I;rw[y,t];refine(?_:a0 (lk i b.2[k])=a0 l[k]);unfold lk;rw[(IV E.1 (L _ (p8 ((Mg (z:=(b.2[k],l[k]))).mpr ⟨y,t⟩))))];rfl
     .rw[Au (Bq ‹_›),Au (g▸Nat.not_lt.mp s)];rfl
    rw[d];exact C
 .refine c9 (h.all σ λb f=>u b (G1 _ f)) λe B J=>?_;obtain⟨i,r,m⟩:=zQ σ (a.2.zip (a.2.map σ)) e J λp q=>by
   refine d4 (N2 q) λk o=>?_;ext1 o s v;let d:=(Mg (z:=p)).mp (by rw[<-v];exact v5 s);ext1 d y t;rw[o7,y]at t;exact(C6 t).symm
  exact d0 i ((w i).mpr ⟨e,B,_,(u a (K6 _ P3)),r⟩) m
theorem Dy.few{nodes:a7 Nd}{P:a7 (a6×a6)}{R:a6->a6}(G:Da nodes)(C:nodes.take 2=[([97],[]),([98],[])])(O:Lc nodes P R)(Q:∀p∈P,p.1<nodes.length/\p.2<nodes.length)(w:nodes.length+P.length<=8)
 {ats:a7 AQ}{es:a7 En}{os:a7 a6}(h:Dy nodes R ats es)(o:∀a∈ats,isAtom a)(J:1<=ats.length)(K:ats.length<=3)(s:os.Nodup)(D:os.length<=4)(g:∀c,c∈os↔∃a∈ats,c∈a.2):B9 (C9 (es.map TD))=a8:=by
 let z:=EW (Jm es);let L:=GB (Jm es);obtain⟨t,A,d⟩:=yV (f:=TD) (P:=λe=>e∈es) (l:=C9 (es.map TD)) λx m=>by
  refine c9 (Y0 ((z x).mp m)) ?_;clear m;rintro e A rfl;exact d0 e A rfl
 let E:t.Pairwise λa b=>TD a≠TD b:=by rw[A,Br,Y6]at L;exact L
 let j:∀e∈t,∀c,c∈e.map (·.1)↔c∈os:=λe i c=>by rw[(h.ok e (d e i)).2.1 c,g c]
 let F:(t.map λe=>os.map (lk e)).Nodup:=by
  rw[Br,Y6];refine Gg ?_ E;intro a b k M u e;refine u ?_;rw[OM (Os (h.ok a (d a k)).1 (j a k) s),OM (Os (h.ok b (d b M)).1 (j b M) s)];let U:(os.map λc=>(c,lk a c))=os.map λc=>(c,lk b c):=A1 λc n=>by rw[List.map_inj_left.mp e c n]
  rw[U]
 let v:=yP G C O Q w s F o J K D (λc n=>(g c).mp n) (λa k c n=>(g c).mpr (d0 a k n)) λf N=>by
  refine c9 (Y0 N) ?_;clear N;rintro e i rfl;refine⟨by rw[f7],λa k=>?_⟩;let U:a.2.map (sg os (os.map (lk e)))=a.2.map (lk e):=A1 λc n=>RK ((g c).mpr (d0 a k n));rw[U];exact(h.ok e (d e i)).2.2 a k
 rw[f7]at v;unfold B9;simp only[C4,C3];refine⟨⟨by rw[A,f7];exact v,Hd λx m y S=>Jm es x ((z x).mp m) y ((z y).mp S)⟩,Cw λx m=>c9 (Y0 ((z x).mp m)) ?_⟩;clear m;rintro e i rfl;let u:y8 (AG e)≠[]:=by
  intro q;have B:=(Y1 (AG e)).length_eq;rw[q]at B;unfold AG at B;rw[f7]at B;obtain⟨a,k⟩:∃a,a∈ats:=by
   clear h o K g;cases ats with
   |nil=>simp at J
   |cons a r=>exact⟨a,j5⟩
  let H:a.2≠[]:=by let U:=(o a k).1;intro q;rw[q]at U;simp at U
  refine R9 (iU H) λc r I=>?_;have U:=((h.ok e i).2.1 c).mpr (d0 a k (by rw[I];exact j5));rw[(List.length_eq_zero_iff.mp B.symm)]at U;cases U
 unfold TD;cases T:y8 (AG e)with
 |nil=>exact(u T).elim
 |cons y r=>rfl
abbrev AE:=a6×En
def EU(x:AE):b0:=.ref x.1
def CQ:j0 AE->b0
 |none=>.none
 |some x=>.ref x.1
def IF(st:St)(x:AE):Prop:=∃ep,m7 st x.1 (eD x.2) ep
theorem IF.ex(h:IF st x)(g:Ex st st'):IF st' x:=d4 h λa D=>⟨a,D.ex g⟩theorem rx(h:d6 st a b)(c:G9 b)(d:b.length<=j8)(e:B9 (C9 b)=a8):M3 .sS [.ref a] st=a0 (.ref st.n,st.A (.L (y8 (C9 b)))):=by refine(?_:((st.list? (.ref a)).bind λb=>if b.all (λx=>b.all λy=>P0 x y)/\b.length<=j8/\B9 (C9 b)then a0 (b0.ref st.n,st.A (.L (y8 (C9 b))))else b4)=_);rw[h.list,CM,g0 (m0 (Hd c) d e)]
theorem jr{st:St}{nodes:a7 Nd}{P:a7 (a6×a6)}{R:a6->a6}{am:a6}{ats:a7 AQ}{os:a7 a6}{Q:Q1}(G:Da nodes)(two:nodes.take 2=[([97],[]),([98],[])])(lc:Lc nodes P R)(hP:∀p∈P,p.1<nodes.length/\p.2<nodes.length)(hcnt:nodes.length+P.length<=8)
 (hat:∀a∈ats,isAtom a)(h1:1<=ats.length)(h3:ats.length<=3)(hno:os.Nodup)(ho4:os.length<=4)(hos:∀c,c∈os↔∃a∈ats,c∈a.2)
 (L:d6 st 21 (nodes.map o4))(LM:d6 st am (Y2 R nodes.length))(LA:d6 st aa (ats.map W9))
 (hq:∀m r(es:a7 En),Ex st m->d6 m r (y8 (C9 (es.map TD)))->Dy nodes R ats es->Q (.ref r) m):u9 u8 (k+2) "" "_law_due" [.ref 21,.ref am,.ref aa] st Q:=by
 refine E3 (fd:=TS) rfl rfl ?_;delta TS;exists W0,DR,AI,rfl;(try exists 0,W0,DR,AI);let x1:=(Ex.A st (.D [] 0)).trans (Ex.A (st.A (.D [] 0)) (.L [.ref st.n]));let D1:=(m7.new st [] 0).A (o:=.L [.ref st.n]);let L1:=d6.new (st.A (.D [] 0)) [.ref st.n];revert x1 D1 L1;refine gen ((st.A (.D [] 0)).A (.L [.ref st.n])) λst1 x1 D1 L1=>?_;generalize hla:(st.A (.D [] 0)).n=la0 at L1;generalize hda:st.n=da at D1 L1;let LA1:=LA.ex x1;exists(Q6 LA1),rfl;let hN8:=b6 (G3 _ _) hcnt;let E0:Dy nodes R [] [[]]:=by refine⟨λe he=>?_,λσ w0=>d0 [] P3 λp hp=>by cases hp⟩;rw[o9]at he;subst he;exact m0 ⟨By,λp hp=>by cases hp⟩ (λc=>by simp) λa ha=>by cases ha
 refine BF (nx:=λi=>.seq (.ref aa) i) (xs:=ats.map W9) (I:=λi ρ m=>Ex st1 m/\ρ "rows"=a0 (.ref 21)/\ρ "marks"=a0 (.ref am)/\
  ∃(la:a6)(xs:a7 AE),ρ "envs"=a0 (.ref la)/\d6 m la (xs.map EU)/\(∀x∈xs,IF m x)/\Dy nodes R (ats.take i) (xs.map (·.2))/\xs.length<=8 ^ i) (λi ρ m hi hI=>T0 (LA1.ex hI.1) i) ?_ ?_
  ⟨Ex.refl _,rfl,rfl,la0,[(da,[])],rfl,L1,λx d=>(by rw[o9]at d;subst d;exact⟨0,D1⟩),by rw[Gm];exact E0,by exact M7 _⟩
 .rintro i x ρ M kk d z1 hk1 hk2;ext Cr z1 x2 r1 r2 w;ext C7 w la xs r3 LE hxs HE F;rw[o7,At]at d;ext c9 d a ha rfl;have S:=hat a (p8 ha);let hi:=w6 ha;have h8i:8 ^ i<=64:=by let this:8 ^ i<=8 ^ 2:=WN (by decide) (ls hi h3);exact this
  let hal:=U4 (Tu S);let hbind:AD ["op","names"] (W9 a) ρ=a0 ((ρ.set "op" (.str a.1)).set "names" (.B (a.2.map sD))):=rfl;let elen:M3 .len [.B (a.2.map sD)] M=a0 (iD a.2.length,M):=by
   let this:=GS (st:=M) (xs:=a.2.map sD) (by rw[f7];exact p6)
   rwa [f7]at this
  exists 0,hbind,r1,r2,elen;let X2:=x1.trans x2;refine Zp G (L.ex X2) (LM.ex X2) λz ta tb x3 LT htn htm htl=>?_;let LE3:=LE.ex x3;exists r3,(Q6 LE3),rfl;let htll:∀l∈tb,l.length=a.2.length:=λl J=>by
   refine T8 ((htm l).mp J) λn nd w0 w0 q2 q3=>?_;rw[q3,N6,f7,q2]
  refine CT (nx:=λi=>.seq (.ref la) i) (xs:=xs.map EU) (I:=λj m q=>Ex z m/\∃s:a7 (j0 AE),q=s.map CQ/\(∀x,a0 x∈s->IF m x)/\s.map (JK (·.2))=(xs.take j).flatMap λx=>tb.map λl=>Ap x.2 (a.2.zip l)) (λj m q hj hI=>T0 (LE3.ex hI.1) j) ?_ ?_ ⟨Ex.refl _,[],rfl,(λx d=>by cases d),rfl⟩
  .rintro j x A q kk' d z2 hk;ext k9 z2 K w;ext y0 w s rfl Y v;rw[o7,At]at d;ext c9 d y V rfl;let N:=p8 V;let LT4:=LT.ex K;exists(Q6 LT4),rfl;let hjl:=w6 V;let E:s.length<=j*8:=by
    let this:=t0 CJ v;rw[f7]at this;rw[this];let h2:=Im (B:=8) (g:=λx:AE=>tb.map λl=>Ap x.2 (a.2.zip l)) (xs.take j) λx w0=>by rw[f7];exact gA hN8 htl rfl
    rw[O9]at h2;exact b6 h2 (EJ 8 (Pc _ _))
   refine CT (nx:=λi=>.seq (.ref ta) i) (xs:=tb.map m8) (I:=λt m q=>Ex A m/\∃C:a7 (j0 AE),q=C.map CQ/\(∀x,a0 x∈C->IF m x)/\C.map (JK (·.2))=((xs.take j).flatMap λx=>tb.map λl=>Ap x.2 (a.2.zip l))++(tb.take t).map λl=>Ap y.2 (a.2.zip l)) (λt m q ht hI=>T0 (LT4.ex hI.1) t) ?_ ?_ ⟨Ex.refl _,s,rfl,Y,by rw[Gm,W0,Y5];exact v⟩
   .rintro t x D q kk'' d z3 hk';ext k9 z3 W w;ext y0 w C rfl H u;rw[o7,At]at d;ext c9 d l J rfl;let htl2:=w6 J;let zz:=(hxs y N).ex (x3.trans (K.trans W));ext1 zz ep D5;have U:(C.map CQ).length<=j8:=by rw[f7];let this:=t0 CJ u;rw[f7,u7,f7,O9]at this;let h5:=t0 CJ v;rw[f7]at h5;rw[<-h5]at this;rw[this];exact b6 (U0 (b6 E (EJ 8 (b6 (m9 hjl) (b6 F h8i)))) (GA (b6 htl hN8))) (by decide)
    have htk:(tb.take (t+1)).map (λl=>Ap y.2 (a.2.zip l))=(tb.take t).map (λl=>Ap y.2 (a.2.zip l))++[Ap y.2 (a.2.zip l)]:=by rw[Af,J,p9];rfl
    exists EU,rfl;refine vX D5 ((HE.ok y.2 (V9 N)).1) S.2 (htll l (p8 J)) hal (λhf Z X=>?_) λe' Z b ep' hf X D6=>?_
    .refine⟨U,hk' Z _ ⟨W.trans X,C++[b4],by rw[p9];rfl,λx d=>?_,?_⟩⟩
     .rcases v3 d with d|d
      .exact(H x d).ex X
      .rw[o9]at d;cases d
     .rw[p9,u,htk,hf,Eb];rfl
    .refine⟨U,hk' Z _ ⟨W.trans X,C++[a0 (b,e')],by rw[p9];rfl,λx d=>?_,?_⟩⟩
     .rcases v3 d with d|d
      .exact(H x d).ex X
      .rw[o9]at d;cases d;exact⟨ep',D6⟩
     .rw[p9,u,htk,hf,Eb];rfl
   .rintro D q z4;ext k9 z4 W w;ext y0 w C rfl H u;rw[f7,X6]at u;refine hk D _ ⟨K.trans W,C,rfl,H,?_⟩;rw[u,Af,V,oN];exact t0 _ (Y5 _).symm
  .rintro A q z5;ext k9 z5 K w;ext y0 w s rfl Y v;rw[f7,X6]at v;exists rfl;let W:=Ex.A A (.L (s.map CQ));have L5:=d6.new A (s.map CQ);generalize hlate:A.n=lt at L5;generalize A.A (.L (s.map CQ))=D at W L5 ⊢;have E:s.length<=xs.length*8:=by let this:=t0 CJ v;rw[f7]at this;rw[this];exact Im xs λx w0=>by rw[f7];exact gA hN8 htl rfl
   exists(Q6 L5),rfl;refine Ae (nx:=λi=>.seq (.ref lt) i) (xs:=s.map CQ) (p:=λx=>match x with| .none=>c8|_=>a8) (f:=id) (λi hi=>T0 L5 i) ?_ ?_
   .rintro j x q kk' d J hk;rw[o7,At]at d;ext c9 d y w0 rfl;cases y with|none=>exists 0,(rfl:B5 .isnot (CQ b4) .none D=a0 c8);exact hk|some y=>exists 0,(rfl:B5 .isnot (CQ (a0 y)) .none D=a0 a8);exact⟨(by rw[f7]at J;exact vM h8i F E J:q.length<=j8),hk⟩
   .let hres:(V1 (λx:b0=>match x with| .none=>c8|_=>a8) (s.map CQ)).map id=(s.filterMap id).map EU:=by
     rw[AZ];clear v Y E L5 W hlate
     induction s with
     |nil=>rfl
     |cons y s ih=>
      cases y with
      |none=>refine(?_:V1 _ (b0.none::s.map CQ)=_);exact ih
      |some y=>refine(?_:V1 _ (b0.ref y.1::s.map CQ)=_);rw[DS,g0 rfl,ih];rfl
    exists 0;rw[hres];let X:=Ex.A D (.L ((s.filterMap id).map EU));let L6:=d6.new D ((s.filterMap id).map EU);generalize hl2:D.n=lb at L6;revert X L6;refine gen (D.A (.L ((s.filterMap id).map EU))) λZ X L6=>?_;have T:∀x,x∈s.filterMap id↔a0 x∈s:=λx=>by
     rw[UX];constructor
     .rintro z6;ext c9 z6 y V e;have:y=a0 x:=e;rw[<-this];exact V
     .intro h;exact d0 (a0 x) h rfl
    let hE':Dy nodes R (ats.take i++[a]) ((s.filterMap id).map (·.2)):=by
     refine HE.next S λe'=>?_;let hopm:∀e',a0 e'∈s.map (JK (·.2))↔∃x∈s.filterMap id,x.2=e':=λe'=>by
      constructor
      .intro h;refine A8 h λy V e=>c9 (Iu e) ?_;clear e;rintro x rfl d;exact d0 x ((T x).mpr V) d
      .rintro z7;ext c9 z7 x d rfl;exact C0 (a:=a0 x) ((T x).mp d) rfl
     rw[Fv,<-hopm e',v,iY];constructor
     .rintro z8;ext c9 z8 x d J;exact A8 J λl hlm hf=>⟨x.2,V9 d,l,(htm l).mp hlm,hf⟩
     .rintro z9;ext c9 z9 e he w;ext1 w l J hf;ext A8 he x d rfl;exact d0 x d (C0 (a:=l) ((htm l).mpr J) hf)
    refine(hk1 _ _ ⟨(x2.trans (x3.trans (K.trans (W.trans X)))),by exact r1,by exact r2,lb,s.filterMap id,rfl,L6,λx d=>(Y x ((T x).mp d)).ex (W.trans X),?_,?_⟩).1
    .rw[Af,ha];exact hE'
    .let this:=jQ id s;rw[oW];exact b6 this (b6 E (EJ 8 F))
 .rintro ρ M O;ext1 O x2 r1 r2 w;ext C7 w la xs r3 LE hxs HE F;rw[f7,X6]at HE;rw[f7]at F;let h83:8 ^ ats.length<=512:=by let this:8 ^ ats.length<=8 ^ 3:=WN (by decide) h3;exact this
  exists r3,(Q6 LE),rfl;refine CT (nx:=λi=>.seq (.ref la) i) (xs:=xs.map EU) (I:=λj m q=>Ex M m/\q=(xs.take j).map λx=>TD x.2) (λj m q hj hI=>T0 (LE.ex hI.1) j) ?_ ?_ ⟨Ex.refl _,rfl⟩
  .rintro j x z q kk d z11 hk;ext1 z11 x3 rfl;rw[o7,At]at d;ext c9 d y V rfl;have N:=p8 V;let zz:=(hxs y N).ex x3;ext1 zz ep D3;let hy4:=(HE.ok y.2 (V9 N)).1.len;exists 0,EU,(XR D3 (show y.2.length<=10 by exact p6));let L4:=d6.new z (y8 (AG y.2));let K:=Ex.A z (.L (y8 (AG y.2)));generalize z.A (.L (y8 (AG y.2)))=A at L4 K ⊢;exists(ED L4),rfl;refine⟨by rw[f7,O9];exact GA (b6 F (b6 h83 (by decide))),hk A _ ⟨x3.trans K,?_⟩⟩;rw[Af,V,p9];rfl
  .rintro z q z12;ext1 z12 x3 rfl;rw[f7,X6];rw[(by rw[v9];rfl:(xs.map λx=>TD x.2)=(xs.map (·.2)).map TD)];exists 0;let K:=Ex.A z (.L ((xs.map (·.2)).map TD));let L4:=d6.new z ((xs.map (·.2)).map TD);generalize z.A (.L ((xs.map (·.2)).map TD))=A at K L4 ⊢;exists 0,(rx L4 (Jm _) (by rw[f7,f7];exact gA h83 F rfl) (HE.few G two lc hP hcnt hat h1 h3 hno ho4 hos));exact hq _ _ _ (x1.trans (x2.trans (x3.trans (K.trans (Ex.A _ _))))) (d6.new _ _) HE
theorem EY(I:v4 st ta c te fs)(e:ta≠te)(r:ρ "self"=a0 (.ref ta))(i:(CF c).contains f=a8)(j:fs.length<=20)
 (h:∀a,Fm (λb=>b=te) st a->a.n=st.n+1->v4 a ta c te ((f,.ref st.n)::fs)->d6 a st.n []->G4 C rest ρ a Q):G4 C (.k (.C (.a "self") f) (.L .nil)::rest) ρ st Q:=by
 generalize l:rest=g at h ⊢;exists 0,r;let d:=I.A;exists(d.set (v:=.ref st.n) i j),rfl;let k:=I.2.2.1;refine h _ ((Fm.ex (Ex.A _ _)).trans (Fm.set rfl)) rfl (M4 d.1 ((j4 e).trans d.2.1) d.2.2.1 (g0 rfl)) ((d6.new st []).set (K0 ‹_›))
theorem RW(I:v4 st ta c te fs)(e:ta≠te)(r:ρ "self"=a0 (.ref ta))(i:(CF c).contains f=a8)(j:fs.length<=20)
 (h:∀a,Fm (λb=>b=te) st a->a.n=st.n+1->v4 a ta c te ((f,.ref st.n)::fs)->m7 a st.n [] 0->G4 C rest ρ a Q):G4 C (.k (.C (.a "self") f) (.D [] .nil)::rest) ρ st Q:=by
 generalize l:rest=g at h ⊢;exists 0,r,W0,DR,AI;let d:=I.A;exists(d.set (v:=.ref st.n) i j),rfl;let k:=I.2.2.1;refine h _ ((Fm.ex (Ex.A _ _)).trans (Fm.set rfl)) rfl (M4 d.1 ((j4 e).trans d.2.1) d.2.2.1 (g0 rfl)) ((m7.new st [] 0).set (K0 ‹_›))theorem v4.fld(h:v4 st a c e fs)(b:a≠e):v4 (st.set e (.fld fs')) a c e fs':=M4 h.1 ((j4 b).trans h.2.1) h.2.2.1 (g0 rfl)theorem Ot{st:St}{c:j3}:v4 ((st.A (.fld [])).A (.I c st.n)) (st.n+1) c st.n []:=by refine M4 (B8 _) (g0 rfl) (N8 _) ((?_:(if st.n=st.n+1 then _ else if st.n=st.n then _ else _)=_));rw[j4 eF,g0 rfl]
theorem wg{Q:Q1}(I:v4 st ta "Bank" te [])(c:ta≠te)
 (r:∀a,Fm (λb=>b=te) st a->a.n=st.n+4->v4 a ta "Bank" te [("depths",.ref (st.n+3)),("weights",.ref (st.n+2)),("numbers",.ref (st.n+1)),("nodes",.ref st.n)]->
  d6 a st.n []->m7 a (st.n+1) [] 0->d6 a (st.n+2) []->d6 a (st.n+3) []->Q .none a):u9 u8 (k+1) "Bank" "__init__" [.ref ta] st Q:=by
 refine E3 (fd:=Ry) rfl rfl ?_;simp only[Ry];have d:te<st.n:=I.2.2.1;refine EY I c rfl rfl (by decide) λs t u v w=>RW v c rfl rfl (M7 _) λB i x j l=>EY j c rfl rfl (by simp) λC g y h m=>EY h c rfl rfl (by simp) λz e A f n=>?_;exists 0;have o:s.n=st.n+1:=u;let p:=bU x o;let q:=Za y p;rw[o]at l j h f;rw[p]at m h f;rw[q]at n f;exact r z (t.trans (i.trans (g.trans e))) (tW A q) f (((w.fr i (K0 ‹_›)).fr g (K0 ‹_›)).fr e (K0 ‹_›)) ((l.fr g (MU d)).fr e (MU d)) (m.fr e (tw d)) n
theorem dm{Q:Q1}(I:v4 st ta "Unions" te [])(c:ta≠te)
 (n:∀a,Fm (λb=>b=te) st a->a.n=st.n+3->v4 a ta "Unions" te [("merged",.ref (st.n+2)),("lots",.ref (st.n+1)),("above",.ref st.n)]->
  d6 a st.n []->d6 a (st.n+1) []->d6 a (st.n+2) []->Q .none a):u9 u8 (k+1) "Unions" "__init__" [.ref ta] st Q:=by
 refine E3 (fd:=TK) rfl rfl ?_;simp only[TK];have f:te<st.n:=I.2.2.1;refine EY I c rfl rfl (by decide) λo p q r s=>EY r c rfl rfl (M7 _) λw g t h i=>EY h c rfl rfl (by simp) λu d v e j=>?_;exists 0;have l:o.n=st.n+1:=q;let m:=bU t l;rw[l]at i h e;rw[m]at j e;exact n u (p.trans (g.trans d)) (Za v m) e ((s.fr g (K0 ‹_›)).fr d (K0 ‹_›)) (i.fr d (MU f)) j
def h0:HG:={N:=[],u:=⟨[],[],[],0⟩,R:=id,y:=[],ab:=[],Y:=[],ne:=0,nf:=0}
theorem xL:O6 h0 [] (λa=>k6) 0 0 where
 N:=⟨By,by exact F9 _,(λb h=>by cases h),(λi b h=>by simp[h0]at h)⟩
 uf:=⟨rfl,(λn p h=>by simp[h0]at h),(λn p h=>by simp[h0]at h),(λn h=>by simp[h0]at h)⟩
 lN:=rfl
 lotm:=λc l h=>by simp[h0]at h
 kn:=λe h=>by cases h
 knn:=By
 abk:=By
 abr:=λe h=>by cases h
 aba:=λc h=>(X7 _ h).elim
 abc:=λe h=>by cases h
 wt:=λn h=>by cases h
 cl:=λn b h=>by simp[h0]at h
 least:=λE a a m n d=>(X7 _ d).elim
 tO:=λp h=>by cases h
 sum:=l8 _
 lapN:=⟨F9 _,F9 _⟩
 bw:=l8 _
 bn:=m0 (l8 _) (l8 _) (l8 _)
structure Ss (st:St):Prop where
 n:st.n=21
 Z:v4 st 4 "Heap" 3 [("backs",.int 0),("waiting",.ref 20),("above",.ref 19),("known",.ref 18),("forest",.ref 17),("edges",.ref 16),("unions",.ref 12),("bank",.ref 6)]
 bank:v4 st 6 "Bank" 5 [("depths",.ref 10),("weights",.ref 9),("numbers",.ref 8),("nodes",.ref 7)]
 l7:d6 st 7 []
 d8:m7 st 8 [] 0
 l9:d6 st 9 []
 l10:d6 st 10 []
 uni:v4 st 12 "Unions" 11 [("merged",.ref 15),("lots",.ref 14),("above",.ref 13)]
 l13:d6 st 13 []
 l14:d6 st 14 []
 l15:d6 st 15 []
 l16:d6 st 16 []
 l17:d6 st 17 []
 d18:m7 st 18 [] 0
 d19:m7 st 19 [] 0
 l20:d6 st 20 []
theorem Ss.at(m:Ss st)(x:Ex st st')(b:23<=st'.n):y7 st' h0 where
 n23:=b
 Z:=m.Z.ex x
 bank:=⟨m.bank.ex x,m.l7.ex x,⟨0,m.d8.ex x⟩,(d0 [] (m.l9.ex x) rfl),(d0 [] (m.l10.ex x) rfl)⟩
 uni:=⟨m.uni.ex x,m.l13.ex x,m.l14.ex x,(d0 [] (m.l15.ex x) rfl),rfl,By,(λa h=>by cases h),(λi a l h=>by simp[h0]at h)⟩
 edges:=(d0 [] (m.l16.ex x) rfl)
 forest:=(d0 [] (m.l17.ex x) rfl)
 y:=⟨0,m.d18.ex x⟩
 above:=⟨0,m.d19.ex x⟩
 Y:=m.l20.ex x
 abl:=λe h=>by cases h
 abn:=By
theorem pd{st:St}{k:a6}{Q:Q1}(I:v4 st 4 "Heap" 3 [])(V:st.n=5)(hq:∀p,Fm (λb=>b=3) st p->Ss p->Q .none p):u9 u8 (k+2) "Heap" "__init__" [.ref 4] st Q:=by
 refine E3 (fd:=SC) rfl rfl ?_;simp only[SC];generalize u:([.k (.C (.a "self") "unions") (.new "Unions" .nil),.k (.C (.a "self") "edges") (.L .nil),.k (.C (.a "self") "forest") (.L .nil),.k (.C (.a "self") "known") (.D [] .nil),.k (.C (.a "self") "above") (.D [] .nil),.k (.C (.a "self") "waiting") (.L .nil),.k (.C (.a "self") "backs") (.e (.int 0))]:a7 S)=rest;exists 0;let o:=(Ex.A st (.fld [])).trans (Ex.A (st.A (.fld [])) (.I "Bank" st.n));let M:=Ot (st:=st) (c:="Bank");let N:((st.A (.fld [])).A (.I "Bank" st.n)).n=7:=by exact qV V
 rw[V]at M N o ⊢;revert o M N;refine gen ((st.A (.fld [])).A (.I "Bank" 5)) λs1 o M N=>?_;refine wg M (by decide) λO P n2 B2 L7 D8 L9 x=>?_;rw[N]at n2 B2 L7 D8 L9 x;let I2:=(I.ex o).fr P;exists rfl;exists(I2.set (f:="bank") (v:=.ref 6) rfl (by decide)),rfl;refine M8 (O.set 3 (.fld [("bank",.ref 6)])) λl r=>?_;have g3:Fm (λb=>b=3) O l:=by rw[<-r];exact Fm.set rfl
 have n3:l.n=11:=by rw[<-r];exact n2
 have I3:v4 l 4 "Heap" 3 [("bank",.ref 6)]:=by rw[<-r];exact I2.fld (by decide)
 rw[<-u];generalize m:([.k (.C (.a "self") "edges") (.L .nil),.k (.C (.a "self") "forest") (.L .nil),.k (.C (.a "self") "known") (.D [] .nil),.k (.C (.a "self") "above") (.D [] .nil),.k (.C (.a "self") "waiting") (.L .nil),.k (.C (.a "self") "backs") (.e (.int 0))]:a7 S)=rest2;exists 0;let w:=(Ex.A l (.fld [])).trans (Ex.A (l.A (.fld [])) (.I "Unions" l.n));let R:=Ot (st:=l) (c:="Unions");have T:((l.A (.fld [])).A (.I "Unions" l.n)).n=13:=by exact lv n3
 rw[n3]at R T w ⊢;revert w R T;refine gen ((l.A (.fld [])).A (.I "Unions" 11)) λs4 w R T=>?_;refine dm R (by decide) λs5 g5 n5 U5 y z A=>?_;rw[T]at n5 U5 y z A;have I5:=(I3.ex w).fr g5;exists rfl;exists(I5.set (f:="unions") (v:=.ref 12) rfl (by decide)),rfl;refine M8 (s5.set 3 (.fld [("unions",.ref 12),("bank",.ref 6)])) λW s=>?_;have g6:Fm (λb=>b=3) s5 W:=by rw[<-s];exact Fm.set rfl
 have n6:W.n=16:=by rw[<-s];exact n5
 have I6:v4 W 4 "Heap" 3 [("unions",.ref 12),("bank",.ref 6)]:=by rw[<-s];exact I5.fld (by decide)
 rw[<-m];refine EY I6 (by decide) rfl rfl (by decide) λs7 g7 n7 I7 B=>?_;rw[n6]at n7 I7 B;refine EY I7 (by decide) rfl rfl (by decide) λs8 X n8 I8 C=>?_;rw[n7]at n8 I8 C;refine RW I8 (by decide) rfl rfl (by decide) λs9 U n9 I9 D=>?_;rw[n8]at n9 I9 D;refine RW I9 (by decide) rfl rfl (by decide) λs10 i E F G=>?_;rw[n9]at E F G;refine EY F (by decide) rfl rfl (by decide) λH g J t K=>?_;rw[E]at J t K;exists 0;exists 0,(t.set (f:="backs") (v:=.int 0) rfl (by decide));generalize j:H.set 3 _=h;let a:Fm (λb=>b=3) H h:=by rw[<-j];exact Fm.set rfl
 let n12:h.n=21:=by rw[<-j];exact J
 let I12:v4 h 4 "Heap" 3 [("backs",.int 0),("waiting",.ref 20),("above",.ref 19),("known",.ref 18),("forest",.ref 17),("edges",.ref 16),("unions",.ref 12),("bank",.ref 6)]:=by rw[<-j];exact t.fld (by decide)
 let d:Fm (λb=>b=3\/b=11) O h:=(g3.mono λb Y q=>.inl q).trans ((Fm.ex w).trans ((g5.mono λb Y q=>.inr q).trans ((g6.mono λb Y q=>.inl q).trans ((g7.trans (X.trans (U.trans (i.trans (g.trans a))))).mono λb Y q=>.inl q))));let e:=g6.trans (g7.trans (X.trans (U.trans (i.trans (g.trans a)))));let L:Fm (λb=>b=3) st h:=by refine⟨b6 o.1 (b6 P.1 d.1),λb Z hp=>?_⟩;let hb5:=nl Z V;let h1:=j7 Z o.1;let h2:b<O.n:=j7 h1 P.1;rw[d.2 b h2 λq=>q.elim hp λq=>u6 (q▸hb5) (by decide),P.2 b h1 (m6 ‹_›),o.2 b Z]
 refine hq h L ⟨n12,I12,B2.fr d,L7.fr d,D8.fr d,L9.fr d,x.fr d,U5.fr e,y.fr e,z.fr e,A.fr e,
  B.fr (X.trans (U.trans (i.trans (g.trans a)))) (by decide),C.fr (U.trans (i.trans (g.trans a))) (by decide),D.fr (i.trans (g.trans a)) (by decide),G.fr (g.trans a),K.fr a⟩
theorem oo{nodes:a7 Nd}{R:a6->a6}{ats:a7 AQ}{es:a7 En}{os:a7 a6}{fs:a7 (a6×a7 a6)}(u:Dy nodes R ats es)(h:os.Nodup)(r:∀c,c∈os↔∃a∈ats,c∈a.2)(z:(fs.map (·.2)).Nodup)
 (y:∀f,f∈fs.map (·.2)↔f.length=os.length/\∀a∈ats,Y9 nodes R a.1 a.2.length (a.2.map (sg os f))):(fs.map λf=>TD (os.zip f.2)).Perm (C9 (es.map TD)):=by
 have v:∀f∈fs,f.2.length=os.length:=λf m=>((y f.2).mp (V9 m)).1;have j:∀e∈es,∀c,c∈e.map (·.1)↔c∈os:=λe k c=>by rw[(u.ok e k).2.1 c,r c]
 haveI:DV b0:=λa b=>DO _
 refine Li ?_ (GB (Jm es)) λx=>?_
 .rw[Br,Y6];refine Gg ?_ (List.pairwise_map.mp (BR z));intro f g m F A e;refine A ?_;rw[Il h (v f m),Il h (v g F)];refine A1 λc o=>?_;rw[HW h (v f m),HW h (v g F)]at e;refine A8 (cb e (p:=(c,sg os f.2 c)) (C0 (a:=c) o rfl)) λd M s=>?_;let w:=(Ct s).1;let G:=(Ct s).2;dsimp only at w G;rw[<-G,w]
 .rw[(EW (Jm es)) x];constructor
  .intro q;ext B0 q f m;let n:=(y f.2).mp (V9 m);ext1 n L w;refine c9 (u.all (sg os f.2) w) λe k B=>C0 (a:=e) k (t6 (u.ok e k) λl H H=>?_);rw[OM (Os l (j e k) h),HW h L];let i:(os.map λc=>(c,lk e c))=os.map λc=>(c,sg os f.2 c):=A1 λc o=>by
    refine A8 ((j e k c).mpr o) λp I t=>?_;let J:=IV l.1 I;rw[t]at J;unfold lk;rw[J];refine(?_:(c,p.2)=_);rw[(B p I),t]
   rw[i]
  .intro q;ext B0 q e k;let n:=u.ok e k;ext1 n l H C;let m:os.map (lk e)∈fs.map (·.2):=(y _).mpr ⟨by rw[f7],λa K=>by
    let i:a.2.map (sg os (os.map (lk e)))=a.2.map (lk e):=A1 λc o=>RK ((r c).mpr (d0 a K o));rw[i];exact C a K⟩
   refine A8 m λf D E=>C0 (a:=f) D (?_);rw[E,HW h (by rw[f7]),OM (Os l (j e k) h)];let i:(os.map λc=>(c,sg os (os.map (lk e)) c))=os.map λc=>(c,lk e c):=A1 λc o=>by rw[RK o]
   rw[i]
theorem ik{xs:a7 b0}(h:G9 xs):W2 xs xs=a8:=by
 induction xs with
 |nil=>rfl
 |cons x xs c=>refine(?_:(l3 x x&&W2 xs xs)=a8);rw[El (h x j5 x j5),c λa d b e=>h a (k8 _ d) b (k8 _ e)];rfl
theorem bK{st:St}{a:a6}{xs:a7 b0}(h:d6 st a xs)(d:d6 st b xs)(c:G9 xs):B5 .eq (.ref a) (.ref b) st=a0 a8:=by refine(?_:Bj st (.ref a) (.ref b)=_);unfold Bj;rw[h.list,d.list];refine(?_:(if Kj xs xs then a0 (W2 xs xs)else b4)=_);let e:Kj xs xs=a8:=ZP λx f y g=>c x f y g;rw[g0 e,ik c]theorem wR{st:St}{a:a6}{xs:a7 b0}(h:d6 st a xs)(c:d6 st b xs)(d:G9 xs):B5 .ne (.ref a) (.ref b) st=a0 c8:=by have f:=bK h c d;refine(?_:(Bj st (.ref a) (.ref b)).map (!·)=_);have e:Bj st (.ref a) (.ref b)=a0 a8:=f;rw[e];rfl
structure Lw (st:St) (N:a7 Nd) (P:a7 (a6×a6)) (R:a6->a6) (ats:a7 AQ) (aa ja je ta te rd lo:a6) (tbs:a7 Tb) (ev:a7 Ev):Prop where
 G:Da N
 two:N.take 2=[([97],[]),([98],[])]
 cnt:N.length+P.length<=8
 hP:∀p∈P,p.1<N.length/\p.2<N.length
 lc:Lc N P R
 rows:d6 st 21 (N.map o4)
 pairs:d6 st 22 (P.map AR)
 asked:d6 st aa (ats.map W9)
 a1:1<=ats.length
 a3:ats.length<=3
 atm:∀a∈ats,isAtom a
 J:IT st ja je ta te rd lo tbs ev
 ev:∀(ky:Bg)l,(ky,l)∈ev↔Y9 N R ky.1 ky.2 l
section
variable{ev:a7 Ev}
theorem Lw.ex(h:Lw st nodes P R ats aa ja je ta te rd lo tbs ev)(x:Ex st st'):Lw st' nodes P R ats aa ja je ta te rd lo tbs ev:=
 {h with rows:=h.rows.ex x,pairs:=h.pairs.ex x,asked:=h.asked.ex x,J:=h.J.ex x}theorem Zo{M:a6->a6}(a:Lc nodes P M)(b:Lc nodes P R):Y2 M nodes.length=Y2 R nodes.length:=by unfold Y2;congr 1;exact A1 λn c=>a.eq b (U8 c)
theorem Lw.len(h:Lw st nodes P R ats aa ja je ta te rd lo tbs ev)(d:Bg):(E8 ev d).length<=nodes.length:=by
 let c:=Rz (rel:=λ(l:a7 a6)(n:a6)=>∃a,nodes[n]?=a0 a/\l=R n::a.2.map R) (m:=p0 nodes.length) (Zc h.J.E d).1 (λl i=>by
  exact T8 ((h.ev d l).mp ((Kq ev d l).mp i)) λn a b f f e=>⟨n,Cv (w6 b),a,b,e⟩) λl f q f n b e=>by
   ext c9 b a j k;ext c9 e p g o;rw[j]at g;cases g;rw[k,o]
 rwa [Bw]at c
theorem Lw.line(h:Lw st nodes P R ats aa ja je ta te rd lo tbs ev){d:Bg}{l:a7 a6}(e:l∈E8 ev d):l.length=d.2/\(∀x∈l,x<8)/\l≠[]:=by
 refine T8 ((h.ev d l).mp ((Kq ev d l).mp e)) ?_;clear e;rintro n i f p j rfl;let k:=w6 f;refine m0 (by rw[N6,f7,j]) (λx b=>?_) (by simp);have c:∀m,m<nodes.length->R m<8:=λm g=>by let a:=h.lc.le m g;exact q5 a (j7 g (b6 (G3 _ _) h.cnt))
 rcases D9 b with rfl|b
 .exact c n k
 .refine B0 b ?_;clear b;clear b;rintro y o;exact c y (by let a:=h.G.kid n i f y o;exact b6 ‹_› (m9 ‹_›))
theorem bh{k:a6}{ρ:Env}{Q:Q1}(H:Lw st nodes P R ats aa ja je ta te rd lo tbs ev)(N:ρ "asked"=a0 (.ref aa))(r2:ρ "joins"=a0 (.ref ja))(r3:ρ "rows"=a0 (.ref 21))(r4:ρ "pairs"=a0 (.ref 22))
 (hq:∀o,Q (.bool a8) o):G4 (u9 u8 (k+2)) (w9.body.drop 7) ρ st (Dx Q):=by
 simp only[w9,HK,DP];obtain⟨c,ar,m⟩:∃c ar,ats=c::ar:=by
  cases ats with
  |nil=>let this:=H.a1;simp at this
  |cons a r=>exact Dw a r rfl
 let hal:c.2.length<=4:=U4 (Tu (H.atm c (by rw[m];exact j5)));have u:=H.cnt;let e1:Eh (.ref aa) (1:d3) st=a0 (.ref st.n,st.A (.L [W9 c])):=by
  refine(?_:(match st.list? (.ref aa)with
   |some xs=>if(0:d3)<=1/\(1:d3)<=j8 then a0 (b0.ref st.n,st.A (.L (xs.take (1:d3).toNat)))else b4
   |none=>b4)=_)
  rw[H.asked.list];refine(?_:(if(0:d3)<=1/\(1:d3)<=j8 then a0 (b0.ref st.n,st.A (.L ((ats.map W9).take (1:d3).toNat)))else b4)=_);rw[g0 ⟨by solve_by_elim (maxDepth:=2)only[*,j7],by unfold j8;solve_by_elim (maxDepth:=2)only[*,j7]⟩,m];rfl
 exists N,e1,rfl;let K:=Ex.A st (.L [W9 c]);let A:=d6.new st [W9 c];generalize st.n=la at A ⊢;revert K A;refine gen (st.A (.L [W9 c])) λU K A=>?_;exists(Q6 A),rfl;refine CT (nx:=λi=>.seq (.ref la) i) (xs:=[W9 c]) (I:=λi o g=>Ex U o/\g=if i=0 then[]else(E8 ev (c.1,c.2.length)).map m8) (λi o g O hI=>T0 (A.ex hI.1) i) ?_ ?_ ⟨Ex.refl _,rfl⟩
 .rintro i x h g kk B z1 hk;ext k9 z1 L d;have O:i=0:=by let this:=w6 B;simpa using this
  subst O;cases B;rw[g0 rfl]at d;subst d;have C:=(H.J.ex K).ex L;refine d4 C.j λcr hJ=>?_;have e2:G8 h (.ref ja) "tables"=a0 (.ref ta):=hJ.C rfl rfl;have w:∀ρ,AD ["op","names"] (W9 c) ρ=a0 ((ρ.set "op" (.str c.1)).set "names" (.B (c.2.map sD))):=λz=>rfl;have e:∀s,M3 .len [.B (c.2.map sD)] s=a0 (iD c.2.length,s):=λs=>by
   have:=GS (st:=s) (xs:=c.2.map sD) (by rw[f7];exact p6)
   rwa [f7]at this
  exists 0,w,r2,e2,C.t.I,e;refine C.t.go (YQ C.t C.T λG b D t=>?_);exists(Q6 t),rfl;refine Ae (nx:=λi=>.seq (.ref b) i) (xs:=(E8 ev (c.1,c.2.length)).map m8) (p:=λz=>a8) (f:=id) (λi O=>T0 t i) ?_ ?_
  .rintro j y g kk' hy E V;rw[f7]at E;exact⟨by unfold j8;exact ni u (H.len (c.1,c.2.length)) E,by simpa using V⟩
  .rw[AZ,CS λz z=>rfl];exact hk G _ ⟨L.trans D,by rw[j4 (by decide)]⟩
 .rintro h g z2;ext k9 z2 L d;have d:g=(E8 ev (c.1,c.2.length)).map m8:=by rw[d,j4 (by simp)]
  subst d;exists 0;have D:=Ex.A h (.L ((E8 ev (c.1,c.2.length)).map m8));have t:=d6.new h ((E8 ev (c.1,c.2.length)).map m8);generalize h.n=lb at t ⊢;revert D t;refine gen (h.A (.L ((E8 ev (c.1,c.2.length)).map m8))) λG D t=>?_;have F:=H.ex (K.trans (L.trans D));exists r3,r4,rfl;refine bC F.G F.rows F.pairs F.hP (XG u) λv am M x4 L4 W=>?_;rw[Zo W H.lc]at L4;have S:=F.ex x4;have f1:J9 (.ref aa) (.int 0) v=a0 (W9 c):=AT (i:=0) S.asked (F9 _) (by rw[m];rfl);have f2:J9 (W9 c) (.int 0) v=a0 (.str c.1):=BY (i:=0) (F9 _) rfl;have f3:J9 (W9 c) (.int 1) v=a0 (.B (c.2.map sD)):=BY (i:=1) (K9 _ _) rfl;have e:∀s,M3 .len [.B (c.2.map sD)] s=a0 (iD c.2.length,s):=λs=>by
   have:=GS (st:=s) (xs:=c.2.map sD) (by rw[f7];exact p6)
   rwa [f7]at this
  exists N,f1,f2,f3,e,rfl;(try exists 0,N,f1,f2,f3,e);refine Zp S.G S.rows L4 λq b tb x5 L5 X J Y=>?_;let Z:B9 (tb.map m8)=a8:=by unfold B9;simp only[C4,C3];refine⟨⟨by rw[f7];exact fq u Y,Hd (OT tb)⟩,Cw λx B=>B0 B ?_⟩;rintro l E;refine T8 ((J l).mp E) ?_;clear E B;rintro n nd z z z rfl;rfl
  exists(Lp L5 Z),rfl;rw[(dl H.J.E X λl=>by rw[J l];exact(H.ev (c.1,c.2.length) l).symm)];let x6:=Ex.A q (.L ((E8 ev (c.1,c.2.length)).map m8));let T:=d6.new q ((E8 ev (c.1,c.2.length)).map m8);generalize q.n=lc at T ⊢;generalize q.A (.L ((E8 ev (c.1,c.2.length)).map m8))=st6 at x6 T ⊢;exists 0,(bK (t.ex (x4.trans (x5.trans x6))) T (OT _));exact hq st6
end
theorem vA{k:a6}{us:a7 a6}{es:a7 En}{ρ:Env}{Q:Q1}(H:Lw st nodes P R ats aa ja je ta te rd lo tbs ev)(r1:ρ "asked"=a0 (.ref aa))(r2:ρ "joins"=a0 (.ref ja))(r3:ρ "rows"=a0 (.ref 21))(r4:ρ "pairs"=a0 (.ref 22))
 (r5:ρ "some"=a0 (.ref sa))(r6:ρ "turn"=a0 (iD t))(r7:ρ "due"=a0 (.ref da))(LS:d6 st sa (us.map sD))(ht:t<us.length)(W:us.Nodup)(h:us.length<=4)(X:∀c,c∈us↔∃a∈ats,c∈a.2)
 (LD:d6 st da (y8 (C9 (es.map TD))))(HE:Dy nodes R ats es)(hq:∀d,Q (.bool a8) d):G4 (u9 u8 (k+3)) (w9.body.drop 6) ρ st (Dx Q):=by
 let hb:w9.body.drop 6=(w9.body.drop 6).head (by simp[w9])::w9.body.drop 7:=rfl;rw[hb];generalize E:w9.body.drop 7=rest;let e1:Er (.ref sa) ((t:a6):d3) st=a0 (.ref st.n,st.A (.L ((us.map sD).drop t))):=by
  refine(?_:(match st.list? (.ref sa)with
   |some xs=>if 0<=((t:a6):d3)/\((t:a6):d3)<=j8 then a0 (b0.ref st.n,st.A (.L (xs.drop ((t:a6):d3).toNat)))else b4
   |none=>b4)=_)
  rw[LS.list];refine(?_:(if 0<=((t:a6):d3)/\((t:a6):d3)<=j8 then a0 (b0.ref st.n,st.A (.L ((us.map sD).drop ((t:a6):d3).toNat)))else b4)=_);rw[g0 ⟨by solve_by_elim (maxDepth:=2)only[*,j7],by unfold j8;exact Int.ofNat_le.mpr (b6 (m9 ht) (b6 h (by decide)))⟩,Q7]
 exists r5,r6,e1,rfl;let x1:=Ex.A st (.L ((us.map sD).drop t));let L1:=d6.new st ((us.map sD).drop t);generalize st.n=p1 at L1 ⊢;revert x1 L1;refine gen (st.A (.L ((us.map sD).drop t))) λn x1 L1=>?_;let Y:=LS.ex x1;let e2:Eh (.ref sa) ((t:a6):d3) n=a0 (.ref n.n,n.A (.L ((us.map sD).take t))):=by
  refine(?_:(match n.list? (.ref sa)with
   |some xs=>if 0<=((t:a6):d3)/\((t:a6):d3)<=j8 then a0 (b0.ref n.n,n.A (.L (xs.take ((t:a6):d3).toNat)))else b4
   |none=>b4)=_)
  rw[Y.list];refine(?_:(if 0<=((t:a6):d3)/\((t:a6):d3)<=j8 then a0 (b0.ref n.n,n.A (.L ((us.map sD).take ((t:a6):d3).toNat)))else b4)=_);rw[g0 ⟨by solve_by_elim (maxDepth:=2)only[*,j7],by unfold j8;exact Int.ofNat_le.mpr (b6 (m9 ht) (b6 h (by decide)))⟩,Q7]
 exists r5,r6,e2,rfl;let J:=Ex.A n (.L ((us.map sD).take t));let L2:=d6.new n ((us.map sD).take t);generalize n.n=p2 at L2 ⊢;revert J L2;refine gen (n.A (.L ((us.map sD).take t))) λs2 J L2=>?_;exists(Oq (L1.ex J) L2 (by rw[LY,O9,f7];exact b6 (U0 (Mo _ _) (Ge _ _)) (b6 (U0 h h) (by decide)))),rfl;rw[<-a7.map_drop,<-a7.map_take,<-p9];let x3:=Ex.A s2 (.L ((us.drop t++us.take t).map sD));let L3:=d6.new s2 ((us.drop t++us.take t).map sD);generalize s2.n=K at L3 ⊢;revert x3 L3;refine gen (s2.A (.L ((us.drop t++us.take t).map sD))) λu x3 L3=>?_;let LS3:=Y.ex (J.trans x3);let e4:Fi (.ref sa) u=a0 (.ref u.n,u.A (.L (us.reverse.map sD))):=by unfold Fi;rw[LS3.list,pU]
 exists r5,e4,rfl;let x4:=Ex.A u (.L (us.reverse.map sD));let L4:=d6.new u (us.reverse.map sD);generalize u.n=L at L4 ⊢;revert x4 L4;refine gen (u.A (.L (us.reverse.map sD))) λs4 x4 L4=>?_;let M:=Ex.A s4 (.L [.ref K,.ref L]);let N:=d6.new s4 [.ref K,.ref L];generalize s4.n=p5 at N ⊢;revert M N;refine gen (s4.A (.L [.ref K,.ref L])) λs5 M N=>?_;exists(Q6 N),rfl;have X5:Ex st s5:=x1.trans (J.trans (x3.trans (x4.trans M)));let H5:=H.ex X5;let LD5:=LD.ex X5;let L35:=L3.ex (x4.trans M);let L45:=L4.ex M;let hc8:=H.cnt;have o:=HE.few H.G H.two H.lc H.hP H.cnt H.atm H.a1 H.a3 W h X;refine BF (nx:=λi=>.seq (.ref p5) i) (xs:=[.ref K,.ref L]) (I:=λi ρ d=>Ex s5 d/\ρ "asked"=a0 (.ref aa)/\ρ "joins"=a0 (.ref ja)/\ρ "rows"=a0 (.ref 21)/\ρ "pairs"=a0 (.ref 22)/\ρ "due"=a0 (.ref da)) (λi ρ d hi hI=>T0 (N.ex hI.1) i) ?_ ?_ ⟨Ex.refl _,r1,r2,r3,r4,r7⟩
 .rintro i x ρ' st6 kk F z1 hk1 hk2;ext bT z1 O S T q3 q4 q7;obtain⟨oa,os,hxo,LO,B⟩:∃(oa:a6)(os:a7 a6),x= .ref oa/\d6 s5 oa (os.map sD)/\os.Perm us:=by
   rcases i with _|_|i
   .cases F;exact E9 K _ rfl L35 (List.perm_append_comm.trans (by rw[VY]))
   .cases F;exact E9 L _ rfl L45 (oX us)
   .simp at F
  clear F;subst hxo;let H6:=H5.ex O;let v:=H6.J.j;ext1 v cr hJ;have Z:os.Nodup:=B.nodup_iff.mpr W;have hol:os.length<=4:=by rw[B.length_eq];exact h
  have C:∀c,c∈os↔∃a∈ats,c∈a.2:=λc=>by rw[B.mem_iff,X c]
  exists T,S,hJ.I,rfl;(try exists 0,T,S,hJ.I);refine hJ.go (al H6.J H6.asked (LO.ex O) Z hol H.a3 (λc hc=>(C c).mp hc) (λa w=>?_) (λa w=>⟨b6 (H.len _) (b6 (G3 _ _) (b6 hc8 (by decide))),λl hl=>⟨(H.line hl).1,(H.line hl).2.1⟩⟩) λst7 r G x7 L7 D7 hnd hm=>?_)
  .have hat:=H.atm a w;refine m0 (λe=>?_) ?_ λc hc=>(C c).mpr (d0 a w hc)
   .let s:=hat.1;rw[e]at s;simp at s
   .exact U4 (Tu hat)
  .let hm':∀f,f∈G.map (·.2)↔f.length=os.length/\∀a∈ats,Y9 nodes R a.1 a.2.length (a.2.map (sg os f)):=λf=>by
    rw[hm f];constructor
    .rintro z2;ext k9 z2 h1 h2;exact⟨h1,λa w=>(H.ev (a.1,a.2.length) _).mp ((Kq _ _ _).mp (h2 a w))⟩
    .rintro z3;ext k9 z3 h1 h2;exact⟨h1,λa w=>(Kq _ _ _).mpr ((H.ev (a.1,a.2.length) _).mpr (h2 a w))⟩
   have p:=oo HE Z C hnd hm';let g:=ZJ p o;let hFl:=Ha g;rw[f7]at hFl;exists(Q6 L7),rfl;refine CT (nx:=λi=>.seq (.ref r) i) (xs:=G.map λf=>.ref f.1) (I:=λj d q=>Ex st7 d/\q=(G.take j).map λf=>TD (os.zip f.2)) (λj d q hj hI=>T0 (L7.ex hI.1) j) ?_ ?_ ⟨Ex.refl _,rfl⟩
   .rintro j y b q kk' U z4 hk;ext1 z4 x8 rfl;rw[o7,At]at U;ext c9 U f hf rfl;have hfm:=p8 hf;let v:=D7 f hfm;ext1 v ep D8;let D8':=D8.ex x8;let hzl:(os.zip f.2).length<=10:=by rw[Qw];exact Jb (b6 hol (by decide))
    let f1:=XR D8' hzl;exists 0,f1;let z:=d6.new b (y8 (AG (os.zip f.2)));let V:=Ex.A b (.L (y8 (AG (os.zip f.2))));generalize b.A (.L (y8 (AG (os.zip f.2))))=m at z V ⊢;exists(ED z),rfl;refine⟨by rw[f7,O9];exact GA (b6 (m9 hFl) (by decide)),hk m _ ⟨x8.trans V,?_⟩⟩;rw[Af,hf,p9];rfl
   .rintro b q z5;ext1 z5 x8 rfl;rw[f7,X6];exists rfl;let V:=Ex.A b (.L (G.map λf=>TD (os.zip f.2)));let z:=d6.new b (G.map λf=>TD (os.zip f.2));generalize b.n=fa at z ⊢;generalize b.A (.L (G.map λf=>TD (os.zip f.2)))=m at V z ⊢;let hso:=RU (FN o) (FN g) p;exists(Lp z g),hso,rfl;(try exists 0,(Lp z g),hso);let x10:=Ex.A m (.L (y8 (C9 (es.map TD))));let D:=d6.new m (y8 (C9 (es.map TD)));generalize m.n=ga at D ⊢;generalize m.A (.L (y8 (C9 (es.map TD))))=st10 at x10 D ⊢;let X10:=O.trans (x7.trans (x8.trans (V.trans x10)));exists 0,q7,(wR D (LD5.ex X10) λx F y U=>FN o x ((Y1 _).mem_iff.mp F) y ((Y1 _).mem_iff.mp U));exact(hk1 _ _ ⟨X10,by exact S,by exact T,by exact q3,by exact q4,by exact q7⟩).1
 .rintro ρ' st6 A;ext1 A O S T q3 q4 q7;exists 0;rw[<-E];exact bh (H5.ex O) S T q3 q4 hq
section
variable{sp:a6}{ev:a7 Ev}
theorem Kn(F:V5 st sp)(h:d6 st a xs):a≠2:=λe=>by
 ext n4 F b b b D b;have c:=h.2;rw[e,D.2]at c;cases c
theorem MR(F:V5 st sp)(h:v4 st a c e fs):a≠2/\e≠2:=by
 ext n4 F d d d D d;refine⟨λq=>?_,λq=>?_⟩
 .have b:=h.2.1;rw[q,D.2]at b;cases b
 .have b:=h.2.2.2;rw[q,D.2]at b;cases b
theorem Lw.fr2(h:Lw st nodes P R ats aa ja je ta te rd lo tbs ev)(F:V5 st sp)(g:Fm (λb=>b=2) st st'):Lw st' nodes P R ats aa ja je ta te rd lo tbs ev:=by
 let i:rd≠2:=λq=>by
  ext n4 F f f f D f;let a:=h.J.T.dict;ext1 a j c;let d:=c.2;rw[q,D.2]at d;injection d with d _;clear h c;cases tbs with
  |nil=>cases d
  |cons t r=>have l:=(Ct ((Gq d).1:(q9 "cells",b0.ref 1)=(AM t.1,b0.ref t.2.1))).1;cases l
 let a:=h.J.j;ext1 a m e;refine{h with rows:=h.rows.fr g (Kn F h.rows),pairs:=h.pairs.fr g (Kn F h.pairs),asked:=h.asked.fr g (Kn F h.asked),J:=⟨⟨m,e.fr g (MR F e).1 (MR F e).2⟩,h.J.t.fr g (MR F h.J.t).1 (MR F h.J.t).2,⟨?_,h.J.T.keys,h.J.T.adrs,λt n=>?_,h.J.T.has,h.J.T.few⟩,h.J.E⟩}
 .exact d4 h.J.T.dict λj c=>⟨j,c.fr g i⟩
 .let a:=h.J.T.cell t n;ext1 a o p k s;exact M4 o p (k.fr g (Kn F k)) s
theorem jy{o:a6}{us:a7 a6}{ρ:Env}{Q:Q1}(H:Lw st nodes P R ats aa ja je ta te rd lo tbs ev)(F:V5 st sp)(J:sp<=100)(p:ρ "asked"=a0 (.ref aa))(A:ρ "joins"=a0 (.ref ja))(q:ρ "rows"=a0 (.ref 21))(r:ρ "pairs"=a0 (.ref 22))
 (s:ρ "some"=a0 (.ref o))(B:ρ "feed"=a0 (.ref 2))(j:d6 st o (us.map sD))(i:0<us.length)(f:us.Nodup)(g:us.length<=4)(h:∀c,c∈us↔∃a∈ats,c∈a.2)(C:∀l,Q (.bool a8) l):G4 (u9 u8 29) (w9.body.drop 5) ρ st (Dx Q):=by
 let D:w9.body.drop 5=(w9.body.drop 5).head (by simp[w9])::w9.body.drop 6:=rfl;rw[D];generalize d:w9.body.drop 6=z;simp only[w9,HK,DP,Hv];let u:=W8 j;rw[f7]at u;exists B,s,u,rfl;refine FA (k:=28) F p6 i p6 λK t v O E=>?_;have e:=H.fr2 F v;let m:=H.cnt;exists q,r,rfl;refine bC (k:=28) e.G e.rows e.pairs e.hP (XG m) λL S M w x n=>?_;rw[Zo n H.lc]at x;let b:=e.ex w;exists 0,p;refine jr (k:=27) b.G b.two b.lc b.hP b.cnt b.atm b.a1 b.a3 f g h b.rows x b.asked λN T U y G I=>?_;exists 0,Ey;rw[<-d];exact vA (k:=26) (b.ex y) p A q r s rfl rfl (((j.fr v (Kn F j)).ex w).ex y) E f g h G I C
theorem cp(H:Lw st nodes P R ats aa ja je ta te rd lo tbs ev)(F:V5 st sp)(U:sp<=100)(Y:ρ "asked"=a0 (.ref aa))(r2:ρ "joins"=a0 (.ref ja))(r3:ρ "rows"=a0 (.ref 21))(r4:ρ "pairs"=a0 (.ref 22))
 (r6:ρ "feed"=a0 (.ref 2))(hq:∀n,Q (.bool a8) n):G4 (u9 u8 29) (w9.body.drop 4) ρ st (Dx Q):=by
 let hb:w9.body.drop 4=(w9.body.drop 4).head (by simp[w9])::w9.body.drop 5:=rfl;rw[hb];generalize A:w9.body.drop 5=rest;simp only[w9,HK,DP,Hv];exists Y,(Q6 H.asked),rfl;have v:∀a∈ats,a.2.length<=3/\a.2≠[]:=λa u=>by
  rcases(H.atm a u).1 with q|q|q|q
  .exact⟨by rw[q.2];decide,λe=>by rw[e]at q;simp at q⟩
  .exact⟨by rw[q.2];decide,λe=>by rw[e]at q;simp at q⟩
  .exact⟨by rw[q.2];decide,λe=>by rw[e]at q;simp at q⟩
  .exact⟨by rw[q.2];decide,λe=>by rw[e]at q;simp at q⟩
 have z:∀i,((ats.take i).flatMap (·.2)).length<=9:=λi=>by
  let Z:=Im (B:=3) (g:=λa:AQ=>a.2) (ats.take i) λa u=>(v a (Ml u)).1;rw[O9]at Z;let h2:=b6 (Ge _ _) H.a3;let L:=EJ 3 h2;exact b6 Z L
 refine CT (nx:=λi=>.seq (.ref aa) i) (xs:=ats.map W9) (I:=λi n l=>n=st/\l=((ats.take i).flatMap (·.2)).map sD) (λi n l hi hI=>by rw[hI.1];exact T0 H.asked i) ?_ ?_ ⟨rfl,rfl⟩
 .rintro i x p l kk t z1 hk;ext k9 z1 rfl rfl;rw[o7,At]at t;ext c9 t a u rfl;let C:∀ρ,AD ["op","names"] (W9 a) ρ=a0 ((ρ.set "op" (.str a.1)).set "names" (.B (a.2.map sD))):=λM=>rfl;exists C,Ez,rfl;refine CT (nx:=λi=>.seq (.B (a.2.map sD)) i) (xs:=a.2.map sD) (I:=λj n l=>n=p/\l=((ats.take i).flatMap (·.2)).map sD++(a.2.take j).map sD) (λj n l hj hI=>Ds j) ?_ ?_ ⟨rfl,by simp⟩
  .rintro j y s l kk' w z2 V;refine k9 z2 ?_;clear z2;clear H F hk;rintro rfl rfl;refine c9 (bM w) ?_;clear w;rintro c N rfl;let D:=z i;let L:=(v a (p8 u)).1;refine⟨by rw[u7,f7,f7,O9];exact b6 (U0 D (GA L)) (by decide),V _ _ ⟨rfl,?_⟩⟩;rw[Af,N,p9,Eb];rfl
  .rintro s l z3;refine k9 z3 ?_;clear z3;clear H F;rintro rfl rfl;refine hk _ _ ⟨rfl,?_⟩;rw[f7,X6,Af,u,oN,p9];simp
 .rintro p l z4;ext k9 z4 rfl rfl;rw[f7,X6];have h:G9 ((ats.flatMap (·.2)).map sD):=λx t y w=>by
   ext B0 t c M;ext B0 w d M;rfl
  refine KW (eR (f:=sD) (λa b=>Lo) h) λG u1 u2 u3 u4 u5=>?_;let D:=z ats.length;rw[X6]at D;let E:B9 (C9 ((ats.flatMap (·.2)).map sD))=a8:=by
   let J:=EW h;haveI:DV b0:=λa b=>DO _
   unfold B9;simp only[C4,C3];refine⟨⟨?_,Hd λx t y w=>h x ((J x).mp t) y ((J y).mp w)⟩,Cw λx t=>?_⟩
   .let k:=V4 (GB h) λx t=>(J x).mp t;rw[f7]at k;exact q5 k (q5 D (by decide))
   .refine B0 ((J x).mp t) ?_;rintro c M;rfl
  exists 0;let O:=Ex.A p (.L ((ats.flatMap (·.2)).map sD));let K:=d6.new p ((ats.flatMap (·.2)).map sD);generalize p.n=la at K ⊢;generalize p.A (.L ((ats.flatMap (·.2)).map sD))=s at O K ⊢;rw[TX K h (by rw[f7];exact p6) E,u3];exists 0;let S:=Ex.A s (.L (G.map sD));let T:=d6.new s (G.map sD);generalize s.n=lb at T ⊢;generalize s.A (.L (G.map sD))=st3 at S T ⊢;rw[<-A];have o:∀c,c∈G↔∃a∈ats,c∈a.2:=λc=>by rw[u2 c,iY]
  refine jy (H.ex (O.trans S)) (F.ex (O.trans S)) U Y r2 r3 r4 rfl r6 T ?_ u1 ?_ o hq
  .obtain⟨a,u⟩:∃a,a∈ats:=by
    clear v z h u2 u3 u5 D E K o;cases ats with
    |nil=>let k:=H.a1;simp at k
    |cons a r=>exact⟨a,j5⟩
   exact R9 (iU (v a u).2) λc r W=>Wh ((o c).mpr (d0 a u (by rw[W];exact j5)))
  .let k:=V4 (m:=[120,121,122,119]) u1 λc N=>by
    refine c9 ((o c).mp N) λa u X=>?_;rcases(H.atm a u).2 c X with q|q|q|q<;>rw[q]<;>simp
   exact k
end
theorem tL{st:St}{h:HG}{P:a7 (a6×a6)}{s z:a6}{ρ:Env}{Q:Q1}(B:NT st h P s z)(A:h.Y=[])(t:z<=20)(H:ρ "rows"=a0 (.ref 21))(I:ρ "pairs"=a0 (.ref 22))(C:ρ "feed"=a0 (.ref 2))(J:ρ "heap"=a0 (.ref 4))(K:∀u,Q (.bool a8) u):
 G4 (u9 u8 29) (w9.body.drop 3) ρ st (Dx Q):=by
 let o:w9.body.drop 3=(w9.body.drop 3).head (by simp[w9])::w9.body.drop 4:=rfl;rw[o];generalize i:w9.body.drop 4=G;simp only[w9,HK,DP,Hv];exists C,rfl;refine uw (k:=27) B.feed p6 λa L v Z m D haa M j N O w=>?_;have E:=B.H.out m (by decide);exists J,rfl;let g:=(Ex.A a (.fld [])).trans (Ex.A (a.A (.fld [])) (.I "Joins" a.n));let q:=Ot (st:=a) (c:="Joins");generalize d:a.n=r at q g ⊢;generalize((a.A (.fld [])).A (.I "Joins" r))=st2 at g q ⊢;let S:IS h P:=⟨B.K.N,B.K.uf,B.K.lN,B.K.lotm,B.K.lc A⟩;let h21:=B.rows.1;let e:=B.pairs.1;let f:=m.1;refine qh (k:=23) (E.ex g) S q (λb o=>by let l:=E.own_lt o;exact KL l d) Xi λst3 T U V W x X n Y y=>?_;exists 0,Ey;rw[<-i];refine cp (nodes:=h.N) (P:=P) (R:=h.R) (ats:=v) (aa:=L) (ja:=r+1) (je:=r) (ta:=T) (te:=U) (rd:=V) (lo:=W) (tbs:=x) (ev:=X) ⟨B.K.N,B.two,b6 B.cnt (O8 B.K.lapN.2 2),λp F=>⟨(B.K.tO p F).1,(B.K.tO p F).2.1⟩,B.K.lc A,
  ((B.rows.fr m).ex g).fr n (gJ e f d rfl),((B.pairs.fr m).ex g).fr n (gJ e f d rfl),(D.ex g).fr n (Of D.1 d),N,O,w,Y,y⟩ ((M.ex g).fr n (gJ e f d rfl) (gJ e f d rfl)) (b6 j (b6 (O8 t 13) (by decide))) rfl rfl H I C K
theorem tP(H:y7 st h0)(i:d6 st 21 [])(j:d6 st 22 [])(F:V5 st 0)(d:ρ "rows"=a0 (.ref 21))(e:ρ "pairs"=a0 (.ref 22))(f:ρ "feed"=a0 (.ref 2))(g:ρ "heap"=a0 (.ref 4))(l:∀b,Q (.bool a8) b):
 G4 (u9 u8 29) (w9.body.drop 2) ρ st (Dx Q):=by
 let m:w9.body.drop 2=(w9.body.drop 2).head (by simp[w9])::w9.body.drop 3:=rfl;rw[m];generalize a:w9.body.drop 3=h;simp only[w9,HK,DP,Hv];exists f,g,d,e,rfl;refine zU (k:=22) H xL rfl i j F λo q P p r B n c=>?_;exists rfl;rw[<-a];exact tL B n c d e f g l
def Tc:b0->b0
 | .int x=>iD (x.fmod 1000003).toNat
 |_=>.none
theorem law_true(xs:a7 d3):u9 u8 30 "" "law" [.ro xs] ⟨0,λj=>.L []⟩ λd j=>d= .bool a8:=by
 refine E3 (k:=29) (fd:=w9) rfl rfl ?_;let U:w9.body=w9.body.head (by simp[w9])::w9.body.drop 1:=rfl;rw[U];generalize m:w9.body.drop 1=T;simp only[w9,Hv];generalize v:(⟨0,λj=>.L []⟩:St)=b;let u:b.n=0:=by rw[<-v]
 let V:Eh (.ro xs) (48:d3) b=a0 (.ref b.n,b.A (.L ((xs.take 48).map .int))):=by refine(?_:(if(0:d3)<=48/\(48:d3)<=j8 then a0 (b0.ref b.n,b.A (.L ((xs.take (48:d3).toNat).map .int)))else b4)=_);rw[g0 ⟨by solve_by_elim (maxDepth:=2)only[*,j7],by unfold j8;solve_by_elim (maxDepth:=2)only[*,j7]⟩];rfl
 exists 0,V;let w:=d6.new b ((xs.take 48).map .int);let B:(b.A (.L ((xs.take 48).map .int))).n=1:=by exact sv u
 rw[u]at w ⊢;generalize b.A (.L ((xs.take 48).map .int))=e at w B ⊢;exists(Q6 w),rfl;refine Ae (nx:=λi=>.seq (.ref 0) i) (xs:=(xs.take 48).map .int) (p:=λj=>a8) (f:=Tc) (λi hi=>T0 w i) ?_ ?_
 .rintro i x acc kk C Q W;rw[o7,At]at C;ext c9 C z j rfl;let X:M3 .int [.int z] e=a0 (.int z,e):=rfl;let Y:V3 .mod (.int z) (.int 1000003) e=a0 (Tc (.int z),e):=by refine(?_:(if(0:d3)<1000003/\(1000003:d3)<=10000000 then a0 (b0.int (z.fmod 1000003),e)else b4)=_);rw[g0 ⟨by decide,by decide⟩];refine(?_:_=a0 (b0.int (((z.fmod 1000003).toNat:a6):d3),e));rw[Mr (jE z (by decide))]
  exists 0,X,Y;rw[f7,O9]at Q;exact⟨b6 Q (Jb (by decide)),by simpa using W⟩
 .let g:(V1 (λj=>a8) ((xs.take 48).map b0.int)).map Tc=((xs.take 48).map λz=>(z.fmod 1000003).toNat).map iD:=by rw[CS λj j=>rfl,v9,v9];rfl
  exists 0;rw[g];let q:=d6.new e (((xs.take 48).map λz=>(z.fmod 1000003).toNat).map iD);let r:(e.A (.L (((xs.take 48).map λz=>(z.fmod 1000003).toNat).map iD))).n=2:=by exact sO B
  rw[B]at q ⊢;generalize N:(xs.take 48).map (λz=>(z.fmod 1000003).toNat)=a at q r ⊢;let o:a.length<=48:=by rw[<-N,f7,O9];exact Pc _ _
  revert q r;refine gen (e.A (.L (a.map iD))) λy q r=>?_;exists 0,y4,W0,Ju,DR,N6,AI;let R:=Ex.A y (.D [(q9 "cells",.ref 1),(q9 "spot",.int 0)] (0+1+1));let D:=m7.new y [(q9 "cells",.ref 1),(q9 "spot",.int 0)] (0+1+1);let E:(y.A (.D [(q9 "cells",.ref 1),(q9 "spot",.int 0)] (0+1+1))).n=3:=by exact vk r
  rw[r]at D ⊢;generalize y.A (.D [(q9 "cells",.ref 1),(q9 "spot",.int 0)] (0+1+1))=l at R D E ⊢;let Z:V5 l 0:=E9 a _ (q.ex R) D o;rw[<-m];let O:w9.body.drop 1=(w9.body.drop 1).head (by simp[w9])::w9.body.drop 2:=rfl;rw[O];generalize h:w9.body.drop 2=P;simp only[w9,HK,DP,Hv];exists 0;let F:=(Ex.A l (.fld [])).trans (Ex.A (l.A (.fld [])) (.I "Heap" l.n));let G:=Ot (st:=l) (c:="Heap");let H:((l.A (.fld [])).A (.I "Heap" l.n)).n=5:=by exact tC E
  rw[E]at G H F ⊢;generalize((l.A (.fld [])).A (.I "Heap" 3))=s4 at F G H ⊢;refine pd (k:=27) G H λs g5 I=>?_;let F5:=(Z.ex F).fr g5;exists 0;let J:=Ex.A s (.L []);let K:=d6.new s [];let L:(s.A (.L [])).n=22:=by refine(?_:s.n+1=22);rw[I.n]
  rw[I.n]at K ⊢;generalize s.A (.L [])=t at J K L ⊢;let A:=Ex.A t (.L []);let M:=d6.new t [];let S:(t.A (.L [])).n=23:=by refine(?_:t.n+1=23);rw[L]
  rw[L]at M ⊢;generalize t.A (.L [])=s7 at A M S ⊢;exists 0,Yq;rw[<-h];exact tP (I.at (J.trans A) (tV S)) (K.ex A) M (F5.ex (J.trans A)) rfl rfl (rfl) rfl λj=>rfl
end Internal
set_option backward.match.sparseCases true
set_option backward.defeqAttrib.useBackward false
namespace Internal
open PySem PySem.W PyProof.Rows
def qu:a7 (j3×a6):=[("Bank",181),("Tables",233),("Joins",281),("Unions",363),("Heap",493)]def Ku(c:j3):a6:=(qu.lookup c).getD 0
def cg:a7 (j3×a6):=[("Bank",180),("Tables",232),("Joins",280),("Unions",362),("Heap",492)]def Bb(c:j3):a6:=(cg.lookup c).getD 0
def aw:a7 ((j3×j3)×a6):=[(("","is_op"),67),(("","trie_of"),204),(("","_law_draw"),504),(("","_law_built"),511),(("","_law_marks"),516),(("","_law_table"),521),(("","_law_asked"),526),(("","_law_fitted"),533),(("","_law_due"),538),(("","law"),543),(("Bank","__init__"),93),(("Bank","take"),105),(("Bank","require"),112),(("Bank","op"),138),(("Bank","kids"),145),(("Tables","__init__"),218),(("Tables","table"),225),(("Tables","trie"),230),(("Joins","__init__"),251),(("Joins","joined"),273),(("Joins","shared"),278),(("Unions","__init__"),299),(("Unions","make"),306),(("Unions","size"),313),(("Unions","find"),320),(("Unions","merge"),327),(("Unions","members"),334),(("Unions","classes"),339),(("Heap","__init__"),381),(("Heap","node"),393),(("Heap","add"),398),(("Heap","put"),403),(("Heap","look_at"),410),(("Heap","find"),417),(("Heap","merge"),431),(("Heap","join"),438),(("Heap","settle"),445),(("Heap","classes"),459),(("Heap","members"),466),(("Heap","nodes_of"),471)]def Dt(c f:j3):a6:=(aw.lookup (c,f)).getD 0
def Ki(v:b8)(r:i7->b7)(s:o3->b7):b7:=match v with
 | .ref b=>r b
 | .str x _=>s x
 |_=>c8
def Le(d:Data)(f:VN->b7)(c:ClassData->b7)(v:l4 b8->b7):b7:=match d with
 | .func F=>f F
 | .cls d=>c d
 | .fields vs=>v vs
 |_=>c8
@[elab_as_elim] theorem Yo{v:b8}{r:i7->b7}{P:b8->Prop}(h:Ki v r (λa=>c8)=a8)(k:∀b,r b=a8->P (.ref b)):P v:=by
 cases v with
 |ref b=>exact k b h
 |_=>exact no h
@[elab_as_elim] theorem gu{v:b8}{s:o3->b7}{P:b8->Prop}(h:Ki v (λa=>c8) s=a8)(k:∀x t,s x=a8->P (.str x t)):P v:=by
 cases v with
 |str x t=>exact k x t h
 |_=>exact no h
@[elab_as_elim] theorem Oi{d:Data}{f:VN->b7}{c:ClassData->b7}{v:l4 b8->b7}{P:Data->Prop}(h:Le d f c v=a8)(kf:∀F,f F=a8->P (.func F))(kc:∀F,c F=a8->P (.cls F))(kv:∀F,v F=a8->P (.fields F)):P d:=by
 cases d with
 |func F=>exact kf F h
 |cls F=>exact kc F h
 |fields F=>exact kv F h
 |_=>exact no h
@[elab_as_elim] theorem GX{α:Type}{o:j0 α}{P:j0 α->Prop}{k:α->b7}(h:o.any k=a8)(H:∀a,k a=a8->P (a0 a)):P o:=Hb h H
theorem l6{α:Type}{l:a7 α}(h:l.length=6):∃a b c d e f,l=[a,b,c,d,e,f]:=by
 refine R9 (JC h) ?_;rintro a l rfl;refine R9 (JC (Aw h)) ?_;rintro b l rfl;refine R9 (JC (Aw (Aw h))) ?_;rintro c l rfl;refine R9 (JC (Aw (Aw (Aw h)))) ?_;rintro d l rfl;refine R9 (JC (Aw (Aw (Aw (Aw h))))) ?_;rintro e l rfl;refine R9 (JC (Aw (Aw (Aw (Aw (Aw h)))))) ?_;rintro f l rfl;cases l with
 |nil=>exact⟨a,b,c,d,e,f,rfl⟩
 |cons=>exact nomatch h
def KF(v:j0 b8)(a:a6):b7:=v.any λv=>Ki v (λb=>LN b a) λw0=>c8
def YU(h:l5)(cd:b8)(q:o3):b7:=Ki cd (λc=>(h.get? c).any λo=>Le o.data (λw0=>c8) (λw0=>c8) λvs=>vs[1]?.any λv=>Ki v (λw0=>c8) λx=>x==q) λw0=>c8
def aJ(b:Vv)(k:a7 AK->b7):b7:=match b with
 | .stmts B=>k B
 |_=>c8
@[elab_as_elim] theorem wG{b:Vv}{k:a7 AK->b7}{P:Vv->Prop}(h:aJ b k=a8)(H:∀B,k B=a8->P (.stmts B)):P b:=by
 cases b with
 |stmts B=>exact H B h
 |_=>exact no h
def YE(p:Arguments):b7:=p.posonlyargs.isEmpty&&(p.vararg.isNone&&(p.kwonlyargs.isEmpty&&(p.kw_defaults.isEmpty&&(p.kwarg.isNone&&p.defaults.isEmpty))))
theorem rv{p:Arguments}(h:YE p=a8):p=⟨[],p.args,b4,[],[],b4,[]⟩:=by
 obtain⟨a,b,c,d,e,f,g⟩:=p;cases a with
 |cons=>exact no h
 |nil=>cases c with
  |some=>exact no h
  |none=>cases d with
   |cons=>exact no h
   |nil=>cases e with
    |cons=>exact no h
    |nil=>cases f with
     |some=>exact no h
     |none=>cases g with|cons=>exact no h|nil=>rfl
def rt(h:l5)(a:i7)(fd:FD):b7:=(h.get? a).any λo=>Le o.data (λF=>LN F.globals Cf&&(LN F.builtins JS&&(F.closure.isEmpty&&(YU h F.code F.qualname&&(decide (F.scope.kind= .function)&&(!F.scope.isGenerator&&(!F.scope.isCoroutine&&
 (YE F.params&&(decide (F.params.args.map (·.arg)=fd.params.map nm)&&
 (decide (F.defaults= .none)&&(decide fd.params.Nodup&&(fd.params.all (Dv F.scope)&&((F.scope.names.all λp=>decide (p.2≠.free))&&
 aJ F.body λB=>(cs 100).l F.scope fd.body B))))))))))))) (λw0=>c8) λw0=>c8
def Nq(h:l5)(a:i7):b7:=(h.get? a).any λo=>decide (o.cls= .type "function")&&Le o.data (λw0=>a8) (λw0=>c8) λw0=>c8
def Re(h:l5)(C N:a6):b7:=(h.get? C).any λo=>decide (o.cls= .type "type")&&(Le o.data (λw0=>c8) (λd=>decide (d.mro=[.ref C,.type "object"])&&(LN d.ns N&&(d.hasDict&&(!d.abstract&&!d.hasDel)))) (λw0=>c8)&&
 (decide (o.slots.toList.length=6)&&decide (o.slots.toList[4]?=a0 (a0 (.builtin "object.__new__")))))
section
variable(ns:l5->i7->o3->j0 b8)
def FJ(h:l5):b7:=
 h.isNs Cf&&h.isNs JS&&
 (Hh.all λp=>(ns h Cf (nm p.1)).isNone&&decide (ns h JS (nm p.1)=a0 p.2))&&
 (aM.all λc=>Re h (Ku c) (Bb c)&&h.isNs (Bb c)&&(ns h (Bb c) "__getattribute__").isNone&&(ns h (Bb c) "__getattr__").isNone&&(ns h (Bb c) "__setattr__").isNone&&
  ((CF c).all λf=>(ns h (Bb c) (nm f)).isNone)&&((BO c).all λm=>KF (ns h (Bb c) (nm m)) (Dt c m)&&Nq h (Dt c m))&&KF (ns h Cf (nm c)) (Ku c))&&
 ((BO "").all λf=>KF (ns h Cf (nm f)) (Dt "" f)&&Nq h (Dt "" f))&&
 KF (ns h Cf (nm "law")) (Dt "" "law")&&
 aD.all λp=>rt h (Dt p.1.1 p.1.2) p.2
end
def OQ:l5->b7:=FJ Ph
theorem NE{v:j0 b8}{a:a6}(h:KF v a=a8):v=a0 (.ref a):=GX h λv h=>Yo h λb h=>by rw[PE h]
theorem aX{h:l5}{a:i7}(x:Nq h a=a8):∃o c,h.get? a=a0 o/\o.cls= .type "function"/\o.data= .func c:=
 GX x λo x=>by
  let d:=G5 x;ext1 d g i;let b:∃c,o.data= .func c:=Oi i (λF e=>⟨F,rfl⟩) (λe=>no) λe h=>no h;ext1 b c f;exact E9 o c rfl (C5 g) f
theorem nt{b:b7}(h:(!b)=a8):b=c8:=by cases b with|false=>rfl|true=>exact no h
theorem tK{h:l5}{C N:a6}(x:Re h C N=a8):∃r q s t j k u c e f g i,h.get? C=a0 (nW r q C N s [.type "object"] a8 t j c8 k u c e f g i "object.__new__"):=
 GX x λ⟨K,v,l,⟨J⟩⟩x=>by
  let a:=G5 x;ext1 a o x;let a:=G5 x;ext1 a b x;let a:=G5 x;ext1 a p w;cases C5 o;refine Kb (l6 (C5 p)) ?_;rintro c e f g L i rfl;clear o x p;cases C5 w;refine Oi (d:=l) b (λy=>no) (λ⟨z,A,B,D,E,F,G,H,I,m,n⟩b=>?_) λy h=>no h;exact⟨z,E,A,G,H,m,v,c,e,f,g,i,by rw[(C5 (o6 b):B=_),(PE (o6 (G5 b).2):D=N),((o6 (G5 (G5 b).2).2):F=a8),(nt (o6 (G5 (G5 (G5 b).2).2).2):I=c8),(nt (o5 (G5 (G5 (G5 b).2).2).2):n=c8)]⟩
theorem wJ{h:l5}{d:b8}{q:o3}(x:YU h d q=a8):h.CodeRec d q:=by
 refine Yo x λc x=>?_;let e:∃o a t,h.get? c=a0 o/\o.data= .fields a/\a[1]?=a0 (.str q t):=GX x λo x=>by
  let e:∃a t,o.data= .fields a/\a[1]?=a0 (.str q t):=Oi x (λe=>no) (λe=>no) λa x=>by
   have e:∃t,a[1]?=a0 (.str q t):=GX x λv x=>gu x λy t x=>by rw[O1 x];exact⟨t,rfl⟩
   ext1 e t b;exact P9 a t rfl b
  ext R9 e a t b;exact KB o a t rfl b
 ext SW e o a t b;exact⟨c,o,a,t,rfl,b⟩theorem uU:(Sp.all λp=>p.2.all λf=>(fastLookup "object" (nm f)).any j0.isNone)=a8:=by kernel_rfl
theorem oj{c:j3}{f:j3}(h:(CF c).contains f=a8):Ci (.type "object") (nm f)=pure b4:=by
 cases e:Sp.lookup c with
 |none=>exact no ((t0 (λo:j0 (a7 j3)=>(o.getD []).contains f) e).symm.trans h)
 |some l=>rw[Gh,HP];exact GX (S7 (S7 uU _ (Nb e)) f (List.contains_iff_mem.mp ((t0 (λo:j0 (a7 j3)=>(o.getD []).contains f) e).symm.trans h))) λa h=>by rw[Option.isNone_iff_eq_none.mp h]theorem tf(f:j3):∃y,Ci (.type "object") (nm f)=pure y:=by rw[Gh];let zz:=Option.isSome_iff_exists.mp (by kernel_rfl:(builtinMro "object").isSome=a8);ext1 zz l hl;have a:∃r,lI "object" (nm f)=a0 r:=⟨_,by unfold lI;rw[hl];rfl⟩;ext1 a r hr;rw[hr];exact⟨r,rfl⟩def FM(h:l5):Prop:=∃h0,OQ h0=a8/\∀b o,h0.get? b=a0 o->h.get? b=a0 o
theorem FM.keeps{h a:l5}(x:FM h)(k:∀b o,h.get? b=a0 o->a.get? b=a0 o):FM a:=by ext c9 x c e q;exact d0 c e λb o d=>k b o (q b o d)theorem RI{h:l5}{a:i7}{m e:o3->j0 b8}(x:h.Ns a m)(y:h.Ns a e)(n:o3):m n=e n:=by ext H9 x o p q f g i j;ext H9 y r k l b c i d;rw[f]at b;cases b;rw[g]at c;cases c;rw[<-j,<-d]def Op(w:O7)(h:l5)(os:JQ)(mg mb:o3->j0 b8):Fx:=⟨w,h,Ku,os,Cf,JS,mg,mb,Dt⟩
section
variable{w:O7}{os:JQ}
theorem gv(S:FM h)(F:h.Ns Cf mg)(G:h.Ns JS mb)(B:h.NoLimit):Laid1 (Op w h os mg mb):=by
 ext c9 S a e k;unfold OQ FJ at e;simp only[C4]at e;obtain⟨⟨⟨⟨⟨J,K⟩,L⟩,M⟩,N⟩,e6⟩:=e.1;let e7:=e.2;clear e;have j:∀n,mg n=a.nsMap Cf n:=λn=>RI F ((Pq J).keeps k) n;have d:∀c,c∈["Bank","Tables","Joins","Unions","Heap"]->Re a (Ku c) (Bb c)=a8/\a.isNs (Bb c)=a8/\a.nsMap (Bb c) "__getattribute__"=b4/\a.nsMap (Bb c) "__getattr__"=b4/\a.nsMap (Bb c) "__setattr__"=b4/\
  (∀f,(CF c).contains f=a8->a.nsMap (Bb c) (nm f)=b4)/\(∀m,(BO c).contains m=a8->a.nsMap (Bb c) (nm m)=a0 (.ref (Dt c m))/\Nq a (Dt c m)=a8)/\a.nsMap Cf (nm c)=a0 (.ref (Ku c)):=by
  intro c i;have:=S7 M c i;simp only[C4,oG]at this;obtain⟨⟨⟨⟨⟨⟨l,q⟩,r⟩,s⟩,t⟩,u⟩,v⟩:=this.1;let O:=this.2;clear this;refine⟨l,q,r,s,t,λf g=>?_,λm x=>?_,NE O⟩
  .simpa using S7 u f (List.contains_iff_mem.mp g)
  .let this:=S7 v m (List.contains_iff_mem.mp x);rw[C4]at this;exact⟨NE this.1,this.2⟩
 refine⟨⟨F,G,B,λp P=>?_⟩,λc i=>?_,λc i=>?_,λf g=>?_⟩
 .let this:=S7 L p P;simp only[C4,oG,C3]at this;exact⟨(j _).trans this.1,((λn=>RI G ((Pq K).keeps k) n:∀n,mb n=a.nsMap JS n) _).trans this.2⟩
 .let b:=d c i;ext1 b l q r s t u v w0;refine⟨a.nsMap (Bb c),⟨Bb c,?_,(Pq q).keeps k⟩,r,s,t,λf g=>⟨u f g,oj g⟩,λm x=>?_⟩
  .refine Kb (tK l) λQ R T U V W H=>?_;ext Kb H X Y Z C D E ho;exact⟨Q,R,T,U,V,W,X,Y,Z,C,D,E,k _ _ ho⟩
  .exact k9 (v m x) λb1 b2=>n4 (aX b2) λo y z I A=>⟨b1,tf m,o,y,k _ _ z,I,A⟩
 .exact(j _).trans (d c i).2.2.2.2.2.2.2
 .have:=S7 N f (List.contains_iff_mem.mp g);rw[C4]at this;exact n4 (aX this.2) λo y z I A=>⟨(j _).trans (NE this.1),o,y,k _ _ z,A⟩
theorem cc(S:FM h):Rv (Op w h os mg mb) u8:=by
 ext c9 S u e k;unfold OQ FJ at e;simp only[C4]at e;intro c f v y;let b:=S7 e.2 _ (Nb y);obtain⟨o,F,z,A,b⟩:∃o F,u.get? (Dt c f)=a0 o/\o.data= .func F/\_=a8:=GX b λo b=>by
  have C:∃F,o.data= .func F/\_=a8:=Oi b (λF h=>d0 F rfl h) (λC=>no) λC h=>no h;ext1 C F q r;exact E9 o F rfl q r
 let a:=G5 b;ext1 a D b;let a:=G5 b;ext1 a E b;let a:=G5 b;ext1 a G b;let a:=G5 b;ext1 a H b;let a:=G5 b;ext1 a I b;let a:=G5 b;ext1 a J b;let a:=G5 b;ext1 a K b;let a:=G5 b;ext1 a L b;let a:=G5 b;ext1 a g b;let a:=G5 b;ext1 a i b;let a:=G5 b;ext1 a j b;refine k9 (G5 b) λm b=>?_;let a:=G5 b;ext1 a p d;have C:∃B,F.body= .stmts B/\(cs 100).l F.scope v.body B=a8:=wG d λB h=>d0 B rfl h;ext1 C B s d;refine KB F B 100 ⟨(d0 o (k _ _ z) A),PE D,PE E,List.isEmpty_iff.mp G,s,?_,C5 I,nt J,nt K,(d0 F.params.args (rv L) (C5 g)),C5 i,C5 j,λx M=>?_,λn N=>C5 (S7 p (n,.free) (Hj N)) rfl⟩ d
 .exact uK (wJ H) λO P Q t R T U V=>⟨O,P,Q,t,R,k _ _ T,U,V⟩
 .exact cU (S7 m x M)
end
abbrev pw:y9:=w'
def lo:a7 o3:=["_wall","HeapError","TermFault","is_op","is_variable","parts","Bank","atoms_of","names_of","trie_of","Tables","Joins","Unions","Heap","_law_draw","_law_built","_law_marks","_law_table","_law_asked","_law_fitted","_law_due"]def qv:y9:={pw with main:={pw.main with body:=pw.main.body.drop 27}}
def Ye{S T:Type}(f o:T->b7)(g:S->T->j0 (S×T))(n:a6):S->T->j0 S:=
 a6.rec (λ_ _=>b4) (λ_ k s t=>cond (f t) (a0 s) (cond (o t) ((g s t).bind λr=>k r.1 r.2) b4)) n
theorem Xq{α:Type}{b:b7}{x y z:α}{G:Prop}(h:cond b x y=z)(p:b=a8->x=z->G)(q:b=c8->y=z->G):G:=by
 cases b
 .exact q rfl h
 .exact p rfl h
theorem sm{S T b:Type}{f o:T->b7}{g:S->T->j0 (S×T)}{A:S->b}{R:a6->b->T->j0 b}(x:∀n s t,f t=a8->R (n+1) s t=a0 s)
 (y:∀n s t a c,f t=c8->o t=a8->g s t=a0 (a,c)->R (n+1) (A s) t=R n (A a) c):∀n s a t,Ye f o g n s t=a0 a->R n (A s) t=a0 (A a):=by
 intro n
 induction n with
 |zero=>exact λs a t h=>(oY a (Eq.symm h)).elim
 |succ n d=>exact λs a t h=>Xq h (λe h=>C6 h▸x n (A s) t e) λe h=>Xq h (λk h=>c9 (Option.bind_eq_some_iff.mp h) λr i h=>(y n s t r.1 r.2 e k i).trans (d _ _ _ h)) λ_ h=>(oY a h.symm).elim
theorem dh{tb a b p w}(n s t)(h:through t=a8):Fu tb p w a b (n+1) s t=a0 s:=by rw[Fu,h]theorem ri{tb a b p w}(n)(s:Ka)(t)(s':Ka)(t')(h:through t=c8)(k:stepOk a b t=a8)(e:W.stepT (denote tb) p w s t=a0 (s',t')):Fu tb p w a b (n+1) s.abs t=Fu tb p w a b n s'.abs t':=by rw[Fu,h,k,stepT_spec e]abbrev UI(w:O7):a6->Ka->Thread->j0 Ka:=Ye through (zw 11 (a0 (.ref 6))) (xr (g_ u_) pw w)theorem yC{w:O7}{n:a6}{s s':Ka}{t:Thread}:UI w n s t=a0 s'->Fu JH pw w 11 (a0 (.ref 6)) n s.abs t=a0 s'.abs:=by unfold UI;rw[<-x_,<-i_,<-e_,<-K'];exact sm (A:=xq) (R:=λn=>Fu JH pw w 11 (a0 (.ref 6)) n) dh ri n s s' t
def RM(P:LX):BT:=((Dn P).objs.toList.foldl (λx o=>(BT.ins x.1 x.2 o,x.2+1)) (BT.nil,0)).1
theorem kz(P:LX):absHeap (RM P) 11 (Dn P).life=Dn P:=by kernel_rfl
theorem ru(w:O7)(os:JQ):(UI w 6000 ⟨RM w.params,11,(Dn w.params).life,Mv [],PR,Qx,os⟩ (Wo pw)).map
 (λt=>let s:=t.abs;((staticsOk (PL pw.main.body) (Dn w.params) s.heap&&mM pw s.heap&&gensDone s&&laidKept (Dn w.params) s.heap),yb qv lo (PL pw.main.body) (λ_=>a8) a8 s,FJ yq s.heap))=a0 (a8,openGood qv lo,a8):=by
 kernel_rfl
theorem uc{p:y9}{s u:f8}(z:(s.heap.isNs Cf&&s.gens.size==0)=a8)(y:Fu tb p w s.heap.objs.size (s.heap.nsMap Cf "__annotations__") N s (Wo p)=a0 u)
 (x:(staticsOk (PL p.main.body) s.heap u.heap&&mM p u.heap&&gensDone u&&laidKept s.heap u.heap)=a8):VM tb p w N s=a0 u:=by
 rw[VM,z];dsimp only;rw[y,CM,x]theorem yB(P:LX):((Dn P).isNs Cf&&(Mv []:l4 GenState).size==0)=a8:=by kernel_rfl
theorem rL(P:LX):(Dn P).objs.size=11:=by kernel_rfl
theorem jx(P:LX):(Dn P).nsMap Cf "__annotations__"=a0 (.ref 6):=by kernel_rfl
theorem pq(w:O7)(os:JQ):∃t:Ka,VM JH pw w 6000 ⟨Dn w.params,Mv [],PR,Qx,os⟩=a0 t.abs/\(openSeen qv lo (PL pw.main.body) (λ_=>a8) a8 t.abs,FJ Ph t.abs.heap)=(openGood qv lo,a8):=by have r:=ru w os;rw[<-D',<-yg]at r;refine c9 (Iu r) λt e f=>?_;have y:=yC e;replace y:Fu JH pw w 11 (a0 (.ref 6)) 6000 ⟨absHeap (RM w.params) 11 (Dn w.params).life,Mv [],PR,Qx,os⟩ (Wo pw)=a0 t.abs:=y;rw[kz,<-rL w.params,<-jx w.params]at y;exact⟨t,uc (yB w.params) y (t0 (·.1) f),t0 (·.2) f⟩theorem jb{s:f8}(e:(s.heap,s.gens,s.drawn,s.toks)=(a,b,c,d)):⟨a,b,c,d,s.os⟩=s:=by cases e;rfl
theorem sP:LeftO pw qv lo (λ_=>a8) (λs=>FJ Ph s.heap) (λ_=>a8) 6000:=λw=>by
 have o:(fencedOpening JH pw w 6000).map (λs=>(s.heap,s.gens,s.drawn,s.toks))=a0 (Dn w.params,Mv [],PR,Qx):=boot_open (by rfl) (by rfl) (λs=>by rfl) w;refine c9 (Iu o) λs e f=>?_;have h:=pq w s.os;rw[jb f]at h;refine c9 h λt a b=>?_;have g:openEnds JH pw w 6000=a0 t.abs:=by rw[openEnds,e];exact a
 rw[g];exact t0 a0 b
abbrev Iz:OpenLaw:=K_
theorem rl(c:defOf qv ("law":o3)=a0 (d,kwd))(g:pw.theDef ("law":o3)=a0 (d.params,d.body,d.scope))(i:lC d.params.kwonlyargs d.params.kw_defaults=a0 kwd)
 (a:WalkO qv lo (λ_ _=>True) (λ_ h=>FM h) Iz.row.toRowW d kwd λf j=>nE f j):PySem.Challenge.rw_pq0014_01.Holds:=by
 refine holds_law (by kernel_rfl) λb=>?_;refine X' (q:=qv) (loose:=lo) (Xt:=λ_=>a8) (XP:=λ_ _=>True) (Yf:=λs=>FJ Ph s.heap) (Ya:=λ_=>a8) (YP:=λ_ h=>FM h) (N:=6000) sP (λw s e=>⟨s.heap,e,λ_ _ h=>h⟩) (λw h l x k=>x.keeps k) (λ_ _=>trivial) (λ_ _ _ _ _=>trivial) c g i (λs _=>recFacts_nil rfl) (by rfl) b (by decide+kernel) ⟨rfl,rfl,rfl,rfl,rfl,by decide+kernel⟩ ?hw a
 case hw=>w_witness2
def BG:St:=⟨0,λw0=>.L []⟩
theorem wq(h:oC R d .int=a8):∃i,d= .int i:=by
 cases d with
 |int i=>exact⟨i,rfl⟩
 |_=>exact no h
theorem rD(h:oC R d (.list .int)=a8):∃xs,d= .list xs/\Vz R xs .int=a8:=by
 cases d with
 |list xs=>exact⟨xs,rfl,by cases hb:Vz R xs .int with|true=>rfl|false=>exact no ((t0 (·||c8) hb).symm.trans h)⟩
 |_=>exact no h
theorem ml:∀{a:a7 WData},Vz R a .int=a8->∃b:a7 d3,a=b.map .int:=by
 intro e
 induction e with
 |nil=>intro f;exact⟨[],rfl⟩
 |cons d a c=>intro h;refine d4 (c (o5 h)) ?_;clear c;rintro b rfl;refine d4 (wq (o6 h)) ?_;clear h;rintro i rfl;exact⟨i::b,rfl⟩
theorem uJ:∀{xs:a7 d3}{vs:a7 b8}{as:a7 i7},ReadsAllW R cl h vs (xs.map .int) as->EM vs xs:=by
 intro b
 induction b with
 |nil=>intro a a x;cases x;exact .nil
 |cons i xs c=>
  intro a a x;cases x with
  |cons d e=>cases d;exact .cons _ _ (c e)
theorem pv(h:Iz.row.toRowW.claim.pre args=a8):∃c:a7 d3,args=[.list (c.map .int)]/\c.length<=63:=by
 refine k9 (pre_splitW h) λg k=>?_;have a:WShape.hasAll [] args [.list .int]=a8:=g;cases args with
 |nil=>exact no a
 |cons d r=>
  replace a:=G5 a;cases r with
  |cons e r=>exact no a.2
  |nil=>
   refine c9 (rD a.1) ?_;rintro l rfl i;refine d4 (ml i) ?_;clear h g a i;rintro c rfl;refine⟨c,rfl,?_⟩;have j:VZ [] Iz.pre {args:=[.list (c.map .int)]}=a8:=k;have e:∀b,decide ((63:d3)<((c.map qJ).length:a6))=b->VZ [] Iz.pre {args:=[.list (c.map .int)]}=VZ [] (.and (.not (.lit (.bool b))) (.lit (.bool a8))) {args:=[]}:=λb h=>h▸rfl;by_cases f:(63:d3)<((c.map qJ).length:a6)
   .rw[e _ (MN f)]at j;exact no j
   .rw[f7]at f;exact Nat.not_lt.mp λq=>f (Int.ofNat_lt.mpr q)
set_option tactic.hygienic true in
theorem ef(hdn:d.name=("law":o3))(hlaw:∀xs:a7 d3,u9 u8 30 "" "law" [.ro xs] BG λd w0=>d= .bool a8):
 WalkO qv lo (λw0 w0=>True) (λw0 h=>FM h) Iz.row.toRowW d kwd λf vs=>nE f vs:=by
 intro w s₀ s₁ mg mb G Y a o pm cd doc dV kV ho hd hcd hD hmg hg args vals as hpre hlay hrd hwl hlo;refine c9 (pv hpre) ?_;rintro xs rfl hlen;let L:=gv (w:=w) (os:=s₁.os) Y G.T.g G.T.b G.T.nolimit;let hF:Rv (Op w s₁.heap s₁.os mg mb) u8:=cc Y;let hC:=au (prog:=Iz.row.toRowW.prog) L hF 30;let hroom:EZ 30 callerA:=⟨rfl,by decide,by decide⟩;let hthree:3<s₁.heap.objs.size:=by exact EB G.T.g λob es ep h1 w0=>C2 h1
 let R0:i8 (Op w s₁.heap s₁.os mg mb) ⟨λw0=>0,λw0=>k6⟩ BG s₁:=
  ⟨λb o h=>h,λa ha=>(X7 _ ha).elim,λa b ha=>(X7 _ ha).elim,λa ha=>(X7 _ ha).elim,λa ha=>(X7 _ ha).elim,λb hb=>hb.elim,hg,rfl,hthree,l8 _⟩
 cases hrd with
 |cons h1 h2=>
  cases h2;clear hwl hlo;cases h1 with
  |list q1 q2 q3 q4=>
   rename_i b ob vs n as';let hV:V s₁.heap ⟨λw0=>0,λw0=>k6⟩ BG.n s₁.heap (.ro xs) (.ref b):=⟨b,vs,rfl,⟨ob,q1,q2,n,q3⟩,uJ q4,p6⟩;let hfa:a=Dt "" "law":=by ext c9 Y h0 e k;unfold OQ FJ at e;simp only[C4]at e;have e6:=NE e.1.2;have c:=RI G.T.g ((Pq e.1.1.1.1.1.1).keeps k) (nm "law");rw[e6]at c;rw[hdn]at hmg;have hmg':mg (nm "law")=a0 (.ref a):=hmg;rw[hmg']at c;clear ho hmg hmg';cases c;rfl
   clear ho hmg;subst hfa;refine v6 (hC (cl:="") (f:="law") hroom (hlaw xs) R0 (vs:=[.ref b]) ⟨_,[],rfl,hV,rfl⟩) (λv s2 p=>?_) λw0 w0 x=>x.elim;obtain⟨d',st',c',rfl,R',hv',S'⟩:=p;obtain rfl:v= .bool a8:=hv';refine GoodW.toG ⟨.inl ⟨.bool a8,.bool a8,[],rfl,λw0=>rfl,.bool a8,?_,λw0=>⟨By,λa ha=>by cases ha⟩⟩,λb o h=>R'.stays b o h,R'.os,R'.gens⟩
   kernel_rfl
theorem all_ok(b:∀e:a7 d3,u9 u8 30 "" "law" [.ro e] BG λd _=>d= .bool a8):PySem.Challenge.rw_pq0014_01.Holds:=by have c:∃d a,defOf qv ("law":o3)=a0 (d,a)/\pw.theDef ("law":o3)=a0 (d.params,d.body,d.scope)/\lC d.params.kwonlyargs d.params.kw_defaults=a0 a/\d.name=("law":o3):=⟨_,_,by rfl,by rfl,by rfl,by rfl⟩;ext T8 c d a f g h i;exact rl f g h (ef i b)
end Internal
end
theorem PySem.Challenge.cw_pq0014_01_holds : PySem.Challenge.rw_pq0014_01.Holds :=
 
 Internal.all_ok Internal.law_true
