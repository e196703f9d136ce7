import PyProof.Rows.All
import Wide.All
import OpenK.AllK
import Wide.FinOn
import Lean
import PySem.Challenge.RW_pq0014_01
set_option maxRecDepth 1000000
set_option linter.all false
set_option Elab.async false
set_option tactic.hygienic false
set_option genSizeOf false
set_option genSizeOfSpec false
set_option genInjectivity false
set_option bootstrap.genMatcherCode false
set_option compiler.extract_closed false
open And renaming intro->VC
open Array renaming length_toList->A0,getElem?_toList->W6,getElem?_eq_getElem->DO,getD->EM,forIn_toList->Gn,toList_push->JG,mem_of_getElem?->Ma,mk->Mj,toList_append->Wt,isEmpty_iff->iY,toList_filterMap->nO,size_map->oN
open Array.Perm renaming refl->d_
open Bool renaming true->a8,false->c8,and_eq_true->C2,eq_iff_iff->P2,false_eq_true->Bx,false_ne_true->Ch,or_eq_true->kH,not_eq_true'->mY
open Char renaming toNat->Gu
open Classical renaming byContradiction->CM,propDecidable->Ea
open Eq renaming mp->Vu
open ForIn renaming forIn->Hx
open ForInStep renaming yield->Gl
open Function renaming comp->HV
open Int renaming toNat_natCast->Q8,lt_of_le_of_lt->DT,le_of_lt->Gv,natCast_nonneg->JQ,le_trans->JS,toNat_of_nonneg->Mq,neg_nonpos_of_nonneg->Pb,eq_ofNat_of_zero_le->Pd,toNat_lt->Pi,ofNat->PE,lt_trans->Vc,max_eq_left->VW,max_eq_right->WC,sub_sub->iJ,ofNat_nonneg->kI,ediv_one->lC,min_eq_right->lD,le_antisymm->lM,min_eq_left->mJ,lt_of_lt_of_le->oG,fmod_nonneg_of_pos->qG
open Int.ofNat renaming inj->PJ
open LawfulBEq renaming eq_of_beq->O2
open LawfulMonad renaming bind_assoc->mH
open List renaming length_map->f7,mem_cons_self->j5,mem_cons_of_mem->k8,getElem?_map->o7,mem_singleton->o9,range->p0,mem_of_getElem?->p8,map_append->p9,length_append->u7,getElem?_eq_getElem->v5,map_map->v9,map_cons->y4,map_congr_left->A2,mem_append_left->G2,not_mem_nil->J8,mem_cons->K5,mem_append_right->K6,length_cons->N9,length_take->O9,filter->V1,map_nil->V7,all_eq_true->V8,mem_map_of_mem->V9,take_length->X4,append_nil->Y5,pairwise_map->Y6,take_add_one->Ak,nodup_cons->Ax,getElem?_eq_none->AA,getD_eq_getElem?_getD->AB,length_nil->AH,map_id->Ba,length_range->Br,nodup_iff_pairwise_ne->Bw,nodup_nil->Bz,lookup_cons->BI,nodup_append->BM,length->CL,forIn_cons->Dj,filter_cons->DM,length_filter_le->DN,drop_zero->DU,zip_nil_left->DZ,append_assoc->Eb,getElem_mem->EO,mem_map->Fq,sum_cons->Fw,idxOf_lt_length_of_mem->Fz,mem_append->Gd,take_zero->Gp,ext_getElem?->Gx,filterMap_cons->Ht,drop_succ_cons->Hz,toArray->HB,mem_filter->HD,forIn_nil->HQ,head_cons->HU,zip_cons_cons->Jv,length_mapIdx->Jz,getElem?_range->JB,exists_cons_of_length_eq_add_one->JE,filter_map->JH,findIdx?_cons->JN,getElem_take->JU,of_mem_zip->JZ,drop->LL,all_cons->LN,mem_of_mem_take->LV,findIdx?_eq_none_iff->Mg,getElem?_append_left->Mh,size_toArray->Mm,getElem?_mapIdx->Mv,getElem?_zip_eq_some->Mz,length_drop->MA,mem_of_find?_eq_some->MI,pairwise_singleton->OZ,reverse_reverse->Pf,reverse_cons->Ph,find?_cons->Pk,getElem_idxOf->Pm,map->Pw,modify_succ_cons->PK,getElem?_eq_none_iff->PM,length_set->PU,foldl_cons->PW,length_zip->PY,drop_eq_nil_iff->Qb,mem_range->Qd,range'_succ->Qf,pairwise_append->Qs,prefix_append->Qt,filter_append->Qx,filter_eq_nil_iff->UW,drop_drop->Vg,sum_append->Vq,length_pos_of_mem->Vt,getElem?_append->Vz,take_append_drop->VK,findIdx?_isSome->VM,find?_some->VS,nodup_range->Wc,mem_filterMap->Wd,range'->Wi,getElem?_set->Wl,zip_nil_right->WB,getElem?_toArray->WW,getElem?_cons_zero->WX,find?_isSome->iG,range_succ_eq_map->iL,length_eraseIdx_le->iO,zipIdx_cons->iR,mem_of_mem_drop->iU,any_eq_true->jC,getElem?_set_ne->jN,eraseIdxIfInBounds_toArray->jQ,range_succ->kR,filter_congr->lI,lookup->lJ,getElem_zip->lK,length_erase_of_mem->lL,getElem?_drop->lQ,length_filterMap_le->lT,length_dropLast->mB,flatMap_append->mC,toList_toArray->mK,map_reverse->mM,exists_cons_of_ne_nil->mR,zipIdx_nil->mZ,getElem_map->nB,getElem_range->nC,drop_eq_getElem_cons->nD,drop_nil->nE,mem_flatMap->nH,map_snd_zip->nM,any_cons->nR,isEmpty_iff->nU,findIdx?->oF,getElem?_cons_succ->oJ,length_eq_zero_iff->oK,map_inj_right->oO,mem_erase_of_ne->pA,append_inj_left'->pC,reverse_perm->pN,Nodup->pV,find?_eq_some_iff_getElem->qB,take->qH,all_map->qM,lookup_append->qN,getElem?_set_self->qO,getElem?_take_of_lt->qR
open List.Nodup renaming mem_erase_iff->h_
open List.Pairwise renaming imp_of_mem->Gb,nil->Ge,imp->iI,sublist->N_
open List.Perm renaming swap->jB,refl->oW,cons->yu,map->yz,append_left->zu,mem_iff->S_,foldl_eq'->T_
open List.Sublist renaming map->r_
open List.cons renaming inj->Gg,injEq->yl
open Nat renaming le_trans->b6,lt_of_lt_of_le->j7,le_refl->l8,ne_of_lt->m6,le_of_lt->m9,lt_of_le_of_lt->q5,le_of_lt_succ->v0,le_of_eq->A1,lt_succ_self->B8,zero_le->F9,add_le_add_left->G1,le_add_right->G3,ne_of_gt->L0,le_add_left->M0,succ_pos->M7,le_succ->N8,add_le_add_right->O8,add_assoc->Q7,succ_le_succ->T9,add_le_add->U0,lt_irrefl->U4,le_succ_of_le->U6,not_lt_zero->X1,mul_le_mul_left->Y4,add_right_comm->Y7,add_comm->Al,lt_trans->AJ,le_antisymm->AL,lt_succ_of_le->BK,lt_succ_of_lt->BL,lt_or_ge->Ci,ble->CJ,add_sub_of_le->DR,lt_of_le_of_ne->DX,mul_le_mul_right->EI,min_eq_left->EJ,add_lt_add_left->Gi,min_le_right->Go,min_eq_right->Hu,add_left_comm->Hv,succ_pred_eq_of_pos->HR,sub_le_of_le_add->HS,sub_pos_of_lt->Jt,add_lt_of_lt_sub->JO,le_total->JR,zero_add->JT,lt_of_mul_lt_mul_right->JY,lt_trichotomy->LQ,max_eq_right->LU,mod_lt->LX,mul_two->Mc,lt_of_sub_pos->Ml,max_eq_left->Mo,beq->Mu,sub_le->My,pos_of_ne_zero->MH,le_of_ble_eq_true->MN,eq_of_beq_eq_true->PG,min_le_left->PS,mul_succ->Qn,lt_add_of_pos_right->Qw,le_div_iff_mul_le->Qz,lt_of_succ_le->QC,succ_le_of_lt->Ve,le_of_sub_eq_zero->Vh,le_of_not_lt->Vj,pow_le_pow_right->Vo,zero_lt_succ->VR,sub_add_eq->Wj,sub_eq_zero_of_le->Wm,sub_lt->Wn,sub_le_sub_left->Wq,not_succ_le_zero->WA,le_sub_of_add_le->WH,not_le_of_lt->WP,ble_eq_true_of_le->jO,succ_lt_succ_iff->jZ,pow_succ->kJ,le_of_pred_lt->kO,le_add_of_sub_le->lG,succ_mul->mX,lt_of_succ_lt_succ->nK,add_lt_add_right->nP,lt_or_eq_of_le->nS,le_of_succ_le_succ->nV,div_le_self->oP,le_of_add_le_add_right->oQ,not_succ_le_self->oX,mul_add->pG,sub_add_cancel->pJ,zero_lt_of_lt->pL,two_pos->qK
open Nat.succ renaming inj->AC
open Ne renaming symm->C8
open Option renaming some->a0,none->b4,map_some->Au,map_eq_some_iff->Av,bind_some->Dk,map->Ju,isSome_map->LZ,isSome_some->WQ,isNone_iff_eq_none->iX,some_ne_none->nI,isNone_some->qQ
open Option.some renaming inj->C5,injEq->At
open Or renaming inr->WK
open Prod renaming fst->Bt,ext->EP,snd->oA
open Prod.mk renaming injEq->QA,inj->zn
open PyProof renaming noPylong_small->G_
open PyProof.Rows renaming seqObj->O4,IntsAre->EK,pairsOf->Fy,ClsAt->Hq,arrOf->JC,oneType'->Pa,failedOf->VL,keyLt'_oneType->WF,listUpdate_at->iP,get?_update_seq->lA,seqEpoch_at->pP,K->qP
open PyProof.Rows.F renaming plain_set_update_loop->VV,entry_set_update_loop->mI
open PySem renaming wpAny_bind->b5,Value->b8,wpAny->b9,model->d7,wpAny_pure->f6,Shared->f8,Addr->i7,Expr->j9,Heap->l5,Str->n4,cLine->t3,wpAny_mono->v6,Program->A5,Around->B7,Scope->E7,rawInt->G7,Env->I0,World->J3,wpAny_holding->K9,Sem->M8,sizeLine_eq->O3,Obj->V6,Pos->X7,DictEntry->Af,wpAny_call_entry->Ah,SetTable->Aw,NameKind->Az,Stmt->AK,wpAny_field->AZ,starEach->Bv,codeAny->BJ,backTo->Cd,wpAny_seqItems->Ce,typeLookup->Cf,mainGlobals->Cj,Comprehension->CI,cellsFrom->Df,IsPair->Dg,plainId_quiet->Dh,codeAny_builtin->Di,Tok->Dm,pyIter->DV,Ctx->DW,wpAny_rule->EN,treeTable->Fp,wpAny_setState_of->Fs,wpAny_forIn_list->Ft,wpAny_newObj_type->Fu,wpAny_standAt->Fv,pyNext->Gc,getItem->Gf,setField->Gj,wpAny_truthy_bool->Gk,typeLookup_type->Gq,Model->Gr,wpAny_Call_Name_kw->HC,wpAny_specialOf->HH,wpAny_typeOf->HI,importedModules->HJ,OsState->HK,wpAny_callSpecial?_slot->HN,builtinLookup_eq_fast->HP,wpAny_setField_rec->HT,sizeLine->HX,wpAny_isInstance->Jw,wpAny_of_eq->Jx,builtinsNs->JA,wpAny_items_nil->JF,typeOf->JM,entryFor->JX,codeAny_mono->Ka,wpAny_updateSeq->LR,codeAny_of_tree->LY,assignEach->Me,Const->Mn,wpAny_ite_split->Mp,CmpOp->Mr,Wakes->Mx,binaryOp->MB,BoolOp->MC,wpAny_items_cons->MD,wpAny_tryCatch->ME,isSubtype_type->MF,argBest->MG,Result->MJ,Meets->MK,wpAny_pyIter_list->ML,slicePick->MO,argsOk->Pe,call_meets->Pg,standAt->Po,wpAny_tupleItemsOf->Pq,callWith->Pr,wpAny_askSetting->Ps,isInstance->Pt,bindL->Pu,Fin->PB,cellOf->PC,wpAny_onRaise->PD,richCompare->PF,newExc->PH,Frame->PL,wpAny_letGo->PN,wpAny_operating->PP,wpAny_newTuple->PQ,compareOp->PV,setItem->Qa,runs_reach->Qc,raiseNew->Qg,firstArgMember->Qj,reduceHash->Qk,pushCells->Ql,wpAny_loadPart_at->Qq,swappedStores->Qr,wpAny_storeSet_of->Qy,bindC->QB,newFunctionEnv->UU,wpAny_Constant_str->Va,relayAll->Vd,wpAny_call->Vf,wpAny_pyIter_slot->Vi,carriedByValue->Vk,slot_dict_contains->Vl,wpAny_pyNext_list_item->Vm,sliceRange->Vp,pickOrder->Vr,FuncData->Vx,bindName->Vy,callWith_type->VB,wpAny_assign_Name->VG,setAddHashedIn->VJ,letOwnedTupleGo->VN,entryFor_alias->VQ,IsPart->VT,storeSet->VY,preSum->VZ,Operator->Wa,FuncBody->Wb,wpAny_Slice->We,wpAny_pyHash_int->Wf,dictGet->Wg,wpAny_pyHash_str->Wh,Params->Wk,IsRange->Wo,compTurn->Wr,GenResult->Wu,tupleKind->Wv,wpAny_setField->Ww,entryFor_of_tree->Wx,wpAny_pyIter_tuple->Wy,wpAny_updateDictKeys->Wz,wpAny_notOrdered_dict->WD,isSubtype_tuple_tuple->WE,setNext->WJ,wpAny_sequenceKey->WL,coversAll->WN,dictSet->WO,setRelay->WR,wpAny_load->WU,wpAny_execs_nil->WV,eqIsQuiet_byValue->iB,wpAny_allTrue_Or_cons->iC,slot_list_setitem->iF,wpAny_pyNext_list_end->iH,wpAny_handled->iK,wpAny_eqBool_int->iN,PlainAttrs->iS,name_of_addr->iT,wpAny_attempt->jD,slicePick_upto'->jE,wpAny_letTemporaryGo->jJ,recursionLimit->jK,evalPairs_cons->jL,wpAny_point->jP,pushCells_keeps->jR,wpAny_eqBool_str->jU,slot_dict_getitem->jV,foldedSetIterable->jX,wpAny_fieldsOf->lF,wpAny_comprehension_free->lO,wpAny_ret_mkInt->lP,call->lS,wpAny_throw->lW,wpAny_allTrue_And_cons->lX,sysModules->lY,IsRangeIter->mD,builtinLookup->mF,wpAny_collect_seq->mO,callType_codes->mS,closureFor->mT,excClassObj->mU,wpAny_dictEntries->nQ,ofAClassStatement->nW,slot_dict_setitem->nX,wpAny_getItem_list_slice->nZ,wpAny_richCompare_same_room->oC,callType_new->oH,dictSetHashed->oU,intBits_le_64->oY,getMethod_builtin->pE,methodCallForm->pF,wpAny_newList->pI,wpAny_Constant_int->pQ,wpAny_pyNext_tuple_item->pR,wpAny_runValue->pT,setNextDrawn->pU,isSubtype_stop->qC,methodCallPos->qE,wpAny_Assign_Name->qI,wpAny_alloc->qL
open PySem.Around renaming under_plainId->DS
open PySem.AutoListH renaming list_append_list_val_0->g_
open PySem.AutoSeq1 renaming tuple___add___tuple_tuple_0->D',list_extend_list_list_0->m_,tuple___add___tuple_tuple_1->E_
open PySem.Builtin.Builtins renaming bindParams->zm
open PySem.Builtin.Dict renaming keyAndDefault->VE,addKeywords->lH,selfAndRest->pD,merge->yf,takeOut->yi,notOrdered->zf,pendingCount->z_
open PySem.Builtin.Frozenset renaming updateFrom->za,newClass->Z',slot0->Q_
open PySem.Builtin.Int renaming intBits->e_
open PySem.Builtin.List renaming listSameRef->jM,listUpdate->xt,listExtendWith->zd,listLengthHint->zq,listTooLong->V',listSubscript?->t_
open PySem.Builtin.Range renaming rangeSize->UV,small->jS,rangeFitsLong->M'
open PySem.Builtin.SmallTypes renaming nextOf->JL,ownedTupleIsFree->jY,ownedTupleHandOut->yt
open PySem.Builtin.Str renaming occurrences->nY
open PySem.Builtin.Tuple renaming tupleHashOf->JP,tupleItemsOf->iQ,tupleExact->xx
open PySem.Calls renaming callWith_builtin->Pn,Name_function_global->pY
open PySem.Challenge renaming rw_pq0014_01->xq,pw_pq0014_01->xz
open PySem.Code renaming quiet_builtin->VI,builtin->mP
open PySem.EqMixed renaming eq_int_str->xy,eq_str_int->yr
open PySem.F renaming plain_min_loop->HO,slot_tuple_iterator_next->Pp,entry_min_loop->WY,plain_extend_loop->iA,slot_tuple_lt->iZ,slot_dict_setdefault->jF,slot_list_extend->jH,slot_tuple_index->jI,entry_dict_init->jW,plainAttrs_dict->kK,args_dict_init_2->kL,slot_tuple_hash->kP,slot_list_append->lB,plain_list_iadd->lE,slot_set_iter->lU,args_tuple_iterator_next_1->lZ,plain_set_new->mE,entry_tuple_iterator_next->mG,slot_list_pop->mQ,slot_zip_next->mV,slot_dict_pop->mW,slot_dict_items->nG,slot_str_isspace->nJ,slot_zip_iter->oD,slot_dict_get->pK,slot_dict_len->pO,slot_tuple_eq->qF,args_tuple_add_2->xo,plain_proto_collect->xu,entry_set_new->ya,entry_str_isspace->yb,newCall_set_1->yc,args_dict_pop_2->ye,entry_list_pop->yh,entry_dict_pop->yj,entry_dict_setdefault->yk,plainAttrs_str->ym,entry_list_append->yo,type_str_isspace->yp,type_list_pop->yq,args_dict_setdefault_3->yv,plainAttrs_tuple->zb,args_list_append_2->zj,store_object->zk,plainAttrs_list->zp,args_dict_len_1->zt,entry_tuple_index->zv,entry_type_call->w',args_tuple_index_2->z',entry_tuple_new->K',entry_set_init->N',typeCall_set_1->O',entry_dict_items->U',sub_list_frozenset->W',objNew->X',type_list_extend->Y',entry_list_extend->a_,typeCall_tuple_1->b_,type_list_append->c_,args_set_iter_1->i_,called_tuple->j_,type_dict_items->k_,args_dict_items_1->l_,slot_tuple_add->q_,args_str_isspace_1->s_,entry_dict_get->v_,args_list_extend_2->w_,sub_list_set->A_,entry_tuple_add->C_,type_dict_setdefault->F_,type_dict_get->H_,args_dict_get_3->I_,entry_dict_len->K_,args_list_pop_1->M_,type_tuple_index->R_,slot_dict_init->U_,type_dict_pop->V_,newCall_tuple_1->W_,args_object_init_2->X_
open PySem.Heap renaming get?_push_size->y9,get?_push_of_some->A9,lt_size->C4,size_push->J7,SameBut->Aj,get?_update_self->Hr,get?_update_other->Hs,ExtBut->MM,nsMap->PZ,size_after_update->pM
open PySem.Heap.IsList renaming typeIs->yg
open PySem.Heap.IsSliceOf renaming new->WZ
open PySem.Heap.IsTuple renaming typeIs->p_
open PySem.Heap.IsTupleIter renaming typeIs->Px
open PySem.Heap.Ns renaming of_isNs->Pv,new->o_
open PySem.Heap.Ns1 renaming of_empty->Y_
open PySem.Heap.SameBut renaming update->AY,refl->PO
open PySem.IntMulOk renaming of_left->zy
open PySem.ItemsOf renaming nil->xr
open PySem.KeyKind renaming is_eq_decide->kY
open PySem.MeetsSeq renaming list_pop_last->zi
open PySem.NameKind renaming cell->Vw,free->nA
open PySem.Obj renaming mapSeq->AI,putSet->JK,data_mapFields->jT,data->nL
open PySem.P renaming gt_int->oZ,lt_int->pX
open PySem.ScopeKind renaming function->zx
open PySem.Sem renaming wp->JD,wp_mono->pZ
open PySem.SetTable renaming insertAt->U1,leap->W0,bits->Ag,below->By,runEnd->CH,turns->DP,Probe->DQ,toList_insertAt->Hw,grown->Jy,laid->VF,slot->iM,layClean->iV,has->jA,fill->mL,sizeAbove->xp,orStandIn->yd,tooFull->ze,freeSlot->zr,Met->zw,gaveWay->u_,put->x_,fits->B_,sameMemory->L_
open PySem.SetTable.below renaming go->JJ
open PySem.SetTable.drop renaming match_1->nF
open PySem.SetTable.instReprSlot.repr renaming match_1->oR
open PySem.SetTable.layClean renaming free->Gw
open PySem.SetTable.probe renaming go->JI
open PySem.Shared renaming TypeIs->EL,heap->VA
open PySem.Str renaming ofString->Cg,ofString_eq_toList->Qu
open PySem.StrLaws renaming found_one->yn
open PySem.Unicode renaming isSpace->Pl
open PySem.Value renaming ref->Hy,none->HW,int->VP,type->Wp
open PySem.Value.int renaming injEq->J_
open PySem.Value.type renaming inj->lV
open PySem.W renaming boot_heap->Cc,topRun->EH,KasT->Gh,SharedT->Ms,laidKept->Pc,namesBound->Pj,topStub->Py,staticsOk->Pz,Looks->PA,kas_st->PR,kas_item->PX,boot_toks->Qe,boot_drawn->Qi,hashAt->Qm,gensDone->Qo,topFrom->UY,kas_sort->Vn,kat_kind->VO,openGood->WM,kwWritten?->pB,fencedOpening->qD,holds_open->zc
open PySem.W.Fast renaming te14364793385576792824->xw,te10156331382660048174->yw,tw11892475500146522536->yx,tw14364793385576792824->yy,tw10156331382660048174->C',tw4187177175401517315->G',te6613529449190102663->f_,te4187177175401517315->n_,tw8920871248978507458->y_,tw6613529449190102663->O_,te11892475500146522536->P_,te8920871248978507458->Z_
open PySem.W.KatTups renaming cons->zh,nil->D_
open PySem.W.Looks renaming of_pure->pS
open PySem.W.SharedT renaming abs->xv
open PySem.W.WData renaming int->pW
open PySem.W.WShape renaming hasItems->VX,has->qA
open PySem.W.WTm renaming holds->UX
open PySem.Walks renaming list->UT,tuple->qJ
open PySem.pickOrder renaming go->pH
open Std.Legacy.Range renaming forIn_eq_forIn_range'->jG,size->kQ
open Sum renaming inr->Vv,inl->VH
open ToString renaming toString->Gm
open _root_ renaming Nat->a6,List->a7,Bool->b7,Int->d3,if_pos->g0,Option->j0,String->j3,if_neg->j4,False->k6,Array->l4,congrArg->t0,absurd->u6,decide_eq_true_eq->C3,of_decide_eq_true->C6,or_false->X6,beq_iff_eq->Ai,Unit->Ay,if_false->Bu,beq_self_eq_true->CK,Decidable->Dn,if_true->DY,DecidableEq->Ec,beq_eq_false_iff_ne->Ga,decide_eq_true->Mf,bne_iff_ne->Mt,not_or->Mw,of_decide_eq_false->Qh,ne_eq->Qv,decide_eq_false_iff_not->US,eq_comm->UZ,decide_eq_false->Vb,not_false_eq_true->VD,ite_self->VU,bne_self_eq_false->iW,decide_false->kW,not_true_eq_false->nT
section
open Lean
def Iv(k:Name)(a:a7 Syntax):Syntax:=.node .none k a.toArray
def W3(s:j3):Syntax:=.atom .none s
def Y9(a:a7 Syntax):Syntax:=Iv `null a
def Dc:Syntax:=Y9 []def Da(s:j3)(a:a7 Syntax):Syntax:=Iv (`Lean.Parser.Tactic++s.toName) a
def BF(s:j3)(a:a7 Syntax):Syntax:=Da s (W3 ""::a)def Ks(s:j3)(a:a7 Syntax):Syntax:=Iv (`Lean.Parser.Term++s.toName) a
def IK(l:a7 Syntax):Syntax:=Da "tacticSeq" [Da "tacticSeq1Indented" [Y9 l]]
def KE(f:Syntax->Syntax):a7 Syntax->a7 Syntax
 |a::l=>f a::KE f l
 |l=>l
def Xk:a7 j3->a7 Syntax
 |a::l=>mkIdent a.toName::Xk l
 |_=>[]def NJ(s:j3):a7 Syntax:=Xk (s.splitOn " ")def tY(t:Syntax):Syntax:=Iv `group [W3 "|",IK [t]]def IN(l:a7 Syntax):Syntax:=BF "first" [Y9 (KE tY l)]def Ln(l:a7 Syntax)(f:Syntax):Syntax:=BF "refine" [Ks "app" [f,Y9 (l++[Ks "syntheticHole" [W3 "?",Ks "hole" [W3 "_"]]])]]def dD(s:j3)(l:a7 Syntax):Syntax:=BF s [Da "optConfig" [Dc],Da "rwRuleSeq" [W3 "[",Y9 l,W3 "]"],Dc]def UA(l:a7 Syntax):Syntax:=BF "paren" [IK l,W3 ")"]def KX(a b:Syntax):Syntax:=UA [a,W3 ";",b]
def pz(s:Syntax):MacroM Syntax:=
 let r:=s[2][1][0]
 let q:=s[2][1].getArgs.toList.drop 2
 let e:=if q.isEmpty then BF "tacticTry_" [IK [BF "withReducible" [IK [BF "tacticRfl" []]]]]else dD "rwSeq" q
 if s[3].getNumArgs==0 then pure (IN [KX (Ln [r[1]] (mkIdent (if r[0].getNumArgs==0 then `Internal.rwE else `Internal.rwS))) e,KX (dD "rewriteSeq" [r]) e])
 else Macro.throwUnsupported
def bK(p a:Syntax):Syntax:=Da "simpLemma" [p,Dc,a]
def Sc:a7 Syntax->a7 Syntax
 |a::l=>bK Dc a::W3 ","::Sc l
 |l=>l
def Zq(l:a7 Syntax):Syntax:=BF "simp" [Da "optConfig" [Dc],Dc,Y9 [W3 "only"],Y9 [W3 "[",Y9 l,W3 "]"],Dc]def aJ:j3:="Z1 Z2 Z3 Z4 Z5 Z6 Z7 Z8 Z9 Z10 Z11 Z12 Z13 Z14 Z15 Z16 Z17 Z18 Z19 Z20 Z21 Z22 Z23 Z24 Z25 Z26 Z27 Z28 Z29 Z30 Z31 Z32 Z33 Z34 Z35 Z36 Z37 Z39 Z40 Z41 Z42 Z43 Z44 Z45 Z46 Z47 Z48 Z49 Z50 Z51 Z52 Z53 Z54 Z55 Z56 Z57 Z58 Z59 Z60 Z61 Z62 Z63 Z64 Z65 Z66 Z67 Z68 Z69 Z70 Z71 Z72 Z75 Z76 Z77 Z78 Z79 Z80 Z81 Z82 Z83 Z84 Z85 Z86 Z87 Z88 Z89 Z90 Z91 Z92 Z94 Z95 Z96 Z97 Z98 Z99 Z100 Z101 Z102 Z103 Z104 Z105 Z106 Z107 Z108 Z109 Z110 Z111 Z112 Z113 Z114 Z115 Z116 Z117 Z118 Z119 Z120 Z122 Z123 Z124 Z125 Z126 Z127 Z128 Z129 Z130 Z131 Z132 Z133 Z134 Z135 Z136 Z137 Z138 Z139"
def ft(f:Syntax):Syntax:=BF "exact" [f]
def jq(s:Syntax):MacroM Syntax:=
 let l:=s[1].getSepArgs.toList
 pure (if l.head!.isAtom||l.head!.isOfKind `num then
  Zq (bK (Y9 [Da "simpPre" [W3 "↓"]]) (mkIdent `reduceIte)::W3 ","::Sc (NJ (aJ++" Z38 Z73 Z74 Z93 Z121 envL_cons envL_nil set_ap String.reduceEq decide_true decide_false Bool.not_true Bool.not_false true_and and_true eq_self clr_ap bind1 bind2 tgE tgC List.contains_cons List.contains_nil String.reduceBEq Bool.or_false Bool.or_true Bool.false_or Bool.true_or List.cons_append List.nil_append Bool.false_eq_true")++l.tail!))
 else
  let c:=Ks "byTactic" [W3 "by",IK [IN (KE ft l)]]
  BF "tacticRepeat_" [IK [IN [Zq (Sc (NJ aJ)),IN (KE (Ln [c]) (NJ "oVs oQs oBs oIs oEs oSs oLs oMs k3s")),Ln [c,c,c] (mkIdent `oMl),IN (KE (Ln []) (NJ "Y38 Y73 Y74 Y93 Y121"))]]])def Rw(p q t:Syntax):Syntax:=BF "obtain" [Y9 [Da "rcasesPatMed" [Y9 [p]]],q,Y9 [W3 ":=",Y9 [t]]]def RB(t i:Syntax):Syntax:=Ks "proj" [t,W3 ".",i]def bV(t:Syntax)(s:j3):Syntax:=RB t (Iv `fieldIdx [W3 s])
def RT(t:Syntax):a7 Syntax->a7 Syntax
 |a::r=>if r.isEmpty then[Rw a[0] Dc t]else Rw a[0] Dc (bV t "1")::W3 ";"::RT (bV t "2") r
 |l=>l
def Sd(l:Syntax)(x:Syntax):Syntax:=KX l (BF "clear" [Y9 [x]])
def nr(s:Syntax):MacroM Syntax:=
 let a:=s[1]
 let x:=a[1][0][0]
 pure (KX (Sd (Ln [x] a[0][0][0]) x) (BF "rintro" [Y9 (a.getArgs.toList.drop 2),Dc]))
def RJ:a7 Syntax->a7 Syntax
 |a::l=>if a[0][0].getId==`rfl then RJ l else a[0][0]::RJ l
 |l=>l
def wR(s:Syntax):MacroM Syntax:=
 let a:=s[1]
 let r:=a.getArgs.toList.drop 2
 let x:=a[0][0][0]
 pure (IN [Sd (UA (RT x (a[1]::r))) x,Sd (KX (UA (RT (RB x (mkIdent `choose_spec)) r)) (BF "generalize" [Y9 [Da "generalizeArg" [Dc,RB x (mkIdent `choose),W3 "=",a[1][0][0]]],Y9 [BF "location" [Da "locationHyp" [Y9 (RJ r)]]]])) x])
def xB(s:Syntax):MacroM Syntax:=
 let d:=s[2][0]
 let y:=d[2][0][1]
 if d[0][0].isIdent&&!y.isOfKind `Lean.Parser.Term.hole then
  pure (Rw (Da "rcasesPat.one" [d[0][0]]) (if y.isMissing then Dc else Y9 [W3 ":",y]) d[4])
 else Macro.throwUnsupported
def qh(s:Syntax):MacroM Syntax:=
 let d:=s[1]
 let v:=d[0].getAtomVal
 if v==""||s[0][1].getNumArgs != 0 then Macro.throwUnsupported else
  pure ((s.setArg 1 (d.setArg 0 (W3 ""))).setArg 0 (if v=="def"||v=="abbrev" then s[0].setArg 4 (Y9 [Iv `Lean.Parser.Command.noncomputable [W3 ""]])else s[0]))
end
section
local macro_rules (kind:=Lean.Parser.Command.declaration)
 |s=>qh s
local macro_rules (kind:=Lean.Elab.Tactic.Ext.ext)
 |s=>nr s
local macro_rules (kind:=Lean.Elab.Tactic.Ext.tacticExt1___)
 |s=>wR s
local macro_rules (kind:=Lean.Parser.Tactic.tacticLet__)
 |s=>xB s
set_option backward.match.sparseCases false
namespace Internal
section
variable{a b c d e f g n m o p r s t u:a6}{i j k l v w x y z:d3}
theorem gA(c:a<=n)(d:b<=a)(e:CJ n m=a8):b<=m:=b6 d (b6 c (MN e))theorem gB(c:a+n<b)(e:CJ m n=a8):a+m<b:=q5 (G1 (MN e) a) c
theorem gD(c:a+n<b)(e:CJ (m+p) n=a8):a+m+p<b:=Q7 a m p▸gB c e
theorem gL(c:a+n<b)(e:CJ (m+(p+o)) n=a8):a+m+p+o<b:=Q7 (a+m) p o▸gD c e
theorem gC(b:n<=a)(e:CJ n m=c8):¬m=a:=λh=>Ch (e.symm.trans (jO (h▸b)))theorem gF(b:n<=a)(e:CJ n m=c8):¬a=m:=λh=>gC b e h.symm
theorem gM(b:a<=n)(e:CJ m n=c8):¬a=m:=λh=>Ch (e.symm.trans (jO (h▸b)))theorem gE(b:a=n)(e:CJ m n=a8)(f:CJ n p=a8):m<=a/\a<=p:=b▸⟨MN e,MN f⟩theorem gG(c:a<b)(d:b<=n)(e:CJ n m=a8):a<=m:=gA d (m9 c) e
theorem gH(c:a=b)(d:b<=n)(e:CJ n m=a8):a<=m:=gA d (A1 c) e
theorem gK(b:a<=n)(e:CJ n m=a8):a<=m:=gA b (l8 a) e
theorem gJ(d:n<a)(f:a<=b)(g:b=c)(e:CJ m n=a8):¬m=c:=λh=>U4 m (q5 (MN e) (j7 d (h▸g▸f)))theorem Bc(d:a<b)(e:c<=a):c<b:=q5 e d
theorem Cv(e:a<b)(d:c=b):a<c:=by subst d;assumption
theorem EB(d:a<b)(e:c=b+1):a<c:=by subst e;exact BL d
theorem FB(e:a<b)(f:b<=a):c<=d:=u6 e (Nat.not_lt.mpr f)theorem Hm(e:a<b)(d:b=c):a<c:=by subst d;assumption
theorem Hl(d:a<b)(e:b=c+1)(f:¬a=c):a<c:=by subst e;exact DX (v0 d) f
theorem Jd(d:a+1+b<c):a<c:=m9 (q5 (G3 _ _) d)theorem Lf(c:a<b)(d:b<=a):k6:=U4 _ (j7 c d)theorem KJ(c:a<b)(d:a=b):k6:=by subst d;exact u6 c (U4 _)theorem Kj(c:a<=b+2/\b<=6):a<=100:=b6 c.1 (b6 (O8 c.2 _) (by decide))theorem KY(d:a<b)(e:b=c):a≠c:=by subst e;exact m6 d
theorem NI(d:a<=b+1)(e:b<=c):a<=c+1:=b6 d (O8 e _)theorem Na(c:a=b+1):b<a:=by subst c;exact B8 _
theorem OA(c:a<b+1)(d:a≥b):a=b:=AL (v0 c) d
theorem NH(c:a<b+1)(d:¬a=b):a<b:=DX (v0 c) d
theorem OO(d:a<b)(e:b=c):¬a=c:=m6 (j7 d (A1 e))theorem Nz(c:a<b):¬b+1=a:=λe=>U4 a (j7 c (e▸N8 b))theorem RV(c:a<64)(d:b=a):b<=16777216:=by subst d;exact b6 (m9 c) (by decide)theorem Rs(c:a<b):b - a=b - (a+1)+1:=by rw[Wj];exact(HR (Jt c)).symm
theorem UB(c:a+1<b):b=b - 1+1:=(HR (pL c)).symm
theorem SW(c:a<=b+2/\b<=6):a<=1000:=b6 c.1 (b6 (O8 c.2 _) (by decide))theorem UE(d:a<b)(e:b<=20)(f:c<=a):c<=1000:=b6 f (b6 (m9 d) (b6 e (by decide)))theorem fR(d:a<64)(c:b=a):b<64:=by subst c;assumption
theorem dT(a:0<i/\i<=10000000):i≠0:=by intro e;subst e;exact u6 a (by decide)theorem Ye(c:a<b):b - 1 - a<b:=q5 (My _ _) (Wn (pL c) (M7 0))theorem aT(d:a=b)(e:b<=c):a<=c:=by subst d;assumption
theorem ZA(c:0<=i)(b:(↑a:d3)<j)(d:i<=(↑a:d3)):-j<=i/\i<j:=⟨JS (Pb (Gv (DT (JQ a) b))) c,DT d b⟩theorem uq(d:a - b=a - (b+1)+1)(e:a=c):b<c:=e▸Ml (d▸M7 _)theorem Zw(d:a+1<=b)(e:a=c+1):c<=b:=b6 (N8 c) (b6 (A1 e.symm) (a6.le_of_succ_le d))theorem fM(d:a+1<=b)(e:a=c+1):c<b:=by subst e;exact m9 d
theorem dE(e:a<b)(f:a=b):c=d:=by subst f;exact u6 e (U4 _)theorem tq(c:a+1<=b)(d:b<=a):k6:=u6 c (Nat.not_lt.mpr d)theorem Xg(c:a<b+1)(d:a≠0):a - 1<b:=j7 (Wn (MH d) (M7 0)) (v0 c)theorem eJ(c:a≠0):b+1+(a - 1)=b+a:=by rw[Q7,DR (MH c)]theorem cH(d:a+1+b=c):b<c:=d▸j7 (BK (M0 b a)) (A1 (Y7 a b 1))theorem fJ(d:23<=a)(c:b=a):23<=b:=by subst c;assumption
theorem YF(b:11<=a/\a<=15)(c:a<11\/15<a/\a<23):k6:=c.elim (λh=>u6 (q5 b.1 h) (by decide)) λh=>u6 (j7 h.1 b.2) (by decide)theorem fW(b:23<=a)(c:a<11\/15<a/\a<23):k6:=c.elim (λh=>u6 (q5 b h) (by decide)) λh=>u6 (q5 b h.2) (by decide)theorem XN(b:11<=a/\a<=15)(c:23<=a):k6:=u6 (b6 c b.2) (by decide)theorem dL(b:a=19):a<11\/15<a/\a<23:=by subst b;decide
theorem aH(d:a<=b+2/\b<=6)(e:c<=a):c<=100:=b6 e (b6 d.1 (b6 (O8 d.2 2) (by decide)))theorem Yb:a+b=b+a:=by simp only[Q7,Al,Hv]theorem cR:¬a=a+1:=by simp
theorem fG:a+1≠a:=by simp
theorem YD(e:a=b+1)(d:b=c+1):a=c+2:=by subst d;assumption
theorem cA(e:a=b+1)(d:b=c+2):a=c+3:=by subst d;assumption
theorem fO(c:a+b<=8):b<=100:=b6 (M0 b a) (b6 c (by decide))theorem wj(d:2<=a)(c:b=a):2<=b:=by subst c;assumption
theorem ag(c:a<2)(d:a=b+1+1):k6:=u6 (d▸c) (Nat.not_lt.mpr (M0 2 b))theorem vQ(e:a=b)(d:c=b):a=c:=by subst d;assumption
theorem sn(d:a+(b+1)+1<c):a+1+b<c:=by rw[Y7];exact a6.lt_of_succ_lt d
theorem du(b:3<a)(c:a<=1):k6:=u6 (j7 b c) (by decide)theorem ku(b:a=0):¬(↑a:d3) - 1> -1:=by subst b;decide
theorem zG(b:¬a=0):(↑a:d3) - 1> -1:=d3.lt_sub_right_of_add_lt (by show(-1+1:d3)<a;exact Int.ofNat_lt.mpr (MH b))theorem mv:((↑a:d3) - 1 - -1 - -1 - 1).toNat=a:=by simp
theorem rH:((↑a:d3) - 1+ -1*(↑b:d3)).toNat=a - 1 - b:=by rw[d3.neg_mul,d3.one_mul,<-d3.sub_eq_add_neg,iJ];exact(d3.toNat_sub a (1+b)).trans (a6.sub_sub a 1 b).symm
theorem eh(b:0<=i/\i<=(↑a:d3))(c:(↑a:d3)<j):¬i< -j/\¬i≥j:=⟨Int.not_lt.mpr (JS (Pb (Gv (DT (JQ a) c))) b.1),Int.not_le.mpr (DT b.2 c)⟩theorem th(b:0<=i/\i<=(↑a:d3))(c:(↑a:d3)<j):-j<=i:=JS (Pb (Gv (DT (JQ a) c))) b.1
theorem vf(d:1<=i/\i<=(↑a:d3)/\a<=b)(e:c=a):i.toNat<=c:=by subst e;exact Int.toNat_le.mpr d.2.1
theorem uC:i - 0 - 1+1=i:=by simp
theorem vl(c:0<=i)(b:(↑a:d3)<j)(d:i<=(↑a:d3)):-j<=i+(1 - 1)/\i+(1 - 1)<j:=by rw[show(1 - 1:d3)=0 from rfl,d3.add_zero];exact⟨JS (Pb (Gv (DT (JQ a) b))) c,DT d b⟩theorem bc(e:a<b)(f:c=b)(g:d<=a):d<c:=by subst f;exact q5 g e
theorem ty(e:a<b)(f:c=b)(g:d<=a):c - d=c - (d+1)+1:=by subst f;rw[Wj];exact(HR (Jt (q5 g e))).symm
theorem rL(d:a+20*b+60<c):a+30<c:=q5 (b6 (G1 (by decide:30<=60) a) (O8 (G3 a _) 60)) d
theorem sA(d:a+3*(b+1)+3<c):a<c:=q5 (b6 (G3 a _) (G3 _ 3)) d
theorem uh(d:a+3*(b+1)+3<c):a+1+3*b+5<c:=q5 (by rw[Qn,Y7 a 1,Q7 (a+_),<-Q7 a,Q7 (a+_)];exact G1 (by decide) _) d
theorem jt(d:a+20*(b+1)+60<c):a+3+20*b+75<c:=q5 (by rw[Qn,Y7 a 3,Q7 (a+_),<-Q7 a,Q7 (a+_)];exact G1 (by decide) _) d
theorem ig(d:a+3*b+5<c):a+1+3*b+3<c:=q5 (by rw[Y7 a 1,Q7 (a+_)];exact G1 (by decide) _) d
theorem ry(d:a+20*b+75<c):a+1+20*b+60<c:=q5 (by rw[Y7 a 1,Q7 (a+_)];exact G1 (by decide) _) d
theorem dj:a+(b+1)=a+1+b:=by simp only[Q7,Al,Hv]theorem il(e:a=b)(d:b=c):a=c:=by subst d;assumption
theorem yS(c:a+1<=b):a<b:=by assumption
theorem tG(c:(a+b)/2<b):a<=(a+b)/2:=v0 (BK (Qz (M7 1)|>.mpr (by rw[Mc];exact G1 (Vj λq=>u6 c (Nat.not_lt.mpr (Qz (M7 1)|>.mpr (by rw[Mc];exact O8 (m9 q) b)))) a)))
theorem sr(d:a - b<=c+1):a - ((b+a)/2+1)<=c:=by
 rcases JR b a with h|h
 .exact b6 (Wq (T9 ((Qz (by decide)).mpr (Mc b▸G1 h b))) a) (a6.pred_le_pred d)
 .rw[Wm (U6 ((Qz (by decide)).mpr (Mc a▸O8 h a)))];exact F9 _
theorem mc(d:a - b<=c+1):(b+a)/2 - b<=c:=HS (v0 ((a6.div_lt_iff_lt_mul (by decide)).mpr (by rw[Mc];exact q5 (G1 (lG d) b) (a6.add_lt_add_of_lt_of_le (BK (M0 b c)) (A1 (Y7 c 1 b))))))theorem we(e:a+1<=b)(f:b=a):c=d+1:=by subst f;exact u6 e (U4 _)theorem uD(f:a<b+1)(g:c<a)(h:c=b):d=e+1:=(U4 c (j7 g (b6 (v0 f) (A1 h.symm)))).elim
theorem wf:a - a<=9/\a<=a/\(a<=b->a<=b):=by simp
theorem vP:¬a - a>0:=by simp
theorem yP(d:a<b+1)(e:a<c):b+1 - c+a<=b:=b6 (O8 (Wq (Ve e) (b+1)) a) (by rw[a6.add_sub_add_right,pJ (v0 d)];exact l8 _)theorem rM(d:a<b+1):a+(b+1 - a+c)=b+1+c:=by rw[<-Q7,DR (m9 d)]theorem sZ(e:a<=10*b)(f:b<=c+13)(g:d<=9):d+1+a<10*(c+15):=q5 (U0 (T9 g) (b6 e (Y4 10 f))) (by rw[pG,pG,Hv];exact Gi (by decide) _)theorem wW(d:a+b<=c)(e:b>0):a+1+(b - 1)<=c:=by rw[Q7,DR e];exact d
theorem cz(c:¬a<b)(d:¬a=b):a - b=a - b - 1+1:=(HR (Jt (DX (Nat.not_lt.mp c) (C8 d)))).symm
theorem jr(c:a - b=a - b - 1+1):b+(a - b - 1)=a - 1:=by rw[<-a6.add_sub_assoc (Jt (Ml (c▸M7 _))),DR (m9 (Ml (c▸M7 _)))]theorem tW(f:a<b+1 - c)(g:d<e+a):d - e<=b - c:=HS (b6 (v0 (T9 (m9 g))) (Al e a▸O8 (WH (v0 (JO f))) e))theorem qt(g:a<b+1 - c)(h:b<=d)(i:e<f+a):c+(e - f)<=d:=b6 (G1 (HS (Al f a▸m9 i)) c) (b6 (Al c a▸v0 (JO g)) h)theorem jk(e:a - b<=9/\b<=a/\(b<=c->a<=c))(f:a<=c)(g:d<=a - b):b+d<=c:=b6 (G1 g b) (b6 (A1 (DR e.2.1)) f)theorem iq(e:a - b<=9/\b<=a/\(b<=c->a<=c))(f:d<=a - b):d<a+1 - b:=by rw[a6.succ_sub e.2.1];exact BK f
theorem tH(c:a*5<b*3):a<=b:=m9 (JY (a:=5) (j7 c (Y4 b (by decide))))
theorem zC(h:a<b+1)(f:c<d+a)(g:d<=c):d+a - (c+1)<b:=q5 (Wq (T9 g) (d+a)) (by
 refine(?_:d+a - (d+1)<b);rw[a6.add_sub_add_left];exact j7 (Wn (MH λe=>U4 d (q5 g (by rw[e]at f;exact f))) a6.one_pos) (v0 h))theorem ef(b:(a - 1)*5<7*3)(c:a*5≥7*3):a=5:=AL (kO (JY (a:=5) (j7 b (by decide:7*3<=5*5)))) (JY (a:=5) (j7 (by decide:4*5<7*3) c))theorem tD(b:(a - 1)*5<31*3)(c:a*5≥31*3):a=19:=AL (kO (JY (a:=5) (j7 b (by decide:31*3<=19*5)))) (JY (a:=5) (j7 (by decide:18*5<31*3) c))theorem xQ(b:a*5≥127*3)(c:a<=64):k6:=u6 (b6 b (EI 5 c)) (by decide)theorem oz(d:a - b=c+1):a - (b+1)=c:=by rw[Wj,d];rfl
theorem ew(d:a<b)(e:c=b):a≠c:=by subst e;exact m6 d
theorem wD:(↑a:d3)<(↑b:d3)↔a<b:=by simp
theorem qp(b:11<=a/\a<=15)(c:a=16):k6:=u6 (c▸b.2:16<=15) (by decide)theorem wJ(b:23<=a)(c:a=16):k6:=u6 (c▸b:23<=16) (by decide)theorem rA(b:a=17):a<11\/15<a/\a<23:=by subst b;decide
theorem wC(b:a=20):a<11\/15<a/\a<23:=by subst b;decide
theorem uY(g:a<=b+2/\b<=6)(h:c<=a)(i:d<=b+c/\e<=c/\f<=c):f<=100:=b6 i.2.2 (b6 h (b6 g.1 (b6 (O8 g.2 2) (by decide))))theorem xe(g:a<=b+2/\b<=6)(h:c<=a)(i:d<=b+c/\e<=c/\f<=c):d<=100:=b6 i.1 (b6 (U0 g.2 (b6 h (b6 g.1 (O8 g.2 2)))) (by decide))theorem yX(g:a<=b+2/\b<=6)(h:c<=a)(i:d<=b+c/\e<=c/\f<=c):e<=100:=b6 i.2.1 (b6 h (b6 g.1 (b6 (O8 g.2 2) (by decide))))theorem vh(h:a+b+c<=d+20*e)(g:d<=f+2/\f<=6)(i:e<=d):b<=500:=b6 (b6 (b6 (M0 b a) (G3 (a+b) c)) h) (b6 (U0 (b6 g.1 (O8 g.2 2)) (Y4 20 (b6 i (b6 g.1 (O8 g.2 2))))) (by decide:6+2+20*(6+2)<=500))theorem uU(h:a+b+c<=d+20*e)(g:d<=f+2/\f<=6)(i:e<=d):a<=500:=b6 (b6 (b6 (G3 a b) (G3 (a+b) c)) h) (b6 (U0 (b6 g.1 (O8 g.2 2)) (Y4 20 (b6 i (b6 g.1 (O8 g.2 2))))) (by decide:6+2+20*(6+2)<=500))theorem xO(f:a<=2*b)(e:b<=c+2/\c<=6)(g:d<=a):d<=100:=b6 g (b6 f (b6 (Y4 2 (b6 e.1 (O8 e.2 2))) (by decide)))theorem ls:a+b+c=c+b+a:=by simp only[Q7,Al,Hv]theorem vD(f:a<=2*b)(e:b<=c+2/\c<=6)(g:d<=a):d<=16:=b6 g (b6 f (Y4 2 (b6 e.1 (O8 e.2 2))))theorem qW(h:a+1<=b)(i:c+d+e<=f+20*a)(j:g<=16):c+(d+g)+e<=f+20*b:=by rw[<-Q7 c d g,Y7 (c+d) g e];exact b6 (U0 i (b6 j (by decide:16<=20))) (by rw[Q7,<-Qn];exact G1 (Y4 20 h) f)theorem cw(h:a+1<=b)(i:c<=d+a/\e<=a/\f<=a)(j:d<=g/\g<=6):c+1<=g+b/\e+1<=b/\f+1<=b:=⟨Ve (q5 i.1 (q5 (O8 j.1 _) (Gi h _))),b6 (T9 i.2.1) h,b6 (T9 i.2.2) h⟩theorem tM(f:a+1<=b)(g:b<=c)(h:d<=16):e+d+20*(c - b)<e+20*(c - a):=by rw[Q7];exact Gi (j7 (nP (q5 h (by decide:16<20)) _) (by rw[Al,<-Qn];exact Y4 20 (WH (by rw[a6.succ_add,<-a6.add_succ];exact b6 (G1 f _) (A1 (pJ g)))))) e
theorem pd(f:a+b+(c+1)<=d+20*e):a+1+b+c<=d+20*e:=(by rw[Y7 a 1 b,Q7 (a+b) 1 c,Al 1 c];exact f)theorem cv:a+(0+1)+(b+c)=a+b+(c+1):=by simp only[Q7,Al,Hv]theorem uG:a+(b+c)=a+b+c:=by simp only[Q7,Al,Hv]theorem xM(d:a=b)(e:c=b):a<=c:=A1 (d.trans e.symm)theorem yU(d:a<b)(e:a=b):b=c:=by subst e;exact u6 d (U4 _)theorem mt(d:a<b)(e:a=b):c=b:=by subst e;exact u6 d (U4 _)theorem xd(e:a<b)(f:b=a):c=d:=by subst f;exact u6 e (U4 _)theorem be(f:a=b+1)(g:c<=2*b)(h:d<=2)(i:e<=d):c+e+(0+0)<=2*a:=by subst f;exact(U0 g (b6 i h):c+e<=2*b+2)theorem lu(e:a+1<=b+2/\c<=b/\b<=6)(f:d=a+1):d<=b+2/\b<=6:=by subst f;exact⟨e.1,e.2.2⟩theorem vn(c:a<64)(d:b<=a):b<64:=q5 d c
theorem pi(c:23<=a)(d:b<=10):¬b=a:=λe=>u6 (b6 c (e▸d)) (by decide)theorem bp(f:a<b)(g:b<=c)(h:c<d)(i:e=d):a≠e:=by subst i;exact m6 (j7 f (b6 g (m9 h)))theorem rX(h:a=b+1)(i:c<b)(j:a<=d)(k:e<=c)(l:d<=f)(m:g<e):f≠g:=L0 (j7 m (b6 k (b6 (m9 i) (b6 (h▸N8 b) (b6 j l)))))theorem sq(b:a<=2\/a=21\/a=22):¬(3<=a/\a<=20\/23<=a):=by rcases b with h|h|h<;>first|exact λe=>e.elim (λe=>u6 (b6 e.1 h) (by decide)) (λe=>u6 (b6 e h) (by decide))|(subst h;decide)theorem zW(b:3<=a/\a<=20)(c:a<=2\/a=21\/a=22):k6:=by rcases c with h|h|h<;>first|exact u6 (b6 b.1 h) (by decide)|(subst h;exact u6 b.2 (by decide))theorem ak(b:23<=a)(c:a<=2\/a=21\/a=22):k6:=c.elim (λh=>u6 (b6 b h) (by decide)) λh=>h.elim (λh=>u6 (h▸b) (by decide)) λh=>u6 (h▸b) (by decide)theorem uo(c:23<=a)(d:a=b)(e:b<=2\/b=21\/b=22):k6:=by subst d;exact e.elim (λh=>u6 (b6 c h) (by decide)) λh=>h.elim (λh=>u6 (h▸c:23<=21) (by decide)) λh=>u6 (h▸c:23<=22) (by decide)theorem av(b:a<2):a=0\/a=1:=by revert b;revert a;decide
theorem cj(c:a<=b+2/\b<=6):1+3*b+1<=500:=b6 (T9 (G1 (Y4 3 c.2) 1)) (by decide)theorem ir(c:a<=b+2/\b<=6):1+3*b+1+1<=500:=b6 (T9 (T9 (G1 (Y4 3 c.2) 1))) (by decide)theorem ip(d:a+b<=c+2)(e:a<=c+2/\c<=6):b<=1000:=b6 (M0 b a) (b6 d (b6 (O8 e.2 2) (by decide)))theorem wX(e:a<b)(d:b<=c+1+2/\c+1<=6):a<=1000:=b6 (m9 e) (b6 d.1 (b6 (O8 d.2 2) (by decide)))theorem yL(b:a<7):1+3*a<=20:=b6 (G1 (Y4 3 (v0 b)) 1) (by decide)theorem rf(d:a=b)(e:a<=c):b<=c:=by subst d;assumption
theorem rh(d:a<b)(e:b=c):c≠a:=by subst e;exact L0 d
theorem lr(e:a+1<=b)(f:b<=c)(g:d=c - a+1):c - b+1<d:=by rw[g];exact a6.succ_lt_succ (a6.sub_lt_sub_left (j7 e f) e)theorem gd(c:21<a)(d:a=b):21≠b:=by subst d;exact m6 c
theorem fz(c:2<a)(d:a=b):b≠2:=by subst d;exact L0 c
theorem rq(e:a<1+b)(f:b<3)(g:c<=100)(h:d<=c+1+4*a):d<=500:=b6 h (b6 (U0 (T9 g) (Y4 4 (v0 (j7 e (G1 (v0 f) 1))))) (by decide:100+1+4*2<=500))theorem rN(b:a<6):a=0\/a=1\/a=2\/a=3\/a=4\/a=5:=by revert b;revert a;decide
theorem vq(g:a<=100)(h:b<3)(i:c<=a+1+4*d)(j:d<1+b)(k:e<=3)(l:f<e):c+1+f<=500:=b6 (U0 (T9 (b6 i (U0 (T9 g) (Y4 4 (v0 (j7 j (G1 (v0 h) 1))))))) (b6 (m9 l) k)) (by decide:100+1+4*2+1+3<=500)theorem wh(b:a<4):a=0\/a=1\/a=2\/a=3:=by revert b;revert a;decide
theorem pu(d:a<1+b)(e:b<3)(f:c=a):c<=1000:=f▸b6 (m9 d) (b6 (G1 (m9 e) 1) (by decide))theorem gj(e:a<=3)(f:b<=c+1+4*d):b+1+a<=c+1+4*(d+1):=by rw[Q7 b 1 a];exact(U0 f (G1 e 1):b+(1+a)<=c+1+4*d+4)theorem wU(c:1<a)(d:a=b):¬1=b:=by subst d;exact m6 c
theorem rK(d:a<3)(e:b<=c+1+4*(1+a)):b<=c+13:=b6 e (G1 (Y4 4 (G1 (v0 d) 1)) (c+1))theorem nw(d:a=b)(e:c<=a):c<=b:=by subst d;assumption
theorem tQ(h:a<=20)(i:b<=a)(j:c<=20*d)(k:d<b)(l:e<=a)(m:f<=g)(n:g<e):c+f<=900:=b6 (U0 (b6 j (Y4 20 (b6 (m9 k) (b6 i h)))) (b6 m (b6 (m9 n) (b6 l h)))) (by decide)theorem ei(c:a=b):a<=b:=by exact A1 ‹_›
theorem vU(f:a<b)(g:c=b+2)(h:c<=d)(i:d<=e):¬e=a:=L0 (j7 (j7 f (g▸G3 b 2)) (b6 h i))theorem xK(g:a<=50)(h:b<a)(i:c<=4)(j:d<=1+4*b+e)(k:e<c)(l:f<=d):f<=1000:=b6 l (b6 j (b6 (U0 (G1 (Y4 4 (b6 (m9 h) g)) 1) (b6 (m9 k) i)) (by decide)))theorem vK(c:a<=1+4*b)(d:b<=20):a<=1000:=b6 c (b6 (G1 (Y4 4 d) 1) (by decide))theorem rp(c:a=b)(d:b<=10):a<64:=by subst c;exact q5 d (by decide)theorem xA(f:a+b<=c)(g:c<=6561)(h:d+e<=b):d<=6561:=b6 (b6 (G3 d e) h) (b6 (M0 b a) (b6 f g))theorem wT(e:a<b)(f:b=c)(g:d<b):c≠a/\c≠d:=by subst f;exact⟨L0 e,L0 g⟩theorem vu(c:a=1):b<b+a:=by subst c;exact B8 _
theorem gf(d:a<b)(f:b=c):¬c=a:=λe=>U4 a (j7 d (A1 (f.trans e)))theorem rY(o:a=b)(h:b<c)(i:c<=d)(j:e<a)(k:f<a)(l:g<a)(m:n<a):e≠b/\e≠d/\f≠b/\f≠d/\g≠b/\g≠d/\n≠b/\n≠d:=by subst o;exact⟨m6 j,m6 (AJ j (j7 h i)),m6 k,m6 (AJ k (j7 h i)),m6 l,m6 (AJ l (j7 h i)),m6 m,m6 (AJ m (j7 h i))⟩theorem wA(f:a<b)(g:b=c)(h:c<d)(i:d<=e):¬(a=c\/a=e):=by subst g;exact λe=>e.elim (m6 f) (m6 (j7 (AJ f h) i))theorem xV(e:a=b)(f:a<=c)(g:b=d)(h:c≠d)(i:c<=d):k6:=h (AL i (g▸e▸f))theorem dy(f:a=b)(g:a<=c)(h:c≠d)(i:c<=d):b≠d:=λe=>h (AL i (e▸f▸g))theorem ey(c:a<b):a<2+(b - 2):=j7 c (lG (l8 _)|>λh=>Al 2 _▸h)theorem og(f:a<b)(g:c=d)(h:c<=a):d≠b:=λe=>U4 a (j7 f (e▸g▸h))theorem ur(e:a<=b)(f:c<=d):a+c<=d+b:=Al d b▸U0 e f
theorem bN(f:a+b<=8)(g:c<=a - 2)(i:d<=b+1)(j:e<=c)(k:e<=d):e<=3:=v0 (a6.lt_of_not_le λh=>u6 (b6 (U0 (Ve (JO (b6 (b6 h j) g)):6<=a) (nV (b6 (b6 h k) i):3<=b)) f) (by decide))theorem jw(b:5<=a)(c:a<=4):k6:=u6 b (Nat.not_lt.mpr c)theorem qs(c:a=b):b<=a:=by subst c;exact l8 _
theorem gu(c:a<b)(d:b<=3):a<=2:=v0 (j7 c d)theorem vG(e:a<=64)(f:b<=a)(g:c<=b*8)(h:d<=c):d<=100000:=b6 h (b6 g (b6 (EI 8 (b6 f e)) (by decide)))theorem xD(e:a=b+1)(d:b=c+3):a=c+4:=by subst d;assumption
theorem oo(c:a<b):¬b+2=a:=λe=>U4 a (j7 c (e▸G3 b 2))theorem tF(b:a=5):a+1+1=7:=by subst b;rfl
theorem tE(b:a=11):a+1+1=13:=by subst b;rfl
theorem ue(d:a<b)(c:b=5):a<5:=by subst c;assumption
theorem ff(e:a+b<=8)(f:c<=a)(g:d<=c):d<=100000:=b6 g (b6 f (b6 (G3 a b) (b6 e (by decide))))theorem mq(d:a+b<=8)(e:c<=a):c<64:=q5 e (q5 (b6 (G3 a b) d) (by decide))theorem tS(b:a=0):a+1=1:=by subst b;rfl
theorem yR(b:a=1):a+1=2:=by subst b;rfl
theorem rC(b:a=2):a+1=3:=by subst b;rfl
theorem rm(b:a=3):a+1+1=5:=by subst b;rfl
theorem uc(b:a=23):23<=a:=by subst b;exact l8 _
end
section
variable{α β:Type _}{l:a7 α}{j:a6}
theorem Y1(h:c∈l.map f):∃a,a∈l/\f a=c:=List.mem_map.mp h
theorem A8{G:Prop}(h:c∈l.map f)(k:∀a,a∈l->f a=c->G):G:=(List.mem_map.mp h).elim λa h=>k a h.1 h.2
theorem B9(h:a∈l)(e:f a=c):c∈l.map f:=List.mem_map.mpr ⟨a,h,e⟩theorem v4(h:a∈l++m):a∈l\/a∈m:=List.mem_append.mp h
theorem D2(h:a∈b::l):a=b\/a∈l:=List.mem_cons.mp h
theorem BZ(h:a∈l.filter p):a∈l/\p a=a8:=List.mem_filter.mp h
theorem NS(h:a∈l.filter p):a∈l:=(List.mem_filter.mp h).1
theorem Gy(h:a∈l.filter p):p a=a8:=(List.mem_filter.mp h).2
theorem BH(h:a∈l)(e:p a=a8):a∈l.filter p:=List.mem_filter.mpr ⟨h,e⟩theorem P8:a∈[a]:=List.mem_singleton.mpr rfl
theorem ph(h:a∈[b]):a=b:=List.mem_singleton.mp h
theorem U7(h:i∈p0 n):i<n:=List.mem_range.mp h
theorem CC(h:i<n):i∈p0 n:=List.mem_range.mpr h
theorem x0(h:l[i]?=a0 a):i<l.length:=(List.getElem?_eq_some_iff.mp h).1
theorem FN(h:l[i]?=a0 a):∃q:i<l.length,l[i]=a:=List.getElem?_eq_some_iff.mp h
theorem KR{l:l4 α}(h:l[i]?=a0 a):i<l.size:=(Array.getElem?_eq_some_iff.mp h).1
theorem UM{l:l4 α}(h:l[i]?=a0 a):∃q:i<l.size,l[i]=a:=Array.getElem?_eq_some_iff.mp h
theorem N2(h:a∈l):∃i,∃q:i<l.length,l[i]=a:=List.mem_iff_getElem.mp h
theorem S9(h:l.all p=a8):∀x,x∈l->p x=a8:=List.all_eq_true.mp h
theorem Cw(h:∀x,x∈l->p x=a8):l.all p=a8:=List.all_eq_true.mpr h
theorem BN(h:l.Nodup):l.Pairwise (·≠·):=List.nodup_iff_pairwise_ne.mp h
theorem TK(h:l.Pairwise (·≠·)):l.Nodup:=List.nodup_iff_pairwise_ne.mpr h
theorem Dd(h:∀a,a∈l->p a=a8):l.filter p=l:=List.filter_eq_self.mpr h
theorem Bm(h:¬i<j):j<=i:=Nat.not_lt.mp h
theorem P9(h:j<=i):¬i<j:=Nat.not_lt.mpr h
theorem Yw(h:¬i<=j):j<i:=Nat.not_le.mp h
theorem Cz{p:α×β}(h:p=q):p.1=q.1/\p.2=q.2:=Prod.ext_iff.mp h
theorem DC{a:b7}(h:(a||b)=a8):a=a8\/b=a8:=(kH _ _).mp h
theorem o6{a:b7}(h:(a&&b)=a8):a=a8:=((C2 _ _).mp h).1
theorem o5{a:b7}(h:(a&&b)=a8):b=a8:=((C2 _ _).mp h).2
theorem Kw{a:b7}(h:a=a8/\b=a8):(a&&b)=a8:=Bool.and_eq_true_iff.mpr h
theorem GN{β:Type _}{o:j0 α}{f:α->β}{b:β}(h:o.map f=a0 b):∃a,o=a0 a/\f a=b:=Option.map_eq_some_iff.mp h
theorem NT(h:(a::l).Pairwise R):(∀b,b∈l->R a b)/\l.Pairwise R:=List.pairwise_cons.mp h
theorem OD(h:(∀b,b∈l->R a b)/\l.Pairwise R):(a::l).Pairwise R:=List.pairwise_cons.mpr h
theorem bX{c:Prop}[Dn c]{a:Prop}(h:c)(k:a):if c then a else b:=by rw[g0 h];exact k
theorem YG{c:Prop}[Dn c]{a:Prop}(h:¬c)(k:b):if c then a else b:=by rw[j4 h];exact k
theorem G5{c:Prop}[Dn c](h:c)(k:a=d):(if c then a else b)=d:=by rw[g0 h];exact k
theorem Ey{c:Prop}[Dn c](h:¬c)(k:b=d):(if c then a else b)=d:=by rw[j4 h];exact k
end
theorem Hh{a:a6}(h:a<min b c):a<b:=j7 h (PS _ _)theorem Ih{a:a6}(h:a<min b c):a<c:=j7 h (Go _ _)theorem Jh{a:a6}(h:a<=c):min a b<=c:=b6 (PS _ _) h
theorem Hd{a:a6}(h:b<=c):min a b<=c:=b6 (Go _ _) h
theorem cC:min a b+(b - a+1)=b+1:=by
 rcases JR a b with h|h
 .rw[EJ h,<-Q7,a6.add_sub_cancel' h]
 .rw[Hu h,Wm h]theorem wZ{a:a6}:min a b=a/\max a b=b\/min a b=b/\max a b=a:=(JR a b).imp (λh=>⟨EJ h,LU h⟩) λh=>⟨Hu h,Mo h⟩
theorem Ux{a:a6}(h:¬a=b):min a b<max a b:=by
 rcases a6.lt_or_gt_of_ne h with h|h
 .rw[EJ (m9 h),LU (m9 h)];exact h
 .rw[Hu (m9 h),Mo (m9 h)];exact h
theorem Fe{a:a6}(h:a<=b):(a:d3)<=(b:d3):=Int.ofNat_le.mpr h
theorem di{a:a6}(h:min a b<=c)(k:¬a<=c):b<=c:=by
 rcases JR a b with q|q
 .rw[EJ q]at h;exact(k h).elim
 .rw[Hu q]at h;exact h
theorem bu{a b:a6}:min (a:d3) (b:d3)=((min a b:a6):d3):=by
 rcases JR a b with q|q
 .rw[EJ q,mJ (Fe q)]
 .rw[Hu q,lD (Fe q)]
theorem yT{a b:a6}:max (a:d3) (b:d3)=((max a b:a6):d3):=by
 rcases JR a b with q|q
 .rw[LU q,WC (Fe q)]
 .rw[Mo q,VW (Fe q)]
theorem sj{a:a6}(b:a+u=s)(c:t+x=a+(x+u))(d:s<=n):t<=n:=by
 have e:t+x=s+x:=by rw[c,Hv,b,Al]
 rw[a6.add_right_cancel e];exact d
@[elab_as_elim] theorem nk{α:Type}{P:a7 α->Prop}{l:a7 α}(e:1<=l.length)(f:l.length<=3)(g:∀a,P [a])(h:∀a b,P [a,b])(i:∀a b c,P [a,b,c]):P l:=by
 cases l with
 |nil=>exact(WA 0 e).elim
 |cons a l=>cases l with
  |nil=>exact g a
  |cons b l=>cases l with
   |nil=>exact h a b
   |cons c l=>cases l with|nil=>exact i a b c|cons d l=>exact(WA l.length (oQ (b:=3) f)).elim
section
variable{α α' α'' β:Sort _}{P:β->Prop}{f:α->β}{p:α->Prop}{g:α->α'->α''->β}{p1 p2 p3:α->α'->α''->Prop}
@[elab_as_elim]theorem e1s(h:∃a,c=f a)(k:∀a,P (f a)):P c:=h.elim λa e=>e▸k a
@[elab_as_elim] theorem e1r(h:∃a,f a=c)(k:∀a,P (f a)):P c:=h.elim λa e=>e▸k a
@[elab_as_elim] theorem e2s(h:∃a,p a/\c=f a)(k:∀a,p a->P (f a)):P c:=h.elim λa e=>e.2▸k a e.1
@[elab_as_elim] theorem e2r(h:∃a,p a/\f a=c)(k:∀a,p a->P (f a)):P c:=h.elim λa e=>e.2▸k a e.1
@[elab_as_elim] theorem e2u(h:∃a,c=f a/\p a)(k:∀a,p a->P (f a)):P c:=h.elim λa e=>e.1▸k a e.2
@[elab_as_elim] theorem e2v(h:∃a,f a=c/\p a)(k:∀a,p a->P (f a)):P c:=h.elim λa e=>e.1▸k a e.2
@[elab_as_elim] theorem e34(h:∃x y z,c=g x y z/\p1 x y z/\p2 x y z/\p3 x y z)(k:∀x y z,p1 x y z->p2 x y z->p3 x y z->P (g x y z)):P c:=h.elim λx h=>h.elim λy h=>h.elim λz h=>h.1▸k x y z h.2.1 h.2.2.1 h.2.2.2
end
@[elab_as_elim] theorem B5{α β:Type _}{l:a7 α}{f:α->β}{c:β}{P:β->Prop}(h:c∈l.map f)(k:∀a,a∈l->P (f a)):P c:=A8 h λa i e=>e▸k a i
theorem p6{a:a6}(h:a<=b:=by assumption)(k:b<=c:=by decide):a<=c:=b6 h k
theorem Ca{a b c:a6}(h:a<=b:=by assumption)(k:b<c:=by decide):a<c:=q5 h k
@[elab_as_elim] theorem gen{α:Sort _}{P:α->Prop}(a:α)(h:∀x,P x):P a:=h a
@[elab_as_elim] theorem N5{α:Sort _}{P:α->Prop}(a:α)(h:∀x,a=x->P x):P a:=h a rfl
@[elab_as_elim] theorem rwS{α:Sort _}{a b:α}{c:α->Prop}(h:b=a)(k:c b):c a:=h▸k
@[elab_as_elim] theorem rwE{α:Sort _}{a b:α}{c:α->Prop}(h:a=b)(k:c b):c a:=h▸k
section
variable{p q r s t u v w G:Prop}
theorem m0(h:p)(i:q)(j:r):p/\q/\r:=⟨h,i,j⟩theorem M3(h:p)(i:q)(j:r)(k:s):p/\q/\r/\s:=⟨h,i,j,k⟩theorem k9(h:p/\q)(g:p->q->G):G:=g h.1 h.2
theorem u0(h:p/\q/\r)(g:p->q->r->G):G:=g h.1 h.2.1 h.2.2
theorem CB(h:p/\q/\r/\s)(g:p->q->r->s->G):G:=g h.1 h.2.1 h.2.2.1 h.2.2.2
theorem GL(h:p/\q/\r/\s/\t)(g:p->q->r->s->t->G):G:=g h.1 h.2.1 h.2.2.1 h.2.2.2.1 h.2.2.2.2
theorem dX(h:p/\q/\r/\s/\t/\u)(g:p->q->r->s->t->u->G):G:=g h.1 h.2.1 h.2.2.1 h.2.2.2.1 h.2.2.2.2.1 h.2.2.2.2.2
theorem dt(h:p/\q/\r/\s/\t/\u/\v/\w)(g:p->q->r->s->t->u->v->w->G):G:=g h.1 h.2.1 h.2.2.1 h.2.2.2.1 h.2.2.2.2.1 h.2.2.2.2.2.1 h.2.2.2.2.2.2.1 h.2.2.2.2.2.2.2
end
section
variable{A:Sort _}{p q r s t u:A->Prop}{G:Prop}
theorem d0(a:A)(h:p a)(i:q a):∃a,p a/\q a:=⟨a,h,i⟩theorem v7(a:A)(h:p a)(i:q a)(j:r a):∃a,p a/\q a/\r a:=⟨a,h,i,j⟩theorem CW(a:A)(h:p a)(i:q a)(j:r a)(k:s a):∃a,p a/\q a/\r a/\s a:=⟨a,h,i,j,k⟩theorem GK(a:A)(h:p a)(i:q a)(j:r a)(k:s a)(l:t a):∃a,p a/\q a/\r a/\s a/\t a:=⟨a,h,i,j,k,l⟩theorem d4(h:∃a,p a)(g:∀a,p a->G):G:=h.elim λa h=>g a h
theorem c9(h:∃a,p a/\q a)(g:∀a,p a->q a->G):G:=h.elim λa h=>g a h.1 h.2
theorem y3(h:∃a,p a/\q a/\r a)(g:∀a,p a->q a->r a->G):G:=h.elim λa h=>g a h.1 h.2.1 h.2.2
theorem BS(h:∃a,p a/\q a/\r a/\s a)(g:∀a,p a->q a->r a->s a->G):G:=h.elim λa h=>g a h.1 h.2.1 h.2.2.1 h.2.2.2
theorem Lv(h:∃a,p a/\q a/\r a/\s a/\t a)(g:∀a,p a->q a->r a->s a->t a->G):G:=h.elim λa h=>g a h.1 h.2.1 h.2.2.1 h.2.2.2.1 h.2.2.2.2
theorem OH(h:∃a,p a/\q a/\r a/\s a/\t a/\u a)(g:∀a,p a->q a->r a->s a->t a->u a->G):G:=h.elim λa h=>g a h.1 h.2.1 h.2.2.1 h.2.2.2.1 h.2.2.2.2.1 h.2.2.2.2.2
end
section
variable{A B:Sort _}{p q r s t u v:A->B->Prop}{G:Prop}
theorem E8(a:A)(b:B)(h:p a b)(i:q a b)(j:r a b):∃a b,p a b/\q a b/\r a b:=⟨a,b,h,i,j⟩theorem Q6(a:A)(b:B)(h:p a b)(i:q a b):∃a b,p a b/\q a b:=⟨a,b,h,i⟩theorem U8(a:A)(b:B)(h:p a b)(i:q a b)(j:r a b)(k:s a b)(l:t a b):∃a b,p a b/\q a b/\r a b/\s a b/\t a b:=⟨a,b,h,i,j,k,l⟩theorem Dz(a:A)(b:B)(h:p a b):∃a b,p a b:=⟨a,b,h⟩theorem S7(h:∃a b,p a b)(g:∀a b,p a b->G):G:=h.elim λa h=>h.elim λb h=>g a b h
theorem F8(h:∃a b,p a b/\q a b)(g:∀a b,p a b->q a b->G):G:=h.elim λa h=>h.elim λb h=>g a b h.1 h.2
theorem o0(h:∃a b,p a b/\q a b/\r a b)(g:∀a b,p a b->q a b->r a b->G):G:=h.elim λa h=>h.elim λb h=>g a b h.1 h.2.1 h.2.2
theorem T0(h:∃a b,p a b/\q a b/\r a b/\s a b)(g:∀a b,p a b->q a b->r a b->s a b->G):G:=h.elim λa h=>h.elim λb h=>g a b h.1 h.2.1 h.2.2.1 h.2.2.2
theorem C7(h:∃a b,p a b/\q a b/\r a b/\s a b/\t a b)(g:∀a b,p a b->q a b->r a b->s a b->t a b->G):G:=h.elim λa h=>h.elim λb h=>g a b h.1 h.2.1 h.2.2.1 h.2.2.2.1 h.2.2.2.2
theorem Lg(h:∃a b,p a b/\q a b/\r a b/\s a b/\t a b/\u a b/\v a b)(g:∀a b,p a b->q a b->r a b->s a b->t a b->u a b->v a b->G):G:=h.elim λa h=>h.elim λb h=>g a b h.1 h.2.1 h.2.2.1 h.2.2.2.1 h.2.2.2.2.1 h.2.2.2.2.2.1 h.2.2.2.2.2.2
end
section
variable{A B C:Sort _}{p q r s t u:A->B->C->Prop}{G:Prop}
theorem BQ(a:A)(b:B)(c:C)(h:p a b c)(i:q a b c)(j:r a b c)(k:s a b c):∃a b c,p a b c/\q a b c/\r a b c/\s a b c:=⟨a,b,c,h,i,j,k⟩theorem Kp(a:A)(b:B)(c:C)(h:p a b c)(i:q a b c):∃a b c,p a b c/\q a b c:=⟨a,b,c,h,i⟩theorem RZ(h:∃a b c,p a b c)(g:∀a b c,p a b c->G):G:=h.elim λa h=>h.elim λb h=>h.elim λc h=>g a b c h
theorem Em(h:∃a b c,p a b c/\q a b c)(g:∀a b c,p a b c->q a b c->G):G:=h.elim λa h=>h.elim λb h=>h.elim λc h=>g a b c h.1 h.2
theorem FM(h:∃a b c,p a b c/\q a b c/\r a b c)(g:∀a b c,p a b c->q a b c->r a b c->G):G:=h.elim λa h=>h.elim λb h=>h.elim λc h=>g a b c h.1 h.2.1 h.2.2
theorem G9(h:∃a b c,p a b c/\q a b c/\r a b c/\s a b c)(g:∀a b c,p a b c->q a b c->r a b c->s a b c->G):G:=h.elim λa h=>h.elim λb h=>h.elim λc h=>g a b c h.1 h.2.1 h.2.2.1 h.2.2.2
theorem M6(h:∃a b c,p a b c/\q a b c/\r a b c/\s a b c/\t a b c/\u a b c)(g:∀a b c,p a b c->q a b c->r a b c->s a b c->t a b c->u a b c->G):G:=h.elim λa h=>h.elim λb h=>h.elim λc h=>g a b c h.1 h.2.1 h.2.2.1 h.2.2.2.1 h.2.2.2.2.1 h.2.2.2.2.2
end
section
variable{A B C D:Sort _}{p q r s t:A->B->C->D->Prop}{G:Prop}
theorem XT(h:∃a b c d,p a b c d/\q a b c d)(g:∀a b c d,p a b c d->q a b c d->G):G:=h.elim λa h=>h.elim λb h=>h.elim λc h=>h.elim λd h=>g a b c d h.1 h.2
theorem xj(h:∃a b c d,p a b c d/\q a b c d/\r a b c d/\s a b c d)(g:∀a b c d,p a b c d->q a b c d->r a b c d->s a b c d->G):G:=h.elim λa h=>h.elim λb h=>h.elim λc h=>h.elim λd h=>g a b c d h.1 h.2.1 h.2.2.1 h.2.2.2
theorem Yj(h:∃a b c d,p a b c d/\q a b c d/\r a b c d/\s a b c d/\t a b c d)(g:∀a b c d,p a b c d->q a b c d->r a b c d->s a b c d->t a b c d->G):G:=h.elim λa h=>h.elim λb h=>h.elim λc h=>h.elim λd h=>g a b c d h.1 h.2.1 h.2.2.1 h.2.2.2.1 h.2.2.2.2
end
section
variable{A B C D E F:Sort _}{p:A->B->C->D->E->F->Prop}{G:Prop}
theorem Lb(h:∃a b c d e f,p a b c d e f)(g:∀a b c d e f,p a b c d e f->G):G:=h.elim λa h=>h.elim λb h=>h.elim λc h=>h.elim λd h=>h.elim λe h=>h.elim λf h=>g a b c d e f h
end
inductive b0 where
 |none|bool (b:b7)|int (i:d3)|str (l:a7 a6)|B (ds:a7 b0)|ref (a:a6)|ro (xs:a7 d3)
inductive AO where
 |L (xs:a7 b0)|D (es:a7 (b0×b0)) (ep:a6)|I (c:j3) (d:a6)|fld (es:a7 (j3×b0))
structure St where
 n:a6
 h:a6->AO
def St.set(st:St)(a:a6)(o:AO):St:={st with h:=λb=>if b=a then o else st.h b}def St.A(st:St)(o:AO):St:={n:=st.n+1,h:=λb=>if b=st.n then o else st.h b}def j8:a6:=100000
mutual
noncomputable def l3:b0->b0->b7
 | .none,.none=>a8
 | .bool a,.bool b=>a==b
 | .int a,.int b=>a==b
 | .str a,.str b=>a==b
 | .B a,.B b=>W5 a b
 |_,_=>c8
noncomputable def W5:a7 b0->a7 b0->b7
 |[],[]=>a8
 |a::r,b::t=>l3 a b&&W5 r t
 |_,_=>c8
end
def N6(f:b0->b0->b7):a7 b0->a7 b0->b7
 |a::r,b::t=>f a b&&N6 f r t
 |_,_=>a8
def sv:b0->b7
 | .int _=>a8
 |_=>c8
def kj:b0->b7
 | .str _=>a8
 |_=>c8
def qe(f:a7 b0->b7):b0->b7
 | .B b=>f b
 |_=>c8
def Tm(f:a7 b0->a7 b0->b7)(d e:b0):b7:=match d with
 | .int _=>sv e
 | .str _=>kj e
 | .B a=>qe (f a) e
 |_=>c8
def o3:a6->b0->b0->b7
 |0=>Tm λw0 w0=>c8
 |n+1=>Tm (N6 (o3 n))theorem no{P:Prop}(h:c8=a8):P:=(Ch h).elim
theorem Xe{f:a7 b0->a7 b0->b7}{d:b0}{P:b0->b0->Prop}(h:Tm f d e=a8)(hi:∀a b,P (.int a) (.int b))(hs:∀a b,P (.str a) (.str b))(c:∀a b,f a b=a8->P (.B a) (.B b)):P d e:=by
 cases d with
 |int a=>cases e with|int b=>exact hi a b|_=>exact no h
 |str a=>cases e with|str b=>exact hs a b|_=>exact no h
 |B a=>cases e with|B b=>exact c a b h|_=>exact no h
 |_=>exact no h
@[elab_as_elim] theorem Fd{n:a6}{d:b0}{P:a6->b0->b0->Prop}(h:o3 n d e=a8)(hi:∀a b,P n (.int a) (.int b))(hs:∀a b,P n (.str a) (.str b))(c:∀n a b,N6 (o3 n) a b=a8->P (n+1) (.B a) (.B b)):P n d e:=by
 cases n with
 |zero=>exact Xe h hi hs λf f h=>no h
 |succ n=>exact Xe h hi hs (c n)
theorem IC{P:a6->b0->b0->Prop}(hi:∀n a b,P n (.int a) (.int b))(hs:∀n a b,P n (.str a) (.str b))(f:∀n a b,(∀d e,o3 n d e=a8->P n d e)->N6 (o3 n) a b=a8->P (n+1) (.B a) (.B b)):∀n d e,o3 n d e=a8->P n d e
 |0,_,_,h=>Fd (P:=λm d e=>m=0->P m d e) h (λa b c=>hi _ a b) (λa b c=>hs _ a b) (λc c c c h=>by cases h) rfl
 |n+1,_,_,h=>Fd (P:=λm d e=>m=n+1->P m d e) h (λa b c=>hi _ a b) (λa b c=>hs _ a b) (λc a b h e=>f _ a b (AC e▸IC hi hs f n) h) rfl
theorem Ll{n:a6}(h:o3 n (.int a) e=a8):∃b,e= .int b:=Fd (P:=λc d e=>∀a,d= .int a->∃b,e= .int b) h (λc b c c=>⟨b,rfl⟩) (λc c c h=>by cases h) (λc c c c c h=>by cases h) a rfl
theorem KO{n:a6}(h:o3 n (.str a) e=a8):∃b,e= .str b:=Fd (P:=λc d e=>∀a,d= .str a->∃b,e= .str b) h (λc c c h=>by cases h) (λc b c c=>⟨b,rfl⟩) (λc c c c c h=>by cases h) a rfl
theorem Uj(h:o3 (n+1) (.B a) e=a8):∃b,e= .B b/\N6 (o3 n) a b=a8:=by
 cases e with
 |B b=>exact⟨b,rfl,h⟩
 |_=>exact no h
theorem G4(h:(a&&b)=a8):a=a8/\b=a8:=C2 _ _▸h
def P0(a b:b0):b7:=o3 3 a b
def LK(a b:a7 b0):b7:=N6 P0 a b
mutual
noncomputable def r9:b0->b0->b7
 | .int a,.int b=>decide (a<b)
 | .str a,.str b=>decide (a<b)
 | .B a,.B b=>U9 a b
 |_,_=>c8
noncomputable def U9:a7 b0->a7 b0->b7
 |[],[]=>c8
 |[],_::_=>a8
 |_::_,[]=>c8
 |a::r,b::t=>if l3 a b then U9 r t else r9 a b
end
theorem Sj:U9 (a::r) (b::t)=if l3 a b then U9 r t else r9 a b:=rfl
def Io(x:b0):a7 b0->a7 b0
 |[]=>[x]
 |y::r=>if r9 y x then y::Io x r else x::y::r
theorem bG:Io x (y::r)=if r9 y x then y::Io x r else x::y::r:=rfl
def y8:a7 b0->a7 b0
 |[]=>[]
 |x::r=>Io x (y8 r)
def D9:a7 b0->a7 b0
 |[]=>[]
 |x::r=>if r.any (l3 x)then D9 r else x::D9 r
theorem Xp:D9 (x::r)=if r.any (l3 x)then D9 r else x::D9 r:=rfl
def E5(es:a7 (b0×b0))(k:b0):j0 a6:=es.findIdx? λe=>l3 e.1 k
def t4(es:a7 (b0×b0))(k:b0):j0 b0:=(es.find? λe=>l3 e.1 k).map (·.2)
def Q0:a7 (b0×b0)->b0->b0->a7 (b0×b0)
 |[],k,v=>[(k,v)]
 |e::r,k,v=>if l3 e.1 k then(e.1,v)::r else e::Q0 r k v
theorem KT:Q0 (e::r) k v=if l3 e.1 k then(e.1,v)::r else e::Q0 r k v:=rfl
def EQ:a7 (b0×b0)->b0->a7 (b0×b0)
 |[],_=>[]
 |e::r,k=>if l3 e.1 k then r else e::EQ r k
theorem fi:EQ (e::r) k=if l3 e.1 k then r else e::EQ r k:=rfl
def leaf:b0->b7
 | .int _=>a8
 | .str _=>a8
 |_=>c8
@[elab_as_elim] theorem ER{d:b0}{P:b0->Prop}(h:leaf d=a8)(hi:∀i,P (.int i))(hs:∀l,P (.str l)):P d:=by
 cases d with
 |int i=>exact hi i
 |str l=>exact hs l
 |_=>exact no h
def Q3:b0->a6
 | .int _=>1
 | .str _=>2
 | .B ds=>if ds.all leaf then 3 else 0
 |_=>0
theorem ny:∀{a:a7 b0},a.all leaf=a8->N6 (o3 2) a a=a8:=by
 intro c
 induction c with
 |nil=>intro b;exact rfl
 |cons _ _ e=>intro h;exact Kw ⟨ER (P:=λd=>o3 2 d d=a8) (o6 h) (λb=>rfl) λb=>rfl,e (o5 h)⟩
theorem Ok(a:Q3 k≠0):o3 3 k k=a8:=by
 cases k with
 |int i=>rfl
 |str l=>rfl
 |B d=>
  cases c:d.all leaf with
  |true=>exact ny c
  |false=>exact(a (t0 (λb=>if b=a8 then 3 else 0) c:)).elim
 |_=>exact(a rfl).elim
def v8(es:a7 (b0×b0))(k:b0):b7:=Q3 k != 0&&es.all λe=>Q3 e.1==Q3 k
inductive Ed where|add|sub|mul|fdiv|mod
inductive Dq where|eq|ne|lt|le|gt|ge|isin|notin|is|isnot
inductive Bi where|len|str|int|tuple|dict|sum|max|min|sorted|sS|sI|lR|dZ
 deriving Ec
abbrev Q1:=b0->St->Prop
def o8(x:j0 (b0×St))(Q:Q1):Prop:=match x with
 |some (d,st)=>Q d st
 |none=>k6
def St.list?(st:St)(d:b0):j0 (a7 b0):=match d with
 | .ref a=>if a<st.n then(match st.h a with| .L xs=>a0 xs|_=>b4)else b4
 |_=>b4
def St.dict?(st:St)(d:b0):j0 (a7 (b0×b0)):=match d with
 | .ref a=>if a<st.n then(match st.h a with| .D es _=>a0 es|_=>b4)else b4
 |_=>b4
def St.items?(st:St)(d:b0):j0 (a7 b0):=match d with
 | .B ds=>a0 ds
 |d=>st.list? d
def St.inst?(st:St)(d:b0):j0 (j3×a6):=match d with
 | .ref a=>if a<st.n then(match st.h a with| .I c e=>if e<st.n then a0 (c,e)else b4|_=>b4)else b4
 |_=>b4
def St.fields?(st:St)(d:b0):j0 (a7 (j3×b0)):=match st.inst? d with
 |some (_,e)=>(match st.h e with| .fld es=>a0 es|_=>b4)
 |none=>b4
def q8(s:j3):b0:=.str (s.toList.map Gu)
theorem Oh{α β:Type}[BEq α][LawfulBEq α]{k:α}{v:β}:∀{l:a7 (α×β)},l.lookup k=a0 v->(k,v)∈l
 |[],h=>by cases h
 |(a,b)::l,h=>by
  rw[BI]at h;cases e:k==a with
  |true=>rw[e]at h;cases O2 e;cases h;exact j5
  |false=>rw[e]at h;exact k8 _ (Oh h)def Sp:a7 (j3×a7 j3):=[("Bank",["nodes","numbers","weights","depths"]),("Tables",["rows"]),("Joins",["classes","tables"]),("Unions",["above","lots","merged"]),("Heap",["bank","unions","edges","forest","known","above","waiting","backs"])]def Ct(c:j3):a7 j3:=(Sp.lookup c).getD []def tx:a7 (j3×a7 j3):=[("",["is_op","trie_of","_law_draw","_law_built","_law_marks","_law_table","_law_asked","_law_fitted","_law_due"]),("Bank",["__init__","take","require","op","kids"]),("Tables",["__init__","table","trie"]),("Joins",["__init__","joined","shared"]),("Unions",["__init__","make","size","find","merge","members","classes"]),("Heap",["__init__","node","add","put","look_at","find","merge","join","settle","classes","members","nodes_of"])]def BP(c:j3):a7 j3:=(tx.lookup c).getD []
theorem eB{T:a7 (j3×a7 j3)}{c:j3}(h:((T.lookup c).getD []).contains f=a8):c∈T.map Bt:=by
 cases e:T.lookup c with
 |none=>rw[e]at h;exact no h
 |some l=>exact V9 (f:=Bt) (Oh e)
def H9(st:St)(d:b0)(f:j3):j0 b0:=match st.inst? d with
 |some (c,e)=>if(Ct c).contains f then(match st.h e with| .fld es=>es.lookup f|_=>b4)else b4
 |none=>b4
def noFld(st:St)(d:b0)(m:j3):Prop:=match st.fields? d with
 |some es=>es.lookup m=b4
 |none=>k6
theorem V0{p:Prop}[Dn p]{α:Type}{x:j0 α}{y:α}(h:(if p then x else b4)=a0 y):p/\x=a0 y:=by
 by_cases a:p
 .rw[g0 a]at h;exact⟨a,h⟩
 .rw[j4 a]at h;cases h
theorem qk{st:St}{d:b0}{m:j3}{e:a6}(h:noFld st d m)(hi:st.inst? d=a0 (c,e)):∃es,st.h e= .fld es/\es.lookup m=b4:=by
 unfold noFld St.fields? at h;rw[hi]at h;replace h:(match(match st.h e with| .fld es=>a0 es|_=>b4)with|some es=>es.lookup m=b4|none=>k6):=h;cases hs:st.h e with
 |fld es=>rw[hs]at h;exact⟨es,rfl,h⟩
 |_=>rw[hs]at h;exact h.elim
theorem kx{st:St}{d:b0}{f:j3}(h:H9 st d f=a0 v):∃c e es,st.inst? d=a0 (c,e)/\(Ct c).contains f=a8/\st.h e= .fld es/\es.lookup f=a0 v:=by
 unfold H9 at h;cases hi:st.inst? d with
 |none=>rw[hi]at h;cases h
 |some q=>
  rw[hi]at h;let zz:=V0 h;ext1 zz hc h;cases hs:st.h q.2 with
  |fld es=>rw[hs]at h;exact⟨q.1,q.2,es,rfl,hc,hs,h⟩
  |_=>rw[hs]at h;cases h
def uT(o:Ed)(x y:d3)(st:St):j0 (b0×St):=match o with
 | .add=>a0 (.int (x+y),st)
 | .sub=>a0 (.int (x - y),st)
 | .mul=>if x.natAbs<=1000000/\y.natAbs<=1000000 then a0 (.int (x*y),st)else b4
 | .fdiv=>if 0<y/\y<=10000000 then a0 (.int (x.fdiv y),st)else b4
 | .mod=>if 0<y/\y<=10000000 then a0 (.int (x.fmod y),st)else b4
def OX(o:Ed)(r:j0 (b0×St)):j0 (b0×St):=match o with
 | .add=>r
 |_=>b4
def V3(o:Ed)(a b:b0)(st:St):j0 (b0×St):=match a with
 | .int x=>(match b with
  | .int y=>uT o x y st
  |_=>b4)
 | .str x=>(match b with
  | .str y=>OX o (if x.length+y.length<=j8 then a0 (.str (x++y),st)else b4)
  |_=>b4)
 | .B x=>(match b with
  | .B y=>OX o (if x.length+y.length<=j8 then a0 (.B (x++y),st)else b4)
  |_=>b4)
 | .ref x=>(match b with
  | .ref y=>OX o ((st.list? (.ref x)).bind λxs=>(st.list? (.ref y)).bind λys=>if xs.length+ys.length<=j8 then a0 (.ref st.n,st.A (.L (xs++ys)))else b4)
  |_=>b4)
 |_=>b4
@[elab_as_elim] theorem TP{o:Ed}{r:j0 (b0×St)}{Q:Q1}{P:Ed->Prop}(h:o8 (OX o r) Q)(k:o8 r Q->P .add):P o:=by
 cases o with
 |add=>exact k h
 |_=>exact h.elim
theorem Ek[Dn p](h:o8 (if p then a0 (d,st)else b4) Q):p/\Q d st:=by
 by_cases a:p
 .rw[g0 a]at h;exact⟨a,h⟩
 .rw[j4 a]at h;exact h.elim
theorem eA(h:o8 (x.bind f) Q):∃a,x=a0 a/\o8 (f a) Q:=by
 cases x with
 |some a=>exact⟨a,rfl,h⟩
 |none=>exact h.elim
@[elab_as_elim] theorem sf{st:St}{d:b0}{xs:a7 b0}{P:b0->Prop}(h:st.list? d=a0 xs)(k:∀a,a<st.n->st.h a= .L xs->P (.ref a)):P d:=by
 cases d with
 |ref a=>
  let zz:=V0 h;ext1 zz ha h;refine k a ha ?_;cases hs:st.h a with
  |L ys=>rw[hs]at h;rw[C5 h]
  |_=>rw[hs]at h;cases h
 |_=>cases h
@[elab_as_elim] theorem lv{st:St}{d:b0}{es:a7 (b0×b0)}{P:b0->Prop}(h:st.dict? d=a0 es)(k:∀a e,a<st.n->st.h a= .D es e->P (.ref a)):P d:=by
 cases d with
 |ref a=>
  let zz:=V0 h;ext1 zz ha h;cases hs:st.h a with
  |D ys e=>rw[hs]at h;exact k a e ha (by rw[hs,C5 h])
  |_=>rw[hs]at h;cases h
 |_=>cases h
@[elab_as_elim] theorem eb{st:St}{d:b0}{q:j3×a6}{P:b0->Prop}(h:st.inst? d=a0 q)(k:∀a,a<st.n->st.h a= .I q.1 q.2->q.2<st.n->P (.ref a)):P d:=by
 cases d with
 |ref a=>
  let zz:=V0 h;ext1 zz ha h;cases hs:st.h a with
  |I c e=>rw[hs]at h;let zz:=V0 h;ext1 zz he h;let h:=C5 h;exact k a ha (by rw[hs,<-h]) (by rw[<-h];exact he)
  |_=>rw[hs]at h;cases h
 |_=>cases h
def Us(a b:b0):j0 b7:=if P0 a b then a0 (l3 a b)else b4
def Bk(st:St)(a b:b0):j0 b7:=match st.list? a with
 |some xs=>(match st.list? b with
  |some ys=>if LK xs ys then a0 (W5 xs ys)else b4
  |none=>Us a b)
 |none=>Us a b
def UI:b0->b7
 | .none=>a8
 |_=>c8
def Ig(k:d3->d3->b7)(a b:b0):j0 b7:=match a with
 | .int x=>(match b with
  | .int y=>a0 (k x y)
  |_=>b4)
 |_=>b4
@[elab_as_elim] theorem uJ{k:d3->d3->b7}{a:b0}{r:b7}{P:b0->b0->Prop}(h:Ig k a b=a0 r)(H:∀x y,k x y=r->P (.int x) (.int y)):P a b:=by
 cases a with
 |int x=>
  cases b with
  |int y=>exact H x y (C5 h)
  |_=>cases h
 |_=>cases h
def QE(b:b0)(r:b7):j0 b7:=match b with
 | .none=>a0 r
 |_=>b4
@[elab_as_elim] theorem dC{b:b0}{x:b7}{P:b0->Prop}(h:QE b x=a0 r)(H:x=r->P .none):P b:=by
 cases b with
 |none=>exact H (C5 h)
 |_=>cases h
def KH(a b:b0):j0 b7:=match b with
 | .str l=>(match a with
  | .str m=>(match m with
   |[]=>b4
   |c::r=>if r.isEmpty then a0 (l.contains c)else b4)
  |_=>b4)
 |_=>b4
@[elab_as_elim] theorem jh{a:b0}{r:b7}{P:b0->b0->Prop}(h:KH a b=a0 r)(H:∀l c,l.contains c=r->P (.str [c]) (.str l)):P a b:=by
 cases b with
 |str l=>cases a with
  |str m=>cases m with
   |nil=>cases h
   |cons c t=>cases t with|nil=>exact H l c (C5 h)|cons=>cases h
  |_=>cases h
 |_=>cases h
def B0(o:Dq)(a b:b0)(st:St):j0 b7:=match o with
 | .eq=>Bk st a b
 | .ne=>(Bk st a b).map (!·)
 | .lt=>Ig (λx y=>decide (x<y)) a b
 | .le=>Ig (λx y=>decide (x<=y)) a b
 | .gt=>Ig (λx y=>decide (y<x)) a b
 | .ge=>Ig (λx y=>decide (y<=x)) a b
 | .isin=>inOp a b
 | .notin=>(inOp a b).map (!·)
 | .is=>QE b (UI a)
 | .isnot=>QE b (!UI a)
where
 inOp (a b:b0):j0 b7:=match st.items? b with
  |some xs=>if xs.all (λx=>P0 x a)then a0 (xs.any λx=>l3 x a)else b4
  |none=>match st.dict? b with
   |some es=>if v8 es a then a0 (E5 es a).isSome else b4
   |none=>KH a b
def Sb{α:Type}(xs:a7 α)(k:d3):j0 α:=if 0<=k/\k<=j8 then xs[k.toNat]? else b4
def Jq(d i:b0)(st:St):j0 b0:=match st.dict? d with
 |some es=>if v8 es i then t4 es i else b4
 |none=>b4
def LH(d:b0)(k:d3)(st:St):j0 b0:=match st.items? d with
 |some xs=>Sb xs k
 |none=>(match d with
  | .str l=>(Sb l k).map λc=>.str [c]
  |_=>Jq d (.int k) st)
def J9(d i:b0)(st:St):j0 b0:=match i with
 | .int k=>LH d k st
 |_=>Jq d i st
set_option genCtorIdx false in
inductive Kc (st:St):b0->b0->b0->Prop
 |it {d} (xs) {k:d3} {x} (h:st.items? d=a0 xs) (hk:0<=k/\k<=j8) (g:xs[k.toNat]?=a0 x):Kc st d (.int k) x
 |dc {d i x} (es) (h:st.dict? d=a0 es) (ok:v8 es i=a8) (g:t4 es i=a0 x):Kc st d i x
 |st {l} {k:d3} (ch) (hk:0<=k/\k<=j8) (g:l[k.toNat]?=a0 ch):Kc st (.str l) (.int k) (.str [ch])
theorem Zh{d:b0}{st:St}(h:Jq d i st=a0 x):Kc st d i x:=by
 unfold Jq at h;cases a:st.dict? d with
 |none=>rw[a]at h;cases h
 |some c=>rw[a]at h;let b:=V0 h;ext1 b e g;exact .dc c a e g
theorem fQ{d:b0}{st:St}(h:J9 d i st=a0 x):Kc st d i x:=by
 cases i with
 |int k=>
  replace h:LH d k st=a0 x:=h;unfold LH at h;cases b:st.items? d with
  |some e=>rw[b]at h;let a:=V0 h;ext1 a c g;exact .it e b c g
  |none=>
   rw[b]at h;clear b;cases d with
   |str l=>refine c9 (GN (show(Sb l k).map _=a0 x from h)) ?_;clear h;rintro f g rfl;let a:=V0 g;ext1 a c g;exact .st f c g
   |_=>exact Zh h
 |_=>exact Zh h
def Ew(d:b0)(k:d3)(st:St):j0 (b0×St):=match st.list? d with
 |some xs=>if 0<=k/\k<=j8 then a0 (.ref st.n,st.A (.L (xs.take k.toNat)))else b4
 |none=>(match d with
  | .ro xs=>if 0<=k/\k<=j8 then a0 (.ref st.n,st.A (.L ((xs.take k.toNat).map .int)))else b4
  |_=>b4)
def Eh(d:b0)(k:d3)(st:St):j0 (b0×St):=match st.list? d with
 |some xs=>if 0<=k/\k<=j8 then a0 (.ref st.n,st.A (.L (xs.drop k.toNat)))else b4
 |none=>(match d with
  | .B xs=>if 1<=k/\k<=xs.length/\xs.length<=j8 then a0 (.B (xs.drop k.toNat),st)else b4
  |_=>b4)
theorem Zr{d:b0}{k:d3}{st:St}{Q:Q1}{G:Prop}(h:o8 (Ew d k st) Q)(kl:∀xs,st.list? d=a0 xs->0<=k/\k<=j8->Q (.ref st.n) (st.A (.L (xs.take k.toNat)))->G)
 (kr:∀xs,d= .ro xs->0<=k/\k<=j8->Q (.ref st.n) (st.A (.L ((xs.take k.toNat).map .int)))->G):G:=by
 unfold Ew at h;cases hx:st.list? d with
 |some xs=>rw[hx]at h;let zz:=Ek h;ext1 zz hk h;exact kl xs hx hk h
 |none=>
  rw[hx]at h;clear kl hx;cases d with
  |ro xs=>let zz:=Ek h;ext1 zz hk h;exact kr xs rfl hk h
  |_=>exact h.elim
theorem aW{d:b0}{k:d3}{st:St}{Q:Q1}{G:Prop}(h:o8 (Eh d k st) Q)(f:∀a,st.list? d=a0 a->0<=k/\k<=j8->Q (.ref st.n) (st.A (.L (a.drop k.toNat)))->G)
 (g:∀a,d= .B a->1<=k/\k<=a.length/\a.length<=j8->Q (.B (a.drop k.toNat)) st->G):G:=by
 unfold Eh at h;cases c:st.list? d with
 |some a=>rw[c]at h;let b:=Ek h;ext1 b e h;exact f a c e h
 |none=>
  rw[c]at h;clear f c;cases d with
  |B a=>let b:=Ek h;ext1 b e h;exact g a rfl e h
  |_=>exact h.elim
def Fk(d:b0)(st:St):j0 (b0×St):=match st.list? d with
 |some xs=>a0 (.ref st.n,st.A (.L xs.reverse))
 |none=>b4
theorem eX{d:b0}{st:St}{Q:Q1}{G:Prop}(h:o8 (Fk d st) Q)(c:∀a,st.list? d=a0 a->Q (.ref st.n) (st.A (.L a.reverse))->G):G:=by
 unfold Fk at h;cases b:st.list? d with
 |some a=>rw[b]at h;exact c a b h
 |none=>rw[b]at h;exact h.elim
def ints?:a7 b0->j0 (a7 d3)
 |[]=>a0 []
 | .int i::r=>(ints? r).map (i::·)
 |_::_=>b4
def nq:b0->b7
 | .int _=>a8
 | .str _=>a8
 | .B l=>!l.isEmpty
 |_=>c8
def C1(xs:a7 b0):b7:=decide (xs.length<64)&&xs.all (λx=>xs.all λy=>P0 x y)&&xs.all nq
theorem He(h:C1 xs=a8):xs.length<64:=C6 (o6 (o6 h))
def CA:a7 b0->b0->b0
 |[],m=>m
 |x::r,m=>CA r (if r9 x m then x else m)theorem Xu:CA (x::r) m=CA r (if r9 x m then x else m):=rfl
def Iw(n:a6):a7 a6:=(Gm n).toList.map Gu
def Dy(ds:a7 b0)(k:b0->j0 (b0×St))(k2:b0->b0->j0 (b0×St)):j0 (b0×St):=match ds with
 |[]=>b4
 |d::r=>match r with
  |[]=>k d
  |e::r=>match r with
   |[]=>k2 d e
   |_=>b4
def Cq(ds:a7 b0)(k:b0->j0 (b0×St)):j0 (b0×St):=Dy ds k λw0 w0=>b4
def aN(ds:a7 b0)(k:b0->b0->j0 (b0×St)):j0 (b0×St):=Dy ds (λw0=>b4) k
def EA(d:b0)(k:d3->j0 (b0×St)):j0 (b0×St):=match d with
 | .int i=>k i
 |_=>b4
def CE(d:b0):b7:=match d with
 | .str _=>a8
 |_=>c8
def cO(d:b0)(st:St):j0 (b0×St):=match d with
 | .B xs=>if xs.length<=j8 then a0 (.int xs.length,st)else b4
 |d=>(match st.list? d with
  |some xs=>a0 (.int xs.length,st)
  |none=>(st.dict? d).map λes=>(.int es.length,st))
def M4(f:Bi)(ds:a7 b0)(st:St):j0 (b0×St):=match f with
 | .len=>Cq ds λd=>cO d st
 | .str=>Cq ds λd=>EA d λi=>if 0<=i/\i<=1000 then a0 (.str (Iw i.toNat),st)else b4
 | .int=>Cq ds λd=>EA d λi=>a0 (.int i,st)
 | .tuple=>Cq ds λd=>(st.items? d).map λxs=>(.B xs,st)
 | .dict=>Cq ds λd=>(st.dict? d).bind λes=>if es.length<=8/\es.all (λe=>CE e.1)then a0 (.ref st.n,st.A (.D es es.length))else b4
 | .sum=>Cq ds λd=>(st.list? d).bind λxs=>(ints? xs).bind λl=>a0 (.int l.sum,st)
 | .max=>Dy ds (λd=>(st.list? d).bind λxs=>(ints? xs).bind λl=>match l with
  |[]=>b4
  |x::r=>a0 (.int (r.foldl max x),st)) λa b=>EA a λa=>EA b λb=>a0 (.int (max a b),st)
 | .min=>Dy ds (λd=>(st.list? d).bind λxs=>match xs with
  |[]=>b4
  |x::r=>if C1 xs then a0 (CA r x,st)else b4) λa b=>EA a λa=>EA b λb=>a0 (.int (min a b),st)
 | .sorted=>Cq ds λd=>(st.list? d).bind λxs=>if C1 xs then a0 (.ref st.n,st.A (.L (y8 xs)))else b4
 | .sS=>Cq ds λd=>(st.list? d).bind λxs=>if xs.all (λx=>xs.all λy=>P0 x y)/\xs.length<=j8/\C1 (D9 xs)then a0 (.ref st.n,st.A (.L (y8 (D9 xs))))else b4
 | .sI=>Cq ds λd=>(st.dict? d).bind λes=>if C1 (es.map λe=>b0.B [e.1,e.2])/\es.all (λe=>leaf e.1)then a0 (.ref st.n,st.A (.L (y8 (es.map λe=>b0.B [e.1,e.2]))))else b4
 | .lR=>Cq ds λd=>EA d λk=>if 0<=k/\k<=j8 then a0 (.ref st.n,st.A (.L ((p0 k.toNat).map λ(i:a6)=>b0.int (PE i))))else b4
 | .dZ=>aN ds λa b=>(st.items? a).bind λxs=>(st.items? b).bind λys=>if(xs.length<=j8)/\xs.all CE then a0 (.ref st.n,st.A (.D ((xs.zip ys).foldl (λes e=>Q0 es e.1 e.2) []) ((xs.zip ys).foldl (λes e=>Q0 es e.1 e.2) []).length))else b4
section
variable{P:a7 b0->Prop}
theorem fL(h:o8 (Dy ds k k2) Q)(H:∀d,o8 (k d) Q->P [d])(a:∀d e,o8 (k2 d e) Q->P [d,e]):P ds:=match ds,h with
 |[d],h=>H d h
 |[d,e],h=>a d e h
theorem yB(h:o8 (Cq ds k) Q)(H:∀d,o8 (k d) Q->P [d]):P ds:=fL h H λa a h=>h.elim
theorem yY{P:b0->Prop}(h:o8 (EA d ki) Q)(H:∀i,o8 (ki i) Q->P (.int i)):P d:=match d,h with
 | .int i,h=>H i h
theorem CY{α:Type}{o:j0 α}{k:α->j0 (b0×St)}(h:o8 (o.bind k) Q):∃a,o=a0 a/\o8 (k a) Q:=match o,h with
 |some a,h=>⟨a,rfl,h⟩
theorem Kg{α:Type}{o:j0 α}{k:α->b0×St}(h:o8 (o.map k) Q):∃a,o=a0 a/\Q (k a).1 (k a).2:=match o,h with
 |some a,h=>⟨a,rfl,h⟩
theorem Zo[Dn p](h:o8 (if p then o else o2) Q):(p/\o8 o Q)\/o8 o2 Q:=by
 by_cases a:p
 .exact .inl ⟨a,by rwa [g0 a]at h⟩
 .exact .inr (by rwa [j4 a]at h)
theorem Am[Dn p](h:o8 (if p then o else b4) Q):p/\o8 o Q:=by
 by_cases a:p
 .exact⟨a,by rwa [g0 a]at h⟩
 .rw[j4 a]at h;exact h.elim
end
def Zf(m:j3)(l:a7 a6)(ds:a7 b0)(st:St):j0 (b0×St):=match l with
 |[]=>b4
 |c::r=>if r.isEmpty/\m="isspace"/\ds.isEmpty/\33<=c/\c<=126 then a0 (.bool c8,st)else b4
def ZO(m:j3)(xs ds:a7 b0)(st:St):j0 (b0×St):=Cq ds λx=>if m="index"/\xs.all (λy=>P0 y x)then(xs.findIdx? λy=>l3 y x).map λ(i:a6)=>(.int i,st)else b4
def FK(m:j3)(a:a6)(xs ds:a7 b0)(st:St):j0 (b0×St):=match ds with
 |[]=>if m="pop" then(xs.getLast?).map λx=>(x,st.set a (.L xs.dropLast))else b4
 |x::r=>match r with
  |[]=>if m="append" then(if xs.length<=j8 then a0 (.none,st.set a (.L (xs++[x])))else b4)
   else if m="extend" then(st.list? x).bind λys=>if xs.length+ys.length<=j8 then a0 (.none,st.set a (.L (xs++ys)))else b4
   else b4
  |_=>b4
def Fh(m:j3)(a:a6)(es:a7 (b0×b0))(ep:a6)(ds:a7 b0)(st:St):j0 (b0×St):=Dy ds
 (λk=>if m="pop"/\v8 es k then(t4 es k).map λv=>(v,st.set a (.D (EQ es k) (ep+1)))else b4)
 λk v=>if m="get" then(if v8 es k then a0 ((t4 es k).getD v,st)else b4)
  else if m="setdefault" then(if v8 es k/\es.length<=j8 then a0 (match t4 es k with
   |some u=>(u,st)
   |none=>(v,st.set a (.D (es++[(k,v)]) (ep+1))))else b4)
  else b4
def Ac(m:j3)(d:b0)(ds:a7 b0)(st:St):j0 (b0×St):=match d with
 | .str l=>Zf m l ds st
 | .B xs=>ZO m xs ds st
 | .ref a=>if a<st.n then(match st.h a with
  | .L xs=>FK m a xs ds st
  | .D es ep=>Fh m a es ep ds st
  |_=>b4)else b4
 |_=>b4
def Uo:b0->a6
 | .str _=>3
 | .B _=>4
 |_=>0
def Q5(st:St)(d:b0):a6:=match st.list? d with
 |some _=>1
 |none=>(match st.dict? d with
  |some _=>2
  |none=>Uo d)
def AW(k:a6)(m:j3):b7:=match k with
 |1=>m=="pop"||m=="append"||m=="extend"
 |2=>m=="pop"||m=="get"||m=="setdefault"
 |3=>m=="isspace"
 |4=>m=="index"
 |_=>c8
inductive It where
 |seq (d:b0) (k:a6)
 |keys (a:a6) (k:a6) (n:a6) (ep:a6)
 |text (l:a7 a6)
 |range (i n:d3)
 |enum (k:a6) (d:b0)
 |zip (a b:b0) (k:a6)
def It.next(it:It)(st:St):j0 (j0 (b0×It)):=match it with
 | .seq d k=>(st.items? d).map λxs=>(xs[k]?).map λx=>(x,.seq d (k+1))
 | .keys a k n ep=>if a<st.n then(match st.h a with
  | .D es ep'=>if es.length=n/\ep'=ep/\es.all (λe=>leaf e.1)then a0 ((es[k]?).map λe=>(e.1,.keys a (k+1) n ep))else b4
  |_=>b4)else b4
 | .text l=>a0 (match l with|[]=>b4|c::r=>a0 (.str [c],.text r))
 | .range i n=>a0 (if i<n then a0 (.int i,.range (i+1) n)else b4)
 | .enum k d=>(st.items? d).map λxs=>(xs[k]?).map λx=>(.B [.int k,x],.enum (k+1) d)
 | .zip a b k=>(st.items? a).bind λxs=>(st.items? b).map λys=>match xs[k]?,ys[k]? with
  |some x,a0 y=>a0 (.B [x,y],.zip a b (k+1))
  |_,_=>b4
def BU(d:b0)(st:St):j0 It:=match d with
 | .str l=>if l.all (·<128)then a0 (.text l)else b4
 | .B ds=>a0 (.seq (.B ds) 0)
 | .ref a=>if a<st.n then(match st.h a with
  | .D es ep=>if es.all (λe=>leaf e.1)then a0 (.keys a 0 es.length ep)else b4
  | .L _=>a0 (.seq (.ref a) 0)
  |_=>b4)else b4
 |_=>b4
set_option genCtorIdx false in
mutual
inductive X where
 |e (d:b0)
 |str (x:j3)
 |a (x:j3)
 |C (e:X) (f:j3)
 |sub (e i:X)
 |to (e i:X)
 |from(e i:X)
 |rev (e:X)
 |B (es:Xs)
 |L (es:Xs)
 |D (ks:a7 j3) (es:Xs)
 |bin (o:Ed) (a b:X)
 |not (e:X)
 |and (a b:X)
 |or (a b:X)
 |cmp (o:Dq) (a b:X)
 |cmp2 (o p:Dq) (a b c:X)
 |ite (c a b:X)
 |Q (gs:Gs)
 |bi (f:Bi) (es:Xs)
 |call (f:j3) (es:Xs)
 |new (c:j3) (es:Xs)
 |m (o:X) (m:j3) (es:Xs)
inductive Xs where
 |nil
 |cons (e:X) (r:Xs)
inductive Gs where
 |elt (e:X)
 |cons (p:a7 j3) (it:CT) (ifs:Xs) (r:Gs)
inductive CT where
 |of (e:X)
 |range (e:X)
 |enum (e:X)
 |zip (a b:X)
end
set_option genCtorIdx true
set_option genCtorIdx false in
inductive Tg where
 |a (x:j3)
 |C (e:X) (f:j3)
 |sub (e i:X)
set_option genCtorIdx false in
inductive S where
 |xE (e:X)
 |k (t:Tg) (e:X)
 |uP (ps:a7 j3) (e:X)
 |ret (e:X)
 |iff (c:X) (a b:a7 S)
 |while (c:X) (b:a7 S)
 |for (p:a7 j3) (it:CT) (b:a7 S)
 |cont
 |dead
abbrev Env:=j3->j0 b0
def Env.set(ρ:Env)(x:j3)(d:b0):Env:=λy=>if y=x then a0 d else ρ y
def Env.clear(ρ:Env)(xs:a7 j3):Env:=λy=>if xs.contains y then b4 else ρ y
def Gs.tgts:Gs->a7 j3
 | .elt _=>[]
 | .cons p _ _ r=>p++r.tgts
theorem tgE:(Gs.elt e).tgts=[]:=rfl
theorem tgC:(Gs.cons p a b r).tgts=p++r.tgts:=rfl
def AD(ps:a7 j3)(d:b0)(ρ:Env):j0 Env:=match ps with
 |[x]=>a0 (ρ.set x d)
 |ps=>(match d with
  | .B ds=>if ds.length=ps.length then a0 ((ps.zip ds).foldl (λρ p=>ρ.set p.1 p.2) ρ)else b4
  |_=>b4)
def CG(ps:a7 j3)(d:b0)(st:St)(ρ:Env):j0 Env:=match st.items? d with
 |some ds=>if ds.length=ps.length then a0 ((ps.zip ds).foldl (λρ p=>ρ.set p.1 p.2) ρ)else b4
 |none=>b4
inductive Fl where|next|cont|ret (d:b0)abbrev Cl:=j3->j3->a7 b0->St->Q1->Prop
def Bd(step:b0->St->a7 b0->(a7 b0->St->Prop)->Prop):a6->It->St->a7 b0->(a7 b0->St->Prop)->Prop
 |0,_,_,_,_=>k6
 |n+1,it,st,acc,Q=>match it.next st with
  |none=>k6
  |some b4=>Q acc st
  |some (a0 (d,it'))=>step d st acc λacc st=>Bd step n it' st acc Q
inductive LG (step:b0->St->a7 b0->(a7 b0->St->Prop)->Prop) (m:a6) (it:It) (st:St) (acc:a7 b0) (Q:a7 b0->St->Prop):Prop
 |done (h:it.next st=a0 b4) (q:Q acc st)
 |turn (n) (hn:n<m) (d it') (h:it.next st=a0 (a0 (d,it'))) (w:step d st acc λacc st=>Bd step n it' st acc Q)
theorem vW(h:Bd step m it st acc Q):LG step m it st acc Q:=by
 cases m with
 |zero=>exact h.elim
 |succ n=>
  conv at h=>whnf
  cases a:it.next st with
  |none=>rw[a]at h;exact h.elim
  |some o=>
   rw[a]at h;cases o with
   |none=>exact .done a h
   |some q=>exact .turn n (B8 n) q.1 q.2 a h
inductive tA {α:Type} (o:j0 α) (K:α->Prop):Prop
 |mk (a) (h:o=a0 a) (k:K a)
theorem aI{o:j0 Env}(h:match o with|none=>k6|some ρ=>K ρ):tA o K:=match o,h with
 |some a,h=>⟨a,rfl,h⟩
section
variable(C:Cl)
mutual
noncomputable def W:X->Env->St->Q1->Prop
 | .e d,_,st,Q=>Q d st
 | .str x,_,st,Q=>Q (q8 x) st
 | .a x,ρ,st,Q=>(match ρ x with|some d=>Q d st|none=>k6)
 | .C e f,ρ,st,Q=>W e ρ st λd st=>(match H9 st d f with|some v=>Q v st|none=>k6)
 | .sub e i,ρ,st,Q=>W e ρ st λd st=>W i ρ st λk st=>(match J9 d k st with|some v=>Q v st|none=>k6)
 | .to e i,ρ,st,Q=>W e ρ st λd st=>W i ρ st λk st=>(match k with| .int k=>o8 (Ew d k st) Q|_=>k6)
 | .from e i,ρ,st,Q=>W e ρ st λd st=>W i ρ st λk st=>(match k with| .int k=>o8 (Eh d k st) Q|_=>k6)
 | .rev e,ρ,st,Q=>W e ρ st λd st=>o8 (Fk d st) Q
 | .B es,ρ,st,Q=>Ws es ρ st λds st=>Q (.B ds) st
 | .L es,ρ,st,Q=>Ws es ρ st λds st=>Q (.ref st.n) (st.A (.L ds))
 | .D ks es,ρ,st,Q=>Ws es ρ st λds st=>Q (.ref st.n) (st.A (.D ((ks.map q8).zip ds) ks.length))
 | .bin o a b,ρ,st,Q=>W a ρ st λx st=>W b ρ st λy st=>o8 (V3 o x y st) Q
 | .not e,ρ,st,Q=>WT e ρ st λb st=>Q (.bool !b) st
 | .and a b,ρ,st,Q=>W a ρ st λd st=>(match d with| .bool a8=>W b ρ st Q| .bool c8=>Q (.bool c8) st|_=>k6)
 | .or a b,ρ,st,Q=>W a ρ st λd st=>(match d with| .bool a8=>Q (.bool a8) st| .bool c8=>W b ρ st Q|_=>k6)
 | .cmp o a b,ρ,st,Q=>W a ρ st λx st=>W b ρ st λy st=>(match B0 o x y st with|some v=>Q (.bool v) st|none=>k6)
 | .cmp2 o p a b c,ρ,st,Q=>W a ρ st λx st=>W b ρ st λy st=>(match B0 o x y st with
  |some a8=>W c ρ st λz st=>(match B0 p y z st with|some v=>Q (.bool v) st|none=>k6)
  |some c8=>Q (.bool c8) st
  |none=>k6)
 | .ite c a b,ρ,st,Q=>WT c ρ st λt st=>(match t with|true=>W a ρ st Q|false=>W b ρ st Q)
 | .Q gs,ρ,st,Q=>WG gs ρ (ρ.clear (".0"::gs.tgts)) st [] λds st=>Q (.ref st.n) (st.A (.L ds))
 | .bi f es,ρ,st,Q=>Ws es ρ st λds st=>o8 (M4 f ds st) Q
 | .call f es,ρ,st,Q=>Ws es ρ st λds st=>C "" f ds st Q
 | .new c es,ρ,st,Q=>Ws es ρ st λds st=>C c "__init__" (.ref (st.n+1)::ds) ((st.A (.fld [])).A (.I c st.n)) λd st'=>(match d with| .none=>Q (.ref (st.n+1)) st'|_=>k6)
 | .m o m es,ρ,st,Q=>W o ρ st λd st=>(match st.inst? d with
  |some (c,_)=>noFld st d m/\c≠""/\(BP c).contains m=a8/\Ws es ρ st λds st=>C c m (d::ds) st Q
  |none=>AW (Q5 st d) m=a8/\Ws es ρ st λds st'=>Q5 st' d=Q5 st d/\o8 (Ac m d ds st') Q)
noncomputable def Ws:Xs->Env->St->(a7 b0->St->Prop)->Prop
 | .nil,_,st,Q=>Q [] st
 | .cons e r,ρ,st,Q=>W e ρ st λd st=>Ws r ρ st λds st=>Q (d::ds) st
noncomputable def WT:X->Env->St->(b7->St->Prop)->Prop
 | .not e,ρ,st,Q=>WT e ρ st λb st=>Q (!b) st
 | .and a b,ρ,st,Q=>WT a ρ st λt st=>(match t with|true=>WT b ρ st Q|false=>Q c8 st)
 | .or a b,ρ,st,Q=>WT a ρ st λt st=>(match t with|true=>Q a8 st|false=>WT b ρ st Q)
 | .cmp o a b,ρ,st,Q=>W a ρ st λx st=>W b ρ st λy st=>(match B0 o x y st with|some v=>Q v st|none=>k6)
 | .cmp2 o p a b c,ρ,st,Q=>W a ρ st λx st=>W b ρ st λy st=>(match B0 o x y st with
  |some a8=>W c ρ st λz st=>(match B0 p y z st with|some v=>Q v st|none=>k6)
  |some c8=>Q c8 st
  |none=>k6)
 | .a x,ρ,st,Q=>(match ρ x with|some (.bool b)=>Q b st|_=>k6)
 | .call f es,ρ,st,Q=>Ws es ρ st λds st=>C "" f ds st λd st=>(match d with| .bool b=>Q b st|_=>k6)
 | .m o m es,ρ,st,Q=>W o ρ st λd st=>(match st.inst? d with
  |some (c,_)=>noFld st d m/\c≠""/\(BP c).contains m=a8/\Ws es ρ st λds st=>C c m (d::ds) st λd st=>(match d with| .bool b=>Q b st|_=>k6)
  |none=>AW (Q5 st d) m=a8/\Ws es ρ st λds st'=>Q5 st' d=Q5 st d/\o8 (Ac m d ds st') λd st=>(match d with| .bool b=>Q b st|_=>k6))
 |_,_,_,_=>k6
noncomputable def Ee:Xs->Env->St->(b7->St->Prop)->Prop
 | .nil,_,st,Q=>Q a8 st
 | .cons e r,ρ,st,Q=>WT e ρ st λb st=>(match b with|true=>Ee r ρ st Q|false=>Q c8 st)
noncomputable def WI:CT->Env->St->(It->St->Prop)->Prop
 | .of e,ρ,st,Q=>W e ρ st λd st=>(match BU d st with|some it=>Q it st|none=>k6)
 | .range e,ρ,st,Q=>W e ρ st λd st=>(match d with| .int n=>(if 0<=n/\n<=j8 then Q (.range 0 n) st else k6)|_=>k6)
 | .enum e,ρ,st,Q=>W e ρ st λd st=>(match st.list? d with|some _=>Q (.enum 0 d) st|none=>k6)
 | .zip a b,ρ,st,Q=>W a ρ st λx st=>W b ρ st λy st=>(match st.items? x,st.items? y with|some _,a0 _=>Q (.zip x y 0) st|_,_=>k6)
noncomputable def WG:Gs->Env->Env->St->a7 b0->(a7 b0->St->Prop)->Prop
 | .elt e,_,ρ,st,acc,Q=>W e ρ st λv st=>acc.length<=j8/\Q (acc++[v]) st
 | .cons p src ifs r,ρs,ρ,st,acc,Q=>WI src ρs st λit st=>∃n,Bd (λd st acc k=>(match AD p d ρ with
  |none=>k6
  |some ρ'=>Ee ifs ρ' st λb st=>(match b with
   |true=>WG r ρ' ρ' st acc k
   |false=>k acc st))) n it st acc Q
end
abbrev QS:=Fl->Env->St->Prop
def DL(step:b0->Env->St->QS->Prop):a6->It->Env->St->QS->Prop
 |0,_,_,_,_=>k6
 |n+1,it,ρ,st,Q=>match it.next st with
  |none=>k6
  |some b4=>Q .next ρ st
  |some (a0 (d,it'))=>step d ρ st λf ρ st=>match f with
   | .ret v=>Q (.ret v) ρ st
   |_=>DL step n it' ρ st Q
def IZ(test:Env->St->(b7->St->Prop)->Prop)(body:Env->St->QS->Prop):a6->Env->St->QS->Prop
 |0,_,_,_=>k6
 |n+1,ρ,st,Q=>test ρ st λb st=>match b with
  |false=>Q .next ρ st
  |true=>body ρ st λf ρ st=>match f with
   | .ret v=>Q (.ret v) ρ st
   |_=>IZ test body n ρ st Q
inductive LS (step:b0->Env->St->QS->Prop) (m:a6) (it:It) (ρ:Env) (st:St) (Q:QS):Prop
 |done (h:it.next st=a0 b4) (q:Q .next ρ st)
 |turn (n) (hn:n<m) (d it') (h:it.next st=a0 (a0 (d,it'))) (w:step d ρ st λf ρ st=>match f with
  | .ret v=>Q (.ret v) ρ st
  |_=>DL step n it' ρ st Q)
theorem td(h:DL step m it ρ st Q):LS step m it ρ st Q:=by
 cases m with
 |zero=>exact h.elim
 |succ n=>
  conv at h=>whnf
  cases a:it.next st with
  |none=>rw[a]at h;exact h.elim
  |some o=>
   rw[a]at h;cases o with
   |none=>exact .done a h
   |some q=>exact .turn n (B8 n) q.1 q.2 a h
def setField(st:St)(d:b0)(f:j3)(v:b0):j0 St:=match st.inst? d with
 |some (c,e)=>if(Ct c).contains f then(match st.h e with| .fld es=>if es.length<=j8 then a0 (st.set e (.fld ((f,v)::es)))else b4|_=>b4)else b4
 |none=>b4
def setItem(st:St)(d i v:b0):j0 St:=match d with
 | .ref a=>if a<st.n then(match st.h a with
  | .L xs=>(match i with| .int k=>if 0<=k/\k.toNat<xs.length then a0 (st.set a (.L (xs.set k.toNat v)))else b4|_=>b4)
  | .D es ep=>if v8 es i/\es.length<=j8 then a0 (st.set a (.D (Q0 es i v) (if(t4 es i).isSome then ep else ep+1)))else b4
  |_=>b4)else b4
 |_=>b4
mutual
noncomputable def WS:S->Env->St->QS->Prop
 | .xE e,ρ,st,Q=>W C e ρ st λd st=>(match d with| .ref _=>k6| .B _=>k6| .ro _=>k6|_=>Q .next ρ st)
 | .k t e,ρ,st,Q=>W C e ρ st λv st=>(match t with
  | .a x=>Q .next (ρ.set x v) st
  | .C o f=>W C o ρ st λd st=>(match setField st d f v with|some st=>Q .next ρ st|none=>k6)
  | .sub o i=>W C o ρ st λd st=>W C i ρ st λk st=>(match setItem st d k v with|some st=>Q .next ρ st|none=>k6))
 | .uP ps e,ρ,st,Q=>W C e ρ st λd st=>(match CG ps d st ρ with|some ρ'=>Q .next ρ' st|none=>k6)
 | .ret e,ρ,st,Q=>W C e ρ st λd st=>Q (.ret d) ρ st
 | .iff c a b,ρ,st,Q=>WT C c ρ st λt st=>(match t with|true=>G6 a ρ st Q|false=>G6 b ρ st Q)
 | .while c b,ρ,st,Q=>∃n,IZ (λρ st k=>WT C c ρ st k) (λρ st k=>G6 b ρ st k) n ρ st Q
 | .for p src b,ρ,st,Q=>WI C src ρ st λit st=>∃n,DL (λd ρ st k=>(match AD p d ρ with
  |none=>k6
  |some ρ'=>G6 b ρ' st k)) n it ρ st Q
 | .cont,ρ,st,Q=>Q .cont ρ st
 | .dead,_,_,_=>k6
noncomputable def G6:a7 S->Env->St->QS->Prop
 |[],ρ,st,Q=>Q .next ρ st
 |s::r,ρ,st,Q=>WS s ρ st λf ρ st=>(match f with| .next=>G6 r ρ st Q|f=>Q f ρ st)
end
end
structure FD where
 params:a7 j3
 body:a7 S
abbrev QK:=j3->j3->j0 FD
def u9(P:QK):a6->Cl
 |0,_,_,_,_,_=>k6
 |n+1,c,f,ds,st,Q=>match P c f with
  |none=>k6
  |some fd=>if ds.length=fd.params.length then
   G6 (u9 P n) fd.body (λx=>(fd.params.zip ds).lookup x) st λfl w0 st=>(match fl with| .ret d=>Q d st| .next=>Q .none st| .cont=>k6)
   else k6
end Internal
set_option genCtorIdx false
local macro_rules (kind:=Lean.Parser.Tactic.rwSeq)
 |s=>pz s
namespace Internal
open PySem PyProof.Rows
abbrev qVS:=b8->f8->Prop
theorem js(h:let a:=M;let b:=Q;b9 a A t b E s):b9 M A t Q E s:=h
section
variable{α β:Type}[Dn c]
theorem Fo(h:c)(k:b9 M A x Q E s):b9 M A (if c then x else y) Q E s:=by rw[g0 h];exact k
theorem X8(h:¬c)(k:b9 M A y Q E s):b9 M A (if c then x else y) Q E s:=by rw[j4 h];exact k
end
section
variable{α β:Type}
theorem R8{a:α}(h:b9 M A (f a) R E s):b9 M A (pure a>>=f) R E s:=b5 (f6 h)theorem Ja(h:b9 M A (g ()) R E s):b9 M A (rule tag>>=g) R E s:=b5 (EN h)theorem OU(h:b9 M A (g ()) R E s):b9 M A (Po pos>>=g) R E s:=b5 (Fv h)theorem IU(h:b9 M A (g ()) R E s):b9 M A (letGo removed keep>>=g) R E s:=b5 (PN h)theorem Nm(b:s.heap.get? a=a0 o)(c:o.data= .fields vs)(hi:vs[i]?=a0 x)(h:b9 M A (k x) R E s):b9 M A (field (.ref a) i>>=k) R E s:=b5 (AZ b c hi h)theorem Kr{f:j0 (l4 b8)->M8 β}(b:s.heap.get? a=a0 o)(c:o.data= .seq items n)(h:b9 M A (f (a0 items)) R E s):b9 M A (seqItems? (.ref a)>>=f) R E s:=b5 (Ce b c h)theorem ZK(a:s.TypeIs v T)(h:b9 M A (k (.type T)) R E s):b9 M A (JM v>>=k) R E s:=b5 (HI a h)theorem Hi{f:l4 Af->M8 β}(b:s.heap.get? a=a0 o)(c:o.data= .dict es ep)(h:b9 M A (f es) R E s):b9 M A (dictEntries a part>>=f) R E s:=b5 (nQ b c h)theorem cT{f:a6->M8 β}(b:s.heap.get? a=a0 o)(c:o.data= .dict es ep)(h:b9 M A (f ep) R E s):b9 M A (dictEpoch a part>>=f) R E s:=b5 (wpAny_dictEpoch b c h)theorem XV{f:j0 b8->M8 β}(a:s.TypeIs v T)(b:Cf (.type T) name=pure r)(h:b9 M A (f r) R E s):b9 M A (specialOf v name>>=f) R E s:=b5 (HH a b h)theorem Ti{f:l4 b8->M8 β}(b:s.heap.get? a=a0 o)(c:o.data= .seq items n)(h:b9 M A (f items) R E s):b9 M A (iQ (.ref a)>>=f) R E s:=b5 (Pq b c h)theorem YL{f:b7->M8 β}(a:s.TypeIs v T)(hs:isSubtype (.type T) (.type U)=pure b)(h:b9 M A (f b) R E s):b9 M A (Pt v (.type U)>>=f) R E s:=b5 (Jw a hs h)theorem vA{f:j0 b8->M8 β}(h:b9 M A (f A.handled) R E s):b9 M A (handled>>=f) R E s:=b5 (iK h)theorem CZ(h:b9 M A m (λa b=>b9 M A (f a) R E b) E s):b9 M A (holding vs m>>=f) R E s:=b5 (K9 h)theorem Lh{f:l4 (d3×b8)×a6×Aw->M8 β}(b:s.heap.get? a=a0 o)(c:o.data= .set es ep t)(d:t.fits es.size=a8)(h:b9 (d7 prog w) A (f (es,ep,t)) R E s):b9 (d7 prog w) A (setState a>>=f) R E s:=b5 (Fs b c d h)theorem NR(a:s.TypeIs (args.pos.headD .none) "dict")(h:b9 (d7 prog w) A (g ()) R E s):b9 (d7 prog w) A (zf name args>>=g) R E s:=b5 (WD a h)
end
structure Cx where
 κ:a6->i7
 P:i7->Prop
def C9(l:a7 a6):n4:=⟨l.toArray⟩def nm(x:j3):n4:=Cg x
abbrev x9(items:l4 b8)(e:a6):V6:={cls:=.type "tuple",dict:=b4,data:=.seq items e,slots:=#[]}abbrev AU(items:l4 b8)(e:a6):V6:={cls:=.type "list",dict:=b4,data:=.seq items e,slots:=#[]}abbrev E3(es:l4 Af)(e:a6):V6:={cls:=.type "dict",dict:=b4,data:=.dict es e,slots:=#[]}abbrev FJ(C:i7)(d:i7):V6:={cls:=.ref C,dict:=a0 d,data:=.plain,slots:=#[]}
section
variable(base:l5)
mutual
noncomputable def V(c:Cx)(n:a6)(h:l5):b0->b8->Prop
 | .none,v=>v= .none
 | .bool b,v=>v= .bool b
 | .int i,v=>∃t,v= .int i t
 | .str l,v=>∃t,v= .str (C9 l) t
 | .B ds,v=>∃a items e,v= .ref a/\¬c.P a/\h.get? a=a0 (x9 items e)/\Vs c n h ds items.toList
 | .ref a,v=>a<n/\v= .ref (c.κ a)
 | .ro xs,v=>∃a vs,v= .ref a/\base.IsList a vs/\EK vs.toList xs/\xs.length<=1000
noncomputable def Vs(c:Cx)(n:a6)(h:l5):a7 b0->a7 b8->Prop
 |[],vs=>vs=[]
 |d::ds,vs=>∃v r,vs=v::r/\V c n h d v/\Vs c n h ds r
end
theorem Np(h:C9 a=C9 b):a=b:=by
 let c:(C9 a).cps.toList=(C9 b).cps.toList:=by rw[h]
 simpa[C9]using c
section
variable{base:l5}
theorem Vs.length:∀{b:a7 b0}{vs:a7 b8},Vs base c n h b vs->vs.length=b.length:=by
 intro f
 induction f with
 |nil=>intro d e;rw[show _=[] from e];rfl
 |cons _ b g=>intro d a;ext o0 a v r e d i;subst e;simp[g i]theorem xc(h:a0 (x9 xs e)=a0 (x9 ys e')):xs=ys:=by injection h with q;injection q with _ _ q;injection q
theorem ZM:∀(k:a6){d e:b0}{v:b8},o3 k d e=a8->V base c n h d v->V base c n h e v->l3 d e=a8:=by
 have A:∀(f:b0->b0->b7),(∀d e,f d e=a8->∀v,V base c n h d v->V base c n h e v->l3 d e=a8)->
  ∀(a b:a7 b0)(vs:a7 b8),N6 f a b=a8->Vs base c n h a vs->Vs base c n h b vs->W5 a b=a8:=by
  intro f F a
  induction a with
  |nil=>
   intro b vs s i g;cases b with
   |nil=>rfl
   |cons y t=>ext F8 g v r e s;exact nomatch e.symm.trans i
  |cons x r w=>
   intro b vs o i g;ext o0 i v M e G H;cases b with
   |nil=>exact nomatch e.symm.trans g
   |cons y t=>ext o0 g N O j l B;let z:=Gg (e.symm.trans j);ext1 z I J;exact Kw ⟨F _ _ (o6 o) v G (I▸l),w t _ (o5 o) H (J▸B)⟩
 let C:=IC (P:=λk d e=>∀v,V base c n h d v->V base c n h e v->l3 d e=a8) (λk a b v i g=>by
  ext d4 i t e;ext d4 g u j;injection e.symm.trans j with e3;clear j;subst e3;exact CK a) (λk a b v i g=>by
  ext d4 i t e;ext d4 g u j;injection e.symm.trans j with e3;rw[Np e3];exact CK b) λk a b w o v i g=>by
  ext G9 i p Q R q s D E;ext G9 g S T j K s m l;injection q.symm.trans K with q;rw[<-q]at m;exact A _ w _ _ _ o E (xc (D.symm.trans m)▸l)
 exact λk d e v L i g=>C k d e L v i g
end
end
section
variable{s:f8}
theorem CO(h:s.heap.get? a=a0 (x9 items e)):s.TypeIs (.ref a) "tuple":=d0 _ h rfl
inductive ZI (f:b0->b0->b7) (base:l5) (c:Cx) (n:a6) (h:l5) (g:a7 b0->a7 b0->b7) (m:a6->a6->b7) (r l:b7) (rest:a7 (b8×b8)):Prop
 |mk (x y xs ys) (z:rest=a7.zip xs ys) (ok:N6 f x y=a8) (hx:Vs base c n h x xs) (hy:Vs base c n h y ys) (hg:g x y=r) (hm:m xs.length ys.length=l)
theorem ZI.cons(H:ZI f base c n h g m r l ((p,q)::rest)):∃d e x y,f d e=a8/\V base c n h d p/\V base c n h e q/\g (d::x) (e::y)=r/\(g x y=r->(∀a b,m (a+1) (b+1)=m a b)->ZI f base c n h g m r l rest):=by
 obtain⟨x,y,i,j,z,C,k,o,D,E⟩:=H;cases x with
 |nil=>rw[show i=[] from k]at z;exact nomatch (show(p,q)::rest=[] from z)
 |cons d x=>
  ext o0 k K i rfl t u;cases y with
  |nil=>rw[show j=[] from o]at z;exact nomatch (show(p,q)::rest=[] from z)
  |cons e y=>ext o0 o L j rfl v w;let s:=Gg z;ext1 s F G;exact k9 (zn F) λI J=>⟨d,e,x,y,o6 C,I▸t,J▸v,D,λA B=>⟨x,y,i,j,G,(o5 C),u,w,A,(B _ _).symm.trans E⟩⟩
theorem ZI.nil(H:ZI f base c n h g m r l [])(k:∀y:a7 b0,m 0 y.length=g [] y)(o:∀d x,m (x.length+1) 0=g (d::x) []):l=r:=by
 obtain⟨x,y,s,t,z,p,b,i,j,q⟩:=H;rw[<-q,<-j,Vs.length b,Vs.length i];clear p j;cases x with
 |nil=>exact k y
 |cons d x=>cases y with|nil=>exact o d x|cons e y=>ext F8 b a a rfl a;ext F8 i a a rfl a;cases z
theorem Kf(k:a6)(I:A.units+k<t3)(M:o3 k d e=a8)(g:V base c n s.heap d v)(h:V base c n s.heap e u)(l:Q (l3 d e) s):
 b9 (d7 prog w) A (eqBool v u) Q E s:=by
 refine IC (P:=λk d e=>∀{A:B7}{v u:b8}{Q:b7->f8->Prop},A.units+k<t3->V base c n s.heap d v->V base c n s.heap e u->Q (l3 d e) s->b9 (d7 prog w) A (eqBool v u) Q E s) ?_ ?_ ?_ k d e M I g h l
 .intro k a b A v u Q I g h l;ext d4 g t rfl;ext d4 h u rfl;exact iN l
 .intro k a b A v u Q I g h l;ext d4 g t rfl;ext d4 h u rfl;refine jU ?_;let this:decide (C9 a=C9 b)=(a==b):=by rw[P2,C3,Ai];exact⟨Np,λe=>t0 _ e⟩
  rw[this];exact l
 .intro k x y W M A v u Q I g h l;have z:=g;have B:=h;ext G9 g a N e1 rfl O i C;ext G9 h b R e2 rfl O j D;unfold eqBool
  try with_reducible refine K9 ?_
  refine(?_:b9 _ _ (if(Hy a==Hy b)=a8 then _ else _) Q E s);by_cases G:(Hy a==Hy b)=a8
  .rw[g0 G];injection O2 G with e;let this:=ZM (k+1) (d:=.B x) (e:=.B y) M z (e▸B);rw[this]at l;exact b5 (EN (f6 l))
  .rw[j4 G];let J:b9 (d7 prog w) A.in1 (Builtin.«tuple.__eq__» ⟨[.ref a,.ref b],[]⟩) (λS o=>∃v,S= .done (.ret v)/\(v≠.notImplemented/\b9 (d7 prog w) A (truthOfDropped v) Q E o)) E s:=by
    refine(b5 (Jw (CO j) WE ?_):b9 _ _ (Pt (.ref b) (.type "tuple")>>=_) _ _ s);refine b5 (Pq i rfl (b5 (Pq j rfl (b5 ?_))));refine Ft _
     (λm r o=>r.1=b4/\o=s/\ZI (o3 k) base c n s.heap W5 (·==·) (W5 x y) (N.size==R.size) m)
     _ ?_ ?_ _ _ ⟨rfl,rfl,x,y,N.toList,R.toList,rfl,M,C,D,rfl,rfl⟩
    .rintro z1 m r o X;obtain⟨p,q⟩:=z1;refine u0 X ?_;clear X;clear g h z i C B j D;rintro Y rfl H;refine Yj H.cons λZ d2 x' y' T K L f H=>b5 (W _ _ T (q5 (A1 (Y7 _ _ _)) I) K L ?_);let f:(l3 Z d2&&W5 x' y')=W5 x y:=f;cases hk:l3 Z d2 with|true=>rw[hk]at f;exact f6 (m0 rfl rfl (H f λa b=>by rw[P2,Ai,Ai];exact a6.succ_inj))|false=>rw[hk]at f;exact b5 (f6 (f6 (f6 (v7 _ rfl (λe=>by cases e) (Gk (by rw[show c8=W5 x y from f];exact l:Q c8 o))))))
    .rintro z3 o z4;obtain⟨r1,r2⟩:=z3;refine u0 z4 ?_;clear z4;clear g h W z i C B j D;rintro Y rfl H;cases Y;refine f6 ?_;let U:Q (N.size==R.size) o:=by rw[H.nil (λy=>by cases y<;>rfl) λO O=>rfl];exact l
     exact v7 _ rfl (λe=>by cases e) (Gk U)
   exact b5 (oC (op:=.Eq) (CO i) (CO j) qF
    (Ah qF (CO i) F.entry_tuple_eq J (F.args_tuple_eq_2 _ _)) (q5 (G3 _ _) ‹_›))
end
end Internal
namespace Internal
open PySem PySem.W PyProof.Rows
theorem Zg{α β:Type}{a c x:α}{b d y:β}(h:a=x/\b=y)(e:c=x/\d=y):a=c/\b=d:=⟨h.1.trans e.1.symm,h.2.trans e.2.symm⟩
theorem fo{M:Gr}{Γ:DW}{base:a7 PL}{q:X7}{s i j:f8}{g:a6}{t:M8 PB}{fs:a7 PL}{h f:Wu}(k:Γ.Fits base)
 (l:∃c d,Runs M Γ q t fs s c d/\c.quiet=a8/\h=c.result/\i=d.setGen g c.genState)(m:∃c d,Runs M Γ q t fs s c d/\c.quiet=a8/\f=c.result/\j=d.setGen g c.genState):h=f/\i=j:=by
 obtain⟨r,u,n,_,a⟩:=l;obtain⟨v,w,o,_,b⟩:=m;obtain⟨e,p⟩:=Reach.det (Qc n _ k) (Qc o _ k);rw[<-e,<-p]at b;exact Zg a b
theorem ZY{M:Gr}{Γ:DW}{p:X7}{g:a6}{r:Resume}{s:f8}{P:(Wu->f8->Prop)->Prop}(h0:P λw0 w0=>k6)
 (h1:∀c q t fs,P λres s'=>∃e₁ s₁,Runs M (Γ.wake c p) q t fs (s.setGen g .running) e₁ s₁/\e₁.quiet=a8/\res=e₁.result/\s'=s₁.setGen g e₁.genState)
 (h2:∀a b,b.heap=s.heap->P λres s'=>res=a/\s'=b):P (Mx M Γ p g r s):=by
 delta Mx;cases s.gens[g]? with
 |none=>exact h0
 |some gs=>cases gs with
  |fresh c=>cases r with
   |send v=>cases v with|none=>exact h1 _ _ _ _|_=>exact h2 _ _ rfl
   |throw x=>exact h2 _ _ rfl
  |suspended k l c q fs cl=>exact h1 _ _ _ _
  |_=>exact h2 _ _ rfl
theorem xZ{M:Gr}{Γ:DW}{base:a7 PL}{p:X7}{s:f8}{g:a6}{r:Resume}{l:a7 b8}{e d:Wu}{f i:f8}(j:Γ.Fits base)(k:Mx M Γ p g r s e f)(m:Mx M Γ p g r s d i):e=d/\f=i:=
 ZY (P:=λR=>R e f->R d i->e=d/\f=i) (λh=>h.elim) (λc q t o=>fo (j.wake c g (λn=>.pure (.done .next)) l p)) (λa b n=>Zg) k m
theorem gp{α:Type}(M:Gr){Q1 Q2:α->X7->f8->Prop}{E1 E2:b8->X7->f8->Prop}(t:M8 α):∀(Γ:DW)(base:a7 PL)(p:X7)(s:f8),Γ.Fits base->
 JD M Γ t Q1 E1 p s->JD M Γ t Q2 E2 p s->JD M Γ t (λa p s=>Q1 a p s/\Q2 a p s) (λa p s=>E1 a p s/\E2 a p s) p s:=by
 induction t with
 |pure a=>intro Γ base p s w0 h1 h2;exact⟨h1,h2⟩
 |raise e=>intro Γ base p s w0 h1 h2;exact⟨h1,h2⟩
 |unsupported w=>intro Γ base p s w0 h1 h2;exact h1
 |finish w=>intro Γ base p s w0 h1 h2;exact h1
 |yield=>intro Γ base p s w0 h1 h2;exact h1
 |fork=>intro Γ base p s w0 h1 h2;exact h1
 |await=>intro Γ base p s w0 h1 h2;exact h1
 |register=>intro Γ base p s w0 h1 h2;exact h1
 |rule _ k ih|«at» _ k ih|alloc _ k ih|loadIfAlive _ k ih|point _ k ih|fresh k ih|ask k ih|os _ _ k ih|handled _ k ih|newGen _ k ih|stack k ih|thread k ih=>intro Γ base p s hf h1 h2;exact ih _ Γ base _ _ hf h1 h2
 |load a _ k ih|genState a k ih=>intro Γ base p s hf h1 h2;obtain⟨o,ho,h1⟩:=h1;obtain⟨o',ho',h2⟩:=h2;cases C5 (ho.symm.trans ho');exact⟨o,ho,ih _ Γ base _ _ hf h1 h2⟩
 |update a _ f k ih|choose _ _ k ih=>intro Γ base p s hf h1 h2;exact⟨h1.1,ih _ Γ base _ _ hf h1.2 h2.2⟩
 |call c h g l k ih=>intro Γ base p s hf h1 h2;obtain⟨r,s1,r1,h1⟩:=h1;obtain⟨r',s2,r2,h2⟩:=h2;let f':=hf.enter c (λw0=>.pure (.done .next)) h g l p [];obtain⟨e1,e2⟩:=Reach.det (Qc r1 _ f') (Qc r2 _ f');injection e2 with e2;clear r2;subst e1 e2;exact⟨r,s1,r1,ih _ Γ base _ _ hf h1 h2⟩
 |resume g r l k ih=>intro Γ base p s hf h1 h2;obtain⟨res,s1,w1,h1⟩:=h1;obtain⟨res',s2,w2,h2⟩:=h2;obtain⟨e1,e2⟩:=xZ (l:=[]) hf w1 w2;cases e1;clear w2;cases e2;exact⟨res,s1,w1,ih _ Γ base _ _ hf h1 h2⟩
theorem xm{α:Type}(M:Gr){P:Prop}(t:M8 α):∀(Γ:DW)(p:X7)(s:f8),JD M Γ t (λw0 w0 w0=>P) (λw0 w0 w0=>P) p s->P:=by
 induction t with
 |pure a=>intro Γ p s h;exact h
 |raise e=>intro Γ p s h;exact h
 |unsupported|finish|yield|fork|await|register=>intro Γ p s h;exact h.elim
 |rule _ k ih|«at» _ k ih|alloc _ k ih|loadIfAlive _ k ih|point _ k ih|fresh k ih|ask k ih|os _ _ k ih|handled _ k ih|newGen _ k ih|stack k ih|thread k ih=>intro Γ p s h;exact ih _ Γ _ _ h
 |load a _ k ih|genState a k ih=>intro Γ p s h;obtain⟨o,_,h⟩:=h;exact ih _ Γ _ _ h
 |update a _ f k ih|choose _ _ k ih=>intro Γ p s h;exact ih _ Γ _ _ h.2
 |call c h g l k ih=>intro Γ p s h;obtain⟨r,s1,_,h⟩:=h;exact ih _ Γ _ _ h
 |resume g r l k ih=>intro Γ p s h;obtain⟨r,s1,_,h⟩:=h;exact ih _ Γ _ _ h
def FQ{α:Type}(cmp:a6->a6->b7):Gh α->α
 | .ret a=>a
 | .ask i j k=>FQ cmp (k (cmp i j))
def AM{α:Type}(n:a6):Gh α->(α->Prop)->Prop
 | .ret a,R=>R a
 | .ask i j k,R=>i<n/\j<n/\∀b,AM n (k b) R
theorem Jr{α β:Type}{n:a6}{f:α->Gh β}{R:β->Prop}:∀(t:Gh α),AM n t (λa=>AM n (f a) R)->AM n (t.bind f) R
 | .ret _,h=>h
 | .ask _ _ k,h=>⟨h.1,h.2.1,λb=>Jr (k b) (h.2.2 b)⟩
theorem Ob{α:Type}{n:a6}{R c:α->Prop}(d:∀a,R a->c a):∀(t:Gh α),AM n t R->AM n t c
 | .ret _,h=>d _ h
 | .ask _ _ k,h=>⟨h.1,h.2.1,λb=>Ob d (k b) (h.2.2 b)⟩
theorem Tl{α:Type}{n:a6}{R:α->Prop}{cmp:a6->a6->b7}:∀(t:Gh α),AM n t R->R (FQ cmp t)
 | .ret _,h=>h
 | .ask _ _ k,h=>Tl (k _) (h.2.2 _)
theorem Re{α:Type}{n:a6}{R:α->Prop}{cmp:a6->a6->b7}{a:a6->a6->(b7->f8->Prop)->f8->Prop}{Q:α->f8->Prop}{s:f8}
 (c:∀i j,i<n->j<n->∀C:b7->f8->Prop,C (cmp i j) s->a i j C s):∀(t:Gh α),AM n t R->Q (FQ cmp t) s->t.kasWp a Q s
 | .ret _,_,h=>h
 | .ask i j k,b,h=>c i j b.1 b.2.1 _ (Re c (k _) (b.2.2 _) h)def T8(n:a6)(p:l4 a6):Prop:=p.toList.Perm (p0 n)
theorem T8.lt{n:a6}{p:l4 a6}(h:T8 n p)(b:0<n)(i:a6):p.getD i 0<n:=by
 by_cases a:i<p.size
 .have e:p.getD i 0=p[i]:=by simp[EM,a]
  rw[e];exact List.mem_range.mp (S_ h|>.mp (by simp))
 .have e:p.getD i 0=0:=by simp[EM,a]
  rw[e];exact b
theorem T8.rev{n:a6}{p:l4 a6}(h:T8 n p)(i j:a6):T8 n (kas_rev p i j):=
 (Array.perm_iff_toList_perm.mp (mirror_perm _ _ _ _)).trans h
theorem T8.bub{n:a6}{p:l4 a6}(h:T8 n p)(i j:a6):T8 n (bubble p i j):=
 (Array.perm_iff_toList_perm.mp (bubble_perm _ _ _)).trans h
section
variable(hn:0<n)
include hn
theorem Ui{R:a6->Prop}(a:∀m,R m){p:l4 a6}(h:T8 n p):∀(f m:a6),AM n (kas_asc p f m) R
 |0,m=>a _
 |f+1,m=>⟨h.lt hn _,h.lt hn _,λb=>by cases b<;>first|exact Ui a h f (m+1)|exact a _⟩
theorem om:∀(f:a6){p:l4 a6},T8 n p->∀(m q:a6),AM n (kas_desc f p m q) (λr=>T8 n r.1):=by
 intro d
 induction d with
 |zero=>intro p h m q;exact h
 |succ f a=>
  intro p h m q;refine⟨h.lt hn _,h.lt hn _,λb=>?_⟩;cases b with
  |true=>
   by_cases c:q>0
   .rw[g0 c];exact a (h.rev _ _) _ _
   .rw[j4 c];exact a h _ _
  |false=>
   refine⟨h.lt hn _,h.lt hn _,λb=>?_⟩;cases b with
   |true=>simp only[DY];exact h
   |false=>simp only[Bx,Bu];exact a h _ _
theorem Xd{p:l4 a6}(h:T8 n p)(m a:a6):AM n (kas_tail3 m a p) (λr=>T8 n r.2):=
 Jr _ (Ui hn (λb=>h.rev _ _) (h.rev _ _) _ _)
theorem Yn{p:l4 a6}(h:T8 n p)(m a:a6):AM n (kas_descPart m a p) (λr=>T8 n r.2):=by
 refine Jr _ (Ob (λr b=>?_) _ (om hn _ h _ _));by_cases c:r.2.2>0
 .rw[g0 c];exact Xd hn (b.rev _ _) _ _
 .rw[j4 c];exact Xd hn b _ _
theorem tm{p:l4 a6}(h:T8 n p)(a:a6):AM n (kas_count a p) (λr=>T8 n r.2):=by
 refine Jr _ (Ui hn (λm=>?_) h _ _);by_cases c:(m==a)=a8
 .rw[g0 c];exact h
 .rw[j4 c];by_cases d:m>1
  .rw[g0 d];refine⟨h.lt hn _,h.lt hn _,λb=>?_⟩;cases b with|true=>simp only[DY];exact h|false=>simp only[Bx,Bu];exact Yn hn (h.rev _ _) _ _
  .rw[j4 d];exact Yn hn h _ _
theorem Zu{p:l4 a6}(h:T8 n p)(k:a6):∀(f l r:a6),AM n (kas_place p k f l r) λc=>True
 |0,_,_=>trivial
 |f+1,l,r=>by
  unfold kas_place;by_cases a:l≥r
  .rw[g0 a];trivial
  .rw[j4 a];refine⟨h.lt hn _,h.lt hn _,λb=>?_⟩;cases b<;>first|exact Zu h k f _ _
theorem lz:∀(f:a6){p:l4 a6},T8 n p->∀(k:a6),AM n (kas_bin f p k) (T8 n):=by
 intro b
 induction b with
 |zero=>intro a h a;exact h
 |succ f c=>intro p h k;exact Jr _ (Ob (λl a=>c (h.bub _ _) (k+1)) _ (Zu hn h k k 0 k))
theorem KM:AM n (Vn n) (T8 n):=by
 refine Jr _ (Ob (λr a=>?_) _ (tm hn (by unfold T8;simp:T8 n (HB (p0 n))) n));by_cases b:r.1<n
 .rw[g0 b];exact lz hn _ a _
 .rw[j4 b];exact a
end
def EG(n:a6)(cmp:a6->a6->b7):l4 a6:=FQ cmp (Vn n)def Lr(ns:a7 d3):a7 b8:=ns.zipIdx.map λx=>VP x.1 x.2
theorem mi(ns:a7 d3):(Lr ns).length=ns.length:=by simp[Lr]theorem SY(ns:a7 d3){i:a6}(hi:i<ns.length):(Lr ns).getD i .none= .int (ns.getD i 0) i:=by simp[Lr,hi]
theorem zK(prog:A5)(w:J3)(ns:a7 d3)(h2:2<=ns.length)(h64:ns.length<64):
 ∀i j,i<=j->j<ns.length->ns.getD ((EG ns.length λa b=>decide (ns.getD a 0<ns.getD b 0)).getD i 0) 0<=ns.getD ((EG ns.length λa b=>decide (ns.getD a 0<ns.getD b 0)).getD j 0) 0:=by
 let hn:0<ns.length:=m9 ‹_›;generalize hp:(EG ns.length λa b=>decide (ns.getD a 0<ns.getD b 0))=p;let hord:T8 ns.length p:=by rw[<-hp];exact Tl _ (KM hn)
 let vs:_:=Lr ns
 let s:_:=({}:f8)
 let Γ:_:=(DW.of (.builtin "" {}) []:DW)
 let A:_:=({handled:=Γ.handled,depth:=frameCount Γ.below+Γ.code.weight,frames:=b4,guards:=b4,units:=Γ.units}:B7)
 let hΓ:Γ.In A:=⟨rfl,l8 _,λl hl=>(by cases hl),λl hl=>(by cases hl),l8 _⟩
 let E:_:=(λw0 w0=>k6:qVS)
 have hsz:(Fy vs).size=ns.length:=by rw[pairsOf_size,(mi ns:vs.length=ns.length)]
 let a1:wpS (d7 prog w) A E s sortRuns' (λw0 st'=>SortedTo (JC st') ns.length) (PR Pa (Fy vs) (HB (p0 ns.length))):=by
  refine wpS_sortRuns (a₀:=Fy vs) ?_ ?_ (by rw[hsz];exact h2) (by rw[hsz];exact h64) λst' w0 w0 h=>by rw[hsz]at h;exact h
  .intro q hq;rw[pairsOf_toList]at hq;obtain⟨x,_,hx⟩:=List.mem_map.mp ((mem_zip_self hq).2);exact⟨_,_,hx.symm⟩
  .let e:PR Pa (Fy vs) (HB (p0 ns.length))=SortSt.mk' Pa (Fy vs) #[] 7 b4:=by unfold PR;rw[<-hsz,kas_range]
   rw[e];exact⟨d_ _,rfl,rfl,rfl⟩
 let a2:kasC (d7 prog w) A E sortRuns' (λw0 st' w0=>JC st'=p.map (PX (Fy vs))) (PR Pa (Fy vs) (HB (p0 ns.length))) s:=by refine kas_runs (G:=λp' w0=>p'=p) h2 h64 (λp' st' s' w0 ha w0 hg=>by rw[ha,hg]) ?_;rw[<-kas_ask_eq];refine Re (n:=ns.length) (cmp:=λa b=>decide (ns.getD a 0<ns.getD b 0)) ?_ _ (KM hn) hp;intro i j hi hj C hC;unfold kas_ask;rw[SY ns hi,SY ns hj,WF];exact oneLt_int hC
 refine xm _ _ Γ default s (pZ _ _ _ ?_ (λw0 w0 w0 h=>h.1.elim) _ _ (gp _ _ Γ [] default s (DW.fits_of _ _) (a1 Γ default hΓ) (a2 Γ default hΓ)));rintro z1 w0 w0 z2;obtain⟨_,st'⟩:=z1;obtain⟨⟨_,hs⟩,ha⟩:=z2;intro i j hij hj;let c:=hs i j hij hj;simp only at ha;have hk:∀x,x<ns.length->qP (JC st') x=ns.getD (p.getD x 0) 0:=by
  intro x hx;let hx':x<p.size:=by let c:=hord.length_eq;simp only[A0,Br]at c;exact j7 hx (A1 c.symm)
  unfold qP;rw[ha];let e3:(p.map (PX (Fy vs)))[x]?=a0 (PX (Fy vs) (p.getD x 0)):=by rw[(by simp[EM,hx']:p.getD x 0=p[x])];simp[hx']
  rw[e3,kas_item_eq,SY ns (hord.lt hn x)];rfl
 rw[hk i (q5 hij hj),hk j hj]at c;exact c
end Internal
namespace Internal
mutual
theorem W7:∀{a b:b0},l3 a b=a8->a=b
 | .none,b,h=>by cases b with|none=>rfl|_=>exact no h
 | .bool x,b,h=>by cases b with|bool y=>exact t0 _ (O2 h)|_=>exact no h
 | .int x,b,h=>by cases b with|int y=>exact t0 _ (O2 h)|_=>exact no h
 | .str x,b,h=>by cases b with|str y=>exact t0 _ (O2 h)|_=>exact no h
 | .B x,b,h=>by cases b with|B y=>exact t0 _ (RN h)|_=>exact no h
 | .ref x,b,h=>by cases b<;>exact no h
 | .ro x,b,h=>by cases b<;>exact no h
theorem RN:∀{a b:a7 b0},W5 a b=a8->a=b
 |[],b,h=>by cases b with|nil=>rfl|cons=>exact no h
 |x::r,b,h=>by
  cases b with
  |nil=>exact no h
  |cons y t=>rw[W7 (o6 h),RN (o5 h)]
end
theorem qf(g:∀d,f d d=a8->l3 d d=a8):N6 f a a=a8->W5 a a=a8:=by
 induction a with
 |nil=>intro c;rfl
 |cons x r b=>exact λh=>Kw ⟨g _ (o6 h),b (o5 h)⟩
theorem Eu(h:o3 k a a=a8):l3 a a=a8:=
 IC (P:=λc a b=>a=b->l3 a a=a8) (λc a c c=>CK a) (λc a c c=>CK a) (λk a b f g e=>by
  injection e with e;subst e;exact qf (λd h=>f d d h rfl) g) k a a h rfl
theorem zF(h:o3 k a b=a8):l3 a b=a8↔a=b:=⟨W7,λe=>by subst e;exact Eu h⟩
structure RF (ok lt:b0->b0->b7):Prop where
 irr:∀a,lt a a=c8
 tr:∀a b c,ok a b=a8->ok b c=a8->ok a c=a8->lt a b=a8->lt b c=a8->lt a c=a8
 tot:∀a b,ok a b=a8->lt a b=c8->lt b a=c8->a=b
 sym:∀a b,ok a b=a8->ok b a=a8
mutual
theorem gV:∀a:b0,r9 a a=c8
 | .none=>rfl
 | .bool _=>rfl
 | .int i=>Vb (d3.lt_irrefl i)
 | .str l=>Vb (a7.lt_irrefl l)
 | .B l=>YS l
 | .ref _=>rfl
 | .ro _=>rfl
theorem YS:∀a:a7 b0,U9 a a=c8
 |[]=>rfl
 |x::r=>by
  rw[Sj];split
  .exact YS r
  .exact gV x
end
theorem ZC(c:∀a b,f a b=a8->g b a=a8):∀{a b:a7 b0},N6 f a b=a8->N6 g b a=a8
 |[],[],_=>rfl
 |[],_::_,_=>rfl
 |_::_,[],_=>rfl
 |_::_,_::_,h=>Kw ⟨c _ _ (o6 h),ZC c (o5 h)⟩
theorem wo(h:o3 k a b=a8):o3 k b a=a8:=
 IC (P:=λk a b=>o3 k b a=a8) (λk c c=>by cases k<;>rfl) (λk c c=>by cases k<;>rfl) (λc c c d e=>ZC d e) k a b h
theorem cy(S:RF ok r9)(p:∀a b,ok a b=a8->(l3 a b=a8↔a=b)):
 (∀a b c:a7 b0,N6 ok a b=a8->N6 ok b c=a8->N6 ok a c=a8->U9 a b=a8->U9 b c=a8->U9 a c=a8)/\
 (∀a b:a7 b0,N6 ok a b=a8->U9 a b=c8->U9 b a=c8->a=b):=by
 constructor
 .intro a
  induction a with
  |nil=>
   intro b c l i j f d;clear l f;clear i;cases b with
   |nil=>exact d
   |cons y t=>clear j;cases c with|nil=>exact no d|cons z u=>rfl
  |cons x r m=>
   intro b c l i j f d;cases b with
   |nil=>exact no f
   |cons y t=>
    cases c with
    |nil=>exact no d
    |cons z u=>
     replace l:=G4 l;replace i:=G4 i;replace j:=G4 j;rw[Sj]at f d ⊢;by_cases g:l3 x y=a8
     .have s:=W7 g;subst s;rw[g0 g]at f;by_cases k:l3 x z=a8
      .rw[g0 k]at d ⊢;exact m t u l.2 i.2 j.2 f d
      .rw[j4 k]at d ⊢;exact d
     .rw[j4 g]at f;by_cases k:l3 y z=a8
      .let s:=W7 k;clear d i j k;subst s;rw[j4 g];exact f
      .rw[j4 k]at d;have n:=S.tr _ _ _ l.1 i.1 j.1 f d;rw[j4]
       .exact n
       .intro o;let s:=W7 o;clear d i j k o;subst s;rw[S.irr]at n;cases n
 .intro a
  induction a with
  |nil=>intro b q f d;clear d;cases b with|nil=>rfl|cons y t=>exact no f.symm
  |cons x r m=>
   intro b h f d;cases b with
   |nil=>exact no d.symm
   |cons y t=>
    replace h:=G4 h;rw[Sj]at f d;by_cases g:l3 x y=a8
    .let s:=W7 g;subst s;rw[g0 g]at f d;rw[m t h.2 f d]
    .rw[j4 g]at f;rw[j4 (λe=>g (by rw[W7 e];rw[W7 e]at e;exact e):¬l3 y x=a8)]at d;let s:=S.tot _ _ h.1 f d;clear f d;subst s;exact(g ((p _ _ h.1).mpr rfl)).elim
theorem fZ(T:∀{n},k=n+1->(∀a b c:a7 b0,N6 (o3 n) a b=a8->N6 (o3 n) b c=a8->N6 (o3 n) a c=a8->U9 a b=a8->U9 b c=a8->U9 a c=a8)/\
 (∀a b:a7 b0,N6 (o3 n) a b=a8->U9 a b=c8->U9 b a=c8->a=b)):RF (o3 k) r9:=by
 refine⟨gV,λa b c i g h d f=>?_,λa b i d f=>?_,λa b=>wo⟩
 .refine Fd (P:=λm a b=>m=k->o3 k b c=a8->o3 k a c=a8->r9 a b=a8->r9 b c=a8->r9 a c=a8) i (λa b e g h d f=>?_) (λa b e g h d f=>?_) (λn a b j e g h d f=>?_) rfl g h d f
  .refine d4 (Ll g) ?_;clear g h;clear g h;rintro c rfl;exact Mf (Vc (C6 d) (C6 f))
  .refine d4 (KO g) ?_;clear g h;clear g h;rintro c rfl;exact Mf (a7.lt_trans (C6 d) (C6 f))
  .clear i;subst e;refine c9 (Uj g) ?_;clear g;clear g;rintro c rfl l;exact(T rfl).1 _ _ _ j l h d f
 .refine Fd (P:=λm a b=>m=k->r9 a b=c8->r9 b a=c8->a=b) i (λa b e d f=>?_) (λa b e d f=>?_) (λn a b j e d f=>?_) rfl d f
  .exact t0 _ (lM (Int.not_lt.mp (Qh f)) (Int.not_lt.mp (Qh d)))
  .exact t0 _ (a7.le_antisymm (List.not_lt.mp (Qh f)) (List.not_lt.mp (Qh d)))
  .exact t0 _ ((T e.symm).2 _ _ j d f)
theorem So:∀k:a6,RF (o3 k) r9:=by
 intro c
 induction c with
 |zero=>exact fZ λe=>by cases e
 |succ k d=>exact fZ λe=>AC e▸cy d λa b h=>zF h
def G8(xs:a7 b0):Prop:=∀x∈xs,∀y∈xs,P0 x y=a8
def DI(xs:a7 b0):Prop:=xs.Pairwise λa b=>r9 b a=c8
theorem hG(x:b0):∀l,(Io x l).Perm (x::l):=by
 intro a
 induction a with
 |nil=>exact .refl _
 |cons y r b=>
  rw[bG];split
  .exact((b).cons y).trans (jB x y r)
  .exact .refl _
theorem Y2:∀l,(y8 l).Perm l:=by
 intro a
 induction a with
 |nil=>exact .refl _
 |cons x r b=>exact(hG x _).trans ((b).cons x)
theorem uw:∀{l:a7 b0},G8 (x::l)->DI l->DI (Io x l):=by
 intro k
 induction k with
 |nil=>intro m m;exact OZ _ _
 |cons y r n=>
  intro e h;let S:=So 3;unfold DI at h;rw[a7.pairwise_cons]at h;rw[bG];split
  .rename_i c;refine OD ⟨?_,n (λa o b p=>e a (by rcases D2 o with rfl|h<;>simp[*]) b (by rcases D2 p with rfl|h<;>simp[*]):G8 (x::r)) h.2⟩;intro z d;rcases D2 ((hG x r).mem_iff.mp d)with rfl|d
   .cases j:r9 z y with|false=>rfl|true=>let q:=S.tr _ _ _ (e y (k8 _ j5) z j5) (e z j5 y (k8 _ j5)) (e y (k8 _ j5) y (k8 _ j5)) c j;rw[S.irr]at q;cases q
   .exact h.1 z d
  .rename_i c;let c:r9 y x=c8:=by simpa using c
   refine OD ⟨?_,OD h⟩;intro z d;rcases D2 d with rfl|d
   .exact c
   .cases f:r9 z x with
    |false=>rfl
    |true=>
     let g:=e y (k8 _ j5) z (by simp[d]);cases i:r9 y z with
     |true=>have q:=S.tr _ _ _ g (e z (by simp[d]) x j5) (e y (k8 _ j5) x j5) i f;rw[c]at q;cases q
     |false=>have q:=S.tot _ _ g i (h.1 z d);clear d g i;clear d;subst q;rw[c]at f;cases f
theorem G8.perm(h:G8 a)(p:b.Perm a):G8 b:=λx c y d=>h x (p.mem_iff.mp c) y (p.mem_iff.mp d)
theorem KW:∀{l:a7 b0},G8 l->DI (y8 l):=by
 intro f
 induction f with
 |nil=>intro h;exact Ge
 |cons x r g=>intro e;exact uw (λa c b d=>e a ((((Y2 r).cons x).mem_iff).mp c) b ((((Y2 r).cons x).mem_iff).mp d)) (g λa c b d=>e a (k8 _ c) b (k8 _ d))
theorem TU:∀{a b:a7 b0},G8 a->a.Perm b->DI a->DI b->a=b:=by
 intro j
 induction j with
 |nil=>intro b f p f f;exact(List.nil_perm.mp p).symm▸rfl
 |cons x r k=>
  intro b g p h i;cases b with
  |nil=>exact u6 p.length_eq (by simp)
  |cons y t=>
   let e:x=y:=by
    have d:x∈y::t:=p.mem_iff.mp j5;have c:y∈x::r:=p.mem_iff.mpr j5;rcases D2 d with e|d
    .exact e
    rcases D2 c with e|c
    .exact e.symm
    exact(So 3).tot _ _ (g x j5 y (k8 _ c)) ((NT i).1 x d) ((NT h).1 y c)
   subst e;rw[k (λa l b m=>g a (k8 _ l) b (k8 _ m)) p.cons_inv (NT h).2 (NT i).2]def ET(xs:a7 b0)(x:b0):a6:=xs.countP λy=>r9 y x
theorem XL(ok:G8 xs)(ha:a∈xs)(hb:b∈xs):r9 a b=decide ((ET xs a:d3)<(ET xs b:d3)):=by
 let S:=So 3;let mono:∀{a b:b0},a∈xs->b∈xs->r9 b a=c8->ET xs a<=ET xs b:=by
  intro a b ha hb h;refine a7.countP_mono_left λy hy h1=>?_;cases h2:r9 a b with
  |true=>exact S.tr _ _ _ (ok y hy a ha) (ok a ha b hb) (ok y hy b hb) h1 h2
  |false=>let c:=S.tot _ _ (ok a ha b hb) h2 h;clear hb h h2;subst c;exact h1
 cases h:r9 a b with
 |false=>let c:=mono hb ha h;rw[UZ,US];exact λh=>WP (Int.ofNat_lt.mp h) c
 |true=>
  rw[UZ,C3];let h':r9 b a=c8:=by
   cases h2:r9 b a with
   |false=>rfl
   |true=>have c:=S.tr _ _ _ (ok a ha b hb) (ok b hb a ha) (ok a ha a ha) h h2;rw[S.irr]at c;cases c
  let strict:ET xs a<ET xs b:=by
   let c:∀l:a7 b0,(∀y∈l,y∈xs)->l.countP (λy=>r9 y a)+(l.countP λy=>l3 y a)<=l.countP λy=>r9 y b:=by
    intro l
    induction l with
    |nil=>intro w0;simp
    |cons y r ih=>
     intro hl;let hy:=hl y j5;have c:=ih λz hz=>hl z (k8 _ hz);simp only[a7.countP_cons];cases h1:r9 y a with
     |true=>
      let h4:l3 y a=c8:=by
       cases h5:l3 y a with
       |false=>rfl
       |true=>let c:=W7 h5;clear ha h h' ih h5;subst c;rw[S.irr]at h1;cases h1
      simp only[(S.tr _ _ _ (ok y hy a ha) (ok a ha b hb) (ok y hy b hb) h1 h),h4,DY,Bx,Bu];exact b6 (A1 (Y7 _ 1 _)) (T9 c)
     |false=>
      cases h5:l3 y a with
      |false=>simp only[Bx,Bu];exact b6 c (G3 _ _)
      |true=>let c:=W7 h5;clear ha h' ih h1 h5;subst c;simp only[h,Bx,Bu,DY];exact BK ‹_›
   unfold ET;exact j7 (Qw (List.countP_pos_iff.mpr (d0 a ha (Eu (ok a ha a ha))):0<xs.countP λy=>l3 y a)) (c xs λy hy=>hy)
  exact Int.ofNat_lt.mpr strict
end Internal
set_option backward.match.sparseCases true
namespace Internal
open PySem PySem.W PyProof.Rows
def Ext(h h':l5):Prop:=h.objs.size<=h'.objs.size/\∀b o,h.get? b=a0 o->h'.get? b=a0 o
theorem Ext.refl(h:l5):Ext h h:=⟨l8 _,λa a e=>e⟩theorem Ext.trans{a:l5}(x:Ext a b)(y:Ext b c):Ext a c:=⟨b6 x.1 y.1,λd d e=>y.2 _ _ (x.2 _ _ e)⟩theorem Ext.push(h:l5)(o:V6):Ext h (h.push o):=⟨by rw[J7];exact N8 _,λa a e=>A9 _ e⟩
section
variable{base:l5}{c:Cx}{n:a6}{h h':l5}
mutual
theorem BY(k:∀b f e,¬c.P b->h.get? b=a0 (x9 f e)->h'.get? b=a0 (x9 f e)):∀{d:b0}{v:b8},V base c n h d v->V base c n h' d v
 | .none,_,x=>x
 | .bool _,_,x=>x
 | .int _,_,x=>x
 | .str _,_,x=>x
 | .B _,_,g=>by ext G9 g a f e q p o r;exact BQ a f e q p (k _ _ _ p o) (Y8 k r)
 | .ref _,_,x=>x
 | .ro _,_,x=>x
theorem Y8(k:∀b a e,¬c.P b->h.get? b=a0 (x9 a e)->h'.get? b=a0 (x9 a e)):∀{f:a7 b0}{vs:a7 b8},Vs base c n h f vs->Vs base c n h' f vs
 |[],_,x=>x
 |_::_,_,d=>by ext o0 d v r e g i;exact E8 v r e (BY k g) (Y8 k i)
end
theorem cX{a:i7}{o:V6}(g:h.get? a=a0 o)(i:o.cls≠.type "tuple")(k:∀b o,b≠a->h.get? b=a0 o->h'.get? b=a0 o):
 ∀b d e,¬c.P b->h.get? b=a0 (x9 d e)->h'.get? b=a0 (x9 d e):=λb d e j f=>k b _ (λq=>by
 clear k;subst q;rw[g]at f;clear g;cases f;exact i rfl) f
theorem Iu:∀{b:a7 b0}{vs:a7 b8},Vs base c n h b vs->∀i,i<b.length->V base c n h (b.getD i .none) (vs.getD i .none):=by
 intro j
 induction j with
 |nil=>intro g g i f;simp at f
 |cons d b k=>
  intro g a i f;ext o0 a v r e l m;subst e;cases i with
  |zero=>simpa using l
  |succ i=>simpa using k m i (by simpa using f)
theorem Rr:∀{f:a7 b0}{vs:a7 b8},Vs base c n h f vs->∀v∈vs,∃d∈f,V base c n h d v:=by
 intro g
 induction g with
 |nil=>intro vs e v a;rw[show vs=[] from e]at a;simp at a
 |cons d f i=>
  intro p b v a;ext o0 b u r e j k;subst e;rcases D2 a with rfl|a
  .exact d0 d j5 j
  .exact c9 (i k v a) λl m o=>d0 l (k8 _ m) o
theorem gx{a:a7 b0}{vs:a7 b8}(x:Vs base c n h a vs):∀(p:a7 a6),(∀i∈p,i<a.length)->Vs base c n h (p.map λi=>a.getD i .none) (p.map λi=>vs.getD i .none):=by
 intro d
 induction d with
 |nil=>intro g;exact rfl
 |cons i p e=>intro b;exact E8 _ _ rfl (Iu x i (b i j5)) (e λj f=>b j (k8 _ f))
end
section
variable{s:f8}
theorem sE{p:Prop}(i j:Dn p):@decide p i=@decide p j:=by congr
theorem Zj{a:a7 a6}{Q:b7->Prop}(h:Q (r9 (.str a) (.str b))){i:Dn (a<b)}:Q (@decide (a<b) i):=Vu (t0 Q (sE _ _)) h
theorem dB(k:a6){A:B7}{E:qVS}{d:b0}{v:b8}{Q:qVS}(G:A.units+k<t3)(N:o3 k d e=a8)(g:V base c n s.heap d v)(h:V base c n s.heap e u)(l:Q (.bool (r9 d e)) s):
 b9 (d7 prog w) A (PF .Lt v u) Q E s:=by
 refine IC (P:=λk d e=>∀{A:B7}{E:qVS}{v u:b8}{Q:qVS},A.units+k<t3->V base c n s.heap d v->V base c n s.heap e u->Q (.bool (r9 d e)) s->b9 (d7 prog w) A (PF .Lt v u) Q E s) ?_ ?_ ?_ k d e N G g h l
 .intro k a b A E v u Q G g h l;ext d4 g t rfl;ext d4 h u rfl;exact lt_int l
 .intro k a b A E v u Q G g h l;ext d4 g t rfl;ext d4 h u rfl;exact lt_str (Zj (Q:=λb=>Q (.bool b) s) l)
 .intro k x y W N A E v u Q G g h l;ext G9 g a O e1 rfl R i C;ext G9 h b S e2 rfl R j D;let M:b9 (d7 prog w) A.in1 (Builtin.«tuple.__lt__» ⟨[.ref a,.ref b],[]⟩) (λT B=>∃v,T= .done (.ret v)/\(v≠.notImplemented/\Q v B)) E s:=by
   refine YL (CO j) WE (Ti i rfl (Ti j rfl (b5 ?_)));refine Ft _
    (λm r B=>r.1=b4/\B=s/\ZI (o3 k) base c n s.heap U9 (λa b=>decide (a<b)) (U9 x y) (decide (O.size<S.size)) m)
    _ ?_ ?_ _ _ ⟨rfl,rfl,x,y,O.toList,S.toList,rfl,N,C,D,rfl,rfl⟩
   .rintro z1 m r B X;obtain⟨p,q⟩:=z1;refine u0 X ?_;clear X;clear g h i C j D;rintro Y rfl H;refine Yj H.cons λI J x' y' K o z f H=>?_;have L:A.in1.units+k<t3:=q5 (A1 (Y7 _ _ _)) G;refine b5 (Kf k L K o z ?_);let f:(if l3 I J then U9 x' y' else r9 I J)=U9 x y:=f;cases Z:l3 I J with|true=>rw[Z]at f;exact f6 (m0 rfl rfl (H f λa b=>by rw[P2,C3,C3];exact jZ))|false=>rw[Z]at f;exact Ja (b5 (W _ _ K L o z (R8 (f6 (f6 (v7 _ rfl (λe=>by cases e) (by rw[show r9 I J=U9 x y from f];exact l:Q (.bool (r9 I J)) B)))))))
   .rintro z3 B z4;obtain⟨r1,r2⟩:=z3;refine u0 z4 ?_;clear z4;clear g h W i C j D;rintro Y rfl H;cases Y;refine f6 ?_;let U:Q (.bool (decide (O.size<S.size))) B:=by rw[H.nil (λy=>by cases y<;>rfl) λR R=>rfl];exact l
    exact v7 _ rfl (λe=>by cases e) U
  exact oC (op:=.Lt) (CO i) (CO j) iZ
   (Ah iZ (CO i) F.entry_tuple_lt M (F.args_tuple_lt_2 _ _)) (q5 (G3 _ _) ‹_›)
theorem sB{k:a6}{d:b0}{v:b8}{Q:b7->f8->Prop}(a:A.units+k<t3)(b:o3 k d e=a8)(f:V base c n s.heap d v)(g:V base c n s.heap e u)(h:Q (r9 d e) s):
 b9 (d7 prog w) A (oneLt' c8 v u) Q E s:=
 kat_one _ _ (dB k a b f g h)
def cE(prog:A5)(w:J3)(A:B7)(base:l5)(c:Cx)(n:a6)(xs:a7 b0)(s:f8)(κ:SortKind):Prop:=
 ∀x∈xs,∀y∈xs,∀v u,V base c n s.heap x v->V base c n s.heap y u->∀C:b7->f8->Prop,C (r9 x y) s->b9 (d7 prog w) A (keyLt' κ v u) C (λw0 w0=>k6) s
theorem UP{d:b0}{v:b8}{Q:b7->f8->Prop}{k:a6}(i:(∃k,d= .int k)\/∃l,d= .str l)(a:o3 k d e=a8)(f:V base c n s.heap d v)(g:V base c n s.heap e u)(h:Q (r9 d e) s):b9 (d7 prog w) A (oneLt' a8 v u) Q E s:=by
 rcases i with⟨k,rfl⟩|⟨l,rfl⟩
 .refine d4 (Ll a) ?_;clear a;rintro b rfl;ext d4 f t rfl;ext d4 g u rfl;exact oneLt_int h
 .refine d4 (KO a) ?_;clear a;rintro b rfl;ext d4 f t rfl;ext d4 g u rfl;exact oneLt_str (Zj (Q:=λb=>Q b s) h)
theorem fU{b:b7}{o:b7}{Q:b7->f8->Prop}(z:A.units+8<t3):∀(x y:a7 b0)(xs ys:a7 b8)(i:a6),Vs base c n s.heap x xs->Vs base c n s.heap y ys->N6 (o3 2) x y=a8->
 (b=a8->i=0->∀d r,x=d::r->(∃k,d= .int k)\/∃l,d= .str l)->o=decide (xs.length<ys.length)->Q (U9 x y) s->KatLex prog w A b o Q (xs.zip ys) i s
 |[],y,xs,ys,i,t,f,_,_,g,a=>by
  rw[show xs=[] from t]at g ⊢;refine kat_nil ?_;rw[g];cases y with
  |nil=>rw[show ys=[] from f];exact a
  |cons u J=>refine F8 f ?_;clear f;clear g;rintro F D rfl G;exact a
 |v::x,y,xs,ys,i,t,f,e,H,g,a=>by
  ext o0 t K I rfl j B;cases y with
  |nil=>rw[show ys=[] from f]at g ⊢;refine kat_nil ?_;rw[g];exact a
  |cons u y=>
   ext o0 f F D rfl m C;refine k9 (G4 e) λe q=>kat_cons (Kf 2 (gB z rfl) e j m ?_);have a:Q (if l3 v u then U9 x y else r9 v u) s:=a;cases E:l3 v u with
   |true=>rw[E]at a;exact kat_yes (fU z x y I D (i+1) B C q (λG h=>by cases h) (by rw[g,P2,C3,C3];exact jZ) a)
   |false=>
    rw[E]at a;refine kat_no ?_;cases p:(b&&i==0)with
    |false=>exact sB (k:=2) (gB z rfl) e j m a
    |true=>exact UP (H (o6 p) (O2 (o5 p)) v x rfl) e j m a
theorem jg:∀{xs:a7 b0}{vs:a7 b8},Vs base c n s.heap xs vs->(∀x∈xs,∃d r,x= .B (d::r))->∃b,KatTups s.heap vs b/\(∀f∈b,∃x∈xs,∃d r,x= .B (d::r)/\V base c n s.heap d f)/\b.length=xs.length:=by
 intro u
 induction u with
 |nil=>intro vs h j;exact v7 [] (by rw[show vs=[] from h];exact D_) (by simp) rfl
 |cons x xs w=>
  intro j i o;ext o0 i v r e p z;subst e;refine S7 (o x j5) ?_;rintro d l rfl;refine y3 (w z λy A=>o y (k8 _ A)) λb B C D=>?_;ext G9 p a m e rfl j E q;ext o0 q f t F G j;refine v7 (f::b) (zh E rfl rfl ?_ B) ?_ (by simp[D])
  .rw[<-W6,F];rfl
  .intro g k;rcases D2 k with rfl|k
   .exact⟨_,j5,d,l,rfl,G⟩
   .exact c9 (C g k) λx H I=>d0 x (by simp[H]) I
theorem xR{d:b0}{f:b8}{l:a7 b0}(h:V base c n s.heap (.B l) f):PA (d7 prog w) s.heap (JM f) (.type "tuple"):=by ext G9 h a b e rfl g i g;exact(PA.ld i).andThen .now
theorem FU{xs:a7 b0}(h:C1 xs=a8):G8 xs:=λx a y b=>S9 (S9 (o5 (o6 h)) x a) y b
theorem dG{v:b8}{a:d3}{m:a6}{d:b0}(h:o3 m (.int a) d=a8)(e:V base c n s.heap d v):PA (d7 prog w) s.heap (JM v) (.type "int"):=by refine d4 (Ll h) ?_;clear h;rintro b rfl;ext d4 e t rfl;exact pS rfl
theorem eP{v:b8}{a:a7 a6}{m:a6}{d:b0}(h:o3 m (.str a) d=a8)(e:V base c n s.heap d v):PA (d7 prog w) s.heap (JM v) (.type "str"):=by refine d4 (KO h) ?_;clear h;rintro b rfl;ext d4 e t rfl;exact pS rfl
theorem wz{xs:a7 b0}{vs:a7 b8}{Q:SortKind->f8->Prop}(hu:A.units+8<t3)(q:2<=vs.length)(U:C1 xs=a8)(K:Vs base c n s.heap xs vs)
 (h:∀κ,cE prog w A base c n xs s κ->Q κ s):b9 (d7 prog w) A (keyKind' vs.toArray) Q E s:=by
 have i:=FU U;have m:=Vs.length K;have B:=S9 (o5 U);cases xs with
 |nil=>rw[m]at q;exact u6 q (by decide)
 |cons P W=>
 let H:=B P j5;have g:∀y∈P::W,P0 P y=a8:=λy z=>i P j5 y z;cases P with
 |int k0=>
  refine kas_kind (T:=.type "int") q (λv I=>?_) (by decide) (by decide) (h _ ?_)
  .exact c9 (Rr K v I) λd D J=>dG (g d D) J
  .intro x j y z v u o p C R;refine d4 (Ll (g x j)) λa e=>?_;rw[WF];exact UP (.inl ⟨a,e⟩) (i x j y z) o p R
 |str l0=>
  refine kas_kind (T:=.type "str") q (λv I=>?_) (by decide) (by decide) (h _ ?_)
  .exact c9 (Rr K v I) λd D J=>eP (g d D) J
  .intro x j y z v u o p C R;refine d4 (KO (g x j)) λa e=>?_;rw[WF];exact UP (.inr ⟨a,e⟩) (i x j y z) o p R
 |B l0=>
  have L:∀x∈b0.B l0::W,∃d r,x= .B (d::r):=λx j=>by
   refine c9 (Uj (g x j)) ?_;rintro l rfl M;cases l with
   |nil=>exact no (B _ j)
   |cons d r=>exact Dz d r rfl
  refine y3 (jg K L) λfs X Y Z=>S7 (L _ j5) λG r0 e0=>?_;injection e0 with e0;subst e0;have D:∀x∈b0.B (G::r0)::W,∀d r,x= .B (d::r)->o3 2 G d=a8:=λx j d r e=>by
   let F:=g x j;rw[e]at F;exact o6 F
  have N:∀f∈fs,∃d,o3 2 G d=a8/\V base c n s.heap d f:=λf N=>by
   refine c9 (Y f N) λx j rr=>?_;ext F8 rr d r e hf';exact d0 d (D x j d r e) hf'
  let k4:0<fs.length:=by rw[Z,<-m];exact j7 qK q
  have t:∀b:b7,(b=a8->(∃k,G= .int k)\/∃l,G= .str l)->cE prog w A base c n (b0.B (G::r0)::W) s (tuples' b):=by
   intro b hb x j y z v u o p C R;refine S7 (L x j) ?_;rintro d1 r1 rfl;refine S7 (L y z) ?_;rintro d2 r2 rfl;have hk:=D _ j _ _ rfl;ext G9 o a i1 e1 rfl M ho1 hv1;ext G9 p a' i2 e2 rfl M ho2 hv2;refine kat_lt ho1 rfl ho2 rfl (fU hu _ _ _ _ 0 hv1 hv2 (i _ j _ z) ?_ rfl R);intro hbt M d r e;injection e with e _;subst e;clear U K h i m B H g L Y Z D N j z;rcases hb hbt with⟨k,rfl⟩|⟨l,rfl⟩
   .exact .inl (Ll hk)
   .exact .inr (KO hk)
  clear U K i m B H g L Y Z;cases G with
  |int i0=>exact VO (T:=.type "int") X k4 (λf S=>c9 (N f S) λd O q=>dG O q) (by decide) (h _ (t _ λM=>.inl ⟨_,rfl⟩))
  |str i0=>exact VO (T:=.type "str") X k4 (λf S=>c9 (N f S) λd O q=>eP O q) (by decide) (h _ (t _ λM=>.inr ⟨_,rfl⟩))
  |B i0=>refine VO (T:=.type "tuple") X k4 (λf S=>?_) (by decide) (h _ (t _ λe=>by cases e));refine c9 (N f S) λd O q=>c9 (Uj O) ?_;clear O;rintro l rfl M;exact xR (d:=.none) q
  |_=>exact no (D _ j5 _ _ rfl)
 |_=>exact no H
theorem Ze{α:Type}{n:a6}{R:α->Prop}{f:a6->a6->b7}(h:∀i j,i<n->j<n->f i j=g i j):∀(t:Gh α),AM n t R->FQ f t=FQ g t
 | .ret _,_=>rfl
 | .ask i j k,a=>by
  refine(?_:FQ f (k (f i j))=FQ g (k (g i j)));rw[h i j a.1 a.2.1];exact Ze h _ (a.2.2 _)
theorem ql(prog:A5)(w:J3){xs:a7 b0}(h2:2<=xs.length)(h64:xs.length<64)(ok:G8 xs):
 T8 xs.length (EG xs.length λi j=>r9 (xs.getD i .none) (xs.getD j .none))/\
 ((EG xs.length λi j=>r9 (xs.getD i .none) (xs.getD j .none)).toList.map λi=>xs.getD i .none)=y8 xs:=by
 let hn:0<xs.length:=m9 ‹_›;have hord:T8 xs.length (EG xs.length λi j=>r9 (xs.getD i .none) (xs.getD j .none)):=Tl _ (KM hn);refine⟨hord,?_⟩;have hmem:∀i,i<xs.length->xs.getD i .none∈xs:=λi hi=>by
  let c:xs.getD i .none=xs[i]:=by simp[hi]
  rw[c];exact EO hi
 let ns:_:=(xs.map λx=>(ET xs x:d3):a7 d3)
 have hlen:ns.length=xs.length:=by simp[ns]
 have hget:∀i,i<xs.length->ns.getD i 0=(ET xs (xs.getD i .none):d3):=λi hi=>by simp[ns,hi]
 let e:(EG xs.length λi j=>r9 (xs.getD i .none) (xs.getD j .none))=EG ns.length λa b=>decide (ns.getD a 0<ns.getD b 0):=by rw[hlen];refine Ze (λi j hi hj=>?_) _ (KM hn);show r9 _ _=decide (_<_);rw[hget i hi,hget j hj];exact XL ok (hmem i hi) (hmem j hj)
 let hs:=zK prog w ns (wj h2 hlen) (fR h64 hlen);rw[<-e,hlen]at hs;generalize hp:(EG xs.length λi j=>r9 (xs.getD i .none) (xs.getD j .none))=p at*;let hperm:(p.toList.map λi=>xs.getD i .none).Perm xs:=by
  refine(hord.map _).trans ?_;let c:(p0 xs.length).map (λi=>xs.getD i .none)=xs:=by apply a7.ext_getElem (by simp);intro i h1 h2;simp at h1;simp[h1]
  rw[c]
 refine TU (ok.perm hperm) (hperm.trans (Y2 xs).symm) ?_ (KW ok);unfold DI;rw[a7.pairwise_iff_getElem];intro i j hi hj hij;simp only[f7,A0]at hi hj;let hlt:∀k,k<p.size->p.getD k 0<xs.length:=λk w0=>hord.lt hn k;rw[(by simp[hi]:(p.toList.map λi=>xs.getD i .none)[i]'(by simpa using hi)=xs.getD (p.getD i 0) .none),(by simp[hj]:(p.toList.map λi=>xs.getD i .none)[j]'(by simpa using hj)=xs.getD (p.getD j 0) .none),XL ok (hmem _ (hlt j hj)) (hmem _ (hlt i hi))];let c:=hs i j (m9 ‹_›) (Hm hj (by let c:=hord.length_eq;simpa using c:p.size=xs.length));rw[hget _ (hlt i hi),hget _ (hlt j hj)]at c;rw[US];exact Int.not_lt.mpr c
theorem Xy{xs:l4 b8}{e:a6}:(O4 "list" xs e).cls≠.type "tuple":=λh=>by injection h with h;exact u6 h (by decide)
theorem eg{a:i7}{e0:a6}{xs:a7 b0}{vs:a7 b8}{P:PB->f8->Prop}(hu:A.units+8<t3)(F:s.heap.get? a=a0 (O4 "list" vs.toArray e0))
 (S:C1 xs=a8)(K:Vs base c n s.heap xs vs)
 (h:∀L g e,s.heap.objs.size<=L.objs.size->(∀b o,b≠a->s.heap.get? b=a0 o->L.get? b=a0 o)->L.get? a=a0 (O4 "list" g e)->Vs base c n s.heap (y8 xs) g.toList->P (.done (.ret .none)) {s with heap:=L}):
 b9 (d7 prog w) A (Builtin.«list.sort» ⟨[.ref a],[]⟩) P E s:=by
 let ha:=C4 F;have d:vs.length=xs.length:=Vs.length K;let l:=He S;obtain⟨M,H⟩:∃M,(s.heap.update a (AI λk=>#[])).get? a=a0 (O4 "list" #[] M):=⟨_,lA F λk=>#[]⟩;let z:(((s.heap.update a (AI λk=>#[])).push (O4 "tuple" vs.toArray 0)).push (O4 "list" #[] 0)).get? a=a0 (O4 "list" #[] M):=
  A9 _ (A9 _ H)
 have u:∀b o,b≠a->s.heap.get? b=a0 o->(((s.heap.update a (AI λk=>#[])).push (O4 "tuple" vs.toArray 0)).push (O4 "list" #[] 0)).get? b=a0 o:=
  λb o N e=>A9 _ (A9 _ (((AY s.heap a (AI λk=>#[])).2 b N).trans e))
 have B:Vs base c n (((s.heap.update a (AI λk=>#[])).push (O4 "tuple" vs.toArray 0)).push (O4 "list" #[] 0)) xs vs:=
  Y8 (cX F Xy u) K
 have I:∀(g:a7 b8),g.length=vs.length->Vs base c n s.heap (y8 xs) g->∀f:SortSt,(JC f).map (·.2)=g.toArray->VL f=b4->
  b9 (d7 prog w) A (do
   let q:=(<-seqEpoch a) != M
   xt (.ref a) λk=>(JC f).map (·.2)
   if let a0 e:=VL f then rule "list.sort.comparison-raised";throw e
   if q then rule "list.sort.modified";raiseError "ValueError" "list modified during sort"
   ret .none) P E {s with heap:=((s.heap.update a (AI λk=>#[])).push (O4 "tuple" vs.toArray 0)).push (O4 "list" #[] 0)}:=by
  intro g O V f W T;rw[W,T];refine b5 (pP z rfl (b5 (iP z rfl ?_ (F9 _) (by rw[Mm,O3];exact O▸d▸b6 (m9 l) (by decide)))));refine X8 (by simp) (f6 (h _ g.toArray _ ?_ ?_ (lA z λk=>g.toArray) (by simpa using V)))
  .rw[pM,J7,J7,pM];solve_by_elim (maxDepth:=3)only[*,j7,b6,N8,B8]
  .intro b o N e;rw[Hs _ _ (C8 N)];exact u b o N e
 rw[list_sort_plain];refine b5 (listItems_at F rfl (b5 (iP F rfl ?_ (by rw[Mm,O3];exact RV l d) (F9 _))));refine b5 (pP H rfl (b5 (PQ ?_ (by refine(?_:vs.length<=_);rw[O3];exact RV l d))));refine b5 (pI ?_ (F9 _));refine K9 ((?_:b9 (d7 prog w) A _ P E {s with heap:=((s.heap.update a (AI λk=>#[])).push (O4 "tuple" vs.toArray 0)).push (O4 "list" #[] 0)}));dsimp only;by_cases r:vs.toArray.size<2
 .rw[g0 r,g0 r];refine R8 ?_;rw[StateT.run_pure];refine R8 ?_;have D:y8 xs=xs:=by
   rw[Mm]at r
   match xs,d with
   |[],_=>rfl
   |[x],_=>rfl
   |_::_::_,O=>simp at O;exact(ag r O).elim
  refine I vs rfl (by rw[D];exact K) _ ?_ rfl;refine(?_:(vs.toArray.zip vs.toArray).map (·.2)=vs.toArray);apply Array.toList_inj.mp;rw[l4.toList_map];simp only[l4.toList_zip];exact nM (l8 _)
 .rw[j4 r,j4 r];rw[Mm]at r;refine b5 (wz (s:={s with heap:=((s.heap.update a (AI λk=>#[])).push (O4 "tuple" vs.toArray 0)).push (O4 "list" #[] 0)}) hu (Bm ‹_›) S B λκ X=>?_);let U:=ql prog w (d▸Nat.not_lt.mp r) l (FU S);ext1 U v t;generalize hp:(EG xs.length λi j=>r9 (xs.getD i .none) (xs.getD j .none))=p at*;let J:(Vn vs.length).kasWp (kas_ask prog w A κ vs) (λZ G=>Z=p/\G={s with heap:=((s.heap.update a (AI λk=>#[])).push (O4 "tuple" vs.toArray 0)).push (O4 "list" #[] 0)}) {s with heap:=((s.heap.update a (AI λk=>#[])).push (O4 "tuple" vs.toArray 0)).push (O4 "list" #[] 0)}:=by
   rw[d];refine Re (n:=xs.length) (cmp:=λi j=>r9 (xs.getD i .none) (xs.getD j .none)) ?_ _ (KM (d▸j7 qK (Nat.not_lt.mp r))) ⟨hp,rfl⟩;intro i j y hj C hC;let hm:∀i,i<xs.length->xs.getD i .none∈xs:=λi y=>by
    let m:xs.getD i .none=xs[i]:=by simp[y]
    rw[m];exact EO y
   exact X _ (hm i y) _ (hm j hj) _ _ (Iu B i y) (Iu B j hj) C hC
  refine b5 (v6 (kat_run (Q:=λf G=>JC f=p.map (PX (vs.toArray.zip vs.toArray))/\VL f=b4/\G={s with heap:=((s.heap.update a (AI λk=>#[])).push (O4 "tuple" vs.toArray 0)).push (O4 "list" #[] 0)})
   rfl (Bm ‹_›) (fR l d) (λZ f G k a2 a3 a4=>m0 (by rw[a2,a4.1]) a3 a4.2) J) ?_ λk k e=>e)
  rintro z5 G R;obtain⟨⟨⟩,f⟩:=z5;ext1 R Y T rfl;refine I (p.toList.map λi=>vs.getD i .none) (by rw[f7,A0];exact vQ (by let m:=v.length_eq;simpa using m:p.size=xs.length) d) ?_ f ?_ T
  .rw[<-t];exact gx K _ λi y=>U7 (v.mem_iff.mp y)
  .exact kat_snds rfl Y
theorem YV{v:b8}{Q:qVS}(F:A.units+10<t3)
 (C:b9 (d7 prog w) A.in1 (collect v) (λi d=>∃j,C1 j=a8/\Vs base c n d.heap j i/\
  ∀g a f e,d.heap.objs.size<=a->Ext d.heap g->g.get? a=a0 (AU f e)->Vs base c n g (y8 j) f.toList->Q (.ref a) {d with heap:=g}) E s):
 b9 (d7 prog w) A (call (.builtin "sorted") [v]) Q E s:=by
 refine Calls.call_function_entry kind_sorted plain_sorted entry_sorted (args_sorted1 _) (b5 (m:=checkCount "sorted" 1 1 _) (f6 (b5 (v6 C ?_ λu u e=>e))));rintro i d x;ext y3 x j y z D;refine b5 (pI ?_ (by rw[O3];exact RV (He y) (Vs.length z)));let h:(d.heap.push (O4 "list" i.toArray 0)).get? d.heap.objs.size=a0 (O4 "list" i.toArray 0):=y9 _ rfl;let l:=Ext.push d.heap (O4 "list" i.toArray 0);refine(CZ (Ah slot_list_sort (d0 _ h rfl) entry_list_sort ?body (args_list_sort _)))
 case body=>refine eg (s:={d with heap:=d.heap.push (O4 "list" i.toArray 0)}) (xs:=j) ‹_› h y (Y8 (λb t e u k=>l.2 _ _ k) z) ?_;intro g f e p B q r;exact d0 _ rfl (f6 (d0 _ rfl (D g d.heap.objs.size f e (l8 _) (⟨b6 l.1 p,λb o k=>B b o (m6 (C4 k)) (l.2 _ _ k)⟩:Ext d.heap g) q (Y8 (cX h Xy B) r))))
end
end Internal
set_option backward.match.sparseCases false
namespace Internal
open PySem PySem.W PyProof.Rows
mutual
noncomputable def q9(w:J3):b0->d3
 | .int i=>hashInt i
 | .str l=>hashStr w (C9 l)
 | .B ds=>Qk (JP (CR w ds))
 |_=>0
noncomputable def CR(w:J3):a7 b0->a7 d3
 |[]=>[]
 |d::ds=>q9 w d::CR w ds
end
theorem ZB:q9 w (.B ds)=Qk (JP (CR w ds)):=rfl
abbrev SI:=n4 ⊕ d3
def KI:SI->b8->b7
 | .inl x,v=>v.isStrOf x
 | .inr i,v=>v.isInt i
theorem EW(h:KI (.inl x) v=a8):∃t,v= .str x t:=b8.isStrOf_shape h
theorem Fb(h:KI (.inr i) v=a8):∃t,v= .int i t:=b8.isInt_shape h
theorem dK(hab:(a==b)=c8)
 (hf:∀x t y u,(a,b)≠(.float x t,.float y u))(h:∀Q':b8->f8->Prop,Q' (.bool c8) s->b9 (d7 prog w) A (PF .Eq a b) Q' E s)(hq:Q c8 s):b9 (d7 prog w) A (eqBool a b) Q E s:=by
 unfold eqBool
 try with_reducible refine K9 ?_
 refine(X8 (by rw[hab];exact Ch) ?_:b9 _ _ (if(a==b)=a8 then _ else _) Q E s);clear hab;cases a with
 |float x t=>cases b with|float y u=>exact(hf x t y u rfl).elim|_=>exact b5 (h _ (Gk hq))
 |_=>exact b5 (h _ (Gk hq))
def W9(prog:A5)(w:J3):KeyKind prog w SI where
 is:=KI
 hash:=λx=>match x with| .inl s=>hashStr w s| .inr i=>hashInt i
 inj:=λv a b ha hb=>by
  cases a with
  |inl=>cases b with|inl=>exact t0 VH (b8.isStrOf_inj v _ _ ha hb)|inr=>exact d4 (EW ha) λt e=>d4 (Fb hb) λu e'=>nomatch e.symm.trans e'
  |inr=>cases b with|inl=>exact d4 (Fb ha) λt e=>d4 (EW hb) λu e'=>nomatch e.symm.trans e'|inr=>exact t0 Vv (b8.isInt_inj v _ _ ha hb)
 byValue:=λk v h=>by
  cases k with
  |inl=>exact d4 (EW h) λt e=>e▸rfl
  |inr=>exact d4 (Fb h) λt e=>e▸rfl
 pyHash:=λ{A E s k v Q}hv h=>by
  cases k with
  |inl=>exact d4 (EW hv) λt e=>rwE e (Wh h)
  |inr=>exact d4 (Fb hv) λt e=>rwE e (Wf h)
 eqBool:=λ{A E s a b u v Q}hu hv h=>by
  cases a with
  |inl x=>
   refine d4 (EW hu) λt e=>rwE e ?_;cases b with
   |inl y=>exact d4 (EW hv) λt' e=>rwE e (jU ((by simp:decide ((VH x:SI)=VH y)=decide (x=y))▸h))
   |inr y=>exact d4 (Fb hv) λt' e=>rwE e (dK (beq_eq_false_iff_ne.mpr λe=>by cases e) (λw0 w0 w0 w0 e=>by cases e) (λQ' hq=>yr hq) h)
  |inr x=>
   refine d4 (Fb hu) λt e=>rwE e ?_;cases b with
   |inl y=>exact d4 (EW hv) λt' e=>rwE e (dK (beq_eq_false_iff_ne.mpr λe=>by cases e) (λw0 w0 w0 w0 e=>by cases e) (λQ' hq=>xy hq) h)
   |inr y=>exact d4 (Fb hv) λt' e=>rwE e (iN ((by rw[P2,C3,Ai];simp:decide ((Vv x:SI)=Vv y)=(x==y))▸h))
 «strs»:=λk x t v h=>by
  cases k with
  |inl s=>refine d4 (EW h) λu hu=>?_;injection hu with hx;clear h;subst hx;cases v<;>rfl
  |inr i=>refine d4 (Fb h) λu hu=>?_;cases hu
def y6:b0->SI
 | .str l=>.inl (C9 l)
 | .int i=>.inr i
 |_=>.inr 0
theorem Fa(b:leaf d=a8)(f:V base c n h d v):(W9 prog w).is (y6 d) v=a8:=
 ER (P:=λd=>V base c n h d v->(W9 prog w).is (y6 d) v=a8) b (λi a=>d4 a λg e=>e▸CK i) (λl a=>d4 a λg e=>e▸CK (C9 l)) f
theorem GT(a:leaf d=a8):(W9 prog w).hash (y6 d)=q9 w d:=ER (P:=λd=>(W9 prog w).hash (y6 d)=q9 w d) a (λb=>rfl) λb=>rfl
theorem hM(b:leaf d=a8)(a:leaf e=a8):y6 d=y6 e->d=e:=
 ER (P:=λd=>y6 d=y6 e->d=e) b (λi=>ER (P:=λe=>y6 (.int i)=y6 e->.int i=e) a (λj h=>by injection h with h;rw[h]) λj h=>by cases h)
  (λi=>ER (P:=λe=>y6 (.str i)=y6 e->.str i=e) a (λj h=>by cases h) (λj h=>by injection h with h;rw[Np h]))theorem Ts(a:leaf d=a8)(b:leaf e=a8):y6 d=y6 e↔d=e:=⟨hM a b,λe=>by rw[e]⟩theorem Lq(a:leaf d=a8)(b:leaf e=a8):l3 d e=a8↔d=e:=⟨W7,λh=>h▸ER (P:=λd=>l3 d d=a8) a (λi=>CK i) λi=>CK i⟩
theorem ww:∀{b:a7 b0}{vs:a7 b8},b.all leaf=a8->Vs base c n h b vs->ItemsAre (W9 prog w) (b.map y6) vs:=by
 intro g
 induction g with
 |nil=>intro vs i e;rw[show vs=[] from e];exact .nil
 |cons d b j=>intro i f a;ext o0 a v r e k l;subst e;simp only[LN,C2]at f;exact .cons (Fa f.1 k) (j f.2 l)
theorem yJ:∀{a b:a7 b0},a.all leaf=a8->b.all leaf=a8->(a.map y6=b.map y6↔a=b):=by
 intro g
 induction g with
 |nil=>
  intro d;cases d with
  |nil=>intro c c;exact⟨λc=>rfl,λc=>rfl⟩
  |cons _ _=>intro c c;exact⟨λh=>(by cases h),λh=>(by cases h)⟩
 |cons x a i=>
  intro d;cases d with
  |nil=>intro c c;exact⟨λh=>(by cases h),λh=>(by cases h)⟩
  |cons y b=>
   intro e f;exact⟨λh=>by
   injection h with e1 e2;rw[hM (o6 e) (o6 f) e1,(i (o5 e) (o5 f)).mp e2],λh=>by rw[h]⟩
theorem io:∀{a b:a7 b0},a.all leaf=a8->b.all leaf=a8->(W5 a b=a8↔a=b):=by
 intro g
 induction g with
 |nil=>
  intro d;cases d with
  |nil=>intro c c;exact⟨λc=>rfl,λc=>rfl⟩
  |cons _ _=>intro c c;exact⟨no,λh=>by cases h⟩
 |cons x a i=>
  intro d;cases d with
  |nil=>intro c c;exact⟨no,λh=>by cases h⟩
  |cons y b=>
   intro e f;exact⟨RN,λh=>by
   injection h with e1 e2;exact Kw ⟨(Lq (o6 e) (o6 f)).mpr e1,(i (o5 e) (o5 f)).mpr e2⟩⟩
theorem aS:∀{a:a7 b0},a.all leaf=a8->CR w a=(a.map y6).map (W9 prog w).hash:=by
 intro c
 induction c with
 |nil=>intro f;exact rfl
 |cons d a e=>intro b;refine(?_:q9 w d::CR w a=_::Pw _ (Pw _ a));rw[e (o5 b),GT (o6 b)]
theorem Ta(g:Q3 d≠0)(f:Q3 e=Q3 d):l3 e d=a8↔e=d:=by
 let a:∀{c:a7 b0},Q3 (.B c)≠1/\Q3 (.B c)≠2/\(Q3 (.B c)≠0->c.all leaf=a8):=by
  intro c;cases h:c.all leaf
  .rw[show Q3 (.B c)=0 from(t0 (λb=>if b=a8 then 3 else 0) h:)];exact m0 (by decide) (by decide) λh=>(h rfl).elim
  .rw[show Q3 (.B c)=3 from(t0 (λb=>if b=a8 then 3 else 0) h:)];exact m0 (by decide) (by decide) λk=>rfl
 cases d with
 |int i=>
  cases e with
  |int j=>exact Lq rfl rfl
  |B c=>exact(a.1 f).elim
  |_=>cases f
 |str i=>
  cases e with
  |str j=>exact Lq rfl rfl
  |B c=>exact(a.2.1 f).elim
  |_=>cases f
 |B x=>
  cases e with
  |B y=>exact⟨W7,λh=>by rw[h];exact(io (a.2.2 g) (a.2.2 g)).mpr rfl⟩
  |int j=>exact(a.1 f.symm).elim
  |str j=>exact(a.2.1 f.symm).elim
  |_=>exact(g (by rw[<-f];rfl)).elim
 |_=>exact(g rfl).elim
theorem KG:∀(k:a6){A:B7}{s:f8}{d:b0}{v:b8}{Q:d3->f8->Prop},A.units+k<t3->o3 k d d=a8->V base c n s.heap d v->(∀t,Q (q9 w d) {s with toks:=t})->
 b9 (d7 prog w) A (pyHash v) Q E s:=by
 intro k
 induction k with
 |zero=>
  intro A s d v Q R r g m;cases d with
  |int=>ext d4 g t rfl;exact Wf (m _)
  |str=>ext d4 g t rfl;exact Wh (m _)
  |_=>exact no r
 |succ k X=>
  intro A s d v Q R r g m;cases d with
  |int=>ext d4 g t rfl;exact Wf (m _)
  |str=>ext d4 g t rfl;exact Wh (m _)
  |B S=>
   ext G9 g a P e rfl Y z G;let C:=CO (s:=s) z
   first|unfold pyHashByItsType|skip
   first|refine b5 (wpAny_cRoomFor_or (.inr (q5 (G3 _ _) ‹_›)) ?_)|skip
   refine b5 (HH C F.slot_tuple_hash.lookup (X8 (by rw[beq_builtin_none];exact Ch) (b5 (HH C F.slot_tuple_hash.lookup (b5 (wpAny_callSpecialIfBoundUnlessNone?_slot C kP (Ah kP C F.entry_tuple_hash ?_ (F.args_tuple_hash_1 _))))))));refine(b5 (Pq z rfl ?_):b9 _ _ (iQ (.ref a)>>=_) _ _ s);refine b5 ?_;rw[<-Gn];refine Ft _
    (λf b H=>∃done left,S=done++left/\Vs base c n s.heap left f/\b.toList=CR w done/\∃t,H={s with toks:=t})
    _ ?_ ?_ _ _ ⟨[],S,rfl,G,rfl,s.toks,rfl⟩
   .rintro x f b H T;ext T0 T done left rfl q I u;ext d4 u t rfl;clear m G;cases left with
    |nil=>have:x::f=[]:=q;cases this
    |cons d left=>
     ext o0 q Z r1 J K L;cases J;let M:o3 k d d=a8:=by
      let this:∀(a b:a7 b0),N6 (o3 k) (a++d::b) (a++d::b)=a8->o3 k d d=a8:=by
       intro a
       induction a with
       |nil=>intro b h;exact o6 h
       |cons y a o=>intro b h;exact o b (o5 h)
      exact this done left r
     have N:∀a:a7 b0,CR w (a++[d])=CR w a++[q9 w d]:=by
      intro a
      induction a with
      |nil=>rfl
      |cons y a o=>exact t0 _ o
     refine b5 (X ((Y7 _ 1 _).symm▸R) M K λU=>?_);have B:(∃i j,done++d::left=i++j/\Vs base c n s.heap j f/\(b.push (q9 w d)).toList=CR w i/\∃O,({s with toks:=U})={s with toks:=O}):=
      ⟨done++[d],left,by simp,L,by rw[N,JG,I],U,rfl⟩
     first
      |exact f6 B
      |exact b5 (f6 (f6 B))
   .rintro b H W;ext T0 W done left rfl q I u;ext d4 u t rfl;clear r G;cases left with
    |cons y l=>ext F8 q Z r1 J Y;cases J
    |nil=>
     rw[Y5]at m;refine(?_:b9 _ _ (retInt (JP b.toList)) _ _ _);rw[I];refine lP ?_;have p:∀t,Q (Qk (JP (CR w done))) {s with toks:=t}:=m;unfold Qk at p;by_cases D:(decide (-(2:d3) ^ 63<=JP (CR w done))&&decide (JP (CR w done)<2 ^ 63))=a8
     .exact Fo D (f6 (by have:=p (t+1);rwa [g0 D]at this))
     .exact X8 D (b5 (EN (f6 (by have:=p (t+1);rwa [j4 D]at this))))
  |_=>exact no r
section
variable(w:J3)(base:l5)(c:Cx)(n:a6)(h:l5)
def t5:a7 (b0×b0)->a7 Af->Prop
 |[],es=>es=[]
 |x::xs,es=>∃e r,es=e::r/\V base c n h x.1 e.key/\V base c n h x.2 e.val/\e.hash=q9 w x.1/\t5 xs r
end
def DK(xs:a7 (b0×b0)):Prop:=xs.Pairwise λa b=>l3 a.1 b.1=c8/\l3 b.1 a.1=c8
theorem wK(e:DK xs)(h:Q3 k≠0)(f:xs[j]?=a0 x)(c:x.1=k)(hs:l3 k k=a8):E5 xs k=a0 j:=by unfold E5;refine d4 (FN f) λb d=>?_;rw[a7.findIdx?_eq_some_iff_getElem];refine d0 b (by rw[d,c];exact hs) λi g=>?_;let a:=(List.pairwise_iff_getElem.mp e) i j (b6 ‹_› (m9 ‹_›)) b g;rw[d,c]at a;simp[a.1]
theorem sw(h:∀(j:a6)(x:b0×b0),xs[j]?=a0 x->x.1≠k):E5 xs k=b4:=by
 unfold E5;rw[Mg];intro x a;refine d4 (N2 a) λi b=>d4 b ?_;clear b;clear a;rintro c rfl;cases d:l3 xs[i].1 k with
 |false=>rfl
 |true=>exact(h i _ (by simp[c]) (W7 d)).elim
theorem t5.len:∀{xs:a7 (b0×b0)}{es:a7 Af},t5 w base c n h xs es->es.length=xs.length:=by
 intro d
 induction d with
 |nil=>intro es e;rw[show es=[] from e];rfl
 |cons _ xs f=>intro b a;ext C7 a e r q b b b g;subst q;simp[f g]
theorem t5.get:∀{xs:a7 (b0×b0)}{es:a7 Af},t5 w base c n h xs es->∀(i:a6)(x:b0×b0),xs[i]?=a0 x->∃e,es[i]?=a0 e/\V base c n h x.1 e.key/\V base c n h x.2 e.val/\e.hash=q9 w x.1:=by
 intro f
 induction f with
 |nil=>intro d d i x a;simp at a
 |cons y xs g=>
  intro d b i x a;ext C7 b e r q j k l m;subst q;cases i with
  |zero=>simp only[WX,At]at a;subst a;exact CW e rfl j k l
  |succ i=>simpa using g m i x (by simpa using a)
theorem t5.ext(k:∀b a e,¬c.P b->h.get? b=a0 (x9 a e)->h'.get? b=a0 (x9 a e)):∀{xs:a7 (b0×b0)}{es:a7 Af},t5 w base c n h xs es->t5 w base c n h' xs es:=by
 intro g
 induction g with
 |nil=>intro f e;exact e
 |cons f f i=>intro f d;ext C7 d e r q j l m o;exact U8 e r q (BY k j) (BY k l) m (i o)theorem fN(f:ds.all leaf=a8)(d:V base c n h (.B ds) v):∃a,v= .ref a/\IsTupleKey (W9 prog w) h (ds.map y6) a:=by ext G9 d a b e rfl j g i;exact⟨a,rfl,_,b,e,g,rfl,rfl,ww f i⟩
def Og:b0->a7 SI
 | .B ds=>ds.map y6
 |_=>[]
theorem Xa{d:b0}(h:Q3 d=1\/Q3 d=2):leaf d=a8:=by
 cases d with
 |int i=>rfl
 |str l=>rfl
 |B a=>
  have e:Q3 (.B a)=if a.all leaf then 3 else 0:=rfl
  rw[e]at h;by_cases q:a.all leaf=a8
  .rw[g0 q]at h;rcases h with h|h<;>cases h
  .rw[j4 q]at h;rcases h with h|h<;>cases h
 |_=>rcases h with h|h<;>cases h
theorem Nt(c:Q3 d=3):∃a,d= .B a/\a.all leaf=a8:=by
 cases d with
 |B a=>
  refine d0 a rfl ?_;cases h:a.all leaf with
  |true=>rfl
  |false=>exact nomatch (t0 (λb=>if b=a8 then 3 else 0) h).symm.trans c
 |_=>cases c
theorem eG(c:Q3 d=3)(f:Q3 e=3):Og d=Og e↔d=e:=by refine c9 (Nt c) ?_;clear c;rintro a rfl i;refine c9 (Nt f) ?_;rintro b rfl g;refine(?_:a.map y6=b.map y6↔_);rw[yJ i g];exact⟨λh=>h▸rfl,λh=>by clear f g;cases h;rfl⟩
theorem xT:∀{xs:a7 (b0×b0)}{es:a7 Af},t5 w base c n h xs es->(∀x∈xs,Q3 x.1=3)->
 ∃d:a7 (a7 SI×i7×b8),es=d.map (entryOfKey (Wv (W9 prog w)))/\(∀y∈d,(Wv (W9 prog w)).is h y.1 y.2.1)/\d.map (·.1)=xs.map λx=>Og x.1:=by
 intro p
 induction p with
 |nil=>intro es e s;exact v7 [] (by rw[show es=[] from e];rfl) (by simp) rfl
 |cons x xs t=>
  intro s g l;ext C7 g e r q m C j u;subst q;refine y3 (t u λy f=>l y (k8 _ f)) λd v z A=>c9 (Nt (l x j5)) λB b o=>?_;rw[b]at m;refine c9 (fN (prog:=prog) (w:=w) o m) λa i k=>v7 ((B.map y6,a,e.val)::d) ?_ ?_ ?_
  .rw[y4,v];congr 1;obtain⟨D,E,F⟩:=e;simp only at i j;subst i;rw[b,ZB,aS (prog:=prog) o]at j;rw[j];rfl
  .intro y f;rcases D2 f with rfl|f
   .exact k
   .exact z y f
  .rw[y4,y4,A,b];rfl
theorem Ni(hu:A.units+8<t3)
 (N:s.heap.get? a=a0 (E3 es ep))(G:t5 w base c n s.heap xs es.toList)(Y:DK xs)(O:v8 xs k=a8)(P:V base c n s.heap k key)(H:Q (E5 xs k) s):
 b9 (d7 prog w) A (dictFind a key (q9 w k)) Q E s:=by
 simp only[v8,C2,Mt,V8,Ai]at O;ext k9 O F u;have D:l3 k k=a8:=(Ta F rfl).mpr rfl;have g:leaf k=a8->(∀x∈xs,leaf x.1=a8)->b9 (d7 prog w) A (dictFind a key (q9 w k)) Q E s:=by
  intro B t;rw[<-GT (prog:=prog) B];refine wpAny_dictFind_of (Fa B P) N rfl ?_ ?_
  .intro e T;refine d4 (Array.mem_iff_getElem.mp T) λi Z=>?_;ext d4 Z hi rfl;let K:=t5.len G;have I:i<xs.length:=by rw[<-K];simpa using hi
   refine BS (t5.get G i xs[i] (by simp[I])) λe' L R w0 k4=>?_;let b:e'=es[i]:=by rw[W6]at L;simpa[hi]using L.symm
   subst b;have o:=t xs[i] (EO I);exact d0 (y6 xs[i].1) (Fa o R) (by rw[k4,GT o])
  .let b:(es.findIdx? λe=>(W9 prog w).is (y6 k) e.key)=E5 xs k:=by
    let tl:(es.findIdx? λe=>(W9 prog w).is (y6 k) e.key)=es.toList.findIdx? λe=>(W9 prog w).is (y6 k) e.key:=by clear N G;cases es with|mk l=>exact a7.findIdx?_toArray ..
    rw[tl];let go:∀(xs:a7 (b0×b0))(es:a7 Af),t5 w base c n s.heap xs es->(∀x∈xs,leaf x.1=a8)->(es.findIdx? λe=>(W9 prog w).is (y6 k) e.key)=xs.findIdx? λx=>l3 x.1 k:=by
     intro xs
     induction xs with
     |nil=>intro es e w0;rw[show es=[] from e];rfl
     |cons x xs ih=>
      rintro w0 z1 t;ext C7 z1 e r rfl S h2 M hr;let o:=t x j5;rw[JN,JN,ih r hr λy z=>t y (k8 _ z)];let b:(W9 prog w).is (y6 k) e.key=l3 x.1 k:=by rw[kY (Fa o S) (y6 k),P2,C3,Lq o B,Ts B o];exact UZ
      rw[b]
    exact go xs _ G t
   rw[b];exact H
 cases k with
 |int i=>exact g rfl λx h=>Xa (.inl (u x h))
 |str l=>exact g rfl λx h=>Xa (.inr (u x h))
 |B C=>
  have M:Q3 (.B C)=3:=by
   let b:Q3 (.B C)=if C.all leaf then 3 else 0:=rfl
   rw[b]at F ⊢;split
   .rfl
   .rename_i q;rw[j4 q]at F;exact(F rfl).elim
  have B:C.all leaf=a8:=by refine c9 (Nt M) λb e hb=>?_;cases e;exact hb
  let f:∀x∈xs,Q3 x.1=3:=λx h=>(u x h).trans M;refine c9 (fN (prog:=prog) (w:=w) B P) ?_;clear P g;rintro ka rfl U;refine y3 (xT (prog:=prog) G f) λys L R k3=>?_;rw[ZB,aS (prog:=prog) B];have v:∀(j:a6),(ys[j]?).map (·.1)=(xs[j]?).map λx=>Og x.1:=λj=>by
   rw[<-o7,k3,o7]
  refine wpAny_dictFind_heap (knd:=Wv (W9 prog w)) (k:=C.map y6) (q5 (G3 _ _) ‹_›) U N rfl L R ?_ ?_ ?_
  .rw[k3];unfold pV;rw[Y6];exact Gb (λh z J e=>by
    let b:=(eG (f _ h) (f _ z)).mp e;have S:=(Ta (d:=_) (by rw[f _ z];decide) ((f _ h).trans (f _ z).symm)).mpr b;rw[S]at J;cases J.1) Y
  .intro W;let b:E5 xs (.B C)=b4:=sw λj x h e=>by
    let m:=v j;rw[h]at m;cases z:ys[j]? with
    |none=>rw[z]at m;cases m
    |some y=>rw[z]at m;simp only[Au,At]at m;refine W j y.2 ?_;rw[z,<-show y.1=C.map y6 by rw[m,e];rfl]
   rw[b]at H;exact H
  .intro j p hp;let m:=v j;rw[hp]at m;cases h:xs[j]? with|none=>rw[h]at m;cases m|some x=>rw[h]at m;simp only[Au,At]at m;let X:=p8 h;let e:=(eG (f x X) M).mp m.symm;rw[wK Y F h e D]at H;exact H
 |_=>exact(F rfl).elim
structure Fx where
 w:J3
 M:l5
 cls:j3->i7
 os:HK
 g:i7
 b:i7
 mg:n4->j0 b8
 mb:n4->j0 b8
 fn:j3->j3->i7
section
variable(X:Fx)
def J6(c:Cx)(n:a6)(h:l5):AO->i7->Prop
 | .L xs,a=>∃items e,h.get? a=a0 (AU items e)/\Vs X.M c n h xs items.toList/\xs.length<=j8+1
 | .D es e,a=>∃ents,h.get? a=a0 (E3 ents e)/\t5 X.w X.M c n h es ents.toList/\DK es/\es.length<=j8+1
 | .I cn d,a=>d<n/\h.get? a=a0 (FJ (X.cls cn) (c.κ d))
 | .fld es,a=>∃m,h.Ns1 a m/\(∀f d,es.lookup f=a0 d->∃v,m (nm f)=a0 v/\V X.M c n h d v)/\(∀y,m y≠b4->y∈es.map λe=>nm e.1)/\es.length<=j8+1
structure i8 (c:Cx) (st:St) (s:f8):Prop where
 stays:∀b o,X.M.get? b=a0 o->s.heap.get? b=a0 o
 lo:∀a,a<st.n->X.M.objs.size<=c.κ a
 inj:∀a b,a<st.n->b<st.n->c.κ a=c.κ b->a=b
 obj:∀a,a<st.n->J6 X c st.n s.heap (st.h a) (c.κ a)
 priv:∀a,a<st.n->¬c.P (c.κ a)
 pold:∀b,c.P b->X.M.objs.size<=b/\b<s.heap.objs.size
 gens:s.gens=#[]
 os:s.os=X.os
 three:3<X.M.objs.size
 bsz:X.M.objs.size<=s.heap.objs.size
structure k7 (c:Cx) (st:St) (s:f8) (c':Cx) (st':St) (s':f8) (F:i7->Prop):Prop where
 n:st.n<=st'.n
 aG:∀a,a<st.n->c'.κ a=c.κ a
 P:c'.P=c.P
 keep:∀b o,s.heap.get? b=a0 o->(∀a,a<st.n->c.κ a≠b)->¬F b->s'.heap.get? b=a0 o
 new:∀a,st.n<=a->a<st'.n->s.heap.objs.size<=c'.κ a
 size:s.heap.objs.size<=s'.heap.objs.size
end
def y5:i7->Prop:=λw0=>k6
section
variable{X:Fx}{c:Cx}{st:St}
theorem k7.refl:k7 c st s c st s F:=⟨l8 _,λa a=>rfl,rfl,λa a e a a=>e,λa b d=>FB d b,l8 _⟩
theorem k7.trans(x:k7 c st s c' st' s' F)(y:k7 c' st' s' c'' st'' s'' F):k7 c st s c'' st'' s'' F:=
 ⟨b6 x.n y.n,λa d=>(y.aG a (j7 d x.n)).trans (x.aG a d),y.P.trans x.P,
  λb o e f g=>y.keep b o (x.keep b o e f g) (λa d=>by
   by_cases h:a<st.n
   .rw[x.aG a h];exact f a h
   .exact L0 (j7 (C4 e) (x.new a (Bm ‹_›) d))) g,
  λa i j=>by
   by_cases h:a<st'.n
   .rw[y.aG a h];exact x.new a i h
   .exact b6 x.size (y.new a (Bm ‹_›) j),
  b6 x.size y.size⟩
theorem k7.z(x:k7 c st s c' st' s' F)(h:∀b,F b->F' b):k7 c st s c' st' s' F':=
 ⟨x.n,x.aG,x.P,λb o a d e=>x.keep b o a d λq=>e (h b q),x.new,x.size⟩
theorem k7.narrow(x:k7 c st s c' st' s' F)(h:∀b,F b->s.heap.objs.size<=b):k7 c st s c' st' s' F':=
 ⟨x.n,x.aG,x.P,λb o a d e=>x.keep b o a d λq=>(P9 (h b q) (C4 a)).elim,x.new,x.size⟩
theorem i8.noTup(R:i8 X c st s)(ha:a<st.n):s.heap.get? (c.κ a)≠a0 (x9 items e):=by
 intro h;let b:=R.obj a ha;cases hs:st.h a with
 |L xs=>rw[hs]at b;ext F8 b w0 w0 h1 w0;rw[h]at h1;injection h1 with q;injection q with q;injection q with q;exact u6 q (by decide)
 |D es ep=>rw[hs]at b;ext c9 b w0 h1 w0;rw[h]at h1;injection h1 with q;injection q with q;injection q with q;exact u6 q (by decide)
 |I cn d=>rw[hs]at b;ext1 b w0 h1;rw[h]at h1;injection h1 with q;injection q with q;cases q
 |fld es=>rw[hs]at b;ext c9 b w0 z1 w0;ext FM z1 o es ep h1 h2 w0;rw[h]at h1;injection h1 with q;subst q;cases h2
theorem k7.tups(R:i8 X c st s)(x:k7 c st s c' st' s' F)(g:∀b,F b->c.P b\/s.heap.objs.size<=b):
 ∀b d e,¬c.P b->s.heap.get? b=a0 (x9 d e)->s'.heap.get? b=a0 (x9 d e):=λb d e i f=>
 x.keep b _ f (λa j q=>R.noTup j (q▸f)) λq=>(g b q).elim i λh=>(P9 h (C4 f)).elim
mutual
theorem Hg(g:n<=n')(i:∀a,a<n->c'.κ a=c.κ a)(j:∀a,a<h.objs.size->¬c.P a->¬c'.P a):∀{d:b0}{v:b8},V base c n h d v->V base c' n' h d v
 | .none,_,x=>x
 | .bool _,_,x=>x
 | .int _,_,x=>x
 | .str _,_,x=>x
 | .B _,_,b=>by ext G9 b a f e q p o r;exact BQ a f e q (j a (C4 o) p) o (OF g i j r)
 | .ref a,_,b=>by ext k9 b k l;exact⟨j7 k g,by rw[l,i a k]⟩
 | .ro _,_,x=>x
theorem OF(d:n<=n')(f:∀a,a<n->c'.κ a=c.κ a)(g:∀a,a<h.objs.size->¬c.P a->¬c'.P a):∀{i:a7 b0}{vs:a7 b8},Vs base c n h i vs->Vs base c' n' h i vs
 |[],_,x=>x
 |_::_,_,b=>by ext o0 b v r e j k;exact E8 v r e (Hg d f g j) (OF d f g k)
end
theorem wF(f:n<=n')(g:∀a,a<n->c'.κ a=c.κ a)(i:∀a,a<h.objs.size->¬c.P a->¬c'.P a):∀{xs:a7 (b0×b0)}{es:a7 Af},t5 w base c n h xs es->t5 w base c' n' h xs es:=by
 intro j
 induction j with
 |nil=>intro d x;exact x
 |cons d d k=>intro d b;ext C7 b e r q l m o p;exact U8 e r q (Hg f g i l) (Hg f g i m) o (k p)
theorem k7.V(R:i8 X c st s)(x:k7 c st s c' st' s' F)(h:∀b,F b->c.P b\/s.heap.objs.size<=b)(i:V X.M c st.n s.heap d v):V X.M c' st'.n s'.heap d v:=
 BY (λb f e g=>x.tups R h b f e (by rw[x.P]at g;exact g)) (Hg x.n x.aG (λa j=>by rw[x.P];exact id) i)
theorem k7.Vs(R:i8 X c st s)(x:k7 c st s c' st' s' F)(h:∀b,F b->c.P b\/s.heap.objs.size<=b)(i:Vs X.M c st.n s.heap d v):Vs X.M c' st'.n s'.heap d v:=
 Y8 (λb f e g=>x.tups R h b f e (by rw[x.P]at g;exact g)) (OF x.n x.aG (λa j=>by rw[x.P];exact id) i)
theorem To(k:∀b items e,¬c.P b->h.get? b=a0 (x9 items e)->h'.get? b=a0 (x9 items e))(ha:∀x,h.get? a=a0 x->h'.get? a=a0 x)(x:J6 X c n h o a):J6 X c n h' o a:=by
 cases o with
 |L xs=>ext o0 x items e h1 h2 h3;exact E8 items e (ha _ h1) (Y8 k h2) h3
 |D es ep=>ext1 x ents h1 h2 h3;exact v7 ents (ha _ h1) (t5.ext k h2) h3
 |I cn d=>exact⟨x.1,ha _ x.2⟩
 |fld es=>ext y3 x m h1 h2 h3;exact v7 m (h1.at ha) (λf d e=>c9 (h2 f d e) λv a b=>d0 v a (BY k b)) h3
theorem bT(hn:n<=n')(hk:∀a,a<n->c'.κ a=c.κ a)(hp:∀a,a<h.objs.size->¬c.P a->¬c'.P a)(x:J6 X c n h o a):J6 X c' n' h o a:=by
 cases o with
 |L xs=>ext o0 x items e h1 h2 h3;exact E8 items e h1 (OF hn hk hp h2) h3
 |D es ep=>ext1 x ents h1 h2 h3;exact v7 ents h1 (wF hn hk hp h2) h3
 |I cn d=>exact⟨j7 x.1 hn,by rw[hk d x.1];exact x.2⟩
 |fld es=>ext y3 x m h1 h2 h3;exact v7 m h1 (λf d e=>c9 (h2 f d e) λv a b=>d0 v a (Hg hn hk hp b)) h3
theorem i8.keep(R:i8 X c st s)(k:∀b o,s.heap.get? b=a0 o->¬c.P b->s'.heap.get? b=a0 o)(hz:s.heap.objs.size<=s'.heap.objs.size)(g:s'.gens=s.gens)(h:s'.os=s.os):i8 X c st s' where
 stays b o d:=k b o (R.stays b o d) λq=>(P9 (R.pold b q).1 (C4 d)).elim
 lo:=R.lo
 inj:=R.inj
 obj a ha:=To (λb f e i d=>k b _ d i) (λx j=>k _ x j (R.priv a ha)) (R.obj a ha)
 priv:=R.priv
 pold b d:=⟨(R.pold b d).1,j7 (R.pold b d).2 hz⟩
 gens:=g.trans R.gens
 os:=h.trans R.os
 three:=R.three
 bsz:=b6 R.bsz hz
theorem i8.ext(R:i8 X c st s)(x:Ext s.heap s'.heap)(a:s'.gens=s.gens)(d:s'.os=s.os):i8 X c st s':=R.keep (λb o e f=>x.2 b o e) x.1 a d
theorem k7.ext(x:Ext s.heap s'.heap):k7 c st s c st s' F:=⟨l8 _,λa a=>rfl,rfl,λb o d a a=>x.2 b o d,λa e f=>FB f e,x.1⟩def Cx.add(c:Cx)(n:a6)(x:i7):Cx:=⟨λa=>if a=n then x else c.κ a,c.P⟩theorem Cx.o(h:a<n):(c.add n x).κ a=c.κ a:=by simp[Cx.add,m6 h]theorem Cx.p:(c.add n x).κ n=x:=by simp[Cx.add]
theorem i8.A(R:i8 X c st s)(hx:s.heap.objs.size<=x)(he:Ext s.heap s'.heap)(hg:s'.gens=s.gens)(hos:s'.os=s.os)(ho:J6 X c st.n s'.heap o x):i8 X (c.add st.n x) (st.A o) s':=by
 have R':=R.ext he hg hos;have hxs:∀a,a<st.n->c.κ a≠x:=λa ha q=>by
  let f:=R.obj a ha;let hlt:c.κ a<s.heap.objs.size:=by
   cases hs:st.h a with
   |L xs=>rw[hs]at f;ext F8 f w0 w0 h1 w0;exact C4 h1
   |D es ep=>rw[hs]at f;ext c9 f w0 h1 w0;exact C4 h1
   |I cn d=>rw[hs]at f;ext1 f w0 h1;exact C4 h1
   |fld es=>rw[hs]at f;ext c9 f w0 z2 w0;ext Em z2 w0 w0 w0 h1 w0;exact C4 h1
  rw[q]at hlt;exact(P9 hx hlt).elim
 have up:∀{o:AO}{y:i7},J6 X c st.n s'.heap o y->J6 X (c.add st.n x) (st.n+1) s'.heap o y:=λh=>bT (N8 _) (λa ha=>Cx.o ha) (λw0 w0=>id) h;have split:∀a,a<st.n+1->a<st.n\/a=st.n:=λa ha=>nS (v0 ha);refine{stays:=R'.stays,lo:=?_,inj:=?_,obj:=?_,priv:=?_,pold:=R'.pold,gens:=R'.gens,os:=R'.os,three:=R'.three,bsz:=R'.bsz}
 .intro a ha;rcases split a ha with h|rfl
  .rw[Cx.o h];exact R.lo a h
  .rw[Cx.p];exact b6 R.bsz hx
 .intro a b ha hb e;rcases split a ha with h|rfl<;>rcases split b hb with h'|rfl
  .rw[Cx.o h,Cx.o h']at e;exact R.inj a b h h' e
  .rw[Cx.o h,Cx.p]at e;exact(hxs a h e).elim
  .rw[Cx.p,Cx.o h']at e;exact(hxs b h' e.symm).elim
  .rfl
 .intro a ha;rcases split a ha with h|rfl
  .rw[Cx.o h];let f:(st.A o).h a=st.h a:=by simp[St.A,m6 h]
   rw[f];exact up (R'.obj a h)
  .rw[Cx.p];let f:(st.A o).h st.n=o:=by simp[St.A]
   rw[f];exact up ho
 .intro a ha;rcases split a ha with h|rfl
  .rw[Cx.o h];exact R.priv a h
  .rw[Cx.p];exact λq=>(P9 hx (R.pold x q).2).elim
theorem k7.A(R:i8 X c st s)(g:s.heap.objs.size<=x)(d:Ext s.heap s'.heap):k7 c st s (c.add st.n x) (st.A o) s' F:=
 ⟨N8 _,λa h=>Cx.o h,rfl,λb o i j j=>d.2 b o i,λa e f=>by
  have k:a=st.n:=by have k:a<st.n+1:=f;exact AL (v0 k) e
  clear e f;subst k;rw[Cx.p];exact g,d.1⟩
theorem i8.put(R:i8 X c st s)(f:a<st.n)(k:∀b x,s.heap.get? b=a0 x->b≠c.κ a->s'.heap.get? b=a0 x)(hz:s.heap.objs.size<=s'.heap.objs.size)(l:s'.gens=s.gens)(i:s'.os=s.os)
 (m:J6 X c st.n s'.heap o (c.κ a)):i8 X c (st.set a o) s' where
 stays b x hb:=k b x (R.stays b x hb) λq=>u6 (C4 hb) (by rw[q];exact P9 (R.lo a f))
 lo:=R.lo
 inj:=R.inj
 obj b hb:=by
  by_cases h:b=a
  .clear f k hb;subst h;let d:(st.set b o).h b=o:=by simp[St.set]
   rw[d];exact m
  .let d:(st.set a o).h b=st.h b:=by simp[St.set,h]
   rw[d];exact To (λx j e n g=>k x _ g λq=>R.noTup f (q▸g)) (λx g=>k _ x g (λq=>h (R.inj b a hb f q):c.κ b≠c.κ a)) (R.obj b hb)
 priv:=R.priv
 pold b hb:=⟨(R.pold b hb).1,j7 (R.pold b hb).2 hz⟩
 gens:=l.trans R.gens
 os:=i.trans R.os
 three:=R.three
 bsz:=b6 R.bsz hz
theorem k7.put(e:a<st.n)(k:∀b x,s.heap.get? b=a0 x->b≠c.κ a->s'.heap.get? b=a0 x)(hz:s.heap.objs.size<=s'.heap.objs.size):k7 c st s c (st.set a o) s' F:=
 ⟨l8 _,λd d=>rfl,rfl,λb x f g d=>k b x f λq=>g a e q.symm,λd h i=>by have j:_<st.n:=i;exact FB j h,hz⟩
end
section
variable(X:Fx)
inductive j6 (c:Cx) (st:St) (s:f8) (F:i7->Prop) (Q:Q1) (v:b8) (s':f8):Prop
 |mk (d st' c') (q:Q d st') (R:i8 X c' st' s') (v:V X.M c' st'.n s'.heap d v) (S:k7 c st s c' st' s' F)
end
end Internal
namespace Internal
theorem Ys{h a1 a2 i j k l:Sort _}{m n o p q r s:h->a1->a2->i->j->k->l->Prop}(a:h)(b:a1)(c:a2)(d:i)(e:j)(f:k)(g:l)(t:m a b c d e f g)(u:n a b c d e f g)(v:o a b c d e f g)(w:p a b c d e f g)(x:q a b c d e f g)(y:r a b c d e f g)(z:s a b c d e f g):∃a,∃b,∃c,∃d,∃e,∃f,∃g,m a b c d e f g/\n a b c d e f g/\o a b c d e f g/\p a b c d e f g/\q a b c d e f g/\r a b c d e f g/\s a b c d e f g:=⟨a,b,c,d,e,f,g,t,u,v,w,x,y,z⟩
open PySem PySem.W PyProof.Rows
def t9:b8->f8->Prop:=λw0 w0=>k6
section
variable{X:Fx}{c c':Cx}{st st':St}{s s' s'':f8}{F:i7->Prop}{Q:Q1}{d:b0}{v:b8}
theorem V.int(i:d3)(t:Dm):V base c n h (.int i) (.int i t):=⟨t,rfl⟩theorem V.str(l:a7 a6)(t:Dm):V base c n h (.str l) (.str (C9 l) t):=⟨t,rfl⟩theorem V.B(b:¬c.P a)(d:h.get? a=a0 (x9 items e))(f:Vs base c n h ds items.toList):V base c n h (.B ds) (.ref a):=BQ a items e rfl b d f
theorem J6.L(b:h.get? a=a0 (AU items e))(d:Vs X.M c n h xs items.toList)(hz:xs.length<=j8+1):J6 X c n h (.L xs) a:=E8 items e b d hz
theorem J6.D(b:h.get? a=a0 (E3 items e))(d:t5 X.w X.M c n h xs items.toList)(f:DK xs)(hz:xs.length<=j8+1):J6 X c n h (.D xs e) a:=CW items b d f hz
theorem j6.U(R:i8 X c st s)(a:V X.M c st.n s.heap d v)(b:Q d st):j6 X c st s F Q v s:=⟨d,st,c,b,R,a,k7.refl⟩
theorem j6.toks(R:i8 X c st s)(a:V X.M c st.n s.heap d v)(b:Q d st):j6 X c st s F Q v {s with toks:=t}:=
 ⟨d,st,c,b,R.ext (Ext.refl _) rfl rfl,a,k7.ext (Ext.refl _)⟩
theorem j6.ext(R:i8 X c st s)(a:Ext s.heap s'.heap)(b:s'.gens=s.gens)(e:s'.os=s.os)(f:V X.M c st.n s'.heap d v)(g:Q d st):j6 X c st s F Q v s':=
 ⟨d,st,c,g,R.ext a b e,f,k7.ext a⟩theorem j6.after(x:k7 c st s c' st' s' F)(p:j6 X c' st' s' F Q v s''):j6 X c st s F Q v s'':=by obtain⟨d,a,b,e,R,f,g⟩:=p;exact⟨d,a,b,e,R,f,x.trans g⟩
theorem j6.new(R:i8 X c st s)(b:s.heap.objs.size<=x)(d:Ext s.heap s'.heap)(e:s'.gens=s.gens)(a:s'.os=s.os)(f:J6 X c st.n s'.heap o x)
 (g:Q (.ref st.n) (st.A o)):j6 X c st s F Q (.ref x) s':=
 ⟨.ref st.n,st.A o,c.add st.n x,g,R.A b d e a f,⟨B8 _,by rw[Cx.p]⟩,k7.A R b d⟩
theorem Te:∀{f:a7 b0}{vs:a7 b8},Vs base c n h f vs->V base c n h d v->Vs base c n h (f++[d]) (vs++[v]):=by
 intro g
 induction g with
 |nil=>intro i e b;rw[show _=[] from e];exact E8 v [] rfl b rfl
 |cons _ _ j=>intro i a b;ext o0 a u r e k l;exact E8 u (r++[v]) (by rw[e];rfl) k (j l b)
theorem Se:∀{f es:a7 b0}{vs us:a7 b8},Vs base c n h f vs->Vs base c n h es us->Vs base c n h (f++es) (vs++us):=by
 intro g
 induction g with
 |nil=>intro a a a e d;rw[show _=[] from e];exact d
 |cons _ _ i=>intro a a a b d;ext o0 b u r e j k;exact E8 u (r++_) (by rw[e];rfl) j (i k d)
theorem j6.list(R:i8 X c st s)(b:Vs X.M c st.n s.heap ds vs.toList)(hz:ds.length<=j8+1)(d:Q (.ref st.n) (st.A (.L ds))):
 j6 X c st s F Q (.ref s.heap.objs.size) {s with heap:=s.heap.push (AU vs 0)}:=
 j6.new R (l8 _) (Ext.push _ _) rfl rfl (J6.L (y9 _ rfl) (Y8 (λa a a a=>(Ext.push _ _).2 _ _) b) hz) d
theorem Sw(R:i8 X c st s):¬c.P s.heap.objs.size:=λh=>(U4 _ (R.pold _ h).2).elim
theorem j6.B(R:i8 X c st s)(b:Vs X.M c st.n s.heap ds vs.toList)(d:Q (.B ds) st):
 j6 X c st s F Q (.ref s.heap.objs.size) {s with heap:=s.heap.push (x9 vs 0)}:=
 j6.ext R (Ext.push _ _) rfl rfl (V.B (Sw R) (y9 _ rfl) (Y8 (λa a a a=>(Ext.push _ _).2 _ _) b)) d
theorem i8.list(R:i8 X c st s)(f:V X.M c st.n s.heap d v)(h:st.list? d=a0 xs):
 ∃a b e,d= .ref a/\a<st.n/\st.h a= .L xs/\v= .ref (c.κ a)/\s.heap.get? (c.κ a)=a0 (AU b e)/\Vs X.M c st.n s.heap xs b.toList/\xs.length<=j8+1:=by
 revert f;refine sf (d:=d) h ?_;intro a i j f;let g:=R.obj a i;rw[j]at g;ext o0 g b e k l m;exact⟨a,b,e,rfl,i,j,f.2,k,l,m⟩
theorem i8.dict(R:i8 X c st s)(i:V X.M c st.n s.heap d v)(h:st.dict? d=a0 xs):
 ∃a b e,d= .ref a/\a<st.n/\st.h a= .D xs e/\v= .ref (c.κ a)/\s.heap.get? (c.κ a)=a0 (E3 b e)/\t5 X.w X.M c st.n s.heap xs b.toList/\DK xs/\xs.length<=j8+1:=by
 revert i;refine lv (d:=d) h ?_;intro a p j k i;let f:=R.obj a j;rw[k]at f;ext1 f g l m n o;exact⟨a,g,p,rfl,j,k,i.2,l,m,n,o⟩
theorem i8.I(R:i8 X c st s)(b:V X.M c st.n s.heap d v)(h:st.inst? d=a0 (cn,e)):
 ∃a,d= .ref a/\a<st.n/\st.h a= .I cn e/\e<st.n/\v= .ref (c.κ a)/\s.heap.get? (c.κ a)=a0 (FJ (X.cls cn) (c.κ e)):=by
 revert b;refine eb (d:=d) h ?_;intro a f g j b;let i:=R.obj a f;rw[g]at i;exact⟨a,rfl,f,g,j,b.2,i.2⟩
theorem i8.items(R:i8 X c st s)(g:V X.M c st.n s.heap d v)(h:st.items? d=a0 xs):
 ∃a f e,v= .ref a/\Vs X.M c st.n s.heap xs f.toList/\(s.heap.get? a=a0 (x9 f e)/\¬c.P a/\d= .B xs\/∃b,d= .ref b/\b<st.n/\a=c.κ b/\st.h b= .L xs/\s.heap.get? a=a0 (AU f e)/\xs.length<=j8+1):=by
 by_cases i:∃o,d= .B o
 .ext d4 i o rfl;cases C5 h;ext G9 g a f e j k l m;exact⟨a,f,e,j,m,.inl (m0 l k rfl)⟩
 .let p:st.list? d=a0 xs:=by clear g;cases d<;>first|exact h|(exact(i ⟨_,rfl⟩).elim)
  refine M6 (R.list g p) λa f e j k l m q n=>?_;ext1 n r t;exact⟨_,f,e,m,r,.inr ⟨a,j,k,rfl,l,q,t⟩⟩
end
def Je:Ed->Wa
 | .add=>.Add| .sub=>.Sub| .mul=>.Mult| .fdiv=>.FloorDiv| .mod=>.Mod
section
variable{prog:A5}{X:Fx}{A:B7}{E:qVS}{c:Cx}{st:St}{s:f8}{F:i7->Prop}{Q:Q1}
theorem zE(x y:a7 a6):C9 x++C9 y=C9 (x++y):=by refine(?_:(⟨(C9 x).cps++(C9 y).cps⟩:n4)=_);simp[C9]theorem Nk(x:a7 a6):(C9 x).length=x.length:=by simp[C9,n4.length]theorem xa{y:d3}(h:0<y/\y<=10000000):y.natAbs<1073741824:=by obtain⟨n,rfl⟩:=Pd (Gv h.1);exact q5 (Int.ofNat_le.mp h.2) (by decide)
theorem uu(h:x.natAbs<=1000000):e_ x<=64:=by
 cases x with
 |ofNat n=>exact oY (oG (by decide) (JQ n)) (DT (Fe (a:=n) (b:=1000000) h) (by decide))
 |negSucc n=>exact oY (oG (by decide) (d3.neg_le_neg (Fe (a:=n+1) (b:=1000000) h))) (Vc (d3.negSucc_lt_zero n) (by decide))
theorem yZ{o:Ed}{a:b0}{va:b8}(R:i8 X c st s)(ha:V X.M c st.n s.heap a va)(hb:V X.M c st.n s.heap b vb)(h:o8 (V3 o a b st) Q):
 b9 (d7 prog X.w) A (MB (Je o) va vb) (j6 X c st s F Q) E s:=by
 cases a with
 |int x=>
  cases b with
  |int y=>
   ext d4 ha t rfl;ext d4 hb u rfl;cases o with
   |add=>exact P.add_int (j6.toks R (V.int _ _) h)
   |sub=>exact P.sub_int (j6.toks R (V.int _ _) h)
   |mul=>let zz:=Ek h;ext1 zz hz h;exact P.mul_int (j6.toks R (V.int _ _) h) (zy (uu hz.1))
   |fdiv=>let zz:=Ek h;ext1 zz hz h;exact floordiv_int (dT hz) (j6.toks R (V.int _ _) h) (.inl (G_ (xa hz)))
   |mod=>let zz:=Ek h;ext1 zz hz h;exact mod_int' (dT hz) (j6.toks R (V.int _ _) h)
  |_=>exact h.elim
 |str x=>
  cases b with
  |str y=>
   ext d4 ha t rfl;ext d4 hb u rfl;refine TP (P:=λo=>b9 _ A (MB (Je o) _ _) _ E s) h λh=>?_;let zz:=Ek h;ext1 zz hz h;refine P.add_str ?_;by_cases h0:((C9 x).length==0)=a8
   .rw[g0 h0];rw[Ai,Nk,oK]at h0;clear hz;subst h0;exact j6.U R (V.str _ _) h
   rw[j4 h0];by_cases h0:((C9 y).length==0)=a8
   .rw[g0 h0];rw[Ai,Nk,oK]at h0;clear hz;subst h0;rw[Y5]at h;exact j6.U R (V.str _ _) h
   rw[j4 h0,zE];exact⟨by rw[Nk,u7,O3];unfold j8 at hz;exact p6,j6.toks R (V.str _ _) h⟩
  |_=>exact h.elim
 |B x=>
  cases b with
  |B y=>
   refine TP (P:=λo=>b9 _ A (MB (Je o) _ _) _ E s) h λh=>?_;let zz:=Ek h;ext1 zz hz h;refine G9 (id ha) ?_;rintro p xs e1 rfl hp ho1 hv1;refine G9 (id hb) ?_;rintro q ys e2 rfl hq ho2 hv2;have l1:=Vs.length hv1;have l2:=Vs.length hv2;have one:∀{S:PySem.Spec},MK (Builtin.«tuple.__add__» ⟨[.ref p,.ref q],[]⟩) S->S A (wants (j6 X c st s F Q) E) s->b9 (d7 prog X.w) A (MB .Add (.ref p) (.ref q)) (j6 X c st s F Q) E s:=
    λm hs=>concat_meets (d0 _ ho1 rfl) (d0 _ ho2 rfl) noFill_tuple_add seq_tuple_add q_ C_ (xo _ _) m hs
   by_cases h1:xs.isEmpty=a8
   .refine one (D' p xs e1 q ys e2 h1) (m0 ho1 ho2 ?_);let d:x=[]:=by
     rw[iY]at h1;clear ho1;subst h1;clear hz h ha l1;clear h;cases x with
     |nil=>rfl
     |cons=>ext F8 hv1 w0 w0 e w0;cases e
    clear hz ha hv1 l1;subst d;exact j6.U R hb h
   .by_cases h2:ys.isEmpty=a8
    .refine one (E_ p xs e1 q ys e2 h1 h2) (m0 ho1 ho2 ?_);let d:y=[]:=by
      rw[iY]at h2;clear ho2;subst h2;clear hz h hb l2;clear h;cases y with
      |nil=>rfl
      |cons=>ext F8 hv2 w0 w0 e w0;cases e
     clear hz hb hv2 l2;subst d;rw[Y5]at h;exact j6.U R ha h
    .refine P.add_tuple ho1 ho2 h1 h2 (j6.B R (by rw[Wt];exact Se hv1 hv2) h) ?_;rw[A0]at l1 l2;rw[l1,l2,O3];unfold j8 at hz;exact p6
  |_=>exact h.elim
 |ref x=>
  cases b with
  |ref y=>refine TP (P:=λo=>b9 _ A (MB (Je o) _ _) _ E s) h λh=>c9 (eA h) λxs hx h=>c9 (eA h) λys hy h=>?_;let zz:=Ek h;ext1 zz hz h;refine M6 (R.list ha hx) ?_;clear ha;rintro a i1 e1 w0 w0 w0 rfl ho1 rr;ext k9 rr hv1 hl1;refine M6 (R.list hb hy) ?_;clear hb;rintro b i2 e2 w0 w0 w0 rfl ho2 rr;ext k9 rr hv2 hl2;refine P.add_list ho1 ho2 (j6.list R (by rw[Wt];exact Se hv1 hv2) (by rw[u7];exact U6 ‹_›) h) ?_;have l1:=Vs.length hv1;have l2:=Vs.length hv2;rw[A0]at l1 l2;rw[l1,l2,O3];unfold j8 at hz;exact p6
  |_=>exact h.elim
 |_=>exact h.elim
end
end Internal
namespace Internal
open PySem PySem.W PyProof.Rows PySem.SeqAt
theorem gO(k:a6)(b:A.units+k<t3)(f:o3 k d e=a8)(g:V base c n s.heap d v)(h:V base c n s.heap e u):EqAt A s v u (l3 d e):=
 λa w E Q i=>Kf k b f g h i
theorem gU:∀(x y:a7 b0)(e:a6->b7),(∀j,j<x.length->j<y.length->e j=l3 (x.getD j .none) (y.getD j .none))->
 ((p0 (min x.length y.length)).all e&&x.length==y.length)=W5 x y:=by
 intro i
 induction i with
 |nil=>
  intro c;cases c with
  |nil=>intro e f;rfl
  |cons _ _=>intro e f;rfl
 |cons a x k=>
  intro c;cases c with
  |nil=>intro e f;rfl
  |cons b y=>
   intro e h;let g:=h 0 (M7 _) (M7 _);refine(?_:_=(l3 a b&&W5 x y));rw[<-(k y (λj=>e (j+1)) λj l m=>by simpa using h (j+1) (by simpa using l) (by simpa using m))];simp only[N9,a6.add_min_add_right,iL,LN,qM];simp only[a7.getD_cons_zero]at g;rw[g];let d:(x.length+1==y.length+1)=(x.length==y.length):=by rw[P2];simp
   rw[d,b7.and_assoc];rfl
theorem ai:∀{x y:a7 b0},N6 f x y=a8->∀j,j<x.length->j<y.length->f (x.getD j .none) (y.getD j .none)=a8:=by
 intro g
 induction g with
 |nil=>intro a a a b a;exact(X1 _ b).elim
 |cons _ _ i=>
  intro d;cases d with
  |nil=>intro a a a c;exact(X1 _ c).elim
  |cons _ _=>
   intro h e;cases e with
   |zero=>intro a a;exact o6 h
   |succ j=>intro b c;exact i (o5 h) j (nK b) (nK c)
theorem Ow{k:a6}{x y:a7 b0}{xs ys:l4 b8}(l:A.units+k<t3)(hz:N6 (o3 k) x y=a8)(f:Vs base c n s.heap x xs.toList)(g:Vs base c n s.heap y ys.toList):
 ∀j a(b:j<ys.size),EqAt A s xs[j] ys[j] (l3 (x.getD j .none) (y.getD j .none)):=by
 intro j a b;let d:=Vs.length f;let e:=Vs.length g;rw[A0]at d e;let h:=Iu f j (Hm a d);let i:=Iu g j (Hm b e);rw[(by simp[a]:xs.toList.getD j .none=xs[j])]at h;rw[(by simp[b]:ys.toList.getD j .none=ys[j])]at i;exact gO k l (ai hz j (Hm a d) (Hm b e)) h i
theorem tI{k:a6}{a b:i7}{x y:a7 b0}{xs ys:l4 b8}{p q:a6}(g:A.units+1+k<t3)(h:s.heap.get? a=a0 (x9 xs p))(i:s.heap.get? b=a0 (x9 ys q))
 (hz:N6 (o3 k) x y=a8)(e:Vs base c n s.heap x xs.toList)(f:Vs base c n s.heap y ys.toList):RcAt A s (.ref a) (.ref b) (W5 x y)/\RcNeAt A s (.ref a) (.ref b) (!W5 x y):=by
 let l:=Vs.length e;let m:=Vs.length f;rw[A0]at l m;let d:=gU x y (λj=>l3 (x.getD j .none) (y.getD j .none)) λo o o=>rfl;rw[<-l,<-m]at d;refine⟨?_,?_⟩
 .rw[<-d];exact RcAt.tuples ⟨_,h,rfl,_,rfl⟩ ⟨_,i,rfl,_,rfl⟩ (Jd g) (Ow (A:=A.in1) (k:=k) (by refine(?_:A.units+1+k<t3);assumption) hz e f)
 .rw[<-d];exact RcNeAt.tuples ⟨_,h,rfl,_,rfl⟩ ⟨_,i,rfl,_,rfl⟩ (Jd g) (Ow (A:=A.in1) (k:=k) (by refine(?_:A.units+1+k<t3);assumption) hz e f)
theorem lf{k:a6}{a b:i7}{x y:a7 b0}{xs ys:l4 b8}{q r:a6}(f:A.units+1+k<t3)(g:s.heap.get? a=a0 (AU xs q))(h:s.heap.get? b=a0 (AU ys r))
 (hz:N6 (o3 k) x y=a8)(i:Vs base c n s.heap x xs.toList)(l:Vs base c n s.heap y ys.toList):RcAt A s (.ref a) (.ref b) (W5 x y)/\RcNeAt A s (.ref a) (.ref b) (!W5 x y):=by
 let m:=Vs.length i;let o:=Vs.length l;rw[A0]at m o;let d:=gU x y (λj=>l3 (x.getD j .none) (y.getD j .none)) λp p p=>rfl;rw[<-m,<-o]at d;by_cases e:xs.size=ys.size
 .rw[e,a6.min_self,<-e]at d;simp only[CK,b7.and_true]at d;refine⟨?_,?_⟩
  .rw[<-d];exact RcAt.lists ⟨_,g,rfl,_,rfl⟩ ⟨_,h,rfl,_,rfl⟩ e (Jd f) (Ow (A:=A.in1) (k:=k) (by refine(?_:A.units+1+k<t3);assumption) hz i l)
  .rw[<-d];exact RcNeAt.lists ⟨_,g,rfl,_,rfl⟩ ⟨_,h,rfl,_,rfl⟩ e (Jd f) (Ow (A:=A.in1) (k:=k) (by refine(?_:A.units+1+k<t3);assumption) hz i l)
 .let t:W5 x y=c8:=by rw[<-d];simp[e]
  rw[t];exact⟨RcAt.lists_lengths ⟨_,g,rfl,_,rfl⟩ ⟨_,h,rfl,_,rfl⟩ (by simpa using e) (Jd f),RcNeAt.lists_lengths ⟨_,g,rfl,_,rfl⟩ ⟨_,h,rfl,_,rfl⟩ (by simpa using e) (Jd f)⟩theorem db(x y:a7 a6):(C9 x==C9 y)=(x==y):=by rw[P2,Ai,Ai];exact⟨Np,λe=>by rw[e]⟩
theorem fv(h:A.units+k+1<t3)(i:o3 k d e=a8)(f:V base c n s.heap d v)(g:V base c n s.heap e u):
 RcAt A s v u (l3 d e)/\RcNeAt A s v u (!l3 d e):=by
 revert h f g;refine Fd i (λa b h f g=>?_) (λa b h f g=>?_) λk a b i h f g=>?_
 .ext d4 f t rfl;ext d4 g u rfl;exact⟨RcAt.int_int _ _ _ _,RcNeAt.int_int _ _ _ _⟩
 .ext d4 f t rfl;ext d4 g u rfl;rw[show l3 (.str a) (.str b)=_ from(db ..).symm];exact⟨RcAt.str_str _ _ _ _,RcNeAt.str_str _ _ _ _⟩
 .ext G9 f a q r rfl p j l;ext G9 g b w x rfl p m o;exact tI (k:=k) (sn h) j m i l o
section
variable{X:Fx}{st:St}
theorem Xb(t:A.units+6<t3)(R:i8 X c st s)(w:V X.M c st.n s.heap a v)(x:V X.M c st.n s.heap b u)(h:Bk st a b=a0 r):
 RcAt A s v u r/\RcNeAt A s v u (!r):=by
 have f:Us a b=a0 r->RcAt A s v u r/\RcNeAt A s v u (!r):=λh=>by
  refine k9 (V0 h) λg h=>?_;cases h;exact fv (k:=3) (gD t rfl) g w x
 unfold Bk at h;cases i:st.list? a with
 |none=>rw[i]at h;exact f h
 |some y=>
  rw[i]at h;cases j:st.list? b with
  |none=>rw[j]at h;exact f h
  |some z=>rw[j]at h;refine k9 (V0 h) λg h=>?_;cases h;refine M6 (R.list w i) ?_;rintro p B C d d d rfl l e;ext1 e m d;clear f;refine M6 (R.list x j) ?_;rintro q D E d d d rfl n e;ext1 e o d;exact lf (k:=3) (gD t rfl) l n g m o
open Classical in
def Kh(X:Fx)(c:Cx)(st:St)(s:f8)(xs:a7 b0)(a:b0)(v:b8):b7:=@decide (∃d∈xs,V X.M c st.n s.heap d v/\l3 d a=a8) (Ea _)
theorem aL{xs:a7 b0}{a d:b0}{v u:b8}(j:∀x∈xs,P0 x a=a8)(g:d∈xs)(h:V X.M c st.n s.heap d v):Kh X c st s xs a v=l3 d a:=by
 unfold Kh;rw[P2,@C3 _ (Ea _)];constructor
 .rintro i;ext y3 i l k f e;let b:=W7 e;clear e;subst b;exact ZM 3 (j d g) h f
 .exact λe=>v7 d g h e
theorem qq{a:b0}:∀{ys:a7 b0}{vs:a7 b8}{xs:a7 b0},(∀x∈xs,P0 x a=a8)->(∀y∈ys,y∈xs)->Vs X.M c st.n s.heap ys vs->vs.any (Kh X c st s xs a)=ys.any λx=>l3 x a:=by
 intro h
 induction h with
 |nil=>intro vs d d d e;rw[show vs=[] from e];rfl
 |cons y ys i=>intro d xs f g b;ext o0 b v r e j k;subst e;rw[nR,nR,aL (u:=v) f (g y j5) j,i f (λz l=>g z (k8 _ l)) k]
end
section
variable{prog:A5}{X:Fx}{st:St}
theorem QH{a:i7}{ep:a6}{es:l4 Af}{xs:a7 (b0×b0)}{k:b0}{d:b8}{Q:j0 b8->f8->Prop}{base:l5}{n:a6}{w:J3}(l:A.units+8<t3)
 (m:s.heap.get? a=a0 (E3 es ep))(o:t5 w base c n s.heap xs es.toList)(y:DK xs)(q:v8 xs k=a8)(r:V base c n s.heap k d)
 (z:∀t,match t4 xs k with|some x=>∀v,V base c n s.heap x v->Q (a0 v) {s with toks:=t}|none=>Q b4 {s with toks:=t}):
 b9 (d7 prog w) A (Wg a d) Q E s:=by
 refine K9 (b5 (KG 3 (gB l rfl) (Ok (bne_iff_ne.mp (o6 q)):o3 3 k k=a8) r λt=>b5 (Ni (s:={s with toks:=t}) l m o y q r ?_)));let b:=z t;cases h:E5 xs k with
 |none=>
  let e:t4 xs k=b4:=by unfold E5 at h;unfold t4;rw[Mg]at h;rw[List.find?_eq_none.mpr (λx B=>by rw[h x B];exact Ch)];rfl
  rw[e]at b;exact f6 b
 |some i=>
  have f:=h;unfold E5 at f;refine c9 (List.findIdx?_eq_some_iff_getElem.mp f) λg C D=>?_;have e:t4 xs k=a0 xs[i].2:=by unfold t4;rw[(qB (p:=λe:b0×b0=>l3 e.1 k)).mpr ⟨C,i,g,rfl,λj F=>by simpa using D j F⟩];rfl
  rw[e]at b;refine BS (t5.get o i xs[i] (by simp[g])) λH u I G J=>b5 (nQ m rfl (f6 ?_));rw[W6]at u;rw[u];exact b _ G
theorem Hk(R:i8 X c st s){a:a6}(f:a<st.n):(c.κ a==lY)=c8:=by let d:=R.lo a f;rw[Ga];intro e;let b:lY=1:=rfl;rw[e,b]at d;exact(du R.three d).elim
theorem hW{a b:b0}{C W:b8}{r:b7}(g:b7)(Y:A.units+12<t3)(R:i8 X c st s)(z:V X.M c st.n s.heap a C)(k:V X.M c st.n s.heap b W)(h:B0.inOp st a b=a0 r)
 (D:Q (.bool (if g then !r else r)) st):
 b9 (d7 prog X.w) A (PV (if g then .NotIn else .In) C W) (j6 X c st s F Q) E s:=by
 have f:∀t,j6 X c st s F Q (.bool (if g then !r else r)) {s with toks:=t}:=λt=>j6.toks R (d:=.bool _) rfl D;unfold B0.inOp at h;cases O:st.items? b with
 |some Z=>
  rw[O]at h;refine k9 (V0 h) λB h=>?_;rw[V8]at B;injection h with h;refine FM (R.items k O) ?_;clear k;rintro p j e rfl I J;have K:∀y,y∈j->EqAt A.in1 s y C (Kh X c st s Z a y):=by intro y q;let L:=Rr I y (Array.mem_toList_iff.mpr q);ext1 L d G w;rw[aL (u:=y) B G w];exact gO 3 (gD Y rfl) (B d G) w z
  let i:j.any (Kh X c st s Z a)=r:=by rw[<-h,<-l4.any_toList];exact qq B (λy q=>q) I
  rcases J with⟨m,_⟩|⟨_,_,_,_,_,m,_⟩
  .clear D;cases g
   .exact in_tupleAt _ ⟨_,m,rfl,_,rfl⟩ K (by rw[i];exact f s.toks)
   .exact notIn_tupleAt _ ⟨_,m,rfl,_,rfl⟩ K (by rw[i];exact f s.toks)
  .clear D;cases g
   .exact in_listAt _ ⟨_,m,rfl,_,rfl⟩ K (by rw[i];exact f s.toks)
   .exact notIn_listAt _ ⟨_,m,rfl,_,rfl⟩ K (by rw[i];exact f s.toks)
 |none=>
  rw[O]at h;cases q:st.dict? b with
  |some n=>
   replace h:(match st.dict? b with|some n=>if v8 n a then a0 (E5 n a).isSome else b4|none=>KH a b)=a0 r:=h;rw[q]at h;refine k9 (V0 h) λB h=>?_;injection h with h;refine M6 (R.dict k q) ?_;clear k;rintro p ents e S hp S rfl m M;ext1 M I G S;have T:s.TypeIs (.ref (c.κ p)) "dict":=d0 _ m rfl;let o:∀U:b8->f8->Prop,(∀t,U (.bool r) {s with toks:=t})->b9 (d7 prog X.w) A (call (.builtin "dict.__contains__") [.ref (c.κ p),C]) U E s:=by
    intro U H;refine Ah Vl T entry_dict_contains ?_ (args_dict_contains _ _);refine(?_:b9 _ _ (Wg (c.κ p) C>>=_) _ _ s);refine b5 (QH (gD Y rfl) m I G B z λt=>?_);have N:(t4 n a).isSome=r:=by rw[<-h];unfold t4 E5;rw[LZ];rw[P2];simp[VM]
    cases J:t4 n a with
    |some x=>rw[J]at N;intro v S;exact f6 (d0 _ rfl (by let this:=H t;rw[<-N]at this;exact this))
    |none=>rw[J]at N;refine b5 (wpAny_pendingKey_other (Hk R hp) (f6 (d0 _ rfl (by let this:=H t;rw[<-N]at this;exact this))))
   clear D;cases g
   .exact In_slot T Vl (o _ λt=>Gk (f t))
   .exact NotIn_slot T Vl (o _ λt=>Gk (f t))
  |none=>
   replace h:(match st.dict? b with|some n=>if v8 n a then a0 (E5 n a).isSome else b4|none=>KH a b)=a0 r:=h;rw[q]at h;revert z k;refine jh (show KH a b=a0 r from h) λl ch h z k=>?_;ext d4 z t rfl;ext d4 k u rfl;have i:(!(nY (C9 l) (C9 [ch]) 0 (C9 l).length 1).isEmpty)=r:=by rw[<-h];refine(?_:(!(nY (C9 l) ⟨#[ch]⟩ 0 (C9 l).length 1).isEmpty)=_);rw[yn,P2,C3];simp[C9]
   clear D;cases g
   .exact P.in_str (by rw[i];exact f s.toks)
   .exact P.notIn_str (by rw[i];exact f s.toks)
def Cr:Dq->Mr
 | .eq=>.Eq| .ne=>.NotEq| .lt=>.Lt| .le=>.LtE| .gt=>.Gt| .ge=>.GtE| .isin=>.In| .notin=>.NotIn| .is=>.Is| .isnot=>.IsNot
theorem ZW(ha:V base c n h a v):(v==HW)=UI a:=by
 cases a with
 |none=>rw[show v= .none from ha];rfl
 |bool b=>rw[show v= .bool b from ha];rfl
 |int i=>ext d4 ha t rfl;rfl
 |str i=>ext d4 ha t rfl;rfl
 |B i=>ext Em ha w0 w0 w0 rfl w0;rfl
 |ref i=>ext1 ha w0 rfl;rfl
 |ro i=>ext F8 ha w0 w0 rfl w0;rfl
theorem FZ(hu:A.units+12<t3)(R:i8 X c st s)(ha:V X.M c st.n s.heap a va)(hb:V X.M c st.n s.heap b vb)(h:B0 o a b st=a0 r)(hq:Q (.bool r) st):
 b9 (d7 prog X.w) A (PV (Cr o) va vb) (j6 X c st s F Q) E s:=by
 have here:j6 X c st s F Q (.bool r) s:=j6.U R (d:=.bool _) rfl hq;have num:∀{k:d3->d3->b7}{op:Mr},Ig k a b=a0 r->(∀x y t u,k x y=r->b9 (d7 prog X.w) A (PV op (.int x t) (.int y u)) (j6 X c st s F Q) E s)->b9 (d7 prog X.w) A (PV op va vb) (j6 X c st s F Q) E s:=by intro k op h H;revert ha hb;refine uJ h λx y hr ha hb=>?_;ext d4 ha t rfl;ext d4 hb u rfl;exact H x y t u hr
 cases o with
 |eq=>exact(Xb (gB hu rfl) R ha hb h).1 prog X.w E _ here
 |ne=>clear hq num;refine c9 (GN h) ?_;clear h;rintro r' hr rfl;exact(Xb (gB hu rfl) R ha hb hr).2 prog X.w E _ here
 |lt=>exact num h λx y t u e=>pX (by rw[e];exact here)
 |le=>exact num h λx y t u e=>P.le_int (by rw[e];exact here)
 |gt=>exact num h λx y t u e=>oZ (by rw[e];exact here)
 |ge=>exact num h λx y t u e=>P.ge_int (by rw[e];exact here)
 |isin=>exact hW c8 hu R ha hb h hq
 |notin=>clear here num;refine c9 (GN h) ?_;clear h;rintro r' hr rfl;exact hW a8 hu R ha hb hr hq
 |«is»=>revert hb;refine dC h λe hb=>?_;rw[show vb= .none from hb];refine is_none_gen ?_;rw[ZW ha,e];exact here
 |isnot=>revert hb;refine dC h λe hb=>?_;rw[show vb= .none from hb];refine isnot_none_gen ?_;rw[ZW ha,e];exact here
end
end Internal
namespace Internal
open PySem PySem.W PyProof.Rows
theorem rG(items:l4 b8):MO items b4 b4 (a0 (-1))=items.toList.reverse.toArray:=by
 obtain⟨l⟩:=items;let e:Vp ((l.length:d3) - 1) (-1) (-1)=(p0 l.length).map λk=>l.length - 1 - k:=by
  unfold Vp;rw[j4 (by decide)];by_cases h:l.length=0
  .rw[j4 (ku h),h];rfl
  .rw[g0 (zG h)];let a:(((l.length:d3) - 1 - -1 - -1 - 1)/ - -1).toNat=l.length:=by rw[show(- -1:d3)=1 by solve_by_elim (maxDepth:=2)only[*,j7],lC];exact mv
   dsimp only;rw[a];apply A2;intro k b;rw[Qd]at b;exact rH
 unfold MO;simp only[sliceBounds,j0.getD_some];refine(?_:((Vp ((l.length:d3) - 1) (-1) (-1)).filterMap ((HB l)[·]?)).toArray=_);rw[e];congr 1;apply Gx;intro i;rw[a7.filterMap_map];let d:(p0 l.length).filterMap ((λx=>(HB l)[x]?) ∘ λk=>l.length - 1 - k)=(p0 l.length).map λk=>l.getD (l.length - 1 - k) .none:=by
  let g:∀(c:a7 a6),(∀k∈c,k<l.length)->c.filterMap ((λx=>(HB l)[x]?) ∘ λk=>l.length - 1 - k)=c.map λk=>l.getD (l.length - 1 - k) .none:=by
   intro c
   induction c with
   |nil=>intro o;rfl
   |cons k c m=>intro b;rw[Ht,m λj n=>b j (k8 _ n)];simp[(by let a:=b k j5;exact Ye a:l.length - 1 - k<l.length)]
  exact g _ λk b=>U7 b
 rw[d];by_cases f:i<l.length
 .let a:=Ye f;simp[f,a]
 .simp[f]
section
variable{X:Fx}{st:St}
theorem Vs_get?{base:l5}{n:a6}{h:l5}{e:a7 b0}{vs:l4 b8}(j:Vs base c n h e vs.toList){i:a6}{d:b0}(m:e[i]?=a0 d):∃v,vs[i]?=a0 v/\V base c n h d v:=by let k:=Vs.length j;rw[A0]at k;let f:=FN m;ext1 f g l;let a:=Iu j i g;let b:=Cv g k;rw[(by simp[g,l]:e.getD i .none=d),(by simp[b]:vs.toList.getD i .none=vs[i])]at a;exact d0 (vs[i]) (by simp[b]) a
theorem bo(n:A.units+12<t3)(R:i8 X c st s)(j:V X.M c st.n s.heap d vd)(hi:V X.M c st.n s.heap i vi)(h:st.dict? d=a0 es)
 (o:v8 es i=a8)(p:t4 es i=a0 x)(q:Q x st):b9 (d7 prog X.w) A (Gf vd vi) (j6 X c st s F Q) E s:=by
 refine M6 (R.dict j h) ?_;clear j;rintro a m e k w k rfl l b;ext1 b r u k;let f:s.TypeIs (.ref (c.κ a)) "dict":=d0 _ l rfl;unfold Gf
 try with_reducible refine K9 ?_
 first|refine b5 (f6 ?_)|skip
 refine b5 (WL f (by decide) ?_);refine b5 (HN (name:=Cg "__getitem__") f jV
  (Ah jV f entry_dict_getitem ?_ (args_dict_getitem _ _)))
 refine(?_:b9 _ _ (Wg (c.κ a) vi>>=_) _ _ s);refine b5 (QH (gD n rfl) l r u o hi λt=>?_);rw[p];intro v g;exact f6 (d0 v rfl (f6 (j6.toks R g q)))theorem Ym(b:0<=k)(c:k.toNat<n):seqIndex? k n=a0 k.toNat:=by unfold seqIndex?;let a:=Int.not_lt.mpr b;simp only[a,Bu];refine G5 (by simp only[C2,C3];exact⟨Int.not_lt.mp a,(Pi (Int.not_lt.mp a)).mp c⟩) ?_;try with_reducible rfl
theorem ox{d:b0}{vd:b8}(hu:A.units+12<t3)(R:i8 X c st s)(hd:V X.M c st.n s.heap d vd)(hi:V X.M c st.n s.heap i vi)(h:J9 d i st=a0 x)(hq:Q x st):
 b9 (d7 prog X.w) A (Gf vd vi) (j6 X c st s F Q) E s:=by
 cases fQ h with
 |st ch h0 hl=>ext d4 hd t rfl;ext d4 hi u rfl;refine P.getItem_str (c:=ch) (by simp only[b7.or_eq_false_iff,US];exact eh h0 (by decide:(j8:d3)<2 ^ 63)) ?_ (j6.toks R (V.str [ch] _) hq);rw[Ym h0.1 (by rw[Nk];exact x0 hl)];simp[C9,hl]
 |it xs hx h0 h=>
  ext d4 hi u rfl;refine FM (R.items hd hx) ?_;clear hd;rintro p items e rfl hv hk;let zz:=Vs_get? hv h;ext1 zz v hv1 hv2;let hb:(j8:d3)<2 ^ 63:=by decide
  rcases hk with⟨ho,_⟩|⟨_,_,_,_,_,ho,_⟩
  .exact P.getItem_tuple ho (th h0 hb) (DT h0.2 hb) (Ym h0.1 (KR hv1)) hv1 (j6.U R hv2 hq)
  .exact wpAny_getItem_list ⟨_,ho,rfl,_,rfl⟩ h0.1 (DT h0.2 hb) hv1 (j6.U R hv2 hq)
 |dc es he ok hx=>exact bo hu R hd hi he ok hx hq
abbrev Ds(a b d:b8):V6:={cls:=.type "slice",data:=.fields #[a,b,d]}
theorem Ub:∀{b:a7 b0}{vs:a7 b8},Vs base c n h b vs->∀k,Vs base c n h (b.take k) (vs.take k)
 |_,_,_,0=>by rw[Gp,Gp];exact rfl
 |[],_,e,k+1=>by rw[show _=[] from e];exact rfl
 |_::_,_,a,k+1=>by ext o0 a v r e d f;subst e;exact E8 v (r.take k) rfl d (Ub f k)
theorem SU:∀{b:a7 b0}{vs:a7 b8},Vs base c n h b vs->∀k,Vs base c n h (b.drop k) (vs.drop k)
 |_,_,x,0=>by rw[DU,DU];exact x
 |[],_,e,k+1=>by rw[show _=[] from e];exact rfl
 |_::_,_,a,k+1=>by ext o0 a v r e f d;subst e;exact SU d k
theorem Xx:∀{b:a7 b0}{vs:a7 b8},Vs base c n h b vs->Vs base c n h b.reverse vs.reverse:=by
 intro d
 induction d with
 |nil=>intro f e;rw[show _=[] from e];exact rfl
 |cons _ _ g=>intro f a;ext o0 a v r e i j;subst e;rw[Ph,Ph];exact Te (g j) i
theorem oq:∀{vs:a7 b8}{ns:a7 d3},EK vs ns->Vs base c n h (ns.map .int) vs:=by
 intro vs ns z
 induction z with
 |nil=>exact rfl
 |cons i t b a=>exact E8 (.int i t) _ rfl (V.int i t) a
theorem Ul(R:i8 X c st s){d:b0}{k:b8}{a b e:b8}{lo hi g:j0 d3}{xs:a7 b0}(l:V X.M c st.n s.heap d k)(h:st.list? d=a0 xs)(q:VT a lo)(r:VT b hi)(ps:VT e g)(t:g≠a0 0)
 {ys:a7 b0}(u:∀f:l4 b8,Vs X.M c st.n s.heap xs f.toList->Vs X.M c st.n s.heap ys (MO f lo hi g).toList)(v:ys.length<=j8+1)(w:Q (.ref st.n) (st.A (.L ys))):
 b9 (d7 prog X.w) A (Gf k (.ref s.heap.objs.size)) (j6 X c st s F Q) E {s with heap:=s.heap.push (Ds a b e)}:=by
 refine M6 (R.list l h) ?_;clear l;rintro p f y i z i rfl x j;ext1 j m B;let n:=Vs.length m;rw[A0]at n;let o:=(Ext.push s.heap (Ds a b e)).trans (Ext.push (s.heap.push (Ds a b e)) {cls:=.type "list",data:=.seq (MO f lo hi g)});refine nZ ⟨_,A9 _ x,rfl,_,rfl⟩ (WZ ..) q r ps t ?_ (by rw[n,O3];exact p6);exact j6.new R (by rw[J7];exact N8 _) o rfl rfl (J6.L (y9 _ rfl) (Y8 (λi i i i=>o.2 _ _) (u _ m)) v) w
theorem vS(R:i8 X c st s)(j:V X.M c st.n s.heap d vd)(h:o8 (Ew d k st) Q):
 b9 (d7 prog X.w) A (Gf vd (.ref s.heap.objs.size)) (j6 X c st s F Q) E {s with heap:=s.heap.push (Ds .none (.int k t) .none)}:=by
 let q:∀{k:d3},0<=k->k=(k.toNat:d3):=λh=>(Mq h).symm;refine Zr h (λm r l h=>?_) λm e l z=>?_
 .refine M6 (R.list j r) λb b b b b b b b f=>?_;ext1 f b B;refine Ul R j r .none (.int k t) .none (by decide) (ys:=m.take k.toNat) (λp C=>?_) (b6 (a7.length_take_le' _ _) B) h;rw[q l.1,jE];exact Ub C _
 .clear h;cases e;ext T0 j a u rfl i v D;ext1 i o w x f;ext1 f n g;let y:=v.length;rw[A0]at y;refine nZ (items:=u) (lo:=b4) (hi:=a0 k) (st:=b4) ⟨_,A9 _ (R.stays _ _ w),x,n,g⟩ (WZ ..) .none (.int k t) .none (by decide) ?_ (by rw[y,O3];exact p6);refine j6.new R (by rw[J7];exact N8 _) ((Ext.push s.heap (Ds .none (.int k t) .none)).trans (Ext.push (s.heap.push (Ds .none (.int k t) .none)) {cls:=.type "list",data:=.seq (MO u b4 (a0 k) b4)})) rfl rfl (J6.L (xs:=(m.take k.toNat).map .int) (y9 _ rfl) ?_ ?_) z
  .rw[q l.1,jE];rw[mK];exact oq (v.take _)
  .rw[f7,O9];exact U6 (Jh (Int.toNat_le.mpr l.2))
theorem dp(R:i8 X c st s)(l:V X.M c st.n s.heap d vd)(h:o8 (Eh d k st) Q):
 b9 (d7 prog X.w) A (Gf vd (.ref s.heap.objs.size)) (j6 X c st s F Q) E {s with heap:=s.heap.push (Ds (.int k t) .none .none)}:=by
 let p:∀{k:d3},0<=k->k=(k.toNat:d3):=λh=>(Mq h).symm;refine aW h (λr v i h=>?_) λr e i w=>?_
 .refine M6 (R.list l v) λf f f f f f f f n=>?_;ext1 n f x;refine Ul R l v (.int k t) .none .none (by decide) (ys:=r.drop k.toNat) (λg m=>?_) (by rw[MA];exact b6 (My _ _) x) h;rw[p i.1,slicePick_from'];exact SU m _
 .clear h;cases e;ext G9 l a g e rfl B y m;let o:=Vs.length m;rw[A0]at o;let j:=(Ext.push s.heap (Ds (.int k t) .none .none)).trans (Ext.push (s.heap.push (Ds (.int k t) .none .none)) {cls:=.type "tuple",data:=.seq (g.toList.drop k.toNat).toArray});let z:(s.heap.push (Ds (.int k t) .none .none)).IsSliceOf s.heap.objs.size (.int ((k.toNat:a6):d3) t) .none .none:=by let b:=WZ s.heap (.int k t) .none .none;rw[<-p (JS (by decide) i.1)];exact b
  refine getItem_tuple_from (a:=k.toNat) (u:=t) ⟨_,A9 _ y,rfl,_,rfl⟩ z (d3.le_toNat (JS (by decide) i.1)|>.mpr i.1) (vf i o) ?_ (by rw[o,O3];unfold j8 at i;exact b6 i.2.2 (by decide));refine j6.ext R j rfl rfl (V.B ?_ (y9 _ rfl) ?_) w
  .intro q;let b:=(R.pold _ q).2;rw[J7]at b;exact(P9 (N8 _) b).elim
  .rw[mK];exact Y8 (λf f f f=>j.2 _ _) (SU m _)
theorem fu(R:i8 X c st s)(f:V X.M c st.n s.heap d vd)(h:o8 (Fk d st) Q):
 b9 (d7 prog X.w) A (Gf vd (.ref s.heap.objs.size)) (j6 X c st s F Q) E {s with heap:=s.heap.push (Ds .none .none (.int (-1) t))}:=by
 refine eX h λi g h=>M6 (R.list f g) λa a a a a a a a b=>?_;ext1 b a k;refine Ul R f g .none .none (.int (-1) t) (by decide) (ys:=i.reverse) (λe j=>?_) (by rw[a7.length_reverse];assumption) h;rw[rG];exact Xx j
end
theorem Yv(h:l5)(a:i7)(f:V6->V6):(h.update a f).objs.size=h.objs.size:=(AY h a f).1
theorem cD{Γ:DW}(h:Runs M Γ p t fs s e s'):s.heap.objs.size<=s'.heap.objs.size:=by
 induction h<;>(try simp only[f8.setGen,Yv,J7]at*)<;>first|(apply l8)|assumption|skip
 all_goals first|exact b6 ‹_› ‹_›|exact b6 (N8 _) ‹_›|skip
theorem ed{Γ:DW}(h:Mx M Γ p g r s res s'):s.heap.objs.size<=s'.heap.objs.size:=
 ZY (P:=λR=>R res s'->s.heap.objs.size<=s'.heap.objs.size) (λh=>h.elim) (λc q t fs h=>by
  ext T0 h e₁ s₁ hr w0 w0 rfl;exact(cD hr:(s.setGen g .running).heap.objs.size<=s₁.heap.objs.size)) (λa b hb h=>by rw[h.2,hb];exact l8 _) h
theorem vY{α:Type}(M:Gr)(n:a6)(t:M8 α):∀(Γ:DW)(Q:α->X7->f8->Prop)(E:b8->X7->f8->Prop)(p:X7)(s:f8),n<=s.heap.objs.size->JD M Γ t Q E p s->
 JD M Γ t (λa p' s'=>n<=s'.heap.objs.size/\Q a p' s') (λe p' s'=>n<=s'.heap.objs.size/\E e p' s') p s:=by
 induction t with
 |pure a=>intro Γ Q E p s hn h;exact⟨hn,h⟩
 |raise e=>intro Γ Q E p s hn h;exact⟨hn,h⟩
 |unsupported|finish|register|yield|fork|await=>intro Γ Q E p s w0 h;exact h
 |rule _ k ih|point _ k ih|ask k ih|stack k ih|thread k ih|handled _ k ih|loadIfAlive _ k ih|fresh k ih|os _ _ k ih|newGen _ k ih|«at» _ k ih=>intro Γ Q E p s hn h;exact ih _ Γ Q E _ _ hn h
 |alloc o k ih=>intro Γ Q E p s hn h;exact ih _ Γ Q E p _ (b6 hn (by rw[J7];exact N8 _)) h
 |load a _ k ih=>intro Γ Q E p s hn h;ext c9 h o ho h;exact d0 o ho (ih o Γ Q E p s hn h)
 |genState g k ih=>intro Γ Q E p s hn h;ext c9 h o ho h;exact d0 o ho (ih _ Γ Q E p s hn h)
 |update a _ f k ih=>intro Γ Q E p s hn h;exact⟨h.1,ih () Γ Q E p _ (by rw[Yv];exact hn) h.2⟩
 |choose src m k ih=>intro Γ Q E p s hn h;exact⟨h.1,ih _ Γ Q E p _ hn h.2⟩
 |call c hd _ _ k ih=>intro Γ Q E p s hn h;ext F8 h r s' hr h;exact Q6 r s' hr (ih r Γ Q E p s' (b6 hn (cD hr)) h)
 |resume g r _ k ih=>intro Γ Q E p s hn h;ext F8 h res s' hw h;exact Q6 res s' hw (ih res Γ Q E p s' (b6 hn (ed hw)) h)theorem W2(h:b9 M A t (λa d=>s.heap.objs.size<=d.heap.objs.size->Q a d) E s):b9 M A t Q E s:=λΓ p c=>pZ M Γ t (λb b b x=>x.2 x.1) (λb b b x=>x.2) p s (vY M s.heap.objs.size t Γ _ _ p s (l8 _) (h Γ p c))
structure Fr (fp:a7 i7) (s s':f8):Prop where
 keep:∀b o,b∉fp->s.heap.get? b=a0 o->s'.heap.get? b=a0 o
 size:s.heap.objs.size<=s'.heap.objs.size
 gens:s'.gens=s.gens
 os:s'.os=s.os
theorem Fr.refl(fp:a7 i7)(s:f8):Fr fp s s:=⟨λa a a e=>e,l8 _,rfl,rfl⟩
theorem Fr.trans(x:Fr fp s s')(y:Fr fp s' s''):Fr fp s s'':=
 ⟨λb o a e=>y.keep b o a (x.keep b o a e),b6 x.size y.size,y.gens.trans x.gens,y.os.trans x.os⟩theorem Fr.z(x:Fr fp s s')(h:∀b∈fp,b∈fp'):Fr fp' s s':=⟨λb o a e=>x.keep b o (λq=>a (h b q)) e,x.size,x.gens,x.os⟩
theorem Fr.same(x:Aj a s.heap h')(c:a∈fp)(t:a6):Fr fp s {s with heap:=h',toks:=t}:=
 ⟨λb o d e=>x.extBut b o (λq=>d (q▸c)) e,by rw[x.1];exact l8 _,rfl,rfl⟩
theorem Fr.ext(x:MM a s.heap h')(c:a∈fp)(hz:s.heap.objs.size<=h'.objs.size)(t:a6):Fr fp s {s with heap:=h',toks:=t}:=
 ⟨λb o d e=>x b o (λq=>d (q▸c)) e,hz,rfl,rfl⟩
section
variable{X:Fx}{st:St}
theorem Fr.rep(x:Fr fp s s')(R:i8 X c st s)(a:∀b∈fp,c.P b):i8 X c st s':=R.keep (λb o e d=>x.keep b o (λq=>d (a b q)) e) x.size x.gens x.os
theorem Fr.step(x:Fr fp s s'):k7 c st s c st s' (·∈fp):=⟨l8 _,λa a=>rfl,rfl,λb o e a d=>x.keep b o d e,λa f g=>FB g f,x.size⟩
theorem Fr.V(x:Fr fp s s')(a:∀b∈fp,c.P b)(h:V base c n s.heap d v):V base c n s'.heap d v:=
 BY (λb f f g e=>x.keep b _ (λq=>g (a b q)) e) h
theorem Fr.Vs(x:Fr fp s s')(a:∀b∈fp,c.P b)(h:Vs base c n s.heap d v):Vs base c n s'.heap d v:=
 Y8 (λb f f g e=>x.keep b _ (λq=>g (a b q)) e) h
end
def M5(h:l5)(T:b7)(i l:i7)(k:a6):Prop:=match T with|true=>h.IsTupleIter i l k|false=>h.IsListIter i l k
def y0(h:l5)(T:b7)(l:i7)(xs:l4 b8):Prop:=match T with|true=>h.IsTuple l xs|false=>h.IsList l xs
theorem M5.at(x:M5 h T i l k)(e:∀o,h.get? i=a0 o->h'.get? i=a0 o):M5 h' T i l k:=by cases T<;>(obtain⟨o,a,r⟩:=x;exact d0 o (e o a) r)theorem y0.at(x:y0 h T l xs)(e:∀o,h.get? l=a0 o->h'.get? l=a0 o):y0 h' T l xs:=by cases T<;>(obtain⟨o,a,r⟩:=x;exact d0 o (e o a) r)theorem M5.lt(x:M5 h T i l k):i<h.objs.size:=by cases T<;>(obtain⟨o,a,r⟩:=x;exact C4 a)theorem y0.lt(x:y0 h T l xs):l<h.objs.size:=by cases T<;>(obtain⟨o,a,r⟩:=x;exact C4 a)
theorem M5.cls(x:M5 h T i l k):∃o,h.get? i=a0 o/\(o.cls= .type "tuple_iterator"\/o.cls= .type "list_iterator"):=by
 cases T
 .ext y3 x o a r b;exact d0 o a (.inr r)
 .ext y3 x o a r b;exact d0 o a (.inl r)
section
variable{prog:A5}{w:J3}{A:B7}
theorem IE(hi:M5 s.heap T i l k)(c:y0 s.heap T l xs)(p:xs[k]?=a0 x)
 (m:∀e,M5 e T i l (k+1)->Aj i s.heap e->Q x {s with heap:=e}):b9 (d7 prog w) A (JL (.ref i)) Q E s:=by
 have u:=m;clear u;cases T with
 |false=>exact wpAny_nextOf_list_item hi c p m
 |true=>
  let z:=pR (prog:=prog) (w:=w) (A:=A) (E:=λq q=>k6) (Q:=λr y=>∃v,r=a0 v/\Q v y) hi c p λe a b=>d0 x rfl (m e a b);let f:=id hi;ext1 f o g t d;ext1 c B h q n;ext1 n C j;refine b5 (HN (name:=Cg "__next__") (Px hi) Pp (Ah Pp (Px hi) mG ?_ (lZ _)));refine Nm g d (x:=.ref l) rfl (X8 (show¬((Hy l==HW)=a8) from Ch) (Nm g d (x:=.int k 0) rfl (Kr h j ?_)));simp only[Q8,p];refine b5 (Ww g d (by simp) (f6 (d0 x rfl (f6 (m _ ?_ (AY ..))))));exact(v7 _ (Hr _ g (V6.isFreed_of_fields (jT d _))) ((V6.cls_mapFields ..).trans t) (by
   rw[jT d];simp[G7]))
theorem xJ{α:Type}{Q:α->f8->Prop}(hh:A.handled=b4)(hE:∀h' e,(∀b o,s.heap.get? b=a0 o->h'.get? b=a0 o)->(∃o,h'.get? e=a0 o/\o.cls= .type "StopIteration")->E (.ref e) {s with heap:=h'}):
 b9 (d7 prog w) A (PH (.type "StopIteration") []>>=λe=>(Qg e:M8 α)) Q E s:=by
 refine b5 (b5 (Fu ?_ (by size_fits)));refine b5 (m:=Qj _ _) (Jx (a:=HW) (by first|rfl|(simp only[Qj];rfl)) (Fu ?_ (by size_fits)));refine vA ?_;rw[hh];refine R8 (lW (hE _ _ (λb o e=>A9 _ (A9 _ e)) (d0 _ (y9 _ rfl) rfl)))
theorem MV{Q:qVS}(n:A.handled=b4)(hi:M5 s.heap T i l k)(h:y0 s.heap T l xs)(p:xs[k]?=b4)
 (r:∀a e,MM i s.heap a->(∃o,a.get? e=a0 o/\o.cls= .type "StopIteration")->E (.ref e) {s with heap:=a}):b9 (d7 prog w) A (JL (.ref i)) Q E s:=by
 cases T with
 |false=>exact wpAny_nextOf_list_end n hi h p r
 |true=>let c:=id hi;ext1 c o f t g;ext y3 h z m B j;ext1 j C d;refine b5 (HN (name:=Cg "__next__") (Px hi) Pp (Ah Pp (Px hi) mG ?_ (lZ _)));refine Nm f g (x:=.ref l) rfl (X8 (show¬((Hy l==HW)=a8) from Ch) (Nm f g (x:=.int k 0) rfl (Kr m d ?_)));simp only[Q8,p];refine Ja (b5 (Ww f g (M7 _) (xJ (A:=A.in1) n ?_)));intro a e u v;exact r a e (λb o y q=>u b o ((AY ..).extBut b o y q)) v
abbrev Oa(f0:b8)(f1:b7)(TI TO:i7):V6:={cls:=.type "zip",dict:=b4,data:=.fields #[f0,.bool f1,.bool c8,.ref TI,.ref TO],slots:=#[]}
structure ZR (h:l5) (f0:b8) (z TI TO i1 i2:i7) (T1:b7) (l1:i7) (k1:a6) (T2:b7) (l2:i7) (k2:a6):Prop where
 zo:∃f1,h.get? z=a0 (Oa f0 f1 TI TO)
 ti:Dg h TI (.ref i1) (.ref i2)
 to:∃a b,Dg h TO a b
 s1:M5 h T1 i1 l1 k1
 s2:M5 h T2 i2 l2 k2
 TT:TI≠TO
 ii:i1≠i2
 l1:l1≠TO
 l2:l2≠TO
theorem y0.ne(x:y0 h T l xs)(d:h.get? a=a0 o)(f:o.cls≠.type "list")(g:o.cls≠.type "tuple"):l≠a:=λe=>by
 subst e;cases T<;>(obtain⟨i,b,c,_⟩:=x;rw[d]at b;cases b;first|exact f c|exact g c)
theorem M5.ne(x:M5 h T i l k)(d:h.get? a=a0 o)(f:o.cls≠.type "list_iterator")(g:o.cls≠.type "tuple_iterator"):i≠a:=λe=>by
 subst e;cases T<;>(obtain⟨j,b,c,_⟩:=x;rw[d]at b;cases b;first|exact f c|exact g c)
end
theorem EY(hz:s.heap.get? z=a0 {cls:=cl,dict:=b4,data:=.fields fs,slots:=#[]})(b:k<fs.size)
 (c:∀a,a.get? z=a0 {cls:=cl,dict:=b4,data:=.fields (fs.setIfInBounds k x),slots:=#[]}->Aj z s.heap a->Q () {s with heap:=a}):
 b9 (d7 prog w) A (Gj (.ref z) k x) Q E s:=
 HT hz b c
theorem FrOf.set(x:Aj a s.heap h')(b:a∈fp):Fr fp s {s with heap:=h'}:=Fr.same x b s.toks
theorem Fr.push(fp:a7 i7)(o:V6):Fr fp s {s with heap:=s.heap.push o}:=⟨λa a a e=>A9 _ e,by rw[J7];exact N8 _,rfl,rfl⟩abbrev w6(z TO i1 i2:i7):a7 i7:=[z,TO,i1,i2]
theorem ZV(b:s.heap.get? a=a0 o)(h:Q (a0 o) s):b9 (d7 prog w) A (loadIfAlive a) Q E s:=λΓ p c=>by
 refine(?_:Q (s.heap.get? a) s);rw[b];exact h
theorem DF{h:l5}(x:h.get? a=a0 o)(y:h.get? a=a0 o'):o.cls=o'.cls:=by rw[x]at y;cases y;rfl
theorem QZ(d:Dg s.heap T a b)
 (h:∀c,c.get? T=a0 {cls:=.type "tuple",data:=.seq ((#[a,b]:l4 b8).setIfInBounds k x)}->Aj T s.heap c->Q () {s with heap:=c}):
 b9 (d7 prog w) A (updateSeq T (·.setIfInBounds k x)) Q E s:=wpAny_updateSeq_pair d h
theorem YU{Q:qVS}(hz:ZR s.heap .none z TI TO i1 i2 T1 l1 k1 T2 l2 k2)(h1:y0 s.heap T1 l1 xs)(h2:y0 s.heap T2 l2 ys)(hx:xs[k1]?=a0 x)(hy:ys[k2]?=a0 y)
 (J:∀(V:l5)(T:i7),ZR V (G7 (T:a6)) z TI TO i1 i2 T1 l1 (k1+1) T2 l2 (k2+1)->Dg V T x y->s.heap.objs.size<=T->Fr (w6 z TO i1 i2) s {s with heap:=V}->Q (.ref T) {s with heap:=V}):
 b9 (d7 prog w) A (Builtin.«zip.__next__» ⟨[.ref z],[]⟩) (λfin s'=>∃v,fin= .done (.ret v)/\Q v s') E s:=by
 refine d4 hz.zo λf1 f=>S7 hz.to λa b r=>?_;have g:=hz.s1.ne f (by simp) (by simp);have i:=hz.s2.ne f (by simp) (by simp);have t:=hz.s1.ne r (by simp) (by simp);have u:=hz.s2.ne r (by simp) (by simp);have j:TO≠z:=λe=>by clear hz J g i;subst e;let d:=DF f r;simp at d
 let M:TI≠z:=λe=>by clear J g i j;subst e;let d:=DF f hz.ti;simp at d
 let B:∀{h:l5}{k:a6},M5 h T1 i1 l1 k->∀{T:b7}{l:i7}{K:l4 b8},y0 h T l K->l≠i1:=λ{_ _}hi{T l K}hl e=>by
  exact c9 hi.cls λo D p=>hl.ne D (by rcases p with q|q<;>rw[q]<;>simp) (by rcases p with q|q<;>rw[q]<;>simp) e
 let R:∀{h:l5}{k:a6},M5 h T2 i2 l2 k->∀{T:b7}{l:i7}{K:l4 b8},y0 h T l K->l≠i2:=λ{_ _}hi{T l K}hl e=>by
  exact c9 hi.cls λo D p=>hl.ne D (by rcases p with q|q<;>rw[q]<;>simp) (by rcases p with q|q<;>rw[q]<;>simp) e
 let m:∀q∈w6 z TO i1 i2,q=z\/q=TO\/q=i1\/q=i2:=by intro q hq;simpa using hq
 refine(b5 (AZ f rfl (x:=.bool c8) rfl ?_):b9 _ _ (field (.ref z) 2>>=_) _ _ _);refine b5 (AZ f rfl (x:=.ref TI) rfl (b5 (Ce hz.ti rfl ?_)));refine b5 (b5 (AZ f rfl (x:=.none) rfl (f6 ?_)));refine b5 (EN (b5 (AZ f rfl (x:=.ref TO) rfl ?_)));refine b5 (EY f (M7 _) λg1 z1 F=>b5 ?_);simp only[iR,mZ,Dj,HQ];refine b5 (b5 (PD (b5 (IE (s:={s with heap:=g1}) (hz.s1.at λo e=>F.extBut _ _ g e) (h1.at λo e=>F.extBut _ _ (h1.ne f (by simp) (by simp)) e) hx λW j1 G=>f6 ?_))));let N:Dg W TO a b:=G.extBut _ _ (C8 t) (F.extBut _ _ j r);refine b5 (Ce N rfl (b5 (QZ (s:={s with heap:=W}) N λX to3 H=>?_)));refine b5 (PN (f6 ?_));refine b5 (b5 (PD (b5 (IE (s:={s with heap:=X}) (hz.s2.at λo e=>H.extBut _ _ u (G.extBut _ _ (C8 hz.ii) (F.extBut _ _ i e))) (h2.at λo e=>H.extBut _ _ hz.l2 (G.extBut _ _ (B hz.s1 h2) (F.extBut _ _ (h2.ne f (by simp) (by simp)) e))) hy λY O I=>f6 ?_))));let P:Dg Y TO x b:=I.extBut _ _ (C8 u) (to3:Dg X TO x b);refine b5 (Ce P rfl (b5 (QZ (s:={s with heap:=Y}) P λn to5 L=>?_)));have C:Dg n TO x y:=to5;let Z:Fr (w6 z TO i1 i2) s {s with heap:=n}:=((((FrOf.set F (j5):Fr (w6 z TO i1 i2) s {s with heap:=g1}).trans (FrOf.set (s:={s with heap:=g1}) G (k8 _ (k8 _ j5))):Fr (w6 z TO i1 i2) s {s with heap:=W}).trans (FrOf.set (s:={s with heap:=W}) H (k8 _ j5)):Fr (w6 z TO i1 i2) s {s with heap:=X}).trans (FrOf.set (s:={s with heap:=X}) I (k8 _ (k8 _ (k8 _ j5)))):Fr (w6 z TO i1 i2) s {s with heap:=Y}).trans (FrOf.set (s:={s with heap:=Y}) L (k8 _ j5));refine b5 (PN (f6 (f6 (b5 (Ce C rfl ?_)))));refine b5 (PQ ?_);have z5:n.get? z=a0 (Oa .ellipsis f1 TI TO):=L.extBut _ _ (C8 j) (I.extBut _ _ (C8 i) (H.extBut _ _ (C8 j) (G.extBut _ _ (C8 g) z1)));refine(b5 ?_:b9 _ _ (yt (.ref z) (.ref n.objs.size)>>=_) _ _ _);refine b5 (EY (s:={s with heap:=n.push (O4 "tuple" [x,y].toArray 0)}) (A9 _ z5) (M7 _) λg7 z7 w7=>?_);refine EY (s:={s with heap:=g7}) z7 (by simp) λg8 z8 w8=>?_;have up:∀c o,c≠z->n.get? c=a0 o->g8.get? c=a0 o:=λc o c1 e=>w8.extBut _ _ c1 (w7.extBut _ _ c1 (A9 _ e));let zl:z<n.objs.size:=C4 z5;refine f6 (d0 _ rfl (J g8 _ ⟨⟨c8,z8⟩,?_,(Dz x y (up _ _ j C)),?_,?_,hz.TT,hz.ii,hz.l1,hz.l2⟩ ?_ Z.size (((Z.trans (Fr.push (s:={s with heap:=n}) _ _):Fr (w6 z TO i1 i2) s {s with heap:=n.push (O4 "tuple" [x,y].toArray 0)}).trans (FrOf.set (s:={s with heap:=n.push (O4 "tuple" [x,y].toArray 0)}) w7 j5):Fr (w6 z TO i1 i2) s {s with heap:=g7}).trans (FrOf.set (s:={s with heap:=g7}) w8 j5):Fr (w6 z TO i1 i2) s {s with heap:=g8})))
 .have S:TI≠i1:=λe=>by
   clear J g t B m j1 G Z;subst e;refine c9 hz.s1.cls λo D p=>?_;let d:=DF D hz.ti;rcases p with q|q<;>(rw[q]at d;simp at d)
  have U:TI≠i2:=λe=>by
   clear J i u R m O I Z;subst e;refine c9 hz.s2.cls λo D p=>?_;let d:=DF D hz.ti;rcases p with q|q<;>(rw[q]at d;simp at d)
  exact up _ _ M (L.extBut _ _ hz.TT (I.extBut _ _ U (H.extBut _ _ hz.TT (G.extBut _ _ S (F.extBut _ _ M hz.ti)))))
 .exact j1.at λo e=>up _ o g (L.extBut _ _ t (I.extBut _ _ hz.ii (H.extBut _ _ t e)))
 .exact O.at λo e=>up _ o i (L.extBut _ _ u e)
 .exact w8.extBut _ _ (L0 zl) (w7.extBut _ _ (L0 zl) (y9 _ rfl))
theorem TE{Q:PB->f8->Prop}(S:A.handled=b4)(hz:ZR s.heap .none z TI TO i1 i2 T1 l1 k1 T2 l2 k2)(U:y0 s.heap T1 l1 xs)(L:y0 s.heap T2 l2 ys)(F:xs[k1]?=b4\/ys[k2]?=b4)
 (H:∀M e,(∀b o,b∉w6 z TO i1 i2->s.heap.get? b=a0 o->M.get? b=a0 o)->(∃o,M.get? e=a0 o/\o.cls= .type "StopIteration")->E (.ref e) {s with heap:=M}):
 b9 (d7 prog w) A (Builtin.«zip.__next__» ⟨[.ref z],[]⟩) Q E s:=by
 refine d4 hz.zo λf1 c=>S7 hz.to λa b n=>?_;have g:=hz.s1.ne c (by simp) (by simp);have p:=hz.s2.ne c (by simp) (by simp);have y:TO≠z:=λe=>by clear hz H g p;subst e;let f:=DF c n;simp at f
 let G:∀{h:l5}{k:a6},M5 h T1 i1 l1 k->∀{T:b7}{l:i7}{V:l4 b8},y0 h T l V->l≠i1:=λ{_ _}hi{T l V}hl e=>by
  let I:=hi.cls;ext1 I o m j;exact hl.ne m (by rcases j with q|q<;>rw[q]<;>simp) (by rcases j with q|q<;>rw[q]<;>simp) e
 have i:∀{h:l5}{e:i7}{o N:V6},h.get? e=a0 o->o.cls= .type "StopIteration"->h.get? z=a0 N->N.cls= .type "zip"->e≠z:=λ{h e o N}p1 p2 p3 p4 q=>by
  clear hz H c g p y;subst q;let f:=DF p1 p3;rw[p2,p4]at f;simp at f
 refine(b5 (AZ c rfl (x:=.bool c8) rfl ?_):b9 _ _ (field (.ref z) 2>>=_) _ _ _);refine b5 (AZ c rfl (x:=.ref TI) rfl (b5 (Ce hz.ti rfl (b5 (b5 (AZ c rfl (x:=.none) rfl (f6 (b5 (EN (b5 (AZ c rfl (x:=.ref TO) rfl (b5 (EY c (M7 _) λJ W t=>b5 ?_)))))))))))));simp only[iR,mZ,Dj,HQ];refine b5 (b5 (PD ?_));have B:M5 J T1 i1 l1 k1:=hz.s1.at λo e=>t.extBut _ _ g e;have C:y0 J T1 l1 xs:=U.at λo e=>t.extBut _ _ (U.ne c (by simp) (by simp)) e;cases O:xs[k1]? with
 |none=>
  refine b5 (MV (s:={s with heap:=J}) S B C O λK e r u=>?_);ext c9 u o m j;have X:=r _ _ (C8 g) W;refine EY (s:={s with heap:=K}) X (M7 _) λP z3 v=>H P e (λb o R q=>?_) (d0 o (v.extBut _ _ (i m j X rfl) m) j);let d:b≠z/\b≠TO/\b≠i1/\b≠i2:=by simpa using R
  exact v.extBut _ _ d.1 (r _ _ d.2.2.1 (t.extBut _ _ d.1 q))
 |some x=>
  refine b5 (IE (s:={s with heap:=J}) B C O λK j1 r=>f6 ?_);let D:Dg K TO a b:=r.extBut _ _ (C8 (hz.s1.ne n (by simp) (by simp))) (t.extBut _ _ y n);refine b5 (Ce D rfl (b5 (QZ (s:={s with heap:=K}) D λP to3 v=>b5 (PN (f6 (b5 (b5 (PD (b5 (MV (s:={s with heap:=P}) S (hz.s2.at λo e=>v.extBut _ _ (hz.s2.ne n (by simp) (by simp)) (r.extBut _ _ (C8 hz.ii) (t.extBut _ _ p e))) (L.at λo e=>v.extBut _ _ hz.l2 (r.extBut _ _ (G hz.s1 L) (t.extBut _ _ (L.ne c (by simp) (by simp)) e))) (by rcases F with h|h;rw[O]at h;cases h;exact h:ys[k2]?=b4) λg4 e Y u=>?_))))))))));ext1 u o m j;have Z:=Y _ _ (C8 p) (v.extBut _ _ (C8 y) (r.extBut _ _ (C8 g) W));refine EY (s:={s with heap:=g4}) Z (M7 _) λg5 z5 w5=>H g5 e (λb o R q=>?_) (d0 o (w5.extBut _ _ (i m j Z rfl) m) j);let d:b≠z/\b≠TO/\b≠i1/\b≠i2:=by simpa using R
  exact w5.extBut _ _ d.1 (Y _ _ d.2.2.2 (v.extBut _ _ d.2.1 (r.extBut _ _ d.2.2.1 (t.extBut _ _ d.1 q))))
theorem xi{Q:qVS}{I:i7}(V:∃o,s.heap.get? I=a0 o)(hz:ZR s.heap (G7 (I:a6)) z TI TO i1 i2 T1 l1 k1 T2 l2 k2)(h1:y0 s.heap T1 l1 xs)(W:y0 s.heap T2 l2 ys)(hx:xs[k1]?=a0 x)(hy:ys[k2]?=a0 y)
 (X:∀(M:l5)(T:i7),ZR M (G7 (I:a6)) z TI TO i1 i2 T1 l1 (k1+1) T2 l2 (k2+1)->Dg M T x y->s.heap.objs.size<=T->Fr (w6 z TO i1 i2) s {s with heap:=M}->Q (.ref T) {s with heap:=M}):
 b9 (d7 prog w) A (Builtin.«zip.__next__» ⟨[.ref z],[]⟩) (λp r=>∃v,p= .done (.ret v)/\Q v r) E s:=by
 refine d4 hz.zo λf1 d=>S7 hz.to λa b B=>?_;ext1 V oT L;have C:=hz.s1.ne d (by simp) (by simp);have D:=hz.s2.ne d (by simp) (by simp);let itc:∀{h:l5}{T T':b7}{i l l':i7}{k:a6}{zs:l4 b8},M5 h T i l k->y0 h T' l' zs->l'≠i:=λ{_ _ _ _ _ _ _ _}N hl e=>by
  exact c9 N.cls λo Y O=>hl.ne Y (by rcases O with q|q<;>rw[q]<;>simp) (by rcases O with q|q<;>rw[q]<;>simp) e
 let F:∀{h:l5}{T:b7}{i l:i7}{k:a6}{t:i7}{a b:b8},M5 h T i l k->Dg h t a b->t≠i:=λ{_ _ _ _ _ _ _ _}N hp e=>by
  refine c9 N.cls λo Y O=>?_;clear N;subst e;let j:=DF Y hp;rcases O with q|q<;>(rw[q]at j;simp at j)
 refine(b5 (AZ d rfl (x:=.bool c8) rfl ?_):b9 _ _ (field (.ref z) 2>>=_) _ _ _);refine b5 (AZ d rfl (x:=.ref TI) rfl (b5 (Ce hz.ti rfl ?_)));have G:∀(g:l5),Aj z s.heap g->(∃f,g.get? z=a0 (Oa (G7 (I:a6)) f TI TO))->∀{P:PB->f8->Prop},(∀v r,Q v r->P (.done (.ret v)) r)->
  b9 (d7 prog w) A (JL (.ref i1)) (λZ s1=>b9 (d7 prog w) A (JL (.ref i2)) (λv2 s2=>b9 (d7 prog w) A (newTuple [Z,v2]) (λt s3=>P (.done (.ret t)) s3) E s2) E s1) E {s with heap:=g}:=by
  intro g u ⟨f,J⟩ P hP;refine IE (s:={s with heap:=g}) (hz.s1.at λo e=>u.extBut _ _ C e) (h1.at λo e=>u.extBut _ _ (h1.ne d (by simp) (by simp)) e) hx λg2 j1 K=>IE (s:={s with heap:=g2}) (hz.s2.at λo e=>K.extBut _ _ (C8 hz.ii) (u.extBut _ _ D e)) (W.at λo e=>K.extBut _ _ (itc hz.s1 W) (u.extBut _ _ (W.ne d (by simp) (by simp)) e)) hy λg4 j2 R=>?_;let S:Fr (w6 z TO i1 i2) s {s with heap:=g4}:=((FrOf.set u (j5):Fr (w6 z TO i1 i2) s {s with heap:=g}).trans (FrOf.set (s:={s with heap:=g}) K (k8 _ (k8 _ j5))):Fr (w6 z TO i1 i2) s {s with heap:=g2}).trans (FrOf.set (s:={s with heap:=g2}) R (k8 _ (k8 _ (k8 _ j5))));refine PQ (hP _ _ ?_);let U:∀c o,c≠z->c≠i1->c≠i2->s.heap.get? c=a0 o->(g4.push (O4 "tuple" [x,y].toArray 0)).get? c=a0 o:=λc o c1 c2 c3 e=>A9 _ (R.extBut _ _ c3 (K.extBut _ _ c2 (u.extBut _ _ c1 e)));refine X _ _ ⟨⟨f,A9 _ (R.extBut _ _ (C8 D) (K.extBut _ _ (C8 C) J))⟩,U _ _ (λe=>by clear X C D u J S U;subst e;let j:=DF d hz.ti;simp at j:TI≠z) (F hz.s1 hz.ti) (F hz.s2 hz.ti) hz.ti,(Dz a b (U _ _ (λe=>by clear hz X C D u J S U;subst e;let j:=DF d B;simp at j:TO≠z) (F hz.s1 B) (F hz.s2 B) B)),?_,?_,hz.TT,hz.ii,hz.l1,hz.l2⟩ (y9 _ rfl) S.size
   (S.trans (Fr.push (s:={s with heap:=g4}) _ _))
  .exact j1.at λo e=>A9 _ (R.extBut _ _ hz.ii e)
  .exact j2.at λo e=>A9 _ e
 refine b5 (m:=jY (.ref z)) (b5 (AZ d rfl (x:=G7 (I:a6)) rfl (b5 (ZV (a:=((I:a6):d3).toNat) (o:=oT) (by rw[Q8];exact L) (b5 (AZ d rfl (x:=.bool f1) rfl ?_))))));cases f1 with
 |false=>refine b5 (EY d (by simp) λg J u=>f6 (b5 ?_));rw[<-Gn];simp only[Dj,HQ];refine b5 (b5 (K9 (b5 (v6 (G g u ⟨a8,J⟩ (P:=λp r=>∃v,p= .done (.ret v)/\Q v r) λv r q=>d0 v rfl q) ?_ λn n e=>e))));intro Z s1 hr;refine f6 (f6 (b5 (b5 (K9 (b5 (v6 hr ?_ λn n e=>e))))));intro v2 s2 H;exact f6 (f6 (f6 (b5 (v6 H (λt s3 q=>f6 q) λn n e=>e))))
 |true=>refine f6 (b5 ?_);rw[<-Gn];simp only[Dj,HQ];refine b5 (b5 (K9 (b5 (v6 (G s.heap (PO ..) ⟨a8,d⟩ (P:=λp r=>∃v,p= .done (.ret v)/\Q v r) λv r q=>d0 v rfl q) ?_ λn n e=>e))));intro Z s1 hr;refine f6 (f6 (b5 (b5 (K9 (b5 (v6 hr ?_ λn n e=>e))))));intro v2 s2 H;exact f6 (f6 (f6 (b5 (v6 H (λt s3 q=>f6 q) λn n e=>e))))
theorem br(M:A.handled=b4)(y:∃o,s.heap.get? B=a0 o)(hz:ZR s.heap (G7 (B:a6)) z TI TO i1 i2 T1 l1 k1 T2 l2 k2)(N:y0 s.heap T1 l1 xs)(C:y0 s.heap T2 l2 ys)
 (v:xs[k1]?=b4\/ys[k2]?=b4)(O:∀D e,(∀b o,b∉w6 z TO i1 i2->s.heap.get? b=a0 o->D.get? b=a0 o)->(∃o,D.get? e=a0 o/\o.cls= .type "StopIteration")->E (.ref e) {s with heap:=D}):
 b9 (d7 prog w) A (Builtin.«zip.__next__» ⟨[.ref z],[]⟩) Q E s:=by
 refine d4 hz.zo λR c=>?_;ext1 y W r;let L:∀{h:l5}{T X:b7}{i l S:i7}{k:a6}{Y:l4 b8},M5 h T i l k->y0 h X S Y->S≠i:=λ{_ _ _ _ _ _ _ _}Z hl e=>by
  exact c9 Z.cls λo ho U=>hl.ne ho (by rcases U with q|q<;>rw[q]<;>simp) (by rcases U with q|q<;>rw[q]<;>simp) e
 refine(b5 (AZ c rfl (x:=.bool c8) rfl ?_):b9 _ _ (field (.ref z) 2>>=_) _ _ _);refine b5 (AZ c rfl (x:=.ref TI) rfl (b5 (Ce hz.ti rfl ?_)));have n:∀(g:l5),Aj z s.heap g->∀{P:qVS},
  b9 (d7 prog w) A (JL (.ref i1)) (λV F=>b9 (d7 prog w) A (JL (.ref i2)) P E F) E {s with heap:=g}:=by
  intro g j P;have t:M5 g T1 i1 l1 k1:=hz.s1.at λo e=>j.extBut _ _ (hz.s1.ne c (by simp) (by simp)) e;have u:y0 g T1 l1 xs:=N.at λo e=>j.extBut _ _ (N.ne c (by simp) (by simp)) e;cases G:xs[k1]? with
  |none=>exact MV (s:={s with heap:=g}) M t u G λH e p I=>O H e (λb o J q=>by
   let f:b≠z/\b≠TO/\b≠i1/\b≠i2:=by simpa using J
   exact p _ _ f.2.2.1 (j.extBut _ _ f.1 q)) I
  |some x=>
   refine IE (s:={s with heap:=g}) t u G λH j1 p=>?_;exact MV (s:={s with heap:=H}) M (hz.s2.at λo e=>p.extBut _ _ (C8 hz.ii) (j.extBut _ _ (hz.s2.ne c (by simp) (by simp)) e)) (C.at λo e=>p.extBut _ _ (L hz.s1 C) (j.extBut _ _ (C.ne c (by simp) (by simp)) e)) (by rcases v with h|h;rw[G]at h;cases h;exact h:ys[k2]?=b4) λg4 e w4 I=>O g4 e (λb o J q=>by
    let f:b≠z/\b≠TO/\b≠i1/\b≠i2:=by simpa using J
    exact w4 _ _ f.2.2.2 (p.extBut _ _ f.2.2.1 (j.extBut _ _ f.1 q))) I
 refine b5 (m:=jY (.ref z)) (b5 (AZ c rfl (x:=G7 (B:a6)) rfl (b5 (ZV (a:=((B:a6):d3).toNat) (o:=W) (by rw[Q8];exact r) (b5 (AZ c rfl (x:=.bool R) rfl ?_))))));cases R with
 |false=>refine b5 (EY c (by simp) λg zg j=>f6 (b5 ?_));rw[<-Gn];simp only[Dj,HQ];refine b5 (b5 (K9 (b5 (v6 (n g j (P:=λd d=>k6)) ?_ λd d e=>e))));intro V F K;exact f6 (f6 (b5 (b5 (K9 (b5 (v6 K (λd d q=>q.elim) λd d e=>e))))))
 |true=>refine f6 (b5 ?_);rw[<-Gn];simp only[Dj,HQ];refine b5 (b5 (K9 (b5 (v6 (n s.heap (PO ..) (P:=λd d=>k6)) ?_ λd d e=>e))));intro V F K;exact f6 (f6 (b5 (b5 (K9 (b5 (v6 K (λd d q=>q.elim) λd d e=>e))))))
theorem GS(hz:ZR s.heap f0 z TI TO i1 i2 T1 l1 k1 T2 l2 k2)
 (h:b9 (d7 prog w) A.in1 (Builtin.«zip.__next__» ⟨[.ref z],[]⟩) (λd c=>∃v,d= .done (.ret v)/\Q (a0 v) c) (λe c=>(∃a o,e= .ref a/\c.heap.get? a=a0 o/\o.cls= .type "StopIteration")/\Q b4 c) s):
 b9 (d7 prog w) A (Gc (.ref z)) Q E s:=by
 let g:=hz.zo;ext1 g p f;let k:s.TypeIs (.ref z) "zip":=d0 _ f rfl;refine b5 (jD (HN (name:=Cg "__next__") k mV (Ah mV k F.entry_zip_next (v6 h ?_ ?_) (F.args_zip_next_1 _))))
 .rintro d c l;ext c9 l v rfl i;exact d0 v rfl (f6 i)
 .rintro e c j;obtain⟨a,o,rfl,m,n⟩:=j.1;let i:=j.2;clear j;exact b5 (Jw (T:="StopIteration") (b:=true) (d0 o m n) qC (f6 i))def Fc(T:b7)(l:i7):V6:={cls:=.type (if T then"tuple_iterator" else"list_iterator"),data:=.fields #[.ref l,.int 0 0]}
theorem Nl(a:y0 s.heap T l xs)(b:Q (.ref s.heap.objs.size) {s with heap:=s.heap.push (Fc T l)}):b9 (d7 prog w) A (DV (.ref l)) Q E s:=by
 cases T with
 |false=>exact ML a b
 |true=>exact Wy a b
theorem Oy{h:l5}:M5 (h.push (Fc T l)) T h.objs.size l 0:=by cases T<;>exact v7 _ (y9 _ rfl) rfl rfl
abbrev IP(h:l5)(T1:b7)(l1:i7):l5:=h.push (Fc T1 l1)abbrev Im(h:l5)(T1:b7)(l1:i7)(T2:b7)(l2:i7):l5:=(IP h T1 l1).push (Fc T2 l2)abbrev Hj(h:l5)(T1:b7)(l1:i7)(T2:b7)(l2:i7):l5:=(Im h T1 l1 T2 l2).push {cls:=.type "tuple",data:=.seq #[.ref h.objs.size,.ref (IP h T1 l1).objs.size]}abbrev NN(h:l5)(T1:b7)(l1:i7)(T2:b7)(l2:i7):l5:=(Hj h T1 l1 T2 l2).push {cls:=.type "tuple",data:=.seq #[.none,.none]}abbrev Yg(h:l5)(T1:b7)(l1:i7)(T2:b7)(l2:i7):l5:=(NN h T1 l1 T2 l2).push {cls:=.type "zip",data:=.fields #[.none,.bool c8,.bool c8,.ref (Im h T1 l1 T2 l2).objs.size,.ref (Hj h T1 l1 T2 l2).objs.size]}
theorem qy(b:b7)(a:i7)(f:b7)(c:i7)(xs ys:l4 b8):
 MK (Builtin.«zip.__new__» ⟨[.type "zip",.ref a,.ref c],[]⟩) (λq R s=>y0 s.heap b a xs/\y0 s.heap f c ys/\
  R (.ok (.ret (.ref (NN s.heap b a f c).objs.size))) {s with heap:=Yg s.heap b a f c}):=
 .of_wp λn w A R s h=>by
  obtain⟨k,g,d,l,m⟩:=s;let i:=h.1;let j:=h.2.1;let h:=h.2.2;let p:=sub_zip
  wp_walk using Nl (i:y0 (VA ⟨k,g,d,l,m⟩) b a xs),Nl (j.at λo e=>A9 _ e:y0 (VA ⟨k.push (Fc b a),g,d,l,m⟩) f c ys)
  exact d0 _ rfl h
theorem ut{p:i7->Prop}(c:p z)(d:p TO)(e:p i1)(f:p i2):∀b∈w6 z TO i1 i2,p b:=by intro b a;simp only[K5,J8,X6]at a;rcases a with rfl|rfl|rfl|rfl<;>assumption
theorem Tq{p:i7->Prop}(c:p TI)(d:p z)(e:p TO)(f:p i1)(g:p i2):∀b∈TI::w6 z TO i1 i2,p b:=by
 intro b a;rcases D2 a with rfl|a
 .exact c
 .exact ut d e f g b a
theorem mr(u:y0 s.heap T1 l1 xs)(v:y0 s.heap T2 l2 ys)
 (y:∀g z l m n p,ZR g .none z l m n p T1 l1 0 T2 l2 0->Ext s.heap g->(∀b∈l::w6 z m n p,s.heap.objs.size<=b)->(∀b∈l::w6 z m n p,b<g.objs.size)->Q (.ref z) {s with heap:=g}):
 b9 (d7 prog w) A (call (.type "zip") [.ref l1,.ref l2]) Q E s:=by
 refine oH F.called_zip (by decide) (F.typeCall_zip_2 _ _) (F.newCall_zip_2 _ _) (λt=>F.args_object_init_3 t _ _) F.entry_zip_new (qy T1 l1 T2 l2 xs ys) (m0 u v ?_);let x:=Ext.push (IP s.heap T1 l1) (Fc T2 l2);let q:=Ext.push (Im s.heap T1 l1 T2 l2) {cls:=.type "tuple",data:=.seq #[.ref s.heap.objs.size,.ref (IP s.heap T1 l1).objs.size]};let i:=Ext.push (Hj s.heap T1 l1 T2 l2) {cls:=.type "tuple",data:=.seq #[.none,.none]};let c:=Ext.push (NN s.heap T1 l1 T2 l2) {cls:=.type "zip",data:=.fields #[.none,.bool c8,.bool c8,.ref (Im s.heap T1 l1 T2 l2).objs.size,.ref (Hj s.heap T1 l1 T2 l2).objs.size]};let j:(IP s.heap T1 l1).objs.size=s.heap.objs.size+1:=J7 ..;have k:(Im s.heap T1 l1 T2 l2).objs.size=s.heap.objs.size+2:=by rw[J7,j]
 have d:(Hj s.heap T1 l1 T2 l2).objs.size=s.heap.objs.size+3:=by rw[J7,k]
 let r:(NN s.heap T1 l1 T2 l2).objs.size=s.heap.objs.size+4:=by rw[J7,d]
 let f:∀{a:i7},a<s.heap.objs.size->a≠(Hj s.heap T1 l1 T2 l2).objs.size:=λ{a}h e=>by
  rw[e,d]at h;exact(Nat.not_lt.mpr (G3 _ _) h).elim
 refine⟨(d0 _ (y9 _ rfl) rfl),y _ _ (Im s.heap T1 l1 T2 l2).objs.size (Hj s.heap T1 l1 T2 l2).objs.size s.heap.objs.size (IP s.heap T1 l1).objs.size ?_ ((Ext.push s.heap (Fc T1 l1)).trans (x.trans (q.trans (i.trans c)))) ?_ ?_⟩
 .refine⟨⟨c8,y9 _ rfl⟩,c.2 _ _ (i.2 _ _ (y9 _ rfl)),(Dz _ _ (c.2 _ _ (y9 _ rfl))),
   Oy.at λo e=>c.2 _ _ (i.2 _ _ (q.2 _ _ (x.2 _ _ e))),Oy.at λo e=>c.2 _ _ (i.2 _ _ (q.2 _ _ e)),?_,?_,f u.lt,f v.lt⟩
  .rw[k,d];exact m6 (B8 _)
  .rw[j];exact m6 (B8 _)
 .refine Tq ?_ ?_ ?_ ?_ ?_
  .rw[k];exact G3 _ _
  .rw[r];exact G3 _ _
  .rw[d];exact G3 _ _
  .exact l8 _
  .rw[j];exact G3 _ _
 .rw[(by rw[J7,r]:(Yg s.heap T1 l1 T2 l2).objs.size=s.heap.objs.size+5)];refine Tq ?_ ?_ ?_ ?_ ?_
  .rw[k];exact Gi (by decide) _
  .rw[r];exact B8 _
  .rw[d];exact Gi (by decide) _
  .exact Qw (by decide)
  .rw[j];exact Gi (by decide) _
section
variable(X:Fx)(c:Cx)(n:a6)(h:l5)
def N0(d:b0)(T:b7)(l:i7):Prop:=(T=a8/\∃ds,d= .B ds/\V X.M c n h (.B ds) (.ref l))\/(T=c8/\∃b,d= .ref b/\b<n/\l=c.κ b)
inductive Ao:It->i7->a7 i7->Prop
 |seq {d:b0} {k:a6} {I:i7} {T:b7} {l:i7}:N0 X c n h d T l->M5 h T I l k->Ao (.seq d k) I [I]
 |keys {b k m ep:a6} {I:i7}:b<n->h.IsKeyIter I (c.κ b) k m ep->Ao (.keys b k m ep) I [I]
 |text {x:n4} {t:Dm} {k:a6} {l:a7 a6} {I:i7}:h.IsStrIter I "str_ascii_iterator" x t k->x.cps.toList.drop k=l->Ao (.text l) I [I]
 |range {i m:d3} {I:i7}:mD h I i (m - i) 1->Ao (.range i m) I [I]
 |enum {k b:a6} {I J:i7} {old:b8}:b<n->IsEnum h I J k old->h.IsListIter J (c.κ b) k->I≠J->Ao (.enum k (.ref b)) I [I,J]
 |zip {a b:b0} {k:a6} {I TI TO i1 i2 l1 l2:i7} {T1 T2:b7}:N0 X c n h a T1 l1->N0 X c n h b T2 l2->ZR h .none I TI TO i1 i2 T1 l1 k T2 l2 k->Ao (.zip a b k) I (TI::w6 I TO i1 i2)
inductive FH:It->i7->a7 i7->b8->Prop
 |seq {d:b0} {k:a6} {I:i7} {T:b7} {l:i7} (u:b8):N0 X c n h d T l->M5 h T I l k->FH (.seq d k) I [I] u
 |keys {b k m ep:a6} {I:i7} (u:b8):b<n->h.IsKeyIter I (c.κ b) k m ep->FH (.keys b k m ep) I [I] u
 |text {x:n4} {t:Dm} {k:a6} {l:a7 a6} {I:i7} (u:b8):h.IsStrIter I "str_ascii_iterator" x t k->x.cps.toList.drop k=l->FH (.text l) I [I] u
 |range {i m:d3} {I:i7} (u:b8):mD h I i (m - i) 1->FH (.range i m) I [I] u
 |enum {k b:a6} {I J T:i7} {old:b8}:b<n->IsEnumOut h I J k old T->h.IsListIter J (c.κ b) k->I≠J->FH (.enum k (.ref b)) I [I,J] (.ref T)
 |zip {a b:b0} {k:a6} {I TI TO i1 i2 l1 l2 T:i7} {T1 T2:b7}:N0 X c n h a T1 l1->N0 X c n h b T2 l2->ZR h (G7 (T:a6)) I TI TO i1 i2 T1 l1 k T2 l2 k->FH (.zip a b k) I (TI::w6 I TO i1 i2) (.ref T)
end
def Cx.hide(c:Cx)(fp:a7 i7):Cx:=⟨c.κ,λb=>c.P b\/b∈fp⟩
section
variable{c:Cx}{s s':f8}{fp:a7 i7}
theorem FV{P':i7->Prop}(k:∀a b e,¬c.P a->h.get? a=a0 (x9 b e)->¬P' a):∀(d:b0)(v:b8),V base c n h d v->V base ⟨c.κ,P'⟩ n h d v:=by
 intro d;exact(b0.rec (motive_1:=λd=>∀v,V base c n h d v->V base ⟨c.κ,P'⟩ n h d v) (motive_2:=λg=>∀i,Vs base c n h g i->Vs base ⟨c.κ,P'⟩ n h g i)
  (λf x=>x) (λf f x=>x) (λf f x=>x) (λf f x=>x) (λg l v j=>G9 j λa b e q p o r=>BQ a b e q (k a b e p o) o (l _ r)) (λf f x=>x) (λf f x=>x)
  (λf x=>x) (λd g m s i j=>o0 j λv r e t u=>E8 v r e (m _ t) (s _ u)) d)
theorem Lo{P':i7->Prop}(i:∀a b e,¬c.P a->h.get? a=a0 (x9 b e)->¬P' a):∀(g:a7 b0)(vs:a7 b8),Vs base c n h g vs->Vs base ⟨c.κ,P'⟩ n h g vs
 |[],_,x=>x
 |d::g,_,f=>by ext o0 f v r e j k;exact E8 v r e (FV i d v j) (Lo i g r k)
theorem zX{κ:a6->i7}{P:i7->Prop}(e:∀a,P a->P' a):∀(d:b0)(v:b8),V base ⟨κ,P'⟩ n h d v->V base ⟨κ,P⟩ n h d v:=
 λd v f=>FV (c:=⟨κ,P'⟩) (P':=P) (λa b b g b h=>g (e a h)) d v f
theorem Uw(f:∀b∈fp,s.heap.objs.size<=b):∀a d e,¬c.P a->s.heap.get? a=a0 (x9 d e)->¬(c.hide fp).P a:=λa d e g i q=>q.elim g λh=>(P9 (f a h) (C4 i)).elim
theorem Ot(x:Fr [] s s')(e:∀b∈fp,s.heap.objs.size<=b)(f:V base c n s.heap d v):V base (c.hide fp) n s'.heap d v:=
 BY (λb a a a q=>x.keep b _ J8 q) (FV (c:=c) (Uw e) d v f)
end
section
variable{X:Fx}{c c':Cx}{st st':St}{s s':f8}{F:i7->Prop}{fp:a7 i7}{it:It}{I:i7}
theorem N0.step(R:i8 X c st s)(x:k7 c st s c' st' s' F)(e:∀b,F b->c.P b\/s.heap.objs.size<=b)(h:N0 X c st.n s.heap d T l):N0 X c' st'.n s'.heap d T l:=by
 rcases h with⟨rfl,f,rfl,g⟩|⟨rfl,b,rfl,a,rfl⟩
 .exact .inl ⟨rfl,f,rfl,x.V R e g⟩
 .exact .inr ⟨rfl,b,rfl,j7 a x.n,(x.aG b a).symm⟩
theorem Ao.step(R:i8 X c st s)(x:k7 c st s c' st' s' F)(hF:∀b,F b->c.P b\/s.heap.objs.size<=b)(h1:∀b∈fp,c.P b)(h2:∀b∈fp,¬F b)(h:Ao X c st.n s.heap it I fp):Ao X c' st'.n s'.heap it I fp:=by
 let k:∀b∈fp,∀o,s.heap.get? b=a0 o->s'.heap.get? b=a0 o:=λb hb o ho=>x.keep b o ho (λa ha e=>R.priv a ha (e▸h1 b hb)) (h2 b hb)
 induction h with
 |seq hv hi=>exact .seq (hv.step R x hF) (hi.at (k _ j5))
 |keys hb hi=>rw[<-x.aG _ hb]at hi;ext c9 hi o ho r;exact .keys (j7 hb x.n) (d0 o (k _ j5 _ ho) r)
 |text hi hl=>ext c9 hi o ho r;exact .text (d0 o (k _ j5 _ ho) r) hl
 |range hi=>exact .range (k _ j5 _ hi)
 |enum hb he hi hne=>rw[<-x.aG _ hb]at hi;ext1 hi o ho r;exact .enum (j7 hb x.n) (k _ j5 _ he) (d0 o (k _ (k8 _ j5) _ ho) r) hne
 |zip ha hb hz=>refine .zip (ha.step R x hF) (hb.step R x hF) ?_;let zz:=hz.zo;ext1 zz f1 zo;exact S7 hz.to λp q to=>⟨⟨f1,k _ (k8 _ j5) _ zo⟩,k _ j5 _ hz.ti,(Dz p q (k _ (k8 _ (k8 _ j5)) _ to)),hz.s1.at (k _ (k8 _ (k8 _ (k8 _ j5)))),hz.s2.at (k _ (by simp)),hz.TT,hz.ii,hz.l1,hz.l2⟩
theorem N0.items(R:i8 X c st s)(h:N0 X c st.n s.heap d T l)(g:st.items? d=a0 xs):∃f,y0 s.heap T l f/\Vs X.M c st.n s.heap xs f.toList:=by
 rcases h with⟨rfl,t,rfl,n⟩|⟨rfl,b,rfl,o,rfl⟩
 .let g:=C5 g;subst g;ext G9 n a f e i u j k;cases i;exact d0 f ⟨_,j,rfl,_,rfl⟩ k
 .refine M6 (R.list (d:=.ref b) (v:=.ref (c.κ b)) ⟨o,rfl⟩ g) λa f e i p j k q m=>?_;ext1 m r w;clear p j k;cases i;exact d0 f ⟨_,q,rfl,_,rfl⟩ r
theorem N0.of(R:i8 X c st s)(g:V X.M c st.n s.heap d v)(h:st.items? d=a0 xs):∃T l,v= .ref l/\N0 X c st.n s.heap d T l/\∃f,y0 s.heap T l f/\Vs X.M c st.n s.heap xs f.toList:=by
 refine FM (R.items g h) ?_;rintro a f e rfl i m;clear h;rcases m with⟨j,k,rfl⟩|⟨b,rfl,n,rfl,j,k,o⟩
 .exact⟨a8,a,rfl,.inl ⟨rfl,xs,rfl,g⟩,f,⟨_,j,rfl,_,rfl⟩,i⟩
 .exact⟨c8,_,rfl,.inr ⟨rfl,b,rfl,n,rfl⟩,f,⟨_,k,rfl,_,rfl⟩,i⟩
end
section
variable{prog:A5}{X:Fx}{A:B7}{E:qVS}{c:Cx}{st:St}{s:f8}{fp:a7 i7}{it:It}{I:i7}
theorem Yd{Q:j0 b8->f8->Prop}(hi:M5 s.heap T i l k)(b:y0 s.heap T l xs)(c:xs[k]?=a0 x)
 (d:∀a,M5 a T i l (k+1)->Aj i s.heap a->Q (a0 x) {s with heap:=a}):b9 (d7 prog X.w) A (Gc (.ref i)) Q E s:=by
 cases T with
 |false=>exact Vm hi b c d
 |true=>exact pR hi b c d
theorem eN{Q:j0 b8->f8->Prop}(a:A.handled=b4)(hi:M5 s.heap T i l k)(b:y0 s.heap T l xs)(c:xs[k]?=b4)
 (d:∀e,MM i s.heap e->Q b4 {s with heap:=e}):b9 (d7 prog X.w) A (Gc (.ref i)) Q E s:=by
 cases T with
 |false=>exact iH a hi b c d
 |true=>exact wpAny_pyNext_tuple_end a hi b c d
theorem Hb{base:l5}{n:a6}{h:l5}{a:a7 b0}{vs:l4 b8}(e:Vs base c n h a vs.toList){i:a6}(b:a[i]?=b4):vs[i]?=b4:=by let d:=Vs.length e;rw[A0]at d;rw[PM]at b;rw[l4.getElem?_eq_none_iff];exact aT d b
def GO:a7 (b0×b0)->a7 Af->a7 (SI×b8)
 |x::xs,e::es=>(y6 x.1,e.val)::GO xs es
 |_,_=>[]
theorem wu:∀{xs:a7 (b0×b0)}{es:a7 Af},t5 w base c n h xs es->(∀x∈xs,leaf x.1=a8)->Pairs (W9 prog w) es (GO xs es):=by
 intro d
 induction d with
 |nil=>intro es e f;rw[show es=[] from e];exact .nil
 |cons x xs g=>intro f a b;ext C7 a e r q i l m j;subst q;exact .cons (Fa (b x j5) i) rfl (g j λy k=>b y (k8 _ k))
theorem HY:∀{xs:a7 (b0×b0)}{es:a7 Af},t5 w base c n h xs es->(GO xs es).length=xs.length:=by
 intro d
 induction d with
 |nil=>intro es e;rw[show es=[] from e];rfl
 |cons x xs f=>intro b a;ext C7 a e r q b b b g;subst q;exact t0 a6.succ (f g)
theorem tU:∀{xs:a7 (b0×b0)}{es:a7 Af},t5 w base c n h xs es->∀(i:a6)(x:b0×b0),xs[i]?=a0 x->∃v,(GO xs es)[i]?=a0 (y6 x.1,v):=by
 intro f
 induction f with
 |nil=>intro es e i x a;simp at a
 |cons y xs g=>
  intro d b i x a;ext C7 b e r q d d d j;subst q;cases i with
  |zero=>simp only[WX,At]at a;subst a;exact⟨e.val,rfl⟩
  |succ i=>exact g j i x a
theorem wq:∀{xs:a7 (b0×b0)}{es:a7 Af},t5 w base c n h xs es->(GO xs es).map (·.1)=xs.map λx=>y6 x.1:=by
 intro d
 induction d with
 |nil=>intro es e;rw[show es=[] from e];rfl
 |cons x xs f=>intro b a;ext C7 a e r q b b b g;subst q;exact t0 (_::·) (f g)
theorem cI(b:leaf d=a8)(a:KI (y6 d) key=a8):V base c n h d key:=
 ER (P:=λd=>KI (y6 d) key=a8->V base c n h d key) b (λi a=>d4 (Fb a) λt e=>rwE e (V.int i t)) (λl a=>d4 (EW a) λt e=>rwE e (V.str l t)) a
theorem ON(r:h.get? a=a0 (E3 es ep))(k:t5 w base c n h xs es.toList)(s:DK xs)(b:∀x∈xs,leaf x.1=a8):
 h.DictAt (W9 prog w) a (GO xs es.toList) ep:=by
 refine⟨_,es,r,m0 rfl rfl rfl,rfl,?_,wu k b,?_⟩
 .intro e d;refine d4 (Array.mem_iff_getElem.mp d) λi m=>d4 m ?_;clear m;clear d;rintro o rfl;have f:i<xs.length:=by rw[<-(t5.len k)];simpa using o
  refine BS (t5.get k i xs[i] (by simp[f])) λt l u y v=>?_;let z:t=es[i]:=by rw[W6]at l;simpa[o]using l.symm
  clear l;subst z;have g:=b xs[i] (EO f);exact d0 (y6 xs[i].1) (Fa g u) (by rw[v,GT g])
 .rw[wq k];unfold pV;rw[Y6];exact Gb (λp q j e=>by
   have z:=(Ts (b _ p) (b _ q)).mp e;rw[((Lq (b _ p) (b _ q)).mpr z)]at j;cases j.1) s
def lm(X:Fx)(c:Cx)(st:St)(I:i7)(fp:a7 i7)(r:j0 (b0×It))(r':j0 b8)(s':f8):Prop:=match r with
 |none=>r'=b4
 |some (d,it')=>∃u,r'=a0 u/\V X.M c st.n s'.heap d u/\FH X c st.n s'.heap it' I fp u
theorem N0.fr(x:Fr fp s s')(a:∀b∈fp,c.P b)(h:N0 X c n s.heap d T l):N0 X c n s'.heap d T l:=by
 rcases h with⟨rfl,e,rfl,f⟩|h
 .exact .inl ⟨rfl,e,rfl,x.V a f⟩
 .exact .inr h
set_option tactic.hygienic true in
theorem NU(P:A.handled=b4)(R:i8 X c st s)(S:∀b∈fp,c.P b)(hI:Ao X c st.n s.heap it I fp){r:j0 (b0×It)}(h:it.next st=a0 r){Q:j0 b8->f8->Prop}
 (w:∀r' s',Fr fp s s'->lm X c st I fp r r' s'->Q r' s'):b9 (d7 prog X.w) A (Gc (.ref I)) Q E s:=by
 induction hI with
 |seq hv B=>
  rename_i d k I T l;delta It.next at h;dsimp only at h;cases M:st.items? d with
  |none=>rw[M]at h;cases h
  |some xs=>
   rw[M]at h;simp only[Au,At]at h;refine c9 (hv.items R M) λitems L H=>?_;cases g:xs[k]? with
   |none=>rw[g]at h;subst h;refine W2 (eN P B L (Hb H g) λu n p=>w _ _ (Fr.ext n j5 p s.toks) rfl)
   |some y=>rw[g]at h;subst h;refine c9 (Vs_get? H g) λv U Y=>Yd B L U λu f C=>?_;let F:=FrOf.set C j5;exact w _ _ F (v7 v rfl (F.V S Y) (.seq v (hv.fr F S) f))
 |keys G B=>
  rename_i b k m ep I;delta It.next at h;dsimp only at h;rw[g0 G]at h;cases hs:st.h b with
  |D es ep'=>
   rw[hs]at h;dsimp only at h;by_cases hc:es.length=m/\ep'=ep/\(es.all λe=>leaf e.1)=a8
   .rw[g0 hc]at h;ext u0 hc rfl rfl Z;rw[V8]at Z;let ho:=R.obj b G;rw[hs]at ho;ext BS ho ents ho n hd p;have hD:=ON (prog:=prog) ho n hd Z;rw[<-HY n]at B;injection h with h;cases g:es[k]? with|none=>rw[g]at h;subst h;refine W2 (wpAny_pyNext_dict_end P B hD ?_ λu hx' D=>w _ _ (Fr.ext hx' j5 D s.toks) rfl);rw[PM]at g ⊢;rw[HY n];exact g|some y=>rw[g]at h;subst h;let zz:=tU n k y g;ext1 zz v hv;refine wpAny_pyNext_dict_item B hD hv λkey u hkey f C=>?_;rw[HY n]at f;refine w _ _ (FrOf.set C (j5):Fr [I] s {s with heap:=u}) (v7 key rfl ?_ (.keys key G f));have hly:=Z y (p8 g);exact cI hly hkey
   .rw[j4 hc]at h;cases h
  |_=>rw[hs]at h;cases h
 |text B L=>
  rename_i x t k l I;delta It.next at h;dsimp only at h;let h:=C5 h;cases l with
  |nil=>simp only at h;subst h;refine W2 (wpAny_pyNext_ascii_end P B ?_ λu n p=>w _ _ (Fr.ext n j5 p s.toks) rfl);rw[<-W6];rw[Qb]at L;rw[PM];exact L
  |cons y l=>
   simp only at h;subst h;have M:x.cps[k]?=a0 y:=by rw[<-W6];let j:=t0 (λz=>z[0]?) L;simpa using j
   refine wpAny_pyNext_ascii_item B M λu f C=>w _ _ (Fr.same C j5 _:Fr [I] s {s with heap:=u,toks:=s.toks+1}) (v7 _ rfl (V.str [y] _) (.text _ f ?_));let j:=t0 (LL 1) L;simpa using j
 |range B=>
  rename_i i m I;delta It.next at h;dsimp only at h;let h:=C5 h;by_cases hm:i<m
  .rw[g0 hm]at h;subst h;refine wpAny_pyNext_range_item B (d3.sub_pos_of_lt hm) λu f C=>w _ _ (Fr.same C j5 _:Fr [I] s {s with heap:=u,toks:=s.toks+1}) (v7 _ rfl (V.int i _) (.range _ ?_));rw[(iJ _ _ 1)]at f;exact f
  .rw[j4 hm]at h;subst h;exact W2 (wpAny_pyNext_range_end P B (d3.sub_nonpos_of_le (Int.not_lt.mp hm)) λu n p=>w _ _ (Fr.ext n j5 p s.toks) rfl)
 |enum G n B hne=>
  rename_i k b I J old;delta It.next at h;dsimp only at h;cases M:st.items? (.ref b)with
  |none=>rw[M]at h;cases h
  |some xs=>
   rw[M]at h;simp only[Au,At]at h;refine c9 (N0.items R (T:=false) (l:=c.κ b) (.inr ⟨rfl,b,rfl,G,rfl⟩) M) λitems L H=>?_;cases g:xs[k]? with
   |none=>rw[g]at h;subst h;exact W2 (wpAny_pyNext_enum_end P n B L (Hb H g) λu hx' p=>w _ _ (Fr.ext hx' (k8 _ j5) p s.toks) rfl)
   |some y=>
    rw[g]at h;subst h;refine c9 (Vs_get? H g) λv U Y=>wpAny_pyNext_enum_item n B L U hne λu he' f ht' p K=>?_;let F:Fr [I,J] s {s with heap:=u,toks:=s.toks+1}:=⟨λq o w e=>by
     let j:q≠I/\q≠J:=by simpa using w
     exact K q o j.1 j.2 e,by rw[p];exact N8 _,rfl,rfl⟩
    refine w _ _ F (v7 _ rfl (V.B (Sw R) ht' ⟨_,_,rfl,V.int _ _,_,_,rfl,F.V S Y,rfl⟩) (.enum G he' f hne))
 |zip ha G p=>
  rename_i a b k I TI TO i1 i2 l1 l2 T1 T2;delta It.next at h;dsimp only at h;cases N:st.items? a with
  |none=>rw[N]at h;cases h
  |some xs=>
   cases hxb:st.items? b with
   |none=>rw[N,hxb]at h;cases h
   |some ys=>
    rw[N,hxb]at h;simp only[Dk,Au,At]at h;refine c9 (ha.items R N) λia hla hva=>c9 (G.items R hxb) λib hlb hvb=>?_;have W:∀{s'},Fr (w6 I TO i1 i2) s s'->Fr (TI::w6 I TO i1 i2) s s':=λx=>x.z λb G=>k8 _ G;cases g:xs[k]? with
    |none=>rw[g]at h;simp only at h;subst h;refine W2 (GS p (TE (A:=A.in1) P p hla hlb (.inl (Hb hva g)) λu e K n=>⟨(Q6 e _ rfl n.choose_spec),λD=>w _ _ (W ⟨K,D,rfl,rfl⟩) rfl⟩))
    |some y=>
     cases O:ys[k]? with
     |none=>rw[g,O]at h;simp only at h;subst h;refine W2 (GS p (TE (A:=A.in1) P p hla hlb (.inr (Hb hvb O)) λu e K n=>⟨(Q6 e _ rfl n.choose_spec),λD=>w _ _ (W ⟨K,D,rfl,rfl⟩) rfl⟩))
     |some y2=>rw[g,O]at h;simp only at h;subst h;refine c9 (Vs_get? hva g) λv1 p1 p2=>c9 (Vs_get? hvb O) λv2 q1 q2=>GS p (YU (A:=A.in1) p hla hlb p1 q1 λu T D ht' hT F=>w _ _ (W F) (v7 _ rfl ?_ (.zip (ha.fr (W F) S) (G.fr (W F) S) D)));refine V.B (λq=>(P9 hT (R.pold _ q).2).elim) ht' ⟨_,_,rfl,(W F).V S p2,_,_,rfl,(W F).V S q2,rfl⟩def ZX(it:It)(target:PySem.Expr):Prop:=(∃id pos,target= .Name id pos/\(match it with| .enum ..=>k6| .zip ..=>k6|_=>True))\/∃elts k pos,target= .Tuple elts k pos
theorem NA{Q:Ay->f8->Prop}(ho:s.heap.get? I=a0 o)
 (hc:∀n,o.cls= .type n->(["enumerate","zip","dict_itemiterator","dict_reverseitemiterator","odict_iterator","itertools.zip_longest","itertools.pairwise"].contains n)=c8)(hQ:Q () s):
 b9 (d7 prog X.w) A (VN (.Tuple elts x1 pos) (.ref I) u) Q E s:=by
 cases u<;>first|exact f6 hQ|skip
 refine b5 (WU ho ?_);clear ho;cases o with
 |mk cls dict data slots=>
  cases cls with
  |type n=>cases data with|fields vs=>dsimp only;rw[hc n rfl,b7.false_and];exact f6 hQ|_=>exact f6 hQ
  |_=>exact f6 hQ
set_option tactic.hygienic true in
theorem cL(hp:∀b∈fp,c.P b)(hO:FH X c n s.heap it I fp u)(ht:ZX it target){Q:Ay->f8->Prop}(hq:∀s',Fr fp s s'->Ao X c n s'.heap it I fp->Q () s'):
 b9 (d7 prog X.w) A (VN target (.ref I) u) Q E s:=by
 rcases ht with⟨id,pos,rfl,hne⟩|⟨elts,k,pos,rfl⟩
 .refine f6 (hq s (Fr.refl _ _) ?_)
  induction hO with
  |seq _ hv hi=>exact .seq hv hi
  |keys _ hb hi=>exact .keys hb hi
  |text _ hi hl=>exact .text hi hl
  |range _ hi=>exact .range hi
  |enum=>exact hne.elim
  |zip=>exact hne.elim
 .induction hO with
  |seq _ hv hi=>refine c9 hi.cls λo ho hc=>NA ho (λn hn=>?_) (hq s (Fr.refl _ _) (.seq hv hi));rcases hc with q|q<;>(rw[q]at hn;cases hn;decide)
  |keys _ hb hi=>exact y3 (id hi) λo ho hc w0=>NA ho (λn hn=>by rw[hc]at hn;cases hn;decide) (hq s (Fr.refl _ _) (.keys hb hi))
  |text _ hi hl=>exact y3 (id hi) λo ho hc w0=>NA ho (λn hn=>by rw[hc]at hn;cases hn;decide) (hq s (Fr.refl _ _) (.text hi hl))
  |range _ hi=>exact NA hi (λn hn=>by cases hn;decide) (hq s (Fr.refl _ _) (.range hi))
  |enum hb he hi hne=>exact wpAny_letOwnedTupleGo_enum he λh' he' hs'=>hq _ (FrOf.set hs' j5) (.enum hb he' (hi.extBut hs'.extBut (C8 hne)) hne)
  |zip ha hb hz=>
   rename_i a b k I TI TO i1 i2 l1 l2 T T1 T2;refine d4 hz.zo λf1 zo=>b5 (WU zo ?_);refine(?_:b9 _ _ (if(["enumerate","zip","dict_itemiterator","dict_reverseitemiterator","odict_iterator","itertools.zip_longest","itertools.pairwise"].contains "zip"&&
    (#[G7 (T:a6),.bool f1,.bool c8,.ref TI,.ref TO])[0]?==a0 (G7 (T:a6)))=a8 then _ else _) Q E s)
   refine Fo (by simp) (Ja (EY zo (M7 _) λh' zo' hs'=>?_));let F1:=FrOf.set hs' (k8 _ j5);exact S7 hz.to λp q to=>hq _ F1 (.zip (ha.fr F1 hp) (hb.fr F1 hp) ⟨⟨f1,zo'⟩,hs'.extBut _ _ (λe=>by clear hp hq zo' hs' F1;subst e;let d:=DF zo hz.ti;simp at d:TI≠I) hz.ti,(Dz p q (hs'.extBut _ _ (λe=>by clear hz hp hq zo' hs' F1;subst e;let d:=DF zo to;simp at d:TO≠I) to)),hz.s1.at λo e=>hs'.extBut _ _ (hz.s1.ne zo (by simp) (by simp)) e,hz.s2.at λo e=>hs'.extBut _ _ (hz.s2.ne zo (by simp) (by simp)) e,hz.TT,hz.ii,hz.l1,hz.l2⟩)
theorem N0.hide(x:Fr [] s s')(a:∀b∈fp,s.heap.objs.size<=b)(h:N0 X c n s.heap d T l):N0 X (c.hide fp) n s'.heap d T l:=by
 rcases h with⟨rfl,e,rfl,f⟩|h
 .exact .inl ⟨rfl,e,rfl,Ot x a f⟩
 .exact .inr h
inductive GM (X:Fx) (c:Cx) (st:St) (s:f8) (it:It) (v:b8) (s':f8):Prop
 |mk (I:i7) (fp:a7 i7) (e:v= .ref I) (F:Fr [] s s') (n:∀b∈fp,s.heap.objs.size<=b/\b<s'.heap.objs.size) (h:Ao X (c.hide fp) st.n s'.heap it I fp)theorem FX(o:V6)(t:a6):Fr [] s {s with heap:=s.heap.push o,toks:=t}:=⟨λa a a e=>A9 _ e,by rw[J7];exact N8 _,rfl,rfl⟩
theorem Id(h:l5)(o:V6):∀b∈[h.objs.size],h.objs.size<=b/\b<(h.push o).objs.size:=by
 intro b c;let a:b=h.objs.size:=by simpa using c
 clear c;subst a;rw[J7];exact⟨l8 _,B8 _⟩theorem ZN(hs:N0 X c st.n s.heap d T l)(e:y0 s.heap T l xs){Q:qVS}(f:∀v a,GM X c st s (.seq d 0) v a->Q v a):b9 (d7 prog X.w) A (DV (.ref l)) Q E s:=by refine Nl e (f _ _ ⟨_,_,rfl,FX _ s.toks,Id _ _,.seq (hs.hide (FX (Fc T l) s.toks) λb g=>(Id s.heap (Fc T l) b g).1) Oy⟩)
theorem vJ(R:i8 X c st s)(hv:V X.M c st.n s.heap d v)(h:BU d st=a0 it){Q:qVS}(hq:∀v s',GM X c st s it v s'->Q v s'):b9 (d7 prog X.w) A (DV v) Q E s:=by
 cases d with
 |str l=>refine k9 (V0 h) λhl h=>?_;cases h;ext d4 hv t rfl;refine wpAny_pyIter_ascii (by simpa[C9]using hl) (hq _ _ ⟨_,_,rfl,FX _ s.toks,Id _ _,.text (k:=0) (v7 _ (y9 _ rfl) rfl rfl) (by simp[C9])⟩)
 |B ds=>cases(C5 h);refine o0 (N0.of R hv (xs:=ds) rfl) ?_;clear hv;rintro T l rfl hs rr;ext1 rr items hl w0;exact ZN hs hl hq
 |ref a=>
  refine k9 (V0 h) λha h=>?_;cases hs:st.h a with
  |D es ep=>rw[hs]at h;refine k9 (V0 h) λhlf h=>?_;rw[V8]at hlf;cases h;let ho:=R.obj a ha;rw[hs]at ho;ext BS ho ents ho he hd hz;ext1 hv w0 rfl;refine wpAny_pyIter_dict (Hk R ha) (ON (prog:=prog) ho he hd hlf) (hq _ _ ⟨_,_,rfl,FX _ s.toks,Id _ _,.keys ha (v7 _ (y9 _ rfl) rfl ?_)⟩);rw[HY he];rfl
  |L xs=>rw[hs]at h;cases(C5 h);refine o0 (N0.of R hv (xs:=xs) (G5 ha (by rw[hs]))) ?_;clear hv;rintro T l rfl hsv rr;ext1 rr items hl w0;exact ZN hsv hl hq
  |_=>rw[hs]at h;cases h
 |_=>cases h
set_option tactic.hygienic true in
theorem Kb(hI:Ao X c n s.heap it I fp){Q:qVS}(h:Q (.ref I) s):b9 (d7 prog X.w) A (DV (.ref I)) Q E s:=by
 induction hI with
 |seq hv hi=>
  rename_i T l;clear hv;cases T with
  |false=>exact wpAny_pyIter_listiter hi h
  |true=>exact wpAny_pyIter_tupleiter hi h
 |keys hb hi=>exact wpAny_pyIter_keyiter hi h
 |text hi hl=>exact wpAny_pyIter_striter_ascii hi h
 |range hi=>exact wpAny_pyIter_rangeiter hi h
 |enum hb he hi hne=>exact wpAny_pyIter_enum he h
 |zip ha hb hz=>rename_i a b k I TI TO i1 i2 l1 l2 T1 T2;let zz:=hz.zo;ext1 zz f1 zo;let hT:s.TypeIs (.ref I) "zip":=d0 _ zo rfl;refine Vi hT oD (Ah oD hT F.entry_zip_iter ?_ (F.args_zip_iter_1 _));exact f6 ⟨_,rfl,"zip",_,hT,F.slot_zip_next.lookup,h⟩
theorem Oo{n:d3}(h0:0<=n)(h1:n<=j8):jS 0 n 1=a8/\UV 0 n 1=n:=by
 let e:UV 0 n 1=n:=by refine G5 (by decide) ?_;rw[lC];split<;>(first|exact uC|exact(lM (Int.not_lt.mp ‹_›) h0).symm)
 refine⟨?_,e⟩;unfold jS;rw[e];let hb:(j8:d3)<2 ^ 63:=by decide
 simp only[M',C2,C3,kH];refine⟨⟨⟨⟨by decide,ZA h0 hb h1⟩,by decide⟩,ZA h0 hb h1⟩,.inr (G5 (by decide) ?_)⟩;try with_reducible rfl
 simp only[C2,C3];exact vl h0 hb h1
theorem dI{Q:qVS}(b:∀r a,Fr [] s a->(∃t u v,Wo a.heap r 0 n 1 t u v)->Q (.ref r) a):b9 (d7 prog X.w) A (call (.type "range") [.int n t]) Q E s:=
 call_range_1 (b _ _ (FX _ _) ⟨_,_,_,y9 _ rfl⟩)theorem sX{n:d3}{r:i7}{t:Dm}(a:0<=n)(b:n<=j8)(e:Wo s.heap r 0 n 1 t u v){Q:qVS}(f:∀v d,GM X c st s (.range 0 n) v d->Q v d):b9 (d7 prog X.w) A (DV (.ref r)) Q E s:=by refine wpAny_pyIter_range e (Oo a b).1 (f _ _ ⟨_,_,rfl,FX _ s.toks,Id _ _,.range ?_⟩);rw[(Oo a b).2,d3.sub_zero];exact y9 _ rfl
theorem zR(R:i8 X c st s)(j:V X.M c st.n s.heap d v)(h:st.list? d=a0 xs){Q:qVS}(n:∀v k,GM X c st s (.enum 0 d) v k->Q v k):
 b9 (d7 prog X.w) A (call (.type "enumerate") [v]) Q E s:=by
 refine M6 (R.list j h) ?_;clear j h;rintro a i e rfl p f rfl r g;ext1 g f f;refine call_enumerate_list ⟨_,r,rfl,_,rfl⟩ λx t u l w=>n _ _ ⟨_,[s.heap.objs.size+1,s.heap.objs.size],rfl,⟨λb o f q=>w b o q,by rw[l];exact G3 _ _,rfl,rfl⟩,?_,.enum p t u (L0 (B8 _))⟩;intro b m;simp only[K5,J8,X6]at m;rw[l];rcases m with rfl|rfl
 .exact⟨G3 _ _,B8 _⟩
 .exact⟨l8 _,Qw (by decide)⟩
theorem ZT(R:i8 X c st s)(i:V X.M c st.n s.heap a va)(e:V X.M c st.n s.heap b vb)(n:st.items? a=a0 xs)(p:st.items? b=a0 ys){Q:qVS}
 (r:∀v j,GM X c st s (.zip a b 0) v j->Q v j):b9 (d7 prog X.w) A (call (.type "zip") [va,vb]) Q E s:=by
 refine o0 (N0.of R i n) ?_;clear i;rintro D F rfl t d;ext1 d u k f;refine o0 (N0.of R e p) ?_;clear e;rintro G H rfl w d;ext1 d x l f;refine mr k l λy z I J u x B m g C=>?_;let h:Fr [] s {s with heap:=y}:=⟨λb o f q=>m.2 b o q,m.1,rfl,rfl⟩;exact r _ _ ⟨z,_,rfl,h,λb e=>⟨g b e,C b e⟩,.zip (t.hide h g) (w.hide h g) B⟩
end
theorem eR{E:qVS}{Q:a7 b8->f8->Prop}(d:y0 s.heap T l items)(c:items.size<=HX)
 (j:∀a,Ext s.heap a->Q items.toList {s with heap:=a}):b9 (d7 prog w) A (collect (.ref l)) Q E s:=by
 cases T with
 |false=>ext y3 d o e f b;ext d4 b n g;exact W2 (mO l (.inl rfl) e f g (λa h i=>j a ⟨i,h⟩) c)
 |true=>ext y3 d o e f b;ext d4 b n g;exact W2 (mO l (.inr rfl) e f g (λa h i=>j a ⟨i,h⟩) c)
open AutoSeq1 (wpAny_loadPart') in
theorem vF(l:i7)(o:V6)(items:l4 b8)(n:a6)(f:o.cls= .type "list")(q:o.data= .seq items n)(b:items.size<=HX):
 MK (Builtin.«tuple.__new__» ⟨[.type "tuple",.ref l],[]⟩)
  (λy R s=>s.heap.get? l=a0 o/\∀a:l5,Ext s.heap a->R (.ok (.ret (.ref a.objs.size))) {s with heap:=a.push {cls:=.type "tuple",data:=.seq items}}):=
 .of_wp λm w A R s h=>by
  obtain⟨i,g,d,j,k⟩:=s;let c:=h.1;let h:=h.2;let p:=sub_tuple_self;let e:=init_tuple_lookup;let x:=madeHere_tuple;let r:EL ⟨i,g,d,j,k⟩ (.ref l) "list":=d0 o c f;let t:y0 (VA ⟨i,g,d,j,k⟩) c8 l items:=⟨o,c,f,n,q⟩
  wp_walk using wpAny_loadPart' c,HI r,eR t b
  intro a u;refine(b5 (Fu ?_ (by refine(?_:items.toList.toArray.size<=HX);simpa using b)):b9 _ _ (xx items.toList.toArray>>=λv=>ret v) _ _ _);refine f6 (d0 _ rfl ?_);rw[(by simp:items.toList.toArray=items)];exact h a u
section
variable{prog:A5}{X:Fx}{A:B7}{E:qVS}{c:Cx}{st:St}{s:f8}{F:i7->Prop}{Q:Q1}
theorem MP(h:n<=j8+1):((n:a6):d3)<2 ^ 63:=by
 let a:((j8+1:a6):d3)<2 ^ 63:=by decide
 exact DT (Int.ofNat_le.mpr h) a
theorem uW(R:i8 X c st s)(i:V X.M c st.n s.heap d v)(k:st.list? d=a0 xs)(l:Q (.int xs.length) st):b9 (d7 prog X.w) A (call (.builtin "len") [v]) (j6 X c st s F Q) E s:=by refine M6 (R.list i k) ?_;clear i;rintro a h e j j j rfl m b;ext1 b g n;let f:=Vs.length g;rw[A0]at f;refine Calls.call_len_list ⟨_,m,rfl,_,rfl⟩ (by rw[f];exact MP n) (j6.toks R ?_ l);rw[<-f];exact V.int _ _
theorem bz(R:i8 X c st s)(g:V X.M c st.n s.heap d v)(o:st.dict? d=a0 es)(h:Q (.int es.length) st):b9 (d7 prog X.w) A (call (.builtin "len") [v]) (j6 X c st s F Q) E s:=by refine M6 (R.dict g o) ?_;clear g;rintro a m e i p i rfl j b;ext1 b f i q;let k:=t5.len f;rw[A0]at k;have l:s.TypeIs (.ref (c.κ a)) "dict":=d0 _ j rfl;refine call_len_slot l pO (n:=(es.length:d3)) (λt r=>?_) (Int.not_lt.mpr (JQ _)) (Int.not_le.mpr (MP q)) (j6.toks R (V.int _ _) h);refine Ah pO l K_ ?_ (zt _);refine(b5 (Hi j rfl (f6 ?_)):b9 _ _ (dictSize (c.κ a)>>=_) _ _ s);refine(b5 (wpAny_pendingCount_other (Hk R p) ?_):b9 _ _ (z_ (c.κ a)>>=_) _ _ s);refine lP ?_;rw[a6.add_zero,k];exact r
theorem xL(R:i8 X c st s)(b:V X.M c st.n s.heap d v)(h:o8 (match st.list? d with
 |some e=>a0 (.int e.length,st)
 |none=>(st.dict? d).map λf=>(.int f.length,st)) Q):b9 (d7 prog X.w) A (call (.builtin "len") [v]) (j6 X c st s F Q) E s:=by
 cases a:st.list? d with
 |some e=>rw[a]at h;exact uW R b a h
 |none=>rw[a]at h;exact c9 (Kg h) λf g h=>bz R b g h
theorem vw(R:i8 X c st s)(b:V X.M c st.n s.heap d v)(h:o8 (cO d st) Q):b9 (d7 prog X.w) A (call (.builtin "len") [v]) (j6 X c st s F Q) E s:=by
 cases d with
 |B m=>let f:=Am h;ext1 f k h;ext G9 b a j e rfl n l i;let g:=Vs.length i;rw[A0]at g;refine P.len_tuple l (Int.not_le.mpr (MP (by rw[g];exact U6 k))) (j6.toks R ?_ h);rw[<-g];exact V.int _ _
 |_=>exact xL R b h
theorem uK(R:i8 X c st s)(a:V X.M c st.n s.heap d v)(h:o8 (EA d λi=>if 0<=i/\i<=1000 then a0 (.str (Iw i.toNat),st)else b4) Q):b9 (d7 prog X.w) A (call (.type "str") [v]) (j6 X c st s F Q) E s:=by
 revert a;refine yY (P:=λd=>V X.M c st.n s.heap d v->_) h λi h a=>?_;ext d4 a t rfl;let f:=Am h;ext1 f b h;refine P.str_of_int ?_ (j6.toks R (d:=.str (Iw i.toNat)) ⟨s.toks,?_⟩ h)
 .refine d4 (Pd b.1) ?_;clear h;rintro n rfl;exact q5 (a6.log2_le_self n) (q5 (Int.ofNat_le.mp b.2) (by decide))
 .let e:(Gm i)=Gm i.toNat:=by refine d4 (Pd b.1) ?_;clear b h;clear h;rintro n rfl;rfl
  refine(?_:b8.str (Cg (Gm i)) s.toks=_);rw[e,Qu];rfl
theorem tP(R:i8 X c st s)(h:Q (.int i) st):b9 (d7 prog X.w) A (call (.type "int") [.int i t]) (j6 X c st s F Q) E s:=
 call_int_int (j6.U R (V.int _ _) h)
theorem qU(R:i8 X c st s)(m:V X.M c st.n s.heap d v)(h:o8 ((st.items? d).map λn=>(.B n,st)) Q):b9 (d7 prog X.w) A (call (.type "tuple") [v]) (j6 X c st s F Q) E s:=by
 refine c9 (Kg h) λn o p=>FM (R.items m o) ?_;rintro a f e rfl g i;clear h o;rcases i with⟨j,x,rfl⟩|⟨b,rfl,y,rfl,z,j,r⟩
 .exact call_tuple_same ⟨_,j,rfl,_,rfl⟩ (j6.U R m p)
 .let t:=Vs.length g;rw[A0]at t;refine oH j_ (by decide) (b_ _) (W_ _) (λl=>X_ l _) K'
   (vF _ _ f e rfl rfl (by rw[t,O3];unfold j8 at r;exact b6 r (by decide))) ⟨j,λw i=>⟨(d0 _ (y9 _ rfl) rfl),?_⟩⟩
  let u:=i.trans (Ext.push w {cls:=.type "tuple",data:=.seq f});exact j6.ext R u rfl rfl (V.B (λq=>(P9 i.1 (R.pold _ q).2).elim) (y9 _ rfl) (Y8 (λk k k k=>u.2 _ _) g)) p
end
section
variable{prog:A5}{w:J3}{A:B7}{R:MJ->f8->Prop}{base:l5}{c:Cx}{n:a6}
theorem jy{xs:a7 b0}{j:a6}{x:b0}{b:a7 b0}(h:xs.drop j=x::b):xs[j]?=a0 x/\xs.drop (j+1)=b:=by
 constructor
 .let a:=t0 (λl=>l[0]?) h;simpa using a
 .let a:=t0 (LL 1) h;simpa[Vg]using a
theorem lg(hu:A.units+8<t3)(hh:A.handled=b4){I l S:i7}{xs:a7 b0}{items:l4 b8}(ok:G8 xs)(hS:c.P S)(hI:c.P I)(X:l≠S)(Y:l≠I)(p:S≠I):∀(a:a7 b0)(j:a6)(m:b0)(g:b8)(s:f8)(e:a6),
 xs.drop j=a->m∈xs->M5 s.heap c8 I l j->y0 s.heap c8 l items->s.heap.get? S=a0 (AU #[g,g] e)->Vs base c n s.heap xs items.toList->V base c n s.heap m g->
 (∀v i,Fr [I,S] s i->V base c n i.heap (CA a m) v->R (.ok (.ret v)) i)->BJ (d7 prog w) A (.builtin "min.loop" ⟨[.ref I,.none,.ref S],[]⟩) R s:=by
 let f:(Gm "min"++Gm ".loop")="min.loop":=by decide
 have k:∀b∈[I,S],c.P b:=by intro b B;simp only[K5,J8,X6]at B;rcases B with rfl|rfl<;>assumption
 intro a
 induction a with
 |nil=>intro j m g s e L O P M C D h N;refine Di WY ?_;rw[DS HO _];refine Kr C rfl (b5 (ME (W2 (iH hh P M (Hb D (by rw[Qb]at L;simpa using L:xs[j]?=b4)) λd he hz=>b5 (LR (he _ _ p C) rfl (IU (f6 ?_)))))));let y:=(Fr.ext he j5 hz s.toks:Fr [I,S] s {s with heap:=d}).trans (FrOf.set (s:={s with heap:=d}) (fp:=[I,S]) (AY d S (AI λw0=>#[])) (k8 _ j5));exact N g _ y (y.V k h)
 |cons x a ih=>
  intro j m g s e L O P M C D h N;let Q:=jy L;ext1 Q hx E;refine c9 (Vs_get? D hx) λv Z G=>?_;let H:x∈xs:=p8 hx;refine Di WY ?_;rw[DS HO _];refine Kr C rfl (b5 (ME (Vm P M Z λd J r=>?_)));let z:Fr [I,S] s {s with heap:=d}:=FrOf.set r j5;let t:d.get? S=a0 (AU #[g,g] e):=r.extBut _ _ p C;have K:y0 d c8 l items:=M.at λo q=>r.extBut _ _ Y q;refine(b5 (ME (K9 (b5 (dB (s:={s with heap:=d}) (base:=base) (c:=c) (n:=n) 3 (gD hu rfl) (ok x H m O) (z.V k G) (z.V k h) ?_)))):b9 _ A.in1 (tryCatch (holding [v,v] (PF .Lt v g>>=_)) _>>=_) _ _ _);refine CZ (Gk (IU (f6 ?_)));cases B:r9 x m with
  |true=>
   refine b5 (LR t rfl (IU ?_));let y:=z.trans (FrOf.set (s:={s with heap:=d}) (fp:=[I,S]) (AY d S (AI λw0=>#[v,v])) (k8 _ j5));rw[f];refine f6 ⟨Dh HO _,ih (j+1) x v _ _ E H ?_ ?_ (Hr _ t rfl) (y.Vs k D) (y.V k G) λU i W u=>N U i (y.trans W) ?_⟩
   .exact M5.at (T:=false) J λo q=>(Hs _ _ p).trans q
   .exact K.at λo q=>(Hs _ _ (C8 X)).trans q
   .rw[Xu,B];exact u
  |false=>refine IU ?_;rw[f];refine f6 ⟨Dh HO _,ih (j+1) m g {s with heap:=d} e E O J K t (z.Vs k D) (z.V k h) λU i W u=>N U i (z.trans W) ?_⟩;rw[Xu,B];exact u
end
section
variable{prog:A5}{X:Fx}{A:B7}{E:qVS}{c:Cx}{st:St}{s:f8}{G:i7->Prop}{Q:Q1}
theorem ce(hu:A.units+10<t3)(hh:A.handled=b4)(R:i8 X c st s)(hv:V X.M c st.n s.heap d v)(hx:st.list? d=a0 xs)(m:xs=x::r)(ok:C1 xs=a8)(hq:Q (CA r x) st):
 b9 (d7 prog X.w) A (call (.builtin "min") [v]) (j6 X c st s G Q) E s:=by
 let j:(Gm "min"++Gm ".loop")="min.loop":=by decide
 refine M6 (R.list hv hx) ?_;clear hv hx;rintro a f e rfl ha hs rfl O U;ext1 U Z hz;let C:c.κ a<s.heap.objs.size:=C4 O;refine call_function_tree F.kind_min F.plain_min F.entry_min (F.args_min1 _) (b5 (Jx (show zm "min" ["key","default"] 0 ⟨[],[]⟩=pure [b4,b4] from rfl) (R8 (b5 (ML ⟨_,O,rfl,_,rfl⟩ (b5 (Fu ?_)))))));rw[j]
 let I:_:=(s.heap.objs.size:i7)
 let w:_:=s.heap.push {cls:=.type "list_iterator",data:=.fields #[.ref (c.κ a),.int 0 0]}
 let S:_:=(w.objs.size:i7)
 let g:_:=w.push {cls:=.type "list",data:=.seq [].toArray}
 have L:Ext s.heap w:=Ext.push _ _;let y:Ext w g:=Ext.push _ _;have i:I<S:=by refine(?_:s.heap.objs.size<w.objs.size);rw[J7];exact B8 _
 have gI:g.get? I=a0 {cls:=.type "list_iterator",data:=.fields #[.ref (c.κ a),.int 0 0]}:=y.2 _ _ (y9 _ rfl);have W:g.get? S=a0 (AU #[] 0):=y9 _ rfl;refine(?_:b9 _ _ (again (.builtin "min.loop" ⟨[.ref I,.none,.ref S],[]⟩)) _ _ {s with heap:=g})
 let M:_:=(⟨c.κ,λb=>c.P b\/b=I\/b=S⟩:Cx)
 let nn:∀(h:l5),(∀o,h.get? I=a0 o->o.cls≠.type "tuple")->(∀o,h.get? S=a0 o->o.cls≠.type "tuple")->∀b f e,¬c.P b->h.get? b=a0 (x9 f e)->¬M.P b:=by
  intro h k1 k2 b f e l hg t;rcases t with t|rfl|rfl
  .exact l t
  .exact k1 _ hg rfl
  .exact k2 _ hg rfl
 have k:Vs X.M M st.n g xs f.toList:=Lo (nn g (λo q=>by rw[gI]at q;cases q;simp) (λo q=>by rw[W]at q;cases q;simp)) _ _ (Y8 (λu u u u q=>y.2 _ _ (L.2 _ _ q)) Z);have D:y0 g c8 (c.κ a) f:=⟨_,y.2 _ _ (L.2 _ _ O),rfl,_,rfl⟩;refine c9 (Vs_get? k (by rw[m];rfl:xs[0]?=a0 x)) λz p1 p2=>?_;let H:c.κ a≠I:=m6 C;let J:c.κ a≠S:=m6 (AJ C i);let t:∀b∈[I,S],M.P b:=by
  intro b l;simp only[K5,J8,X6]at l;rcases l with rfl|rfl
  .exact .inr (.inl rfl)
  .exact .inr (.inr rfl)
 refine f6 ⟨Dh HO _,Di WY ?_⟩;rw[DS HO _];refine Kr (s:={s with heap:=g}) W rfl (b5 (ME (Vm (s:={s with heap:=g}) (v7 _ gI rfl rfl) D p1 λB hi3 p=>?_)));let K:B.get? S=a0 (AU #[] 0):=p.extBut _ _ (L0 i) W;refine(b5 (LR (s:={s with heap:=B}) K rfl ?_):b9 _ A.in1 (updateSeq S (λu=>#[z,z])>>=_) _ _ _);let Y:=(FrOf.set (s:={s with heap:=g}) p (j5):Fr [I,S] {s with heap:=g} {s with heap:=B}).trans (FrOf.set (s:={s with heap:=B}) (fp:=[I,S]) (AY B S (AI λu=>#[z,z])) (k8 _ j5));rw[j];refine f6 ⟨Dh HO _,lg (base:=X.M) (c:=M) (n:=st.n) (by refine(?_:A.units+8<t3);exact gB hu rfl) hh (FU ok) (.inr (.inr rfl)) (.inr (.inl rfl)) J H (L0 i) r 1 x z _ _ (by rw[m];rfl) (by rw[m];simp) ?_ ?_ (Hr _ K rfl) (Y.Vs t k) (Y.V t p2) λv' s' F3 hv'=>?_⟩
 .exact M5.at (T:=false) hi3 λo q=>(Hs _ _ (L0 i)).trans q
 .exact(D.at λo q=>p.extBut _ _ H q).at λo q=>(Hs _ _ (C8 J)).trans q
 .have N:=Y.trans F3;let he:Ext s.heap s'.heap:=⟨b6 L.1 (b6 y.1 N.size),λb o q=>N.keep b o (by
   let l:b<s.heap.objs.size:=C4 q;simp only[K5,J8,X6,Mw];exact⟨m6 l,m6 (AJ l i)⟩) (y.2 _ _ (L.2 _ _ q))⟩
  exact j6.ext R he N.gens N.os (zX (P:=c.P) (λu h=>.inl h) _ _ hv') hq
theorem Xh:∀{xs:a7 b0}{vs:a7 b8}{l:a7 d3},Vs base c n h xs vs->ints? xs=a0 l->EK vs l:=by
 intro g
 induction g with
 |nil=>intro vs l e a;rw[show vs=[] from e];cases a;exact .nil
 |cons d xs j=>
  intro o l b a;ext o0 b v r e f k;subst e;cases d with
  |int i=>refine c9 (Option.map_eq_some_iff.mp a) ?_;clear a;rintro p m rfl;ext d4 f t rfl;exact .cons _ _ (j k m)
  |_=>cases a
theorem nc:∀{vs:a7 b8}{l:a7 d3},EK vs l->∀(i:a6)(v:b8),vs[i]?=a0 v->∃t,v=VP (l.getD i 0) t:=by
 intro vs l h
 induction h with
 |nil=>exact λa a h=>by cases h
 |cons k t c b=>
  intro i v h;cases i with
  |zero=>exact⟨t,(C5 h).symm⟩
  |succ i=>exact b i v h
theorem FE{items:l4 b8}{l:a7 d3}(hi:EK items.toList l):∀(i:a6)(v:b8),items[i]?=a0 v->∃t,v=VP (l.getD i 0) t:=λi v h=>nc hi i v (by rw[W6];exact h)theorem aF{items:l4 b8}{l:a7 d3}(hi:EK items.toList l)(A:B7):CmpOf prog X.w A .Gt (λi v=>items[i]?=a0 v) λi j=>decide (l.getD i 0>l.getD j 0):=by intro i j d e s Q E a b c;refine d4 (FE hi i _ a) ?_;clear a;rintro t rfl;refine d4 (FE hi j _ b) ?_;clear b;rintro u rfl;exact oZ c
theorem dn{items:l4 b8}{l:a7 d3}(hi:EK items.toList l)(A:B7):CmpOf prog X.w A .Lt (λi v=>items[i]?=a0 v) λi j=>decide (l.getD i 0<l.getD j 0):=by intro i j d e s Q E a b c;refine d4 (FE hi i _ a) ?_;clear a;rintro t rfl;refine d4 (FE hi j _ b) ?_;clear b;rintro u rfl;exact pX c
theorem vO(l:a7 d3):∀k,l.getD (MG (λi j=>decide (l.getD i 0>l.getD j 0)) k) 0=(p0 k).foldl (λm i=>max m (l.getD (i+1) 0)) (l.getD 0 0):=by
 intro a
 induction a with
 |zero=>exact rfl
 |succ k b=>
  rw[kR,a7.foldl_append,PW,a7.foldl_nil,<-b];rw[MG];split
  .rename_i h;rw[C3]at h;exact(WC (Gv h)).symm
  .rename_i h;rw[C3]at h;exact(VW (Int.not_lt.mp h)).symm
theorem tT(x:d3)(r:a7 d3):(p0 r.length).foldl (λm i=>max m ((x::r).getD (i+1) 0)) x=r.foldl max x:=by
 have a:∀(r:a7 d3)(x:d3),(p0 r.length).foldl (λm i=>max m (r.getD i 0)) x=r.foldl max x:=by
  intro r
  induction r with
  |nil=>intro x;rfl
  |cons y r b=>intro x;rw[N9,iL,PW,a7.foldl_map,PW,<-b];simp
 rw[<-a r x];simp
theorem xS{d:b0}{v:b8}(F:A.handled=b4)(R:i8 X c st s)(z:V X.M c st.n s.heap d v){xs:a7 b0}{x:d3}{r:a7 d3}(B:st.list? d=a0 xs)(hi:ints? xs=a0 (x::r))(H:Q (.int (r.foldl max x)) st):
 b9 (d7 prog X.w) A (call (.builtin "max") [v]) (j6 X c st s G Q) E s:=by
 refine M6 (R.list z B) ?_;clear z B;rintro a f e rfl K L rfl k l;ext1 l p M;have g:=Xh p hi;let m:=g.length;rw[A0]at m;let h:c.κ a<s.heap.objs.size:=C4 k;refine W2 (call_max_walkS (ML ⟨_,k,rfl,_,rfl⟩ ⟨s.heap.objs.size,_,_,_,_,_,_,_,rfl,(UT (prog:=prog) (w:=X.w) (A:=A.in1) F s.heap.objs.size (c.κ a) (m6 h) f).toS,⟨(v7 _ (y9 _ rfl) rfl rfl),⟨_,A9 _ k,rfl,_,rfl⟩⟩,?_,?_,aF g _,?_⟩))
 .intro b C;simp only[K5,J8,X6]at C;rw[J7];rcases C with rfl|rfl
  .exact B8 _
  .exact BL h
 .rw[m];simp
 .intro N I D n u;refine d4 (FE g _ _ D) ?_;clear D;rintro t rfl;let J:Ext s.heap I.heap:=⟨u,λb o q=>n.heap b o (by
   simp only[K5,J8,X6];exact m6 (C4 q)) (A9 _ q)⟩
  let y:(x::r).getD (MG (λi j=>decide ((x::r).getD i 0>(x::r).getD j 0)) (f.size - 1)) 0=r.foldl max x:=by rw[vO,<-tT,m,N9,a6.add_sub_cancel];rfl
  rw[y];exact j6.ext R J n.gens n.os (V.int _ _) H
theorem sV{d:b0}{v:b8}(F:A.handled=b4)(R:i8 X c st s)(z:V X.M c st.n s.heap d v){xs:a7 b0}{l:a7 d3}(B:st.list? d=a0 xs)(hi:ints? xs=a0 l)(H:Q (.int l.sum) st):
 b9 (d7 prog X.w) A (call (.builtin "sum") [v]) (j6 X c st s G Q) E s:=by
 refine M6 (R.list z B) ?_;clear z B;rintro a f e rfl L M rfl m n;ext1 n r N;have g:=Xh r hi;let C:=g.length;rw[A0]at C;let j:c.κ a<s.heap.objs.size:=C4 m;refine W2 (call_sum_walkAnyS (ML ⟨_,m,rfl,_,rfl⟩ ⟨s.heap.objs.size,_,_,_,_,_,_,λi=>l.getD i 0,rfl,(UT (prog:=prog) (w:=X.w) (A:=A.in1) F s.heap.objs.size (c.κ a) (m6 j) f).toS,⟨(v7 _ (y9 _ rfl) rfl rfl),⟨_,A9 _ m,rfl,_,rfl⟩⟩,?_,λi v h=>FE g i v h,?_⟩))
 .intro b D;simp only[K5,J8,X6]at D;rw[J7];rcases D with rfl|rfl
  .exact B8 _
  .exact BL j
 .intro I t p u;let J:Ext s.heap I.heap:=⟨u,λb o q=>p.heap b o (by
   simp only[K5,J8,X6];exact m6 (C4 q)) (A9 _ q)⟩
  let x:VZ (λi=>l.getD i 0) f.size=l.sum:=by
   let y:∀k,k<=l.length->VZ (λi=>l.getD i 0) k=(l.take k).sum:=by
    intro k
    induction k with
    |zero=>intro O;rfl
    |succ k K=>intro P;rw[VZ,K (m9 ‹_›),Ak,Vq];simp[show k<l.length by assumption]
   rw[C,y _ (l8 _),X4]
  rw[x];exact j6.ext R J p.gens p.os (V.int _ _) H
end
section
variable{prog:A5}{X:Fx}{A:B7}{E:qVS}{c:Cx}{st:St}{s:f8}{G:i7->Prop}{Q:Q1}
theorem Xq(R:i8 X c st s){a:d3}{t:Dm}{d:f8}{r:d3}(hs:∃o,d={s with heap:=(s.heap.push (x9 #[.int a t,.int b u] 0)).push o}){e:l5}{g:a6}{f:a7 i7}(h:∀b,b<s.heap.objs.size->b∉f)
 (i:∀b o,b∉f->d.heap.get? b=a0 o->e.get? b=a0 o)(hz:s.heap.objs.size<=e.objs.size)(v:Dm)(j:Q (.int r) st):j6 X c st s G Q (.int r v) {d with heap:=e,toks:=g}:=by
 ext d4 hs o rfl;exact j6.ext R (⟨hz,λb o q=>i b o (h b (C4 q)) (A9 _ (A9 _ q))⟩:Ext s.heap e) rfl rfl (V.int _ _) j
theorem li{a:d3}{t:Dm}(l:A.handled=b4)(R:i8 X c st s)(m:Q (.int (min a b)) st):b9 (d7 prog X.w) A (call (.builtin "min") [.int a t,.int b u]) (j6 X c st s G Q) E s:=by
 let d:EK (#[.int a t,.int b u]).toList [a,b]:=.cons _ _ (.cons _ _ .nil);let e:=J7 ..;refine W2 (call_min_two (Wy (⟨_,y9 _ rfl,rfl,_,rfl⟩:(s.heap.push (x9 #[.int a t,.int b u] 0)).IsTuple s.heap.objs.size #[.int a t,.int b u]) (Ys ((s.heap.push (x9 #[.int a t,.int b u] 0)).objs.size) _ _ _ _ _ _ rfl (qJ (prog:=prog) (w:=X.w) (A:=A.in1) l _ s.heap.objs.size (by rw[e];exact m6 (B8 _)) #[.int a t,.int b u]) ⟨(v7 _ (y9 _ rfl) rfl rfl),⟨_,A9 _ (y9 _ rfl),rfl,_,rfl⟩⟩ ?_ (VR _) (dn d _) ?_)))
 .intro b f;simp only[K5,J8,X6]at f;refine(?_:b<((s.heap.push (x9 #[.int a t,.int _ u] 0)).push _).objs.size);rw[J7,e];rcases f with rfl|rfl
  .rw[e];exact B8 _
  .exact BL (B8 _)
 .intro v q r n o g;refine d4 (FE d _ _ n) ?_;rintro p rfl;let k:[a,b].getD (MG (λi j=>decide ([a,b].getD i 0<[a,b].getD j 0)) ((#[.int a t,.int b u]:l4 b8).size - 1)) 0=min a b:=by
   refine(?_:[a,b].getD (if decide (b<a)=a8 then 1 else 0) 0=_);split
   .rename_i h;rw[C3]at h;exact((lD (Gv h)).symm:b=_)
   .rename_i h;rw[C3]at h;exact((mJ (Int.not_lt.mp h)).symm:a=_)
  rw[k];refine Xq R (t:=t) (u:=u) (a:=a) (b:=b) ⟨_,rfl⟩ (λb f=>?_) o g p m;simp only[K5,J8,X6];rw[e];exact m6 (BL f)
theorem pn{a:d3}{t:Dm}(l:A.handled=b4)(R:i8 X c st s)(m:Q (.int (max a b)) st):b9 (d7 prog X.w) A (call (.builtin "max") [.int a t,.int b u]) (j6 X c st s G Q) E s:=by
 let d:EK (#[.int a t,.int b u]).toList [a,b]:=.cons _ _ (.cons _ _ .nil);let e:=J7 ..;refine W2 (call_max_two (Wy (⟨_,y9 _ rfl,rfl,_,rfl⟩:(s.heap.push (x9 #[.int a t,.int b u] 0)).IsTuple s.heap.objs.size #[.int a t,.int b u]) (Ys ((s.heap.push (x9 #[.int a t,.int b u] 0)).objs.size) _ _ _ _ _ _ rfl (qJ (prog:=prog) (w:=X.w) (A:=A.in1) l _ s.heap.objs.size (by rw[e];exact m6 (B8 _)) #[.int a t,.int b u]) ⟨(v7 _ (y9 _ rfl) rfl rfl),⟨_,A9 _ (y9 _ rfl),rfl,_,rfl⟩⟩ ?_ (VR _) (aF d _) ?_)))
 .intro b f;simp only[K5,J8,X6]at f;refine(?_:b<((s.heap.push (x9 #[.int a t,.int _ u] 0)).push _).objs.size);rw[J7,e];rcases f with rfl|rfl
  .rw[e];exact B8 _
  .exact BL (B8 _)
 .intro v q r n o g;refine d4 (FE d _ _ n) ?_;rintro p rfl;let k:[a,b].getD (MG (λi j=>decide ([a,b].getD i 0>[a,b].getD j 0)) ((#[.int a t,.int b u]:l4 b8).size - 1)) 0=max a b:=by
   refine(?_:[a,b].getD (if decide (b>a)=a8 then 1 else 0) 0=_);split
   .rename_i h;rw[C3]at h;exact((WC (Gv h)).symm:b=_)
   .rename_i h;rw[C3]at h;exact((VW (Int.not_lt.mp h)).symm:a=_)
  rw[k];refine Xq R (t:=t) (u:=u) (a:=a) (b:=b) ⟨_,rfl⟩ (λb f=>?_) o g p m;simp only[K5,J8,X6];rw[e];exact m6 (BL f)theorem aP(xs:a7 b0):(y8 xs).length=xs.length:=(Y2 xs).length_eq
theorem gP(m:A.units+12<t3)(R:i8 X c st s)(j:C1 xs=a8)(o:Q (.ref st.n) (st.A (.L (y8 xs))))
 (p:b9 (d7 prog X.w) A.in1 (collect v) (λk b=>Vs X.M c st.n b.heap xs k/\Ext s.heap b.heap/\b.gens=s.gens/\b.os=s.os) E s):
 b9 (d7 prog X.w) A (call (.builtin "sorted") [v]) (j6 X c st s G Q) E s:=by
 refine YV (base:=X.M) (c:=c) (n:=st.n) (gB m rfl) (v6 p ?_ λq q e=>e);rintro k b d;ext1 d r l t u;refine v7 xs j r λy a x e w h f i=>j6.new R (b6 l.1 w) (l.trans h) t u (J6.L f i ?_) o;rw[aP];let g:=He j;unfold j8;exact m9 (j7 g (by decide))
theorem sR(k:A.units+12<t3)(R:i8 X c st s)(l:V X.M c st.n s.heap d v)(m:st.list? d=a0 xs)(n:C1 xs=a8)(o:Q (.ref st.n) (st.A (.L (y8 xs)))):
 b9 (d7 prog X.w) A (call (.builtin "sorted") [v]) (j6 X c st s G Q) E s:=by
 refine M6 (R.list l m) ?_;rintro a h e rfl q r rfl p f;ext1 f b t;let i:=Vs.length b;rw[A0]at i;refine gP k R n o (eR (T:=false) ⟨_,p,rfl,_,rfl⟩ (by rw[i,O3];exact p6) λu j=>M3 (Y8 (λg g g g=>j.2 _ _) b) j rfl rfl)
theorem bW:∀{e:a7 b0}{vs:a7 b8},vs.length=e.length->(∀(i:a6)(d:b0)(v:b8),e[i]?=a0 d->vs[i]?=a0 v->V base c n h d v)->Vs base c n h e vs:=by
 intro g
 induction g with
 |nil=>
  intro a;cases a with
  |nil=>intro f f;exact rfl
  |cons _ _=>intro b f;simp at b
 |cons d e j=>
  intro a;cases a with
  |nil=>intro b f;simp at b
  |cons v vs=>intro b h;exact E8 v vs rfl (h 0 d v rfl rfl) (j (by simpa using b) λi d v k l=>h (i+1) d v (by simpa using k) (by simpa using l))
theorem ve{n:d3}{r:i7}{t:Dm}(m:A.handled=b4)(R:i8 X c st s)(e:0<=n)(f:n<=j8)(a:Wo s.heap r 0 n 1 t u v)(o:Q (.ref st.n) (st.A (.L ((p0 n.toNat).map λ(i:a6)=>b0.int (PE i))))):
 b9 (d7 prog X.w) A (call (.type "list") [.ref r]) (j6 X c st s G Q) E s:=by
 let j:=Int.toNat_le.mpr f;refine W2 (call_list_range m a (Oo e f).1 (by rw[(Oo e f).2];exact(Mq e).symm:UV 0 n 1=(n.toNat:d3)) (by unfold j8 at j;exact p6) λB C y D p q l w=>j6.new R (l8 _) ⟨w,p⟩ rfl rfl (J6.L q ?_ ?_) o)
 .refine bW ?_ λi d v b x=>?_
  .rw[A0,l.1,f7,Br]
  .refine d4 (l.2 i v (by rw[<-W6];exact x)) ?_;rintro F rfl;rw[o7]at b;cases a:(p0 n.toNat)[i]? with|none=>rw[a]at b;cases b|some k=>rw[a]at b;simp only[Au,At]at b;let g:=FN a;ext1 g z h;rw[nC]at h;clear a;subst h b;rw[(by simp:(0:d3)+(i:d3)*1=PE i)];exact V.int _ _
 .rw[f7,Br];exact U6 ‹_›
end
theorem Jl(h:E5 a k=b4):Q0 a k d=a++[(k,d)]:=by
 unfold E5 at h
 induction a with
 |nil=>rfl
 |cons x a b=>rw[Mg]at h;rw[KT,(h x j5)];simp only[Bx,Bu,a7.cons_append,yl,true_and];exact b (List.findIdx?_eq_none_iff.mpr λy c=>h y (k8 _ c))
theorem No:∀{xs:a7 (b0×b0)}{k d:b0}{i:a6},E5 xs k=a0 i->Q0 xs k d=xs.modify i λe=>(e.1,d):=by
 intro f
 induction f with
 |nil=>intro b b b h;simp[E5]at h
 |cons x xs g=>
  intro k d i h;unfold E5 at h;rw[JN]at h;rw[KT];cases c:l3 x.1 k with
  |true=>rw[c]at h;simp only[DY,At]at h;subst h;rfl
  |false=>
   rw[c]at h;simp only[Bx,Bu]at h ⊢;cases a:xs.findIdx? (λe=>l3 e.1 k)with
   |none=>rw[a]at h;cases h
   |some j=>rw[a]at h;simp only[Au,At]at h;subst h;rw[PK,g (i:=j) a]
theorem ZF(xs:a7 (b0×b0))(k d:b0):(Q0 xs k d).length<=xs.length+1:=by
 cases h:E5 xs k with
 |none=>rw[Jl h];simp
 |some i=>rw[No h];simp
theorem Ir:(t4 xs k).isSome=(E5 xs k).isSome:=by unfold t4 E5;rw[LZ,P2];simp[VM]theorem fA(h:E5 xs k=a0 i):∃x,xs[i]?=a0 x/\t4 xs k=a0 x.2/\l3 x.1 k=a8:=by unfold E5 at h;refine c9 (List.findIdx?_eq_some_iff_getElem.mp h) λa b c=>?_;refine v7 (xs[i]) (by simp[a]) ?_ b;unfold t4;rw[(qB (p:=λe:b0×b0=>l3 e.1 k)).mpr ⟨b,i,a,rfl,λj d=>by simpa using c j d⟩];rfl
theorem t5.snoc:∀{xs:a7 (b0×b0)}{es:a7 Af}{k d:b0}{b v:b8},t5 w base c n h xs es->V base c n h k b->V base c n h d v->t5 w base c n h (xs++[(k,d)]) (es++[⟨q9 w k,b,v⟩]):=by
 intro j
 induction j with
 |nil=>intro a a a a a e g i;rw[show _=[] from e];exact U8 _ [] rfl g i rfl rfl
 |cons _ _ l=>intro a a a a a f g i;ext C7 f e r q m o p s;subst q;exact U8 e (r++_) rfl m o p (l s g i)
theorem t5.mod:∀{xs:a7 (b0×b0)}{es:a7 Af}{d:b0}{v:b8},t5 w base c n h xs es->V base c n h d v->∀i,t5 w base c n h (xs.modify i λe=>(e.1,d)) (es.modify i λe=>{e with val:=v}):=by
 intro o
 induction o with
 |nil=>intro b b b e b i;rw[show _=[] from e];simp only[a7.modify_nil];exact rfl
 |cons _ _ p=>
  intro b b b a l k;cases k with
  |zero=>ext C7 a e r q f m g j;subst q;exact U8 _ r rfl f l g j
  |succ i=>ext C7 a e r q f m g j;subst q;rw[PK,PK];exact U8 e _ rfl f m g (p j l i)
theorem t5.erase:∀{xs:a7 (b0×b0)}{es:a7 Af},t5 w base c n h xs es->∀i,t5 w base c n h (xs.eraseIdx i) (es.eraseIdx i):=by
 intro k
 induction k with
 |nil=>intro l e i;rw[show _=[] from e];simp only[a7.eraseIdx_nil];exact rfl
 |cons _ _ m=>
  intro l a d;cases d with
  |zero=>ext C7 a e r q f g j b;subst q;exact b
  |succ i=>ext C7 a e r q f g j b;subst q;exact U8 e _ rfl f g j (m b i)
theorem mo(xs:a7 (b0×b0))(i:a6)(d:b0):(xs.modify i λe=>(e.1,d)).map (·.1)=xs.map (·.1):=by
 induction xs generalizing i with
 |nil=>simp
 |cons x xs a=>cases i with|zero=>rfl|succ i=>rw[PK,y4,y4,a]theorem bD:DK xs↔(xs.map (·.1)).Pairwise λa b=>l3 a b=c8/\l3 b a=c8:=by unfold DK;rw[Y6]
theorem SR(f:DK xs)(c:v8 xs k=a8):DK (Q0 xs k d):=by
 cases h:E5 xs k with
 |some i=>rw[No h,bD,mo];exact bD.mp f
 |none=>
  rw[Jl h];unfold DK;rw[Qs];refine m0 f (OZ _ _) λa g b j=>?_;rw[o9]at j;subst j;unfold E5 at h;rw[Mg]at h;have e:=h a g;refine⟨e,?_⟩;simp only[v8,C2,Mt,V8,Ai]at c;let m:=c.2 a g;cases l:l3 k a.1 with
  |false=>rfl
  |true=>rw[<-(W7 l),(Ta (d:=k) c.1 rfl).mpr rfl]at e;cases e
theorem RE:∀{xs:a7 (b0×b0)}{k:b0}{i:a6},E5 xs k=a0 i->EQ xs k=xs.eraseIdx i:=by
 intro c
 induction c with
 |nil=>intro d d h;simp[E5]at h
 |cons x xs f=>
  intro k i h;unfold E5 at h;rw[JN]at h;rw[fi];cases b:l3 x.1 k with
  |true=>rw[b]at h;simp only[DY,At]at h;subst h;rfl
  |false=>
   rw[b]at h;simp only[Bx,Bu]at h ⊢;cases a:xs.findIdx? (λe=>l3 e.1 k)with
   |none=>rw[a]at h;cases h
   |some j=>rw[a]at h;simp only[Au,At]at h;subst h;rw[a7.eraseIdx_cons_succ,f (i:=j) a]
section
variable{X:Fx}{st:St}
def CU(X:Fx)(c:Cx)(st:St)(s:f8)(st':St)(s':f8):Prop:=i8 X c st' s'/\k7 c st s c st' s' y5
theorem Lk(R:i8 X c st s)(h:a<st.n)(j:s.heap.get? (c.κ a)=a0 x)(l:(f x).isFreed=c8)
 (m:∀d,Aj (c.κ a) s.heap d->d.get? (c.κ a)=a0 (f x)->J6 X c st.n d o (c.κ a)):CU X c st s (st.set a o) {s with heap:=s.heap.update (c.κ a) f,toks:=t}:=by
 let e:=AY ..;let k:∀b x,s.heap.get? b=a0 x->b≠c.κ a->(s.heap.update (c.κ a) f).get? b=a0 x:=λb x n g=>e.extBut _ _ g n;let i:s.heap.objs.size<=(s.heap.update (c.κ a) f).objs.size:=by rw[e.1];exact l8 _
 exact⟨R.put h k i rfl rfl (m _ e (Hr _ j l)),k7.put h k i⟩
theorem IT(R:i8 X c st s)(g:a<st.n)(hs:Aj (c.κ a) s.heap h'):∀b d e,¬c.P b->s.heap.get? b=a0 (x9 d e)->h'.get? b=a0 (x9 d e):=
 λb d e h f=>hs.extBut _ _ (λq=>R.noTup g (q▸f)) f
def BB(es:a7 (b0×b0))(k d:b0)(ep:a6):AO:=.D (Q0 es k d) (if(t4 es k).isSome then ep else ep+1)theorem Ry(a:v8 es k=a8):Q3 k≠0:=by exact bne_iff_ne.mp (o6 a)
theorem ZJ(C:A.units+12<t3)(R:i8 X c st s)(j:a<st.n)(hs:st.h a= .D es ep)(w:V X.M c st.n s.heap k key)(x:V X.M c st.n s.heap d v)
 (n:v8 es k=a8)(hz:es.length<=j8)(y:∀p,CU X c st s (st.set a (BB es k d ep)) p->(∀b o,b≠c.κ a->s.heap.get? b=a0 o->p.heap.get? b=a0 o)->Q () p):b9 (d7 prog X.w) A (oU (c.κ a) key (q9 X.w k) v) Q E s:=by
 let f:=R.obj a j;rw[hs]at f;ext BS f B f l r F;let z:=t5.len l;rw[A0]at z;refine K9 (b5 (Ni (gB C rfl) f l r n w ?_));let g:=ZF es k d;cases m:E5 es k with
 |some i=>refine b5 (EN (b5 (wpAny_updateDict f rfl ?_ (by simp))));refine jP (y _ ?_ λb o t q=>(AY ..).extBut b o t q);refine Lk R j f rfl λD h u=>?_;unfold BB;rw[(by rw[Ir,m];rfl:(t4 es k).isSome=a8),g0 rfl];refine J6.D (e:=ep) u ?_ (SR r n) (NI g hz);rw[No m,l4.toList_modify];exact t5.ext (IT R j h) (t5.mod l x i)
 |none=>refine b5 (EN (Wz f rfl ?_ (by rw[z,O3];unfold j8 at hz;exact p6) (by simp)));refine y _ (Lk R j f rfl λD h u=>?_) λb o t q=>(AY ..).extBut b o t q;unfold BB;rw[(by rw[Ir,m];rfl:(t4 es k).isSome=c8)];refine J6.D (e:=ep+1) u ?_ (SR r n) (NI g hz);rw[Jl m,JG];exact t5.ext (IT R j h) (t5.snoc l w x)
theorem Xf(g:A.units+12<t3)(R:i8 X c st s)(l:a<st.n)(hs:st.h a= .D es ep)(h:V X.M c st.n s.heap k key)(m:V X.M c st.n s.heap d v)
 (i:v8 es k=a8)(hz:es.length<=j8)(n:∀e,CU X c st s (st.set a (BB es k d ep)) e->(∀b o,b≠c.κ a->s.heap.get? b=a0 o->e.heap.get? b=a0 o)->Q () e):b9 (d7 prog X.w) A (WO (c.κ a) key v) Q E s:=by
 exact K9 (b5 (KG 3 (gB g rfl) (Ok (Ry i)) h λt=>ZJ (s:={s with toks:=t}) g (R.ext (Ext.refl _) rfl rfl) l hs h m i hz λe j f=>n e ⟨j.1,(k7.ext (s:=s) (s':={s with toks:=t}) (F:=y5) (Ext.refl s.heap)).trans j.2⟩ f))
theorem pe(f:A.units+12<t3)(R:i8 X c st s)(g:c.κ a=D)(h:a<st.n)(hs:st.h a= .D es ep)(i:V X.M c st.n s.heap k key)(j:V X.M c st.n s.heap d v)
 (l:v8 es k=a8)(hz:es.length<=j8)(m:∀e,CU X c st s (st.set a (BB es k d ep)) e->(∀b o,b≠D->s.heap.get? b=a0 o->e.heap.get? b=a0 o)->Q () e):b9 (d7 prog X.w) A (oU D key (q9 X.w k) v) Q E s:=by
 subst g;exact ZJ f R h hs i j l hz m
theorem QJ(f:A.units+12<t3)(R:i8 X c st s)(g:c.κ a=D)(h:a<st.n)(hs:st.h a= .D es ep)(i:V X.M c st.n s.heap k key)(j:V X.M c st.n s.heap d v)
 (l:v8 es k=a8)(hz:es.length<=j8)(m:∀e,CU X c st s (st.set a (BB es k d ep)) e->(∀b o,b≠D->s.heap.get? b=a0 o->e.heap.get? b=a0 o)->Q () e):b9 (d7 prog X.w) A (WO D key v) Q E s:=by
 subst g;exact Xf f R h hs i j l hz m
end
section
variable{prog:A5}{X:Fx}{st:St}
theorem j6.put(x:CU X c st s st' s')(a:V X.M c st'.n s'.heap d v)(b:Q d st'):j6 X c st s G Q v s':=
 ⟨d,st',c,b,x.1,a,x.2.z λe h=>h.elim⟩
theorem OT(R:i8 X c st s)(d:a<st.n)(g:s.heap.get? (c.κ a)=a0 (AU items e))(h:Vs X.M c st.n s.heap ys (f items).toList)(hz:ys.length<=j8+1):
 CU X c st s (st.set a (.L ys)) {s with heap:=s.heap.update (c.κ a) (AI f),toks:=t}:=
 Lk R d g rfl λj b i=>J6.L (items:=f items) (e:=if(f items).size==items.size then e else e+1) i (Y8 (IT R d b) h) hz
theorem vH{Q:Ay->f8->Prop}(b:s.heap.get? l=a0 (AU items e))(c:0<=k)(a:k<2 ^ 63)(g:k.toNat<items.size)
 (d:Q () {s with heap:=s.heap.update l (AI (·.setIfInBounds k.toNat v))}):b9 (d7 prog X.w) A (Qa (.ref l) (.int k t) v) Q E s:=by
 let f:s.TypeIs (.ref l) "list":=d0 _ b rfl;unfold Qa
 try with_reducible refine K9 ?_
 first|refine b5 (f6 ?_)|skip
 refine b5 (WL f (by decide) (b5 (HN (name:=Cg "__setitem__") f iF (Ah iF f entry_list_setitem ?_ (args_list_setitem _ _ _)))));refine(b5 (wpAny_listSubscript_int (fitsIndex_of c a) ?_):b9 _ _ (t_ (.int k t)>>=_) _ _ s);clear a;refine d4 (Pd c) ?_;clear c;rintro j rfl;simp only[Q8]at g d;refine b5 (b5 (wpAny_seqItemAt b rfl (f6 ?_)));rw[DO g];refine b5 (wpAny_setSeqItemAt b rfl ?_)
 first
  |exact b5 (f6 (f6 (d0 (.none) rfl (f6 d))))
  |exact f6 ⟨.none,rfl,f6 d⟩
theorem gk:∀{i:a7 b0}{vs:a7 b8}{d:b0}{v:b8},Vs base c n h i vs->V base c n h d v->∀j,Vs base c n h (i.set j d) (vs.set j v):=by
 intro l
 induction l with
 |nil=>intro b b b e b b;rw[show _=[] from e];simp only[a7.set_nil];exact rfl
 |cons _ _ m=>
  intro b b b a k g;cases g with
  |zero=>ext o0 a u r e b f;subst e;exact E8 _ r rfl k f
  |succ j=>ext o0 a u r e o f;subst e;exact E8 u _ rfl o (m f k j)
set_option tactic.hygienic true in
theorem qV{Q:Ay->f8->Prop}(C:A.units+14<t3)(R:i8 X c st s)(p:V X.M c st.n s.heap d vd)(hi:V X.M c st.n s.heap i vi)(r:V X.M c st.n s.heap v vv)(h:setItem st d i v=a0 st')
 (u:∀l,CU X c st s st' l->Q () l):b9 (d7 prog X.w) A (Qa vd vi vv) Q E s:=by
 unfold setItem at h;split at h
 .rename_i a;split at h
  .rename_i m;ext1 p w rfl;split at h
   .rename_i x n;split at h
    .rename_i k;split at h
     .rename_i g;injection h with h;subst h;ext d4 hi t rfl;let b:=R.obj a m;rw[n]at b;ext o0 b q e b j y;let z:=Vs.length j;rw[A0]at z;refine vH b g.1 (Vc ((Pi g.1).mp g.2) (MP y)) (z▸g.2) (u _ (OT R m b (f:=λx=>x.setIfInBounds k.toNat vv) (t:=s.toks) ?_ ?_))
      .rw[l4.toList_setIfInBounds];exact gk j r _
      .rw[PU];exact y
     .cases h
    .cases h
   .rename_i F G n;split at h
    .rename_i g;injection h with h;subst h;let b:=R.obj a m;rw[n]at b;ext c9 b B b w;let o:s.TypeIs (.ref (c.κ a)) "dict":=d0 _ b rfl;unfold Qa
     try with_reducible refine K9 ?_
     first|refine b5 (f6 ?_)|skip
     refine b5 (WL o (by decide) ?_);refine b5 (HN (name:=Cg "__setitem__") o nX
      (Ah nX o entry_dict_setitem ?_ (args_dict_setitem _ _ _)))
     refine b5 (WD o ((?_:b9 _ _ (WO (c.κ a) vi vv>>=_) _ _ s)));exact b5 (Xf (gD C rfl) R m n hi r g.1 g.2 λl D w=>f6 (d0 (.none) rfl (f6 (u l D))))
    .cases h
   .cases h
  .cases h
 .cases h
theorem vT{base:l5}{n:a6}{h:l5}{xs:a7 b0}{items:l4 b8}(b:Vs base c n h xs items.toList){x:b0}(i:xs.getLast?=a0 x):
 ∃v,items[items.size - 1]?=a0 v/\V base c n h x v/\Vs base c n h xs.dropLast (items.eraseIdxIfInBounds (items.size - 1)).toList:=by
 let d:=Vs.length b;rw[A0]at d;rw[a7.getLast?_eq_getElem?]at i;refine c9 (Vs_get? b i) λv f j=>?_;rw[<-d]at f;refine v7 v f j ?_;let g:=KR f;let e:(items.eraseIdxIfInBounds (items.size - 1)).toList=items.toList.take (items.size - 1):=by
  clear b d f g;obtain⟨l⟩:=items;simp only[jQ];let a:l.length - 1=l.length - 1:=rfl;refine(?_:l.eraseIdx (l.length - 1)=l.take (l.length - 1));rw[a7.eraseIdx_eq_take_drop_succ];let a:l.drop (l.length - 1+1)=[]:=by rw[Qb];exact a6.le_succ_of_pred_le (l8 _)
  rw[a,Y5]
 rw[e,a7.dropLast_eq_take,<-d];exact Ub b _
theorem tJ{a:a6}{m:j3}{q:a7 b0}{vs:a7 b8}(R:i8 X c st s)(u:a<st.n){xs:a7 b0}(hs:st.h a= .L xs)(l:Vs X.M c st.n s.heap q vs)(h:o8 (FK m a xs q st) Q):
 b9 (d7 prog X.w) A (call (.builtin ("list."++m)) (.ref (c.κ a)::vs)) (j6 X c st s G Q) E s:=by
 let j:=R.obj a u;rw[hs]at j;ext o0 j g e j B F;have C:=Vs.length B;rw[A0]at C;have o:g.size<=HX:=by rw[C,O3];unfold j8 at F;exact b6 F (by decide)
 have H:s.TypeIs (.ref (c.κ a)) "list":=d0 _ j rfl;cases q with
 |nil=>rw[show vs=[] from l];let i:=Am h;ext1 i w h;refine c9 (Kg h) λx D h=>?_;rw[w];exact y3 (vT B D) λv M N O=>Pg mQ H yh (M_ _) (zi (c.κ a) g e v M o) ⟨j,j6.put (OT R u j (f:=λxs=>xs.eraseIdxIfInBounds (g.size - 1)) O (by rw[mB];exact HS (U6 F)) (t:=s.toks)) (BY (IT R u (AY ..)) N) h⟩
 |cons x q=>
  cases q with
  |cons y q=>exact h.elim
  |nil=>
   obtain⟨v,k,rfl⟩:∃v,∃_:V X.M c st.n s.heap x v,vs=[v]:=by ext o0 l v r rfl k P;exact⟨v,k,by rw[show r=[] from P]⟩
   rcases Zo h with⟨w,h⟩|h
   .rw[w];let i:=Am h;ext1 i n h;exact Pg lB H yo (zj _ _) (g_ (c.κ a) g e v o) ⟨j,j6.put (d:=.none) (OT R u j (f:=λxs=>xs.push v) (ys:=xs++[x]) (by rw[JG];exact Te B k) (by simp;exact n) (t:=s.toks)) rfl h⟩
   .let i:=Am h;ext1 i w h;refine c9 (CY h) λS D I=>?_;let i:=Am I;ext1 i n I;rw[w];clear l h;refine M6 (R.list k D) ?_;clear k h D;rintro b L T rfl W U rfl K J;ext1 J z Y;let p:=Vs.length z;rw[A0]at p;refine Pg jH H a_ (w_ _ _) (m_ (c.κ a) g e (c.κ b) L T ?_ o ?_) (m0 j K (j6.put (d:=.none) (OT R u j (f:=λxs=>xs++L) (ys:=xs++S) (by rw[Wt];exact Se B z) (by rw[u7];exact U6 n) (t:=s.toks)) rfl I))
    .simp only[V',C2,C3,not_and];intro U;rw[C,p,O3];unfold j8 at n;exact Nat.not_lt.mpr (b6 n (by decide))
    .rw[C,p,O3];unfold j8 at n;exact b6 n (by decide)
end
section
variable{prog:A5}{X:Fx}{st:St}{G:i7->Prop}{Q:Q1}
theorem zL(H:A.units+14<t3)(R:i8 X c st s)(I:a<st.n)(j:s.heap.get? (c.κ a)=a0 (E3 ents e0))(n:t5 X.w X.M c st.n s.heap es ents.toList)(J:DK es)(hz:es.length<=j8+1)
 (K:V X.M c st.n s.heap k key)(L:v8 es k=a8)(M:t4 es k=a0 x)(z:st'=st.set a (.D (EQ es k) (e0+1)))(T:Q x st'):
 b9 (d7 prog X.w) A (call (.builtin ("dict."++"pop")) [.ref (c.κ a),key]) (j6 X c st s G Q) E s:=by
 let v:=t5.len n;rw[A0]at v;let N:s.TypeIs (.ref (c.κ a)) "dict":=d0 _ j rfl;obtain⟨i,o⟩:∃i,E5 es k=a0 i:=Option.isSome_iff_exists.mp (by rw[<-Ir,M];rfl);refine y3 (fA o) λy B C f=>BS (t5.get n i y B) λw u Y U Z=>?_;rw[W6]at u;let g:b9 (d7 prog X.w) A.in1 (yi (c.κ a) key) (λr d=>r=a0 w/\CU X c st s st' d) (λf f=>k6) s:=by
  refine K9 (b5 (KG 3 (gD H rfl) (Ok (Ry L)) K λt=>b5 (Ni (s:={s with toks:=t}) (gD H rfl) j n J L K ?_)));rw[o];refine Hi (s:={s with toks:=t}) j rfl ?_;rw[u];have O:(ents.eraseIdxIfInBounds i).toList=ents.toList.eraseIdx i:=by clear j n v u;obtain⟨l⟩:=ents;simp only[jQ]
  refine b5 (Wz (s:={s with toks:=t}) j rfl (f6 ⟨rfl,?_⟩) (by rw[v,O3];exact p6) ?_)
  .rw[z];refine Lk R I j rfl λh' D F=>J6.D (e:=e0+1) F ?_ ?_ ?_
   .rw[RE o,O];exact t5.ext (IT R I D) (t5.erase n i)
   .rw[RE o];exact N_ (a7.eraseIdx_sublist ..) J
   .rw[RE o];exact b6 (iO ..) hz
  .let h:=iO ents.toList i;rw[<-O,A0,A0]at h;exact U6 h
 let q:∀d,CU X c st s st' d->j6 X c st s G Q w.val d:=λd p=>j6.put p (by rw[(C5 (M.symm.trans C))];exact p.2.V R (λb W=>W.elim) U) T;refine Ah mW N yj ?_ (ye _ _);refine b5 (m:=VE "pop" _) (NR N (R8 (R8 (R8 (f6 ?_)))));dsimp only;split
 .refine R8 (b5 (v6 g ?_ λf f e=>e.elim));rintro f d P;ext k9 P rfl p;simp only[qQ,Bx,Bu];exact IU (f6 (d0 _ rfl (q d p)))
 .refine Hi j rfl (R8 ?_);rw[(Array.isEmpty_eq_false_iff_exists_mem.mpr ⟨w,Ma u⟩)];refine b5 (v6 g ?_ λf f e=>e.elim);rintro f d S;ext k9 S rfl p;simp only[qQ,Bx,Bu];exact IU (f6 (d0 _ rfl (q d p)))
theorem uL(i:A.units+14<t3)(R:i8 X c st s)(j:a<st.n)(e:s.heap.get? (c.κ a)=a0 (E3 ents e0))(l:t5 X.w X.M c st.n s.heap es ents.toList)(n:DK es)
 (o:V X.M c st.n s.heap k key)(b:V X.M c st.n s.heap v dv)(p:v8 es k=a8)(h:Q ((t4 es k).getD v) st):
 b9 (d7 prog X.w) A (call (.builtin ("dict."++"get")) [.ref (c.κ a),key,dv]) (j6 X c st s G Q) E s:=by
 let f:s.TypeIs (.ref (c.κ a)) "dict":=d0 _ e rfl;refine Ah pK f v_ ?_ (I_ _ _ _);refine b5 (m:=VE "get" _) (NR f (R8 (R8 (R8 (f6 (b5 (QH (gD i rfl) e l n p o λt=>?_)))))));cases g:t4 es k with
 |some x=>rw[g]at h;exact λq d=>f6 (d0 _ rfl (j6.toks R d h))
 |none=>rw[g]at h;exact b5 (wpAny_missed_other (Hk R j) (f6 (d0 _ rfl (j6.toks R b h))))
theorem wS(D:A.units+14<t3)(R:i8 X c st s)(o:a<st.n)(f:s.heap.get? (c.κ a)=a0 (E3 ents e0))(n:t5 X.w X.M c st.n s.heap es ents.toList)(F:DK es)
 (q:V X.M c st.n s.heap k key)(g:V X.M c st.n s.heap v dv)(r:v8 es k=a8)(w:es.length<=j8)(h:o8 (a0 (match t4 es k with
  |some u=>(u,st)
  |none=>(v,st.set a (.D (es++[(k,v)]) (e0+1))))) Q):
 b9 (d7 prog X.w) A (call (.builtin ("dict."++"setdefault")) [.ref (c.κ a),key,dv]) (j6 X c st s G Q) E s:=by
 let H:=t5.len n;rw[A0]at H;let I:s.TypeIs (.ref (c.κ a)) "dict":=d0 _ f rfl;refine Ah jF I yk ?_ (yv _ _ _);refine b5 (m:=VE "setdefault" _) (NR I (R8 (R8 (R8 (f6 (X8 (by rw[Hk R o];exact Ch) (b5 (K9 (b5 (KG 3 (gD D rfl) (Ok (Ry r)) q λt=>b5 (Ni (s:={s with toks:=t}) (gD D rfl) f n F r q ?_)))))))))));cases x:E5 es k with
 |some i=>let d:=fA x;ext1 d y j l K;rw[l]at h;let d:=t5.get n i y j;ext1 d N z L J M;rw[W6]at z;refine Hi (s:={s with toks:=t}) f rfl ?_;rw[z];exact Ja (f6 (f6 (d0 _ rfl (j6.toks R J h))))
 |none=>
  rw[(Option.isNone_iff_eq_none.mp (by rw[<-j0.not_isSome,(Ir (xs:=es) (k:=k)),x];rfl):t4 es k=b4)]at h;refine Ja (b5 (Wz (s:={s with toks:=t}) f rfl (f6 (f6 (d0 _ rfl ?_))) (by rw[H,O3];exact p6) (by simp)));let p:CU X c st s (st.set a (.D (es++[(k,v)]) (e0+1))) {s with heap:=s.heap.update (c.κ a) (V6.mapDictKeys (·.push ⟨q9 X.w k,key,dv⟩)),toks:=t}:=
   Lk R o f rfl λO B C=>J6.D (e:=e0+1) C (by rw[JG];exact t5.ext (IT R o B) (t5.snoc n q g)) (by rw[<-Jl x];exact SR F r) (by rw[u7];exact T9 w)
  exact j6.put p (p.2.V R (λb w=>w.elim) g) h
theorem uQ(p:A.units+14<t3)(R:i8 X c st s)(n:a<st.n)(hs:st.h a= .D es ep)(d:Vs X.M c st.n s.heap q vs)(h:o8 (Fh m a es ep q st) Q):
 b9 (d7 prog X.w) A (call (.builtin ("dict."++m)) (.ref (c.κ a)::vs)) (j6 X c st s G Q) E s:=by
 let e:=R.obj a n;rw[hs]at e;ext BS e C e t u D;revert d;refine fL (P:=λq=>Vs X.M c st.n s.heap q vs->_) h (λk h d=>?_) λk v h d=>?_
 .let b:=Am h;obtain⟨i,g⟩:=b.1;let h:=b.2;clear b;let b:=Kg h;ext1 b x z h;ext o0 d y r f o w;rw[i,f,show r=[] from w];exact zL p R n e t u D o g z rfl h
 .ext o0 d y r f o B;ext o0 B H F l j w;rw[f,l,show F=[] from w];rcases Zo h with⟨i,h⟩|h
  .let b:=Am h;ext1 b g h;rw[i];exact uL p R n e t u o j g h
  .let b:=Am h;ext1 b i h;let b:=Am h;ext1 b g h;rw[i];exact wS p R n e t u o j g.1 g.2 h
theorem xW:∀n:a6,n<127->33<=n->Pl n=c8:=by decide+kernel
theorem jx(R:i8 X c st s)(f:Vs X.M c st.n s.heap ds vs)(h:o8 (Zf m l ds st) Q):
 b9 (d7 prog X.w) A (call (.builtin ("str."++m)) (.str (C9 l) t::vs)) (j6 X c st s G Q) E s:=by
 cases l with
 |nil=>exact h.elim
 |cons a r=>
  let b:=Am h;obtain⟨g,i,j,k,o⟩:=b.1;let n:=b.2;clear b;cases List.isEmpty_iff.mp g;cases List.isEmpty_iff.mp j;rw[i,show vs=[] from f];let e:((C9 [a]).length>0&&(C9 [a]).cps.all Pl)=c8:=by
   let p:(C9 [a]).cps.all Pl=c8:=by refine(?_:#[a].all Pl=c8);simp[xW a (BK ‹_›) k]
   rw[p,b7.and_false]
  refine call_gives nJ (typeIs_str s _ _) yb (s_ _) (gives_str_isspace (C9 [a]) t) ?_;rw[e];exact j6.U (d:=.bool c8) R rfl n
theorem ud(Z:A.units+10<t3)(R:i8 X c st s)(M:V X.M c st.n s.heap (.B xs) v)(k:Vs X.M c st.n s.heap H vs)(h:o8 (ZO m xs H st) Q):
 b9 (d7 prog X.w) A (call (.builtin ("tuple."++m)) (v::vs)) (j6 X c st s G Q) E s:=by
 revert k;refine yB (P:=λH=>Vs X.M c st.n s.heap H vs->_) h λx h k=>?_;let l:=Am h;obtain⟨hm,N⟩:=l.1;let h:=l.2;clear l;refine c9 (Kg h) λi O h'=>?_;ext o0 k u r K S g;rw[hm,K,show r=[] from g];rw[V8]at N;refine c9 (List.findIdx?_eq_some_iff_getElem.mp O) λt z w=>?_;ext G9 M a d e rfl w0 C p;have D:=Vs.length p;rw[A0]at D;refine Ah jI (d0 _ C rfl) zv ?_ (z' _ _);refine b5 (m:=selfAndSome "tuple.index" "index" 1 3 _) (f6 (Ti C rfl (R8 (R8 (b5 ?_)))));rw[jG];rw[(by simp[kQ]:[:min d.size d.size].size=d.size)];refine Ft _ (λn b I=>b=(b4,())/\I=s/\∃j,n=Wi j (d.size - j)/\j<=i) _ ?_ ?_ _ _ ⟨rfl,rfl,0,rfl,F9 _⟩
 .rintro F n b I T;clear C;refine u0 T ?_;clear T;clear g;rintro rfl rfl o;ext1 o j g f;have U:d.size - j=(d.size - (j+1))+1:=Rs (bc t D f);rw[U,Qf]at g;injection g with h1 h2;subst h1;let L:=uq U D;let q:=v5 L;let l:=Vs_get? p q;ext1 l v W J;rw[W];refine b5 (Kf 3 (gD Z rfl) (N _ (p8 q)) J S ?_);by_cases y:F=i
  .clear O w q J;subst y;rw[z];exact b5 (b5 (wpAny_mkInt (f6 (f6 (f6 (d0 _ rfl (j6.toks R (V.int _ _) h')))))))
  .let B:=DX f y;let this:l3 xs[F] x=c8:=by simpa using w F B
   rw[this];exact f6 ⟨rfl,rfl,F+1,h2,by assumption⟩
 .rintro b I Y;clear R S C p;refine u0 Y ?_;clear Y;clear g;rintro rfl rfl o;ext c9 o j g f;exfalso;rw[(ty t D f),Qf]at g;cases g
end
theorem Sf:mroOf (.type "dict")=pure [.type "dict",.type "object"]:=by rw[mroOf_type];kernel_rfl
theorem qw:Cf (.type "dict") "__new__"=pure (a0 (.builtin "dict.__new__")):=by rw[Gq,HP];kernel_rfl
theorem aU:TypeCalled "dict" "dict.__new__" "dict.__init__":=
 ⟨by decide+kernel,by decide+kernel,(Dz _ _ Sf),madeBy_type Sf qw (by decide+kernel),by decide+kernel,by rw[MF];kernel_rfl,U_⟩theorem Xm(a:b8):checkTypeCall "dict" ⟨[a],[]⟩=pure ():=by kernel_rfl
theorem bv(a:b8):checkBuiltinCall "dict.__new__" ⟨[.type "dict",a],[]⟩=pure ():=by kernel_rfl
theorem xG:JX table "dict.__new__"=a0 Builtin.«dict.__new__»:=Wx (by kernel_rfl)theorem eE:plainId "dict.__new__"=a8:=by decide+kernel
theorem eS:isSubtype (.type "dict") (.type "dict")=pure a8:=by rw[MF];kernel_rfl
theorem Nh:plainId "dict.update.loop"=a8:=by decide+kernel
theorem YE:JX table "dict.update.loop"=a0 Builtin.«dict.update.loop»:=Wx (by kernel_rfl)
section
variable{prog:A5}{w:J3}{A:B7}{E:qVS}{s:f8}
theorem XB(a:b8){Q₁:qVS}(h:Q₁ (.ref s.heap.objs.size) {s with heap:=s.heap.push (E3 #[] 0)}):
 BJ (d7 prog w) A (.call (.builtin "dict.__new__") ⟨[.type "dict",a],[]⟩) (wants Q₁ E) s:=by
 refine LY (b5 (Jx (bv a) (f6 ⟨Dh eE _,Di xG ?_⟩)));rw[DS eE _];let b:=eS;let c:=Sf;obtain⟨e,g,d,f,i⟩:=s
 wp_walk
 exact h
end
section
variable{prog:A5}{X:Fx}{A:B7}{E:qVS}{c:Cx}{st:St}{s:f8}{G:i7->Prop}{Q:Q1}
theorem OB(st:St)(o a:AO):(st.A o).set st.n a=st.A a:=by unfold St.A St.set;congr 1;funext b;by_cases h:b=st.n<;>simp[h]
theorem ma(hu:A.units+20<t3)(R:i8 X c st s)(hv:V X.M c st.n s.heap d v)(q:st.dict? d=a0 es)(h8:es.length<=8)(y:es.all (λe=>CE e.1)=a8)
 (hq:Q (.ref st.n) (st.A (.D es es.length))):b9 (d7 prog X.w) A (call (.type "dict") [v]) (j6 X c st s G Q) E s:=by
 refine js ?_;intro M9 Q9;refine M6 (R.dict hv q) ?_;clear hv q;rintro a f e rfl ha hs rfl ho P;ext u0 P he hd hz;let hT:s.TypeIs (.ref (c.κ a)) "dict":=d0 _ ho rfl;refine mS (Q₁:=λW z=>W= .ref s.heap.objs.size/\z={s with heap:=s.heap.push (E3 #[] 0)}) aU (Xm _) jW (XB _ ⟨rfl,rfl⟩) λW z o=>?_;ext1 o rfl rfl;let R1:i8 X (c.add st.n s.heap.objs.size) (st.A (.D [] 0)) {s with heap:=s.heap.push (E3 #[] 0)}:=
  R.A (l8 _) (Ext.push _ _) rfl rfl (J6.D (e:=0) (y9 _ rfl) rfl Ge (F9 _))
 let Y:EL {s with heap:=s.heap.push (E3 #[] 0)} (.ref s.heap.objs.size) "dict":=d0 _ (y9 _ rfl) rfl;have F:EL {s with heap:=s.heap.push (E3 #[] 0)} (.ref (c.κ a)) "dict":=d0 _ (A9 _ ho) rfl;refine m0 Y (kL _ _) (b5 (m:=pD "__init__" _) (NR Y (R8 (f6 ?_))));dsimp only;refine ZK F (X8 (by decide) (b5 (m:=yf _ _ _) ?_));have k:∀x∈es,∃l,x.1= .str l:=by intro x q;rw[V8]at y;have:=y x q;cases h1:x.1<;>rw[h1]at this<;>first|(cases this;done)|exact⟨_,rfl⟩
 have L:=t5.len he;rw[A0]at L;let u:=A9 _ ho;let Z:=m6 (C4 ho);refine b5 (YL F eS (XV F PySem.F.slot_dict_iter.lookup (f6 (Fo rfl (R8 (X8 (by simpa using C8 Z) (b5 (X8 (by rw[Hk R ha];exact Ch) (f6 ?_)))))))));refine Hi (s:={s with heap:=s.heap.push (E3 #[] 0)}) u rfl ?_;let hfew:(decide (f.size<=8)&&f.all λe=>(keyPart e.key).isSome)=a8:=by rw[C2,C3];refine⟨gH L h8 rfl,?_⟩;rw[l4.all_eq_true];intro i M;let hix:=Hm M L;let n:=t5.get he i es[i] (v5 hix);ext1 n en r D S T;rw[W6,DO M]at r;injection r with r;clear S T;subst r;refine d4 (k es[i] (EO _)) λl H=>?_;rw[H]at D;ext d4 D t ht;rw[ht];rfl
 rw[hfew];refine cT (s:={s with heap:=s.heap.push (E3 #[] 0)}) u rfl (Hi (s:={s with heap:=s.heap.push (E3 #[] 0)}) u rfl (b5 ?_));rw[jG];rw[(by simp[kQ]:[:f.size].size=f.size)];refine Ft _ (λB _ U=>∃i,B=Wi i (f.size - i)/\i<=f.size/\i8 X (c.add st.n s.heap.objs.size) (st.A (.D (es.take i) i)) U/\k7 c st s (c.add st.n s.heap.objs.size) (st.A (.D (es.take i) i)) U y5/\U.heap.get? (c.κ a)=a0 (E3 f e)) _ ?_ ?_ _ _
  (GK 0 rfl (F9 _) R1 (k7.A R (l8 _) (Ext.push _ _):k7 c st s (c.add st.n s.heap.objs.size) (st.A (.D [] 0)) {s with heap:=s.heap.push (E3 #[] 0)} y5) u)
 .rintro g B b U z1;ext Lv z1 j w I Rj N J;by_cases O:j<f.size
  case neg=>let this:=Wm (Nat.not_lt.mp O);rw[this]at w;cases w
  let e1:=Rs O;rw[e1,Qf]at w;injection w with h1 h2;subst h1;have K:g<es.length:=L▸Ml (e1▸M7 _);let hgx:es[g]?=a0 es[g]:=by simp[K]
  let n:=t5.get he g es[g] hgx;ext1 n en r D S T;rw[W6]at r;refine d4 (k es[g] (EO _)) λl H=>Hi J rfl ?_;rw[r];let p:E5 (es.take g) es[g].1=b4:=by unfold E5;rw[Mg];intro x q;refine d4 (N2 q) λi P=>d4 P ?_;clear P;clear q;rintro M rfl;rw[O9]at M;rw[JU];exact((List.pairwise_iff_getElem.mp hd) i g (Ih M) K (Hh M)).1
  let hok:v8 (es.take g) es[g].1=a8:=by simp only[v8,C2,Mt,V8,Ai];rw[H];refine⟨by simp[Q3],λx q=>d4 (k x (LV q)) λl' hl'=>?_⟩;rw[hl'];rfl
  let hset:(st.A (.D (es.take g) g)).set st.n (BB (es.take g) es[g].1 es[g].2 g)=st.A (.D (es.take (g+1)) (g+1)):=by
   rw[OB];unfold BB;let this:(t4 (es.take g) es[g].1).isSome=c8:=by rw[Ir,p];rfl
   rw[this,Jl p];congr 2;rw[Ak,hgx];rfl
  refine CZ ?_;rw[T];refine pe (gL hu rfl) Rj Cx.p (B8 _) (es:=es.take g) (ep:=g) (by simp[St.A]) (d:=es[g].2) (N.V R (λb hb=>hb.elim) D) (N.V R (λb hb=>hb.elim) S) hok (by rw[O9];exact Jh (v0 (j7 K hz))) ?_
  .intro s'' hp hk;rw[hset]at hp;let C:=hk _ _ Z J;exact cT C rfl (X8 (by simp) (f6 (GK (g+1) h2 ‹_› hp.1 (N.trans hp.2) C)))
 .rintro b U z2;ext Lv z2 j w I Rj N J;by_cases O:j<f.size
  .have e1:f.size - j=(f.size - (j+1))+1:=Rs O;rw[e1,Qf]at w;cases w
  .have hjn:j=es.length:=AL (L▸I) (L▸Nat.not_lt.mp O);clear w I O;subst hjn;rw[X4]at Rj N;exact f6 (b5 (m:=lH _ []) (f6 (f6 ⟨rfl,⟨_,_,_,hq,Rj,⟨B8 _,by rw[Cx.p]⟩,N.z λ_ h=>h.elim⟩⟩)))
end
def Cx.O(c:Cx)(P:i7->Prop):Cx:=⟨c.κ,P⟩
section
variable{X:Fx}{st:St}
theorem YB(hn:∀a items e,¬c.P a->h.get? a=a0 (x9 items e)->¬P' a)(x:J6 X c n h o a):J6 X ⟨c.κ,P'⟩ n h o a:=by
 have ep:∀{xs:a7 (b0×b0)}{es:a7 Af},t5 X.w X.M c n h xs es->t5 X.w X.M ⟨c.κ,P'⟩ n h xs es:=by
  intro xs
  induction xs with
  |nil=>intro es x;exact x
  |cons x xs ih=>rintro es z1;ext C7 z1 e r q h1 h2 h3 hr;exact U8 e r q (FV hn _ _ h1) (FV hn _ _ h2) h3 (ih hr)
 cases o with
 |L xs=>ext o0 x items e h1 h2 h3;exact E8 items e h1 (Lo hn _ _ h2) h3
 |D es e=>ext1 x ents h1 h2 h3;exact v7 ents h1 (ep h2) h3
 |I cn d=>exact x
 |fld es=>ext y3 x m h1 h2 h3;exact v7 m h1 (λf d e=>c9 (h2 f d e) λv a b=>d0 v a (FV hn _ _ b)) h3
theorem i8.hide(R:i8 X c st s)(x:Fr [] s s')(hf:∀b∈fp,s.heap.objs.size<=b/\b<s'.heap.objs.size):i8 X (c.hide fp) st s':=by
 have he:Ext s.heap s'.heap:=⟨x.size,λb o q=>x.keep b o J8 q⟩;have hlt:∀a,a<st.n->c.κ a<s.heap.objs.size:=λa ha=>by
  let f:=R.obj a ha;cases hs:st.h a with
  |L xs=>rw[hs]at f;ext F8 f w0 w0 h1 w0;exact C4 h1
  |D es ep=>rw[hs]at f;ext c9 f w0 h1 w0;exact C4 h1
  |I cn d=>rw[hs]at f;ext1 f w0 h1;exact C4 h1
  |fld es=>rw[hs]at f;ext c9 f w0 z1 w0;ext Em z1 w0 w0 w0 h1 w0;exact C4 h1
 exact{
  stays:=λb o hb=>he.2 _ _ (R.stays b o hb)
  lo:=R.lo
  inj:=R.inj
  obj:=λa ha=>To (λb items e w0 hb=>he.2 _ _ hb) (λx hx=>he.2 _ _ hx) (YB (c:=c) (Uw λb hb=>(hf b hb).1) (R.obj a ha))
  priv:=λa ha q=>q.elim (R.priv a ha) λh=>(P9 (hf _ h).1 (hlt a ha)).elim
  pold:=λb q=>q.elim (λh=>⟨(R.pold b h).1,j7 (R.pold b h).2 x.size⟩) λh=>⟨b6 R.bsz (hf b h).1,(hf b h).2⟩
  gens:=x.gens.trans R.gens
  os:=x.os.trans R.os
  three:=R.three
  bsz:=b6 R.bsz x.size}
theorem i8.O(R:i8 X c st s)(d:∀b,P b->c.P b):i8 X (c.O P) st s where
 stays:=R.stays
 lo:=R.lo
 inj:=R.inj
 obj a ha:=YB (c:=c) (λa e e f e h=>f (d a h)) (R.obj a ha)
 priv a ha q:=R.priv a ha (d _ q)
 pold b q:=R.pold b (d b q)
 gens:=R.gens
 os:=R.os
 three:=R.three
 bsz:=R.bsz
theorem Iq(f:∀b,P b->c.P b)(g:V base c n h d v):V base (c.O P) n h d v:=
 FV (c:=c) (λa e e i e h=>i (f a h)) d v g
theorem k7.uH(x:Fr [] s s')(e:∀b,F b->G b\/s.heap.objs.size<=b)(y:k7 (c.hide fp) st s' c' st' s'' F):k7 c st s (c'.O c.P) st' s'' G:=
 ⟨y.n,y.aG,rfl,λb o d f g=>y.keep b o (x.keep b o J8 d) f λh=>(e b h).elim g λq=>(P9 q (C4 d)).elim,
  λa i j=>b6 x.size (y.new a i j),b6 x.size y.size⟩
theorem j6.uH(x:Fr [] s s')(g:∀b,F b->G b\/s.heap.objs.size<=b)(p:j6 X (c.hide fp) st s' F Q v s''):j6 X c st s G Q v s'':=by
 obtain⟨d,a,e,h,R,i,y⟩:=p;let f:∀b,c.P b->e.P b:=λb j=>by rw[y.P];exact .inl j
 exact⟨d,a,e.O c.P,h,R.O f,Iq f i,y.uH x g⟩
end
theorem wH:Cf (.type "zip") "__getattr__"=pure b4:=by rw[Gq,HP];kernel_rfl
theorem qY:Cf (.type "zip") "keys"=pure b4:=by rw[Gq,HP];kernel_rfl
theorem vV:JX table "zip.__getattribute__"=a0 Builtin.«object.__getattribute__»:=
 VQ (id':="object.__getattribute__") (by kernel_rfl) (by decide+kernel) (by decide+kernel) (by kernel_rfl)
theorem ej(a:i7)(fs:l4 b8)(u:Dm):
 MK (Builtin.«object.__getattribute__» ⟨[.ref a,.str "keys" u],[]⟩) (λA R s=>s.heap.get? a=a0 {cls:=.type "zip",dict:=b4,data:=.fields fs,slots:=#[]}/\raisesAttr (.ref a) "keys" A R s):=
 MK.of_wp λe w A R s b=>by
  obtain⟨f,g,d,h,i⟩:=s;let j:=b.1;let b:=b.2;let k:(⟨f,g,d,h,i⟩:f8).TypeIs (.ref a) "zip":=d0 _ j rfl;let c:=qY;unfold Builtin.«object.__getattribute__»
  repeat(any_goals(first|assumption|wp_step))
  try simp only[(by decide:(["__module__","__name__","__qualname__","__doc__","__annotations__"]).contains ("keys":n4)=c8),Bx,Bu]
  repeat(any_goals(first|assumption|wp_step))
  exact wpAny_raiseAttrError b.1 b.2 (attrMsg_fits (by decide+kernel) (by rw[O3];decide:("keys":n4).length+100<=HX))
theorem bk(j:s.heap.get? a=a0 {cls:=.type "zip",dict:=b4,data:=.fields fs,slots:=#[]})(m:A.handled=b4)
 (h:∀i k,(∀b o,s.heap.get? b=a0 o->i.get? b=a0 o)->Q b4 {s with heap:=i,toks:=k}):b9 (d7 prog w) A (getAttr? (.ref a) "keys") Q E s:=by
 obtain⟨n,g,d,k,p⟩:=s;let l:∀c,(⟨n,g,d,c,p⟩:f8).TypeIs (.ref a) "zip":=λq=>d0 _ j rfl;let r:=sub_AttributeError;let t:=F.slot_zip_getattribute.lookup;let u:=F.slot_zip_getattribute.bind (.ref a);let v:=wH
 repeat(any_goals(first|assumption|exact l _|((with_reducible show b9 _ _ (call (b8.builtin "zip.__getattribute__") _ _) _ _ _);refine Pg F.slot_zip_getattribute (l _) vV (F.args_zip_getattribute_2 _ _) (ej a fs _) ⟨j,m,λi c e f=>?_⟩)|wp_step))
 refine S7 f.there λx y z=>?_;unfold getattributeRaised
 repeat(any_goals(first|assumption|wp_step))
 exact h _ _ f.keeps
def IV(es:a7 (b0×b0))(ps:a7 (b0×b0)):a7 (b0×b0):=ps.foldl (λes e=>Q0 es e.1 e.2) es
theorem qx{es:a7 (b0×b0)}{k:b0}(h:∀x∈es,CE x.1=a8)(b:CE k=a8):∀x∈Q0 es k d,CE x.1=a8:=by
 induction es with
 |nil=>intro x a;rw[List.mem_singleton.mp a];exact b
 |cons y es c=>
  intro x a;rw[KT]at a;split at a
  .rcases D2 a with rfl|a
   .exact h y j5
   .exact h x (k8 _ a)
  .rcases D2 a with rfl|a
   .exact h _ j5
   .exact c (λz e=>h z (k8 _ e)) x a
theorem qm{es:a7 (b0×b0)}{k:b0}(h:∀x∈es,CE x.1=a8)(b:CE k=a8):v8 es k=a8:=by
 let a:∀d,CE d=a8->Q3 d=2:=λd c=>by
  cases d with
  |str l=>rfl
  |_=>exact no c
 simp only[v8,C2,Mt,V8,Ai];rw[a k b];exact⟨by decide,λx e=>a _ (h x e)⟩
theorem tu(es:a7 (b0×b0))(k d:b0):BB es k d es.length= .D (Q0 es k d) (Q0 es k d).length:=by
 unfold BB;congr 1;rw[Ir];cases h:E5 es k with
 |none=>rw[Jl h];simp
 |some i=>rw[No h];simp
section
variable{prog:A5}{X:Fx}{A:B7}{E:qVS}{c c1:Cx}{st:St}{s:f8}{G:i7->Prop}{Q:Q1}
theorem ZR.put{h:l5}{i:b8}{z c d e f j k:i7}{l m:b7}{n r:a6}(x:ZR h i z c d e f l j n m k r)(a:∀b∈c::w6 z d e f,∀o,h.get? b=a0 o->h'.get? b=a0 o):ZR h' i z c d e f l j n m k r:=by let g:=x.zo;ext1 g t s;exact S7 x.to λp q u=>⟨⟨t,a _ (k8 _ j5) _ s⟩,a _ j5 _ x.ti,(Dz p q (a _ (k8 _ (k8 _ j5)) _ u)),x.s1.at (a _ (k8 _ (k8 _ (k8 _ j5)))),x.s2.at (a _ (by simp)),x.TT,x.ii,x.l1,x.l2⟩def OL(h:l5)(f0:b8):Prop:=f0= .none\/∃T:i7,f0=G7 (T:a6)/\∃o,h.get? T=a0 o
theorem wk{z:i7}{m:b7}{n:a6}{xs:l4 b8}{x:b8}{Q:j0 b8->f8->Prop}(hz:ZR s.heap f0 z TI TO i1 i2 m l1 n T2 l2 k2)(L:OL s.heap f0)
 {D:i7}(M:D<s.heap.objs.size)(g:∀q∈D::w6 z TO i1 i2,∀T:i7,f0=G7 (T:a6)->T≠q)
 (B:y0 s.heap m l1 xs)(C:y0 s.heap T2 l2 ys)(F:xs[n]?=a0 x)(G:ys[k2]?=a0 y)
 (H:∀(c:l5)(T:i7)(d:b8),ZR c d z TI TO i1 i2 m l1 (n+1) T2 l2 (k2+1)->OL c d->(∀q∈D::w6 z TO i1 i2,∀T:i7,d=G7 (T:a6)->T≠q)->Dg c T x y->s.heap.objs.size<=T->Fr (w6 z TO i1 i2) s {s with heap:=c}->Q (a0 (.ref T)) {s with heap:=c}):
 b9 (d7 prog X.w) A (Gc (.ref z)) Q E s:=by
 let i:∀{a b:i7},G7 (a:a6)=G7 (b:a6)->a=b:=λ{a b}h=>by
  simp only[G7,J_,and_true]at h;exact PJ h
 let w:∀q∈D::w6 z TO i1 i2,q<s.heap.objs.size:=by let t:=hz.zo;ext1 t P I;exact S7 hz.to λp r N=>Tq M (C4 I) (C4 N) hz.s1.lt hz.s2.lt
 rcases L with rfl|⟨u,rfl,o,J⟩
 .refine GS hz (YU (A:=A.in1) hz B C F G λc T f j k l=>H c T _ f (.inr ⟨T,rfl,_,j⟩) (λq v K e=>?_) j k l);have p:=i e;clear e;subst p;exact λe=>u6 (w q v) (by rw[<-e];exact P9 k)
 .refine GS hz (xi (A:=A.in1) ⟨o,J⟩ hz B C F G λc T f j k l=>H c T _ f (.inr ⟨u,rfl,o,l.keep _ _ (λO=>g u (k8 _ O) u rfl rfl) J⟩) (λq v K e=>?_) j k l);exact g q v K e
theorem jc{z:i7}{f:b7}{g:a6}{xs:l4 b8}{h:b8}{Q:j0 b8->f8->Prop}(i:A.handled=b4)(hz:ZR s.heap h z TI TO i1 i2 f l1 g T2 l2 k2)(n:OL s.heap h)
 (j:y0 s.heap f l1 xs)(k:y0 s.heap T2 l2 ys)(a:xs[g]?=b4\/ys[k2]?=b4)(l:∀m,Fr (w6 z TO i1 i2) s m->Q b4 m):b9 (d7 prog X.w) A (Gc (.ref z)) Q E s:=by
 rcases n with rfl|⟨q,rfl,o⟩
 .exact W2 (GS hz (TE (A:=A.in1) i hz j k a λp e b d=>⟨(Q6 e _ rfl d.choose_spec),λc=>l _ ⟨b,c,rfl,rfl⟩⟩))
 .exact W2 (GS hz (br (A:=A.in1) i o hz j k a λp e b d=>⟨(Q6 e _ rfl d.choose_spec),λc=>l _ ⟨b,c,rfl,rfl⟩⟩))
theorem Nu{st:St}{a:b0}{xs:a7 b0}{o:AO}(h:st.items? a=a0 xs)(c:∀q,a= .ref q->q<st.n):(st.A o).items? a=a0 xs:=by
 have ref:∀q,a= .ref q->(st.A o).list? a=st.list? a:=by
  intro q e;let b:=c q e;subst e;let d:(st.A o).h q=st.h q:=by simp[St.A,m6 b]
  let f:q<(st.A o).n:=BL b;exact G5 f (by rw[d];exact(G5 b rfl).symm)
 cases a<;>first|exact h|skip
 exact(ref _ rfl).trans h
theorem jv{R':MJ->f8->Prop}(hu:A.units+20<t3)(hh:A.handled=b4){a:b0}{xs:a7 b0}{D:i7}{T1:b7}(V:c.κ st.n=D)(f:∀q∈TI::w6 z TO i1 i2,c.P q)
 (hxs:∀x∈xs,CE x=a8)(O:xs.length<=j8)(ia:st.items? a=a0 xs)(ib:st.items? b=a0 ys)(H:∀q,a= .ref q->q<st.n)(I:∀q,b= .ref q->q<st.n):
 ∀(ps:a7 (b0×b0))(k:a6)(es:a7 (b0×b0))(F:b8)(i:d3)(s:f8),(xs.zip ys).drop k=ps->(∀x∈es,CE x.1=a8)->es.length<=k->ZR s.heap F z TI TO i1 i2 T1 l1 k T2 l2 k->
 OL s.heap F->(∀q∈D::w6 z TO i1 i2,∀T:i7,F=G7 (T:a6)->T≠q)->i8 X c (st.A (.D es es.length)) s->N0 X c (st.n+1) s.heap a T1 l1->N0 X c (st.n+1) s.heap b T2 l2->
 (∀C,i8 X c (st.A (.D (IV es ps) (IV es ps).length)) C->k7 c (st.A (.D es es.length)) s c (st.A (.D (IV es ps) (IV es ps).length)) C (·∈TI::w6 z TO i1 i2)->R' (.ok (.ret .none)) C)->
 BJ (d7 prog X.w) A (.builtin "dict.update.loop" ⟨[.ref D,.ref z,.int i 0,.none],[]⟩) R' s:=by
 let hfp':∀q∈w6 z TO i1 i2,c.P q:=λq n=>f q (k8 _ n);intro ps
 induction ps with
 |nil=>
  intro k es F i s E v j W Y J R Q S Z;refine c9 (Q.items R (Nu ia H)) λK wa w=>c9 (S.items R (Nu ib I)) λL wb B=>?_;let P:K[k]?=b4\/L[k]?=b4:=by
   rw[Qb,PY]at E;by_cases h:xs.length<=k
   .exact .inl (Hb w (by simpa using h))
   .exact .inr (Hb B (by rw[PM];exact di E h))
  refine Di YE ?_;rw[DS Nh _];refine b5 (jc (A:=A.in1) hh W Y wa wb P λC F1=>?_);let r:Fr (TI::w6 z TO i1 i2) s C:=F1.z λq n=>k8 _ n;exact b5 (m:=lH D []) (f6 (f6 (Z C (r.rep R f) r.step)))
 |cons p ps ih=>
  intro k es F i s E v j W Y J R Q S Z;let hk:(xs.zip ys)[k]?=a0 p:=by let d:=t0 (λl=>l[0]?) E;simpa using d
  let hd':(xs.zip ys).drop (k+1)=ps:=by let d:=t0 (LL 1) E;simpa[Vg]using d
  clear E;obtain⟨x,y⟩:=p;have t:xs[k]?=a0 x/\ys[k]?=a0 y:=by rw[Mz]at hk;exact hk
  refine c9 (Q.items R (Nu ia H)) λK wa w=>c9 (S.items R (Nu ib I)) λL wb B=>c9 (Vs_get? w t.1) λvx p1 p2=>c9 (Vs_get? B t.2) λvy q1 q2=>?_;have M:CE x=a8:=hxs x (p8 t.1);let hDs:D<s.heap.objs.size:=by let d:=R.obj st.n (B8 _);rw[show(st.A (.D es es.length)).h st.n= .D es es.length by simp[St.A],V]at d;ext1 d G h1 G;exact C4 h1
  refine Di YE ?_;rw[DS Nh _];refine b5 (wk (A:=A.in1) W Y (D:=D) hDs J wa wb p1 q1 λU T f0' hz' hf' u ht hT F1=>?_);have r:Fr (TI::w6 z TO i1 i2) s {s with heap:=U}:=F1.z λq n=>k8 _ n;let R2:=r.rep R f;refine b5 (K9 (b5 (ME (b5 (HI ((d0 _ ht rfl):EL {s with heap:=U} (.ref T) "tuple") (Fo (by decide) (b5 (Ce (s:={s with heap:=U}) ht rfl (f6 (K9 (QJ (s:={s with heap:=U}) (gD hu rfl) R2 V (B8 _) (es:=es) (ep:=es.length) (by simp[St.A]) (r.V f p2) (r.V f q2) (qm v M) (b6 j (m9 (j7 (x0 t.1) O))) λs3 g N=>?_)))))))))));rw[(by rw[OB,tu]:(st.A (.D es es.length)).set st.n (BB es x y es.length)=st.A (.D (Q0 es x y) (Q0 es x y).length))]at g;refine f6 ⟨Dh Nh _,ih (k+1) (Q0 es x y) f0' (i+1) s3 hd' (qx v M) ?_ ?_ ?_ u g.1 ?_ ?_ ?_⟩
  .let d:=ZF es x y;exact NI d j
  .exact hz'.put λq n o ho=>N q o ((λq n e=>R.priv st.n (B8 _) (by rw[V,<-e];exact n):∀q,c.P q->q≠D) q (f q n)) ho
  .rcases hf' with e|⟨T',e,o,ho⟩
   .exact .inl e
   .exact .inr ⟨T',e,o,N _ _ (u D j5 T' e) ho⟩
  .exact N0.step R2 g.2 (λG h=>h.elim) (Q.fr r f)
  .exact N0.step R2 g.2 (λG h=>h.elim) (S.fr r f)
  .intro s4 R4 S4;refine Z s4 R4 ((r.step.trans (g.2.z λG h=>h.elim)).trans S4)
set_option tactic.hygienic true in
theorem mn{a:b0}{v:b8}{xs:a7 b0}{f:f8}(hu:A.units+26<t3)(hh:A.handled=b4)(R:i8 X c st s)(O:GM X c st s (.zip a b 0) v f)(ia:st.items? a=a0 xs)(ib:st.items? b=a0 ys)(M:xs.length<=j8)(hxs:∀x∈xs,CE x=a8)
 (n:Q (.ref st.n) (st.A (.D (IV [] (xs.zip ys)) (IV [] (xs.zip ys)).length))):b9 (d7 prog X.w) A (call (.type "dict") [v]) (j6 X c st s G Q) E f:=by
 obtain⟨I,fp,rfl,F0,B,O⟩:=O;let R1:=R.hide F0 B;cases O with
 |zip va vb hz=>
  rename_i g i j k l1 l2 T1 T2;refine v6 (Q:=j6 X (c.hide (g::w6 I i j k)) st f (·∈g::w6 I i j k) Q) ?_ (λv s2 p=>p.uH F0 λq n=>.inr (B q n).1) λt t e=>e;have han:∀q,a= .ref q->q<st.n:=λq e=>by
   clear ia;subst e;rcases va with⟨_,S,h,_⟩|⟨_,q',h,z,_⟩
   .cases h
   .cases h;exact z
  have hbn:∀q,b= .ref q->q<st.n:=λq e=>by
   clear ib;subst e;rcases vb with⟨_,S,h,_⟩|⟨_,q',h,z,_⟩
   .cases h
   .cases h;exact z
  let hP:∀q∈g::w6 I i j k,(c.hide (g::w6 I i j k)).P q:=λq n=>.inr n;refine mS (Q₁:=λC u=>C= .ref f.heap.objs.size/\u={f with heap:=f.heap.push (E3 #[] 0)}) aU (Xm _) jW (XB _ ⟨rfl,rfl⟩) λC u r=>?_;ext1 r rfl rfl;let R2:i8 X ((c.hide (g::w6 I i j k)).add st.n f.heap.objs.size) (st.A (.D [] 0)) {f with heap:=f.heap.push (E3 #[] 0)}:=
   R1.A (l8 _) (Ext.push _ _) rfl rfl (J6.D (e:=0) (y9 _ rfl) rfl Ge (F9 _))
  let F:EL {f with heap:=f.heap.push (E3 #[] 0)} (.ref f.heap.objs.size) "dict":=d0 _ (y9 _ rfl) rfl;let U:=hz.zo;ext1 U f1 zo;let H:(f.heap.push (E3 #[] 0)).get? I=a0 (Oa .none f1 g i):=A9 _ zo;refine m0 F (kL _ _) (b5 (m:=pD "__init__" _) (b5 (WD F (b5 (f6 (f6 ?_))))));dsimp only;refine b5 (HI ((d0 _ H rfl):EL {f with heap:=f.heap.push (E3 #[] 0)} (.ref I) "zip") (Fo (by decide) (b5 (W2 (bk (s:={f with heap:=f.heap.push (E3 #[] 0)}) H hh λy V W hz3=>b5 (EN ?_))))));let Y:Fr (g::w6 I i j k) {f with heap:=f.heap.push (E3 #[] 0)} {f with heap:=y,toks:=V}:=⟨λb o t q=>W b o q,hz3,rfl,rfl⟩;let z3:ZR y .none I g i j k T1 l1 0 T2 l2 0:=hz.put λq t o ho=>W q o (A9 _ ho);let J:Fr [] f {f with heap:=y,toks:=V}:=⟨λb o t q=>W b o (A9 _ q),by let N:=Y.size;let h5:f.heap.objs.size<=(f.heap.push (E3 #[] 0)).objs.size:=(Ext.push _ _).1;exact b6 h5 N,rfl,rfl⟩;let K:=va.fr J (λq n=>by simp at n);let L:=vb.fr J (λq n=>by simp at n);let w:∀{d:b0}{T:b7}{l:i7},N0 X (c.hide (g::w6 I i j k)) st.n y d T l->N0 X ((c.hide (g::w6 I i j k)).add st.n f.heap.objs.size) (st.n+1) y d T l:=by
   intro d T l Z;rcases Z with⟨rfl,S,rfl,Z⟩|⟨rfl,q,rfl,n,rfl⟩
   .exact .inl ⟨rfl,S,rfl,Hg (N8 _) (λa ha=>Cx.o ha) (λt t=>id) Z⟩
   .exact .inr ⟨rfl,q,rfl,BL n,(Cx.o n).symm⟩
  refine b5 (Kb (s:={f with heap:=y,toks:=V}) (.zip K L z3:Ao X (c.hide (g::w6 I i j k)) st.n y (.zip a b 0) I (g::w6 I i j k)) (f6 ⟨Dh Nh _,jv (A:=A.in1) (c:=(c.hide (g::w6 I i j k)).add st.n f.heap.objs.size) (st:=st) (D:=f.heap.objs.size) (gD hu rfl) hh Cx.p hP hxs M ia ib han hbn (xs.zip ys) 0 [] .none 0 _ rfl (λt h=>by simp at h) (l8 _) z3 (.inl rfl) (λq t T e=>by simp[G7]at e) (Y.rep R2 hP) ?_ ?_ λs' R4 S4=>?_⟩))
  .exact w K
  .exact w L
  .exact⟨rfl,_,_,_,n,R4,⟨B8 _,by rw[Cx.p]⟩,(((k7.A R1 (l8 _) (Ext.push _ _):k7 (c.hide (g::w6 I i j k)) st f ((c.hide (g::w6 I i j k)).add st.n f.heap.objs.size) (st.A (.D [] 0)) {f with heap:=f.heap.push (E3 #[] 0)} y5).z (F':=(·∈g::w6 I i j k)) λt h=>h.elim).trans Y.step).trans S4⟩
end
section
variable{prog:A5}{X:Fx}{A:B7}{E:qVS}{c:Cx}{st:St}{s:f8}{G:i7->Prop}{Q:Q1}
theorem fw:∀{xs:a7 (b0×b0)}{es:a7 Af},t5 w base c n h xs es->∀(i:a6)(k:SI)(v:b8),(GO xs es)[i]?=a0 (k,v)->∃x,xs[i]?=a0 x/\k=y6 x.1/\V base c n h x.2 v:=by
 intro f
 induction f with
 |nil=>intro es e i k v b;cases b
 |cons y xs g=>
  intro d a i k v b;ext C7 a e r q d j d l;subst q;cases i with
  |zero=>cases b;exact v7 y rfl rfl j
  |succ i=>exact g l i k v b
theorem zD(R:i8 X c st s)(h:V X.M c st.n s.heap d v)(i:st.dict? d=a0 es)(g:∀x∈es,leaf x.1=a8){Q:qVS}
 (l:∀(r a:i7)f,Fr [] s f->v= .ref a->f.heap.IsItemsView r a->Q (.ref r) f):b9 (d7 prog X.w) A (call (.builtin "dict.items") [v]) Q E s:=by
 refine M6 (R.dict h i) ?_;clear h i;rintro a k e rfl m p rfl j b;ext1 b n o q;exact call_meetsIn nG (T:="dict") (d0 _ j rfl) U' (l_ _) (meets_dict_items (W9 prog X.w) (c.κ a) (Hk R m))
  ⟨⟨_,(ON (prog:=prog) j n o g).dictOf⟩,l _ _ _ (FX _ s.toks) rfl (v7 _ (y9 _ rfl) rfl rfl)⟩
theorem iw(L:A.units+12<t3)(M:A.handled=b4)(R:i8 X c st s)(N:V X.M c st.n s.heap d (.ref a))(C:st.dict? d=a0 es)(n:∀x∈es,leaf x.1=a8)(m:s.heap.IsItemsView r a)
 (O:C1 (es.map λe=>b0.B [e.1,e.2])=a8)(P:Q (.ref st.n) (st.A (.L (y8 (es.map λe=>b0.B [e.1,e.2]))))):b9 (d7 prog X.w) A (call (.builtin "sorted") [.ref r]) (j6 X c st s G Q) E s:=by
 refine M6 (R.dict N C) ?_;clear C;rintro b K e rfl hb hs l S D;ext u0 D o T hz;injection l with l;subst l;refine gP L R O P (W2 (kdx_collect (A:=A.in1) M m (ON (prog:=prog) S o T n) (by rw[HY o,O3];exact p6) λF tk U W Y H u=>?_));let I:Ext s.heap F:=⟨u,W⟩;refine M3 ?_ I rfl rfl;refine bW (by simp[Y,HY o]) λi d v f g=>?_;rw[o7]at f g;cases h:es[i]? with
 |none=>rw[h]at f;cases f
 |some x=>
  rw[h]at f;simp only[Au,At]at f;subst f;cases j:U[i]? with
  |none=>rw[j]at g;cases g
  |some q=>rw[j]at g;simp only[Au,At]at g;subst g;refine FM (H.pairs i q j) λw k x2 J Z h3=>y3 (fw o i _ _ J) ?_;rintro y p rfl h5;rw[h]at p;injection p with p;clear J;subst p;let z:=n x (p8 h);let B:V X.M c st.n F x.1 w:=cI z Z;exact V.B (λhp=>(P9 (m9 (H.above q (p8 j))) (R.pold _ hp).2).elim) h3 ⟨_,_,rfl,B,_,_,rfl,BY (λt t t t=>I.2 _ _) h5,rfl⟩
end
theorem EF(h:nm x=nm y):x=y:=by
 let c:(Cg x).cps.toList=(Cg y).cps.toList:=by rw[show Cg x=Cg y from h]
 rw[Qu,Qu]at c;exact String.toList_inj.mp ((oO λa b e=>Char.toNat_inj.mp e).mp (by simpa using c:x.toList.map Gu=y.toList.map Gu))def cf(env:I0)(x:n4):Prop:=env.kindOf x=a0 .cell\/env.kindOf x=a0 .free
structure p7 (X:Fx) (c:Cx) (n:a6) (h:l5) (env:I0) (ρ:Env):Prop where
 kind:env.scope.kind= .function
 g:env.globals=X.g
 b:env.builtins=X.b
 pl:c.P env.locals
 loc:∃m,h.Ns env.locals m/\∀x d,ρ x=a0 d->x≠".0"->env.kindOf (nm x)=a0 .local->∃v,m (nm x)=a0 v/\V X.M c n h d v
 cel:∀k,cf env k->∃a u,env.cells.lookup k=a0 a/\c.P a/\a≠env.locals/\h.IsCell a u/\∀x d,nm x=k->ρ x=a0 d->∃v,u=a0 v/\V X.M c n h d v
 apart:∀x y a,cf env x->cf env y->env.cells.lookup x=a0 a->env.cells.lookup y=a0 a->x=y
def CP(env:I0)(x:j3):i7:=if env.kindOf (nm x)=a0 .local then env.locals else(env.cells.lookup (nm x)).getD 0
def ED(env:I0)(T:j3->Prop):i7->Prop:=λb=>∃x,T x/\CP env x=b
section
variable{X:Fx}{st:St}{s':f8}
theorem p7.map(H:p7 X c n h env ρ)(k:∀b,c.P b->c'.P b)(l:∀b o,c.P b->h.get? b=a0 o->h'.get? b=a0 o)
 (s:∀d v,V X.M c n h d v->V X.M c' n' h' d v):p7 X c' n' h' env ρ where
 kind:=H.kind
 g:=H.g
 b:=H.b
 pl:=k _ H.pl
 loc:=by refine c9 H.loc ?_;rintro m⟨o,t,w,e,r⟩f;exact(d0 m (Kp o t w (l _ _ H.pl e) r) λx d i y j=>c9 (f x d i y j) λv a b=>d0 v a (s _ _ b))
 cel x hx:=by refine C7 (H.cel x hx) ?_;rintro a u i f j⟨o,z,A⟩B;exact(U8 a u i (k _ f) j (d0 o (l _ _ f z) A) λx d C e=>c9 (B x d C e) λv p q=>d0 v p (s _ _ q))
 apart:=H.apart
theorem p7.step(H:p7 X c st.n s.heap env ρ)(R:i8 X c st s)(x:k7 c st s c' st' s' y5):p7 X c' st'.n s'.heap env ρ:=
 H.map (λb d=>by rw[x.P];exact d) (λb o d e=>x.keep b o e (λa g q=>R.priv a g (q▸d)) id) λf f i=>x.V R (λf h=>h.elim) i
theorem p7.ext(H:p7 X c st.n s.heap env ρ)(R:i8 X c st s)(x:Ext s.heap s'.heap):p7 X c st.n s'.heap env ρ:=
 H.step (st':=st) R (k7.ext x)
theorem p7.hide(H:p7 X c st.n s.heap env ρ)(x:Fr [] s s')(d:∀b∈fp,s.heap.objs.size<=b):p7 X (c.hide fp) st.n s'.heap env ρ:=
 H.map (λa=>.inl) (λb o a e=>x.keep b o J8 e) λa a f=>Ot x d f
theorem p7.O{l:Env}(r:p7 X c n0 s env l)(H:p7 X c' n h env ρ)(t:∀b,c.P b->c'.P b):p7 X (c'.O c.P) n h env ρ where
 kind:=H.kind
 g:=H.g
 b:=H.b
 pl:=r.pl
 loc:=by exact c9 H.loc λm i y=>(d0 m i λx d j s k=>c9 (y x d j s k) λv a b=>d0 v a (Iq t b))
 cel x hx:=by refine C7 (H.cel x hx) λa u i w j k z=>o0 (r.cel x hx) λB w f o w=>?_;rw[i]at f;cases f;exact(U8 a u i o j k λx d A e=>c9 (z x d A e) λv p q=>d0 v p (Iq t q))
 apart:=H.apart
theorem MQ(b:env.kindOf (nm x)=a0 .cell)(h:env.cells.lookup (nm x)=a0 a):CP env x=a:=by unfold CP;rw[b,h];rfl
theorem NV(a:env.kindOf (nm x)=a0 .local):CP env x=env.locals:=by unfold CP;refine G5 a ?_;try with_reducible rfl
theorem UQ(h:x≠"__debug__"):(nm x==("__debug__":n4))=c8:=by rw[Ga];exact λq=>h (EF q)
theorem p7.load(H:p7 X c st.n s.heap env ρ)(i:ρ x=a0 d)(b:env.kindOf (nm x)=a0 .local\/cf env (nm x)) (n:x≠"__classdict__") (hz:x≠".0") {Q:qVS}
 (h:∀v,V X.M c st.n s.heap d v->Q v s):b9 (d7 prog X.w) A (loadName env (nm x)) Q E s:=by
 rcases b with b|b
 .refine c9 H.loc λm o p=>?_;let g:=p x d i hz b;ext1 g v e f;exact wpAny_loadName_local H.kind b o e (h v f)
 .refine C7 (H.cel _ b) λa u j r r k l=>c9 (l x d rfl i) ?_;clear l;rintro v rfl f;rcases b with b|b
  .exact wpAny_loadName_cell H.kind b j k (h v f)
  .refine wpAny_loadName_free H.kind b j k (h v f) ?_;rw[Ga];exact λq=>n (EF q)
theorem k7.priv(R:i8 X c st s)(k:∀b o,s.heap.get? b=a0 o->¬F b->s'.heap.get? b=a0 o)(hz:s.heap.objs.size<=s'.heap.objs.size):k7 c st s c st s' F:=
 ⟨l8 _,λa a=>rfl,rfl,λb o d a e=>k b o d e,λa f g=>FB g f,hz⟩
theorem p7.store(H:p7 X c st.n s.heap env ρ)(R:i8 X c st s)(k:env.kindOf (nm x)=a0 .local\/env.kindOf (nm x)=a0 .cell) (W:V X.M c st.n s.heap d v) (M:F (CP env x))
 {Q:Ay->f8->Prop} (P:∀Y,i8 X c st Y->p7 X c st.n Y.heap env (ρ.set x d)->k7 c st s c st Y F->Q () Y):b9 (d7 prog X.w) A (storeName env (nm x) v) Q E s:=by
 have i:∀(a:i7)(l:l5)(t:a6),c.P a->F a->Aj a s.heap l->(p7 X c st.n s.heap env ρ->(∀d v,V X.M c st.n s.heap d v->V X.M c st.n l d v)->p7 X c st.n l env (ρ.set x d))->Q () {s with heap:=l,toks:=t}:=by
  intro a l t hp hf f hE;have I:s.heap.objs.size<=l.objs.size:=by rw[f.1];exact l8 _
  refine P _ (R.keep (λb o D hnp=>f.extBut b o (λq=>hnp (q▸hp)) D) I rfl rfl:i8 X c st {s with heap:=l,toks:=t}) (hE H λd v W=>?_) (k7.priv R (λb o D J=>f.extBut b o (λq=>J (q▸hf)) D) I:k7 c st s c st {s with heap:=l,toks:=t} F);exact(k7.priv R (λb o D J=>f.extBut b o J D) I:k7 c st s c st {s with heap:=l,toks:=t} (λb=>b=a)).V R (λb D=>.inl (D▸hp)) W
 rcases k with k|k
 .refine c9 H.loc λm hn hm=>wpAny_storeName_local k hn (λl K f=>i env.locals l _ H.pl (NV k▸M) f λH G=>?_) (by rw[H.kind];rfl);refine⟨H.kind,H.g,H.b,H.pl,(d0 _ K λy e h L r=>?_),λy h=>?_,H.apart⟩
  .simp only[Env.set]at h;by_cases g:y=x
   .clear M P i k K;subst g;rw[g0 rfl]at h ⊢;cases h;exact d0 v rfl (G _ _ W)
   .rw[j4 g]at h;rw[j4 λq=>g (EF q)];let j:=hm y e h L r;ext1 j u n p;exact d0 u n (G _ _ p)
  .refine C7 (H.cel y h) λa u B S N Z h5=>U8 a u B S N (Z.sameBut f N) λz e O C=>?_;clear B;subst O;have g:z≠x:=by clear M P i K C;rintro rfl;rcases h with h|h<;>rw[k]at h<;>cases h
   simp only[Env.set,j4 g]at C;let j:=h5 z e rfl C;ext1 j w n p;exact d0 w n (G _ _ p)
 .refine C7 (H.cel _ (.inl k)) λa u B S N Z h5=>wpAny_storeName_cell H.kind k B Z λl T f=>i a l _ S (MQ k B▸M) f λH G=>c9 H.loc λm hn hm=>⟨H.kind,H.g,H.b,H.pl,(d0 m (hn.sameBut f (C8 N)) λy e h L r=>?_),λy h=>?_,H.apart⟩
  .let g:y≠x:=by clear M P i B h5 h;rintro rfl;rw[k]at r;cases r
   simp only[Env.set,j4 g]at h;let j:=hm y e h L r;ext1 j w n p;exact d0 w n (G _ _ p)
  .by_cases g:y=nm x
   .subst g;refine U8 a _ B S N T λz e O C=>?_;clear M P i k B h5 h;obtain rfl:=EF O;simp only[Env.set,DY]at C;cases C;exact d0 v rfl (G _ _ W)
   .refine C7 (H.cel y h) λa' u' U h2' h3' h4' h5'=>U8 a' u' U h2' h3' (h4'.sameBut f λq=>g ?_) λz e O C=>?_
    .clear S N Z T f;subst q;exact H.apart y (nm x) a' h (.inl k) U B
    .let hzx:z≠x:=λq=>g (by rw[<-O,q]);simp only[Env.set,j4 hzx]at C;let j:=h5' z e O C;ext1 j w n p;exact d0 w n (G _ _ p)
end
abbrev MX:=Internal.X
inductive eZ (X:Fx) (c:Cx) (st:St) (s:f8) (F:i7->Prop) (Q:a7 b0->St->Prop) (vs:a7 b8) (s':f8):Prop
 |mk (ds st' c') (q:Q ds st') (R:i8 X c' st' s') (v:Vs X.M c' st'.n s'.heap ds vs) (S:k7 c st s c' st' s' F)
inductive DB (X:Fx) (c:Cx) (st:St) (s:f8) (F:i7->Prop) (Q:b7->St->Prop) (b:b7) (s':f8):Prop
 |mk (st' c') (q:Q b st') (R:i8 X c' st' s') (S:k7 c st s c' st' s' F)
def SX(prog:A5)(X:Fx)(C:Cl)(A:B7)(sc:E7)(e:MX)(E:j9):Prop:=
 ∀⦃c:Cx⦄⦃st:St⦄⦃s:f8⦄⦃env:I0⦄⦃ρ:Env⦄⦃Q:Q1⦄,env.scope=sc->p7 X c st.n s.heap env ρ->i8 X c st s->W C e ρ st Q->
  b9 (d7 prog X.w) A (eval E env) (j6 X c st s y5 Q) t9 s
def ST(prog:A5)(X:Fx)(C:Cl)(A:B7)(sc:E7)(e:MX)(E:j9):Prop:=
 ∀⦃c:Cx⦄⦃st:St⦄⦃s:f8⦄⦃env:I0⦄⦃ρ:Env⦄⦃Q:b7->St->Prop⦄,env.scope=sc->p7 X c st.n s.heap env ρ->i8 X c st s->WT C e ρ st Q->
  b9 (d7 prog X.w) A (isTrue E env (eval E env)) (DB X c st s y5 Q) t9 s
structure Be (A:B7):Prop where
 hh:A.handled=b4
 hu:A.units+30<t3
section
variable{prog:A5}{X:Fx}{C:Cl}{c:Cx}{st:St}{s:f8}
theorem B6(h:b9 (d7 prog X.w) A m (j6 X c st s F Q) t9 s₀)
 (k:∀v b d a e,Q d a->i8 X e a b->Internal.V X.M e a.n b.heap d v->k7 c st s e a b F->Q2 v b):b9 (d7 prog X.w) A m Q2 E2 s₀:=
 v6 h (λv b⟨d,a,e,q,R,f,S⟩=>k v b d a e q R f S) λg g x=>x.elim
theorem NM{Q:b7->St->Prop}{e:b7->f8->Prop}{f:qVS}(h:b9 (d7 prog X.w) A m (DB X c st s F Q) t9 s₀)
 (k:∀v b a d,Q v a->i8 X d a b->k7 c st s d a b F->e v b):b9 (d7 prog X.w) A m e f s₀:=
 v6 h (λv b⟨a,d,q,R,S⟩=>k v b a d q R S) λg g x=>x.elim
theorem Jo{P:a7 b8->Prop}{Q:a7 b0->St->Prop}{g:a7 b8->f8->Prop}{i:qVS}(h:b9 (d7 prog X.w) A m (λb j=>P b/\eZ X c st s F Q b j) t9 s₀)
 (k:∀b d,P b->∀f a e,Q f a->i8 X e a d->Vs X.M e a.n d.heap f b->k7 c st s e a d F->g b d):b9 (d7 prog X.w) A m g i s₀:=
 v6 h (λb d⟨p,f,a,e,q,R,l,S⟩=>k b d p f a e q R l S) λn n x=>x.elim
theorem DB.after(x:k7 c st s c' st' s' F){Q:b7->St->Prop}(p:DB X c' st' s' F Q b s''):DB X c st s F Q b s'':=by obtain⟨a,d,e,R,f⟩:=p;exact⟨a,d,e,R,x.trans f⟩theorem k7.v(R:i8 X c st s)(x:k7 c st s c' st' s' y5){d:b0}{v:b8}(a:Internal.V X.M c st.n s.heap d v):Internal.V X.M c' st'.n s'.heap d v:=x.V R (λb h=>h.elim) a
theorem TX{α:Type}{k:b8->M8 α}{f:α->f8->Prop}(h:b9 (d7 prog X.w) A m (j6 X c st s y5 Q) t9 s)
 (g:∀v d e a b,Q d a->i8 X e a b->V X.M e a.n b.heap d v->k7 c st s e a b y5->b9 (d7 prog X.w) A (k v) f t9 b):b9 (d7 prog X.w) A (m>>=k) f t9 s:=
 b5 (v6 h (λv b⟨d,a,e,i,R,j,S⟩=>g v d e a b i R j S) λl l x=>x)
theorem Ad(S:k7 c st s c' st' s' y5)(h:b9 (d7 prog X.w) A m (j6 X c' st' s' y5 Q) t9 s''):b9 (d7 prog X.w) A m (j6 X c st s y5 Q) t9 s'':=
 v6 h (λa a p=>p.after S) λa a x=>x
theorem Td{Q:b7->St->Prop}(S:k7 c st s c' st' s' y5)(h:b9 (d7 prog X.w) A m (DB X c' st' s' y5 Q) t9 s'):b9 (d7 prog X.w) A m (DB X c st s y5 Q) t9 s':=
 v6 h (λa a p=>p.after S) λa a x=>x
theorem yQ:SX prog X C A sc (.e (.int i)) (.Constant (.int i) k pos):=λa a a a a a a a R h=>pQ (j6.toks R (V.int _ _) h)theorem rn:SX prog X C A sc (.e .none) (.Constant .none k pos):=λa a a a a a a a R h=>wpAny_Constant_none (j6.U R (d:=.none) rfl h)theorem zN:SX prog X C A sc (.e (.bool b)) (.Constant (.bool b) k pos):=λa a a a a a a a R h=>wpAny_Constant_bool (j6.U R (d:=.bool b) rfl h)
theorem Tc(x:j3)(t:Dm):V base c n h (q8 x) (.str (nm x) t):=⟨t,by
 let a:nm x=C9 (x.toList.map Gu):=by unfold nm;rw[Qu];rfl
 rw[a]⟩theorem wI:SX prog X C A sc (.str x) (.Constant (.str (nm x)) k pos):=λa a a a a a a a R h=>Va (j6.toks R (Tc x _) h)
def Ho(sc:E7)(x:j3):b7:=
 (decide (sc.names.lookup (nm x)=a0 .local)||(decide (sc.names.lookup (nm x)=a0 .cell)||decide (sc.names.lookup (nm x)=a0 .free)))&&(x != "__classdict__"&&(x != "__debug__"&&x != ".0"))theorem jo(h:Ho env.scope x=a8):(env.kindOf (nm x)=a0 .local\/cf env (nm x))/\x≠"__classdict__"/\x≠"__debug__"/\x≠".0":=by let a:=G4 h;ext1 a b h;let a:=G4 h;ext1 a c h;let a:=G4 h;ext1 a d e;exact M3 ((DC b).imp C6 λh=>(DC h).imp C6 C6) (bne_iff_ne.mp c) (bne_iff_ne.mp d) (bne_iff_ne.mp e)
theorem Yi(e:Ho sc x=a8):SX prog X C A sc (.a x) (.Name (nm x) pos):=by
 intro c n s m ρ Q f H R h;subst f;let a:=jo e;ext1 a g i j k
 conv at h=>whnf
 cases b:ρ x with
 |none=>rw[b]at h;exact h.elim
 |some d=>rw[b]at h;exact wpAny_Name (H.load b g i k λv l=>j6.U R l h) (UQ j)
theorem gn(l:SX prog X C A sc a a')(m:SX prog X C A sc b b'):SX prog X C A sc (.bin o a b) (.BinOp a' (Je o) b' pos):=by
 intro c x s r ρ Q g H R h
 conv at h=>whnf
 rw[arm_eval_BinOp];exact TX (l g H R h) λv d y t z f i n j=>TX (K9 (m g (H.step R j) i f)) λu e B w D f p q k=>OU (PP (Ad (j.trans k) (yZ p (k.v i n) q f)))theorem DG{Q:b7->f8->Prop}(h:Q b s):b9 (d7 prog X.w) A (truthy (.bool b)) Q t9 s:=Gk h
set_option tactic.hygienic true in
theorem tf(k:SX prog X C A sc a a')(l:SX prog X C A sc b b'):SX prog X C A sc (.and a b) (.BoolOp .And [a',b'] pos):=by
 intro c p s o ρ Q i H R h
 conv at h=>whnf
 refine wpAny_And2 (B6 (k i H R h) λv q d g m e j n f=>?_);cases d<;>first|exact e.elim|skip
 rename_i t;obtain rfl:=n;cases t with
 |false=>exact DG ⟨_,g,m,e,j,rfl,f⟩
 |true=>exact DG (Ad f (l i (H.step R f) j e))
set_option tactic.hygienic true in
theorem sh(k:SX prog X C A sc a a')(l:SX prog X C A sc b b'):SX prog X C A sc (.or a b) (.BoolOp .Or [a',b'] pos):=by
 intro c p s o ρ Q i H R h
 conv at h=>whnf
 refine wpAny_Or2 (B6 (k i H R h) λv q d g m e j n f=>?_);cases d<;>first|exact e.elim|skip
 rename_i t;obtain rfl:=n;cases t with
 |true=>exact DG ⟨_,g,m,e,j,rfl,f⟩
 |false=>exact DG (Ad f (l i (H.step R f) j e))def isK(e:j9)(k:a6):b7:=Mu e.ctorIdx k
def AF(e:j9):b7:=!isK e 7
theorem Tn(h:AF e=a8):behindInMarks op e=c8:=by cases e<;>first|rfl|exact no h
theorem bx(m:Be A)(n:SX prog X C A sc a a')(p:SX prog X C A sc b b')(q:AF b'=a8):SX prog X C A sc (.cmp o a b) (.Compare a' [Cr o] [b'] pos):=by
 intro c E s z ρ Q i H R h
 conv at h=>whnf
 refine wpAny_Compare1 (B6 (n i H R h) λv F d B G f j t k=>?_) (Tn q);refine B6 (p i (H.step R k) j f) λu I e D J f w x l=>?_;split at f
 .rename_i r y;exact Ad (k.trans l) (FZ (by let g:=m.hu;exact gB g rfl:A.units+12<t3) w (l.v j t) x y f)
 .exact f.elim
set_option tactic.hygienic true in
theorem xI(q:Be A)(t:SX prog X C A sc a a')(w:SX prog X C A sc b b')(x:AF b'=a8):ST prog X C A sc (.cmp o a b) (.Compare a' [Cr o] [b'] pos):=by
 intro c k s J ρ Q l H R h
 conv at h=>whnf
 refine wpAny_isTrue_Compare1 (B6 (t l H R h) λv M d K N f m i n=>?_) (Tn x);refine B6 (w l (H.step R n) m f) λu O e L P f y B p=>?_;split at f
 .rename_i r D;refine B6 (FZ (F:=y5) (Q:=λd k=>d= .bool r/\Q r k) (by let g:=q.hu;exact gB g rfl:A.units+12<t3) y (p.v m i) B D ⟨rfl,f⟩) λv S d j E z G i I=>?_;obtain⟨rfl,f⟩:=z;obtain rfl:=i;exact DG ⟨j,E,f,G,(n.trans p).trans I⟩
 .exact f.elim
theorem dP{o:Mr}{b c:j9}(a:AF c=a8):lastMarks [o,p] [b,c]=c8:=by exact Tn a
theorem vB(M:Be A)(N:SX prog X C A sc a a')(O:SX prog X C A sc b b')(P:SX prog X C A sc g g')(S:AF g'=a8):SX prog X C A sc (.cmp2 o p a b g) (.Compare a' [Cr o,Cr p] [b',g'] pos):=by
 intro c t s W ρ Q B H R h
 conv at h=>whnf
 let j:A.units+12<t3:=by let q:=M.hu;exact gB q rfl
 refine Compare_chain (B6 (N B H R h) λv s1 d Y c1 i D k w=>?_) (dP S);refine chain_link (B6 (O B (H.step R w) D i) λu s2 e I c2 i E G l=>?_);split at i
 .rename_i x;refine B6 (FZ (F:=y5) (Q:=λd t=>d= .bool a8/\t=I) j E (l.v D k) G x ⟨rfl,rfl⟩) λv T d n K z y k m=>?_;clear x;obtain⟨rfl,rfl⟩:=z;obtain rfl:=k;refine DG (chain_last (B6 (P B (H.step R ((w.trans l).trans m)) y i) λz s4 f Z c4 i U V L=>?_));split at i
  .rename_i r J;exact Ad (((w.trans l).trans m).trans L) (FZ j U (L.v y (m.v E G)) V J i)
  .exact i.elim
 .rename_i x;refine B6 (FZ (F:=y5) (Q:=λd t=>d= .bool c8/\Q d t) j E (l.v D k) G x ⟨rfl,i⟩) λv T d n K z y k m=>?_;obtain⟨rfl,i⟩:=z;obtain rfl:=k;exact DG ⟨_,n,K,i,y,rfl,(w.trans l).trans m⟩
 .exact i.elim
set_option tactic.hygienic true in
theorem jd(N:Be A)(O:SX prog X C A sc a a')(P:SX prog X C A sc b b')(S:SX prog X C A sc g g')(T:AF g'=a8):ST prog X C A sc (.cmp2 o p a b g) (.Compare a' [Cr o,Cr p] [b',g'] pos):=by
 intro c l s env ρ Q B H R h
 conv at h=>whnf
 let k:A.units+12<t3:=by let t:=N.hu;exact gB t rfl
 refine isTrue_chain (B6 (O B H R h) λv s1 d st1 c1 i D j w=>?_) (dP T);refine test_link (B6 (P B (H.step R w) D i) λu s2 e I c2 i E G m=>?_);split at i
 .rename_i x;refine B6 (FZ (F:=y5) (Q:=λd l=>d= .bool a8/\l=I) k E (m.v D j) G x ⟨rfl,rfl⟩) λv U d q L z y j n=>?_;clear x;obtain⟨rfl,rfl⟩:=z;obtain rfl:=j;refine DG (test_last (B6 (S B (H.step R ((w.trans m).trans n)) y i) λz s4 f st4 c4 i V W M=>?_));split at i
  .rename_i r J;refine B6 (FZ (F:=y5) (Q:=λd l=>d= .bool r/\Q r l) k V (M.v y (n.v E G)) W J ⟨rfl,i⟩) λv s5 d K Y z Z j S5=>?_;obtain⟨rfl,i⟩:=z;obtain rfl:=j;exact DG ⟨K,Y,i,Z,(((w.trans m).trans n).trans M).trans S5⟩
  .exact i.elim
 .rename_i x;refine B6 (FZ (F:=y5) (Q:=λd l=>d= .bool c8/\Q c8 l) k E (m.v D j) G x ⟨rfl,i⟩) λv U d q L z y j n=>?_;obtain⟨rfl,i⟩:=z;obtain rfl:=j;exact DG ⟨q,L,i,y,(w.trans m).trans n⟩
 .exact i.elim
theorem az(i:ST prog X C A sc t t')(j:SX prog X C A sc a a')(k:SX prog X C A sc b b'):SX prog X C A sc (.ite t a b) (.IfExp t' a' b' pos):=by
 intro c p s n ρ Q e H R h
 conv at h=>whnf
 refine wpAny_IfExp (v6 (i e H R h) (λv q l=>?_) λm m x=>x);obtain⟨o,r,f,g,d⟩:=l;cases v with
 |true=>exact Ad d (j e (H.step R d) g f)
 |false=>exact Ad d (k e (H.step R d) g f)
theorem sy(d:ST prog X C A sc e e'):ST prog X C A sc (.not e) (.UnaryOp .Not e' pos):=by
 intro c m s l ρ Q f H R h
 conv at h=>whnf
 exact wpAny_isTrue_Not (NM (d f H R h) λb n a g i j k=>⟨a,g,i,j,k⟩)
def SA(prog:A5)(X:Fx)(C:Cl)(A:B7)(sc:E7)(op:MC)(e:MX)(Es:a7 j9):Prop:=
 ∀⦃c:Cx⦄⦃st:St⦄⦃s:f8⦄⦃env:I0⦄⦃ρ:Env⦄⦃Q:b7->St->Prop⦄,env.scope=sc->p7 X c st.n s.heap env ρ->i8 X c st s->WT C e ρ st Q->
  b9 (d7 prog X.w) A (allTrue op Es env) (DB X c st s y5 Q) t9 s
theorem MZ(he:ST prog X C A sc e e'):SA prog X C A sc op e [e']:=by
 intro c st s env ρ Q hs H R h;cases op with
 |And=>
  refine lX (v6 (he hs H R h) (λb s1 p=>?_) λw0 w0 x=>x);cases b
  .exact p
  .exact wpAny_allTrue_And_nil p
 |Or=>
  refine iC (v6 (he hs H R h) (λb s1 p=>?_) λw0 w0 x=>x);cases b
  .exact wpAny_allTrue_Or_nil p
  .exact p
theorem Un(j:ST prog X C A sc a a')(k:SA prog X C A sc .And b r):SA prog X C A sc .And (.and a b) (a'::r):=by
 intro c o s n ρ Q f H R h
 conv at h=>whnf
 refine lX (v6 (j f H R h) (λt q p=>?_) λl l x=>x);obtain⟨e,m,g,i,d⟩:=p;cases t with
 |false=>exact⟨e,m,g,i,d⟩
 |true=>exact Td d (k f (H.step R d) i g)
theorem TW(j:ST prog X C A sc a a')(k:SA prog X C A sc .Or b r):SA prog X C A sc .Or (.or a b) (a'::r):=by
 intro c o s n ρ Q f H R h
 conv at h=>whnf
 refine iC (v6 (j f H R h) (λt q p=>?_) λl l x=>x);obtain⟨e,m,g,i,d⟩:=p;cases t with
 |true=>exact⟨e,m,g,i,d⟩
 |false=>exact Td d (k f (H.step R d) i g)theorem OM(h:SA prog X C A sc op e Es):ST prog X C A sc e (.BoolOp op Es pos):=λa a a a a a b H R c=>wpAny_isTrue_BoolOp (h b H R c)def IO(e:j9):b7:=!(isK e 0||(isK e 3||(isK e 5||isK e 15)))theorem gi(h:IO e=a8):isTrue e env whole=(do let v<-whole;Po e.pos;holding [v] (truthy v)):=by cases e<;>first|rfl|exact no h
theorem UK(f:IO e'=a8)(g:∀⦃c:Cx⦄⦃st:St⦄⦃s:f8⦄⦃env:I0⦄⦃ρ:Env⦄⦃Q:b7->St->Prop⦄,env.scope=sc->p7 X c st.n s.heap env ρ->i8 X c st s->WT C e ρ st Q->
 b9 (d7 prog X.w) A (eval e' env) (λv a=>∃b,v= .bool b/\DB X c st s y5 Q b a) t9 s):ST prog X C A sc e e':=by
 intro c st s env ρ Q i H R h;refine wpAny_isTrue_value (v6 (g i H R h) (λv a d=>?_) λj j x=>x) (gi f);ext c9 d b rfl p;exact DG p
theorem TG{Q:b7->St->Prop}(h:b9 (d7 prog X.w) A (eval e' env) (j6 X c a s y5 λd a=>match d with| .bool b=>Q b a|_=>k6) t9 s):
 b9 (d7 prog X.w) A (eval e' env) (λv f=>∃b,v= .bool b/\DB X c a s y5 Q b f) t9 s:=by
 refine v6 h (λv f⟨d,e,i,g,R,j,S⟩=>?_) λk k x=>x;cases d<;>first|exact g.elim|skip
 exact⟨_,j,e,i,g,R,S⟩
theorem mz(d:Ho sc x=a8):ST prog X C A sc (.a x) (.Name (nm x) pos):=by
 refine UK rfl λc g s f ρ Q e H R h=>TG (Yi (prog:=prog) (C:=C) d e H R ?_)
 conv at h=>whnf
 conv=>whnf
 cases a:ρ x with
 |none=>rw[a]at h;exact h.elim
 |some b=>rw[a]at h;cases b<;>first|exact h|exact h.elim
def J4(e:j9):b7:=!isK e 22
theorem NQ(h:J4 e=a8):Bv (e::r) env=(c8,eval e env)::Bv r env:=by cases e<;>first|rfl|exact no h
end
section
variable{prog:A5}{X:Fx}{C:Cl}{st:St}{s:f8}
theorem i8.toks(R:i8 X c st s)(t:a6):i8 X c st {s with toks:=t}:=R.ext (Ext.refl _) rfl rfl
theorem k7.toks(t:a6):k7 c st s c st {s with toks:=t} F:=k7.ext (Ext.refl _)
def SD(prog:A5)(X:Fx)(C:Cl)(A:B7)(sc:E7)(es:Xs)(Es:a7 j9):Prop:=
 ∀⦃c:Cx⦄⦃st:St⦄⦃s:f8⦄⦃env:I0⦄⦃ρ:Env⦄⦃Q:a7 b0->St->Prop⦄(pos:X7),env.scope=sc->p7 X c st.n s.heap env ρ->i8 X c st s->Ws C es ρ st Q->
  b9 (d7 prog X.w) A (spliced (Cd pos (Bv Es env))) (λvs s'=>vs.length=Es.length/\eZ X c st s y5 Q vs s') t9 s
theorem GR:SD prog X C A sc .nil []:=λa b a a a a a a a R h=>JF ⟨rfl,[],b,_,h,R,rfl,k7.refl⟩
theorem ES(m:SX prog X C A sc e e')(n:SD prog X C A sc es r)(o:J4 e'=a8):SD prog X C A sc (.cons e es) (e'::r):=by
 intro c z s x ρ Q b i H R h
 conv at h=>whnf
 refine MD (B6 (m i H R h) λv B d y D a j p k=>?_) (NQ o);exact Jo (n b i (H.step R k) j a) λq E t F f u a w g l=>⟨by rw[N9,N9,t],_,f,u,a,w,(E8 v q rfl (l.v j p) g),k.trans l⟩
theorem de(h:SD prog X C A sc es Es)(hz:Es.length<=1000):SX prog X C A sc (.B es) (.Tuple Es k pos):=by
 intro c n s l ρ Q d H R b
 conv at b=>whnf
 exact wpAny_Tuple (Jo (h pos d H R b) λe o f p m q g i a j=>⟨by rw[f,O3];exact p6,(j6.B i (vs:=e.toArray) (by simpa using a) g).after j⟩)
theorem kq(h:SD prog X C A sc es Es)(hz:Es.length<=1000):SX prog X C A sc (.L es) (.List Es pos):=by
 intro c m s k ρ Q e H R b
 conv at b=>whnf
 exact wpAny_List (Jo (h pos e H R b) λf n d o l p g i a j=>⟨by rw[d,O3];exact p6,(j6.list i (vs:=f.toArray) (by simpa using a) (by rw[<-(Vs.length a),d];exact p6) g).after j⟩)
theorem qo:SX prog X C A sc (.D [] .nil) (.Dict [] [] pos):=by
 intro c d s b ρ Q f H R a
 conv at a=>whnf
 exact wpAny_Dict_empty (j6.new R (l8 _) (Ext.push _ _) rfl rfl (J6.D (xs:=[]) (items:=#[]) (e:=0) (y9 _ rfl) rfl Ge (F9 _)) a)
theorem Om(R:i8 X c st s)(f:V X.M c st.n s.heap d v)(h:(∃i,st.items? d=a0 i)\/(∃m,st.dict? d=a0 m)\/(∃l,d= .str l)\/∃i,d= .ro i):
 ∃T p,s.TypeIs v T/\Cf (.type T) "__getitem__"=pure (a0 (.builtin p)):=by
 rcases h with⟨i,h⟩|⟨m,h⟩|⟨l,rfl⟩|⟨i,rfl⟩
 .refine FM (R.items f h) ?_;clear f;rintro a k e rfl j q;rcases q with⟨g,_,_⟩|⟨b,_,_,_,_,g,_⟩
  .exact Q6 ("tuple") _ (d0 _ g rfl) PySem.F.slot_tuple_getitem.lookup
  .exact Q6 ("list") _ (d0 _ g rfl) PySem.F.slot_list_getitem.lookup
 .refine M6 (R.dict f h) ?_;clear f;rintro a n e j j j rfl g j;exact Q6 ("dict") _ (d0 _ g rfl) PySem.F.slot_dict_getitem.lookup
 .ext d4 f t rfl;exact Q6 ("str") _ rfl PySem.F.slot_str_getitem.lookup
 .ext o0 f a u rfl ⟨o,g,r,_⟩ _;exact Q6 ("list") _ (d0 _ (R.stays _ _ g) r) PySem.F.slot_list_getitem.lookup
theorem uB{v:b8}{T b:j3}(a:s.TypeIs v T)(c:Cf (.type T) "__getitem__"=pure (a0 (.builtin b))){Q:b7->f8->Prop}(h:Q c8 s):b9 (d7 prog X.w) A (getitemInPython v) Q t9 s:=by rw[getitemInPython_of_ne a.not_modules];exact b5 (HH a c (f6 h))
theorem OW{Q:qVS}
 (h:b9 (d7 prog X.w) A (eval value env) (λo s1=>b9 (d7 prog X.w) A (eval slice env) (λi s2=>(∃T id,s2.TypeIs o T/\Cf (.type T) "__getitem__"=pure (a0 (.builtin id)))/\b9 (d7 prog X.w) A (Gf o i) Q t9 s2) t9 s1) t9 s):
 b9 (d7 prog X.w) A (eval (.Subscript value slice pos) env) Q t9 s:=by
 rw[arm_eval_Subscript];refine b5 (v6 h (λo s1 h1=>?_) λw0 w0 x=>x);refine b5 (K9 (v6 h1 (λi s2 h2=>?_) λw0 w0 x=>x));ext k9 h2 ⟨T,id,hT,hl⟩ h2;refine b5 (Fv (b5 (uB hT hl ?_)));let main:b9 (d7 prog X.w) A (subscripted slice c8 o i) (λr s3=>Q r s3) t9 s2:=by
  cases slice with
  |Slice a b c p=>clear h h1;cases c with|none=>exact PP h2|some c=>exact PP h2
  |_=>exact PP h2
 exact b5 (v6 main (λr s3 h3=>b5 (jJ (f6 h3))) λw0 w0 x=>x)
theorem bm(h:J9 d i st=a0 x):(∃xs,st.items? d=a0 xs)\/(∃es,st.dict? d=a0 es)\/(∃l,d= .str l)\/∃xs,d= .ro xs:=by
 cases fQ h with
 |st=>exact .inr (.inr (.inl ⟨_,rfl⟩))
 |it xs h1=>exact .inl ⟨xs,h1⟩
 |dc es h1=>exact .inr (.inl ⟨es,h1⟩)
theorem qc(p:Be A)(q:SX prog X C A sc e e')(hi:SX prog X C A sc i i'):SX prog X C A sc (.sub e i) (.Subscript e' i' pos):=by
 intro c B s w ρ Q g H R h
 conv at h=>whnf
 refine OW (B6 (q g H R h) λv D d y E a j r l=>B6 (hi g (H.step R l) j a) λu F k z G a m t n=>?_);split at a
 .rename_i x o;let b:=n.v j r;exact⟨Om m b (bm o),Ad (l.trans n) (ox (by let f:=p.hu;exact gB f rfl:A.units+12<t3) m b t o a)⟩
 .exact a.elim
theorem QM(f:o=Ew d k st\/o=Eh d k st\/o=Fk d st)(h:o8 o Q):(∃a,st.items? d=a0 a)\/(∃g,st.dict? d=a0 g)\/(∃l,d= .str l)\/∃a,d= .ro a:=by
 have e:∀a,st.list? d=a0 a->∃a,st.items? d=a0 a:=by intro a b;clear f;cases d<;>first|(cases b;done)|exact⟨a,b⟩
 rcases f with rfl|rfl|rfl
 .exact Zr h (λa b c c=>.inl (e a b)) λa b c c=>.inr (.inr (.inr ⟨a,b⟩))
 .exact aW h (λa b c c=>.inl (e a b)) λa b c c=>.inl ⟨a,by rw[b];rfl⟩
 .exact eX h λa b c=>.inl (e a b)
theorem TypeIs.push(h:s.TypeIs v T):EL {s with heap:=s.heap.push o} v T:=by
 cases v with
 |ref a=>ext c9 h x b c;exact d0 x (A9 _ b) c
 |_=>exact h
theorem rI(o:SX prog X C A sc e e')(hi:SX prog X C A sc i i'):SX prog X C A sc (.to e i) (.Subscript e' (.Slice b4 (a0 i') b4 p) pos):=by
 intro c E s z ρ Q f H R h
 conv at h=>whnf
 refine OW (B6 (o f H R h) λv F d B G a g q j=>We (f6 (B6 (hi f (H.step R j) g a) λu r k D I a l m n=>f6 ?_)));cases k<;>first|exact a.elim|skip
 rename_i k;ext d4 m t rfl;have b:=n.v g q;exact F8 (Om l b (QM (.inl rfl) a)) λT w x y=>⟨(Q6 T w (TypeIs.push x) y),Ad (s':=r) (j.trans n) (vS l b a)⟩
theorem jz(o:SX prog X C A sc e e')(hi:SX prog X C A sc i i'):SX prog X C A sc (.from e i) (.Subscript e' (.Slice (a0 i') b4 b4 p) pos):=by
 intro c E s z ρ Q f H R h
 conv at h=>whnf
 refine OW (B6 (o f H R h) λv F d B G a g q j=>We (B6 (hi f (H.step R j) g a) λu r k D I a l m n=>f6 (f6 ?_)));cases k<;>first|exact a.elim|skip
 rename_i k;ext d4 m t rfl;have b:=n.v g q;exact F8 (Om l b (QM (.inr (.inl rfl)) a)) λT w x y=>⟨(Q6 T w (TypeIs.push x) y),Ad (s':=r) (j.trans n) (dp l b a)⟩
theorem rb(l:SX prog X C A sc e e'):SX prog X C A sc (.rev e) (.Subscript e' (.Slice b4 b4 (a0 (.UnaryOp .USub (.Constant (.int 1) k p1) p2)) p) pos):=by
 intro c m s x ρ Q n H R h
 conv at h=>whnf
 refine OW (B6 (l n H R h) λv a d b g i o q r=>We (f6 (f6 (wpAny_UnaryOp (pQ (P.neg_int ?_))))));have j:=o.toks (a.toks+1+1);have f:V X.M g b.n ({a with toks:=a.toks+1+1}).heap d v:=q;exact F8 (Om j f (QM (k:=0) (.inr (.inr rfl)) i)) λT t u w=>⟨(Q6 T t (TypeIs.push u) w),Ad (r.trans (k7.toks _):k7 c m s g b {a with toks:=a.toks+1+1} y5) (fu j f i)⟩
end
def GG:a7 (j3×b8):=
 [("len",.builtin "len"),("str",.type "str"),("int",.type "int"),("tuple",.type "tuple"),("list",.type "list"),("dict",.type "dict"),("sum",.builtin "sum"),("max",.builtin "max"),
  ("min",.builtin "min"),("sorted",.builtin "sorted"),("set",.type "set"),("range",.type "range"),("zip",.type "zip"),("enumerate",.type "enumerate")]
structure Laid0 (X:Fx):Prop where
 glob:X.M.Ns X.g X.mg
 blt:X.M.Ns X.b X.mb
 lim:X.M.NoLimit
 bi:∀p∈GG,X.mg (nm p.1)=b4/\X.mb (nm p.1)=a0 p.2
def O1(sc:E7)(x:j3):b7:=sc.names.lookup (nm x)==a0 .globalImplicit&&x != "__debug__"
section
variable{prog:A5}{X:Fx}{st:St}
theorem Kv(L:Laid0 X)(H:p7 X c st.n s.heap env ρ)(R:i8 X c st s)(b:(x,v)∈GG)(a:O1 env.scope x=a8){Q:qVS}(h:Q v s):
 b9 (d7 prog X.w) A (eval (.Name (nm x) pos) env) Q t9 s:=by
 unfold O1 at a;simp only[C2,Ai,Mt]at a;exact pY H.kind a.1 (Calls.loadGlobal_builtin (by rw[H.g];exact L.glob.keeps R.stays:s.heap.Ns env.globals X.mg) (L.bi _ b).1 (by rw[H.b];exact L.blt.keeps R.stays:s.heap.Ns env.builtins X.mb) (L.bi _ b).2 h) (UQ a.2)
theorem FS:∀{a:a7 j9},a.all J4=a8->(Cd pos (Bv a env)).any (·.1)=c8:=by
 intro b
 induction b with
 |nil=>intro d;exact rfl
 |cons e r c=>intro h;simp only[LN,C2]at h;rw[NQ h.1];refine(?_:(c8||(Cd pos (Bv r env)).any (·.1))=c8);rw[c h.2];rfl
theorem FI{E:qVS}{Q:Args->f8->Prop}(a:Es.all J4=a8)(h:b9 M A (spliced (Cd pos (Bv Es env))) (λb c=>Q ⟨b,[]⟩ c) E s):
 b9 M A (evalArgs f a8 (Cd pos (Bv Es env)) []) Q E s:=by
 cases Es with
 |nil=>refine b5 (v6 h (λb c d=>b5 (f6 ?_)) λg g x=>x);exact K9 (b5 (f6 (b5 (f6 (f6 d)))))
 |cons e r=>simp only[LN,C2]at a;rw[NQ a.1]at h ⊢;exact Calls.evalArgs_plain h
theorem cS{Q1:a7 b0->St->Prop}{Q:qVS}(q:(∃o,f= .builtin o)\/∃T,f= .type T)(j:Es.all J4=a8)
 (h:SD prog X C A sc es Es)(hs:env.scope=sc)(H:p7 X c st.n s.heap env ρ)(R:i8 X c st s)(r:Ws C es ρ st Q1)
 (p:∀e g k b i,Q1 g b->i8 X k b i->Vs X.M k b.n i.heap g e->k7 c st s k b i y5->b9 (d7 prog X.w) A (call f (first++e)) Q t9 i):
 b9 (d7 prog X.w) A (Pr pos f first (Cd pos (Bv Es env)) []) Q t9 s:=by
 let d:b9 (d7 prog X.w) A (evalArgs f a8 (Cd pos (Bv Es env)) []) (λa l=>b9 (d7 prog X.w) A (call f (first++a.pos) a.kw) Q t9 l) t9 s:=by exact FI j (Jo (h pos hs H R r) λe l x g m t u v n w=>p e g t m l u v n w)
 clear p;rcases q with⟨o,rfl⟩|⟨T,rfl⟩
 .exact Pn (FS j) d
 .exact VB (FS j) d
theorem GH{Q1:a7 b0->St->Prop}{Q:qVS}(L:Laid0 X)(g:(x,v)∈GG)(i:(∃j,v= .builtin j)\/∃T,v= .type T)(k:Es.all J4=a8)(l:O1 sc x=a8)
 (h:SD prog X C A sc es Es)(hs:env.scope=sc)(H:p7 X c st.n s.heap env ρ)(R:i8 X c st s)(m:Ws C es ρ st Q1)
 (n:∀e f d a b,Q1 f a->i8 X d a b->Vs X.M d a.n b.heap f e->k7 c st s d a b y5->b9 (d7 prog X.w) A (call v e) Q t9 b):
 b9 (d7 prog X.w) A (eval (.Call (.Name (nm x) p) Es [] pos) env) Q t9 s:=by
 exact HC (Kv L H R g (hs▸l) (cS (first:=[]) i k h hs H R m n))
def Ku(f:Bi):j3:=match f with
 | .len=>"len"| .str=>"str"| .int=>"int"| .tuple=>"tuple"| .dict=>"dict"| .sum=>"sum"| .max=>"max"| .min=>"min"| .sorted=>"sorted"
 |_=>""
def NW(f:Bi):b8:=match f with
 | .len=>.builtin "len"| .str=>.type "str"| .int=>.type "int"| .tuple=>.type "tuple"| .dict=>.type "dict"| .sum=>.builtin "sum"| .max=>.builtin "max"| .min=>.builtin "min"| .sorted=>.builtin "sorted"
 |_=>.none
def OY(f:Bi):b7:=match f with
 | .sS=>c8| .sI=>c8| .lR=>c8| .dZ=>c8
 |_=>a8
theorem Ap(i:a6)(h:GG[i]?=a0 p):p∈GG:=p8 h
theorem fP(h:OY f=a8):(Ku f,NW f)∈GG/\((∃id,NW f= .builtin id)\/∃T,NW f= .type T):=by
 cases f with
 |len=>exact⟨Ap 0 rfl,.inl ⟨_,rfl⟩⟩
 |str=>exact⟨Ap 1 rfl,.inr ⟨_,rfl⟩⟩
 |int=>exact⟨Ap 2 rfl,.inr ⟨_,rfl⟩⟩
 |tuple=>exact⟨Ap 3 rfl,.inr ⟨_,rfl⟩⟩
 |dict=>exact⟨Ap 5 rfl,.inr ⟨_,rfl⟩⟩
 |sum=>exact⟨Ap 6 rfl,.inl ⟨_,rfl⟩⟩
 |max=>exact⟨Ap 7 rfl,.inl ⟨_,rfl⟩⟩
 |min=>exact⟨Ap 8 rfl,.inl ⟨_,rfl⟩⟩
 |sorted=>exact⟨Ap 9 rfl,.inl ⟨_,rfl⟩⟩
 |_=>exact no h
theorem Oj(x:Vs base c n h [d] vs):∃v,vs=[v]/\V base c n h d v:=by ext o0 x v r rfl a b;exact d0 v (by rw[show r=[] from b]) a
theorem gR(x:Vs base c n h [d,e] vs):∃v u,vs=[v,u]/\V base c n h d v/\V base c n h e u:=by ext o0 x v r rfl b a;refine c9 (Oj a) ?_;clear a;rintro u rfl f;exact E8 v u rfl b f
theorem OS(a:Vs base c n hp ds vs)(h:o8 (Dy ds k k2) Q)(H:∀d v,V base c n hp d v->o8 (k d) Q->b9 M A (call f [v]) Qp Ep s)(g:∀d e v u,V base c n hp d v->V base c n hp e u->o8 (k2 d e) Q->b9 M A (call f [v,u]) Qp Ep s):b9 M A (call f vs) Qp Ep s:=by
 cases ds with
 |nil=>exact h.elim
 |cons d r=>
  cases r with
  |nil=>refine c9 (Oj a) ?_;clear a;rintro v rfl b;exact H d v b h
  |cons e r=>
   cases r with
   |nil=>refine o0 (gR a) ?_;clear a;rintro v u rfl b i;exact g d e v u b i h
   |cons=>exact h.elim
theorem Fg(b:Vs base c n hp ds vs)(h:o8 (Cq ds k) Q)(H:∀d v,V base c n hp d v->o8 (k d) Q->b9 M A (call f [v]) Qp Ep s):b9 M A (call f vs) Qp Ep s:=OS b h H λa a a a a a h=>h.elim
theorem su(a:Vs base c n hp ds vs)(h:o8 (aN ds k2) Q)(g:∀d e v u,V base c n hp d v->V base c n hp e u->o8 (k2 d e) Q->b9 M A (call f [v,u]) Qp Ep s):b9 M A (call f vs) Qp Ep s:=OS a h (λb b b h=>h.elim) g
theorem IY{k:d3->j0 (b0×St)}(G:b8->Prop)(a:V base c n hp d v)(h:o8 (EA d k) Q)(H:∀i t,o8 (k i) Q->G (.int i t)):G v:=by
 cases d with
 |int i=>ext d4 a t rfl;exact H i t h
 |_=>exact h.elim
theorem rD(hp:OY f=a8)(hA:Be A)(R:i8 X c st s)(hvs:Vs X.M c st.n s.heap ds vs)(h:o8 (M4 f ds st) Q):
 b9 (d7 prog X.w) A (call (NW f) vs) (j6 X c st s F Q) t9 s:=by
 let hu:=hA.hu;cases f with
 |len=>exact Fg hvs h λd v hv h=>vw R hv h
 |str=>exact Fg hvs h λd v hv h=>uK R hv h
 |int=>exact Fg hvs h λd v hv h=>IY (λv=>b9 _ A (call _ [v]) _ _ _) hv h λi t h=>tP R h
 |tuple=>exact Fg hvs h λd v hv h=>qU R hv h
 |dict=>refine Fg hvs h λd v hv h=>?_;let zz:=CY h;ext1 zz es hx h;let zz:=Am h;ext1 zz h8 h;exact ma (gB hu rfl) R hv hx h8.1 h8.2 h
 |sum=>exact Fg hvs h λd v hv h=>c9 (CY h) λxs hx h=>c9 (CY h) λl hi h=>sV hA.hh R hv hx hi h
 |max=>
  refine OS hvs h (λd v hv h=>?_) λd e v u hv hu h=>IY (λv=>b9 _ A (call _ [v,u]) _ _ _) hv h λi t h=>IY (λu=>b9 _ A (call _ [_,u]) _ _ _) hu h λj t' h=>pn hA.hh R h;refine c9 (CY h) λxs hx h=>c9 (CY h) λl hi h=>?_;cases l with
  |nil=>exact h.elim
  |cons y r=>exact xS hA.hh R hv hx hi h
 |min=>
  refine OS hvs h (λd v hv h=>?_) λd e v u hv hu h=>IY (λv=>b9 _ A (call _ [v,u]) _ _ _) hv h λi t h=>IY (λu=>b9 _ A (call _ [_,u]) _ _ _) hu h λj t' h=>li hA.hh R h;refine c9 (CY h) λxs hx h=>?_;cases xs with
  |nil=>exact h.elim
  |cons y r=>let zz:=Am h;ext1 zz ok h;exact ce (gB hu rfl) hA.hh R hv hx rfl ok h
 |sorted=>refine Fg hvs h λd v hv h=>?_;let zz:=CY h;ext1 zz xs hx h;let zz:=Am h;ext1 zz ok h;exact sR (gB hu rfl) R hv hx ok h
 |_=>exact no hp
theorem rZ(L:Laid0 X)(d:Be A)(a:OY f=a8)(e:Es.all J4=a8)(g:O1 sc (Ku f)=a8)(h:SD prog X C A sc es Es):
 SX prog X C A sc (.bi f es) (.Call (.Name (nm (Ku f)) p) Es [] pos):=by
 intro c q s n ρ Q i H R j;exact GH L (fP a).1 (fP a).2 e g h i H R j λr t u o v k l b m=>Ad m (rD a d l b k)
theorem nu(L:Laid0 X)(z:Be A)(p:J4 e'=a8)(l:O1 sc "list"=a8)(m:O1 sc "range"=a8)(h:SX prog X C A sc e e'):
 SX prog X C A sc (.bi .lR (.cons e .nil)) (.Call (.Name (nm "list") p1) [.Call (.Name (nm "range") p2) [e'] [] pos2] [] pos1):=by
 intro c q s J ρ Q u H R B;refine HC (Kv L H R (x:="list") (v:=.type "list") (Ap 4 rfl) (u▸l) (VB (FS (by rfl)) (FI (by rfl) (MD (GH (es:=.cons e .nil) (Q1:=λw q=>o8 (M4 .lR w q) Q) L (x:="range") (v:=.type "range") (Ap 11 rfl) (.inr ⟨_,rfl⟩) (by simp[p]) m (ES h GR p) u H R B λM w N K D a E n F=>Fg n a λd v G a=>IY (λv=>b9 _ A (call _ [v]) _ _ _) G a λi t a=>?_)))));let k:=Am a;ext1 k f a;refine dI λr I g j=>JF ?_;ext RZ j O P S j;let y:Ext D.heap I.heap:=⟨g.size,λb o f=>g.keep b o J8 f⟩;exact Ad (F.trans (k7.ext y)) (ve z.hh (E.ext y g.gens g.os) f.1 f.2 j a)
theorem wm(L:Laid0 X)(n:Be A)(g:J4 a'=a8)(h:J4 b'=a8)(k:O1 sc "dict"=a8)(l:O1 sc "zip"=a8)(y:SX prog X C A sc a a')(B:SX prog X C A sc b b'):
 SX prog X C A sc (.bi .dZ (.cons a (.cons b .nil))) (.Call (.Name (nm "dict") p1) [.Call (.Name (nm "zip") p2) [a',b'] [] pos2] [] pos1):=by
 intro c o s J ρ Q p H R D;refine HC (Kv L H R (x:="dict") (v:=.type "dict") (Ap 5 rfl) (p▸k) (VB (FS (by rfl)) (FI (by rfl) (MD (GH (es:=.cons a (.cons b .nil)) (Q1:=λq o=>o8 (M4 .dZ q o) Q) L (x:="zip") (v:=.type "zip") (Ap 12 rfl) (.inr ⟨_,rfl⟩) (by simp[g,h]) l (ES y (ES B GR h) g) p H R D λM q N K O f r m E=>su m f λd e v u F G f=>c9 (CY f) λP i f=>c9 (CY f) λS t f=>?_)))));let j:=Am f;ext1 j w f;exact ZT r F G i t λz T I=>JF (Ad E (mn (gB n.hu rfl) n.hh r I i t w.1 (λx i=>S9 w.2 x i) f))
end
def kid(k:a6)(m:j3):j3:=match k with
 |1=>"list."++m
 |2=>"dict."++m
 |3=>"str."++m
 |_=>"tuple."++m
structure EV (k:a6) (A:B7):Prop where
 hh:A.handled=b4
 depth:A.depth+3*k+3<jK
 units:A.units+20*k+60<t3
structure DD (k:a6) (A:B7):Prop where
 hh:A.handled=b4
 depth:A.depth+3*k+5<jK
 units:A.units+20*k+75<t3
theorem DD.room(h:DD k A):EV k A:=⟨h.hh,by let a:=h.depth;exact q5 (G1 (by decide) _) a,by let a:=h.units;exact q5 (G1 (by decide) _) a⟩
structure yH (X:Fx) (cn:j3) (mN:n4->j0 b8):Prop where
 at_:∃N,Hq X.M (X.cls cn) N mN
 noga:mN "__getattribute__"=b4
 nogat:mN "__getattr__"=b4
 nosa:mN "__setattr__"=b4
 fld:∀f,(Ct cn).contains f=a8->mN (nm f)=b4/\Cf (.type "object") (nm f)=pure b4
 m:∀m,(BP cn).contains m=a8->mN (nm m)=a0 (.ref (X.fn cn m))/\(∃y,Cf (.type "object") (nm m)=pure y)/\∃o fd,X.M.get? (X.fn cn m)=a0 o/\o.cls= .type "function"/\o.data= .func fd
structure Laid1 (X:Fx):Prop extends Laid0 X where
 cls:∀cn,cn∈["Bank","Tables","Joins","Unions","Heap"]->∃mN,yH X cn mN
 clsName:∀cn,cn∈["Bank","Tables","Joins","Unions","Heap"]->X.mg (nm cn)=a0 (.ref (X.cls cn))
 funName:∀f,(BP "").contains f=a8->X.mg (nm f)=a0 (.ref (X.fn "" f))/\∃o fd,X.M.get? (X.fn "" f)=a0 o/\o.data= .func fd
def GI(prog:A5)(X:Fx)(C:Cl)(k:a6):Prop:=
 ∀⦃A:B7⦄⦃cl f:j3⦄⦃ds:a7 b0⦄⦃st:St⦄⦃Q:Q1⦄⦃c:Cx⦄⦃s:f8⦄⦃vs:a7 b8⦄,EV k A->C cl f ds st Q->i8 X c st s->Vs X.M c st.n s.heap ds vs->
  b9 (d7 prog X.w) A (call (.ref (X.fn cl f)) vs) (j6 X c st s y5 Q) t9 s
def FP:j9->b7
 | .Call f ..=>!isK f 23
 |_=>a8
theorem Zz(h:(Ct cn).contains f=a8):cn∈["Bank","Tables","Joins","Unions","Heap"]:=eB h
theorem dh(h:(BP cn).contains m=a8):cn=""\/cn∈["Bank","Tables","Joins","Unions","Heap"]:=D2 (eB h)
section
variable{X:Fx}{st:St}
theorem XA(h:FP o=a8):attributeBase o attr env whole=whole:=by
 cases o with
 |Call f as ks p=>cases f with|Name=>exact no h|_=>rfl
 |_=>rfl
theorem Xc(R:i8 X c st s)(g:V X.M c st.n s.heap d v)(f:AW (Q5 st d) m=a8){P:b0->b8->a6->Prop}
 (A:∀i a b e,a<st.n->st.h a= .L i->s.heap.get? (c.κ a)=a0 (AU b e)->(m="pop"\/m="append")\/m="extend"->P (.ref a) (.ref (c.κ a)) 1)
 (B:∀i C a b e,a<st.n->st.h a= .D i C->s.heap.get? (c.κ a)=a0 (E3 b e)->(m="pop"\/m="get")\/m="setdefault"->P (.ref a) (.ref (c.κ a)) 2)
 (hs:∀l t,m="isspace"->P (.str l) (.str (C9 l) t) 3)(D:∀o a b e,V X.M c st.n s.heap (.B o) (.ref a)->s.heap.get? a=a0 (x9 b e)->m="index"->P (.B o) (.ref a) 4):P d v (Q5 st d):=by
 have n:∀{x y z:j3},((m==x||m==y)||m==z)=a8->(m=x\/m=y)\/m=z:=λh=>(DC h).imp (λh=>(DC h).imp O2 O2) O2;unfold Q5 at f ⊢;cases j:st.list? d with
 |some i=>rw[j]at f;refine M6 (R.list g j) ?_;clear g j;rintro a b e rfl q r rfl k u;exact A i a b e q r k (n f)
 |none=>
  rw[j]at f;cases p:st.dict? d with
  |some i=>replace f:AW (match st.dict? d with|some _=>2|none=>Uo d) m=a8:=f;rw[p]at f;refine M6 (R.dict g p) ?_;rintro a b e rfl q r rfl k u;exact B i e a b e q r k (n f)
  |none=>
   replace f:AW (match st.dict? d with|some _=>2|none=>Uo d) m=a8:=f;rw[p]at f;clear j p;cases d with
   |str l=>ext d4 g t rfl;exact hs l t (O2 f)
   |B o=>have w:=g;ext G9 g a b e rfl u k u;exact D o a b e w k (O2 f)
   |_=>exact no f
theorem tN(R:i8 X c st s)(n:V X.M c st.n s.heap d v)(f:AW (Q5 st d) m=a8):
 ∃T,s.TypeIs v T/\iS T/\Slot T (nm m) (kid (Q5 st d) m)/\JM (.builtin (kid (Q5 st d) m))=pure (.type "method_descriptor")/\∀a,v= .ref a->∃o,s.heap.get? a=a0 o/\o.dict=b4:=by
 refine Xc (P:=λd v k=>∃T,s.TypeIs v T/\iS T/\Slot T (nm m) (kid k m)/\JM (.builtin (kid k m))=pure (.type "method_descriptor")/\∀a,v= .ref a->∃o,s.heap.get? a=a0 o/\o.dict=b4) R n f
  (λp a g e q r i f=>GK ("list") (d0 _ i rfl) zp ?_ ?_ (λb j=>by cases j;exact d0 _ i rfl))
  (λp w a g e q r i f=>GK ("dict") (d0 _ i rfl) kK ?_ ?_ (λb j=>by cases j;exact d0 _ i rfl))
  (λl t f=>f▸(GK ("str") rfl ym nJ yp λu h=>by cases h))
  λx a g e u i f=>f▸(GK ("tuple") (d0 _ i rfl) zb jI R_ (λb h=>by cases h;exact d0 _ i rfl))
 .rcases f with(rfl|rfl)|rfl
  .exact mQ
  .exact lB
  .exact jH
 .rcases f with(rfl|rfl)|rfl
  .exact yq
  .exact c_
  .exact Y'
 .rcases f with(rfl|rfl)|rfl
  .exact mW
  .exact pK
  .exact jF
 .rcases f with(rfl|rfl)|rfl
  .exact V_
  .exact H_
  .exact F_
theorem uA(y:Be A)(R:i8 X c st s)(r:V X.M c st.n s.heap d v)(f:Vs X.M c st.n s.heap g vs)(z:AW (Q5 st d) m=a8)(h:o8 (Ac m d g st) Q):
 b9 (d7 prog X.w) A (call (.builtin (kid (Q5 st d) m)) ([v]++vs)) (j6 X c st s F Q) t9 s:=by
 let w:=y.hu;revert h;have x:∀{a:a6}{o:AO},a<st.n->st.h a=o->o8 (Ac m (.ref a) g st) Q->o8 (match o with| .L n=>FK m a n g st| .D u q=>Fh m a u q g st|_=>b4) Q:=λ{a o}i B h=>by
  replace h:o8 (if a<st.n then(match st.h a with| .L n=>FK m a n g st| .D u q=>Fh m a u q g st|_=>b4)else b4) Q:=h;rw[g0 i,B]at h;exact h
 exact Xc (P:=λd v k=>o8 (Ac m d g st) Q->b9 (d7 prog X.w) A (call (.builtin (kid k m)) ([v]++vs)) (j6 X c st s F Q) t9 s) R r z
  (λn a b e i p j j h=>tJ R i p f (x i p h)) (λn q a b e i p j j h=>uQ (gB w rfl) R i p f (x i p h))
  (λl t j h=>jx R f h) λg a b e r j j h=>ud (gB w rfl) R r f h
theorem ou:∀{a:a7 j9},a.all J4=a8->(Cd pos (Bv a env)).all (λx=>!x.1)=a8:=by
 intro b
 induction b with
 |nil=>intro d;exact rfl
 |cons e r c=>intro h;replace h:=G4 h;rw[NQ h.1];refine(?_:(a8&&(Cd pos (Bv r env)).all λx=>!x.1)=a8);rw[c h.2];rfl
theorem fV{Q:qVS}{E:qVS}(j:FP o=a8)(k:Es.all J4=a8)(c:Es.length<30)(a:(apos.endLine==pos.line)=a8)
 (h:b9 M A (eval o env) (λf g=>∀l,b9 M A (getMethod f name l) (λp i=>b9 M A (Pr pos p.1 p.2 (Cd pos (Bv Es env)) []) Q E i) E g) E s):
 b9 M A (eval (.Call (.Attribute o name apos) Es [] pos) env) Q E s:=by
 rw[arm_eval_Call,XA j];refine b5 (v6 h (λf g m=>b5 (Fv ?_)) λd d e=>e);let b:pF (Es.length+[].length) (Cd pos (Bv Es env)) (backToKw pos (keywordEach [] env))=a8:=by unfold pF;rw[ou k];exact Mf c
 unfold methodCall;rw[b];unfold calleeOf;refine b5 (K9 (v6 (m _) (λp i n=>?_) λd d e=>e));exact b5 (Jx (by unfold qE;simp[a]:qE a8 o env apos pos=pure pos) n)
theorem TA(R:i8 X c st s)(l:V X.M c st.n s.heap d v)(h:st.inst? d=a0 (cn,e))(i:st.h e= .fld es):
 ∃x j,v= .ref x/\s.heap.Inst x (X.cls cn) j/\(∀f d,es.lookup f=a0 d->∃v,j (nm f)=a0 v/\V X.M c st.n s.heap d v)/\(∀y,j y≠b4->y∈es.map λe=>nm e.1)/\es.length<=j8+1:=by
 refine OH (R.I l h) ?_;rintro a rfl n o b rfl p;have k:=R.obj e b;rw[i]at k;ext BS k m r t u w;refine U8 _ m rfl (CW _ p rfl (λA z=>by cases z) (.inr (v7 _ rfl (λq=>?_) r))) t u w;let g:=R.inj _ _ b n q;subst g;rw[o]at i;cases i
theorem rJ{es:a7 (j3×b0)}(h:es.lookup m=b4):nm m∉es.map λe=>nm e.1:=by intro c;refine A8 c λe d f=>?_;let a:=EF f;rw[a7.lookup_eq_none_iff]at h;let b:=h e d;rw[a]at b;exact(bne_iff_ne.mp b rfl).elim
theorem vM(hv:V base c n h d v):handedOut v=pure v:=by
 cases d with
 |none=>obtain rfl:=hv;rfl
 |bool b=>obtain rfl:=hv;rfl
 |int i=>ext d4 hv t rfl;rfl
 |str l=>ext d4 hv t rfl;rfl
 |B ds=>ext Em hv w0 w0 w0 rfl w0;rfl
 |ref a=>ext k9 hv w0 rfl;rfl
 |ro xs=>ext F8 hv w0 w0 rfl w0;rfl
theorem ClsAt.heap(R:i8 X c st s){C:i7}(h:Hq X.M C N mN):Hq s.heap C N mN:=h.keeps R.stays
theorem GJ{h:l5}{C:i7}(x:Hq h C N mN){G:Prop}(k:∀{a b d e f g i l m n o p},h.get? C=a0 (mU a b C N d [.type "object"] a8 e f c8 g i l m n o p "object.__new__")->G):G:=by refine Lb x.obj λc c c c c c j=>?_;ext Lb j c c c c c c q;exact k q
theorem sz{e:MX}{l:j9}{f:j3}{o:X7}(L:Laid1 X)(y:FP l=a8)(z:SX prog X C A sc e l):SX prog X C A sc (.C e f) (.Attribute l (nm f) o):=by
 intro c U s T ρ Q B H R h
 conv at h=>whnf
 rw[arm_eval_Attribute,XA y];refine TX (z B H R h) λv d V p D j m r E=>?_;cases b:H9 p d f with
 |none=>rw[b]at j;exact j.elim
 |some x=>rw[b]at j;refine G9 (kx b) λF W Y G n q b=>C7 (TA m r G q) ?_;rintro Z mA rfl I u J J;refine d4 (L.cls F (Zz n)) λmN k=>d4 k.at_ λN a=>?_;have a:=ClsAt.heap m a;refine GJ a λK=>c9 (u f _ b) λw M i=>b5 (Fv (b5 (K9 ?_)));clear r u;obtain⟨O,g,P,t,S⟩:=D;exact load_attr K a.ns k.noga (k.fld f n).1 (k.fld f n).2 I M (vM i) (b5 (jJ (f6 ((j6.toks (s:=⟨O,g,P,t,S⟩) m i j).after E))))
theorem bC{Q1:a7 b0->St->Prop}{Q:qVS}(l:X.M.get? a=a0 o)(m:o.data= .func fd)(n:Es.all J4=a8)
 (h:SD prog X C A sc es Es)(hs:env.scope=sc)(H:p7 X c st.n s.heap env ρ)(R:i8 X c st s)(p:Ws C es ρ st Q1)
 (q:∀d e g b f,Q1 e b->i8 X g b f->Vs X.M g b.n f.heap e d->k7 c st s g b f y5->b9 (d7 prog X.w) A (call (.ref a) (first++d)) Q t9 f):
 b9 (d7 prog X.w) A (Pr pos (.ref a) first (Cd pos (Bv Es env)) []) Q t9 s:=by
 exact Calls.callWith_function (o:=o) (fd:=fd) (FI n (Jo (h pos hs H R p) λd r w e i t u k j v=>⟨⟨k.stays _ _ l,m⟩,q d e t i r u k j v⟩))theorem qZ(h:O1 sc x=a8):sc.names.lookup (nm x)=a0 .globalImplicit/\x≠"__debug__":=⟨O2 (o6 h),bne_iff_ne.mp (o5 h)⟩
theorem YW(L:Laid0 X)(H:p7 X c st.n s.heap env ρ)(R:i8 X c st s)(b:X.mg (nm x)=a0 v)(a:O1 env.scope x=a8){Q:qVS}(h:Q v s):
 b9 (d7 prog X.w) A (eval (.Name (nm x) pos) env) Q t9 s:=by
 let a:=qZ a;exact pY H.kind a.1 (Calls.loadGlobal_global (by rw[H.g];exact L.glob.keeps R.stays:s.heap.Ns env.globals X.mg) b h) (UQ a.2)theorem EV.ok(h:EV k A):Be A:=⟨h.hh,by let a:=h.units;exact rL a⟩
theorem jn(L:Laid1 X)(i:EV k A)(j:GI prog X C k)(l:(BP "").contains f=a8)(m:Es.all J4=a8)(n:O1 sc f=a8)(h:SD prog X C A sc es Es):
 SX prog X C A sc (.call f es) (.Call (.Name (nm f) p) Es [] pos):=by
 intro c z s x ρ Q d H R e
 conv at e=>whnf
 let a:=L.funName f l;ext1 a q g;ext F8 g o B r t;exact HC (YW L.toLaid0 H R q (d▸n) (bC (first:=[]) r t m h d H R e λD E F y G u v b w=>Ad w (j i u v b)))
theorem wN(L:Laid1 X)(Z:EV k A)(hC:GI prog X C k)(hb:FP e'=a8)(F:Es.all J4=a8)(x:Es.length<30)(l:(apos.endLine==pos.line)=a8)
 (he:SX prog X C A sc e e')(h:SD prog X C A sc es Es):SX prog X C A sc (.m e m es) (.Call (.Attribute e' (nm m) apos) Es [] pos):=by
 intro c st s env ρ Q G H R hw
 conv at hw=>whnf
 refine fV hb F x l (B6 (he G H R hw) λv s1 d K c1 a f z B pl=>?_);cases D:K.inst? d with
 |some q=>
  obtain⟨cn,e1⟩:=q;rw[D]at a;ext CB a n M h2 a;refine c9 (qk n D) λes O n=>C7 (TA f z D O) ?_;rintro x1 mA rfl I w0 P w0;refine d4 (L.cls cn ((dh h2).resolve_left M)) λmN E=>d4 E.at_ λN b=>?_;let b:=ClsAt.heap f b;refine GJ b λS=>u0 (E.m m h2) ?_;rintro hm⟨y,hy⟩rr;ext o0 rr o fd ho U hd;let V:mA (nm m)=b4:=by
   cases W:mA (nm m)with
   |none=>rfl
   |some u=>exact(rJ n (P _ (by rw[W];exact nofun))).elim
  obtain⟨hp,g,dr,t,os⟩:=s1;exact method_of S b.ns E.noga E.nogat hm (f.stays _ _ ho) U hy I V (bC ho hd F h G (H.step R B) f a λvs ds c2 Y s2 a J j p=>Ad (B.trans p) (hC Z a J (E8 _ vs rfl (p.v f z) j)))
 |none=>rw[D]at a;ext k9 a n a;let i:=tN f z n;ext1 i T hT pa sl r w;refine pE hT pa sl r w (cS (.inl ⟨_,rfl⟩) F h G (H.step R B) f a λvs ds c2 Y s2 a J j p=>?_);rw[<-a.1];exact Ad (B.trans p) (uA Z.ok J (p.v f z) j (by rw[a.1];exact n) a.2)
end
def Lj(X:Fx)(c:Cx)(n:a6)(h:l5):Fl->Flow->Prop
 | .next,f=>f= .next
 | .cont,f=>f= .cont
 | .ret d,f=>∃v,f= .ret v/\V X.M c n h d v
inductive Cp (X:Fx) (c:Cx) (st:St) (s:f8) (env:I0) (F:i7->Prop) (Q:QS) (f:Flow) (s':f8):Prop
 |mk (fl ρ' st' c') (q:Q fl ρ' st') (R:i8 X c' st' s') (v:Lj X c' st'.n s'.heap fl f) (e:p7 X c' st'.n s'.heap env ρ') (S:k7 c st s c' st' s' F)
theorem UN{prog:A5}{X:Fx}{A:B7}{c:Cx}{st:St}{s:f8}{env:I0}{F:i7->Prop}{Q:QS}{m:M8 Flow}{i:Flow->f8->Prop}{j:qVS}(h:b9 (d7 prog X.w) A m (Cp X c st s env F Q) t9 s₀)
 (k:∀f d g b a e,Q g b a->i8 X e a d->Lj X e a.n d.heap g f->p7 X e a.n d.heap env b->k7 c st s e a d F->i f d):b9 (d7 prog X.w) A m i j s₀:=
 v6 h (λf d⟨g,b,a,e,q,R,l,H,S⟩=>k f d g b a e q R l H S) λn n x=>x.elim
def own(env:I0):i7->Prop:=ED env λx=>env.kindOf (nm x)=a0 .local\/env.kindOf (nm x)=a0 .cell
def Er(prog:A5)(X:Fx)(C:Cl)(A:B7)(sc:E7)(b:a7 S)(B:a7 AK):Prop:=
 ∀⦃c:Cx⦄⦃st:St⦄⦃s:f8⦄⦃env:I0⦄⦃ρ:Env⦄⦃Q:QS⦄,env.scope=sc->p7 X c st.n s.heap env ρ->i8 X c st s->G6 C b ρ st Q->
  b9 (d7 prog X.w) A (execs B env) (Cp X c st s env (own env) Q) t9 s
theorem wd{α β:Type}{f g:α->j0 β}:∀{l:a7 α},(∀x∈l,f x=g x)->l.filterMap f=l.filterMap g:=by
 intro a
 induction a with
 |nil=>intro d;exact rfl
 |cons x l b=>intro h;rw[Ht,Ht,h x j5,b λy c=>h y (k8 _ c)]
theorem tC{α:Type}:∀{ps:a7 n4}{vs:a7 α},ps.Nodup->ps.length=vs.length->ps.filterMap (λn=>((ps.zip vs).lookup n).map (n,·))=ps.zip vs:=by
 intro f
 induction f with
 |nil=>
  intro a;cases a with
  |nil=>intro c c;exact rfl
  |cons _ _=>intro c h;cases h
 |cons p ps g=>
  intro a;cases a with
  |nil=>intro c h;cases h
  |cons v vs=>
   intro d e;rw[Ax]at d;rw[Jv,Ht];simp only[BI,CK,Au];congr 1;refine Eq.trans (wd λn i=>?_) (g (vs:=vs) d.2 (by simpa using e));let b:(n==p)=c8:=by rw[Ga];clear e;rintro rfl;exact d.1 i
   rw[b]
theorem xU{α:Type}:∀{ps:a7 n4}{vs:a7 α}{n:n4},ps.length=vs.length->n∈ps->((ps.zip vs).lookup n).isNone=c8:=by
 intro d
 induction d with
 |nil=>intro b b b h;cases h
 |cons p ps e=>
  intro c;cases c with
  |nil=>intro b h b;cases h
  |cons v vs=>
   intro n f g;rw[Jv,BI];cases i:n==p with
   |true=>rfl
   |false=>let a:=(D2 g).resolve_left (beq_eq_false_iff_ne.mp i);exact e (by simpa using f) a
theorem ui(hp:F.params=⟨[],as,b4,[],[],b4,[]⟩)(hd:F.defaults= .none)(hl:as.length=vs.length)(hn:(as.map (·.arg)).Nodup):
 bindArgs F ⟨vs,[]⟩=pure ((as.map (·.arg)).zip vs):=by
 have hl2:(as.map (·.arg)).length=vs.length:=by rw[f7,hl]
 let h1:((as.map (·.arg)).filter λn=>(((as.map (·.arg)).zip vs).lookup n).isNone)=[]:=by rw[UW];intro n hm;rw[xU hl2 hm];simp
 let hf:=tC hn hl2;clear hn hl;cases F with
 |mk=>
 dsimp only at hp hd;subst hp hd;unfold bindArgs;refine Ey (by refine(?_:¬(decide (vs.length>(as.map (·.arg)).length)&&a8)=a8);rw[hl2,Vb (U4 _)];exact Ch) ?_;refine Ey (by
  refine(?_:¬(!(V1 (λn=>(lJ n ((as.map (·.arg)).zip vs)).isNone) (qH ((as.map (·.arg)).length - (LL (0 - (as.map (·.arg)).length) []).length) (as.map (·.arg)))).isEmpty)=a8);rw[nE,AH,a6.sub_zero,X4,h1];exact Ch) ?_
 rw[show none.getD #[]=#[] from rfl,show #[].toList=[] from rfl,nE,WB];exact t0 (pure:a7 (n4×b8)->M8 (a7 (n4×b8))) ((t0 (a7.filterMap λn=>Ju (λx=>(n,x)) (lJ n ((as.map (·.arg)).zip vs))) (Y5 (as.map (·.arg)))).trans hf)
structure YR (X:Fx) (a:i7) (fd:FD) (F:Vx) (B:a7 AK):Prop where
 obj:∃o,X.M.get? a=a0 o/\o.data= .func F
 g:F.globals=X.g
 b:F.builtins=X.b
 clo:F.closure=[]
 body:F.body= .stmts B
 code:X.M.CodeRec F.code F.qualname
 kind:F.scope.kind= .function
 gen:F.scope.isGenerator=c8
 co:F.scope.isCoroutine=c8
 params:∃as,F.params=⟨[],as,b4,[],[],b4,[]⟩/\as.map (·.arg)=fd.params.map nm
 dflt:F.defaults= .none
 nodup:fd.params.Nodup
 pk:∀x∈fd.params,F.scope.names.lookup (nm x)=a0 .local\/F.scope.names.lookup (nm x)=a0 .cell
 nofree:∀n,F.scope.names.lookup n≠a0 .free
theorem Sy:∀(names:a7 (n4×Az))(k:a6)(a:a7 (n4×i7))(n:n4),((n,Vw)∈names\/(a.lookup n).isSome=a8)->((Df k names a).lookup n).isSome=a8:=by
 intro d
 induction d with
 |nil=>intro b b b h;exact h.elim (λh=>by cases h) id
 |cons f r c=>
  obtain⟨m,i⟩:=f;intro k a n h;unfold Df;split
  .refine c _ _ n ?_;rcases h with h|h
   .rcases D2 h with e|h
    .clear h;cases e;exact .inr (by simp)
    .exact .inl h
   .refine .inr ?_;rw[BI];cases n==m<;>simp[h]
  .rename_i g;refine c _ _ n ?_;rcases h with h|h
   .rcases D2 h with e|h
    .clear h;cases e;exact(g rfl).elim
    .exact .inl h
   .exact .inr h
section
variable{X:Fx}{st:St}
theorem bQ(x:Fr [] s s')(e:∀b∈fp,s.heap.objs.size<=b)(f:Vs base c n s.heap d v):Vs base (c.hide fp) n s'.heap d v:=
 Y8 (λb a a a q=>x.keep b _ J8 q) (Lo (c:=c) (Uw e) d v f)
theorem oy{a:n4->j0 Az}:∀{c:a7 (n4×b8)}{m:n4->j0 b8},(∀b∈c,b.1≠y)->Pu a c m y=m y:=by
 intro d
 induction d with
 |nil=>intro e e;exact rfl
 |cons f r g=>
  obtain⟨n,v⟩:=f;intro m h;unfold Pu;rw[g λb i=>h b (k8 _ i)];split
  .exact j4 λq:y=n=>h (n,v) j5 q.symm
  .rfl
theorem yO{a:n4->j0 Az}:∀{c:a7 (n4×b8)}{m:n4->j0 b8},(∀b∈c,b.1≠y)->QB a c m y=m y:=by
 intro d
 induction d with
 |nil=>intro e e;exact rfl
 |cons f r g=>
  obtain⟨n,v⟩:=f;intro m h;unfold QB;rw[g λb i=>h b (k8 _ i)];split
  .rfl
  .exact j4 λq:y=n=>h (n,v) j5 q.symm
theorem XE{ps:a7 j3}{vs:a7 b8}{x:j3}(h:x∉ps):∀b∈(ps.map nm).zip vs,b.1≠nm x:=by intro b c q;let a:=(JZ c).1;rw[q]at a;exact A8 a λy d e=>h (EF e▸d)
theorem eU{base:l5}{n:a6}{h:l5}{a:n4->j0 Az}{x:j3}{d:b0}:∀{ps:a7 j3}{j:a7 b0}{vs:a7 b8}(m q:n4->j0 b8),ps.Nodup->Vs base c n h j vs->(ps.zip j).lookup x=a0 d->
 (a (nm x)=a0 .local->∃v,Pu a ((ps.map nm).zip vs) m (nm x)=a0 v/\V base c n h d v)/\(a (nm x)≠a0 .local->∃v,QB a ((ps.map nm).zip vs) q (nm x)=a0 v/\V base c n h d v):=by
 intro u
 induction u with
 |nil=>intro b b b b b b h;simp at h
 |cons p ps s=>
  intro o;cases o with
  |nil=>intro b b b b b h;simp at h
  |cons y j=>
   intro b m q i g f;ext o0 g v r e t w;subst e;rw[Ax]at i;rw[Jv,BI]at f;rw[y4,Jv];cases k:x==p with
   |true=>
    rw[k]at f;simp only[At]at f;clear s;subst f;obtain rfl:=beq_iff_eq.mp k;constructor
    .intro l;refine d0 v ?_ t;unfold Pu;rw[oy (XE i.1),g0 l,g0 rfl]
    .intro l;refine d0 v ?_ t;unfold QB;rw[yO (XE i.1),j4 l,g0 rfl]
   |false=>rw[k]at f;exact s _ _ i.2 w f
theorem GQ{n:n4}{k:Az}{l:a7 (n4×Az)}(h:l.lookup n=a0 k):(n,k)∈l:=mem_of_lookup h
theorem ie(S:X.M.NoLimit)(hA:EV (k+1) A)(L:YR X a fd FF B)(T:ds.length=fd.params.length)(R:i8 X c G s)(N:Vs X.M c G.n s.heap ds vs)
 (hB:∀A',DD k A'->Er prog X C A' FF.scope fd.body B)(h:G6 C fd.body (λx=>(fd.params.zip ds).lookup x) G λfl E G=>(match fl with| .ret d=>Q d G| .next=>Q .none G| .cont=>k6)):
 b9 (d7 prog X.w) A (call (.ref a) vs) (j6 X c G s y5 Q) t9 s:=by
 refine c9 L.obj λo ho J=>c9 L.params λas U I=>?_;let hnd:(as.map (·.arg)).Nodup:=by rw[I];let g:=L.nodup;rw[Bw]at g ⊢;rw[Y6];exact g.imp λh e=>h (EF e)
 let t:=ui U L.dflt (by rw[(by rw[Vs.length N,T]:vs.length=fd.params.length),<-f7 (f:=nm) (as:=fd.params),<-I,f7]:as.length=vs.length) hnd;rw[I]at t;let W:=hA.depth;refine Vf (codeAny_call_cells (body:=B) (sA W) (R.stays _ _ ho) J (S.keeps R.stays) (L.code.keeps R.stays) L.body t L.clo (λx q=>?_) (λY y=>?_) L.co L.gen L.kind)
 .have hm:=(JZ q).1;refine A8 hm λp hp e=>?_;rw[<-e];rcases L.pk p hp with K|K
  .exact .inl K
  .exact .inr ⟨K,Sy _ _ _ _ (.inl (GQ K))⟩
 .generalize M:callEnvC FF s.heap.objs.size a=i at y ⊢;have j:i.scope=FF.scope:=by rw[<-M];rfl
  have m:i.locals=s.heap.objs.size:=by rw[<-M];rfl
  have F:Fr [] s Y:=by refine S7 y.toInCall.same ?_;rintro h' tk rfl;refine⟨λb o E e=>y.toInCall.keep b o e,?_,rfl,rfl⟩;let g:=y.toInCall.ns.lt;rw[m]at g;exact m9 g
  let w:∀x,i.kindOf x=FF.scope.names.lookup x:=λx=>by unfold Env.kindOf;rw[j]
  generalize r:i.locals::(i.cells.map (·.1)).filterMap (λn=>i.cells.lookup n)=Z;have V:∀n b,i.cells.lookup n=a0 b->b∈Z:=by intro n b l;rw[<-r];refine k8 _ (List.mem_filterMap.mpr (d0 n ?_ l));exact B9 (a:=(n,b)) (mem_of_lookup l) rfl
  let O:∀b∈Z,s.heap.objs.size<=b/\b<Y.heap.objs.size:=by
   intro b l;rw[<-r]at l;rcases D2 l with rfl|l
   .exact⟨by rw[m];exact l8 _,y.toInCall.ns.lt⟩
   .refine c9 (List.mem_filterMap.mp l) λn E hn=>⟨?_,(y.cell n b hn).lt⟩;let g:=y.above n b (mem_of_lookup hn);rw[m]at g;exact m9 g
  have H:Vs X.M (c.hide Z) G.n Y.heap ds vs:=bQ F (λb l=>(O b l).1) N;have H1:p7 X (c.hide Z) G.n Y.heap i (λx=>(fd.params.zip ds).lookup x):=by
   refine⟨by rw[j];exact L.kind,(by rw[<-M];exact L.g:i.globals=X.g),(by rw[<-M];exact L.b:i.builtins=X.b),.inr (by rw[<-r];exact j5),(d0 _ y.toInCall.ns λx d q E K=>?_),λx q=>?_,λx z a q hz h1 h2=>?_⟩
   .exact(eU (λE=>b4) (λE=>b4) L.nodup H q).1 K
   .have hc:i.kindOf x=a0 .cell:=q.elim id λh=>(L.nofree _ (w x▸h)).elim;let D:(i.cells.lookup x).isSome=a8:=by rw[(by rw[<-M];rfl:i.cells=Df (s.heap.objs.size+1) FF.scope.names [])];exact Sy _ _ _ _ (.inl (GQ (w x▸hc)))
    refine d4 (Option.isSome_iff_exists.mp D) λb l=>U8 b _ l (.inr (V _ _ l)) ?_ (y.cell _ _ l) λz d hz W=>?_
    .let g:=y.above _ b (mem_of_lookup l);exact L0 g
    .clear q D l;subst hz;refine(eU (λE=>b4) (λE=>b4) L.nodup H W).2 ?_;rw[hc];simp
   .exact iT y.apart (mem_of_lookup h1) (mem_of_lookup h2)
  refine v6 (hB _ (⟨hA.hh,by exact uh W,by exact jt hA.units⟩:DD k (A.deeper i)) j H1 (R.hide F O) h) (λf s2 p=>?_) λE E x=>x.elim;obtain⟨fl,ρ',P,c',hq,R2,hf,H2,S2⟩:=p;have hF:∀b,own i b->y5 b\/s.heap.objs.size<=b:=by
   rintro b z1;ext c9 z1 x q rfl;refine .inr ?_;rcases q with q|q
   .rw[NV q,m];exact l8 _
   .refine F8 (H2.cel _ (.inl q)) λb u l E=>?_;rw[MQ q l];let g:=y.above _ b (mem_of_lookup l);rw[m]at g;exact m9 g
  cases fl with
  |next=>obtain rfl:=hf;exact j6.uH F hF ⟨.none,P,c',hq,R2,rfl,S2⟩
  |cont=>exact hq.elim
  |ret d=>ext c9 hf v rfl hv;exact j6.uH F hF ⟨d,P,c',hq,R2,hv,S2⟩
end
def Ha(h:l5)(C:i7):l5:=(h.push (E3 #[] 0)).push (FJ C h.objs.size)
section
variable{os:HK}
theorem Rm(a:h.get? b=a0 o):(Ha h C).get? b=a0 o:=A9 _ (A9 _ a)theorem eL:(Ha h C).get? (h.objs.size+1)=a0 (FJ C h.objs.size):=by let a:=(J7 ..).symm;rw[a];exact y9 _ rfl
theorem ac(X:Hq h C N mN)(hi:mN "__init__"=a0 (.ref fI))(hf:h.get? fI=a0 oI)(hfc:oI.cls= .type "function"){Q:Fin->f8->Prop}
 (hq:b9 (d7 prog w) A (call (.ref fI) (.ref (h.objs.size+1)::rest)) (λr s'=>r= .none/\Q (.done (.ret (.ref (h.objs.size+1)))) s') E ⟨Ha h C,g,dr,t,os⟩):
 b9 (d7 prog w) A (Builtin.«type.__call__» ⟨.ref C::rest,[]⟩) Q E ⟨h,g,dr,t,os⟩:=by
 refine GJ X λhC=>?_;let F0:=X'
 repeat(first|with_reducible refine Qq hC ?_|with_reducible refine wpAny_madeBy_exc hC ?_|wp_step)
 refine codeAny_call_builtin_code (VI _ F0.quiet) (wpAny_check_obj_new F0 hC (codeAny_obj_new F0 hC X.ns hi ((?_:b9 _ _ _ _ _ ⟨Ha h C,g,dr,t,os⟩))));let hC1:=Rm (C:=C) hC
 repeat(first|with_reducible refine Qq (eL (h:=h) (C:=C)) ?_|(with_reducible refine wpAny_isSubtype_exc hC1 ?_;rw[(by simp:(Hy C::[Wp "object"]).contains (.ref C)=a8)])|wp_step)
 refine wpAny_typeLookup_exc hC1 (X.keeps λb o hb=>Rm hb).ns (by kernel_rfl:mroOf (.type "object")=pure [.type "object"]) (by rw[Gq,HP];kernel_rfl:Cf (.type "object") "__init__"=pure (a0 (.builtin "object.__init__"))) ?_;rw[hi];refine K9 (b5 (ZK (T:="function") (d0 _ (Rm hf) hfc) (Fo (by decide) (f6 (b5 (v6 hq (λr s' hr=>?_) λw0 w0 x=>x))))));ext1 hr rfl hQ
 wp_walk
 exact hQ
theorem qd(X:Hq h C N mN)(hi:mN "__init__"=a0 (.ref fI))(c:h.get? fI=a0 oI)(b:oI.cls= .type "function"){Q:qVS}
 (d:b9 (d7 prog w) (A.under (.builtin "type.__call__" ⟨.ref C::rest,[]⟩)) (call (.ref fI) (.ref (h.objs.size+1)::rest)) (λr e=>r= .none/\Q (.ref (h.objs.size+1)) e) E ⟨Ha h C,g,dr,t,os⟩):
 b9 (d7 prog w) A (call (.ref C) rest) Q E ⟨h,g,dr,t,os⟩:=by
 refine GJ X λa=>?_;let f:=tc_lookup;let i:=tc_bind (.ref C);let j:(⟨h,g,dr,t,os⟩:f8).TypeIs (.ref C) "type":=d0 _ a rfl;refine Vf (LY ((?_:b9 _ _ (callAny (.ref C) _) _ _ _)))
 repeat(any_goals(first|assumption|with_reducible refine Qq a ?_|wp_step))
 exact⟨rfl,codeAny_call_builtin_at (VI _ (by decide+kernel)) entry_typeCall (wpAny_check_type_call_sub a (ac X hi c b d))⟩
end
section
variable{X:Fx}{st:St}
theorem xC{K:i7}{z:n4->j0 b8}{a:X7}{j:a7 j9}{es:Xs}{Q1:a7 b0->St->Prop}{Q:qVS}(B:Hq X.M K N z)(q:j.all J4=a8)
 (h:SD prog X C A sc es j)(hs:env.scope=sc)(H:p7 X c st.n s.heap env ρ)(R:i8 X c st s)(D:Ws C es ρ st Q1)
 (E:∀k l m b e,Q1 l b->i8 X m b e->Vs X.M m b.n e.heap l k->k7 c st s m b e y5->b9 (d7 prog X.w) A (call (.ref K) k) Q t9 e):
 b9 (d7 prog X.w) A (Pr a (.ref K) [] (Cd a (Bv j env)) []) Q t9 s:=by
 refine CZ (FI q (Jo (h a hs H R D) λk u v l o F G w f y=>?_));let i:=E k l F o u G w f y;let p:((Cd a (Bv j env)).any (λx=>x.fst)||([]:a7 (j0 n4×M8 b8)).any λx=>x.fst.isNone)=c8:=by rw[FS q];rfl
 clear f y;obtain⟨I,g,d,t,J⟩:=u;refine GJ (ClsAt.heap w B) λn=>?_;let M:=tc_lookup;let O:(⟨I,g,d,t,J⟩:f8).TypeIs (.ref K) "type":=d0 _ n rfl;refine OU ?_
 repeat(any_goals(first|assumption|with_reducible refine Qq n ?_|with_reducible refine wpAny_load' n ?_|wp_step))
 rw[g0 (by rfl),p];exact b5 (v6 i (λr e L=>CZ (jP (f6 L))) λv v x=>x)
theorem tz(h:DD k A)(K:i7)(vs:a7 b8):EV k (A.under (.builtin "type.__call__" ⟨.ref K::vs,[]⟩)):=by
 refine⟨h.hh,?_,?_⟩
 .exact(ig h.depth:A.depth+1+3*k+3<_)
 .let a:(mP "type.__call__" ⟨.ref K::vs,[]⟩).cUnits=1:=rfl;refine(?_:A.units+(mP "type.__call__" ⟨.ref K::vs,[]⟩).cUnits+20*k+60<_);rw[a];exact ry h.units
theorem mu(L:Laid1 X)(V:DD k A)(W:GI prog X C k)(i:cn∈["Bank","Tables","Joins","Unions","Heap"])(Y:Es.all J4=a8)(M:O1 sc cn=a8)(h:SD prog X C A sc es Es):
 SX prog X C A sc (.new cn es) (.Call (.Name (nm cn) p) Es [] pos):=by
 intro c st s env ρ Q O H R w
 conv at w=>whnf
 refine d4 (L.cls cn i) λmN x=>?_;let z:=x.at_;ext1 z N j;let F:(BP cn).contains "__init__"=a8:=by simp only[K5,J8,X6]at i;clear M w x j;rcases i with rfl|rfl|rfl|rfl|rfl<;>rfl
 refine u0 (x.m "__init__" F) λZ B P=>?_;ext o0 P o fd ho G hd;refine HC (YW L.toLaid0 H R (L.clsName cn i) (O▸M) (xC j Y h O H R w λvs ds l a b hq n I S=>Ad S ?_));let D:i8 X (l.add a.n b.heap.objs.size) (a.A (.fld [])) {b with heap:=b.heap.push (E3 #[] 0)}:=by refine n.A (l8 _) (Ext.push _ _) rfl rfl (CW (λB=>b4) (Y_ (BQ _ (#[]) _ (y9 _ rfl) rfl (λe he=>u6 he (by simp)) λB=>rfl)) (λf d h=>by simp at h) (λy hy=>(hy rfl).elim) (by unfold j8;simp))
 let m:=J7 ..;let Ri:i8 X ((l.add a.n b.heap.objs.size).add (a.n+1) (b.heap.objs.size+1)) ((a.A (.fld [])).A (.I cn a.n)) {b with heap:=Ha b.heap (X.cls cn)}:=by refine D.A (o:=.I cn a.n) (by rw[m];exact l8 _) (Ext.push _ _) rfl rfl ⟨B8 _,?_⟩;rw[Cx.p];exact eL
 let T:k7 (l.add a.n b.heap.objs.size) (a.A (.fld [])) {b with heap:=b.heap.push (E3 #[] 0)} ((l.add a.n b.heap.objs.size).add (a.n+1) (b.heap.objs.size+1)) ((a.A (.fld [])).A (.I cn a.n)) {b with heap:=Ha b.heap (X.cls cn)} y5:=
  k7.A D (by rw[m];exact l8 _) (Ext.push _ _)
 let U:=(k7.A n (l8 _) (Ext.push _ _):k7 l a b (l.add a.n b.heap.objs.size) (a.A (.fld [])) {b with heap:=b.heap.push (E3 #[] 0)} y5).trans T;let q:((l.add a.n b.heap.objs.size).add (a.n+1) (b.heap.objs.size+1)).κ (a.n+1)=b.heap.objs.size+1:=Cx.p;clear S D m T;obtain⟨hp,g,dr,t,os⟩:=b;refine qd (ClsAt.heap n j) Z (n.stays _ _ ho) G (B6 (W (tz V _ _) hq Ri (E8 _ vs rfl ⟨B8 _,by rw[q]⟩ (U.Vs n (λB h=>h.elim) I))) λr s3 d J c3 u R3 K E=>?_);cases d<;>first|exact u.elim|skip
 refine⟨K,.ref (a.n+1),J,c3,u,R3,⟨(j7 (B8 _) E.n),?_⟩,U.trans E⟩;let v:=E.aG (a.n+1) (B8 _);rw[v,q]
end
theorem p7.weaken{X:Fx}{c:Cx}{n:a6}{h:l5}{env:I0}{ρ:Env}(hs:∀x d,ρ x=a0 d->ρ' x=a0 d)(H:p7 X c n h env ρ'):p7 X c n h env ρ where
 kind:=H.kind
 g:=H.g
 b:=H.b
 pl:=H.pl
 loc:=by exact c9 H.loc λm e f=>(d0 m e λx d i=>f x d (hs x d i))
 cel x hx:=by exact C7 (H.cel x hx) λa u e f i j k=>(U8 a u e f i j λz d l o=>k z d l (hs z d o))
 apart:=H.apart
inductive GA:a7 j3->a7 j9->Prop
 |nil:GA [] []
 |cons {x:j3} {ps:a7 j3} {pos:X7} {es:a7 j9}:GA ps es->GA (x::ps) (.Name (nm x) pos::es)
inductive AN:a7 j3->j9->Prop
 |one {x:j3} {pos:X7}:AN [x] (.Name (nm x) pos)
 |many {x y:j3} {ps:a7 j3} {es:a7 j9} {k:a6} {pos:X7}:GA (x::y::ps) es->AN (x::y::ps) (.Tuple es k pos)def BD(env:I0)(x:j3):Prop:=env.kindOf (nm x)=a0 .local\/env.kindOf (nm x)=a0 .cell
def Dp(ρ:Env)(l:a7 (j3×b0)):Env:=l.foldl (λρ p=>ρ.set p.1 p.2) ρ
theorem vC{ρ:Env}:∀(l:a7 (j3×b0)),(∀p∈l,ρ p.1=b4)->∀x d,ρ x=a0 d->Dp ρ l x=a0 d:=by
 intro l;let b:∀(l:a7 (j3×b0))(ρ:Env)(x:j3),(∀p∈l,p.1≠x)->Dp ρ l x=ρ x:=by
  intro l
  induction l with
  |nil=>intro ρ x i;rfl
  |cons p l c=>intro ρ x h;refine(?_:Dp (ρ.set p.1 p.2) l x=_);rw[c _ _ λq f=>h q (k8 _ f)];refine Ey (λe=>h p j5 e.symm) ?_;try with_reducible rfl
 intro h x d a;rw[b l ρ x λp g e=>by rw[<-e,h p g]at a;cases a];exact a
theorem ke{ρ:Env}{ps:a7 j3}{b:a7 b0}(l:ps.Nodup)(m:ps.length=b.length):Dp ρ (ps.reverse.zip b.reverse)=Dp ρ (ps.zip b):=by
 let n:ps.reverse.zip b.reverse=(ps.zip b).reverse:=by let a:ps.reverse.zip b.reverse=a7.zipWith Prod.mk ps.reverse b.reverse:=rfl;rw[a,<-a7.reverse_zipWith m];rfl
 rw[n];refine T_ (pN _) ?_ ρ;intro x d y f z;by_cases h:x.1=y.1
 .let a:x=y:=by refine d4 (N2 (List.mem_reverse.mp d)) λi c=>d4 c ?_;clear c;clear d;rintro o rfl;refine d4 (N2 (List.mem_reverse.mp f)) λj c=>?_;ext d4 c p rfl;rw[lK,lK]at h;let a:=(a7.getElem_inj l).mp h;subst a;rfl
  clear f h;subst a;rfl
 .funext w;refine(?_:(if w=y.1 then a0 y.2 else if w=x.1 then a0 x.2 else z w)=(if w=x.1 then a0 x.2 else if w=y.1 then a0 y.2 else z w));by_cases g:w=y.1<;>by_cases k:w=x.1<;>simp[g,k]<;>first|exact(h (k.symm.trans g)).elim|skip
  .exact λe=>(h e.symm).elim
  .exact λe=>(h e).elim
section
variable{prog:A5}{X:Fx}{C:Cl}{A:B7}{E:qVS}{c c':Cx}{st st':St}{s s' s'':f8}{env:I0}{ρ:Env}{F:i7->Prop}
theorem y0.typeIs(h:y0 s.heap T l xs):s.TypeIs (.ref l) (if T then"tuple" else"list"):=by
 cases T
 .exact yg h
 .exact p_ h
theorem ol(j:l≠I):∀(n k:a6)(s:f8)(Q:a7 b8->f8->Prop),M5 s.heap T I l k->y0 s.heap T l items->k+n<=items.size->
 (∀g,M5 g T I l (k+n)->Aj I s.heap g->Q ((items.toList.drop k).take n) {s with heap:=g})->b9 (d7 prog X.w) A (draw (.ref I) n) Q E s:=by
 intro r
 induction r with
 |zero=>intro k s Q h t t i;exact f6 (by simpa using i s.heap h (PO ..))
 |succ n u=>intro k s Q h p m i;have e:k<items.size:=q5 (G3 _ _) ‹_›;refine b5 (Yd h p (x:=items[k]) (by simp[e]) λq b a=>CZ (u (k+1) _ _ b (p.at λo v=>a.extBut l o j v) (b6 (A1 (Y7 _ 1 _)) m) λf c d=>f6 ?_));have q:=i f (by rw[show k+(n+1)=k+1+n by exact dj];exact c) (a.trans d);rw[(by simp[nD,e]:items.toList.drop k=items[k]::items.toList.drop (k+1)),a7.take_succ_cons]at q;exact q
theorem fC(J:A.handled=b4)(R:i8 X c st s)(C:V X.M c st.n s.heap d v)(K:st.items? d=a0 xs)(L:xs.length=n){Q:a7 b8->f8->Prop}
 (M:∀D B,Fr [] s B->Vs X.M c st.n B.heap xs D->Q D B):b9 (d7 prog X.w) A (unpackItems v n b4) Q E s:=by
 refine W2 (o0 (N0.of R C K) ?_);clear C;rintro T l rfl F G;ext c9 G a t u;have f:a.size=n:=by let j:=Vs.length u;rw[A0]at j;exact il j L
 have w:l≠s.heap.objs.size:=m6 t.lt;refine b5 ?_;let i:∃H,Cf (.type (if T then"tuple" else"list")) "__iter__"=pure (a0 (.builtin H)):=by
  clear t;cases T
  .exact⟨_,PySem.F.slot_list_iter.lookup⟩
  .exact⟨_,PySem.F.slot_tuple_iter.lookup⟩
 ext d4 i H i;refine XV (y0.typeIs t) i (f6 (CZ (Nl t ?_)));let x:=t.at λo p=>A9 _ p;refine CZ (ol w n 0 _ _ Oy x (A1 ((JT _).trans f.symm)) λI q g=>?_);let z:qH n (LL 0 a.toList)=a.toList:=by rw[DU];exact a7.take_of_length_le (by simp[f])
 rw[z];refine X8 (by simp[f]) (CZ (eN J q (x.at λo p=>g.extBut l o w p) (by simp[f]) λm r=>?_));let k:∀b o,s.heap.get? b=a0 o->m.get? b=a0 o:=λb o p=>r b o (m6 (C4 p)) (g.extBut b o (m6 (C4 p)) (A9 _ p))
 refine f6 λN=>?_;let y:Fr [] s {s with heap:=m}:=⟨λb o F e=>k b o e,N,rfl,rfl⟩;exact M _ _ y (y.Vs (λF h=>by cases h) u)
inductive Ip (prog:A5) (w:J3) (A:B7) (env:I0):a7 j3->a7 (b8->M8 Ay)->Prop
 |nil:Ip prog w A env [] []
 |cons {x:j3} {ps:a7 j3} {f:b8->M8 Ay} {fs:a7 (b8->M8 Ay)} (hf:∀(v:b8)(Q:Ay->f8->Prop)(E:qVS)(s:f8),b9 (d7 prog w) A (storeName env (nm x) v) Q E s->b9 (d7 prog w) A (f v) Q E s)
  (hr:Ip prog w A env ps fs):Ip prog w A env (x::ps) (f::fs)
theorem aY(o:∀b,F b->c.P b):∀{ps:a7 j3}{fs:a7 (b8->M8 Ay)}{a:a7 b0}{vs:a7 b8}{ρ:Env}{s:f8},Ip prog X.w A env ps fs->p7 X c st.n s.heap env ρ->i8 X c st s->Vs X.M c st.n s.heap a vs->ps.length=a.length->
 (∀x∈ps,BD env x)->(∀x∈ps,F (CP env x))->∀{Q:Ay->f8->Prop},(∀f,i8 X c st f->p7 X c st.n f.heap env (Dp ρ (ps.zip a))->k7 c st s c st f F->Q () f)->b9 (d7 prog X.w) A (assignInOrder fs vs) Q E s:=by
 intro ps
 induction ps with
 |nil=>
  intro fs a vs ρ s h H R e g p p Q i;cases h;cases a with
  |cons d a=>cases g
  |nil=>obtain rfl:=e;exact f6 (i s R H k7.refl)
 |cons x ps q=>
  intro fs a vs ρ s h H R e g l m Q i;cases h with
  |cons t u=>
   cases a with
   |nil=>cases g
   |cons d a=>ext o0 e v r rfl e k;exact CZ (t _ _ _ _ (H.store R (l x j5) e (m x j5) λJ w z n=>q u z w (n.Vs R (λb B=>.inl (o b B)) k) (by simpa using g) (λy j=>l y (k8 _ j)) (λy j=>m y (k8 _ j)) λC D G I=>i C D G (n.trans I)))
theorem pf(h:GA b a):Ip prog X.w A env b ((Me a env).map (·.2))/\(Me a env).length=b.length/\(Me a env).findIdx? (·.1)=b4:=by
 induction h with
 |nil=>exact m0 (.nil) rfl rfl
 |@cons x b d a h c=>refine m0 (.cons (λv Q E s h=>VG h) c.1) (by refine(?_:(Me a env).length+1=_);rw[c.2.1];rfl) ?_;refine(?_:oF _ ((c8,assign (.Name (nm x) d) env)::Me a env)=b4);rw[JN];simp[c.2.2]
theorem bJ(z:∀b,F b->c.P b)(B:A.handled=b4)(C:AN a target)(H:p7 X c st.n s.heap env ρ)(R:i8 X c st s)(p:V X.M c st.n s.heap d v)
 (q:(∃x,a=[x]/\ds=[d])\/(2<=a.length/\st.items? d=a0 ds/\ds.length=a.length))(r:∀x∈a,BD env x)(t:∀x∈a,F (CP env x)){Q:Ay->f8->Prop}
 (u:∀e,i8 X c st e->p7 X c st.n e.heap env (Dp ρ (a.zip ds))->k7 c st s c st e F->Q () e):b9 (d7 prog X.w) A (assign target env v) Q E s:=by
 cases C with
 |@one x m=>
  rcases q with⟨y,h,rfl⟩|⟨i,_⟩
  .cases h;exact VG (H.store R (r x j5) p (t x j5) λj D G I=>u j D G I)
  .simp at i
 |@many x y a U k m J=>
  rcases q with⟨y,h,_⟩|⟨_,K,w⟩
  .cases h
  .rw[arm_assign_Tuple];let f:=pf (prog:=prog) (X:=X) (A:=A) (env:=env) J;ext1 f L i M;refine OU ?_;unfold unpack;rw[i,M];refine CZ (fC B R p K w λW j g n=>?_);have l:Ext s.heap j.heap:=⟨g.size,λb o N=>g.keep b o J8 N⟩;refine aY z L (H.ext R l) (R.ext l g.gens g.os) n w.symm r t λO P S T=>u O P S ((k7.ext l).trans T)
theorem RC{b:Env}(h:AD ps d ρ=a0 b)(c:ps≠[]):∃a,((∃x,ps=[x]/\a=[d])\/(2<=ps.length/\st.items? d=a0 a/\a.length=ps.length))/\b=Dp ρ (ps.zip a):=by
 cases ps with
 |nil=>exact(c rfl).elim
 |cons x r=>
  cases r with
  |nil=>exact d0 [d] (.inl (d0 _ rfl rfl)) ((C5 h).symm)
  |cons y r=>
   cases d with
   |B a=>exact k9 (V0 h) λe h=>d0 a (.inr (m0 (T9 (T9 (F9 _))) rfl e)) ((C5 h).symm)
   |_=>cases h
theorem AN.ne(h:AN ps t):ps≠[]:=by cases h<;>simp
theorem aA{a:Env}(h:∀b,F b->c.P b)(i:A.handled=b4)(f:AN ps target)(H:p7 X c st.n s.heap env ρ)(R:i8 X c st s)(j:V X.M c st.n s.heap d v)
 (g:AD ps d ρ=a0 a)(k:∀x∈ps,BD env x)(l:∀x∈ps,F (CP env x)){Q:Ay->f8->Prop}
 (m:∀e,i8 X c st e->p7 X c st.n e.heap env a->k7 c st s c st e F->Q () e):b9 (d7 prog X.w) A (assign target env v) Q E s:=by
 refine c9 (RC (st:=st) g f.ne) ?_;clear g;rintro o n rfl;exact bJ h i f H R j n k l m
end
def Fn:It->b7
 | .enum ..=>c8
 | .zip ..=>c8
 |_=>a8
def Dv:CT->b7
 | .of _=>a8
 | .range _=>a8
 |_=>c8
theorem aQ{it:It}{st:St}{d:b0}(h:it.next st=a0 (a0 (d,it')))(hp:Fn it=a8):Fn it'=a8:=by
 cases it with
 |seq d k=>refine c9 (Option.map_eq_some_iff.mp h) λw0 w0 h=>c9 (Option.map_eq_some_iff.mp h) λw0 w0 h=>?_;cases h;rfl
 |keys a k n ep=>
  let h:=(V0 h).2;cases hs:st.h a with
  |D es ep'=>rw[hs]at h;refine c9 (Option.map_eq_some_iff.mp (C5 (V0 h).2)) λw0 w0 h=>?_;cases h;rfl
  |_=>rw[hs]at h;cases h
 |text l=>
  cases l with
  |nil=>exact nomatch C5 h
  |cons c r=>cases C5 h;rfl
 |range i n=>cases(V0 (C5 h)).2;rfl
 |_=>exact no hp
theorem xf{d:b0}{st:St}{it:It}(h:BU d st=a0 it):Fn it=a8:=by
 cases d with
 |str l=>cases(V0 h).2;rfl
 |B ds=>cases(C5 h);rfl
 |ref a=>
  let h:=(V0 h).2;cases hs:st.h a with
  |D es ep=>rw[hs]at h;cases(V0 h).2;rfl
  |L xs=>rw[hs]at h;cases h;rfl
  |_=>rw[hs]at h;cases h
 |_=>cases h
theorem YJ(hT:AN p target)(h:Fn it=a8\/2<=p.length):ZX it target:=by
 cases hT with
 |one=>
  rcases h with h|h
  .refine .inl (Q6 _ _ rfl ?_);cases it<;>first|trivial|cases h
  .simp at h
 |many=>exact .inr ⟨_,_,_,rfl⟩
inductive cp (X:Fx) (c:Cx) (st:St) (s:f8) (Q:It->St->Prop) (pl:b7) (u:b8) (s2:f8):Prop
 |mk (it st' c' s0) (q:Q it st') (R:i8 X c' st' s0) (S:k7 c st s c' st' s0 y5) (m:GM X c' st' s0 it u s2) (h:pl=a8->Fn it=a8)
def BO(prog:A5)(X:Fx)(C:Cl)(A:B7)(sc:E7)(src:CT)(E:j9):Prop:=
 ∀⦃c:Cx⦄⦃st:St⦄⦃s:f8⦄⦃env:I0⦄⦃ρ:Env⦄⦃Q:It->St->Prop⦄,env.scope=sc->p7 X c st.n s.heap env ρ->i8 X c st s->WI C src ρ st Q->
  b9 (d7 prog X.w) A (eval E env) (λv s1=>b9 (d7 prog X.w) A (DV v) (cp X c st s Q (Dv src)) t9 s1) t9 s
def SF(prog:A5)(X:Fx)(C:Cl)(A:B7)(sc:E7)(es:Xs)(Es:a7 j9):Prop:=
 ∀⦃c:Cx⦄⦃st:St⦄⦃s:f8⦄⦃env:I0⦄⦃ρ:Env⦄⦃Q:b7->St->Prop⦄,env.scope=sc->p7 X c st.n s.heap env ρ->i8 X c st s->Ee C es ρ st Q->
  b9 (d7 prog X.w) A (Hx Es a8 λc r=>if r=a8 then do let ok<-isTrue c env (eval c env);pure (Gl ok)else pure (Gl r)) (DB X c st s y5 Q) t9 s
inductive AT (X:Fx) (c:Cx) (n:a6) (h:l5) (D:i7) (acc:a7 b0):Prop
 |mk (items) (p:h.PlainList D items) (v:Vs X.M c n h acc items.toList) (l:acc.length<=j8+1)def AQ(env:I0)(b:i7):Prop:=b=env.locals\/∃k,cf env k/\env.cells.lookup k=a0 b
section
variable{prog:A5}{X:Fx}
theorem kg(i:SX prog X C A sc e E):BO prog X C A sc (.of e) E:=by
 intro c r s q ρ Q j H R h
 conv at h=>whnf
 refine B6 (i j H R h) λv k d b l f g m n=>?_;cases a:BU d b with
 |none=>rw[a]at f;exact f.elim
 |some o=>rw[a]at f;exact vJ g m a λu t p=>⟨o,b,l,k,f,g,n,p,λw=>xf a⟩
theorem fq(L:Laid0 X)(l:J4 e'=a8)(z:O1 sc "range"=a8)(B:SX prog X C A sc e e'):BO prog X C A sc (.range e) (.Call (.Name (nm "range") p) [e'] [] pos):=by
 intro c m s N ρ Q D H R h
 conv at h=>whnf
 refine GH (es:=.cons e .nil) (Q1:=λj m=>match j with|[d]=>(match d with| .int n=>(if 0<=n/\n<=j8 then Q (.range 0 n) m else k6)|_=>k6)|_=>k6) L (x:="range") (v:=.type "range") (Ap 11 rfl) (.inr ⟨_,rfl⟩) (by simp[l]) z (ES B GR l) D H R h λO j E k F a G g I=>?_;cases j with
 |nil=>exact a.elim
 |cons d r=>
  cases r with
  |cons e r=>exact a.elim
  |nil=>
   cases d with
   |int n=>
    by_cases f:0<=n/\n<=j8
    .let a:=Vu (g0 f) a;refine c9 (Oj g) ?_;rintro v rfl q;refine d4 q ?_;clear q;clear g;rintro t rfl;refine dI λr w i J=>RZ J λP S T K=>?_;let y:Ext F.heap w.heap:=⟨i.size,λb o f=>i.keep b o J8 f⟩;exact sX f.1 f.2 K λu U M=>⟨.range 0 n,k,E,w,a,(G.ext y i.gens i.os),I.trans (k7.ext y),M,λV=>rfl⟩
    .exact(Vu (j4 f) a).elim
   |_=>exact a.elim
theorem rt(L:Laid0 X)(k:J4 e'=a8)(n:O1 sc "enumerate"=a8)(o:SX prog X C A sc e e'):BO prog X C A sc (.enum e) (.Call (.Name (nm "enumerate") p) [e'] [] pos):=by
 intro c f s E ρ Q t H R h
 conv at h=>whnf
 refine GH (es:=.cons e .nil) (Q1:=λg f=>match g with|[d]=>(match f.list? d with|some _=>Q (.enum 0 d) f|none=>k6)|_=>k6) L (x:="enumerate") (v:=.type "enumerate") (Ap 13 rfl) (.inr ⟨_,rfl⟩) (by simp[k]) n (ES o GR k) t H R h λG g w b y a l j z=>?_;cases g with
 |nil=>exact a.elim
 |cons d r=>
  cases r with
  |cons e r=>exact a.elim
  |nil=>
   dsimp only at a;refine c9 (Oj j) ?_;rintro v rfl B;cases i:b.list? d with
   |none=>rw[i]at a;exact a.elim
   |some J=>rw[i]at a;refine zR l B i λu K m=>?_;obtain⟨I,M,rfl,N,F,D⟩:=id m;exact Kb D ⟨_,b,w,y,a,l,z,m,λq=>by cases q⟩
theorem ae(L:Laid0 X)(j:J4 a'=a8)(k:J4 b'=a8)(B:O1 sc "zip"=a8)(D:SX prog X C A sc a a')(E:SX prog X C A sc b b'):BO prog X C A sc (.zip a b) (.Call (.Name (nm "zip") p) [a',b'] [] pos):=by
 intro c l s P ρ Q F H R h
 conv at h=>whnf
 refine GH (es:=.cons a (.cons b .nil)) (Q1:=λn l=>match n with|[x,y]=>(match l.items? x,l.items? y with|some _,a0 _=>Q (.zip x y 0) l|_,_=>k6)|_=>k6) L (x:="zip") (v:=.type "zip") (Ap 12 rfl) (.inr ⟨_,rfl⟩) (by simp[j,k]) B (ES D (ES E GR k) j) F H R h λT n G i J f w t K=>?_;cases n with
 |nil=>exact f.elim
 |cons d r=>
  cases r with
  |nil=>exact f.elim
  |cons e r=>
   cases r with
   |cons g r=>exact f.elim
   |nil=>
    dsimp only at f;refine o0 (gR t) ?_;rintro v u rfl M N;cases m:i.items? d with
    |none=>rw[m]at f;exact f.elim
    |some U=>
     cases o:i.items? e with
     |none=>rw[m,o]at f;exact f.elim
     |some V=>rw[m,o]at f;refine ZT w M N m o λu W z=>?_;obtain⟨I,Y,rfl,Z,S,O⟩:=id z;exact Kb O ⟨_,i,G,J,f,w,K,z,λq=>by cases q⟩theorem tL:SF prog X C A sc .nil []:=λa b a a a a a a R h=>f6 ⟨b,_,h,R,k7.refl⟩
theorem vX{a:a7 j9}{Q:b7->f8->Prop}(h:Q c8 s):
 b9 (d7 prog X.w) A (Hx a c8 λc r=>if r=a8 then do let b<-isTrue c env (eval c env);pure (Gl b)else pure (Gl r)) Q t9 s:=by
 induction a with
 |nil=>exact f6 h
 |cons e r d=>rw[Dj,j4 (by decide)];exact b5 (f6 d)
theorem uZ{e:MX}{es:Xs}{f:j9}{g:a7 j9}(l:ST prog X C A sc e f)(m:SF prog X C A sc es g):SF prog X C A sc (.cons e es) (f::g):=by
 intro c p s o ρ Q i H R h
 conv at h=>whnf
 rw[Dj,g0 rfl];refine b5 (b5 (NM (l i H R h) λb q d n j k a=>f6 ?_));cases b with
 |true=>exact Td a (m i (H.step R a) k j)
 |false=>exact vX ⟨d,n,j,k,a⟩
end
section
variable{X:Fx}{st:St}
theorem p7.at(H:p7 X c n h env ρ)(l:∀b,AQ env b->c.P b->c'.P b)(s:∀b o,AQ env b->h.get? b=a0 o->h'.get? b=a0 o)
 (t:∀d v,V X.M c n h d v->V X.M c' n' h' d v):p7 X c' n' h' env ρ where
 kind:=H.kind
 g:=H.g
 b:=H.b
 pl:=l _ (.inl rfl) H.pl
 loc:=by refine c9 H.loc ?_;rintro m w j;ext Em w o B C e r;exact(d0 m (Kp o B C (s _ _ (.inl rfl) e) r) λx d f D k=>c9 (j x d f D k) λv a b=>d0 v a (t _ _ b))
 cel x hx:=by refine C7 (H.cel x hx) ?_;rintro a u f j k i E;ext1 i o y z;let A:AQ env a:=.inr (d0 x hx f);exact(U8 a u f (l _ A j) k (d0 o (s _ _ A y) z) λx d F e=>c9 (E x d F e) λv p q=>d0 v p (t _ _ q))
 apart:=H.apart
theorem p7.P(H:p7 X c n h env ρ){b:i7}(f:AQ env b):c.P b:=by
 rcases f with rfl|⟨k,g,d⟩
 .exact H.pl
 .refine o0 (H.cel k g) λa i e j i=>?_;rw[e]at d;clear e;cases d;exact j
theorem p7.sF(H:p7 X c st.n s.heap env ρ)(R:i8 X c st s)(x:k7 c st s c' st' s' F)(f:∀b,F b->c.P b\/s.heap.objs.size<=b)(g:∀b,AQ env b->¬F b):p7 X c' st'.n s'.heap env ρ:=
 H.at (λb d h=>by rw[x.P];exact h) (λb o e i=>x.keep b o i (λa j q=>R.priv a j (q▸H.P e)) (g b e)) λd d k=>x.V R f k
theorem GC(H:p7 X c n h env ρ)(b:BD env x):AQ env (CP env x):=by
 rcases b with b|b
 .rw[NV b];exact .inl rfl
 .refine F8 (H.cel (nm x) (.inl b)) λa e d e=>?_;rw[MQ b d];exact .inr (d0 _ (.inl b) d)theorem AT.sF(h:AT X c st.n s.heap D acc)(R:i8 X c st s)(f:c.P D)(x:k7 c st s c' st' s' F)(g:∀b,F b->c.P b\/s.heap.objs.size<=b)(i:¬F D):AT X c' st'.n s'.heap D acc:=by obtain⟨d,⟨e,j⟩,k,l⟩:=h;exact⟨d,⟨e,x.keep _ _ j (λa m q=>R.priv a m (q▸f)) i⟩,x.Vs R g k,l⟩
theorem eo(R:i8 X c st s)(m:c.P D)(h:AT X c st.n s.heap D acc)(r:V X.M c st.n s.heap d v)(hz:acc.length<=j8)
 (t:∀u i,i8 X c st i->AT X c st.n i.heap D (acc++[d])->k7 c st s c st i (·=D)->Q u i):b9 (d7 prog X.w) A (call (.builtin "list.append") [.ref D,v]) Q t9 s:=by
 obtain⟨l,k,f,_⟩:=h;let n:=Vs.length f;rw[A0]at n;refine wpAny_list_append_plain k (λw g a=>?_) (by rw[n,O3];unfold j8 at hz;exact p6);let S:k7 c st s c st {s with heap:=w} (·=D):=k7.priv R (λb o e j=>a.extBut b o j e) (by rw[a.1];exact l8 _);refine t _ _ (R.keep (λb o e j=>a.extBut b o (λq=>j (q▸m)) e) (by rw[a.1];exact l8 _) rfl rfl) ?_ S;refine⟨_,g,?_,by simp;assumption⟩;rw[JG];let p:∀b,b=D->c.P b\/s.heap.objs.size<=b:=λb e=>.inl (e▸m);exact Te (S.Vs R p f) (S.V R p r)
inductive Rv (X:Fx) (c:Cx) (st:St) (s:f8) (env:I0) (ρ:Env) (D:i7) (F:i7->Prop) (Q:a7 b0->St->Prop) (s':f8):Prop
 |mk (acc st' c') (q:Q acc st') (R:i8 X c' st' s') (v:AT X c' st'.n s'.heap D acc) (e:p7 X c' st'.n s'.heap env ρ) (S:k7 c st s c' st' s' F)
def SE(prog:A5)(X:Fx)(C:Cl)(A:B7)(sc:E7)(G:Gs)(m:b8->I0->M8 Ay):Prop:=
 ∀⦃c:Cx⦄⦃st:St⦄⦃s:f8⦄⦃env:I0⦄⦃ρ:Env⦄⦃acc:a7 b0⦄⦃D:i7⦄⦃Q:a7 b0->St->Prop⦄,env.scope=sc->p7 X c st.n s.heap env ρ->(∀x∈G.tgts,ρ x=b4)->i8 X c st s->c.P D->¬AQ env D->
  AT X c st.n s.heap D acc->WG C G ρ ρ st acc Q->b9 (d7 prog X.w) A (m (.ref D) env) (λw0 s'=>Rv X c st s env ρ D (λb=>b=D\/ED env (·∈G.tgts) b) Q s') t9 s
def Cu(e elt:j9)(gens:a7 CI)(depth:a6)(acc:b8)(env:I0):M8 Ay:=match gens[depth+1]? with
 |some g'=>do
  let x<-eval g'.iter env
  Po g'.iter.pos
  let x<-jX g'.iter env x
  let _<-runOwn (.compStart e (depth+1) (<-holding [x] (DV x)) acc env) env
 |none=>do let _<-call (.builtin "list.append") [acc,<-eval elt env]
theorem vj(hg:gens[depth]?=a0 ⟨target,iter,ifs,0⟩)(h0:∀g'∈gens,g'.is_async=0):
 Wr (.ListComp elt gens scope pos) depth it acc env=(do
  Po iter.pos
  match<-Gc it with
  |none=>pure (.done .next)
  |some v=>
   VN target it v
   assign target env v
   let mut ok:=true
   for c in ifs do
    if ok then ok<-isTrue c env (eval c env)
   if ok then
    Cu (.ListComp elt gens scope pos) elt gens depth acc env
   again (.compLoop (.ListComp elt gens scope pos) depth it acc env)):=by
 unfold Wr Cu;dsimp only;rw[hg];dsimp only;cases hq:gens[depth+1]? with
 |none=>rfl
 |some g'=>obtain⟨t',i',f',a'⟩:=g';obtain rfl:=h0 _ (p8 hq);simp only[iW,Bx,Bu,mH];rfl
inductive qr (X:Fx) (env:I0) (ρ:Env) (D I:i7) (fp:a7 i7) (p:a7 j3) (c0:Cx) (BE:St) (s0:f8) (F:i7->Prop) (step:b0->St->a7 b0->(a7 b0->St->Prop)->Prop) (Q:a7 b0->St->Prop) (n:a6) (s:f8):Prop
 |mk (it st acc c) (H:p7 X c st.n s.heap env ρ) (R:i8 X c st s) (HA:AT X c st.n s.heap D acc) (hI:Ao X c st.n s.heap it I fp) (hk:Fn it=a8\/2<=p.length) (S0:k7 c0 BE s0 c st s F) (hw:Bd step n it st acc Q)
theorem fF
 (hh:A.handled=b4)(hg:gens[depth]?=a0 ⟨target,iter,ifs,0⟩)(h0:∀g'∈gens,g'.is_async=0)(hT:AN p target)(hs:env.scope=sc)(hlc:∀x∈p++r.tgts,BD env x)(hnd:∀x∈r.tgts,x∉p)
 (hF:SF prog X C A sc ifX ifs)(hr:SE prog X C A sc r (Cu (.ListComp elt gens scope pos) elt gens depth))
 (hfE:∀b∈fp,¬AQ env b/\b≠D)(hDE:¬AQ env D)(hρ:∀x∈p++r.tgts,ρ x=b4)(hPD:c0.P D)(hPf:∀b∈fp,c0.P b)(n:a6)
 (h:qr X env ρ D I fp p c0 BE s0 (λb=>b∈fp\/b=D\/ED env (·∈p++r.tgts) b) (λd st acc k=>(match AD p d ρ with
  |none=>k6
  |some ρ'=>Ee C ifX ρ' st λb st=>(match b with
   |true=>WG C r ρ' ρ' st acc k
   |false=>k acc st))) Q n s):
 BJ (d7 prog X.w) A (.compLoop (.ListComp elt gens scope pos) depth (.ref I) (.ref D) env)
  (λres s'=>res= .ok .next/\Rv X c0 BE s0 env ρ D (λb=>b∈fp\/b=D\/ED env (·∈p++r.tgts) b) Q s') s:=by
 refine codeAny_loop rfl _ (λn s hI=>?_) n h;clear h;obtain⟨it,st,acc,c,H,R,HA,hI,hk,S0,hw⟩:=hI;refine(?_:b9 _ A ((Wr (.ListComp elt gens scope pos) depth (.ref I) (.ref D) env).onRaise (λx=>do noteFrame x env;theTreesLotGoes x)) _ _ s);refine wpAny_noted ?_;rw[vj hg h0];let hcP:=S0.P;let hPD':c.P D:=by rw[hcP];exact hPD
 have hPf':∀b∈fp,c.P b:=λb hb=>by rw[hcP];exact hPf b hb
 refine OU (b5 ?_);let hS1:∀b,b∈fp->c.P b\/s.heap.objs.size<=b:=λb hb=>.inl (hPf' b hb);rcases vW hw with⟨hnx,hw⟩|⟨n',hn',d,it',hnx,hw⟩
 .refine NU hh R hPf' hI hnx λr' s1 F1 hN=>?_;have S1:=F1.step (c:=c) (st:=st);cases hN;exact f6 ⟨rfl,acc,st,c,hw,F1.rep R hPf',HA.sF R hPD' S1 hS1 λhb=>(hfE D hb).2 rfl,H.sF R S1 hS1 λb he hb=>(hfE b hb).1 he,S0.trans (S1.z λb hb=>.inl hb)⟩
 obtain⟨ρ',hb,hw⟩:=aI hw;refine NU hh R hPf' hI hnx λr' s1 F1 hN=>?_;ext y3 hN u hr' hu hO;cases hr';let R1:=F1.rep R hPf';let S1:=F1.step (c:=c) (st:=st);have hk':Fn it'=a8\/2<=p.length:=hk.imp (aQ hnx) id;refine b5 (cL hPf' hO (YJ hT hk') λs2 F2 hI2=>?_);let R2:=F2.rep R1 hPf';let S2:=F2.step (c:=c) (st:=st);have hS2:∀b,b∈fp->c.P b\/s1.heap.objs.size<=b:=λb hb=>.inl (hPf' b hb);have H2:=(H.sF R S1 hS1 λb he hb=>(hfE b hb).1 he).sF R1 S2 hS2 λb he hb=>(hfE b hb).1 he;let hpl:∀b,ED env (·∈p++r.tgts) b->AQ env b:=by rintro b z1;ext c9 z1 x hx rfl;exact GC H (hlc x hx)
 have hTF:∀b,ED env (·∈p) b->c.P b:=by rintro b z2;ext c9 z2 x hx rfl;exact H2.P (GC H (hlc x (G2 _ hx)))
 refine b5 (aA (F:=ED env (·∈p)) hTF hh hT H2 R2 (S2.V R1 hS2 hu) hb (λx hx=>hlc x (G2 _ hx)) (λx hx=>d0 x hx rfl) λs3 R3 H3 S3=>?_);let hS3:∀b,ED env (·∈p) b->c.P b\/s2.heap.objs.size<=b:=λb hb=>.inl (hTF b hb);have hmono:∀x d,ρ x=a0 d->ρ' x=a0 d:=by refine c9 (RC (st:=st) hb hT.ne) ?_;clear hb hw H3;rintro ds w0 rfl;exact vC _ λq hq=>hρ _ (G2 _ (JZ hq).1)
 let hρ':∀x∈r.tgts,ρ' x=b4:=by
  refine c9 (RC (st:=st) hb hT.ne) ?_;clear hb hw H3 hmono;rintro ds w0 rfl;let key:∀(l:a7 (j3×b0))(ρ:Env)(x:j3),(∀p∈l,p.1≠x)->Dp ρ l x=ρ x:=by
   intro l
   induction l with
   |nil=>intro ρ x w0;rfl
   |cons p l ih=>intro ρ x h;refine(?_:Dp (ρ.set p.1 p.2) l x=_);rw[ih _ _ λq hq=>h q (k8 _ hq)];refine Ey (λe=>h p j5 e.symm) ?_;try with_reducible rfl
  intro x hx;rw[key _ _ _ λq hq e=>hnd x hx (by rw[<-e];exact(JZ (a:=q.1) (b:=q.2) hq).1)];exact hρ x (K6 _ hx)
 have S03:k7 c0 BE s0 c st s3 (λb=>b∈fp\/b=D\/ED env (·∈p++r.tgts) b):=
  ((S0.trans (S1.z λb hb=>.inl hb)).trans (S2.z λb hb=>.inl hb)).trans (S3.z λb z9=>c9 z9 λx hx e=>.inr (.inr (d0 x (G2 _ hx) e)))
 refine b5 (v6 (hF hs H3 R3 hw) (λok s4 p4=>?_) λw0 w0 x=>x.elim);obtain⟨st4,c4,hq4,R4,S4⟩:=p4;let H4:=H3.step R3 S4;have HA4:=(((HA.sF R hPD' S1 hS1 λhb=>(hfE D hb).2 rfl).sF R1 hPD' S2 hS2 λhb=>(hfE D hb).2 rfl).sF R2 hPD' S3 hS3 λhq=>hDE (by ext c9 hq x hx e;exact e▸GC H (hlc x (G2 _ hx)))).sF R3 hPD' S4 (λw0 h=>h.elim) id;have hI4:=(hI2.step R2 S3 hS3 hPf' λb hb hq=>(hfE b hb).1 (by refine c9 hq ?_;clear hq;clear hb;rintro x hx rfl;exact GC H (hlc x (G2 _ hx)))).step R3 S4 (λw0 h=>h.elim) hPf' λw0 w0 h=>h;cases ok with
 |false=>dsimp only at hq4;refine f6 ⟨rfl,n',hn',it',st4,acc,c4,H4.weaken hmono,R4,HA4,hI4,hk',S03.trans (S4.z λw0 h=>h.elim),hq4⟩
 |true=>
  dsimp only at hq4;let hPD4:c4.P D:=by rw[S4.P];exact hPD'
  refine b5 (v6 (hr hs H4 hρ' R4 hPD4 hDE HA4 hq4) (λw0 s5 p5=>?_) λw0 w0 x=>x.elim);obtain⟨acc5,st5,c5,hq5,R5,HA5,H5,S5⟩:=p5;let hI5:=hI4.step R4 S5 (λb hb=>.inl (by
   rcases hb with rfl|⟨x,hx,rfl⟩
   .exact hPD4
   .exact H4.P (GC H4 (hlc x (K6 _ hx))))) (λb hb=>by rw[S4.P];exact hPf' b hb:∀b∈fp,c4.P b) λb hb hq=>by
    rcases hq with rfl|⟨x,hx,rfl⟩
    .exact(hfE _ hb).2 rfl
    .exact(hfE _ hb).1 (GC H4 (hlc x (K6 _ hx)))
  exact f6 ⟨rfl,n',hn',it',st5,acc5,c5,H5.weaken hmono,R5,HA5,hI5,hk',(S03.trans (S4.z λw0 h=>h.elim)).trans (S5.z λb hb=>hb.elim (λe=>.inr (.inl e)) λz9=>c9 z9 λx hx e=>.inr (.inr (d0 x (K6 _ hx) e))),hq5⟩
end
section
variable{X:Fx}
theorem Xn(f:∀b,P b->c.P b)(g:Vs base c n h d v):Vs base (c.O P) n h d v:=
 Lo (c:=c) (λa e e i e h=>i (f a h)) d v g
theorem AT.O(d:∀b,P b->c.P b)(x:AT X c n h D acc):AT X (c.O P) n h D acc:=by obtain⟨a,e,f,g⟩:=x;exact⟨a,e,Xn d f,g⟩theorem AT.hide(x:Fr [] s s')(d:∀b∈fp,s.heap.objs.size<=b)(h:AT X c n s.heap D acc):AT X (c.hide fp) n s'.heap D acc:=by obtain⟨a,⟨e,f⟩,g,i⟩:=h;exact⟨a,⟨e,x.keep _ _ J8 f⟩,bQ x d g,i⟩theorem AT.lt(x:AT X c n h D acc):D<h.objs.size:=by obtain⟨a,⟨e,b⟩,_⟩:=x;exact C4 b
theorem p7.lt{n:a6}{h:l5}(H:p7 X c n h env ρ){b:i7}(g:AQ env b):b<h.objs.size:=by
 rcases g with rfl|⟨k,i,e⟩
 .exact c9 H.loc λm j d=>j.lt
 .refine C7 (H.cel k i) λa u f d d l d=>?_;rw[f]at e;clear f;cases e;exact l.lt
theorem Ao.hide(x:Fr [] s s')(hf:∀b∈fp,s.heap.objs.size<=b)(h:Ao X c n s.heap it I fp'):Ao X (c.hide fp) n s'.heap it I fp':=by
 have k:∀b o,s.heap.get? b=a0 o->s'.heap.get? b=a0 o:=λb o ho=>x.keep b o J8 ho
 induction h with
 |seq hv hi=>exact .seq (hv.hide x hf) (hi.at λo=>k _ o)
 |keys hb hi=>ext c9 hi o ho r;exact .keys hb (d0 o (k _ _ ho) r)
 |text hi hl=>ext c9 hi o ho r;exact .text (d0 o (k _ _ ho) r) hl
 |range hi=>exact .range (k _ _ hi)
 |enum hb he hi hne=>ext1 hi o ho r;exact .enum hb (k _ _ he) (d0 o (k _ _ ho) r) hne
 |zip ha hb hz=>refine .zip (ha.hide x hf) (hb.hide x hf) ?_;let zz:=hz.zo;ext1 zz f1 zo;exact S7 hz.to λp q to=>⟨⟨f1,k _ _ zo⟩,k _ _ hz.ti,(Dz p q (k _ _ to)),hz.s1.at λo=>k _ o,hz.s2.at λo=>k _ o,hz.TT,hz.ii,hz.l1,hz.l2⟩theorem Nw(h:AF e=a8)(x:b8):jX e env x=pure x:=by cases e<;>first|rfl|exact no h
theorem Xr(d:gens[depth]?=a0 ⟨target,iter,ifs,0⟩)
 (b:BJ (d7 prog X.w) A (.compLoop (.ListComp elt gens scope pos) depth it acc env) R s)
 (h:b9 (d7 prog X.w) A (DV it) (λa c=>BJ (d7 prog X.w) A (.compLoop (.ListComp elt gens scope pos) depth a acc env) R c) t9 s):
 BJ (d7 prog X.w) A (.compStart (.ListComp elt gens scope pos) depth it acc env) R s:=by
 refine LY (wpAny_notedAt ?_);have e:(clausesOf (.ListComp elt gens scope pos))[depth]?=a0 ⟨target,iter,ifs,0⟩:=d;unfold compStart;rw[e];refine b5 (Ps (wpAny_ite ?_));split
 .first
   |exact b5 (f6 (f6 (VC rfl b)))
   |exact f6 (VC rfl b)
 .exact b5 (EN (b5 (Fv (b5 (v6 h (λa c f=>f6 (VC rfl f)) λg g x=>x.elim)))))
theorem wM(i:SX prog X C A sc e elt)(t:gens[depth+1]?=b4):SE prog X C A sc (.elt e) (Cu E elt gens depth):=by
 intro c G s B ρ F D Q w H m R n j x h
 conv at h=>whnf
 unfold Cu;rw[t];refine b5 (B6 (i w H R h) λv I d k o p q y g=>?_);have f:o.P D:=by rw[g.P];exact n
 exact b5 (eo q f (x.sF R n g (λm h=>h.elim) id) y p.1 λu J z l r=>f6 ⟨_,k,o,p.2,z,l,((H.step R g).sF q r (λb a=>.inl (a▸f)) λb i a=>j (a▸i)),(g.z λm h=>h.elim).trans (r.z λb a=>.inl a)⟩)
theorem fc
 (hh:A.handled=b4)(z:gens[depth+1]?=a0 ⟨target,iter,ifs,0⟩)(h0:∀g'∈gens,g'.is_async=0)(hT:AN p target)(G:∀d:I0,d.scope=sc->∀x∈p++r.tgts,BD d x)(J:∀x∈r.tgts,x∉p)(K:AF iter=a8)
 (hk:Dv src=a8\/2<=p.length)(hS:BO prog X C A sc src iter)(hF:SF prog X C A sc ifX ifs)(hr:SE prog X C A sc r (Cu (.ListComp elt gens scope pos) elt gens (depth+1))):
 SE prog X C A sc (.cons p src ifX r) (Cu (.ListComp elt gens scope pos) elt gens depth):=by
 intro c st s d ρ L D Q B H M R U N HA h
 conv at h=>whnf
 unfold Cu;rw[z];dsimp only;refine b5 (v6 (hS B H R h) (λv s1 h1=>?_) λk k x=>x);refine b5 (Fv ?_);rw[Nw K];refine b5 (f6 (b5 (K9 (v6 h1 (λu V h2=>?_) λk k x=>x))));obtain⟨it,m,j,s0,⟨n,hq⟩,R0,w,⟨I,l,rfl,y,f,W⟩,O⟩:=h2;let E:=H.step R w;have o:=HA.sF R U w (λk h=>h.elim) id;let i:BJ (d7 prog X.w) A (.compLoop (.ListComp elt gens scope pos) (depth+1) (.ref I) (.ref D) d)
  (λq Y=>q= .ok .next/\Rv X (j.hide l) m V d ρ D (λb=>b∈l\/b=D\/ED d (·∈p++r.tgts) b) Q Y) V:=
  fF (c0:=j.hide l) hh z h0 hT B (G d B) J hF hr (λb a=>⟨λhe=>(P9 (f b a).1 (E.lt he)).elim,λe=>(P9 (e▸(f b a).1) o.lt).elim⟩:∀b∈l,¬AQ d b/\b≠D) N M (Or.inl (by rw[w.P];exact U:j.P D)) (λb a=>WK a) n ⟨it,m,L,j.hide l,(E.hide y λb a=>(f b a).1),(R0.hide y f),(o.hide y λb a=>(f b a).1),W,hk.imp O id,k7.refl,hq⟩
 refine b5 (wpAny_runOwn (Ka (Xr z i (Kb W i)) λq Y g=>?_));ext1 g rfl rr;obtain⟨t,P,Z,S,R5,T,H5,S5⟩:=rr;refine f6 ?_;let F:∀b,j.P b->Z.P b:=λb a=>by rw[S5.P];exact .inl a
 refine⟨t,P,Z.O j.P,S,R5.O F,T.O F,E.O H5 F,(w.z λk h=>h.elim).trans (S5.uH y λb a=>?_)⟩;rcases a with a|a|a
 .exact .inr (f b a).1
 .exact .inl (.inl a)
 .exact .inl (.inr a)
end
def CF(scope sc:E7):E7:=
 {scope with names:=scope.names.map λ(n,k)=>if(k==.free&&sc.kind==.function&&sc.names.lookup n==a0 .cell)then(n,.cell)else(n,k)}
theorem xF{g:n4->Az->Az}:∀(l:a7 (n4×Az))(x:n4),(l.map λp=>(p.1,g p.1 p.2)).lookup x=(l.lookup x).map (g x):=by
 intro a
 induction a with
 |nil=>intro d;exact rfl
 |cons b r c=>
  obtain⟨n,k⟩:=b;intro x;rw[y4,BI,BI];cases h:x==n with
  |true=>
   have e:x=n:=by simpa using h
   clear h;subst e;rfl
  |false=>exact c x
theorem uv(a b:E7)(x:n4):(CF a b).names.lookup x=(a.names.lookup x).map λk=>if(k==.free&&b.kind==.function&&b.names.lookup x==a0 .cell)then .cell else k:=by rw[<-xF (g:=λn k=>if(k==.free&&b.kind==.function&&b.names.lookup n==a0 .cell)then .cell else k)];unfold CF;dsimp only;congr 1;refine A2 λp c=>?_;obtain⟨n,k⟩:=p;split<;>rfl
structure Jk (scope sc:E7) (tgts:a7 j3):Prop where
 kind:scope.kind= .function
 nodup:(scope.names.map (·.1)).Nodup
 own:∀x:j3,scope.names.lookup (nm x)=a0 .local\/scope.names.lookup (nm x)=a0 .cell->x=".0"\/x∈tgts
 tgt:∀x∈tgts,scope.names.lookup (nm x)=a0 .local\/scope.names.lookup (nm x)=a0 .cell
 free:∀k,scope.names.lookup k=a0 .free->sc.names.lookup k=a0 .cell\/sc.names.lookup k=a0 .free
theorem OQ{α:Type}:∀{l:a7 (n4×α)}{p:n4×α},(l.map (·.1)).Nodup->p∈l->l.lookup p.1=a0 p.2
 :=by
 intro l
 induction l with
 |nil=>intro p c b;cases b
 |cons q r d=>
  intro p c b;cases q with|mk n v=>
  rw[y4,Ax]at c;rw[BI];rcases D2 b with rfl|b
  .simp
  .have f:(p.1==n)=c8:=by rw[Ga];rintro e;exact c.1 (e▸(B9 (a:=p) b rfl))
   rw[f];exact d c.2 b
theorem uk:∀(names:a7 (n4×Az))(n:a6)(a:a7 (n4×i7)),Df n names a=Df n names []++a:=by
 intro c
 induction c with
 |nil=>intro d d;exact rfl
 |cons e r b=>
  obtain⟨m,k⟩:=e;intro n a;unfold Df;split
  .rw[b (n+1) ((m,n)::a),b (n+1) [(m,n)],Eb];rfl
  .exact b n a
theorem yA:∀(names:a7 (n4×Az))(n:a6)(b:a7 (n4×i7))(k:n4)(a:i7),(k,a)∈Df n names b->(k,Vw)∈names\/(k,a)∈b:=by
 intro g
 induction g with
 |nil=>intro c c c c h;exact .inr h
 |cons i r d=>
  obtain⟨m,j⟩:=i;intro n b k a h;unfold Df at h;split at h
  .rename_i f;rcases d _ _ k a h with h|h
   .exact .inl (k8 _ h)
   .rcases D2 h with e|h
    .clear h;clear h;cases e;refine .inl ?_;have l:j= .cell:=by simpa using f
     clear f;subst l;exact j5
    .exact .inr h
  .exact(d _ _ k a h).imp (k8 _) id
section
variable{X:Fx}{st:St}
theorem qT{names:a7 (n4×Az)}(m:∀p∈names,p.2= .free->∃a,env.cells.lookup p.1=a0 a):∀c:a7 (n4×i7),∃f,(Hx names c λ(x:n4×Az)(cs:a7 (n4×i7))=>(if x.2==.free then do let a<-PC env x.1;pure (Gl ((x.1,a)::cs))else pure (Gl cs):M8 _))=pure f/\
 ∀k a,(k,a)∈f↔((k,a)∈c\/((k,nA)∈names/\env.cells.lookup k=a0 a)):=by
 induction names with
 |nil=>exact λc=>d0 c rfl λk a=>by simp
 |cons p r t=>
  intro c;obtain⟨n,o⟩:=p;let q:=t λp u=>m p (k8 _ u);by_cases i:o= .free
  .subst i;refine d4 (m _ j5 rfl) λa s=>c9 (q ((n,a)::c)) λf j l=>d0 f ?_ λk b=>?_
   .rw[Dj];let d:PC env n=pure a:=by unfold PC;rw[s]
    simp only[CK,DY,d,pure_bind];exact j
   .rw[l];have g:env.cells.lookup n=a0 a:=s;simp only[K5,QA];constructor
    .rintro((⟨rfl,rfl⟩|h)|⟨h,e⟩)
     .exact .inr ⟨.inl ⟨rfl,trivial⟩,g⟩
     .exact .inl h
     .exact .inr ⟨.inr h,e⟩
    .rintro(h|⟨⟨rfl,_⟩|h,e⟩)
     .exact .inl (.inr h)
     .rw[g]at e;cases e;exact .inl (.inl ⟨rfl,rfl⟩)
     .exact .inr ⟨h,e⟩
  .refine c9 (q c) λf j l=>d0 f ?_ λk b=>?_
   .rw[Dj];let d:(o==nA)=c8:=by simpa using i
    simp only[d,Bx,Bu,pure_bind];exact j
   .rw[l];simp only[K5,QA];constructor
    .rintro(h|⟨h,e⟩)
     .exact .inl h
     .exact .inr ⟨.inr h,e⟩
    .rintro(h|⟨⟨_,h⟩|h,e⟩)
     .exact .inl h
     .exact(i h.symm).elim
     .exact .inr ⟨h,e⟩
abbrev cM(scope:E7)(L globals:i7)(cells:a7 (n4×i7))(qual:n4)(outer:I0):I0:=
 {scope,locals:=L,globals,cells,qual,func:=b4,code:=outer.code,frame:=outer.frame,builtins:=outer.builtins}
theorem gc
 (h:Q (cM scope s.heap.objs.size globals (Df (s.heap.objs.size+1) scope.names cl) qual env) {s with heap:=Ql (s.heap.push {cls:=.type "dict",data:=.dict #[]}) scope.names}):
 b9 M A (UU scope globals cl [] qual b4 .none (a0 env)) Q E s:=by
 simp only[UU,WQ,DY];refine b5 (qL (b5 (wpAny_layCells _ (λd a c=>by cases b:a==Vw<;>simp[b]) _ _ _ _ ?_)));rw[show({s with heap:=s.heap.push {cls:=.type "dict",data:=.dict #[]}}:f8).heap.objs.size=s.heap.objs.size+1 from J7 ..];exact b5 (f6 (f6 h))
theorem aw:∀(names:a7 (n4×Az))(h:l5),h.objs.size<=(Ql h names).objs.size:=by
 intro b
 induction b with
 |nil=>intro d;exact l8 _
 |cons c r a=>
  obtain⟨_,k⟩:=c;intro h;unfold Ql;split
  .exact b6 (by rw[J7];exact N8 _) (a _)
  .exact a h
theorem tX{α:Type}:∀{l:a7 (n4×α)}{k:n4}{a:α},(k,a)∈l->∃b,l.lookup k=a0 b
 :=by
 intro l
 induction l with
 |nil=>intro k a h;cases h
 |cons p r c=>
  intro k a h;cases p with|mk n v=>
  rw[BI];cases d:k==n with
  |true=>exact⟨v,rfl⟩
  |false=>
   rcases D2 h with e|h
   .clear h;cases e;simp at d
   .exact c h
theorem i8.adopt(R:i8 X c st s)(i:X.M.objs.size<=x)(j:∀a,a<st.n->c.κ a≠x)(l:¬c.P x)(m:J6 X c st.n s.heap o x):i8 X (c.add st.n x) (st.A o) s:=by
 have k:∀{o:AO}{y:i7},J6 X c st.n s.heap o y->J6 X (c.add st.n x) (st.n+1) s.heap o y:=λh=>bT (N8 _) (λa d=>Cx.o d) (λn n=>id) h;have split:∀a,a<st.n+1->a<st.n\/a=st.n:=λa d=>nS (v0 d);refine{stays:=R.stays,lo:=?_,inj:=?_,obj:=?_,priv:=?_,pold:=R.pold,gens:=R.gens,os:=R.os,three:=R.three,bsz:=R.bsz}
 .intro a d;rcases split a d with h|rfl
  .rw[Cx.o h];exact R.lo a h
  .rw[Cx.p];exact i
 .intro a b d i e;rcases split a d with h|rfl<;>rcases split b i with g|rfl
  .rw[Cx.o h,Cx.o g]at e;exact R.inj a b h g e
  .rw[Cx.o h,Cx.p]at e;exact(j a h e).elim
  .rw[Cx.p,Cx.o g]at e;exact(j b g e.symm).elim
  .rfl
 .intro a d;rcases split a d with h|rfl
  .rw[Cx.o h];let f:(st.A o).h a=st.h a:=by simp[St.A,m6 h]
   rw[f];exact k (R.obj a h)
  .rw[Cx.p];let f:(st.A o).h st.n=o:=by simp[St.A]
   rw[f];exact k m
 .intro a d;rcases split a d with h|rfl
  .rw[Cx.o h];exact R.priv a h
  .rw[Cx.p];exact l
theorem k7.adopt(y:k7 c st s c' st' s' F)(f:s.heap.objs.size<=x):k7 c st s (c'.add st'.n x) (st'.A o) s' F:=
 ⟨U6 y.n,λa b=>(Cx.o (j7 b y.n)).trans (y.aG a b),y.P,y.keep,λa d e=>by
  by_cases h:a<st'.n
  .rw[Cx.o h];exact y.new a d h
  .let g:a=st'.n:=by have g:a<st'.n+1:=e;exact AL (v0 g) (Nat.not_lt.mp h)
   clear d e h;subst g;rw[Cx.p];exact f,y.size⟩
end
abbrev rk(b c:b7)(o:j0 Az):j0 Az:=o.map λkd=>if(kd==.free&&b&&c)then .cell else kd
theorem dm(h:rk b c o=a0 .cell\/rk b c o=a0 .free):o=a0 .cell\/o=a0 .free:=by
 cases o with
 |none=>rcases h with h|h<;>cases h
 |some a=>cases a<;>first|exact .inl rfl|exact .inr rfl|(rcases h with h|h<;>cases h)
theorem sO(h:rk b c o=a0 .local):o=a0 .local:=by
 cases o with
 |none=>cases h
 |some a=>cases a<;>first|rfl|(cases h;done)|(cases b<;>cases c<;>cases h)
theorem mh(h:o=a0 .local\/o=a0 .cell):rk b c o=a0 .local\/rk b c o=a0 .cell:=by
 rcases h with rfl|rfl
 .exact .inl rfl
 .exact .inr rfl
theorem tc(h:o=a0 .local) (q:rk b c o=a0 .cell):k6:=by subst h;cases q
section
variable{X:Fx}{st:St}
theorem bO{Q:Q1}{RR:b8->i7->MJ->f8->Prop}
 (hh:A.handled=b4)(F:Jk scope sc (p++r.tgts))(h0:∀g'∈(⟨target,iter,ifs,0⟩::rest:a7 CI),g'.is_async=0)(hT:AN p target)(hnd:∀x∈r.tgts,x∉p)(hk:Dv src=a8\/2<=p.length)
 (hS:BO prog X C A sc src iter)(hF:SF prog X C A (CF scope sc) ifX ifs)(hr:SE prog X C A (CF scope sc) r (Cu (.ListComp elt (⟨target,iter,ifs,0⟩::rest) scope pos) elt (⟨target,iter,ifs,0⟩::rest) 0))
 (hs:env.scope=sc)(H:p7 X c st.n s.heap env ρ)(R:i8 X c st s)(h:W C (.Q (.cons p src ifX r)) ρ st Q)
 (hfin:∀D L s5 d st6 c6,Q d st6->i8 X c6 st6 s5->V X.M c6 st6.n s5.heap d (.ref D)->(∀b,c6.P b↔c.P b\/b=L)->(∃m,s5.heap.Ns L m)->s.heap.objs.size<=L->k7 c st s (c6.O c.P) st6 s5 y5->RR (.ref D) L (.ok .next) s5):
 ∃U,mT scope env=pure U/\b9 (d7 prog X.w) A (eval iter env) (λx s1=>b9 (d7 prog X.w) A (DV x) (λit l=>b9 (d7 prog X.w) A (newList []) (λacc s3=>b9 (d7 prog X.w) A (UU scope env.globals U [] env.qual b4 .none (a0 env)) (λf s4=>BJ (d7 prog X.w) A (.compStart (.ListComp elt (⟨target,iter,ifs,0⟩::rest) scope pos) 0 it acc {f with scope:=relabel scope env}) (RR acc f.locals) s4) t9 s3) t9 l) t9 s1) t9 s:=by
 subst hs;let hmemf:∀p∈scope.names,p.2= .free->cf env p.1:=λp hp e=>by
  let this:=OQ F.nodup hp;rw[e]at this;exact F.free _ this
 obtain⟨U,hcl,hmem⟩:=qT (env:=env) (names:=scope.names) (λp hp e=>by
  exact F8 (H.cel p.1 (hmemf p hp e)) λa w0 h w0=>⟨a,h⟩) []
 refine d0 U ?_ ?_
 .unfold mT;let this:(Hx scope.names [] λ(x:n4×Az)(cs:a7 (n4×i7))=>(if x.2==.free then do let a<-PC env x.1;pure (Gl ((x.1,a)::cs))else pure (Gl cs):M8 _))>>=pure=pure U:=by rw[hcl];rfl
  exact this
 refine v6 (hS rfl H R h) (λv s1 K=>?_) λw0 w0 x=>x;refine v6 K (λu l h2=>?_) λw0 w0 x=>x;obtain⟨it,st1,M,s0,⟨n,hq⟩,R0,S0,⟨I,fp,rfl,F1,hfp,hI⟩,hpl⟩:=h2;have H0:=H.step R S0;refine Fu (gc ?_);dsimp only;refine N5 (l.heap.push {cls:=.type "list",dict:=b4,data:=.seq ([]:a7 b8).toArray}) λt hH3=>?_;have Y:t.objs.size=l.heap.objs.size+1:=by rw[<-hH3,J7]
 refine N5 (Ql (t.push {cls:=.type "dict",data:=.dict #[]}) scope.names) λH4 hH4=>?_;have hz4:t.objs.size+1<=H4.objs.size:=by rw[<-hH4];exact b6 (by rw[J7];exact l8 _) (aw _ _)
 have old4:∀b o,t.get? b=a0 o->H4.get? b=a0 o:=λb o ho=>by rw[<-hH4];exact jR _ _ _ _ (A9 _ ho)
 have F2:Fr [] l {l with heap:=H4}:=⟨λb o w0 ho=>old4 _ _ ((λb o ho=>by rw[<-hH3];exact A9 _ ho:∀b o,l.heap.get? b=a0 o->t.get? b=a0 o) _ _ ho),by exact Zw hz4 Y,rfl,rfl⟩;let ok:=cellsFrom_ok scope.names (t.push {cls:=.type "dict",data:=.dict #[]}) (t.objs.size+1) [] ⟨λw0 w0 j=>(by cases j),Ge⟩ (by rw[J7];exact l8 _);rw[J7,hH4]at ok;revert ok;refine N5 (Df (t.objs.size+1) scope.names []) λJ hown ok=>?_;refine N5 ({cM scope t.objs.size env.globals (Df (t.objs.size+1) scope.names U) env.qual env with scope:=relabel scope env}:I0) λf E=>?_;have e1:f.scope=CF scope env.scope:=by rw[<-E];rfl
 have e2:f.locals=t.objs.size:=by rw[<-E]
 have e3:f.cells=J++U:=by rw[<-E,<-(by rw[uk,hown]:Df (t.objs.size+1) scope.names U=J++U)]
 have hkd:∀k,f.kindOf k=(scope.names.lookup k).map λkd=>if(kd==.free&&env.scope.kind==.function&&env.scope.names.lookup k==a0 .cell)then .cell else kd:=λk=>by
  unfold Env.kindOf;rw[e1,uv]
 have i:∀k a,(k,a)∈J->scope.names.lookup k=a0 .cell/\t.objs.size+1<=a/\a<H4.objs.size:=λk a j=>by
  let K:=ok.empty k a j;refine m0 ?_ K.2 K.1.lt;rw[<-hown]at j;let this:=(yA _ _ _ _ _ j).resolve_right (by simp);exact OQ F.nodup this
 have w:∀k a,(k,a)∈U->scope.names.lookup k=a0 .free/\env.cells.lookup k=a0 a/\cf env k:=λk a j=>by
  let this:=((hmem k a).mp j).resolve_left (by simp);exact m0 (OQ F.nodup this.1) this.2 (hmemf _ this.1 rfl)
 have G:∀k a,f.cells.lookup k=a0 a->(k,a)∈J\/(k,a)∈U:=λk a hl=>by
  rw[e3]at hl;exact v4 (mem_of_lookup hl)
 let hcf:∀k,cf f k->scope.names.lookup k=a0 .cell\/scope.names.lookup k=a0 .free:=λk hk=>by
  unfold cf at hk;rw[hkd]at hk;exact dm hk
 have S:∀k a,(k,a)∈U->a<s0.heap.objs.size:=λk a j=>H0.lt (.inr (d0 k ((w k a j).2.2) ((w k a j).2.1)));let z:=F1.size;refine N5 (l.heap.objs.size::t.objs.size::J.map (·.2)) λN T=>?_;have O:∀b∈N,l.heap.objs.size<=b/\b<H4.objs.size:=by
  intro b g;rw[<-T]at g;rcases D2 g with rfl|g
  .exact⟨l8 _,fM hz4 Y⟩
  rcases D2 g with rfl|g
  .exact⟨Y▸N8 _,yS hz4⟩
  ext B5 g ⟨k,a⟩ j;let this:=i k a j;exact⟨m9 (q5 (Y▸N8 _) this.2.1),this.2.2⟩
 let hI4:=hI.hide F2 λb g=>(O b g).1;let HL:H4.Ns t.objs.size (λw0=>b4):=by rw[<-hH4];exact(o_ t (.type "dict")).keeps (jR _ _)
 have hDP:((M.hide fp).hide N).P l.heap.objs.size:=.inr (by rw[<-T];exact j5);have hLP:((M.hide fp).hide N).P t.objs.size:=.inr (by rw[<-T];exact k8 _ j5);rw[(show(Gs.cons p src ifX r).tgts=p++r.tgts from rfl)]at hq;generalize hρ0:ρ.clear (".0"::(p++r.tgts))=ρ0 at hq;have hclr:∀x,x=".0"\/x∈p++r.tgts->ρ0 x=b4:=λx B=>by
  rw[<-hρ0];unfold Env.clear;rw[g0];simpa using B
 let hρle:∀x d,ρ0 x=a0 d->ρ x=a0 d:=λx d B=>by
  rw[<-hρ0]at B;unfold Env.clear at B;split at B
  .cases B
  .exact B
 have H4':p7 X ((M.hide fp).hide N) st1.n H4 f ρ0:=by
  refine⟨by rw[e1];exact F.kind,(by rw[<-E]:f.globals=env.globals).trans H.g,(by rw[<-E]:f.builtins=env.builtins).trans H.b,by rw[e2];exact hLP,(d0 _ (by rw[e2];exact HL) λx d B hx0 hkk=>?_),λk hk=>?_,λx y a B hy K h2=>?_⟩
  .rw[hkd]at hkk;have:scope.names.lookup (nm x)=a0 .local:=sO hkk;rw[hclr x (F.own x (.inl this))]at B;cases B
  .rcases hcf k hk with Z|Z
   .let hsome:(J.lookup k).isSome=a8:=by rw[<-hown];exact Sy _ _ _ _ (.inl (GQ Z))
    refine d4 (Option.isSome_iff_exists.mp hsome) λa ha=>?_;let j:=mem_of_lookup ha;let g:=i k a j;refine U8 a b4 (by rw[e3,qN,ha];rfl) (.inr ?_) ?_ ((ok.empty k a j).1) λx d B hd=>?_
    .rw[<-T];exact k8 _ (k8 _ (B9 j rfl))
    .rw[e2];exact L0 g.2.1
    .subst B;rw[hclr x (F.own x (.inr Z))]at hd;cases hd
   .refine C7 (H0.cel k (F.free k Z)) λa u K h2 h3 h4 h5=>?_;have j:(k,a)∈U:=(hmem k a).mpr (.inr ⟨GQ Z,K⟩);refine d4 (tX j) λb g=>?_;have hbe:b=a:=by have:=(w k b (mem_of_lookup g)).2.1;rw[K]at this;cases this;rfl
    subst hbe;have hno:J.lookup k=b4:=by
     cases hq:J.lookup k with
     |none=>rfl
     |some a'=>let this:=(i k a' (mem_of_lookup hq)).1;rw[Z]at this;cases this
    refine U8 b u (by rw[e3,qN,hno];exact g) (.inl (.inl h2)) ?_ ?_ λx d B hd=>?_
    .rw[e2];exact m6 (j7 (S k b j) (b6 z (Y▸N8 _)))
    .ext c9 h4 o ho hd;exact d0 o (F2.keep _ _ (by simp) (F1.keep _ _ (by simp) ho)) hd
    .exact c9 (h5 x d B (hρle x d hd)) λv q1 q2=>d0 v q1 (Ot F2 (λb g=>(O b g).1) (Ot F1 (λb g=>(hfp b g).1:∀b∈fp,s0.heap.objs.size<=b) q2))
  .rcases G x a K with m1|m1<;>rcases G y a h2 with m2|m2
   .exact iT ok.apart m1 m2
   .exact(P9 (i x a m1).2.1 (j7 (S y a m2) ((Y▸b6 z (G3 _ 2)):s0.heap.objs.size<=t.objs.size+1))).elim
   .exact(P9 (i y a m2).2.1 (j7 (S x a m1) ((Y▸b6 z (G3 _ 2)):s0.heap.objs.size<=t.objs.size+1))).elim
   .exact H.apart x y a (w x a m1).2.2 (w y a m2).2.2 (w x a m1).2.1 (w y a m2).2.1
 have hlc:∀x∈p++r.tgts,BD f x:=λx B=>by
  unfold BD;rw[hkd];exact mh (F.tgt x B)
 have hEb:∀b,AQ f b->b<s0.heap.objs.size\/l.heap.objs.size<b:=by
  intro b g;rcases g with rfl|⟨k,hk,hl⟩
  .rw[e2];exact .inr (Na Y)
  .rcases G k b hl with j|j
   .let this:=(i k b j).2.1;exact .inr (fM this Y)
   .exact .inl (S k b j)
 let hDE:¬AQ f l.heap.objs.size:=λhe=>by
  rcases hEb _ he with h|h
  .let h:=h;exact(Lf h z).elim
  .exact U4 _ h
 let hfE:∀b∈fp,¬AQ f b/\b≠l.heap.objs.size:=λb g=>by
  let K:=hfp b g;refine⟨λhe=>?_,m6 K.2⟩;rcases hEb _ he with h|h
  .exact(P9 K.1 h).elim
  .exact(P9 (m9 K.2) h).elim
 let loop:BJ (d7 prog X.w) A (.compLoop (.ListComp elt (⟨target,iter,ifs,0⟩::rest) scope pos) 0 (.ref I) (.ref l.heap.objs.size) f)
  (RR (.ref l.heap.objs.size) t.objs.size) {l with heap:=H4}:=by
  refine Ka (fF (c0:=(M.hide fp).hide N) hh rfl h0 hT e1 hlc hnd hF hr hfE hDE (λx B=>hclr x (.inr B)) hDP (λb g=>Or.inl (WK g)) n
   ⟨it,st1,[],(M.hide fp).hide N,H4',((R0.hide F1 hfp).hide F2 O),(⟨#[],⟨0,(old4 _ _ (by rw[<-hH3];exact y9 _ rfl):H4.get? l.heap.objs.size=a0 (AU #[] 0))⟩,rfl,F9 _⟩:AT X ((M.hide fp).hide N) st1.n H4 l.heap.objs.size []),hI4,hk.imp hpl id,k7.refl,hq⟩) λres s5 hres=>?_
  ext k9 hres rfl rr;obtain⟨acc5,st5,c5,hq5,R5,HA5,H5,S5⟩:=rr;let hp5:∀b,(M.hide [t.objs.size]).P b->c5.P b:=λb g=>by
   rw[S5.P];rcases g with g|g
   .exact .inl (.inl g)
   .rw[o9]at g;subst g;exact hLP
  let hp51:∀b,M.P b->c5.P b:=λb g=>hp5 b (.inl g);let hnD:¬(M.hide [t.objs.size]).P l.heap.objs.size:=λq=>by
   rcases q with q|q
   .let this:=(R0.pold _ q).2;exact(P9 z this).elim
   .rw[o9]at q;exact(a6.succ_ne_self _ (Y.symm.trans (q:l.heap.objs.size=t.objs.size).symm)).elim
  obtain⟨items,⟨e,hoD⟩,hvs,hz⟩:=HA5;have hpl5:∀x∈p++r.tgts,l.heap.objs.size<=CP f x:=λx B=>by
   rcases hlc x B with hl|hl
   .rw[NV hl,e2];exact(Y▸N8 _:l.heap.objs.size<=t.objs.size)
   .refine F8 (H4'.cel (nm x) (.inl hl)) λa w0 K w0=>?_;rw[MQ hl K];have hkc:scope.names.lookup (nm x)=a0 .cell:=by
     rcases F.tgt x B with h|h
     .rw[hkd]at hl;exact(tc h hl).elim
     .exact h
    rcases G _ _ K with j|j
    .let this:=(i _ _ j).2.1;exact Zw this Y
    .have:=(w _ _ j).1;rw[hkc]at this;cases this
  let S6:=S5.uH F2 λb g=>by
   rcases g with g|rfl|⟨x,B,rfl⟩
   .exact .inl g
   .exact .inr (l8 _)
   .exact .inr (hpl5 x B)
  let S8:=S0.trans ((S6.uH F1 λb g=>.inr (hfp b g).1:k7 M st1 s0 ((c5.O (M.hide fp).P).O M.P) st5 s5 y5).adopt (x:=l.heap.objs.size) (o:=.L acc5) z);let ec:((c5.O (M.hide fp).P).O M.P).add st5.n l.heap.objs.size=((c5.O (M.hide [t.objs.size]).P).add st5.n l.heap.objs.size).O c.P:=by unfold Cx.add Cx.O;rw[S0.P]
  rw[ec]at S8;refine hfin _ _ s5 (.ref st5.n) _ _ hq5 ((R5.O hp5).adopt (x:=l.heap.objs.size) (o:=.L acc5) (b6 R0.bsz z) (λa ha q=>R5.priv a ha (q▸(by rw[S5.P];exact hDP:c5.P l.heap.objs.size)):∀a,a<st5.n->c5.κ a≠l.heap.objs.size) hnD (E8 items e hoD (Xn hp5 hvs) hz)) ⟨B8 _,by rw[Cx.p]⟩ (λb=>?_) ?_ (b6 (b6 S0.size z) (Y▸N8 _)) S8
  .refine(?_:(M.P b\/b∈[t.objs.size])↔_);rw[o9,S0.P]
  .refine c9 H5.loc λm j w0=>?_;rw[e2]at j;exact⟨m,j⟩
 exact Xr rfl loop (Kb hI4 loop)
end
def KS(e:j9):b7:=!(isK e 8||(isK e 9||isK e 10))theorem cJ(h:KS v=a8):swapsWith v t l env=pure c8:=by cases v<;>first|rfl|exact no h
def SS(prog:A5)(X:Fx)(C:Cl)(A:B7)(sc:E7)(b:S)(B:AK):Prop:=
 ∀⦃c:Cx⦄⦃st:St⦄⦃s:f8⦄⦃env:I0⦄⦃ρ:Env⦄⦃Q:QS⦄,env.scope=sc->p7 X c st.n s.heap env ρ->i8 X c st s->WS C b ρ st Q->
  b9 (d7 prog X.w) A (exec B env) (Cp X c st s env (own env) Q) t9 s
section
variable{X:Fx}{st:St}
theorem Op(H:p7 X c n h env ρ)(a:own env b):AQ env b:=by ext c9 a x d rfl;exact GC H d
theorem IL(H:p7 X c n h env ρ):∀b,own env b->c.P b:=λd a=>H.P (Op H a)theorem Cp.after(x:k7 c st s c' st' s' (own env))(p:Cp X c' st' s' env (own env) Q f s''):Cp X c st s env (own env) Q f s'':=by obtain⟨d,a,b,e,g,h,i,j,k⟩:=p;exact⟨d,a,b,e,g,h,i,j,x.trans k⟩
theorem Tv(S:k7 c st s c' st' s' (own env))(h:b9 (d7 prog X.w) A m (Cp X c' st' s' env (own env) Q) t9 s''):b9 (d7 prog X.w) A m (Cp X c st s env (own env) Q) t9 s'':=
 v6 h (λa a p=>p.after S) λa a x=>x
theorem rE(n:Q d st')(R:i8 X c' st' s')(p:V X.M c' st'.n s'.heap d v)(l:∀b,c'.P b↔c.P b\/b=L)(r:s.heap.objs.size<=L)
 (S:k7 c st s (c'.O c.P) st' s' y5)(hs:Aj L s'.heap h'):j6 X c st s F Q v {s' with heap:=h'}:=by
 let g:s'.heap.objs.size<=h'.objs.size:=by rw[hs.1];exact l8 _
 have k:∀b o,s'.heap.get? b=a0 o->¬c'.P b->h'.get? b=a0 o:=λb o a f=>hs.extBut b o (λq=>f ((l b).mpr (.inr q))) a;let m:∀b,c.P b->c'.P b:=λb a=>(l b).mpr (.inl a);exact⟨d,st',c'.O c.P,n,(R.keep (s':={s' with heap:=h'}) k g rfl rfl).O m,Iq m (BY (λb j e f t=>k b _ t f) p),((S.z λi h=>h.elim).trans (⟨l8 _,λi i=>rfl,rfl,λb o a i f=>hs.extBut b o f a,λi u w=>FB w u,g⟩:k7 (c'.O c.P) st' s' (c'.O c.P) st' {s' with heap:=h'} (·=L)):k7 c st s (c'.O c.P) st' {s' with heap:=h'} (·=L)).narrow λb a=>a▸r⟩theorem Zt(h:Jk scope sc tgts):∀x∈scope.names,x.2= .local->scope.names.lookup x.1=a0 .local:=λx a e=>by rw[OQ h.nodup a,e]
theorem Yy
 (l:A.handled=b4)(a:Jk scope sc (p++r.tgts))(n:∀o∈(⟨target,iter,ifs,0⟩::rest:a7 CI),o.is_async=0)(q:AN p target)(e:∀x∈r.tgts,x∉p)(f:AF iter=a8)(t:Dv src=a8\/2<=p.length)
 (u:BO prog X C A sc src iter)(v:SF prog X C A (CF scope sc) ifX ifs)(w:SE prog X C A (CF scope sc) r (Cu (.ListComp elt (⟨target,iter,ifs,0⟩::rest) scope pos) elt (⟨target,iter,ifs,0⟩::rest) 0)):
 SX prog X C A sc (.Q (.cons p src ifX r)) (.ListComp elt (⟨target,iter,ifs,0⟩::rest) scope pos):=by
 intro c y s M ρ Q z H R h;rw[eval_ListComp];obtain⟨O,g,B⟩:=bO (RR:=λi L=>compPost (d7 prog X.w) A t9 b4 (j6 X c y s y5 Q) i L) l a n q e t u v w z H R h λD L P d N S E F G I b J K=>by
  ext1 b m k;exact d0 m k λT j=>rE E F G I J K j
 exact lO (use:=b4) rfl (Nw f) g a.kind (Zt a) B
theorem wG(H:p7 X c n h env ρ):interactive env=c8:=by unfold interactive;rw[H.kind];rfl
theorem UO(H:p7 X c n h env ρ):env.blockKind= .function:=by unfold Env.blockKind;rw[H.kind];rfl
theorem rF(he:SX prog X C A sc e E)(hc:KS E=a8):SS prog X C A sc (.xE e) (.Expr E pos):=by
 intro c st s env ρ Q hs H R h
 conv at h=>whnf
 refine wpAny_Expr (B6 (he hs H R h) λv s1 d st1 c1 hq R1 hv S1=>?_) (wG H) (cJ hc);have fin:Q .next ρ st1->Cp X c st s env (own env) Q .next s1:=λhq=>⟨.next,ρ,st1,c1,hq,R1,rfl,H.step R S1,S1.z λw0 h=>h.elim⟩;cases d with
 |none=>obtain rfl:=hv;exact fin hq
 |bool b=>obtain rfl:=hv;exact fin hq
 |int i=>ext d4 hv t rfl;exact fin hq
 |str l=>ext d4 hv t rfl;exact fin hq
 |B ds=>exact hq.elim
 |ref a=>exact hq.elim
 |ro xs=>exact hq.elim
def DH(sc:E7)(x:j3):b7:=decide (sc.names.lookup (nm x)=a0 .local)||decide (sc.names.lookup (nm x)=a0 .cell)theorem gQ(h:DH sc x=a8):sc.names.lookup (nm x)=a0 .local\/sc.names.lookup (nm x)=a0 .cell:=(DC h).imp C6 C6
theorem LC(h:DH env.scope x=a8):BD env x:=gQ h
theorem Ik(h:BD env x):own env (CP env x):=d0 x h rfl
theorem sH(i:SX prog X C A sc e E)(j:KS E=a8)(k:DH sc x=a8):SS prog X C A sc (.k (.a x) e) (.Assign [.Name (nm x) px] E pos):=by
 intro c u s b ρ Q l H R h;subst l
 conv at h=>whnf
 refine qI (B6 (i rfl H R h) λv w d f m n o p g=>?_) (cJ j);let a:=LC k;exact(H.step R g).store o a p (F:=own b) (Ik a) λy q r t=>⟨.next,_,f,m,n,q,rfl,r,(g.z λz h=>h.elim).trans t⟩def aM(sc scope:E7)(x:n4)(px vp:X7):b7:=sc.names.lookup x==a0 .local&&px.line==vp.line&&!(scope.names.any λp=>p.1==x&&(p.2==.local||p.2==.cell))theorem dY(H:p7 X c n h env ρ):swapsWith (.ListComp elt gens scope vp) (a0 (.Name x px)) l env=pure (aM env.scope scope x px vp):=by show pure (env.blockKind==.function&&env.kindOf x==a0 .local&&px.line==vp.line&&!(scope.names.any λ(n,k)=>n==x&&(k==.local||k==.cell)))=_;rw[UO H];rfl
theorem uz
 (hh:A.handled=b4)(w:Jk scope sc (p++r.tgts))(h0:∀g'∈(⟨target,iter,ifs,0⟩::rest:a7 CI),g'.is_async=0)(hT:AN p target)(S:∀x∈r.tgts,x∉p)(T:AF iter=a8)(J:Dv src=a8\/2<=p.length)
 (hS:BO prog X C A sc src iter)(hF:SF prog X C A (CF scope sc) ifX ifs)(hr:SE prog X C A (CF scope sc) r (Cu (.ListComp elt (⟨target,iter,ifs,0⟩::rest) scope vp) elt (⟨target,iter,ifs,0⟩::rest) 0))(hx:DH sc x=a8):
 SS prog X C A sc (.k (.a x) (.Q (.cons p src ifX r))) (.Assign [.Name (nm x) px] (.ListComp elt (⟨target,iter,ifs,0⟩::rest) scope vp) pos):=by
 intro c B s f ρ Q hs H R h;let hh2:=h;replace h:W C (.Q (.cons p src ifX r)) ρ B λv B=>Q .next (ρ.set x v) B:=h;have y:BD f x:=LC (hs▸hx);cases U:aM f.scope scope (nm x) px vp with
 |false=>refine qI (B6 (Yy hh w h0 hT S T J hS hF hr hs H R h) λv s1 d st1 c1 u R1 E S1=>?_) (by rw[dY H,U]);exact(H.step R S1).store R1 y E (F:=own f) (Ik y) λs2 R2 H2 S2=>⟨.next,_,st1,c1,u,R2,rfl,H2,(S1.z λg h=>h.elim).trans S2⟩
 |true=>
  rw[exec_Assign_Name_used _ _ _ _ (by rw[dY H,U])];refine b5 (Fv (b5 ?_));obtain⟨cl,hcl,hw⟩:=bO (RR:=λacc L=>compPost (d7 prog X.w) A t9 (a0 (assign (.Name (nm x) px) f)) (λg s'=>Cp X c B s f (own f) Q .next s') acc L) hh w h0 hT S J hS hF hr hs H R h λD L s5 d t l u R6 E K V hL S6=>by
   ext d4 V m hm;have I:∀a j e,¬(l.O c.P).P a->s5.heap.get? a=a0 (x9 j e)->¬l.P a:=λa j e n ho u=>by
    rcases(K a).mp u with u|rfl
    .exact n u
    .ext FM hm o es ep h1 h2 g;rw[ho]at h1;cases h1;cases h2
   refine VG (((H.step R S6).map (λb i=>(K b).mpr (.inl i)) (λg g g h=>h) λd v E=>FV (c:=l.O c.P) I d v E).store R6 y E (F:=own f) (Ik y) λG R7 H7 O=>?_);let hLo:¬own f L:=λq=>by
    let Z:=H.lt (Op H q);exact(P9 hL Z).elim
   ext Em hm o es ep hm1 hm2;refine d0 m (Kp o es ep (O.keep _ _ hm1 (λa ha q=>R6.priv a ha (q▸(K L).mpr (.inr rfl))) hLo) hm2) λM z=>?_;let hF6:∀b,own f b->l.P b\/s5.heap.objs.size<=b:=λb i=>.inl ((K b).mpr (.inl (IL H b i)));have Y:G.heap.objs.size<=M.objs.size:=by rw[z.1];exact l8 _
   have k:∀b o,G.heap.get? b=a0 o->¬l.P b->M.get? b=a0 o:=λb o i n=>z.extBut b o (λq=>n ((K b).mpr (.inr q))) i;let hp:∀b,c.P b->l.P b:=λb i=>(K b).mpr (.inl i);have N:k7 c B s (l.O c.P) t {G with heap:=M} (λb=>own f b\/b=L):=(((S6.z λg h=>h.elim).trans ⟨O.n,λg g=>rfl,rfl,λb o i J n=>O.keep b o i J n,O.new,O.size⟩).z λg h=>.inl h).trans (⟨l8 _,λg g=>rfl,rfl,λb o i g n=>z.extBut b o (λq=>n (.inr q)) i,λg h1 h2=>FB h2 h1,Y⟩:k7 (l.O c.P) t G (l.O c.P) t {G with heap:=M} (λb=>own f b\/b=L));exact⟨.next,ρ.set x d,t,l.O c.P,u,(R7.keep (s':={G with heap:=M}) k Y rfl rfl).O hp,rfl,H.O (H7.at (λg g h=>h) (λb o he i=>z.extBut b o (λq=>(P9 hL (H.lt (q▸he))).elim) i) λd v E=>BY (λb j e n ho=>k b _ ho n) E) hp,(⟨N.n,N.aG,N.P,λb o i J n=>N.keep b o i J λq=>q.elim n λe=>(P9 (e▸hL) (C4 i)).elim,N.new,N.size⟩:k7 c B s (l.O c.P) t {G with heap:=M} (own f))⟩
  refine b5 (v6 (lO (use:=a0 (assign (.Name (nm x) px) f)) (Q:=λg s'=>Cp X c B s f (own f) Q .next s') rfl (Nw T) hcl w.kind (Zt w) hw) (λg s' u=>f6 (f6 u)) λg g e=>e)
theorem rT(f:SX prog X C A sc e E):SS prog X C A sc (.ret e) (.Return (a0 E) pos):=by
 intro c n s m ρ Q g H R h
 conv at h=>whnf
 exact wpAny_Return_some (B6 (f g H R h) λv o d a i j k l b=>⟨.ret d,ρ,a,i,j,k,(d0 v rfl l),H.step R b,b.z λp h=>h.elim⟩)theorem af:SS prog X C A sc .cont (.Continue pos):=λc a s b ρ Q d H R h=>wpAny_Continue ⟨.cont,ρ,a,c,h,R,rfl,H,k7.refl⟩theorem sC:SS prog X C A sc .dead B:=λc b s a ρ Q d H R h=>h.elim
theorem pg:Er prog X C A sc [] []:=λc a s b ρ Q d H R h=>WV ⟨.next,ρ,a,c,h,R,rfl,H,k7.refl⟩
theorem tR(hb:SS prog X C A sc b B)(hr:Er prog X C A sc bs Bs):Er prog X C A sc (b::bs) (B::Bs):=by
 intro c st s env ρ Q hs H R h
 conv at h=>whnf
 rw[execs_cons];refine b5 (UN (hb hs H R h) λf s1 fl ρ1 st1 c1 hq R1 hf H1 S1=>?_);cases fl with
 |next=>obtain rfl:=hf;exact Tv S1 (hr hs H1 R1 hq)
 |cont=>obtain rfl:=hf;exact f6 ⟨.cont,ρ1,st1,c1,hq,R1,rfl,H1,S1⟩
 |ret d=>ext c9 hf v rfl hv;exact f6 ⟨.ret d,ρ1,st1,c1,hq,R1,(d0 v rfl hv),H1,S1⟩
theorem gr(i:ST prog X C A sc t t')(j:Er prog X C A sc a A')(k:Er prog X C A sc b B'):SS prog X C A sc (.iff t a b) (.If t' A' B' pos):=by
 intro c o s m ρ Q e H R h
 conv at h=>whnf
 refine wpAny_If (NM (i e H R h) λv p n q f g d=>?_);cases v with
 |true=>refine bX rfl ?_;exact Tv (d.z λl h=>h.elim) (j e (H.step R d) g f)
 |false=>refine YG (by decide) ?_;exact Tv (d.z λl h=>h.elim) (k e (H.step R d) g f)
end
section
variable{prog:A5}{X:Fx}{C:Cl}{A:B7}{sc:E7}{c c':Cx}{st st':St}{s s' s'':f8}{env:I0}{ρ:Env}{F:i7->Prop}{fp:a7 i7}
inductive sW (st:St) (d:b0) (f:j3) (v:b0) (st':St):Prop
 |mk (cn e es) (hi:st.inst? d=a0 (cn,e)) (hc:(Ct cn).contains f=a8) (hes:st.h e= .fld es) (hb:es.length<=j8) (eq:st'=st.set e (.fld ((f,v)::es)))
theorem qn(h:setField st d f v=a0 st'):sW st d f v st':=by
 cases hi:st.inst? d with
 |none=>unfold setField at h;rw[hi]at h;cases h
 |some q=>
  unfold setField at h;rw[hi]at h;refine k9 (V0 h) λhc h=>?_;cases hes:st.h q.2 with
  |fld es=>rw[hes]at h;exact k9 (V0 h) λhb h=>⟨q.1,q.2,es,hi,hc,hes,hb,(C5 h).symm⟩
  |_=>rw[hes]at h;cases h
theorem OE{h:l5}{a:i7}{x:V6}(p:h.get? a=a0 x)(q:h.get? a=a0 y):x=y:=C5 (p.symm.trans q)
theorem tj{d:b0}{vd:b8}{f:j3}{st':St}{Q:Ay->f8->Prop}{E:qVS}(L:Laid1 X)(R:i8 X c st s)(T:V X.M c st.n s.heap d vd)(U:V X.M c st.n s.heap v vv)(h:setField st d f v=a0 st')
 (hq:∀s',CU X c st s st' s'->Q () s'):b9 (d7 prog X.w) A (setAttr vd (nm f) vv) Q E s:=by
 obtain⟨u,e,es,hi,K,i,m,rfl⟩:=qn h;refine W2 (OH (R.I T hi) ?_);rintro a rfl ha hsa j rfl W;refine C7 (TA R T hi i) λx1 mA hx1 I hm C hle=>?_;cases hx1;refine d4 (L.cls u (Zz K)) λmN M=>d4 M.at_ λN l=>?_;have D:=ClsAt.heap R l;refine GJ D λhC=>?_;let hae:c.κ a≠c.κ e:=λq=>by
  rw[<-R.inj _ _ ha j q,hsa]at i;cases i
 let Y:=R.obj e j;rw[i]at Y;ext c9 Y _ ⟨o,es',ep,h1,h2,_⟩ _;clear T;obtain⟨hp,g,dr,t,os⟩:=s;refine store_attr zk hC D.ns M.nosa (M.fld f K).1 (M.fld f K).2 (λe=>GJ l λhC0=>(P9 (e▸R.lo a ha) (C4 hC0)).elim:c.κ a≠X.cls u) I (λz tk' Z hk r hz=>?_) (ns:=es.map λe=>nm e.1) (λy O=>C y O) (by rw[f7,O3];unfold j8 at m;exact gK m rfl);refine Lv (r _ W) λo1 F g1 g2 g3 g4=>?_;have G:z.get? (c.κ a)=a0 (FJ (X.cls u) (c.κ e)):=by rw[F];clear F;obtain⟨q1,q2,q3,q4⟩:=o1;let g4':q2=a0 (c.κ e):=g4 _ rfl;have g1':q1=(FJ (X.cls u) (c.κ e)).cls:=g1;have g2':q3=(FJ (X.cls u) (c.κ e)).data:=g2;have g3':q4=(FJ (X.cls u) (c.κ e)).slots:=g3;rw[g1',g2',g3',g4']
 have k:∀b x,hp.get? b=a0 x->b≠c.κ e->z.get? b=a0 x:=λb x m hne=>by
  by_cases H:b=c.κ a
  .rw[H]at m ⊢;rw[<-OE W m];exact G
  .exact hk b x H (λo₀ dx n hdx q=>hne (q.trans (C5 (hdx.symm.trans (t0 V6.dict (OE n W)))))) m
 let P:z.Ns1 (c.κ e) (λy=>if y=nm f then a0 vv else mA y):=by
  ext BS Z o hoI w0 w0 hI;let q:=OE G hoI;rcases hI with⟨n,_⟩|⟨dx,n,_,P⟩
  .rw[<-q]at n;cases n
  .rw[<-q]at n;rw[C5 n];exact P
 have tv:∀{d:b0}{v:b8},V X.M c st.n hp d v->V X.M c st.n z d v:=λU=>BY (λb items ee w0 hx=>k b _ hx λq=>by
  rw[q]at hx;rw[OE h1 hx]at h2;cases h2) U
 refine hq _ ⟨R.put (a:=e) j (s':=⟨z,g,dr,tk',os⟩) k hz rfl rfl (CW _ P (λf' d' B=>?_) (λy O=>?_) (T9 m)),k7.put j k hz⟩
 .rw[BI]at B;by_cases p:f'=f
  .clear K h hq Z P;subst p;rw[CK]at B;cases C5 B;exact d0 vv (g0 rfl) (tv U)
  .rw[beq_false_of_ne p]at B;let S:=hm f' d' B;ext1 S w e1 e2;exact d0 w ((j4 λq=>p (EF q)).trans e1) (tv e2)
 .refine(?_:y∈nm f::es.map λe=>nm e.1);by_cases J:y=nm f
  .rw[J];exact j5
  .rw[j4 J]at O;exact k8 _ (C y O)
theorem tn(L:Laid1 X)(m:SX prog X C A sc e E)(r:SX prog X C A sc o O):SS prog X C A sc (.k (.C o f) e) (.Assign [.Attribute O (nm f) px] E pos):=by
 intro c G s D ρ Q n H R h
 conv at h=>whnf
 refine plainObj_wpAny_Assign_Attribute (B6 (m n H R h) λv I d F J a b t g=>?_) (by clear m;cases E<;>rfl);refine B6 (r n (H.step R g) b a) λu K w k x a p y i=>?_;cases j:setField k w f d with
 |none=>rw[j]at a;exact a.elim
 |some l=>rw[j]at a;exact tj L p y (i.v b t) j λM z=>k9 z λB q=>⟨.next,ρ,l,x,a,B,rfl,((H.step R g).step b i).step p q,((g.trans i).trans q).z λN h=>h.elim⟩
theorem yC(x:Be A)(q:SX prog X C A sc e E)(y:SX prog X C A sc o O)(hi:SX prog X C A sc i I):SS prog X C A sc (.k (.sub o i) e) (.Assign [.Subscript O I px] E pos):=by
 intro c S s M ρ Q k H R h
 conv at h=>whnf
 refine wpAny_Assign_Subscript (B6 (q k H R h) λv T d N U a b z f=>?_) (by clear q;cases E<;>rfl);refine B6 (y k (H.step R f) b a) λu V B P W a l D g=>B6 (hi k ((H.step R f).step b g) l a) λw Y F n G a r J j=>?_;cases m:setItem n B F d with
 |none=>rw[m]at a;exact a.elim
 |some p=>rw[m]at a;exact qV (gB x.hu rfl) r (j.v l D) J ((g.trans j).v b z) m λZ K=>k9 K λL t=>⟨.next,ρ,p,G,a,L,rfl,(((H.step R f).step b g).step l j).step r t,(((f.trans g).trans j).trans t).z λw0 h=>h.elim⟩
theorem Yc{b:Env}(h:CG ps d st ρ=a0 b):∃a,st.items? d=a0 a/\a.length=ps.length/\b=Dp ρ (ps.zip a):=by
 cases c:st.items? d with
 |none=>unfold CG at h;rw[c]at h;cases h
 |some a=>unfold CG at h;rw[c]at h;refine k9 (V0 h) λe h=>?_;cases h;exact v7 a rfl e rfl
theorem wc(u:A.handled=b4)(n:SX prog X C A sc e E)(o:AN ps (.Tuple elts k tpos))(j:∀x∈ps,DH sc x=a8)
 (p:∀a:I0,a.scope=sc->a.blockKind= .function->Qr [.Tuple elts k tpos] E a=pure b4):SS prog X C A sc (.uP ps e) (.Assign [.Tuple elts k tpos] E pos):=by
 intro c K s a ρ Q l H R h
 conv at h=>whnf
 refine Assign_Tuple (B6 (n l H R h) λv L d i w g y z q=>?_) (by clear n p;cases E<;>rfl) (p a l (UO H));cases b:CG ps d i ρ with
 |none=>rw[b]at g;exact g.elim
 |some J=>rw[b]at g;refine y3 (Yc b) ?_;rintro M B r rfl;have f:∀x∈ps,BD a x:=λx m=>LC (l▸j x m);let t:=H.step R q;exact bJ (F:=own a) (IL t) u o t y z (.inr (m0 (by clear j h r b g f;cases o;simp:2<=ps.length) B r)) f (λx j=>Ik (f x j)) λN D G I=>⟨.next,_,i,w,g,D,rfl,G,(q.z λO h=>h.elim).trans I⟩
theorem wO:Ip prog X.w A env ps (ps.map λx=>Vy env (nm x)):=by
 induction ps with
 |nil=>exact .nil
 |cons x r a=>exact .cons (λv Q E s h=>wpAny_bindName h) a
theorem qX(J:A.handled=b4)(z:SX prog X C A sc e E)(u:ps.Nodup)(g:∀x∈ps,DH sc x=a8)
 (B:∀a:I0,a.scope=sc->a.blockKind= .function->Qr [.Tuple elts k tpos] E a=pure (a0 (ps.map nm))):SS prog X C A sc (.uP ps e) (.Assign [.Tuple elts k tpos] E pos):=by
 intro c W s a ρ Q p H R h
 conv at h=>whnf
 refine Assign_Tuple_swapped (B6 (z p H R h) λv K d i L l q M D=>?_) (by clear z B;cases E<;>rfl) (B a p (UO H));cases f:CG ps d i ρ with
 |none=>rw[f]at l;exact l.elim
 |some V=>
  rw[f]at l;refine y3 (Yc f) ?_;clear f;rintro Y N r rfl;have j:∀x∈ps,BD a x:=λx w=>LC (p▸g x w);refine fC J q M N (by rw[r,f7]) λZ O m y=>?_;have t:Ext K.heap O.heap:=⟨m.size,λb o P=>m.keep b o (by simp) P⟩;let G:=(H.step R D).ext q t;let S:(ps.map nm).reverse.map (λn=>Vy a n)=ps.reverse.map λx=>Vy a (nm x):=by rw[<-mM,v9];rfl
  rw[S];refine aY (F:=own a) (IL G) wO G (q.ext t m.gens m.os) (Xx y) (by simp[r]) (λx g=>j x (List.mem_reverse.mp g)) (λx g=>Ik (j x (List.mem_reverse.mp g))) λs3 T I U=>?_;rw[ke u r.symm]at I;exact⟨.next,_,i,L,l,T,rfl,I,((D.trans (k7.ext t)).z λw0 h=>h.elim).trans U⟩
theorem gh(ht:ST prog X C A sc t t')(hb:Er prog X C A sc b B):SS prog X C A sc (.while t b) (.While t' B [] pos):=by
 intro c0 BE s0 env ρ0 Q hs H R h
 conv at h=>whnf
 ext d4 h n hn;let loop:BJ (d7 prog X.w) A (.whileLoop t' B [] env) (λr s'=>∃f,r= .ok f/\Cp X c0 BE s0 env (own env) Q f s') s0:=by
  refine codeAny_whileLoop (λn s=>∃ρ st c,p7 X c st.n s.heap env ρ/\i8 X c st s/\k7 c0 BE s0 c st s (own env)/\IZ (λρ st k=>WT C t ρ st k) (λρ st k=>G6 C b ρ st k) n ρ st Q) (λn s hI=>?_) n (BQ ρ0 BE c0 H R k7.refl hn);ext G9 hI ρ st c H R S0 hw;cases n with
  |zero=>exact hw.elim
  |succ n=>
  conv at hw=>whnf
  refine NM (ht hs H R hw) λv s1 st1 c1 hq R1 S1=>?_;have S01:=S0.trans (S1.z (F':=own env) λw0 h=>h.elim);cases v with
  |false=>exact YG (by decide) (WV ⟨.next,rfl,.next,ρ,st1,c1,hq,R1,rfl,H.step R S1,S01⟩)
  |true=>
   refine bX rfl (UN (hb hs (H.step R S1) R1 hq) λf s2 fl ρ2 st2 c2 hq R2 hf H2 S2=>?_);cases fl with
   |next=>obtain rfl:=hf;exact⟨n,B8 n,ρ2,st2,c2,H2,R2,S01.trans S2,hq⟩
   |cont=>obtain rfl:=hf;exact⟨n,B8 n,ρ2,st2,c2,H2,R2,S01.trans S2,hq⟩
   |ret d=>ext c9 hf v rfl hv;exact⟨_,rfl,.ret d,ρ2,st2,c2,hq,R2,(d0 v rfl hv),H2,S01.trans S2⟩
 refine wpAny_While (Ka loop λr s' hr=>?_);ext c9 hr f rfl hp;exact hp
theorem Lj.O{P:i7->Prop}(hp:∀b,P b->c.P b)(x:Lj X c n h fl f):Lj X (c.O P) n h fl f:=by
 cases fl with
 |next=>exact x
 |cont=>exact x
 |ret d=>ext1 x v h1 h2;exact d0 v h1 (Iq hp h2)
inductive vL (X:Fx) (env:I0) (I:i7) (fp:a7 i7) (p:a7 j3) (c0:Cx) (BE:St) (s0:f8) (F:i7->Prop) (step:b0->Env->St->QS->Prop) (Q:QS) (n:a6) (s:f8):Prop
 |mk (it ρ st c) (H:p7 X c st.n s.heap env ρ) (R:i8 X c st s) (hI:Ao X c st.n s.heap it I fp) (hk:Fn it=a8\/2<=p.length) (S0:k7 c0 BE s0 c st s F) (hw:DL step n it ρ st Q)
theorem uX(hh:A.handled=b4)(hT:AN p target)(hx:∀x∈p,DH sc x=a8)(hns:AF iter=a8)(hk:Dv src=a8\/2<=p.length)
 (hS:BO prog X C A sc src iter)(a:Er prog X C A sc b B):SS prog X C A sc (.for p src b) (.For target iter B [] pos):=by
 intro c t s e ρ0 Q hs H R h
 conv at h=>whnf
 refine wpAny_For (v6 (hS hs H R h) (λv s1 h1=>?_) λw0 w0 x=>x) (Nw hns);refine v6 h1 (λu s2 h2=>?_) λw0 w0 x=>x;obtain⟨it0,D,T,s0,⟨n,w⟩,R0,N,⟨I,i,rfl,l,m,O⟩,hpl⟩:=h2;have H0:=H.step R N;let R2:=R0.hide l m;let P:=H0.hide l λb a=>(m b a).1;have j:∀b∈i,¬AQ e b:=λb a y=>(P9 (m b a).1 (H0.lt y)).elim;have V:∀x∈p,BD e x:=λx hx'=>LC (hs▸hx x hx');let loop:BJ (d7 prog X.w) A (.forLoop target (.ref I) B [] e) (λr s'=>∃f,r= .ok f/\Cp X (T.hide i) D s2 e (λb=>b∈i\/own e b) Q f s') s2:=by
  refine codeAny_forLoop_any (vL X e I i p (T.hide i) D s2 (λb=>b∈i\/own e b) (λd ρ t k=>(match AD p d ρ with
   |none=>k6
   |some o=>G6 C b o t k)) Q) (λn s O=>?_) n ⟨it0,ρ0,D,T.hide i,P,R2,O,hk.imp hpl id,k7.refl,w⟩
  obtain⟨it,ρ,t,c,H,R,O,hk,N,z⟩:=O;have g:∀b∈i,c.P b:=λb a=>by rw[N.P];exact .inr a
  have W:∀b,b∈i->c.P b\/s.heap.objs.size<=b:=λb a=>.inl (g b a);rcases td z with⟨q,z⟩|⟨n',Y,d,E,q,z⟩
  .refine NU hh R g O q λr' s1 l hN=>?_;have U:=l.step (c:=c) (st:=t);cases hN;exact WV ⟨.next,rfl,.next,ρ,t,c,z,l.rep R g,rfl,H.sF R U W λb y a=>j b a y,N.trans (U.z (F':=λb=>b∈i\/own e b) λb a=>.inl a)⟩
  obtain⟨o,hbp,z⟩:=aI z;refine NU hh R g O q λr' s1 l hN=>?_;ext y3 hN u hr' hu hO;cases hr';let R1:=l.rep R g;have U:=l.step (c:=c) (st:=t);have G:Fn E=a8\/2<=p.length:=hk.imp (aQ q) id;refine cL g hO (YJ hT G) λs2' F2 hI2=>?_;let R2:=F2.rep R1 g;let S2:=F2.step (c:=c) (st:=t);let Z:∀b,b∈i->c.P b\/s1.heap.objs.size<=b:=λb a=>.inl (g b a);have P:=(H.sF R U W λb y a=>j b a y).sF R1 S2 Z λb y a=>j b a y;refine aA (F:=own e) (IL P) hh hT P R2 (S2.V R1 Z hu) hbp V (λx hx=>Ik (V x hx)) λs3 R3 H3 S3=>UN (a hs H3 R3 z) λf s4 fl J K c4 L R4 S H4 S4=>?_;let hI4:=(hI2.step R2 S3 (λb a=>.inl (IL P b a):∀b,own e b->c.P b\/s2'.heap.objs.size<=b) g λb a w=>j b a (Op P w)).step R3 S4 (λb a=>.inl (IL H3 b a)) g λb a w=>j b a (Op H3 w);have M:=(((N.trans (U.z (F':=λb=>b∈i\/own e b) λb a=>.inl a)).trans (S2.z (F':=λb=>b∈i\/own e b) λb a=>.inl a)).trans (S3.z (F':=λb=>b∈i\/own e b) λb a=>.inr a)).trans (S4.z (F':=λb=>b∈i\/own e b) λb a=>.inr a);cases fl with
  |next=>obtain rfl:=S;exact⟨n',Y,E,J,K,c4,H4,R4,hI4,G,M,L⟩
  |cont=>obtain rfl:=S;exact⟨n',Y,E,J,K,c4,H4,R4,hI4,G,M,L⟩
  |ret d=>ext c9 S v rfl hv;exact⟨_,rfl,.ret d,J,K,c4,L,R4,(d0 v rfl hv),H4,M⟩
 refine Ka loop λr s' hr=>?_;ext c9 hr f rfl rr;obtain⟨fl,o,st',c',w,R',S,H',S'⟩:=rr;let hp:∀b,T.P b->c'.P b:=λb a=>by rw[S'.P];exact .inl a
 exact⟨fl,o,st',c'.O T.P,w,R'.O hp,S.O hp,H0.O H' hp,(N.z λw0 h=>h.elim).trans (S'.uH l λb a=>a.elim (λh=>.inr (m b h).1) .inl)⟩
end
section
variable{X:Fx}
theorem wP(x:j3):v8 [] (q8 x)=a8:=rfl
theorem wB(h:x≠y):l3 (q8 x) (q8 y)=c8:=by exact beq_eq_false_iff_ne.mpr λe=>h (String.toList_inj.mp ((oO λa b e=>Char.toNat_inj.mp e).mp e))
theorem wr(hA:Be A)(P:x≠y)(he:SX prog X C A sc e E)(hf:SX prog X C A sc f F'):
 SX prog X C A sc (.D [x,y] (.cons e (.cons f .nil))) (.Dict [a0 (.Constant (.str (nm x)) k1 p1),a0 (.Constant (.str (nm y)) k2 p2)] [E,F'] pos):=by
 intro c F s env ρ Q W H R h;let Y:=hA.hu;refine wpAny_Dict_any rfl rfl (by simp) (by simp) ?_;let I:=FX (E3 #[] 0) s.toks;let t:=Id s.heap (E3 #[] 0);let Z:=R.hide I t;let H0:=H.hide I λb J=>(t b J).1;refine jL (Va ?_);let R1:=Z.toks (s.toks+1);refine b5 (B6 (he W (s:={s with heap:=s.heap.push (E3 #[] 0),toks:=s.toks+1}) H0 R1 h) λv j i w c2 K R2 L S2=>b5 (Fv (f6 (jL (Va ?_)))));have H2:=p7.step (s:={s with heap:=s.heap.push (E3 #[] 0),toks:=s.toks+1}) H0 R1 S2;have z:=R2.toks (j.toks+1);refine b5 (B6 (hf W (s:={j with toks:=j.toks+1}) H2 z K) λu M p g n K R3 S S3=>b5 (Fv (f6 (evalPairs_nil ?_))));have B:k7 (c.hide [s.heap.objs.size]) F {s with heap:=s.heap.push (E3 #[] 0)} n g M y5:=by exact(((k7.toks _:k7 (c.hide [s.heap.objs.size]) F {s with heap:=s.heap.push (E3 #[] 0)} (c.hide [s.heap.objs.size]) F {s with heap:=s.heap.push (E3 #[] 0),toks:=s.toks+1} y5).trans S2).trans (k7.toks _:k7 c2 w j c2 w {j with toks:=j.toks+1} y5)).trans S3
 have hp:∀b,c.P b->n.P b:=λb J=>by rw[B.P];exact .inl J
 have R4:=(R3.O hp).adopt (x:=s.heap.objs.size) (o:=.D [] 0) R.bsz (λa r q=>R3.priv a r (by let q:n.κ a=s.heap.objs.size:=q;rw[q];exact(by rw[B.P];exact .inr (j5):n.P s.heap.objs.size))) (show¬c.P s.heap.objs.size from Sw R) (J6.D (xs:=[]) (items:=#[]) (e:=0) (B.keep _ _ (y9 _ rfl) (λa r q=>Z.priv a r (by rw[q];exact WK P8)) id) rfl Ge (F9 _));let l:=Cx.p;let m:=B8 _;have up:∀{d:b0}{v:b8},V X.M n g.n M.heap d v->V X.M ((n.O c.P).add g.n s.heap.objs.size) (g.n+1) M.heap d v:=λL=>Hg (N8 _) (λa r=>Cx.o r) (λD D=>id) (Iq hp L);unfold storeAll;rw[Dj];refine b5 (b5 (QJ (gB Y rfl) R4 l m (by simp[St.A]:(g.A (.D [] 0)).h g.n= .D [] 0) (k:=q8 x) (d:=i) (Tc x _) (up (S3.v (s:={j with toks:=j.toks+1}) z L)) (wP x) (F9 _) λs5 N D=>k9 N λR5 O=>f6 ?_));let e5:(g.A (.D [] 0)).set g.n (BB [] (q8 x) i 0)=g.A (.D [(q8 x,i)] 1):=OB _ _ _;rw[e5]at R5 O;dsimp only;rw[Dj];refine b5 (b5 ?_);let T:(g.A (.D [(q8 x,i)] 1)).h g.n= .D [(q8 x,i)] 1:=by simp[St.A]
 refine QJ (gB Y rfl) R5 l m T (k:=q8 y) (d:=p) (Tc y _) (O.v R4 (up S)) (by rfl) (by simp[j8]) λs6 N D=>k9 N λR6 S6=>f6 ?_;let U:BB [(q8 x,i)] (q8 y) p 1= .D [(q8 x,i),(q8 y,p)] 2:=by
  let h1:=wB P;let hg:(t4 [(q8 x,i)] (q8 y)).isSome=c8:=by unfold t4;rw[Pk,h1];rfl
  unfold BB;rw[hg];rw[KT,h1];rfl
 let e6:(g.A (.D [(q8 x,i)] 1)).set g.n (BB [(q8 x,i)] (q8 y) p 1)=g.A (.D [(q8 x,i),(q8 y,p)] 2):=by rw[U];exact OB _ _ _
 rw[e6]at R6 S6;dsimp only;rw[HQ];refine f6 ⟨.ref g.n,_,_,K,R6,⟨m,?_⟩,(((B.uH (G:=y5) I λD h=>h.elim).adopt (l8 _)).trans O).trans S6⟩;rw[l]
theorem zI(L:Laid0 X)(w:Be A)(i:FP E=a8)(f:(apos.endLine==pos2.line)=a8)(G:O1 sc "sorted"=a8)(I:SX prog X C A sc e E):
 SX prog X C A sc (.bi .sI (.cons e .nil)) (.Call (.Name (nm "sorted") p1) [.Call (.Attribute E (nm "items") apos) [] [] pos2] [] pos1):=by
 intro c V s O ρ Q y H R h;refine HC (Kv L H R (x:="sorted") (v:=.builtin "sorted") (Ap 9 rfl) (y▸G) (Pn (FS (by rfl)) (FI (by rfl) (MD (fV i rfl (by decide) f (B6 (I y H R h) λv J d P W j n q K Y=>c9 (CY j) λM k j=>?_))))));let t:=Am j;ext1 t l j;refine M6 (n.dict q k) ?_;rintro a F Z S ha U rfl z w0;have m:∀x∈M,leaf x.1=a8:=λx k=>S9 l.2 x k;refine pE (T:="dict") (d0 _ z rfl) kK nG k_ (λb i=>by cases i;exact d0 _ z rfl) (Pn (FS (by rfl)) (FI (by rfl) (JF (zD n q k m λr a' N p u g=>JF ?_))));cases u;have B:Ext J.heap N.heap:=⟨p.size,λb o i=>p.keep b o J8 i⟩;let D:=k7.ext B;exact Ad (K.trans D) (iw (gB w.hu rfl) w.hh (n.ext B p.gens p.os) (D.v n q) k m g l.1 j)
theorem bq(a:IO E=a8)(b:SX prog X C A sc (.call f es) E):ST prog X C A sc (.call f es) E:=by
 refine UK a λc g s e ρ Q d H R h=>TG (b d H R ?_)
 conv at h=>whnf
 conv=>whnf
 exact h
theorem iv(a:IO E=a8)(b:SX prog X C A sc (.m o m es) E):ST prog X C A sc (.m o m es) E:=by
 refine UK a λc f s e ρ Q d H R h=>TG (b d H R ?_)
 conv at h=>whnf
 conv=>whnf
 exact h
end
abbrev Dw(xs:l4 a6):Prop:=xs.toList.Pairwise (·<·)
theorem Dw.lt(h:Dw xs)(b:i<j)(c:j<xs.size):xs.getD i 0<xs.getD j 0:=by
 let a:=List.pairwise_iff_getElem.mp h i j (by simp;exact b6 ‹_› (m9 ‹_›)) (by simpa using c) b;let d:i<xs.size:=by exact b6 ‹_› (m9 ‹_›)
 simpa[EM,d,c]using a
theorem py{xs:l4 a6}{j a lo:a6}:JJ xs j (a+1) lo hi=if lo<hi then(if xs.getD ((lo+hi)/2) j<j then JJ xs j a ((lo+hi)/2+1) hi else JJ xs j a lo ((lo+hi)/2))else lo:=rfl
theorem bY{α:Type}{a b:Ay->α}{c:a6->α}(h:s=s'):oR (λd=>α) s a b c=oR (λd=>α) s' a b c:=by rw[h]theorem dM{t:Aw}{H:a6->d3}(hs:t.slot p.j= .live i):JI t H h (fuel+1) p=if(H i==h)=a8 then a0 (.candidate p.j i (t.advance p))else JI t H h fuel (t.advance p):=bY hs
theorem XD{t:Aw}{H:a6->d3}(hs:t.slot p.j= .empty):JI t H h (fuel+1) p=a0 (.empty p.j p.dummy):=bY hs
theorem gN{α:Type}{a:a6->α}{b:Ay->α}(h:s=s'):nF (λc=>α) s a b=nF (λc=>α) s' a b:=by rw[h]theorem me{mask:a6}{o:l4 (j0 a6)}(hs:((p0 (CH mask i+1 - i)).find? λk=>(o.getD (i+k) (a0 0)).isNone)=a0 k):Gw mask o (fuel+1) i q=a0 (i+k):=gN hs
theorem au{mask:a6}{o:l4 (j0 a6)}(hs:((p0 (CH mask i+1 - i)).find? λk=>(o.getD (i+k) (a0 0)).isNone)=b4):Gw mask o (fuel+1) i q=Gw mask o fuel (W0 mask i q).1 (W0 mask i q).2:=gN hs
theorem mw(o:Dw xs)(j:a6):∀(a lo hi:a6),hi - lo<=a->lo<=hi->hi<=xs.size->(∀i,i<lo->xs.getD i 0<j)->(∀i,hi<=i->i<xs.size->j<=xs.getD i 0)->
 JJ xs j a lo hi<=xs.size/\(∀i,i<JJ xs j a lo hi->xs.getD i 0<j)/\∀i,JJ xs j a lo hi<=i->i<xs.size->j<=xs.getD i 0:=by
 intro s
 induction s with
 |zero=>intro lo hi e f g l m;have u:lo=hi:=AL f (Vh (Nat.le_zero.mp e));clear e f;subst u;exact m0 g l m
 |succ a p=>
  intro lo hi e f g l m;rw[py];by_cases b:lo<hi
  .rw[g0 b];have q:(lo+hi)/2<hi:=a6.div_lt_of_lt_mul (by rw[a6.two_mul];exact nP b _);have n:lo<=(lo+hi)/2:=tG q;have k:(lo+hi)/2<xs.size:=j7 q g;have r:xs.getD ((lo+hi)/2) j=xs.getD ((lo+hi)/2) 0:=by simp[EM,k]
   by_cases c:xs.getD ((lo+hi)/2) j<j
   .rw[g0 c];rw[r]at c;refine p _ hi (sr e) ‹_› g (λi d=>?_) m;rcases Ci i ((lo+hi)/2)with h|h
    .exact AJ (o.lt h k) c
    .have u:i=(lo+hi)/2:=AL (v0 d) h;rw[u];exact c
   .rw[j4 c];rw[r]at c;refine p lo _ (mc e) n (m9 ‹_›) l λi d t=>?_;rcases Ci ((lo+hi)/2) i with h|h
    .have u:=o.lt h t;exact m9 (q5 (Nat.not_lt.mp c) u)
    .have u:i=(lo+hi)/2:=AL h d;rw[u];exact Bm ‹_›
  .rw[j4 b];have u:lo=hi:=AL f (Nat.not_lt.mp b);clear e f b;subst u;exact m0 g l m
theorem IB(a:Dw xs)(j:a6):By xs j<=xs.size/\(∀i,i<By xs j->xs.getD i 0<j)/\∀i,By xs j<=i->i<xs.size->j<=xs.getD i 0:=
 mw a j xs.size 0 xs.size (l8 _) (F9 _) (l8 _) (λi h=>by exact(X1 _ ‹_›).elim) λi b c=>FB c b
theorem aR{xs:l4 a6}(h:xs[i]?=a0 v):i<xs.size/\xs.getD i 0=v:=by let a:=UM h;ext1 a c b;exact⟨c,by simp[EM,c,b]⟩
theorem KV{xs:l4 a6}(c:Dw xs){i:a6}(h:xs[i]?=a0 j):By xs j=i:=by
 let b:=aR h;ext1 b e d;refine u0 (IB c j) λm f g=>?_;rcases LQ (By xs j) i with h|h|h
 .let k:=g _ (l8 _) (b6 ‹_› (m9 ‹_›));let l:=c.lt h e;exact(U4 _ (j7 l (d▸k))).elim
 .exact h
 .let a:=f i h;exact dE a d
theorem oh{xs:l4 a6}(b:Dw xs){i:a6}(h:xs[i]?=a0 j):By xs (j+1)=i+1:=by
 let a:=aR h;ext1 a d c;refine u0 (IB b (j+1)) λe f g=>?_;rcases LQ (By xs (j+1)) (i+1)with h|h|h
 .have m:=g i (v0 ‹_›) d;exact we m c
 .exact h
 .let k:=f (i+1) h;let l:=b.lt (show i<i+1 by exact l8 _) (j7 h e);exact uD k l c
theorem qu(c:Dw xs):By xs 0=0:=by
 let a:=IB c 0;ext1 a e d f;cases h:By xs 0 with
 |zero=>rfl
 |succ n=>let b:=d 0 (h▸M7 _);exact(X1 _ ‹_›).elim
theorem uF(m:Dw xs)(r:j∉xs.toList):Dw (U1 xs (By xs j) j):=by
 refine u0 (IB m j) λv s t=>?_;unfold Dw;rw[Hw];have c:∀i h,xs.toList[i]=xs.getD i 0:=λi h=>by
  let u:i<xs.size:=by simpa using h
  simp[EM,u]
 let o:∀x∈xs.toList.take (By xs j),x<j:=by intro x d;refine d4 (N2 d) λi g=>d4 g ?_;clear g;clear d;rintro f rfl;rw[JU,c];rw[O9]at f;exact s i (Hh f)
 have p:∀x∈xs.toList.drop (By xs j),j<x:=by intro x d;let k:x≠j:=λe=>r (e▸iU d);refine d4 (N2 d) λi g=>d4 g ?_;clear g;clear d;rintro f rfl;rw[MA]at f;let l:=t (By xs j+i) (G3 _ _) (by simp at f;exact Al _ _▸JO f);rw[a7.getElem_drop,c]at k ⊢;exact DX l k.symm
 rw[Qs];refine m0 (m.sublist (a7.take_sublist _ _)) (OD ⟨p,m.sublist (a7.drop_sublist _ _)⟩) λa q b n=>?_;rcases D2 n with rfl|n
 .exact o a q
 .exact AJ (o a q) (p b n)
structure TI (t:Aw) (n:a6):Prop where
 rise:Dw t.place
 size:t.place.size=n
 dum:t.dummies=#[]
 fill:n<=t.mask
theorem TI.fits(h:TI t n):t.fits n=a8:=by unfold B_ mL;rw[h.dum,h.size];simp[h.fill]theorem gW(j:a6):jA #[] j=c8:=by simp[jA]
theorem Zm(h:TI t n)(j:a6):(∃i,t.place[i]?=a0 j/\t.slot j= .live i)\/(j∉t.place.toList/\t.slot j= .empty):=by
 by_cases b:j∈t.place.toList
 .refine d4 (N2 b) λi c=>?_;ext1 c hi e;have a:t.place[i]?=a0 j:=by rw[l4.getElem?_eq_some_iff];exact⟨(by simpa using hi:i<t.place.size),by simpa using e⟩
  refine .inl (d0 i a ?_);unfold iM;simp only[KV h.rise a,a,CK,DY]
 .refine .inr ⟨b,?_⟩;unfold iM;let d:(t.place[By t.place j]?==a0 j)=c8:=by rw[Ga];intro e;exact b (Array.mem_toList_iff.mpr (Ma e))
  simp only[d,Bx,Bu,h.dum,gW]theorem SQ(h:TI t n)(a:j∈t.place.toList):∃i,t.place[i]?=a0 j/\t.slot j= .live i:=(Zm h j).resolve_right λx=>x.1 a
theorem YA(h:TI t n)(a:j∉t.place.toList):t.slot j= .empty:=by
 rcases Zm h j with⟨i,b,_⟩|c
 .exact(a (Array.mem_toList_iff.mpr (Ma b))).elim
 .exact c.2
theorem ln(h:TI t n)(a:j∉t.place.toList)(b:n+1<=t.mask):TI (t.put j).1 (n+1)/\(t.put j).1.led=t.led/\(t.put j).1.plain=t.plain/\(t.put j).1.mask=t.mask/\
 (t.put j).1.place=U1 t.place (t.put j).2 j/\(t.put j).2<=n/\(t.put j).1.moves=t.moves/\(t.put j).1.finger=t.finger:=by
 unfold x_;dsimp only;rw[h.dum,gW];refine⟨⟨uF h.rise a,?_,rfl,b⟩,rfl,rfl,rfl,rfl,?_,rfl,rfl⟩
 .refine(?_:(U1 t.place _ j).size=_);rw[<-A0,Hw,u7,N9,O9,MA,A0,h.size];have c:=(IB h.rise j).1;rw[h.size]at c;exact cC
 .have c:=(IB h.rise j).1;rw[h.size]at c;exact c
def Co(mask:a6)(p:DQ):DQ:=
 if p.more>0 then{p with j:=p.j+1,more:=p.more - 1}else
 {p with j:=(W0 mask p.i p.perturb).1,more:=CH mask (W0 mask p.i p.perturb).1 - (W0 mask p.i p.perturb).1,i:=(W0 mask p.i p.perturb).1,perturb:=(W0 mask p.i p.perturb).2}theorem XH(t:Aw)(p:DQ):t.advance p=Co t.mask p:=rfl
def J5(mask:a6)(p:DQ):a6->DQ
 |0=>p
 |k+1=>Co mask (J5 mask p k)
theorem IF(mask:a6)(p:DQ)(a:a6):∀b,J5 mask p (a+b)=J5 mask (J5 mask p a) b
 |0=>rfl
 |b+1=>by
  refine(?_:Co mask (J5 mask p (a+b))=Co mask (J5 mask (J5 mask p a) b));rw[IF mask p a b]def sp(mask i q:a6)(d:j0 a6):DQ:={j:=i,more:=CH mask i - i,i,perturb:=q,dummy:=d}theorem Jj(mask i:a6):CH mask i - i<=9/\i<=CH mask i/\(i<=mask->CH mask i<=mask):=by unfold CH;split<;>(first|exact⟨A1 (a6.add_sub_cancel_left ..),G3 _ _,λ_=>‹_›⟩|exact wf)
theorem ZU(mask:a6):∀(k:a6)(p:DQ),k<=p.more->J5 mask p k={p with j:=p.j+k,more:=p.more - k}:=by
 intro a
 induction a with
 |zero=>intro p c;exact rfl
 |succ k b=>
  intro p h;refine(?_:Co mask (J5 mask p k)=_);rw[b p (m9 ‹_›)];refine G5 (Jt h) ?_;try with_reducible rfl
  congr 1
theorem Rc(mask:a6)(p:DQ):J5 mask p (p.more+1)=sp mask (W0 mask p.i p.perturb).1 (W0 mask p.i p.perturb).2 p.dummy:=by
 refine(?_:Co mask (J5 mask p p.more)=_);rw[ZU mask p.more p (l8 _)];refine Ey vP ?_;try with_reducible rfl
 rfl
def lp(mask:a6):a6->a6×a6->a6×a6
 |0,x=>x
 |n+1,x=>W0 mask (lp mask n x).1 (lp mask n x).2
theorem im(mask:a6):∀(n:a6)(x:a6×a6),lp mask (n+1) x=lp mask n (W0 mask x.1 x.2):=by
 intro a
 induction a with
 |zero=>intro c;exact rfl
 |succ n b=>intro x;refine(?_:W0 mask (lp mask (n+1) x).1 (lp mask (n+1) x).2=W0 mask _ _);rw[b x]
theorem eH(mask a:a6)(x:a6×a6):∀b,lp mask (a+b) x=lp mask b (lp mask a x)
 |0=>rfl
 |b+1=>by
  refine(?_:W0 mask (lp mask (a+b) x).1 (lp mask (a+b) x).2=W0 mask _ _);rw[eH mask a x b]
theorem vR(mask:a6)(d:j0 a6):∀(n i q:a6),∃k,k<=10*n/\J5 mask (sp mask i q d) k=sp mask (lp mask n (i,q)).1 (lp mask n (i,q)).2 d:=by
 intro a
 induction a with
 |zero=>intro i q;exact d0 0 (l8 _) rfl
 |succ n b=>
  intro i q;refine c9 (b i q) λk c e=>d0 (k+((sp mask (lp mask n (i,q)).1 (lp mask n (i,q)).2 d).more+1)) ?_ ?_
  .have f:=(Jj mask (lp mask n (i,q)).1).1;exact(U0 c (T9 f):k+(CH mask (lp mask n (i,q)).1 - (lp mask n (i,q)).1+1)<=_)
  .rw[IF,e,Rc];rfl
theorem XJ(mask:a6):∀(n:a6)(x:a6×a6),(lp mask n x).2=x.2/32 ^ n
 |0,x=>(a6.div_one _).symm
 |n+1,x=>by
  refine(?_:(lp mask n x).2/32=_);rw[XJ mask n x,a6.div_div_eq_div_mul,kJ]
def CV(M:a6):a6->a6->a6
 |0,i=>i
 |n+1,i=>(CV M n i*5+1) % M
theorem qb(mask:a6):∀(n i:a6),lp mask n (i,0)=(CV (mask+1) n i,0):=by
 intro a
 induction a with
 |zero=>intro i;exact rfl
 |succ n b=>intro i;refine(?_:W0 mask (lp mask n (i,0)).1 (lp mask n (i,0)).2=_);rw[b i];simp[W0];rfl
theorem Od(M a i:a6):∀b,CV M (a+b) i=CV M b (CV M a i)
 |0=>rfl
 |b+1=>by
  refine(?_:(CV M (a+b) i*5+1) % M=(CV M b (CV M a i)*5+1) % M);rw[Od M a i b]def Ei(m:a6):Prop:=m=7\/m=31\/m=127
def KC(M:a6):b7:=CV M M 0==0&&(p0 M).all λe=>(p0 M).any λn=>CV M n 0==e
theorem lh:KC 8=a8:=by decide+kernel
theorem ug:KC 32=a8:=by decide+kernel
theorem zM:KC 128=a8:=by decide+kernel
theorem oi(o:Ei mask)(hi:i<=mask)(j:e<=mask):∃n,n<=mask/\CV (mask+1) n i=e:=by
 let c:KC (mask+1)=a8:=by
  clear hi j;rcases o with rfl|rfl|rfl
  .exact lh
  .exact ug
  .exact zM
 unfold KC at c;rw[C2,Ai]at c;ext k9 c p f;have d:∀x,x<=mask->∃n,n<mask+1/\CV (mask+1) n 0=x:=λx r=>by
  have s:=S9 f x (CC (BK ‹_›));let g:=List.any_eq_true.mp s;ext1 g n k e;exact d0 n (U7 k) (by simpa using e)
 refine c9 (d i hi) λa q l=>c9 (d e j) λb c m=>?_;rcases Ci b a with h|h
 .refine d0 (mask+1 - a+b) (yP c h) ?_;rw[<-l,<-Od,show a+(mask+1 - a+b)=mask+1+b by exact rM q,Od,p,m]
 .refine d0 (b - a) (b6 (My _ _) (v0 c)) ?_;rw[<-l,<-Od,show a+(b - a)=b by exact DR h,m]theorem NP(mask i q:a6):(W0 mask i q).1<=mask:=by let a:=LX (i*5+1+q/32) (M7 mask);exact v0 a
theorem et(mask:a6):∀(n:a6)(x:a6×a6),x.1<=mask->(lp mask n x).1<=mask:=by
 intro a
 induction a with
 |zero=>intro _ h;exact h
 |succ n b=>intro x _;exact NP mask _ _
theorem Yq(g:Ei mask)(hi:i<=mask)(h:q<2 ^ 64)(j:e<=mask):∃n,n<=mask+13/\(lp mask n (i,q)).1=e:=by
 let c:lp mask 13 (i,q)=((lp mask 13 (i,q)).1,0):=by let a:=XJ mask 13 (i,q);rw[(a6.div_eq_of_lt (j7 h (by decide)))]at a;exact EP rfl a
 let b:=oi g (et mask 13 (i,q) hi) j;ext1 b n d f;refine d0 (13+n) (b6 (G1 d 13) (A1 (Al 13 _))) ?_;rw[eH,c,qb];exact f
theorem wE(g:Ei mask)(a:p.more<=9)(h:p.perturb<2 ^ 64)(i:e<=mask):∃k,k<10*DP mask/\(J5 mask p k).j=e:=by
 let c:(W0 mask p.i p.perturb).2<2 ^ 64:=by exact q5 (oP _ _) h
 refine c9 (Yq g (NP mask p.i p.perturb) c i) λn l m=>?_;let b:=vR mask p.dummy n (W0 mask p.i p.perturb).1 (W0 mask p.i p.perturb).2;ext1 b k d f;refine d0 (p.more+1+k) (by unfold DP;exact sZ d l a) ?_;rw[IF,Rc,f];exact m
theorem bE(h:d3):Ag h<2 ^ 64:=by unfold Ag;let a:=d3.emod_nonneg h (show(2 ^ 64:d3)≠0 by decide);let b:=d3.emod_lt_of_pos h (show(0:d3)<2 ^ 64 by decide);exact(Pi a).mpr b
theorem QL(mask:a6)(h:d3):∀k,(J5 mask (sp mask (Ag h % (mask+1)) (Ag h) b4) k).more<=9/\(J5 mask (sp mask (Ag h % (mask+1)) (Ag h) b4) k).perturb<2 ^ 64/\(J5 mask (sp mask (Ag h % (mask+1)) (Ag h) b4) k).dummy=b4:=by
 intro d
 induction d with
 |zero=>exact m0 ((Jj mask _).1) (bE h) rfl
 |succ k e=>
  refine u0 e λa b c=>(?_:(Co mask _).more<=9/\(Co mask _).perturb<2 ^ 64/\(Co mask _).dummy=b4);unfold Co;split
  .exact m0 (by dsimp only;exact b6 (My _ _) a) b c
  .refine m0 ((Jj mask _).1) ?_ c;exact q5 (oP _ 32) b
theorem V2{α:Type}[Ec α]:∀{l m:a7 α},l.Nodup->(∀x∈l,x∈m)->l.length<=m.length:=by
 intro i
 induction i with
 |nil=>intro d d d;exact F9 _
 |cons x l b=>
  intro m c h;rw[Ax]at c;let f:=h x j5;let b:=b (m:=m.erase x) c.2 λy g=>by
   exact(pA (λe=>c.1 (e▸g):y≠x)).mpr (h y (k8 _ g))
  rw[lL f]at b;let a:=Vt f;rw[N9];exact b6 (T9 b) (A1 (HR a))def Ab(mask:a6)(h:d3):DQ:=sp mask (Ag h % (mask+1)) (Ag h) b4
def pj(mask:a6)(h:d3)(k:a6):a6:=(J5 mask (Ab mask h) k).j
def Reach(mask:a6)(occ:a6->Prop)(h:d3)(j:a6):Prop:=∃k,pj mask h k=j/\∀m,m<k->occ (pj mask h m)theorem Reach.mono(b:∀x,occ x->occ' x)(r:Reach mask occ h j):Reach mask occ' h j:=by ext c9 r k e a;exact d0 k e λm h=>b _ (a m h)
theorem zV:∀k,pj mask h k<=mask:=by
 let b:∀k,(J5 mask (Ab mask h) k).j+(J5 mask (Ab mask h) k).more<=mask:=by
  intro k
  induction k with
  |zero=>let a:=Jj mask (Ag h % (mask+1));exact b6 (A1 (DR a.2.1)) (a.2.2 (v0 (LX _ (M7 _))))
  |succ k c=>
   refine(?_:(Co mask _).j+(Co mask _).more<=mask);generalize J5 mask (Ab mask h) k=p at c;unfold Co;split
   .dsimp only;exact wW c ‹_›
   .dsimp only;let a:=Jj mask (W0 mask p.i p.perturb).1;exact b6 (A1 (DR a.2.1)) (a.2.2 (NP mask p.i p.perturb))
 exact λk=>by let a:=b k;exact b6 (G3 _ _) a
structure TT (t:Aw) (es:l4 (d3×b8)):Prop where
 ti:TI t es.size
 mask:Ei t.mask
 room:es.size*5<t.mask*3
 le:∀j,j∈t.place.toList->j<=t.mask
 reach:∀(i:a6)(e:d3×b8)(j:a6),es[i]?=a0 e->t.place[i]?=a0 j->Reach t.mask (·∈t.place.toList) e.1 j
theorem ci{mask:a6}{xs:a7 a6}(d:xs.length<=mask):∃e,e<=mask/\e∉xs:=by
 apply CM;intro f;let b:∀x∈p0 (mask+1),x∈xs:=λx g=>by
  apply CM;intro c;exact f (d0 x (v0 (U7 g)) c)
 let a:=V2 Wc b;rw[Br]at a;exact(oX _ (b6 a d)).elim
theorem TT.ends{t:Aw}{es:l4 (d3×b8)}(T:TT t es)(h:d3)(k:a6):∃d,d<10*DP t.mask/\pj t.mask h (k+d)∉t.place.toList:=by refine c9 (ci (mask:=t.mask) (xs:=t.place.toList) (by rw[A0,T.ti.size];exact T.ti.fill)) λe f g=>?_;let a:=QL t.mask h k;ext1 a i j l;let a:=wE T.mask i j f;ext1 a d b c;refine d0 d b ?_;unfold pj Ab;rw[IF];rw[c];exact g
inductive Kz (t:Aw) (es:l4 (d3×b8)) (h:d3) (k:a6):j0 zw->Prop
 |empty (K:a6) (hk:k<=K) (hj:pj t.mask h K∉t.place.toList) (hb:∀m,k<=m->m<K->∃(i:a6)(e:d3×b8),t.place[i]?=a0 (pj t.mask h m)/\es[i]?=a0 e/\e.1≠h):Kz t es h k (a0 (.empty (pj t.mask h K) b4))
 |cand (K i:a6) (e:d3×b8) (hk:k<=K) (hj:t.place[i]?=a0 (pj t.mask h K)) (he:es[i]?=a0 e) (hh:e.1=h) (hb:∀m,k<=m->m<K->∃(i:a6)(e:d3×b8),t.place[i]?=a0 (pj t.mask h m)/\es[i]?=a0 e/\e.1≠h):
  Kz t es h k (a0 (.candidate (pj t.mask h K) i (J5 t.mask (Ab t.mask h) (K+1))))
theorem oe{t:Aw}{es:l4 (d3×b8)}(T:TT t es){Qm:a6->d3}(hH:∀(i:a6)(e:d3×b8),es[i]?=a0 e->Qm i=e.1)(h:d3):∀(fuel k:a6),(∃d,d<fuel/\pj t.mask h (k+d)∉t.place.toList)->
 Kz t es h k (JI t Qm h fuel (J5 t.mask (Ab t.mask h) k)):=by
 intro z7
 induction z7 with
 |zero=>intro k z91;ext c9 z91 d hd w0;exact(X1 _ hd).elim
 |succ fuel IH=>
  intro k z91;ext c9 z91 d hd hx;by_cases hm:pj t.mask h k∈t.place.toList
  .refine c9 (SQ T.ti hm) λi hi hs=>?_;have hs':t.slot (J5 t.mask (Ab t.mask h) k).j= .live i:=hs;rw[dM hs'];have hil:i<es.size:=by refine d4 (UM hi) λh1 w0=>?_;rw[T.ti.size]at h1;exact h1
   have he:es[i]?=a0 es[i]:=DO hil;rw[hH i _ he,XH];by_cases hq:es[i].1=h
   .rw[g0 (by simpa using hq)];exact .cand k i es[i] (l8 _) hi he hq λm h1 h2=>by exact(Lf h2 h1).elim
   .rw[j4 (by simpa using hq)];have hd0:d≠0:=by clear hd;rintro rfl;exact hx hm
    have ih:=IH (k+1) (d0 (d - 1) (Xg hd hd0) (by rw[show k+1+(d - 1)=k+d by exact eJ hd0];exact hx));have hstep:∀m,k<=m->m<k+1->∃(i:a6)(e:d3×b8),t.place[i]?=a0 (pj t.mask h m)/\es[i]?=a0 e/\e.1≠h:=λm h1 h2=>by
     have a:m=k:=AL (v0 h2) h1;clear hx hm hs hs' ih h1 h2;subst a;exact E8 i _ hi he hq
    revert ih;refine gen (JI t Qm h fuel (J5 t.mask (Ab t.mask h) (k+1))) λr ih=>?_;cases ih with
    |empty K hk hj hb=>exact .empty K (m9 ‹_›) hj λm h1 h2=>if hm:m<k+1 then hstep m h1 hm else hb m (Bm ‹_›) h2
    |cand K i e hk hj he hh hb=>exact .cand K i e (m9 ‹_›) hj he hh λm h1 h2=>if hm:m<k+1 then hstep m h1 hm else hb m (Bm ‹_›) h2
  .have hs':t.slot (J5 t.mask (Ab t.mask h) k).j= .empty:=YA T.ti hm;rw[XD hs'];have hdum:(J5 t.mask (Ab t.mask h) k).dummy=b4:=(QL t.mask h k).2.2;rw[hdum];exact .empty k (l8 _) hm λm h1 h2=>(Lf h2 h1).elim
theorem gb(T:TT t es){a:a6->d3}(b:∀(i:a6)(e:d3×b8),es[i]?=a0 e->a i=e.1)(h:d3)(k:a6):Kz t es h k (t.probe a h (J5 t.mask (Ab t.mask h) k)):=
 oe T b h _ k (T.ends h k)
theorem XK{α:Type}(xs:l4 α)(p:a6)(x:α)(d:p<=xs.size)(i:a6):(U1 xs p x)[i]?=if i<p then xs[i]? else if i=p then a0 x else xs[i - 1]?:=by
 rw[(W6).symm,Hw];rw[Vz];rw[(by rw[O9,A0];exact EJ d:(xs.toList.take p).length=p)];split
 .rw[qR ‹_›,W6]
 .split
  .rename_i b c;clear d b;subst c;simp
  .rename_i b c;let a:=cz b c;rw[a,oJ,lQ,W6];congr 1;exact jr a
theorem qz{α:Type}(xs:l4 α)(p:a6)(x:α)(a:p<=xs.size):(U1 xs p x).size=xs.size+1:=by rw[<-A0,Hw,u7,N9,O9,MA,A0];exact cC
theorem jm(h:y∈xs.toList):y∈(U1 xs p x).toList:=by
 rw[Hw,Gd,K5];rw[<-VK p xs.toList,Gd]at h;rcases h with h|h
 .exact .inl h
 .exact .inr (.inr h)
theorem po{t:Aw}{es:l4 (d3×b8)}(T:TT t es){h:d3}{x:b8}{K:a6}(o:pj t.mask h K∉t.place.toList)(p:∀m,m<K->pj t.mask h m∈t.place.toList):
 (t.put (pj t.mask h K)).2<=es.size/\TI (t.put (pj t.mask h K)).1 (es.size+1)/\(t.put (pj t.mask h K)).1.led=t.led/\(t.put (pj t.mask h K)).1.mask=t.mask/\(∀j,j∈(t.put (pj t.mask h K)).1.place.toList->j<=t.mask)/\
  ∀(i:a6)(e:d3×b8)(j:a6),(U1 es (t.put (pj t.mask h K)).2 (h,x))[i]?=a0 e->(t.put (pj t.mask h K)).1.place[i]?=a0 j->Reach t.mask (·∈(t.put (pj t.mask h K)).1.place.toList) e.1 j:=by
 let q:es.size+1<=t.mask:=by let d:=T.room;exact JY (j7 d (Y4 _ (by decide)))
 refine dt (ln T.ti o q) λr s z u f g v v=>⟨g,r,s,u,λj b=>?_,λi e j c a=>?_⟩
 .rw[f,Hw,Gd,K5]at b;rcases b with b|rfl|b
  .exact T.le j (LV b)
  .exact zV _
  .exact T.le j (iU b)
 .have k:∀y,y∈t.place.toList->y∈(t.put (pj t.mask h K)).1.place.toList:=λy w=>by rw[f];exact jm w
  rw[XK _ _ _ g]at c;rw[f,XK _ _ _ (by rw[T.ti.size];exact g:(t.put (pj t.mask h K)).2<=t.place.size)]at a;split at c
  .rename_i l;rw[g0 l]at a;exact(T.reach i e j c a).mono k
  .rename_i l;rw[j4 l]at a;split at c
   .rename_i n;rw[g0 n]at a;cases c;cases a;exact d0 K rfl λm b=>k _ (p m b)
   .rename_i n;rw[j4 n]at a;exact(T.reach _ e j c a).mono k
abbrev ID:=l4 (j0 a6)def Dx(o:ID)(j:a6):Prop:=∃k,o[j]?=a0 (a0 k)
theorem ZS:(∃k,k<n/\(p0 n).find? f=a0 k/\f k=a8/\∀m,m<k->f m=c8)\/((p0 n).find? f=b4/\∀m,m<n->f m=c8):=by
 cases h:(p0 n).find? f with
 |none=>refine .inr ⟨rfl,λm d=>?_⟩;let a:=List.find?_eq_none.mp h m (CC d);simpa using a
 |some k=>
  refine .inl (CW k (U7 (MI h)) rfl (VS h) λm d=>?_);let g:=List.find?_eq_some_iff_append.mp h;ext1 g p o;ext F8 o i q e j;let r:=U7 (MI h);let c:i.length=k:=by
   let b:(p0 n)[i.length]?=a0 k:=by rw[e];simp
   rw[JB]at b
   .simpa using b
   .let a:=t0 CL e;simp at a;exact a▸Qw (M7 _)
  let l:m∈i:=by let b:(p0 n)[m]?=a0 m:=JB (b6 ‹_› (m9 ‹_›));rw[e,Mh (Cv d c)]at b;exact p8 b
  let a:=j m l;simpa using a
theorem vc(E:o.size=mask+1):∀(c n i q a:a6),i<=mask->J5 mask (Ab mask h) a=sp mask i q b4->(∀m,m<a->Dx o (pj mask h m))->n<c->¬Dx o (lp mask n (i,q)).1->
 ∃j K,Gw mask o c i q=a0 j/\pj mask h K=j/\o[j]?=a0 b4/\∀m,m<K->Dx o (pj mask h m):=by
 intro F
 induction F with
 |zero=>intro n v v v v v v A v;exact(X1 _ A).elim
 |succ c G=>
  intro n i q a H B C A s;have t:=Jj mask i;have u:=t.2.2 H;have d:∀k,k<=CH mask i - i->pj mask h (a+k)=i+k:=λk b=>by
   unfold pj;rw[IF,B,ZU mask k (sp mask i q b4) b];rfl
  have g:∀k,i+k<=mask->((o.getD (i+k) (a0 0)).isNone=a8↔o[i+k]?=a0 b4)/\((o.getD (i+k) (a0 0)).isNone=c8↔Dx o (i+k)):=λk b=>by
   have D:i+k<o.size:=E▸BK b;rw[(by simp[EM,D]:o.getD (i+k) (a0 0)=o[i+k])];unfold Dx;rw[(DO D)];cases o[i+k]<;>simp
  rcases ZS (f:=λk=>(o.getD (i+k) (a0 0)).isNone) (n:=CH mask i+1 - i)with⟨k,b,x,I,y⟩|⟨x,w⟩
  .rw[me x];refine⟨i+k,a+k,rfl,d k (WH (v0 (JO b))),(g k (b6 (Al _ _▸v0 (JO b)) u)).1.mp I,λm p=>?_⟩;rcases Ci m a with r|r
   .exact C m r
   .have e:m=a+(m - a):=(DR r).symm;rw[e,d (m - a) (tW b p)];exact(g (m - a) (qt b u p)).2.mp (y (m - a) (a6.lt_of_add_lt_add_left (q5 (A1 e.symm) p)))
  .rw[au x];have l:∀k,k<=CH mask i - i->Dx o (i+k):=λk b=>(g k (jk t u b)).2.mp (w k (iq t b));cases n with
   |zero=>exact(s (l 0 (F9 _))).elim
   |succ n=>
    have z:J5 mask (Ab mask h) (a+((sp mask i q b4).more+1))=sp mask (W0 mask i q).1 (W0 mask i q).2 b4:=by rw[IF,B,Rc];rfl
    refine G n _ _ _ (NP mask i q) z (λm p=>?_) (v0 ‹_›) (by rw[im]at s;exact s);rw[(rfl:(sp mask i q b4).more=CH mask i - i)]at p;rcases Ci m a with r|r
    .exact C m r
    .have e:m=a+(m - a):=(DR r).symm;rw[e,d (m - a) (HS (Al _ _▸v0 p))];exact l (m - a) (HS (Al _ _▸v0 p))
structure FY (mask:a6) (hs:a7 d3) (o:ID) (l:a6):Prop where
 size:o.size=mask+1
 has:∀(k:a6),k<l->∃(j:a6)(h:d3),hs[k]?=a0 h/\o[j]?=a0 (a0 k)/\Reach mask (Dx o) h j
 lt:∀(j k:a6),o[j]?=a0 (a0 k)->k<l
 inj:∀(j j' k:a6),o[j]?=a0 (a0 k)->o[j']?=a0 (a0 k)->j=j'
theorem FY.free(I:FY mask hs o l)(t:l<=mask):∃e,e<=mask/\¬Dx o e:=by
 apply CM;intro u;let c:∀j,j<=mask->Dx o j:=λj g=>by
  apply CM;intro h;exact u (d0 j g h)
 let s:∀j∈p0 (mask+1),∃k,o[j]?=a0 (a0 k):=λj g=>c j (v0 (U7 g))
 let f:_:=(λj=>((o[j]?).getD b4).getD 0:a6->a6)
 have i:∀j,j<=mask->o[j]?=a0 (a0 (f j)):=λj g=>by
  let n:=c j g;ext1 n k e;refine(?_:o[j]?=a0 (a0 (((o[j]?).getD b4).getD 0)));rw[e];rfl
 let v:((p0 (mask+1)).map f).Nodup:=by rw[Bw,Y6];refine Gb ?_ (BN Wc);intro a b w y p e;let q:=i a (v0 (U7 w));rw[e]at q;exact p (I.inj a b _ q (i b (v0 (U7 y))))
 let d:=V2 (m:=p0 l) v λx r=>by
  ext B5 r j g;exact CC (I.lt j _ (i j (v0 (U7 g))))
 rw[f7,Br,Br]at d;exact(tq d t).elim
theorem IQ(o:ID)(j:a6)(v:j0 a6)(x:a6)(a:j<o.size):(o.setIfInBounds j v)[x]?=if x=j then a0 v else o[x]?:=by
 rw[l4.getElem?_setIfInBounds];by_cases h:j=x
 .subst h;simp[a]
 .refine Ey h ?_;rw[j4 λe=>h e.symm]
theorem wg(p:Ei mask)(I:FY mask hs o l)(A:l<=mask)(F:hs[l]?=a0 h):
 ∃j,Gw mask o (DP mask) (Ag h % (mask+1)) (Ag h)=a0 j/\FY mask hs (o.setIfInBounds j (a0 l)) (l+1):=by
 let g:=I.free A;ext1 g e B q;have C:Ag h % (mask+1)<=mask:=v0 (LX _ (M7 _));let g:=Yq p C (bE h) B;ext1 g n D E;refine T0 (vc I.size (DP mask) n _ _ 0 C (h:=h) rfl (λm p=>(X1 _ p).elim) (by unfold DP;exact q5 D (Gi (by decide) _)) (by rw[E];exact q)) λj K t u v G=>d0 j t ?_;have c:j<o.size:=KR v;have w:∀x,Dx o x->Dx (o.setIfInBounds j (a0 l)) x:=λx H=>d4 H λk i=>by
  refine⟨k,?_⟩;rw[IQ o j _ x c];rw[j4]
  .exact i
  .clear t u c;rintro rfl;rw[v]at i;cases i
 refine⟨by rw[l4.size_setIfInBounds];exact I.size,λk i=>?_,λx k f=>?_,λx y k f d=>?_⟩
 .rcases Ci k l with s|s
  .refine o0 (I.has k s) λx J L z M=>E8 x J L ?_ (M.mono w);rw[IQ o j _ x c,j4]
   .exact z
   .clear t u c w;rintro rfl;rw[v]at z;cases z
  .let r:=OA i s;clear I A i s;subst r;exact⟨j,h,F,by rw[IQ o j _ j c,g0 rfl],K,u,λm p=>w _ (G m p)⟩
 .rw[IQ o j _ x c]at f;split at f
  .cases f;exact B8 _
  .exact BL (I.lt x k f)
 .rw[IQ o j _ x c]at f;rw[IQ o j _ y c]at d;split at f<;>split at d
  .rename_i a b;rw[a,b]
  .cases f;exact(U4 _ (I.lt y _ d)).elim
  .cases d;exact(U4 _ (I.lt x _ f)).elim
  .exact I.inj x y k f d
theorem rU(i:Ei mask):∀(a done:a7 d3)(o:ID),hs=done++a->FY mask hs o done.length->hs.length<=mask+1->
 ∃d,(a.foldl (init:=a0 (o,done.length)) λ(f:j0 (ID×a6))h=>do
  let(owner,k)<-f
  let j<-Gw mask owner (DP mask) (Ag h % (mask+1)) (Ag h)
  pure (owner.setIfInBounds j (a0 k),k+1))=a0 (d,hs.length)/\FY mask hs d hs.length:=by
 intro l
 induction l with
 |nil=>intro done o e I r;rw[Y5]at e;subst e;exact d0 o rfl I
 |cons h a m=>
  intro done o e I b;refine c9 (wg i (h:=h) I (v0 (j7 (by rw[e];simp:done.length<hs.length) b)) (by rw[e];simp)) λj n p=>?_;have c:(done++[h]).length=done.length+1:=by simp
  refine c9 (m (done++[h]) _ (by rw[e];simp:hs=(done++[h])++a) (by rw[c];exact p) b) λd g q=>d0 d ?_ q;rw[PW];rw[c]at g;have s:(do
   let(owner,k)<-a0 (o,done.length)
   let j<-Gw mask owner (DP mask) (Ag h % (mask+1)) (Ag h)
   pure (owner.setIfInBounds j (a0 k),k+1):j0 (ID×a6))=a0 (o.setIfInBounds j (a0 done.length),done.length+1):=by
   refine(?_:(Gw mask o (DP mask) (Ag h % (mask+1)) (Ag h)).bind _=_);rw[n];rfl
  rw[s];exact g
theorem ic(e:Ei mask)(hs:l4 d3)(c:hs.size<=mask+1):∃o,iV mask hs=a0 o/\FY mask hs.toList o hs.size:=by
 let f:FY mask hs.toList (l4.replicate (mask+1) b4) 0:=by
  refine⟨by simp,λk g=>(X1 _ g).elim,λj k b=>?_,λj l k b m=>?_⟩<;>
  .rw[l4.getElem?_replicate]at b;split at b<;>cases b
 refine c9 (rU e (hs:=hs.toList) hs.toList [] _ (rfl) f (by rw[A0];exact c)) λh d i=>d0 h ?_ (by simpa using i);unfold iV;rw[<-l4.foldl_toList];let a:[].length=0:=rfl;rw[a]at d;rw[d];rfl
theorem KU{α:Type}[Ec α]:∀{l m:a7 α},l.Nodup->m.Nodup->(∀x,x∈l↔x∈m)->l.Perm m:=by
 intro f
 induction f with
 |nil=>
  intro m g g h;cases m with
  |nil=>exact .nil
  |cons y m=>exact(J8 ((h y).mpr j5)).elim
 |cons x l i=>
  intro m a c h;rw[Ax]at a;let j:x∈m:=(h x).mp j5;refine(yu x (i (m:=m.erase x) a.2 (c.erase x) λy=>?_)).trans (a7.perm_cons_erase j).symm;rw[h_ c];constructor
  .intro d;exact⟨λe=>a.1 (e▸d),(h y).mp (k8 _ d)⟩
  .rintro b;ext1 b k n;exact(D2 ((h y).mpr n)).resolve_left k
theorem bU{mask finger moves:a6}{led plain:b7}{es:l4 (d3×b8)}(T:Ei mask)(U:es.size*5<mask*3):
 ∃B f,VF mask finger moves led plain (es.map (·.1))=a0 (B,f)/\TT B (f.filterMap (es[·]?))/\(f.filterMap (es[·]?)).size=es.size/\(f.filterMap (es[·]?)).toList.Perm es.toList/\B.led=led/\B.plain=plain/\B.mask=mask/\f.toList.Perm (p0 es.size):=by
 let O:es.size<=mask:=tH U;refine c9 (ic T (es.map (·.1)) (by rw[oN];exact U6 ‹_›)) λo h1 I=>?_;rw[oN]at I;refine N5 ((p0 (mask+1)).filterMap λj=>(o.getD j b4).map λk=>(j,k)) λL J=>?_;let v:VF mask finger moves led plain (es.map (·.1))=a0 ({mask,place:=(L.map (·.1)).toArray,dummies:=#[],finger,led,moves,plain},(L.map (·.2)).toArray):=by unfold VF;rw[h1,<-J];rfl
 rw[v];have d:∀j k,(j,k)∈L↔o[j]?=a0 (a0 k):=λj k=>by
  rw[<-J,Wd];constructor
  .rintro V;ext c9 V x E e;rw[Av]at e;ext c9 e y W e2;cases e2;have w:j<o.size:=by rw[I.size];exact U7 E
   let c:o.getD j b4=o[j]:=by simp[EM,w]
   rw[c]at W;rw[DO w,W]
  .intro e;let w:j<o.size:=KR e;refine d0 j (CC (by rw[<-I.size];exact w)) ?_;rw[(by simp[EM,w]:o.getD j b4=o[j])];rw[DO w]at e;rw[C5 e];rfl
 have r:L.map (·.1)=(p0 (mask+1)).filter (λj=>(o.getD j b4).isSome):=by
  rw[<-J];let t:∀l:a7 a6,(l.filterMap λj=>(o.getD j b4).map λk=>(j,k)).map (·.1)=l.filter (λj=>(o.getD j b4).isSome):=by
   intro l
   induction l with
   |nil=>rfl
   |cons x l F=>
    rw[Ht,DM];cases o.getD x b4 with
    |none=>simpa using F
    |some k=>simp only[Au,WQ,DY,y4];rw[F]
  exact t _
 have m:(L.map (·.1)).Pairwise (·<·):=by rw[r];exact List.pairwise_lt_range.filter _
 let P:(L.map (·.2)).Nodup:=by rw[Bw,Y6];let c:=List.pairwise_map.mp (iI (λh=>m6 h) m);refine Gb ?_ c;rintro z3 z4 ha hb Q e;obtain⟨a,x⟩:=z3;obtain⟨b,y⟩:=z4;have e:x=y:=e;subst e;exact Q (I.inj a b x ((d a x).mp ha) ((d b x).mp hb))
 have u:(L.map (·.2)).Perm (p0 es.size):=KU P Wc λk=>by
  rw[Qd];constructor
  .intro z;ext A8 z ⟨j,K⟩ R rfl;exact I.lt j _ ((d j _).mp R)
  .intro z;exact o0 (I.has k z) λj h X A X=>B9 (a:=(j,k)) ((d j k).mpr A) rfl
 have s:((L.map (·.2)).toArray.filterMap (es[·]?)).toList.Perm es.toList:=by rw[nO];exact(u.filterMap _).trans (by rw[filterMap_getElem?_range])
 let n:((L.map (·.2)).toArray.filterMap (es[·]?)).size=es.size:=by rw[<-A0,s.length_eq,A0]
 have D:∀(i:a6)(e:d3×b8),((L.map (·.2)).toArray.filterMap (es[·]?))[i]?=a0 e->∃(j k:a6),L[i]?=a0 (j,k)/\es[k]?=a0 e:=by
  intro i e G;rw[<-W6,nO]at G;let t:∀(l:a7 (a6×a6)),(∀p∈l,p.2<es.size)->∀(i:a6),((l.map (·.2)).filterMap (es[·]?))[i]?=a0 e->∃(j k:a6),l[i]?=a0 (j,k)/\es[k]?=a0 e:=by
   intro l
   induction l with
   |nil=>intro X i h;simp at h
   |cons p l F=>
    intro H i h;let C:=H p j5;rw[y4,Ht,DO C]at h;cases i with
    |zero=>simp only[WX,At]at h;exact Q6 p.1 p.2 rfl (by rw[DO C,h])
    |succ i=>simp only[oJ]at h;exact F (λq hq=>H q (k8 _ hq)) i h
  exact t L (λp H=>I.lt p.1 _ ((d p.1 p.2).mp H)) i G
 refine⟨_,_,rfl,⟨⟨?_,?_,rfl,?_⟩,T,?_,λj A=>?_,λi e j G g=>?_⟩,n,s,rfl,rfl,rfl,u⟩
 .exact(m:((L.map (·.1)).toArray).toList.Pairwise (·<·))
 .refine(?_:((L.map (·.1)).toArray).size=_);rw[n];simp[(by let c:=u.length_eq;simpa using c:L.length=es.size)]
 .rw[n];exact O
 .rw[n];exact U
 .let A:j∈L.map (·.1):=A;rw[r]at A;exact v0 (U7 (NS A))
 .refine F8 (D i e G) λM k Y z=>?_;have g:((L.map (·.1)).toArray)[i]?=a0 j:=g;rw[WW,o7,Y]at g;simp only[Au,At]at g;subst g;have Z:=(d M k).mp (p8 Y);refine o0 (I.has k (I.lt M k Z)) λj2 h N b2 b3=>?_;let c:=I.inj M j2 k Z b2;clear b2;subst c;let hh:h=e.1:=by
   let c:(es.map (·.1)).toList[k]?=a0 e.1:=by rw[W6,l4.getElem?_map,z];rfl
   rw[c]at N;exact(C5 N).symm
  clear N;subst hh;refine b3.mono λx E=>?_;ext d4 E K S;exact B9 (a:=(x,K)) ((d x K).mpr S) rfl
theorem QQ:∀{b:a7 b0},N6 f b b=a8->∀d∈b,f d d=a8:=by
 intro c
 induction c with
 |nil=>intro e e h;cases h
 |cons x r g=>
  intro a d h;replace a:=G4 a;rcases D2 h with rfl|h
  .exact a.1
  .exact g a.2 d h
section
variable{s:f8}
theorem NX(g:o3 k d d=a8)(i:V base c n s.heap d v):(∀b,d≠.B b)->Vk v=a8:=by exact Fd (P:=λa d a=>V base c n s.heap d v->(∀b,d≠.B b)->Vk v=a8) g (λa a f a=>d4 f λa e=>e▸rfl) (λa a f a=>d4 f λa e=>e▸rfl) (λa a a a a h=>(h _ rfl).elim) i
theorem XR:∀(k:a6){m:a6}{d:b0}{v:b8}{Q:b7->f8->Prop},k<m->o3 k d d=a8->V base c n s.heap d v->Q a8 s->b9 (d7 prog w) A (eqIsQuiet m v) Q E s:=by
 intro k
 induction k with
 |zero=>intro m d v Q w0 ho hv hq;rw[iB _ (NX ho hv λds e=>by clear hv;subst e;exact no ho)];exact f6 hq
 |succ k ih=>
  intro m d v Q hm ho hv hq;by_cases hd:∃ds,d= .B ds
  .ext d4 hd ds rfl;obtain⟨m,rfl⟩:∃m',m=m'+1:=⟨m - 1,UB hm⟩;ext G9 hv a items e rfl w0 ho1 hi;let hT:=CO (s:=s) ho1;unfold eqIsQuiet;refine b5 (HH hT F.slot_tuple_eq.lookup (b5 (Jw hT WE (b5 (Ce ho1 rfl (b5 ((?_:b9 _ _ (Hx items _ _) _ _ s))))))));rw[<-Gn];refine Ft _ (λrest r s'=>r.1=b4/\s'=s/\∃left,(∀x∈left,o3 k x x=a8)/\Vs base c n s.heap left rest) _ ?_ ?_ _ _ ⟨rfl,rfl,ds,(QQ ho:∀x∈ds,o3 k x x=a8),hi⟩
   .rintro v rest r s' z1;clear hq ho1 hi hT;ext u0 z1 hr rfl rr;ext c9 rr left hl hvs;cases left with
    |nil=>have b:v::rest=[]:=hvs;cases b
    |cons x left=>
     ext o0 hvs v1 r1 e1 hv1 hr1;cases e1
     set_option smartUnfolding false in refine b5 (ih (v0 ‹_›) (hl x j5) hv1 ?_)
     exact f6 ⟨rfl,rfl,left,λy hy=>hl y (k8 _ hy),hr1⟩
   .rintro z2 s' z3;obtain⟨r1,r2⟩:=z2;refine u0 z3 ?_;clear z3;clear ih ho1 hi hT;rintro hr rfl w0;simp only at hr;subst hr;exact f6 hq
  .rw[iB _ (NX ho hv λds e=>hd ⟨ds,e⟩)];exact f6 hq
theorem dH(m:a6)(h:Vk v=a8):nW m v=pure c8:=by
 cases v with
 |ref a=>exact no h
 |_=>cases m<;>rfl
theorem Zx:∀(k:a6){m:a6}{d:b0}{v:b8}{Q:b7->f8->Prop},k<m->o3 k d d=a8->V base c n s.heap d v->Q c8 s->b9 (d7 prog w) A (nW m v) Q E s:=by
 intro k
 induction k with
 |zero=>intro m d v Q w0 ho hv hq;rw[dH _ (NX ho hv λds e=>by clear hv;subst e;exact no ho)];exact f6 hq
 |succ k ih=>
  intro m d v Q hm ho hv hq;by_cases hd:∃ds,d= .B ds
  .ext d4 hd ds rfl;obtain⟨m,rfl⟩:∃m',m=m'+1:=⟨m - 1,UB hm⟩;ext G9 hv a items e rfl w0 ho1 hi;let hT:=CO (s:=s) ho1
   set_option smartUnfolding false in refine b5 (HI hT ?_)
   refine Fo (by decide) (b5 (f6 (b5 (Ce ho1 rfl (b5 ((?_:b9 _ _ (Hx items _ _) _ _ s)))))));rw[<-Gn];refine Ft _ (λrest r s'=>r.1=b4/\s'=s/\∃left,(∀x∈left,o3 k x x=a8)/\Vs base c n s.heap left rest) _ ?_ ?_ _ _ ⟨rfl,rfl,ds,(QQ ho:∀x∈ds,o3 k x x=a8),hi⟩
   .rintro v rest r s' z4;clear hq ho1 hi hT;ext u0 z4 hr rfl rr;ext c9 rr left hl hvs;cases left with
    |nil=>have b:v::rest=[]:=hvs;cases b
    |cons x left=>
     ext o0 hvs v1 r1 e1 hv1 hr1;cases e1
     set_option smartUnfolding false in refine b5 (ih (v0 ‹_›) (hl x j5) hv1 ?_)
     exact f6 ⟨rfl,rfl,left,λy hy=>hl y (k8 _ hy),hr1⟩
   .rintro z5 s' z6;obtain⟨r1,r2⟩:=z5;refine u0 z6 ?_;clear z6;clear ih ho1 hi hT;rintro hr rfl w0;simp only at hr;subst hr;exact f6 hq
  .rw[dH _ (NX ho hv λds e=>hd ⟨ds,e⟩)];exact f6 hq
theorem sY:∀(k:a6){m:a6}{d:b0}{v:b8}{Q:b7->f8->Prop},k<m->o3 k d d=a8->V base c n s.heap d v->(∀b,Q b s)->b9 (d7 prog w) A (hashByValue m v) Q E s:=by
 intro k
 induction k with
 |zero=>
  intro m d v Q w0 ho hv hq;cases d with
  |int=>ext d4 hv t rfl;cases m<;>exact f6 (hq _)
  |str=>ext d4 hv t rfl;cases m<;>exact f6 (hq _)
  |_=>exact no ho
 |succ k ih=>
  intro m d v Q hm ho hv hq;cases d with
  |int=>ext d4 hv t rfl;clear hm;cases m<;>exact f6 (hq _)
  |str=>ext d4 hv t rfl;clear hm;cases m<;>exact f6 (hq _)
  |B ds=>
   obtain⟨m,rfl⟩:∃m',m=m'+1:=⟨m - 1,UB hm⟩;ext G9 hv a items e rfl w0 ho1 hi;let hT:=CO (s:=s) ho1;refine b5 (HH hT F.slot_tuple_hash.lookup (b5 (Ce ho1 rfl (b5 ((?_:b9 _ _ (Hx items _ _) _ _ s))))));rw[<-Gn];refine Ft _ (λrest r s'=>r.1=b4/\s'=s/\∃left,(∀x∈left,o3 k x x=a8)/\Vs base c n s.heap left rest) _ ?_ ?_ _ _ ⟨rfl,rfl,ds,(QQ ho:∀x∈ds,o3 k x x=a8),hi⟩
   .rintro v rest r s' z7;clear ho1 hi hT;ext u0 z7 hr rfl rr;ext c9 rr left hl hvs;cases left with
    |nil=>have f:v::rest=[]:=hvs;cases f
    |cons x left=>
     ext o0 hvs v1 r1 e1 hv1 hr1;cases e1
     set_option smartUnfolding false in refine b5 (ih (v0 ‹_›) (hl x j5) hv1 λb=>?_)
     cases b with
     |true=>exact f6 ⟨rfl,rfl,left,λy hy=>hl y (k8 _ hy),hr1⟩
     |false=>exact f6 (f6 (hq _))
   .rintro z8 s' z9;obtain⟨r1,r2⟩:=z8;refine u0 z9 ?_;clear z9;clear ih ho1 hi hT;rintro hr rfl w0;simp only at hr;subst hr;exact f6 (hq _)
  |_=>exact no ho
theorem Ue{α:Type}{M:Gr}{b:b7}{a c:M8 α}{Q:α->f8->Prop}(d:b9 M A a Q E s)(e:b9 M A c Q E s):b9 M A (if b=a8 then a else c) Q E s:=by
 cases b
 .exact e
 .exact d
theorem wv{d:b0}{v:b8}(q:o3 3 d d=a8)(k:V base c n s.heap d v):∀{i:a7 b0}{vs:a7 b8}{Q:b7->f8->Prop},(∀x∈i,o3 3 x x=a8)->Vs base c n s.heap i vs->Q c8 s->b9 (d7 prog w) A (searchCouldBeSeen v vs) Q E s:=by
 intro i vs Q m a t;refine b5 (Ft _ (λb r j=>r.1=b4/\j=s/\∃left,(∀x∈left,o3 3 x x=a8)/\Vs base c n s.heap left b) _ ?_ ?_ _ _ ⟨rfl,rfl,i,m,a⟩)
 .rintro y b r j e;clear t;refine u0 e ?_;clear e;clear a;rintro l rfl u;ext c9 u left z a;cases left with
  |nil=>have J:y::b=[]:=a;cases J
  |cons x left=>
   ext o0 a G C D f o;cases D;let B:=z x j5;have g:(∃left,(∀x∈left,o3 3 x x=a8)/\Vs base c n j.heap left b):=⟨left,λy F=>z y (k8 _ F),o⟩;refine Ue ?_ ?_
   .exact f6 ⟨rfl,rfl,g⟩
   .exact b5 (XR 3 (show 3<8 by exact M0 _ _) q k (b5 (XR 3 (show 3<8 by exact M0 _ _) B f (b5 (Zx 3 (show 3<8 by exact M0 _ _) q k (b5 (Zx 3 (show 3<8 by exact M0 _ _) B f (f6 ⟨rfl,rfl,g⟩))))))))
 .rintro p j h;obtain⟨C,H⟩:=p;refine u0 h ?_;clear h;clear k a;rintro l rfl I;simp only at l;subst l;exact f6 t
end
abbrev Bq(es:l4 (d3×b8))(ep:a6)(t:Aw):V6:={cls:=.type "set",dict:=b4,data:=.set es ep t,slots:=#[]}
section
variable(w:J3)(base:l5)(c:Cx)(n:a6)(h:l5)
def SV:a7 b0->a7 (d3×b8)->Prop
 |[],es=>es=[]
 |y::ys,es=>∃e r,es=e::r/\e.1=q9 w y/\V base c n h y e.2/\SV ys r
end
theorem SV.len:∀{ys:a7 b0}{es:a7 (d3×b8)},SV w base c n h ys es->es.length=ys.length:=by
 intro d
 induction d with
 |nil=>intro es e;rw[show es=[] from e];rfl
 |cons _ _ f=>intro b a;ext T0 a e r q b b g;subst q;simp[f g]
theorem SV.get:∀{ys:a7 b0}{es:a7 (d3×b8)},SV w base c n h ys es->∀(i:a6)(e:d3×b8),es[i]?=a0 e->∃y,ys[i]?=a0 y/\e.1=q9 w y/\V base c n h y e.2:=by
 intro d
 induction d with
 |nil=>intro es q i e a;rw[show es=[] from q]at a;simp at a
 |cons y ys f=>
  intro l b i e a;ext T0 b m r q g j k;subst q;cases i with
  |zero=>simp at a;subst a;exact v7 y rfl g j
  |succ i=>simpa using f k i e (by simpa using a)
theorem SV.get':∀{ys:a7 b0}{es:a7 (d3×b8)},SV w base c n h ys es->∀(i:a6)(y:b0),ys[i]?=a0 y->∃e,es[i]?=a0 e/\e.1=q9 w y/\V base c n h y e.2:=by
 intro d
 induction d with
 |nil=>intro es q i y a;simp at a
 |cons m ys f=>
  intro o b i y a;ext T0 b g r q j k l;subst q;cases i with
  |zero=>simp at a;subst a;exact v7 g rfl j k
  |succ i=>simpa using f l i y (by simpa using a)
theorem SV.ext(k:∀b a e,¬c.P b->h.get? b=a0 (x9 a e)->h'.get? b=a0 (x9 a e)):∀{ys:a7 b0}{es:a7 (d3×b8)},SV w base c n h ys es->SV w base c n h' ys es:=by
 intro g
 induction g with
 |nil=>intro f q;exact q
 |cons f f i=>intro f d;ext T0 d e r q j l m;exact⟨e,r,q,j,BY k l,i m⟩
theorem SV.perm(p:es'.Perm es):∀{ys:a7 b0},SV w base c n h ys es->∃ys',ys'.Perm ys/\SV w base c n h ys' es':=by
 induction p with
 |nil=>exact λ{ys}x=>d0 ys (.rfl) x
 |cons a p ih=>
  rintro ys x;cases ys with
  |nil=>cases(show _=[] from x)
  |cons y ys=>ext T0 x e r q h1 h2 hr;cases q;exact c9 (ih hr) λys' p' x'=>⟨y::ys',p'.cons y,_,_,rfl,h1,h2,x'⟩
 |swap a b l=>
  rintro ys x;cases ys with
  |nil=>cases(show _=[] from x)
  |cons y ys=>
   ext T0 x e r q h1 h2 hr;cases q;cases ys with
   |nil=>cases(show _=[] from hr)
   |cons y2 ys=>ext T0 hr e2 r2 q2 g1 g2 hr2;cases q2;exact⟨y2::y::ys,.swap ..,_,_,rfl,g1,g2,_,_,rfl,h1,h2,hr2⟩
 |trans _ _ ih1 ih2=>rintro ys x;refine c9 (ih2 x) λy1 p1 x1=>?_;let zz:=ih1 x1;ext1 zz y2 p2 x2;exact d0 y2 (p2.trans p1) x2
theorem SV.vals:∀{ys:a7 b0}{es:a7 (d3×b8)},SV w base c n h ys es->Vs base c n h ys (es.map (·.2)):=by
 intro b
 induction b with
 |nil=>intro es q;rw[show es=[] from q];rfl
 |cons _ _ d=>intro f a;ext T0 a e r q f g i;subst q;exact E8 _ _ rfl g (d i)
section
variable{s:f8}{t:Aw}
theorem xX(h:Ei t.mask):t.gaveWay=c8:=by unfold u_;rcases h with e|e|e<;>rw[e]<;>rfl
theorem ez{α:Type}{M:Gr}{b:b7}{a:M8 b7}{m c:M8 α}{Q:α->f8->Prop}(d:∀R:b7->f8->Prop,R c8 s->b9 M A a R E s)(h:b9 M A m Q E s):
 b9 M A (if(!b)=a8 then a>>=λr=>if r=a8 then c else m else m) Q E s:=by
 cases b
 .refine(b5 (d _ ?_):b9 M A (a>>=λr=>if r=a8 then c else m) Q E s);exact h
 .exact h
theorem Ua{xs:l4 a6}{i:a6}(h:xs[i]?=a0 j):j∈xs.toList:=Array.mem_toList_iff.mpr (Ma h)
theorem fy{f:d3×b8->b7}:∀{ys:a7 b0}{es:a7 (d3×b8)},SV w base c n s.heap ys es->(∀y∈ys,o3 3 y y=a8)->∃a,(∀z∈a,o3 3 z z=a8)/\Vs base c n s.heap a ((es.filter f).map (·.2)):=by
 intro l
 induction l with
 |nil=>intro es q i;exact d0 [] (λi h=>by cases h) (by rw[show es=[] from q];rfl)
 |cons y ys m=>
  intro i d g;ext T0 d e r q i o p;subst q;refine c9 (m p λz b=>g z (k8 _ b)) λa j k=>?_;rw[DM];split
  .refine⟨y::a,λz b=>?_,e.2,_,rfl,o,k⟩;rcases D2 b with rfl|b
   .exact g z j5
   .exact j z b
  .exact d0 a j k
theorem vk(hu:A.units+6<t3)(ho:s.heap.get? a=a0 (Bq es ep t))(T:TT t es)(hS:SV w base c n s.heap ys es.toList)(hv:V base c n s.heap y x)(hyt:∃ds,y= .B ds)(hys:∀z∈ys,∃ds,z= .B ds)
 (X:∀z∈ys,P0 z y=a8)(u:o3 3 y y=a8)(F:∀z∈ys,o3 3 z z=a8){Q:SetFound->f8->Prop}
 (hq1:y∈ys->Q (.there b4) s)(Y:∀K,y∉ys->pj t.mask (q9 w y) K∉t.place.toList->(∀m,m<K->pj t.mask (q9 w y) m∈t.place.toList)->Q (.free (pj t.mask (q9 w y) K) c8) s):
 ∀(l k:a6)(b:j0 DQ),b.getD (t.probeStart (q9 w y))=J5 t.mask (Ab t.mask (q9 w y)) k->(∃d,d<l/\pj t.mask (q9 w y) (k+d)∉t.place.toList)->
  (∀m,m<k->∃(i:a6)(z:b0),t.place[i]?=a0 (pj t.mask (q9 w y) m)/\ys[i]?=a0 z/\z≠y)->b9 (d7 prog w) A (setSearchFrom a x (q9 w y) a8 l b) Q E s:=by
 intro l
 induction l with
 |zero=>rintro k b P z1;ext1 z1 d hd P;exact(X1 _ hd).elim
 |succ l ih=>
  rintro k b Z z2 v;ext c9 z2 d hd W;refine Lh ho rfl T.ti.fits ?_;dsimp only;rw[xX T.mask];refine X8 Ch ?_;rw[Z];have conv:∀(e:d3×b8)(i:a6),es[i]?=a0 e->∃z,ys[i]?=a0 z/\e.1=q9 w z/\V base c n s.heap z e.2:=λe i p=>hS.get i e (by rw[W6];exact p)
  generalize I:t.probe _ (q9 w y) (J5 t.mask (Ab t.mask (q9 w y)) k)=r;have hH':Kz t es (q9 w y) k r:=by rw[<-I];exact gb T (λi e p=>by refine(?_:(es[i]?.map (·.1)).getD 0=e.1);rw[p];rfl) _ k
  have g:∀K,(∀m,k<=m->m<K->∃(i:a6)(e:d3×b8),t.place[i]?=a0 (pj t.mask (q9 w y) m)/\es[i]?=a0 e/\e.1≠q9 w y)->
   ∀m,m<K->∃(i:a6)(z:b0),t.place[i]?=a0 (pj t.mask (q9 w y) m)/\ys[i]?=a0 z/\z≠y:=λK G m S=>by
   rcases Ci m k with h|h
   .exact v m h
   .exact o0 (G m h S) λi e U a2 a3=>y3 (conv e i a2) λz b1 b2 P=>E8 i z U b1 λq=>a3 (by rw[b2,q])
  have o:∀{m:a6},(∃(i:a6)(z:b0),t.place[i]?=a0 (pj t.mask (q9 w y) m)/\ys[i]?=a0 z/\z≠y)->pj t.mask (q9 w y) m∈t.place.toList:=λz9=>F8 z9 λi z U P=>Array.mem_toList_iff.mpr (Ma U);cases hH' with
  |empty K hk B G=>
   let H:=g K G;refine f6 (Y K (λhmem=>?_) B λm S=>o (H m S));refine d4 (N2 hmem) λi rr=>?_;ext d4 rr hi e1;have hyi:ys[i]?=a0 y:=by rw[v5 hi,e1]
   refine y3 (hS.get' i y hyi) λe p hh P=>?_;rw[W6]at p;let hip:i<t.place.size:=by rw[T.ti.size];exact KR p
   obtain⟨jp,C⟩:∃j,t.place[i]?=a0 j:=⟨_,DO hip⟩;refine c9 (T.reach i e _ p C) λki J hbi=>?_;rw[hh]at J hbi;rcases LQ ki K with h|h|h
   .refine o0 (H ki h) λi' z U a2 a3=>?_;rw[J]at U;have R:i'=i:=by rw[<-(KV T.ti.rise U),<-(KV T.ti.rise C)]
    clear hi e1 p hip C;subst R;rw[hyi]at a2;cases a2;exact a3 rfl
   .subst h;rw[J]at B;exact B (Ua C)
   .exact B (hbi K h)
  |cand K i e hk B p hh G=>
   let H:=g K G;have L:K<k+d:=by
    apply CM;intro hc;rcases Ci (k+d) K with h|h
    .exact W (o (H (k+d) h))
    .have R:k+d=K:=AL (Nat.not_lt.mp hc) h;rw[R]at W;exact W (Ua B)
   refine y3 (conv e i p) λz hz1 hz2 M=>?_;let D:=p8 hz1;let zz:=fy (f:=λe=>e.1==q9 w y) hS F;ext1 zz zs hz4 N;refine ez (λR hR=>?_) ?_
   .rw[l4.toList_filter];exact wv u hv hz4 N hR
   .rw[p];refine CZ (Kf 3 (gB hu rfl) (X z D) M hv (Lh ho rfl T.ti.fits ?_));dsimp only;by_cases O:z=y
    .clear hv hyt X Y ih Z v W g o B hh G I H N;subst O;have R:l3 z z=a8:=Eu u;rw[R];exact f6 (hq1 D)
    .let hne:l3 z y=c8:=by
      cases hb2:l3 z y with
      |false=>rfl
      |true=>exact(O (W7 hb2)).elim
     rw[hne];refine X8 Ch ?_;rw[(by unfold L_;simp:t.sameMemory t.moves t.mask=a0 a8)];dsimp only;rw[g0 (rfl:a8=a8)];refine c9 (SQ T.ti (Ua B)) λi' hi' hsl=>?_;let hii:i'=i:=by rw[<-KV T.ti.rise hi',<-KV T.ti.rise B]
     subst hii;rw[hsl];dsimp only;rw[p];dsimp only;refine d4 (hys z D) ?_;clear hz2 D hne;rintro ds rfl;ext Em M ad items ee hev P;rw[hev];refine b5 (wpAny_isSame_ref_self (R8 (ih (K+1) _ rfl (d0 (k+d - (K+1)) ?_ ?_) λm S=>?_)))
     .exact zC hd L hk
     .rw[show K+1+(k+d - (K+1))=k+d by exact DR L];exact W
     .rcases Ci m K with h|h
      .exact H m h
      .have R:m=K:=OA S h;clear hk G H L hi' hsl I S h;subst R;exact E8 i' _ B hz1 O
end
structure PT (t:Aw) (es:l4 (d3×b8)):Prop where
 ti:TI t es.size
 mask:Ei t.mask
 prev:(es.size - 1)*5<t.mask*3
 le:∀j,j∈t.place.toList->j<=t.mask
 reach:∀(i:a6)(e:d3×b8)(j:a6),es[i]?=a0 e->t.place[i]?=a0 j->Reach t.mask (·∈t.place.toList) e.1 j
theorem PT.plain(T:PT t es)(b:b7):PT {t with plain:=b} es:=⟨⟨T.ti.rise,T.ti.size,T.ti.dum,T.ti.fill⟩,T.mask,T.prev,T.le,T.reach⟩theorem sU(h:TI t n):t.tooFull=decide (n*5≥t.mask*3):=by unfold ze mL;rw[h.dum,h.size];rfl
theorem dJ{t:Aw}{es:l4 (d3×b8)}(T:TT t es){h:d3}{x:b8}{K:a6}(d:pj t.mask h K∉t.place.toList)(e:∀m,m<K->pj t.mask h m∈t.place.toList):
 PT (t.put (pj t.mask h K)).1 (U1 es (t.put (pj t.mask h K)).2 (h,x))/\(t.put (pj t.mask h K)).1.led=t.led/\(U1 es (t.put (pj t.mask h K)).2 (h,x)).size=es.size+1/\
  (U1 es (t.put (pj t.mask h K)).2 (h,x)).toList.Perm ((h,x)::es.toList):=by
 let a:=po (x:=x) T d e;ext1 a f g i b j k;let c:=qz es (t.put (pj t.mask h K)).2 (h,x) f;refine M3 ⟨by rw[c];exact g,by rw[b];exact T.mask,?_,by rw[b];exact j,by rw[b];exact k⟩ i c ?_
 .rw[c,b];exact T.room
 .rw[Hw];refine List.perm_middle.trans ?_;rw[VK]
theorem PT.room(P:PT t es)(hz:es.size<=64):
 (t.tooFull=c8/\TT t es)\/(t.tooFull=a8/\xp (Jy es.size)<=HX/\∃c a,t.relaid (es.map (·.1)) (Jy es.size)=a0 (c,a)/\WN a es.size=a8/\
  TT c (a.filterMap (es[·]?))/\(a.filterMap (es[·]?)).size=es.size/\(a.filterMap (es[·]?)).toList.Perm es.toList/\c.led=t.led):=by
 rw[sU P.ti];by_cases h:es.size*5≥t.mask*3
 .right;let f:=P.prev;refine⟨by simpa using h,?_⟩;rcases P.mask with e|e|e
  .rw[e]at h f;have b:es.size=5:=ef f h;rw[b];refine⟨by decide,Lg (bU (mask:=31) (finger:=t.finger) (moves:=t.movedTo 31) (led:=t.led) (plain:=t.plain) (es:=es) (.inr (.inl rfl)) (by rw[b];decide)) λc a g i j k l m d=>k9 d ?_⟩;clear d;rintro m n;refine⟨c,a,g,?_,i,by rw[j,b],k,l⟩;unfold WN;rw[<-b];exact List.isPerm_iff.mpr n
  .rw[e]at h f;let b:=tD f h;rw[b];refine⟨by decide,Lg (bU (mask:=127) (finger:=t.finger) (moves:=t.movedTo 127) (led:=t.led) (plain:=t.plain) (es:=es) (.inr (.inr rfl)) (by rw[b];decide)) λc a g i j k l m d=>k9 d ?_⟩;clear d;rintro m n;refine⟨c,a,g,?_,i,by rw[j,b],k,l⟩;unfold WN;rw[<-b];exact List.isPerm_iff.mpr n
  .rw[e]at h;exact(xQ h hz).elim
 .exact .inl ⟨by simpa using h,P.ti,P.mask,(Yw ‹_›),P.le,P.reach⟩def CN(w:J3)(base:l5)(c:Cx)(n:a6)(h:l5)(a:i7)(ys:a7 b0)(led:b7):Prop:=∃es ep t,h.get? a=a0 (Bq es ep t)/\TT t es/\SV w base c n h ys es.toList/\t.led=led
section
variable{prog:A5}{w:J3}{A:B7}{c:Cx}
theorem Oi{h:l5}{es':l4 (d3×b8)}{t':Aw}(c:h.get? a=a0 (Bq es ep t)):(h.update a (JK es' t')).get? a=a0 (Bq es' (ep+1) t'):=by let b:=Hr (JK es' t') c (by rw[putSet_of es' t' rfl];rfl);rw[putSet_of es' t' rfl]at b;exact b
theorem NY(f:h.get? a=a0 (Bq es ep t))(g:Aj a h h'):∀b d e,¬c.P b->h.get? b=a0 (x9 d e)->h'.get? b=a0 (x9 d e):=λb d e i q=>by
 rewrite[g.2 b ?_];exact q;rintro rfl;rw[f]at q;have j:=t0 nL (C5 q);cases j
theorem uE(g:s.heap.get? a=a0 (Bq es ep t))(P:PT t es)(hz:es.size<=64)(m:t.tooFull=a8)(o:SV w base c n s.heap ys es.toList){Q:Ay->f8->Prop}
 (u:∀i d,Aj a s.heap i->d.Perm ys->CN w base c n i a d t.led->Q () {s with heap:=i}):b9 (d7 prog w) A (WR a (Jy es.size)) Q E s:=by
 rcases P.room hz with h|⟨_,v,j,b,x,F,y,p,z,B⟩
 .rw[h.1]at m;cases m
 .unfold WR;refine b5 (Fs g rfl P.ti.fits (X8 (P9 v) ?_));rw[x];refine c9 (SV.perm z o) λd C l=>?_;let f:b9 (d7 prog w) A (do
   if((b.filterMap (es[·]?)).size != es.size)=a8 then unsupported "internal:set-table-lost-an-element"
   pure (b.filterMap (es[·]?),j):M8 (l4 (d3×b8)×Aw)) (λr D=>r=(b.filterMap (es[·]?),j)/\D=s) E s:=by
   rw[(by rw[p];simp:((b.filterMap (es[·]?)).size != es.size)=c8)];exact f6 ⟨rfl,rfl⟩
  refine b5 (v6 f ?_ λk k e=>e);rintro k k q;refine k9 q ?_;clear q;clear o f;rintro rfl rfl;refine Qy g rfl ?_ (by rw[p,O3];exact p6);refine u _ d (AY ..) C (BQ _ _ j (Oi g) y ?_ B);exact SV.ext (NY g (AY ..)) l
end
theorem iz(hu:A.units+6<t3)(u:s.heap.get? a=a0 (Bq es ep t))(T:TT t es)(hS:SV w base c n s.heap ys es.toList)(hz:es.size<=63)(O:V base c n s.heap y x)(F:∃f,y= .B f)(X:∀z∈ys,∃f,z= .B f)
 (Y:∀z∈ys,P0 z y=a8)(i:o3 3 y y=a8)(o:∀z∈ys,o3 3 z z=a8)(Z:y∈ys->Q c8 s)
 (G:∀B l,y∉ys->Aj a s.heap B->l.Perm (y::ys)->CN w base c n B a l t.led->Q a8 {s with heap:=B}):
 b9 (d7 prog w) A (VJ a x (q9 w y) 100000) Q E s:=by
 ext d4 F f rfl;refine Em (id O) ?_;rintro C items ee rfl hrest;refine Lh u rfl T.ti.fits ?_;dsimp only;let j:=T.ends (q9 w (.B f)) 0;ext1 j d hd hx;let hd':d<100000:=by
  let M:DP t.mask<=142:=by rcases T.mask with e|e|e<;>rw[e]<;>decide
  exact j7 hd (b6 (Y4 10 M) (by decide))
 refine b5 (vk hu u T hS O ⟨f,rfl⟩ X Y i o (λv=>f6 (Z v)) (λK v hj hb=>?_) 100000 0 b4 rfl (d0 d hd' hx) λm v=>(X1 _ v).elim);refine Lh u rfl T.ti.fits ?_;let j:=dJ (x:=.ref C) T hj hb;ext1 j P q g W;refine c9 (SV.perm (ys:=(.B f)::ys) W ⟨_,_,rfl,rfl,O,hS⟩) λys1 p1 H=>?_;generalize htp:t.put (pj t.mask (q9 w (.B f)) K)=tp at P q g W H;clear htp W;obtain⟨k,p⟩:=tp;have I:∀b:b7,b9 (d7 prog w) A (do
  VY a (U1 es p (q9 w (.B f),.ref C)) (if b=a8 then k else{k with plain:=false})
  if(!c8&&(if b=a8 then k else{k with plain:=false}).tooFull)=a8 then WR a (Jy (es.size+1))
  return a8) Q E s:=by
  intro b;let D:PT (if b=a8 then k else{k with plain:=false}) (U1 es p (q9 w (.B f),.ref C)):=by
   cases b
   .exact P.plain c8
   .exact P
  let R:(if b=a8 then k else{k with plain:=false}).led=t.led:=by clear D;cases b<;>exact q
  revert D R;refine gen (if b=a8 then k else{k with plain:=false}) λS D R=>?_;refine b5 (Qy u rfl ?_ (by rw[g,O3];exact Ca));let r:=AY s.heap a (JK (U1 es p (q9 w (.B f),.ref C)) S);let J:=SV.ext (NY u r) H;let L:=Oi (es':=U1 es p (q9 w (.B f),.ref C)) (t':=S) u;by_cases U:S.tooFull=a8
  .refine Fo U ?_;rw[<-g];refine b5 (uE (s:={s with heap:=_}) L D (by rw[g];exact BK ‹_›) U J λB l N p' hA=>f6 ?_);rw[R]at hA;exact G B l v (r.trans N) (p'.trans p1) hA
  .refine X8 U (R8 (f6 (G _ ys1 v r p1 (BQ _ _ S L ?_ J R))));rcases D.room (by rw[g];exact BK ‹_›)with h|h
   .exact h.2
   .exact(U h.1).elim
 refine Ue ?_ ?_
 .exact b5 (sY 3 (M0 _ _) i O λb=>I b)
 .exact R8 (I a8)
theorem yE(T:TT t es)(h:d3):∃K,t.freeSlot h=a0 (pj t.mask h K,c8)/\pj t.mask h K∉t.place.toList/\∀m,m<K->pj t.mask h m∈t.place.toList:=by
 let v:∀(a k:a6),(∃d,d<a/\pj t.mask h (k+d)∉t.place.toList)->(∀m,m<k->pj t.mask h m∈t.place.toList)->
  ∃K,JI t (λr=>h+1) h a (J5 t.mask (Ab t.mask h) k)=a0 (.empty (pj t.mask h K) b4)/\pj t.mask h K∉t.place.toList/\∀m,m<K->pj t.mask h m∈t.place.toList:=by
  intro a
  induction a with
  |zero=>rintro k o;ext1 o d f r;exact(X1 _ f).elim
  |succ a y=>
   rintro k p w;ext1 p d f s;by_cases b:pj t.mask h k∈t.place.toList
   .let q:=SQ T.ti b;ext1 q i z x;have c:t.slot (J5 t.mask (Ab t.mask h) k).j= .live i:=x;rw[dM c,(by rw[Ga];exact d3.ne_of_gt (d3.lt_succ _):(h+1==h)=c8),XH];have l:d≠0:=by clear f;rintro rfl;exact s b
    refine y (k+1) (d0 (d - 1) (Xg f l) (by rw[show k+1+(d - 1)=k+d by exact eJ l];exact s)) λm u=>?_;rcases Ci m k with g|g
    .exact w m g
    .rw[show m=k by exact OA u g];exact b
   .have c:t.slot (J5 t.mask (Ab t.mask h) k).j= .empty:=YA T.ti b;rw[XD c];let n:(J5 t.mask (Ab t.mask h) k).dummy=b4:=(QL t.mask h k).2.2;rw[n];exact v7 k rfl b w
 refine y3 (v (10*DP t.mask) 0 (T.ends h 0) λm b=>(X1 _ b).elim) λK u g A=>v7 K ?_ g A;unfold zr;have e:t.probe (λr=>h+1) h (t.probeStart h)=a0 (.empty (pj t.mask h K) b4):=u;rw[e];rfl
section
variable{prog:A5}{w:J3}{s:f8}
theorem aE(b:leaf d=a8)(a:V base c n s.heap d v):v.scannable=a8:=
 ER (P:=λd=>V base c n s.heap d v->v.scannable=a8) b (λi a=>d4 a λt e=>e▸rfl) (λl a=>d4 a λt e=>e▸rfl) a
theorem SV.elems:∀{ys:a7 b0}{es:a7 (d3×b8)},SV w base c n s.heap ys es->(∀y∈ys,leaf y=a8)->ElemsOf (W9 prog w) es:=by
 intro h
 induction h with
 |nil=>intro es q i;rw[show es=[] from q];exact λe j=>by cases j
 |cons y ys k=>
  intro i d f;ext T0 d e r q l g m;subst q;let a:=f y j5;intro o b;rcases D2 b with rfl|b
  .exact⟨(d0 (y6 y) (Fa a g) (by rw[GT a];exact l)),aE a g⟩
  .exact k m (λz p=>f z (k8 _ p)) o b
theorem SV.find(g:leaf y=a8):∀{ys:a7 b0}{es:a7 (d3×b8)},SV w base c n s.heap ys es->(∀y∈ys,leaf y=a8)->((es.findIdx? λe=>(W9 prog w).is (y6 y) e.2).isSome=a8↔y∈ys)
 |[],es,q,_=>by rw[show es=[] from q];simp
 |z::ys,_,a,b=>by
  ext T0 a e r q l h i;subst q;have d:=b z j5;have j:(W9 prog w).is (y6 y) e.2=decide (y6 y=y6 z):=by rw[kY (Fa d h) (y6 y)]
  rw[JN,j];by_cases f:y6 y=y6 z
  .have m:y=z:=(Ts g d).mp f;simp[f,m]
  .have m:y≠z:=λq=>f (by rw[q]);simp only[f,kW,Bx,Bu,LZ,K5,m,false_or];exact SV.find g i λz k=>b z (k8 _ k)
theorem ll(ho:s.heap.get? a=a0 (Bq es ep t))(T:TT t es)(hS:SV w base c n s.heap ys es.toList)(hz:es.size<=63)(hv:V base c n s.heap y x)(hyt:leaf y=a8)(hys:∀z∈ys,leaf z=a8)(hq1:y∈ys->Q c8 s)
 (hq2:∀h' ys',y∉ys->Aj a s.heap h'->ys'.Perm (y::ys)->CN w base c n h' a ys' t.led->Q a8 {s with heap:=h'}):
 b9 (d7 prog w) A (VJ a x (q9 w y) 100000) Q E s:=by
 have hsc:=aE hyt hv;let hel:=hS.elems (prog:=prog) hys;refine Lh ho rfl T.ti.fits ?_;dsimp only;rw[byScan_of hsc (by unfold scanBound;exact Ca) hel];refine b5 (Ja ?_);rw[<-GT (prog:=prog) (w:=w) hyt];refine b5 (wpAny_setScan_of (Fa hyt hv) ho rfl T.ti.fits hel ?_);let hfind:=SV.find (prog:=prog) hyt hS hys;cases hr:oF (λe=>(W9 prog w).is (y6 y) e.2) es.toList with
 |some j=>rw[hr]at hfind;exact f6 (f6 (hq1 (hfind.mp rfl)))
 |none=>
  rw[hr]at hfind;have hm:y∉ys:=λh=>by cases hfind.mpr h
  rw[GT (prog:=prog) (w:=w) hyt];refine y3 (yE T (q9 w y)) λK hfree hj hb=>?_;let zz:=dJ (x:=x) T hj hb;ext1 zz P hled hsz hp;refine c9 (SV.perm (ys:=y::ys) hp ⟨_,_,rfl,rfl,hv,hS⟩) λys1 p1 hS1=>?_;let hlay:layNew t es (q9 w y) x=(U1 es (t.put (pj t.mask (q9 w y) K)).2 (q9 w y,x),(t.put (pj t.mask (q9 w y) K)).1,c8,c8):=by unfold layNew;rw[hfree];dsimp only;unfold yd;rw[P.ti.fits];rfl
  rw[hlay];generalize t.put (pj t.mask (q9 w y) K)=tp at P hled hsz hp hS1;clear hp;obtain⟨t1,p⟩:=tp;refine R8 ?_;let fin:∀b:b7,b9 (d7 prog w) A (do
   VY a (U1 es p (q9 w y,x)) (if b=a8 then t1 else{t1 with plain:=false})
   if(!c8&&(if b=a8 then t1 else{t1 with plain:=false}).tooFull)=a8 then
    let r:=Vd (if b=a8 then t1 else{t1 with plain:=false}) (U1 es p (q9 w y,x)) (Jy (U1 es p (q9 w y,x)).size)
    (match r.2.2 with|true=>rule "set.scan.the-table-gave-way"|false=>pure ())
    VY a r.1 r.2.1
   return a0 a8:M8 (j0 b7)) (λr s'=>b9 (d7 prog w) A (match r with
    |some added=>(pure added:M8 b7)
    |none=>VJ a x (q9 w y) 99999) Q E s') E s:=by
   intro b;let hP:PT (if b=a8 then t1 else{t1 with plain:=false}) (U1 es p (q9 w y,x)):=by
    cases b
    .exact P.plain c8
    .exact P
   let hl:(if b=a8 then t1 else{t1 with plain:=false}).led=t.led:=by clear hP;cases b<;>exact hled
   revert hP hl;refine gen (if b=a8 then t1 else{t1 with plain:=false}) λt2 hP hl=>?_;refine b5 (Qy ho rfl ?_ (by rw[hsz,O3];exact Ca));let hsb:=AY s.heap a (JK (U1 es p (q9 w y,x)) t2);let hS2:=SV.ext (NY ho hsb) hS1;let ho2:=Oi (es':=U1 es p (q9 w y,x)) (t':=t2) ho;rcases hP.room (by rw[hsz];exact BK ‹_›)with⟨hf,hT⟩|⟨hf,h1,t',order,h2,h3,h4,h5,h6,h7⟩
   .rw[hf];exact f6 (f6 (hq2 _ ys1 hm hsb p1 (BQ _ _ t2 ho2 hT hS2 hl)))
   .rw[hf];let hrel:Vd t2 (U1 es p (q9 w y,x)) (Jy (U1 es p (q9 w y,x)).size)=(order.filterMap ((U1 es p (q9 w y,x))[·]?),t',c8):=by unfold Vd;rw[h2];dsimp only;rw[h3,h4.ti.fits];rfl
    rw[hrel];refine R8 (c9 (SV.perm h6 hS2) λys2 p2 hS3=>b5 (Qy (s:={s with heap:=_}) ho2 rfl ?_ (by rw[h5,hsz,O3];exact Ca)));let hsb2:=AY (s.heap.update a (JK (U1 es p (q9 w y,x)) t2)) a (JK (order.filterMap ((U1 es p (q9 w y,x))[·]?)) t');exact f6 (f6 (hq2 _ ys2 hm (hsb.trans hsb2) (p2.trans p1) (BQ _ _ t' (Oi ho2) h4 (SV.ext (NY ho2 hsb2) hS3) (by rw[h7,hl]))))
  refine Ue ?_ ?_
  .refine b5 ?_;rw[hashByValue_scannable 8 hsc];exact f6 (fin _)
  .exact R8 (fin a8)
end
theorem bB(h:G8 xs)(e:y∈xs)(hz:z∈xs):(leaf y=a8/\leaf z=a8)\/((∃c,y= .B c)/\∃c,z= .B c):=by exact Fd (P:=λd y z=>(leaf y=a8/\leaf z=a8)\/((∃c,y= .B c)/\∃c,z= .B c)) (h y e z hz) (λd d=>.inl ⟨rfl,rfl⟩) (λd d=>.inl ⟨rfl,rfl⟩) λd a b d=>.inr ⟨⟨a,rfl⟩,b,rfl⟩
structure Ez (l:a7 i7) (s s':f8):Prop where
 heap:∀b o,b∉l->s.heap.get? b=a0 o->s'.heap.get? b=a0 o
 gens:s'.gens=s.gens
 os:s'.os=s.os
theorem Ez.trans(x:Ez l s s')(y:Ez l s' s''):Ez l s s'':=⟨λb o a e=>y.heap b o a (x.heap b o a e),y.gens.trans x.gens,y.os.trans x.os⟩theorem Ez.of(x:Moved l (λa b=>b=a) s s')(h:∀b∈l,b∈l'):Ez l' s s':=⟨λb o c e=>x.heap b o (λq=>c (h b q)) e,x.gens,x.os⟩
theorem EX(h:G8 xs):∀z,z∈D9 xs↔z∈xs:=by
 induction xs with
 |nil=>intro z;exact Iff.rfl
 |cons x r c=>
  let c:=c (λa f b g=>h a (k8 _ f) b (k8 _ g):G8 r);intro z;rw[Xp];by_cases d:r.any (l3 x)=a8
  .rw[g0 d,c z,K5];refine⟨.inr,?_⟩;rintro(rfl|i)
   .refine c9 (List.any_eq_true.mp d) λy j e=>?_;rw[W7 e];exact j
   .exact i
  .rw[j4 d,K5,K5,c z]
theorem GZ(h:G8 xs):(D9 xs).Nodup:=by
 induction xs with
 |nil=>exact Bz
 |cons x r e=>
  have c:G8 r:=λa f b g=>h a (k8 _ f) b (k8 _ g);rw[Xp];by_cases d:r.any (l3 x)=a8
  .rw[g0 d];exact e c
  .rw[j4 d,Ax];refine⟨λi=>d ?_,e c⟩;exact List.any_eq_true.mpr (d0 x ((EX c x).mp i) (Eu (h x j5 x j5)))
theorem Vs.at:∀{e:a7 b0}{vs:a7 b8}{h:l5},Vs base c n h e vs->∀(i:a6)(v:b8),vs[i]?=a0 v->∃d,e[i]?=a0 d/\V base c n h d v:=by
 intro g
 induction g with
 |nil=>intro vs f q i v a;rw[show vs=[] from q]at a;simp at a
 |cons d e j=>
  intro f f b i v a;ext o0 b m r q k l;subst q;cases i with
  |zero=>simp at a;subst a;exact d0 d rfl k
  |succ i=>simpa using j l i v (by simpa using a)
theorem ub(K:A.units+6<t3)(j:G8 xs)(C:(D9 xs).length<64)(r:CN w base c n s.heap a ys led)(G:ys.Nodup)(d:∀z∈ys,z∈xs)(p:y∈xs)(H:V base c n s.heap y x)
 (L:∀m o g b,Aj a s.heap m->(∀f e,s.heap.get? a≠a0 (x9 f e))->CN w base c n m a g led->g.Nodup->(∀z,z∈g↔z=y\/z∈ys)->Q b {s with heap:=m,toks:=o}):
 b9 (d7 prog w) A (setAdd a x) Q E s:=by
 ext G9 r M W t D T F N;have u:∀f e,s.heap.get? a≠a0 (x9 f e):=λf e q=>by
  rw[D]at q;have Y:=t0 nL (C5 q);cases Y
 let l:=j y p y p;refine K9 (b5 (KG 3 (gB K rfl) l H λo=>K9 ?_));haveI:Ec b0:=λa b=>Ea _
 let v:M.size<=63:=by let O:=F.len;rw[A0]at O;exact O▸b6 (V2 G λz k=>(EX j z).mpr (d z k)) (v0 C)
 have P:y∈ys->Q c8 {s with toks:=o}:=λI=>L s.heap o ys c8 (PO _ _) u (BQ M W t D T F N) G λz=>⟨.inr,λh=>h.elim (λe=>e▸I) id⟩;have R:∀m g,y∉ys->Aj a s.heap m->g.Perm (y::ys)->CN w base c n m a g t.led->Q a8 {s with heap:=m,toks:=o}:=λm g I X S r=>by
  rw[N]at r;refine L m o g a8 X u r (S.nodup_iff.mpr (List.nodup_cons.mpr ⟨I,G⟩)) λz=>?_;rw[S.mem_iff,K5]
 by_cases i:leaf y=a8
 .have J:∀z∈ys,leaf z=a8:=λz k=>by
   rcases bB j p (d z k)with h|⟨⟨U,rfl⟩,_⟩
   .exact h.2
   .exact no i
  exact ll (s:={s with toks:=o}) D T F v H i J P R
 .have B:∀z∈xs,∃U,z= .B U:=λz k=>by
   rcases bB j p k with h|h
   .exact(i h.1).elim
   .exact h.2
  exact iz (s:={s with toks:=o}) K D T F v H (B y p) (λz k=>B z (d z k)) (λz k=>j z (d z k) y p) l (λz k=>j z (d z k) z (d z k)) P R
theorem em{R:MJ->f8->Prop}{I l S:i7}{items:l4 b8}(hh:A.handled=b4)(hu:A.units+8<t3)(x:l≠I)(g:S≠I)(J:S≠l)(hom:G8 xs)(M:(D9 xs).length<64)(hxi:xs.length=items.size):
 ∀(k i:a6)(s:f8)(ys:a7 b0),items.size - i=k->i<=items.size->s.heap.IsListIter I l i->s.heap.IsList l items->Vs base c n s.heap xs items.toList->CN w base c n s.heap S ys led->ys.Nodup->(∀z,z∈ys↔z∈xs.take i)->
  (∀h j,Ez [S,I] s h->CN w base c n h.heap S j led->j.Nodup->(∀z,z∈j↔z∈xs)->R (.ok (.ret .none)) h)->
  BJ (d7 prog w) A (.builtin "set.update.loop" ⟨[.ref S,.ref I],[]⟩) R s:=by
 let W:=(UT (prog:=prog) (w:=w) (A:=A.in1) (by simpa using hh) I l x items).toS;intro k
 induction k with
 |zero=>intro i s ys E X f Y y r Z U D;have hin:i=items.size:=AL X (Vh E);clear E X;subst hin;refine Di mI ?_;rw[DS VV _];refine b5 (W.done s _ _ ⟨f,Y⟩ λh a=>f6 (D h ys (Ez.of a (by simp)) ?_ Z λz=>by rw[U z,<-hxi,X4]));ext G9 r es ep t ho T r B;refine BQ es ep t (a.heap S _ (by simpa using g) ho) T (SV.ext (λb items e V q=>a.heap b _ (λu=>?_) q) r) B;simp only[o9]at u;clear x g W D a;subst u;ext y3 f o G H V;rw[q]at G;rw[<-C5 G]at H;exact u6 (lV H) (by decide)
 |succ k ih=>
  intro i s ys E X f Y y r Z U D;have K:i<items.size:=Ml (E▸M7 _);refine Di mI ?_;rw[DS VV _];refine b5 (W.item i s _ _ K ⟨f,Y⟩ λv h hP p a=>c9 (Vs.at y i v (by rw[W6];exact hP)) λd hd hvd=>?_);have kp:∀b items e,¬c.P b->s.heap.get? b=a0 (x9 items e)->h.heap.get? b=a0 (x9 items e):=λb items e V q=>a.heap b _ (λu=>by
   simp only[o9]at u;clear x g W ih D p a;subst u;ext y3 f o G H V;rw[q]at G;rw[<-C5 G]at H;exact u6 (lV H) (by decide)) q
  let L:CN w base c n h.heap S ys led:=by ext G9 r es ep t ho T r B;exact BQ es ep t (a.heap S _ (by simpa using g) ho) T (SV.ext kp r) B
  refine b5 (K9 (ub (m9 ‹_›) hom M L Z (λz hz=>LV ((U z).mp hz)) (p8 hd) (BY kp hvd) λh' tk j b m hnt hA hn' hm'=>?_));let kp2:∀b items e,¬c.P b->h.heap.get? b=a0 (x9 items e)->h'.get? b=a0 (x9 items e):=λb items e V q=>by
   rewrite[m.2 b λe=>?_];exact q;clear g J ih r D L m hA;subst e;exact hnt _ _ q
  refine f6 ⟨Dh VV _,ih (i+1) _ j (oz E) K ?_ ?_ ?_ hA hn' (λz=>?_) λs'' N C O P Q=>?_⟩
  .exact p.1.at λo e=>by rw[m.2 I (C8 g)];exact e
  .exact p.2.at λo e=>by rw[m.2 l (C8 J)];exact e
  .exact Y8 kp2 (Y8 kp y)
  .rw[hm' z,U z,(by rw[Ak,hd];rfl:xs.take (i+1)=xs.take i++[d]),Gd,o9];exact or_comm
  .refine D s'' N ?_ O P Q;have hk2:Ez [S,I] h {h with heap:=h',toks:=tk}:=⟨λb o u e=>?_,rfl,rfl⟩;exact(Ez.of a (by simp)).trans (hk2.trans C);rw[m.2 b λq=>u (by rw[q];simp)];exact e
def BV(w:J3):b7:=!w.params.followText "set-order"
abbrev FC(led:b7):V6:=Bq #[] 0 (.fresh 0 0 led)theorem um(led:b7):TT (.fresh 0 0 led) #[]:=⟨⟨Ge,rfl,rfl,F9 _⟩,.inl rfl,(by refine(?_:0*5<7*3);decide),(λj a=>by cases a),(λi e j b c=>by simp at b)⟩
theorem bt(a:b8)(h:Q₁ (.ref s.heap.objs.size) {s with heap:=s.heap.push (FC (BV w))}):
 BJ (d7 prog w) A (.call (.builtin "set.__new__") ⟨[.type "set",a],[]⟩) (wants Q₁ E) s:=by
 refine LY (b5 (Jx (yc a) (f6 ⟨Dh mE _,Di ya ?_⟩)));rw[DS mE _];let b:=sub_set_self;unfold Builtin.«set.__new__» Z';obtain⟨c,g,d,e,f⟩:=s
 wp_walk
 exact Ps (f6 (b5 (qL (f6 (f6 h)))))
set_option maxHeartbeats 3200000 in
theorem bb(hh:A.handled=b4)(hu:A.units+20<t3)(ho:s.heap.get? l=a0 (AU items e))(hvs:Vs base c n s.heap xs items.toList)(hom:G8 xs)(hlen:(D9 xs).length<64)
 (hq:∀s' ys,(∀b o,s.heap.get? b=a0 o->s'.heap.get? b=a0 o)->s'.gens=s.gens->s'.os=s.os->CN w base c n s'.heap s.heap.objs.size ys (BV w)->ys.Nodup->(∀z,z∈ys↔z∈xs)->Q (.ref s.heap.objs.size) s'):
 b9 (d7 prog w) A (call (.type "set") [.ref l]) Q E s:=by
 refine S7 PySem.F.called_set.mro λcm tl hmro=>?_;let hmade:=PySem.F.called_set.made;let hsub:=PySem.F.called_set.sub;refine Vf (LY (f6 ⟨VI _ (by decide+kernel),Di w' ?_⟩));rw[B7.under_plain (weight_type_call_type "set" [.ref l] []) rfl];let h1:=PySem.F.called_set.notType;let h2:=PySem.F.called_set.canCreate;let hct:=O' (.ref l)
 repeat(any_goals(first|assumption|wp_step))
 refine Ka (bt (.ref l) (E:=E) (Q₁:=λobj s₁=>obj= .ref s.heap.objs.size/\s₁={s with heap:=s.heap.push (FC (BV w))}) ⟨rfl,rfl⟩) λr s₁ hr=>?_;cases r with
 |error e=>exact hr
 |ok fl=>
  cases fl with
  |ret obj=>
   ext k9 hr rfl rfl;let hS:(s.heap.push (FC (BV w))).get? s.heap.objs.size=a0 (FC (BV w)):=y9 _ rfl;let hT:EL {s with heap:=s.heap.push (FC (BV w))} (.ref s.heap.objs.size) "set":=d0 _ hS rfl;have hli:=PySem.F.called_set.init.lookup;have hbi:=PySem.F.called_set.init.bind (.ref s.heap.objs.size)
   repeat(any_goals(first|assumption|wp_step))
   refine Ka (codeAny_call_builtin (R:=wants (λr s₂=>r= .none/\Q (.ref s.heap.objs.size) s₂) E) PySem.F.called_set.init.plain N' (check_set_init_1 hT ?_)) λr₂ s₂ hr₂=>?_
   .let hol:=A9 _ ho;let hsls:=A_;let hslf:=W';let hne:(Wp "list"==Wp "dict")=c8:=by decide
    let hl1:(s.heap.push (FC (BV w))).IsList l items:=⟨_,hol,rfl,e,rfl⟩;unfold Builtin.«set.__init__» noKeywords za;generalize hPI:DV=PI
    wp_walk
    subst hPI;refine ML hl1 (b5 (pT ?_));let hlS:=C4 ho;let z1:=J7 ..;let hneI:l≠(s.heap.push (FC (BV w))).objs.size:=by rw[z1];exact m6 (BL hlS)
    let hSI:s.heap.objs.size≠(s.heap.push (FC (BV w))).objs.size:=by rw[z1];exact m6 (B8 _)
    let hxi:xs.length=items.size:=by rw[<-A0];exact(Vs.length hvs).symm
    refine em (led:=BV w) (xs:=xs) (base:=base) (c:=c) (n:=n) (items:=items) (l:=l) (by simpa using hh) ?_ hneI hSI (L0 hlS) hom hlen hxi items.size 0 _ [] rfl (F9 _)
     (v7 _ (y9 _ rfl) rfl rfl) (hl1.push _) ?_ (BQ _ _ _ (A9 _ hS) (um _) rfl rfl) Bz (λz=>by trivial) λs' ys' hk hA hn hm=>?_
    .exact(gL hu rfl:A.units+1+1+8<t3)
    .exact Y8 (λb items e w0 q=>A9 _ (A9 _ q)) hvs
    .refine(f6 ?_:b9 _ _ _ _ _ _);refine f6 ⟨rfl,hq s' ys' (λb o q=>?_) hk.gens hk.os hA hn hm⟩;let hb:=C4 q;refine hk.heap b o ?_ (A9 _ (A9 _ q));simp only[K5,J8,X6,Mw];refine⟨m6 hb,?_⟩;rw[z1];exact m6 (BL hb)
   .cases r₂ with
    |error e=>exact hr₂
    |ok fl₂=>
     cases fl₂ with
     |ret r=>
      ext k9 hr₂ rfl hq'
      repeat(any_goals(first|assumption|wp_step))
     |_=>exact hr₂.elim
  |_=>exact hr.elim
theorem NZ:Slot "set_iterator" "__next__" "set_iterator.__next__":=
 .of (owner:="set_iterator") (n:="__next__") (by rw[Gq,HP];kernel_rfl) (by decide+kernel) (by decide+kernel) (by decide+kernel)
  (by first|exact .inl (by decide+kernel)|exact .inr (by decide+kernel)) (by rw[MF];kernel_rfl)theorem uN:JX table "set_iterator.__next__"=a0 Builtin.«set_iterator.__next__»:=Wx (by kernel_rfl)theorem tV(a:b8):Pe "set_iterator.__next__" ⟨[a],[]⟩:=by unfold Pe;kernel_rfl
theorem pt:JX table "set.__iter__"=a0 Builtin.«frozenset.__iter__»:=
 VQ (id':="frozenset.__iter__") (by kernel_rfl) rfl (by decide+kernel) (by kernel_rfl)
theorem YC{α:Type}:∀{l:a7 α}{i:a6}{x:α},l[i]?=a0 x->(x::l.eraseIdx i).Perm l:=by
 intro b
 induction b with
 |nil=>intro c c h;simp at h
 |cons y l d=>
  intro a;cases a with
  |zero=>intro x h;simp at h;subst h;exact oW _
  |succ i=>intro x h;exact(jB _ _ _).trans ((d (by simpa using h:l[i]?=a0 x)).cons y)
theorem mm{α:Type}(a:a6->a6):∀(b k:a6)(left:a7 α)(c:l4 α),left.length<=b->(pH a b k left c).toList.Perm (c.toList++left):=by
 intro g
 induction g with
 |zero=>intro k left c h;have l:left=[]:=List.length_eq_zero_iff.mp (Nat.le_zero.mp h);clear h;subst l;refine(?_:c.toList.Perm _);rw[Y5]
 |succ b i=>
  intro k left c h
  conv in pH _ _ _ _ _=>whnf
  cases d:left[a k % left.length]? with
  |none=>
   dsimp only;have e:left.length<=a k % left.length:=List.getElem?_eq_none_iff.mp d;have l:left=[]:=by
    clear h d;cases left with
    |nil=>rfl
    |cons y r=>have l:=LX (a k) (show 0<(y::r).length from VR _);exact(Lf l e).elim
   clear h d e;subst l;rw[Y5]
  |some x=>
   have f:=YC d;have j:(left.eraseIdx (a k % left.length)).length<=b:=by have l:=f.length_eq;rw[N9]at l;exact nV (b6 (A1 l) h)
   refine(i (k+1) _ (c.push x) j).trans ?_;rw[JG,Eb];exact zu _ f
theorem ul{α:Type}(a:a6->a6)(xs:l4 α):(Vr a xs).toList.Perm xs.toList:=by let b:=mm a xs.size 0 xs.toList #[] (by simp);simpa[Vr]using b
theorem ri(a:k≠0)(h:∀i d,i<k->Q i {s with drawn:=d}):b9 M A (choose src k) Q E s:=λb b b=>⟨a,h _ _ (LX _ (MH a))⟩
theorem sN{α:Type}:∀(k:a6)(xs:a7 α)(s:f8){Q:a7 α->f8->Prop},xs.length=k->(∀c d,c.Perm xs->Q c {s with drawn:=d})->b9 M A (drawOrder k xs) Q E s:=by
 intro j
 induction j with
 |zero=>intro xs s Q b h;let a:=List.length_eq_zero_iff.mp b;clear b;subst a;exact f6 (h [] s.drawn .nil)
 |succ k l=>
  intro e;cases e with
  |nil=>intro s Q b h;simp at b
  |cons x r=>
   intro s Q b h;refine b5 (ri (by rw[b];exact a6.succ_ne_zero _) λi d m=>?_);let f:=v5 m;rw[f];let g:=YC f;let n:((x::r).eraseIdx i).length=k:=by let a:=g.length_eq;rw[N9]at a;exact AC (a.trans b)
   exact b5 (l _ _ n λc o p=>f6 (h _ o ((p.cons _).trans g)))theorem MS(h:Q (w.params.followText "set-order") s):b9 (d7 prog w) A setsByText Q E s:=by exact b5 (Ps (f6 h))
end Internal
set_option backward.match.sparseCases true
namespace Internal
open PySem PySem.W PyProof.Rows
abbrev FA(first:b8)(i:a6)(a:i7)(n ep:a6):V6:={cls:=.type "set_iterator",dict:=b4,data:=.fields #[first,.int i 0,.ref a,.int n 0,.int ep 0],slots:=#[]}def aV(w:J3)(es:l4 (d3×b8))(ep:a6)(a:i7)(ps:a7 (d3×b8)):Prop:=w.params.followText "set-order"=a8/\ps=(Vr (w.params.setOrder a ep) es).toList
def eW(w:J3)(es:l4 (d3×b8))(t:Aw)(ps:a7 (d3×b8)):Prop:=w.params.followText "set-order"=c8/\(!t.plain&&decide (es.size>1))=c8/\t.led=a8/\ps=es.toList
theorem eY(c:s.heap.get? a=a0 (Bq es ep t))(T:TT t es)(h:aV w es ep a ps)(i b:a6)(d:Q ((ps[i]?).map λe=>(e.2,b)) s):b9 (d7 prog w) A (WJ a b i ep) Q E s:=by ext1 h f rfl;refine b5 (Fs c rfl T.ti.fits ?_);dsimp only;refine b5 (MS ?_);rw[f];refine Fo rfl (X8 (by simp) (b5 (b5 (Fs c rfl T.ti.fits (b5 (MS ?_))))));rw[f];refine b5 (Ps (f6 (f6 ?_)));rw[W6]at d;exact d
theorem Zp(m:s.heap.get? a=a0 (Bq es ep t))(T:TT t es)(h:eW w es t ps)(i:a6)(b:a6)(hs:By t.place b=i)(c:∀e j,ps[i]?=a0 e->t.place[i]?=a0 j->Q (a0 (e.2,j+1)) s)(d:ps[i]?=b4->Q b4 s):
 b9 (d7 prog w) A (WJ a b i ep) Q E s:=by
 ext1 h n o p rfl;refine b5 (Fs m rfl T.ti.fits ?_);dsimp only;refine b5 (MS ?_);rw[n];refine(?_:b9 _ _ (if(!t.plain&&decide (es.size>1))=a8 then _ else _) _ _ _);rw[o];refine b5 ((?_:b9 _ _ (if(!t.led&&!es.isEmpty)=a8 then _ else _) _ _ _));rw[p];refine f6 ?_;rw[hs];rw[W6]at c d;cases f:es[i]? with
 |none=>exact f6 (d f)
 |some e=>let g:=UM f;ext1 g k q;obtain⟨j,l⟩:∃j,t.place[i]?=a0 j:=⟨_,DO (by rw[T.ti.size];exact k)⟩;rw[l];exact f6 (c e j f l)theorem sk(b:s.heap.get? a=a0 (Bq es ep t))(T:TT t es)(c:es[p]?=a0 e)(d:Q e.2 s):b9 (d7 prog w) A (pU a p ep) Q E s:=by refine b5 (Fs b rfl T.ti.fits (X8 (by simp) ?_));rw[c];exact f6 d
theorem NF(c:s.heap.get? it=a0 (FA (.int slot u) i a es.size ep))(f:s.heap.get? a=a0 (Bq es ep t))(T:TT t es)
 (h:b9 (d7 prog w) A (WJ a slot.toNat (i:d3).toNat (ep:d3).toNat>>=λr=>match r with
  |some (x,b)=>Gj (.ref it) 0 (G7 b)>>=λd=>Gj (.ref it) 1 (G7 (i+1))>>=λd=>ret x
  |none=>Gj (.ref it) 2 .none>>=λd=>PH (.type "StopIteration") []>>=λe=>Qg e) R E' s):
 b9 (d7 prog w) A (Builtin.«set_iterator.__next__» ⟨[.ref it],[]⟩) R E' s:=by
 refine b5 (f6 (b5 (lF c rfl ?_)));dsimp only;exact b5 (b5 (Fs f rfl T.ti.fits (f6 (X8 (by simp) h))))
theorem Yl(c:s.heap.get? it=a0 (FA (.ref p) i a es.size ep))(f:s.heap.get? a=a0 (Bq es ep t))(T:TT t es)(g:s.heap.get? p=a0 (x9 places e))
 (h:b9 (d7 prog w) A (match places[(i:d3).toNat]? with
  |some (.int b _)=>pU a b.toNat (ep:d3).toNat>>=λx=>Gj (.ref it) 1 (G7 (i+1))>>=λd=>ret x
  |some _=>unsupported "internal:set_iterator"
  |none=>Gj (.ref it) 0 (G7 0)>>=λd=>Gj (.ref it) 2 .none>>=λd=>PH (.type "StopIteration") []>>=λe=>Qg e) R E' s):
 b9 (d7 prog w) A (Builtin.«set_iterator.__next__» ⟨[.ref it],[]⟩) R E' s:=by
 refine b5 (f6 (b5 (lF c rfl ?_)));dsimp only;exact b5 (b5 (Fs f rfl T.ti.fits (f6 (X8 (by simp) (b5 (Ce g rfl h))))))
theorem dN(c:s.TypeIs (.ref it) "set_iterator")
 (h:b9 (d7 prog w) A.in1 (Builtin.«set_iterator.__next__» ⟨[.ref it],[]⟩) (λb a=>∃r,b= .done (.ret r)/\Q (a0 r) a) (λe a=>b9 (d7 prog w) A (do if<-Pt e (.type "StopIteration")then pure b4 else throw e) Q E a) s):
 b9 (d7 prog w) A (Gc (.ref it)) Q E s:=by
 refine b5 (jD (HN (name:=Cg "__next__") c NZ
  (Ah NZ c uN ?_ (tV _))))
 refine v6 h ?_ ?_
 .rintro b a d;ext c9 d r rfl f;exact d0 r rfl (f6 f)
 .intro e a g;exact g
end Internal
set_option backward.match.sparseCases false
namespace Internal
open PySem PySem.W PyProof.Rows
theorem bR:Slot "set_iterator" "__iter__" "set_iterator.__iter__":=
 .of (owner:="set_iterator") (n:="__iter__") (by rw[Gq,HP];kernel_rfl) (by decide+kernel) (by decide+kernel) (by decide+kernel)
  (by first|exact .inl (by decide+kernel)|exact .inr (by decide+kernel)) (by rw[MF];kernel_rfl)
theorem xh:JX table "set_iterator.__iter__"=a0 Builtin.«dict_keyiterator.__iter__»:=
 VQ (id':="dict_keyiterator.__iter__") (by kernel_rfl) rfl (by decide+kernel) (by kernel_rfl)theorem vN(a:b8):Pe "set_iterator.__iter__" ⟨[a],[]⟩:=by unfold Pe;kernel_rfl
def pq(w:J3)(h:l5)(es:l4 (d3×b8))(p:i7)(ps:a7 (d3×b8)):Prop:=
 ∃(order:a7 a6)(e:a6),h.get? p=a0 (x9 (order.map λ(i:a6)=>G7 i).toArray e)/\(∀j∈order,j<es.size)/\ps=order.map λj=>(es[j]?).getD (0,.none)
def Md(w:J3)(h:l5)(es:l4 (d3×b8))(ep:a6)(t:Aw)(a p:i7)(ps:a7 (d3×b8))(first:b8)(i:a6):Prop:=
 (∃sl:a6,first=G7 sl/\aV w es ep a ps)\/(∃sl:a6,first=G7 sl/\eW w es t ps/\By t.place sl=i)\/(first= .ref p/\pq w h es p ps)
def YO(w:J3)(es:l4 (d3×b8))(ep:a6)(t:Aw)(it a p:i7)(ps:a7 (d3×b8))(i:a6)(s:f8):Prop:=
 ∃first,s.heap.get? it=a0 (FA first i a es.size ep)/\s.heap.get? a=a0 (Bq es ep t)/\Md w s.heap es ep t a p ps first i
theorem QP{R:Fin->f8->Prop}{Q:j0 b8->f8->Prop}(f:A.handled=b4)(c:s.heap.get? it=a0 {cls:=cls,dict:=b4,data:=.fields vs,slots:=#[]})(g:2<vs.size)
 (h:∀d,MM it s.heap d->Q b4 {s with heap:=d}):
 b9 (d7 prog w) A.in1 (Gj (.ref it) 2 .none>>=λj=>PH (.type "StopIteration") []>>=λe=>Qg e) R
  (λe i=>b9 (d7 prog w) A (do if<-Pt e (.type "StopIteration")then pure b4 else throw e) Q E i) s:=by
 refine b5 (Ww c rfl g ?_);refine b5 ?_;refine b5 (Fu ?_ (by size_fits));refine b5 (m:=Qj _ _) (Jx (a:=HW) (by first|rfl|(simp only[Qj];rfl)) ?_);refine Fu ?_ (by size_fits);refine b5 (iK ?_);rw[show A.in1.handled=b4 from f];refine b5 (f6 (lW ?_));refine b5 (Jw (T:="StopIteration") (b:=true) (d0 _ (y9 _ rfl) rfl) qC ?_);exact f6 (h _ (((AY ..).extBut.push _).push _))
theorem wl(N:A.handled=b4)(T:TT t es)(W:a≠it)(X:p≠it)(l:ps.length=es.size):
 WalksS prog w A it [it,a,p] [it] (λx y=>y=x) es.size (λi v=>∃e,ps[i]?=a0 e/\v=e.2) (YO w es ep t it a p ps) where
 sub:=λb F=>by simp at F;simp[F]
 grefl:=λI=>rfl
 gtrans:=λI I I f g=>g.trans f
 frame:=λi s h tk⟨first,f,g,d⟩_ O=>by
  refine v7 first (O it j5 _ f) (O a (k8 _ j5) _ g) ?_;rcases d with d|d|⟨d,c,e,B,J⟩
  .exact .inl d
  .exact .inr (.inl d)
  .exact .inr (.inr ⟨d,c,e,O p (k8 _ (k8 _ j5)) _ B,J⟩)
 self:=λi s Q E P K=>y3 P λfirst f g d=>by
  let R:s.TypeIs (.ref it) "set_iterator":=d0 _ f rfl;refine Vi R bR (Ah bR R xh ?_ (vN _));exact f6 ⟨_,rfl,"set_iterator",_,R,NZ.lookup,K⟩
 done:=λs Q E P K=>y3 P λfirst f g d=>by
  have M:ps[es.size]?=b4:=AA (A1 l);have z:∀h,MM it s.heap h->Q b4 {s with heap:=h}:=λh r=>K _ ⟨λb o F e=>r b o (λq=>F (by simp[q])) e,rfl,rfl,rfl,l8 _⟩;refine dN (d0 _ f rfl) ?_;rcases d with⟨L,rfl,d⟩|⟨L,rfl,d,B⟩|⟨rfl,c,e,B,J,rfl⟩
  .refine NF f g T (b5 (eY g T d _ _ ?_));simp only[Q8,M];exact QP N f (by simp) z
  .refine NF f g T (b5 (Zp g T d _ _ (by rw[Q8,Q8];exact B) (λe j r I=>?_) λI=>?_))
   .rw[Q8,M]at r;cases r
   .exact QP N f (by simp) z
  .refine Yl f g T B ?_;have S:((c.map λ(i:a6)=>G7 i).toArray)[((es.size:a6):d3).toNat]?=b4:=by rw[Q8,WW,AA];rw[f7]at l ⊢;exact A1 ‹_›
   rw[S];exact b5 (HT f (M7 _) λh r C=>QP (s:={s with heap:=h}) N r (by simp) λu k=>z u (C.extBut.trans k))
 item:=λi s Q E Z⟨first,f,g,d⟩K=>by
  obtain⟨e,r⟩:=(⟨_,v5 (Cv Z l)⟩:∃e,ps[i]?=a0 e);refine dN (d0 _ f rfl) ?_;have U:∀(first:b8)(h:l5),h.get? it=a0 (FA first (i+1) a es.size ep)->Aj it s.heap h->Md w h es ep t a p ps first (i+1)->Q (a0 e.2) {s with heap:=h}:=λfirst h q1 q2 q3=>K e.2 _ (d0 e r rfl) (v7 first q1 (by rw[q2.2 a W];exact g) q3) ⟨λb o F q=>by rw[q2.2 b λx=>F (by simp[x])];exact q,rfl,rfl,rfl,l8 _⟩
  let n:(G7 ((i:d3)+1))= .int ((i+1:a6):d3) 0:=by simp[G7]
  rcases d with⟨L,rfl,d⟩|⟨L,rfl,d,B⟩|⟨rfl,c,e',B,J,V⟩
  .refine NF f g T (b5 (eY g T d _ _ ?_));simp only[Q8,r,Au];refine b5 (HT f (M7 _) λh k C=>b5 (HT (s:={s with heap:=h}) k (by simp) λu m D=>?_));rw[n]at m;exact f6 (d0 _ rfl (U (G7 L) u (by simpa[FA]using m) (C.trans D) (.inl (d0 L rfl d))))
  .refine NF f g T (b5 (Zp g T d _ _ (by rw[Q8,Q8];exact B) (λe1 j G H=>?_) λG=>?_))
   .rw[Q8]at G H;rw[r]at G;cases G;refine b5 (HT f (M7 _) λh k C=>b5 (HT (s:={s with heap:=h}) k (by simp) λu m D=>?_));rw[n]at m;exact f6 (d0 _ rfl (U (G7 ((j+1:a6):d3)) u (by simpa[FA]using m) (C.trans D) (.inr (.inl (v7 (j+1) rfl d (oh T.ti.rise H))))))
   .rw[Q8,r]at G;cases G
  .refine Yl f g T B ?_;obtain⟨j,H⟩:∃j,c[i]?=a0 j:=by rw[V,f7]at l;exact⟨_,v5 (Cv Z l)⟩
   have S:((c.map λ(i:a6)=>G7 i).toArray)[((i:a6):d3).toNat]?=a0 (.int j 0):=by rw[Q8,WW,o7,H];rfl
   rw[S];have Y:es[j]?=a0 e:=by rw[V,o7,H,Au]at r;rw[DO (J j (p8 H))]at r ⊢;simpa using r
   refine b5 (sk g T (by rw[Q8];exact Y) (b5 (HT f (by simp) λh k C=>?_)));rw[n]at k;exact f6 (d0 _ rfl (U (.ref p) h (by simpa[FA]using k) C (.inr (.inr ⟨rfl,c,e',by rw[C.2 p X];exact B,J,V⟩))))
theorem se(k:s.heap.get? a=a0 (Bq es ep t))(T:TT t es)(H:t.led=BV w)(hz:es.size<=64)
 (I:∀o p first b d ps,Ext s.heap b->s.heap.objs.size<=o->p≠o->p<b.objs.size->(p=a\/s.heap.objs.size<=p)->b.get? o=a0 (FA first 0 a es.size ep)->Md w b es ep t a p ps first 0->ps.Perm es.toList->Q (.ref o) {s with heap:=b,drawn:=d}):
 b9 (d7 prog w) A (DV (.ref a)) Q E s:=by
 let C:s.TypeIs (.ref a) "set":=d0 _ k rfl;let m:=C4 k;refine Vi C lU (Ah lU C pt ?_ (i_ _));unfold Builtin.«frozenset.__iter__» Q_ slotArgs;simp only[a7.isEmpty_nil,b7.not_true,Bx,↓reduceIte,mH,AH,iW];refine b5 (f6 ?_)
 try dsimp only
 refine b5 (f6 ?_)
 try dsimp only
 refine b5 (b5 (wpAny_setEntries_of k rfl T.ti.fits (f6 (b5 (b5 (Fs k rfl T.ti.fits (b5 (MS (f6 ?_)))))))));have c:∀(first:b8)(h:l5)(p:i7)(ps:a7 (d3×b8))(d:Drawn),Ext s.heap h->p<h.objs.size->(p=a\/s.heap.objs.size<=p)->ps.Perm es.toList->(∀b,Ext h b->Md w b es ep t a p ps first 0)->
  b9 (d7 prog w) A.in1 (setEpoch a>>=λe=>newFields "set_iterator" [first,G7 0,.ref a,G7 es.size,G7 e]>>=λv=>ret v) (λc D=>∃v,c= .done (.ret v)/\∃F r,D.TypeIs v F/\Cf (.type F) (Cg "__next__")=pure (a0 r)/\Q v D) E {s with heap:=h,drawn:=d}:=by
  intro first h p ps d l g y z J
  refine b5 (wpAny_setEpoch_of (s:={s with heap:=h,drawn:=d}) (l.2 _ _ k) rfl T.ti.fits (b5 ?_));refine Fu (f6 ⟨_,rfl,"set_iterator",_,(d0 _ (y9 _ rfl) rfl),NZ.lookup,?_⟩)
   (by simp only[sizeOk,Mm,N9,AH,O3];exact M0 _ _)
  refine I _ p first _ d ps (l.trans (Ext.push _ _)) l.1 (m6 g) ?_ y ?_ (J _ (Ext.push _ _)) z
  .refine(?_:p<(h.push _).objs.size);rw[J7];exact BL g
  .exact y9 _ rfl
 cases q:w.params.followText "set-order" with
 |true=>exact c (G7 0) s.heap a _ s.drawn (Ext.refl _) m (.inl rfl) (ul _ _) λb u=>.inl ⟨0,rfl,q,rfl⟩
 |false=>
  by_cases x:(!t.plain&&decide (es.size>1))=a8
  .refine Mp (λu=>?_) λK=>(K x).elim;refine b5 (sN _ _ _ (by simp) λf d g=>b5 (PQ ?_ (by rw[f7,g.length_eq,Br,O3];exact p6)));refine c _ _ s.heap.objs.size (f.map λj=>(es[j]?).getD (0,.none)) d (Ext.push _ _) (by rw[J7];exact B8 _) (.inr (l8 _)) ?_ λb l=>?_
   .refine(g.map _).trans ?_;let n:(p0 es.size).map (λj=>(es[j]?).getD (0,HW))=es.toList:=by
     apply Gx;intro i;rw[o7];by_cases G:i<es.size
     .rw[JB G];simp[G]
     .rw[AA (by simp;exact Bm ‹_›),AA (by simp;exact Bm ‹_›)];rfl
    rw[n]
   .refine .inr (.inr ⟨rfl,f,_,l.2 _ _ (y9 _ rfl),λj L=>?_,rfl⟩);exact U7 (g.mem_iff.mp L)
  .refine Mp (λM=>(x M).elim) λu=>b5 (f6 ?_);let B:(!t.plain&&decide (es.size>1))=c8:=by
    cases h:(!t.plain&&decide (es.size>1))with
    |true=>exact(x h).elim
    |false=>rfl
   exact c (G7 0) s.heap a _ s.drawn (Ext.refl _) m (.inl rfl) (oW _) λb u=>.inr (.inl (v7 0 rfl (M3 q B (by rw[H];unfold BV;rw[q];rfl) rfl) (qu T.ti.rise)))
theorem sT(d:s.TypeIs (.ref a) "set")(h:Q c8 s):b9 (d7 prog w) A (zq (.ref a)) Q E s:=by
 refine b5 (HH d PySem.F.slot_set_len.lookup ?_);generalize e:"set.__len__"=g
 wp_delta
 subst e;refine b5 (Jw (T:="set") (b:=true) d (by rw[MF];kernel_rfl) (Mp (λc=>u6 c (by decide)) λf=>Mp (λf=>?_) λc=>(c (by decide+kernel)).elim));exact b5 (HI d (f6 h))
end Internal
set_option backward.match.sparseCases true
namespace Internal
open PySem PySem.W PyProof.Rows
section
variable{prog:A5}{w:J3}{A:B7}{E:qVS}{base:l5}{c:Cx}{n:a6}{s:f8}{a:i7}{ys:a7 b0}
theorem ik(hh:A.handled=b4)(hA:CN w base c n s.heap a ys (BV w))(hz:ys.length<=64){Q:a7 b8->f8->Prop}
 (hq:∀s' vs u,u.Perm ys->Vs base c n s'.heap u vs->Ext s.heap s'.heap->s'.gens=s.gens->s'.os=s.os->Q vs s'):b9 (d7 prog w) A (collect (.ref a)) Q E s:=by
 refine W2 ?_;ext G9 hA C ep t ho T hS hl;have O:C.size=ys.length:=by rw[<-A0];exact hS.len
 let P:=C4 ho;refine b5 (pT (Di entry_proto_collect' ?_));rw[DS xu _];refine(b5 (Fu ?_):b9 _ A.in1 (newList []>>=λl=>again (.builtin "list.__iadd__" ⟨[l,.ref a],[]⟩)) _ _ s);refine f6 ⟨Dh lE _,Di entry_list_iadd' ?_⟩;rw[DS lE _];let h:(s.heap.push {cls:=.type "list",data:=.seq [].toArray}).get? s.heap.objs.size=a0 {cls:=.type "list",dict:=b4,data:=.seq #[] 0,slots:=#[]}:=y9 _ rfl;let g:=A9 _ ho;let z0:=J7 ..;let S:=Ext.push _ _;generalize s.heap.push {cls:=.type "list",data:=.seq [].toArray}=h0 at h g z0 S;refine(?_:b9 _ A.in1 (zd (.ref s.heap.objs.size) (.ref a) (.ref s.heap.objs.size)) _ _ _);let x:=L0 P;refine b5 (HI ((d0 _ g rfl):EL {s with heap:=h0} (.ref a) "set") (X8 (by rw[(by simp[jM,x]:jM (.ref s.heap.objs.size) (.ref a)=c8)];decide) (b5 (se (s:={s with heap:=h0}) g T hl (gH O hz rfl) λM p first h' d K D hit hpit hp H hio F U=>b5 (K9 (sT ((d0 _ (D.2 _ _ g) rfl):EL {s with heap:=h',drawn:=d} (.ref a) "set") ?_))))));let q0:s.heap.objs.size+1<=M:=by rw[<-z0];exact hit
 let V:=m6 (QC q0);have z:K.length=C.size:=by rw[U.length_eq,A0]
 let zz:=SV.perm U hS;ext1 zz u W y;let X:∀(s':f8)(f:l4 b8)(r:a6),(∀b o,s.heap.get? b=a0 o->s'.heap.get? b=a0 o)->s'.gens=s.gens->s'.os=s.os->s'.heap.get? s.heap.objs.size=a0 {cls:=.type "list",dict:=b4,data:=.seq f r,slots:=#[]}->
  ItemsOf (λi v=>∃e,K[i]?=a0 e/\v=e.2) f C.size->b9 (d7 prog w) A (load s.heap.objs.size>>=λo=>match o.data with
   | .seq xs _=>pure xs.toList
   |_=>unsupported "internal:collect") (λvs s'=>s.heap.objs.size<=s'.heap.objs.size->Q vs s') E s':=by
  intro s' f r G hg ho' hS2 j;refine b5 (WU hS2 (f6 λhsz=>?_));let hv:f.toList=K.map (·.2):=by
   apply Gx;intro i;rw[W6,o7];cases hi:f[i]? with
   |some v=>refine c9 (j.2 i v hi) ?_;clear hi;rintro e D rfl;rw[D];rfl
   |none=>have:=Array.getElem?_eq_none_iff.mp hi;rw[j.1]at this;rw[AA (aT z this)];rfl
  let Y:=SV.vals (SV.ext (λb items e w0 q=>G b _ q) y);rw[<-hv]at Y;exact hq s' f.toList u W Y ⟨hsz,G⟩ hg ho'
 let B:∀(N:l5)(c1:a6),(∀b o,b≠s.heap.objs.size->h'.get? b=a0 o->N.get? b=a0 o)->N.get? s.heap.objs.size=a0 {cls:=.type "list",dict:=b4,data:=.seq #[] c1,slots:=#[]}->∀{R:MJ->f8->Prop},
  (∀(s':f8)(f:l4 b8)(r:a6),(∀b o,s.heap.get? b=a0 o->s'.heap.get? b=a0 o)->s'.gens=s.gens->s'.os=s.os->s'.heap.get? s.heap.objs.size=a0 {cls:=.type "list",dict:=b4,data:=.seq f r,slots:=#[]}->
   ItemsOf (λi v=>∃e,K[i]?=a0 e/\v=e.2) f C.size->R (.ok (.ret (.ref s.heap.objs.size))) s')->
  BJ (d7 prog w) A (.builtin "list.extend.loop" ⟨[.ref s.heap.objs.size,.ref M,.ref s.heap.objs.size],[]⟩) R {s with heap:=N,drawn:=d}:=by
  intro N c1 G hS1 R hR;have Z:s.heap.objs.size≠p:=by
   rcases H with rfl|H
   .exact x
   .let this:s.heap.objs.size+1<=p:=by rw[<-z0];exact H
    exact m6 (QC this)
  let hSf:s.heap.objs.size∉[M,a,p]:=by simp only[K5,J8,X6,Mw];exact m0 V x Z
  let hst:YO w C ep t M a p K 0 {s with heap:=N,drawn:=d}:=by
   refine v7 first (G _ _ (C8 V) hio) (G _ _ (C8 x) (D.2 _ _ g)) ?_;rcases F with F|F|⟨F,J,e,h4,h5⟩
   .exact .inl F
   .exact .inr (.inl F)
   .exact .inr (.inr ⟨F,J,e,G p _ (C8 Z) h4,h5⟩)
  refine codeAny_extend_loopS (wl (prog:=prog) (w:=w) (A:=A.in1) (a:=a) (it:=M) (p:=p) (ep:=ep) (ps:=K) (by simpa using hh) T (m6 (AJ P (QC q0))) hpit z) (by rw[O3];exact gH O hz rfl:C.size<=HX) _ hSf _ C.size 0 _ _ _ rfl (F9 _) hst hS1 (xr _) λs' f r I y j=>hR s' f r (λb o e=>?_) I.gens I.os y j;let L:=C4 e;refine I.heap b o ?_ (G b o (m6 L) (D.2 _ _ (S.2 _ _ e)));simp only[K5,J8,X6,Mw];exact⟨m6 L,m6 (AJ L (QC q0))⟩
 refine Mp (λw0=>?_) λw0=>f6 ⟨Dh iA _,B _ 0 (λb o w0 e=>e) (D.2 _ _ h) λs' f r k1 k2 k3 k4 k5=>X s' f r k1 k2 k3 k4 k5⟩;refine b5 (EN ?_);let k:=D.2 _ _ h;refine b5 (b5 (LR (s:={s with heap:=h',drawn:=d}) k rfl ?_));let m:=Hr (AI (·.push HW)) k rfl;refine LR (hz:=by decide) m rfl (f6 ⟨Dh iA _,B _ _ (λb o L e=>?_) (Hr (AI (·.pop)) m rfl) λs' f r k1 k2 k3 k4 k5=>X s' f r k1 k2 k3 k4 k5⟩);exact(Hs _ _ (C8 L)).trans ((Hs _ _ (C8 L)).trans e)theorem zP(h:xs.all (λx=>xs.all λy=>P0 x y)=a8):G8 xs:=λx a y b=>S9 (S9 h x a) y b
theorem cP(p:ys.Perm xs)(h:C1 xs=a8):C1 ys=a8:=by unfold C1 at h ⊢;simp only[C2,C3,V8]at h ⊢;ext k9 h ⟨b,c⟩ d;exact⟨⟨by rw[p.length_eq];exact b,λx a y e=>c x (p.mem_iff.mp a) y (p.mem_iff.mp e)⟩,λx a=>d x (p.mem_iff.mp a)⟩theorem Ut(d:G8 xs)(c:G8 ys)(p:ys.Perm xs):y8 ys=y8 xs:=by refine TU (λa e b f=>c a ((Y2 ys).mem_iff.mp e) b ((Y2 ys).mem_iff.mp f)) ?_ (KW c) (KW d);exact((Y2 ys).trans p).trans (Y2 xs).symm
end
section
variable{prog:A5}{X:Fx}{A:B7}{E:qVS}{c:Cx}{st:St}{s:f8}{G:i7->Prop}{Q:Q1}
theorem oj(u:A.handled=b4)(v:A.units+12<t3)(R:i8 X c st s₀)(k:Ext s₀.heap s.heap)(l:s.gens=s₀.gens)(m:s.os=s₀.os)(w:CN X.w X.M c st.n s.heap a ys (BV X.w))(t:ys.Perm xs)(j:C1 xs=a8)
 (x:Q (.ref st.n) (st.A (.L (y8 xs)))):b9 (d7 prog X.w) A (call (.builtin "sorted") [.ref a]) (j6 X c st s₀ G Q) E s:=by
 let H:=He j;refine YV (base:=X.M) (c:=c) (n:=st.n) (gB v rfl) (ik (by simpa using u) w (by rw[t.length_eq];exact m9 ‹_›) λI J o p y z B C=>?_);have f:=p.trans t;let d:=cP f j;refine v7 o d y λK b F e D q h r=>?_;let g:=k.trans z;refine j6.new R (b6 g.1 D) (g.trans q) (B.trans l) (C.trans m) (J6.L h r ?_) ?_
 .rw[aP];let i:=He d;unfold j8;exact m9 (j7 i (by decide))
 .rw[Ut (FU j) (FU d) f];exact x
end
end Internal
set_option backward.match.sparseCases false
namespace Internal
open PySem PySem.W PyProof.Rows
section
variable{prog:A5}{X:Fx}{C:Cl}{A:B7}{sc:E7}{c c':Cx}{st st':St}{s s' s'':f8}{env:I0}{ρ:Env}{F:i7->Prop}{fp:a7 i7}
theorem zY(L:Laid0 X)(i:Be A)(y:J4 E=a8)(O:O1 sc "sorted"=a8)(l:O1 sc "set"=a8)(P:SX prog X C A sc e E):
 SX prog X C A sc (.bi .sS (.cons e .nil)) (.Call (.Name (nm "sorted") p1) [.Call (.Name (nm "set") p2) [E] [] pos2] [] pos1):=by
 intro c B s Z ρ Q D H R S;let F:=i.hu;refine HC (Kv L H R (x:="sorted") (v:=.builtin "sorted") (Ap 9 rfl) (D▸O) (Pn (FS (by rfl)) (FI (by rfl) (MD (GH (es:=.cons e .nil) (Q1:=λG B=>o8 (M4 .sS G B) Q) L (x:="set") (v:=.type "set") (Ap 10 rfl) (.inr ⟨_,rfl⟩) (by simp[y]) l (ES P GR y) D H R S λvs G c1 st1 s1 h I m T=>Fg m h λd v J h=>c9 (CY h) λxs K n=>?_)))));let j:=Am n;ext1 j M o;ext u0 M U h2 N;have f:=zP U;clear h;refine M6 (I.list J K) ?_;clear J K;rintro a w e rfl ha hsa rfl V k;ext1 k p hz;refine W2 (bb i.hh (gB F rfl) V p f (He N) λs2 ys W q r g t Y u=>JF ?_);haveI:Ec b0:=λa b=>Ea _
 exact Ad T (oj i.hh (gB F rfl) I ⟨u,W⟩ q r g (KU t (GZ f) λz=>by rw[Y z,EX f z]) N o)
end
theorem bd(h:(a&&b)=a8):a=a8/\b=a8:=C2 _ _▸h
structure HE where
 const:Mn->b7:=λw0=>c8
 name:n4->b7:=λw0=>c8
 C:j9->n4->X7->b7:=λw0 w0 w0=>c8
 sub:j9->j9->b7:=λw0 w0=>c8
 slice:(j0 j9)->(j0 j9)->(j0 j9)->b7:=λw0 w0 w0=>c8
 un:UnaryOp->j9->b7:=λw0 w0=>c8
 B:(a7 j9)->b7:=λw0=>c8
 list:(a7 j9)->b7:=λw0=>c8
 dict:(a7 (j0 j9))->(a7 j9)->b7:=λw0 w0=>c8
 bin:j9->Wa->j9->b7:=λw0 w0 w0=>c8
 bool:MC->(a7 j9)->b7:=λw0 w0=>c8
 cmp:j9->(a7 Mr)->(a7 j9)->b7:=λw0 w0 w0=>c8
 ite:j9->j9->j9->b7:=λw0 w0 w0=>c8
 Q:j9->(a7 CI)->E7->b7:=λw0 w0 w0=>c8
 call:j9->(a7 j9)->(a7 Keyword)->X7->b7:=λw0 w0 w0 w0=>c8
def Bf(h:HE)(E:j9):b7:=match E with
 | .Constant c _ _=>h.const c
 | .Name t _=>h.name t
 | .Attribute e g p=>h.C e g p
 | .Subscript e i _=>h.sub e i
 | .Slice a b c _=>h.slice a b c
 | .UnaryOp o e _=>h.un o e
 | .Tuple l _ _=>h.B l
 | .List l _=>h.list l
 | .Dict a b _=>h.dict a b
 | .BinOp a o b _=>h.bin a o b
 | .BoolOp o l _=>h.bool o l
 | .Compare a o l _=>h.cmp a o l
 | .IfExp c a b _=>h.ite c a b
 | .ListComp e g s _=>h.Q e g s
 | .Call f es ks p=>h.call f es ks p
 |_=>c8
section
variable{P:j9->Prop}
theorem BG(x:Bf h E=a8)(c0:∀c n p,h.const c=a8->P (.Constant c n p))(v:∀t p,h.name t=a8->P (.Name t p))(w:∀e g p,h.C e g p=a8->P (.Attribute e g p))(y:∀e i p,h.sub e i=a8->P (.Subscript e i p))(z:∀a b c p,h.slice a b c=a8->P (.Slice a b c p))(A:∀o e p,h.un o e=a8->P (.UnaryOp o e p))(B:∀l n p,h.B l=a8->P (.Tuple l n p))(C:∀l p,h.list l=a8->P (.List l p))(D:∀a b p,h.dict a b=a8->P (.Dict a b p))(F:∀a o b p,h.bin a o b=a8->P (.BinOp a o b p))(d:∀o l p,h.bool o l=a8->P (.BoolOp o l p))(j:∀a o l p,h.cmp a o l=a8->P (.Compare a o l p))(k:∀c a b p,h.ite c a b=a8->P (.IfExp c a b p))(m:∀e g s p,h.Q e g s=a8->P (.ListComp e g s p))(q:∀f r u p,h.call f r u p=a8->P (.Call f r u p)):P E:=by cases E<;>first|exact no x|exact c0 _ _ _ x|exact v _ _ x|exact w _ _ _ x|exact y _ _ _ x|exact z _ _ _ _ x|exact A _ _ _ x|exact B _ _ _ x|exact C _ _ x|exact D _ _ _ x|exact F _ _ _ _ x|exact d _ _ _ x|exact j _ _ _ _ x|exact k _ _ _ _ x|exact m _ _ _ _ x|exact q _ _ _ _ x
def Ie(E:j9)(k:Mn->b7):b7:=Bf {const:=k} E
theorem Ke(h:Ie E k=a8)(H:∀c n p,k c=a8->P (.Constant c n p)):P E:=by apply BG h<;>first|exact H|exact λa a=>no|exact λa a a=>no|exact λa a a a=>no
def GU(E:j9)(k:n4->b7):b7:=Bf {name:=k} E
theorem Ou(h:GU E k=a8)(H:∀t p,k t=a8->P (.Name t p)):P E:=by apply BG h<;>first|exact H|exact λa a=>no|exact λa a a=>no|exact λa a a a=>no
def KQ(E:j9)(k:j9->n4->X7->b7):b7:=Bf {C:=k} E
theorem MY(h:KQ E k=a8)(H:∀e g p,k e g p=a8->P (.Attribute e g p)):P E:=by apply BG h<;>first|exact H|exact λa a=>no|exact λa a a=>no|exact λa a a a=>no
def Js(E:j9)(k:j9->j9->b7):b7:=Bf {sub:=k} E
theorem KP(h:Js E k=a8)(H:∀e i p,k e i=a8->P (.Subscript e i p)):P E:=by apply BG h<;>first|exact H|exact λa a=>no|exact λa a a=>no|exact λa a a a=>no
def OC(E:j9)(k:(j0 j9)->(j0 j9)->(j0 j9)->b7):b7:=Bf {slice:=k} E
theorem Rk(h:OC E k=a8)(H:∀a b c p,k a b c=a8->P (.Slice a b c p)):P E:=by apply BG h<;>first|exact H|exact λa a=>no|exact λa a a=>no|exact λa a a a=>no
def SK(E:j9)(k:UnaryOp->j9->b7):b7:=Bf {un:=k} E
theorem Xw(h:SK E k=a8)(H:∀o e p,k o e=a8->P (.UnaryOp o e p)):P E:=by apply BG h<;>first|exact H|exact λa a=>no|exact λa a a=>no|exact λa a a a=>no
def Sl(E:j9)(k:(a7 j9)->b7):b7:=Bf {B:=k} E
theorem Yt(h:Sl E k=a8)(H:∀l n p,k l=a8->P (.Tuple l n p)):P E:=by apply BG h<;>first|exact H|exact λa a=>no|exact λa a a=>no|exact λa a a a=>no
def bA(E:j9)(k:(a7 j9)->b7):b7:=Bf {list:=k} E
theorem el(h:bA E k=a8)(H:∀l p,k l=a8->P (.List l p)):P E:=by apply BG h<;>first|exact H|exact λa a=>no|exact λa a a=>no|exact λa a a a=>no
def gT(E:j9)(k:(a7 (j0 j9))->(a7 j9)->b7):b7:=Bf {dict:=k} E
theorem uR(h:gT E k=a8)(H:∀a b p,k a b=a8->P (.Dict a b p)):P E:=by apply BG h<;>first|exact H|exact λa a=>no|exact λa a a=>no|exact λa a a a=>no
def XU(E:j9)(k:j9->Wa->j9->b7):b7:=Bf {bin:=k} E
theorem qS(h:XU E k=a8)(H:∀a o b p,k a o b=a8->P (.BinOp a o b p)):P E:=by apply BG h<;>first|exact H|exact λa a=>no|exact λa a a=>no|exact λa a a a=>no
def Uh(E:j9)(k:MC->(a7 j9)->b7):b7:=Bf {bool:=k} E
theorem Tk(h:Uh E k=a8)(H:∀o l p,k o l=a8->P (.BoolOp o l p)):P E:=by apply BG h<;>first|exact H|exact λa a=>no|exact λa a a=>no|exact λa a a a=>no
def UD(E:j9)(k:j9->(a7 Mr)->(a7 j9)->b7):b7:=Bf {cmp:=k} E
theorem Xi(h:UD E k=a8)(H:∀a o l p,k a o l=a8->P (.Compare a o l p)):P E:=by apply BG h<;>first|exact H|exact λa a=>no|exact λa a a=>no|exact λa a a a=>no
def eC(E:j9)(k:j9->j9->j9->b7):b7:=Bf {ite:=k} E
theorem jb(h:eC E k=a8)(H:∀c a b p,k c a b=a8->P (.IfExp c a b p)):P E:=by apply BG h<;>first|exact H|exact λa a=>no|exact λa a a=>no|exact λa a a a=>no
def Tz(E:j9)(k:j9->(a7 CI)->E7->b7):b7:=Bf {Q:=k} E
theorem Xv(h:Tz E k=a8)(H:∀e g s p,k e g s=a8->P (.ListComp e g s p)):P E:=by apply BG h<;>first|exact H|exact λa a=>no|exact λa a a=>no|exact λa a a a=>no
def Ol(E:j9)(k:j9->a7 j9->X7->b7):b7:=Bf {call:=λf es ks p=>ks.isEmpty&&k f es p} E
theorem Tp(h:Ol E k=a8)(H:∀f b p,k f b p=a8->P (.Call f b [] p)):P E:=BG h (λa a a=>no) (λa a=>no) (λa a a=>no) (λa a a=>no) (λa a a a=>no) (λa a a=>no) (λa a a=>no) (λa a=>no) (λa a a=>no) (λa a a a=>no) (λa a a=>no) (λa a a a=>no) (λa a a a=>no) (λa a a a=>no) (λf b c p h=>by have d:(c.isEmpty&&k f b p)=a8:=h;clear h;cases c with|nil=>exact H f b p (o5 d)|cons=>exact no (o6 d))def BW(E:j9)(x:j3)(k:a7 j9->b7):b7:=Ol E λf es w0=>GU f λt=>nm x==t&&k es
theorem Cm(h:BW E x k=a8)(H:∀a p q,k a=a8->P (.Call (.Name (nm x) p) a [] q)):P E:=by refine Tp h λf a q h=>Ou (P:=λf=>P (.Call f a [] q)) h λt p h=>k9 (bd h) λb c=>?_;clear h;cases O2 b;exact H _ _ _ c
end
section
variable{α:Type}
def one(l:a7 α)(k:α->b7):b7:=match l with|[a]=>k a|_=>c8
theorem Cy{P:a7 α->Prop}(h:one l k=a8)(H:∀a,k a=a8->P [a]):P l:=by
 cases l with
 |nil=>exact no h
 |cons a l=>cases l with|nil=>exact H _ h|cons=>exact no h
def two(l:a7 α)(k:α->α->b7):b7:=match l with|[a,b]=>k a b|_=>c8
theorem El{P:a7 α->Prop}(h:two l k=a8)(H:∀a b,k a b=a8->P [a,b]):P l:=by
 cases l with
 |nil=>exact no h
 |cons a l=>cases l with
  |nil=>exact no h
  |cons b l=>cases l with|nil=>exact H _ _ h|cons=>exact no h
def FL(l:a7 α)(k:α->a7 α->b7):b7:=match l with|a::r=>k a r|_=>c8
theorem Ii{P:a7 α->Prop}(h:FL l k=a8)(H:∀a r,k a r=a8->P (a::r)):P l:=by
 cases l with
 |nil=>exact no h
 |cons a l=>exact H _ _ h
theorem EU{P:a7 α->Prop}(h:l.isEmpty=a8)(H:P []):P l:=by
 cases l with
 |nil=>exact H
 |cons=>exact no h
def Km(l:Xs)(k:MX->b7):b7:=match l with| .cons a r=>(match r with| .nil=>k a|_=>c8)|_=>c8
theorem Ov{l:Xs}{P:Xs->Prop}{k:MX->b7}(h:Km l k=a8)(H:∀a,k a=a8->P (.cons a .nil)):P l:=by
 cases l with
 |nil=>exact no h
 |cons a l=>cases l with|nil=>exact H _ h|cons=>exact no h
def TB(l:Xs)(k:MX->MX->b7):b7:=match l with| .cons a r=>Km r (k a)|_=>c8
theorem YM{l:Xs}{P:Xs->Prop}{k:MX->MX->b7}(h:TB l k=a8)(H:∀a b,k a b=a8->P (.cons a (.cons b .nil))):P l:=by
 cases l with
 |nil=>exact no h
 |cons a l=>exact Ov (l:=l) (P:=λl=>P (.cons a l)) h λb h=>H a b h
def NB(c:Mn)(k:n4->b7):b7:=match c with| .str t=>k t|_=>c8
theorem Sz{P:Mn->Prop}(h:NB c k=a8)(H:∀t,k t=a8->P (.str t)):P c:=by cases c with|str t=>exact H _ h|_=>exact no h
end
def Oz:a7 j3->a7 j9->b7
 |[],es=>es.isEmpty
 |x::ps,es=>FL es λe es=>GU e λt=>nm x==t&&Oz ps es
def RA(p:a7 j3)(t:j9):b7:=match t with
 | .Name id _=>one p λx=>nm x==id
 | .Tuple es _ _=>decide (2<=p.length)&&Oz p es
 |_=>c8
def Sh(o:j0 Az):b7:=match o with|some k=>decide (k= .local)||decide (k= .cell)|none=>c8
def freeB(o:j0 Az):b7:=match o with|some k=>decide (k= .cell)||decide (k= .free)|none=>c8
def XF(scope sc:E7)(tgts:a7 j3):b7:=
 decide (scope.kind= .function)&&(decide (scope.names.map (·.1)).Nodup&&
 ((scope.names.all λp=>(!(decide (p.2= .local)||decide (p.2= .cell))||(p.1==nm ".0"||tgts.any λx=>nm x==p.1))&&(!decide (p.2= .free)||freeB (sc.names.lookup p.1)))&&
 tgts.all λx=>Sh (scope.names.lookup (nm x))))def cF(sc:E7)(x:j3):b7:=Sh (sc.names.lookup (nm x))def dU:a7 j3:=["Bank","Tables","Joins","Unions","Heap"]
structure Ck where
 x:E7->MX->j9->b7
 d:E7->Xs->a7 j9->b7
 t:E7->MX->j9->b7
 i:E7->Xs->a7 j9->b7
 r:E7->CT->j9->b7
 g:E7->Gs->j9->a7 CI->b7
 c:E7->a7 j3->CT->Xs->Gs->j9->a7 CI->E7->b7
section
variable(K:Ck)(sc:E7)
def Nb(d:b0)(c:Mn):b7:=match d with
 | .int i=>(match c with| .int j=>i==j|_=>c8)
 | .none=>(match c with| .none=>a8|_=>c8)
 | .bool b=>(match c with| .bool b'=>b==b'|_=>c8)
 |_=>c8
def RO(f:Bi)(es:Xs)(E:j9):b7:=
 if f= .lR then Km es λe=>BW E "list" λA=>one A λF=>BW F "range" λB=>one B λe'=>J4 e'&&(O1 sc "list"&&(O1 sc "range"&&K.x sc e e'))
 else if f= .dZ then TB es λa b=>BW E "dict" λA=>one A λF=>BW F "zip" λB=>two B λa' b'=>J4 a'&&(J4 b'&&(O1 sc "dict"&&(O1 sc "zip"&&(K.x sc a a'&&K.x sc b b'))))
 else if f= .sI then Km es λe=>BW E "sorted" λA=>one A λF=>Ol F λF B q=>B.isEmpty&&KQ F λe' t p=>nm "items"==t&&(FP e'&&(p.endLine==q.line&&(O1 sc "sorted"&&K.x sc e e')))
 else if f= .sS then Km es λe=>BW E "sorted" λA=>one A λF=>BW F "set" λB=>one B λe'=>J4 e'&&(O1 sc "sorted"&&(O1 sc "set"&&K.x sc e e'))
 else OY f&&BW E (Ku f) λA=>A.all J4&&(O1 sc (Ku f)&&K.d sc es A)def Zl(o:MC)(a b:MX)(E:j9)(k:MX->j9->b7):b7:=Uh E λp l=>decide (p=o)&&two l λa' b'=>k a a'&&k b b'
def xl(ks:a7 j3)(es:Xs)(E:j9):b7:=gT E λA B=>
 if ks.isEmpty then(match es with| .nil=>A.isEmpty&&B.isEmpty|_=>c8)
 else two ks λx y=>TB es λe f=>two A λk1 k2=>two B λe' f'=>k1.any λk1=>k2.any λk2=>Ie k1 λc1=>NB c1 λs=>Ie k2 λc2=>NB c2 λt=>nm x==s&&(nm y==t&&(x != y&&(K.x sc e e'&&K.x sc f f')))def Sg(o p:Dq)(a b c:MX)(E:j9):b7:=UD E λa' os l=>two os λo' p'=>two l λb' c'=>decide (o'=Cr o)&&(decide (p'=Cr p)&&(AF c'&&(K.x sc a a'&&(K.x sc b b'&&K.x sc c c'))))def Rg(o:Dq)(a b:MX)(E:j9):b7:=UD E λa' os l=>one os λo'=>one l λb'=>decide (o'=Cr o)&&(AF b'&&(K.x sc a a'&&K.x sc b b'))
def aK(x:MX)(E:j9):b7:=match x with
 | .e d=>Ie E λc=>Nb d c
 | .str s=>Ie E λc=>NB c λt=>nm s==t
 | .a y=>GU E λt=>nm y==t&&Ho sc y
 | .C e f=>KQ E λe' g w0=>nm f==g&&(FP e'&&K.x sc e e')
 | .sub e i=>Js E λe' i'=>K.x sc e e'&&K.x sc i i'
 | .to e i=>Js E λe' s=>OC s λa b c=>a.isNone&&(c.isNone&&b.any λi'=>K.x sc e e'&&K.x sc i i')
 | .from e i=>Js E λe' s=>OC s λa b c=>b.isNone&&(c.isNone&&a.any λi'=>K.x sc e e'&&K.x sc i i')
 | .rev e=>Js E λe' s=>OC s λa b c=>a.isNone&&(b.isNone&&c.any λi'=>SK i' λo u=>decide (o= .USub)&&Ie u λc=>Nb (.int 1) c&&K.x sc e e')
 | .B es=>Sl E λl=>decide (l.length<=1000)&&K.d sc es l
 | .L es=>bA E λl=>decide (l.length<=1000)&&K.d sc es l
 | .D ks es=>xl K sc ks es E
 | .bin o a b=>XU E λa' op b'=>decide (op=Je o)&&(K.x sc a a'&&K.x sc b b')
 | .and a b=>Zl .And a b E (K.x sc)
 | .or a b=>Zl .Or a b E (K.x sc)
 | .cmp o a b=>Rg K sc o a b E
 | .cmp2 o p a b c=>Sg K sc o p a b c E
 | .ite c a b=>eC E λc' a' b'=>K.t sc c c'&&(K.x sc a a'&&K.x sc b b')
 | .Q g=>(match g with| .cons p src ifs r=>Tz E λe gs s=>K.c sc p src ifs r e gs s|_=>c8)
 | .bi f es=>RO K sc f es E
 | .call f es=>BW E f λA=>(BP "").contains f&&(A.all J4&&(O1 sc f&&K.d sc es A))
 | .new c es=>BW E c λA=>dU.contains c&&(A.all J4&&(O1 sc c&&K.d sc es A))
 | .m o m es=>Ol E λF A q=>KQ F λo' g p=>nm m==g&&(FP o'&&(A.all J4&&(decide (A.length<30)&&(p.endLine==q.line&&(K.x sc o o'&&K.d sc es A)))))
 |_=>c8
def dd(es:Xs)(l:a7 j9):b7:=match es with
 | .nil=>l.isEmpty
 | .cons e es=>FL l λE l=>J4 E&&(K.x sc e E&&K.d sc es l)
def dz(es:Xs)(l:a7 j9):b7:=match es with
 | .nil=>l.isEmpty
 | .cons e es=>FL l λE l=>K.t sc e E&&K.i sc es l
def Si(o:MC)(a b:MX)(E:j9)(q:MX->j0 (MX×MX)):b7:=Uh E λp l=>decide (p=o)&&FL l λa' r=>K.t sc a a'&&(one r (K.t sc b)||two r λb' c'=>(q b).any λu=>K.t sc u.1 b'&&K.t sc u.2 c')def bg(b:MX):j0 (MX×MX):=match b with| .and b c=>a0 (b,c)|_=>b4
def ij(b:MX):j0 (MX×MX):=match b with| .or b c=>a0 (b,c)|_=>b4
def stepT(x:MX)(E:j9):b7:=match x with
 | .not e=>SK E λo e'=>decide (o= .Not)&&K.t sc e e'
 | .and a b=>Si K sc .And a b E bg
 | .or a b=>Si K sc .Or a b E ij
 | .cmp o a b=>Rg K sc o a b E
 | .cmp2 o p a b c=>Sg K sc o p a b c E
 | .a y=>GU E λt=>nm y==t&&Ho sc y
 | .call f es=>IO E&&K.x sc (.call f es) E
 | .m o m es=>IO E&&K.x sc (.m o m es) E
 |_=>c8
def uO(s:CT)(E:j9):b7:=match s with
 | .of e=>K.x sc e E
 | .range e=>BW E "range" λA=>one A λe'=>J4 e'&&(O1 sc "range"&&K.x sc e e')
 | .enum e=>BW E "enumerate" λA=>one A λe'=>J4 e'&&(O1 sc "enumerate"&&K.x sc e e')
 | .zip a b=>BW E "zip" λA=>two A λa' b'=>J4 a'&&(J4 b'&&(O1 sc "zip"&&(K.x sc a a'&&K.x sc b b')))def Yp(p:a7 j3)(src:CT)(r:Gs)(q:CI):b7:=RA p q.target&&((r.tgts.all λx=>!p.contains x)&&(AF q.iter&&((Dv src||decide (2<=p.length))&&K.r sc src q.iter)))
def ah(G:Gs)(elt:j9)(rest:a7 CI):b7:=match G with
 | .elt e=>rest.isEmpty&&K.x sc e elt
 | .cons p src ifs r=>FL rest λq rest=>Yp K sc p src r q&&((p++r.tgts).all (cF sc)&&(K.i sc ifs q.ifs&&K.g sc r elt rest))def nj(p:a7 j3)(src:CT)(ifs:Xs)(r:Gs)(elt:j9)(gs:a7 CI)(scope:E7):b7:=FL gs λq rest=>XF scope sc (p++r.tgts)&&((gs.all λg=>g.is_async==0)&&(Yp K sc p src r q&&(K.i (CF scope sc) ifs q.ifs&&K.g (CF scope sc) r elt rest)))
end
def ck:a6->Ck
 |0=>⟨λw0 w0 w0=>c8,λw0 w0 w0=>c8,λw0 w0 w0=>c8,λw0 w0 w0=>c8,λw0 w0 w0=>c8,λw0 w0 w0 w0=>c8,λw0 w0 w0 w0 w0 w0 w0 w0=>c8⟩
 |n+1=>⟨aK (ck n),dd (ck n),stepT (ck n),dz (ck n),uO (ck n),ah (ck n),nj (ck n)⟩
theorem ZH:∀{ps:a7 j3}{es:a7 j9},Oz ps es=a8->GA ps es
 |[],_,h=>EU h .nil
 |_::_,_,h=>Ii h λe es h=>by
  refine Ou (P:=λe=>GA _ (e::es)) h λt p h=>?_;cases O2 (o6 h);exact .cons (ZH (o5 h))
theorem Os(h:RA p t=a8):AN p t:=by
 cases t with
 |Name id k=>exact Cy (l:=p) (P:=λp=>AN p _) h λx h=>by cases O2 h;exact .one
 |Tuple es k q=>
  let zz:=bd h;ext1 zz h1 h2;let h3:=C6 h1;cases p with
  |nil=>exact u6 h3 (WA 1)
  |cons x p=>cases p with|nil=>exact u6 h3 (oX 1)|cons y p=>exact .many (ZH h2)
 |_=>exact no h
theorem hX(h:Sh o=a8):o=a0 .local\/o=a0 .cell:=by
 cases o with
 |none=>exact no h
 |some k=>exact(DC h).imp (λh=>t0 a0 (C6 h)) λh=>t0 a0 (C6 h)
theorem sJ(h:freeB o=a8):o=a0 .cell\/o=a0 .free:=by
 cases o with
 |none=>exact no h
 |some k=>exact(DC h).imp (λh=>t0 a0 (C6 h)) λh=>t0 a0 (C6 h)
theorem ji(h:XF scope sc tgts=a8):Jk scope sc tgts:=by
 let a:=bd h;ext1 a d h;let a:=bd h;ext1 a f h;refine k9 (bd h) λc g=>?_;have c:=λp i=>bd (S9 c p i);refine⟨C6 d,C6 f,λx b=>?_,λx b=>hX (S9 g x b),λk j=>sJ (c _ (GQ j)).2⟩;let l:(nm x==nm ".0"||tgts.any λy=>nm y==nm x)=a8:=by rcases b with b|b<;>exact(c _ (GQ b)).1
 rcases DC l with e|e
 .exact .inl (EF (O2 e))
 .exact c9 (List.any_eq_true.mp e) λy m e=>.inr (EF (O2 e)▸m)theorem rc(h:cF env.scope x=a8):BD env x:=hX h
structure zZ (prog:A5) (X:Fx) (C:Cl) (A:B7) (sc:E7) (p:a7 j3) (src:CT) (ifX:Xs) (r:Gs) (elt target iter:j9) (ifs:a7 j9) (rest:a7 CI) (scope:E7):Prop where
 hCS:Jk scope sc (p++r.tgts)
 h0:∀g'∈(⟨target,iter,ifs,0⟩::rest:a7 CI),g'.is_async=0
 hT:AN p target
 hnd:∀x∈r.tgts,x∉p
 hns:AF iter=a8
 hk:Dv src=a8\/2<=p.length
 hS:BO prog X C A sc src iter
 hF:SF prog X C A (CF scope sc) ifX ifs
 hr:∀pos,SE prog X C A (CF scope sc) r (Cu (.ListComp elt (⟨target,iter,ifs,0⟩::rest) scope pos) elt (⟨target,iter,ifs,0⟩::rest) 0)
structure GB (prog:A5) (X:Fx) (C:Cl) (A:B7) (K:Ck):Prop where
 x:∀{sc x E},K.x sc x E=a8->SX prog X C A sc x E
 d:∀{sc x E},K.d sc x E=a8->SD prog X C A sc x E
 t:∀{sc x E},K.t sc x E=a8->ST prog X C A sc x E
 i:∀{sc x E},K.i sc x E=a8->SF prog X C A sc x E
 r:∀{sc x E},K.r sc x E=a8->BO prog X C A sc x E
 g:∀{sc G elt rest},K.g sc G elt rest=a8->∀gens depth scope pos,gens.drop (depth+1)=rest->(∀g∈gens,g.is_async=0)->SE prog X C A sc G (Cu (.ListComp elt gens scope pos) elt gens depth)
 c:∀{sc p src ifX r elt gs scope},K.c sc p src ifX r elt gs scope=a8->∃target iter ifs rest,gs=⟨target,iter,ifs,0⟩::rest/\zZ prog X C A sc p src ifX r elt target iter ifs rest scope
theorem GF{α:Type}{o:j0 α}{P:j0 α->Prop}{k:α->b7}(h:o.any k=a8)(H:∀a,k a=a8->P (a0 a)):P o:=by
 cases o with
 |none=>exact no h
 |some a=>exact H a h
theorem IG{α:Type}{o:j0 α}{P:j0 α->Prop}(h:o.isNone=a8)(H:P b4):P o:=by
 cases o with
 |none=>exact H
 |some a=>exact no h
section
variable{prog:A5}{X:Fx}{C:Cl}{A:B7}{K:Ck}
theorem ml(h:Nb d c=a8):SX prog X C A sc (.e d) (.Constant c n p):=by
 cases d with
 |int i=>cases c with|int j=>cases O2 h;exact yQ|_=>exact no h
 |none=>cases c with|none=>exact rn|_=>exact no h
 |bool i=>cases c with|bool j=>cases O2 h;exact zN|_=>exact no h
 |_=>exact no h
theorem yV(h:Nb (.int 1) c=a8):c= .int 1:=by cases c with|int j=>cases O2 h;rfl|_=>exact no h
theorem fD(m:Be A)(I:GB prog X C A K)(h:Rg K sc o a b E=a8){P:j9->Prop}(H:∀{d f e p},SX prog X C A sc a d->SX prog X C A sc b e->AF e=a8->f=Cr o->P (.Compare d [f] [e] p)):P E:=by refine Xi h λd g l p h=>Cy (P:=λg=>P (.Compare d g l p)) h λi h=>Cy (P:=λl=>P (.Compare d [i] l p)) h λe h=>?_;let c:=bd h;ext1 c j h;let c:=bd h;ext1 c k h;exact H (I.x (o6 h)) (I.x (o5 h)) k (C6 j)
theorem Xl(I:GB prog X C A K)(h:Sg K sc o q a b c E=a8){P:j9->Prop}
 (H:∀{e g f p},SX prog X C A sc a e->SX prog X C A sc b g->SX prog X C A sc c f->AF f=a8->P (.Compare e [Cr o,Cr q] [g,f] p)):P E:=by
 refine Xi h λe i l p h=>El (P:=λi=>P (.Compare e i l p)) h λj k h=>El (P:=λl=>P (.Compare e [j,k] l p)) h λg f h=>?_;let d:=bd h;ext1 d m h;let d:=bd h;ext1 d n h;let d:=bd h;ext1 d r h;let d:=bd h;ext1 d s h;rw[C6 m,C6 n];exact H (I.x s) (I.x (o6 h)) (I.x (o5 h)) r
theorem cY(h:(GU E λt=>nm y==t&&Ho sc y)=a8){P:j9->Prop}(H:∀{p},Ho sc y=a8->P (.Name (nm y) p)):P E:=by refine Ou h λt p h=>?_;cases O2 (o6 h);exact H (o5 h)
theorem vo(L:Laid1 X)(U:GI prog X C k)(W:DD k A)(I:GB prog X C A K){x:MX}(h:aK K sc x E=a8):SX prog X C A sc x E:=by
 have Y:=W.room;have H:=Y.ok;cases x with
 |e d=>exact Ke h λc n p h=>ml h
 |str s=>refine Ke h λc n p h=>Sz (P:=λc=>SX prog X C A sc _ (.Constant c n p)) h λt h=>?_;cases O2 h;exact wI
 |a y=>exact cY h λh=>Yi h
 |C e f=>refine MY h λw g p h=>k9 (bd h) λv g=>?_;clear h;cases O2 v;exact sz L (o6 g) (I.x (o5 g))
 |sub e i=>exact KP h λw Z p h=>qc H (I.x (o6 h)) (I.x (o5 h))
 |to e i=>refine KP h λw s p h=>Rk (P:=λs=>SX prog X C A sc _ (.Subscript w s p)) h λa b c q h=>k9 (bd h) λv h=>?_;let j:=bd h;ext1 j D h;exact IG v (P:=λa=>SX prog X C A sc _ (.Subscript w (.Slice a b c q) p)) (IG D (P:=λc=>SX prog X C A sc _ (.Subscript w (.Slice b4 b c q) p)) (GF (P:=λb=>SX prog X C A sc _ (.Subscript w (.Slice b4 b b4 q) p)) h λZ h=>rI (I.x (o6 h)) (I.x (o5 h))))
 |«from» e i=>refine KP h λw s p h=>Rk (P:=λs=>SX prog X C A sc _ (.Subscript w s p)) h λa b c q h=>?_;let j:=bd h;ext1 j v h;exact k9 (bd h) λD h=>IG v (P:=λb=>SX prog X C A sc _ (.Subscript w (.Slice a b c q) p)) (IG D (P:=λc=>SX prog X C A sc _ (.Subscript w (.Slice a b4 c q) p)) (GF (P:=λa=>SX prog X C A sc _ (.Subscript w (.Slice a b4 b4 q) p)) h λZ h=>jz (I.x (o6 h)) (I.x (o5 h))))
 |rev e=>refine KP h λw s p h=>Rk (P:=λs=>SX prog X C A sc _ (.Subscript w s p)) h λa b c q h=>?_;let j:=bd h;ext1 j v h;let j:=bd h;ext1 j D h;refine IG v (P:=λa=>SX prog X C A sc _ (.Subscript w (.Slice a b c q) p)) (IG D (P:=λb=>SX prog X C A sc _ (.Subscript w (.Slice b4 b c q) p)) (GF (P:=λc=>SX prog X C A sc _ (.Subscript w (.Slice b4 b4 c q) p)) h λZ h=>Xw (P:=λi=>SX prog X C A sc _ (.Subscript w (.Slice b4 b4 (a0 i) q) p)) h λo u r h=>k9 (bd h) λv g=>?_));clear h;cases C6 v;refine Ke (P:=λu=>SX prog X C A sc _ (.Subscript w (.Slice b4 b4 (a0 (.UnaryOp .USub u r)) q) p)) g λc n r' h=>k9 (bd h) λv g=>?_;clear h;cases yV v;exact rb (I.x g)
 |B z=>exact Yt h λl n p h=>de (I.d (o5 h)) (C6 (o6 h))
 |L z=>exact el h λl p h=>kq (I.d (o5 h)) (C6 (o6 h))
 |D Q z=>
  refine uR h λl m p h=>?_;cases Q with
  |nil=>
   cases z with
   |nil=>exact EU (o6 h) (P:=λl=>SX prog X C A sc _ (.Dict l m p)) (EU (o5 h) (P:=λm=>SX prog X C A sc _ (.Dict [] m p)) qo)
   |cons=>exact no h
  |cons x Q=>refine El (l:=x::Q) (P:=λQ=>SX prog X C A sc (.D Q z) (.Dict l m p)) h λx y h=>YM (P:=λz=>SX prog X C A sc (.D [x,y] z) (.Dict l m p)) h λe f h=>El (P:=λl=>SX prog X C A sc _ (.Dict l m p)) h λM J h=>El (P:=λm=>SX prog X C A sc _ (.Dict [M,J] m p)) h λw O h=>GF (P:=λM=>SX prog X C A sc _ (.Dict [M,J] [w,O] p)) h λM h=>GF (P:=λJ=>SX prog X C A sc _ (.Dict [a0 M,J] [w,O] p)) h λJ h=>Ke (P:=λM=>SX prog X C A sc _ (.Dict [a0 M,a0 J] [w,O] p)) h λc1 n1 p1 h=>Sz (P:=λc1=>SX prog X C A sc _ (.Dict [a0 (.Constant c1 n1 p1),a0 J] [w,O] p)) h λs h=>?_;refine Ke (P:=λJ=>SX prog X C A sc _ (.Dict [_,a0 J] [w,O] p)) h λc2 n2 p2 h=>Sz (P:=λc2=>SX prog X C A sc _ (.Dict [_,a0 (.Constant c2 n2 p2)] [w,O] p)) h λt h=>k9 (bd h) λv g=>?_;clear h;cases O2 v;let j:=bd g;ext1 j D g;let j:=bd g;ext1 j N k;clear h;cases O2 D;exact wr H (bne_iff_ne.mp N) (I.x (o6 k)) (I.x (o5 k))
 |bin o a b=>refine qS h λS op T p h=>k9 (bd h) λv g=>?_;clear h;cases C6 v;exact gn (I.x (o6 g)) (I.x (o5 g))
 |and a b=>refine Tk h λo l p h=>k9 (bd h) λv g=>?_;clear h;cases C6 v;exact El (P:=λl=>SX prog X C A sc _ (.BoolOp _ l p)) g λS T h=>tf (I.x (o6 h)) (I.x (o5 h))
 |or a b=>refine Tk h λo l p h=>k9 (bd h) λv g=>?_;clear h;cases C6 v;exact El (P:=λl=>SX prog X C A sc _ (.BoolOp _ l p)) g λS T h=>sh (I.x (o6 h)) (I.x (o5 h))
 |cmp o a b=>exact fD H I h λha R G e=>e▸bx H ha R G
 |cmp2 o p a b c=>exact Xl I h λha R hc G=>vB H ha R hc G
 |ite c a b=>exact jb h λc' S T p h=>az (I.t (o6 h)) (I.x (o6 (o5 h))) (I.x (o5 (o5 h)))
 |Q g=>
  cases g with
  |cons p src ifs r=>refine Xv h λe gs s q h=>XT (I.c h) ?_;clear h;rintro _ _ _ _ rfl V;exact Yy W.hh V.hCS V.h0 V.hT V.hnd V.hns V.hk V.hS V.hF (V.hr _)
  |_=>exact no h
 |bi f z=>
  have h:RO K sc f z E=a8:=h;unfold RO at h;by_cases v:f= .lR
  .rw[g0 v]at h;subst v;refine Ov (P:=λz=>SX prog X C A sc (.bi _ z) E) h λe h=>Cm h λl p q h=>Cy (P:=λl=>SX prog X C A sc _ (.Call _ l _ _)) h λF h=>Cm (P:=λF=>SX prog X C A sc _ (.Call _ [F] _ _)) h λl p' q' h=>Cy (P:=λl=>SX prog X C A sc _ (.Call _ [.Call _ l _ _] _ _)) h λw h=>?_;let j:=bd h;ext1 j v h;let j:=bd h;ext1 j D h;exact nu L.toLaid0 H v D (o6 h) (I.x (o5 h))
  .rw[j4 v]at h;by_cases v:f= .dZ
   .rw[g0 v]at h;subst v;refine YM (P:=λz=>SX prog X C A sc (.bi _ z) E) h λa b h=>Cm h λl p q h=>Cy (P:=λl=>SX prog X C A sc _ (.Call _ l _ _)) h λF h=>Cm (P:=λF=>SX prog X C A sc _ (.Call _ [F] _ _)) h λl p' q' h=>El (P:=λl=>SX prog X C A sc _ (.Call _ [.Call _ l _ _] _ _)) h λS T h=>?_;let j:=bd h;ext1 j v h;let j:=bd h;ext1 j D h;let j:=bd h;ext1 j N h;let j:=bd h;ext1 j h4 h;exact wm L.toLaid0 H v D N h4 (I.x (o6 h)) (I.x (o5 h))
   .rw[j4 v]at h;by_cases v:f= .sI
    .rw[g0 v]at h;subst v;refine Ov (P:=λz=>SX prog X C A sc (.bi _ z) E) h λe h=>Cm h λl p q h=>Cy (P:=λl=>SX prog X C A sc _ (.Call _ l _ _)) h λF h=>Tp (P:=λF=>SX prog X C A sc _ (.Call _ [F] _ _)) h λF B p' h=>?_;let j:=bd h;ext1 j G h;refine EU G (P:=λB=>SX prog X C A sc _ (.Call _ [.Call F B _ _] _ _)) (MY (P:=λF=>SX prog X C A sc _ (.Call _ [.Call F _ _ _] _ _)) h λw t a h=>k9 (bd h) λv g=>?_);clear h;cases O2 v;let j:=bd g;ext1 j D g;let j:=bd g;ext1 j N g;exact zI L.toLaid0 H D N (o6 g) (I.x (o5 g))
    .rw[j4 v]at h;by_cases v:f= .sS
     .rw[g0 v]at h;subst v;refine Ov (P:=λz=>SX prog X C A sc (.bi _ z) E) h λe h=>Cm h λl p q h=>Cy (P:=λl=>SX prog X C A sc _ (.Call _ l _ _)) h λF h=>Cm (P:=λF=>SX prog X C A sc _ (.Call _ [F] _ _)) h λl p' q' h=>Cy (P:=λl=>SX prog X C A sc _ (.Call _ [.Call _ l _ _] _ _)) h λw h=>?_;let j:=bd h;ext1 j v h;let j:=bd h;ext1 j D h;exact zY L.toLaid0 H v D (o6 h) (I.x (o5 h))
     .rw[j4 v]at h;refine k9 (bd h) λR h=>Cm h λl p q' h=>?_;let j:=bd h;ext1 j v h;exact rZ L.toLaid0 H R v (o6 h) (I.d (o5 h))
 |call f z=>exact Cm h λl p q h=>k9 (bd h) λG h=>k9 (bd h) λv h=>jn L Y U G v (o6 h) (I.d (o5 h))
 |new f z=>exact Cm h λl p q h=>k9 (bd h) λG h=>k9 (bd h) λv h=>mu L W U (List.contains_iff_mem.mp G) v (o6 h) (I.d (o5 h))
 |m o m z=>refine Tp h λF l q h=>MY (P:=λF=>SX prog X C A sc _ (.Call F _ _ _)) h λo' g p h=>k9 (bd h) λG g=>?_;clear h;cases O2 G;let j:=bd g;ext1 j v g;let j:=bd g;ext1 j D g;let j:=bd g;ext1 j N g;let j:=bd g;ext1 j h4 g;exact wN L Y U v D (C6 N) h4 (I.x (o6 g)) (I.d (o5 g))
 |_=>exact no h
theorem YX{q:MX->j0 (MX×MX)}(I:GB prog X C A K)(h:Si K sc o a b E q=a8){P:j9->Prop}
 (j:∀{c d p},ST prog X C A sc a c->ST prog X C A sc b d->P (.BoolOp o [c,d] p))
 (k:∀{c d f u p},ST prog X C A sc a c->q b=a0 u->ST prog X C A sc u.1 d->ST prog X C A sc u.2 f->P (.BoolOp o [c,d,f] p)):P E:=by
 refine Tk h λm l p h=>k9 (bd h) λe g=>?_;clear h;cases C6 e;refine Ii (P:=λl=>P (.BoolOp _ l p)) g λc r h=>k9 (bd h) λe h=>?_;rcases DC h with h|h
 .exact Cy (P:=λr=>P (.BoolOp _ (c::r) p)) h λd h=>j (I.t e) (I.t h)
 .refine El (P:=λr=>P (.BoolOp _ (c::r) p)) h λd f h=>?_;cases i:q b with|none=>rw[i]at h;exact no h|some u=>rw[i]at h;exact k (I.t e) i (I.t (o6 h)) (I.t (o5 h))
theorem km(hA:DD k A)(I:GB prog X C A K)(h:stepT K sc x E=a8):ST prog X C A sc x E:=by
 have hO:=hA.room.ok;cases x with
 |not e=>refine Xw h λo e' p h=>?_;cases C6 (o6 h);exact sy (I.t (o5 h))
 |and a b=>
  refine YX I h (λha hb=>OM (Un ha (MZ hb))) λha hq hb hc=>?_;clear h;cases b with
  |and b c=>cases hq;exact OM (Un ha (Un hb (MZ hc)))
  |_=>cases hq
 |or a b=>
  refine YX I h (λha hb=>OM (TW ha (MZ hb))) λha hq hb hc=>?_;clear h;cases b with
  |or b c=>cases hq;exact OM (TW ha (TW hb (MZ hc)))
  |_=>cases hq
 |cmp o a b=>exact fD hO I h λha hb h0 e=>e▸xI hO ha hb h0
 |cmp2 o p a b c=>exact Xl I h λha hb hc h0=>jd hO ha hb hc h0
 |a y=>exact cY h λh=>mz h
 |call f es=>exact bq (o6 h) (I.x (o5 h))
 |m o m es=>exact iv (o6 h) (I.x (o5 h))
 |_=>exact no h
theorem Yo{p l:a7 j3}(h:(l.all λx=>!p.contains x)=a8):∀x∈l,x∉p:=λx a b=>by
 have c:=S9 h x a;rw[mY,<-b7.not_eq_true]at c;exact c (List.contains_iff_mem.mpr b)theorem Sx{a:CT}{p:a7 j3}(h:(Dv a||decide (2<=p.length))=a8):Dv a=a8\/2<=p.length:=(DC h).imp id C6
theorem lw(L:Laid1 X)(hC:GI prog X C k)(hA:DD k A):∀n,GB prog X C A (ck n):=by
 intro z7
 induction z7 with
 |zero=>exact⟨λh=>no h,λh=>no h,λh=>no h,λh=>no h,λh=>no h,λh=>no h,λh=>no h⟩
 |succ n IH=>
  have I:=IH;refine⟨λh=>vo L hC hA I h,λ{sc es l}h=>?_,λh=>km hA I h,λ{sc es l}h=>?_,λ{sc s E}h=>?_,λ{sc G elt rest}h gens depth scope pos hd h0=>?_,λ{sc p src ifX r elt gs scope}h=>?_⟩
  .cases es with|nil=>exact EU h GR|cons e es=>exact Ii h λE l h=>ES (I.x (o6 (o5 h))) (I.d (o5 (o5 h))) (o6 h)
  .cases es with|nil=>exact EU h tL|cons e es=>exact Ii h λE l h=>uZ (I.t (o6 h)) (I.i (o5 h))
  .cases s with|of e=>exact kg (I.x h)|range e=>exact Cm h λl p q h=>Cy (P:=λl=>BO prog X C A sc _ (.Call _ l _ _)) h λe' h=>fq L.toLaid0 (o6 h) (o6 (o5 h)) (I.x (o5 (o5 h)))|enum e=>exact Cm h λl p q h=>Cy (P:=λl=>BO prog X C A sc _ (.Call _ l _ _)) h λe' h=>rt L.toLaid0 (o6 h) (o6 (o5 h)) (I.x (o5 (o5 h)))|zip a b=>exact Cm h λl p q h=>El (P:=λl=>BO prog X C A sc _ (.Call _ l _ _)) h λa' b' h=>k9 (bd h) λh1 h=>k9 (bd h) λh2 h=>k9 (bd h) λh3 h=>ae L.toLaid0 h1 h2 h3 (I.x (o6 h)) (I.x (o5 h))
  .cases G with
   |elt e=>refine k9 (bd h) λh1 h=>wM (I.x h) (AA (List.drop_eq_nil_iff.mp (hd.trans (List.isEmpty_iff.mp h1))))
   |cons p src ifs r=>
    revert hd;refine Ii (l:=rest) (P:=λrest=>gens.drop (depth+1)=rest->_) h λq rest' h hd=>k9 (bd h) λh1 h=>k9 (bd h1) λh3 h1=>k9 (bd h1) λh4 h1=>k9 (bd h1) λh5 h1=>k9 (bd h) λh2 h=>?_;have hg:gens[depth+1]?=a0 q:=by have c:=lQ (xs:=gens) (i:=depth+1) (j:=0);rw[hd]at c;exact c.symm
    obtain⟨target,iter,ifE,kk⟩:=q;have hk0:kk=0:=h0 _ (p8 hg);subst hk0;exact fc hA.hh hg h0 (Os h3) (λenv hs x hx=>rc (hs▸S9 h2 x hx)) (Yo h4) h5 (Sx (o6 h1)) (I.r (o5 h1)) (I.i (o6 h))
     (I.g (o5 h) gens (depth+1) scope pos (by rw[<-Vg,hd];rfl) h0)
  .cases gs with|nil=>exact no h|cons q rest=>obtain⟨target,iter,ifE,kk⟩:=q;refine k9 (bd h) λh1 h=>k9 (bd h) λha h=>k9 (bd h) λh2 h=>k9 (bd h2) λh3 h2=>k9 (bd h2) λh4 h2=>k9 (bd h2) λh5 h2=>?_;have h0:=λg hg=>O2 (S9 ha g hg);clear ha;cases h0 _ j5;exact⟨_,_,_,_,rfl,ji h1,h0,Os h3,Yo h4,h5,Sx (o6 h2),I.r (o5 h2),I.i (o6 h),λpos=>I.g (o5 h) _ 0 scope pos rfl h0⟩
end
end Internal
set_option backward.match.sparseCases true
namespace Internal
open PySem PySem.W PyProof.Rows
def RY(sc:E7)(ts:a7 j9)(E:j9):j0 (j0 (a7 n4)):=match E with
 | .Tuple vs _ _=>
  if !(ts.length==2||ts.length==3)||vs.length != ts.length then a0 b4
  else if(vs.any fun| .Starred ..=>a8|_=>c8)then a0 b4
  else
   let line:=(ts.head?.map (·.pos.line)).getD 0
   let names:=ts.filterMap fun
    | .Name id pos=>if sc.names.lookup id==a0 .local&&pos.line==line then a0 id else b4
    |_=>b4
   if names.length != ts.length||names.eraseDups.length != names.length then a0 b4
   else if vs.all (foldedForSure 8)then a0 b4
   else if vs.all (constantsAlone 8)then b4
   else a0 (a0 names)
 |_=>a0 b4
theorem KA{c:Prop}[Dn c]{x:j0 (j0 (a7 n4))}{u:M8 (j0 (a7 n4))}{r:j0 (a7 n4)}(h:(if c then x else y)=a0 r)(b:x=a0 r->u=pure r)(d:y=a0 r->v=pure r):(if c then u else v)=pure r:=by
 by_cases a:c
 .rw[g0 a]at h ⊢;exact b h
 .rw[j4 a]at h ⊢;exact d h
theorem Le(h:a0 b4=a0 r):(pure b4:M8 (j0 (a7 n4)))=pure r:=by rw[C5 h]
theorem Zn{env:I0}{ts:a7 j9}{k:a6}{p:X7}{E:j9}{r:j0 (a7 n4)}(hb:env.blockKind= .function)(h:RY env.scope ts E=a0 r):Qr [.Tuple ts k p] E env=pure r:=by
 cases E with
 |Tuple vs k' p'=>delta Qr;dsimp only;rw[(λb=>by rw[hb];exact b7.or_false b:∀b,(b||(env.blockKind != zx))=b)];exact KA h Le λh=>KA h Le λh=>KA h Le λh=>KA h Le λh=>KA h (λh=>by cases h) λh=>by rw[<-C5 h];rfl
 |_=>exact Le h
section
variable{P:AK->Prop}
def La(_:j9):b7:=false
def Hf(B:AK)(x:j9->b7)(r:j0 (j0 j9->b7))(i:j0 (j9->a7 AK->a7 AK->b7))(w:j0 (j9->a7 AK->a7 AK->b7))(f:j0 (j9->j9->a7 AK->a7 AK->b7))(c:b7):b7:=match B with
 | .Expr E _=>x E
 | .Return o _=>r.any (· o)
 | .If c a b _=>i.any λi=>i c a b
 | .While c a b _=>w.any λi=>i c a b
 | .For t c a b _=>f.any λi=>i t c a b
 | .Continue _=>c
 |_=>c8
theorem Jg{r i w f}(h:Hf B x r i w f c=a8)(hx:∀E p,x E=a8->P (.Expr E p))(hr:∀o p,r.any (· o)=a8->P (.Return o p))(hi:∀c a b p,(i.any λi=>i c a b)=a8->P (.If c a b p))
 (hw:∀c a b p,(w.any λi=>i c a b)=a8->P (.While c a b p))(hf:∀t c a b p,(f.any λi=>i t c a b)=a8->P (.For t c a b p))(hc:∀p,c=a8->P (.Continue p)):P B:=by
 cases B with
 |Expr E p=>exact hx E p h
 |Return o p=>exact hr o p h
 |If c a b p=>exact hi c a b p h
 |While c a b p=>exact hw c a b p h
 |For t i a b p=>exact hf t i a b p h
 |Continue p=>exact hc p h
 |_=>exact no h
def Uz(B:AK)(k:j9->j9->b7):b7:=match B with| .Assign l E _=>one l λt=>k t E|_=>c8
theorem XM(h:Uz B k=a8)(H:∀t E p,k t E=a8->P (.Assign [t] E p)):P B:=by
 cases B with
 |Assign l E p=>exact Cy (P:=λl=>P (.Assign l E p)) h λt h=>H _ _ _ h
 |_=>exact no h
end
structure Cs where
 s:E7->S->AK->b7
 l:E7->a7 S->a7 AK->b7
section
variable(K:Ck)(D:Cs)(sc:E7)
def kt(t:Tg)(e:MX)(T E:j9):b7:=match t with
 | .a x=>GU T λt=>nm x==t&&(DH sc x&&((KS E&&K.x sc e E)||(match e with
  | .Q g=>(match g with| .cons p src ifs r=>Tz E λe gs s=>K.c sc p src ifs r e gs s|_=>c8)
  |_=>c8)))
 | .C o f=>KQ T λO g w0=>nm f==g&&(K.x sc e E&&K.x sc o O)
 | .sub o i=>Js T λO I=>K.x sc e E&&(K.x sc o O&&K.x sc i I)
def rR(ps:a7 j3)(e:MX)(T E:j9):b7:=Sl T λelts=>(decide (2<=ps.length)&&Oz ps elts)&&(ps.all (DH sc)&&(K.x sc e E&&(match RY sc elts E with
 |some o=>(match o with|none=>a8|some names=>decide (names=ps.map nm)&&decide ps.Nodup)
 |none=>c8)))
def XW(s:S)(B:AK):b7:=match s with
 | .xE e=>Hf B (λE=>KS E&&K.x sc e E) b4 b4 b4 b4 c8
 | .k t e=>Uz B (kt K sc t e)
 | .uP ps e=>Uz B (rR K sc ps e)
 | .ret e=>Hf B La (a0 λo=>o.any (K.x sc e)) b4 b4 b4 c8
 | .iff c a b=>Hf B La b4 (a0 λc' a' b'=>K.t sc c c'&&(D.l sc a a'&&D.l sc b b')) b4 b4 c8
 | .while c b=>Hf B La b4 b4 (a0 λc' b' e=>e.isEmpty&&(K.t sc c c'&&D.l sc b b')) b4 c8
 | .for p src b=>Hf B La b4 b4 b4 (a0 λtarget iter b' e=>e.isEmpty&&(RA p target&&(p.all (DH sc)&&(AF iter&&((Dv src||decide (2<=p.length))&&(K.r sc src iter&&D.l sc b b')))))) c8
 | .cont=>Hf B La b4 b4 b4 b4 a8
 | .dead=>a8
def aj(s:a7 S)(l:a7 AK):b7:=match s with
 |[]=>l.isEmpty
 |s::r=>FL l λB l=>D.s sc s B&&D.l sc r l
end
def cs:a6->Cs
 |0=>⟨λw0 w0 w0=>c8,λw0 w0 w0=>c8⟩
 |n+1=>⟨XW (ck n) (cs n),aj (cs n)⟩
section
variable{X:Fx}{K:Ck}
theorem lj(hA:DD k A)(I:GB prog X C A K)(L:Laid1 X)(J1:∀{sc s B},D.s sc s B=a8->SS prog X C A sc s B)(J2:∀{sc s B},D.l sc s B=a8->Er prog X C A sc s B)(h:XW K D sc s B=a8):SS prog X C A sc s B:=by
 cases s with
 |xE e=>exact Jg h (λE p h=>rF (I.x (o5 h)) (o6 h)) (λw0 w0=>no) (λw0 w0 w0 w0=>no) (λw0 w0 w0 w0=>no) (λw0 w0 w0 w0 w0=>no) λw0=>no
 |k t e=>
  refine XM h λT E p h=>?_;cases t with
  |a x=>
   refine Ou (P:=λT=>SS prog X C A sc _ (.Assign [T] E p)) h λt q h=>k9 (bd h) λh1 g=>?_;cases O2 h1;refine k9 (bd g) λh2 g=>?_;rcases DC g with g|g
   .exact sH (I.x (o5 g)) (o6 g) h2
   .cases e with
    |Q r=>
     cases r with
     |cons p' src ifs r=>refine Xv (P:=λE=>SS prog X C A sc _ (.Assign [_] E p)) g λe gs s q h=>XT (I.c h) ?_;clear h;rintro w0 w0 w0 w0 rfl V;exact uz hA.hh V.hCS V.h0 V.hT V.hnd V.hns V.hk V.hS V.hF (V.hr _) h2
     |_=>exact no g
    |_=>exact no g
  |C o f=>refine MY (P:=λT=>SS prog X C A sc _ (.Assign [T] E p)) h λO g q h=>k9 (bd h) λh1 g=>?_;clear h;cases O2 h1;exact tn L (I.x (o6 g)) (I.x (o5 g))
  |sub o i=>exact KP (P:=λT=>SS prog X C A sc _ (.Assign [T] E p)) h λO I' q h=>yC hA.room.ok (I.x (o6 h)) (I.x (o6 (o5 h))) (I.x (o5 (o5 h)))
 |uP ps e=>
  refine XM h λT E p h=>Yt (P:=λT=>SS prog X C A sc _ (.Assign [T] E p)) h λelts n q h=>?_;let zz:=bd h;ext1 zz h1 h;refine k9 (bd h) λh2 h=>k9 (bd h) λh3 h=>?_;have hx:=λx hx=>S9 h2 x hx;cases hs:RY sc elts E with
  |none=>rw[hs]at h;exact no h
  |some o=>
   rw[hs]at h;cases o with
   |none=>exact wc hA.hh (I.x h3) (Os (t:=.Tuple elts n q) h1) hx λenv e hb=>Zn hb (e▸hs)
   |some names=>refine k9 (bd h) λh4 h5=>?_;clear h;cases C6 h4;exact qX hA.hh (I.x h3) (C6 h5) hx λenv e hb=>Zn hb (e▸hs)
 |ret e=>exact Jg h (λw0 w0=>no) (λo p h=>GF (P:=λo=>SS prog X C A sc _ (.Return o p)) h λE h=>rT (I.x h)) (λw0 w0 w0 w0=>no) (λw0 w0 w0 w0=>no) (λw0 w0 w0 w0 w0=>no) λw0=>no
 |iff c a b=>exact Jg h (λw0 w0=>no) (λw0 w0=>no) (λc' a' b' p h=>gr (I.t (o6 h)) (J2 (o6 (o5 h))) (J2 (o5 (o5 h)))) (λw0 w0 w0 w0=>no) (λw0 w0 w0 w0 w0=>no) λw0=>no
 |«while» c b=>exact Jg h (λw0 w0=>no) (λw0 w0=>no) (λw0 w0 w0 w0=>no) (λc' b' e p h=>EU (o6 h) (P:=λe=>SS prog X C A sc _ (.While c' b' e p)) (gh (I.t (o6 (o5 h))) (J2 (o5 (o5 h))))) (λw0 w0 w0 w0 w0=>no) λw0=>no
 |«for» p src b=>refine Jg h (λw0 w0=>no) (λw0 w0=>no) (λw0 w0 w0 w0=>no) (λw0 w0 w0 w0=>no) (λtarget iter b' e q h=>?_) λw0=>no;let zz:=bd h;ext1 zz h0 h;let zz:=bd h;ext1 zz h1 h;let zz:=bd h;ext1 zz h2 h;let zz:=bd h;ext1 zz h3 h;let zz:=bd h;ext1 zz h4 h;exact EU h0 (P:=λe=>SS prog X C A sc _ (.For target iter b' e q)) (uX hA.hh (Os h1) (λx hx=>S9 h2 x hx) h3 (Sx h4) (I.r (o6 h)) (J2 (o5 h)))
 |cont=>exact Jg h (λw0 w0=>no) (λw0 w0=>no) (λw0 w0 w0 w0=>no) (λw0 w0 w0 w0=>no) (λw0 w0 w0 w0 w0=>no) λw0 w0=>af
 |dead=>exact sC
theorem si(L:Laid1 X)(c:GI prog X C k)(b:DD k A):∀n,(∀{a s B},(cs n).s a s B=a8->SS prog X C A a s B)/\∀{a s B},(cs n).l a s B=a8->Er prog X C A a s B:=by
 intro d
 induction d with
 |zero=>exact⟨λh=>no h,λh=>no h⟩
 |succ n e=>
  have J:=e;refine⟨λh=>lj b (lw L c b n) L J.1 J.2 h,λ{a s l}h=>?_⟩;cases s with
  |nil=>exact EU h pg
  |cons s r=>exact Ii h λB l h=>tR (J.1 (o6 h)) (J.2 (o5 h))def SO(X:Fx)(P:QK):Prop:=∀c f fd,P c f=a0 fd->∃FF B n,YR X (X.fn c f) fd FF B/\(cs n).l FF.scope fd.body B=a8
theorem xY(L:Laid1 X)(p:SO X P):∀k,GI prog X (u9 P k) k:=by
 intro k
 induction k with
 |zero=>intro A b f l q Q c s r m h;exact h.elim
 |succ k t=>
  intro A b f l q Q c s r m h R g;cases d:P b f with
  |none=>
   conv at h=>whnf
   rw[d]at h;exact h.elim
  |some o=>
   conv at h=>whnf
   rw[d]at h;by_cases e:l.length=o.params.length
   .replace h:=(g0 e).mp h;exact Em (p b f o d) λu B n i a=>ie L.lim m i e R g (λv j=>(si L t j n).2 a) h
   .exact((j4 e).mp h).elim
end
end Internal
set_option backward.match.sparseCases false
namespace Internal
def Nq:FD:=⟨["text"],[.ret (.and (.cmp .ne (.a "text") (.str "")) (.cmp .eq (.Q (.cons ["sign"] (.of (.a "text")) (.cons (.or (.m (.a "sign") "isspace" .nil) (.cmp .isin (.a "sign") (.str "()[]{},:"))) .nil) (.elt (.a "sign")))) (.L .nil)))]⟩
def RS:FD:=⟨["self"],[.k (.C (.a "self") "nodes") (.L .nil),
 .k (.C (.a "self") "numbers") (.D [] .nil),
 .k (.C (.a "self") "weights") (.L .nil),
 .k (.C (.a "self") "depths") (.L .nil)]⟩
def Ss:FD:=⟨["self","op","kids"],[.k (.a "node") (.bin .add (.B (.cons (.a "op") .nil)) (.bi .tuple (.cons (.a "kids") .nil))),
 .iff (.cmp .isin (.a "node") (.C (.a "self") "numbers")) [.ret (.sub (.C (.a "self") "numbers") (.a "node"))] [],
 .xE (.m (.a "self") "require" (.cons (.a "op") .nil)),
 .for ["kid"] (.of (.from (.a "node") (.e (.int 1)))) [.iff (.not (.cmp2 .le .lt (.e (.int 0)) (.a "kid") (.bi .len (.cons (.C (.a "self") "nodes") .nil)))) [.dead] []],
 .k (.sub (.C (.a "self") "numbers") (.a "node")) (.bi .len (.cons (.C (.a "self") "nodes") .nil)),
 .xE (.m (.C (.a "self") "nodes") "append" (.cons (.a "node") .nil)),
 .xE (.m (.C (.a "self") "weights") "append" (.cons (.bin .add (.e (.int 1)) (.bi .sum (.cons (.Q (.cons ["kid"] (.of (.from (.a "node") (.e (.int 1)))) .nil (.elt (.sub (.C (.a "self") "weights") (.a "kid"))))) .nil))) .nil)),
 .xE (.m (.C (.a "self") "depths") "append" (.cons (.bin .add (.e (.int 1)) (.bi .max (.cons (.bin .add (.Q (.cons ["kid"] (.of (.from (.a "node") (.e (.int 1)))) .nil (.elt (.sub (.C (.a "self") "depths") (.a "kid"))))) (.L (.cons (.e (.int 0)) .nil))) .nil))) .nil)),
 .ret (.bin .sub (.bi .len (.cons (.C (.a "self") "nodes") .nil)) (.e (.int 1)))]⟩def SG:FD:=⟨["self","op"],[.iff (.or (.not (.call "is_op" (.cons (.a "op") .nil))) (.cmp .eq (.sub (.a "op") (.e (.int 0))) (.str "?"))) [.dead] []]⟩def Sv:FD:=⟨["self","n"],[.ret (.sub (.sub (.C (.a "self") "nodes") (.a "n")) (.e (.int 0)))]⟩def Sm:FD:=⟨["self","n"],[.ret (.from (.sub (.C (.a "self") "nodes") (.a "n")) (.e (.int 1)))]⟩
def QG:FD:=⟨["rows"],[.k (.a "found") (.D [] .nil),
 .for ["row"] (.of (.a "rows")) [.k (.a "here") (.a "found"),
  .for ["v"] (.of (.a "row")) [.k (.a "here") (.m (.a "here") "setdefault" (.cons (.a "v") (.cons (.D [] .nil) .nil)))]],
 .ret (.a "found")]⟩
def RH:FD:=⟨["self","heap"],[.k (.C (.a "self") "rows") (.D [] .nil),
 .for ["c"] (.of (.m (.a "heap") "classes" .nil)) [.for ["node"] (.of (.m (.a "heap") "nodes_of" (.cons (.a "c") .nil))) [.xE (.m (.m (.C (.a "self") "rows") "setdefault" (.cons (.B (.cons (.sub (.a "node") (.e (.int 0))) (.cons (.bi .len (.cons (.a "node") .nil)) .nil))) (.cons (.L .nil) .nil))) "append" (.cons (.bin .add (.B (.cons (.a "c") .nil)) (.from (.a "node") (.e (.int 1)))) .nil))]]]⟩def Uc:FD:=⟨["self","op","many"],[.ret (.m (.C (.a "self") "rows") "get" (.cons (.B (.cons (.a "op") (.cons (.a "many") .nil))) (.cons (.L .nil) .nil)))]⟩
def QI:FD:=⟨["self","op","names","order"],[.k (.a "kept") (.Q (.cons ["row"] (.of (.m (.a "self") "table" (.cons (.a "op") (.cons (.bi .len (.cons (.a "names") .nil)) .nil)))) (.cons (.cmp .eq (.Q (.cons ["k"] (.range (.bi .len (.cons (.a "names") .nil))) (.cons (.cmp .ne (.sub (.a "row") (.a "k")) (.sub (.a "row") (.m (.a "names") "index" (.cons (.sub (.a "names") (.a "k")) .nil)))) .nil) (.elt (.a "k")))) (.L .nil)) .nil) (.elt (.a "row")))),
 .k (.a "places") (.Q (.cons ["name"] (.of (.a "order")) (.cons (.cmp .isin (.a "name") (.a "names")) .nil) (.elt (.m (.a "names") "index" (.cons (.a "name") .nil))))),
 .ret (.call "trie_of" (.cons (.Q (.cons ["row"] (.of (.a "kept")) .nil (.elt (.bi .tuple (.cons (.Q (.cons ["k"] (.of (.a "places")) .nil (.elt (.sub (.a "row") (.a "k"))))) .nil))))) .nil))]⟩
def Rt:FD:=⟨["self","heap"],[.k (.C (.a "self") "classes") (.m (.a "heap") "classes" .nil),
 .k (.C (.a "self") "tables") (.new "Tables" (.cons (.a "heap") .nil))]⟩
def Eg:FD:=⟨["self","atoms","order"],[.uP ["found","waiting"] (.B (.cons (.L .nil) (.cons (.L (.cons (.B (.cons (.B .nil) (.cons (.bi .tuple (.cons (.Q (.cons ["op","names"] (.of (.a "atoms")) .nil (.elt (.m (.C (.a "self") "tables") "trie" (.cons (.a "op") (.cons (.a "names") (.cons (.a "order") .nil))))))) .nil)) .nil))) .nil)) .nil))),
 .while (.cmp .gt (.bi .len (.cons (.a "waiting") .nil)) (.e (.int 0))) [.uP ["values","tries"] (.m (.a "waiting") "pop" .nil),
  .iff (.cmp .eq (.bi .len (.cons (.a "values") .nil)) (.bi .len (.cons (.a "order") .nil))) [.xE (.m (.a "found") "append" (.cons (.bi .dZ (.cons (.a "order") (.cons (.a "values") .nil))) .nil))] [.k (.a "users") (.Q (.cons ["k"] (.range (.bi .len (.cons (.a "atoms") .nil))) (.cons (.cmp .isin (.sub (.a "order") (.bi .len (.cons (.a "values") .nil))) (.sub (.sub (.a "atoms") (.a "k")) (.e (.int 1)))) .nil) (.elt (.a "k")))),
   .for ["v"] (.of (.m (.a "self") "shared" (.cons (.Q (.cons ["k"] (.of (.a "users")) .nil (.elt (.sub (.a "tries") (.a "k"))))) .nil))) [.k (.a "late") (.Q (.cons ["k"] (.range (.bi .len (.cons (.a "atoms") .nil))) .nil (.elt (.ite (.cmp .isin (.a "k") (.a "users")) (.sub (.sub (.a "tries") (.a "k")) (.a "v")) (.sub (.a "tries") (.a "k")))))),
    .xE (.m (.a "waiting") "append" (.cons (.B (.cons (.bin .add (.a "values") (.B (.cons (.a "v") .nil))) (.cons (.bi .tuple (.cons (.a "late") .nil)) .nil))) .nil))]]],
 .ret (.a "found")]⟩
def Rp:FD:=⟨["self","tries"],[.k (.a "least") (.sub (.bi .min (.cons (.Q (.cons ["k","trie"] (.enum (.a "tries")) .nil (.elt (.B (.cons (.bi .len (.cons (.a "trie") .nil)) (.cons (.a "k") .nil)))))) .nil)) (.e (.int 1))),
 .ret (.Q (.cons ["v"] (.of (.sub (.a "tries") (.a "least"))) (.cons (.cmp .eq (.Q (.cons ["trie"] (.of (.a "tries")) (.cons (.cmp .notin (.a "v") (.a "trie")) .nil) (.elt (.a "trie")))) (.L .nil)) .nil) (.elt (.a "v"))))]⟩
def QU:FD:=⟨["self"],[.k (.C (.a "self") "above") (.L .nil),
 .k (.C (.a "self") "lots") (.L .nil),
 .k (.C (.a "self") "merged") (.L .nil)]⟩
def Ty:FD:=⟨["self"],[.xE (.m (.C (.a "self") "above") "append" (.cons (.bi .len (.cons (.C (.a "self") "above") .nil)) .nil)),
 .xE (.m (.C (.a "self") "lots") "append" (.cons (.L (.cons (.bi .len (.cons (.C (.a "self") "lots") .nil)) .nil)) .nil)),
 .ret (.bin .sub (.bi .len (.cons (.C (.a "self") "above") .nil)) (.e (.int 1)))]⟩def RP:FD:=⟨["self"],[.ret (.bi .len (.cons (.C (.a "self") "above") .nil))]⟩
def Rz:FD:=⟨["self","a"],[.while (.cmp .ne (.sub (.C (.a "self") "above") (.a "a")) (.a "a")) [.k (.a "a") (.sub (.C (.a "self") "above") (.a "a"))],
 .ret (.a "a")]⟩
def TZ:FD:=⟨["self","a","b"],[.uP ["kept","gone"] (.bi .sorted (.cons (.L (.cons (.m (.a "self") "find" (.cons (.a "a") .nil)) (.cons (.m (.a "self") "find" (.cons (.a "b") .nil)) .nil))) .nil)),
 .iff (.cmp .eq (.a "kept") (.a "gone")) [.ret (.e .none)] [],
 .k (.sub (.C (.a "self") "above") (.a "gone")) (.a "kept"),
 .xE (.m (.sub (.C (.a "self") "lots") (.a "kept")) "extend" (.cons (.sub (.C (.a "self") "lots") (.a "gone")) .nil)),
 .xE (.m (.C (.a "self") "merged") "append" (.cons (.B (.cons (.a "kept") (.cons (.a "gone") .nil))) .nil)),
 .ret (.B (.cons (.a "kept") (.cons (.a "gone") .nil)))]⟩def Ro:FD:=⟨["self","a"],[.ret (.bi .sorted (.cons (.sub (.C (.a "self") "lots") (.m (.a "self") "find" (.cons (.a "a") .nil))) .nil))]⟩def TY:FD:=⟨["self"],[.ret (.Q (.cons ["a"] (.range (.bi .len (.cons (.C (.a "self") "above") .nil))) (.cons (.cmp .eq (.sub (.C (.a "self") "above") (.a "a")) (.a "a")) .nil) (.elt (.a "a"))))]⟩
def SZ:FD:=⟨["self"],[.k (.C (.a "self") "bank") (.new "Bank" .nil),
 .k (.C (.a "self") "unions") (.new "Unions" .nil),
 .k (.C (.a "self") "edges") (.L .nil),
 .k (.C (.a "self") "forest") (.L .nil),
 .k (.C (.a "self") "known") (.D [] .nil),
 .k (.C (.a "self") "above") (.D [] .nil),
 .k (.C (.a "self") "waiting") (.L .nil),
 .k (.C (.a "self") "backs") (.e (.int 0))]⟩def RX:FD:=⟨["self","n"],[.ret (.bin .add (.B (.cons (.m (.C (.a "self") "bank") "op" (.cons (.a "n") .nil)) .nil)) (.bi .tuple (.cons (.Q (.cons ["kid"] (.of (.m (.C (.a "self") "bank") "kids" (.cons (.a "n") .nil))) .nil (.elt (.m (.a "self") "find" (.cons (.a "kid") .nil))))) .nil)))]⟩
def SL:FD:=⟨["self","op","numbers"],[.k (.a "n") (.m (.C (.a "self") "bank") "take" (.cons (.a "op") (.cons (.a "numbers") .nil))),
 .iff (.cmp .lt (.a "n") (.m (.C (.a "self") "unions") "size" .nil)) [.ret (.a "n")] [],
 .xE (.m (.C (.a "self") "unions") "make" .nil),
 .k (.sub (.C (.a "self") "above") (.a "n")) (.L .nil),
 .for ["c"] (.of (.bi .sS (.cons (.Q (.cons ["kid"] (.of (.a "numbers")) .nil (.elt (.m (.a "self") "find" (.cons (.a "kid") .nil))))) .nil))) [.xE (.m (.sub (.C (.a "self") "above") (.a "c")) "append" (.cons (.a "n") .nil))],
 .xE (.m (.a "self") "look_at" (.cons (.a "n") .nil)),
 .ret (.a "n")]⟩def cB:FD:=⟨["self","term"],[.ret (.m (.a "self") "add" (.cons (.sub (.a "term") (.e (.int 0))) (.cons (.bi .tuple (.cons (.Q (.cons ["part"] (.of (.from (.a "term") (.e (.int 1)))) .nil (.elt (.m (.a "self") "put" (.cons (.a "part") .nil))))) .nil)) .nil)))]⟩
def Ud:FD:=⟨["self","n"],[.k (.a "other") (.m (.C (.a "self") "known") "setdefault" (.cons (.m (.a "self") "node" (.cons (.a "n") .nil)) (.cons (.a "n") .nil))),
 .iff (.cmp .ne (.m (.a "self") "find" (.cons (.a "other") .nil)) (.m (.a "self") "find" (.cons (.a "n") .nil))) [.xE (.m (.a "self") "join" (.cons (.a "other") (.cons (.a "n") (.cons (.B (.cons (.str "like") .nil)) .nil))))] []]⟩def Uf:FD:=⟨["self","n"],[.ret (.m (.C (.a "self") "unions") "find" (.cons (.a "n") .nil))]⟩def cK:FD:=⟨["self","a","b","reason"],[.ret (.m (.a "self") "join" (.cons (.a "a") (.cons (.a "b") (.cons (.a "reason") .nil))))]⟩
def Tx:FD:=⟨["self","a","b","reason"],[.xE (.m (.C (.a "self") "edges") "append" (.cons (.B (.cons (.a "a") (.cons (.a "b") (.cons (.a "reason") .nil)))) .nil)),
 .k (.a "merged") (.m (.C (.a "self") "unions") "merge" (.cons (.a "a") (.cons (.a "b") .nil))),
 .iff (.cmp .is (.a "merged") (.e .none)) [.ret (.e (.bool c8))] [],
 .uP ["kept","gone"] (.a "merged"),
 .xE (.m (.C (.a "self") "forest") "append" (.cons (.bin .sub (.bi .len (.cons (.C (.a "self") "edges") .nil)) (.e (.int 1))) .nil)),
 .xE (.m (.C (.a "self") "waiting") "extend" (.cons (.sub (.C (.a "self") "above") (.a "gone")) .nil)),
 .k (.sub (.C (.a "self") "above") (.a "kept")) (.bin .add (.sub (.C (.a "self") "above") (.a "kept")) (.m (.C (.a "self") "above") "pop" (.cons (.a "gone") .nil))),
 .ret (.e (.bool a8))]⟩def Tt:FD:=⟨["self"],[.while (.cmp .gt (.bi .len (.cons (.C (.a "self") "waiting") .nil)) (.e (.int 0))) [.xE (.m (.a "self") "look_at" (.cons (.m (.C (.a "self") "waiting") "pop" .nil) .nil))]]⟩def RI:FD:=⟨["self"],[.ret (.m (.C (.a "self") "unions") "classes" .nil)]⟩def SP:FD:=⟨["self","c"],[.ret (.m (.C (.a "self") "unions") "members" (.cons (.a "c") .nil))]⟩def QT:FD:=⟨["self","c"],[.ret (.bi .sS (.cons (.Q (.cons ["n"] (.of (.m (.a "self") "members" (.cons (.a "c") .nil))) .nil (.elt (.m (.a "self") "node" (.cons (.a "n") .nil))))) .nil))]⟩
def Rd:FD:=⟨["feed","many"],[.k (.a "spot") (.sub (.a "feed") (.str "spot")),
 .k (.sub (.a "feed") (.str "spot")) (.bin .add (.a "spot") (.e (.int 1))),
 .ret (.bin .mod (.ite (.cmp .lt (.a "spot") (.bi .len (.cons (.sub (.a "feed") (.str "cells")) .nil))) (.sub (.sub (.a "feed") (.str "cells")) (.a "spot")) (.bin .fdiv (.bin .add (.bin .add (.bin .mul (.bin .mul (.e (.int 3)) (.a "spot")) (.a "spot")) (.bin .mul (.e (.int 13)) (.a "spot"))) (.e (.int 4))) (.e (.int 2)))) (.a "many"))]⟩
def QO:FD:=⟨["feed","heap","rows","pairs"],[.for ["leaf"] (.of (.B (.cons (.str "a") (.cons (.str "b") .nil)))) [.xE (.m (.a "heap") "put" (.cons (.B (.cons (.a "leaf") .nil)) .nil)),
 .xE (.m (.a "rows") "append" (.cons (.B (.cons (.a "leaf") .nil)) .nil))],
 .for ["lap"] (.range (.call "_law_draw" (.cons (.a "feed") (.cons (.e (.int 7)) .nil)))) [.uP ["way","x","y"] (.B (.cons (.call "_law_draw" (.cons (.a "feed") (.cons (.e (.int 3)) .nil))) (.cons (.call "_law_draw" (.cons (.a "feed") (.cons (.bi .len (.cons (.a "rows") .nil)) .nil))) (.cons (.call "_law_draw" (.cons (.a "feed") (.cons (.bi .len (.cons (.a "rows") .nil)) .nil))) .nil)))),
  .iff (.cmp .eq (.a "way") (.e (.int 2))) [.xE (.m (.a "pairs") "append" (.cons (.B (.cons (.a "x") (.cons (.a "y") .nil))) .nil)),
   .xE (.m (.a "heap") "merge" (.cons (.a "x") (.cons (.a "y") (.cons (.B (.cons (.str "told") (.cons (.bin .add (.str "t") (.bi .str (.cons (.a "lap") .nil))) .nil))) .nil)))),
   .cont] [],
  .k (.a "node") (.ite (.cmp .eq (.a "way") (.e (.int 0))) (.B (.cons (.str "f") (.cons (.a "x") .nil))) (.B (.cons (.str "g") (.cons (.a "x") (.cons (.a "y") .nil))))),
  .k (.a "n") (.m (.a "heap") "add" (.cons (.sub (.a "node") (.e (.int 0))) (.cons (.from (.a "node") (.e (.int 1))) .nil))),
  .iff (.cmp .eq (.a "n") (.bi .len (.cons (.a "rows") .nil))) [.xE (.m (.a "rows") "append" (.cons (.a "node") .nil))] [],
  .iff (.cmp .ne (.sub (.a "rows") (.a "n")) (.a "node")) [.ret (.e (.bool c8))] []],
 .xE (.m (.a "heap") "settle" .nil),
 .ret (.e (.bool a8))]⟩
def RL:FD:=⟨["rows","pairs"],[.uP ["marks","goes_on"] (.B (.cons (.bi .lR (.cons (.bi .len (.cons (.a "rows") .nil)) .nil)) (.cons (.e (.bool a8)) .nil))),
 .while (.a "goes_on") [.uP ["goes_on","known"] (.B (.cons (.e (.bool c8)) (.cons (.D [] .nil) .nil))),
  .k (.a "due") (.bin .add (.a "pairs") (.Q (.cons ["n","row"] (.enum (.a "rows")) .nil (.elt (.B (.cons (.m (.a "known") "setdefault" (.cons (.bin .add (.B (.cons (.sub (.a "row") (.e (.int 0))) .nil)) (.bi .tuple (.cons (.Q (.cons ["kid"] (.of (.from (.a "row") (.e (.int 1)))) .nil (.elt (.sub (.a "marks") (.a "kid"))))) .nil))) (.cons (.a "n") .nil))) (.cons (.a "n") .nil))))))),
  .for ["a","b"] (.of (.a "due")) [.uP ["kept","gone"] (.B (.cons (.bi .min (.cons (.sub (.a "marks") (.a "a")) (.cons (.sub (.a "marks") (.a "b")) .nil))) (.cons (.bi .max (.cons (.sub (.a "marks") (.a "a")) (.cons (.sub (.a "marks") (.a "b")) .nil))) .nil))),
   .iff (.cmp .ne (.a "kept") (.a "gone")) [.uP ["marks","goes_on"] (.B (.cons (.Q (.cons ["mark"] (.of (.a "marks")) .nil (.elt (.ite (.cmp .eq (.a "mark") (.a "gone")) (.a "kept") (.a "mark"))))) (.cons (.e (.bool a8)) .nil)))] []]],
 .ret (.a "marks")]⟩
def TJ:FD:=⟨["rows","marks","op","many"],[.k (.a "found") (.L .nil),
 .for ["n","row"] (.enum (.a "rows")) [.k (.a "line") (.bin .add (.B (.cons (.sub (.a "marks") (.a "n")) .nil)) (.bi .tuple (.cons (.Q (.cons ["kid"] (.of (.from (.a "row") (.e (.int 1)))) .nil (.elt (.sub (.a "marks") (.a "kid"))))) .nil))),
  .iff (.and (.cmp .eq (.sub (.a "row") (.e (.int 0))) (.a "op")) (.and (.cmp .eq (.bi .len (.cons (.a "line") .nil)) (.a "many")) (.cmp .notin (.a "line") (.a "found")))) [.xE (.m (.a "found") "append" (.cons (.a "line") .nil))] []],
 .ret (.a "found")]⟩
def QD:FD:=⟨["feed"],[.k (.a "found") (.L .nil),
 .for ["lap"] (.range (.bin .add (.e (.int 1)) (.call "_law_draw" (.cons (.a "feed") (.cons (.e (.int 3)) .nil))))) [.uP ["op","many"] (.sub (.L (.cons (.B (.cons (.str "f") (.cons (.e (.int 2)) .nil))) (.cons (.B (.cons (.str "g") (.cons (.e (.int 3)) .nil))) (.cons (.B (.cons (.str "f") (.cons (.e (.int 2)) .nil))) (.cons (.B (.cons (.str "g") (.cons (.e (.int 3)) .nil))) (.cons (.B (.cons (.str "a") (.cons (.e (.int 1)) .nil))) (.cons (.B (.cons (.str "z") (.cons (.e (.int 2)) .nil))) .nil))))))) (.call "_law_draw" (.cons (.a "feed") (.cons (.e (.int 6)) .nil)))),
  .xE (.m (.a "found") "append" (.cons (.B (.cons (.a "op") (.cons (.bi .tuple (.cons (.Q (.cons ["k"] (.range (.a "many")) .nil (.elt (.sub (.str "xyzw") (.call "_law_draw" (.cons (.a "feed") (.cons (.e (.int 4)) .nil))))))) .nil)) .nil))) .nil))],
 .ret (.a "found")]⟩
def Tf:FD:=⟨["env","names","line"],[.k (.a "found") (.bi .dict (.cons (.a "env") .nil)),
 .for ["name","worth"] (.zip (.a "names") (.a "line")) [.iff (.cmp .ne (.m (.a "found") "setdefault" (.cons (.a "name") (.cons (.a "worth") .nil))) (.a "worth")) [.ret (.e .none)] []],
 .ret (.a "found")]⟩
def RK:FD:=⟨["rows","marks","asked"],[.k (.a "envs") (.L (.cons (.D [] .nil) .nil)),
 .for ["op","names"] (.of (.a "asked")) [.k (.a "table") (.call "_law_table" (.cons (.a "rows") (.cons (.a "marks") (.cons (.a "op") (.cons (.bi .len (.cons (.a "names") .nil)) .nil))))),
  .k (.a "late") (.Q (.cons ["env"] (.of (.a "envs")) .nil (.cons ["line"] (.of (.a "table")) .nil (.elt (.call "_law_fitted" (.cons (.a "env") (.cons (.a "names") (.cons (.a "line") .nil)))))))),
  .k (.a "envs") (.Q (.cons ["env"] (.of (.a "late")) (.cons (.cmp .isnot (.a "env") (.e .none)) .nil) (.elt (.a "env"))))],
 .ret (.bi .sS (.cons (.Q (.cons ["env"] (.of (.a "envs")) .nil (.elt (.bi .tuple (.cons (.bi .sI (.cons (.a "env") .nil)) .nil))))) .nil))]⟩
def w9:FD:=⟨["script"],[.k (.a "feed") (.D ["cells","spot"] (.cons (.Q (.cons ["cell"] (.of (.to (.a "script") (.e (.int 48)))) .nil (.elt (.bin .mod (.bi .int (.cons (.a "cell") .nil)) (.e (.int 1000003)))))) (.cons (.e (.int 0)) .nil))),
 .uP ["heap","rows","pairs"] (.B (.cons (.new "Heap" .nil) (.cons (.L .nil) (.cons (.L .nil) .nil)))),
 .iff (.not (.call "_law_built" (.cons (.a "feed") (.cons (.a "heap") (.cons (.a "rows") (.cons (.a "pairs") .nil)))))) [.ret (.e (.bool c8))] [],
 .uP ["asked","joins"] (.B (.cons (.call "_law_asked" (.cons (.a "feed") .nil)) (.cons (.new "Joins" (.cons (.a "heap") .nil)) .nil))),
 .k (.a "some") (.bi .sS (.cons (.Q (.cons ["op","names"] (.of (.a "asked")) .nil (.cons ["name"] (.of (.a "names")) .nil (.elt (.a "name"))))) .nil)),
 .uP ["turn","due"] (.B (.cons (.call "_law_draw" (.cons (.a "feed") (.cons (.bi .len (.cons (.a "some") .nil)) .nil))) (.cons (.call "_law_due" (.cons (.a "rows") (.cons (.call "_law_marks" (.cons (.a "rows") (.cons (.a "pairs") .nil))) (.cons (.a "asked") .nil)))) .nil))),
 .for ["order"] (.of (.L (.cons (.bin .add (.from (.a "some") (.a "turn")) (.to (.a "some") (.a "turn"))) (.cons (.rev (.a "some")) .nil)))) [.k (.a "found") (.Q (.cons ["env"] (.of (.m (.a "joins") "joined" (.cons (.a "asked") (.cons (.a "order") .nil)))) .nil (.elt (.bi .tuple (.cons (.bi .sI (.cons (.a "env") .nil)) .nil))))),
  .iff (.cmp .ne (.bi .sorted (.cons (.a "found") .nil)) (.a "due")) [.ret (.e (.bool c8))] []],
 .ret (.cmp .eq (.Q (.cons ["op","names"] (.of (.to (.a "asked") (.e (.int 1)))) .nil (.cons ["pair"] (.of (.m (.C (.a "joins") "tables") "table" (.cons (.a "op") (.cons (.bi .len (.cons (.a "names") .nil)) .nil)))) .nil (.elt (.a "pair"))))) (.bi .sorted (.cons (.call "_law_table" (.cons (.a "rows") (.cons (.call "_law_marks" (.cons (.a "rows") (.cons (.a "pairs") .nil))) (.cons (.sub (.sub (.a "asked") (.e (.int 0))) (.e (.int 0))) (.cons (.bi .len (.cons (.sub (.sub (.a "asked") (.e (.int 0))) (.e (.int 1))) .nil)) .nil))))) .nil)))]⟩def Xo:a7 ((j3×j3)×FD):=[(("","is_op"),Nq),(("Bank","__init__"),RS),(("Bank","take"),Ss),(("Bank","require"),SG),(("Bank","op"),Sv),(("Bank","kids"),Sm),(("","trie_of"),QG),(("Tables","__init__"),RH),(("Tables","table"),Uc),(("Tables","trie"),QI),(("Joins","__init__"),Rt),(("Joins","joined"),Eg),(("Joins","shared"),Rp),(("Unions","__init__"),QU),(("Unions","make"),Ty),(("Unions","size"),RP),(("Unions","find"),Rz),(("Unions","merge"),TZ),(("Unions","members"),Ro),(("Unions","classes"),TY),(("Heap","__init__"),SZ),(("Heap","node"),RX),(("Heap","add"),SL),(("Heap","put"),cB),(("Heap","look_at"),Ud),(("Heap","find"),Uf),(("Heap","merge"),cK),(("Heap","join"),Tx),(("Heap","settle"),Tt),(("Heap","classes"),RI),(("Heap","members"),SP),(("Heap","nodes_of"),QT),(("","_law_draw"),Rd),(("","_law_built"),QO),(("","_law_marks"),RL),(("","_law_table"),TJ),(("","_law_asked"),QD),(("","_law_fitted"),Tf),(("","_law_due"),RK),(("","law"),w9)]def u8:QK:=λc f=>Xo.lookup (c,f)
end Internal
set_option backward.defeqAttrib.useBackward true
namespace Internal
def oV(o:j0 b0)(Q:Q1)(st:St):Prop:=match o with|some v=>Q v st|none=>k6
def oB(o:j0 b7)(Q:b7->St->Prop)(st:St):Prop:=match o with|some v=>Q v st|none=>k6
def oI(o:j0 It)(Q:It->St->Prop)(st:St):Prop:=match o with|some v=>Q v st|none=>k6
def oE(o:j0 Env)(K:Env->Prop):Prop:=match o with|some v=>K v|none=>k6
def oS(o:j0 St)(K:St->Prop):Prop:=match o with|some v=>K v|none=>k6
section
variable(C:Cl)
def kA(f:j3)(Q:Q1):Q1:=λd st=>oV (H9 st d f) Q st
def Rb(d:b0)(Q:Q1):Q1:=λk st=>oV (J9 d k st) Q st
def kU(i:X)(ρ:Env)(Q:Q1):Q1:=λd st=>W C i ρ st (Rb d Q)def Uq(d:b0)(Q:Q1):Q1:=λk st=>match k with| .int k=>o8 (Ew d k st) Q|_=>k6
def YK(i:X)(ρ:Env)(Q:Q1):Q1:=λd st=>W C i ρ st (Uq d Q)def Uy(d:b0)(Q:Q1):Q1:=λk st=>match k with| .int k=>o8 (Eh d k st) Q|_=>k6
def ZQ(i:X)(ρ:Env)(Q:Q1):Q1:=λd st=>W C i ρ st (Uy d Q)def dS(Q:Q1):Q1:=λd st=>o8 (Fk d st) Q
def cV(Q:Q1):a7 b0->St->Prop:=λds st=>Q (.B ds) st
def QW(Q:Q1):a7 b0->St->Prop:=λds st=>Q (.ref st.n) (st.A (.L ds))def XY(ks:a7 j3)(Q:Q1):a7 b0->St->Prop:=λds st=>Q (.ref st.n) (st.A (.D ((ks.map q8).zip ds) ks.length))def Rf(o:Ed)(x:b0)(Q:Q1):Q1:=λy st=>o8 (V3 o x y st) Q
def bM(o:Ed)(b:X)(ρ:Env)(Q:Q1):Q1:=λx st=>W C b ρ st (Rf o x Q)def fY(Q:Q1):b7->St->Prop:=λb st=>Q (.bool !b) st
def UJ(b:X)(ρ:Env)(Q:Q1):Q1:=λd st=>match d with| .bool a8=>W C b ρ st Q| .bool c8=>Q (.bool c8) st|_=>k6
def TC(b:X)(ρ:Env)(Q:Q1):Q1:=λd st=>match d with| .bool a8=>Q (.bool a8) st| .bool c8=>W C b ρ st Q|_=>k6
def kB(Q:Q1):b7->St->Prop:=λv st=>Q (.bool v) st
def Lu(o:Dq)(x:b0)(Q:b7->St->Prop):Q1:=λy st=>oB (B0 o x y st) Q st
def kC(o:Dq)(b:X)(ρ:Env)(Q:b7->St->Prop):Q1:=λx st=>W C b ρ st (Lu o x Q)def Oc(p:Dq)(c:X)(ρ:Env)(y:b0)(Q:b7->St->Prop):b7->St->Prop:=λv st=>match v with|true=>W C c ρ st (Lu p y Q)|false=>Q c8 st
def Sr(o p:Dq)(c:X)(ρ:Env)(x:b0)(Q:b7->St->Prop):Q1:=λy st=>oB (B0 o x y st) (Oc C p c ρ y Q) st
def kD(o p:Dq)(b c:X)(ρ:Env)(Q:b7->St->Prop):Q1:=λx st=>W C b ρ st (Sr C o p c ρ x Q)def TS(a b:X)(ρ:Env)(Q:Q1):b7->St->Prop:=λt st=>match t with|true=>W C a ρ st Q|false=>W C b ρ st Q
def Zc(f:Bi)(Q:Q1):a7 b0->St->Prop:=λds st=>o8 (M4 f ds st) Q
def QR(c f:j3)(Q:Q1):a7 b0->St->Prop:=λds st=>C c f ds st Q
def TR(n:a6)(Q:Q1):Q1:=λd st'=>match d with| .none=>Q (.ref (n+1)) st'|_=>k6
def XC(c:j3)(Q:Q1):a7 b0->St->Prop:=λds st=>C c "__init__" (.ref (st.n+1)::ds) ((st.A (.fld [])).A (.I c st.n)) (TR st.n Q)def NL(c m:j3)(d:b0)(Q:Q1):a7 b0->St->Prop:=λds st=>C c m (d::ds) st Q
def KN(k:a6)(m:j3)(d:b0)(Q:Q1):a7 b0->St->Prop:=λds st'=>Q5 st' d=k/\o8 (Ac m d ds st') Q
def oM(o:j0 (j3×a6))(m:j3)(es:Xs)(ρ:Env)(Q:Q1)(d:b0)(st:St):Prop:=match o with
 |some (c,_)=>noFld st d m/\c≠""/\(BP c).contains m=a8/\Ws C es ρ st (NL C c m d Q)
 |none=>AW (Q5 st d) m=a8/\Ws C es ρ st (KN (Q5 st d) m d Q)def kM(m:j3)(es:Xs)(ρ:Env)(Q:Q1):Q1:=λd st=>oM C (st.inst? d) m es ρ Q d st
def QN(d:b0)(Q:a7 b0->St->Prop):a7 b0->St->Prop:=λds st=>Q (d::ds) st
def kX(r:Xs)(ρ:Env)(Q:a7 b0->St->Prop):Q1:=λd st=>Ws C r ρ st (QN d Q)def eM(Q:b7->St->Prop):b7->St->Prop:=λb st=>Q (!b) st
def UL(b:X)(ρ:Env)(Q:b7->St->Prop):b7->St->Prop:=λt st=>match t with|true=>WT C b ρ st Q|false=>Q c8 st
def Tu(b:X)(ρ:Env)(Q:b7->St->Prop):b7->St->Prop:=λt st=>match t with|true=>Q a8 st|false=>WT C b ρ st Q
def kT(Q:b7->St->Prop):Q1:=λd st=>match d with| .bool b=>Q b st|_=>k6
def kF(r:Xs)(ρ:Env)(Q:b7->St->Prop):b7->St->Prop:=λb st=>match b with|true=>Ee C r ρ st Q|false=>Q c8 st
def dO(Q:It->St->Prop):Q1:=λd st=>oI (BU d st) Q st
def Yx(Q:It->St->Prop):Q1:=λd st=>match d with| .int n=>(if 0<=n/\n<=j8 then Q (.range 0 n) st else k6)|_=>k6
def oL(o:j0 (a7 b0))(K:Prop):Prop:=match o with|some _=>K|none=>k6
def bI(Q:It->St->Prop):Q1:=λd st=>oL (st.list? d) (Q (.enum 0 d) st)def TQ(x:b0)(Q:It->St->Prop):Q1:=λy st=>match st.items? x,st.items? y with|some _,a0 _=>Q (.zip x y 0) st|_,_=>k6
def kZ(b:X)(ρ:Env)(Q:It->St->Prop):Q1:=λx st=>W C b ρ st (TQ x Q)def fT(acc:a7 b0)(Q:a7 b0->St->Prop):Q1:=λv st=>acc.length<=j8/\Q (acc++[v]) st
def NG(r:Gs)(ρ:Env)(acc:a7 b0)(k:a7 b0->St->Prop):b7->St->Prop:=λb st=>match b with|true=>WG C r ρ ρ st acc k|false=>k acc st
def SB(ifs:Xs)(r:Gs)(st:St)(acc:a7 b0)(k:a7 b0->St->Prop):Env->Prop:=λρ'=>Ee C ifs ρ' st (NG C r ρ' acc k)def gS(p:a7 j3)(ifs:Xs)(r:Gs)(ρ:Env)(d:b0)(st:St)(acc:a7 b0)(k:a7 b0->St->Prop):Prop:=oE (AD p d ρ) (SB C ifs r st acc k)def kG(p:a7 j3)(ifs:Xs)(r:Gs)(ρ:Env)(acc:a7 b0)(Q:a7 b0->St->Prop):It->St->Prop:=λit st=>∃n,Bd (gS C p ifs r ρ) n it st acc Q
def KF(ρ:Env)(Q:QS):Q1:=λd st=>match d with| .ref _=>k6| .B _=>k6| .ro _=>k6|_=>Q .next ρ st
def kN(ρ:Env)(Q:QS):St->Prop:=λst=>Q .next ρ st
def Sq(f:j3)(v:b0)(ρ:Env)(Q:QS):Q1:=λd st=>oS (setField st d f v) (kN ρ Q)def Ur(d v:b0)(ρ:Env)(Q:QS):Q1:=λk st=>oS (setItem st d k v) (kN ρ Q)def Rh(i:X)(v:b0)(ρ:Env)(Q:QS):Q1:=λd st=>W C i ρ st (Ur d v ρ Q)
def OR(t:Tg)(ρ:Env)(Q:QS):Q1:=λv st=>match t with
 | .a x=>Q .next (ρ.set x v) st
 | .C o f=>W C o ρ st (Sq f v ρ Q)
 | .sub o i=>W C o ρ st (Rh C i v ρ Q)def kE(st:St)(Q:QS):Env->Prop:=λρ=>Q .next ρ st
def cU(ps:a7 j3)(ρ:Env)(Q:QS):Q1:=λd st=>oE (CG ps d st ρ) (kE st Q)def YI(ρ:Env)(Q:QS):Q1:=λd st=>Q (.ret d) ρ st
def Ru(a b:a7 S)(ρ:Env)(Q:QS):b7->St->Prop:=λt st=>match t with|true=>G6 C a ρ st Q|false=>G6 C b ρ st Q
def Uu(b:a7 S)(st:St)(k:QS):Env->Prop:=λρ'=>G6 C b ρ' st k
def sS(p:a7 j3)(b:a7 S)(d:b0)(ρ:Env)(st:St)(k:QS):Prop:=oE (AD p d ρ) (Uu C b st k)def Sk(p:a7 j3)(b:a7 S)(ρ:Env)(Q:QS):It->St->Prop:=λit st=>∃n,DL (sS C p b) n it ρ st Q
def kS(r:a7 S)(Q:QS):QS:=λf ρ st=>match f with| .next=>G6 C r ρ st Q|f=>Q f ρ st
end
theorem Z1:W C (.e d) ρ st Q=Q d st:=rfl
theorem Z2:W C (.str f) ρ st Q=Q (q8 f) st:=rfl
theorem Z3:W C (.a f) ρ st Q=oV (ρ f) Q st:=rfl
theorem Z4:W C (.C e f) ρ st Q=W C e ρ st (kA f Q):=rfl
theorem Z5:kA f Q d st=oV (H9 st d f) Q st:=rfl
theorem Z6:W C (.sub e i) ρ st Q=W C e ρ st (kU C i ρ Q):=rfl
theorem Z7:kU C i ρ Q d st=W C i ρ st (Rb d Q):=rfl
theorem Z8:Rb d Q v st=oV (J9 d v st) Q st:=rfl
theorem Z9:W C (.to e i) ρ st Q=W C e ρ st (YK C i ρ Q):=rfl
theorem Z10:YK C i ρ Q d st=W C i ρ st (Uq d Q):=rfl
theorem Z11:Uq d Q (.int n) st=o8 (Ew d n st) Q:=rfl
theorem Z12:W C (.from e i) ρ st Q=W C e ρ st (ZQ C i ρ Q):=rfl
theorem Z13:ZQ C i ρ Q d st=W C i ρ st (Uy d Q):=rfl
theorem Z14:Uy d Q (.int n) st=o8 (Eh d n st) Q:=rfl
theorem Z15:W C (.rev e) ρ st Q=W C e ρ st (dS Q):=rfl
theorem Z16:dS Q d st=o8 (Fk d st) Q:=rfl
theorem Z17:W C (.B es) ρ st Q=Ws C es ρ st (cV Q):=rfl
theorem Z18:cV Q ds st=Q (.B ds) st:=rfl
theorem Z19:W C (.L es) ρ st Q=Ws C es ρ st (QW Q):=rfl
theorem Z20:QW Q ds st=Q (.ref st.n) (st.A (.L ds)):=rfl
theorem Z21:W C (.D ps es) ρ st Q=Ws C es ρ st (XY ps Q):=rfl
theorem Z22:XY ps Q ds st=Q (.ref st.n) (st.A (.D ((ps.map q8).zip ds) ps.length)):=rfl
theorem Z23:W C (.bin g a b) ρ st Q=W C a ρ st (bM C g b ρ Q):=rfl
theorem Z24:bM C g b ρ Q d st=W C b ρ st (Rf g d Q):=rfl
theorem Z25:Rf g d Q v st=o8 (V3 g d v st) Q:=rfl
theorem Z26:W C (.not e) ρ st Q=WT C e ρ st (fY Q):=rfl
theorem Z27:fY Q t' st=Q (.bool !t') st:=rfl
theorem Z28:W C (.and a b) ρ st Q=W C a ρ st (UJ C b ρ Q):=rfl
theorem Z29:UJ C b ρ Q (.bool a8) st=W C b ρ st Q:=rfl
theorem Z30:UJ C b ρ Q (.bool c8) st=Q (.bool c8) st:=rfl
theorem Z31:W C (.or a b) ρ st Q=W C a ρ st (TC C b ρ Q):=rfl
theorem Z32:TC C b ρ Q (.bool a8) st=Q (.bool a8) st:=rfl
theorem Z33:TC C b ρ Q (.bool c8) st=W C b ρ st Q:=rfl
theorem Z34:W C (.cmp o a b) ρ st Q=W C a ρ st (kC C o b ρ (kB Q)):=rfl
theorem Z35:kB Q t' st=Q (.bool t') st:=rfl
theorem Z36:kC C o b ρ B d st=W C b ρ st (Lu o d B):=rfl
theorem Z37:Lu o d B v st=oB (B0 o d v st) B st:=rfl
theorem Z38:W C (.cmp2 o p a b c) ρ st Q=W C a ρ st (kD C o p b c ρ (kB Q)):=by
 refine(?_:W C a ρ st _=W C a ρ st _);congr 1;funext x st;refine(?_:W C b ρ st _=W C b ρ st _);congr 1;funext y st;refine(?_:_=oB _ _ _);cases B0 o x y st with
 |none=>rfl
 |some t=>cases t<;>rfl
theorem Z39:kD C o p b c ρ B d st=W C b ρ st (Sr C o p c ρ d B):=rfl
theorem Z40:Sr C o p c ρ d B v st=oB (B0 o d v st) (Oc C p c ρ v B) st:=rfl
theorem Z41:Oc C p c ρ v B a8 st=W C c ρ st (Lu p v B):=rfl
theorem Z42:Oc C p c ρ v B c8 st=B c8 st:=rfl
theorem Z43:W C (.ite c a b) ρ st Q=WT C c ρ st (TS C a b ρ Q):=rfl
theorem Z44:TS C a b ρ Q a8 st=W C a ρ st Q:=rfl
theorem Z45:TS C a b ρ Q c8 st=W C b ρ st Q:=rfl
theorem Z46:W C (.Q G) ρ st Q=WG C G ρ (ρ.clear (".0"::G.tgts)) st [] (QW Q):=rfl
theorem Z47:W C (.bi h es) ρ st Q=Ws C es ρ st (Zc h Q):=rfl
theorem Z48:Zc h Q ds st=o8 (M4 h ds st) Q:=rfl
theorem Z49:W C (.call f es) ρ st Q=Ws C es ρ st (QR C "" f Q):=rfl
theorem Z50:QR C m f Q ds st=C m f ds st Q:=rfl
theorem Z51:W C (.new m es) ρ st Q=Ws C es ρ st (XC C m Q):=rfl
theorem Z52:XC C m Q ds st=C m "__init__" (.ref (st.n+1)::ds) ((st.A (.fld [])).A (.I m st.n)) (TR st.n Q):=rfl
theorem Z53{n:a6}:TR n Q .none st=Q (.ref (n+1)) st:=rfl
theorem Z54:W C (.m e m es) ρ st Q=W C e ρ st (kM C m es ρ Q):=rfl
theorem Z55:kM C m es ρ Q d st=oM C (st.inst? d) m es ρ Q d st:=rfl
theorem Z56:oM C (a0 (f,k)) m es ρ Q d st=(noFld st d m/\f≠""/\(BP f).contains m=a8/\Ws C es ρ st (NL C f m d Q)):=rfl
theorem Z57:oM C b4 m es ρ Q d st=(AW (Q5 st d) m=a8/\Ws C es ρ st (KN (Q5 st d) m d Q)):=rfl
theorem Z58:NL C f m d Q ds st=C f m (d::ds) st Q:=rfl
theorem Z59:KN k m d Q ds st=(Q5 st d=k/\o8 (Ac m d ds st) Q):=rfl
theorem Z60:Ws C .nil ρ st L=L [] st:=rfl
theorem Z61:Ws C (.cons e r) ρ st L=W C e ρ st (kX C r ρ L):=rfl
theorem Z62:kX C r ρ L d st=Ws C r ρ st (QN d L):=rfl
theorem Z63:QN d L ds st=L (d::ds) st:=rfl
theorem Z64:WT C (.not e) ρ st B=WT C e ρ st (eM B):=rfl
theorem Z65:eM B t' st=B (!t') st:=rfl
theorem Z66:WT C (.and a b) ρ st B=WT C a ρ st (UL C b ρ B):=rfl
theorem Z67:UL C b ρ B a8 st=WT C b ρ st B:=rfl
theorem Z68:UL C b ρ B c8 st=B c8 st:=rfl
theorem Z69:WT C (.or a b) ρ st B=WT C a ρ st (Tu C b ρ B):=rfl
theorem Z70:Tu C b ρ B a8 st=B a8 st:=rfl
theorem Z71:Tu C b ρ B c8 st=WT C b ρ st B:=rfl
theorem Z72:WT C (.cmp o a b) ρ st B=W C a ρ st (kC C o b ρ B):=rfl
theorem Z73:WT C (.cmp2 o p a b c) ρ st B=W C a ρ st (kD C o p b c ρ B):=by
 refine(?_:W C a ρ st _=W C a ρ st _);congr 1;funext x st;refine(?_:W C b ρ st _=W C b ρ st _);congr 1;funext y st;refine(?_:_=oB _ _ _);cases B0 o x y st with
 |none=>rfl
 |some t=>cases t<;>rfl
theorem Z74:WT C (.a f) ρ st B=oV (ρ f) (kT B) st:=by
 conv=>lhs;whnf
 generalize ρ f=o;cases o with
 |none=>rfl
 |some d=>cases d<;>rfl
theorem Z75:kT B (.bool t') st=B t' st:=rfl
theorem Z76:WT C (.call f es) ρ st B=Ws C es ρ st (QR C "" f (kT B)):=rfl
theorem Z77:WT C (.m e m es) ρ st B=W C e ρ st (kM C m es ρ (kT B)):=rfl
theorem Z78:Ee C .nil ρ st B=B a8 st:=rfl
theorem Z79:Ee C (.cons e r) ρ st B=WT C e ρ st (kF C r ρ B):=rfl
theorem Z80:kF C r ρ B a8 st=Ee C r ρ st B:=rfl
theorem Z81:kF C r ρ B c8 st=B c8 st:=rfl
theorem Z82:WI C (.of e) ρ st I=W C e ρ st (dO I):=rfl
theorem Z83:dO I d st=oI (BU d st) I st:=rfl
theorem Z84:WI C (.range e) ρ st I=W C e ρ st (Yx I):=rfl
theorem Z85:Yx I (.int n) st=(if 0<=n/\n<=j8 then I (.range 0 n) st else k6):=rfl
theorem Z86:WI C (.enum e) ρ st I=W C e ρ st (bI I):=rfl
theorem Z87:bI I d st=oL (st.list? d) (I (.enum 0 d) st):=rfl
theorem Z88:WI C (.zip a b) ρ st I=W C a ρ st (kZ C b ρ I):=rfl
theorem Z89:kZ C b ρ I d st=W C b ρ st (TQ d I):=rfl
theorem Z90:TQ d I v st=(match st.items? d,st.items? v with|some _,a0 _=>I (.zip d v 0) st|_,_=>k6):=rfl
theorem Z91:WG C (.elt e) ρs ρ st acc L=W C e ρ st (fT acc L):=rfl
theorem Z92:fT acc L v st=(acc.length<=j8/\L (acc++[v]) st):=rfl
theorem Z93:WG C (.cons ps src ifs G) ρs ρ st acc L=WI C src ρs st (kG C ps ifs G ρ acc L):=by refine(?_:WI C src ρs st _=WI C src ρs st _);congr 1;funext it st;refine(?_:(∃n,Bd _ n it st acc L)=∃n,Bd _ n it st acc L);congr 1;funext n;congr 1;funext d st acc k;refine(?_:_=oE _ _);cases AD ps d ρ<;>rfl
theorem Z94:kG C ps ifs G ρ acc L it st=∃n,Bd (gS C ps ifs G ρ) n it st acc L:=rfl
theorem Z95:gS C ps ifs G ρ d st acc L=oE (AD ps d ρ) (SB C ifs G st acc L):=rfl
theorem Z96:SB C ifs G st acc L ρ=Ee C ifs ρ st (NG C G ρ acc L):=rfl
theorem Z97:NG C G ρ acc L a8 st=WG C G ρ ρ st acc L:=rfl
theorem Z98:NG C G ρ acc L c8 st=L acc st:=rfl
theorem Z99:WS C (.xE e) ρ st K=W C e ρ st (KF ρ K):=rfl
theorem Z100:KF ρ K .none st=K .next ρ st:=rfl
theorem Z101:KF ρ K (.bool t') st=K .next ρ st:=rfl
theorem Z102:KF ρ K (.int n) st=K .next ρ st:=rfl
theorem Z103:KF ρ K (.str l) st=K .next ρ st:=rfl
theorem Z104:WS C (.k t e) ρ st K=W C e ρ st (OR C t ρ K):=rfl
theorem Z105:OR C (.a f) ρ K v st=K .next (ρ.set f v) st:=rfl
theorem Z106:OR C (.C e f) ρ K v st=W C e ρ st (Sq f v ρ K):=rfl
theorem Z107:OR C (.sub e i) ρ K v st=W C e ρ st (Rh C i v ρ K):=rfl
theorem Z108:Sq f v ρ K d st=oS (setField st d f v) (kN ρ K):=rfl
theorem Z109:Rh C i v ρ K d st=W C i ρ st (Ur d v ρ K):=rfl
theorem Z110:Ur d v ρ K x st=oS (setItem st d x v) (kN ρ K):=rfl
theorem Z111:kN ρ K st=K .next ρ st:=rfl
theorem Z112:WS C (.uP ps e) ρ st K=W C e ρ st (cU ps ρ K):=rfl
theorem Z113:cU ps ρ K d st=oE (CG ps d st ρ) (kE st K):=rfl
theorem Z114:kE st K ρ=K .next ρ st:=rfl
theorem Z115:WS C (.ret e) ρ st K=W C e ρ st (YI ρ K):=rfl
theorem Z116:YI ρ K d st=K (.ret d) ρ st:=rfl
theorem Z117:WS C (.iff c A D) ρ st K=WT C c ρ st (Ru C A D ρ K):=rfl
theorem Z118:Ru C A D ρ K a8 st=G6 C A ρ st K:=rfl
theorem Z119:Ru C A D ρ K c8 st=G6 C D ρ st K:=rfl
theorem Z120:WS C (.while c D) ρ st K=∃n,IZ (WT C c) (G6 C D) n ρ st K:=rfl
theorem Z121:WS C (.for ps src D) ρ st K=WI C src ρ st (Sk C ps D ρ K):=by refine(?_:WI C src ρ st _=WI C src ρ st _);congr 1;funext it st;refine(?_:(∃n,DL _ n it ρ st K)=∃n,DL _ n it ρ st K);congr 1;funext n;congr 1;funext d st acc k;refine(?_:_=oE _ _);cases AD ps d st<;>rfl
theorem Z122:Sk C ps D ρ K it st=∃n,DL (sS C ps D) n it ρ st K:=rfl
theorem Z123:sS C ps D d ρ st K=oE (AD ps d ρ) (Uu C D st K):=rfl
theorem Z124:Uu C D st K ρ=G6 C D ρ st K:=rfl
theorem Z125:WS C .cont ρ st K=K .cont ρ st:=rfl
theorem Z126:G6 C [] ρ st K=K .next ρ st:=rfl
theorem Z127:G6 C (s::D) ρ st K=WS C s ρ st (kS C D K):=rfl
theorem Z128:kS C D K .next ρ st=G6 C D ρ st K:=rfl
theorem Z129:kS C D K .cont ρ st=K .cont ρ st:=rfl
theorem Z130:kS C D K (.ret v) ρ st=K (.ret v) ρ st:=rfl
theorem Z131:oV (a0 v) Q st=Q v st:=rfl
theorem Z132:oB (a0 t') B st=B t' st:=rfl
theorem Z133:oI (a0 it) I st=I it st:=rfl
theorem Z134:oE (a0 ρ) F=F ρ:=rfl
theorem Z135:oS (a0 st) T=T st:=rfl
theorem Z136:oL (a0 xs) P=P:=rfl
theorem Z137:o8 (a0 (d,st)) Q=Q d st:=rfl
theorem oVs{o:j0 b0}(h:o=a0 v)(k:Q v st):oV o Q st:=h▸k
theorem oBs{o:j0 b7}(h:o=a0 t')(k:B t' st):oB o B st:=h▸k
theorem oIs{o:j0 It}(h:o=a0 it)(k:I it st):oI o I st:=h▸k
theorem oEs{o:j0 Env}(h:o=a0 ρ)(k:F ρ):oE o F:=h▸k
theorem oSs{o:j0 St}(h:o=a0 st)(k:T st):oS o T:=h▸k
theorem oLs{o:j0 (a7 b0)}(h:o=a0 xs)(k:P):oL o P:=h▸k
theorem oQs{o:j0 (b0×St)}(h:o=a0 (d,st))(k:Q d st):o8 o Q:=h▸k
theorem oMs{o:j0 (j3×a6)}(h:o=a0 (f,k))(q:noFld st d m/\f≠""/\(BP f).contains m=a8/\Ws C es ρ st (NL C f m d Q)):oM C o m es ρ Q d st:=h▸q
theorem oMl{o:j0 (j3×a6)}(h:o=b4)(a:Q5 st d=k)(b:AW k m=a8)(q:Ws C es ρ st (KN k m d Q)):oM C o m es ρ Q d st:=by subst a;exact h▸⟨b,q⟩theorem k3s(a:Q5 st d=k)(q:o8 (Ac m d ds st) Q):KN k m d Q ds st:=⟨a,q⟩theorem Y38(h:W C a ρ st (kD C o p b c ρ (kB Q))):W C (.cmp2 o p a b c) ρ st Q:=Z38▸h
theorem Y73(h:W C a ρ st (kD C o p b c ρ B)):WT C (.cmp2 o p a b c) ρ st B:=Z73▸h
theorem Y74(h:oV (ρ f) (kT B) st):WT C (.a f) ρ st B:=Z74▸h
theorem Y93(h:WI C src ρs st (kG C ps ifs G ρ acc L)):WG C (.cons ps src ifs G) ρs ρ st acc L:=Z93▸h
theorem Y121(h:WI C src ρ st (Sk C ps D ρ K)):WS C (.for ps src D) ρ st K:=Z121▸h
def DE(Q:Q1):QS:=λfl w0 st=>match fl with| .ret d=>Q d st| .next=>Q .none st| .cont=>k6
theorem Z138:DE Q (.ret d) ρ st=Q d st:=rfl
theorem Z139:DE Q .next ρ st=Q .none st:=rfl
def FW(ps:a7 j3)(ds:a7 b0):Env:=λx=>(ps.zip ds).lookup x
theorem envL_cons(p:j3)(ps:a7 j3)(d:b0)(a:a7 b0)(x:j3):FW (p::ps) (d::a) x=if x=p then a0 d else FW ps a x:=by
 unfold FW;rw[Jv,BI];by_cases h:x=p
 .rw[g0 h,show(x==p)=a8 from by simpa using h]
 .rw[j4 h,show(x==p)=c8 from by simpa using h]theorem envL_nil(x:j3):FW [] [] x=b4:=rfl
theorem set_ap(ρ:Env)(x:j3)(d:b0)(y:j3):(ρ.set x d) y=if y=x then a0 d else ρ y:=rfl
theorem clr_ap(ρ:Env)(xs:a7 j3)(y:j3):(ρ.clear xs) y=if xs.contains y=a8 then b4 else ρ y:=rfl
theorem bind1(x:j3)(d:b0)(ρ:Env):AD [x] d ρ=a0 (ρ.set x d):=rfl
theorem bind2(x y:j3)(v w:b0)(ρ:Env):AD [x,y] (.B [v,w]) ρ=a0 ((ρ.set x v).set y w):=rfl
theorem D0(a:u8 c f=a0 fd)(b:ds.length=fd.params.length)
 (h:G6 (u9 u8 k) fd.body (FW fd.params ds) st (DE Q)):u9 u8 (k+1) c f ds st Q:=by
 conv=>whnf
 rw[a];dsimp only;rw[g0 b];exact h
theorem CS{c:b0->St->a7 b0->(a7 b0->St->Prop)->Prop}{nx:a6->It}{xs:a7 b0}{I:a6->St->a7 b0->Prop}{Q:a7 b0->St->Prop}
 (o:∀i st a,i<=xs.length->I i st a->(nx i).next st=a0 ((xs[i]?).map λx=>(x,nx (i+1))))
 (hs:∀i x st a k,xs[i]?=a0 x->I i st a->(∀d b,I (i+1) d b->k b d)->c x st a k)
 (q:∀st a,I xs.length st a->Q a st){st:St}{a:a7 b0}(r:I 0 st a):∃n,Bd c n (nx 0) st a Q:=by
 let g:∀j i st a,j+i=xs.length->I i st a->Bd c (j+1) (nx i) st a Q:=by
  intro j
  induction j with
  |zero=>
   intro i st a e f;let l:=(JT _).symm.trans e;clear e;subst l
   conv=>whnf
   rw[o _ st a (l8 _) f,AA (l8 _)];exact q st a f
  |succ j s=>
   intro i st a e f
   conv=>whnf
   let m:=cH e;let p:=v5 m;rw[o _ st a (e▸M0 _ _) f,p];exact hs i _ st a _ p f λd b h=>s (i+1) d b ((Y7 _ _ 1).trans e) h
 exact⟨_,g xs.length 0 st a (by solve_by_elim (maxDepth:=2)only[*,j7]) r⟩
theorem BC{c:b0->Env->St->QS->Prop}{nx:a6->It}{xs:a7 b0}{I:a6->Env->St->Prop}{Q:QS}
 (m:∀i ρ st,i<=xs.length->I i ρ st->(nx i).next st=a0 ((xs[i]?).map λx=>(x,nx (i+1))))
 (hs:∀i x ρ st(k:QS),xs[i]?=a0 x->I i ρ st->(∀a b,I (i+1) a b->k .next a b/\k .cont a b)->(∀v a b,Q (.ret v) a b->k (.ret v) a b)->c x ρ st k)
 (q:∀ρ st,I xs.length ρ st->Q .next ρ st){st:St}{ρ:Env}(r:I 0 ρ st):∃n,DL c n (nx 0) ρ st Q:=by
 let f:∀j i ρ st,j+i=xs.length->I i ρ st->DL c (j+1) (nx i) ρ st Q:=by
  intro j
  induction j with
  |zero=>
   intro i ρ st d e;let g:=(JT _).symm.trans d;clear d;subst g
   conv=>whnf
   rw[m _ ρ st (l8 _) e,AA (l8 _)];exact q ρ st e
  |succ j o=>
   intro i ρ st d e
   conv=>whnf
   let l:=cH d;let p:=v5 l;rw[m _ ρ st (d▸M0 _ _) e,p];exact hs i _ ρ st _ p e (λa b h=>⟨o (i+1) a b ((Y7 _ _ 1).trans d) h,o (i+1) a b ((Y7 _ _ 1).trans d) h⟩) λv a b h=>h
 exact⟨_,f xs.length 0 ρ st (by solve_by_elim (maxDepth:=2)only[*,j7]) r⟩
theorem Ox{e:Env->St->(b7->St->Prop)->Prop}{body:Env->St->QS->Prop}{I:a6->Env->St->Prop}{Q:QS}
 (hs:∀m ρ a(K:Env->St->Prop),I m ρ a->(∀g c d,g<m->I g c d->K c d)->
  e ρ a (λb a=>match b with
   |false=>Q .next ρ a
   |true=>body ρ a (λf ρ a=>match f with
    | .ret v=>Q (.ret v) ρ a
    |_=>K ρ a))){ρ:Env}(p:I m ρ a):∃n,IZ e body n ρ a Q:=by
 let l:∀j m ρ a,m<=j->I m ρ a->IZ e body (j+1) ρ a Q:=by
  intro j
  induction j with
  |zero=>
   intro m ρ a i k
   conv=>whnf
   exact hs m ρ a _ k λg c d h r=>(X1 _ (j7 h i)).elim
  |succ j q=>
   intro m ρ a i k
   conv=>whnf
   exact hs m ρ a _ k λg c d h o=>q g c d (v0 (j7 h i)) o
 exact⟨_,l m m ρ a (l8 _) p⟩
end Internal
local macro_rules (kind:=Lean.Parser.Tactic.«tacticExists_,,»)
 |s=>jq s
namespace Internal
abbrev iD(n:a6):b0:=.int n
def d6(st:St)(a:a6)(xs:a7 b0):Prop:=a<st.n/\st.h a= .L xs
def m7(st:St)(a:a6)(es:a7 (b0×b0))(ep:a6):Prop:=a<st.n/\st.h a= .D es ep
def v3(st:St)(a:a6)(c:j3)(e:a6)(es:a7 (j3×b0)):Prop:=a<st.n/\st.h a= .I c e/\e<st.n/\st.h e= .fld es
section
variable{st:St}
theorem d6.list(h:d6 st a xs):st.list? (.ref a)=a0 xs:=by refine G5 h.1 ?_;rw[h.2]theorem d6.items(h:d6 st a xs):st.items? (.ref a)=a0 xs:=h.list
theorem d6.I(h:d6 st a xs):st.inst? (.ref a)=b4:=by refine G5 h.1 ?_;rw[h.2]theorem m7.dict(h:m7 st a es ep):st.dict? (.ref a)=a0 es:=by refine G5 h.1 ?_;rw[h.2]theorem m7.list(h:m7 st a es ep):st.list? (.ref a)=b4:=by refine G5 h.1 ?_;rw[h.2]theorem m7.items(h:m7 st a es ep):st.items? (.ref a)=b4:=h.list
theorem m7.I(h:m7 st a es ep):st.inst? (.ref a)=b4:=by refine G5 h.1 ?_;rw[h.2]theorem v3.I(h:v3 st a c e fs):st.inst? (.ref a)=a0 (c,e):=by refine G5 h.1 ?_;rw[h.2.1];refine G5 h.2.2.1 ?_;try with_reducible rfl
theorem v3.C(h:v3 st a c e fs)(b:(Ct c).contains f=a8)(d:fs.lookup f=a0 v):H9 st (.ref a) f=a0 v:=by unfold H9;rw[h.I];refine G5 b ?_;rw[h.2.2.2];exact d
theorem v3.q(h:v3 st a c e fs)(d:fs.lookup m=b4):noFld st (.ref a) m:=by unfold Internal.noFld St.fields?;rw[h.I];refine(?_:(match(match st.h e with| .fld b=>a0 b|_=>b4)with|some b=>b.lookup m=b4|none=>k6));rw[h.2.2.2];exact d
theorem v3.go{x:b7}{z:Prop}(h:v3 st a c e fs)(k:z)(i:fs.lookup m=b4:=by rfl)(j:c≠"":=by decide)(l:x=y:=by rfl):Internal.noFld st (.ref a) m/\c≠""/\x=y/\z:=⟨h.q i,j,l,k⟩theorem v3.set(h:v3 st a c e fs)(b:(Ct c).contains f=a8)(d:fs.length<=20):setField st (.ref a) f v=a0 (st.set e (.fld ((f,v)::fs))):=by unfold setField;rw[h.I];refine G5 b ?_;rw[h.2.2.2];refine G5 (by unfold j8;exact p6) ?_;try with_reducible rfl
theorem d6.kind(h:d6 st a xs):Q5 st (.ref a)=1:=by unfold Q5;rw[h.list]theorem m7.kind(h:m7 st a es ep):Q5 st (.ref a)=2:=by unfold Q5;rw[h.list,h.dict]
theorem AX(h:d6 st a b)(hi:i<=1000)(c:b[i]?=a0 v):J9 (.ref a) (iD i) st=a0 v:=by
 refine(?_:(match st.items? (.ref a)with
  |some b=>if 0<=(i:d3)/\(i:d3)<=j8 then b[(i:d3).toNat]? else b4
  |none=>_)=_)
 rw[h.items];refine G5 ⟨by solve_by_elim (maxDepth:=2)only[*,j7],by unfold j8;exact Int.ofNat_le.mpr (b6 hi (by decide))⟩ ?_;rw[Q8,c]theorem BR(hi:i<=1000)(a:xs[i]?=a0 v):J9 (.B xs) (iD i) st=a0 v:=by refine G5 ⟨by solve_by_elim (maxDepth:=2)only[*,j7],by unfold j8;exact Int.ofNat_le.mpr (b6 hi (by decide))⟩ ?_;rw[Q8,a]
theorem GE(h:m7 st a b ep)(c:v8 b k=a8)(d:t4 b k=a0 v):J9 (.ref a) k st=a0 v:=by
 cases k with
 |int i=>refine(?_:LH (.ref a) i st=_);unfold LH;rw[h.items];refine(?_:Jq (.ref a) (.int i) st=_);unfold Jq;rw[h.dict];exact(g0 c).trans d
 |_=>
  refine(?_:(match st.dict? (.ref a)with
   |some b=>if v8 b _ then t4 b _ else b4
   |none=>b4)=_)
  rw[h.dict];refine G5 c ?_;rw[d]
theorem X0(h:d6 st a b):M4 .len [.ref a] st=a0 (iD b.length,st):=by
 refine(?_:(match st.list? (.ref a)with
  |some b=>a0 (b0.int b.length,st)
  |none=>_)=_)
 rw[h.list]
theorem dl(h:m7 st a es ep):M4 .len [.ref a] st=a0 (iD es.length,st):=by
 refine(?_:(match st.list? (.ref a)with
  |some b=>a0 (b0.int b.length,st)
  |none=>(st.dict? (.ref a)).map λ(es:a7 (b0×b0))=>(b0.int es.length,st))=_)
 rw[h.list,h.dict];rfl
theorem GD(h:xs.length<=1000):M4 .len [.B xs] st=a0 (iD xs.length,st):=by refine G5 (by unfold j8;exact p6) ?_;try with_reducible rfl
theorem Do:B0 .eq (iD i) (iD j) st=a0 (decide (i=j)):=by refine(?_:a0 ((i:d3)==(j:d3))=_);congr 1;rw[P2,Ai,C3];exact⟨PJ,λh=>h▸rfl⟩theorem FT:B0 .ne (iD i) (iD j) st=a0 (decide (i≠j)):=by refine(?_:a0 (!((i:d3)==(j:d3)))=_);congr 1;rw[P2,mY,Ga,C3];exact not_congr ⟨PJ,λh=>h▸rfl⟩theorem IA:B0 .lt (iD i) (iD j) st=a0 (decide (i<j)):=by refine(?_:a0 (decide ((i:d3)<(j:d3)))=_);congr 1;rw[P2];simp
theorem ZE:B0 .gt (iD i) (iD j) st=a0 (decide (j<i)):=by refine(?_:a0 (decide ((j:d3)<(i:d3)))=_);congr 1;rw[P2];simp
theorem tw:B0 .le (iD i) (iD j) st=a0 (decide (i<=j)):=by refine(?_:a0 (decide ((i:d3)<=(j:d3)))=_);congr 1;rw[P2];simp
theorem bP:V3 .add (iD i) (iD j) st=a0 (iD (i+j),st):=by refine(?_:a0 (b0.int ((i:d3)+(j:d3)),st)=_);rw[<-d3.natCast_add]theorem QF(h:j<=i):V3 .sub (iD i) (iD j) st=a0 (iD (i - j),st):=by refine(?_:a0 (b0.int ((i:d3) - (j:d3)),st)=_);rw[<-d3.ofNat_sub h]theorem IS(h:xs.length+ys.length<=1000):V3 .add (.B xs) (.B ys) st=a0 (.B (xs++ys),st):=by refine G5 (by unfold j8;exact p6) ?_;try with_reducible rfl
theorem Ng(h:d6 st a c)(e:d6 st b d)(f:c.length+d.length<=1000):V3 .add (.ref a) (.ref b) st=a0 (.ref st.n,st.A (.L (c++d))):=by refine(?_:((st.list? (.ref a)).bind λc=>(st.list? (.ref b)).bind λd=>if c.length+d.length<=j8 then a0 (b0.ref st.n,st.A (.L (c++d)))else b4)=_);rw[h.list,e.list];refine G5 (by unfold j8;exact p6) ?_;try with_reducible rfl
theorem Su(h:d6 st a xs):Ac m (.ref a) ds st=FK m a xs ds st:=by refine G5 h.1 ?_;rw[h.2]theorem MU(h:m7 st a es ep):Ac m (.ref a) ds st=Fh m a es ep ds st:=by refine G5 h.1 ?_;rw[h.2]theorem Rn(h:d6 st a xs)(b:xs.length<=j8):Ac "append" (.ref a) [v] st=a0 (.none,st.set a (.L (xs++[v]))):=by rw[Su h];unfold FK;refine G5 rfl ?_;rw[g0 b]theorem Ny(h:n<=1000):n<=j8:=b6 h (by decide)theorem Bg(h:d6 st a xs)(b:xs.length<=1000):Ac "append" (.ref a) [v] st=a0 (.none,st.set a (.L (xs++[v]))):=Rn h (Ny b)theorem cW(h:d6 st a xs)(c:d6 st b ys)(d:xs.length+ys.length<=1000):Ac "extend" (.ref a) [.ref b] st=a0 (.none,st.set a (.L (xs++ys))):=by rw[Su h];unfold FK;refine Ey (by decide) ?_;rw[g0 rfl,c.list];exact g0 (Ny d)
theorem XQ(h:d6 st a (xs++[v])):Ac "pop" (.ref a) [] st=a0 (v,st.set a (.L xs)):=by
 rw[Su h];unfold FK;refine G5 rfl ?_;try with_reducible rfl
 simp
theorem zA(h:m7 st a es ep)(b:v8 es k=a8)(c:t4 es k=a0 v):Ac "pop" (.ref a) [k] st=a0 (v,st.set a (.D (EQ es k) (ep+1))):=by rw[MU h];unfold Fh Dy;refine G5 ⟨rfl,b⟩ ?_;rw[c];rfl
theorem pv(h:m7 st a es ep)(b:v8 es k=a8):Ac "get" (.ref a) [k,u] st=a0 ((t4 es k).getD u,st):=by rw[MU h];unfold Fh Dy;refine G5 rfl ?_;rw[g0 b]theorem KZ(h:m7 st a es ep)(b:v8 es k=a8)(c:es.length<=1000)(d:t4 es k=a0 v):Ac "setdefault" (.ref a) [k,u] st=a0 (v,st):=by rw[MU h];unfold Fh Dy;refine Ey (by decide) ?_;rw[g0 rfl,g0 ⟨b,Ny c⟩,d]theorem KB(h:m7 st a es ep)(b:v8 es k=a8)(c:es.length<=1000)(d:t4 es k=b4):Ac "setdefault" (.ref a) [k,u] st=a0 (u,st.set a (.D (es++[(k,u)]) (ep+1))):=by rw[MU h];unfold Fh Dy;refine Ey (by decide) ?_;rw[g0 rfl,g0 ⟨b,Ny c⟩,d]theorem fk(h:d6 st a xs)(hi:i<xs.length):setItem st (.ref a) (iD i) v=a0 (st.set a (.L (xs.set i v))):=by unfold setItem;refine G5 h.1 ?_;rw[h.2];refine G5 ⟨by solve_by_elim (maxDepth:=2)only[*,j7],by rw[Q8];exact hi⟩ ?_;rw[Q8]theorem NE(h:m7 st a es ep)(b:v8 es k=a8)(c:es.length<=1000):setItem st (.ref a) k v=a0 (st.set a (.D (Q0 es k v) (if(t4 es k).isSome then ep else ep+1))):=by unfold setItem;refine G5 h.1 ?_;rw[h.2];refine G5 ⟨b,by unfold j8;exact p6⟩ ?_;try with_reducible rfl
theorem Q4(h:d6 st a xs):BU (.ref a) st=a0 (.seq (.ref a) 0):=by unfold BU;refine G5 h.1 ?_;rw[h.2]theorem R9(h:d6 st a xs)(i:a6):(It.seq (.ref a) i).next st=a0 ((xs[i]?).map λx=>(x,.seq (.ref a) (i+1))):=by unfold It.next;dsimp only;rw[h.items];rfl
theorem Dt(i:a6):(It.seq (.B xs) i).next st=a0 ((xs[i]?).map λx=>(x,.seq (.B xs) (i+1))):=rfl
theorem GP{n:a6}(hi:i<=n):(It.range (i:d3) (n:d3)).next st=a0 ((((p0 n).map iD)[i]?).map λx=>(x,.range ((i+1:a6):d3) n)):=by
 unfold It.next;dsimp only;congr 1;rw[o7];by_cases h:i<n
 .refine G5 (Int.ofNat_lt.mpr h) ?_;rw[JB h];rfl
 .refine Ey (λq=>h (Int.ofNat_lt.mp q)) ?_;rw[AA (by simp;exact Bm ‹_›)];rfl
theorem TN(h:d6 st a xs)(i:a6):(It.enum i (.ref a)).next st=a0 (((xs.mapIdx λj x=>b0.B [iD j,x])[i]?).map λx=>(x,.enum (i+1) (.ref a))):=by unfold It.next;dsimp only;rw[h.items,Mv];refine(?_:a0 (Ju (λx=>(b0.B [b0.int ↑i,x],It.enum (i+1) (b0.ref a))) xs[i]?)=_);cases xs[i]?<;>rfl
def Ex(st st':St):Prop:=st.n<=st'.n/\∀b,b<st.n->st'.h b=st.h b
theorem Ex.refl(st:St):Ex st st:=⟨l8 _,λa a=>rfl⟩theorem Ex.trans(x:Ex st st')(y:Ex st' st''):Ex st st'':=⟨b6 x.1 y.1,λb a=>(y.2 b (j7 a x.1)).trans (x.2 b a)⟩theorem Ex.A(st:St)(o:AO):Ex st (st.A o):=⟨N8 _,λb a=>j4 (m6 a)⟩theorem d6.ex(h:d6 st a xs)(x:Ex st st'):d6 st' a xs:=⟨j7 h.1 x.1,(x.2 a h.1).trans h.2⟩theorem m7.ex(h:m7 st a es ep)(x:Ex st st'):m7 st' a es ep:=⟨j7 h.1 x.1,(x.2 a h.1).trans h.2⟩theorem v3.ex(h:v3 st a c e fs)(x:Ex st st'):v3 st' a c e fs:=M3 (j7 h.1 x.1) ((x.2 a h.1).trans h.2.1) (j7 h.2.2.1 x.1) ((x.2 e h.2.2.1).trans h.2.2.2)theorem d6.new(st:St)(xs:a7 b0):d6 (st.A (.L xs)) st.n xs:=⟨B8 _,g0 rfl⟩theorem m7.new(st:St)(es:a7 (b0×b0))(ep:a6):m7 (st.A (.D es ep)) st.n es ep:=⟨B8 _,g0 rfl⟩theorem d6.U(h:a<st.n):d6 (st.set a (.L xs)) a xs:=⟨h,g0 rfl⟩theorem m7.U(h:a<st.n):m7 (st.set a (.D es ep)) a es ep:=⟨h,g0 rfl⟩theorem d6.set(h:d6 st a xs)(c:a≠b):d6 (st.set b o) a xs:=⟨h.1,(j4 c).trans h.2⟩theorem m7.set(h:m7 st a es ep)(c:a≠b):m7 (st.set b o) a es ep:=⟨h.1,(j4 c).trans h.2⟩theorem d6.A(h:d6 st a xs):d6 (st.A o) a xs:=h.ex (Ex.A _ _)theorem m7.A(h:m7 st a es ep):m7 (st.A o) a es ep:=h.ex (Ex.A _ _)theorem v3.A(h:v3 st a c e fs):v3 (st.A o) a c e fs:=h.ex (Ex.A _ _)
end
theorem O0{α:Type}{l:a7 α}(h:n<l.length):∃p,l[n]?=a0 p:=⟨_,v5 h⟩
structure UF (N:a6) (par:a7 a6) (R:a6->a6):Prop where
 len:par.length=N
 le:∀(n p:a6),par[n]?=a0 p->p<=n
 up:∀(n p:a6),par[n]?=a0 p->R n=R p
 top:∀(n:a6),par[n]?=a0 n->R n=n
theorem UF.root{N:a6}{b:a7 a6}{R:a6->a6}(F:UF N b R):∀(n:a6),n<N->R n<=n/\b[R n]?=a0 (R n):=by
 intro n
 induction n using a6.strongRecOn with
 |_ n e=>
  intro f;refine d4 (O0 (l:=b) (by rw[F.len];exact f)) λp d=>?_;let c:=F.le n p d;rcases Ci p n with h|h
  .let a:=e p h (b6 ‹_› (m9 ‹_›));rw[F.up n p d];exact⟨b6 a.1 c,a.2⟩
  .let a:=AL c h;clear e f c h;subst a;rw[F.top p d];exact⟨l8 _,d⟩theorem UF.iE(F:UF N par R)(a:n<N):R (R n)=R n:=F.top _ (F.root n a).2
theorem UF.ltN(F:UF N par R)(a:n<N):R n<N:=q5 (F.root n a).1 a
theorem UF.isRoot(F:UF N par R)(b:par[n]?=a0 p):p=n↔R n=n:=by
 constructor
 .rintro rfl;exact F.top _ b
 .intro h;let a:=(F.root n (by rw[<-F.len];exact(x0 b):n<N)).2;rw[h,b]at a;exact C5 a
def C0(R:a6->a6)(k g:a6):a6->a6:=λn=>if R n=g then k else R n
theorem UF.merge(F:UF N par R)(d:R k=k)(c:R g=g)(a:k<g)(b:g<N):UF N (par.set g k) (C0 R k g):=by
 refine⟨by rw[PU];exact F.len,λn p h=>?_,λn p h=>?_,λn h=>?_⟩
 .rw[Wl]at h;split at h
  .rename_i e;subst e;split at h
   .cases h;exact m9 ‹_›
   .cases h
  .exact F.le n p h
 .rw[Wl]at h;unfold C0;split at h
  .rename_i e;subst e;split at h
   .cases h;rw[g0 c,d,j4 (m6 ‹_›)]
   .cases h
  .rw[F.up n p h]
 .rw[Wl]at h;unfold C0;split at h
  .rename_i e;subst e;split at h
   .clear c b;cases h;exact u6 a (U4 _)
   .cases h
  .rename_i e;rw[F.top n h,j4 λf=>e f.symm]
structure UG where
 par:a7 a6
 S:a7 (a7 a6)
 la:a7 a6
 mg:a6
def Fm(P:a6->Prop)(st st':St):Prop:=st.n<=st'.n/\∀b,b<st.n->¬P b->st'.h b=st.h b
theorem Fm.refl(st:St):Fm P st st:=⟨l8 _,λa a a=>rfl⟩theorem Fm.trans(x:Fm P st st')(y:Fm P st' st''):Fm P st st'':=⟨b6 x.1 y.1,λb a c=>(y.2 b (j7 a x.1) c).trans (x.2 b a c)⟩theorem Fm.mono(x:Fm P st st')(h:∀b,b<st.n->P b->P' b):Fm P' st st':=⟨x.1,λb a c=>x.2 b a λq=>c (h b a q)⟩theorem Fm.set(c:P a):Fm P st (st.set a o):=⟨l8 _,λb f d=>j4 (λe:b=a=>d (e▸c))⟩theorem Fm.ex(x:Ex st st'):Fm P st st':=⟨x.1,λb a c=>x.2 b a⟩theorem d6.fr(h:d6 st a xs)(x:Fm P st st')(b:¬P a:=by decide):d6 st' a xs:=⟨j7 h.1 x.1,(x.2 a h.1 b).trans h.2⟩theorem m7.fr(h:m7 st a es ep)(x:Fm P st st')(b:¬P a:=by decide):m7 st' a es ep:=⟨j7 h.1 x.1,(x.2 a h.1 b).trans h.2⟩
theorem v3.fr(h:v3 st a c e fs)(x:Fm P st st')(d:¬P a:=by decide)(b:¬P e:=by decide):v3 st' a c e fs:=
 (M3 (j7 h.1 x.1) ((x.2 a h.1 d).trans h.2.1) (j7 h.2.2.1 x.1) ((x.2 e h.2.2.1 b).trans h.2.2.2))
structure Bl (st:St) (u:UG):Prop where
 Z:v3 st 12 "Unions" 11 [("merged",.ref 15),("lots",.ref 14),("above",.ref 13)]
 par:d6 st 13 (u.par.map iD)
 S:d6 st 14 (u.la.map .ref)
 mgd:∃ms,d6 st 15 ms/\ms.length=u.mg
 len:u.la.length=u.S.length
 nd:u.la.Nodup
 lo:∀a∈u.la,23<=a
 lot:∀(i a:a6)(l:a7 a6),u.la[i]?=a0 a->u.S[i]?=a0 l->d6 st a (l.map iD)def UG.own(u:UG)(b:a6):Prop:=(11<=b/\b<=15)\/b∈u.la
theorem Bl.fr(h:Bl st u)(x:Fm P st st')(c:∀b,u.own b->¬P b):Bl st' u where
 Z:=h.Z.fr x (c 12 (.inl (by decide))) (c 11 (.inl (by decide)))
 par:=h.par.fr x (c 13 (.inl (by decide)))
 S:=h.S.fr x (c 14 (.inl (by decide)))
 mgd:=c9 h.mgd λf d e=>(d0 f (d.fr x (c 15 (.inl (by decide)))) e)
 len:=h.len
 nd:=h.nd
 lo:=h.lo
 lot:=λi a l d e=>(h.lot i a l d e).fr x (c a (.inr (p8 d)))theorem Bl.ex(h:Bl st u)(x:Ex st st'):Bl st' u:=h.fr (P:=λa=>k6) (Fm.ex x) λa a=>id
theorem NK{st:St}{u:UG}{R:a6->a6}{N:a6}{Q:Q1}(U:Bl st u)(F:UF N u.par R)(r:N<=100)(s:a<N)(t:Q (iD (R a)) st):u9 u8 (k+1) "Unions" "find" [.ref 12,iD a] st Q:=by
 refine D0 (fd:=Rz) rfl rfl ?_;delta Rz;exists 0;refine Ox (I:=λm ρ b=>b=st/\ρ "self"=a0 (.ref 12)/\ρ "a"=a0 (iD m)/\m<N/\R m=R a) ?_ ⟨rfl,rfl,rfl,s,rfl⟩;rintro m ρ b K o q;ext GL o rfl h i f j;refine d4 (O0 (l:=u.par) (by rw[F.len];exact f)) λp g=>?_;have n:J9 (.ref 13) (iD m) b=a0 (iD p):=AX U.par (gG f r rfl) (by rw[o7,g];rfl);have d:H9 b (.ref 12) "above"=a0 (.ref 13):=U.Z.C rfl rfl;exists h,i,d,n,FT,rfl;(try exists 0,h,i,d,n,FT);by_cases c:p=m
 .clear q i f n;subst c;exists 0,Qv,nT;rw[F.top p g]at j;rw[j];exact t
 .let e:=F.le m p g;exists 0,Qv,c,VD;refine q p _ _ (DX e c) ⟨rfl,?_,?_,Bc f e,by rw[<-F.up m p g];exact j⟩
  .simpa[Env.set]using h
  .simp[Env.set]theorem X9:AW 1 "append"=a8:=rfl
theorem fE:AW 1 "extend"=a8:=rfl
theorem Zk:AW 1 "pop"=a8:=rfl
theorem fj:AW 2 "pop"=a8:=rfl
theorem re:AW 2 "get"=a8:=rfl
theorem HZ:AW 2 "setdefault"=a8:=rfl
theorem gX(U:Bl st u)(b:Q (iD u.par.length) st):u9 u8 (k+1) "Unions" "size" [.ref 12] st Q:=by refine D0 (fd:=RP) rfl rfl ?_;let a:=X0 U.par;rw[f7]at a;delta RP;exists 0,(U.Z.C rfl rfl:H9 st (.ref 12) "above"=a0 (.ref 13)),a;exact b
def UG.make(u:UG)(a:a6):UG:={par:=u.par++[u.par.length],S:=u.S++[[u.par.length]],la:=u.la++[a],mg:=u.mg}
theorem yK(U:Bl st u)(G:23<=st.n)(B:u.par.length<=100)(H:u.S.length=u.par.length)
 (R:∀r,Fm u.own st r->st.n<r.n->Bl r (u.make st.n)->Q (iD u.par.length) r):u9 u8 (k+1) "Unions" "make" [.ref 12] st Q:=by
 refine D0 (fd:=Ty) rfl rfl ?_;let I:=X0 U.par;rw[f7]at I;delta Ty;exists(U.Z.C rfl rfl),I,U.par.I,U.par.kind,X9,(Bg U.par (v:=iD u.par.length) (by rw[f7];exact p6)),rfl;let D:∀a∈u.la,a<st.n:=λa o=>by
  refine d4 (N2 o) λi J=>d4 J ?_;clear J;clear o;rintro t rfl;let s:=O0 (l:=u.S) (n:=i) (by rw[<-U.len];exact t);ext1 s l z;exact(U.lot i _ l (v5 t) z).1
 refine N5 (st.set 13 (.L (u.par.map iD++[iD u.par.length]))) λd q=>?_;have x:Fm (·=13) st d:=by rw[<-q];exact Fm.set rfl
 have K:=U.Z.fr x;have A:=U.S.fr x;let L:=X0 A;rw[f7,U.len,H]at L;let C:=A.A;exists(K.C rfl rfl),L,A.I,A.kind,C.kind,X9,(Bg C (v:=.ref d.n) (by rw[f7,U.len,H];exact p6)),rfl;generalize g:(d.A (.L [iD u.par.length])).set 14 (.L (u.la.map .ref++[.ref d.n]))=f;have w:d.n=st.n:=by rw[<-q];rfl
 have y:Fm (·=14) d f:=by rw[<-g];exact(Fm.ex (Ex.A _ _)).trans (Fm.set rfl)
 let E:f.n=st.n+1:=by rw[<-g,<-w];rfl
 let M:=(by rw[<-q];exact d6.U U.par.1:d6 d 13 (u.par.map iD++[iD u.par.length])).fr y;let N:=K.fr y;let S:H9 f (.ref 12) "above"=a0 (.ref 13):=N.C rfl rfl;let O:=X0 M;rw[u7,f7]at O;let T:V3 .sub (iD (u.par.length+1)) (.int 1) f=a0 (iD u.par.length,f):=QF (j:=1) (M0 _ _);exists 0,S,O,T,N9,AH,JT;let F:Fm u.own st f:=(x.mono λb _ h=>.inl (gE h rfl rfl)).trans (y.mono λb _ h=>.inl (gE h rfl rfl));refine R f F (Na E) ⟨N,?_,?_,?_,?_,?_,?_,?_⟩
 .let c:(u.make st.n).par.map iD=u.par.map iD++[iD u.par.length]:=p9;rw[c];exact M
 .let c:(u.make st.n).la.map b0.ref=u.la.map .ref++[.ref d.n]:=by rw[w];exact p9
  rw[c,<-g];exact d6.U C.1
 .let s:=U.mgd;ext1 s V m p;exact d0 V ((m.fr x).fr y) p
 .refine(?_:(u.la++[st.n]).length=(u.S++[[u.par.length]]).length);rw[u7,u7,U.len];rfl
 .refine(?_:(u.la++[st.n]).Nodup);rw[BM];refine m0 U.nd (by simp) λa o b B=>?_;rw[o9]at B;let c:=D a o;exact ew c B
 .intro a o;rcases v4 o with o|o
  .exact U.lo a o
  .rw[o9]at o;exact fJ G o
 .intro i a l m p;let m:(u.la++[st.n])[i]?=a0 a:=m;let p:(u.S++[[u.par.length]])[i]?=a0 l:=p;rw[Vz]at m p;by_cases t:i<u.la.length
  .rw[g0 t]at m;rw[g0 (by rw[<-U.len];exact t)]at p;let c:=U.lo a (p8 m);exact((U.lot i a l m p).fr x (gF c rfl)).fr y (gF c rfl)
  .rw[j4 t]at m;rw[j4 (by rw[<-U.len];exact t)]at p;have P:i - u.la.length=0:=by let c:=x0 m;simpa using c
   rw[P]at m;rw[(by rw[<-U.len];exact P:i - u.S.length=0)]at p;cases m;cases p;rw[<-g];let c:=d6.new d [iD u.par.length];rw[w]at c;exact c.set λe=>u6 (e▸G) (by decide)
theorem Ef{α:Type}{l:a7 α}(h:l.Nodup){i:a6}{a:α}(hi:l[i]?=a0 a)(k:l[j]?=a0 a):i=j:=by
 refine d4 (FN hi) λc d=>d4 (FN k) λe f=>?_;have g:=List.pairwise_iff_getElem.mp (BN h);rcases LQ i j with b|b|b
 .exact(g i j c e b (d.trans f.symm)).elim
 .exact b
 .exact(g j i e c b (f.trans d.symm)).elim
theorem QX(a b:a6):l3 (iD a) (iD b)=decide (a=b):=by refine(?_:((a:d3)==(b:d3))=_);rw[P2,Ai,C3];exact⟨PJ,λh=>h▸rfl⟩theorem aC(a b:a6):r9 (iD a) (iD b)=decide (a<b):=by refine(?_:decide ((a:d3)<(b:d3))=_);rw[P2,C3,C3];exact wD
theorem zS(a b:a6):y8 [iD a,iD b]=[iD (min a b),iD (max a b)]:=by
 refine(?_:(if r9 (iD b) (iD a)then[iD b,iD a]else[iD a,iD b])=_);rw[aC];by_cases h:b<a
 .rw[g0 (by simpa using h),Hu (m9 ‹_›),Mo (m9 ‹_›)]
 .rw[j4 (by simpa using h),EJ (Bm ‹_›),LU (Bm ‹_›)]theorem iy(a b:a6):C1 [iD a,iD b]=a8:=rfl
theorem Kq(h:d6 st a b)(c:C1 b=a8):M4 .sorted [.ref a] st=a0 (.ref st.n,st.A (.L (y8 b))):=by refine(?_:((st.list? (.ref a)).bind λb=>if C1 b then a0 (b0.ref st.n,st.A (.L (y8 b)))else b4)=_);rw[h.list,Dk,g0 c]theorem tK(h:d6 st a [v,w]):CG [x,y] (.ref a) st ρ=a0 ((ρ.set x v).set y w):=by unfold CG;rw[h.items];rfl
theorem Et:CG [x,y] (.B [v,w]) st ρ=a0 ((ρ.set x v).set y w):=rfl
theorem aZ:CG [x,y,z] (.B [v,w,u]) st ρ=a0 (((ρ.set x v).set y w).set z u):=rfl
def UG.merge(u:UG)(k g:a6):UG:={par:=u.par.set g k,S:=u.S.set k (u.S.getD k []++u.S.getD g []),la:=u.la,mg:=u.mg+1}
theorem ek(U:Bl st u)(F:UF N u.par R)(S:N<=100)(g:u.S.length=N)(O:∀l∈u.S,l.length<=100)(hmg:u.mg<=100)(ha:a<N)(hb':b<N)
 (hq1:R a=R b->∀e,Ex st e->Q .none e)
 (hq2:∀e x y,(x=R a/\y=R b\/x=R b/\y=R a)->x<y->Fm u.own st e->Bl e (u.merge x y)->Q (.B [iD x,iD y]) e):u9 u8 (k+2) "Unions" "merge" [.ref 12,iD a,iD b] st Q:=by
 refine D0 (fd:=TZ) rfl rfl ?_;delta TZ;exists U.Z.I,rfl;refine U.Z.go (NK U F S ha ?_);exists U.Z.I,rfl;refine U.Z.go (NK U F S hb' ?_);let H:Ex st ((st.A (.L [iD (R a),iD (R b)])).A (.L (y8 [iD (R a),iD (R b)]))):=(Ex.A _ _).trans (Ex.A _ _);exists(Kq (d6.new _ _) (iy _ _)),rfl;let T:=d6.new (st.A (.L [iD (R a),iD (R b)])) (y8 [iD (R a),iD (R b)]);rw[zS]at T H ⊢;exists 0,(tK T);revert H T;refine gen ((st.A (.L [iD (R a),iD (R b)])).A (.L [iD (min (R a) (R b)),iD (max (R a) (R b))])) λp H T=>?_;exists Do,rfl;by_cases he:R a=R b
 .have:decide (min (R a) (R b)=max (R a) (R b))=a8:=by rw[he];simp
  rw[this];exists 0;exact hq1 he p H
 .let P:=Ux he;have:decide (min (R a) (R b)=max (R a) (R b))=c8:=by simpa using m6 P
  rw[this];let A:=wZ;generalize min (R a) (R b)=x at*;generalize max (R a) (R b)=y at*;have V:x<N:=by rcases A with h|h<;>rw[h.1]<;>exact F.ltN ‹_›
  have W:y<N:=by rcases A with h|h<;>rw[h.2]<;>exact F.ltN ‹_›
  have o:=U.ex H;exists(o.Z.C rfl rfl),(fk o.par (i:=y) (v:=iD x) (by rw[f7,F.len];exact W)),rfl;refine N5 (p.set 13 (.L ((u.par.map iD).set y (iD x)))) λj q=>?_;have s:Fm (·=13) p j:=by rw[<-q];exact Fm.set rfl
  have i2:=o.Z.fr s;let l2:=o.S.fr s;refine d4 (O0 (l:=u.la) (n:=x) (by rw[U.len,g];exact V)) λt f=>d4 (O0 (l:=u.la) (n:=y) (by rw[U.len,g];exact W)) λay B=>d4 (O0 (l:=u.S) (n:=x) (by rw[g];exact V)) λI C=>d4 (O0 (l:=u.S) (n:=y) (by rw[g];exact W)) λJ D=>?_;have d:=U.lo t (p8 f);have K:=(o.lot x t I f C).fr s (gF d rfl);exists(i2.C rfl rfl),(AX l2 (gG V S rfl) (by rw[o7,f];rfl)),(AX l2 (gG W S rfl) (by rw[o7,B];rfl)),K.I,K.kind,fE,(cW K ((o.lot y ay J B D).fr s (gF (U.lo ay (p8 B)) rfl)) (by rw[f7,f7];exact b6 (U0 (O I (p8 C)) (O J (p8 D))) (by decide))),rfl;refine N5 (j.set t (.L (I.map iD++J.map iD))) λc m=>?_;have w:Fm (·=t) j c:=by rw[<-m];exact Fm.set rfl
  have i3:=i2.fr w (gC d rfl) (gC d rfl);refine c9 o.mgd λL hms r=>?_;let X:=(hms.fr s).fr w (gC d rfl);exists 0,(i3.C rfl rfl:H9 c (.ref 12) "merged"=a0 (.ref 15)),X.I,X.kind,X9,(Bg X (v:=.B [iD x,iD y]) (gH r hmg rfl));let z:Fm (·=15) c (c.set 15 (.L (L++[.B [iD x,iD y]]))):=Fm.set rfl;let m4:d6 (c.set 15 (.L (L++[.B [iD x,iD y]]))) 15 (L++[.B [iD x,iD y]]):=d6.U X.1;generalize c.set 15 (.L (L++[.B [iD x,iD y]]))=st4 at z m4;refine hq2 st4 x y A P ((Fm.ex H).trans ((s.mono (λb w0 h=>.inl (gE h rfl rfl):∀b,b<p.n->b=13->u.own b)).trans ((w.mono (λb w0 h=>.inr (by rw[h];exact p8 f):∀b,b<j.n->b=t->u.own b)).trans (z.mono (λb w0 h=>.inl (gE h rfl rfl):∀b,b<c.n->b=15->u.own b))))) ⟨i3.fr z,?_,(l2.fr w (gC d rfl)).fr z,(d0 _ m4 ?_),?_,U.nd,U.lo,?_⟩
  .let this:(u.merge x y).par.map iD=(u.par.map iD).set y (iD x):=by refine(?_:(u.par.set y x).map iD=_);rw[a7.map_set]
   rw[this];exact((by rw[<-q];exact d6.U o.par.1:d6 j 13 ((u.par.map iD).set y (iD x))).fr w (gC d rfl)).fr z
  .refine(?_:(L++_).length=u.mg+1);rw[u7,r];rfl
  .refine(?_:u.la.length=(u.S.set x _).length);rw[PU];exact U.len
  .intro i Y l h1 h2;have M:u.la[i]?=a0 Y:=h1;have Z:(u.S.set x (u.S.getD x []++u.S.getD y []))[i]?=a0 l:=h2;clear h1 h2;have E:=U.lo Y (p8 M);by_cases G:x=i
   .subst G;rw[qO (by rw[g];exact V)]at Z;rw[f]at M;cases M;cases Z;rw[(by rw[AB,C];rfl:u.S.getD x []=I),(by rw[AB,D];rfl:u.S.getD y []=J),p9];exact(by rw[<-m];exact d6.U K.1:d6 c t (I.map iD++J.map iD)).fr z (gF E rfl)
   .rw[jN G]at Z;have hne:Y≠t:=by clear d K m w;rintro rfl;exact G (Ef U.nd f M)
    exact(((o.lot i Y l M Z).fr s (gF E rfl)).fr w hne).fr z (gF E rfl)theorem hZ{α:Type}{p:α->b7}{xs:a7 α}{i:a6}{x:α}(a:xs[i]?=a0 x):(xs.take (i+1)).filter p=(xs.take i).filter p++(if p x then[x]else[]):=by rw[Ak,a,Qx];congr 1;refine(?_:[x].filter p=_);rw[DM];rfl
theorem OV{d:b0->St->a7 b0->(a7 b0->St->Prop)->Prop}{nx:a6->It}{xs:a7 b0}{p:b0->b7}{f:b0->b0}{Q:a7 b0->St->Prop}{st:St}
 (l:∀(i:a6)a,i<=xs.length->Ex st a->(nx i).next a=a0 ((xs[i]?).map λx=>(x,nx (i+1))))
 (hs:∀(i:a6)(x:b0)a b k,xs[i]?=a0 x->Ex st a->b.length<=xs.length->(∀c,Ex a c->k (if p x then b++[f x]else b) c)->d x a b k)
 (m:∀a,Ex st a->Q ((xs.filter p).map f) a):∃n,Bd d n (nx 0) st [] Q:=by
 refine CS (xs:=xs) (I:=λi a b=>Ex st a/\b=((xs.take i).filter p).map f) (λi a b o q=>l i a o q.1) ?_ ?_ ⟨Ex.refl _,rfl⟩
 .rintro i x a b k g h r;ext k9 h e rfl;refine hs i x a _ k g e ?_ λc s=>?_
  .rw[f7];exact b6 (DN _ _) (by rw[O9];exact Go _ _)
  .refine r c _ ⟨e.trans s,?_⟩;rw[hZ g,p9];cases p x<;>simp
 .rintro a b j;ext k9 j e rfl;rw[X4];exact m a e
theorem Ae{c:b0->St->a7 b0->(a7 b0->St->Prop)->Prop}{nx:a6->It}{xs:a7 b0}{p:b0->b7}{f:b0->b0}{Q:a7 b0->St->Prop}{st:St}
 (d:∀(i:a6),i<=xs.length->(nx i).next st=a0 ((xs[i]?).map λx=>(x,nx (i+1))))
 (hs:∀(i:a6)(x:b0)a k,xs[i]?=a0 x->a.length<=xs.length->k (if p x then a++[f x]else a) st->c x st a k)
 (e:Q ((xs.filter p).map f) st):∃n,Bd c n (nx 0) st [] Q:=by
 refine CS (xs:=xs) (I:=λi b a=>b=st/\a=((xs.take i).filter p).map f) (λi b a l m=>by rw[m.1];exact d i l) ?_ ?_ ⟨rfl,rfl⟩
 .rintro i x b a k g h o;refine k9 h ?_;clear h;clear d e;rintro rfl rfl;refine hs i x _ k g ?_ (o _ _ ⟨rfl,?_⟩)
  .rw[f7];exact b6 (DN _ _) (by rw[O9];exact Go _ _)
  .rw[hZ g,p9];cases p x<;>simp
 .rintro b a j;refine k9 j ?_;clear j;clear d hs;rintro rfl rfl;rw[X4];exact e
theorem Y3{l:a7 a6}{i:a6}(h:(l.map iD)[i]?=a0 x):∃n,l[i]?=a0 n/\x=iD n:=by rw[o7,Av]at h;ext c9 h n a b;exact d0 n a b.symm
def t6:b0->a6
 | .int i=>i.toNat
 |_=>0
theorem O6(n:a6):t6 (iD n)=n:=Q8 n
theorem ZP(h:xs.Perm (l.map iD)):∃b:a7 a6,b.Perm l/\xs=b.map iD:=by
 refine d0 (xs.map t6) ?_ ?_
 .let a:=h.map t6;rw[v9]at a;let e:l.map (t6 ∘ iD)=l:=by
   conv=>rhs;rw[<-Ba l]
   exact A2 λn d=>O6 n
  rw[e]at a;exact a
 .rw[v9]
  conv=>lhs;rw[<-Ba xs]
  refine A2 λx c=>B5 (h.mem_iff.mp c) ?_;clear c;rintro n d;refine(?_:iD n=iD (t6 (iD n)));rw[O6]
theorem dW{l:a7 a6}(h:l.length<64):C1 (l.map iD)=a8:=by
 unfold C1;rw[f7];simp only[C2,C3,V8,Fq];refine⟨⟨h,?_⟩,?_⟩
 .rintro x c y d;ext c9 c a e rfl;ext c9 d b e rfl;rfl
 .rintro x f;ext c9 f a e rfl;rfl
theorem bh{st:St}{u:UG}{R:a6->a6}{N:a6}{l:a7 a6}{Q:Q1}(U:Bl st u)(F:UF N u.par R)(i:N<=100)(g:u.S.length=N)(j:a<N)(m:u.S[R a]?=a0 l)(h:l.length<64)
 (o:∀c r(f:a7 a6),Ex st c->d6 c r (f.map iD)->f.Perm l->Q (.ref r) c):u9 u8 (k+2) "Unions" "members" [.ref 12,iD a] st Q:=by
 refine D0 (fd:=Ro) rfl rfl ?_;delta Ro;exists U.Z.I,(U.Z.C rfl rfl),rfl;refine U.Z.go (NK U F i j ?_);let d:=F.ltN j;refine d4 (O0 (l:=u.la) (n:=R a) (by rw[U.len,g];exact d)) λb e=>?_;exists 0,(AX U.S (gG d i rfl) (by rw[o7,e];rfl)),(Kq (U.lot _ b l e m) (dW h));refine c9 (ZP (Y2 (l.map iD))) λf p q=>?_;rw[q];exact o _ _ f (Ex.A _ _) (d6.new _ _) p
theorem xP{st:St}{u:UG}{R:a6->a6}{N:a6}{Q:Q1}(U:Bl st u)(F:UF N u.par R)(h:N<=100)
 (v:∀b r,Ex st b->d6 b r (((p0 N).filter λa=>R a==a).map iD)->Q (.ref r) b):u9 u8 (k+1) "Unions" "classes" [.ref 12] st Q:=by
 refine D0 (fd:=TY) rfl rfl ?_;delta TY;have j:H9 st (.ref 12) "above"=a0 (.ref 13):=U.Z.C rfl rfl;let o:=X0 U.par;rw[f7,F.len]at o;exists 0,j,o;rw[g0 ⟨by solve_by_elim (maxDepth:=2)only[*,j7],by unfold j8;exact Int.ofNat_le.mpr (b6 h (by decide))⟩];refine Ae (nx:=λi=>.range i N) (xs:=(p0 N).map iD) (p:=λx=>R (t6 x)==t6 x) (f:=id) (λi w=>GP (by simpa using w)) ?_ ?_
 .rintro i x z A q s c;refine c9 (Y3 q) ?_;clear q;rintro m y rfl;have d:m<N:=by simpa using U7 (p8 y)
  refine d4 (O0 (l:=u.par) (n:=m) (by rw[F.len];exact d)) λp t=>?_;simp only[O6,id]at c;exists j,(AX U.par (gG d h rfl) (by rw[o7,t];rfl)),Do,rfl;let B:=F.isRoot t;by_cases g:R m=m
  .rw[show(R m==m)=a8 from by simpa using g]at c;rw[show decide (p=m)=a8 from by simpa using B.mpr g];refine⟨?_,c⟩;simp at s;unfold j8;exact gA h s rfl
  .rw[show(R m==m)=c8 from by simpa using g]at c;rw[show decide (p=m)=c8 from by simpa using λe=>g (B.mp e)];exact c
 .refine v _ _ (Ex.A _ _) ?_;let B:(V1 (λx=>R (t6 x)==t6 x) (Pw iD (p0 N))).map id=((p0 N).filter λa=>R a==a).map iD:=by rw[Ba,JH];congr 1
  rw[B];exact d6.new _ _
abbrev Nd:=a7 a6×a7 a6
def o4(nd:Nd):b0:=.B (.str nd.1::nd.2.map iD)def Ff(o:a7 a6):Prop:=o=[97]\/o=[98]\/o=[102]\/o=[103]theorem Kd(k a b:a6):o3 k (iD a) (iD b)=a8:=by cases k<;>rfl
theorem Zv(k:a6)(a b:a7 a6):o3 k (.str a) (.str b)=a8:=by cases k<;>rfl
theorem TF(k:a6):∀(l m:a7 a6),N6 (o3 k) (l.map iD) (m.map iD)=a8
 |[],_=>rfl
 |_::_,[]=>rfl
 |a::l,b::m=>by
  refine(?_:(o3 k (iD a) (iD b)&&N6 (o3 k) (l.map iD) (m.map iD))=a8);rw[Kd,TF k l m];rfl
theorem LI(a b:Nd):o3 3 (o4 a) (o4 b)=a8:=by refine(?_:(o3 2 (.str a.1) (.str b.1)&&N6 (o3 2) (a.2.map iD) (b.2.map iD))=a8);rw[Zv,TF];rfl
theorem Sn{l:a7 a6}(h:l.map iD=m.map iD):l=m:=by
 let a:=t0 (Pw t6) h;rw[v9,v9]at a;let e:∀l:a7 a6,l.map (t6 ∘ iD)=l:=λl=>by
  conv=>rhs;rw[<-Ba l]
  exact A2 λn b=>O6 n
 rwa [e,e]at a
theorem Lp{a:Nd}(h:o4 a=o4 b):a=b:=by unfold o4 at h;injection h with h;injection h with h1 h2;injection h1 with h1;exact EP h1 (Sn h2)theorem vE(l:a7 a6):(l.map iD).all leaf=a8:=by rw[qM];exact Cw λa a=>rfl
theorem Nc(nd:Nd):Q3 (o4 nd)=3:=by refine(?_:(if(b0.str nd.1::nd.2.map iD).all leaf then 3 else 0)=3);rw[LN,vE];rfl
theorem Kt(g:o3 3 k k=a8)(d:(c.map Bt).Nodup)(b:(k,v)∈c):t4 c k=a0 v:=by
 unfold t4
 induction c with
 |nil=>cases b
 |cons e c i=>
  rw[Pk];rw[y4,Ax]at d;rcases D2 b with rfl|b
  .rw[show l3 k k=a8 from Eu g];rfl
  .let f:l3 e.1 k=c8:=by
    cases h:l3 e.1 k with
    |false=>rfl
    |true=>let j:=W7 h;exact(d.1 (B9 (a:=(k,v)) b j.symm)).elim
   rw[f];exact i d.2 b
theorem IW(h:∀e∈es,e.1≠k):t4 es k=b4:=by
 unfold t4;rw[List.find?_eq_none.mpr]
 .rfl
 .intro e a b;exact h e a (W7 b)theorem er:(E5 es k).isSome=(t4 es k).isSome:=by unfold E5 t4;rw[VM,LZ];rw[P2,iG];simp
def Bo(nodes:a7 Nd):a7 (b0×b0):=nodes.mapIdx λi nd=>(o4 nd,iD i)theorem RM(nodes:a7 Nd):(Bo nodes).map Bt=nodes.map o4:=by unfold Bo;apply Gx;intro i;rw[o7,Mv,o7];cases nodes[i]?<;>rfl
theorem sQ(h:nodes.Nodup):((Bo nodes).map Bt).Nodup:=by rw[RM,Bw,Y6];exact(BN h).imp λa e=>a (Lp e)theorem rP(h:nodes.Nodup)(hi:nodes[i]?=a0 nd):t4 (Bo nodes) (o4 nd)=a0 (iD i):=by refine Kt (LI _ _) (sQ h) (p8 (i:=i) ?_);unfold Bo;rw[Mv,hi];rfl
theorem gw(h:nd∉nodes):t4 (Bo nodes) (o4 nd)=b4:=by
 refine IW λe c d=>?_;let b:o4 nd∈nodes.map o4:=by rw[<-RM,<-d];exact V9 c
 exact A8 b λa f g=>h (Lp g▸f)
theorem SH(nodes:a7 Nd)(nd:Nd):v8 (Bo nodes) (o4 nd)=a8:=by
 unfold v8;rw[Nc];simp only[C2,V8];refine⟨rfl,λe c=>?_⟩;let b:e.1∈nodes.map o4:=by rw[<-RM];exact V9 c
 refine A8 b λa f d=>?_;rw[<-d,Nc];rfl
structure Du (st:St) (N:a7 Nd):Prop where
 Z:v3 st 6 "Bank" 5 [("depths",.ref 10),("weights",.ref 9),("numbers",.ref 8),("nodes",.ref 7)]
 nds:d6 st 7 (N.map o4)
 numbers:∃ep,m7 st 8 (Bo N) ep
 weights:∃ws:a7 d3,d6 st 9 (ws.map .int)/\ws.length=N.length
 depths:∃ws:a7 d3,d6 st 10 (ws.map .int)/\ws.length=N.length
theorem Du.fr{P:a6->Prop}(h:Du st nodes)(x:Fm P st st')(a:∀b,5<=b->b<=10->¬P b):Du st' nodes where
 Z:=h.Z.fr x (a 6 (by decide) (by decide)) (a 5 (by decide) (by decide))
 nds:=h.nds.fr x (a 7 (by decide) (by decide))
 numbers:=d4 h.numbers λf c=>⟨f,c.fr x (a 8 (by decide) (by decide))⟩
 weights:=c9 h.weights λd c e=>(d0 d (c.fr x (a 9 (by decide) (by decide))) e)
 depths:=c9 h.depths λd c e=>d0 d (c.fr x (a 10 (by decide) (by decide))) e
theorem Du.ex(h:Du st nodes)(x:Ex st st'):Du st' nodes:=h.fr (P:=λa=>k6) (Fm.ex x) λa a a=>id
theorem qg{a:b0->St->a7 b0->(a7 b0->St->Prop)->Prop}{Q:a7 b0->St->Prop}(h:it.next c=a0 (a0 (d,it')))(w:a d c b λb c=>Bd a n it' c b Q):Bd a (n+1) it c b Q:=by
 conv=>whnf
 rw[h];exact w
theorem dq{a:b0->St->a7 b0->(a7 b0->St->Prop)->Prop}{Q:a7 b0->St->Prop}(h:it.next st=a0 b4)(w:Q acc st):Bd a (n+1) it st acc Q:=by
 conv=>whnf
 rw[h];exact w
theorem cb{Q:Q1}(j:Ff o)(l:∀b,Ex st b->Q (.bool a8) b):u9 u8 (k+1) "" "is_op" [.str o] st Q:=by
 refine D0 (fd:=Nq) rfl rfl ?_;have a:∀c:a6,(c=97\/c=98\/c=102\/c=103)->G6 (u9 u8 k) Nq.body (FW ["text"] [.str [c]]) st (DE Q):=by
  intro c f;delta Nq;let e:B0 .ne (.str [c]) (q8 "") st=a0 a8:=rfl;let g:BU (.str [c]) st=a0 (.text [c]):=by unfold BU;dsimp only;rw[g0];clear e;rcases f with rfl|rfl|rfl|rfl<;>rfl
  let h:B0 .isin (.str [c]) (q8 "()[]{},:") st=a0 c8:=by clear e g;rcases f with rfl|rfl|rfl|rfl<;>rfl
  let m:Ac "isspace" (.str [c]) [] st=a0 (.bool c8,st):=by clear e g h;rcases f with rfl|rfl|rfl|rfl<;>rfl
  let p:st.inst? (.str [c])=b4:=rfl;exists 0,e,g;refine⟨2,qg (it':=.text []) (d:=.str [c]) rfl ?_⟩;exists 0,h,m,p;refine⟨rfl,dq rfl ?_⟩;exists 0;let q:=Ex.A st (.L []);let i:=Ex.A (st.A (.L [])) (.L []);let r:=(d6.new st []).ex i;let s:=d6.new (st.A (.L [])) [];let t:B0 .eq (.ref st.n) (.ref (st.A (.L [])).n) ((st.A (.L [])).A (.L []))=a0 a8:=by refine(?_:Bk _ _ _=_);unfold Bk;rw[r.list,s.list];rfl
  exists 0,t;exact l _ (q.trans i)
 rcases j with rfl|rfl|rfl|rfl
 .exact a 97 (.inl rfl)
 .exact a 98 (.inr (.inl rfl))
 .exact a 102 (.inr (.inr (.inl rfl)))
 .exact a 103 (.inr (.inr (.inr rfl)))theorem sK{Q:Q1}(b:Ff o)(c:∀a,Ex st a->Q .none a):u9 u8 (k+2) "Bank" "require" [.ref 6,.str o] st Q:=by refine D0 (fd:=SG) rfl rfl ?_;delta SG;exists rfl;refine cb b λa x=>?_;exists 0,(λa=>by rcases b with rfl|rfl|rfl|rfl<;>rfl:∀a,J9 (.str o) (.int 0) a=a0 (.str o)),(λa=>by rcases b with rfl|rfl|rfl|rfl<;>rfl:∀a,B0 .eq (.str o) (q8 "?") a=a0 c8);exact c a x
theorem Zb(h:m7 st a b ep)(d:v8 b k=a8):B0 .isin k (.ref a) st=a0 (t4 b k).isSome:=by
 refine(?_:(match st.items? (.ref a)with
  |some c=>if c.all (λx=>P0 x k)then a0 (c.any λx=>l3 x k)else b4
  |none=>match st.dict? (.ref a)with
   |some b=>if v8 b k then a0 (E5 b k).isSome else b4
   |none=>b4)=_)
 rw[h.items,h.dict];refine(?_:(if v8 b k then a0 (E5 b k).isSome else b4)=_);rw[g0 d,er]
theorem Tj(h:t4 a k=b4):Q0 a k v=a++[(k,v)]:=by
 induction a with
 |nil=>rfl
 |cons e a b=>
  unfold t4 at h b;rw[Pk]at h;rw[KT];cases c:l3 e.1 k with
  |true=>rw[c]at h;cases h
  |false=>rw[c]at h;rw[b h];rfl
theorem aX(l:a7 d3):ints? (l.map b0.int)=a0 l:=by
 induction l with
 |nil=>rfl
 |cons x l a=>refine(?_:(ints? (l.map b0.int)).map (x::·)=_);rw[a];rfl
theorem zU{st:St}{a:a6}{l:a7 d3}(h:d6 st a (l.map b0.int)):M4 .sum [.ref a] st=a0 (.int l.sum,st):=by refine(?_:((st.list? (.ref a)).bind λb=>(ints? b).bind λl=>a0 (b0.int l.sum,st))=_);rw[h.list,Dk,aX];rfl
theorem yI(h:d6 st a (l.map b0.int))(b:l≠[]):∃m,M4 .max [.ref a] st=a0 (.int m,st):=by
 cases l with
 |nil=>exact(b rfl).elim
 |cons x r=>
  refine⟨r.foldl max x,?_⟩;refine(?_:((st.list? (.ref a)).bind λc=>(ints? c).bind λl=>match l with
   |[]=>b4
   |x::r=>a0 (b0.int (r.foldl max x),st))=_)
  rw[h.list,Dk,aX];rfl
theorem De(h:nd.2.length<=100):Eh (o4 nd) (1:d3) st=a0 (.B (nd.2.map iD),st):=by
 refine(?_:(if(1:d3)<=1/\(1:d3)<=(b0.str nd.1::nd.2.map iD).length/\(b0.str nd.1::nd.2.map iD).length<=j8 then a0 (b0.B ((b0.str nd.1::nd.2.map iD).drop (1:d3).toNat),st)else b4)=_);rw[g0]
 .rfl
 .rw[N9,f7];refine m0 (by solve_by_elim (maxDepth:=2)only[*,j7]) (Int.ofNat_le.mpr (M7 _)) ?_;unfold j8;exact Ca
theorem Eo:BU (.B xs) st=a0 (.seq (.B xs) 0):=rfl
theorem wx:M4 .tuple [.B xs] st=a0 (.B xs,st):=rfl
theorem EC(h:d6 st a b):M4 .tuple [.ref a] st=a0 (.B b,st):=by refine(?_:((st.items? (.ref a)).map λb=>(b0.B b,st))=_);rw[h.items];rfl
structure Db (N:a7 Nd):Prop where
 nd:N.Nodup
 few:N.length<=20
 op:∀nd∈N,Ff nd.1/\nd.2.length<=2
 kid:∀(i:a6)(nd:Nd),N[i]?=a0 nd->∀x∈nd.2,x<i
theorem cq(B:Du st nodes)(G:Db nodes)(ho:Ff nd.1)(U:nd.2.length<=2)(hk:∀x∈nd.2,x<nodes.length)
 (hq1:∀i:a6,nodes[i]?=a0 nd->Q (iD i) st)
 (hq2:nd∉nodes->∀a,Fm (λb=>5<=b/\b<=10) st a->Du a (nodes++[nd])->Q (iD nodes.length) a):u9 u8 (k+3) "Bank" "take" [.ref 6,.str nd.1,.B (nd.2.map iD)] st Q:=by
 refine D0 (fd:=Ss) rfl rfl ?_;delta Ss;refine d4 B.numbers λO hN=>?_;let e0:V3 .add (.B [.str nd.1]) (.B (nd.2.map iD)) st=a0 (o4 nd,st):=IS (xs:=[.str nd.1]) (by rw[f7];simp;exact b6 (G1 U 1) (by decide));have e1:H9 st (.ref 6) "numbers"=a0 (.ref 8):=B.Z.C rfl rfl;let e2:=Zb hN (SH nodes nd);exists wx,e0,e1,e2,rfl;by_cases y:nd∈nodes
 .clear ho U hk hq2 e0 e2;refine d4 (N2 y) λi rr=>d4 rr ?_;clear rr;clear y;rintro hi rfl;let hi':nodes[i]?=a0 nodes[i]:=v5 hi;let P:=rP G.nd hi';rw[P];exists 0,WQ,e1,(GE hN (SH nodes nodes[i]) P);exact hq1 i hi'
 .let P:=gw y;rw[P];exists j0.isSome_none,B.Z.I,rfl;refine B.Z.go (sK ho λst1 x1=>?_);let t:=B.ex x1;let H:=hN.ex x1;exists 0,(De (nd:=nd) p6),Eo;refine BC (nx:=λi=>.seq (.B (nd.2.map iD)) i) (xs:=nd.2.map iD) (I:=λi ρ a=>a=st1/\ρ "self"=a0 (.ref 6)/\ρ "node"=a0 (o4 nd)) (λi ρ a hi hI=>Dt i) ?_ ?_ (m0 rfl rfl rfl)
  .rintro i x ρ a kk R z1 hk1 hk2;refine u0 z1 ?_;clear z1;clear x1 H;rintro rfl u S;refine c9 (Y3 R) ?_;rintro m E rfl;let V:=X0 t.nds;rw[f7]at V;let f3:B0 .le (.int 0) (iD m) a=a0 a8:=by have:=tw (st:=a) (i:=0) (j:=m);rw[show decide (0<=m)=a8 from by exact rfl]at this;exact this
   let f4:B0 .lt (iD m) (iD nodes.length) a=a0 a8:=by rw[IA,show decide (m<nodes.length)=a8 from by simpa using(hk m (p8 E))]
   exists 0,u,(t.Z.C rfl rfl:H9 a (.ref 6) "nodes"=a0 (.ref 7)),V,f3,f4;exact(hk1 _ _ (m0 rfl (by exact u) (by exact S))).1
  .rintro ρ a z2;ext u0 z2 rfl u S;let V:=X0 t.nds;rw[f7]at V;let f3:=NE (v:=iD nodes.length) H (SH nodes nd) (by rw[(by unfold Bo;rw[Jz]:(Bo nodes).length=nodes.length)];have:=G.few;exact p6);exists u,S,(t.Z.C rfl rfl),(t.Z.C rfl rfl),V,f3,rfl;rw[P]at f3 ⊢;rw[Tj P];let nN:Bo (nodes++[nd])=Bo nodes++[(o4 nd,iD nodes.length)]:=by unfold Bo;rw[a7.mapIdx_append];simp
   rw[<-nN];refine N5 (a.set 8 (.D (Bo (nodes++[nd])) _)) λo J=>?_;have g2:Fm (λb=>5<=b/\b<=10) a o:=by rw[<-J];exact Fm.set (by decide)
   have A:Fm (λb=>b=8) a o:=by rw[<-J];exact Fm.set rfl
   have i2:=t.Z.fr A;have n2:=t.nds.fr A;refine c9 t.weights λl hw K=>c9 t.depths λn hd L=>?_;exists(i2.C rfl rfl),n2.I,n2.kind,X9,S,(Bg n2 (v:=o4 nd) (by rw[f7];have:=G.few;exact p6)),rfl;refine N5 (o.set 7 (.L (nodes.map o4++[o4 nd]))) λc hs3=>?_;have W:Fm (λb=>b=7) o c:=by rw[<-hs3];exact Fm.set rfl
   obtain⟨ep3,N3⟩:∃O,m7 c 8 (Bo (nodes++[nd])) O:=d4 ((by rw[<-J];exact⟨_,m7.U H.1⟩:∃O,m7 o 8 (Bo (nodes++[nd])) O)) λO h=>⟨O,h.fr W⟩;let i3:=i2.fr W;have w3:=(hw.fr A).fr W;have a3:H9 c (.ref 6) "weights"=a0 (.ref 9):=i3.C rfl rfl;exists u,a3,w3.I,w3.kind,X9,S,(De (nd:=nd) (show nd.2.length<=100 by exact p6)),Eo,rfl;refine Ae (nx:=λi=>.seq (.B (nd.2.map iD)) i) (xs:=nd.2.map iD) (p:=λd=>a8) (f:=λx=>.int (l.getD (t6 x) 0)) (λi hi=>Dt i) ?_ ?_
   .rintro i x acc kk R Y q;refine c9 (Y3 R) ?_;rintro m E rfl;let r:=hk m (p8 E);have f5:J9 (.ref 9) (iD m) c=a0 (.int (l.getD m 0)):=AX w3 (by have:=G.few;exact gG r this rfl) (by
     rw[o7,AB,v5 (Cv r K)];rfl)
    exists u,a3,f5,rfl;rw[O6]at q;rw[f7]at Y;exact⟨by unfold j8;exact gA U Y rfl,by simpa using q⟩
   .exists 0;let L4:=d6.new c ((V1 (λd=>a8) (nd.2.map iD)).map λx=>b0.int (l.getD (t6 x) 0));let w:=Ex.A c (.L ((V1 (λd=>a8) (nd.2.map iD)).map λx=>b0.int (l.getD (t6 x) 0)));let hL:(V1 (λd=>a8) (nd.2.map iD)).map (λx=>b0.int (l.getD (t6 x) 0))=(nd.2.map λm=>l.getD m 0).map b0.int:=by rw[Dd λd d=>rfl,v9,v9];refine A2 λm d=>(?_:b0.int (l.getD (t6 (iD m)) 0)=_);rw[O6];rfl
    rw[hL]at L4 w ⊢;revert L4 w;refine gen (c.A (.L ((nd.2.map λm=>l.getD m 0).map b0.int))) λC L4 w=>?_;let w4:=w3.ex w;exists(zU L4),(λz=>rfl:∀z:d3,V3 .add (.int 1) (.int z) C=a0 (.int (1+z),C)),w4.kind,rfl;rw[Bg w4 (by rw[f7];have:=G.few;exact gH K this rfl)];exists 0;generalize hz:1+(nd.2.map λm=>l.getD m 0).sum=z;rw[(by rw[p9];rfl:l.map b0.int++[.int z]=(l++[z]).map b0.int)];refine N5 (C.set 9 (.L ((l++[z]).map b0.int))) λe hs5=>?_;have Z:Fm (λb=>b=9) C e:=by rw[<-hs5];exact Fm.set rfl
    let w5:d6 e 9 ((l++[z]).map b0.int):=by rw[<-hs5];exact d6.U w4.1
    have i5:=(i3.ex w).fr Z;have d5:=(((hd.fr A).fr W).ex w).fr Z;have a5:H9 e (.ref 6) "depths"=a0 (.ref 10):=i5.C rfl rfl;exists u,a5,d5.I,d5.kind,X9,S,(De (nd:=nd) (show nd.2.length<=100 by exact p6)),Eo,rfl;refine Ae (nx:=λi=>.seq (.B (nd.2.map iD)) i) (xs:=nd.2.map iD) (p:=λd=>a8) (f:=λx=>.int (n.getD (t6 x) 0)) (λi hi=>Dt i) ?_ ?_
    .rintro i x acc kk R Y q;refine c9 (Y3 R) ?_;clear R;rintro m E rfl;let r:=hk m (p8 E);let f5:J9 (.ref 10) (iD m) e=a0 (.int (n.getD m 0)):=AX d5 (by have:=G.few;exact gG r this rfl) (by
      rw[o7,AB,v5 (Cv r L)];rfl)
     exists u,a5,f5,rfl;rw[O6]at q;rw[f7]at Y;exact⟨by unfold j8;exact gA U Y rfl,by simpa using q⟩
    .exists 0;let L6:=d6.new e ((V1 (λd=>a8) (nd.2.map iD)).map λx=>b0.int (n.getD (t6 x) 0));let x6:=Ex.A e (.L ((V1 (λd=>a8) (nd.2.map iD)).map λx=>b0.int (n.getD (t6 x) 0)));have hL2:(V1 (λd=>a8) (nd.2.map iD)).map (λx=>b0.int (n.getD (t6 x) 0))=(nd.2.map λm=>n.getD m 0).map b0.int:=by rw[Dd λd d=>rfl,v9,v9];refine A2 λm d=>(?_:b0.int (n.getD (t6 (iD m)) 0)=_);rw[O6];rfl
     rw[hL2]at L6 x6 ⊢;generalize hls:(nd.2.map λm=>n.getD m 0)=T at L6 x6 ⊢;let hlsl:T.length<=2:=by rw[<-hls,f7];exact U
     generalize e.A (.L (T.map b0.int))=M at x6 L6 ⊢;let x7:=Ex.A M (.L [.int 0]);let L7:=d6.new M [.int 0];let N:=L6.ex x7;revert x7 L7 N;refine gen (M.A (.L [.int 0])) λD x7 L7 N=>?_;rw[Ng N L7 (by rw[f7];simp;exact p6)];exists 0;let x8:=Ex.A D (.L (T.map b0.int++[.int 0]));let L8:=d6.new D (T.map b0.int++[.int 0]);generalize D.A (.L (T.map b0.int++[.int 0]))=s at x8 L8 ⊢;refine d4 (yI (by rw[p9];exact L8:d6 s D.n ((T++[0]).map b0.int)) (by simp)) λm E=>?_;have X:=(x6.trans x7).trans x8;let d8:=d5.ex X;let w8:=w5.ex X;rw[E];exists(λz=>rfl:∀z:d3,V3 .add (.int 1) (.int z) s=a0 (.int (1+z),s)),d8.kind,rfl;rw[Bg d8 (by rw[f7];have:=G.few;exact gH L this rfl)];exists 0;rw[(by rw[p9];rfl:n.map b0.int++[.int (1+m)]=(n++[1+m]).map b0.int)];refine N5 (s.set 10 (.L ((n++[1+m]).map b0.int))) λg hs9=>?_;have g9:Fm (λb=>b=10) s g:=by rw[<-hs9];exact Fm.set rfl
     let d9:d6 g 10 ((n++[1+m]).map b0.int):=by rw[<-hs9];exact d6.U d8.1
     let n9:=((((by rw[<-hs3,p9];exact d6.U n2.1:d6 c 7 ((nodes++[nd]).map o4)).ex w).fr Z).ex X).fr g9;have i9:=(i5.ex X).fr g9;let a9:H9 g (.ref 6) "nodes"=a0 (.ref 7):=i9.C rfl rfl;let f9:=X0 n9;rw[f7,u7]at f9;let e9:V3 .sub (iD (nodes.length+1)) (.int 1) g=a0 (iD nodes.length,g):=QF (j:=1) (M0 _ _);exists 0,u,a9,f9,N9,AH,JT,e9;let F:Fm (λb=>5<=b/\b<=10) st g:=(Fm.ex x1).trans (g2.trans ((W.mono λb d h=>gE h rfl rfl).trans ((Fm.ex w).trans ((Z.mono λb d h=>gE h rfl rfl).trans ((Fm.ex X).trans (g9.mono λb d h=>gE h rfl rfl))))));refine hq2 y g F ⟨i9,n9,⟨ep3,(((N3.ex w).fr Z).ex X).fr g9⟩,(d0 (l++[z]) (w8.fr g9) ?_),(d0 (n++[1+m]) d9 ?_)⟩
     .rw[u7,u7,K];rfl
     .rw[u7,u7,L];rfl
structure HG where
 N:a7 Nd
 u:UG
 R:a6->a6
 y:a7 (Nd×a6)
 ab:a7 (a6×a6×a7 a6)
 Y:a7 a6
 ne:a6
 nf:a6
def An(l:a7 (Nd×a6)):a7 (b0×b0):=l.map λe=>(o4 e.1,iD e.2)def P3(l:a7 (a6×a6×a7 a6)):a7 (b0×b0):=l.map λe=>(iD e.1,.ref e.2.1)
structure y7 (st:St) (h:HG):Prop where
 n23:23<=st.n
 Z:v3 st 4 "Heap" 3 [("backs",.int 0),("waiting",.ref 20),("above",.ref 19),("known",.ref 18),("forest",.ref 17),("edges",.ref 16),("unions",.ref 12),("bank",.ref 6)]
 bank:Du st h.N
 uni:Bl st h.u
 edges:∃es,d6 st 16 es/\es.length=h.ne
 forest:∃es,d6 st 17 es/\es.length=h.nf
 y:∃ep,m7 st 18 (An h.y) ep
 above:∃ep,m7 st 19 (P3 h.ab) ep
 Y:d6 st 20 (h.Y.map iD)
 abl:∀e∈h.ab,23<=e.2.1/\e.2.1∉h.u.la/\d6 st e.2.1 (e.2.2.map iD)
 abn:(h.ab.map (·.2.1)).Nodup
def HG.own(h:HG)(b:a6):Prop:=(3<=b/\b<=20)\/b∈h.u.la\/b∈h.ab.map (·.2.1)
theorem y7.fr(H:y7 st h)(x:Fm P st st')(d:∀b,h.own b->¬P b):y7 st' h where
 n23:=b6 H.n23 x.1
 Z:=H.Z.fr x (d 4 (.inl (by decide))) (d 3 (.inl (by decide)))
 bank:=H.bank.fr x λb c f=>d b (.inl ⟨b6 (by decide) c,p6⟩)
 uni:=H.uni.fr x λb g=>d b (by
  rcases g with g|g
  .exact .inl ⟨b6 (by decide) g.1,b6 g.2 (by decide)⟩
  .exact .inr (.inl g))
 edges:=c9 H.edges λi c f=>(d0 i (c.fr x (d 16 (.inl (by decide)))) f)
 forest:=c9 H.forest λi c f=>(d0 i (c.fr x (d 17 (.inl (by decide)))) f)
 y:=d4 H.y λj c=>⟨j,c.fr x (d 18 (.inl (by decide)))⟩
 above:=d4 H.above λj c=>⟨j,c.fr x (d 19 (.inl (by decide)))⟩
 Y:=H.Y.fr x (d 20 (.inl (by decide)))
 abl:=λe k=>u0 (H.abl e k) λc f l=>(m0 c f (l.fr x (d _ (.inr (.inr (B9 (a:=e) k rfl))))))
 abn:=H.abn
theorem y7.ex(H:y7 st h)(x:Ex st st'):y7 st' h:=H.fr (P:=λa=>k6) (Fm.ex x) λa a=>id
theorem IR(H:y7 st h)(F:UF h.N.length h.u.par h.R)(b:h.N.length<=100)(c:a<h.N.length)(d:Q (iD (h.R a)) st):u9 u8 (k+2) "Heap" "find" [.ref 4,iD a] st Q:=by refine D0 (fd:=Uf) rfl rfl ?_;delta Uf;exists(H.Z.C rfl rfl),H.uni.Z.I,rfl;exact H.uni.Z.go (NK H.uni F b c d)theorem ao(B:Du st nodes)(c:nodes.length<=100)(b:nodes[a]?=a0 nd)(d:Q (.str nd.1) st):u9 u8 (k+1) "Bank" "op" [.ref 6,iD a] st Q:=by refine D0 (fd:=Sv) rfl rfl ?_;delta Sv;exists 0,(B.Z.C rfl rfl:H9 st (.ref 6) "nodes"=a0 (.ref 7)),(AX B.nds (gG (x0 b) c rfl) (by rw[o7,b];rfl):J9 (.ref 7) (iD a) st=a0 (o4 nd)),(BR (i:=0) (F9 _) rfl:J9 (o4 nd) (.int 0) st=a0 (.str nd.1));exact d
theorem zO(B:Du st nodes)(c:nodes.length<=100)(b:nodes[a]?=a0 nd)(d:nd.2.length<=100)(e:Q (.B (nd.2.map iD)) st):u9 u8 (k+1) "Bank" "kids" [.ref 6,iD a] st Q:=by refine D0 (fd:=Sm) rfl rfl ?_;delta Sm;exists 0,(B.Z.C rfl rfl:H9 st (.ref 6) "nodes"=a0 (.ref 7)),(AX B.nds (gG (x0 b) c rfl) (by rw[o7,b];rfl):J9 (.ref 7) (iD a) st=a0 (o4 nd)),(De d);exact e
def q6(R:a6->a6)(nd:Nd):Nd:=(nd.1,nd.2.map R)theorem Iz{l:a7 a6}{f:a6->a6}:(V1 (λa=>a8) (l.map iD)).map (λx=>iD (f (t6 x)))=(l.map f).map iD:=by rw[Dd λa a=>rfl,v9,v9];refine A2 λm a=>(?_:iD (f (t6 (iD m)))=_);rw[O6];rfl
theorem Yr(H:y7 st h)(G:Db h.N)(F:UF h.N.length h.u.par h.R)(d:h.N[a]?=a0 nd)(r:∀e,Ex st e->Q (o4 (q6 h.R nd)) e):u9 u8 (k+3) "Heap" "node" [.ref 4,iD a] st Q:=by
 refine D0 (fd:=RX) rfl rfl ?_;delta RX;let t:=x0 d;let q:=G.few;let b:=G.op nd (p8 d);let j:H9 st (.ref 4) "bank"=a0 (.ref 6):=H.Z.C rfl rfl;exists j,H.bank.Z.I,rfl;refine H.bank.Z.go (ao H.bank p6 d ?_);exists j,H.bank.Z.I,rfl;refine H.bank.Z.go (zO H.bank p6 d (b6 b.2 (by decide)) ?_);exists 0,Eo;refine Ae (nx:=λi=>.seq (.B (nd.2.map iD)) i) (xs:=nd.2.map iD) (p:=λw=>a8) (f:=λx=>iD (h.R (t6 x))) (λi y=>Dt i) ?_ ?_
 .rintro i x u z l n g;refine c9 (Y3 l) ?_;clear l;rintro m s rfl;have v:=G.kid a nd d m (p8 s);exists H.Z.I,rfl;refine H.Z.go (IR H F p6 (b6 ‹_› (m9 ‹_›)) ?_);rw[O6]at g;rw[f7]at n;exact⟨b6 n (b6 b.2 (by decide)),by simpa using g⟩
 .exists 0;rw[Iz];let L:=d6.new st ((nd.2.map h.R).map iD);let o:=Ex.A st (.L ((nd.2.map h.R).map iD));generalize st.A (.L ((nd.2.map h.R).map iD))=c at L o ⊢;exists(EC L),rfl;exists 0,(IS (xs:=[.str nd.1]) (by rw[f7,f7];exact b6 (G1 b.2 1) (by decide)):V3 .add (.B [.str nd.1]) (.B ((nd.2.map h.R).map iD)) c=a0 (o4 (q6 h.R nd),c));exact r c o
theorem EE(h:iD a=iD b):a=b:=by
 let c:=t0 t6 h
 rwa [O6,O6]at c
theorem cG(a b:a6):l3 (iD a) (iD b)=(a==b):=by rw[QX,P2];simp
theorem II(l:a7 (a6×a6×a7 a6))(c:a6):v8 (P3 l) (iD c)=a8:=by unfold v8 P3;simp only[C2,V8,Fq];refine⟨rfl,?_⟩;rintro e a;ext c9 a x b rfl;rfl
theorem OG(c:(l.map (·.1)).Nodup)(d:e∈l):t4 (P3 l) (iD e.1)=a0 (.ref e.2.1):=by refine Kt (Kd _ _ _) ?_ (B9 (a:=e) d rfl);unfold P3;rw[v9];let b:(Bt ∘ λ(e:a6×a6×a7 a6)=>(iD e.1,b0.ref e.2.1))=iD ∘ λe=>e.1:=rfl;rw[b,<-v9,Bw,Y6];exact(BN c).imp λh e=>h (EE e)
theorem iu(c:(l.map (·.1)).Nodup)(y:a6):EQ (P3 l) (iD y)=P3 (l.filter λe=>e.1 != y):=by
 induction l with
 |nil=>rfl
 |cons e l d=>
  rw[y4,Ax]at c;refine(?_:(if l3 (iD e.1) (iD y)then P3 l else(iD e.1,b0.ref e.2.1)::EQ (P3 l) (iD y))=_);rw[cG];by_cases h:e.1=y
  .rw[g0 (by simpa using h),DM,j4 (by simpa using h)];let b:l.filter (λe=>e.1 != y)=l:=Dd λx f=>by
    let b:x.1≠y:=λq=>c.1 (by rw[h,<-q];exact B9 (a:=x) f rfl);simpa using b
   rw[b]
  .rw[j4 (by simpa using h),DM,g0 (by simpa using h),d c.2];rfl
theorem uS(c:(l.map (·.1)).Nodup)(d:x∈l.map (·.1)):Q0 (P3 l) (iD x) (.ref a)=P3 (l.map λe=>if e.1=x then(x,a,us)else e):=by
 induction l with
 |nil=>cases d
 |cons e l f=>
  rw[y4,Ax]at c;refine(?_:(if l3 (iD e.1) (iD x)then(iD e.1,b0.ref a)::P3 l else(iD e.1,b0.ref e.2.1)::Q0 (P3 l) (iD x) (.ref a))=_);rw[cG];by_cases h:e.1=x
  .rw[g0 (by simpa using h),y4,g0 h];let b:l.map (λe=>if e.1=x then(x,a,us)else e)=l:=by
    conv=>rhs;rw[<-Ba l]
    refine A2 λz g=>?_;rw[j4]
    .rfl
    .intro q;exact c.1 (by rw[h,<-q];exact B9 (a:=z) g rfl)
   rw[b,h];rfl
  .rw[j4 (by simpa using h),y4,j4 h];rw[y4,K5]at d;rw[f c.2 (d.resolve_left λq=>h q.symm)];rfl
def Hc(l:a7 (a6×a6×a7 a6))(x y a:a6)(us:a7 a6):a7 (a6×a6×a7 a6):=(l.filter λe=>e.1 != y).map λe=>if e.1=x then(x,a,us)else e
def HG.join(h:HG)(x y a:a6)(ux uy:a7 a6):HG:={h with u:=h.u.merge x y,R:=C0 h.R x y,ab:=Hc h.ab x y a (ux++uy),Y:=h.Y++uy,ne:=h.ne+1,nf:=h.nf+1}def HF(b:a6):Prop:=(3<=b/\b<=20)\/23<=b
theorem UG.own_HF(U:Bl st u)(h:u.own b):HF b:=by
 rcases h with h|h
 .exact .inl ⟨b6 (by decide) h.1,b6 h.2 (by decide)⟩
 .exact .inr (U.lo b h)
structure XZ (h:HG):Prop where
 n:h.N.length<=20
 S:h.u.S.length=h.N.length
 lot:∀l∈h.u.S,l.length<=100
 mg:h.u.mg<=100
 ne:h.ne<=100
 nf:h.nf<=100
 Y:h.Y.length<=500
 us:∀e∈h.ab,e.2.2.length<=100
 ab:h.ab.length<=100
 kn:h.y.length<=500
theorem YN{Q:Q1}(H:y7 st h)(F:UF h.N.length h.u.par h.R)(S:XZ h)(r:(h.ab.map (·.1)).Nodup)(hall:∀c,c<h.N.length->h.R c=c->∃e∈h.ab,e.1=c)
 (ha:a<h.N.length)(w:b<h.N.length)
 (hq1:h.R a=h.R b->∀B,Fm HF st B->y7 B {h with ne:=h.ne+1}->Q (.bool c8) B)
 (hq2:∀B x y adr Z L,(x=h.R a/\y=h.R b\/x=h.R b/\y=h.R a)->x<y->(∃ax,(x,ax,Z)∈h.ab)->(∃ay,(y,ay,L)∈h.ab)->Fm HF st B->y7 B (h.join x y adr Z L)->Q (.bool a8) B):
 u9 u8 (k+3) "Heap" "join" [.ref 4,iD a,iD b,rs] st Q:=by
 refine D0 (fd:=Tx) rfl rfl ?_;delta Tx;refine c9 H.edges λes hE hEl=>?_;exists(H.Z.C rfl rfl:H9 st (.ref 4) "edges"=a0 (.ref 16)),hE.I,hE.kind,X9,(Bg hE (v:=.B [iD a,iD b,rs]) (by let this:=S.ne;exact gH hEl this rfl)),rfl;generalize hs1:st.set 16 (.L (es++[.B [iD a,iD b,rs]]))=U;have P:Fm (λb=>b=16) st U:=by rw[<-hs1];exact Fm.set rfl
 have E1:d6 U 16 (es++[.B [iD a,iD b,rs]]):=by rw[<-hs1];exact d6.U hE.1
 let own16:∀b,h.u.own b->¬b=16:=λb w q=>by
  rcases w with w|w
  .exact(qp w q).elim
  .let this:=H.uni.lo b w;exact(wJ this q).elim
 have i1:=H.Z.fr P;let b1:=H.bank.fr P λb A A=>gM ‹_› rfl;have u1:=H.uni.fr P own16;let f1:=H.forest;refine c9 H.forest λfs hf hfl=>?_;replace hf:=hf.fr P;let s:=H.y;ext1 s kep hK;replace hK:=hK.fr P;refine d4 H.above λaep hA=>?_;replace hA:=hA.fr P;let w1:=H.Y.fr P;have abl1:∀e∈h.ab,23<=e.2.1/\e.2.1∉h.u.la/\d6 U e.2.1 (e.2.2.map iD):=λe C=>u0 (H.abl e C) λz u h3=>m0 z u (h3.fr P (gF z rfl));have n1:23<=U.n:=b6 H.n23 P.1;exists(i1.C rfl rfl:H9 U (.ref 4) "unions"=a0 (.ref 12)),u1.Z.I,rfl;refine u1.Z.go (ek u1 F (by let this:=S.n;exact gK this rfl) S.S S.lot S.mg ha w ?_ ?_)
 .intro hR m R;exists 0,(rfl:B0 .is b0.none b0.none m=a0 a8);refine hq1 hR m ((P.mono λb A q=>.inl (gE q rfl rfl)).trans (Fm.ex R)) ⟨b6 n1 R.1,i1.ex R,b1.ex R,u1.ex R,(d0 _ (E1.ex R) ?_),(d0 fs (hf.ex R) hfl),⟨kep,hK.ex R⟩,⟨aep,hA.ex R⟩,w1.ex R,λe C=>u0 (abl1 e C) λz u h3=>m0 z u (h3.ex R),H.abn⟩;rw[u7,hEl];rfl
 .intro m x y hxy hlt W u2;let e3:B0 .is (.B [iD x,iD y]) b0.none m=a0 c8:=rfl;exists e3,Et,rfl;let no2:∀c,¬h.u.own c->∀d,d=c->¬h.u.own d:=λc hc d hd=>hd▸hc;have g:∀c,c<11\/(15<c/\c<23)->¬h.u.own c:=λc hc hq=>by
   rcases hq with hq|hq
   .exact(YF hq hc).elim
   .let this:=H.uni.lo c hq;exact(fW this hc).elim
  let i2:=i1.fr W (g _ (by decide)) (g _ (by decide));let E2:=E1.fr W (g _ (by decide));have F2:=hf.fr W (g _ (by decide));have abl2:∀e∈h.ab,23<=e.2.1/\e.2.1∉h.u.la/\d6 m e.2.1 (e.2.2.map iD):=λe C=>u0 (abl1 e C) λz u h3=>(m0 z u (h3.fr W λq=>by
   rcases q with q|q
   .exact(XN q z).elim
   .exact u q))
  let e6:=X0 E2;rw[u7]at e6;exists(i2.C rfl rfl:H9 m (.ref 4) "forest"=a0 (.ref 17)),(i2.C rfl rfl:H9 m (.ref 4) "edges"=a0 (.ref 16)),e6,N9,AH,JT,(QF (j:=1) (M0 _ _):V3 .sub (iD (es.length+1)) (.int 1) m=a0 (iD es.length,m)),F2.I,F2.kind,X9,(Bg F2 (v:=iD es.length) (by let this:=S.nf;exact gH hfl this rfl)),rfl;refine N5 (m.set 17 (.L (fs++[iD es.length]))) λt hs3=>?_;have X:Fm (λb=>b=17) m t:=by rw[<-hs3];exact Fm.set rfl
  have i3:=i2.fr X;let u3:=u2.fr X (λb w q=>g b (rA q) w:∀b,(h.u.merge x y).own b->¬b=17);have A3:=(hA.fr W (g _ (by decide))).fr X;have w3:=(w1.fr W (g _ (by decide))).fr X;have D:∀e∈h.ab,23<=e.2.1/\e.2.1∉h.u.la/\d6 t e.2.1 (e.2.2.map iD):=λe C=>u0 (abl2 e C) λz u h3=>m0 z u (h3.fr X (gF z rfl));have n3:23<=t.n:=b6 (b6 n1 W.1:23<=m.n) X.1;let hRx:h.R x=x/\x<h.N.length:=by
   rcases hxy with q|q<;>rw[q.1]
   .exact⟨F.iE ha,F.ltN ha⟩
   .exact⟨F.iE w,F.ltN w⟩
  let hRy:h.R y=y/\y<h.N.length:=by
   rcases hxy with q|q<;>rw[q.2]
   .exact⟨F.iE w,F.ltN w⟩
   .exact⟨F.iE ha,F.ltN ha⟩
  refine c9 (hall x hRx.2 hRx.1) ?_;clear hRx;rintro⟨Y,ax,Z⟩V rfl;refine c9 (hall y hRy.2 hRy.1) ?_;clear hRy u2 e3;rintro⟨I,ay,L⟩J rfl;dsimp only at*;let s:=D _ V;ext1 s lx mx Lx;let s:=D _ J;ext1 s ly my Ly;dsimp only at lx mx Lx ly my Ly;exists(i3.C rfl rfl:H9 t (.ref 4) "waiting"=a0 (.ref 20)),(i3.C rfl rfl:H9 t (.ref 4) "above"=a0 (.ref 19)),(GE A3 (II _ _) (OG r J):J9 (.ref 19) (iD I) t=a0 (.ref ay)),w3.I,w3.kind,fE,(cW w3 Ly (by rw[f7,f7];let this:=S.Y;let this:=S.us _ J;dsimp only at this;exact b6 (U0 ‹_› this) (by decide))),rfl;refine N5 (t.set 20 (.L (h.Y.map iD++L.map iD))) λK hs4=>?_;have M:Fm (λb=>b=20) t K:=by rw[<-hs4];exact Fm.set rfl
  have i4:=i3.fr M;have A4:=A3.fr M;let e14:=zA A4 (II _ I) (OG r J);rw[iu r]at e14;exists(i4.C rfl rfl:H9 K (.ref 4) "above"=a0 (.ref 19)),(GE A4 (II _ _) (OG r V):J9 (.ref 19) (iD Y) K=a0 (.ref ax)),A4.I,A4.kind,fj,e14,rfl;refine N5 (K.set 19 (.D (P3 (h.ab.filter λe=>e.1 != I)) (aep+1))) λo hs5=>?_;have N:Fm (λb=>b=19) K o:=by rw[<-hs5];exact Fm.set rfl
  exists(Ng ((Lx.fr M (gF lx rfl)).fr N (gF lx rfl)) ((Ly.fr M (gF ly rfl)).fr N (gF ly rfl)) (by rw[f7,f7];let z:=S.us _ V;let u:=S.us _ J;dsimp only at z u;exact b6 (U0 z u) (by decide))),rfl;let O:=Ex.A o (.L (Z.map iD++L.map iD));let L6:=d6.new o (Z.map iD++L.map iD);generalize hs6:o.A (.L (Z.map iD++L.map iD))=st6 at O L6 ⊢;have i6:=(i4.fr N).ex O;have A6:=(by rw[<-hs5];exact m7.U A4.1:m7 o 19 (P3 (h.ab.filter λe=>e.1 != I)) (aep+1)).ex O;let G:=r.sublist (List.filter_sublist.map _);let e16:=NE (v:=.ref o.n) A6 (II _ Y) (by
   unfold P3;rw[f7];let u:=S.ab;exact gA u (DN (λe:a6×a6×a7 a6=>e.1 != I) h.ab) rfl)
  rw[uS (us:=Z++L) G (B9 (BH V (by simpa using(m6 hlt:Y≠I))) rfl:Y∈(h.ab.filter λe=>e.1 != I).map (·.1))]at e16;exists 0,(i6.C rfl rfl:H9 st6 (.ref 4) "above"=a0 (.ref 19)),e16;refine N5 (st6.set 19 (.D _ _)) λst7 hs7=>?_;have T:Fm (λb=>b=19) st6 st7:=by rw[<-hs7];exact Fm.set rfl
  have E:o.n=t.n:=by rw[<-hs5,<-hs4];rfl
  refine hq2 st7 Y I o.n Z L hxy hlt ⟨ax,V⟩ ⟨ay,J⟩ ?_ ⟨?_,?_,?_,?_,?_,?_,?_,?_,?_,?_,?_⟩
  .exact(P.mono λb A q=>.inl (gE q rfl rfl)).trans ((W.mono λb A q=>UG.own_HF H.uni q).trans ((X.mono λb A q=>.inl (gE q rfl rfl)).trans ((M.mono λb A q=>.inl (gE q rfl rfl)).trans ((N.mono λb A q=>.inl (gE q rfl rfl)).trans ((Fm.ex O).trans (T.mono λb A q=>.inl (gE q rfl rfl)))))))
  .exact b6 n3 (b6 M.1 (b6 N.1 (b6 O.1 T.1)))
  .exact i6.fr T
  .exact(((((b1.fr W λb z u=>g _ (.inl (BK u))).fr X λb A A=>gM ‹_› rfl).fr M λb A A=>gM ‹_› rfl).fr N λb A A=>gM ‹_› rfl).ex O).fr T λb A A=>gM ‹_› rfl
  .exact(((u3.fr M λb w q=>g b (wC q) w).fr N λb w q=>g b (dL q) w).ex O).fr T λb w q=>g b (dL q) w
  .refine d0 _ (((((E2.fr X).fr M).fr N).ex O).fr T) ?_;rw[u7,hEl];rfl
  .refine d0 _ (((((by rw[<-hs3];exact d6.U F2.1:d6 t 17 (fs++[iD es.length])).fr M).fr N).ex O).fr T) ?_;rw[u7,hfl];rfl
  .exact⟨kep,(((((hK.fr W (g _ (by decide))).fr X).fr M).fr N).ex O).fr T⟩
  .exact(by rw[<-hs7];exact⟨_,m7.U A6.1⟩:∃ep,m7 st7 19 (P3 (Hc h.ab Y I o.n (Z++L))) ep)
  .let this:=(((by rw[<-hs4];exact d6.U w3.1:d6 K 20 (h.Y.map iD++L.map iD)).fr N).ex O).fr T;refine(?_:d6 st7 20 ((h.Y++L).map iD));rw[p9];exact this
  .intro e C;refine B5 (show e∈(h.ab.filter λe=>e.1 != I).map _ from C) ?_;clear C;rintro e0 he0;by_cases hx0:e0.1=Y
   .rw[g0 hx0];refine m0 (by exact fJ n3 E) ?_ ?_
    .intro hq;refine d4 (N2 (show o.n∈h.u.la from hq)) λi rr=>?_;ext1 rr hi hie;let s:=O0 (l:=(h.u.merge Y I).S) (n:=i) (by rw[<-u3.len];exact hi);ext1 s l hl;let this:=(u3.lot i o.n l (by rw[<-hie];exact v5 hi) hl).1;exact(KJ this E).elim
    .dsimp only;rw[p9];exact L6.fr T λe=>u6 (b6 n3 (A1 (E.symm.trans e))) (by decide)
   .rw[j4 hx0];let s:=D e0 (NS he0);ext1 s q1 q2 q3;exact m0 q1 q2 ((((q3.fr M (gF ‹_› rfl)).fr N (gF ‹_› rfl)).ex O).fr T (gF ‹_› rfl))
  .unfold HG.join Hc;rw[v9,Bw,Y6];refine Gb ?_ ((List.pairwise_map.mp (BN (H.abn.sublist (r_ (·.2.1) (a7.filter_sublist (p:=λe=>e.1 != I) (l:=h.ab)))))).and (List.pairwise_map.mp (BN G)));rintro e f C hf z2;ext1 z2 q1 q2;let bnd:∀e∈h.ab.filter λe=>e.1 != I,e.2.1<o.n:=λe C=>by
    let this:=(D e (NS C)).2.2.1;exact Cv this E
   dsimp only[HV];by_cases z:e.1=Y<;>by_cases u:f.1=Y
   .exact(q2 (z.trans u.symm)).elim
   .rw[g0 z,j4 u];exact L0 (bnd f hf)
   .rw[j4 z,g0 u];exact m6 (bnd e C)
   .rw[j4 z,j4 u];exact q1
def Dr(nodes:a7 Nd)(E:a6->a6):Prop:=∀(m n:a6)(a b:Nd),nodes[m]?=a0 a->nodes[n]?=a0 b->a.1=b.1->a.2.map E=b.2.map E->E m=E n
def K0(R:a6->a6)(N:a6):a6:=((p0 N).filter λn=>R n != n).length
theorem OJ(R:a6->a6)(N:a6):K0 R N<=N:=by
 let a:=DN (λn=>R n != n) (p0 N)
 rwa [Br]at a
structure O7 (h:HG) (P:a7 (a6×a6)) (X:a6->Prop) (lap z:a6):Prop where
 N:Db h.N
 uf:UF h.N.length h.u.par h.R
 lN:h.u.S.length=h.N.length
 lotm:∀(c:a6)(l:a7 a6),h.u.S[c]?=a0 l->l.Nodup/\(∀n∈l,n<h.N.length)/\(h.R c=c->∀n,n<h.N.length->(n∈l↔h.R n=c))
 kn:∀e∈h.y,(∀x∈e.1.2,x<h.N.length)/\∃nd,h.N[e.2]?=a0 nd/\e.1.1=nd.1/\e.1.2.map h.R=nd.2.map h.R
 knn:(h.y.map (·.1)).Nodup
 abk:(h.ab.map (·.1)).Nodup
 abr:∀e∈h.ab,e.1<h.N.length/\h.R e.1=e.1/\∀n∈e.2.2,n<h.N.length
 aba:∀c,c<h.N.length->h.R c=c->∃e∈h.ab,e.1=c
 abc:∀e∈h.ab,∀(n:a6)(nd:Nd)(x:a6),h.N[n]?=a0 nd->x∈nd.2->h.R x=e.1->n∈e.2.2
 wt:∀n∈h.Y,n<h.N.length
 cl:∀(n:a6)(nd:Nd),h.N[n]?=a0 nd->X n\/n∈h.Y\/∃v,(q6 h.R nd,v)∈h.y/\h.R v=h.R n
 least:∀E:a6->a6,(∀p∈P,E p.1=E p.2)->Dr h.N E->∀m n,m<h.N.length->n<h.N.length->h.R m=h.R n->E m=E n
 tO:∀p∈P,p.1<h.N.length/\p.2<h.N.length/\h.R p.1=h.R p.2
 sum:(h.ab.map (·.2.2.length)).sum<=2*h.N.length
 lapN:h.N.length<=lap+2/\lap<=6
 bw:h.y.length+h.Y.length+z<=h.N.length+20*K0 h.R h.N.length
 bn:h.ne<=lap+K0 h.R h.N.length/\h.nf<=K0 h.R h.N.length/\h.u.mg<=K0 h.R h.N.length
theorem XX{α:Type}{f:α->a6}:∀{l:a7 α}{e:α},e∈l->f e<=(l.map f).sum:=by
 intro a
 induction a with
 |nil=>intro c h;cases h
 |cons x l b=>
  intro e h;rw[y4,Fw];rcases D2 h with rfl|h
  .exact G3 _ _
  .have d:=b h;exact b6 d (M0 _ _)
theorem On{l:a7 a6}{N:a6}(h:l.Nodup)(b:∀n∈l,n<N):l.length<=N:=by
 let a:=V2 h (m:=p0 N) λn c=>CC (b n c)
 rwa [Br]at a
theorem O7.few{h:HG}{P:a7 (a6×a6)}{X:a6->Prop}{k z:a6}(K:O7 h P X k z):XZ h:=by
 let b:=K.lapN;let d:=OJ h.R h.N.length;let m:=K.bw;let c:=K.bn;refine⟨K.N.few,K.lN,λl o=>?_,uY b d c,xe b d c,yX b d c,vh m b d,λe j=>?_,?_,uU m b d⟩
 .refine d4 (N2 o) λi p=>d4 p ?_;clear p;clear o;rintro q rfl;let g:=K.lotm i _ (v5 q);ext1 g r s w;let a:=On r s;exact aH b a
 .let t:=XX (f:=λe:a6×a6×a7 a6=>e.2.2.length) j;let u:=K.sum;have v:(h.ab.map λe=>e.2.2.length).sum<=2*h.N.length:=u;exact xO v b t
 .let a:=On K.abk λn c=>by
   ext B5 c e j;exact(K.abr e j).1
  rw[f7]at a;exact aH b a
theorem YQ(g:R x=x)(d:R y=y)(f:x<y)(c:y<N):K0 R N+1<=K0 (C0 R x y) N:=by
 have i:=V2 (l:=y::(p0 N).filter λn=>R n != n) (m:=(p0 N).filter λn=>C0 R x y n != n) ?_ ?_
 .rwa [N9]at i
 .rw[Ax];refine⟨λh=>?_,List.nodup_range.filter _⟩;let i:=Gy h;simp[d]at i
 .intro n a;rw[HD];unfold C0;rcases D2 a with rfl|a
  .refine⟨CC c,?_⟩;rw[g0 d];simp;exact m6 ‹_›
  .refine k9 (BZ a) λe b=>?_;have b:R n≠n:=by simpa using b
   refine⟨e,?_⟩;by_cases h:R n=y
   .rw[g0 h];let i:x≠n:=by clear a e h;clear a;rintro rfl;solve_by_elim (maxDepth:=3)only[*,j7,q5,b6]
    simpa using i
   .rw[j4 h];simpa using b
theorem bj{f:a6×a6×a7 a6->a6}:∀{l:a7 (a6×a6×a7 a6)},(l.map (·.1)).Nodup->∀{e:a6×a6×a7 a6},e∈l->((l.filter λd=>d.1 != e.1).map f).sum+f e=(l.map f).sum:=by
 intro g
 induction g with
 |nil=>intro i i h;cases h
 |cons d l j=>
  intro c e h;rw[y4,Ax]at c;rw[DM,y4,Fw];by_cases b:d.1=e.1
  .rw[j4 (by simpa using b)];have m:l.filter (λd=>d.1 != e.1)=l:=Dd λx k=>by
    have m:x.1≠e.1:=λq=>c.1 (by rw[b,<-q];exact B9 (a:=x) k rfl);simpa using m
   rw[m];rcases D2 h with rfl|h
   .exact Yb
   .exact(c.1 (B9 (a:=e) h b.symm)).elim
  .rw[g0 (by simpa using b),y4,Fw];rcases D2 h with rfl|h
   .exact(b rfl).elim
   .have m:=j c.2 h;exact(Q7 _ _ _).trans (t0 (_+·) m)
theorem ca{f:a6×a6×a7 a6->a6}:∀{l:a7 (a6×a6×a7 a6)},(l.map (·.1)).Nodup->∀{e:a6×a6×a7 a6},e∈l->((l.map λd=>if d.1=e.1 then r else d).map f).sum+f e=(l.map f).sum+f r:=by
 intro g
 induction g with
 |nil=>intro i i h;cases h
 |cons d l j=>
  intro c e h;rw[y4,Ax]at c;rw[y4,y4,Fw,y4,Fw];by_cases b:d.1=e.1
  .rw[g0 b];have m:l.map (λd=>if d.1=e.1 then r else d)=l:=by
    conv=>rhs;rw[<-Ba l]
    refine A2 λz k=>?_;rw[j4]
    .rfl
    .intro q;exact c.1 (by rw[b,<-q];exact B9 (a:=z) k rfl)
   rw[m];rcases D2 h with rfl|h
   .exact ls
   .exact(c.1 (B9 (a:=e) h b.symm)).elim
  .rw[j4 b];rcases D2 h with rfl|h
   .exact(b rfl).elim
   .have m:=j c.2 h;exact(Q7 _ _ _).trans ((t0 (_+·) m).trans (Q7 _ _ _).symm)theorem Rq(l:a7 a6):l.map (C0 R x y)=(l.map R).map λz=>if z=y then x else z:=by rw[v9];rfl
theorem O7.join{X:a6->Prop}(K:O7 h P X lap z)(hx:(x,ax,ux)∈h.ab)(N:(y,ay,uy)∈h.ab)(u:x<y)
 (hPP:∀p∈P,p∈P')(k:∀p∈P',p.1<h.N.length/\p.2<h.N.length/\C0 h.R x y p.1=C0 h.R x y p.2)(C:lap<=lap'/\lap'<=6)
 (hj:∀E:a6->a6,(∀p∈P',E p.1=E p.2)->Dr h.N E->E x=E y):
 O7 (h.join x y adr ux uy) P' X lap' z/\(h.join x y adr ux uy).Y.length+20*(h.N.length - K0 (C0 h.R x y) h.N.length)<h.Y.length+20*(h.N.length - K0 h.R h.N.length):=by
 refine u0 (K.abr _ hx) λH w Z=>u0 (K.abr _ N) λs j Q=>?_;dsimp only at H w Z s j Q;let R:=m6 u;let huy:uy.length<=16:=by let J:=XX (f:=λe:a6×a6×a7 a6=>e.2.2.length) N;dsimp only at J;exact vD K.sum K.lapN J
 let A:=YQ w j u s;have g:∀n,C0 h.R x y n=if h.R n=y then x else h.R n:=λn=>rfl
 refine⟨⟨K.N,K.uf.merge w j u s,?_,?_,?_,K.knn,?_,?_,?_,?_,?_,?_,?_,k,?_,?_,?_,?_⟩,?_⟩
 .refine(?_:(h.u.S.set x _).length=_);rw[PU];exact K.lN
 .intro c l O;let O:(h.u.S.set x (h.u.S.getD x []++h.u.S.getD y []))[c]?=a0 l:=O;refine d4 (O0 (l:=h.u.S) (n:=x) (by rw[K.lN];exact H)) λlx hlx=>d4 (O0 (l:=h.u.S) (n:=y) (by rw[K.lN];exact s)) λly S=>?_;rw[(by rw[AB,hlx];rfl:h.u.S.getD x []=lx),(by rw[AB,S];rfl:h.u.S.getD y []=ly)]at O;refine u0 (K.lotm x lx hlx) λa1 a2 a3=>u0 (K.lotm y ly S) λb1 b2 b3=>?_;by_cases D:x=c
  .subst D;rw[qO (by rw[K.lN];exact H)]at O;cases O;refine m0 ?_ (λn d=>?_) λw0 n d=>?_
   .rw[BM];refine m0 a1 b1 λm hm n d e=>?_;subst e;exact R (((a3 w m (a2 m hm)).mp hm).symm.trans ((b3 j m (b2 m d)).mp d))
   .exact(v4 d).elim (a2 n) (b2 n)
   .refine(?_:n∈lx++ly↔C0 h.R x y n=x);rw[Gd,a3 w n d,b3 j n d,g];by_cases q:h.R n=y
    .rw[g0 q];simp[q]
    .rw[j4 q];simp[q]
  .rw[jN D]at O;refine u0 (K.lotm c l O) λc1 c2 c3=>m0 c1 c2 λb n d=>?_;let b:C0 h.R x y c=c:=b;have B:h.R c=c:=by
    rw[g]at b;by_cases q:h.R c=y
    .rw[g0 q]at b;exact(D b).elim
    .rwa [j4 q]at b
   have I:c≠y:=by clear N u k hj s j R A S b3 d;rintro rfl;rw[g,g0 B]at b;exact D b
   refine(?_:n∈l↔C0 h.R x y n=c);rw[c3 B n d,g];by_cases q:h.R n=y
   .rw[g0 q,q];exact⟨λe=>(I e.symm).elim,λe=>(D e).elim⟩
   .rw[j4 q]
 .intro e F;let i:=K.kn e F;ext1 i V W;ext1 W o t q3 q4;refine⟨V,o,t,q3,(?_:e.1.2.map (C0 h.R x y)=o.2.map (C0 h.R x y))⟩;rw[Rq,Rq,q4]
 .refine(?_:((Hc h.ab x y adr (ux++uy)).map (·.1)).Nodup);unfold Hc;rw[v9];let this:((h.ab.filter λe=>e.1 != y).map ((λe:a6×a6×a7 a6=>e.1) ∘ λe=>if e.1=x then(x,adr,ux++uy)else e))=(h.ab.filter λe=>e.1 != y).map (·.1):=by
   refine A2 λe w0=>?_;dsimp only[HV];by_cases q:e.1=x
   .rw[g0 q,q]
   .rw[j4 q]
  rw[this];exact K.abk.sublist (List.filter_sublist.map _)
 .intro e F;refine B5 (show e∈(h.ab.filter λe=>e.1 != y).map _ from F) ?_;clear F;rintro G T;let i:=BZ T;ext1 i U hy0;let i:=K.abr G U;ext1 i V t q3;let b:C0 h.R x y G.1=G.1:=by rw[g,t,j4 (by simpa using hy0:G.1≠y)]
  by_cases q:G.1=x
  .rw[g0 q];exact m0 H (by rw[q]at b;exact b) λn d=>(v4 d).elim (Z n) (Q n)
  .rw[j4 q];exact m0 V b q3
 .intro c D b;have b:C0 h.R x y c=c:=b;have I:c≠y:=by
   clear N u k hj s A D;rintro rfl;rw[g,g0 j]at b
   solve_by_elim (maxDepth:=3)only[*,j7,q5,b6]
  have B:h.R c=c:=by
   rw[g]at b;by_cases q:h.R c=y
   .rw[g0 q]at b;clear D I q;subst b;assumption
   .rwa [j4 q]at b
  refine c9 (K.aba c D B) ?_;clear D b B;clear b;rintro e F rfl;refine d0 _ (B9 (a:=e) (BH F (by simpa using I)) rfl) ?_;by_cases q:e.1=x
  .rw[g0 q,q]
  .rw[j4 q]
 .intro e F n o v d L b;refine A8 (show e∈(h.ab.filter λe=>e.1 != y).map _ from F) ?_;clear F;rintro G T rfl;let i:=BZ T;ext1 i U hy0;let b:C0 h.R x y v=(if G.1=x then(x,adr,ux++uy)else G).1:=b;rw[g]at b;by_cases q:G.1=x
  .rw[g0 q]at b ⊢;by_cases t:h.R v=y
   .exact K6 _ (K.abc _ N n o v d L t)
   .rw[j4 t]at b;exact G2 _ (K.abc _ hx n o v d L b)
  .rw[j4 q]at b ⊢;by_cases t:h.R v=y
   .rw[g0 t]at b;exact(q b.symm).elim
   .rw[j4 t]at b;exact K.abc _ U n o v d L b
 .intro n d;exact(v4 (show n∈h.Y++uy from d)).elim (K.wt n) (Q n)
 .intro n o d;rcases K.cl n o d with q|q|⟨v,V,t⟩
  .exact .inl q
  .exact .inr (.inl (G2 _ q))
  .by_cases Y:∃v∈o.2,h.R v=y
   .ext1 Y v L b;exact .inr (.inl (K6 _ (K.abc _ N n o v d L b)))
   .refine .inr (.inr (d0 v ?_ ?_))
    .let this:q6 (C0 h.R x y) o=q6 h.R o:=by unfold q6;congr 1;refine A2 λv L=>?_;rw[g,j4 λq=>Y (d0 v L q)]
     refine(?_:(q6 (C0 h.R x y) o,v)∈h.y);rw[this];exact V
    .refine(?_:C0 h.R x y v=C0 h.R x y n);rw[g,g,t]
 .intro E hE hC m n hm d b;let M:∀n,n<h.N.length->E n=E (C0 h.R x y n):=λn d=>by
   let J:=K.least E (λp hp=>hE p (hPP p hp):∀p∈P,E p.1=E p.2) hC n (h.R n) d (K.uf.ltN d) (K.uf.iE d).symm;rw[g];by_cases q:h.R n=y
   .rw[g0 q,hj E hE hC,<-q];exact J
   .rw[j4 q];exact J
  let b:C0 h.R x y m=C0 h.R x y n:=b;rw[M m hm,M n d,b]
 .let J:=bj (f:=λe:a6×a6×a7 a6=>e.2.2.length) K.abk N;let h2:=ca (f:=λe:a6×a6×a7 a6=>e.2.2.length) (r:=(x,adr,ux++uy)) (K.abk.sublist (List.filter_sublist.map _)) (BH hx (by simpa using R):(x,ax,ux)∈h.ab.filter λe=>e.1 != y);let h3:=K.sum;refine(?_:((Hc h.ab x y adr (ux++uy)).map λe=>e.2.2.length).sum<=2*h.N.length);unfold Hc;dsimp only at J h2;rw[u7]at h2;exact sj J h2 h3
 .let this:=K.lapN;exact⟨b6 this.1 (O8 C.1 2),C.2⟩
 .let this:=K.bw;refine(?_:h.y.length+(h.Y++uy).length+z<=h.N.length+20*K0 (C0 h.R x y) h.N.length);rw[u7];exact qW A this huy
 .let this:=K.bn;exact cw A this C
 .refine(?_:(h.Y++uy).length+_<_);rw[u7];exact tM A (OJ (C0 h.R x y) h.N.length) huy
theorem Nn(l:a7 (Nd×a6))(nd:Nd):v8 (An l) (o4 nd)=a8:=by unfold v8 An;rw[Nc];simp only[C2,V8,Fq];refine⟨rfl,?_⟩;rintro e a;ext c9 a x b rfl;rw[Nc];rfl
theorem YY(b:(l.map (·.1)).Nodup)(c:(nd,v)∈l):t4 (An l) (o4 nd)=a0 (iD v):=by refine Kt (LI _ _) ?_ (B9 c rfl);unfold An;rw[v9];let a:(Bt ∘ λ(e:Nd×a6)=>(o4 e.1,iD e.2))=o4 ∘ λe=>e.1:=rfl;rw[a,<-v9,Bw,Y6];exact(BN b).imp λh e=>h (Lp e)theorem hU(h:∀v,(nd,v)∉l):t4 (An l) (o4 nd)=b4:=by refine IW λe a b=>?_;ext A8 a x c rfl;exact h x.2 (Lp b▸c)def IJ(h:HG):a6:=h.Y.length+20*(h.N.length - K0 h.R h.N.length)theorem eV(F:UF N par R){nd:Nd}(h:∀x∈nd.2,x<N):(nd.2.map R).map R=nd.2.map R:=by rw[v9];exact A2 λx a=>F.iE (h x a)
theorem fK{st:St}{h:HG}{k:a6}{P:a7 (a6×a6)}{X:a6->Prop}{Q:Q1}(H:y7 st h)(K:O7 h P (λm=>X m\/m=n) lap (z+1))(o:n<h.N.length)
 (hq:∀F h',Fm HF st F->y7 F h'->O7 h' P X lap z->h'.N=h.N->IJ h'<=IJ h->Q .none F):u9 u8 (k+4) "Heap" "look_at" [.ref 4,iD n] st Q:=by
 refine D0 (fd:=Ud) rfl rfl ?_;delta Ud;let S:=K.few;let T:=K.lapN;refine d4 (O0 o) λc g=>?_;have j:∀x∈c.2,x<h.N.length:=λx N=>AJ (K.N.kid n c g x N) o;refine d4 H.y λZ hK=>?_;exists(H.Z.C rfl rfl),hK.I,hK.kind,HZ,H.Z.I,rfl;refine H.Z.go (Yr H K.N K.uf g λG U=>?_);have K1:=hK.ex U;have f:=H.ex U;exists K1.kind,rfl;by_cases I:∃v,(q6 h.R c,v)∈h.y
 .ext d4 I v O;rw[KZ K1 (Nn _ _) (by unfold An;rw[f7];let a:=S.kn;exact p6) (YY K.knn O)];let zz:=K.kn _ O;ext1 zz w0 rr;ext y3 rr nv C hv1 hv2;dsimp only at C hv1 hv2;let u:=x0 C;exists f.Z.I,rfl;refine f.Z.go (IR f K.uf (Kj T) u ?_);exists f.Z.I,rfl;refine f.Z.go (IR f K.uf (Kj T) o ?_);exists FT,rfl;by_cases V:h.R v=h.R n
  .rw[show decide (h.R v≠h.R n)=c8 from by simp[V]];exists 0;refine hq G h (Fm.ex U) f {K with cl:=λm r i=>?_,bw:=by let a:=K.bw;exact m9 ‹_›} rfl (l8 _);rcases K.cl m r i with(q|q)|q
   .exact .inl q
   .clear K o;subst q;rw[g]at i;cases i;exact .inr (.inr (d0 v O V))
   .exact .inr q
  .rw[show decide (h.R v≠h.R n)=a8 from by simpa using V];exists f.Z.I,rfl;refine f.Z.go (YN f K.uf S K.abk K.aba u o (λq=>(V q).elim) λl x y adr ux uy hxy hlt⟨ax,hax⟩⟨ay,hay⟩s A=>?_);let hEv:∀E:a6->a6,(∀p∈P,E p.1=E p.2)->Dr h.N E->E v=E n:=λE W R=>by
    refine R v n nv c C g hv1.symm ?_;let kn':∀(m:a6)(r:Nd),h.N[m]?=a0 r->r.2.map E=(r.2.map h.R).map E:=λm r i=>by
     rw[v9];refine A2 λx N=>?_;let J:=AJ (K.N.kid m r i x N) (x0 i);exact K.least E W R x (h.R x) J (K.uf.ltN J) (K.uf.iE J).symm
    let hv2':c.2.map h.R=nv.2.map h.R:=by let a:(q6 h.R c).2.map h.R=c.2.map h.R:=eV K.uf j;rw[<-a,hv2]
    rw[kn' v nv C,kn' n c g,hv2']
   let M:∀E:a6->a6,(∀p∈P,E p.1=E p.2)->Dr h.N E->E x=E y:=λE W R=>by
    let h1:=K.least E W R v (h.R v) u (K.uf.ltN u) (K.uf.iE u).symm;let h2:=K.least E W R n (h.R n) o (K.uf.ltN o) (K.uf.iE o).symm;have h3:=hEv E W R;rcases hxy with q|q
    .rw[q.1,q.2,<-h1,<-h2,h3]
    .rw[q.1,q.2,<-h1,<-h2,h3]
   obtain⟨K2,M2⟩:=K.join (P':=P) (lap':=lap) (adr:=adr) hax hay hlt (λp hp=>hp) (λp hp=>by
    refine u0 (K.tO p hp) λt B q3=>m0 t B ((?_:(if h.R p.1=y then x else h.R p.1)=(if h.R p.2=y then x else h.R p.2)));rw[q3]) ⟨l8 _,T.2⟩ M
   exists 0;refine hq l _ ((Fm.ex U).trans s) A {K2 with cl:=λm r i=>?_,bw:=by let a:=K2.bw;exact m9 ‹_›} rfl (m9 M2);rcases K2.cl m r i with(q|q)|q
   .exact .inl q
   .clear o hEv K2;subst q;let i:h.N[m]?=a0 r:=i;rw[g]at i;cases i;by_cases hk:∃w∈c.2,h.R w=y
    .ext c9 hk w Y hwr;exact .inr (.inl (K6 _ (K.abc _ hay m c w g Y hwr)))
    .refine .inr (.inr (d0 v ?_ ?_))
     .let a:q6 (C0 h.R x y) c=q6 h.R c:=by unfold q6;congr 1;refine A2 λw Y=>(?_:(if h.R w=y then x else h.R w)=h.R w);rw[j4 λq=>hk (d0 w Y q)]
      refine(?_:(q6 (C0 h.R x y) c,v)∈h.y);rw[a];exact O
     .refine(?_:(if h.R v=y then x else h.R v)=(if h.R m=y then x else h.R m));rcases hxy with q|q
      .rw[q.1,q.2,j4 V,g0 rfl]
      .rw[q.1,q.2,g0 rfl,VU]
   .exact .inr q
 .have hno:∀v,(q6 h.R c,v)∉h.y:=λv O=>I ⟨v,O⟩;rw[KB K1 (Nn _ _) (by unfold An;rw[f7];have a:=S.kn;exact p6) (hU hno)];exists rfl;rw[(by unfold An;rw[p9];rfl:An h.y++[(o4 (q6 h.R c),iD n)]=An (h.y++[(q6 h.R c,n)]))];generalize L:G.set 18 (.D (An (h.y++[(q6 h.R c,n)])) (Z+1))=l;have s:Fm (λb=>b=18) G l:=by rw[<-L];exact Fm.set rfl
  let A:y7 l {h with y:=h.y++[(q6 h.R c,n)]}:=by
   refine⟨b6 f.n23 s.1,f.Z.fr s,f.bank.fr s λb w0 w0=>gM ‹_› rfl,f.uni.fr s λb hb=>?_,?_,?_,⟨_,(by rw[<-L];exact m7.U K1.1:m7 l 18 (An (h.y++[(q6 h.R c,n)])) (Z+1))⟩,?_,f.Y.fr s,λe D=>?_,f.abn⟩
   .rcases hb with q|q
    .exact λe=>u6 (b6 (A1 e.symm) q.2) (by decide)
    .let a:=f.uni.lo b q;exact gF a rfl
   .exact c9 f.edges λes t B=>d0 es (t.fr s) B
   .exact c9 f.forest λes t B=>d0 es (t.fr s) B
   .exact d4 f.above λep t=>⟨ep,t.fr s⟩
   .exact u0 (f.abl e D) λt B q3=>m0 t B (q3.fr s (gF ‹_› rfl))
  exists A.Z.I,rfl;refine A.Z.go (IR A K.uf (by refine(?_:h.N.length<=100);exact Kj T) o ?_);exists A.Z.I,rfl;refine A.Z.go (IR A K.uf (by refine(?_:h.N.length<=100);exact Kj T) o ?_);exists FT,rfl;rw[show decide (h.R n≠h.R n)=c8 from by simp];exists 0;refine hq l _ ((Fm.ex U).trans (s.mono λb w0 q=>.inl (gE q rfl rfl))) A ⟨K.N,K.uf,K.lN,K.lotm,?_,?_,K.abk,K.abr,K.aba,K.abc,K.wt,?_,K.least,K.tO,K.sum,K.lapN,?_,K.bn⟩ rfl (l8 _)
  .intro e D;rcases v4 (show e∈h.y++[(q6 h.R c,n)] from D)with D|D
   .exact K.kn e D
   .rw[o9]at D;subst D;refine⟨λx N=>?_,c,g,rfl,eV K.uf j⟩;refine B5 (show x∈c.2.map h.R from N) ?_;clear N;rintro w Y;exact K.uf.ltN (j w Y)
  .refine(?_:((h.y++[(q6 h.R c,n)]).map (·.1)).Nodup);rw[p9,BM];refine m0 K.knn (by simp) λa ha b hb e=>?_;simp only[y4,V7,o9]at hb;subst hb;exact A8 ha λd hd q=>hno d.2 (by rw[<-e,<-q];exact hd)
  .intro m r i;rcases K.cl m r i with(q|q)|q|⟨v,t,B⟩
   .exact .inl q
   .clear K o L A;subst q;let i:=i;rw[g]at i;cases i;exact .inr (.inr (d0 m (K6 _ P8) rfl))
   .exact .inr (.inl q)
   .exact .inr (.inr (d0 v (G2 _ t) B))
  .let a:=K.bw;rw[u7];exact pd a
theorem xn(H:y7 st h)(K:O7 h P (λv=>k6) lap 0)
 (T:∀f p,Fm HF st f->y7 f p->O7 p P (λv=>k6) lap 0->p.N=h.N->p.Y=[]->Q .none f):u9 u8 (k+5) "Heap" "settle" [.ref 4] st Q:=by
 refine D0 (fd:=Tt) rfl rfl ?_;delta Tt;exists 0;refine Ox (I:=λm ρ f=>ρ "self"=a0 (.ref 4)/\Fm HF st f/\∃p,y7 f p/\O7 p P (λv=>k6) lap 0/\p.N=h.N/\IJ p=m) ?_ ⟨rfl,Fm.refl _,h,H,K,rfl,rfl⟩;rintro m ρ s Kk L U;ext u0 L B M N;ext BS N l d t z w;let S1:=t.few;let C:H9 s (.ref 4) "waiting"=a0 (.ref 20):=d.Z.C rfl rfl;let D:=X0 d.Y;rw[f7]at D;let O:=ZE (j:=0);exists B,C,D,O,rfl;(try exists 0,B,C,D,O);cases R:l.Y.reverse with
 |nil=>
  let a:l.Y=[]:=by rw[<-Pf l.Y,R];rfl
  rw[a];exact T s l M d t z a
 |cons n r=>
  have a:l.Y=r.reverse++[n]:=by rw[<-Pf l.Y,R,Ph]
  rw[(by rw[a];simp:decide (0<l.Y.length)=a8)];have x:=d.Y;rw[a,p9]at x;exists d.Z.I,rfl;refine d.Z.go ?_;exists B,C,x.I,x.kind,Zk,(XQ x),rfl;refine N5 (s.set 20 (.L (r.reverse.map iD))) λu A=>?_;have o:Fm (λb=>b=20) s u:=by rw[<-A];exact Fm.set rfl
  let V:y7 u {l with Y:=r.reverse}:=by
   refine⟨b6 d.n23 o.1,d.Z.fr o,d.bank.fr o λb v v=>gM ‹_› rfl,d.uni.fr o λb W=>?_,?_,?_,?_,?_,(by rw[<-A];exact d6.U x.1:d6 u 20 (r.reverse.map iD)),λe X=>?_,d.abn⟩
   .rcases W with q|q
    .exact λe=>u6 (b6 (A1 e.symm) q.2) (by decide)
    .let c:=d.uni.lo b q;exact gF c rfl
   .exact c9 d.edges λE i y=>d0 E (i.fr o) y
   .exact c9 d.forest λE i y=>d0 E (i.fr o) y
   .let g:=d.y;ext1 g F i;exact⟨F,i.fr o⟩
   .let g:=d.above;ext1 g F i;exact⟨F,i.fr o⟩
   .let g:=d.abl e X;ext1 g i y Y;exact m0 i y (Y.fr o (gF ‹_› rfl))
  let Z:O7 {l with Y:=r.reverse} P (λm=>k6\/m=n) lap (0+1):=by
   refine{t with wt:=λm w=>t.wt m (by rw[a];exact G2 _ w),cl:=λm md w=>?_,bw:=?_}
   .rcases t.cl m md w with q|q|q
    .exact q.elim
    .rw[a]at q;rcases v4 q with q|q
     .exact .inr (.inl q)
     .exact .inl (.inr (ph q))
    .exact .inr (.inr q)
   .let c:=t.bw;rw[a,u7]at c;simp only[N9,AH]at c;assumption
  refine fK V Z (t.wt n (by rw[a];simp)) λst3 S g3 H3 K3 G J=>?_;exists 0;refine U (IJ S) _ _ ?_ ⟨B,M.trans ((o.mono λb v q=>.inl (gE q rfl rfl)).trans g3),S,H3,K3,G.trans z,rfl⟩;let c:IJ {l with Y:=r.reverse}<m:=by rw[<-w];unfold IJ;rw[a,u7];simp
  exact q5 J c
def Aq(l:a7 (a6×a6×a7 a6))(cs:a7 a6)(n:a6):a7 (a6×a6×a7 a6):=l.map λe=>if e.1∈cs then(e.1,e.2.1,e.2.2++[n])else e
theorem bL(l:a7 (a6×a6×a7 a6))(cs:a7 a6)(n:a6):(Aq l cs n).map (·.1)=l.map (·.1):=by
 unfold Aq;rw[v9];refine A2 λe a=>?_;dsimp only[HV];by_cases q:e.1∈cs
 .rw[g0 q]
 .rw[j4 q]
theorem tZ:∀(l:a7 (a6×a6×a7 a6))(cs:a7 a6)(n:a6),((Aq l cs n).map (·.2.2.length)).sum=(l.map (·.2.2.length)).sum+(l.filter λe=>decide (e.1∈cs)).length:=by
 intro b
 induction b with
 |nil=>intro cs n;exact rfl
 |cons e l a=>
  intro cs n;let a:=a cs n;unfold Aq at a ⊢;rw[y4,y4,Fw,y4,Fw,DM,a];by_cases q:e.1∈cs
  .rw[g0 q,g0 (by simpa using q),u7,N9];exact cv
  .rw[j4 q,j4 (by simpa using q)];exact uG
def HG.ext(h:HG)(nd:Nd)(a1 a2:a6)(cs:a7 a6):HG:=
 {h with N:=h.N++[nd],u:=h.u.make a1,R:=λm=>if m=h.N.length then h.N.length else h.R m,ab:=Aq h.ab cs h.N.length++[(h.N.length,a2,[])]}
theorem GV{α:Type}{l:a7 α}{x y:α}{i:a6}(h:(l++[x])[i]?=a0 y):l[i]?=a0 y/\i<l.length\/i=l.length/\y=x:=by
 rw[Vz]at h;by_cases q:i<l.length
 .rw[g0 q]at h;exact .inl ⟨h,q⟩
 .rw[j4 q]at h;have a:i - l.length=0:=by let a:=x0 h;simpa using a
  rw[a]at h;cases h;exact .inr ⟨AL (Vh a) (Nat.not_lt.mp q),rfl⟩
theorem O7.ext{h:HG}{P:a7 (a6×a6)}{X lap' a1 a2:a6}{nd:Nd}{cs:a7 a6}(K:O7 h P (λV=>k6) X 0)(k:nd∉h.N)(ho:Ff nd.1)(W:nd.2.length<=2)(M:∀x∈nd.2,x<h.N.length)
 (hcs:cs.Nodup)(G:∀c,c∈cs↔c∈nd.2.map h.R)(J:h.N.length+1<=lap'+2/\X<=lap'/\lap'<=6):O7 (h.ext nd a1 a2 cs) P (λm=>k6\/m=h.N.length) lap' 1:=by
 have g:(h.N++[nd]).length=h.N.length+1:=by rw[u7];rfl
 have F:∀m,m<h.N.length->(if m=h.N.length then h.N.length else h.R m)=h.R m:=λm C=>j4 (m6 C);let Y:(if h.N.length=h.N.length then h.N.length else h.R h.N.length)=h.N.length:=g0 rfl;have o:∀(n:a6)(y:Nd),(h.N++[nd])[n]?=a0 y->∀x∈y.2,x<n/\x<h.N.length:=λn y C x u=>by
  rcases GV C with⟨q,D⟩|⟨t,w⟩
  .let this:=K.N.kid n y q x u;exact⟨this,AJ this D⟩
  .clear k ho W G g C;subst t w;exact⟨M x u,M x u⟩
 have H:∀l:a7 a6,(∀x∈l,x<h.N.length)->l.map (λm=>if m=h.N.length then h.N.length else h.R m)=l.map h.R:=λl J=>A2 λx u=>F x (J x u);let Z:K0 (λm=>if m=h.N.length then h.N.length else h.R m) (h.N.length+1)=K0 h.R h.N.length:=by
  unfold K0;rw[kR,Qx,u7];let e1:(p0 h.N.length).filter (λn=>(if n=h.N.length then h.N.length else h.R n) != n)=(p0 h.N.length).filter λn=>h.R n != n:=
   lI λn k=>by rw[F n (U7 k)]
  let e2:[h.N.length].filter (λn=>(if n=h.N.length then h.N.length else h.R n) != n)=[]:=by rw[DM,Y,j4 (by simp)];rfl
  rw[e1,e2];rfl
 let hcsN:∀c∈cs,c<h.N.length:=λc I=>by
  refine B5 ((G c).mp I) ?_;clear I;rintro x u;exact K.uf.ltN (M x u)
 let hcl:cs.length<=2:=by let this:=V2 hcs λc I=>(G c).mp I;rw[f7]at this;exact gA W this rfl
 refine⟨⟨?_,?_,?_,?_⟩,⟨?_,?_,?_,?_⟩,?_,?_,?_,K.knn,?_,?_,?_,?_,?_,?_,?_,?_,?_,?_,?_,?_⟩
 .refine(?_:(h.N++[nd]).Nodup);rw[BM];refine m0 K.N.nd (by simp) λa O b N e=>?_;rw[o9]at N;clear ho W M G g o;subst N e;exact k O
 .exact(g▸b6 J.1 (b6 (O8 J.2.2 2) (by decide)):(h.N++[nd]).length<=20)
 .intro x u;rcases v4 (show x∈h.N++[nd] from u)with u|u
  .exact K.N.op x u
  .rw[o9]at u;clear k M G g o;subst u;exact⟨ho,W⟩
 .exact λi y C x u=>(o i y C x u).1
 .refine(?_:(h.u.par++[h.u.par.length]).length=(h.N++[nd]).length);rw[u7,u7,K.uf.len];rfl
 .intro n p Q;rcases GV (show(h.u.par++[h.u.par.length])[n]?=a0 p from Q)with⟨q,D⟩|⟨t,w⟩
  .exact K.uf.le n p q
  .exact xM ‹_› ‹_›
 .intro n p Q;refine(?_:(if n=h.N.length then h.N.length else h.R n)=(if p=h.N.length then h.N.length else h.R p));rcases GV (show(h.u.par++[h.u.par.length])[n]?=a0 p from Q)with⟨q,D⟩|⟨t,w⟩
  .let h1:=K.uf.le n p q;rw[K.uf.len]at D;rw[F n D,F p (Bc D h1)];exact K.uf.up n p q
  .rw[t,w]
 .intro n Q;refine(?_:(if n=h.N.length then h.N.length else h.R n)=n);rcases GV (show(h.u.par++[h.u.par.length])[n]?=a0 n from Q)with⟨q,D⟩|⟨t,w⟩
  .rw[K.uf.len]at D;rw[F n D];exact K.uf.top n q
  .rw[K.uf.len]at t;refine G5 t ?_;rw[t]
 .refine(?_:(h.u.S++[[h.u.par.length]]).length=(h.N++[nd]).length);rw[u7,u7,K.lN];rfl
 .intro c l J;refine(?_:l.Nodup/\(∀n∈l,n<(h.N++[nd]).length)/\((if c=h.N.length then h.N.length else h.R c)=c->∀n,n<(h.N++[nd]).length->(n∈l↔(if n=h.N.length then h.N.length else h.R n)=c)));rcases GV (show(h.u.S++[[h.u.par.length]])[c]?=a0 l from J)with⟨q,D⟩|⟨t,w⟩
  .rw[K.lN]at D;refine u0 (K.lotm c l q) λa1 a2 a3=>m0 a1 (λn k=>by let this:=a2 n k;exact EB this g) λs n k=>?_;rw[F c D]at s;by_cases B:n=h.N.length
   .rw[g0 B];refine⟨λC=>?_,λe=>?_⟩
    .let this:=a2 n C;exact yU this B
    .exact(m6 D e.symm).elim
   .rw[j4 B];exact a3 s n (Hl k g B)
  .rw[K.lN]at t;rw[K.uf.len]at w;clear J;subst t w;refine m0 (by simp) (λn k=>?_) λV n k=>?_
   .rw[o9]at k;exact g▸k▸B8 _
   .rw[o9];by_cases B:n=h.N.length
    .rw[g0 B];simp[B]
    .rw[j4 B];let this:=K.uf.ltN (n:=n) (Hl k g B);exact⟨λe=>(B e).elim,λe=>mt this e⟩
 .intro e z;let A:=K.kn e z;ext1 A t R;ext y3 R y w q3 q4;let hl2:=x0 w;refine⟨λx u=>?_,y,?_,q3,?_⟩
  .refine(?_:x<(h.N++[nd]).length);let this:=t x u;exact EB this g
  .refine(?_:(h.N++[nd])[e.2]?=a0 y);rw[Mh hl2];exact w
  .refine(?_:e.1.2.map (λm=>if m=h.N.length then h.N.length else h.R m)=y.2.map λm=>if m=h.N.length then h.N.length else h.R m);rw[H _ t,H _ λx u=>(o e.2 y (by rw[Mh hl2];exact w) x u).2];exact q4
 .refine(?_:((Aq h.ab cs h.N.length++[(h.N.length,a2,[])]).map (λe:a6×a6×a7 a6=>e.1)).Nodup);rw[p9,bL,BM];refine m0 K.abk (by simp) λa O b N e=>?_;ext A8 O d T rfl;simp only[y4,V7,o9]at N;let this:=(K.abr d T).1;exact(m6 this (e.trans N)).elim
 .intro e z;refine(?_:e.1<(h.N++[nd]).length/\(if e.1=h.N.length then h.N.length else h.R e.1)=e.1/\∀n∈e.2.2,n<(h.N++[nd]).length);rcases v4 (show e∈Aq h.ab cs h.N.length++[(h.N.length,a2,[])] from z)with z|z
  .refine B5 z ?_;clear z;clear z;rintro d T;let A:=K.abr d T;ext1 A b1 b2 b3;by_cases q:d.1∈cs
   .rw[g0 q];refine m0 (by refine(?_:d.1<_);exact EB b1 g) (by refine(?_:(if d.1=_ then _ else _)=d.1);rw[F _ b1];exact b2) λn k=>?_;rcases v4 (show n∈d.2.2++[h.N.length] from k)with k|k
    .let this:=b3 n k;exact EB this g
    .rw[o9]at k;exact g▸k▸B8 _
   .rw[j4 q];exact m0 (EB b1 g) (by rw[F _ b1];exact b2) (λn k=>by let this:=b3 n k;exact EB this g)
  .rw[o9]at z;subst z;exact m0 (Na g) Y λn k=>by cases k
 .intro c I s;have s:(if c=h.N.length then h.N.length else h.R c)=c:=s;by_cases L:c=h.N.length
  .exact d0 (h.N.length,a2,[]) (K6 _ P8) L.symm
  .rw[j4 L]at s;refine c9 (K.aba c (Hl I g L) s) ?_;clear I s L;clear s;rintro e z rfl;refine d0 _ (G2 _ (B9 (a:=e) z rfl)) ?_;by_cases q:e.1∈cs
   .rw[g0 q]
   .rw[j4 q]
 .intro e z n y x C u s;have s:(if x=h.N.length then h.N.length else h.R x)=e.1:=s;let A:=o n y C x u;ext1 A hxn S;rw[F x S]at s;rcases v4 (show e∈Aq h.ab cs h.N.length++[(h.N.length,a2,[])] from z)with z|z
  .ext A8 z d T rfl;rcases GV (show(h.N++[nd])[n]?=a0 y from C)with⟨q,D⟩|⟨t,w⟩
   .by_cases U:d.1∈cs
    .rw[g0 U]at s ⊢;exact G2 _ (K.abc d T n y x q u s)
    .rw[j4 U]at s ⊢;exact K.abc d T n y x q u s
   .clear k ho W M g o C hxn;clear z;subst t w;by_cases U:d.1∈cs
    .rw[g0 U];exact K6 _ P8
    .rw[j4 U]at s;exact(U ((G d.1).mpr (by let hr2:=(F x S).symm.trans s;rw[<-hr2];exact V9 (f:=h.R) u))).elim
  .rw[o9]at z;subst z;let this:=K.uf.ltN S;exact(KJ this s).elim
 .intro n k;let this:=K.wt n k;exact EB this g
 .intro n y C;rcases GV (show(h.N++[nd])[n]?=a0 y from C)with⟨q,D⟩|⟨t,w⟩
  .rcases K.cl n y q with r|r|⟨v,r1,r2⟩
   .exact r.elim
   .exact .inr (.inl r)
   .refine .inr (.inr (d0 v ?_ ?_))
    .let this:q6 (λm=>if m=h.N.length then h.N.length else h.R m) y=q6 h.R y:=by unfold q6;rw[H _ λx u=>(o n y C x u).2]
     refine(?_:(q6 (λm=>if m=h.N.length then h.N.length else h.R m) y,v)∈h.y);rw[this];exact r1
    .let hvN:v<h.N.length:=by let A:=K.kn _ r1;ext1 A V R;ext1 R V w V;exact x0 w
     refine(?_:(if v=h.N.length then h.N.length else h.R v)=(if n=h.N.length then h.N.length else h.R n));rw[F v hvN,F n D,r2]
  .exact .inl (.inr t)
 .intro E hE hC m n C k s;let s:(if m=h.N.length then h.N.length else h.R m)=(if n=h.N.length then h.N.length else h.R n):=s;let C:m<(h.N++[nd]).length:=C;let k:n<(h.N++[nd]).length:=k;have hC':Dr h.N E:=λi j a b O N hab M=>hC i j a b (by
   refine(?_:(h.N++[nd])[i]?=a0 a);rw[Mh (x0 O)];exact O) (by
   refine(?_:(h.N++[nd])[j]?=a0 b);rw[Mh (x0 N)];exact N) hab M
  by_cases t:m=h.N.length
  .by_cases w:n=h.N.length
   .rw[t,w]
   .rw[g0 t,j4 w]at s;let this:=K.uf.ltN (n:=n) (Hl k g ‹_›);exact xd this s
  .by_cases w:n=h.N.length
   .rw[j4 t,g0 w]at s;let this:=K.uf.ltN (n:=m) (Hl C g t);exact dE this s
   .rw[j4 t,j4 w]at s;exact K.least E hE hC' m n (Hl C g t) (Hl k g ‹_›) s
 .intro p Q;let A:=K.tO p Q;ext1 A t w q3;refine(?_:p.1<(h.N++[nd]).length/\p.2<(h.N++[nd]).length/\(if p.1=h.N.length then h.N.length else h.R p.1)=(if p.2=h.N.length then h.N.length else h.R p.2));rw[F _ t,F _ w];exact m0 (EB t g) (EB ‹_› g) q3
 .refine(?_:((Aq h.ab cs h.N.length++[(h.N.length,a2,[])]).map (λe:a6×a6×a7 a6=>e.2.2.length)).sum<=2*(h.N++[nd]).length);rw[p9,Vq,tZ];let h1:((h.ab.filter λe=>decide (e.1∈cs)).map (·.1)).length<=cs.length:=V2 (K.abk.sublist (List.filter_sublist.map _)) λc I=>by
   ext B5 I e z;simpa using(Gy z)
  rw[f7]at h1;exact be g K.sum hcl h1
 .exact(lu J g:(h.N++[nd]).length<=lap'+2/\lap'<=6)
 .have:=K.bw;refine(?_:h.y.length+h.Y.length+1<=(h.N++[nd]).length+20*K0 (λm=>if m=h.N.length then h.N.length else h.R m) (h.N++[nd]).length);rw[g,Z];exact b6 (T9 this) (A1 (Y7 _ _ 1))
 .have:=K.bn;refine(?_:h.ne<=lap'+K0 (λm=>if m=h.N.length then h.N.length else h.R m) (h.N++[nd]).length/\h.nf<=K0 (λm=>if m=h.N.length then h.N.length else h.R m) (h.N++[nd]).length/\h.u.mg<=K0 (λm=>if m=h.N.length then h.N.length else h.R m) (h.N++[nd]).length);rw[g,Z];exact⟨b6 this.1 (O8 J.2.1 _),this.2⟩theorem UH(l:a7 a6):G8 (l.map iD):=by intro x c y d;ext B5 c a e;ext B5 d b e;rfl
theorem Hn(h:G8 xs):xs.all (λx=>xs.all λy=>P0 x y)=a8:=
 Cw λx a=>Cw λy b=>h x a y b
theorem TV(h:d6 st a b)(c:G8 b)(e:b.length<=1000)(d:C1 (D9 b)=a8):M4 .sS [.ref a] st=a0 (.ref st.n,st.A (.L (y8 (D9 b)))):=by refine(?_:((st.list? (.ref a)).bind λb=>if b.all (λx=>b.all λy=>P0 x y)/\b.length<=j8/\C1 (D9 b)then a0 (b0.ref st.n,st.A (.L (y8 (D9 b))))else b4)=_);rw[h.list,Dk,g0 (m0 (Hn c) (by unfold j8;exact p6) d)]
theorem cc{l:a7 a6}(h:l.length<64):C1 (D9 (l.map iD))=a8/\∃g:a7 a6,g.Nodup/\(∀c,c∈g↔c∈l)/\y8 (D9 (l.map iD))=g.map iD:=by
 let p:=EX (UH l);let q:=GZ (UH l);have i:D9 (l.map iD)=((D9 (l.map iD)).map t6).map iD:=by
  rw[v9]
  conv=>lhs;rw[<-Ba (D9 (l.map iD))]
  refine A2 λx k=>B5 ((p x).mp k) ?_;clear k;rintro n w;refine(?_:iD n=iD (t6 (iD n)));rw[O6]
 generalize v:(D9 (l.map iD)).map t6=m at i;haveI:Ec b0:=λa b=>Ea _
 let j:m.length<64:=by let f:=V2 q λx k=>(p x).mp k;rw[i,f7,f7]at f;exact vn h f
 have t:∀c,c∈m↔c∈l:=λc=>by
  let f:=p (iD c);rw[i]at f;constructor
  .intro h;exact A8 (f.mp (V9 h)) λd r e=>EE e▸r
  .intro h;exact A8 (f.mpr (V9 h)) λd r e=>EE e▸r
 let u:m.Nodup:=by rw[i,Bw,Y6]at q;exact TK (q.imp λh e=>h (by rw[e]))
 rw[i];refine⟨dW j,?_⟩;let o:=ZP (Y2 (m.map iD));ext1 o g s e;exact v7 g (s.nodup_iff.mpr u) (λc=>s.mem_iff.trans (t c)) e
theorem y7.app(H:y7 st h)(D:(h.ab.map (·.1)).Nodup)(p:e∈h.ab):
 y7 (st.set e.2.1 (.L (e.2.2.map iD++[iD n]))) {h with ab:=h.ab.map λd=>if d.1=e.1 then(d.1,d.2.1,d.2.2++[n])else d}:=by
 refine u0 (H.abl e p) λa m A=>?_;let g:Fm (λb=>b=e.2.1) st (st.set e.2.1 (.L (e.2.2.map iD++[iD n]))):=Fm.set rfl;let r:d6 (st.set e.2.1 (.L (e.2.2.map iD++[iD n]))) e.2.1 (e.2.2.map iD++[iD n]):=d6.U A.1;revert g r;refine gen (st.set e.2.1 (.L (e.2.2.map iD++[iD n]))) λG g r=>?_;refine⟨b6 H.n23 g.1,H.Z.fr g (gC a rfl) (gC a rfl),H.bank.fr g λb s s=>pi a ‹_›,H.uni.fr g λb E=>?_,?_,?_,?_,?_,H.Y.fr g (gC a rfl),?_,?_⟩
 .rcases E with q|q
  .exact λe=>u6 (b6 a (e▸q.2)) (by decide)
  .exact λe=>m (e▸q)
 .exact c9 H.edges λt a m=>d0 t (a.fr g (gC ‹_› rfl)) m
 .exact c9 H.forest λt a m=>d0 t (a.fr g (gC ‹_› rfl)) m
 .let c:=H.y;ext1 c u a;exact⟨u,a.fr g (gC ‹_› rfl)⟩
 .let c:=H.above;ext1 c u a;refine⟨u,?_⟩;let G:P3 (h.ab.map λd=>if d.1=e.1 then(d.1,d.2.1,d.2.2++[n])else d)=P3 h.ab:=by
   unfold P3;rw[v9];refine A2 λd s=>?_;dsimp only[HV];by_cases q:d.1=e.1
   .rw[g0 q]
   .rw[j4 q]
  rw[G];exact a.fr g (gC ‹_› rfl)
 .intro I o;refine B5 o ?_;rintro d v;let c:=H.abl d v;ext1 c B C F;by_cases q:d.1=e.1
  .let z:d=e:=by refine d4 (N2 v) λi f=>?_;ext d4 f w k;refine d4 (N2 p) λj f=>?_;ext d4 f y l;have G:=Ef D (by rw[o7,v5 w,k];rfl:(h.ab.map (·.1))[i]?=a0 d.1) (by rw[o7,v5 y,l,q];rfl:(h.ab.map (·.1))[j]?=a0 d.1);subst G;rw[<-k,l]
   clear p a m A g o q;subst z;rw[g0 rfl];refine m0 B C ?_;rw[p9];exact r
  .rw[j4 q];refine m0 B C (F.fr g λx=>?_);refine d4 (N2 v) λi f=>?_;ext d4 f w k;refine d4 (N2 p) λj f=>?_;ext d4 f y l;let G:=Ef H.abn (by rw[o7,v5 w,k];rfl:(h.ab.map (·.2.1))[i]?=a0 d.2.1) (by rw[o7,v5 y,l,x];rfl:(h.ab.map (·.2.1))[j]?=a0 d.2.1);subst G;rw[<-k,l]at q;exact q rfl
 .refine(?_:((h.ab.map λd=>if d.1=e.1 then(d.1,d.2.1,d.2.2++[n])else d).map (λe:a6×a6×a7 a6=>e.2.1)).Nodup);rw[v9];let G:(h.ab.map ((λe:a6×a6×a7 a6=>e.2.1) ∘ λd=>if d.1=e.1 then(d.1,d.2.1,d.2.2++[n])else d))=h.ab.map λe=>e.2.1:=by
   refine A2 λd s=>?_;dsimp only[HV];by_cases q:d.1=e.1
   .rw[g0 q]
   .rw[j4 q]
  rw[G];exact H.abn
theorem sM(l:a7 (a6×a6×a7 a6))(a:a7 a6)(c n:a6)(e:c∉a):(Aq l a n).map (λd:a6×a6×a7 a6=>if d.1=c then(d.1,d.2.1,d.2.2++[n])else d)=Aq l (a++[c]) n:=by
 unfold Aq;rw[v9];refine A2 λd f=>?_;by_cases q:d.1∈a
 .have g:d.1≠c:=λx=>e (x▸q);simp[q,g]
 .by_cases b:d.1=c
  .subst b;simp[q]
  .simp[q,b]
theorem YZ(H:y7 st h)(K:O7 h P (λO=>k6) lap 0)(ho:Ff nd.1)(h2:nd.2.length<=2)(hk:∀x∈nd.2,x<h.N.length)
 (hl:nd∉h.N->h.N.length+1<=lap'+2/\lap<=lap'/\lap'<=6)
 (hq1:∀i:a6,h.N[i]?=a0 nd->Q (iD i) st)
 (hq2:nd∉h.N->∀z h',Fm HF st z->y7 z h'->O7 h' P (λO=>k6) lap' 0->h'.N=h.N++[nd]->Q (iD h.N.length) z):
 u9 u8 (k+5) "Heap" "add" [.ref 4,.str nd.1,.B (nd.2.map iD)] st Q:=by
 refine D0 (fd:=SL) rfl rfl ?_;delta SL;exists(H.Z.C rfl rfl),H.bank.Z.I,rfl;refine H.bank.Z.go (cq H.bank K.N ho h2 hk (λi V=>?_) λhn s F B1=>?_)
 .let e2:H9 st (.ref 4) "unions"=a0 (.ref 12):=H.Z.C rfl rfl;exists e2,H.uni.Z.I,rfl;refine H.uni.Z.go (gX H.uni ?_);exists K.uf.len,IA,(show decide (i<h.N.length)=a8 from by simpa using(x0 V)),rfl;(try exists 0,K.uf.len,IA,(show decide (i<h.N.length)=a8 from by simpa using(x0 V)));exact hq1 i V
 .let i1:=H.Z.fr F;let u1:=H.uni.fr F λb hb=>by
   rcases hb with q|q
   .exact λh=>u6 (b6 q.1 h.2) (by decide)
   .let this:=H.uni.lo b q;exact λh=>u6 (b6 this h.2) (by decide)
  have n1:23<=s.n:=b6 H.n23 F.1;let e2:H9 s (.ref 4) "unions"=a0 (.ref 12):=i1.C rfl rfl;exists e2,u1.Z.I,rfl;refine u1.Z.go (gX u1 ?_);exists K.uf.len,IA,(show decide (h.N.length<h.N.length)=c8 from by simp),e2,u1.Z.I,rfl;(try exists 0,K.uf.len,IA,(show decide (h.N.length<h.N.length)=c8 from by simp),e2,u1.Z.I);refine u1.Z.go (yK u1 n1 (by rw[K.uf.len];exact Kj K.lapN) (by rw[K.lN,K.uf.len]) λg S hn2 U2=>?_);exists rfl;have r:∀c,c<11\/(15<c/\c<23)->¬h.u.own c:=λc hc hq=>by
   rcases hq with hq|hq
   .exact(YF hq hc).elim
   .let this:=H.uni.lo c hq;exact(fW this hc).elim
  let o:=H.edges;ext1 o es hE hEl;let o:=H.forest;ext1 o fs hF hFl;let o:=H.y;ext1 o kep hK;refine d4 H.above λaep hA=>?_;have X:∀e∈h.ab,23<=e.2.1/\e.2.1∉h.u.la/\e.2.1<st.n/\d6 g e.2.1 (e.2.2.map iD):=λe A=>by
   refine u0 (H.abl e A) λq1 q2 W=>M3 q1 q2 W.1 ((W.fr F λh=>u6 (b6 ‹_› h.2) (by decide)).fr S λq=>?_);rcases q with q|q
   .exact(XN q ‹_›).elim
   .exact q2 q
  let E:=Ex.A g (.L []);let L3:=d6.new g [];let U:(g.A (.L [])).n=g.n+1:=rfl;revert E L3 U;refine gen (g.A (.L [])) λst3 E L3 U=>?_;have i3:=(i1.fr S (r _ (by decide)) (r _ (by decide))).ex E;have A3:=((hA.fr F).fr S (r _ (by decide))).ex E;let Y:t4 (P3 h.ab) (iD h.N.length)=b4:=IW λe A q=>by
   ext A8 A d hd rfl;let this:=(K.abr d hd).1;let this:=EE q;exact(KJ ‹_› this).elim
  let hab100:=K.few.ab;let e4:=NE (v:=.ref g.n) A3 (II _ h.N.length) (by unfold P3;rw[f7];exact p6);rw[Y,Tj Y]at e4;exists(i3.C rfl rfl),e4,rfl;rw[(by unfold P3;rw[p9];rfl:P3 h.ab++[(iD h.N.length,.ref g.n)]=P3 (h.ab++[(h.N.length,g.n,[])]))];refine N5 (st3.set 19 (.D (P3 (h.ab++[(h.N.length,g.n,[])])) _)) λt hs4=>?_;have G:Fm (λb=>b=19) st3 t:=by rw[<-hs4];exact Fm.set rfl
  have C:s.n<g.n:=hn2;have Z:st3.n<=t.n:=G.1;have hla2:∀a∈(h.u.make s.n).la,a<g.n:=λa ha=>by
   refine d4 (N2 ha) λi T=>d4 T ?_;clear T;clear ha;rintro V rfl;let o:=O0 (l:=(h.u.make s.n).S) (n:=i) (by rw[<-U2.len];exact V);ext1 o l hl2;exact(U2.lot i _ l (v5 V) hl2).1
  have nst:st.n<=s.n:=F.1;have H4:y7 t {h with N:=h.N++[nd],u:=h.u.make s.n,R:=λm=>if m=h.N.length then h.N.length else h.R m,ab:=h.ab++[(h.N.length,g.n,[])]}:=by
   refine⟨b6 n1 (b6 (m9 C) (b6 (U▸N8 _) Z)),i3.fr G,((B1.fr S λb h1 h2=>r _ (.inl (BK h2))).ex E).fr G λb O O=>gM ‹_› rfl,(U2.ex E).fr G λb hb=>?_,(d0 es ((((hE.fr F).fr S (r _ (by decide))).ex E).fr G) hEl),(d0 fs ((((hF.fr F).fr S (r _ (by decide))).ex E).fr G) hFl),⟨kep,(((hK.fr F).fr S (r _ (by decide))).ex E).fr G⟩,(by rw[<-hs4];exact⟨_,m7.U A3.1⟩:∃ep,m7 t 19 (P3 (h.ab++[(h.N.length,g.n,[])])) ep),(((H.Y.fr F).fr S (r _ (by decide))).ex E).fr G,?_,?_⟩
   .rcases hb with q|q
    .exact λe=>u6 (b6 (A1 e.symm) q.2) (by decide)
    .let this:=U2.lo b q;exact gF this rfl
   .intro e A;rcases v4 A with A|A
    .let o:=X e A;ext1 o q1 q2 W q4;refine m0 q1 (λB=>?_) ((q4.ex E).fr G (gF ‹_› rfl));rcases v4 (show e.2.1∈h.u.la++[s.n] from B)with B|B
     .exact q2 B
     .rw[o9]at B;exact(U4 _ (j7 W (B▸nst))).elim
    .rw[o9]at A;subst A;refine m0 (b6 ‹_› (m9 ‹_›)) (λB=>?_) (L3.fr G (L0 (j7 (by decide) (b6 n1 (m9 C)))));let this:=hla2 _ B;dsimp only at this;exact(U4 _ this).elim
   .refine(?_:((h.ab++[(h.N.length,g.n,[])]).map (λe:a6×a6×a7 a6=>e.2.1)).Nodup);rw[p9,BM];refine m0 H.abn (by simp) λa ha b hb=>?_;ext B5 ha d hd;simp only[y4,V7,o9]at hb;let this:=(X d hd).2.2.1;exact bp this nst C hb
  have L:(h.N++[nd]).length=h.N.length+1:=by rw[u7];rfl
  let hl':=hl hn;let o:=cc (l:=nd.2.map h.R) (by rw[f7];exact Ca);ext1 o hok T;ext y3 T y hcs1 hcs2 hcs3;have Kx:=K.ext (a1:=s.n) (a2:=g.n) (cs:=y) hn ho h2 hk hcs1 hcs2 hl';exists 0,Eo;refine Ae (nx:=λi=>.seq (.B (nd.2.map iD)) i) (xs:=nd.2.map iD) (p:=λO=>a8) (f:=λx=>iD (h.R (t6 x))) (λi V=>Dt i) ?_ ?_
  .rintro i x acc kk hx hl3 hk3;refine c9 (Y3 hx) ?_;clear hx;rintro m B rfl;have hml:=hk m (p8 B);exists H4.Z.I,rfl;refine H4.Z.go (IR H4 Kx.uf (L▸b6 hl'.1 (b6 (O8 hl'.2.2 2) (by decide))) (EB hml L) ?_);rw[O6]at hk3;rw[f7]at hl3;refine⟨by unfold j8;exact gA h2 hl3 rfl,(?_:kk (acc++[iD (if m=h.N.length then h.N.length else h.R m)]) t)⟩;rw[(λm B=>j4 (m6 B):∀m,m<h.N.length->(if m=h.N.length then h.N.length else h.R m)=h.R m) m hml];simpa using hk3
  .exists 0;rw[Iz];let L5:=d6.new t ((nd.2.map h.R).map iD);have x5:=Ex.A t (.L ((nd.2.map h.R).map iD));revert L5 x5;refine gen (t.A (.L ((nd.2.map h.R).map iD))) λD L5 x5=>?_;exists 0,(TV L5 (UH _) (by rw[f7,f7];exact p6) hok),hcs3;have L6:=d6.new D (y.map iD);have x6:=Ex.A D (.L (y.map iD));have hn45:t.n<=D.n:=x5.1;generalize D.A (.L (y.map iD))=st6 at L6 x6 ⊢;exists(Q4 L6),rfl;refine BC (nx:=λi=>.seq (.ref D.n) i) (xs:=y.map iD) (I:=λi ρ z=>Fm HF st z/\d6 z D.n (y.map iD)/\ρ "self"=a0 (.ref 4)/\ρ "n"=a0 (iD h.N.length)/\
    y7 z {h with N:=h.N++[nd],u:=h.u.make s.n,R:=λm=>if m=h.N.length then h.N.length else h.R m,ab:=Aq h.ab (y.take i) h.N.length++[(h.N.length,g.n,[])]}) (λi ρ z V hI=>R9 hI.2.1 i) ?_ ?_ ?_
   .rintro i x ρ st7 kk hx z1 hk1 hk2;ext1 z1 F7 L7 r1 r2 N;refine c9 (Y3 hx) ?_;clear hx;rintro c hc rfl;refine A8 ((hcs2 c).mp (p8 hc)) λw hw hwc=>?_;have hcN:c<h.N.length:=hwc▸K.uf.ltN (hk w hw);let hcR:h.R c=c:=by rw[<-hwc];exact K.uf.iE (hk w hw)
    refine c9 (K.aba c hcN hcR) λe A J=>?_;have hnt:e.1∉y.take i:=λB=>by
     refine d4 (N2 B) λj T=>?_;ext1 T hj hje;rw[O9]at hj;let h1:y[j]?=a0 c:=by rw[JU]at hje;rw[<-J,<-hje,v5 (Ih hj)]
     let this:=Ef hcs1 h1 hc;exact u6 this (m6 (Hh hj))
    have hem:e∈Aq h.ab (y.take i) h.N.length++[(h.N.length,g.n,[])]:=G2 _ (B9 (a:=e) A (j4 hnt));let M:((Aq h.ab (y.take i) h.N.length++[(h.N.length,g.n,[])]).map (λe:a6×a6×a7 a6=>e.1)).Nodup:=by let this:=Kx.abk;have h1:((Aq h.ab y h.N.length++[(h.N.length,g.n,[])]).map (λe:a6×a6×a7 a6=>e.1)).Nodup:=this;rw[p9,bL]at h1 ⊢;exact h1
    let f1:H9 st7 (.ref 4) "above"=a0 (.ref 19):=N.Z.C rfl rfl;let o:=N.above;ext1 o ep7 A7;let f2:J9 (.ref 19) (iD c) st7=a0 (.ref e.2.1):=by rw[<-J];exact GE A7 (II _ _) (OG M hem)
    let o:=N.abl e hem;ext1 o q1 q2 W;let hus:=K.few.us e A;let f3:=Bg W (v:=iD h.N.length) (by rw[f7];exact p6);exists 0,r1,r2,f1,f2,W.I,W.kind,X9,f3;let hadr:=(H.abl e A).2.2.1;refine(hk1 _ _ ⟨F7.trans (Fm.set (.inr q1)),L7.set (rX U C Z nst hn45 hadr),by exact r1,by exact r2,?_⟩).1;let this:(Aq h.ab (y.take i) h.N.length++[(h.N.length,g.n,[])]).map (λd:a6×a6×a7 a6=>if d.1=e.1 then(d.1,d.2.1,d.2.2++[h.N.length])else d)=Aq h.ab (y.take (i+1)) h.N.length++[(h.N.length,g.n,[])]:=by
     rw[p9];congr 1
     .rw[J];let this:=sM h.ab (y.take i) c h.N.length (by rw[<-J];exact hnt);rw[Ak,hc];exact this
     .rw[y4,j4]
      .rfl
      .dsimp only;rw[J];exact L0 ‹_›
    let H8':=N.app (n:=h.N.length) M hem;dsimp only at H8';rw[this]at H8';exact H8'
   .rintro ρ st7 z2;ext1 z2 F7 L7 r1 r2 N;rw[f7,X4]at N;exists r1,r2,N.Z.I,rfl;(try exists 0,r1,r2,N.Z.I);refine N.Z.go (fK (h:=h.ext nd s.n g.n y) N Kx (Na L) λst8 h8 g8 H8 K8 hn8 O=>?_);exists 0,r2;exact hq2 hn st8 h8 (F7.trans g8) H8 K8 hn8
   .refine⟨((F.mono λb O q=>.inl (⟨b6 (by decide) q.1,b6 q.2 (by decide)⟩)).trans ((S.mono λb O q=>UG.own_HF H.uni q).trans ((Fm.ex E).trans (G.mono λb O q=>.inl (gE q rfl rfl))))).trans (Fm.ex (x5.trans x6)),L6,rfl,rfl,?_⟩;let this:Aq h.ab (y.take 0) h.N.length=h.ab:=by
     conv=>rhs;rw[<-Ba h.ab]
     exact A2 λe O=>j4 J8
    rw[this];exact H4.ex (x5.trans x6)def V4(st:St)(sp:a6):Prop:=∃(cells:a7 a6)(ep:a6),d6 st 1 (cells.map iD)/\m7 st 2 [(q8 "cells",.ref 1),(q8 "spot",iD sp)] ep/\cells.length<=48
theorem V4.fr{P:a6->Prop}{st:St}{b:a6}(F:V4 st b)(x:Fm P st st')(c:¬P 1:=by decide)(d:¬P 2:=by decide):V4 st' b:=by ext o0 F a e f g h;exact E8 a e (f.fr x c) (g.fr x d) h
theorem V4.ex{st:St}{a:a6}(F:V4 st a)(x:Ex st st'):V4 st' a:=F.fr (P:=λb=>k6) (Fm.ex x) id id
theorem RW(h:i.natAbs<=1000000/\j.natAbs<=1000000):V3 .mul (.int i) (.int j) st=a0 (.int (i*j),st):=g0 h
theorem ZG(h:0<m)(c:m<=1000):∃r,r<m/\V3 .mod (.int i) (iD m) st=a0 (iD r,st):=by let a:=Int.ofNat_lt.mpr h;let b:=qG i a;refine d0 ((i.fmod m).toNat) ((Pi b).mpr (d3.fmod_lt_of_pos i a)) ((?_:(if(0:d3)<(m:d3)/\(m:d3)<=10000000 then a0 (b0.int (i.fmod m),st)else b4)=_));rw[g0 ⟨by assumption,Int.ofNat_le.mpr (b6 c (by decide))⟩];refine(?_:_=a0 (b0.int (((i.fmod m).toNat:a6):d3),st));rw[Mq b]
theorem FO{st:St}{e:a6}{Q:Q1}(F:V4 st e)(p:e<=500)(v:0<m)(q:m<=1000)(w:∀h r,Fm (λb=>b=2) st h->V4 h (e+1)->r<m->Q (iD r) h):u9 u8 (k+1) "" "_law_draw" [.ref 2,iD m] st Q:=by
 refine D0 (fd:=Rd) rfl rfl ?_;delta Rd;ext o0 F d s D t E;exists(GE t rfl rfl),(bP (j:=1)),(NE t rfl (by simp)),rfl;refine N5 (st.set 2 (.D [(q8 "cells",.ref 1),(q8 "spot",iD (e+1))] s)) λa x=>?_;have g:Fm (λb=>b=2) st a:=by rw[<-x];exact Fm.set rfl
 have y:m7 a 2 [(q8 "cells",.ref 1),(q8 "spot",iD (e+1))] s:=by rw[<-x];exact m7.U t.1
 have u:=D.fr g;have z:V4 a (e+1):=E8 d s u y E;have A:J9 (.ref 2) (q8 "cells") a=a0 (.ref 1):=GE y rfl rfl;let B:=X0 u;rw[f7]at B;exists A,B,IA,rfl;by_cases l:e<d.length
 .rw[show decide (e<d.length)=a8 from by simpa using l];let f:=O0 l;ext1 f c C;let f:=ZG (st:=a) (i:=(c:d3)) v q;ext1 f r n o;exists A,(AX u p6 (by rw[o7,C];rfl)),rfl;rw[show V3 .mod (iD c) (iD m) a=a0 (iD r,a) from o];exact w a r g z n
 .rw[show decide (e<d.length)=c8 from by simpa using l];have G:(e:d3)<=500:=Int.ofNat_le.mpr p;exists(RW ⟨(M0 _ _),p6⟩),(RW ⟨(b6 (Y4 3 p) (by decide):3*e<=1000000),p6⟩),(RW ⟨(M0 _ _),p6⟩),(fdiv_ii ⟨by solve_by_elim (maxDepth:=2)only[*,j7],by solve_by_elim (maxDepth:=2)only[*,j7]⟩),add_zz,rfl;let f:=ZG (st:=a) (i:=(3*(e:d3)*e+13*e+4).fdiv 2) v q;ext1 f r n o;rw[o];exact w a r g z n
theorem O7.eqv{X:a6->Prop}(K:O7 h P X lap z)(e:a<h.N.length)(f:b<h.N.length)(g:h.R a=h.R b)(i:lap+1<=6):
 O7 {h with ne:=h.ne+1} (P++[(a,b)]) X (lap+1) z:=by
 refine{K with least:=λE j k=>K.least E (λp d=>j p (G2 _ d)) k,tO:=λp d=>?_,lapN:=?_,bn:=?_}
 .rcases v4 d with d|d
  .exact K.tO p d
  .rw[o9]at d;subst d;exact m0 e f g
 .let c:=K.lapN;exact⟨U6 c.1,i⟩
 .let c:=K.bn;exact⟨Y7 _ 1 _▸T9 c.1,c.2⟩
theorem uM{Q:Q1}(H:y7 st h)(K:O7 h P (λF=>k6) lap 0)(e:a<h.N.length)(f:b<h.N.length)(v:lap+1<=6)
 (w:∀c m t,Fm HF st c->y7 c m->O7 m (P++[(a,b)]) (λF=>k6) (lap+1) 0->m.N=h.N->Q (.bool t) c):u9 u8 (k+4) "Heap" "merge" [.ref 4,iD a,iD b,rs] st Q:=by
 refine D0 (fd:=cK) rfl rfl ?_;exists H.Z.I,rfl;refine H.Z.go (YN H K.uf K.few K.abk K.aba e f (λG c g n=>w c _ c8 g n (K.eqv e f G v) rfl) λc x y o O R i r⟨S,s⟩⟨T,u⟩g n=>?_);let I:C0 h.R x y a=C0 h.R x y b:=by
  refine(?_:(if h.R a=y then x else h.R a)=(if h.R b=y then x else h.R b));rcases i with q|q
  .rw[g0 q.2.symm,q.1,VU]
  .rw[g0 q.2.symm,q.1,VU]
 obtain⟨J,_⟩:=K.join (P':=P++[(a,b)]) (lap':=lap+1) (adr:=o) s u r (λp d=>G2 _ d) (λp d=>by
  rcases v4 d with d|d
  .let l:=K.tO p d;ext1 l L M N;refine m0 L M ((?_:(if h.R p.1=y then x else h.R p.1)=(if h.R p.2=y then x else h.R p.2)));rw[N]
  .rw[o9]at d;subst d;exact m0 e f I) ⟨(N8 _),v⟩ (λE z A=>by
  let j:∀p∈P,E p.1=E p.2:=λp d=>z p (G2 _ d);let B:=K.least E j A a (h.R a) e (K.uf.ltN e) (K.uf.iE e).symm;let C:=K.least E j A b (h.R b) f (K.uf.ltN f) (K.uf.iE f).symm;have D:E a=E b:=z (a,b) (K6 _ P8);rcases i with q|q
  .rw[q.1,q.2,<-B,<-C,D]
  .rw[q.1,q.2,<-B,<-C,D])
 exact w c _ a8 g n J rfl
theorem uI{Q:Q1}(H:y7 st h)(K:O7 h [] (λb=>k6) 0 0)(m:Ff o)(n:(o,[])∉h.N)(v:h.N.length+1<=2)
 (q:∀a c,Fm HF st a->y7 a c->O7 c [] (λb=>k6) 0 0->c.N=h.N++[(o,[])]->Q (iD h.N.length) a):u9 u8 (k+6) "Heap" "put" [.ref 4,.B [.str o]] st Q:=by
 refine D0 (fd:=cB) rfl rfl ?_;exists H.Z.I,(BR (i:=0) (F9 _) rfl),(rfl:Eh (.B [.str o]) (1:d3) st=a0 (.B [],st)),Eo,rfl;refine H.Z.go (Ae (nx:=λi=>.seq (.B []) i) (xs:=[]) (p:=λb=>a8) (f:=id) (λi l=>Dt i) ?_ ?_)
 .intro i x t w d;simp at d
 .exists 0;let L:=d6.new st ([].filter (λb=>a8)|>.map id);let e:=Ex.A st (.L ([].filter (λb=>a8)|>.map id));generalize st.A (.L ([].filter (λb=>a8)|>.map id))=u at L e ⊢;exists(EC L),rfl;exact YZ (nd:=(o,[])) (lap':=0) (H.ex e) K m (F9 _) (λx d=>by cases d) (λb=>m0 ‹_› (l8 _) (F9 _)) (λi l=>(n (p8 l)).elim) λb a c g r s j=>q a c ((Fm.ex e).trans g) r s j
def AP(p:a6×a6):b0:=.B [iD p.1,iD p.2]theorem Bh(b:a6)(h:b<=2\/b=21\/b=22:=by decide):¬HF b:=by unfold HF;exact sq h
structure NO (st:St) (h:HG) (P:a7 (a6×a6)) (lap sp:a6):Prop where
 H:y7 st h
 K:O7 h P (λw0=>k6) lap 0
 rows:d6 st 21 (h.N.map o4)
 pairs:d6 st 22 (P.map AP)
 feed:V4 st sp
 two:h.N.take 2=[([97],[]),([98],[])]
 cnt:h.N.length+P.length<=lap+2
theorem y7.out(H:y7 st h)(g:Fm (λb=>b=a) st st')(f:a<=2\/a=21\/a=22):y7 st' h:=H.fr g λb c q=>by
 clear g;subst q;rcases c with c|c|c
 .exact(zW c f).elim
 .let d:=H.uni.lo b c;exact(ak d f).elim
 .exact A8 c λe i q=>uo (H.abl e i).1 q f
theorem kb(h:st.list? a=b4)(c:P0 a b=a8):B0 .ne a b st=a0 (!l3 a b):=by refine(?_:(Bk st a b).map (!·)=_);unfold Bk;rw[h];exact t0 (Ju (!·)) (g0 c)theorem sd(h:st.list? a=b4)(c:P0 a b=a8):B0 .eq a b st=a0 (l3 a b):=by refine(?_:Bk st a b=_);unfold Bk;rw[h];exact g0 c
theorem yW(b:l<7):∃t,M4 .str [iD l] st=a0 (.str t,st)/\t.length<=10:=by
 refine d0 (Iw l) ?_ ?_
 .refine(?_:(if(0:d3)<=(l:d3)/\(l:d3)<=1000 then a0 (b0.str (Iw (l:d3).toNat),st)else b4)=_);rw[g0 ⟨by solve_by_elim (maxDepth:=2)only[*,j7],Fe (b6 (m9 b) (by decide))⟩,Q8]
 .let a:∀l,l<7->(Iw l).length<=10:=by decide+kernel
  exact a l b
theorem sx{Q:Q1}(H:y7 st h)(K:O7 h [] (λw0=>k6) 0 0)(hn:h.N=[])(Y:d6 st 21 [])(hp:d6 st 22 [])(F:V4 st 0)
 (hq:∀e N P lap sp,NO e N P lap sp->N.Y=[]->sp<=20->Q (.bool a8) e):u9 u8 (k+7) "" "_law_built" [.ref 2,.ref 4,.ref 21,.ref 22] st Q:=by
 refine D0 (fd:=QO) rfl rfl ?_;delta QO;exists 0,Eo;refine BC (nx:=λi=>.seq (.B [q8 "a",q8 "b"]) i) (xs:=[q8 "a",q8 "b"]) (I:=λi ρ e=>ρ "feed"=a0 (.ref 2)/\ρ "heap"=a0 (.ref 4)/\ρ "rows"=a0 (.ref 21)/\ρ "pairs"=a0 (.ref 22)/\
  ∃N,y7 e N/\O7 N [] (λw0=>k6) 0 0/\N.N=[([97],[]),([98],[])].take i/\d6 e 21 (N.N.map o4)/\d6 e 22 []/\V4 e 0) (λi ρ e hi hI=>Dt i) ?_ ?_ ⟨rfl,rfl,rfl,rfl,h,H,K,hn,by rw[hn];exact Y,hp,F⟩
 .rintro i x ρ st1 kk C z1 R hk2;ext GL z1 v w D O E;ext OH E h1 H1 K1 f L1 P1 F1;let hi:i<2:=x0 C;obtain⟨o,hxo,hoo,hno,hsn⟩:∃o:a7 a6,x= .str o/\Ff o/\(o,[])∉h1.N/\h1.N++[(o,[])]=[([97],[]),([98],[])].take (i+1):=by
   rcases(show i=0\/i=1 by exact av hi)with rfl|rfl
   .cases C;exact CW [97] rfl (.inl rfl) (by rw[f];simp) (by rw[f];rfl)
   .cases C;exact CW [98] rfl (.inr (.inl rfl)) (by rw[f];simp) (by rw[f];rfl)
  clear C;subst hxo;exists w,H1.Z.I,rfl;refine H1.Z.go (uI H1 K1 hoo hno (by rw[f,O9];exact T9 (Jh (v0 hi))) λS h2 Z H2 K2 hn2=>?_);let L2:=L1.fr Z (Bh _);exists D,L2.I,L2.kind,X9,rfl;rw[Bg L2 (by rw[f7,f,O9];exact Hd (by decide))];exists 0;generalize V:S.set 21 _=T;let g3:Fm (λb=>b=21) S T:=by rw[<-V];exact Fm.set rfl
  refine(R _ _ ⟨by exact v,by exact w,by exact D,by exact O,h2,H2.out g3 (by decide),K2,by rw[hn2,hsn],(by rw[<-V,hn2,p9];exact d6.U L2.1:d6 T 21 (h2.N.map o4)),(P1.fr Z (Bh _)).fr g3,(F1.fr Z (Bh _) (Bh _)).fr g3⟩).1
 .rintro ρ st1 z2;ext GL z2 v w D O E;ext OH E h1 H1 K1 f L1 P1 F1;let f:h1.N=[([97],[]),([98],[])]:=f;exists 0,v;refine FO (m:=7) F1 (F9 _) (M0 _ _) (M0 _ _) λS r Z F2 Y=>?_;exists 0;rw[g0 ⟨by solve_by_elim (maxDepth:=2)only[*,j7],by unfold j8;exact Int.ofNat_le.mpr (b6 (m9 Y) (by decide))⟩];refine BC (nx:=λi=>.range i r) (xs:=(p0 r).map iD) (I:=λi ρ e=>ρ "feed"=a0 (.ref 2)/\ρ "heap"=a0 (.ref 4)/\ρ "rows"=a0 (.ref 21)/\ρ "pairs"=a0 (.ref 22)/\
   ∃N P,NO e N P i (1+3*i)) (λi ρ e hi hI=>GP (by simpa using hi)) ?_ ?_ ⟨v,w,D,O,h1,[],(⟨H1.out Z (by decide),K1,L1.fr Z,P1.fr Z,F2,by rw[f];rfl,by rw[f];simp⟩:NO S h1 [] 0 1)⟩
  .rintro i x ρ T kk C z3 R hk2;ext GL z3 v w D O E;ext S7 E J P B;refine c9 (Y3 C) ?_;rintro A hi' rfl;have q:i<r/\A=i:=by let zz:=FN hi';ext1 zz q1 q2;rw[nC]at q2;exact⟨by simpa using q1,q2.symm⟩
   refine k9 q ?_;clear q;clear hi' C;rintro q rfl;have hN:=B.K.lapN;have h2N:2<=J.N.length:=by let this:=t0 CL B.two;rw[O9]at this;simp at this;exact b6 (A1 this.symm) (Go _ _)
   let e1:=X0 B.rows;rw[f7]at e1;exists 0,v;refine FO (m:=3) B.feed (b6 (G1 (Y4 3 hN.2) 1) (by decide)) (M0 _ _) (M0 _ _) λst4 d g4 F4 hway=>?_;have L4:=B.rows.fr g4;let e4:=X0 L4;rw[f7]at e4;exists v,D,e4,rfl;refine FO (m:=J.N.length) F4 (cj hN) (m9 ‹_›) (SW hN) λst5 x g5 F5 C=>?_;have L5:=L4.fr g5;let e5:=X0 L5;rw[f7]at e5;exists v,D,e5,rfl;refine FO (m:=J.N.length) F5 (ir hN) (m9 ‹_›) (SW hN) λs y g6 F6 hy=>?_;have L6:=L5.fr g6;have P6:=((B.pairs.fr g4).fr g5).fr g6;have H6:=((B.H.out g4 (by decide)).out g5 (by decide)).out g6 (by decide);let e7:B0 .eq (iD d) (.int 2) s=a0 (decide (d=2)):=Do (j:=2);exists aZ,e7,rfl;by_cases hw2:d=2
   .rw[show decide (d=2)=a8 from by simpa using hw2];exists O,P6.I,P6.kind,X9,rfl;rw[Bg P6 (by rw[f7];exact(by let this:=B.cnt;exact ip this hN:P.length<=1000))];exists rfl;refine N5 (s.set 22 _) λc V=>?_;let g7:Fm (λb=>b=22) s c:=by rw[<-V];exact Fm.set rfl
    let W:=H6.out g7 (by decide);refine c9 (yW (st:=c) (show A<7 by exact b6 ‹_› (m9 ‹_›))) λt ht htl=>?_;let e8:V3 .add (q8 "t") (.str t) c=a0 (.str ("t".toList.map Gu++t),c):=by refine(?_:(if("t".toList.map Gu).length+t.length<=j8 then _ else _)=_);rw[g0];let this:("t".toList.map Gu).length=1:=rfl;rw[this];exact b6 (G1 htl 1) (by decide)
    exists w,W.Z.I,ht,e8,rfl;(try exists 0,w,W.Z.I,ht,e8);refine W.Z.go (uM W B.K C hy (b6 q (v0 Y)) λU h8 t8 g8 H8 K8 hn8=>?_);exists 0;refine(R _ _ ⟨by exact v,by exact w,by exact D,by exact O,h8,P++[(x,y)],H8,K8,?_,(by rw[<-V,p9];exact d6.U P6.1:d6 c 22 ((P++[(x,y)]).map AP)).fr g8 (Bh _),?_,by rw[hn8];exact B.two,?_⟩).2
    .rw[hn8];exact(L6.fr g7).fr g8 (Bh _)
    .rw[show 1+3*(A+1)=1+3*A+1+1+1 by solve_by_elim (maxDepth:=2)only[*,j7]];exact(F6.fr g7).fr g8 (Bh _) (Bh _)
    .rw[hn8,u7];let this:=B.cnt;simp;exact BK ‹_›
   .rw[show decide (d=2)=c8 from by simpa using hw2];exists(Do (j:=0)),rfl;obtain⟨g,hnd,hok,h2,hkk⟩:∃g:Nd,(g=([102],[x])/\d=0\/g=([103],[x,y])/\d≠0)/\Ff g.1/\g.2.length<=2/\∀z∈g.2,z<J.N.length:=by
     by_cases u:d=0
     .exact CW _ (.inl ⟨rfl,u⟩) (.inr (.inr (.inl rfl))) (M7 _) (by simp;exact C)
     .exact CW _ (.inr ⟨rfl,u⟩) (.inr (.inr (.inr rfl))) (by simp) (by simp;exact⟨C,hy⟩)
    let X:∀a:Env,a "feed"=a0 (.ref 2)->a "heap"=a0 (.ref 4)->a "rows"=a0 (.ref 21)->a "pairs"=a0 (.ref 22)->a "node"=a0 (o4 g)->
     G6 (u9 u8 (k+6)) [.k (.a "n") (.m (.a "heap") "add" (.cons (.sub (.a "node") (.e (.int 0))) (.cons (.from (.a "node") (.e (.int 1))) .nil))),
      .iff (.cmp .eq (.a "n") (.bi .len (.cons (.a "rows") .nil))) [.xE (.m (.a "rows") "append" (.cons (.a "node") .nil))] [],
      .iff (.cmp .ne (.sub (.a "rows") (.a "n")) (.a "node")) [.ret (.e (.bool c8))] []] a s kk:=by
     intro a s1 s2 p s4 L;let f1:J9 (o4 g) (.int 0) s=a0 (.str g.1):=BR (i:=0) (F9 _) rfl;exists s1,s2,p,L,H6.Z.I,f1,(De (nd:=g) (show g.2.length<=100 by exact p6)),rfl;(try exists 0,s1,s2,p,L,H6.Z.I,f1,(De (nd:=g) (show g.2.length<=100 by exact p6)));refine H6.Z.go ?_;have fin:∀(c:St)(G:HG)(n:a6)(a:Env),y7 c G->O7 G P (λw0=>k6) (A+1) 0->d6 c 21 (G.N.map o4)->d6 c 22 (P.map AP)->V4 c (1+3*(A+1))->G.N.take 2=[([97],[]),([98],[])]->G.N.length+P.length<=A+1+2->
      G.N[n]?=a0 g->a "feed"=a0 (.ref 2)->a "heap"=a0 (.ref 4)->a "rows"=a0 (.ref 21)->a "pairs"=a0 (.ref 22)->a "node"=a0 (o4 g)->a "n"=a0 (iD n)->
      G6 (u9 u8 (k+6)) [.iff (.cmp .ne (.sub (.a "rows") (.a "n")) (.a "node")) [.ret (.e (.bool c8))] []] a c kk:=by
      intro c G n a W K7 M P7 F7 t7 c7 l s1 s2 p s4 L s6;let f3:B0 .ne (o4 g) (o4 g) c=a0 c8:=by rw[kb rfl (LI _ _),Eu (LI g g)];rfl
      exists 0,p,L,s6,(AX M (wX (x0 l) K7.lapN) (by rw[o7,l];rfl)),f3;exact(R _ _ ⟨s1,s2,p,s4,G,P,W,K7,M,P7,F7,t7,c7⟩).1
     let hF3:1+3*(A+1)=1+3*A+1+1+1:=by solve_by_elim (maxDepth:=2)only[*,j7]
     refine YZ (lap':=A+1) H6 B.K hok h2 hkk (λhno=>m0 (by let this:=B.K.lapN;exact T9 this.1) (N8 _) (b6 q (v0 Y))) (λn hn=>?_) λhno c G g7 W K7 l=>?_
     .let hnl:=x0 hn;let e6:=X0 L6;rw[f7]at e6;exists p,e6,Do,(show decide (n=J.N.length)=c8 from by simp;exact m6 ‹_›),rfl;(try exists 0,p,e6,Do,(show decide (n=J.N.length)=c8 from by simp;exact m6 ‹_›));let this:=fin s J n (a.set "n" (iD n)) H6 (by
       let K:=B.K;refine{K with lapN:=?_,bn:=?_}
       .let this:=K.lapN;exact⟨U6 this.1,v0 (q5 q Y)⟩
       .let this:=K.bn;exact⟨b6 this.1 (O8 (N8 _) _),this.2⟩) L6 P6 (by rw[hF3];exact F6) B.two (by let this:=B.cnt;exact U6 ‹_›) hn s1 s2 p s4 L rfl
      revert this;exists 0,p,L;exact id
     .let M:=L6.fr g7 (Bh _);let e7:=X0 M;rw[f7]at e7;exists p,e7,Do,L,M.I,M.kind,X9,rfl;(try exists 0,p,e7,Do,L,M.I,M.kind,X9);rw[Bg M (by rw[f7];exact SW hN)];exists rfl;generalize V:c.set 21 _=U;let g8:Fm (λb=>b=21) c U:=by rw[<-V];exact Fm.set rfl
      let this:=fin U G J.N.length (a.set "n" (iD J.N.length)) (W.out g8 (by decide)) K7 (by rw[<-V,l,p9];exact d6.U M.1:d6 U 21 (G.N.map o4)) ((P6.fr g7 (Bh _)).fr g8) (by rw[hF3];exact(F6.fr g7 (Bh _) (Bh _)).fr g8)
       (by rw[l,a7.take_append_of_le_length h2N];exact B.two) (by rw[l,u7];let this:=B.cnt;simp;exact(Y7 _ 1 _).symm▸T9 this) (by rw[l,a7.getElem?_append_right (l8 _)];simp) s1 s2 p s4 L rfl
      revert this;exists 0,p,L;exact id
    clear hok h2 hkk;rcases hnd with⟨rfl,u⟩|⟨rfl,u⟩
    .rw[show decide (d=0)=a8 from by simpa using u];have:=X ((((ρ.set "lap" (iD A)).set "way" (iD d)).set "x" (iD x)|>.set "y" (iD y)).set "node" (o4 ([102],[x]))) v w D O rfl;revert this;exists 0;intro this;exists rfl;exact this
    .rw[show decide (d=0)=c8 from by simpa using u];have:=X ((((ρ.set "lap" (iD A)).set "way" (iD d)).set "x" (iD x)|>.set "y" (iD y)).set "node" (o4 ([103],[x,y]))) v w D O rfl;revert this;exists 0;intro this;exists rfl;exact this
  .rintro ρ T z4;ext GL z4 v w D O E;ext S7 E J P B;exists w,B.H.Z.I,rfl;refine B.H.Z.go (xn B.H B.K λst4 h4 g4 H4 K4 hn4 hw4=>?_);exists 0;rw[(by simp:((p0 r).map iD).length=r)]at B K4;refine hq st4 h4 P r (1+3*r) ⟨H4,K4,?_,B.pairs.fr g4 (Bh _),B.feed.fr g4 (Bh _) (Bh _),by rw[hn4];exact B.two,by rw[hn4];exact B.cnt⟩ hw4 (yL Y);rw[hn4];exact B.rows.fr g4 (Bh _)
structure Lc (N:a7 Nd) (P:a7 (a6×a6)) (R:a6->a6):Prop where
 le:∀n,n<N.length->R n<=n
 iE:∀n,n<N.length->R (R n)=R n
 cong:Dr N R
 tO:∀p∈P,R p.1=R p.2
 least:∀E:a6->a6,(∀p∈P,E p.1=E p.2)->Dr N E->∀m n,m<N.length->n<N.length->R m=R n->E m=E n
theorem Lc.le_of(h:Lc nodes P R)(b:Lc nodes P R')(a:n<nodes.length):R' n<=R n:=by let c:=h.le n a;exact rf (h.least R' b.tO b.cong (R n) n (Bc a c) a (h.iE n a)) (b.le (R n) (Bc a c))
theorem Lc.eq(h:Lc nodes P R)(a:Lc nodes P R')(b:n<nodes.length):R n=R' n:=
 AL (a.le_of h b) (h.le_of a b)theorem eF{l:a7 (Nd×a6)}(e:(l.map (·.1)).Nodup){k:Nd}{v:a6}(f:(k,v)∈l)(g:(k,w)∈l):v=w:=by refine d4 (N2 f) λi a=>?_;ext d4 a h d;refine d4 (N2 g) λj a=>?_;ext1 a m c;let b:=Ef e (by rw[o7,v5 h,d];rfl:(l.map (·.1))[i]?=a0 k) (by rw[o7,v5 m,c];rfl:(l.map (·.1))[j]?=a0 k);subst b;rw[d]at c;exact t0 oA c
theorem O7.lc{h:HG}{P:a7 (a6×a6)}{e:a6}(K:O7 h P (λu=>k6) e z)(i:h.Y=[]):Lc h.N P h.R where
 le:=λn c=>(K.uf.root n c).1
 iE:=λn c=>K.uf.iE c
 cong:=λm n a b d j k l=>by
  have f:∀(m:a6)(a:Nd),h.N[m]?=a0 a->∃v,(q6 h.R a,v)∈h.y/\h.R v=h.R m:=λm a d=>by
   rcases K.cl m a d with q|q|q
   .exact q.elim
   .rw[i]at q;cases q
   .exact q
  refine c9 (f m a d) λv g o=>c9 (f n b j) λw r s=>?_;rw[(EP k l:q6 h.R a=q6 h.R b)]at g;rw[<-o,<-s,eF K.knn g r]
 tO:=λp t=>(K.tO p t).2.2
 least:=K.least
structure Mk (N:a7 Nd) (P:a7 (a6×a6)) (M:a6->a6):Prop where
 le:∀n,n<N.length->M n<=n
 iE:∀n,n<N.length->M (M n)=M n
 least:∀E:a6->a6,(∀p∈P,E p.1=E p.2)->Dr N E->∀m n,m<N.length->n<N.length->M m=M n->E m=E n
theorem Mk.zero(nodes:a7 Nd)(P:a7 (a6×a6)):Mk nodes P id:=⟨λn a=>l8 n,λa a=>rfl,λE a a m n a a h=>by rw[show m=n from h]⟩
theorem Mk.merge(h:Mk nodes P M)(s:a<nodes.length)(t:b<nodes.length)(y:M a≠M b)
 (D:∀E:a6->a6,(∀p∈P,E p.1=E p.2)->Dr nodes E->E a=E b):
 Mk nodes P (C0 M (min (M a) (M b)) (max (M a) (M b)))/\K0 M nodes.length+1<=K0 (C0 M (min (M a) (M b)) (max (M a) (M b))) nodes.length:=by
 let z:=h.le a s;let A:=h.le b t;let v:∃k g,k=min (M a) (M b)/\g=max (M a) (M b)/\k<g/\g<nodes.length/\M k=k/\M g=g/\(k=M a/\g=M b\/k=M b/\g=M a):=by
  refine U8 _ _ rfl rfl (Ux y) (Nat.max_lt.mpr ⟨q5 z s,q5 A t⟩) ?_;rcases Ci (M a) (M b)with q|q
  .rw[EJ (m9 ‹_›),LU (m9 ‹_›)];exact m0 (h.iE a s) (h.iE b t) (.inl ⟨rfl,rfl⟩)
  .rw[Hu ‹_›,Mo ‹_›];exact m0 (h.iE b t) (h.iE a s) (.inr ⟨rfl,rfl⟩)
 ext Lg v k g F G i d B H r;rw[<-F,<-G];let e:∀n,C0 M k g n=if M n=g then k else M n:=λK=>rfl
 refine⟨⟨λn f=>?_,λn f=>?_,λE j x m n I f J=>?_⟩,YQ B H i d⟩
 .rw[e];let c:=h.le n f;by_cases q:M n=g
  .rw[g0 q];exact b6 (m9 i) (q▸c)
  .rw[j4 q];exact c
 .rw[e n];by_cases q:M n=g
  .rw[g0 q,e,B,j4 (m6 ‹_›)]
  .rw[j4 q,e,h.iE n f,j4 q]
 .let l:=D E j x;let w:E k=E g:=by
   let u:=h.least E j x (M a) a (r.elim (λq=>q.1▸AJ i d) λq=>q.2▸d) s (h.iE a s);let C:=h.least E j x (M b) b (r.elim (λq=>q.2▸d) λq=>q.1▸AJ i d) t (h.iE b t);rcases r with q|q
   .rw[q.1,q.2,u,C,l]
   .rw[q.1,q.2,u,C,l]
  let o:∀n,n<nodes.length->E n=E (C0 M k g n):=λn f=>by
   let u:=h.least E j x (M n) n (by let c:=h.le n f;exact Bc f c) f (h.iE n f);rw[e];by_cases q:M n=g
   .rw[g0 q,w,<-q,u]
   .rw[j4 q,u]
  rw[o m I,o n f,J]def Y0(M:a6->a6)(N:a6):a7 b0:=((p0 N).map M).map iD
theorem Kn(L:d6 st a (Y0 M N))(c:N<=100)(b:n<N):J9 (.ref a) (iD n) st=a0 (iD (M n)):=
 AX L (gG b c rfl) (by unfold Y0;rw[o7,o7,JB b];rfl)theorem rS:M4 .min [iD a,iD b] st=a0 (iD (min a b),st):=by refine(?_:a0 (b0.int (min (a:d3) (b:d3)),st)=_);congr 2;congr 1;exact bu
theorem yF:M4 .max [iD a,iD b] st=a0 (iD (max a b),st):=by refine(?_:a0 (b0.int (max (a:d3) (b:d3)),st)=_);congr 2;congr 1;exact yT
theorem zH(h:n<=1000):M4 .lR [iD n] st=a0 (.ref st.n,st.A (.L (Y0 id n))):=by refine(?_:(if(0:d3)<=(n:d3)/\(n:d3)<=j8 then a0 (b0.ref st.n,st.A (.L ((p0 (n:d3).toNat).map λ(i:a6)=>b0.int (PE i))))else b4)=_);rw[g0 ⟨by solve_by_elim (maxDepth:=2)only[*,j7],by unfold j8;exact Int.ofNat_le.mpr (b6 h (by decide))⟩,Q8];unfold Y0;rw[Ba];rfl
theorem dA{a:a7 Nd}{i:a6}{x:b0}(h:((a.map o4).mapIdx λj x=>b0.B [iD j,x])[i]?=a0 x):∃b,a[i]?=a0 b/\x= .B [iD i,o4 b]:=by
 rw[Mv,o7]at h;cases c:a[i]? with
 |none=>rw[c]at h;cases h
 |some b=>rw[c]at h;simp only[Au,At]at h;exact d0 b rfl h.symm
theorem Ex.fm(x:Ex st st2)(g:Fm P st2 st3)(h:∀b,b<st.n->¬P b):Ex st st3:=
 ⟨b6 x.1 g.1,λb a=>(g.2 b (j7 a x.1) (h b a)).trans (x.2 b a)⟩
theorem Yh(G:Db nodes)(L:d6 st 21 (nodes.map o4))(LP:d6 st 22 (P.map AP))(hP:∀p∈P,p.1<nodes.length/\p.2<nodes.length)(hPl:P.length<=100)
 (hq:∀s a M,Ex st s->d6 s a (Y0 M nodes.length)->Lc nodes P M->Q (.ref a) s):u9 u8 (k+1) "" "_law_marks" [.ref 21,.ref 22] st Q:=by
 refine D0 (fd:=RL) rfl rfl ?_;delta RL;let hN:=G.few;let e1:=X0 L;rw[f7]at e1;exists e1,(zH (st:=st) (show nodes.length<=1000 by exact p6)),Et,rfl;let x1:=Ex.A st (.L (Y0 id nodes.length));let M1:=d6.new st (Y0 id nodes.length);generalize st.A (.L (Y0 id nodes.length))=st1 at x1 M1 ⊢;refine Ox (I:=λm ρ s=>Ex st s/\ρ "rows"=a0 (.ref 21)/\ρ "pairs"=a0 (.ref 22)/\∃(a:a6)(M:a6->a6)(b:b7),ρ "marks"=a0 (.ref a)/\ρ "goes_on"=a0 (.bool b)/\d6 s a (Y0 M nodes.length)/\Mk nodes P M/\
  (b=c8->Lc nodes P M)/\(b=a8->m=nodes.length - K0 M nodes.length+1)/\(b=c8->m=0)) (m:=nodes.length - K0 id nodes.length+1) ?_
  ⟨x1,rfl,rfl,st.n,id,a8,rfl,rfl,M1,Mk.zero _ _,(λh=>by cases h),λV=>rfl,(λh=>by cases h)⟩
 rintro m ρ Y KK z1 hK;ext CB z1 x2 r1 r2 u;ext M6 u a M b r3 r4 LM HM hb0 u;ext1 u hb1 hb2;exists r4,rfl;clear r4 hb2;cases b with
 |false=>exists 0,r3;exact hq Y a M x2 LM (hb0 rfl)
 |true=>
  let hm:=hb1 rfl;exists Et,V7,DZ,AH,rfl;(try exists 0,Et,V7,DZ,AH);let x3:=Ex.A Y (.D [] 0);let D3:=m7.new Y [] 0;generalize hkd:Y.n=kd at D3;generalize hs3:Y.A (.D [] 0)=st3 at x3 D3 ⊢;let L3:=(L.ex x2).ex x3;let LP3:=(LP.ex x2).ex x3;let LM3:=LM.ex x3;let hkda:kd≠a:=by let c:=LM.1;exact rh c hkd
  exists r1,r2,r3,L3.list,rfl;refine CS (nx:=λi=>.enum i (.ref 21)) (xs:=(nodes.map o4).mapIdx λj x=>b0.B [iD j,x])
   (I:=λi s J=>Fm (λb=>b=kd) st3 s/\∃(K:a7 (Nd×a6))(ep:a6)(B:a7 (a6×a6)),m7 s kd (An K) ep/\(K.map (·.1)).Nodup/\K.length<=i/\(∀e∈K,∃o,nodes[e.2]?=a0 o/\e.1=q6 M o)/\
    J=B.map AP/\B.length=i/\(∀d∈B,∃o,nodes[d.2]?=a0 o/\(q6 M o,d.1)∈K)/\(∀n o,n<i->nodes[n]?=a0 o->∃v,(v,n)∈B)) ?_ ?_ ?_ ⟨Fm.refl _,[],0,[],D3,Bz,l8 _,(λe N=>by cases N),rfl,rfl,(λd r=>by cases r),(λn o h=>(X1 _ h).elim)⟩
  .rintro i s J hi z2;ext1 z2 g V;exact TN (L3.fr g (by let c:=L.1;let c:=x2.1;exact gJ ‹_› c hkd rfl)) i
  .rintro i x C J kk O z3 hkk;ext k9 z3 g4 u;ext M6 u K ep B D4 Z hk2 t rfl u;ext u0 u R S T;refine c9 (dA O) ?_;rintro o A rfl;let hiN:=x0 A;let hop:=G.op o (p8 A);let f1:J9 (o4 o) (.int 0) C=a0 (.str o.1):=BR (i:=0) (F9 _) rfl;exists 0,D4.I,D4.kind,HZ,f1,(De (nd:=o) (show o.2.length<=100 from b6 hop.2 (by decide))),Eo;refine Ae (nx:=λi=>.seq (.B (o.2.map iD)) i) (xs:=o.2.map iD) (p:=λV=>a8) (f:=λx=>iD (M (t6 x))) (λi hi=>Dt i) ?_ ?_
   .rintro j x J kk O hl t;refine c9 (Y3 O) ?_;clear O;rintro w hw rfl;have hwl:=G.kid i o A w (p8 hw);exists r3,(Kn (LM3.fr g4 (C8 hkda)) p6 (show w<nodes.length by exact b6 ‹_› (m9 ‹_›))),rfl;rw[O6]at t;rw[f7]at hl;exact⟨b6 hl (b6 hop.2 (by decide)),by simpa using t⟩
   .exists 0;rw[Iz];let L5:=d6.new C ((o.2.map M).map iD);let W:=Ex.A C (.L ((o.2.map M).map iD));generalize C.A (.L ((o.2.map M).map iD))=D at L5 W ⊢;let e2:V3 .add (.B [.str o.1]) (.B ((o.2.map M).map iD)) D=a0 (o4 (q6 M o),D):=IS (xs:=[.str o.1]) (by rw[f7,f7];exact b6 (G1 hop.2 1) (by decide));let D5:=D4.ex W;exists(EC L5),e2,D5.kind,rfl;let accl:(B.map AP).length<=j8:=by rw[f7];exact R▸b6 (m9 hiN) (b6 hN (by decide))
    by_cases hin:∃v,(q6 M o,v)∈K
    .ext d4 hin v hv;rw[KZ D5 (Nn _ _) (by unfold An;rw[f7];exact UE hiN hN hk2) (YY Z hv)];exists rfl;refine⟨accl,hkk D _ ⟨g4.trans (Fm.ex W),K,ep,B++[(v,i)],D5,Z,by exact U6 ‹_›,t,by rw[p9];rfl,by rw[u7,R];rfl,λd r=>?_,λn X hn hmd=>?_⟩⟩
     .rcases v4 r with r|r
      .exact S d r
      .rw[o9]at r;subst r;exact d0 o A hv
     .by_cases hni:n=i
      .subst hni;exact⟨v,K6 _ P8⟩
      .let y:=T n X (NH hn hni) hmd;ext1 y v' hv';exact⟨v',G2 _ hv'⟩
    .have hno:∀v,(q6 M o,v)∉K:=λv hv=>hin ⟨v,hv⟩;rw[KB D5 (Nn _ _) (by unfold An;rw[f7];exact UE hiN hN hk2) (hU hno)];exists rfl;refine⟨accl,?_⟩;rw[(by unfold An;rw[p9];rfl:An K++[(o4 (q6 M o),iD i)]=An (K++[(q6 M o,i)]))];refine hkk _ _ ⟨(g4.trans (Fm.ex W)).trans (Fm.set rfl),K++[(q6 M o,i)],ep+1,B++[(i,i)],m7.U D5.1,?_,by rw[u7];simp;assumption,λe N=>?_,by rw[p9];rfl,by rw[u7,R];rfl,λd r=>?_,λn X hn hmd=>?_⟩
     .rw[p9,BM];refine m0 Z (by simp) λc hc d r e=>?_;simp only[y4,V7,o9]at r;subst r;exact A8 hc λd' hd' q=>hno d'.2 (by rw[<-e,<-q];exact hd')
     .rcases v4 N with N|N
      .exact t e N
      .rw[o9]at N;subst N;exact d0 o A rfl
     .rcases v4 r with r|r
      .let y:=S d r;ext1 y X q1 q2;exact d0 X q1 (G2 _ q2)
      .rw[o9]at r;subst r;exact d0 o A (K6 _ P8)
     .by_cases hni:n=i
      .subst hni;exact⟨n,K6 _ P8⟩
      .let y:=T n X (NH hn hni) hmd;ext1 y v' hv';exact⟨v',G2 _ hv'⟩
  .rintro C J z4;ext k9 z4 g4 u;ext M6 u K ep B D4 Z hk2 t rfl u;ext u0 u R S T;rw[(by rw[Jz,f7]:((nodes.map o4).mapIdx λj x=>b0.B [iD j,x]).length=nodes.length)]at hk2 R T;have x4:Ex st C:=(x2.trans x3).fm g4 λb hb=>m6 (j7 hb (by rw[<-hkd];exact x2.1:st.n<=kd));exists 0;let W:=Ex.A C (.L (B.map AP));have L5:=d6.new C (B.map AP);revert W L5;refine gen (C.A (.L (B.map AP))) λD W L5=>?_;exists(Ng (LP.ex (x4.trans W)) L5 (by rw[f7,f7];exact b6 (U0 hPl (R▸hN)) (by decide))),rfl;let x6:=Ex.A D (.L (P.map AP++B.map AP));let L6:=d6.new D (P.map AP++B.map AP);rw[<-p9]at x6 L6 ⊢;revert x6 L6;refine gen (D.A (.L ((P++B).map AP))) λst6 x6 L6=>?_;exists(Q4 L6),rfl;let hdue:∀d∈P++B,d.1<nodes.length/\d.2<nodes.length/\∀E:a6->a6,(∀p∈P,E p.1=E p.2)->Dr nodes E->E d.1=E d.2:=λd r=>by
    rcases v4 r with r|r
    .exact m0 ((hP d r).1) ((hP d r).2) λE hE V=>hE d r
    .refine c9 (S d r) λo A hkn=>c9 (t _ hkn) λnd' hnd' hcr=>m0 (x0 hnd') (x0 A) λE hE hC=>?_;let kn':∀(m:a6)(X:Nd),nodes[m]?=a0 X->X.2.map E=(X.2.map M).map E:=λm X hm=>by
      rw[v9];refine A2 λx O=>?_;let hxN:=AJ (G.kid m X hm x O) (x0 hm);exact(HM.least E hE hC (M x) x (by let c:=HM.le x hxN;exact Bc hxN c) hxN (HM.iE x hxN)).symm
     have hcr':q6 M o=q6 M nd':=hcr;let h1:=(Cz hcr').1;let h2:o.2.map M=nd'.2.map M:=(Cz hcr').2;exact hC d.1 d.2 nd' o hnd' A h1.symm (by rw[kn' _ _ hnd',kn' _ _ A,h2])
   refine BC (nx:=λi=>.seq (.ref D.n) i) (xs:=(P++B).map AP) (I:=λi ρ s=>Ex st6 s/\ρ "rows"=a0 (.ref 21)/\ρ "pairs"=a0 (.ref 22)/\∃(a:a6)(l:a6->a6)(b:b7),ρ "marks"=a0 (.ref a)/\ρ "goes_on"=a0 (.bool b)/\
    d6 s a (Y0 l nodes.length)/\Mk nodes P l/\(b=c8->l=M/\∀(j:a6)(d:a6×a6),j<i->(P++B)[j]?=a0 d->M d.1=M d.2)/\(b=a8->K0 M nodes.length+1<=K0 l nodes.length)) (λi ρ s hi hI=>R9 (L6.ex hI.1) i) ?_ ?_
    ⟨Ex.refl _,r1,r2,a,M,c8,r3,rfl,(((LM3.fr g4 (C8 hkda)).ex W).ex x6),HM,(λV=>⟨rfl,λj d h=>(X1 _ h).elim⟩),(λh=>by cases h)⟩
   .rintro i x ρ' st7 kk O z5 hk1' hk2';ext1 z5 x7 s1 s2 u;ext M6 u a' l b' s3 s4 F H hf ht;rw[o7,Av]at O;ext c9 O d r rfl;refine u0 (hdue d (p8 r)) λhd1N hd2N hdE=>?_;exists 0,AP,s3,(Kn F p6 hd1N),(Kn F p6 hd2N),rS,yF,Et,FT;by_cases N:l d.1=l d.2
    .rw[show decide (min (l d.1) (l d.2)≠max (l d.1) (l d.2))=c8 from by rw[N];simp];exists 0;refine(hk1' _ _ ⟨x7,by exact s1,by exact s2,a',l,b',by exact s3,by exact s4,F,H,λhb=>?_,ht⟩).1;refine k9 (hf hb) λq1 q2=>⟨q1,λj d' hj hd'=>?_⟩;rcases Ci j i with h|h
     .exact q2 j d' h hd'
     .let c:=OA hj h;subst c;rw[r]at hd';cases hd';rw[<-q1];exact N
    .rw[show decide (min (l d.1) (l d.2)≠max (l d.1) (l d.2))=a8 from Mf (m6 (Ux N))];let y:=H.merge hd1N hd2N N hdE;ext1 y HM2 hnr2;exists s3,(Q4 F),rfl;refine Ae (nx:=λi=>.seq (.ref a') i) (xs:=Y0 l nodes.length) (p:=λV=>a8) (f:=λx=>iD (if t6 x=max (l d.1) (l d.2)then min (l d.1) (l d.2)else t6 x)) (λi hi=>R9 F i) ?_ ?_
     .rintro j x J kk' O hl t;refine c9 (Y3 O) ?_;clear O;rintro w hw rfl;rw[O6]at t;let hl':J.length<=j8:=by
       let c:(Y0 l nodes.length).length=nodes.length:=by unfold Y0;simp
       rw[c]at hl;exact gA hN hl rfl
      exists Do,rfl;by_cases U:w=max (l d.1) (l d.2)
      .rw[show decide (w=max (l d.1) (l d.2))=a8 from by simpa using U];rw[g0 U]at t;exact⟨hl',by simpa using t⟩
      .rw[show decide (w=max (l d.1) (l d.2))=c8 from by simpa using U];rw[j4 U]at t;exact⟨hl',by simpa using t⟩
     .let hres:(V1 (λV=>a8) (Y0 l nodes.length)).map (λx=>iD (if t6 x=max (l d.1) (l d.2)then min (l d.1) (l d.2)else t6 x))=Y0 (C0 l (min (l d.1) (l d.2)) (max (l d.1) (l d.2))) nodes.length:=by unfold Y0;rw[Iz (f:=λz=>if z=max (l d.1) (l d.2)then min (l d.1) (l d.2)else z),Rq]
      exists 0,Et;rw[hres];refine(hk1' _ _ ⟨x7.trans (Ex.A _ _),by exact s1,by exact s2,st7.n,_,a8,by exact rfl,by exact rfl,d6.new _ _,HM2,(λh=>by cases h),λV=>?_⟩).1;clear s4;cases b' with
      |true=>let c:=ht rfl;exact b6 ‹_› (m9 ‹_›)
      |false=>let y:=hf rfl;ext1 y q1 V;rw[q1]at hnr2 ⊢;exact hnr2
   .rintro ρ' st7 z6;ext CB z6 x7 s1 s2 u;ext M6 u a' l b' s3 s4 F H hf ht;exists 0;let hle0:=OJ M nodes.length;cases b' with
    |true=>have c:=ht rfl;exact hK (nodes.length - K0 l nodes.length+1) _ _ (lr c (OJ l nodes.length) hm) ⟨x4.trans (W.trans (x6.trans x7)),s1,s2,a',l,a8,s3,s4,F,H,(λh=>by cases h),λV=>rfl,(λh=>by cases h)⟩
    |false=>
     let y:=hf rfl;ext1 y q1 q2;clear LM HM hb0 hb1 LM3 t hle0 hf ht;subst q1;rw[f7]at q2;have hall:∀d∈P++B,l d.1=l d.2:=λd r=>by
      refine d4 (N2 r) λj u=>d4 u ?_;clear u;clear r;rintro hj rfl;exact q2 j _ hj (v5 hj)
     refine hK 0 _ _ (hm▸M7 _) ⟨x4.trans (W.trans (x6.trans x7)),s1,s2,a',l,c8,s3,s4,F,H,λV=>⟨H.le,H.iE,λm n a b ha hb h1 h2=>?_,λp hp=>hall p (G2 _ hp),H.least⟩,(λh=>by cases h),λV=>rfl⟩;refine d4 (T m a (x0 ha) ha) λv hv=>d4 (T n b (x0 hb) hb) λw hw=>c9 (S _ hv) λa2 ha2 hv2=>c9 (S _ hw) λb2 hb2' U=>?_;rw[ha]at ha2;cases ha2;rw[hb]at hb2';cases hb2';rw[(EP h1 h2:q6 l a=q6 l b)]at hv2;let hvw:=eF Z hv2 U;let h3:=hall _ (K6 P hv);let h4:=hall _ (K6 P hw);dsimp only at hvw h3 h4;rw[<-h3,<-h4,hvw]def m8(l:a7 a6):b0:=.B (l.map iD)theorem al(h:m8 a=m8 b):a=b:=by unfold m8 at h;injection h with h;exact Sn h
theorem SN(a b:a7 a6):P0 (m8 a) (m8 b)=a8:=TF 2 a b
theorem Yz(h:d6 st a c)(k:∀x∈c,P0 x d=a8)(e:P0 d d=a8):∃b,B0 .isin d (.ref a) st=a0 b/\(b=a8↔d∈c):=by
 refine d0 (c.any λx=>l3 x d) ?_ ?_
 .refine(?_:(match st.items? (.ref a)with
   |some c=>if c.all (λx=>P0 x d)then a0 (c.any λx=>l3 x d)else b4
   |none=>match st.dict? (.ref a)with
    |some g=>if v8 g d then a0 (E5 g d).isSome else b4
    |none=>b4)=_)
  rw[h.items];refine(?_:(if c.all (λx=>P0 x d)then a0 (c.any λx=>l3 x d)else b4)=_);rw[g0 (Cw k)]
 .rw[jC];constructor
  .rintro f;ext1 f x i j;rw[<-W7 j];exact i
  .exact λl=>d0 d l (Eu e)theorem ZL(h:B0 .isin d a st=a0 b):B0 .notin d a st=a0 (!b):=by refine(?_:(B0.inOp st d a).map (!·)=_);have c:B0.inOp st d a=a0 b:=h;rw[c];rfl
theorem cQ(g:∀x∈xs,P0 x d=a8)(a:P0 d d=a8):∃b,B0 .isin d (.B xs) st=a0 b/\(b=a8↔d∈xs):=by
 refine d0 (xs.any λx=>l3 x d) ?_ ?_
 .refine(?_:(if xs.all (λx=>P0 x d)then a0 (xs.any λx=>l3 x d)else b4)=_);rw[g0 (Cw g)]
 .rw[jC];constructor
  .rintro c;ext1 c x e f;rw[<-W7 f];exact e
  .exact λh=>d0 d h (Eu a)def Z0(nodes:a7 Nd)(R:a6->a6)(o:a7 a6)(m:a6)(l:a7 a6):Prop:=∃(n:a6)(nd:Nd),nodes[n]?=a0 nd/\nd.1=o/\nd.2.length+1=m/\l=R n::nd.2.map R
theorem ZD(G:Db nodes)(L:d6 st 21 (nodes.map o4))(LM:d6 st am (Y0 R nodes.length))
 (hq:∀u a(r:a7 (a7 a6)),Ex st u->d6 u a (r.map m8)->r.Nodup->(∀l,l∈r↔Z0 nodes R o m l)->r.length<=nodes.length->Q (.ref a) u):u9 u8 (k+1) "" "_law_table" [.ref 21,.ref am,.str o,iD m] st Q:=by
 refine D0 (fd:=TJ) rfl rfl ?_;delta TJ;let hN:=G.few;exists 0;let x1:=Ex.A st (.L []);let F1:=d6.new st [];let hst1:st.n=st.n:=rfl;generalize W:st.n=X at F1;generalize st.A (.L [])=st1 at x1 F1 ⊢;let L1:=L.ex x1;let LM1:=LM.ex x1;let h21:21≠X:=by let c:=L.1;exact gd c W
 let ham:am≠X:=by let c:=LM.1;exact KY c W
 exists 0,L1.list;refine BC (nx:=λi=>.enum i (.ref 21)) (xs:=(nodes.map o4).mapIdx λj x=>b0.B [iD j,x])
  (I:=λi ρ u=>Fm (λb=>b=X) st1 u/\ρ "rows"=a0 (.ref 21)/\ρ "marks"=a0 (.ref am)/\ρ "op"=a0 (.str o)/\ρ "many"=a0 (iD m)/\ρ "found"=a0 (.ref X)/\
   ∃r:a7 (a7 a6),d6 u X (r.map m8)/\r.Nodup/\r.length<=i/\∀l,l∈r↔∃(n:a6)(nd:Nd),n<i/\nodes[n]?=a0 nd/\nd.1=o/\nd.2.length+1=m/\l=R n::nd.2.map R) ?_ ?_ ?_
  ⟨Fm.refl _,rfl,rfl,rfl,rfl,rfl,[],F1,Bz,l8 _,λl=>⟨λh=>(by cases h),λz9=>F8 z9 λn nd h w0=>(X1 _ h).elim⟩⟩
 .rintro i ρ u hi z3;ext1 z3 g w0;exact TN (L1.fr g h21) i
 .rintro i x ρ E kk H z4 A hk2;ext dX z4 g2 r1 S Y Z D;let N:=D.1;let D:=D.2;ext BS D r F2 B C q;refine c9 (dA H) ?_;rintro nd s rfl;let J:=x0 s;have K:=G.op nd (p8 s);have LM2:=LM1.fr g2 ham;exists 0,S,(Kn LM2 p6 J),(De (nd:=nd) (show nd.2.length<=100 from b6 K.2 (by decide))),Eo;refine Ae (nx:=λi=>.seq (.B (nd.2.map iD)) i) (xs:=nd.2.map iD) (p:=λw0=>a8) (f:=λx=>iD (R (t6 x))) (λi hi=>Dt i) ?_ ?_
  .rintro j x acc kk H hl hk3;refine c9 (Y3 H) ?_;clear H;rintro w hw rfl;have hwl:=G.kid i nd s w (p8 hw);exists 0,S,(Kn LM2 p6 (show w<nodes.length by exact b6 ‹_› (m9 ‹_›)));rw[O6]at hk3;rw[f7]at hl;exact⟨b6 hl (b6 K.2 (by decide)),by simpa using hk3⟩
  .exists 0;rw[Iz];let L3:=d6.new E ((nd.2.map R).map iD);let x3:=Ex.A E (.L ((nd.2.map R).map iD));revert L3 x3;refine gen (E.A (.L ((nd.2.map R).map iD))) λv L3 x3=>?_;let e2:V3 .add (.B [iD (R i)]) (.B ((nd.2.map R).map iD)) v=a0 (m8 (R i::nd.2.map R),v):=IS (xs:=[iD (R i)]) (by rw[f7,f7];exact b6 (G1 K.2 1) (by decide));let e3:J9 (o4 nd) (.int 0) v=a0 (.str nd.1):=BR (i:=0) (F9 _) rfl;let e4:B0 .eq (.str nd.1) (.str o) v=a0 (nd.1==o):=sd rfl rfl;let e5:M4 .len [m8 (R i::nd.2.map R)] v=a0 (iD (nd.2.length+1),v):=by let c:=GD (st:=v) (xs:=(R i::nd.2.map R).map iD) (by rw[f7,N9,f7];exact b6 (T9 K.2) (by decide));rw[f7,N9,f7]at c;exact c
   let O:=F2.ex x3;obtain⟨b,e6,hb⟩:=Yz O (d:=m8 (R i::nd.2.map R)) (λx H=>by
    ext B5 H l w0;exact SN _ _) (SN _ _)
   let e7:=ZL e6;let M:b=a8↔(R i::nd.2.map R)∈r:=by
    rw[hb];constructor
    .intro h;exact A8 h λl hl e=>al e▸hl
    .exact λh=>V9 h
   exists 0,(EC L3),e2,Y,e3,e4;have z:(¬(nd.1=o/\nd.2.length+1=m)\/(R i::nd.2.map R)∈r)->∀l,l∈r↔∃(n:a6)(nd:Nd),n<i+1/\nodes[n]?=a0 nd/\nd.1=o/\nd.2.length+1=m/\l=R n::nd.2.map R:=λF l=>by
    rw[q l];constructor
    .rintro z5;ext F8 z5 n T P t;exact Q6 n T (BL ‹_›) t
    .rintro z6;ext C7 z6 n T P t U h4 h5;by_cases y:n=i
     .clear A C H J e2 e5 e6 hb e7 M P;subst y;rw[s]at t;cases t;rcases F with F|F
      .exact(F ⟨U,h4⟩).elim
      .rw[h5];exact(q _).mp F
     .exact U8 n T (NH P y) t U h4 h5
   let g3:=g2.trans (Fm.ex x3);by_cases ho:nd.1=o
   .rw[show(nd.1==o)=a8 from by simpa using ho];exists 0,e5,Z,Do;by_cases hm:nd.2.length+1=m
    .rw[show decide (nd.2.length+1=m)=a8 from by simpa using hm];exists 0,N,e7;clear e6 hb e7;cases b with
     |true=>exists 0;exact(A _ _ ⟨g3,by exact r1,by exact S,by exact Y,by exact Z,by exact N,r,O,B,by exact U6 ‹_›,z (.inr (M.mp rfl))⟩).1
     |false=>
      exists 0,N,O.I,O.kind,X9;rw[Bg O (by rw[f7];exact UE J hN C)];exists 0;refine(A _ _ ⟨g3.trans (Fm.set rfl),by exact r1,by exact S,by exact Y,by exact Z,by exact N,r++[R i::nd.2.map R],?_,?_,by rw[u7];simp;assumption,λl=>?_⟩).1
      .rw[p9];exact d6.U O.1
      .have y:(R i::nd.2.map R)∉r:=λh=>by cases M.mpr h
       rw[BM];refine m0 B (by simp) λc hc d hd e=>?_;rw[o9]at hd;subst hd e;exact y hc
      .rw[Gd,o9,q l];constructor
       .rintro(⟨n,T,P,t⟩|rfl)
        .exact Q6 n T (BL ‹_›) t
        .exact U8 i nd (l8 _) s ho hm rfl
       .rintro z7;ext C7 z7 n T P t U h4 h5;by_cases y:n=i
        .clear A C q H J e2 e5 z M P;subst y;rw[s]at t;clear U h4;cases t;exact .inr h5
        .exact .inl (U8 n T (NH P y) t U h4 h5)
    .rw[show decide (nd.2.length+1=m)=c8 from by simpa using hm];exists 0;exact(A _ _ ⟨g3,by exact r1,by exact S,by exact Y,by exact Z,by exact N,r,O,B,by exact U6 ‹_›,z (.inl λh=>hm h.2)⟩).1
   .rw[show(nd.1==o)=c8 from by simpa using ho];exists 0;exact(A _ _ ⟨g3,by exact r1,by exact S,by exact Y,by exact Z,by exact N,r,O,B,by exact U6 ‹_›,z (.inl λh=>ho h.1)⟩).1
 .rintro ρ E V;ext1 V g2 r1 S Y Z D;let N:=D.1;let D:=D.2;ext BS D r F2 B C q;have hlN:((nodes.map o4).mapIdx λj x=>b0.B [iD j,x]).length=nodes.length:=by rw[Jz,f7]
  rw[hlN]at C q;exists 0,N;refine hq E X r (x1.fm g2 λb hb=>OO hb W) F2 B (λl=>?_) C;rw[q l];constructor
  .rintro z9;ext F8 z9 n nd P t;exact Dz n nd t
  .rintro z10;ext F8 z10 n nd t U;exact E8 n nd (x0 t) t U
abbrev AV:=a7 a6×a7 a6
def sD(c:a6):b0:=.str [c]def W8(a:AV):b0:=.B [.str a.1,.B (a.2.map sD)]def Ji(c:a6):Prop:=c=120\/c=121\/c=122\/c=119
def isAtom(a:AV):Prop:=((a.1=[102]/\a.2.length=2)\/(a.1=[103]/\a.2.length=3)\/(a.1=[97]/\a.2.length=1)\/(a.1=[122]/\a.2.length=2))/\∀c∈a.2,Ji c
theorem Rx(h:isAtom a):a.2.length<=3:=by rcases h.1 with q|q|q|q<;>exact b6 (A1 q.2) (by decide)def Lm:a7 b0:=[.B [q8 "f",.int 2],.B [q8 "g",.int 3],.B [q8 "f",.int 2],.B [q8 "g",.int 3],.B [q8 "a",.int 1],.B [q8 "z",.int 2]]
theorem gy{st:St}{M:a6}{Q:Q1}(F:V4 st M)(R:M<=100)
 (hq:∀d a(ats:a7 AV)s,Fm (λb=>b=2) st d->d6 d a (ats.map W8)->st.n<=a->V4 d s->s<=M+13->1<=ats.length->ats.length<=3->(∀G∈ats,isAtom G)->Q (.ref a) d):u9 u8 (k+2) "" "_law_asked" [.ref 2] st Q:=by
 refine D0 (fd:=QD) rfl rfl ?_;delta QD;exists rfl;let N:=Ex.A st (.L []);let F1:=d6.new st [];generalize H:st.n=K at F1;generalize st.A (.L [])=st1 at N F1 ⊢;have g:2≠K:=by ext o0 F h h h q h;exact m6 (j7 q.1 (A1 H))
 refine FO (m:=3) (F.ex N) p6 (M0 _ _) (M0 _ _) λst2 r g2 F2 L=>?_;exists(bP (i:=1)),rfl;rw[g0 ⟨by solve_by_elim (maxDepth:=2)only[*,j7],(Fe (b6 (G1 (m9 L) 1) (by decide)))⟩];refine BC (nx:=λi=>.range i ((1+r:a6):d3)) (xs:=(p0 (1+r)).map iD) (I:=λi ρ d=>Fm (λb=>b=2\/b=K) st1 d/\ρ "feed"=a0 (.ref 2)/\ρ "found"=a0 (.ref K)/\
  ∃(ats:a7 AV)(s:a6),d6 d K (ats.map W8)/\ats.length=i/\(∀G∈ats,isAtom G)/\V4 d s/\s<=M+1+4*i) (λi ρ d E hI=>GP (by simpa using E)) ?_ ?_
  ⟨g2.mono λb h q=>.inl q,rfl,rfl,[],M+1,F1.fr g2 (C8 g),rfl,(λa D=>by cases D),F2,(l8 _)⟩
 .rintro i x ρ f kk hx z1 hk1 hk2;ext CB z1 W X Y p;ext C7 p ats z L3 n u O e;have E:i<1+r:=by have:=x0 hx;simpa using this
  exists 0,X;let Z:=Ex.A f (.L Lm);let K4:=d6.new f Lm;let hk:f.A (.L [.B [q8 "f",.int 2],.B [q8 "g",.int 3],.B [q8 "f",.int 2],.B [q8 "g",.int 3],.B [q8 "a",.int 1],.B [q8 "z",.int 2]])=f.A (.L Lm):=rfl;rw[hk];generalize hka:f.n=ka at K4;generalize f.A (.L Lm)=st4 at Z K4 ⊢;refine FO (m:=6) (O.ex Z) (rq E L R e) (M0 _ _) (M0 _ _) λst5 j g5 F5 hj=>?_;obtain⟨o,m,V,S⟩:∃(o:a7 a6)(m:a6),Lm[j]?=a0 (.B [.str o,iD m])/\((o=[102]/\m=2)\/(o=[103]/\m=3)\/(o=[97]/\m=1)\/(o=[122]/\m=2)):=by
   rcases(show j=0\/j=1\/j=2\/j=3\/j=4\/j=5 by exact rN hj)with rfl|rfl|rfl|rfl|rfl|rfl
   .exact Q6 [102] 2 rfl (.inl ⟨rfl,rfl⟩)
   .exact Q6 [103] 3 rfl (.inr (.inl ⟨rfl,rfl⟩))
   .exact Q6 [102] 2 rfl (.inl ⟨rfl,rfl⟩)
   .exact Q6 [103] 3 rfl (.inr (.inl ⟨rfl,rfl⟩))
   .exact Q6 [97] 1 rfl (.inr (.inr (.inl ⟨rfl,rfl⟩)))
   .exact Q6 [122] 2 rfl (.inr (.inr (.inr ⟨rfl,rfl⟩)))
  have A:m<=3:=by rcases S with q|q|q|q<;>(rw[q.2];decide)
  have L5:=(L3.ex Z).fr g5 (C8 g);exists(AX (K4.fr g5 (by ext o0 O h h h q h;have:=q.1;exact fz this hka:ka≠2)) (m9 (j7 hj (by decide))) V),Et,Y,L5.I,L5.kind,X9,rfl;rw[g0 ⟨by solve_by_elim (maxDepth:=2)only[*,j7],Fe (b6 A (by decide))⟩];refine CS (nx:=λi=>.range i m) (xs:=(p0 m).map iD) (I:=λi d B=>Fm (λb=>b=2) st5 d/\V4 d (z+1+i)/\∃w:a7 a6,B=w.map sD/\w.length=i/\∀c∈w,Ji c) (λi d B E hI=>GP (by simpa using E)) ?_ ?_ ⟨Fm.refl _,F5,[],rfl,rfl,λc y=>by cases y⟩
  .rintro i' x' C B kk' hx' z2 hkk;ext1 z2 g6 F6 p;ext y3 p w rfl t v;have T:i'<m:=by have:=x0 hx';simpa using this
   exists X,rfl;refine FO (m:=4) F6 (vq R L e E A T) (M0 _ _) (M0 _ _) λU c g7 F7 y=>?_;obtain⟨l,J,hl⟩:∃l:a6,J9 (q8 "xyzw") (iD c) U=a0 (sD l)/\Ji l:=by
    rcases(show c=0\/c=1\/c=2\/c=3 by exact wh y)with rfl|rfl|rfl|rfl
    .exact d0 120 rfl (.inl rfl)
    .exact d0 121 rfl (.inr (.inl rfl))
    .exact d0 122 rfl (.inr (.inr (.inl rfl)))
    .exact d0 119 rfl (.inr (.inr (.inr rfl)))
   exists 0,J;refine⟨by rw[f7];exact t▸b6 (m9 T) (b6 A (by decide)),hkk _ _ ⟨g6.trans g7,F7,w++[l],by rw[p9];rfl,by rw[u7,t];rfl,λc y=>?_⟩⟩;rcases v4 y with y|y
   .exact v c y
   .rw[o9]at y;rw[y];exact hl
  .rintro C B z3;ext1 z3 g6 F6 p;ext y3 p w rfl t v;rw[f7,Br]at t F6;exists 0;let x7:=Ex.A C (.L (w.map sD));let N7:=d6.new C (w.map sD);generalize C.A (.L (w.map sD))=U at x7 N7 ⊢;let L7:=(L5.fr g6 (C8 g)).ex x7;exists(EC N7),L7.kind,rfl;rw[Bg L7 (by rw[f7];exact pu E L n)];exists 0;refine(hk1 _ _ ⟨(W.trans ((Fm.ex Z).trans ((g5.mono λb h q=>.inl q).trans ((g6.mono λb h q=>.inl q).trans (Fm.ex x7))))).trans (Fm.set (.inr rfl)),by exact X,by exact Y,ats++[(o,w)],z+1+m,?_,by rw[u7,n];rfl,λa D=>?_,?_,gj A e⟩).1
   .rw[p9];exact d6.U L7.1
   .rcases v4 D with D|D
    .exact u a D
    .rw[o9]at D;subst D;refine⟨?_,v⟩;rw[t];exact S
   .refine(F6.ex x7).fr (P:=λb=>b=K) (Fm.set rfl) ?_ g;ext o0 F h h q q2 h;have:=q.1;exact wU this H
 .rintro ρ f z4;ext CB z4 W X Y p;ext C7 p ats z L3 n u O e;rw[(by simp:((p0 (1+r)).map iD).length=1+r)]at n e;exists 0,Y;refine hq f K ats z ?_ L3 (A1 ‹_›) O (rK L e) (n▸G3 1 _) (n▸G1 (v0 L) 1) u;refine⟨b6 N.1 W.1,λb hb hp=>(W.2 b (j7 hb N.1) λq=>?_).trans (N.2 b hb)⟩;rcases q with q|q
  .exact hp q
  .exact(m6 hb (q.trans H.symm)).elim
structure Ic (h:HG) (P:a7 (a6×a6)):Prop where
 G:Db h.N
 uf:UF h.N.length h.u.par h.R
 lN:h.u.S.length=h.N.length
 lotm:∀(c:a6)(l:a7 a6),h.u.S[c]?=a0 l->l.Nodup/\(∀n∈l,n<h.N.length)/\(h.R c=c->∀n,n<h.N.length->(n∈l↔h.R n=c))
 lc:Lc h.N P h.R
def Bj(h:HG):a7 a6:=(p0 h.N.length).filter λa=>h.R a==a
theorem fB(H:y7 st h)(S:Ic h P)(c:∀a r,Ex st a->d6 a r ((Bj h).map iD)->Q (.ref r) a):u9 u8 (k+2) "Heap" "classes" [.ref 4] st Q:=by refine D0 (fd:=RI) rfl rfl ?_;delta RI;let d:H9 st (.ref 4) "unions"=a0 (.ref 12):=H.Z.C rfl rfl;exists d,H.uni.Z.I,rfl;exact H.uni.Z.go (xP H.uni S.uf (by let b:=S.G.few;exact p6) c)
theorem xb(H:y7 st h)(S:Ic h P)(i:c<h.N.length)(f:h.R c=c)
 (o:∀a r(d:a7 a6),Ex st a->d6 a r (d.map iD)->d.length<=h.N.length->(∀n,n∈d↔n<h.N.length/\h.R n=c)->Q (.ref r) a):u9 u8 (k+3) "Heap" "members" [.ref 4,iD c] st Q:=by
 refine D0 (fd:=SP) rfl rfl ?_;delta SP;let q:=S.G.few;refine d4 (O0 (l:=h.u.S) (n:=c) (by rw[S.lN];exact i)) λl j=>u0 (S.lotm c l j) λs g m=>?_;let e:=On s g;exists(H.Z.C rfl rfl),H.uni.Z.I,rfl;refine H.uni.Z.go (bh H.uni S.uf p6 S.lN i (by rw[f];exact j) (q5 e (q5 q (by decide))) λa r d x L p=>o a r d x L (by rw[p.length_eq];exact e) λn=>?_);rw[p.mem_iff];exact⟨λb=>⟨g n b,(m f n (g n b)).mp b⟩,λb=>(m f n b.1).mpr b.2⟩theorem LJ(l:a7 Nd):G8 (l.map o4):=by intro x c y d;refine c9 (Y1 c) ?_;clear c;rintro a e rfl;refine c9 (Y1 d) ?_;rintro b e rfl;exact LI a b
theorem fb{α:Type}{f:α->b0}:∀{l:a7 b0},(∀x∈l,∃a,x=f a)->∃m:a7 α,l=m.map f:=by
 intro b
 induction b with
 |nil=>intro i;exact⟨[],rfl⟩
 |cons x l c=>intro h;exact d4 (h x j5) λa d=>d4 (c λy e=>h y (k8 _ e)) λm g=>⟨a::m,by rw[d,g];rfl⟩theorem zJ{α:Type}{f:α->b0}{m:a7 α}(h:(m.map f).Nodup):m.Nodup:=by rw[Bw,Y6]at h;exact TK (h.imp λh e=>h (by rw[e]))
theorem dF{α:Type}{f:α->b0}(p:∀a b,f a=f b->a=b){l:a7 α}(c:G8 (l.map f)):∃m:a7 α,m.Nodup/\(∀a,a∈m↔a∈l)/\y8 (D9 (l.map f))=m.map f/\DI (m.map f)/\m.length<=l.length:=by
 let i:=EX c;let k:=Y2 (D9 (l.map f));obtain⟨m,e⟩:=fb (f:=f) (l:=y8 (D9 (l.map f))) λx n=>by
  let j:=Y1 ((i x).mp (k.mem_iff.mp n));ext1 j a s e;exact⟨a,e.symm⟩
 let d:=zJ (f:=f) (by rw[<-e];exact k.nodup_iff.mpr (GZ c));have g:∀a,a∈m↔a∈l:=λa=>by
  let r:f a∈m.map f↔f a∈l.map f:=by rw[<-e,k.mem_iff];exact i (f a)
  constructor
  .intro h;exact c9 (Y1 (r.mp (V9 h))) λb o q=>p b a q▸o
  .intro h;exact c9 (Y1 (r.mpr (V9 h))) λb o q=>p b a q▸o
 haveI:Ec α:=λa b=>Ea _
 exact GK m d g e (by rw[<-e];exact KW (λx n y t=>c x ((i x).mp n) y ((i y).mp t):G8 (D9 (l.map f)))) (V2 d λa u=>(g a).mp u)
theorem wn(H:y7 st h)(S:Ic h P)(Y:c<h.N.length)(Z:h.R c=c)
 (hq:∀s r(o:a7 Nd),Ex st s->st.n<=r->d6 s r (o.map o4)->o.Nodup->DI (o.map o4)->o.length<=h.N.length->(∀d,d∈o↔∃(n:a6)(nd:Nd),h.N[n]?=a0 nd/\h.R n=c/\d=q6 h.R nd)->Q (.ref r) s):
 u9 u8 (k+4) "Heap" "nodes_of" [.ref 4,iD c] st Q:=by
 refine D0 (fd:=QT) rfl rfl ?_;delta QT;let I:=S.G.few;exists 0,H.Z.I;refine H.Z.go (xb H S Y Z λst1 r D J U B u=>?_);exists(Q4 U),rfl;refine OV (nx:=λi=>.seq (.ref r) i) (xs:=D.map iD) (p:=λw=>a8) (f:=λx=>o4 (q6 h.R ((h.N[t6 x]?).getD ([],[])))) (λi s hi x=>R9 (U.ex x) i) ?_ ?_
 .rintro i x t acc kk q E z hk;refine c9 (Y3 q) ?_;clear q;rintro n K rfl;let g:=(u n).mp (p8 K);ext1 g N hnR;let g:=O0 N;ext1 g nd j;let L:=H.ex (J.trans E);exists L.Z.I,rfl;refine L.Z.go (Yr L S.G S.uf j λC A=>?_);rw[f7]at z;refine⟨by unfold j8;exact b6 z (b6 B (b6 I (by decide))),?_⟩;let e:=hk C A;rw[g0 rfl,O6,j]at e;exact e
 .intro t E;have O:(V1 (λw=>a8) (D.map iD)).map (λx=>o4 (q6 h.R ((h.N[t6 x]?).getD ([],[]))))=(D.map λn=>q6 h.R ((h.N[n]?).getD ([],[]))).map o4:=by rw[Dd λw w=>rfl,v9,v9];refine A2 λn w=>(?_:o4 (q6 h.R ((h.N[t6 (iD n)]?).getD ([],[])))=_);rw[O6];rfl
  rw[O];refine N5 (D.map λn=>q6 h.R ((h.N[n]?).getD ([],[]))) λl z=>?_;have v:l.length<=h.N.length:=by rw[<-z,f7];exact B
  have R:∀d,d∈l↔∃(n:a6)(nd:Nd),h.N[n]?=a0 nd/\h.R n=c/\d=q6 h.R nd:=λd=>by
   rw[<-z,Fq];constructor
   .rintro V;ext c9 V n K rfl;let g:=(u n).mp K;ext1 g F M;let g:=O0 F;ext1 g nd j;exact E8 n nd j M (by rw[j];rfl)
   .rintro W;ext o0 W n nd F M rfl;exact d0 n ((u n).mpr ⟨(x0 F),M⟩) (by rw[F];rfl)
  refine Lv (dF (λa b=>Lp) (LJ l)) λm m1 m2 m3 m4 m5=>?_;exists 0;let X:=d6.new t (l.map o4);let A:=Ex.A t (.L (l.map o4));generalize t.A (.L (l.map o4))=C at X A ⊢;let T:C1 (D9 (l.map o4))=a8:=by
   let G:=EX (LJ l);haveI:Ec b0:=λa b=>Ea _
   unfold C1;simp only[C2,C3];refine⟨⟨?_,Hn λx q y hy=>LJ l x ((G x).mp q) y ((G y).mp hy)⟩,Cw λx q=>?_⟩
   .let e:=V2 (GZ (LJ l)) λx q=>(G x).mp q;rw[f7]at e;exact q5 e (q5 v (q5 I (by decide)))
   .refine c9 (Y1 ((G x).mp q)) ?_;clear q;rintro a w rfl;rfl
  rw[TV X (LJ l) (by rw[f7];exact gA I v rfl) T,m3];exists 0;exact hq _ _ m ((J.trans E).trans (A.trans (Ex.A _ _))) ((J.trans E).trans A).1 (d6.new _ _) m1 m4 (b6 m5 v) λd=>(m2 d).trans (R d)abbrev Bp:=a7 a6×a6
abbrev Tb:=Bp×a6×a7 (a7 a6)abbrev Ev:=Bp×a7 a6
def AR(k:Bp):b0:=.B [.str k.1,iD k.2]theorem gY(h:AR a=AR b):a=b:=by unfold AR at h;injection h with h;injection h with h1 h2;injection h1 with h1;injection h2 with h2 _;exact EP h1 (EE h2)theorem uV(a b:Bp):o3 3 (AR a) (AR b)=a8:=rfl
def Bb(l:a7 Tb):a7 (b0×b0):=l.map λt=>(AR t.1,.ref t.2.1)def E9(ev:a7 Ev)(k:Bp):a7 (a7 a6):=(ev.filter λe=>e.1==k).map (·.2)def G0(c:a6)(d:Nd):Ev:=((d.1,d.2.length+1),c::d.2)
structure Cn (st:St) (rd lo:a6) (tbs:a7 Tb) (ev:a7 Ev):Prop where
 dict:∃ep,m7 st rd (Bb tbs) ep
 keys:(tbs.map (·.1)).Nodup
 adrs:(tbs.map (·.2.1)).Nodup
 cell:∀t∈tbs,lo<=t.2.1/\t.2.1≠rd/\d6 st t.2.1 (t.2.2.map m8)/\t.2.2=E9 ev t.1
 has:∀e∈ev,e.1∈tbs.map (·.1)
 few:tbs.length<=ev.length
theorem Cn.ex(T:Cn st rd lo tbs ev)(x:Ex st st'):Cn st' rd lo tbs ev where
 dict:=d4 T.dict λe h=>⟨e,h.ex x⟩
 keys:=T.keys
 adrs:=T.adrs
 cell:=λt f=>CB (T.cell t f) λa b c d=>(M3 a b (c.ex x) d)
 has:=T.has
 few:=T.few
theorem TM(l:a7 Tb)(k:Bp):v8 (Bb l) (AR k)=a8:=by unfold v8 Bb;simp only[C2,V8,Fq];refine⟨rfl,?_⟩;rintro e a;ext c9 a x b rfl;rfl
theorem gZ(b:(l.map (·.1)).Nodup)(c:t∈l):t4 (Bb l) (AR t.1)=a0 (.ref t.2.1):=by refine Kt (uV _ _) ?_ (B9 c rfl);unfold Bb;rw[v9];let a:(Bt ∘ λ(t:Tb)=>(AR t.1,b0.ref t.2.1))=AR ∘ λt=>t.1:=rfl;rw[a,<-v9,Bw,Y6];exact(BN b).imp λh e=>h (gY e)theorem aD(h:k∉l.map (·.1)):t4 (Bb l) (AR k)=b4:=by refine IW λe b c=>?_;ext A8 b x d rfl;exact h (gY c▸(B9 (a:=x) d rfl))
theorem Oq(ev:a7 Ev)(e:Ev)(k:Bp):E9 (ev++[e]) k=E9 ev k++(if e.1=k then[e.2]else[]):=by
 unfold E9;rw[Qx,p9];congr 1;rw[DM];by_cases h:e.1=k
 .rw[g0 (by simpa using h),g0 h];rfl
 .rw[j4 (by simpa using h),j4 h];rfl
theorem gl(ev:a7 Ev)(k:Bp):(E9 ev k).length<=ev.length:=by unfold E9;rw[f7];exact DN _ _
def YT:a7 S:=[.xE (.m (.m (.C (.a "self") "rows") "setdefault" (.cons (.B (.cons (.sub (.a "node") (.e (.int 0))) (.cons (.bi .len (.cons (.a "node") .nil)) .nil))) (.cons (.L .nil) .nil))) "append" (.cons (.bin .add (.B (.cons (.a "c") .nil)) (.from (.a "node") (.e (.int 1)))) .nil))]
theorem gv(T:Cn st rd lo tbs ev)(hlo:lo<=st.n)(K:ev.length<=900)(h2:nd.2.length<=2)(I:v3 st ta "Tables" te [("rows",.ref rd)])
 (r1:ρ "self"=a0 (.ref ta))(R:ρ "node"=a0 (o4 nd))(r3:ρ "c"=a0 (iD c))
 (hk:∀l F,Fm (λb=>b=rd\/b∈tbs.map (·.2.1)) st l->Cn l rd lo F (ev++[G0 c nd])->(∀t∈F,t.2.1∈tbs.map (·.2.1)\/st.n<=t.2.1)->kk .next ρ l):G6 C YT ρ st kk:=by
 simp only[YT];refine d4 T.dict λep D=>?_;let e1:H9 st (.ref ta) "rows"=a0 (.ref rd):=I.C rfl rfl;let e2:J9 (o4 nd) (.int 0) st=a0 (.str nd.1):=BR (i:=0) (F9 _) rfl;let e3:M4 .len [o4 nd] st=a0 (iD (nd.2.length+1),st):=by let this:=GD (st:=st) (xs:=b0.str nd.1::nd.2.map iD) (by rw[N9,f7];exact Ca);rw[N9,f7]at this;exact this
 exists r1,R,e1,D.I,D.kind,HZ,e2,e3,rfl;let A:=Ex.A st (.L []);let N1:=d6.new st [];generalize B:st.n=p at N1;generalize st.A (.L [])=n at A N1 ⊢;have S:=D.ex A;have T1:=T.ex A;let Y:(.B [.str nd.1,iD (nd.2.length+1)]:b0)=AR (G0 c nd).1:=rfl;rw[S.kind,Y];refine⟨rfl,?_⟩;let f:∀l,V3 .add (.B [iD c]) (.B (nd.2.map iD)) l=a0 (m8 (G0 c nd).2,l):=λl=>IS (xs:=[iD c]) (by rw[f7];simp;exact b6 (G1 h2 1) (by decide));let G:=T.few;by_cases o:(G0 c nd).1∈tbs.map (·.1)
 .refine A8 o λt O L=>?_;rw[<-L,KZ S (TM _ _) (by unfold Bb;rw[f7];exact gA K G rfl) (gZ T.keys O)];let g:=T1.cell t O;ext1 g q1 q2 J q4;exists J.I,J.kind,X9,r3,R,(De (nd:=nd) (show nd.2.length<=100 by exact p6)),f,rfl;(try exists 0,J.I,J.kind,X9,r3,R,(De (nd:=nd) (show nd.2.length<=100 by exact p6)),f);rw[Bg J (by rw[f7,q4];let this:=gl ev t.1;exact gA K this rfl:(t.2.2.map m8).length<=1000)];exists 0;let m:Fm (λb=>b=t.2.1) n (n.set t.2.1 (.L (t.2.2.map m8++[m8 (G0 c nd).2]))):=Fm.set rfl;let y:d6 (n.set t.2.1 (.L (t.2.2.map m8++[m8 (G0 c nd).2]))) t.2.1 (t.2.2.map m8++[m8 (G0 c nd).2]):=d6.U J.1;revert m y;refine gen (n.set t.2.1 (.L (t.2.2.map m8++[m8 (G0 c nd).2]))) λh m y=>?_;let M:∀s:Tb,(if s.1=t.1 then(s.1,s.2.1,s.2.2++[(G0 c nd).2])else s).1=s.1:=λs=>by
   by_cases q:s.1=t.1
   .rw[g0 q]
   .rw[j4 q]
  have E:∀s:Tb,(if s.1=t.1 then(s.1,s.2.1,s.2.2++[(G0 c nd).2])else s).2.1=s.2.1:=λs=>by
   by_cases q:s.1=t.1
   .rw[g0 q]
   .rw[j4 q]
  let N:(tbs.map λs:Tb=>if s.1=t.1 then(s.1,s.2.1,s.2.2++[(G0 c nd).2])else s).map (λs:Tb=>s.1)=tbs.map λs:Tb=>s.1:=by rw[v9];exact A2 λs w0=>M s
  let V:(tbs.map λs:Tb=>if s.1=t.1 then(s.1,s.2.1,s.2.2++[(G0 c nd).2])else s).map (λs:Tb=>s.2.1)=tbs.map λs:Tb=>s.2.1:=by rw[v9];exact A2 λs w0=>E s
  refine hk h (tbs.map λs=>if s.1=t.1 then(s.1,s.2.1,s.2.2++[(G0 c nd).2])else s) ((Fm.ex A).trans (m.mono λb w0 q=>.inr (by rw[q];exact B9 (a:=t) O rfl))) ⟨⟨ep,?_⟩,by rw[N];exact T.keys,by rw[V];exact T.adrs,?_,?_,?_⟩ ?_
  .let this:Bb (tbs.map λs=>if s.1=t.1 then(s.1,s.2.1,s.2.2++[(G0 c nd).2])else s)=Bb tbs:=by unfold Bb;rw[v9];refine A2 λs w0=>?_;dsimp only[HV];rw[M,E]
   rw[this];exact S.fr m (C8 q2)
  .intro s' u;refine B5 u ?_;rintro s d;let g:=T1.cell s d;ext1 g p1 U p3 p4;by_cases q:s.1=t.1
   .let hst:s=t:=by refine d4 (N2 d) λi r=>?_;ext d4 r hi v;refine d4 (N2 O) λj r=>?_;ext d4 r hj w;let this:=Ef T.keys (by rw[o7,v5 hi,v,<-q];rfl:(tbs.map (·.1))[i]?=a0 t.1) (by rw[o7,v5 hj,w];rfl:(tbs.map (·.1))[j]?=a0 t.1);subst this;rw[<-v,w]
    clear O q1 q2 J q4 m M E N V u q;subst hst;rw[g0 rfl];refine M3 p1 U ?_ ?_
    .dsimp only;rw[p9];exact y
    .refine(?_:s.2.2++[(G0 c nd).2]=E9 (ev++[G0 c nd]) s.1);rw[Oq,g0 L.symm,<-p4]
   .rw[j4 q];refine M3 p1 U (p3.fr m λx=>?_) ?_
    .refine d4 (N2 d) λi r=>?_;ext d4 r hi v;refine d4 (N2 O) λj r=>?_;ext d4 r hj w;let this:=Ef T.adrs (by rw[o7,v5 hi,v,<-x];rfl:(tbs.map (·.2.1))[i]?=a0 t.2.1) (by rw[o7,v5 hj,w];rfl:(tbs.map (·.2.1))[j]?=a0 t.2.1);subst this;rw[<-v,w]at q;exact q rfl
    .rw[Oq,j4 λx=>q (by rw[L];exact x.symm),Y5];exact p4
  .intro e k;rw[N];rcases v4 k with k|k
   .exact T.has e k
   .rw[o9]at k;subst k;exact o
  .rw[f7,u7];simp;exact U6 ‹_›
  .intro s' u;ext B5 u s d;rw[E];exact .inl (B9 (a:=s) d rfl)
 .rw[KB S (TM _ _) (by unfold Bb;rw[f7];exact gA K G rfl) (aD o)];exists 0;let hna1:=N1.1;have hrn:rd<p:=by rw[<-B];exact D.1
  generalize W:n.set rd (.D (Bb tbs++[(AR (G0 c nd).1,.ref p)]) (ep+1))=h;have m:Fm (λb=>b=rd) n h:=by rw[<-W];exact Fm.set rfl
  have y:=N1.fr m (L0 ‹_›);exists y.I,y.kind,X9,r3,R,(De (nd:=nd) (show nd.2.length<=100 by exact p6)),f,rfl;(try exists 0,y.I,y.kind,X9,r3,R,(De (nd:=nd) (show nd.2.length<=100 by exact p6)),f);rw[Bg y (by decide)];exists 0;let Q:Fm (λb=>b=p) h (h.set p (.L [m8 (G0 c nd).2])):=Fm.set rfl;let N3:d6 (h.set p (.L [m8 (G0 c nd).2])) p [m8 (G0 c nd).2]:=d6.U y.1;revert Q N3;refine gen (h.set p (.L [m8 (G0 c nd).2])) λX Q N3=>?_;let Z:Fm (λb=>b=rd\/b∈tbs.map (·.2.1)) st X:=by let this:=A.fm m (st:=st) (P:=λb=>b=rd);refine⟨b6 A.1 (b6 m.1 Q.1),λb z hp=>?_⟩;rw[Q.2 b (j7 z (b6 A.1 m.1)) (m6 (j7 z (A1 B))),m.2 b (j7 z A.1) λq=>hp (.inl q),A.2 b z]
  have H:∀s∈tbs,s.2.1<p:=λs d=>by
   let this:=(T.cell s d).2.2.1.1;exact Hm this B
  refine hk X (tbs++[((G0 c nd).1,p,[(G0 c nd).2])]) Z ⟨⟨ep+1,?_⟩,?_,?_,?_,?_,?_⟩ ?_
  .let this:Bb (tbs++[((G0 c nd).1,p,[(G0 c nd).2])])=Bb tbs++[(AR (G0 c nd).1,.ref p)]:=by unfold Bb;rw[p9];rfl
   rw[this];exact(by rw[<-W];exact m7.U S.1:m7 h rd (Bb tbs++[(AR (G0 c nd).1,.ref p)]) (ep+1)).fr Q (m6 ‹_›)
  .rw[p9,BM];refine m0 T.keys (by simp) λa ha b z e=>?_;simp only[y4,V7,o9]at z;subst z e;exact o ha
  .rw[p9,BM];refine m0 T.adrs (by simp) λa ha b z e=>?_;simp only[y4,V7,o9]at z;ext A8 ha s d rfl;let this:=H s d;exact(m6 this (e.trans z)).elim
  .intro s d;rcases v4 d with d|d
   .let g:=T1.cell s d;ext1 g p1 U p3 p4;have:=H s d;refine M3 p1 U ((p3.fr m U).fr Q (m6 ‹_›)) ?_;rw[Oq,j4,Y5]
    .exact p4
    .intro q;exact o (by rw[q];exact B9 (a:=s) d rfl)
   .rw[o9]at d;subst d;refine M3 (nw B hlo) (L0 ‹_›) N3 ((?_:[(G0 c nd).2]=E9 (ev++[G0 c nd]) (G0 c nd).1));let h0:E9 ev (G0 c nd).1=[]:=by
     unfold E9;rw[List.filter_eq_nil_iff.mpr]
     .rfl
     .intro e k hq;let this:e.1=(G0 c nd).1:=by simpa using hq
      exact o (by rw[<-this];exact T.has e k)
    rw[Oq,h0,g0 rfl];rfl
  .intro e k;rw[p9];rcases v4 k with k|k
   .exact G2 _ (T.has e k)
   .rw[o9]at k;subst k;exact K6 _ P8
  .rw[u7,u7];simp;assumption
  .intro s d;rcases v4 d with d|d
   .exact .inl (B9 (a:=s) d rfl)
   .rw[o9]at d;subst d;exact .inr (A1 ‹_›)def GY(ev:a7 Ev):Prop:=ev.Pairwise λa b=>a.1=b.1->a.2≠b.2/\r9 (m8 b.2) (m8 a.2)=c8
def Zd(nodes:a7 Nd)(R:a6->a6)(c:a6)(d:Nd):Prop:=∃(n:a6)(nd:Nd),nodes[n]?=a0 nd/\R n=c/\d=q6 R nd
theorem y7.own_lt(H:y7 st h)(j:h.own b):b<st.n:=by
 rcases j with q|q|q
 .let a:=H.n23;exact q5 q.2 (j7 (by decide) a)
 .refine d4 (N2 q) λi d=>?_;ext d4 d f rfl;let c:=O0 (l:=h.u.S) (n:=i) (by rw[<-H.uni.len];exact f);ext1 c l g;exact(H.uni.lot i _ l (v5 f) g).1
 .refine B5 q ?_;rintro e k;exact(H.abl e k).2.2.1
theorem tg(h:c'<c):r9 (m8 (c::l)) (m8 (c'::l'))=c8:=by refine(?_:(if l3 (iD c) (iD c')then U9 (l.map iD) (l'.map iD)else r9 (iD c) (iD c'))=c8);rw[QX,j4 (by simp;exact L0 h),aC];simp;exact m9 h
theorem wL(h:r9 (o4 (o,l)) (o4 (o,l'))=c8):r9 (m8 (c::l)) (m8 (c::l'))=c8:=by have a:(if l3 (.str o) (.str o)then U9 (l.map iD) (l'.map iD)else r9 (.str o) (.str o))=c8:=h;rw[(by refine(?_:(o==o)=a8);simp:l3 (.str o) (.str o)=a8),g0 rfl]at a;refine(?_:(if l3 (iD c) (iD c)then U9 (l.map iD) (l'.map iD)else r9 (iD c) (iD c))=c8);rw[QX,g0 (by simp)];exact a
theorem ni(H:y7 st h)(S:Ic h P)(I:v3 st ta "Tables" te [])(hte:∀b,h.own b->b≠te)(hta:ta≠te)
 (hq:∀p w lo tbs ev,Fm (λb=>b=te) st p->v3 p ta "Tables" te [("rows",.ref w)]->st.n<=w->st.n<=lo->Cn p w lo tbs ev->GY ev->(∀(ky:Bp)l,(ky,l)∈ev↔Z0 h.N h.R ky.1 ky.2 l)->Q .none p):
 u9 u8 (k+5) "Tables" "__init__" [.ref ta,.ref 4] st Q:=by
 refine D0 (fd:=RH) rfl rfl ?_;delta RH;let hN:=S.G.few;exists 0,V7,DZ,AH;let x1:=Ex.A st (.D [] 0);let D1:=m7.new st [] 0;let I1:=I.ex x1;generalize J:st.n=w at D1;generalize st.A (.D [] 0)=st1 at x1 D1 I1 ⊢;exists(I1.set (f:="rows") (v:=.ref w) rfl (by simp)),rfl;refine N5 (st1.set te (.fld [("rows",.ref w)])) λst2 hs2=>?_;have g2:Fm (λb=>b=te) st1 st2:=by rw[<-hs2];exact Fm.set rfl
 have Y:te<w:=by rw[<-J];exact I.2.2.1
 let I2:v3 st2 ta "Tables" te [("rows",.ref w)]:=by rw[<-hs2];exact M3 I1.1 ((j4 hta).trans I1.2.1) I1.2.2.1 (g0 rfl)
 have H2:y7 st2 h:=(H.ex x1).fr g2 hte;exists H2.Z.I,rfl;refine H2.Z.go (fB H2 S λy r x3 L3=>?_);exists(Q4 L3),rfl;have D3:=(D1.fr g2 (L0 Y)).ex x3;have I3:=I2.ex x3;let hrdl:w<y.n:=D3.1;let Z:(Bj h).Pairwise (·<·):=List.pairwise_lt_range.filter _;let hrt:∀c∈Bj h,c<h.N.length/\h.R c=c:=λc G=>by
  let M:=BZ G;ext1 M B h2;exact⟨U7 B,by simpa using h2⟩
 let hrl:(Bj h).length<=h.N.length:=by let this:=DN (λa=>h.R a==a) (p0 h.N.length);rw[Br]at this;exact this
 refine BC (nx:=λi=>.seq (.ref r) i) (xs:=(Bj h).map iD) (I:=λi ρ p=>Fm (λb=>b=w) y p/\ρ "self"=a0 (.ref ta)/\ρ "heap"=a0 (.ref 4)/\r≠w/\
  ∃(tbs:a7 Tb)(ev:a7 Ev),Cn p w y.n tbs ev/\GY ev/\ev.length<=20*i/\(∀e∈ev,∃c d,c∈(Bj h).take i/\e=G0 c d/\Zd h.N h.R c d)/\(∀c d,c∈(Bj h).take i->Zd h.N h.R c d->G0 c d∈ev)) ?_ ?_ ?_ ?_
 .rintro i ρ p hi z1;ext1 z1 g D D hr D;exact R9 (L3.fr g hr) i
 .rintro i x ρ O kk hx z2 hk1 hk2;ext GL z2 g4 r1 r2 hrr m;ext C7 m tbs ev T4 E4 hl4 R E;refine c9 (Y3 hx) ?_;rintro c G rfl;let M:=hrt c (p8 G);ext1 M hcN hcR;have hi:i<(Bj h).length:=x0 G;let nown:∀b,h.own b->b≠w:=λb N=>by
   let this:=H.own_lt N;exact KY this J
  let H4:=(H2.ex x3).fr g4 nown;let hterd:te≠w:=m6 Y;let htard:ta≠w:=by let this:=I.1;exact KY this J
  let I4:=I3.fr g4 htard hterd;exists r2,H4.Z.I,rfl;refine H4.Z.go (wn H4 S hcN hcR λst5 r5 A x5 hr5n L5 hnd hso hnl hnm=>?_);exists(Q4 L5),rfl;let hcn:c∉(Bj h).take i:=λhm=>by
   refine d4 (N2 hm) λj m=>?_;ext d4 m hj T;rw[O9]at hj;have B:(Bj h)[j]?=a0 c:=by rw[JU]at T;rw[<-T,v5 (Ih hj)]
   have:=Ef (iI (λh=>m6 h) Z) B G;exact u6 this (m6 (Hh hj))
  let hlow:∀c'∈(Bj h).take i,c'<c:=λc' hm=>by
   refine d4 (N2 hm) λj m=>?_;ext d4 m hj T;rw[O9]at hj;rw[JU]at T;let this:=List.pairwise_iff_getElem.mp Z j i (Ih hj) hi (Hh hj);rw[T]at this;let hci:(Bj h)[i]=c:=by rw[v5 hi]at G;exact C5 G
   rwa [hci]at this
  have htk:(Bj h).take (i+1)=(Bj h).take i++[c]:=by rw[Ak,G];rfl
  refine BC (nx:=λj=>.seq (.ref r5) j) (xs:=A.map o4) (I:=λj ρ p=>ρ "self"=a0 (.ref ta)/\ρ "heap"=a0 (.ref 4)/\ρ "c"=a0 (iD c)/\
   ∃(tbs:a7 Tb)(U:a7 Ev),Fm (λb=>b=w\/y.n<=b) y p/\d6 p r5 (A.map o4)/\(∀t∈tbs,t.2.1≠r5)/\O.n<=p.n/\Cn p w y.n tbs (ev++U)/\GY (ev++U)/\U.length<=j/\(∀e∈U,∃d,d∈A.take j/\e=G0 c d)/\(∀d∈A.take j,G0 c d∈U)) (λj ρ p hj hI=>by
    ext1 hI D D D m;ext o0 m D D D L D;exact R9 L j) ?_ ?_ ?_
  .rintro j x ρ' st6 kk' hx z3 hk1' hk2';ext CB z3 s1 s2 s3 m;ext Lg m tbs6 ev6 g6 L6 ha6 hn6 T6 E6 m;ext u0 m V K F;rw[o7,Av]at hx;ext c9 hx d hd rfl;refine o0 ((hnm d).mp (p8 hd)) ?_;rintro n s hnn hnc rfl;have hstep:=gv (C:=u9 u8 (k+4)) (c:=c) (nd:=q6 h.R s) (ρ:=ρ'.set "node" (o4 (q6 h.R s))) (kk:=kk') T6 (b6 g6.1 (l8 _)) (by rw[u7];have:j<A.length:=x0 hd;exact tQ hN hrl hl4 hi hnl V this) (by refine(?_:(s.2.map h.R).length<=2);rw[f7];exact(S.G.op s (p8 hnn)).2) (I3.fr g6 (by have:=I3.1;exact λh=>h.elim htard (WP this)) (by have:=I3.2.2.1;exact λh=>h.elim hterd (WP this))) s1 rfl s3
    (λst7 tbs7 g7 T7 ha7=>?_)
   .exact hstep
   .have hr6:r5<st6.n:=L6.1;refine(hk1' _ _ ⟨by exact s1,by exact s2,by exact s3,tbs7,ev6++[G0 c (q6 h.R s)],g6.trans (g7.mono λb D q=>?_),L6.fr g7 λq=>?_,λt z e=>?_,b6 hn6 g7.1,by rw[<-Eb];exact T7,?_,by rw[u7];simp;exact V,λe u=>?_,λd hd'=>?_⟩).1
    .rcases q with q|q
     .exact .inl q
     .ext B5 q t z;exact .inr (T6.cell t z).1
    .rcases q with q|q
     .exact(U4 _ (j7 (by refine d4 T4.dict λD q=>?_;exact q.1:w<O.n) (q▸hr5n))).elim
     .exact A8 q λt z q=>ha6 t z q
    .rcases ha7 t z with q|q
     .exact A8 q λt' ht' q=>ha6 t' ht' (q.trans e)
     .exact(U4 _ (j7 hr6 (e▸q))).elim
    .
     rw[<-Eb];unfold GY;rw[Qs];refine m0 E6 (OZ _ _) λa ha b N hab=>?_;rw[o9]at N;subst N;rcases v4 ha with ha|ha
     .refine o0 (R a ha) ?_;clear hab ha;clear ha;rintro c' d' W rfl D;have X:=hlow c' W;refine⟨λq=>?_,tg X⟩;let this:c'=c:=by injection q
      exact(KJ X this).elim
     .refine c9 (K a ha) ?_;clear ha;clear ha;rintro d' hd' rfl;refine d4 (N2 hd') λt m=>?_;ext d4 m z htd;rw[O9]at z;rw[JU]at htd;let hjl:j<A.length:=x0 hd;let hdj:A[j]=q6 h.R s:=(FN hd).2;let hne:d'≠q6 h.R s:=by rw[<-htd,<-hdj];exact List.pairwise_iff_getElem.mp (BN hnd) t j (Ih z) hjl (Hh z)
      let X:=List.pairwise_iff_getElem.mp hso t j (by rw[f7];exact Ih z) (by rw[f7];exact hjl) (Hh z);rw[nB,nB,htd,hdj]at X;have B:d'.1=(q6 h.R s).1:=(Cz hab).1;refine⟨λq=>hne (EP B ?_),?_⟩
      .let q:c::d'.2=c::(q6 h.R s).2:=q;injection q
      .refine wL (o:=d'.1) ?_;rw[(rfl:(d'.1,d'.2)=d'),(by rw[B]:(d'.1,(q6 h.R s).2)=q6 h.R s)];exact X
    .rcases v4 u with u|u
     .let M:=K e u;ext1 M d hd1 hd2;exact d0 d (by rw[Ak];exact G2 _ hd1) hd2
     .rw[o9]at u;exact d0 _ (by rw[Ak,hd];exact K6 _ (by simp)) u
    .rw[Ak,hd]at hd';rcases v4 hd' with q|q
     .exact G2 _ (F d q)
     .simp at q;rw[q];exact K6 _ P8
  .rintro ρ' st6 z4;ext1 z4 s1 s2 s3 m;ext Lg m tbs6 ev6 g6 L6 ha6 hn6 T6 E6 m;ext1 m V K F;rw[f7,X4]at K F;rw[f7]at V;refine(hk1 _ _ ⟨⟨g6.1,λb N hp=>g6.2 b N λq=>?_⟩,s1,s2,hrr,tbs6,ev++ev6,T6,E6,by rw[u7];exact b6 (U0 hl4 (b6 V (b6 hnl hN))) (l8 _),λe u=>?_,λc' d W u=>?_⟩).1
   .rcases q with q|q
    .exact hp q
    .exact(Lf N q).elim
   .rcases v4 u with u|u
    .exact o0 (R e u) λc' d q1 q2 q3=>E8 c' d (by rw[htk];exact G2 _ q1) q2 q3
    .exact c9 (K e u) λd q1 q2=>E8 c d (by rw[htk];exact K6 _ P8) q2 ((hnm d).mp q1)
   .rw[htk]at W;rcases v4 W with q|q
    .exact G2 _ (E c' d q u)
    .rw[o9]at q;clear G hx hcN hcR hcn hlow htk s3 K W;subst q;exact K6 _ (F d ((hnm d).mpr u))
  .refine⟨r1,r2,rfl,tbs,[],?_,L5,λt z e=>?_,x5.1,by rw[Y5];exact T4.ex x5,by rw[Y5];exact E4,l8 _,(λe u=>by cases u),(λd hd=>by cases hd)⟩
   .exact(g4.mono λb D q=>.inl q).trans (Fm.ex x5)
   .let this:=(λt z=>(T4.cell t z).2.2.1.1:∀t∈tbs,t.2.1<O.n) t z;exact(U4 _ (j7 this (e▸hr5n))).elim
 .rintro ρ O z5;ext GL z5 g4 r1 r2 hrr m;ext C7 m tbs ev T4 E4 hl4 R E;rw[f7,X4]at R E;exists 0;refine hq O w y.n tbs ev ?_ (I3.fr g4 (by let this:=I.1;exact KY this J:ta≠w) (m6 Y)) (ei J) (by let this:=x1.1;let this:=g2.1;let this:=x3.1;exact b6 ‹_› (b6 ‹_› this)) T4 E4 λky l=>?_
  .refine⟨b6 x1.1 (b6 g2.1 (b6 x3.1 g4.1)),λb N hp=>?_⟩;let B:b<st1.n:=j7 N x1.1;let h2:b<st2.n:=j7 B g2.1;rw[g4.2 b (j7 h2 x3.1) (m6 (j7 N (A1 J))),x3.2 b h2,g2.2 b B hp,x1.2 b N]
  .constructor
   .intro hm;refine o0 (R _ hm) λc d D u m=>?_;ext o0 m n s hn G rfl;let he1:ky=(s.1,(s.2.map h.R).length+1):=(Cz u).1;let he2:l=c::s.2.map h.R:=(Cz u).2;rw[f7]at he1;exact⟨n,s,hn,by rw[he1],by rw[he1],by rw[he2,G]⟩
   .rintro z6;ext T0 z6 n s hn B h2 rfl;let hnN:=x0 hn;let hr:h.R n∈Bj h:=by unfold Bj;rw[HD];refine⟨CC (S.uf.ltN hnN),?_⟩;rw[S.uf.iE hnN];simp
    let this:=E (h.R n) (q6 h.R s) hr (E8 n s hn rfl rfl);let e:G0 (h.R n) (q6 h.R s)=(ky,h.R n::s.2.map h.R):=by refine(?_:((s.1,(s.2.map h.R).length+1),h.R n::s.2.map h.R)=_);rw[f7,B,h2]
    rw[e]at this;exact this
 .refine⟨Fm.refl _,rfl,rfl,λe=>?_,[],[],(⟨⟨0,D3⟩,Bz,Bz,(λt z=>by cases z),(λe u=>by cases u),l8 _⟩:Cn y w y.n [] []),Ge,F9 _,(λe u=>by cases u),(λc d G=>by simp at G)⟩;have B:=L3.2;rw[e,D3.2]at B;cases B
theorem hY(I:v3 st ta "Tables" te [("rows",.ref rd)])(T:Cn st rd lo tbs ev)
 (l:∀c a,Ex st c->d6 c a ((E9 ev (o,m)).map m8)->Q (.ref a) c):u9 u8 (k+1) "Tables" "table" [.ref ta,.str o,iD m] st Q:=by
 refine D0 (fd:=Uc) rfl rfl ?_;delta Uc;let b:=T.dict;ext1 b w D;exists(I.C rfl rfl),D.I,D.kind,re,rfl;let f:=Ex.A st (.L []);let n:=d6.new st [];generalize st.A (.L [])=g at f n ⊢;let p:=D.ex f;rw[p.kind];refine⟨rfl,?_⟩;let i:(.B [.str o,iD m]:b0)=AR (o,m):=rfl;exists 0,i,(pv p (TM _ _));by_cases d:(o,m)∈tbs.map (·.1)
 .refine A8 d λt q h=>?_;let b:=(T.ex f).cell t q;ext1 b x y r s;rw[<-h,gZ T.keys q];rw[s,h]at r;exact l g _ f r
 .rw[aD d];refine l g st.n f ?_;let u:E9 ev (o,m)=[]:=by
   unfold E9;rw[List.filter_eq_nil_iff.mpr]
   .rfl
   .intro e v l;let j:e.1=(o,m):=by simpa using l
    exact d (by rw[<-j];exact T.has e v)
  rw[u];exact n
theorem Ls(ev:a7 Ev)(k:Bp)(l:a7 a6):l∈E9 ev k↔(k,l)∈ev:=by
 unfold E9;rw[Fq];constructor
 .rintro c;ext c9 c e d rfl;let b:=BZ d;ext1 b f g;let a:e.1=k:=by simpa using g
  rw[<-a];exact f
 .intro h;exact d0 (k,l) (BH h (by simp)) rfl
theorem Xj(h:GY ev)(k:Bp):(E9 ev k).Nodup/\DI ((E9 ev k).map m8):=by
 let d:(ev.filter λe=>e.1==k).Pairwise λa b=>a.2≠b.2/\r9 (m8 b.2) (m8 a.2)=c8:=by refine Gb ?_ (h.filter _);intro a b f g c;exact c ((by simpa using(Gy f):a.1=k).trans (by simpa using(Gy g):b.1=k).symm)
 constructor
 .unfold E9;rw[Bw,Y6];exact d.imp λh=>h.1
 .unfold E9 DI;rw[v9,Y6];exact d.imp λh=>h.2
theorem OK(l:a7 (a7 a6)):G8 (l.map m8):=by intro x c y d;ext B5 c a e;ext B5 d b e;exact SN a b
theorem ov{ev:a7 Ev}(h:GY ev){k:Bp}{c:a7 (a7 a6)}(e:c.Nodup)(f:∀l,l∈c↔(k,l)∈ev):y8 (c.map m8)=(E9 ev k).map m8:=by let d:=Xj h k;ext1 d g i;refine TU (λa j b m=>OK c a ((Y2 _).mem_iff.mp j) b ((Y2 _).mem_iff.mp m)) ?_ (KW (OK c)) i;exact(Y2 _).trans (yz _ (KU e g λl=>by rw[f l,Ls]))
structure Ia (st:St) (ja je ta te rd lo:a6) (tbs:a7 Tb) (ev:a7 Ev):Prop where
 j:∃cr,v3 st ja "Joins" je [("tables",.ref ta),("classes",.ref cr)]
 t:v3 st ta "Tables" te [("rows",.ref rd)]
 T:Cn st rd lo tbs ev
 E:GY ev
theorem Ia.ex(J:Ia st ja je ta te rd lo tbs ev)(x:Ex st st'):Ia st' ja je ta te rd lo tbs ev:=
 ⟨d4 J.j λa h=>⟨a,h.ex x⟩,J.t.ex x,J.T.ex x,J.E⟩
theorem kh(H:y7 st h)(S:Ic h P)(I:v3 st ja "Joins" je [])(N:∀b,h.own b->b≠je)(x:ja≠je)
 (hq:∀o ta te C D e s,Fm (λb=>b=je) st o->Ia o ja je ta te C D e s->(∀(K:Bp)l,(K,l)∈s↔Z0 h.N h.R K.1 K.2 l)->Q .none o):
 u9 u8 (k+6) "Joins" "__init__" [.ref ja,.ref 4] st Q:=by
 refine D0 (fd:=Rt) rfl rfl ?_;delta Rt;exists H.Z.I,rfl;refine H.Z.go (fB H S λy r u L1=>?_);let E:=I.ex u;exists(E.set (f:="classes") (v:=.ref r) rfl (by decide)),rfl;refine N5 (y.set je (.fld [("classes",.ref r)])) λa z=>?_;have F:Fm (λb=>b=je) y a:=by rw[<-z];exact Fm.set rfl
 have L:v3 a ja "Joins" je [("classes",.ref r)]:=by rw[<-z];exact M3 E.1 ((j4 x).trans E.2.1) E.2.2.1 (g0 rfl)
 have U:y7 a h:=(H.ex u).fr F N;let m:=(Ex.A a (.fld [])).trans (Ex.A (a.A (.fld [])) (.I "Tables" a.n));let M:v3 ((a.A (.fld [])).A (.I "Tables" a.n)) (a.n+1) "Tables" a.n []:=by refine M3 (B8 _) (g0 rfl) (N8 _) ((?_:(if a.n=a.n+1 then _ else if a.n=a.n then _ else _)=_));rw[j4 cR,g0 rfl]
 let g:((a.A (.fld [])).A (.I "Tables" a.n)).n=a.n+2:=rfl;revert m M g;refine gen ((a.A (.fld [])).A (.I "Tables" a.n)) λst3 m M g=>?_;refine ni (U.ex m) S M (λb G=>by let this:=U.own_lt G;exact m6 ‹_›) fG λA C D e s J I4 O R p E4 T=>?_;have c:je<a.n:=L.2.2.1;let hjan:=L.1;have i:=(L.ex m).fr J (m6 ‹_›) (m6 ‹_›);exists rfl;exists 0,(i.set (f:="tables") (v:=.ref (a.n+1)) rfl (M7 _));refine N5 (A.set je _) λj B=>?_;have w:Fm (λb=>b=je) A j:=by rw[<-B];exact Fm.set rfl
 let I5:v3 j ja "Joins" je [("tables",.ref (a.n+1)),("classes",.ref r)]:=by rw[<-B];exact M3 i.1 ((j4 x).trans i.2.1) i.2.2.1 (g0 rfl)
 let T5:Cn j C D e s:=by
  refine⟨?_,p.keys,p.adrs,λt ht=>?_,p.has,p.few⟩
  .let d:=p.dict;ext1 d ep q;exact⟨ep,q.fr w (L0 (j7 c (b6 (g▸G3 _ 2) O)))⟩
  .let d:=p.cell t ht;ext1 d V q2 q3 q4;exact M3 V q2 (q3.fr w (vU c g R V)) q4
 refine hq j (a.n+1) a.n C D e s ?_ ⟨⟨r,I5⟩,I4.fr w (Nz c) (L0 ‹_›),T5,E4⟩ T;refine⟨b6 u.1 (b6 F.1 (b6 m.1 (b6 J.1 w.1))),λb G W=>?_⟩;let X:=j7 G u.1;let Y:=j7 X F.1;let Z:=j7 Y m.1;rw[w.2 b (j7 Z J.1) W,J.2 b Z (m6 ‹_›),m.2 b Y,F.2 b X W,u.2 b G]
def EZ:a7 a6->a7 a6->j0 a6
 |[],[v]=>a0 v
 |x::p,y::q=>if x=y then EZ p q else b4
 |_,_=>b4
theorem Jc:∀{p q:a7 a6}{v:a6},EZ p q=a0 v↔q=p++[v]
 |[],[],v=>⟨nofun,nofun⟩
 |[],[w],v=>⟨λh=>t0 (λx=>[x]) (C5 h),λh=>t0 a0 (Gg h).1⟩
 |[],w::a::q,v=>⟨nofun,nofun⟩
 |x::p,[],v=>⟨nofun,nofun⟩
 |x::p,y::q,v=>by
  refine(?_:(if x=y then EZ p q else b4)=a0 v↔_);by_cases h:x=y
  .rw[g0 h,Jc,h];simp
  .rw[j4 h];constructor
   .intro e;cases e
   .intro e;have b:=(Gg e).1;exact(h b.symm).elim
def Aa(ps:a7 (a7 a6))(p:a7 a6):a7 a6:=ps.filterMap (EZ p)
theorem Gz:v∈Aa ps p↔p++[v]∈ps:=by
 unfold Aa;rw[Wd];constructor
 .rintro a;ext1 a q b e;rw[<-Jc.mp e];exact b
 .intro h;exact d0 _ h (Jc.mpr rfl)theorem so(ps:a7 (a7 a6))(q p:a7 a6):Aa (ps++[q]) p=Aa ps p++(EZ p q).toList:=by unfold Aa;rw[a7.filterMap_append];congr 1
theorem eQ(h:b.Nodup)(p:a7 a6):(Aa b p).Nodup:=by
 induction b with
 |nil=>exact Bz
 |cons q b c=>
  rw[Ax]at h;unfold Aa;rw[Ht];cases e:EZ p q with
  |none=>exact c h.2
  |some v=>rw[Ax];refine⟨λd=>h.1 ?_,c h.2⟩;let a:=Gz.mp d;rw[Jc.mp e];exact a
theorem dQ(ps:a7 (a7 a6))(p:a7 a6):(Aa ps p).length<=ps.length:=lT _ _
def As(ps:a7 (a7 a6))(ad:a7 a6->a6)(p:a7 a6):a7 (b0×b0):=(Aa ps p).map λv=>(iD v,.ref (ad (p++[v])))theorem Uk(ps:a7 (a7 a6))(b:a7 a6->a6)(p:a7 a6)(v:a6):v8 (As ps b p) (iD v)=a8:=by unfold v8 As;simp only[C2,V8,Fq];refine⟨rfl,?_⟩;rintro e a;ext c9 a x c rfl;rfl
theorem dR(c:ps.Nodup)(h:p++[v]∈ps):t4 (As ps ad p) (iD v)=a0 (.ref (ad (p++[v]))):=by refine Kt (Kd _ _ _) ?_ (B9 (a:=v) (Gz.mpr h) rfl);unfold As;rw[v9];let b:(Bt ∘ λ(v:a6)=>(iD v,b0.ref (ad (p++[v]))))=iD:=rfl;rw[b,Bw,Y6];exact(BN (eQ c p)).imp λh e=>h (EE e)theorem fh(h:p++[v]∉ps):t4 (As ps ad p) (iD v)=b4:=by refine IW λe b c=>?_;ext A8 b x d rfl;let a:=EE c;clear c;subst a;exact h (Gz.mp d)
structure Cb (st:St) (ps:a7 (a7 a6)) (ad:a7 a6->a6) (lo:a6):Prop where
 root:[]∈ps
 nd:ps.Nodup
 up:∀p v,p++[v]∈ps->p∈ps
 cell:∀p∈ps,∃ep,m7 st (ad p) (As ps ad p) ep
 inj:∀p∈ps,∀q∈ps,ad p=ad q->p=q
 lo:∀p∈ps,lo<=ad p
theorem Cb.ex{st:St}{ps:a7 (a7 a6)}{a:a7 a6->a6}{lo:a6}(T:Cb st ps a lo)(x:Ex st st'):Cb st' ps a lo:=
 ⟨T.root,T.nd,T.up,λp b=>d4 (T.cell p b) λc h=>⟨c,h.ex x⟩,T.inj,T.lo⟩
theorem Cb.put{st:St}{ps:a7 (a7 a6)}{f:a7 a6->a6}{lo:a6}{p:a7 a6}{v:a6}(T:Cb st ps f lo)(o:p∈ps)(u:p++[v]∉ps)(N:m7 st na [] ep)(m:∀q∈ps,f q≠na)(y:lo<=na):
 Cb (st.set (f p) (.D (As ps f p++[(iD v,.ref na)]) ep')) (ps++[p++[v]]) (λq=>if q=p++[v]then na else f q) lo:=by
 let l:=T.cell p o;ext1 l H D;let z:p≠p++[v]:=λe=>by simpa using t0 CL e
 let g:Fm (λb=>b=f p) st (st.set (f p) (.D (As ps f p++[(iD v,.ref na)]) ep')):=Fm.set rfl;let B:m7 (st.set (f p) (.D (As ps f p++[(iD v,.ref na)]) ep')) (f p) (As ps f p++[(iD v,.ref na)]) ep':=m7.U D.1;generalize st.set (f p) (.D (As ps f p++[(iD v,.ref na)]) ep')=I at g B;have d:∀q,q∈ps->(if q=p++[v]then na else f q)=f q:=λq c=>j4 (λe:q=p++[v]=>u (e▸c));let s:∀q,(Aa ps q).map (λw=>(iD w,b0.ref (if q++[w]=p++[v]then na else f (q++[w]))))=As ps f q:=λq=>by
  refine A2 λw F=>?_;rw[d _ (Gz.mp F)]
 refine⟨G2 _ T.root,?_,λq w c=>?_,λq c=>?_,λq c x h e=>?_,λq c=>?_⟩
 .rw[BM];refine m0 T.nd (by simp) λa G b C e=>?_;rw[o9]at C;subst C e;exact u G
 .rcases v4 c with c|c
  .exact G2 _ (T.up q w c)
  .rw[o9]at c;let i:=pC c rfl;rw[i];exact G2 _ o
 .let n:As (ps++[p++[v]]) (λq=>if q=p++[v]then na else f q) q=As ps f q++(EZ q (p++[v])).toList.map (λw=>(iD w,b0.ref (if q++[w]=p++[v]then na else f (q++[w])))):=by refine(?_:(Aa (ps++[p++[v]]) q).map (λw=>(iD w,b0.ref (if q++[w]=p++[v]then na else f (q++[w]))))=_);rw[so,p9,s q]
  rw[n];by_cases k:q=p
  .clear o u D g d s c n;subst k;rw[Jc.mpr rfl];rw[j4 z];refine⟨ep',?_⟩;let i:(a0 v).toList.map (λw=>(iD w,b0.ref (if q++[w]=q++[v]then na else f (q++[w]))))=[(iD v,b0.ref na)]:=by simp
   rw[i];exact B
  .let j:EZ q (p++[v])=b4:=by
    cases e:EZ q (p++[v])with
    |none=>rfl
    |some w=>let i:=Jc.mp e;exact(k (pC i rfl).symm).elim
   rw[j];simp only[j0.toList_none,V7,Y5];rcases v4 c with c|c
   .rw[d q c];let l:=T.cell q c;ext1 l A E;exact⟨A,E.fr g λe=>k (T.inj q c p o e)⟩
   .rw[o9]at c;clear n k j;subst c;rw[g0 rfl];let t:As ps f (p++[v])=[]:=by
     unfold As;let i:Aa ps (p++[v])=[]:=by
      cases e:Aa ps (p++[v])with
      |nil=>rfl
      |cons w r=>exact(u (T.up _ _ (Gz.mp (by rw[e];exact j5:w∈Aa ps (p++[v]))))).elim
     rw[i];rfl
    rw[t];exact⟨ep,N.fr g λe=>m p o e.symm⟩
 .rcases v4 c with c|c<;>rcases v4 h with h|h
  .rw[d q c,d x h]at e;exact T.inj q c x h e
  .rw[o9]at h;rw[d q c,h,g0 rfl]at e;exact(m q c e).elim
  .rw[o9]at c;rw[d x h,c,g0 rfl]at e;exact(m x h e.symm).elim
  .rw[o9]at c h;rw[c,h]
 .rcases v4 c with c|c
  .rw[d q c];exact T.lo q c
  .rw[o9]at c;rw[g0 c];exact y
theorem vg{st:St}{k:a6}{N:a7 (a7 a6)}{Q:Q1}(L:d6 st ra (N.map m8))(hl:N.length<=50)(h3:∀r∈N,r.length<=4)
 (A:∀a ps B,Ex st a->Cb a ps B st.n->ps.length<=1+4*N.length->(∀q,q∈ps↔q=[]\/∃r∈N,∃t,t<=r.length/\q=r.take t)->Q (.ref (B [])) a):u9 u8 (k+1) "" "trie_of" [.ref ra] st Q:=by
 refine D0 (fd:=QG) rfl rfl ?_;delta QG;exists V7,DZ,AH,rfl;(try exists 0,V7,DZ,AH);let x1:=Ex.A st (.D [] 0);let D1:=m7.new st [] 0;let H:(st.A (.D [] 0)).n=st.n+1:=rfl;generalize st.A (.D [] 0)=P at x1 D1 H ⊢;let L1:=L.ex x1;exists(Q4 L1),rfl;let T1:Cb P [[]] (λw0=>st.n) st.n:=by
  refine⟨P8,by decide,λp v h=>?_,λp y=>?_,λp y q A w0=>?_,λp w0=>l8 _⟩
  .rw[o9]at h;simp at h
  .rw[o9]at y;subst y;exact⟨0,D1⟩
  .rw[o9]at y A;rw[y,A]
 refine BC (nx:=λi=>.seq (.ref ra) i) (xs:=N.map m8) (I:=λi ρ a=>Fm (λb=>st.n<=b) P a/\ρ "found"=a0 (.ref st.n)/\
  ∃(ps:a7 (a7 a6))(B:a7 a6->a6),Cb a ps B st.n/\B []=st.n/\ps.length<=1+4*i/\∀q,q∈ps↔q=[]\/∃r∈N.take i,∃t,t<=r.length/\q=r.take t) (λi ρ a hi hI=>R9 (L1.fr hI.1 (Nat.not_le.mpr L.1)) i) ?_ ?_
  ⟨Fm.refl _,by exact rfl,[[]],λw0=>st.n,T1,rfl,by decide,λq=>by simp⟩
 .rintro i x ρ R kk V z4 hk1 hk2;ext1 z4 g2 r1 l;ext T0 l ps B W C S E;rw[o7,Av]at V;ext c9 V r hr rfl;let T:=h3 r (p8 hr);exists 0,r1;let hit:BU (m8 r) R=a0 (.seq (m8 r) 0):=rfl;exists hit,rfl;refine BC (nx:=λj=>.seq (m8 r) j) (xs:=r.map iD) (I:=λj ρ a=>Fm (λb=>st.n<=b) P a/\ρ "found"=a0 (.ref st.n)/\
   ∃(F:a7 (a7 a6))(U:a7 a6->a6),ρ "here"=a0 (.ref (U (r.take j)))/\Cb a F U st.n/\U []=st.n/\F.length<=1+4*i+j/\r.take j∈F/\∀q,q∈F↔q∈ps\/∃t,t<=j/\q=r.take t) (λj ρ a hj hI=>Dt j) ?_ ?_
   ⟨g2,by exact r1,ps,B,by exists 0;rw[Gp,C],W,C,by assumption,by rw[Gp];exact W.root,λq=>⟨.inl,λA=>?_⟩⟩
  .rintro j x ρ' w kk' V z5 J hk2';ext1 z5 X s1 l;ext C7 l m s s2 O G o l;ext k9 l z c;refine c9 (Y3 V) ?_;clear V;rintro v hv rfl;refine d4 (O.cell _ z) λep Y=>?_;have u:r.take (j+1)=r.take j++[v]:=by rw[Ak,hv];rfl
   exists s2,Y.I,Y.kind,HZ,V7,DZ,AH,rfl;(try exists 0,s2,Y.I,Y.kind,HZ,V7,DZ,AH);let Z:=Ex.A w (.D [] 0);let N4:=m7.new w [] 0;let K:∀q∈m,s q<w.n:=λq A=>by let zz:=O.cell q A;ext1 zz w0 D;exact D.1
   generalize hna:w.n=na at N4 K;generalize w.A (.D [] 0)=st4 at Z N4 ⊢;let D4:=Y.ex Z;let T4:=O.ex Z;let M:(As m s (r.take j)).length<=1000:=by unfold As;rw[f7];let f:=dQ m (r.take j);exact xK hl (x0 hr) T o (x0 hv) f
   let hlon:st.n<=na:=by let f:=X.1;exact b6 (H▸N8 _) (hna▸f)
   rw[D4.kind];refine⟨rfl,?_⟩;by_cases y:r.take j++[v]∈m
   .rw[KZ D4 (Uk _ _ _ _) M (dR O.nd y)];exists 0;refine(J _ _ ⟨X.trans (Fm.ex Z),by exact s1,m,s,by exists 0;rw[u],T4,G,(U6 ‹_›),by rw[u];exact y,λq=>?_⟩).1;rw[c q];constructor
    .rintro(h|⟨t,g,d⟩)
     .exact .inl h
     .exact .inr (d0 t (U6 ‹_›) d)
    .rintro(h|⟨t,g,d⟩)
     .exact .inl h
     .by_cases ht:t=j+1
      .rw[ht,u]at d;rw[d];exact(c _).mp y
      .exact .inr (d0 t (v0 (DX g ht)) d)
   .rw[KB D4 (Uk _ _ _ _) M (fh y)];exists 0;refine(J _ _ ⟨(X.trans (Fm.ex Z)).trans (Fm.set (O.lo _ z)),by exact s1,m++[r.take j++[v]],λq=>if q=r.take j++[v]then na else s q,by exists 0;rw[u,g0 rfl],(T4.put (v:=v) (ep':=ep+1) z y N4 (λq A=>by let f:=K q A;exact m6 ‹_›) hlon),by refine(?_:(if[]=r.take j++[v]then na else s [])=st.n);rw[j4 (λe=>by simpa using t0 CL e:[]≠r.take j++[v])];exact G,by rw[u7];simp;exact BK ‹_›,by rw[u];exact K6 _ P8,λq=>?_⟩).1;rw[Gd,c q,o9];constructor
    .rintro((h|⟨t,g,d⟩)|h)
     .exact .inl h
     .exact .inr (d0 t (U6 ‹_›) d)
     .exact .inr (d0 (j+1) (l8 _) (by rw[u];exact h))
    .rintro(h|⟨t,g,d⟩)
     .exact .inl (.inl h)
     .by_cases ht:t=j+1
      .rw[ht,u]at d;exact .inr d
      .exact .inl (.inr (d0 t (v0 (DX g ht)) d))
  .rintro ρ' w z6;ext1 z6 X s1 l;ext C7 l m s s2 O G o l;ext1 l z c;rw[f7]at o c;refine(hk1 _ _ ⟨X,s1,m,s,O,G,b6 o (G1 T (1+4*_)),λq=>?_⟩).1;rw[c q,E q,Ak,hr];constructor
   .rintro((h|⟨r',g,d⟩)|⟨t,g,d⟩)
    .exact .inl h
    .exact .inr (d0 r' (G2 _ g) d)
    .exact .inr ⟨r,K6 _ j5,t,g,d⟩
   .rintro(h|⟨r',g,t,d,h3⟩)
    .exact .inl (.inl h)
    .rcases v4 g with g|g
     .exact .inl (.inr ⟨r',g,t,d,h3⟩)
     .simp at g;clear hr T hit s2 o z c;subst g;exact .inr (d0 t d h3)
  .rcases A with h|⟨t,g,d⟩
   .exact h
   .let f:=a6.eq_zero_of_le_zero g;clear g;subst f;rw[Gp]at d;rw[d];exact W.root
 .rintro ρ R z7;ext1 z7 g2 r1 l;ext T0 l ps B W C S E;rw[f7,X4]at E;rw[f7]at S;exists 0,r1;rw[<-C];exact A R ps B (x1.fm g2 λb hb=>Nat.not_le.mpr hb) W S E
def GW:b0->a7 a6
 | .B ds=>ds.map t6
 |_=>[]
theorem ND(l:a7 a6):GW (m8 l)=l:=by
 refine(?_:(l.map iD).map t6=l);rw[v9]
 conv=>rhs;rw[<-Ba l]
 exact A2 λn a=>O6 n
def Jm:b0->a6
 | .str [c]=>c
 |_=>0
theorem nh(c:a6):Jm (sD c)=c:=rfl
theorem Li(h:sD a=sD b):a=b:=by let c:=t0 Jm h;exact c
theorem bS(a b:a6):l3 (sD a) (sD b)=decide (a=b):=by refine(?_:([a]==[b])=_);rw[P2,Ai,C3];simp
theorem cZ{l:a7 a6}{i:a6}(h:(l.map sD)[i]?=a0 x):∃n,l[i]?=a0 n/\x=sD n:=by rw[o7,Av]at h;ext1 h n a b;exact⟨n,a,b.symm⟩
theorem Za{st:St}{ns:a7 a6}{c:a6}(e:c∈ns):Ac "index" (.B (ns.map sD)) [sD c] st=a0 (iD (ns.idxOf c),st):=by
 let a:(ns.map sD).all (λy=>P0 y (sD c))=a8:=by rw[V8];intro y f;refine B5 f ?_;rintro d h;rfl
 refine(g0 ⟨rfl,a⟩).trans ?_;rw[a7.findIdx?_map];let g:((λy=>l3 y (sD c)) ∘ sD)=λd=>d==c:=by funext d;refine(?_:l3 (sD d) (sD c)=(d==c));rw[bS,P2];simp
 rw[g];let b:ns.findIdx? (λd=>d==c)=a0 (ns.idxOf c):=by rw[a7.findIdx?_eq_some_iff_findIdx_eq];exact⟨Fz e,rfl⟩
 rw[b];rfl
theorem OI(h:d6 st a xs)(c:d6 st b []):B0 .eq (.ref a) (.ref b) st=a0 xs.isEmpty:=by
 refine(?_:Bk st (.ref a) (.ref b)=_);unfold Bk;rw[h.list,c.list];have:LK xs []=a8:=by cases xs<;>rfl
 refine(?_:(if LK xs []then a0 (W5 xs [])else b4)=_);cases xs<;>rfl
def BA(ns:a7 a6)(l:a7 a6):b7:=(p0 ns.length).all λk=>l.getD k 0==l.getD (ns.idxOf (ns.getD k 0)) 0
def proj(ns os:a7 a6)(l:a7 a6):a7 a6:=(os.filter λc=>decide (c∈ns)).map λc=>l.getD (ns.idxOf c) 0
theorem Up(h:k<l.length)(a:l.length<=100):J9 (m8 l) (iD k) st=a0 (iD (l.getD k 0)):=
 BR (gG h a rfl) (by rw[o7,v5 h,AB,v5 h];rfl)theorem Ra:Q5 st (.B xs)=4:=rfl
theorem SJ:AW 4 "index"=a8:=rfl
theorem fx{st:St}{ta:a6}{o:a7 a6}{ns:a7 a6}{tbs:a7 Tb}{ev:a7 Ev}{Q:Q1}(I:v3 st ta "Tables" te [("rows",.ref rd)])(T:Cn st rd lo tbs ev)(LO:d6 st oa (os.map sD))(C:ns.length<=4)(W:os.length<=4)
 (hl:(E9 ev (o,ns.length)).length<=20)(G:∀l∈E9 ev (o,ns.length),l.length=ns.length)
 (hq:∀u ps ad lo,Ex st u->Cb u ps ad lo->ps.length<=1000->(∀q,q∈ps↔q=[]\/∃l∈E9 ev (o,ns.length),BA ns l=a8/\∃t,t<=(proj ns os l).length/\q=(proj ns os l).take t)->Q (.ref (ad [])) u):
 u9 u8 (k+2) "Tables" "trie" [.ref ta,.str o,.B (ns.map sD),.ref oa] st Q:=by
 refine D0 (fd:=QI) rfl rfl ?_;delta QI;have H:∀u,M4 .len [.B (ns.map sD)] u=a0 (iD ns.length,u):=λu=>by
  let this:=GD (st:=u) (xs:=ns.map sD) (by rw[f7];exact p6)
  rwa [f7]at this
 exists 0,I.I,H;refine⟨I.q rfl,by decide,rfl,hY I T λst1 a x1 L1=>?_⟩;generalize hL:E9 ev (o,ns.length)=g at hl G L1 hq;exists(Q4 L1),rfl;refine OV (nx:=λi=>.seq (.ref a) i) (xs:=g.map m8) (p:=λx=>BA ns (GW x)) (f:=id) (λi u O x=>R9 (L1.ex x) i) ?_ ?_
 .rintro i x n M kk v x2 D L;rw[o7,Av]at v;ext c9 v l E rfl;let B:=G l (p8 E);exists H,rfl;(try exists 0,H);rw[g0 ⟨by solve_by_elim (maxDepth:=2)only[*,j7],by unfold j8;exact Int.ofNat_le.mpr (b6 C (by decide))⟩];refine Ae (nx:=λi=>.range i ns.length) (xs:=(p0 ns.length).map iD) (p:=λx=>decide (l.getD (t6 x) 0≠l.getD (ns.idxOf (ns.getD (t6 x) 0)) 0)) (f:=id) (λi O=>GP (by simpa using O)) ?_ ?_
  .rintro j x M kk' v y z;refine c9 (Y3 v) ?_;rintro w V rfl;have X:w<ns.length:=by let this:=p8 V;exact U7 this
   refine d4 (O0 X) λc hc=>?_;let hcm:=p8 hc;exists(Up (st:=n) (l:=l) (k:=w) (Cv X B) (gH B C rfl)),(rfl:n.inst? (.B (ns.map sD))=b4),Ra,SJ,(BR (gG X C rfl) (by rw[o7,hc];rfl)),(Za (st:=n) hcm),(Up (st:=n) (l:=l) (k:=ns.idxOf c) (Cv (Fz hcm) B) (gH B C rfl)),FT,rfl;rw[O6,(by rw[AB,hc];rfl:ns.getD w 0=c)]at z;by_cases hd:l.getD w 0=l.getD (ns.idxOf c) 0
   .rw[show decide (l.getD w 0≠l.getD (ns.idxOf c) 0)=c8 from by simp only[Qv,hd,nT,kW]]at z ⊢;exact z
   .rw[show decide (l.getD w 0≠l.getD (ns.idxOf c) 0)=a8 from by simp only[Qv,hd,VD,decide_true]]at z ⊢;refine⟨?_,z⟩;rw[f7,Br]at y;unfold j8;exact gA C y rfl
  .refine N5 ((V1 (λx=>decide (l.getD (t6 x) 0≠l.getD (ns.idxOf (ns.getD (t6 x) 0)) 0)) ((p0 ns.length).map iD)).map id) λN hbad=>?_;let S:N.isEmpty=BA ns l:=by
    rw[<-hbad,Ba,P2,nU,UW];unfold BA;rw[V8];constructor
    .intro h w V;let this:=h (iD w) (V9 V);rw[O6]at this;simpa using this
    .intro h x v;refine B5 v ?_;rintro w V;rw[O6];let this:=h w V;simpa using this
   exists 0;let P:=Ex.A n (.L N);let B3:=d6.new n N;generalize n.A (.L N)=s at P B3 ⊢;let K:=Ex.A s (.L []);have B4:=d6.new s [];have Y:=B3.ex K;generalize s.A (.L [])=st4 at K B4 Y ⊢;exists(OI Y B4),S,rfl;(try exists 0,(OI Y B4),S);let this:=L st4 (P.trans K);rw[ND]at this;cases hf:BA ns l with
   |true=>rw[hf]at this;exists rfl;refine⟨?_,this⟩;rw[f7]at D;exact gA hl D rfl
   |false=>rw[hf]at this;exact this
 .intro n x2;let hkept:(V1 (λx=>BA ns (GW x)) (g.map m8)).map id=(g.filter λl=>BA ns l).map m8:=by rw[Ba,JH];congr 1;refine lI λl R=>(?_:BA ns (GW (m8 l))=_);rw[ND]
  exists rfl;rw[hkept];have P:=Ex.A n (.L ((g.filter λl=>BA ns l).map m8));let K3:=d6.new n ((g.filter λl=>BA ns l).map m8);revert P K3;refine N5 (g.filter λl=>BA ns l) λm hks P K3=>?_;have Z:∀l,l∈m↔l∈g/\BA ns l=a8:=λl=>by rw[<-hks,HD]
  have hkl:m.length<=20:=by rw[<-hks];exact b6 (DN _ _) hl
  generalize hka:n.n=ka at K3;revert P K3;refine gen (n.A (.L (m.map m8))) λs P K3=>?_;let X3:=x1.trans (x2.trans P);let LO3:=LO.ex X3;exists(Q4 LO3),rfl;refine Ae (nx:=λi=>.seq (.ref oa) i) (xs:=os.map sD) (p:=λx=>decide (Jm x∈ns)) (f:=λx=>iD (ns.idxOf (Jm x))) (λi O=>R9 LO3 i) ?_ ?_
  .rintro j x M kk v y L;refine c9 (cZ v) ?_;rintro c hc rfl;obtain⟨b,e1,hb⟩:=cQ (st:=s) (xs:=ns.map sD) (d:=sD c) (λx v=>by
    refine B5 v ?_;rintro d R;rfl) rfl
   let hb':b=decide (c∈ns):=by
    rw[P2,hb,C3];constructor
    .intro h;exact A8 h λd hd e=>Li e▸hd
    .exact λh=>V9 h
   let e3:s.inst? (.B (ns.map sD))=b4:=rfl;exists e1,e3,Ra,SJ,rfl;rw[nh]at L;rw[hb'];by_cases hm:c∈ns
   .rw[show decide (c∈ns)=a8 from by simpa using hm]at L ⊢;exists e3,Ra,SJ,(Za (st:=s) hm),rfl;refine⟨?_,L⟩;rw[f7]at y;exact gA W y rfl
   .rw[show decide (c∈ns)=c8 from by simpa using hm]at L ⊢;exact L
  .let hpl:(V1 (λx=>decide (Jm x∈ns)) (os.map sD)).map (λx=>iD (ns.idxOf (Jm x)))=((os.filter λc=>decide (c∈ns)).map λc=>ns.idxOf c).map iD:=by rw[JH,v9,v9];congr 1
   exists rfl;rw[hpl];let K:=Ex.A s (.L (((os.filter λc=>decide (c∈ns)).map λc=>ns.idxOf c).map iD));let P4:=d6.new s (((os.filter λc=>decide (c∈ns)).map λc=>ns.idxOf c).map iD);revert K P4;refine N5 ((os.filter λc=>decide (c∈ns)).map λc=>ns.idxOf c) λF J K P4=>?_;let hpll:F.length<=4:=by rw[<-J,f7];exact b6 (DN _ _) W
   have hplm:∀i∈F,i<ns.length:=λi O=>by
    rw[<-J]at O;refine B5 O ?_;rintro c hc;let this:c∈ns:=by simpa using(Gy hc)
    exact Fz this
   have hproj:∀l:a7 a6,F.map (λi=>l.getD i 0)=proj ns os l:=λl=>by
    rw[<-J,v9];rfl
   generalize hpa:s.n=pa at P4;revert K P4;refine gen (s.A (.L (F.map iD))) λst4 K P4=>?_;let K4:=K3.ex K;exists(Q4 K4),rfl;refine OV (nx:=λi=>.seq (.ref ka) i) (xs:=m.map m8) (p:=λR=>a8) (f:=λx=>m8 (proj ns os (GW x))) (λi u O x=>R9 (K4.ex x) i) ?_ ?_
   .rintro i x A M kk v x5 D L;rw[o7,Av]at v;ext c9 v l E rfl;let B:=G l ((Z l).mp (p8 E)).1;have P5:=P4.ex x5;exists(Q4 P5),rfl;refine Ae (nx:=λi=>.seq (.ref pa) i) (xs:=F.map iD) (p:=λR=>a8) (f:=λx=>iD (l.getD (t6 x) 0)) (λi O=>R9 P5 i) ?_ ?_
    .rintro j x M kk' v y z;refine c9 (Y3 v) ?_;clear v;rintro w V rfl;exists(Up (st:=A) (l:=l) (k:=w) (Cv (hplm w (p8 V)) B) (gH B C rfl)),rfl;rw[O6]at z;rw[f7]at y;exact⟨by unfold j8;exact gA hpll y rfl,by simpa using z⟩
    .exists 0;rw[Iz (f:=λi=>l.getD i 0),hproj l];let L6:=d6.new A ((proj ns os l).map iD);let x6:=Ex.A A (.L ((proj ns os l).map iD));generalize A.A (.L ((proj ns os l).map iD))=st6 at L6 x6 ⊢;exists(EC L6),rfl;refine⟨by rw[f7]at D;exact gA hkl D rfl,?_⟩;let this:=L st6 x6;rw[g0 rfl,ND]at this;exact this
   .intro A x5;have hrows:(V1 (λR=>a8) (m.map m8)).map (λx=>m8 (proj ns os (GW x)))=(m.map λl=>proj ns os l).map m8:=by rw[Dd λR R=>rfl,v9,v9];refine A2 λl R=>(?_:m8 (proj ns os (GW (m8 l)))=_);rw[ND];rfl
    rw[hrows];exists 0;let x6:=Ex.A A (.L ((m.map λl=>proj ns os l).map m8));let L6:=d6.new A ((m.map λl=>proj ns os l).map m8);generalize A.A (.L ((m.map λl=>proj ns os l).map m8))=st6 at x6 L6 ⊢;refine vg L6 (by rw[f7];exact p6) (λr hr=>?_) λst7 ps ad x7 T7 U hps=>?_
    .ext B5 hr l R;unfold proj;rw[f7];exact b6 (DN _ _) W
    .refine hq st7 ps ad st6.n (X3.trans (K.trans (x5.trans (x6.trans x7)))) T7 ?_ λq=>?_
     .rw[f7]at U;exact vK U hkl
     .rw[hps q];constructor
      .rintro(h|⟨r,hr,t,h1,h2⟩)
       .exact .inl h
       .ext A8 hr l E rfl;let zz:=(Z l).mp E;ext1 zz h3 h4;exact .inr ⟨l,h3,h4,t,h1,h2⟩
      .rintro(h|⟨l,h3,h4,t,h1,h2⟩)
       .exact .inl h
       .exact .inr ⟨_,B9 (a:=l) ((Z l).mpr ⟨h3,h4⟩) rfl,t,h1,h2⟩
theorem rv:∀(r:a7 b0)(m:b0),CA r m∈m::r:=by
 intro a
 induction a with
 |nil=>intro m;exact P8
 |cons x r b=>
  intro m;refine(?_:CA r (if r9 x m then x else m)∈m::x::r);let h:=b (if r9 x m then x else m);by_cases q:r9 x m=a8
  .rw[g0 q]at h ⊢;exact k8 _ h
  .rw[j4 q]at h ⊢;rcases D2 h with h|h
   .rw[h];exact j5
   .exact k8 _ (k8 _ h)
theorem rx(h:d6 st a (x::r))(c:C1 (x::r)=a8):M4 .min [.ref a] st=a0 (CA r x,st):=by
 refine(?_:((st.list? (.ref a)).bind λb=>match b with
  |[]=>b4
  |x::r=>if C1 b then a0 (CA r x,st)else b4)=_)
 rw[h.list,Dk];refine(?_:(if C1 (x::r)then a0 (CA r x,st)else b4)=_);rw[g0 c]def KD(st:St)(a:a6)(vs:a7 a6):Prop:=∃es ep,m7 st a es ep/\es.map Bt=vs.map iD
theorem wi{es:a7 (b0×b0)}{vs:a7 a6}(h:es.map Bt=vs.map iD)(v:a6):v8 es (iD v)=a8:=by
 unfold v8;simp only[C2,V8];refine⟨rfl,λe b=>?_⟩;let a:e.1∈vs.map iD:=by rw[<-h];exact V9 b
 refine A8 a λw c q=>?_;rw[<-q];rfl
theorem rj{es:a7 (b0×b0)}{vs:a7 a6}(h:es.map Bt=vs.map iD)(v:a6):(t4 es (iD v)).isSome=decide (v∈vs):=by
 rw[P2,C3];unfold t4;rw[LZ,iG];constructor
 .rintro b;ext1 b e c q;let a:iD v∈vs.map iD:=by rw[<-h,<-W7 q];exact V9 c
  exact A8 a λw d f=>EE f▸d
 .intro g;let a:iD v∈es.map Bt:=by rw[h];exact V9 g
  refine A8 a λe c q=>d0 e c ?_;rw[q];exact Eu (Kd 3 v v)
theorem yN{es:a7 (b0×b0)}{vs:a7 a6}(h:es.map Bt=vs.map iD):es.length=vs.length:=by
 let a:=t0 CL h
 rwa [f7,f7]at a
theorem bZ{es:a7 (b0×b0)}{vs:a7 a6}(h:es.map Bt=vs.map iD):es.all (λe=>leaf e.1)=a8:=by
 rw[V8];intro e b;let a:e.1∈vs.map iD:=by rw[<-h];exact V9 b
 refine A8 a λw c q=>?_;rw[<-q];rfl
theorem gg(h:m7 st a es ep)(b:es.all (λe=>leaf e.1)=a8):BU (.ref a) st=a0 (.keys a 0 es.length ep):=by unfold BU;dsimp only;rw[g0 h.1,h.2];dsimp only;rw[g0 b]theorem df{st:St}{a:a6}{es:a7 (b0×b0)}{vs:a7 a6}(h:m7 st a es ep)(b:es.map Bt=vs.map iD)(i:a6):(It.keys a i es.length ep).next st=a0 (((vs.map iD)[i]?).map λx=>(x,.keys a (i+1) es.length ep)):=by unfold It.next;dsimp only;rw[g0 h.1,h.2];dsimp only;rw[g0 (m0 rfl rfl (bZ b)),<-b,o7];cases es[i]?<;>rfl
def RD(trs:a7 (a6×a7 a6)):b0->b0
 | .B [.int i,_]=>.B [iD ((trs.getD i.toNat (0,[])).2.length),.int i]
 |_=>.none
def RQ(trs:a7 (a6×a7 a6))(v:a6):b0->b7
 | .ref a=>(match trs.find? (λt=>t.1==a)with|some t=>!decide (v∈t.2)|none=>c8)
 |_=>c8
theorem TL(h:trs.find? (λt=>t.1==a)=a0 t):RQ trs v (.ref a)=!decide (v∈t.2):=by refine(?_:(match trs.find? (λt=>t.1==a)with|some t=>!decide (v∈t.2)|none=>c8)=_);rw[h]
theorem xk{st:St}{k:a6}{fs:a7 (j3×b0)}{c:a7 (a6×a7 a6)}{Q:Q1}(L:d6 st tl (c.map λt=>.ref t.1))(U:∀t∈c,KD st t.1 t.2/\t.2.Nodup/\t.2.length<=1000)(hne:c≠[])(o:c.length<=10)
 (hq:∀z r(vs:a7 a6),Ex st z->st.n<=r->d6 z r (vs.map iD)->vs.Nodup->(∀v,v∈vs↔∀t∈c,v∈t.2)->Q (.ref r) z):u9 u8 (k+1) "Joins" "shared" [.ref ja,.ref tl] st Q:=by
 refine D0 (fd:=Rp) rfl rfl ?_;delta Rp;exists 0,L.list;refine Ae (nx:=λi=>.enum i (.ref tl)) (xs:=(c.map λt=>b0.ref t.1).mapIdx λj x=>b0.B [iD j,x]) (p:=λe=>a8)
  (f:=RD c) (λi I=>TN L i) ?_ ?_
 .rintro i x W kk g hl S;rw[Mv,o7]at g;cases J:c[i]? with
  |none=>rw[J]at g;cases g
  |some t=>
   rw[J]at g;simp only[Au,At]at g;subst g;let d:=U t (p8 J);ext1 d z1 e e;ext F8 z1 es ep D A;exists(dl D),rfl;rw[g0 rfl]at S;let hlo:RD c (.B [iD i,.ref t.1])= .B [iD es.length,iD i]:=by refine(?_:b0.B [iD ((c.getD ((i:a6):d3).toNat (0,[])).2.length),iD i]=_);rw[(by rw[Q8,AB,J];rfl:(c.getD ((i:a6):d3).toNat (0,[]))=t),<-yN A]
   rw[hlo]at S;refine⟨?_,S⟩;rw[Jz,f7]at hl;unfold j8;exact gA o hl rfl
 .generalize X:(V1 (λe=>a8) ((c.map λt=>b0.ref t.1).mapIdx λj x=>b0.B [iD j,x])).map (RD c)=T;have B:∀x∈T,∃i l:a6,i<c.length/\x= .B [iD l,iD i]:=λx g=>by
   rw[<-X]at g;refine A8 g ?_;rintro y hy rfl;refine d4 (N2 (NS hy)) λi rr=>?_;ext d4 rr I rfl;rw[Jz,f7]at I;rw[a7.getElem_mapIdx];exact Q6 i _ I rfl
  have N:T.length=c.length:=by rw[<-X,f7,Dd λe e=>rfl,Jz,f7]
  exists 0;let L1:=d6.new st T;let K:=Ex.A st (.L T);revert L1 K;refine gen (st.A (.L T)) λY L1 K=>?_;cases C:T with
  |nil=>rw[C]at N;exact(hne (List.length_eq_zero_iff.mp N.symm)).elim
  |cons x r=>
   rw[C]at L1;have hok:C1 (x::r)=a8:=by
    unfold C1;rw[<-C];simp only[C2,C3,V8];refine⟨⟨rp N o,λa ha b hb=>?_⟩,λa ha=>?_⟩
    .refine F8 (B a ha) ?_;rintro e e e rfl;refine F8 (B b hb) ?_;rintro e e e rfl;rfl
    .refine F8 (B a ha) ?_;rintro e e e rfl;rfl
   exists(rx L1 hok),rfl;refine F8 (B (CA r x) (by rw[C];exact rv r x)) λi l I hle=>?_;let e1:J9 (CA r x) (.int 1) Y=a0 (iD i):=by rw[hle];exact BR (i:=1) (M0 _ _) rfl
   rw[e1];let L':=L.ex K;refine d4 (O0 I) λt J=>?_;have Z:=p8 J;have e2:J9 (.ref tl) (iD i) Y=a0 (.ref t.1):=AX L' (gG I o rfl) (by rw[o7,J];rfl);let d:=U t Z;ext1 d z2 hnd htl;ext F8 z2 es ep D A;have D1:=D.ex K;exists e2,(gg D1 (bZ A)),rfl;refine OV (nx:=λj=>.keys t.1 j es.length ep) (xs:=t.2.map iD) (p:=λx=>decide (∀s∈c,t6 x∈s.2)) (f:=id) (λj z hj x=>df (D1.ex x) A j) ?_ ?_
   .rintro j x E W kk g V hal S;refine c9 (Y3 g) ?_;rintro v hv rfl;have L2:=L'.ex V;rw[O6]at S;exists(Q4 L2),rfl;refine Ae (nx:=λi=>.seq (.ref tl) i) (xs:=c.map λt=>b0.ref t.1) (p:=RQ c v) (f:=id) (λi I=>R9 L2 i) ?_ ?_
    .rintro q x W kk' g hl3 u;rw[o7,Av]at g;ext c9 g s M rfl;have w:∃n,c.find? (λt=>t.1==s.1)=a0 n/\n∈c/\n.1=s.1:=by
      cases m:c.find? (λt=>t.1==s.1)with
      |none=>let this:=List.find?_eq_none.mp m s (p8 M);simp at this
      |some n=>refine v7 n rfl (MI m) ?_;let this:=VS m;simpa using this
     ext y3 w n m hs'm hs'1;let d:=U n hs'm;ext1 d z3 e e;ext F8 z3 es1 ep1 D3 G;rw[hs'1]at D3;let e3:=ZL (Zb ((D3.ex K).ex V) (wi G v));rw[rj G]at e3;exists e3,rfl;rw[TL m]at u;cases hb:(!decide (v∈n.2))with
     |true=>rw[hb]at u;refine⟨?_,u⟩;rw[f7]at hl3;unfold j8;exact gA o hl3 rfl
     |false=>rw[hb]at u;exact u
    .generalize hbad:(V1 (RQ c v) (c.map λt=>b0.ref t.1)).map id=F;let H:F.isEmpty=decide (∀s∈c,v∈s.2):=by
      rw[<-hbad,Ba,P2,nU,UW,C3];constructor
      .intro h s M;have h1:=h (.ref s.1) (B9 (a:=s) M rfl);cases m:c.find? (λt=>t.1==s.1)with
       |none=>have:=List.find?_eq_none.mp m s M;simp at this
       |some n=>
        rw[TL m]at h1;let d:=U s M;ext1 d z4 e e;ext F8 z4 e1 p1 D1' h1';let d:=U n (MI m);ext1 d z5 e e;ext F8 z5 e2 p2 O h2';rw[(by simpa using VS m:n.1=s.1)]at O;let this:e1=e2:=by let h3:=D1'.2;rw[O.2]at h3;injection h3 with h3;exact h3.symm
        clear O;subst this;let this:=Sn (h1'.symm.trans h2');rw[this];exact(by simpa using h1:v∈n.2)
      .intro h x g;refine A8 g ?_;rintro s M rfl;cases m:c.find? (λt=>t.1==s.1)with|none=>let this:=List.find?_eq_none.mp m s M;simp at this|some n=>let this:=h n (MI m);rw[TL m];simp[this]
     exists 0;let x3:=Ex.A E (.L F);have B3:=d6.new E F;generalize E.A (.L F)=P at x3 B3 ⊢;have x4:=Ex.A P (.L []);have B4:=d6.new P [];have R:=B3.ex x4;generalize P.A (.L [])=st4 at x4 B4 R ⊢;exists(OI R B4),H,rfl;(try exists 0,(OI R B4),H);let this:=S st4 (x3.trans x4);cases m:decide (∀s∈c,v∈s.2)with
     |true=>rw[m]at this;exists rfl;refine⟨?_,this⟩;rw[f7]at hal;exact gA htl hal rfl
     |false=>rw[m]at this;exact this
   .intro E V;let hres:(V1 (λx=>decide (∀s∈c,t6 x∈s.2)) (t.2.map iD)).map id=(t.2.filter λv=>decide (∀s∈c,v∈s.2)).map iD:=by rw[Ba,JH];congr 1
    rw[hres];refine hq _ _ _ (K.trans (V.trans (Ex.A _ _))) (by let this:=K.1;let this:=V.1;exact b6 ‹_› this) (d6.new _ _) (hnd.filter _) λv=>?_;rw[HD,C3];exact⟨λh=>h.2,λh=>⟨h t Z,h⟩⟩def pr(ns os w:a7 a6):a7 a6:=((os.zip w).filter λp=>decide (p.1∈ns)).map (·.2)
theorem xN:∀(os w:a7 a6),os[w.length]?=a0 c->os.zip (w++[v])=os.zip w++[(c,v)]:=by
 intro d
 induction d with
 |nil=>intro w h;simp at h
 |cons o os b=>
  intro a;cases a with
  |nil=>intro h;simp at h;clear b;subst h;refine(?_:(o,v)::os.zip []=_);rw[WB];rfl
  |cons x w=>intro h;refine(?_:(o,x)::os.zip (w++[v])=(o,x)::(os.zip w++[(c,v)]));rw[b w (by simpa using h:os[w.length]?=a0 c)]
theorem MW(h:os[w.length]?=a0 c):pr ns os (w++[v])=pr ns os w++(if c∈ns then[v]else[]):=by
 unfold pr;rw[xN os w h,Qx,p9];congr 1;rw[DM];by_cases q:c∈ns
 .rw[g0 (by simpa using q),g0 q];rfl
 .rw[j4 (by simpa using q),j4 q];rfl
theorem Yu(ns os:a7 a6):pr ns os []=[]:=by unfold pr;rw[WB];rfl
theorem wy:∀(os x f:a7 a6),x<+:f->os.zip x<+:os.zip f:=by
 intro c
 induction c with
 |nil=>intro x f _;simp
 |cons o os d=>
  intro b;cases b with
  |nil=>intro f _;simp
  |cons a x=>intro f h;ext d4 h y rfl;exact(List.cons_prefix_cons.mpr ⟨rfl,d x (x++y) (Qt x y)⟩:(o,a)::os.zip x<+:(o,a)::os.zip (x++y))theorem kz(h:x<+:f):pr ns os x<+:pr ns os f:=((wy os x f h).filter _).map _
theorem Cb.pre{st:St}{ps:a7 (a7 a6)}{d:a7 a6->a6}{lo:a6}(T:Cb st ps d lo){p:a7 a6}(h:p<+:q)(c:q∈ps):p∈ps:=by
 ext d4 h y rfl
 induction hy:y.length generalizing y with
 |zero=>
  let b:=List.length_eq_zero_iff.mp hy;clear hy;subst b
  rwa [Y5]at c
 |succ n f=>
  let a:y≠[]:=λe=>by rw[e]at hy;cases hy
  refine f y.dropLast (T.up _ (y.getLast a) ?_) (by rw[mB,hy];rfl);rw[Eb,(a7.dropLast_concat_getLast a)];exact c
abbrev Tr:=AV×a7 (a7 a6)×(a7 a6->a6)def BX(os:a7 a6)(tas:a7 Tr)(w:a7 a6):b0:=.B [m8 w,.B (tas.map λt=>.ref (t.2.2 (pr t.1.2 os w)))]def Il(os:a7 a6)(tas:a7 Tr)(w:a7 a6):Prop:=∀t∈tas,pr t.1.2 os w∈t.2.1
def CX(os w:a7 a6):a7 (b0×b0):=(os.zip w).map λp=>(sD p.1,iD p.2)def CD(st:St)(t:Tr):Prop:=(∃lo,Cb st t.2.1 t.2.2 lo)/\t.2.1.length<=1000/\∀p∈t.2.1,∀x∈p,x<8
theorem CD.ex(h:CD st t)(x:Ex st st'):CD st' t:=let⟨⟨a,b⟩,c⟩:=h;⟨⟨a,b.ex x⟩,c⟩theorem vm(h:∀e∈es,∃d,e.1=sD d/\d≠c):Q0 es (sD c) v=es++[(sD c,v)]:=by exact Tj (IW λe a q=>c9 (h e a) λd b f=>f (Li (b.symm.trans q)))
theorem oc:∀(os w:a7 a6)(es:a7 (b0×b0)),os.Nodup->(∀e∈es,∃d,e.1=sD d/\d∉os)->((os.map sD).zip (w.map iD)).foldl (λes e=>Q0 es e.1 e.2) es=es++CX os w:=by
 intro i
 induction i with
 |nil=>intro w es _ _;unfold CX;simp
 |cons o os j=>
  intro g;cases g with
  |nil=>intro es _ _;unfold CX;simp
  |cons x w=>
   intro es b h;rw[Ax]at b;refine(?_:((os.map sD).zip (w.map iD)).foldl (λes e=>Q0 es e.1 e.2) (Q0 es (sD o) (iD x))=_);rw[vm λe a=>c9 (h e a) λd c f=>d0 d c λq=>f (by rw[q];exact j5)];rewrite[j w _ b.2 λe a=>?_]
   .rw[Eb];rfl
   .rcases v4 a with a|a
    .exact c9 (h e a) λd c f=>d0 d c λq=>f (k8 _ q)
    .rw[o9]at a;subst a;exact d0 o rfl b.1
theorem dg(L:d6 st oa (os.map sD))(f:os.Nodup)(k:os.length<=100):∃n,M4 .dZ [.ref oa,m8 w] st=a0 (.ref st.n,st.A (.D (CX os w) n)):=by
 refine⟨(CX os w).length,?_⟩;let g:=L.items;let h:st.items? (m8 w)=a0 (w.map iD):=rfl;refine(?_:((st.items? (.ref oa)).bind λb=>(st.items? (m8 w)).bind λi=>
  if(b.length<=j8)/\b.all (λx=>match x with| .str _=>a8|_=>c8)then
   let a:=(b.zip i).foldl (λa e=>Q0 a e.1 e.2) []
   a0 (b0.ref st.n,st.A (.D a a.length))else b4)=_)
 rw[g,h,Dk,Dk,g0]
 .dsimp only;rw[oc os w [] f λe j=>by cases j];rfl
 .refine⟨by rw[f7];exact p6,Cw λx d=>B5 d ?_⟩;clear d;rintro c _;rfl
def wt(n:a6)(w:a7 a6):a6:=9 ^ (n - w.length)def V5(n:a6)(ws:a7 (a7 a6)):a6:=(ws.map (wt n)).sum
theorem cu(n:a6)(b:a7 (a7 a6)):b.length<=V5 n b:=by
 induction b with
 |nil=>exact F9 _
 |cons w b c=>unfold V5 at c ⊢;rw[y4,Fw,N9];let a:1<=wt n w:=a6.one_le_pow _ _ (by decide);exact b6 (U0 c a) (A1 (Al _ _))theorem OP(n:a6)(a b:a7 (a7 a6)):V5 n (a++b)=V5 n a+V5 n b:=by unfold V5;rw[p9,Vq]
theorem ea(h:w.length<n):∀(vs:a7 a6),V5 n (vs.map λv=>w++[v])=vs.length*9 ^ (n - w.length - 1):=by
 intro b
 induction b with
 |nil=>simp[V5]
 |cons v vs c=>
  have a:=c;unfold V5 at a ⊢;rw[y4,y4,Fw,a,N9,mX];have d:wt n (w++[v])=9 ^ (n - w.length - 1):=by unfold wt;rw[u7];rfl
  rw[d];exact Yb
structure Jn (os:a7 a6) (tas:a7 Tr) (ws:a7 (a7 a6)) (fs:a7 (a6×a7 a6)):Prop where
 w:∀w∈ws,Il os tas w/\w.length<=os.length
 f:∀f∈fs,Il os tas f.2/\f.2.length=os.length
 all:∀f:a7 a6,f.length=os.length->Il os tas f->f∈fs.map (·.2)\/∃w∈ws,w<+:f
 nd:(fs.map (·.2)).Nodup
 ap:∀f∈fs,∀w∈ws,¬w<+:f.2
 pw:ws.Pairwise λa b=>¬a<+:b/\¬b<+:a
 few:fs.length+V5 os.length ws<=9 ^ os.length
theorem Jn.full{os:a7 a6}{tas:a7 Tr}{m:a7 (a7 a6)}{fs:a7 (a6×a7 a6)}{w:a7 a6}(J:Jn os tas (m++[w]) fs)(j:w.length=os.length)(a:a6):Jn os tas m (fs++[(a,w)]):=by
 let g:=K6 _ P8;let k:=List.pairwise_append.mp J.pw;refine⟨λx d=>J.w x (G2 _ d),λf b=>?_,λf b o=>?_,?_,λf b x d=>?_,k.1,?_⟩
 .rcases v4 b with b|b
  .exact J.f f b
  .rw[o9]at b;subst b;exact⟨(J.w w g).1,j⟩
 .rcases J.all f b o with h|⟨x,d,i⟩
  .left;rw[p9];exact G2 _ h
  .rcases v4 d with d|d
   .exact .inr (d0 x d i)
   .rw[o9]at d;clear J g k;subst d;left;let c:=i.eq_of_length (by rw[j,b]);rw[p9,<-c];exact K6 _ P8
 .rw[p9,BM];refine m0 J.nd (by simp) λx d y n e=>?_;simp only[y4,V7,o9]at n;ext A8 d f b rfl;rw[n]at e;exact J.ap f b w g (by rw[e];exact a7.prefix_refl _)
 .rcases v4 b with b|b
  .exact J.ap f b x (G2 _ d)
  .rw[o9]at b;subst b;exact(k.2.2 x d w P8).1
 .let c:=J.few;rw[OP]at c;let l:V5 os.length [w]=1:=by unfold V5 wt;simp[j]
  rw[l]at c;rw[u7];simp;exact b6 (A1 (Y7 _ 1 _)) c
theorem Jn.step{os:a7 a6}{tas:a7 Tr}{i:a7 (a7 a6)}{fs:a7 (a6×a7 a6)}{w:a7 a6}{vs:a7 a6}{st:St}(J:Jn os tas (i++[w]) fs)(z:∀t∈tas,CD st t)(m:w.length<os.length)(A:vs.Nodup)(B:vs.length<=8)
 (p:∀v,v∈vs↔Il os tas (w++[v])):Jn os tas (i++vs.map λv=>w++[v]) fs/\V5 os.length (i++vs.map λv=>w++[v])<V5 os.length (i++[w]):=by
 let n:=List.pairwise_append.mp J.pw;have e:V5 os.length (i++vs.map λv=>w++[v])<V5 os.length (i++[w]):=by
  rw[OP,OP,ea m];rw[(by unfold V5 wt;simp:V5 os.length [w]=9 ^ (os.length - w.length))];let l:9 ^ (os.length - w.length)=9*9 ^ (os.length - w.length - 1):=by rw[<-a6.pow_succ'];congr 1;exact(HR (Jt m)).symm
  rw[l];exact Gi (q5 (EI (9 ^ (os.length - w.length - 1)) B) (a6.mul_lt_mul_of_pos_right (by decide) (a6.pow_pos (by decide)))) _
 refine⟨⟨λx c=>?_,J.f,λf j q=>?_,J.nd,λf j x c=>?_,?_,by have E:=J.few;exact b6 (G1 (m9 e) _) E⟩,e⟩
 .rcases v4 c with c|c
  .exact J.w x (G2 _ c)
  .refine B5 c ?_;clear c;clear c;rintro v o;exact⟨(p v).mp o,by rw[u7];simp;assumption⟩
 .rcases J.all f j q with h|⟨x,c,g⟩
  .exact .inl h
  .rcases v4 c with c|c
   .exact .inr (d0 x (G2 _ c) g)
   .rw[o9]at c;clear J n e;subst c;ext d4 g y rfl;cases y with|nil=>rw[Y5]at j;exact(KJ m j).elim|cons v y=>have d:x++[v]<+:x++v::y:=⟨y,by simp⟩;refine .inr (d0 (x++[v]) (K6 _ (B9 (a:=v) ((p v).mpr λt r=>?_) rfl)) d);let s:=z t r;obtain⟨D,T⟩:=s.1;clear s;exact T.pre (kz d) (q t r)
 .rcases v4 c with c|c
  .exact J.ap f j x (G2 _ c)
  .refine B5 c ?_;clear c;clear c;rintro v _;exact λh=>J.ap f j w (K6 _ P8) ((Qt w [v]).trans h)
 .rw[Qs];refine m0 n.1 ?_ λx c y u=>?_
  .rw[Y6];refine(BN A).imp λ{a b}k=>⟨λh=>k ?_,λh=>k ?_⟩
   .have E:=h.eq_of_length (by simp);simpa using E
   .have E:=h.eq_of_length (by simp);simpa using E.symm
  .ext B5 u v _;refine k9 (n.2.2 x c w P8) λC l=>⟨λh=>?_,λh=>l ((Qt w [v]).trans h)⟩;rcases List.prefix_concat_iff.mp h with h|h
   .exact l (by rw[h];exact Qt _ _)
   .exact C h
theorem CD.keys(h:CD st t)(b:p∈t.2.1):KD st (t.2.2 p) (Aa t.2.1 p)/\(Aa t.2.1 p).Nodup/\(Aa t.2.1 p).length<=1000:=by ext u0 h a c e;ext d4 a f T;refine d4 (T.cell p b) λd D=>m0 (Q6 _ d D ?_) (eQ T.nd p) (b6 (dQ _ _) c);unfold As;rw[v9];rfl
theorem CD.sub(h:CD st t)(a:p++[v]∈t.2.1):J9 (.ref (t.2.2 p)) (iD v) st=a0 (.ref (t.2.2 (p++[v]))):=by ext u0 h b c d;ext d4 b e T;exact d4 (T.cell p (T.up p v a)) λf D=>GE D (Uk _ _ _ _) (dR T.nd a)
inductive JW (ja aa oa fa wa:a6) (os:a7 a6) (tas:a7 Tr) (st:St) (m:a6) (ρ:Env) (st':St):Prop
 |mk (r1:ρ "self"=a0 (.ref ja)) (r2:ρ "atoms"=a0 (.ref aa)) (r3:ρ "order"=a0 (.ref oa)) (r4:ρ "found"=a0 (.ref fa)) (r5:ρ "waiting"=a0 (.ref wa)) (g:Fm (λb=>b=fa\/b=wa) st st')
  (ws:a7 (a7 a6)) (fs:a7 (a6×a7 a6)) (LW:d6 st' wa (ws.map (BX os tas))) (LF:d6 st' fa (fs.map λf=>.ref f.1)) (hfs:∀f∈fs,f.1≠fa/\f.1≠wa/\∃ep,m7 st' f.1 (CX os f.2) ep) (J:Jn os tas ws fs) (hm:V5 os.length ws=m)
structure JV (ja aa oa fa wa ua:a6) (os:a7 a6) (tas:a7 Tr) (w:a7 a6) (ws':a7 (a7 a6)) (vs:a7 a6) (st5:St) (i:a6) (ρ:Env) (st':St):Prop where
 r1:ρ "self"=a0 (.ref ja)
 r2:ρ "atoms"=a0 (.ref aa)
 r3:ρ "order"=a0 (.ref oa)
 r4:ρ "found"=a0 (.ref fa)
 r5:ρ "waiting"=a0 (.ref wa)
 r6:ρ "values"=a0 (m8 w)
 r7:ρ "tries"=a0 (.B (tas.map λt=>.ref (t.2.2 (pr t.1.2 os w))))
 r8:ρ "users"=a0 (.ref ua)
 g:Fm (λb=>b=wa) st5 st'
 L:d6 st' wa ((ws'++(vs.take i).map λv=>w++[v]).map (BX os tas))
theorem ru(hJ:v3 st ja "Joins" je jf)(hjf:jf.lookup "shared"=b4)(LA:d6 st aa ((tas.map (·.1)).map W8))(LO:d6 st oa (os.map sD))
 (hT:∀t∈tas,CD st t)(hno:os.Nodup)(S:os.length<=4)(F:tas.length<=3)(hcov:∀c∈os,∃t∈tas,c∈t.1.2)(hnl:∀t∈tas,t.1.2.length<=4)
 (LF:d6 st fa [])(LW:d6 st wa [BX os tas []])(hfw:fa≠wa)(hold:∀b,b<st.n->b≠fa->b≠wa->True)
 (z:ja≠fa/\ja≠wa/\je≠fa/\je≠wa/\aa≠fa/\aa≠wa/\oa≠fa/\oa≠wa)(hTa:∀t∈tas,∀p∈t.2.1,t.2.2 p≠fa/\t.2.2 p≠wa)
 (hq:∀U(fs:a7 (a6×a7 a6)),Fm (λb=>b=fa\/b=wa) st U->d6 U fa (fs.map λf=>.ref f.1)->(∀f∈fs,∃M,m7 U f.1 (CX os f.2) M)->(fs.map (·.2)).Nodup->(∀f,f∈fs.map (·.2)↔f.length=os.length/\Il os tas f)->Q (.ref fa) U)(r1:ρ "self"=a0 (.ref ja))(r2:ρ "atoms"=a0 (.ref aa))(r3:ρ "order"=a0 (.ref oa))(r4:ρ "found"=a0 (.ref fa))(r5:ρ "waiting"=a0 (.ref wa)):
 G6 (u9 u8 (k+2)) (Eg.body.drop 1) ρ st (DE Q):=by
 simp only[Eg,Hz,DU];exists 0;let J0:Jn os tas [[]] []:=by
  refine⟨λw hw=>?_,(λf B=>by cases B),λf B hg=>.inr (d0 [] P8 a7.nil_prefix),Bz,(λf B=>by cases B),OZ _ _,?_⟩
  .rw[o9]at hw;subst hw;refine⟨λt g=>?_,F9 _⟩;rw[Yu];refine k9 (hT t g) ?_;rintro z3 o;ext d4 z3 lo T;exact T.root
  .unfold V5 wt;simp
 refine Ox (I:=JW ja aa oa fa wa os tas st) (m:=V5 os.length [[]]) ?_
  ⟨r1,r2,r3,r4,r5,Fm.refl _,[[]],[],LW,LF,(λf B=>by cases B),J0,rfl⟩
 rintro m ρ st1 KK z1 hK;obtain⟨r1,r2,r3,r4,r5,g1,ws,fs,N,LF1,hfs,J,hm⟩:=z1;let h9:9 ^ os.length<=6561:=by let this:9 ^ os.length<=9 ^ 4:=Vo (by decide) S;exact this
 let hwl:=cu os.length ws;let hfew:=J.few;let e1:=X0 N;rw[f7]at e1;let e2:=ZE (j:=0);exists r5,e1,e2,rfl;clear e1 e2;cases hw:ws.reverse with
 |nil=>
  have hw0:ws=[]:=by rw[<-Pf ws,hw];rfl
  subst hw0;exists 0,r4;refine hq st1 fs g1 LF1 (λf B=>(hfs f B).2.2) J.nd λf=>?_;constructor
  .intro h;refine B5 h ?_;rintro x E;exact⟨(J.f x E).2,(J.f x E).1⟩
  .rintro z2;ext k9 z2 h1 Z;rcases J.all f h1 Z with h|⟨w,hw,_⟩
   .exact h
   .cases hw
 |cons w L=>
  let hw0:ws=L.reverse++[w]:=by rw[<-Pf ws,hw,Ph]
  generalize hws':L.reverse=u at hw0;subst hw0;rw[(by simp:decide (0<(u++[w]).length)=a8)];rw[p9]at N;exists 0,r5,N.I,N.kind,Zk,(XQ N);refine N5 (st1.set wa (.L (u.map (BX os tas)))) λl hs2=>?_;have g2:Fm (λb=>b=wa) st1 l:=by rw[<-hs2];exact Fm.set rfl
  have V:d6 l wa (u.map (BX os tas)):=by rw[<-hs2];exact d6.U N.1
  have W:=LF1.fr g2 hfw;have K:Fm (λb=>b=fa\/b=wa) st l:=g1.trans (g2.mono λb o q=>.inr q);have LO2:=LO.fr K λh=>h.elim z.2.2.2.2.2.2.1 z.2.2.2.2.2.2.2;have LA2:=LA.fr K λh=>h.elim z.2.2.2.2.1 z.2.2.2.2.2.1;have hfs2:∀f∈fs,f.1≠fa/\f.1≠wa/\∃M,m7 l f.1 (CX os f.2) M:=λf B=>by
   refine u0 (hfs f B) λq1 q2 L=>?_;ext d4 L M D;exact⟨q1,q2,M,D.fr g2 q2⟩
  let hT2:∀t∈tas,CD l t:=λt g=>by
   refine k9 (hT t g) ?_;rintro z4 Z;ext d4 z4 lo T;refine⟨⟨lo,T.root,T.nd,T.up,λp hp=>?_,T.inj,T.lo⟩,Z⟩;refine d4 (T.cell p hp) λM D=>?_;let this:=hTa t g p hp;exact⟨M,D.fr K λh=>h.elim this.1 this.2⟩
  let hup:CG ["values","tries"] (BX os tas w) l ρ=a0 ((ρ.set "values" (m8 w)).set "tries" (.B (tas.map λt=>.ref (t.2.2 (pr t.1.2 os w))))):=rfl;rw[hup];have hwn:=(J.w w (K6 _ P8)).2;have hwg:=(J.w w (K6 _ P8)).1;have e4:M4 .len [m8 w] l=a0 (iD w.length,l):=by
   let this:=GD (st:=l) (xs:=w.map iD) (by rw[f7];exact gA S hwn rfl)
   rwa [f7]at this
  let e5:=X0 LO2;rw[f7]at e5;exists e4,r3,e5,Do,rfl;let hwl2:u.length<=6561:=by rw[u7]at hwl;exact xA hfew h9 hwl
  by_cases y:w.length=os.length
  .rw[show decide (w.length=os.length)=a8 from by simpa using y];refine d4 (dg (w:=w) LO2 hno (gK S rfl)) λnn e6=>?_;exists r4,W.I,W.kind,X9,r3,e6,rfl;let R:=Ex.A l (.D (CX os w) nn);let D3:=m7.new l (CX os w) nn;generalize hda:l.n=da at D3;generalize l.A (.D (CX os w) nn)=X at R D3 ⊢;let LF3:=W.ex R;rw[LF3.kind,Rn LF3 (by rw[f7];exact b6 (G3 _ _) (b6 hfew (b6 h9 (by decide))))];exists 0;let hdf:da≠fa/\da≠wa:=by let this:=W.1;let this:=V.1;exact wT ‹_› hda this
   refine hK (V5 os.length u) _ _ ?_ ⟨r1,r2,r3,r4,r5,(K.trans (Fm.ex R)).trans (Fm.set (.inl rfl)),u,fs++[(da,w)],(V.ex R).set (C8 hfw),?_,λf B=>?_,(J.full y da),rfl⟩
   .rw[<-hm,OP];let this:V5 os.length [w]=1:=by unfold V5 wt;simp[y]
    exact vu this
   .rw[p9];exact d6.U LF3.1
   .rcases v4 B with B|B
    .refine u0 (hfs2 f B) λq1 q2 L=>?_;ext d4 L M D;exact⟨q1,q2,M,(D.ex R).set q1⟩
    .rw[o9]at B;subst B;exact⟨hdf.1,hdf.2,nn,D3.set hdf.1⟩
  .rw[show decide (w.length=os.length)=c8 from by simpa using y];let hi:=DX hwn y;refine d4 (O0 hi) λc hc=>?_;let hcm:=p8 hc;let elA:=X0 LA2;rw[f7,f7]at elA;exists 0,r2,elA;rw[g0 ⟨kI _,by unfold j8;exact Int.ofNat_le.mpr (b6 F (by decide))⟩];refine Ae (nx:=λi=>.range i tas.length) (xs:=(p0 tas.length).map iD) (p:=λx=>decide (c∈((tas.map (·.1))[t6 x]?.getD ([],[])).2)) (f:=id) (λi hi=>GP (by simpa using hi)) ?_ ?_
   .rintro j x O kk E hl C;refine c9 (Y3 E) ?_;rintro q A rfl;have r:q<tas.length:=U7 (p8 A);refine d4 (O0 r) λt g=>?_;have hta:(tas.map (·.1))[q]?=a0 t.1:=by rw[o7,g];rfl
    rw[O6,hta]at C;obtain⟨b,f4,hb⟩:=cQ (st:=l) (xs:=t.1.2.map sD) (d:=sD c) (λx E=>by
     refine B5 E ?_;rintro d o;rfl) rfl
    let hb':b=decide (c∈t.1.2):=by
     rw[P2,hb,C3];constructor
     .intro h;exact A8 h λd hd e=>Li e▸hd
     .exact λh=>V9 h
    exists r3,e4,(AX LO2 (gG hi S rfl) (by rw[o7,hc];rfl)),r2,(AX LA2 (gG r F rfl) (by rw[o7,hta];rfl)),(BR (i:=1) (M0 _ _) rfl),f4,rfl;rw[hb'];replace C:kk (if decide (c∈t.1.2)=a8 then O++[iD q]else O) l:=C;cases hd:decide (c∈t.1.2)with
    |true=>rw[hd]at C;exists rfl;refine⟨?_,C⟩;rw[f7,Br]at hl;unfold j8;exact gA F hl rfl
    |false=>rw[hd]at C;exact C
   .let hus:(V1 (λx=>decide (c∈((tas.map (·.1))[t6 x]?.getD ([],[])).2)) ((p0 tas.length).map iD)).map id=((p0 tas.length).filter λq=>decide (c∈((tas.map (·.1))[q]?.getD ([],[])).2)).map iD:=by rw[Ba,JH];congr 1
    exists rfl;rw[hus];generalize hus':(p0 tas.length).filter (λq=>decide (c∈((tas.map (·.1))[q]?.getD ([],[])).2))=us;have H:∀q,q∈us↔∃t,tas[q]?=a0 t/\c∈t.1.2:=λq=>by
     rw[<-hus',HD,Qd,C3];constructor
     .rintro z3;ext k9 z3 h1 Z;refine d4 (O0 h1) λt g=>?_;rw[(by rw[o7,g];rfl:(tas.map (·.1))[q]?=a0 t.1)]at Z;exact d0 t g Z
     .rintro z4;ext c9 z4 t g Z;rw[(by rw[o7,g];rfl:(tas.map (·.1))[q]?=a0 t.1)];exact⟨(x0 g),Z⟩
    have husl:us.length<=3:=by rw[<-hus'];let this:=DN (λq=>decide (c∈((tas.map (·.1))[q]?.getD ([],[])).2)) (p0 tas.length);rw[Br]at this;exact gA F this rfl
    have R:=Ex.A l (.L (us.map iD));let U3:=d6.new l (us.map iD);generalize hua:l.n=ua at U3;generalize l.A (.L (us.map iD))=X at R U3 ⊢;let hJ3:=(hJ.fr K (λe=>e.elim z.1 z.2.1) λe=>e.elim z.2.2.1 z.2.2.2.1).ex R;exists r1,hJ3.I,(Q4 U3),rfl;(try exists 0,r1,hJ3.I,(Q4 U3));refine M3 (hJ3.q hjf) (by decide) rfl ?_;refine Ae (nx:=λi=>.seq (.ref ua) i) (xs:=us.map iD) (p:=λo=>a8) (f:=λx=>.ref ((tas[t6 x]?.getD (([],[]),[],λo=>0)).2.2 (pr (tas[t6 x]?.getD (([],[]),[],λo=>0)).1.2 os w))) (λi hi=>R9 U3 i) ?_ ?_
    .rintro j x O kk E hl C;refine c9 (Y3 E) ?_;clear E;rintro q A rfl;refine c9 ((H q).mp (p8 A)) λt g o=>?_;rw[O6,g]at C;exists(BR (by let this:=x0 g;exact gG this F rfl) (by rw[o7,g];rfl)),rfl;rw[f7]at hl;exact⟨by unfold j8;exact gA husl hl rfl,by simpa using C⟩
    .refine N5 (us.map λq=>((tas[q]?.getD (([],[]),[],λo=>0)).2.2 (pr (tas[q]?.getD (([],[]),[],λo=>0)).1.2 os w),Aa (tas[q]?.getD (([],[]),[],λo=>0)).2.1 (pr (tas[q]?.getD (([],[]),[],λo=>0)).1.2 os w))) λP htr=>?_;let hL:(V1 (λo=>a8) (us.map iD)).map (λx=>b0.ref ((tas[t6 x]?.getD (([],[]),[],λo=>0)).2.2 (pr (tas[t6 x]?.getD (([],[]),[],λo=>0)).1.2 os w)))=P.map λt=>b0.ref t.1:=by rw[<-htr,Dd λo o=>rfl,v9,v9];refine A2 λq o=>(?_:b0.ref ((tas[t6 (iD q)]?.getD (([],[]),[],λo=>0)).2.2 (pr (tas[t6 (iD q)]?.getD (([],[]),[],λo=>0)).1.2 os w))=_);rw[O6];rfl
     exists 0;rw[hL];have x4:=Ex.A X (.L (P.map λt=>.ref t.1));have L4:=d6.new X (P.map λt=>b0.ref t.1);generalize hta:X.n=tl at L4;generalize X.A (.L (P.map λt=>.ref t.1))=st4 at x4 L4 ⊢;have htrm:∀s∈P,∃t∈tas,c∈t.1.2/\s=(t.2.2 (pr t.1.2 os w),Aa t.2.1 (pr t.1.2 os w)):=λs hs=>by
      rw[<-htr]at hs;ext B5 hs q A;refine c9 ((H q).mp A) λt g n=>v7 t (p8 g) n ?_;rw[g];rfl
     have Y:∀t∈tas,c∈t.1.2->(t.2.2 (pr t.1.2 os w),Aa t.2.1 (pr t.1.2 os w))∈P:=λt g n=>by
      refine d4 (N2 g) λq L=>d4 L ?_;clear L;clear g;rintro A rfl;let h1:=v5 A;rw[<-htr];refine B9 (a:=q) ((H q).mpr (d0 _ h1 n)) (?_);rw[h1];rfl
     refine xk (fs:=jf) L4 (λs hs=>?_) (λe=>?_) (by rw[<-htr,f7];exact gK husl rfl) λst5 vr vs x5 hvr L5 hvn hvm=>?_
     .refine y3 (htrm s hs) ?_;rintro t g o rfl;exact((λt g=>(hT2 t g).ex (R.trans x4):∀t∈tas,CD st4 t) t g).keys (hwg t g)
     .refine c9 (hcov c hcm) λt g n=>?_;let this:=Y t g n;rw[e]at this;cases this
     .exists(Q4 L5),rfl;have hvg:∀v,v∈vs↔Il os tas (w++[v]):=λv=>by
       rw[hvm v];constructor
       .intro h t g;rw[MW hc];by_cases n:c∈t.1.2
        .rw[g0 n];exact Gz.mp (h _ (Y t g n))
        .rw[j4 n,Y5];exact hwg t g
       .intro h s hs;refine y3 (htrm s hs) ?_;rintro t g n rfl;let this:=h t g;rw[MW hc,g0 n]at this;exact Gz.mpr this
      have hv8:vs.length<=8:=On hvn λv hv=>by
       refine c9 (hcov c hcm) λt g n=>?_;let this:=(hvg v).mp hv t g;rw[MW hc,g0 n]at this;exact(hT t g).2.2 _ this v (K6 _ P8)
      have X5:=R.trans (x4.trans x5);refine k9 (J.step hT hi hvn hv8 hvg) λJ' hlt=>?_;refine BC (nx:=λi=>.seq (.ref vr) i) (xs:=vs.map iD) (I:=JV ja aa oa fa wa ua os tas w u vs st5) (λi ρ' U hi hI=>R9 (L5.fr hI.g (by let this:=V.1;let this:=X5.1;let this:=R.1;let this:=x4.1;exact L0 (j7 ‹_› (b6 ‹_› (b6 this hvr))))) i) ?_ ?_
       ⟨r1,r2,r3,r4,r5,rfl,rfl,rfl,Fm.refl _,by rw[Gp,V7,Y5];exact V.ex X5⟩
      .rintro i x ρ' G kk E z5 hk1 hk2;obtain⟨s1,s2,s3,s4,s5,s6,s7,s8,g6,LW6⟩:=z5;refine c9 (Y3 E) ?_;rintro v hv rfl;let hiv:=x0 hv;have g56:Fm (λb=>b=fa\/b=wa) st G:=(K.trans (Fm.ex X5)).trans (g6.mono λb o q=>.inr q);let hT6:∀t∈tas,CD G t:=λt g=>by
        refine k9 (hT t g) ?_;rintro z5 Z;ext d4 z5 lo T;refine⟨⟨lo,T.root,T.nd,T.up,λp hp=>?_,T.inj,T.lo⟩,Z⟩;refine d4 (T.cell p hp) λM D=>?_;let this:=hTa t g p hp;exact⟨M,D.fr g56 λh=>h.elim this.1 this.2⟩
       let elA6:=X0 (LA.fr g56 λh=>h.elim z.2.2.2.2.1 z.2.2.2.2.2.1);rw[f7,f7]at elA6;exists 0,s2,elA6;rw[g0 ⟨kI _,by unfold j8;exact Int.ofNat_le.mpr (b6 F (by decide))⟩];refine Ae (nx:=λi=>.range i tas.length) (xs:=(p0 tas.length).map iD) (p:=λo=>a8) (f:=λx=>.ref ((tas[t6 x]?.getD (([],[]),[],λo=>0)).2.2 (pr (tas[t6 x]?.getD (([],[]),[],λo=>0)).1.2 os (w++[v])))) (λi hi=>GP (by simpa using hi)) ?_ ?_
       .rintro j x O kk' E hl C;refine c9 (Y3 E) ?_;clear E;rintro q A rfl;have r:q<tas.length:=U7 (p8 A);refine d4 (O0 r) λt g=>?_;let htm:=p8 g;rw[O6,g]at C;have hl':O.length<=j8:=by rw[f7,Br]at hl;unfold j8;exact gA F hl rfl
        let f1:J9 (.B (tas.map λt=>.ref (t.2.2 (pr t.1.2 os w)))) (iD q) G=a0 (.ref (t.2.2 (pr t.1.2 os w))):=BR (gG r F rfl) (by rw[o7,g];rfl);obtain⟨b,f2,hb⟩:=Yz ((U3.ex (x4.trans x5)).fr g6 (by let this:=V.1;exact gf this hua)) (d:=iD q) (λx E=>by
         ext B5 E d o;rfl) rfl
        have hb':b=a8↔c∈t.1.2:=by
         rw[hb];constructor
         .intro h;refine A8 h λd hd e=>?_;let this:=EE e;clear A E r f1 f2 hb h e;subst this;refine c9 ((H d).mp hd) λt' ht' n=>?_;rw[g]at ht';cases ht';exact n
         .exact λh=>V9 ((H q).mpr (d0 t g h))
        let hgt:=((hvg v).mp (p8 hv)) t htm;rw[MW hc]at hgt C;replace C:kk' (O++[b0.ref (t.2.2 (pr t.1.2 os w++if c∈t.1.2 then[v]else[]))]) G:=C;exists s8,s7,f1,f2,rfl;clear f2 hb;cases b with
        |true=>rw[g0 (hb'.mp rfl)]at hgt C;exists s7,f1,((hT6 t htm).sub hgt),rfl;exact⟨hl',by simpa using C⟩
        |false=>rw[j4 (λh=>by cases hb'.mpr h:c∉t.1.2),Y5]at C;exists s7,f1,rfl;exact⟨hl',by simpa using C⟩
       .let hlate:(V1 (λo=>a8) ((p0 tas.length).map iD)).map (λx=>b0.ref ((tas[t6 x]?.getD (([],[]),[],λo=>0)).2.2 (pr (tas[t6 x]?.getD (([],[]),[],λo=>0)).1.2 os (w++[v]))))=tas.map λt=>b0.ref (t.2.2 (pr t.1.2 os (w++[v]))):=by
         rw[Dd λo o=>rfl,v9];apply Gx;intro q;rw[o7,o7];by_cases r:q<tas.length
         .rw[JB r,v5 r];simp only[Au,HV];rw[O6,v5 r];rfl
         .rw[AA (by simp;exact Vj r),AA (Vj r)];rfl
        exists rfl;rw[hlate];let x7:=Ex.A G (.L (tas.map λt=>b0.ref (t.2.2 (pr t.1.2 os (w++[v])))));let L7:=d6.new G (tas.map λt=>b0.ref (t.2.2 (pr t.1.2 os (w++[v]))));generalize G.A (.L (tas.map λt=>b0.ref (t.2.2 (pr t.1.2 os (w++[v])))))=st7 at x7 L7 ⊢;let LW7:=LW6.ex x7;let f3:V3 .add (m8 w) (.B [iD v]) st7=a0 (m8 (w++[v]),st7):=by let this:=IS (st:=st7) (xs:=w.map iD) (ys:=[iD v]) (by rw[f7];simp;exact gG hi S rfl);unfold m8;rw[p9];exact this
        exists s5,LW7.I,LW7.kind,X9,s6,f3,(EC L7),rfl;rw[Rn LW7 (by
         rw[f7,u7,f7,O9];exact b6 (U0 hwl2 (Hd hv8)) (by decide))]
        exists 0;refine(hk1 _ _ ⟨by exact s1,by exact s2,by exact s3,by exact s4,by exact s5,by exact s6,by exact s7,by exact s8,(g6.trans (Fm.ex x7)).trans (Fm.set rfl),?_⟩).1;let happ:(u++(vs.take (i+1)).map λv=>w++[v])=(u++(vs.take i).map λv=>w++[v])++[w++[v]]:=by rw[Ak,hv,p9,Eb];rfl
        let hme:(u++(vs.take (i+1)).map λv=>w++[v]).map (BX os tas)=(u++(vs.take i).map λv=>w++[v]).map (BX os tas)++[BX os tas (w++[v])]:=by rw[happ,p9];rfl
        rw[hme];exact d6.U LW7.1
      .rintro ρ' G z6;obtain⟨s1,s2,s3,s4,s5,s6,s7,s8,g6,LW6⟩:=z6;rw[f7,X4]at LW6;exists 0;refine hK _ _ _ ?_ ⟨s1,s2,s3,s4,s5,(K.trans (Fm.ex X5)).trans (g6.mono λb o q=>.inr q),_,fs,LW6,(W.ex X5).fr g6 hfw,λf B=>?_,J',rfl⟩
       .rw[<-hm];exact hlt
       .refine u0 (hfs2 f B) λq1 q2 L=>?_;ext d4 L M D;exact⟨q1,q2,M,(D.ex X5).fr g6 q2⟩def sg(os f:a7 a6)(c:a6):a6:=f.getD (os.idxOf c) 0
theorem Ib{os:a7 a6}(h:os.Nodup)(j:f.length=os.length):os.zip f=os.map λc=>(c,sg os f c):=by
 apply Gx;intro i;rw[o7];by_cases b:i<os.length
 .let d:=v5 b;let e:=j7 b (A1 j.symm);let g:=v5 e;rw[d,(Mz (z:=(os[i],f[i]))).mpr ⟨d,g⟩];let a:os.idxOf os[i]=i:=by
   let k:os[os.idxOf os[i]]?=a0 os[i]:=by rw[v5 (Fz (EO b)),Pm]
   exact Ef h k d
  refine(?_:a0 (os[i],f[i])=a0 (os[i],sg os f os[i]));unfold sg;rw[a,AB,g];rfl
 .rw[AA (by rw[PY];exact Jh (Nat.not_lt.mp b)),AA (Bm ‹_›)];rfl
theorem yG{ns:a7 a6}(a:os.Nodup)(b:f.length=os.length):pr ns os f=(os.filter λc=>decide (c∈ns)).map (sg os f):=by unfold pr;rw[Ib a b,JH,v9];congr 1
theorem fH{ns os f:a7 a6}{ps b:a7 (a7 a6)}(p:∀q,q∈ps↔q=[]\/∃l∈b,BA ns l=a8/\∃t,t<=(proj ns os l).length/\q=(proj ns os l).take t)(C:os.Nodup)(D:f.length=os.length)(g:∀c∈ns,c∈os)(x:ns≠[])
 (i:∀l∈b,l.length=ns.length):pr ns os f∈ps↔ns.map (sg os f)∈b:=by
 rw[yG C D,p];let y:(os.filter λc=>decide (c∈ns))≠[]:=by
  clear p i;cases ns with
  |nil=>exact(x rfl).elim
  |cons c r=>intro e;have H:c∈os.filter λE=>decide (E∈c::r):=BH (g c j5) (by simp);rw[e]at H;cases H
 constructor
 .rintro(h|⟨l,s,u,t,F,v⟩)
  .exact(y (List.map_eq_nil_iff.mp h)).elim
  .let z:(proj ns os l).length=(os.filter λc=>decide (c∈ns)).length:=by unfold proj;rw[f7]
   let A:t=(proj ns os l).length:=by let H:=t0 CL v;rw[f7,O9]at H;exact((z.trans H).trans (EJ F)).symm
   rw[A,X4]at v;have d:∀c∈ns,sg os f c=l.getD (ns.idxOf c) 0:=λc d=>by
    unfold proj at v;let H:=List.map_inj_left.mp v c (BH (g c d) (by simpa using d));exact H
   have n:=i l s;let H:ns.map (sg os f)=l:=by
    apply Gx;intro k;rw[o7];by_cases a:k<ns.length
    .let B:=j7 a (A1 n.symm);rw[v5 a,v5 B];let w:=S9 u k (CC a);rw[Ai]at w;rw[(by rw[AB,v5 a];rfl:ns.getD k 0=ns[k]),(by rw[AB,v5 (show k<l.length by exact Cv a n)];rfl:l.getD k 0=l[k])]at w;refine(?_:a0 (sg os f ns[k])=a0 l[k]);rw[d _ (EO a),<-w]
    .rw[AA (Bm ‹_›),AA (n▸Nat.not_lt.mp a)];rfl
   rw[H];exact s
 .intro h;have j:∀k,k<ns.length->(ns.map (sg os f)).getD k 0=sg os f (ns.getD k 0):=λk a=>by
   rw[AB,o7,v5 a,AB,v5 a];rfl
  let m:∀c,c∈ns->(ns.map (sg os f)).getD (ns.idxOf c) 0=sg os f c:=λc d=>by
   rw[j _ (Fz d)];congr 1;rw[AB,v5 (Fz d),Pm];rfl
  let o:proj ns os (ns.map (sg os f))=(os.filter λc=>decide (c∈ns)).map (sg os f):=by
   refine A2 λc d=>?_;let H:c∈ns:=by simpa using(Gy d)
   exact m c H
  refine .inr ⟨_,h,?_,(proj ns os (ns.map (sg os f))).length,l8 _,?_⟩
  .unfold BA;rw[V8];intro k a;let a:=U7 a;rw[Ai,j k a];let G:ns.getD k 0∈ns:=by rw[AB,v5 a];exact EO a
   rw[m _ G]
  .rw[X4,o]
theorem vz{st:St}{ja:a6}{os:a7 a6}{ats:a7 AV}{tbs:a7 Tb}{ev:a7 Ev}{Q:Q1}(J:Ia st ja je ta te rd lo tbs ev)(LA:d6 st aa (ats.map W8))(LO:d6 st oa (os.map sD))
 (N:os.Nodup)(ho4:os.length<=4)(ht3:ats.length<=3)(hcov:∀c∈os,∃a∈ats,c∈a.2)(v:∀a∈ats,a.2≠[]/\a.2.length<=4/\∀c∈a.2,c∈os)
 (O:∀a∈ats,(E9 ev (a.1,a.2.length)).length<=20/\∀l∈E9 ev (a.1,a.2.length),l.length=a.2.length/\∀x∈l,x<8)
 (hq:∀o r(fs:a7 (a6×a7 a6)),Ex st o->d6 o r (fs.map λf=>.ref f.1)->(∀f∈fs,∃ep,m7 o f.1 (CX os f.2) ep)->(fs.map (·.2)).Nodup->(∀f,f∈fs.map (·.2)↔f.length=os.length/\∀a∈ats,a.2.map (sg os f)∈E9 ev (a.1,a.2.length))->Q (.ref r) o):
 u9 u8 (k+3) "Joins" "joined" [.ref ja,.ref aa,.ref oa] st Q:=by
 refine D0 (fd:=Eg) rfl rfl ?_;let d:=J.j;ext1 d cr hJ;let hb:Eg.body=Eg.body.head (by simp[Eg])::Eg.body.drop 1:=rfl;rw[hb];generalize R:Eg.body.drop 1=rest;simp only[Eg,HU];exists rfl;let Y:=Ex.A st (.L []);let Z:=d6.new st [];generalize hfa:st.n=fa at Z;generalize st.A (.L [])=st1 at Y Z ⊢;let LA1:=LA.ex Y;exists(Q4 LA1),rfl;refine CS (nx:=λi=>.seq (.ref aa) i) (xs:=ats.map W8) (I:=λi o C=>Ex st1 o/\∃g:a7 Tr,g.map (·.1)=ats.take i/\C=g.map (λt=>.ref (t.2.2 []))/\∀t∈g,CD o t/\∀q,q∈t.2.1↔q=[]\/∃l∈E9 ev (t.1.1,t.1.2.length),BA t.1.2 l=a8/\∃tt,tt<=(proj t.1.2 os l).length/\q=(proj t.1.2 os l).take tt)
  (λi o C hi hI=>R9 (LA1.ex hI.1) i) ?_ ?_ ⟨Ex.refl _,[],rfl,rfl,λt j=>by cases j⟩
 .rintro i x E C kk A V hk;ext k9 V K rr;ext y3 rr g m rfl s;rw[o7,Av]at A;ext c9 A a n rfl;let ham:=p8 n;have J2:=(J.ex Y).ex K;let d:=J2.j;ext1 d cr2 hJ2;exists(rfl:AD ["op","names"] (W8 a) ((FW ["self","atoms","order"] [.ref ja,.ref aa,.ref oa]).clear [".0","op","names"])=a0 ((((FW ["self","atoms","order"] [.ref ja,.ref aa,.ref oa]).clear [".0","op","names"]).set "op" (.str a.1)).set "names" (.B (a.2.map sD)))),(hJ2.C rfl rfl),J2.t.I,rfl;refine J2.t.go (k9 (O a ham) λhl1 F=>?_);let d:=v a ham;ext1 d G hns H;refine fx J2.t J2.T ((LO.ex Y).ex K) hns ho4 hl1 (λl hl=>(F l hl).1) λu ps ad lo3 B T3 hpl hps=>?_;let htl:g.length<=3:=by let b:=t0 CL m;rw[f7,O9]at b;exact b6 (A1 b) (Hd ht3)
  refine⟨by rw[f7];exact p6,hk u _ ⟨K.trans B,g++[(a,ps,ad)],?_,by rw[p9];rfl,λt j=>?_⟩⟩
  .rw[p9,m,Ak,n];rfl
  .rcases v4 j with j|j
   .exact⟨(s t j).1.ex B,(s t j).2⟩
   .rw[o9]at j;subst j;refine⟨(m0 ⟨lo3,T3⟩ hpl λp L x A=>?_),hps⟩;rcases(hps p).mp L with h|⟨l,hlm,_,tt,_,hpt⟩
    .rw[h]at A;cases A
    .rw[hpt]at A;refine B5 (show x∈(os.filter λc=>decide (c∈a.2)).map _ from(LV A)) ?_;clear A;rintro c hc;let d:=F l hlm;ext1 d y h2;let hix:a.2.idxOf c<l.length:=by rw[y];exact Fz (by simpa using(Gy hc):c∈a.2)
     rw[AB,v5 hix];exact h2 _ (EO hix)
 .rintro E C W;ext k9 W K rr;ext y3 rr g m rfl s;rw[f7,X4]at m;exists 0;let B:=Ex.A E (.L (g.map λt=>b0.ref (t.2.2 [])));have L3:=d6.new E (g.map λt=>b0.ref (t.2.2 []));generalize E.A (.L (g.map λt=>b0.ref (t.2.2 [])))=u at B L3 ⊢;exists 0,(EC L3),Et;have M:∀t∈g,∀p∈t.2.1,t.2.2 p<u.n:=λt j p L=>by
   let d:=(s t j).1.ex B;ext1 d V z;ext1 V lo' T;let d:=T.cell p L;ext1 d z D;exact D.1
  have S:∀t∈g,∀p∈t.2.1,t.2.2 p≠fa:=λt j p L e=>by
   let d:=(s t j).1;ext1 d W z;ext1 W lo' T;refine d4 (T.cell p L) λz D=>?_;have y:=(Z.ex K).2;rw[<-e,D.2]at y;cases y
  have U:(b0.B [.B [],.B (g.map λt=>b0.ref (t.2.2 []))])=BX os g []:=by
   unfold BX;let b:(g.map λt=>b0.ref (t.2.2 (pr t.1.2 os [])))=g.map λt=>b0.ref (t.2.2 []):=A2 λt z=>by rw[Yu]
   rw[b];rfl
  rw[U];let x4:=Ex.A u (.L [BX os g []]);let W4:=d6.new u [BX os g []];generalize hwa:u.n=wa at W4 M;revert x4 W4;refine gen (u.A (.L [BX os g []])) λst4 x4 W4=>?_;have hst:st.n=fa:=hfa;have P:=Z.1;have w:st1.n<=wa:=by have b:=K.1;let b:=B.1;exact hwa▸b6 ‹_› b
  have X:Ex st st4:=Y.trans (K.trans (B.trans x4));rw[<-R];refine ru (tas:=g) (os:=os) (hJ.ex X) rfl (by rw[m];exact LA.ex X) (LO.ex X) (λt j=>(s t j).1.ex (B.trans x4)) N ho4 (by rw[<-f7 (f:=(·.1)),m];exact ht3) (λc hc=>?_) (λt j=>?_) (Z.ex (K.trans (B.trans x4))) W4 (m6 (j7 P w)) (λz z z z=>trivial) (rY hst P w hJ.1 hJ.2.2.1 LA.1 LO.1) (λt j p L=>⟨S t j p L,by let b:=M t j p L;exact m6 ‹_›⟩)
   (λst5 fs g5 L5 D5 hnd hm=>?_) rfl rfl rfl rfl rfl
  .let d:=hcov c hc;ext1 d a n hca;rw[<-m]at n;ext A8 n t j rfl;exact d0 t j hca
  .let b:t.1∈ats:=by rw[<-m];exact V9 j
   exact(v _ b).2.1
  .refine hq st5 fa fs (X.fm g5 λb hb=>wA hb hst P w) L5 D5 hnd λf=>?_;rw[hm f];constructor
   .rintro z3;ext1 z3 y h2;refine⟨y,λa n=>?_⟩;let d:=v a n;ext1 d G z H;let F:=(O a n).2;rw[<-m]at n;ext A8 n t j rfl;exact(fH (s t j).2 N y H G λl hl=>(F l hl).1).mp (h2 t j)
   .rintro z4;ext1 z4 y h2;refine⟨y,λt j=>?_⟩;have n:t.1∈ats:=by rw[<-m];exact V9 j
    let d:=v _ n;ext1 d G z H;exact(fH (s t j).2 N y H G λl hl=>(((O _ n).2) l hl).1).mpr (h2 _ n)abbrev En:=a7 (a6×a6)def eD(e:En):a7 (b0×b0):=e.map λp=>(sD p.1,iD p.2)def Ej(e:En):Prop:=(e.map (·.1)).Nodup/\∀p∈e,Ji p.1
theorem Ej.len(h:Ej e):e.length<=4:=by
 let a:=V2 (m:=[120,121,122,119]) h.1 λc b=>by
  ext B5 b p d;rcases h.2 p d with q|q|q|q<;>rw[q]<;>simp
 rwa [f7]at a
def lk(e:En)(c:a6):a6:=(e.lookup c).getD 0
theorem SM:∀{e:En}{c v:a6},e.lookup c=a0 v->(c,v)∈e
 |[],c,v,h=>by simp at h
 |(d,w)::e,c,v,h=>by
  rw[BI]at h;by_cases q:c=d
  .subst q;simp at h;rw[h];exact j5
  .rw[show(c==d)=c8 from by simpa using q]at h;exact k8 _ (SM h)
theorem Jp:∀{e:En}{c v:a6},(e.map (·.1)).Nodup->(c,v)∈e->e.lookup c=a0 v:=by
 intro g
 induction g with
 |nil=>intro c v k h;cases h
 |cons i e j=>
  obtain⟨d,w⟩:=i;intro c v b h;rw[y4,Ax]at b;rw[BI];rcases D2 h with h|h
  .cases h;simp
  .have f:c≠d:=λq=>b.1 (by rw[<-q];exact B9 (a:=(c,v)) h rfl);rw[show(c==d)=c8 from by simpa using f];exact j b.2 h
theorem Zy{e:En}{c:a6}(h:e.lookup c=b4):c∉e.map (·.1):=by
 intro a
 induction e with
 |nil=>cases a
 |cons p e b=>
  obtain⟨d,w⟩:=p;rw[BI]at h;by_cases q:c=d
  .clear a;subst q;simp at h
  .rw[show(c==d)=c8 from by simpa using q]at h;rw[y4,K5]at a;exact b h (a.resolve_left q)
def Ar:En->a7 (a6×a6)->j0 En
 |e,[]=>a0 e
 |e,(c,v)::r=>match e.lookup c with
  |some u=>if u=v then Ar e r else b4
  |none=>Ar (e++[(c,v)]) r
theorem SC(e:En)(c v:a6)(r:a7 (a6×a6)):Ar e ((c,v)::r)=match e.lookup c with
 |some u=>if u=v then Ar e r else b4
 |none=>Ar (e++[(c,v)]) r:=rfl
theorem eK:v8 (eD e) (sD c)=a8:=by unfold v8 eD;simp only[C2,V8,Fq];refine⟨rfl,?_⟩;rintro x a;ext c9 a p _ rfl;rfl
theorem ct:∀{e:En}{c:a6},t4 (eD e) (sD c)=(e.lookup c).map iD:=by
 intro b
 induction b with
 |nil=>intro c;exact rfl
 |cons f e a=>
  obtain⟨d,w⟩:=f;intro c;have a:=a (c:=c);unfold t4 eD at a ⊢;rw[y4,Pk,BI];rw[bS];by_cases q:c=d
  .subst q;simp
  .rw[show(c==d)=c8 from by simpa using q,show decide (d=c)=c8 from by simpa using λh:d=c=>q h.symm];exact a
theorem jj:∀(r:a7 (a6×a6))(e g:En),Ar e r=a0 g->Ej e->(∀p∈r,Ji p.1)->Ej g/\(∀p∈e,p∈g)/\(∀p∈r,p∈g)/\(∀c,c∈g.map (·.1)↔c∈e.map (·.1)\/c∈r.map (·.1)):=by
 intro z
 induction z with
 |nil=>intro e g h i C;cases h;exact M3 i (λp f=>f) (λp f=>by cases f) λc=>by simp
 |cons A r t=>
  obtain⟨c,v⟩:=A;intro e g h i k;rw[SC]at h;cases l:e.lookup c with
  |some u=>
   rw[l]at h;dsimp only at h;by_cases q:u=v
   .rw[g0 q]at h;subst q;have w:=SM l;refine CB (t e g h i λp f=>k p (k8 _ f)) λm j n o=>M3 m j (λp f=>?_) λd=>?_
    .rcases D2 f with rfl|f
     .exact j _ w
     .exact n p f
    .rw[o d,y4,K5];constructor
     .rintro(x|x)
      .exact .inl x
      .exact .inr (.inr x)
     .rintro(x|x|x)
      .exact .inl x
      .rw[x];exact .inl (B9 (a:=(c,u)) w rfl)
      .exact .inr x
   .rw[j4 q]at h;cases h
  |none=>
   rw[l]at h;dsimp only at h;have s:Ej (e++[(c,v)]):=by
    refine⟨?_,λp f=>?_⟩
    .rw[p9,BM];refine m0 i.1 (by simp) λa B b y q=>?_;simp only[y4,V7,o9]at y;clear k h;subst y q;exact(Zy l) B
    .rcases v4 f with f|f
     .exact i.2 p f
     .rw[o9]at f;subst f;exact k _ j5
   refine CB (t (e++[(c,v)]) g h s λp f=>k p (k8 _ f)) λm j n o=>M3 m (λp f=>j p (G2 _ f)) (λp f=>?_) λd=>?_
   .rcases D2 f with rfl|f
    .exact j _ (K6 _ P8)
    .exact n p f
   .rw[o d];simp only[p9,Gd,y4,V7,K5,J8,X6];constructor
    .rintro((x|x)|x)
     .exact .inl x
     .exact .inr (.inl x)
     .exact .inr (.inr x)
    .rintro(x|x|x)
     .exact .inl (.inl x)
     .exact .inl (.inr x)
     .exact .inr x
theorem aq(σ:a6->a6):∀(r:a7 (a6×a6))(e:En),(∀p∈e,p.2=σ p.1)->(∀p∈r,p.2=σ p.1)->∃f,Ar e r=a0 f/\∀p∈f,p.2=σ p.1:=by
 intro i
 induction i with
 |nil=>intro e b m;exact d0 e rfl b
 |cons j r g=>
  obtain⟨c,v⟩:=j;intro e b d;have h:v=σ c:=d (c,v) j5;rw[SC];cases k:e.lookup c with
  |some u=>dsimp only;have l:u=σ c:=b _ (SM k);rw[g0 (by rw[l,h])];exact g e b λp a=>d p (k8 _ a)
  |none=>
   refine g _ (λp a=>?_) λp a=>d p (k8 _ a);rcases v4 a with a|a
   .exact b p a
   .rw[o9]at a;subst a;exact h
theorem cg(D:m7 st a (eD e) ep)(h:e.length<=4):M4 .dict [.ref a] st=a0 (.ref st.n,st.A (.D (eD e) (eD e).length)):=by refine(?_:((st.dict? (.ref a)).bind λb=>if b.length<=8/\b.all (λe=>match e.1 with| .str _=>a8|_=>c8)then a0 (b0.ref st.n,st.A (.D b b.length))else b4)=_);rw[D.dict,Dk,g0];refine⟨gH (by unfold eD;rw[f7]:(eD e).length=e.length) h rfl,Cw λx c=>B5 c ?_⟩;clear c;rintro p _;rfl
theorem gq{st:St}{X:a6}{e:En}{ns:a7 a6}{Q:Q1}(D:m7 st X (eD e) ep)(Y:Ej e)(P:∀c∈ns,Ji c)(Z:l.length=ns.length)(hn4:ns.length<=4)
 (R:Ar e (ns.zip l)=b4->∀d,Ex st d->Q .none d)(S:∀e' d a T,Ar e (ns.zip l)=a0 e'->Ex st d->m7 d a (eD e') T->Q (.ref a) d):
 u9 u8 (k+1) "" "_law_fitted" [.ref X,.B (ns.map sD),m8 l] st Q:=by
 refine D0 (fd:=Tf) rfl rfl ?_;delta Tf;exists(cg D Y.len),rfl;let L:=Ex.A st (.D (eD e) (eD e).length);let M:=m7.new st (eD e) (eD e).length;let hfan:st.n=st.n:=rfl;generalize H:st.n=N at M;revert L M;refine gen (st.A (.D (eD e) (eD e).length)) λs L M=>?_;have i1:s.items? (.B (ns.map sD))=a0 (ns.map sD):=rfl;have i2:s.items? (m8 l)=a0 (l.map iD):=rfl;exists 0,i1,i2;refine BC (nx:=λi=>.zip (.B (ns.map sD)) (m8 l) i) (xs:=(ns.zip l).map λp=>.B [sD p.1,iD p.2]) (I:=λi ρ d=>Fm (λb=>b=N) s d/\ρ "found"=a0 (.ref N)/\
  ∃(f:En)(h:a6),m7 d N (eD f) h/\Ej f/\Ar e (ns.zip l)=Ar f ((ns.zip l).drop i)) (λi ρ d hi hI=>?_) ?_ ?_ ⟨Fm.refl _,rfl,e,_,M,Y,by rw[DU]⟩
 .refine(?_:((d.items? (.B (ns.map sD))).bind λxs=>(d.items? (m8 l)).map λys=>match xs[i]?,ys[i]? with
   |some x,a0 y=>a0 (b0.B [x,y],It.zip (.B (ns.map sD)) (m8 l) (i+1))
   |_,_=>b4)=_)
  let j1:d.items? (.B (ns.map sD))=a0 (ns.map sD):=rfl;let j2:d.items? (m8 l)=a0 (l.map iD):=rfl;rw[j1,j2];simp only[Dk,Au];rw[o7,o7,o7];by_cases t:i<ns.length
  .let h1:=v5 t;let U:=Cv t Z;let h2:=v5 U;rw[(Mz (z:=(ns[i],l[i]))).mpr ⟨h1,h2⟩,h1,h2];rfl
  .rw[AA (l:=ns) (Bm ‹_›),AA (l:=ns.zip l) ((by rw[PY];exact EJ (A1 Z.symm):(ns.zip l).length=ns.length)▸Nat.not_lt.mp t)];rfl
 .rintro i x ρ w kk O z2 J V;ext u0 z2 C E F;ext o0 F f h o m g;rw[o7,Av]at O;ext c9 O ⟨c,v⟩ j rfl;have n:(ns.zip l).drop i=(c,v)::(ns.zip l).drop (i+1):=by rw[nD (x0 j)];congr 1;exact(FN j).2
  rw[n,SC]at g;let K:=P c ((JZ (p8 j)).1);let G:=ct (e:=f) (c:=c);let hel:=m.len;have r:(eD f).length<=1000:=by unfold eD;rw[f7];exact p6
  exists 0,E,o.I,o.kind,HZ;cases A:f.lookup c with
  |some u=>
   rw[A]at g G;dsimp only at g;rw[KZ o eK r G];exists FT,rfl;by_cases q:u=v
   .rw[g0 q]at g;rw[show decide (u≠v)=c8 from by simpa using q];exists 0;exact(J _ _ ⟨C,by exact E,f,h,o,m,g⟩).1
   .rw[j4 q]at g;rw[show decide (u≠v)=a8 from by simpa using q];exists 0;exact V _ _ _ (R g w (L.fm C λb B=>OO B H))
  |none=>
   rw[A]at g G;dsimp only at g;rw[KB o eK r G];exists FT,rfl;rw[(by unfold eD;rw[p9];rfl:eD f++[(sD c,iD v)]=eD (f++[(c,v)]))];have W:Ej (f++[(c,v)]):=by
    refine⟨?_,λp j=>?_⟩
    .rw[p9,BM];refine m0 m.1 (by simp) λa ha b B q=>?_;simp only[y4,V7,o9]at B;clear g j n K G;subst B q;exact(Zy A) ha
    .rcases v4 j with j|j
     .exact m.2 p j
     .rw[o9]at j;subst j;exact K
   rw[show decide (v≠v)=c8 from by simp];exists 0;exact(J _ _ ⟨C.trans (Fm.set rfl),by exact E,f++[(c,v)],h+1,m7.U o.1,W,g⟩).1
 .rintro ρ w z3;ext u0 z3 C E F;ext o0 F f h o m g;rw[f7,a7.drop_length]at g;exists 0,E;exact S f w N h g (L.fm C λb B=>OO B H) o
def W1(nodes:a7 Nd)(R:a6->a6)(n:a6):j0 Nd:=(nodes[n]?).map (q6 R)def first(nodes:a7 Nd)(R:a6->a6)(n:a6):b7:=(p0 n).all λm=>W1 nodes R m != W1 nodes R n
def r0(nodes:a7 Nd)(R:a6->a6)(n:a6):a6:=((p0 nodes.length).find? λm=>W1 nodes R m==W1 nodes R n).getD n
theorem GX(d:n<nodes.length):r0 nodes R n<=n/\W1 nodes R (r0 nodes R n)=W1 nodes R n/\∀m,m<r0 nodes R n->W1 nodes R m≠W1 nodes R n:=by
 unfold r0;rcases ZS (f:=λm=>W1 nodes R m==W1 nodes R n) (n:=nodes.length)with⟨k,i,b,e,c⟩|⟨b,a⟩
 .rw[b];refine(m0 ?_ (by simpa using e) (λm g=>by simpa using c m g));apply CM;intro h;let j:=c n (Yw ‹_›);simp at j
 .have j:=a n d;simp at j
theorem MT:first nodes R n=a8↔∀m,m<n->W1 nodes R m≠W1 nodes R n:=by
 unfold first
 rw[V8];constructor
 .intro h m a;have b:=h m (CC a);simpa using b
 .intro h m a;have b:=h m (U7 a);simpa using b
theorem bF(b:n<nodes.length):first nodes R (r0 nodes R n)=a8:=by let a:=GX (R:=R) b;ext1 a f c d;exact MT.mpr λm e=>by rw[c];exact d m e
theorem Yk(c:n<nodes.length)(h:first nodes R n=a8):r0 nodes R n=n:=by let a:=GX (R:=R) c;ext1 a d e f;apply CM;intro b;exact MT.mp h _ (DX d b) e
def Dl(nodes:a7 Nd)(R:a6->a6):a7 a6:=(p0 nodes.length).filter λn=>first nodes R n&&R n != n
structure Mi (N:a7 Nd) (P:a7 (a6×a6)) (R M:a6->a6) (done:a7 (a6×a6)):Prop where
 le:∀n,n<N.length->M n<=n
 iE:∀n,n<N.length->M (M n)=M n
 sub:∀n,n<N.length->R (M n)=R n
 coarse:∀m n,m<N.length->n<N.length->W1 N R m=W1 N R n->M m=M n
 tO:∀p∈done,M p.1=M p.2
 few:K0 M N.length<=K0 (r0 N R) N.length+done.length
theorem QV(f:Lc nodes P R)(g:m<nodes.length)(i:n<nodes.length)(h:W1 nodes R m=W1 nodes R n):R m=R n:=by refine d4 (O0 g) λa e=>?_;let c:=O0 i;ext1 c b d;unfold W1 at h;rw[e,d]at h;let h:=C5 h;exact f.cong m n a b e d (Cz h).1 (Cz h).2
theorem Mi.zero(e:Lc nodes P R):Mi nodes P R (r0 nodes R) []:=by
 refine⟨λn a=>(GX a).1,λn a=>?_,λn a=>?_,λm n j a h=>?_,(λp f=>by cases f),l8 _⟩
 .let d:=(GX (R:=R) a).1;exact Yk (Bc a d) (bF a)
 .let c:=GX (R:=R) a;ext1 c d g l;exact QV e (Bc a d) a g
 .unfold r0;rw[h];cases i:(p0 nodes.length).find? (λk=>W1 nodes R k==W1 nodes R n)with|none=>let b:=List.find?_eq_none.mp i n (CC a);simp at b|some k=>rfl
theorem Mi.step(h:Mi nodes P R M done)(f:p.1<nodes.length)(i:p.2<nodes.length)(u:R p.1=R p.2):∃A,Mi nodes P R A (done++[p]):=by
 by_cases v:M p.1=M p.2
 .refine⟨M,h.le,h.iE,h.sub,h.coarse,λx c=>?_,by let a:=h.few;rw[u7];exact U6 ‹_›⟩;rcases v4 c with c|c
  .exact h.tO x c
  .rw[o9]at c;clear f i u;subst c;exact v
 .let o:=h.le _ f;let r:∃k g,k<g/\g<nodes.length/\M k=k/\M g=g/\(k=M p.1/\g=M p.2\/k=M p.2/\g=M p.1):=by
   rcases Ci (M p.1) (M p.2)with q|q
   .exact U8 (M p.1) (M p.2) q (Bc i (h.le _ i)) (h.iE _ f) (h.iE _ i) (.inl ⟨rfl,rfl⟩)
   .exact U8 (M p.2) (M p.1) (DX q λe=>v e.symm) (Bc f o) (h.iE _ i) (h.iE _ f) (.inr ⟨rfl,rfl⟩)
  ext C7 r k g z E B F s;let b:∀n,C0 M k g n=if M n=g then k else M n:=λG=>rfl
  let t:R k=R g:=by
   rcases s with q|q
   .rw[q.1,q.2,h.sub _ f,h.sub _ i,u]
   .rw[q.1,q.2,h.sub _ f,h.sub _ i,u]
  refine⟨C0 M k g,λn d=>?_,λn d=>?_,λn d=>?_,λm n C d D=>?_,λx c=>?_,?_⟩
  .rw[b];let a:=h.le n d;by_cases q:M n=g
   .rw[g0 q];exact b6 (m9 z) (q▸a)
   .rw[j4 q];exact a
  .rw[b n];by_cases q:M n=g
   .rw[g0 q,b,B,j4 (m6 ‹_›)]
   .rw[j4 q,b,h.iE n d,j4 q]
  .rw[b];by_cases q:M n=g
   .rw[g0 q,t,<-q];exact h.sub n d
   .rw[j4 q];exact h.sub n d
  .rw[b,b,h.coarse m n C d D]
  .rw[b,b];rcases v4 c with c|c
   .rw[h.tO x c]
   .rw[o9]at c;clear f i u v o;subst c;rcases s with q|q
    .rw[<-q.1,<-q.2,j4 (m6 ‹_›),g0 rfl]
    .rw[<-q.1,<-q.2,g0 rfl,j4 (m6 ‹_›)]
  .let w:K0 (C0 M k g) nodes.length<=K0 M nodes.length+1:=by
    let a:=V2 (l:=(p0 nodes.length).filter λn=>C0 M k g n != n) (m:=g::(p0 nodes.length).filter λn=>M n != n) (List.nodup_range.filter _) λn d=>by
     let y:=BZ d;ext1 y w j;let j:C0 M k g n≠n:=by simpa using j
     by_cases q:n=g
     .rw[q];exact j5
     .refine k8 _ (BH w (?_));let a:M n≠n:=λe=>by
       rw[b]at j;rw[j4 (by rw[e];exact q)]at j;exact j e
      simpa using a
    rwa [N9]at a
   let a:=h.few;rw[u7];simp;exact b6 w (O8 a _)
theorem Mi.all(f:Lc nodes P R)(g:∀p∈P,p.1<nodes.length/\p.2<nodes.length):∃M,Mi nodes P R M P:=by
 let d:∀(a done:a7 (a6×a6))(M:a6->a6),P=done++a->Mi nodes P R M done->∃M,Mi nodes P R M P:=by
  intro a
  induction a with
  |nil=>intro done M e h;rw[Y5]at e;subst e;exact⟨M,h⟩
  |cons p a j=>
   intro done M e h;let b:p∈P:=by rw[e];exact K6 _ j5
   let c:=h.step (g p b).1 (g p b).2 (f.tO p b);ext1 c k i;exact j (done++[p]) k (by rw[e,Eb];rfl) i
 exact d P [] _ rfl (Mi.zero f)
theorem eT(G:Db nodes)(q:Lc nodes P R)(z:∀p∈P,p.1<nodes.length/\p.2<nodes.length):(Dl nodes R).length<=P.length:=by
 refine d4 (Mi.all q z) λM h=>?_;let A:Dr nodes M:=λm n a b r s t u=>by
  refine h.coarse m n (x0 r) (x0 s) ?_;unfold W1;rw[r,s];refine(?_:a0 (q6 R a)=a0 (q6 R b));let w:∀(i:a6)(d:Nd),nodes[i]?=a0 d->d.2.map R=(d.2.map M).map R:=λi d y=>by
   rw[v9];exact A2 λx B=>(h.sub x (AJ (G.kid i d y x B) (x0 y))).symm
  congr 1;exact EP t (by refine(?_:a.2.map R=b.2.map R);rw[w m a r,w n b s,u])
 let t:K0 R nodes.length<=K0 M nodes.length:=by
  refine V2 (List.nodup_range.filter _) λn l=>?_;let c:=BZ l;ext1 c j k;let f:=U7 j;let o:=q.le n f;refine BH j (?_);let g:M n≠n:=λe=>by
   exact(xV (q.least M h.tO A (R n) n (Bc f o) f (q.iE n f)) (h.le (R n) (Bc f o)) e (by simpa using k:R n≠n) o).elim
  simpa using g
 let u:(Dl nodes R).length+K0 (r0 nodes R) nodes.length<=K0 R nodes.length:=by
  unfold K0;rw[<-u7];refine V2 ?_ λn l=>?_
  .rw[BM];refine m0 (List.nodup_range.filter _) (List.nodup_range.filter _) λa r b s e=>?_;subst e;let c:=BZ r;ext1 c j k;let c:=BZ s;ext1 c C D;simp only[C2]at k;let g:=Yk (U7 j) k.1;simp[g]at D
  .rcases v4 l with l|l
   .let c:=BZ l;ext1 c j k;simp only[C2]at k;exact BH j k.2
   .let c:=BZ l;ext1 c j k;let f:=U7 j;let c:=GX (R:=R) f;ext1 c v E C;refine BH j (?_);let g:=dy (QV q (Bc f v) f E) (q.le (r0 nodes R n) (Bc f v)) (by simpa using k:r0 nodes R n≠n) v;simpa using g
 exact oQ (b6 u (b6 t (Al _ _▸h.few)))def O5(nodes:a7 Nd)(n:a6):Nd:=(nodes[n]?).getD ([],[])def AS(nodes:a7 Nd)(R:a6->a6)(n:a6):a7 a6:=R n::(O5 nodes n).2.map R
def Kl(nodes:a7 Nd)(R:a6->a6)(o:a7 a6)(m:a6):a7 a6:=(p0 nodes.length).filter λn=>first nodes R n&&((O5 nodes n).1==o&&(O5 nodes n).2.length+1==m)theorem Ij:n∈Kl nodes R o m↔n<nodes.length/\first nodes R n=a8/\(O5 nodes n).1=o/\(O5 nodes n).2.length+1=m:=by unfold Kl;rw[HD,Qd];simp only[C2,Ai]theorem Iy:(Kl nodes R o m).Nodup:=List.nodup_range.filter _
theorem Ki(t:Lc nodes P R)(h:Z0 nodes R o m l):∃n∈Kl nodes R o m,AS nodes R n=l:=by
 ext T0 h n i r u v rfl;have a:=x0 r;let c:=GX (R:=R) a;ext1 c k j w;let c:=O0 (l:=nodes) (n:=r0 nodes R n) (Bc a k);ext1 c b d;let s:q6 R b=q6 R i:=by unfold W1 at j;rw[d,r]at j;exact C5 j
 let e:O5 nodes (r0 nodes R n)=b:=by unfold O5;rw[d];rfl
 let p:b.1=i.1:=(Cz s).1;let f:b.2.map R=i.2.map R:=(Cz s).2;let q:b.2.length=i.2.length:=by
  let g:=t0 CL f
  rwa [f7,f7]at g
 refine d0 (r0 nodes R n) (Ij.mpr (M3 (Bc a k) (bF a) (by rw[e,p,u]) (by rw[e,q,v]))) ?_;unfold AS;rw[e,f,QV t (q5 k a) a j]def fg(o:a7 a6)(m:a6):Prop:=(o=[102]/\m=2)\/(o=[103]/\m=3)
section
variable(G:Db nodes)(two:nodes.take 2=[([97],[]),([98],[])])(lc:Lc nodes P R)(hP:∀p∈P,p.1<nodes.length/\p.2<nodes.length)
include two
theorem XG:nodes[0]?=a0 ([97],[])/\nodes[1]?=a0 ([98],[]):=by
 let a:(nodes.take 2)[0]?=a0 ([97],[]):=by rw[two];rfl
 let b:(nodes.take 2)[1]?=a0 ([98],[]):=by rw[two];rfl
 rw[qR (by decide)]at a b;exact⟨a,b⟩
theorem Xz(h:fg o m):(Kl nodes R o m).length<=nodes.length - 2:=by
 let b:=V2 (l:=Kl nodes R o m) (m:=Wi 2 (nodes.length - 2)) Iy λn f=>by
  refine CB (Ij.mp f) λg i a i=>?_;rw[a7.mem_range'_1];let c:=XG two;ext1 c j k;let e:o≠[97]/\o≠[98]:=by rcases h with q|q<;>rw[q.1]<;>exact⟨by decide,by decide⟩
  refine⟨?_,ey g⟩;apply CM;intro d;rcases(show n=0\/n=1 by exact(a6.le_one_iff_eq_zero_or_eq_one).mp (v0 (Nat.not_le.mp d)))with rfl|rfl
  .unfold O5 at a;rw[j]at a;exact e.1 a.symm
  .unfold O5 at a;rw[k]at a;exact e.2 a.symm
 rwa [a7.length_range']at b
include G in
theorem aO:(Kl nodes R [97] 1).length<=1:=by
 let a:=V2 (l:=Kl nodes R [97] 1) (m:=[0]) Iy λn g=>by
  refine CB (Ij.mp g) λh i d e=>d4 (O0 h) λf b=>?_;let c:O5 nodes n=f:=by unfold O5;rw[b];rfl
  rw[c]at d e;let a:f=([97],[]):=EP d (List.length_eq_zero_iff.mp (AC e));rw[a]at b;rw[o9];exact Ef G.nd b (XG two).1
 exact a
omit two
include G lc hP
theorem dw:((Kl nodes R o m).filter λn=>R n==v).length<=P.length+1:=by
 let d:=eT G lc hP;let b:=V2 (l:=(Kl nodes R o m).filter λn=>R n==v) (m:=v::Dl nodes R) (Iy.filter _) λn f=>by
  let a:=BZ f;ext1 a g c;let c:R n=v:=by simpa using c
  let a:=Ij.mp g;ext1 a h i j;by_cases q:n=v
  .rw[q];exact j5
  .refine k8 _ (BH (CC h) (?_));rw[i,c];simpa using λe:v=n=>q e.symm
 rw[N9]at b;exact NI b d
theorem rl:((Kl nodes R o m).filter λn=>decide (R n∈(O5 nodes n).2.map R)).length<=P.length:=by
 let j:=eT G lc hP;let a:=V2 (l:=(Kl nodes R o m).filter λn=>decide (R n∈(O5 nodes n).2.map R)) (m:=Dl nodes R) (Iy.filter _) λn k=>by
  let d:=BZ k;ext1 d p c;let c:R n∈(O5 nodes n).2.map R:=by simpa using c
  refine u0 (Ij.mp p) λh q s=>d4 (O0 h) λi b=>?_;let e:O5 nodes n=i:=by unfold O5;rw[b];rfl
  rw[e]at c;refine A8 c λx r f=>?_;let g:=G.kid n i b x r;let a:=lc.le x (b6 ‹_› (m9 ‹_›));refine BH (CC h) (?_);rw[q];let a:=og g f a;simpa using a
 exact b6 a j
omit lc hP G
theorem qi:((Kl nodes R o m).filter λn=>(O5 nodes n).2.map R==tl).length<=1:=by
 cases g:(Kl nodes R o m).filter (λn=>(O5 nodes n).2.map R==tl)with
 |nil=>exact F9 _
 |cons a r=>
  cases r with
  |nil=>exact l8 _
  |cons b r=>
   let c:((Kl nodes R o m).filter λn=>(O5 nodes n).2.map R==tl).Nodup:=Iy.filter _;rw[g]at c;let j:a≠b:=by rw[Ax]at c;exact λe=>c.1 (by rw[e];exact j5)
   let h:a∈(Kl nodes R o m).filter λn=>(O5 nodes n).2.map R==tl:=by rw[g];exact j5
   have k:∀a,a∈(Kl nodes R o m).filter (λn=>(O5 nodes n).2.map R==tl)->a<nodes.length/\first nodes R a=a8/\W1 nodes R a=a0 (o,tl):=λa h=>by
    let d:=BZ h;ext1 d u f;let f:(O5 nodes a).2.map R=tl:=by simpa using f
    let d:=Ij.mp u;ext1 d l v p y;refine d4 (O0 l) λi c=>?_;rw[(by unfold O5;rw[c];rfl:O5 nodes a=i)]at f p;refine m0 l v ?_;unfold W1;rw[c];refine(?_:a0 (i.1,i.2.map R)=_);rw[f,p]
   refine u0 (k a h) λz w s=>u0 (k b (by rw[g];exact k8 _ j5:b∈(Kl nodes R o m).filter λn=>(O5 nodes n).2.map R==tl)) λA x t=>?_;rcases LQ a b with q|q|q
   .exact(MT.mp x a q (s.trans t.symm)).elim
   .exact(j q).elim
   .exact(MT.mp w b q (t.trans s.symm)).elim
end
theorem UC{α β:Type}{rel:α->β->Prop}:∀{l:a7 α}{m:a7 β},l.Nodup->(∀f∈l,∃t∈m,rel f t)->(∀f∈l,∀g∈l,∀t,rel f t->rel g t->f=g)->l.length<=m.length:=by
 intro r
 induction r with
 |nil=>intro m p p p;exact F9 _
 |cons f l j=>
  intro m k h q;haveI:Ec β:=λa b=>Ea _
  rw[Ax]at k;refine c9 (h f j5) λt n s=>?_;let j:=j (m:=m.erase t) k.2 (λg d=>by
   refine c9 (h g (k8 _ d)) λu o i=>d0 u ((pA λe=>?_).mpr o) i;clear n;subst e;let c:=q f j5 g (k8 _ d) _ s i;exact k.1 (c▸d)) λa v b w=>q a (k8 _ v) b (k8 _ w)
  rw[lL n]at j;let c:0<m.length:=Vt n;rw[N9];exact b6 (T9 j) (A1 (HR c))
theorem IX{α β:Type}{g:α->a7 β}:∀(l:a7 α),(∀a∈l,(g a).length<=B)->(l.flatMap g).length<=l.length*B:=by
 intro b
 induction b with
 |nil=>intro e;exact F9 _
 |cons a l c=>intro h;rw[a7.flatMap_cons,u7,N9,mX];exact ur (h a j5) (c λx d=>h x (k8 _ d))theorem Ix{os:a7 a6}(b:os.Nodup)(c:f.length=os.length):f=os.map (sg os f):=by let a:(os.zip f).map oA=f:=nM (A1 ‹_›);rw[(Ib b c),v9]at a;exact a.symm
def Mb(nodes:a7 Nd)(R:a6->a6)(b:AV)(s v:a6):a7 a6:=
 (Kl nodes R b.1 b.2.length).filter λn=>@decide (∃w,AS nodes R n=b.2.map λc=>if c=s then v else w) (Ea _)theorem RU:n∈Mb nodes R b s v↔n∈Kl nodes R b.1 b.2.length/\∃w,AS nodes R n=b.2.map λc=>if c=s then v else w:=by unfold Mb;rw[HD];simp only[C3]
section
variable(G:Db nodes)(two:nodes.take 2=[([97],[]),([98],[])])(lc:Lc nodes P R)(hP:∀p∈P,p.1<nodes.length/\p.2<nodes.length)(hcnt:nodes.length+P.length<=8)
include G two lc hP hcnt
theorem XI:2<=nodes.length:=by let a:=t0 CL two;rw[O9]at a;simp at a;exact b6 (A1 a.symm) (Go _ _)def nz(a:AV):Prop:=fg a.1 a.2.length\/(a.1=[97]/\a.2.length=1)
theorem Sa(h:nz a):(Kl nodes R a.1 a.2.length).length<=6:=by
 let c:=XI G two lc hP hcnt;rcases h with h|h
 .let b:=Xz (R:=R) two h;exact b6 b (HS (b6 (G3 _ _) hcnt))
 .rw[h.1,h.2];let b:=aO (R:=R) G two;exact p6
theorem XS(h:nz b)(s v:a6):(Mb nodes R b s v).length<=3:=by
 let E:=XI G two lc hP hcnt;let p:(Mb nodes R b s v).Nodup:=Iy.filter _;have t:(Mb nodes R b s v).length<=(Kl nodes R b.1 b.2.length).length:=DN _ _;rcases h with h|h
 .let z:=Xz (R:=R) two h;let d:∀n∈Mb nodes R b s v,n∈Kl nodes R b.1 b.2.length/\∃w,R n::(O5 nodes n).2.map R=b.2.map λc=>if c=s then v else w:=λn k=>RU.mp k
  cases r:b.2 with
  |nil=>rcases h with q|q<;>rw[r]at q<;>simp at q
  |cons D u=>
   rw[r]at d;by_cases A:D=s
   .let C:=V2 p (m:=(Kl nodes R b.1 b.2.length).filter λn=>R n==v) λn k=>by
     refine k9 (d n k) λg i=>?_;ext d4 i w j;rw[<-r]at g;rw[y4,g0 A]at j;refine BH g (?_);simpa using(Gg j).1
    have C:=dw (o:=b.1) (m:=b.2.length) (v:=v) G lc hP;exact bN hcnt z C t ‹_›
   .by_cases e:∃c∈u,c≠s
    .ext1 e c x f;let C:=V2 p (m:=(Kl nodes R b.1 b.2.length).filter λn=>decide (R n∈(O5 nodes n).2.map R)) λn k=>by
      refine k9 (d n k) λg i=>?_;ext d4 i w j;rw[<-r]at g;rw[y4,j4 A]at j;let l:=Gg j;ext1 l B y;refine BH g (?_);let C:R n∈(O5 nodes n).2.map R:=by rw[y,B];exact B9 (a:=c) x (j4 f)
      simpa using C
     let C:=rl (o:=b.1) (m:=b.2.length) G lc hP;exact bN hcnt z (U6 C) t ‹_›
    .let C:=V2 p (m:=(Kl nodes R b.1 b.2.length).filter λn=>(O5 nodes n).2.map R==u.map λC=>v) λn k=>by
      refine k9 (d n k) λg i=>?_;ext d4 i w j;rw[<-r]at g;rw[y4]at j;let l:=Gg j;ext1 l B y;refine BH g (?_);let C:(O5 nodes n).2.map R=u.map λC=>v:=by rw[y];refine A2 λc x=>?_;rw[g0];apply CM;intro f;exact e (d0 c x f)
      simpa using C
     let C:=qi (nodes:=nodes) (R:=R) (o:=b.1) (m:=b.2.length) (tl:=u.map λC=>v);exact gA C ‹_› rfl
 .let C:=aO (R:=R) G two;rw[h.1,h.2]at t;exact gA C t rfl
variable{os:a7 a6}{fs:a7 (a7 a6)}(hno:os.Nodup)(hnd:fs.Nodup)
include hno hnd
theorem Lz{a:AV}(v:nz a)(w:nz b)(k:∀c∈os,c∈a.2\/c∈b.2)(o:∀f∈fs,f.length=os.length/\Z0 nodes R a.1 a.2.length (a.2.map (sg os f))/\Z0 nodes R b.1 b.2.length (b.2.map (sg os f))):fs.length<=36:=by
 have E:=UC (rel:=λ(f:a7 a6)(t:a6×a6)=>AS nodes R t.1=a.2.map (sg os f)/\AS nodes R t.2=b.2.map (sg os f)) (m:=(Kl nodes R a.1 a.2.length).flatMap λn=>(Kl nodes R b.1 b.2.length).map λi=>(n,i)) hnd (λf e=>?_) λf e x l t p r=>?_
 .let y:=IX (B:=6) (g:=λn=>(Kl nodes R b.1 b.2.length).map λi=>(n,i)) (Kl nodes R a.1 a.2.length) λn z=>by
   rw[f7];exact Sa G two lc hP hcnt w
  exact b6 E (b6 y (EI 6 (Sa G two lc hP hcnt v)))
 .let d:=o f e;ext1 d z A C;let d:=Ki lc A;ext1 d n s h;let d:=Ki lc C;ext1 d i u j;exact v7 (n,i) (List.mem_flatMap.mpr (d0 n s (B9 (a:=i) u rfl))) h j
 .rw[Ix hno (o f e).1,Ix hno (o x l).1];refine A2 λc D=>?_;rcases k c D with q|q
  .exact List.map_inj_left.mp (p.1.symm.trans r.1) c q
  .exact List.map_inj_left.mp (p.2.symm.trans r.2) c q
theorem Th{a:AV}{s:a6}(H:nz a)(I:nz b)(J:nz c)(p:∀x∈os,x∈a.2\/x∈b.2\/x∈c.2)(hs:s∈a.2)(y:∀x∈b.2,x=pb\/x=s)(z:∀x∈c.2,x=pc\/x=s)
 (u:∀f∈fs,f.length=os.length/\Z0 nodes R a.1 a.2.length (a.2.map (sg os f))/\Z0 nodes R b.1 b.2.length (b.2.map (sg os f))/\Z0 nodes R c.1 c.2.length (c.2.map (sg os f))):fs.length<=54:=by
 have Q:=UC (rel:=λ(f:a7 a6)(t:a6×a6×a6)=>AS nodes R t.1=a.2.map (sg os f)/\AS nodes R t.2.1=b.2.map (sg os f)/\AS nodes R t.2.2=c.2.map (sg os f))
  (m:=(Kl nodes R a.1 a.2.length).flatMap λn=>(Mb nodes R b s ((AS nodes R n).getD (a.2.idxOf s) 0)).flatMap λi=>(Mb nodes R c s ((AS nodes R n).getD (a.2.idxOf s) 0)).map λj=>(n,i,j)) hnd (λf e=>?_) λf e K r t v w=>?_
 .let L:=IX (B:=9) (g:=λn=>(Mb nodes R b s ((AS nodes R n).getD (a.2.idxOf s) 0)).flatMap λi=>(Mb nodes R c s ((AS nodes R n).getD (a.2.idxOf s) 0)).map λj=>(n,i,j)) (Kl nodes R a.1 a.2.length) λn A=>by
   let M:=IX (B:=3) (g:=λi=>(Mb nodes R c s ((AS nodes R n).getD (a.2.idxOf s) 0)).map λj=>(n,i,j)) (Mb nodes R b s ((AS nodes R n).getD (a.2.idxOf s) 0)) λi A=>by
    rw[f7];exact XS G two lc hP hcnt J _ _
   exact b6 M (EI 3 (XS G two lc hP hcnt I s ((AS nodes R n).getD (a.2.idxOf s) 0)))
  exact b6 Q (b6 L (EI 9 (Sa G two lc hP hcnt H)))
 .let d:=u f e;ext1 d A N O P;let d:=Ki lc N;ext1 d n C h;let d:=Ki lc O;ext1 d i D k;let d:=Ki lc P;ext1 d j E l;let F:(AS nodes R n).getD (a.2.idxOf s) 0=sg os f s:=by rw[h,AB,o7,v5 (Fz hs),Pm];rfl
  refine CW (n,i,j) (List.mem_flatMap.mpr (d0 n C (List.mem_flatMap.mpr (d0 i (RU.mpr ⟨D,sg os f pb,?_⟩) (B9 (a:=j) (RU.mpr ⟨E,sg os f pc,?_⟩) rfl))))) h k l
  .rw[k,F];refine A2 λx o=>?_;by_cases q:x=s
   .rw[g0 q,q]
   .rw[j4 q,(y x o).resolve_right q]
  .rw[l,F];refine A2 λx o=>?_;by_cases q:x=s
   .rw[g0 q,q]
   .rw[j4 q,(z x o).resolve_right q]
 .rw[Ix hno (u f e).1,Ix hno (u K r).1];refine A2 λx o=>?_;rcases p x o with q|q|q
  .exact List.map_inj_left.mp (v.1.symm.trans w.1) x q
  .exact List.map_inj_left.mp (v.2.1.symm.trans w.2.1) x q
  .exact List.map_inj_left.mp (v.2.2.symm.trans w.2.2) x q
theorem sm{ats:a7 AV}(t:∀a∈ats,isAtom a)(h1:1<=ats.length)(h3:ats.length<=3)(ho4:os.length<=4)(j:∀c∈os,∃a∈ats,c∈a.2)(k:∀a∈ats,∀c∈a.2,c∈os)
 (p:∀f∈fs,f.length=os.length/\∀a∈ats,Z0 nodes R a.1 a.2.length (a.2.map (sg os f))):fs.length<64:=by
 cases T:fs with
 |nil=>simp
 |cons f0 r=>
  rw[<-T];let o:∀a∈ats,nz a:=λa w=>by
   refine o0 ((p f0 (by rw[T];exact j5)).2 a w) λn nd Y ho w0=>?_;let U:=(G.op nd (p8 Y)).1;rcases(t a w).1 with q|q|q|q
   .exact .inl (.inl q)
   .exact .inl (.inr q)
   .exact .inr q
   .rw[ho,q.1]at U;rcases U with q|q|q|q<;>cases q
  revert t o j k p;refine nk h1 h3 (λa t j k p o=>?_) (λa b t j k p o=>?_) λa b c t j k p o=>?_
  .have w:=o a j5;have n:=Lz G two lc hP hcnt hno hnd w w (λc B=>by
    refine c9 (j c B) λx g D=>?_;rw[o9]at g;clear o j k p t w;subst g;exact .inl D) λf d=>m0 ((p f d).1) ((p f d).2 a j5) ((p f d).2 a j5)
   exact Ca
  .have n:=Lz G two lc hP hcnt hno hnd (o a j5) (o b (k8 _ j5)) (λc B=>by
    refine c9 (j c B) λx g D=>?_;simp only[K5,J8,X6]at g;rcases g with rfl|rfl
    .exact .inl D
    .exact .inr D) λf d=>m0 ((p f d).1) ((p f d).2 a j5) ((p f d).2 b (k8 _ j5))
   exact Ca
  .have w:=o a j5;have O:=o b (k8 _ j5);have B:=o c (k8 _ (k8 _ j5));have P:∀f∈fs,Z0 nodes R a.1 a.2.length (a.2.map (sg os f)):=λf d=>(p f d).2 a j5;have Q:∀f∈fs,Z0 nodes R b.1 b.2.length (b.2.map (sg os f)):=λf d=>(p f d).2 b (k8 _ j5);have S:∀f∈fs,Z0 nodes R c.1 c.2.length (c.2.map (sg os f)):=λf d=>(p f d).2 c (k8 _ (k8 _ j5));have i:∀x∈os,x∈a.2\/x∈b.2\/x∈c.2:=λx g=>by
    refine c9 (j x g) λy H J=>?_;simp only[K5,J8,X6]at H;rcases H with rfl|rfl|rfl
    .exact .inl J
    .exact .inr (.inl J)
    .exact .inr (.inr J)
   by_cases c1:∀x∈os,x∈a.2\/x∈b.2
   .let n:=Lz G two lc hP hcnt hno hnd w O c1 λf d=>m0 ((p f d).1) (P f d) (Q f d);exact Ca
   by_cases c2:∀x∈os,x∈a.2\/x∈c.2
   .let n:=Lz G two lc hP hcnt hno hnd w B c2 λf d=>m0 ((p f d).1) (P f d) (S f d);exact Ca
   by_cases c3:∀x∈os,x∈b.2\/x∈c.2
   .let n:=Lz G two lc hP hcnt hno hnd O B c3 λf d=>m0 ((p f d).1) (Q f d) (S f d);exact Ca
   have Z:∀{u v:a7 a6},(¬∀x∈os,x∈u\/x∈v)->∃x∈os,x∉u/\x∉v:=λ{u v}h=>by
    apply CM;intro Y;refine h λx g=>?_;apply CM;intro z;exact Y (v7 x g (λe=>z (.inl e)) λe=>z (.inr e))
   refine y3 (Z c1) λE hpc K L=>y3 (Z c2) λI hpb M V=>y3 (Z c3) λC hpa W X=>?_;let pcc:E∈c.2:=((i E hpc).resolve_left K).resolve_left L;have N:C∈a.2:=(i C hpa).resolve_right λh=>h.elim W X;have F:∀s,(∀x∈os,x=C\/x=I\/x=E\/x=s)->(s∈a.2\/s∈b.2\/s∈c.2)->fs.length<=54:=λs A hs=>by
    let sa:∀x∈a.2,x=C\/x=s:=λx g=>by
     rcases A x (k a j5 x g)with q|q|q|q
     .exact .inl q
     .rw[q]at g;exact(M g).elim
     .rw[q]at g;exact(K g).elim
     .exact .inr q
    have sb:∀x∈b.2,x=I\/x=s:=λx g=>by
     rcases A x (k b (k8 _ j5) x g)with q|q|q|q
     .rw[q]at g;exact(W g).elim
     .exact .inl q
     .rw[q]at g;exact(L g).elim
     .exact .inr q
    have sc:∀x∈c.2,x=E\/x=s:=λx g=>by
     rcases A x (k c (k8 _ (k8 _ j5)) x g)with q|q|q|q
     .rw[q]at g;exact(X g).elim
     .rw[q]at g;exact(V g).elim
     .exact .inl q
     .exact .inr q
    rcases hs with q|q|q
    .exact Th G two lc hP hcnt hno hnd w O B i q sb sc λf d=>M3 ((p f d).1) (P f d) (Q f d) (S f d)
    .exact Th G two lc hP hcnt hno hnd O w B (λx g=>by
      rcases i x g with q|q|q
      .exact .inr (.inl q)
      .exact .inl q
      .exact .inr (.inr q)) q sa sc λf d=>M3 ((p f d).1) (Q f d) (P f d) (S f d)
    .exact Th G two lc hP hcnt hno hnd B w O (λx g=>by
      rcases i x g with q|q|q
      .exact .inr (.inl q)
      .exact .inr (.inr q)
      .exact .inl q) q sa sb λf d=>M3 ((p f d).1) (S f d) (P f d) (Q f d)
   let h54:fs.length<=54:=by
    by_cases g:∃x∈os,x≠C/\x≠I/\x≠E
    .ext BS g s hs s1 s2 s3;refine F s (λx g=>?_) (i s hs);apply CM;intro z;let h5:=V2 (l:=[C,I,E,s,x]) (m:=os) (by
      simp only[Ax,K5,J8,X6,Mw,Bz,and_true,VD];exact M3 (M3 (λe=>M (e▸N):C≠I) (λe=>K (e▸N):C≠E) (C8 s1) λe=>z (.inl e.symm)) (m0 (λe=>L (e▸(((i I hpb).resolve_left M).resolve_right V)):I≠E) (C8 s2) λe=>z (.inr (.inl e.symm))) ⟨C8 s3,λe=>z (.inr (.inr (.inl e.symm)))⟩ λe=>z (.inr (.inr (.inr e.symm)))) (λy H=>by
      simp only[K5,J8,X6]at H;rcases H with rfl|rfl|rfl|rfl|rfl<;>assumption)
     simp at h5;exact(jw h5 ho4).elim
    .refine F C (λy H=>?_) (.inl N);apply CM;intro z;exact g (CW y H (λe=>z (.inl e)) (λe=>z (.inr (.inl e))) λe=>z (.inr (.inr (.inl e))))
   exact Ca
end
def AG(e:En):a7 b0:=e.map λp=>.B [sD p.1,iD p.2]def TD(e:En):b0:=.B (y8 (AG e))
theorem eI:∀{a b:a7 b0},(∀x∈a,∀y∈b,f x y=a8)->N6 f a b=a8:=by
 intro e
 induction e with
 |nil=>intro d d;exact rfl
 |cons x a g=>
  intro c;cases c with
  |nil=>intro d;exact rfl
  |cons y b=>intro h;refine(?_:(f x y&&N6 f a b)=a8);rw[h x j5 y j5,g λu i v j=>h u (k8 _ i) v (k8 _ j)];rfl
theorem aB(k:a6)(p q:a6×a6):o3 (k+1) (.B [sD p.1,iD p.2]) (.B [sD q.1,iD q.2])=a8:=by refine(?_:(o3 k (sD p.1) (sD q.1)&&(o3 k (iD p.2) (iD q.2)&&a8))=a8);rw[Kd,show o3 k (sD p.1) (sD q.1)=a8 from Zv k _ _];rfl
theorem UR(e:En):G8 (AG e):=by intro x a y b;refine c9 (Y1 a) ?_;clear a;rintro p c rfl;refine c9 (Y1 b) ?_;clear b;rintro q c rfl;exact aB 2 p q
theorem sG(h:e.length<=10):C1 (AG e)=a8:=by unfold C1;simp only[C2,C3];refine⟨⟨by unfold AG;rw[f7];exact Ca,Hn (UR e)⟩,Cw λx a=>c9 (Y1 a) ?_⟩;clear a;rintro p b rfl;rfl
theorem Jb(es:a7 En):G8 (es.map TD):=by intro x b y c;refine c9 (Y1 b) ?_;clear b;rintro e a rfl;refine c9 (Y1 c) ?_;clear c;rintro g a rfl;refine eI λu d v f=>c9 (Y1 ((Y2 _).mem_iff.mp d)) ?_;clear d;rintro p a rfl;refine c9 (Y1 ((Y2 _).mem_iff.mp f)) ?_;clear f;rintro q a rfl;exact aB 1 p q
theorem bH(D:m7 st a (eD e) ep)(h:e.length<=10):M4 .sI [.ref a] st=a0 (.ref st.n,st.A (.L (y8 (AG e)))):=by
 refine(?_:((st.dict? (.ref a)).bind λb=>let c:=b.map λe=>b0.B [e.1,e.2]
  if C1 c/\b.all (λe=>leaf e.1)then a0 (b0.ref st.n,st.A (.L (y8 c)))else b4)=_)
 exists 0,D.dict,Dk;rw[(by unfold eD AG;rw[v9];rfl:((eD e).map λe=>b0.B [e.1,e.2])=AG e),g0];refine⟨sG h,Cw λx d=>c9 (Y1 d) ?_⟩;clear d;rintro p f rfl;rfl
theorem vZ{p:a6×a6}(h:(b0.B [sD p.1,iD p.2])= .B [sD q.1,iD q.2]):p=q:=by injection h with h;injection h with h1 h2;injection h2 with h2 _;exact EP (Li h1) (EE h2)theorem Nj(h:e.Perm e'):TD e=TD e':=by unfold TD;rw[Ut (UR e') (UR e) (h.map _)]theorem wV(h:TD e=TD e'){p:a6×a6}(c:p∈e):p∈e':=by unfold TD at h;injection h with h;let b:b0.B [sD p.1,iD p.2]∈AG e':=(Y2 _).mem_iff.mp (h▸(Y2 _).mem_iff.mpr (B9 (a:=p) c rfl));refine c9 (Y1 b) λq d f=>?_;rw[<-vZ f];exact d
theorem Nr{e:En}{os:a7 a6}(h:Ej e)(g:∀c,c∈e.map (·.1)↔c∈os)(k:os.Nodup):e.Perm (os.map λc=>(c,lk e c)):=by
 let l:e.Nodup:=by let f:=List.pairwise_map.mp (BN h.1);exact TK (f.imp λh q=>h (by rw[q]))
 let m:(os.map λc=>(c,lk e c)).Nodup:=by rw[Bw,Y6];exact(BN k).imp λh q=>h (Cz q).1
 refine KU l m λp=>?_;constructor
 .intro b;refine B9 (a:=p.1) ((g p.1).mp (B9 (a:=p) b rfl)) (?_);unfold lk;rw[(Jp h.1 b)];rfl
 .intro b;refine c9 (Y1 b) ?_;clear b;rintro c n rfl;refine c9 (Y1 ((g c).mpr n)) λq i d=>?_;let j:=Jp h.1 i;rw[d]at j;unfold lk;rw[j];rw[<-d];exact i
theorem Rl(h:c∈os):sg os (os.map g) c=g c:=by unfold sg;rw[AB,o7,v5 (Fz h),Pm];rfl
theorem lq{α:Type}{f:α->b0}{P:α->Prop}:∀{l:a7 b0},(∀x∈l,∃a,P a/\x=f a)->∃m:a7 α,l=m.map f/\∀a∈m,P a:=by
 intro e
 induction e with
 |nil=>intro o;exact d0 [] rfl λa h=>by cases h
 |cons x l g=>
  intro h;refine c9 (h x j5) λa i j=>c9 (g λy k=>h y (k8 _ k)) λm n d=>?_;exact(d0 (a::m) (by rw[j,n];rfl) (λb c=>by
   rcases D2 c with rfl|c
   .exact i
   .exact d b c))
structure DA (N:a7 Nd) (R:a6->a6) (ats:a7 AV) (es:a7 En):Prop where
 ok:∀e∈es,Ej e/\(∀c,c∈e.map (·.1)↔∃a∈ats,c∈a.2)/\∀a∈ats,Z0 N R a.1 a.2.length (a.2.map (lk e))
 all:∀σ:a6->a6,(∀a∈ats,Z0 N R a.1 a.2.length (a.2.map σ))->∃e∈es,∀p∈e,p.2=σ p.1
theorem DA.next(h:DA nodes R ats es)(A:isAtom a)
 (w:∀i,i∈es'↔∃e∈es,∃l,Z0 nodes R a.1 a.2.length l/\Ar e (a.2.zip l)=a0 i):DA nodes R (ats++[a]) es':=by
 refine⟨λi m=>?_,λσ u=>?_⟩
 .refine c9 ((w i).mp m) λe B o=>?_;ext c9 o l C r;refine u0 (h.ok e B) λK x D=>?_;have g:=(λl P=>T0 P λn T Q Q x D=>by rw[D,N9,f7,x]:∀l,Z0 nodes R a.1 a.2.length l->l.length=a.2.length) l C;refine CB (jj _ e i r K λp q=>A.2 p.1 (JZ q).1) λE S L F=>m0 E (λc=>?_) λb f=>?_
  .rw[F c,(a7.map_fst_zip (qs g)),x c];constructor
   .rintro(⟨b,f,j⟩|G)
    .exact d0 b (G2 _ f) j
    .exact d0 a (K6 _ P8) G
   .rintro M;ext c9 M b f j;rcases v4 f with f|f
    .exact .inl (d0 b f j)
    .rw[o9]at f;clear A w C r g L F;subst f;exact .inr j
  .rcases v4 f with f|f
   .let d:b.2.map (lk i)=b.2.map (lk e):=A2 λc G=>by
     refine c9 (Y1 ((x c).mpr (d0 b f G))) λp q H=>?_;let N:=Jp K.1 q;let O:=Jp E.1 (S p q);rw[H]at N O;unfold lk;rw[N,O]
    rw[d];exact D b f
   .rw[o9]at f;clear A w r F;subst f;let d:b.2.map (lk i)=l:=by
     apply Gx;intro k;rw[o7];by_cases s:k<b.2.length
     .let y:b.2[k]?=a0 b.2[k]:=v5 s;let I:k<l.length:=Cv s g;let t:l[k]?=a0 l[k]:=v5 I;rw[y,t];refine(?_:a0 (lk i b.2[k])=a0 l[k]);unfold lk;rw[(Jp E.1 (L _ (p8 ((Mz (z:=(b.2[k],l[k]))).mpr ⟨y,t⟩))))];rfl
     .rw[AA (Bm ‹_›),AA (g▸Nat.not_lt.mp s)];rfl
    rw[d];exact C
 .refine c9 (h.all σ λb f=>u b (G2 _ f)) λe B J=>?_;obtain⟨i,r,m⟩:=aq σ (a.2.zip (a.2.map σ)) e J λp q=>by
   refine d4 (N2 q) λk o=>?_;ext1 o s v;let d:=(Mz (z:=p)).mp (by rw[<-v];exact v5 s);ext1 d y t;rw[o7,y]at t;exact(C5 t).symm
  exact d0 i ((w i).mpr ⟨e,B,_,(u a (K6 _ P8)),r⟩) m
theorem DA.few{nodes:a7 Nd}{P:a7 (a6×a6)}{R:a6->a6}(G:Db nodes)(C:nodes.take 2=[([97],[]),([98],[])])(O:Lc nodes P R)(Q:∀p∈P,p.1<nodes.length/\p.2<nodes.length)(w:nodes.length+P.length<=8)
 {ats:a7 AV}{es:a7 En}{os:a7 a6}(h:DA nodes R ats es)(o:∀a∈ats,isAtom a)(J:1<=ats.length)(K:ats.length<=3)(s:os.Nodup)(D:os.length<=4)(g:∀c,c∈os↔∃a∈ats,c∈a.2):C1 (D9 (es.map TD))=a8:=by
 let z:=EX (Jb es);let L:=GZ (Jb es);obtain⟨t,A,d⟩:=lq (f:=TD) (P:=λe=>e∈es) (l:=D9 (es.map TD)) λx m=>by
  refine c9 (Y1 ((z x).mp m)) ?_;clear m;rintro e A rfl;exact d0 e A rfl
 let E:t.Pairwise λa b=>TD a≠TD b:=by rw[A,Bw,Y6]at L;exact L
 let j:∀e∈t,∀c,c∈e.map (·.1)↔c∈os:=λe i c=>by rw[(h.ok e (d e i)).2.1 c,g c]
 let F:(t.map λe=>os.map (lk e)).Nodup:=by
  rw[Bw,Y6];refine Gb ?_ E;intro a b k M u e;refine u ?_;rw[Nj (Nr (h.ok a (d a k)).1 (j a k) s),Nj (Nr (h.ok b (d b M)).1 (j b M) s)];let U:(os.map λc=>(c,lk a c))=os.map λc=>(c,lk b c):=A2 λc n=>by rw[List.map_inj_left.mp e c n]
  rw[U]
 let v:=sm G C O Q w s F o J K D (λc n=>(g c).mp n) (λa k c n=>(g c).mpr (d0 a k n)) λf N=>by
  refine c9 (Y1 N) ?_;clear N;rintro e i rfl;refine⟨by rw[f7],λa k=>?_⟩;let U:a.2.map (sg os (os.map (lk e)))=a.2.map (lk e):=A2 λc n=>Rl ((g c).mpr (d0 a k n));rw[U];exact(h.ok e (d e i)).2.2 a k
 rw[f7]at v;unfold C1;simp only[C2,C3];refine⟨⟨by rw[A,f7];exact v,Hn λx m y S=>Jb es x ((z x).mp m) y ((z y).mp S)⟩,Cw λx m=>c9 (Y1 ((z x).mp m)) ?_⟩;clear m;rintro e i rfl;let u:y8 (AG e)≠[]:=by
  intro q;have B:=(Y2 (AG e)).length_eq;rw[q]at B;unfold AG at B;rw[f7]at B;obtain⟨a,k⟩:∃a,a∈ats:=by
   clear h o K g;cases ats with
   |nil=>simp at J
   |cons a r=>exact⟨a,j5⟩
  let H:a.2≠[]:=by let U:=(o a k).1;intro q;rw[q]at U;simp at U
  refine S7 (mR H) λc r I=>?_;have U:=((h.ok e i).2.1 c).mpr (d0 a k (by rw[I];exact j5));rw[(List.length_eq_zero_iff.mp B.symm)]at U;cases U
 unfold TD;cases T:y8 (AG e)with
 |nil=>exact(u T).elim
 |cons y r=>rfl
abbrev AE:=a6×En
def Fj(x:AE):b0:=.ref x.1
def CQ:j0 AE->b0
 |none=>.none
 |some x=>.ref x.1
def Jf(st:St)(x:AE):Prop:=∃ep,m7 st x.1 (eD x.2) ep
theorem Jf.ex(h:Jf st x)(g:Ex st st'):Jf st' x:=d4 h λa D=>⟨a,D.ex g⟩theorem od(h:d6 st a b)(c:G8 b)(d:b.length<=j8)(e:C1 (D9 b)=a8):M4 .sS [.ref a] st=a0 (.ref st.n,st.A (.L (y8 (D9 b)))):=by refine(?_:((st.list? (.ref a)).bind λb=>if b.all (λx=>b.all λy=>P0 x y)/\b.length<=j8/\C1 (D9 b)then a0 (b0.ref st.n,st.A (.L (y8 (D9 b))))else b4)=_);rw[h.list,Dk,g0 (m0 (Hn c) d e)]
theorem gm{st:St}{nodes:a7 Nd}{P:a7 (a6×a6)}{R:a6->a6}{am:a6}{ats:a7 AV}{os:a7 a6}{Q:Q1}(G:Db nodes)(two:nodes.take 2=[([97],[]),([98],[])])(lc:Lc nodes P R)(hP:∀p∈P,p.1<nodes.length/\p.2<nodes.length)(hcnt:nodes.length+P.length<=8)
 (hat:∀a∈ats,isAtom a)(h1:1<=ats.length)(h3:ats.length<=3)(hno:os.Nodup)(ho4:os.length<=4)(hos:∀c,c∈os↔∃a∈ats,c∈a.2)
 (L:d6 st 21 (nodes.map o4))(LM:d6 st am (Y0 R nodes.length))(LA:d6 st aa (ats.map W8))
 (hq:∀m r(es:a7 En),Ex st m->d6 m r (y8 (D9 (es.map TD)))->DA nodes R ats es->Q (.ref r) m):u9 u8 (k+2) "" "_law_due" [.ref 21,.ref am,.ref aa] st Q:=by
 refine D0 (fd:=RK) rfl rfl ?_;delta RK;exists V7,DZ,AH,rfl;(try exists 0,V7,DZ,AH);let x1:=(Ex.A st (.D [] 0)).trans (Ex.A (st.A (.D [] 0)) (.L [.ref st.n]));let D1:=(m7.new st [] 0).A (o:=.L [.ref st.n]);let L1:=d6.new (st.A (.D [] 0)) [.ref st.n];revert x1 D1 L1;refine gen ((st.A (.D [] 0)).A (.L [.ref st.n])) λst1 x1 D1 L1=>?_;generalize hla:(st.A (.D [] 0)).n=la0 at L1;generalize hda:st.n=da at D1 L1;let LA1:=LA.ex x1;exists(Q4 LA1),rfl;let hN8:=b6 (G3 _ _) hcnt;let E0:DA nodes R [] [[]]:=by refine⟨λe he=>?_,λσ w0=>d0 [] P8 λp hp=>by cases hp⟩;rw[o9]at he;subst he;exact m0 ⟨Bz,λp hp=>by cases hp⟩ (λc=>by simp) λa ha=>by cases ha
 refine BC (nx:=λi=>.seq (.ref aa) i) (xs:=ats.map W8) (I:=λi ρ m=>Ex st1 m/\ρ "rows"=a0 (.ref 21)/\ρ "marks"=a0 (.ref am)/\
  ∃(la:a6)(xs:a7 AE),ρ "envs"=a0 (.ref la)/\d6 m la (xs.map Fj)/\(∀x∈xs,Jf m x)/\DA nodes R (ats.take i) (xs.map (·.2))/\xs.length<=8 ^ i) (λi ρ m hi hI=>R9 (LA1.ex hI.1) i) ?_ ?_
  ⟨Ex.refl _,rfl,rfl,la0,[(da,[])],rfl,L1,λx d=>(by rw[o9]at d;subst d;exact⟨0,D1⟩),by rw[Gp];exact E0,by exact M7 _⟩
 .rintro i x ρ M kk d z1 hk1 hk2;ext CB z1 x2 r1 r2 w;ext C7 w la xs r3 LE hxs HE F;rw[o7,Av]at d;ext c9 d a ha rfl;have S:=hat a (p8 ha);let hi:=x0 ha;have h8i:8 ^ i<=64:=by let this:8 ^ i<=8 ^ 2:=Vo (by decide) (gu hi h3);exact this
  let hal:=U6 (Rx S);let hbind:AD ["op","names"] (W8 a) ρ=a0 ((ρ.set "op" (.str a.1)).set "names" (.B (a.2.map sD))):=rfl;let elen:M4 .len [.B (a.2.map sD)] M=a0 (iD a.2.length,M):=by
   let this:=GD (st:=M) (xs:=a.2.map sD) (by rw[f7];exact p6)
   rwa [f7]at this
  exists 0,hbind,r1,r2,elen;let X2:=x1.trans x2;refine ZD G (L.ex X2) (LM.ex X2) λz ta tb x3 LT htn htm htl=>?_;let LE3:=LE.ex x3;exists r3,(Q4 LE3),rfl;let htll:∀l∈tb,l.length=a.2.length:=λl J=>by
   refine T0 ((htm l).mp J) λn nd w0 w0 q2 q3=>?_;rw[q3,N9,f7,q2]
  refine CS (nx:=λi=>.seq (.ref la) i) (xs:=xs.map Fj) (I:=λj m q=>Ex z m/\∃s:a7 (j0 AE),q=s.map CQ/\(∀x,a0 x∈s->Jf m x)/\s.map (Ju (·.2))=(xs.take j).flatMap λx=>tb.map λl=>Ar x.2 (a.2.zip l)) (λj m q hj hI=>R9 (LE3.ex hI.1) j) ?_ ?_ ⟨Ex.refl _,[],rfl,(λx d=>by cases d),rfl⟩
  .rintro j x A q kk' d z2 hk;ext k9 z2 K w;ext y3 w s rfl Y v;rw[o7,Av]at d;ext c9 d y V rfl;let N:=p8 V;let LT4:=LT.ex K;exists(Q4 LT4),rfl;let hjl:=x0 V;let E:s.length<=j*8:=by
    let this:=t0 CL v;rw[f7]at this;rw[this];let h2:=IX (B:=8) (g:=λx:AE=>tb.map λl=>Ar x.2 (a.2.zip l)) (xs.take j) λx w0=>by rw[f7];exact gA hN8 htl rfl
    rw[O9]at h2;exact b6 h2 (EI 8 (PS _ _))
   refine CS (nx:=λi=>.seq (.ref ta) i) (xs:=tb.map m8) (I:=λt m q=>Ex A m/\∃C:a7 (j0 AE),q=C.map CQ/\(∀x,a0 x∈C->Jf m x)/\C.map (Ju (·.2))=((xs.take j).flatMap λx=>tb.map λl=>Ar x.2 (a.2.zip l))++(tb.take t).map λl=>Ar y.2 (a.2.zip l)) (λt m q ht hI=>R9 (LT4.ex hI.1) t) ?_ ?_ ⟨Ex.refl _,s,rfl,Y,by rw[Gp,V7,Y5];exact v⟩
   .rintro t x D q kk'' d z3 hk';ext k9 z3 W w;ext y3 w C rfl H u;rw[o7,Av]at d;ext c9 d l J rfl;let htl2:=x0 J;let zz:=(hxs y N).ex (x3.trans (K.trans W));ext1 zz ep D5;have U:(C.map CQ).length<=j8:=by rw[f7];let this:=t0 CL u;rw[f7,u7,f7,O9]at this;let h5:=t0 CL v;rw[f7]at h5;rw[<-h5]at this;rw[this];exact b6 (U0 (b6 E (EI 8 (b6 (m9 hjl) (b6 F h8i)))) (Hd (b6 htl hN8))) (by decide)
    have htk:(tb.take (t+1)).map (λl=>Ar y.2 (a.2.zip l))=(tb.take t).map (λl=>Ar y.2 (a.2.zip l))++[Ar y.2 (a.2.zip l)]:=by rw[Ak,J,p9];rfl
    exists Fj,rfl;refine gq D5 ((HE.ok y.2 (V9 N)).1) S.2 (htll l (p8 J)) hal (λhf Z X=>?_) λe' Z b ep' hf X D6=>?_
    .refine⟨U,hk' Z _ ⟨W.trans X,C++[b4],by rw[p9];rfl,λx d=>?_,?_⟩⟩
     .rcases v4 d with d|d
      .exact(H x d).ex X
      .rw[o9]at d;cases d
     .rw[p9,u,htk,hf,Eb];rfl
    .refine⟨U,hk' Z _ ⟨W.trans X,C++[a0 (b,e')],by rw[p9];rfl,λx d=>?_,?_⟩⟩
     .rcases v4 d with d|d
      .exact(H x d).ex X
      .rw[o9]at d;cases d;exact⟨ep',D6⟩
     .rw[p9,u,htk,hf,Eb];rfl
   .rintro D q z4;ext k9 z4 W w;ext y3 w C rfl H u;rw[f7,X4]at u;refine hk D _ ⟨K.trans W,C,rfl,H,?_⟩;rw[u,Ak,V,mC];exact t0 _ (Y5 _).symm
  .rintro A q z5;ext k9 z5 K w;ext y3 w s rfl Y v;rw[f7,X4]at v;exists rfl;let W:=Ex.A A (.L (s.map CQ));have L5:=d6.new A (s.map CQ);generalize hlate:A.n=lt at L5;generalize A.A (.L (s.map CQ))=D at W L5 ⊢;have E:s.length<=xs.length*8:=by let this:=t0 CL v;rw[f7]at this;rw[this];exact IX xs λx w0=>by rw[f7];exact gA hN8 htl rfl
   exists(Q4 L5),rfl;refine Ae (nx:=λi=>.seq (.ref lt) i) (xs:=s.map CQ) (p:=λx=>match x with| .none=>c8|_=>a8) (f:=id) (λi hi=>R9 L5 i) ?_ ?_
   .rintro j x q kk' d J hk;rw[o7,Av]at d;ext c9 d y w0 rfl;cases y with|none=>exists 0,(rfl:B0 .isnot (CQ b4) .none D=a0 c8);exact hk|some y=>exists 0,(rfl:B0 .isnot (CQ (a0 y)) .none D=a0 a8);exact⟨(by rw[f7]at J;exact vG h8i F E J:q.length<=j8),hk⟩
   .let hres:(V1 (λx:b0=>match x with| .none=>c8|_=>a8) (s.map CQ)).map id=(s.filterMap id).map Fj:=by
     rw[Ba];clear v Y E L5 W hlate
     induction s with
     |nil=>rfl
     |cons y s ih=>
      cases y with
      |none=>refine(?_:V1 _ (b0.none::s.map CQ)=_);exact ih
      |some y=>refine(?_:V1 _ (b0.ref y.1::s.map CQ)=_);rw[DM,g0 rfl,ih];rfl
    exists 0;rw[hres];let X:=Ex.A D (.L ((s.filterMap id).map Fj));let L6:=d6.new D ((s.filterMap id).map Fj);generalize hl2:D.n=lb at L6;revert X L6;refine gen (D.A (.L ((s.filterMap id).map Fj))) λZ X L6=>?_;have T:∀x,x∈s.filterMap id↔a0 x∈s:=λx=>by
     rw[Wd];constructor
     .rintro z6;ext c9 z6 y V e;have:y=a0 x:=e;rw[<-this];exact V
     .intro h;exact d0 (a0 x) h rfl
    let hE':DA nodes R (ats.take i++[a]) ((s.filterMap id).map (·.2)):=by
     refine HE.next S λe'=>?_;let hopm:∀e',a0 e'∈s.map (Ju (·.2))↔∃x∈s.filterMap id,x.2=e':=λe'=>by
      constructor
      .intro h;refine A8 h λy V e=>c9 (GN e) ?_;clear e;rintro x rfl d;exact d0 x ((T x).mpr V) d
      .rintro z7;ext c9 z7 x d rfl;exact B9 (a:=a0 x) ((T x).mp d) rfl
     rw[Fq,<-hopm e',v,nH];constructor
     .rintro z8;ext c9 z8 x d J;exact A8 J λl hlm hf=>⟨x.2,V9 d,l,(htm l).mp hlm,hf⟩
     .rintro z9;ext c9 z9 e he w;ext1 w l J hf;ext A8 he x d rfl;exact d0 x d (B9 (a:=l) ((htm l).mpr J) hf)
    refine(hk1 _ _ ⟨(x2.trans (x3.trans (K.trans (W.trans X)))),by exact r1,by exact r2,lb,s.filterMap id,rfl,L6,λx d=>(Y x ((T x).mp d)).ex (W.trans X),?_,?_⟩).1
    .rw[Ak,ha];exact hE'
    .let this:=lT id s;rw[kJ];exact b6 this (b6 E (EI 8 F))
 .rintro ρ M O;ext1 O x2 r1 r2 w;ext C7 w la xs r3 LE hxs HE F;rw[f7,X4]at HE;rw[f7]at F;let h83:8 ^ ats.length<=512:=by let this:8 ^ ats.length<=8 ^ 3:=Vo (by decide) h3;exact this
  exists r3,(Q4 LE),rfl;refine CS (nx:=λi=>.seq (.ref la) i) (xs:=xs.map Fj) (I:=λj m q=>Ex M m/\q=(xs.take j).map λx=>TD x.2) (λj m q hj hI=>R9 (LE.ex hI.1) j) ?_ ?_ ⟨Ex.refl _,rfl⟩
  .rintro j x z q kk d z11 hk;ext1 z11 x3 rfl;rw[o7,Av]at d;ext c9 d y V rfl;have N:=p8 V;let zz:=(hxs y N).ex x3;ext1 zz ep D3;let hy4:=(HE.ok y.2 (V9 N)).1.len;exists 0,Fj,(bH D3 (show y.2.length<=10 by exact p6));let L4:=d6.new z (y8 (AG y.2));let K:=Ex.A z (.L (y8 (AG y.2)));generalize z.A (.L (y8 (AG y.2)))=A at L4 K ⊢;exists(EC L4),rfl;refine⟨by rw[f7,O9];exact Hd (b6 F (b6 h83 (by decide))),hk A _ ⟨x3.trans K,?_⟩⟩;rw[Ak,V,p9];rfl
  .rintro z q z12;ext1 z12 x3 rfl;rw[f7,X4];rw[(by rw[v9];rfl:(xs.map λx=>TD x.2)=(xs.map (·.2)).map TD)];exists 0;let K:=Ex.A z (.L ((xs.map (·.2)).map TD));let L4:=d6.new z ((xs.map (·.2)).map TD);generalize z.A (.L ((xs.map (·.2)).map TD))=A at K L4 ⊢;exists 0,(od L4 (Jb _) (by rw[f7,f7];exact gA h83 F rfl) (HE.few G two lc hP hcnt hat h1 h3 hno ho4 hos));exact hq _ _ _ (x1.trans (x2.trans (x3.trans (K.trans (Ex.A _ _))))) (d6.new _ _) HE
theorem Fi(I:v3 st ta c te fs)(e:ta≠te)(r:ρ "self"=a0 (.ref ta))(i:(Ct c).contains f=a8)(j:fs.length<=20)
 (h:∀a,Fm (λb=>b=te) st a->a.n=st.n+1->v3 a ta c te ((f,.ref st.n)::fs)->d6 a st.n []->G6 C rest ρ a Q):G6 C (.k (.C (.a "self") f) (.L .nil)::rest) ρ st Q:=by
 generalize l:rest=g at h ⊢;exists 0,r;let d:=I.A;exists(d.set (v:=.ref st.n) i j),rfl;let k:=I.2.2.1;refine h _ ((Fm.ex (Ex.A _ _)).trans (Fm.set rfl)) rfl (M3 d.1 ((j4 e).trans d.2.1) d.2.2.1 (g0 rfl)) ((d6.new st []).set (L0 ‹_›))
theorem Uv(I:v3 st ta c te fs)(e:ta≠te)(r:ρ "self"=a0 (.ref ta))(i:(Ct c).contains f=a8)(j:fs.length<=20)
 (h:∀a,Fm (λb=>b=te) st a->a.n=st.n+1->v3 a ta c te ((f,.ref st.n)::fs)->m7 a st.n [] 0->G6 C rest ρ a Q):G6 C (.k (.C (.a "self") f) (.D [] .nil)::rest) ρ st Q:=by
 generalize l:rest=g at h ⊢;exists 0,r,V7,DZ,AH;let d:=I.A;exists(d.set (v:=.ref st.n) i j),rfl;let k:=I.2.2.1;refine h _ ((Fm.ex (Ex.A _ _)).trans (Fm.set rfl)) rfl (M3 d.1 ((j4 e).trans d.2.1) d.2.2.1 (g0 rfl)) ((m7.new st [] 0).set (L0 ‹_›))theorem v3.fld(h:v3 st a c e fs)(b:a≠e):v3 (st.set e (.fld fs')) a c e fs':=M3 h.1 ((j4 b).trans h.2.1) h.2.2.1 (g0 rfl)theorem Nf{st:St}{c:j3}:v3 ((st.A (.fld [])).A (.I c st.n)) (st.n+1) c st.n []:=by refine M3 (B8 _) (g0 rfl) (N8 _) ((?_:(if st.n=st.n+1 then _ else if st.n=st.n then _ else _)=_));rw[j4 cR,g0 rfl]
theorem bl{Q:Q1}(I:v3 st ta "Bank" te [])(c:ta≠te)
 (r:∀a,Fm (λb=>b=te) st a->a.n=st.n+4->v3 a ta "Bank" te [("depths",.ref (st.n+3)),("weights",.ref (st.n+2)),("numbers",.ref (st.n+1)),("nodes",.ref st.n)]->
  d6 a st.n []->m7 a (st.n+1) [] 0->d6 a (st.n+2) []->d6 a (st.n+3) []->Q .none a):u9 u8 (k+1) "Bank" "__init__" [.ref ta] st Q:=by
 refine D0 (fd:=RS) rfl rfl ?_;simp only[RS];have d:te<st.n:=I.2.2.1;refine Fi I c rfl rfl (by decide) λs t u v w=>Uv v c rfl rfl (M7 _) λB i x j l=>Fi j c rfl rfl (by simp) λC g y h m=>Fi h c rfl rfl (by simp) λz e A f n=>?_;exists 0;have o:s.n=st.n+1:=u;let p:=YD x o;let q:=cA y p;rw[o]at l j h f;rw[p]at m h f;rw[q]at n f;exact r z (t.trans (i.trans (g.trans e))) (xD A q) f (((w.fr i (L0 ‹_›)).fr g (L0 ‹_›)).fr e (L0 ‹_›)) ((l.fr g (Nz d)).fr e (Nz d)) (m.fr e (oo d)) n
theorem qa{Q:Q1}(I:v3 st ta "Unions" te [])(c:ta≠te)
 (n:∀a,Fm (λb=>b=te) st a->a.n=st.n+3->v3 a ta "Unions" te [("merged",.ref (st.n+2)),("lots",.ref (st.n+1)),("above",.ref st.n)]->
  d6 a st.n []->d6 a (st.n+1) []->d6 a (st.n+2) []->Q .none a):u9 u8 (k+1) "Unions" "__init__" [.ref ta] st Q:=by
 refine D0 (fd:=QU) rfl rfl ?_;simp only[QU];have f:te<st.n:=I.2.2.1;refine Fi I c rfl rfl (by decide) λo p q r s=>Fi r c rfl rfl (M7 _) λw g t h i=>Fi h c rfl rfl (by simp) λu d v e j=>?_;exists 0;have l:o.n=st.n+1:=q;let m:=YD t l;rw[l]at i h e;rw[m]at j e;exact n u (p.trans (g.trans d)) (cA v m) e ((s.fr g (L0 ‹_›)).fr d (L0 ‹_›)) (i.fr d (Nz f)) j
def h0:HG:={N:=[],u:=⟨[],[],[],0⟩,R:=id,y:=[],ab:=[],Y:=[],ne:=0,nf:=0}
theorem wQ:O7 h0 [] (λa=>k6) 0 0 where
 N:=⟨Bz,by exact F9 _,(λb h=>by cases h),(λi b h=>by simp[h0]at h)⟩
 uf:=⟨rfl,(λn p h=>by simp[h0]at h),(λn p h=>by simp[h0]at h),(λn h=>by simp[h0]at h)⟩
 lN:=rfl
 lotm:=λc l h=>by simp[h0]at h
 kn:=λe h=>by cases h
 knn:=Bz
 abk:=Bz
 abr:=λe h=>by cases h
 aba:=λc h=>(X1 _ h).elim
 abc:=λe h=>by cases h
 wt:=λn h=>by cases h
 cl:=λn b h=>by simp[h0]at h
 least:=λE a a m n d=>(X1 _ d).elim
 tO:=λp h=>by cases h
 sum:=l8 _
 lapN:=⟨F9 _,F9 _⟩
 bw:=l8 _
 bn:=m0 (l8 _) (l8 _) (l8 _)
structure QY (st:St):Prop where
 n:st.n=21
 Z:v3 st 4 "Heap" 3 [("backs",.int 0),("waiting",.ref 20),("above",.ref 19),("known",.ref 18),("forest",.ref 17),("edges",.ref 16),("unions",.ref 12),("bank",.ref 6)]
 bank:v3 st 6 "Bank" 5 [("depths",.ref 10),("weights",.ref 9),("numbers",.ref 8),("nodes",.ref 7)]
 l7:d6 st 7 []
 d8:m7 st 8 [] 0
 l9:d6 st 9 []
 l10:d6 st 10 []
 uni:v3 st 12 "Unions" 11 [("merged",.ref 15),("lots",.ref 14),("above",.ref 13)]
 l13:d6 st 13 []
 l14:d6 st 14 []
 l15:d6 st 15 []
 l16:d6 st 16 []
 l17:d6 st 17 []
 d18:m7 st 18 [] 0
 d19:m7 st 19 [] 0
 l20:d6 st 20 []
theorem QY.at(m:QY st)(x:Ex st st')(b:23<=st'.n):y7 st' h0 where
 n23:=b
 Z:=m.Z.ex x
 bank:=⟨m.bank.ex x,m.l7.ex x,⟨0,m.d8.ex x⟩,(d0 [] (m.l9.ex x) rfl),(d0 [] (m.l10.ex x) rfl)⟩
 uni:=⟨m.uni.ex x,m.l13.ex x,m.l14.ex x,(d0 [] (m.l15.ex x) rfl),rfl,Bz,(λa h=>by cases h),(λi a l h=>by simp[h0]at h)⟩
 edges:=(d0 [] (m.l16.ex x) rfl)
 forest:=(d0 [] (m.l17.ex x) rfl)
 y:=⟨0,m.d18.ex x⟩
 above:=⟨0,m.d19.ex x⟩
 Y:=m.l20.ex x
 abl:=λe h=>by cases h
 abn:=Bz
theorem gz{st:St}{k:a6}{Q:Q1}(I:v3 st 4 "Heap" 3 [])(V:st.n=5)(hq:∀p,Fm (λb=>b=3) st p->QY p->Q .none p):u9 u8 (k+2) "Heap" "__init__" [.ref 4] st Q:=by
 refine D0 (fd:=SZ) rfl rfl ?_;simp only[SZ];generalize u:([.k (.C (.a "self") "unions") (.new "Unions" .nil),.k (.C (.a "self") "edges") (.L .nil),.k (.C (.a "self") "forest") (.L .nil),.k (.C (.a "self") "known") (.D [] .nil),.k (.C (.a "self") "above") (.D [] .nil),.k (.C (.a "self") "waiting") (.L .nil),.k (.C (.a "self") "backs") (.e (.int 0))]:a7 S)=rest;exists 0;let o:=(Ex.A st (.fld [])).trans (Ex.A (st.A (.fld [])) (.I "Bank" st.n));let M:=Nf (st:=st) (c:="Bank");let N:((st.A (.fld [])).A (.I "Bank" st.n)).n=7:=by exact tF V
 rw[V]at M N o ⊢;revert o M N;refine gen ((st.A (.fld [])).A (.I "Bank" 5)) λs1 o M N=>?_;refine bl M (by decide) λO P n2 B2 L7 D8 L9 x=>?_;rw[N]at n2 B2 L7 D8 L9 x;let I2:=(I.ex o).fr P;exists rfl;exists(I2.set (f:="bank") (v:=.ref 6) rfl (by decide)),rfl;refine N5 (O.set 3 (.fld [("bank",.ref 6)])) λl r=>?_;have g3:Fm (λb=>b=3) O l:=by rw[<-r];exact Fm.set rfl
 have n3:l.n=11:=by rw[<-r];exact n2
 have I3:v3 l 4 "Heap" 3 [("bank",.ref 6)]:=by rw[<-r];exact I2.fld (by decide)
 rw[<-u];generalize m:([.k (.C (.a "self") "edges") (.L .nil),.k (.C (.a "self") "forest") (.L .nil),.k (.C (.a "self") "known") (.D [] .nil),.k (.C (.a "self") "above") (.D [] .nil),.k (.C (.a "self") "waiting") (.L .nil),.k (.C (.a "self") "backs") (.e (.int 0))]:a7 S)=rest2;exists 0;let w:=(Ex.A l (.fld [])).trans (Ex.A (l.A (.fld [])) (.I "Unions" l.n));let R:=Nf (st:=l) (c:="Unions");have T:((l.A (.fld [])).A (.I "Unions" l.n)).n=13:=by exact tE n3
 rw[n3]at R T w ⊢;revert w R T;refine gen ((l.A (.fld [])).A (.I "Unions" 11)) λs4 w R T=>?_;refine qa R (by decide) λs5 g5 n5 U5 y z A=>?_;rw[T]at n5 U5 y z A;have I5:=(I3.ex w).fr g5;exists rfl;exists(I5.set (f:="unions") (v:=.ref 12) rfl (by decide)),rfl;refine N5 (s5.set 3 (.fld [("unions",.ref 12),("bank",.ref 6)])) λW s=>?_;have g6:Fm (λb=>b=3) s5 W:=by rw[<-s];exact Fm.set rfl
 have n6:W.n=16:=by rw[<-s];exact n5
 have I6:v3 W 4 "Heap" 3 [("unions",.ref 12),("bank",.ref 6)]:=by rw[<-s];exact I5.fld (by decide)
 rw[<-m];refine Fi I6 (by decide) rfl rfl (by decide) λs7 g7 n7 I7 B=>?_;rw[n6]at n7 I7 B;refine Fi I7 (by decide) rfl rfl (by decide) λs8 X n8 I8 C=>?_;rw[n7]at n8 I8 C;refine Uv I8 (by decide) rfl rfl (by decide) λs9 U n9 I9 D=>?_;rw[n8]at n9 I9 D;refine Uv I9 (by decide) rfl rfl (by decide) λs10 i E F G=>?_;rw[n9]at E F G;refine Fi F (by decide) rfl rfl (by decide) λH g J t K=>?_;rw[E]at J t K;exists 0;exists 0,(t.set (f:="backs") (v:=.int 0) rfl (by decide));generalize j:H.set 3 _=h;let a:Fm (λb=>b=3) H h:=by rw[<-j];exact Fm.set rfl
 let n12:h.n=21:=by rw[<-j];exact J
 let I12:v3 h 4 "Heap" 3 [("backs",.int 0),("waiting",.ref 20),("above",.ref 19),("known",.ref 18),("forest",.ref 17),("edges",.ref 16),("unions",.ref 12),("bank",.ref 6)]:=by rw[<-j];exact t.fld (by decide)
 let d:Fm (λb=>b=3\/b=11) O h:=(g3.mono λb Y q=>.inl q).trans ((Fm.ex w).trans ((g5.mono λb Y q=>.inr q).trans ((g6.mono λb Y q=>.inl q).trans ((g7.trans (X.trans (U.trans (i.trans (g.trans a))))).mono λb Y q=>.inl q))));let e:=g6.trans (g7.trans (X.trans (U.trans (i.trans (g.trans a)))));let L:Fm (λb=>b=3) st h:=by refine⟨b6 o.1 (b6 P.1 d.1),λb Z hp=>?_⟩;let hb5:=ue Z V;let h1:=j7 Z o.1;let h2:b<O.n:=j7 h1 P.1;rw[d.2 b h2 λq=>q.elim hp λq=>u6 (q▸hb5) (by decide),P.2 b h1 (m6 ‹_›),o.2 b Z]
 refine hq h L ⟨n12,I12,B2.fr d,L7.fr d,D8.fr d,L9.fr d,x.fr d,U5.fr e,y.fr e,z.fr e,A.fr e,
  B.fr (X.trans (U.trans (i.trans (g.trans a)))) (by decide),C.fr (U.trans (i.trans (g.trans a))) (by decide),D.fr (i.trans (g.trans a)) (by decide),G.fr (g.trans a),K.fr a⟩
theorem rV{nodes:a7 Nd}{R:a6->a6}{ats:a7 AV}{es:a7 En}{os:a7 a6}{fs:a7 (a6×a7 a6)}(u:DA nodes R ats es)(h:os.Nodup)(r:∀c,c∈os↔∃a∈ats,c∈a.2)(z:(fs.map (·.2)).Nodup)
 (y:∀f,f∈fs.map (·.2)↔f.length=os.length/\∀a∈ats,Z0 nodes R a.1 a.2.length (a.2.map (sg os f))):(fs.map λf=>TD (os.zip f.2)).Perm (D9 (es.map TD)):=by
 have v:∀f∈fs,f.2.length=os.length:=λf m=>((y f.2).mp (V9 m)).1;have j:∀e∈es,∀c,c∈e.map (·.1)↔c∈os:=λe k c=>by rw[(u.ok e k).2.1 c,r c]
 haveI:Ec b0:=λa b=>Ea _
 refine KU ?_ (GZ (Jb es)) λx=>?_
 .rw[Bw,Y6];refine Gb ?_ (List.pairwise_map.mp (BN z));intro f g m F A e;refine A ?_;rw[Ix h (v f m),Ix h (v g F)];refine A2 λc o=>?_;rw[Ib h (v f m),Ib h (v g F)]at e;refine A8 (wV e (p:=(c,sg os f.2 c)) (B9 (a:=c) o rfl)) λd M s=>?_;let w:=(Cz s).1;let G:=(Cz s).2;dsimp only at w G;rw[<-G,w]
 .rw[(EX (Jb es)) x];constructor
  .intro q;ext B5 q f m;let n:=(y f.2).mp (V9 m);ext1 n L w;refine c9 (u.all (sg os f.2) w) λe k B=>B9 (a:=e) k (u0 (u.ok e k) λl H H=>?_);rw[Nj (Nr l (j e k) h),Ib h L];let i:(os.map λc=>(c,lk e c))=os.map λc=>(c,sg os f.2 c):=A2 λc o=>by
    refine A8 ((j e k c).mpr o) λp I t=>?_;let J:=Jp l.1 I;rw[t]at J;unfold lk;rw[J];refine(?_:(c,p.2)=_);rw[(B p I),t]
   rw[i]
  .intro q;ext B5 q e k;let n:=u.ok e k;ext1 n l H C;let m:os.map (lk e)∈fs.map (·.2):=(y _).mpr ⟨by rw[f7],λa K=>by
    let i:a.2.map (sg os (os.map (lk e)))=a.2.map (lk e):=A2 λc o=>Rl ((r c).mpr (d0 a K o));rw[i];exact C a K⟩
   refine A8 m λf D E=>B9 (a:=f) D (?_);rw[E,Ib h (by rw[f7]),Nj (Nr l (j e k) h)];let i:(os.map λc=>(c,sg os (os.map (lk e)) c))=os.map λc=>(c,lk e c):=A2 λc o=>by rw[Rl o]
   rw[i]
theorem sL{xs:a7 b0}(h:G8 xs):W5 xs xs=a8:=by
 induction xs with
 |nil=>rfl
 |cons x xs c=>refine(?_:(l3 x x&&W5 xs xs)=a8);rw[Eu (h x j5 x j5),c λa d b e=>h a (k8 _ d) b (k8 _ e)];rfl
theorem ZZ{st:St}{a:a6}{xs:a7 b0}(h:d6 st a xs)(d:d6 st b xs)(c:G8 xs):B0 .eq (.ref a) (.ref b) st=a0 a8:=by refine(?_:Bk st (.ref a) (.ref b)=_);unfold Bk;rw[h.list,d.list];refine(?_:(if LK xs xs then a0 (W5 xs xs)else b4)=_);let e:LK xs xs=a8:=eI λx f y g=>c x f y g;rw[g0 e,sL c]theorem qj{st:St}{a:a6}{xs:a7 b0}(h:d6 st a xs)(c:d6 st b xs)(d:G8 xs):B0 .ne (.ref a) (.ref b) st=a0 c8:=by have f:=ZZ h c d;refine(?_:(Bk st (.ref a) (.ref b)).map (!·)=_);have e:Bk st (.ref a) (.ref b)=a0 a8:=f;rw[e];rfl
structure Lw (st:St) (N:a7 Nd) (P:a7 (a6×a6)) (R:a6->a6) (ats:a7 AV) (aa ja je ta te rd lo:a6) (tbs:a7 Tb) (ev:a7 Ev):Prop where
 G:Db N
 two:N.take 2=[([97],[]),([98],[])]
 cnt:N.length+P.length<=8
 hP:∀p∈P,p.1<N.length/\p.2<N.length
 lc:Lc N P R
 rows:d6 st 21 (N.map o4)
 pairs:d6 st 22 (P.map AP)
 asked:d6 st aa (ats.map W8)
 a1:1<=ats.length
 a3:ats.length<=3
 atm:∀a∈ats,isAtom a
 J:Ia st ja je ta te rd lo tbs ev
 ev:∀(ky:Bp)l,(ky,l)∈ev↔Z0 N R ky.1 ky.2 l
section
variable{ev:a7 Ev}
theorem Lw.ex(h:Lw st nodes P R ats aa ja je ta te rd lo tbs ev)(x:Ex st st'):Lw st' nodes P R ats aa ja je ta te rd lo tbs ev:=
 {h with rows:=h.rows.ex x,pairs:=h.pairs.ex x,asked:=h.asked.ex x,J:=h.J.ex x}theorem Zs{M:a6->a6}(a:Lc nodes P M)(b:Lc nodes P R):Y0 M nodes.length=Y0 R nodes.length:=by unfold Y0;congr 1;exact A2 λn c=>a.eq b (U7 c)
theorem Lw.len(h:Lw st nodes P R ats aa ja je ta te rd lo tbs ev)(d:Bp):(E9 ev d).length<=nodes.length:=by
 let c:=UC (rel:=λ(l:a7 a6)(n:a6)=>∃a,nodes[n]?=a0 a/\l=R n::a.2.map R) (m:=p0 nodes.length) (Xj h.J.E d).1 (λl i=>by
  exact T0 ((h.ev d l).mp ((Ls ev d l).mp i)) λn a b f f e=>⟨n,CC (x0 b),a,b,e⟩) λl f q f n b e=>by
   ext c9 b a j k;ext c9 e p g o;rw[j]at g;cases g;rw[k,o]
 rwa [Br]at c
theorem Lw.line(h:Lw st nodes P R ats aa ja je ta te rd lo tbs ev){d:Bp}{l:a7 a6}(e:l∈E9 ev d):l.length=d.2/\(∀x∈l,x<8)/\l≠[]:=by
 refine T0 ((h.ev d l).mp ((Ls ev d l).mp e)) ?_;clear e;rintro n i f p j rfl;let k:=x0 f;refine m0 (by rw[N9,f7,j]) (λx b=>?_) (by simp);have c:∀m,m<nodes.length->R m<8:=λm g=>by let a:=h.lc.le m g;exact q5 a (j7 g (b6 (G3 _ _) h.cnt))
 rcases D2 b with rfl|b
 .exact c n k
 .refine B5 b ?_;clear b;clear b;rintro y o;exact c y (by let a:=h.G.kid n i f y o;exact b6 ‹_› (m9 ‹_›))
theorem np{k:a6}{ρ:Env}{Q:Q1}(H:Lw st nodes P R ats aa ja je ta te rd lo tbs ev)(N:ρ "asked"=a0 (.ref aa))(r2:ρ "joins"=a0 (.ref ja))(r3:ρ "rows"=a0 (.ref 21))(r4:ρ "pairs"=a0 (.ref 22))
 (hq:∀o,Q (.bool a8) o):G6 (u9 u8 (k+2)) (w9.body.drop 7) ρ st (DE Q):=by
 simp only[w9,Hz,DU];obtain⟨c,ar,m⟩:∃c ar,ats=c::ar:=by
  cases ats with
  |nil=>let this:=H.a1;simp at this
  |cons a r=>exact Dz a r rfl
 let hal:c.2.length<=4:=U6 (Rx (H.atm c (by rw[m];exact j5)));have u:=H.cnt;let e1:Ew (.ref aa) (1:d3) st=a0 (.ref st.n,st.A (.L [W8 c])):=by
  refine(?_:(match st.list? (.ref aa)with
   |some xs=>if(0:d3)<=1/\(1:d3)<=j8 then a0 (b0.ref st.n,st.A (.L (xs.take (1:d3).toNat)))else b4
   |none=>b4)=_)
  rw[H.asked.list];refine(?_:(if(0:d3)<=1/\(1:d3)<=j8 then a0 (b0.ref st.n,st.A (.L ((ats.map W8).take (1:d3).toNat)))else b4)=_);rw[g0 ⟨by solve_by_elim (maxDepth:=2)only[*,j7],by unfold j8;solve_by_elim (maxDepth:=2)only[*,j7]⟩,m];rfl
 exists N,e1,rfl;let K:=Ex.A st (.L [W8 c]);let A:=d6.new st [W8 c];generalize st.n=la at A ⊢;revert K A;refine gen (st.A (.L [W8 c])) λU K A=>?_;exists(Q4 A),rfl;refine CS (nx:=λi=>.seq (.ref la) i) (xs:=[W8 c]) (I:=λi o g=>Ex U o/\g=if i=0 then[]else(E9 ev (c.1,c.2.length)).map m8) (λi o g O hI=>R9 (A.ex hI.1) i) ?_ ?_ ⟨Ex.refl _,rfl⟩
 .rintro i x h g kk B z1 hk;ext k9 z1 L d;have O:i=0:=by let this:=x0 B;simpa using this
  subst O;cases B;rw[g0 rfl]at d;subst d;have C:=(H.J.ex K).ex L;refine d4 C.j λcr hJ=>?_;have e2:H9 h (.ref ja) "tables"=a0 (.ref ta):=hJ.C rfl rfl;have w:∀ρ,AD ["op","names"] (W8 c) ρ=a0 ((ρ.set "op" (.str c.1)).set "names" (.B (c.2.map sD))):=λz=>rfl;have e:∀s,M4 .len [.B (c.2.map sD)] s=a0 (iD c.2.length,s):=λs=>by
   have:=GD (st:=s) (xs:=c.2.map sD) (by rw[f7];exact p6)
   rwa [f7]at this
  exists 0,w,r2,e2,C.t.I,e;refine C.t.go (hY C.t C.T λG b D t=>?_);exists(Q4 t),rfl;refine Ae (nx:=λi=>.seq (.ref b) i) (xs:=(E9 ev (c.1,c.2.length)).map m8) (p:=λz=>a8) (f:=id) (λi O=>R9 t i) ?_ ?_
  .rintro j y g kk' hy E V;rw[f7]at E;exact⟨by unfold j8;exact ff u (H.len (c.1,c.2.length)) E,by simpa using V⟩
  .rw[Ba,Dd λz z=>rfl];exact hk G _ ⟨L.trans D,by rw[j4 (by decide)]⟩
 .rintro h g z2;ext k9 z2 L d;have d:g=(E9 ev (c.1,c.2.length)).map m8:=by rw[d,j4 (by simp)]
  subst d;exists 0;have D:=Ex.A h (.L ((E9 ev (c.1,c.2.length)).map m8));have t:=d6.new h ((E9 ev (c.1,c.2.length)).map m8);generalize h.n=lb at t ⊢;revert D t;refine gen (h.A (.L ((E9 ev (c.1,c.2.length)).map m8))) λG D t=>?_;have F:=H.ex (K.trans (L.trans D));exists r3,r4,rfl;refine Yh F.G F.rows F.pairs F.hP (fO u) λv am M x4 L4 W=>?_;rw[Zs W H.lc]at L4;have S:=F.ex x4;have f1:J9 (.ref aa) (.int 0) v=a0 (W8 c):=AX (i:=0) S.asked (F9 _) (by rw[m];rfl);have f2:J9 (W8 c) (.int 0) v=a0 (.str c.1):=BR (i:=0) (F9 _) rfl;have f3:J9 (W8 c) (.int 1) v=a0 (.B (c.2.map sD)):=BR (i:=1) (M0 _ _) rfl;have e:∀s,M4 .len [.B (c.2.map sD)] s=a0 (iD c.2.length,s):=λs=>by
   have:=GD (st:=s) (xs:=c.2.map sD) (by rw[f7];exact p6)
   rwa [f7]at this
  exists N,f1,f2,f3,e,rfl;(try exists 0,N,f1,f2,f3,e);refine ZD S.G S.rows L4 λq b tb x5 L5 X J Y=>?_;let Z:C1 (tb.map m8)=a8:=by unfold C1;simp only[C2,C3];refine⟨⟨by rw[f7];exact mq u Y,Hn (OK tb)⟩,Cw λx B=>B5 B ?_⟩;rintro l E;refine T0 ((J l).mp E) ?_;clear E B;rintro n nd z z z rfl;rfl
  exists(Kq L5 Z),rfl;rw[(ov H.J.E X λl=>by rw[J l];exact(H.ev (c.1,c.2.length) l).symm)];let x6:=Ex.A q (.L ((E9 ev (c.1,c.2.length)).map m8));let T:=d6.new q ((E9 ev (c.1,c.2.length)).map m8);generalize q.n=lc at T ⊢;generalize q.A (.L ((E9 ev (c.1,c.2.length)).map m8))=st6 at x6 T ⊢;exists 0,(ZZ (t.ex (x4.trans (x5.trans x6))) T (OK _));exact hq st6
end
theorem ba{k:a6}{us:a7 a6}{es:a7 En}{ρ:Env}{Q:Q1}(H:Lw st nodes P R ats aa ja je ta te rd lo tbs ev)(r1:ρ "asked"=a0 (.ref aa))(r2:ρ "joins"=a0 (.ref ja))(r3:ρ "rows"=a0 (.ref 21))(r4:ρ "pairs"=a0 (.ref 22))
 (r5:ρ "some"=a0 (.ref sa))(r6:ρ "turn"=a0 (iD t))(r7:ρ "due"=a0 (.ref da))(LS:d6 st sa (us.map sD))(ht:t<us.length)(W:us.Nodup)(h:us.length<=4)(X:∀c,c∈us↔∃a∈ats,c∈a.2)
 (LD:d6 st da (y8 (D9 (es.map TD))))(HE:DA nodes R ats es)(hq:∀d,Q (.bool a8) d):G6 (u9 u8 (k+3)) (w9.body.drop 6) ρ st (DE Q):=by
 let hb:w9.body.drop 6=(w9.body.drop 6).head (by simp[w9])::w9.body.drop 7:=rfl;rw[hb];generalize E:w9.body.drop 7=rest;let e1:Eh (.ref sa) ((t:a6):d3) st=a0 (.ref st.n,st.A (.L ((us.map sD).drop t))):=by
  refine(?_:(match st.list? (.ref sa)with
   |some xs=>if 0<=((t:a6):d3)/\((t:a6):d3)<=j8 then a0 (b0.ref st.n,st.A (.L (xs.drop ((t:a6):d3).toNat)))else b4
   |none=>b4)=_)
  rw[LS.list];refine(?_:(if 0<=((t:a6):d3)/\((t:a6):d3)<=j8 then a0 (b0.ref st.n,st.A (.L ((us.map sD).drop ((t:a6):d3).toNat)))else b4)=_);rw[g0 ⟨by solve_by_elim (maxDepth:=2)only[*,j7],by unfold j8;exact Int.ofNat_le.mpr (b6 (m9 ht) (b6 h (by decide)))⟩,Q8]
 exists r5,r6,e1,rfl;let x1:=Ex.A st (.L ((us.map sD).drop t));let L1:=d6.new st ((us.map sD).drop t);generalize st.n=p1 at L1 ⊢;revert x1 L1;refine gen (st.A (.L ((us.map sD).drop t))) λn x1 L1=>?_;let Y:=LS.ex x1;let e2:Ew (.ref sa) ((t:a6):d3) n=a0 (.ref n.n,n.A (.L ((us.map sD).take t))):=by
  refine(?_:(match n.list? (.ref sa)with
   |some xs=>if 0<=((t:a6):d3)/\((t:a6):d3)<=j8 then a0 (b0.ref n.n,n.A (.L (xs.take ((t:a6):d3).toNat)))else b4
   |none=>b4)=_)
  rw[Y.list];refine(?_:(if 0<=((t:a6):d3)/\((t:a6):d3)<=j8 then a0 (b0.ref n.n,n.A (.L ((us.map sD).take ((t:a6):d3).toNat)))else b4)=_);rw[g0 ⟨by solve_by_elim (maxDepth:=2)only[*,j7],by unfold j8;exact Int.ofNat_le.mpr (b6 (m9 ht) (b6 h (by decide)))⟩,Q8]
 exists r5,r6,e2,rfl;let J:=Ex.A n (.L ((us.map sD).take t));let L2:=d6.new n ((us.map sD).take t);generalize n.n=p2 at L2 ⊢;revert J L2;refine gen (n.A (.L ((us.map sD).take t))) λs2 J L2=>?_;exists(Ng (L1.ex J) L2 (by rw[MA,O9,f7];exact b6 (U0 (My _ _) (Go _ _)) (b6 (U0 h h) (by decide)))),rfl;rw[<-a7.map_drop,<-a7.map_take,<-p9];let x3:=Ex.A s2 (.L ((us.drop t++us.take t).map sD));let L3:=d6.new s2 ((us.drop t++us.take t).map sD);generalize s2.n=K at L3 ⊢;revert x3 L3;refine gen (s2.A (.L ((us.drop t++us.take t).map sD))) λu x3 L3=>?_;let LS3:=Y.ex (J.trans x3);let e4:Fk (.ref sa) u=a0 (.ref u.n,u.A (.L (us.reverse.map sD))):=by unfold Fk;rw[LS3.list,mM]
 exists r5,e4,rfl;let x4:=Ex.A u (.L (us.reverse.map sD));let L4:=d6.new u (us.reverse.map sD);generalize u.n=L at L4 ⊢;revert x4 L4;refine gen (u.A (.L (us.reverse.map sD))) λs4 x4 L4=>?_;let M:=Ex.A s4 (.L [.ref K,.ref L]);let N:=d6.new s4 [.ref K,.ref L];generalize s4.n=p5 at N ⊢;revert M N;refine gen (s4.A (.L [.ref K,.ref L])) λs5 M N=>?_;exists(Q4 N),rfl;have X5:Ex st s5:=x1.trans (J.trans (x3.trans (x4.trans M)));let H5:=H.ex X5;let LD5:=LD.ex X5;let L35:=L3.ex (x4.trans M);let L45:=L4.ex M;let hc8:=H.cnt;have o:=HE.few H.G H.two H.lc H.hP H.cnt H.atm H.a1 H.a3 W h X;refine BC (nx:=λi=>.seq (.ref p5) i) (xs:=[.ref K,.ref L]) (I:=λi ρ d=>Ex s5 d/\ρ "asked"=a0 (.ref aa)/\ρ "joins"=a0 (.ref ja)/\ρ "rows"=a0 (.ref 21)/\ρ "pairs"=a0 (.ref 22)/\ρ "due"=a0 (.ref da)) (λi ρ d hi hI=>R9 (N.ex hI.1) i) ?_ ?_ ⟨Ex.refl _,r1,r2,r3,r4,r7⟩
 .rintro i x ρ' st6 kk F z1 hk1 hk2;ext dX z1 O S T q3 q4 q7;obtain⟨oa,os,hxo,LO,B⟩:∃(oa:a6)(os:a7 a6),x= .ref oa/\d6 s5 oa (os.map sD)/\os.Perm us:=by
   rcases i with _|_|i
   .cases F;exact E8 K _ rfl L35 (List.perm_append_comm.trans (by rw[VK]))
   .cases F;exact E8 L _ rfl L45 (pN us)
   .simp at F
  clear F;subst hxo;let H6:=H5.ex O;let v:=H6.J.j;ext1 v cr hJ;have Z:os.Nodup:=B.nodup_iff.mpr W;have hol:os.length<=4:=by rw[B.length_eq];exact h
  have C:∀c,c∈os↔∃a∈ats,c∈a.2:=λc=>by rw[B.mem_iff,X c]
  exists T,S,hJ.I,rfl;(try exists 0,T,S,hJ.I);refine hJ.go (vz H6.J H6.asked (LO.ex O) Z hol H.a3 (λc hc=>(C c).mp hc) (λa w=>?_) (λa w=>⟨b6 (H.len _) (b6 (G3 _ _) (b6 hc8 (by decide))),λl hl=>⟨(H.line hl).1,(H.line hl).2.1⟩⟩) λst7 r G x7 L7 D7 hnd hm=>?_)
  .have hat:=H.atm a w;refine m0 (λe=>?_) ?_ λc hc=>(C c).mpr (d0 a w hc)
   .let s:=hat.1;rw[e]at s;simp at s
   .exact U6 (Rx hat)
  .let hm':∀f,f∈G.map (·.2)↔f.length=os.length/\∀a∈ats,Z0 nodes R a.1 a.2.length (a.2.map (sg os f)):=λf=>by
    rw[hm f];constructor
    .rintro z2;ext k9 z2 h1 h2;exact⟨h1,λa w=>(H.ev (a.1,a.2.length) _).mp ((Ls _ _ _).mp (h2 a w))⟩
    .rintro z3;ext k9 z3 h1 h2;exact⟨h1,λa w=>(Ls _ _ _).mpr ((H.ev (a.1,a.2.length) _).mpr (h2 a w))⟩
   have p:=rV HE Z C hnd hm';let g:=cP p o;let hFl:=He g;rw[f7]at hFl;exists(Q4 L7),rfl;refine CS (nx:=λi=>.seq (.ref r) i) (xs:=G.map λf=>.ref f.1) (I:=λj d q=>Ex st7 d/\q=(G.take j).map λf=>TD (os.zip f.2)) (λj d q hj hI=>R9 (L7.ex hI.1) j) ?_ ?_ ⟨Ex.refl _,rfl⟩
   .rintro j y b q kk' U z4 hk;ext1 z4 x8 rfl;rw[o7,Av]at U;ext c9 U f hf rfl;have hfm:=p8 hf;let v:=D7 f hfm;ext1 v ep D8;let D8':=D8.ex x8;let hzl:(os.zip f.2).length<=10:=by rw[PY];exact Jh (b6 hol (by decide))
    let f1:=bH D8' hzl;exists 0,f1;let z:=d6.new b (y8 (AG (os.zip f.2)));let V:=Ex.A b (.L (y8 (AG (os.zip f.2))));generalize b.A (.L (y8 (AG (os.zip f.2))))=m at z V ⊢;exists(EC z),rfl;refine⟨by rw[f7,O9];exact Hd (b6 (m9 hFl) (by decide)),hk m _ ⟨x8.trans V,?_⟩⟩;rw[Ak,hf,p9];rfl
   .rintro b q z5;ext1 z5 x8 rfl;rw[f7,X4];exists rfl;let V:=Ex.A b (.L (G.map λf=>TD (os.zip f.2)));let z:=d6.new b (G.map λf=>TD (os.zip f.2));generalize b.n=fa at z ⊢;generalize b.A (.L (G.map λf=>TD (os.zip f.2)))=m at V z ⊢;let hso:=Ut (FU o) (FU g) p;exists(Kq z g),hso,rfl;(try exists 0,(Kq z g),hso);let x10:=Ex.A m (.L (y8 (D9 (es.map TD))));let D:=d6.new m (y8 (D9 (es.map TD)));generalize m.n=ga at D ⊢;generalize m.A (.L (y8 (D9 (es.map TD))))=st10 at x10 D ⊢;let X10:=O.trans (x7.trans (x8.trans (V.trans x10)));exists 0,q7,(qj D (LD5.ex X10) λx F y U=>FU o x ((Y2 _).mem_iff.mp F) y ((Y2 _).mem_iff.mp U));exact(hk1 _ _ ⟨X10,by exact S,by exact T,by exact q3,by exact q4,by exact q7⟩).1
 .rintro ρ' st6 A;ext1 A O S T q3 q4 q7;exists 0;rw[<-E];exact np (H5.ex O) S T q3 q4 hq
section
variable{sp:a6}{ev:a7 Ev}
theorem Ld(F:V4 st sp)(h:d6 st a xs):a≠2:=λe=>by
 ext o0 F b b b D b;have c:=h.2;rw[e,D.2]at c;cases c
theorem Nv(F:V4 st sp)(h:v3 st a c e fs):a≠2/\e≠2:=by
 ext o0 F d d d D d;refine⟨λq=>?_,λq=>?_⟩
 .have b:=h.2.1;rw[q,D.2]at b;cases b
 .have b:=h.2.2.2;rw[q,D.2]at b;cases b
theorem Lw.fr2(h:Lw st nodes P R ats aa ja je ta te rd lo tbs ev)(F:V4 st sp)(g:Fm (λb=>b=2) st st'):Lw st' nodes P R ats aa ja je ta te rd lo tbs ev:=by
 let i:rd≠2:=λq=>by
  ext o0 F f f f D f;let a:=h.J.T.dict;ext1 a j c;let d:=c.2;rw[q,D.2]at d;injection d with d _;clear h c;cases tbs with
  |nil=>cases d
  |cons t r=>have l:=(Cz ((Gg d).1:(q8 "cells",b0.ref 1)=(AR t.1,b0.ref t.2.1))).1;cases l
 let a:=h.J.j;ext1 a m e;refine{h with rows:=h.rows.fr g (Ld F h.rows),pairs:=h.pairs.fr g (Ld F h.pairs),asked:=h.asked.fr g (Ld F h.asked),J:=⟨⟨m,e.fr g (Nv F e).1 (Nv F e).2⟩,h.J.t.fr g (Nv F h.J.t).1 (Nv F h.J.t).2,⟨?_,h.J.T.keys,h.J.T.adrs,λt n=>?_,h.J.T.has,h.J.T.few⟩,h.J.E⟩}
 .exact d4 h.J.T.dict λj c=>⟨j,c.fr g i⟩
 .let a:=h.J.T.cell t n;ext1 a o p k s;exact M3 o p (k.fr g (Ld F k)) s
theorem rW{o:a6}{us:a7 a6}{ρ:Env}{Q:Q1}(H:Lw st nodes P R ats aa ja je ta te rd lo tbs ev)(F:V4 st sp)(J:sp<=100)(p:ρ "asked"=a0 (.ref aa))(A:ρ "joins"=a0 (.ref ja))(q:ρ "rows"=a0 (.ref 21))(r:ρ "pairs"=a0 (.ref 22))
 (s:ρ "some"=a0 (.ref o))(B:ρ "feed"=a0 (.ref 2))(j:d6 st o (us.map sD))(i:0<us.length)(f:us.Nodup)(g:us.length<=4)(h:∀c,c∈us↔∃a∈ats,c∈a.2)(C:∀l,Q (.bool a8) l):G6 (u9 u8 29) (w9.body.drop 5) ρ st (DE Q):=by
 let D:w9.body.drop 5=(w9.body.drop 5).head (by simp[w9])::w9.body.drop 6:=rfl;rw[D];generalize d:w9.body.drop 6=z;simp only[w9,Hz,DU,HU];let u:=X0 j;rw[f7]at u;exists B,s,u,rfl;refine FO (k:=28) F p6 i p6 λK t v O E=>?_;have e:=H.fr2 F v;let m:=H.cnt;exists q,r,rfl;refine Yh (k:=28) e.G e.rows e.pairs e.hP (fO m) λL S M w x n=>?_;rw[Zs n H.lc]at x;let b:=e.ex w;exists 0,p;refine gm (k:=27) b.G b.two b.lc b.hP b.cnt b.atm b.a1 b.a3 f g h b.rows x b.asked λN T U y G I=>?_;exists 0,Et;rw[<-d];exact ba (k:=26) (b.ex y) p A q r s rfl rfl (((j.fr v (Ld F j)).ex w).ex y) E f g h G I C
theorem ju(H:Lw st nodes P R ats aa ja je ta te rd lo tbs ev)(F:V4 st sp)(U:sp<=100)(Y:ρ "asked"=a0 (.ref aa))(r2:ρ "joins"=a0 (.ref ja))(r3:ρ "rows"=a0 (.ref 21))(r4:ρ "pairs"=a0 (.ref 22))
 (r6:ρ "feed"=a0 (.ref 2))(hq:∀n,Q (.bool a8) n):G6 (u9 u8 29) (w9.body.drop 4) ρ st (DE Q):=by
 let hb:w9.body.drop 4=(w9.body.drop 4).head (by simp[w9])::w9.body.drop 5:=rfl;rw[hb];generalize A:w9.body.drop 5=rest;simp only[w9,Hz,DU,HU];exists Y,(Q4 H.asked),rfl;have v:∀a∈ats,a.2.length<=3/\a.2≠[]:=λa u=>by
  rcases(H.atm a u).1 with q|q|q|q
  .exact⟨by rw[q.2];decide,λe=>by rw[e]at q;simp at q⟩
  .exact⟨by rw[q.2];decide,λe=>by rw[e]at q;simp at q⟩
  .exact⟨by rw[q.2];decide,λe=>by rw[e]at q;simp at q⟩
  .exact⟨by rw[q.2];decide,λe=>by rw[e]at q;simp at q⟩
 have z:∀i,((ats.take i).flatMap (·.2)).length<=9:=λi=>by
  let Z:=IX (B:=3) (g:=λa:AV=>a.2) (ats.take i) λa u=>(v a (LV u)).1;rw[O9]at Z;let h2:=b6 (Go _ _) H.a3;let L:=EI 3 h2;exact b6 Z L
 refine CS (nx:=λi=>.seq (.ref aa) i) (xs:=ats.map W8) (I:=λi n l=>n=st/\l=((ats.take i).flatMap (·.2)).map sD) (λi n l hi hI=>by rw[hI.1];exact R9 H.asked i) ?_ ?_ ⟨rfl,rfl⟩
 .rintro i x p l kk t z1 hk;ext k9 z1 rfl rfl;rw[o7,Av]at t;ext c9 t a u rfl;let C:∀ρ,AD ["op","names"] (W8 a) ρ=a0 ((ρ.set "op" (.str a.1)).set "names" (.B (a.2.map sD))):=λM=>rfl;exists C,Eo,rfl;refine CS (nx:=λi=>.seq (.B (a.2.map sD)) i) (xs:=a.2.map sD) (I:=λj n l=>n=p/\l=((ats.take i).flatMap (·.2)).map sD++(a.2.take j).map sD) (λj n l hj hI=>Dt j) ?_ ?_ ⟨rfl,by simp⟩
  .rintro j y s l kk' w z2 V;refine k9 z2 ?_;clear z2;clear H F hk;rintro rfl rfl;refine c9 (cZ w) ?_;clear w;rintro c N rfl;let D:=z i;let L:=(v a (p8 u)).1;refine⟨by rw[u7,f7,f7,O9];exact b6 (U0 D (Hd L)) (by decide),V _ _ ⟨rfl,?_⟩⟩;rw[Ak,N,p9,Eb];rfl
  .rintro s l z3;refine k9 z3 ?_;clear z3;clear H F;rintro rfl rfl;refine hk _ _ ⟨rfl,?_⟩;rw[f7,X4,Ak,u,mC,p9];simp
 .rintro p l z4;ext k9 z4 rfl rfl;rw[f7,X4];have h:G8 ((ats.flatMap (·.2)).map sD):=λx t y w=>by
   ext B5 t c M;ext B5 w d M;rfl
  refine Lv (dF (f:=sD) (λa b=>Li) h) λG u1 u2 u3 u4 u5=>?_;let D:=z ats.length;rw[X4]at D;let E:C1 (D9 ((ats.flatMap (·.2)).map sD))=a8:=by
   let J:=EX h;haveI:Ec b0:=λa b=>Ea _
   unfold C1;simp only[C2,C3];refine⟨⟨?_,Hn λx t y w=>h x ((J x).mp t) y ((J y).mp w)⟩,Cw λx t=>?_⟩
   .let k:=V2 (GZ h) λx t=>(J x).mp t;rw[f7]at k;exact q5 k (q5 D (by decide))
   .refine B5 ((J x).mp t) ?_;rintro c M;rfl
  exists 0;let O:=Ex.A p (.L ((ats.flatMap (·.2)).map sD));let K:=d6.new p ((ats.flatMap (·.2)).map sD);generalize p.n=la at K ⊢;generalize p.A (.L ((ats.flatMap (·.2)).map sD))=s at O K ⊢;rw[TV K h (by rw[f7];exact p6) E,u3];exists 0;let S:=Ex.A s (.L (G.map sD));let T:=d6.new s (G.map sD);generalize s.n=lb at T ⊢;generalize s.A (.L (G.map sD))=st3 at S T ⊢;rw[<-A];have o:∀c,c∈G↔∃a∈ats,c∈a.2:=λc=>by rw[u2 c,nH]
  refine rW (H.ex (O.trans S)) (F.ex (O.trans S)) U Y r2 r3 r4 rfl r6 T ?_ u1 ?_ o hq
  .obtain⟨a,u⟩:∃a,a∈ats:=by
    clear v z h u2 u3 u5 D E K o;cases ats with
    |nil=>let k:=H.a1;simp at k
    |cons a r=>exact⟨a,j5⟩
   exact S7 (mR (v a u).2) λc r W=>Vt ((o c).mpr (d0 a u (by rw[W];exact j5)))
  .let k:=V2 (m:=[120,121,122,119]) u1 λc N=>by
    refine c9 ((o c).mp N) λa u X=>?_;rcases(H.atm a u).2 c X with q|q|q|q<;>rw[q]<;>simp
   exact k
end
theorem ot{st:St}{h:HG}{P:a7 (a6×a6)}{s z:a6}{ρ:Env}{Q:Q1}(B:NO st h P s z)(A:h.Y=[])(t:z<=20)(H:ρ "rows"=a0 (.ref 21))(I:ρ "pairs"=a0 (.ref 22))(C:ρ "feed"=a0 (.ref 2))(J:ρ "heap"=a0 (.ref 4))(K:∀u,Q (.bool a8) u):
 G6 (u9 u8 29) (w9.body.drop 3) ρ st (DE Q):=by
 let o:w9.body.drop 3=(w9.body.drop 3).head (by simp[w9])::w9.body.drop 4:=rfl;rw[o];generalize i:w9.body.drop 4=G;simp only[w9,Hz,DU,HU];exists C,rfl;refine gy (k:=27) B.feed p6 λa L v Z m D haa M j N O w=>?_;have E:=B.H.out m (by decide);exists J,rfl;let g:=(Ex.A a (.fld [])).trans (Ex.A (a.A (.fld [])) (.I "Joins" a.n));let q:=Nf (st:=a) (c:="Joins");generalize d:a.n=r at q g ⊢;generalize((a.A (.fld [])).A (.I "Joins" r))=st2 at g q ⊢;let S:Ic h P:=⟨B.K.N,B.K.uf,B.K.lN,B.K.lotm,B.K.lc A⟩;let h21:=B.rows.1;let e:=B.pairs.1;let f:=m.1;refine kh (k:=23) (E.ex g) S q (λb o=>by let l:=E.own_lt o;exact KY l d) fG λst3 T U V W x X n Y y=>?_;exists 0,Et;rw[<-i];refine ju (nodes:=h.N) (P:=P) (R:=h.R) (ats:=v) (aa:=L) (ja:=r+1) (je:=r) (ta:=T) (te:=U) (rd:=V) (lo:=W) (tbs:=x) (ev:=X) ⟨B.K.N,B.two,b6 B.cnt (O8 B.K.lapN.2 2),λp F=>⟨(B.K.tO p F).1,(B.K.tO p F).2.1⟩,B.K.lc A,
  ((B.rows.fr m).ex g).fr n (gJ e f d rfl),((B.pairs.fr m).ex g).fr n (gJ e f d rfl),(D.ex g).fr n (OO D.1 d),N,O,w,Y,y⟩ ((M.ex g).fr n (gJ e f d rfl) (gJ e f d rfl)) (b6 j (b6 (O8 t 13) (by decide))) rfl rfl H I C K
theorem rQ(H:y7 st h0)(i:d6 st 21 [])(j:d6 st 22 [])(F:V4 st 0)(d:ρ "rows"=a0 (.ref 21))(e:ρ "pairs"=a0 (.ref 22))(f:ρ "feed"=a0 (.ref 2))(g:ρ "heap"=a0 (.ref 4))(l:∀b,Q (.bool a8) b):
 G6 (u9 u8 29) (w9.body.drop 2) ρ st (DE Q):=by
 let m:w9.body.drop 2=(w9.body.drop 2).head (by simp[w9])::w9.body.drop 3:=rfl;rw[m];generalize a:w9.body.drop 3=h;simp only[w9,Hz,DU,HU];exists f,g,d,e,rfl;refine sx (k:=22) H wQ rfl i j F λo q P p r B n c=>?_;exists rfl;rw[<-a];exact ot B n c d e f g l
def Tw:b0->b0
 | .int x=>iD (x.fmod 1000003).toNat
 |_=>.none
theorem law_true(xs:a7 d3):u9 u8 30 "" "law" [.ro xs] ⟨0,λj=>.L []⟩ λd j=>d= .bool a8:=by
 refine D0 (k:=29) (fd:=w9) rfl rfl ?_;let U:w9.body=w9.body.head (by simp[w9])::w9.body.drop 1:=rfl;rw[U];generalize m:w9.body.drop 1=T;simp only[w9,HU];generalize v:(⟨0,λj=>.L []⟩:St)=b;let u:b.n=0:=by rw[<-v]
 let V:Ew (.ro xs) (48:d3) b=a0 (.ref b.n,b.A (.L ((xs.take 48).map .int))):=by refine(?_:(if(0:d3)<=48/\(48:d3)<=j8 then a0 (b0.ref b.n,b.A (.L ((xs.take (48:d3).toNat).map .int)))else b4)=_);rw[g0 ⟨by solve_by_elim (maxDepth:=2)only[*,j7],by unfold j8;solve_by_elim (maxDepth:=2)only[*,j7]⟩];rfl
 exists 0,V;let w:=d6.new b ((xs.take 48).map .int);let B:(b.A (.L ((xs.take 48).map .int))).n=1:=by exact tS u
 rw[u]at w ⊢;generalize b.A (.L ((xs.take 48).map .int))=e at w B ⊢;exists(Q4 w),rfl;refine Ae (nx:=λi=>.seq (.ref 0) i) (xs:=(xs.take 48).map .int) (p:=λj=>a8) (f:=Tw) (λi hi=>R9 w i) ?_ ?_
 .rintro i x acc kk C Q W;rw[o7,Av]at C;ext c9 C z j rfl;let X:M4 .int [.int z] e=a0 (.int z,e):=rfl;let Y:V3 .mod (.int z) (.int 1000003) e=a0 (Tw (.int z),e):=by refine(?_:(if(0:d3)<1000003/\(1000003:d3)<=10000000 then a0 (b0.int (z.fmod 1000003),e)else b4)=_);rw[g0 ⟨by decide,by decide⟩];refine(?_:_=a0 (b0.int (((z.fmod 1000003).toNat:a6):d3),e));rw[Mq (qG z (by decide))]
  exists 0,X,Y;rw[f7,O9]at Q;exact⟨b6 Q (Jh (by decide)),by simpa using W⟩
 .let g:(V1 (λj=>a8) ((xs.take 48).map b0.int)).map Tw=((xs.take 48).map λz=>(z.fmod 1000003).toNat).map iD:=by rw[Dd λj j=>rfl,v9,v9];rfl
  exists 0;rw[g];let q:=d6.new e (((xs.take 48).map λz=>(z.fmod 1000003).toNat).map iD);let r:(e.A (.L (((xs.take 48).map λz=>(z.fmod 1000003).toNat).map iD))).n=2:=by exact yR B
  rw[B]at q ⊢;generalize N:(xs.take 48).map (λz=>(z.fmod 1000003).toNat)=a at q r ⊢;let o:a.length<=48:=by rw[<-N,f7,O9];exact PS _ _
  revert q r;refine gen (e.A (.L (a.map iD))) λy q r=>?_;exists 0,y4,V7,Jv,DZ,N9,AH;let R:=Ex.A y (.D [(q8 "cells",.ref 1),(q8 "spot",.int 0)] (0+1+1));let D:=m7.new y [(q8 "cells",.ref 1),(q8 "spot",.int 0)] (0+1+1);let E:(y.A (.D [(q8 "cells",.ref 1),(q8 "spot",.int 0)] (0+1+1))).n=3:=by exact rC r
  rw[r]at D ⊢;generalize y.A (.D [(q8 "cells",.ref 1),(q8 "spot",.int 0)] (0+1+1))=l at R D E ⊢;let Z:V4 l 0:=E8 a _ (q.ex R) D o;rw[<-m];let O:w9.body.drop 1=(w9.body.drop 1).head (by simp[w9])::w9.body.drop 2:=rfl;rw[O];generalize h:w9.body.drop 2=P;simp only[w9,Hz,DU,HU];exists 0;let F:=(Ex.A l (.fld [])).trans (Ex.A (l.A (.fld [])) (.I "Heap" l.n));let G:=Nf (st:=l) (c:="Heap");let H:((l.A (.fld [])).A (.I "Heap" l.n)).n=5:=by exact rm E
  rw[E]at G H F ⊢;generalize((l.A (.fld [])).A (.I "Heap" 3))=s4 at F G H ⊢;refine gz (k:=27) G H λs g5 I=>?_;let F5:=(Z.ex F).fr g5;exists 0;let J:=Ex.A s (.L []);let K:=d6.new s [];let L:(s.A (.L [])).n=22:=by refine(?_:s.n+1=22);rw[I.n]
  rw[I.n]at K ⊢;generalize s.A (.L [])=t at J K L ⊢;let A:=Ex.A t (.L []);let M:=d6.new t [];let S:(t.A (.L [])).n=23:=by refine(?_:t.n+1=23);rw[L]
  rw[L]at M ⊢;generalize t.A (.L [])=s7 at A M S ⊢;exists 0,aZ;rw[<-h];exact rQ (I.at (J.trans A) (uc S)) (K.ex A) M (F5.ex (J.trans A)) rfl rfl (rfl) rfl λj=>rfl
end Internal
set_option backward.match.sparseCases true
set_option backward.defeqAttrib.useBackward false
namespace Internal
open PySem PySem.W PyProof.Rows
def ss:a7 (j3×a6):=[("Bank",181),("Tables",233),("Joins",281),("Unions",363),("Heap",493)]def KL(c:j3):a6:=(ss.lookup c).getD 0
def tB:a7 (j3×a6):=[("Bank",180),("Tables",232),("Joins",280),("Unions",362),("Heap",492)]def Bn(c:j3):a6:=(tB.lookup c).getD 0
def ng:a7 ((j3×j3)×a6):=[(("","is_op"),67),(("","trie_of"),204),(("","_law_draw"),504),(("","_law_built"),511),(("","_law_marks"),516),(("","_law_table"),521),(("","_law_asked"),526),(("","_law_fitted"),533),(("","_law_due"),538),(("","law"),543),(("Bank","__init__"),93),(("Bank","take"),105),(("Bank","require"),112),(("Bank","op"),138),(("Bank","kids"),145),(("Tables","__init__"),218),(("Tables","table"),225),(("Tables","trie"),230),(("Joins","__init__"),251),(("Joins","joined"),273),(("Joins","shared"),278),(("Unions","__init__"),299),(("Unions","make"),306),(("Unions","size"),313),(("Unions","find"),320),(("Unions","merge"),327),(("Unions","members"),334),(("Unions","classes"),339),(("Heap","__init__"),381),(("Heap","node"),393),(("Heap","add"),398),(("Heap","put"),403),(("Heap","look_at"),410),(("Heap","find"),417),(("Heap","merge"),431),(("Heap","join"),438),(("Heap","settle"),445),(("Heap","classes"),459),(("Heap","members"),466),(("Heap","nodes_of"),471)]def DJ(c f:j3):a6:=(ng.lookup (c,f)).getD 0
def Ko(v:b8)(r:i7->b7)(s:n4->b7):b7:=match v with
 | .ref b=>r b
 | .str x _=>s x
 |_=>c8
def Ky(d:Data)(f:Vx->b7)(c:ClassData->b7)(v:l4 b8->b7):b7:=match d with
 | .func F=>f F
 | .cls d=>c d
 | .fields vs=>v vs
 |_=>c8
@[elab_as_elim] theorem cN{v:b8}{r:i7->b7}{P:b8->Prop}(h:Ko v r (λa=>c8)=a8)(k:∀b,r b=a8->P (.ref b)):P v:=by
 cases v with
 |ref b=>exact k b h
 |_=>exact no h
@[elab_as_elim] theorem rB{v:b8}{s:n4->b7}{P:b8->Prop}(h:Ko v (λa=>c8) s=a8)(k:∀x t,s x=a8->P (.str x t)):P v:=by
 cases v with
 |str x t=>exact k x t h
 |_=>exact no h
@[elab_as_elim] theorem Nx{d:Data}{f:Vx->b7}{c:ClassData->b7}{v:l4 b8->b7}{P:Data->Prop}(h:Ky d f c v=a8)(kf:∀F,f F=a8->P (.func F))(kc:∀F,c F=a8->P (.cls F))(kv:∀F,v F=a8->P (.fields F)):P d:=by
 cases d with
 |func F=>exact kf F h
 |cls F=>exact kc F h
 |fields F=>exact kv F h
 |_=>exact no h
@[elab_as_elim] theorem Hp{α:Type}{o:j0 α}{P:j0 α->Prop}{k:α->b7}(h:o.any k=a8)(H:∀a,k a=a8->P (a0 a)):P o:=GF h H
theorem l6{α:Type}{l:a7 α}(h:l.length=6):∃a b c d e f,l=[a,b,c,d,e,f]:=by
 refine S7 (JE h) ?_;rintro a l rfl;refine S7 (JE (AC h)) ?_;rintro b l rfl;refine S7 (JE (AC (AC h))) ?_;rintro c l rfl;refine S7 (JE (AC (AC (AC h)))) ?_;rintro d l rfl;refine S7 (JE (AC (AC (AC (AC h))))) ?_;rintro e l rfl;refine S7 (JE (AC (AC (AC (AC (AC h)))))) ?_;rintro f l rfl;cases l with
 |nil=>exact⟨a,b,c,d,e,f,rfl⟩
 |cons=>exact nomatch h
def LB(v:j0 b8)(a:a6):b7:=v.any λv=>Ko v (λb=>Mu b a) λw0=>c8
def fX(h:l5)(cd:b8)(q:n4):b7:=Ko cd (λc=>(h.get? c).any λo=>Ky o.data (λw0=>c8) (λw0=>c8) λvs=>vs[1]?.any λv=>Ko v (λw0=>c8) λx=>x==q) λw0=>c8
def fS(b:Wb)(k:a7 AK->b7):b7:=match b with
 | .stmts B=>k B
 |_=>c8
@[elab_as_elim] theorem xg{b:Wb}{k:a7 AK->b7}{P:Wb->Prop}(h:fS b k=a8)(H:∀B,k B=a8->P (.stmts B)):P b:=by
 cases b with
 |stmts B=>exact H B h
 |_=>exact no h
def YH(p:Arguments):b7:=p.posonlyargs.isEmpty&&(p.vararg.isNone&&(p.kwonlyargs.isEmpty&&(p.kw_defaults.isEmpty&&(p.kwarg.isNone&&p.defaults.isEmpty))))
theorem mf{p:Arguments}(h:YH p=a8):p=⟨[],p.args,b4,[],[],b4,[]⟩:=by
 obtain⟨a,b,c,d,e,f,g⟩:=p;cases a with
 |cons=>exact no h
 |nil=>cases c with
  |some=>exact no h
  |none=>cases d with
   |cons=>exact no h
   |nil=>cases e with
    |cons=>exact no h
    |nil=>cases f with
     |some=>exact no h
     |none=>cases g with|cons=>exact no h|nil=>rfl
def cx(h:l5)(a:i7)(fd:FD):b7:=(h.get? a).any λo=>Ky o.data (λF=>Mu F.globals Cj&&(Mu F.builtins JA&&(F.closure.isEmpty&&(fX h F.code F.qualname&&(decide (F.scope.kind= .function)&&(!F.scope.isGenerator&&(!F.scope.isCoroutine&&
 (YH F.params&&(decide (F.params.args.map (·.arg)=fd.params.map nm)&&
 (decide (F.defaults= .none)&&(decide fd.params.Nodup&&(fd.params.all (DH F.scope)&&((F.scope.names.all λp=>decide (p.2≠.free))&&
 fS F.body λB=>(cs 100).l F.scope fd.body B))))))))))))) (λw0=>c8) λw0=>c8
def MR(h:l5)(a:i7):b7:=(h.get? a).any λo=>decide (o.cls= .type "function")&&Ky o.data (λw0=>a8) (λw0=>c8) λw0=>c8
def RG(h:l5)(C N:a6):b7:=(h.get? C).any λo=>decide (o.cls= .type "type")&&(Ky o.data (λw0=>c8) (λd=>decide (d.mro=[.ref C,.type "object"])&&(Mu d.ns N&&(d.hasDict&&(!d.abstract&&!d.hasDel)))) (λw0=>c8)&&
 (decide (o.slots.toList.length=6)&&decide (o.slots.toList[4]?=a0 (a0 (.builtin "object.__new__")))))
section
variable(ns:l5->i7->n4->j0 b8)
def FG(h:l5):b7:=
 h.isNs Cj&&h.isNs JA&&
 (GG.all λp=>(ns h Cj (nm p.1)).isNone&&decide (ns h JA (nm p.1)=a0 p.2))&&
 (dU.all λc=>RG h (KL c) (Bn c)&&h.isNs (Bn c)&&(ns h (Bn c) "__getattribute__").isNone&&(ns h (Bn c) "__getattr__").isNone&&(ns h (Bn c) "__setattr__").isNone&&
  ((Ct c).all λf=>(ns h (Bn c) (nm f)).isNone)&&((BP c).all λm=>LB (ns h (Bn c) (nm m)) (DJ c m)&&MR h (DJ c m))&&LB (ns h Cj (nm c)) (KL c))&&
 ((BP "").all λf=>LB (ns h Cj (nm f)) (DJ "" f)&&MR h (DJ "" f))&&
 LB (ns h Cj (nm "law")) (DJ "" "law")&&
 Xo.all λp=>cx h (DJ p.1.1 p.1.2) p.2
end
def NC:l5->b7:=FG PZ
theorem Of{v:j0 b8}{a:a6}(h:LB v a=a8):v=a0 (.ref a):=Hp h λv h=>cN h λb h=>by rw[PG h]
theorem eO{h:l5}{a:i7}(x:MR h a=a8):∃o c,h.get? a=a0 o/\o.cls= .type "function"/\o.data= .func c:=
 Hp x λo x=>by
  let d:=G4 x;ext1 d g i;let b:∃c,o.data= .func c:=Nx i (λF e=>⟨F,rfl⟩) (λe=>no) λe h=>no h;ext1 b c f;exact E8 o c rfl (C6 g) f
theorem nt{b:b7}(h:(!b)=a8):b=c8:=by cases b with|false=>rfl|true=>exact no h
theorem zQ{h:l5}{C N:a6}(x:RG h C N=a8):∃r q s t j k u c e f g i,h.get? C=a0 (mU r q C N s [.type "object"] a8 t j c8 k u c e f g i "object.__new__"):=
 Hp x λ⟨K,v,l,⟨J⟩⟩x=>by
  let a:=G4 x;ext1 a o x;let a:=G4 x;ext1 a b x;let a:=G4 x;ext1 a p w;cases C6 o;refine Lb (l6 (C6 p)) ?_;rintro c e f g L i rfl;clear o x p;cases C6 w;refine Nx (d:=l) b (λy=>no) (λ⟨z,A,B,D,E,F,G,H,I,m,n⟩b=>?_) λy h=>no h;exact⟨z,E,A,G,H,m,v,c,e,f,g,i,by rw[(C6 (o6 b):B=_),(PG (o6 (G4 b).2):D=N),((o6 (G4 (G4 b).2).2):F=a8),(nt (o6 (G4 (G4 (G4 b).2).2).2):I=c8),(nt (o5 (G4 (G4 (G4 b).2).2).2):n=c8)]⟩
theorem xH{h:l5}{d:b8}{q:n4}(x:fX h d q=a8):h.CodeRec d q:=by
 refine cN x λc x=>?_;let e:∃o a t,h.get? c=a0 o/\o.data= .fields a/\a[1]?=a0 (.str q t):=Hp x λo x=>by
  let e:∃a t,o.data= .fields a/\a[1]?=a0 (.str q t):=Nx x (λe=>no) (λe=>no) λa x=>by
   have e:∃t,a[1]?=a0 (.str q t):=Hp x λv x=>rB x λy t x=>by rw[O2 x];exact⟨t,rfl⟩
   ext1 e t b;exact Q6 a t rfl b
  ext S7 e a t b;exact Kp o a t rfl b
 ext RZ e o a t b;exact⟨c,o,a,t,rfl,b⟩theorem rz:(Sp.all λp=>p.2.all λf=>(fastLookup "object" (nm f)).any j0.isNone)=a8:=by kernel_rfl
theorem vt{c:j3}{f:j3}(h:(Ct c).contains f=a8):Cf (.type "object") (nm f)=pure b4:=by
 cases e:Sp.lookup c with
 |none=>exact no ((t0 (λo:j0 (a7 j3)=>(o.getD []).contains f) e).symm.trans h)
 |some l=>rw[Gq,HP];exact Hp (S9 (S9 rz _ (Oh e)) f (List.contains_iff_mem.mp ((t0 (λo:j0 (a7 j3)=>(o.getD []).contains f) e).symm.trans h))) λa h=>by rw[Option.isNone_iff_eq_none.mp h]theorem nb(f:j3):∃y,Cf (.type "object") (nm f)=pure y:=by rw[Gq];let zz:=Option.isSome_iff_exists.mp (by kernel_rfl:(builtinMro "object").isSome=a8);ext1 zz l hl;have a:∃r,mF "object" (nm f)=a0 r:=⟨_,by unfold mF;rw[hl];rfl⟩;ext1 a r hr;rw[hr];exact⟨r,rfl⟩def FR(h:l5):Prop:=∃h0,NC h0=a8/\∀b o,h0.get? b=a0 o->h.get? b=a0 o
theorem FR.keeps{h a:l5}(x:FR h)(k:∀b o,h.get? b=a0 o->a.get? b=a0 o):FR a:=by ext c9 x c e q;exact d0 c e λb o d=>k b o (q b o d)theorem Um{h:l5}{a:i7}{m e:n4->j0 b8}(x:h.Ns a m)(y:h.Ns a e)(n:n4):m n=e n:=by ext G9 x o p q f g i j;ext G9 y r k l b c i d;rw[f]at b;cases b;rw[g]at c;cases c;rw[<-j,<-d]def Oe(w:J3)(h:l5)(os:HK)(mg mb:n4->j0 b8):Fx:=⟨w,h,KL,os,Cj,JA,mg,mb,DJ⟩
section
variable{w:J3}{os:HK}
theorem fe(S:FR h)(F:h.Ns Cj mg)(G:h.Ns JA mb)(B:h.NoLimit):Laid1 (Oe w h os mg mb):=by
 ext c9 S a e k;unfold NC FG at e;simp only[C2]at e;obtain⟨⟨⟨⟨⟨J,K⟩,L⟩,M⟩,N⟩,e6⟩:=e.1;let e7:=e.2;clear e;have j:∀n,mg n=a.nsMap Cj n:=λn=>Um F ((Pv J).keeps k) n;have d:∀c,c∈["Bank","Tables","Joins","Unions","Heap"]->RG a (KL c) (Bn c)=a8/\a.isNs (Bn c)=a8/\a.nsMap (Bn c) "__getattribute__"=b4/\a.nsMap (Bn c) "__getattr__"=b4/\a.nsMap (Bn c) "__setattr__"=b4/\
  (∀f,(Ct c).contains f=a8->a.nsMap (Bn c) (nm f)=b4)/\(∀m,(BP c).contains m=a8->a.nsMap (Bn c) (nm m)=a0 (.ref (DJ c m))/\MR a (DJ c m)=a8)/\a.nsMap Cj (nm c)=a0 (.ref (KL c)):=by
  intro c i;have:=S9 M c i;simp only[C2,iX]at this;obtain⟨⟨⟨⟨⟨⟨l,q⟩,r⟩,s⟩,t⟩,u⟩,v⟩:=this.1;let O:=this.2;clear this;refine⟨l,q,r,s,t,λf g=>?_,λm x=>?_,Of O⟩
  .simpa using S9 u f (List.contains_iff_mem.mp g)
  .let this:=S9 v m (List.contains_iff_mem.mp x);rw[C2]at this;exact⟨Of this.1,this.2⟩
 refine⟨⟨F,G,B,λp P=>?_⟩,λc i=>?_,λc i=>?_,λf g=>?_⟩
 .let this:=S9 L p P;simp only[C2,iX,C3]at this;exact⟨(j _).trans this.1,((λn=>Um G ((Pv K).keeps k) n:∀n,mb n=a.nsMap JA n) _).trans this.2⟩
 .let b:=d c i;ext1 b l q r s t u v w0;refine⟨a.nsMap (Bn c),⟨Bn c,?_,(Pv q).keeps k⟩,r,s,t,λf g=>⟨u f g,vt g⟩,λm x=>?_⟩
  .refine Lb (zQ l) λQ R T U V W H=>?_;ext Lb H X Y Z C D E ho;exact⟨Q,R,T,U,V,W,X,Y,Z,C,D,E,k _ _ ho⟩
  .exact k9 (v m x) λb1 b2=>o0 (eO b2) λo y z I A=>⟨b1,nb m,o,y,k _ _ z,I,A⟩
 .exact(j _).trans (d c i).2.2.2.2.2.2.2
 .have:=S9 N f (List.contains_iff_mem.mp g);rw[C2]at this;exact o0 (eO this.2) λo y z I A=>⟨(j _).trans (Of this.1),o,y,k _ _ z,A⟩
theorem sP(S:FR h):SO (Oe w h os mg mb) u8:=by
 ext c9 S u e k;unfold NC FG at e;simp only[C2]at e;intro c f v y;let b:=S9 e.2 _ (Oh y);obtain⟨o,F,z,A,b⟩:∃o F,u.get? (DJ c f)=a0 o/\o.data= .func F/\_=a8:=Hp b λo b=>by
  have C:∃F,o.data= .func F/\_=a8:=Nx b (λF h=>d0 F rfl h) (λC=>no) λC h=>no h;ext1 C F q r;exact E8 o F rfl q r
 let a:=G4 b;ext1 a D b;let a:=G4 b;ext1 a E b;let a:=G4 b;ext1 a G b;let a:=G4 b;ext1 a H b;let a:=G4 b;ext1 a I b;let a:=G4 b;ext1 a J b;let a:=G4 b;ext1 a K b;let a:=G4 b;ext1 a L b;let a:=G4 b;ext1 a g b;let a:=G4 b;ext1 a i b;let a:=G4 b;ext1 a j b;refine k9 (G4 b) λm b=>?_;let a:=G4 b;ext1 a p d;have C:∃B,F.body= .stmts B/\(cs 100).l F.scope v.body B=a8:=xg d λB h=>d0 B rfl h;ext1 C B s d;refine Kp F B 100 ⟨(d0 o (k _ _ z) A),PG D,PG E,List.isEmpty_iff.mp G,s,?_,C6 I,nt J,nt K,(d0 F.params.args (mf L) (C6 g)),C6 i,C6 j,λx M=>?_,λn N=>C6 (S9 p (n,.free) (GQ N)) rfl⟩ d
 .exact xj (xH H) λO P Q t R T U V=>⟨O,P,Q,t,R,k _ _ T,U,V⟩
 .exact gQ (S9 m x M)
end
abbrev pw:A5:=xz
def lo:a7 n4:=["_wall","HeapError","TermFault","is_op","is_variable","parts","Bank","atoms_of","names_of","trie_of","Tables","Joins","Unions","Heap","_law_draw","_law_built","_law_marks","_law_table","_law_asked","_law_fitted","_law_due"]def qv:A5:={pw with main:={pw.main with body:=pw.main.body.drop 27}}
def XO{S T:Type}(f o:T->b7)(g:S->T->j0 (S×T))(n:a6):S->T->j0 S:=
 a6.rec (λ_ _=>b4) (λ_ k s t=>cond (f t) (a0 s) (cond (o t) ((g s t).bind λr=>k r.1 r.2) b4)) n
theorem Zi{α:Type}{b:b7}{x y z:α}{G:Prop}(h:cond b x y=z)(p:b=a8->x=z->G)(q:b=c8->y=z->G):G:=by
 cases b
 .exact q rfl h
 .exact p rfl h
theorem vI{S T b:Type}{f o:T->b7}{g:S->T->j0 (S×T)}{A:S->b}{R:a6->b->T->j0 b}(x:∀n s t,f t=a8->R (n+1) s t=a0 s)
 (y:∀n s t a c,f t=c8->o t=a8->g s t=a0 (a,c)->R (n+1) (A s) t=R n (A a) c):∀n s a t,XO f o g n s t=a0 a->R n (A s) t=a0 (A a):=by
 intro n
 induction n with
 |zero=>exact λs a t h=>(nI a (Eq.symm h)).elim
 |succ n d=>exact λs a t h=>Zi h (λe h=>C5 h▸x n (A s) t e) λe h=>Zi h (λk h=>c9 (Option.bind_eq_some_iff.mp h) λr i h=>(y n s t r.1 r.2 e k i).trans (d _ _ _ h)) λ_ h=>(nI a h.symm).elim
theorem yD{tb a b p w}(n s t)(h:through t=a8):EH tb p w a b (n+1) s t=a0 s:=by rw[EH,h]theorem ix{tb a b p w}(n)(s:Ms)(t)(s':Ms)(t')(h:through t=c8)(k:stepOk a b t=a8)(e:W.stepT (denote tb) p w s t=a0 (s',t')):EH tb p w a b (n+1) s.abs t=EH tb p w a b n s'.abs t':=by rw[EH,h,k,stepT_spec e]abbrev Ug(w:J3):a6->Ms->Thread->j0 Ms:=XO through (O_ 11 (a0 (.ref 6))) (C' (yx yy) pw w)theorem rg{w:J3}{n:a6}{s s':Ms}{t:Thread}:Ug w n s t=a0 s'->EH Fp pw w 11 (a0 (.ref 6)) n s.abs t=a0 s'.abs:=by unfold Ug;rw[<-f_,<-yw,<-P_,<-xw];exact vI (A:=xv) (R:=λn=>EH Fp pw w 11 (a0 (.ref 6)) n) yD ix n s s' t
def TH(P:Wk):BT:=((Cc P).objs.toList.foldl (λx o=>(BT.ins x.1 x.2 o,x.2+1)) (BT.nil,0)).1
theorem jl(P:Wk):absHeap (TH P) 11 (Cc P).life=Cc P:=by kernel_rfl
theorem ko(w:J3)(os:HK):(Ug w 6000 ⟨TH w.params,11,(Cc w.params).life,Mj [],Qi,Qe,os⟩ (Py pw)).map
 (λt=>let s:=t.abs;((Pz (HJ pw.main.body) (Cc w.params) s.heap&&Pj pw s.heap&&Qo s&&Pc (Cc w.params) s.heap),G' qv lo (HJ pw.main.body) (λ_=>a8) a8 s,FG y_ s.heap))=a0 (a8,WM qv lo,a8):=by
 kernel_rfl
theorem wY{p:A5}{loose:a7 n4}{Xt:f8->b7}{α:Type}{Yf:f8->α}{Ya:J3->α}{N:a6}{o:b7}{a:Wk->l5}{b:l4 GenState}{f:Drawn}{g:a6}{i:a6}{l:j0 b8}
 (j:∀w:J3,(qD Fp p w N).map (λs=>(s.heap,s.gens,s.drawn,s.toks))=a0 (a w.params,b,f,g))
 (m:∀w:J3,((a w.params).isNs Cj&&b.size==0,(a w.params).objs.size,(a w.params).nsMap Cj "__annotations__")=(a8,i,l))
 (n:∀(w:J3)(os:HK),(EH Fp p w i l N ⟨a w.params,b,f,g,os⟩ (Py p)).map (λs=>((Pz (HJ p.main.body) (a w.params) s.heap&&Pj p s.heap&&Qo s&&Pc (a w.params) s.heap),
  openSeen q loose (HJ p.main.body) Xt o s,Yf s))=a0 (a8,WM q loose,Ya w)):LeftO p q loose Xt Yf Ya N o:=λw=>by
 refine c9 (GN (j w)) ?_;rintro⟨h,r,d,k,os⟩e u;obtain⟨rfl,rfl,rfl,rfl⟩:h=a w.params/\r=b/\d=f/\k=g:=by simpa using u
 obtain⟨v,x,y⟩:_/\_/\_:=by simpa only[QA]using m w
 refine c9 (GN (n w os)) λc z A=>?_;obtain⟨B,C,D⟩:_/\_/\_:=by simpa only[QA]using A
 have t:UY Fp p w N ⟨a w.params,r,d,k,os⟩=a0 c:=by unfold UY;rw[v,x,y,z];show(match Pz (HJ p.main.body) (a w.params) c.heap&&Pj p c.heap&&Qo c&&Pc (a w.params) c.heap with|true=>_|false=>_)=_;rw[B]
 unfold openEnds;rw[e];show(UY Fp p w N _).map _=_;rw[t];exact t0 a0 (EP C D)theorem ow(w:J3):((Cc w.params).isNs Cj&&(Mj []:l4 GenState).size==0,(Cc w.params).objs.size,(Cc w.params).nsMap Cj "__annotations__")=(a8,11,a0 (.ref 6)):=by kernel_rfl
theorem zB(w:J3)(os:HK):(EH Fp pw w 11 (a0 (.ref 6)) 6000 ⟨Cc w.params,Mj [],Qi,Qe,os⟩ (Py pw)).map
 (λs=>((Pz (HJ pw.main.body) (Cc w.params) s.heap&&Pj pw s.heap&&Qo s&&Pc (Cc w.params) s.heap),openSeen qv lo (HJ pw.main.body) (λ_=>a8) a8 s,FG PZ s.heap))=a0 (a8,WM qv lo,a8):=by
 have r:=ko w os;rw[<-n_,<-Z_]at r;refine c9 (GN r) λs e f=>?_;have q:=rg e;replace q:EH Fp pw w 11 (a0 (.ref 6)) 6000 ⟨absHeap (TH w.params) 11 (Cc w.params).life,Mj [],Qi,Qe,os⟩ (Py pw)=a0 s.abs:=q;rw[jl]at q;rw[q];exact t0 a0 f
theorem uj:∀w:J3,(qD Fp pw w 6000).map (λs=>(s.heap,s.gens,s.drawn,s.toks))=a0 (Cc w.params,Mj [],Qi,Qe):=boot_open (by rfl) (by rfl) (λs=>by rfl)theorem dk:LeftO pw qv lo (λ_=>a8) (λs=>FG PZ s.heap) (λ_=>a8) 6000:=wY uj ow zB
abbrev IM:OpenLaw:=xq
theorem mj(c:defOf qv ("law":n4)=a0 (d,kwd))(g:pw.theDef ("law":n4)=a0 (d.params,d.body,d.scope))(i:pB d.params.kwonlyargs d.params.kw_defaults=a0 kwd)
 (a:WalkO qv lo (λ_ _=>True) (λ_ h=>FR h) IM.row.toRowW d kwd λf j=>lS f j):PySem.Challenge.rw_pq0014_01.Holds:=by
 refine holds_law (by kernel_rfl) λb=>?_;refine zc (q:=qv) (loose:=lo) (Xt:=λ_=>a8) (XP:=λ_ _=>True) (Yf:=λs=>FG PZ s.heap) (Ya:=λ_=>a8) (YP:=λ_ h=>FR h) (N:=6000) dk (λw s e=>⟨s.heap,e,λ_ _ h=>h⟩) (λw h l x k=>x.keeps k) (λ_ _=>trivial) (λ_ _ _ _ _=>trivial) c g i (λs _=>recFacts_nil rfl) (by rfl) b (by decide+kernel) ⟨rfl,rfl,rfl,rfl,rfl,by decide+kernel⟩ ?hw a
 case hw=>w_witness2
def BE:St:=⟨0,λw0=>.L []⟩
theorem eu(h:qA R d .int=a8):∃i,d= .int i:=by
 cases d with
 |int i=>exact⟨i,rfl⟩
 |_=>exact no h
theorem nl(h:qA R d (.list .int)=a8):∃xs,d= .list xs/\VX R xs .int=a8:=by
 cases d with
 |list xs=>exact⟨xs,rfl,by cases hb:VX R xs .int with|true=>rfl|false=>exact no ((t0 (·||c8) hb).symm.trans h)⟩
 |_=>exact no h
theorem bf:∀{a:a7 WData},VX R a .int=a8->∃b:a7 d3,a=b.map .int:=by
 intro e
 induction e with
 |nil=>intro f;exact⟨[],rfl⟩
 |cons d a c=>intro h;refine d4 (c (o5 h)) ?_;clear c;rintro b rfl;refine d4 (eu (o6 h)) ?_;clear h;rintro i rfl;exact⟨i::b,rfl⟩
theorem zT:∀{xs:a7 d3}{vs:a7 b8}{as:a7 i7},ReadsAllW R cl h vs (xs.map .int) as->EK vs xs:=by
 intro b
 induction b with
 |nil=>intro a a x;cases x;exact .nil
 |cons i xs c=>
  intro a a x;cases x with
  |cons d e=>cases d;exact .cons _ _ (c e)
theorem rO(h:IM.row.toRowW.claim.pre args=a8):∃c:a7 d3,args=[.list (c.map .int)]/\c.length<=63:=by
 refine k9 (pre_splitW h) λg k=>?_;have a:WShape.hasAll [] args [.list .int]=a8:=g;cases args with
 |nil=>exact no a
 |cons d r=>
  replace a:=G4 a;cases r with
  |cons e r=>exact no a.2
  |nil=>
   refine c9 (nl a.1) ?_;rintro l rfl i;refine d4 (bf i) ?_;clear h g a i;rintro c rfl;refine⟨c,rfl,?_⟩;have j:UX [] IM.pre {args:=[.list (c.map .int)]}=a8:=k;have e:∀b,decide ((63:d3)<((c.map pW).length:a6))=b->UX [] IM.pre {args:=[.list (c.map .int)]}=UX [] (.and (.not (.lit (.bool b))) (.lit (.bool a8))) {args:=[]}:=λb h=>h▸rfl;by_cases f:(63:d3)<((c.map pW).length:a6)
   .rw[e _ (Mf f)]at j;exact no j
   .rw[f7]at f;exact Nat.not_lt.mp λq=>f (Int.ofNat_lt.mpr q)
set_option tactic.hygienic true in
theorem yM(hdn:d.name=("law":n4))(hlaw:∀xs:a7 d3,u9 u8 30 "" "law" [.ro xs] BE λd w0=>d= .bool a8):
 WalkO qv lo (λw0 w0=>True) (λw0 h=>FR h) IM.row.toRowW d kwd λf vs=>lS f vs:=by
 intro w s₀ s₁ mg mb G Y a o pm cd doc dV kV ho hd hcd hD hmg hg args vals as hpre hlay hrd hwl hlo;refine c9 (rO hpre) ?_;rintro xs rfl hlen;let L:=fe (w:=w) (os:=s₁.os) Y G.T.g G.T.b G.T.nolimit;let hF:SO (Oe w s₁.heap s₁.os mg mb) u8:=sP Y;let hC:=xY (prog:=IM.row.toRowW.prog) L hF 30;let hroom:EV 30 callerA:=⟨rfl,by decide,by decide⟩;let hthree:3<s₁.heap.objs.size:=by exact Em G.T.g λob es ep h1 w0=>C4 h1
 let R0:i8 (Oe w s₁.heap s₁.os mg mb) ⟨λw0=>0,λw0=>k6⟩ BE s₁:=
  ⟨λb o h=>h,λa ha=>(X1 _ ha).elim,λa b ha=>(X1 _ ha).elim,λa ha=>(X1 _ ha).elim,λa ha=>(X1 _ ha).elim,λb hb=>hb.elim,hg,rfl,hthree,l8 _⟩
 cases hrd with
 |cons h1 h2=>
  cases h2;clear hwl hlo;cases h1 with
  |list q1 q2 q3 q4=>
   rename_i b ob vs n as';let hV:V s₁.heap ⟨λw0=>0,λw0=>k6⟩ BE.n s₁.heap (.ro xs) (.ref b):=⟨b,vs,rfl,⟨ob,q1,q2,n,q3⟩,zT q4,p6⟩;let hfa:a=DJ "" "law":=by ext c9 Y h0 e k;unfold NC FG at e;simp only[C2]at e;have e6:=Of e.1.2;have c:=Um G.T.g ((Pv e.1.1.1.1.1.1).keeps k) (nm "law");rw[e6]at c;rw[hdn]at hmg;have hmg':mg (nm "law")=a0 (.ref a):=hmg;rw[hmg']at c;clear ho hmg hmg';cases c;rfl
   clear ho hmg;subst hfa;refine v6 (hC (cl:="") (f:="law") hroom (hlaw xs) R0 (vs:=[.ref b]) ⟨_,[],rfl,hV,rfl⟩) (λv s2 p=>?_) λw0 w0 x=>x.elim;obtain⟨d',st',c',rfl,R',hv',S'⟩:=p;obtain rfl:v= .bool a8:=hv';refine GoodW.toG ⟨.inl ⟨.bool a8,.bool a8,[],rfl,λw0=>rfl,.bool a8,?_,λw0=>⟨Bz,λa ha=>by cases ha⟩⟩,λb o h=>R'.stays b o h,R'.os,R'.gens⟩
   kernel_rfl
theorem all_ok(b:∀e:a7 d3,u9 u8 30 "" "law" [.ro e] BE λd _=>d= .bool a8):PySem.Challenge.rw_pq0014_01.Holds:=by have c:∃d a,defOf qv ("law":n4)=a0 (d,a)/\pw.theDef ("law":n4)=a0 (d.params,d.body,d.scope)/\pB d.params.kwonlyargs d.params.kw_defaults=a0 a/\d.name=("law":n4):=⟨_,_,by rfl,by rfl,by rfl,by rfl⟩;ext T0 c d a f g h i;exact mj f g h (yM i b)
end Internal
end
theorem PySem.Challenge.cw_pq0014_01_holds : PySem.Challenge.rw_pq0014_01.Holds :=
 
 Internal.all_ok Internal.law_true
