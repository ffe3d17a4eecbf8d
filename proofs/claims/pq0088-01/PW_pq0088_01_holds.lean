import PyProof.Rows.All
import KE.KDictOf
import KE.KRevIter
import KE.KSortTup
import Lean
import PySem.Challenge.RW_pq0088_01
set_option autoImplicit true
set_option linter.all false
set_option Elab.async false
set_option maxRecDepth 100000
set_option compiler.extract_closed false
set_option genSizeOf false
set_option genInjectivity false
set_option bootstrap.genMatcherCode false
open Option renaming some->A,none->aj,some_ne_none->gJ,map_eq_some_iff->lN,isSome_iff_exists->sF,bind_eq_some_iff->wZ,map_some->xa,bind_some->zI,isNone_iff_eq_none->Nr,map->Nt,bind->XC,map_map->XD
open List renaming length->D,mem_map->bJ,length_map->bK,length_append->cp,mem_singleton->cB,map_map->ed,mem_cons->ee,mem_append->ew,append_nil->eF,map_append->eI,range->fz,getElem?_map->fI,getElem?_eq_getElem->fO,mem_flatMap->gc,mem_map_of_mem->gd,append_assoc->ha,mem_range->hk,getElem?_eq_some_iff->hZ,mem_of_getElem?->io,length_cons->iz,length_range->iA,getElem?_append_right->iN,mem_append_left->iZ,mem_append_right->jl,pairwise_singleton->jm,cons_ne_nil->ju,map_cons->jv,mem_filter->jw,nodup_cons->jN,getElem?_append_left->jY,eq_nil_of_length_eq_zero->ko,getD_eq_getElem?_getD->la,map_congr_left->lb,length_set->lJ,range'->lK,all_eq_true->mf,isEmpty_iff->mg,size_toArray->mN,not_mem_nil->nv,lookup_cons->oW,nodup_append->oX,nodup_nil->oY,pairwise_map->oZ,filter_sublist->pT,getElem?_toArray->pU,getElem_mem->pV,forall_mem_cons->qW,pairwise_cons->qX,flatMap_cons->sv,mem_cons_self->sx,take_add_one->sy,getElem?_eq_none->tM,length_take->tN,mem_cons_of_mem->tO,ext_getElem?->uS,filter_cons->uT,map_flatMap->uU,map_inj_right->uV,map_take->uW,pairwise_append->uX,take_append_drop->uY,flatMap_append->wH,flatMap_map->wI,forIn_cons->wJ,getElem?_eq_none_iff->wK,getElem?_set_ne->wL,mem_of_mem_take->wM,mergeSort_perm->wN,append_cancel_left->zh,filterMap_cons->zi,length_filter_le->zj,length_flatMap->zk,length_singleton->zl,map->zm,map_eq_nil_iff->zo,map_id->zp,mem_iff_getElem->zq,nodup_range->zr,perm_ext_iff_of_nodup->zt,take_length->zu,drop_eq_nil_iff->CJ,find?_cons_of_neg->CK,findIdx?->CL,forall_mem_map->CM,getElem?_drop->CN,length_pos_of_mem->CO,map_mergeSort->CP,map_nil->CQ,mem_reverse->CR,nil_append->CS,pairwise_mergeSort->CT,replicate->CU,take_sublist->CV,any_eq_true->GS,cons_lt_cons_iff->GU,exists_mem_of_length_pos->GV,filter_congr->GW,filter_eq_nil_iff->GX,filter_filter->GY,find?_cons->GZ,findIdx?_cons->Ha,flatMap_eq_nil_iff->Hb,getElem?_range->Hc,length_eraseIdx->Hd,length_nil->He,length_reverse->Hf,length_take_le->Hg,mem_iff_getElem?->Hh,take->Hi,take_left->Hj,take_of_length_le->Hk,append_cancel_right->ME,cons_append->MF,drop_add_one_eq_tail_drop->MG,drop_eq_getElem_cons->MH,filter_append->MI,filter_cons_of_neg->MJ,filter_cons_of_pos->MK,filter_eq_self->ML,find?_eq_none->MM,foldl->MN,forIn_toArray->MO,getElem?_set_self->MP,getElem?_take->MQ,length_drop->MR,length_eq_one_iff->MS,length_zip->MT,mem_range'_1->MU,reverse_cons->MV,set_append_right->MW,sum->MX,sum_cons->MY,zip_map'->MZ,any_eq_false->Wm,append_inj->Wn,append_inj'->Wo,append_ne_nil_of_right_ne_nil->Wp,drop_eq_nil_of_le->Wq,drop_of_length_le->Wr,drop_zero->Ws,filterMap_map->Wt,find?_cons_of_pos->Wu,findIdx?_eq_some_iff_getElem->Wv,findIdx?_map->Ww,flatMap_nil->Wx,getElem?_concat_length->Wy,getElem?_modify->Wz,length_mergeSort->WA,length_modify->WB,length_pos_iff->WC,map_const'->WD,map_id'->WE,mem_filterMap->WF,not_lt_nil->WG,of_mem_zip->WH,pairwise_flatMap->WI,pairwise_iff_getElem->WJ,pairwise_lt_range->WK,range_eq_range'->WL,sum_replicate_nat->WM,take_eq_take_min->WN,take_left'->WO,zipIdx_cons->WP,zip_cons_cons->WQ
open Bool renaming true->ak,false->aW,false_ne_true->dT,not_eq_true'->qM,eq_iff_iff->tB,and_eq_true->wq,and_eq_true_iff->wr,false_eq_true->ws,or_eq_true->Cm,eq_false_iff->Ga,and_false->LR,and_true->LS,not_eq_true->Vi,or_eq_false_iff->Vj,or_eq_true_iff->Vk,or_false->Vl,true_and->Vm
open PySem renaming wpAny_bind->ap,Value->aw,Shared->aN,Addr->aZ,wpAny->bb,wpAny_pure->bh,Str->bj,Expr->bU,Heap->cv,model->dm,Around->ez,World->eU,wpAny_holding->eX,cLine->fp,Env->fJ,Program->gr,rawInt->gK,DictEntry->gW,Obj->hb,wpAny_ite_split->hy,Stmt->hK,Scope->hO,wpAny_field->iq,NameKind->iD,mainGlobals->iE,Pos->iR,call->ja,wpAny_mono->jb,wpAny_standAt->jc,Sem->kc,compareOp->kq,SetTable->kK,wpAny_call_entry->kM,eval->lh,wpAny_rule->li,Comprehension->ml,IsPair->mm,cellsFrom->mn,Tok->mQ,codeAny_builtin->mR,sizeLine->mS,getItem->nE,pyNext->nF,wpAny_setField_rec->nG,binaryOp->oq,wpAny_loadPart'->ot,wpAny_typeOf->ou,plainId_quiet->ph,wpAny_callSpecial?_slot->pj,wpAny_of_eq->pk,letOwnedTupleGo->qg,mem_of_lookup->qh,pyIter->qi,starEach->qj,wpAny_newObj_type->qk,wpAny_seqItems->ql,wpAny_setState_of->qm,assign->rg,bootBuiltins->rh,wpAny_isInstance->ri,wpAny_specialOf->rj,Flow->sI,backTo->sO,callEnvC->sP,codeAny->sQ,CmpOp->tV,IsEnum->tW,builtinsNs->tX,strKind->tY,Arguments->vg,IsZip->vi,Model->vj,ZipApart->vl,field->vm,swappedStores->vn,sysModules->vo,typeLookup->vp,wpAny_attempt->vq,wpAny_truthy_bool->vr,wpAny_updateSeq->vs,FuncData->xg,Result->xi,holding->xm,wpAny_letGo->xn,wpAny_newTuple->xo,OsState->zX,assignEach->Ad,builtinLookup_eq_fast->Ae,call_meets->Af,pushCells->Ag,typeLookup_type->Ah,wpAny_load->Ai,wpAny_newList->Aj,FuncBody->Dp,Meets->Dr,codeAny_mono->Dx,dictGet->Dy,mkIntGrown->Dz,recursionLimit->DA,spliced->DB,standAt->DC,wpAny_askSetting->DD,wpAny_pyIter_list->DE,wpAny_sequenceKey->DF,BoolOp->HK,IsEnumOut->HT,Operator->HV,dictSet->HZ,eqIsQuiet_byValue->Ia,isTrue->Ib,newList->Ic,richCompare->Ie,setItem->Ig,setSearchFrom->Ih,sizeLine_eq->Ii,typeOf->Ij,wpAny_dictEntries->Ik,wpAny_mkInt->Il,wpAny_notOrdered_dict->Im,wpAny_pyIter_tuple->Io,wpAny_pyNext_list_item->Ip,DefRec->NF,Fin->Oa,Keyword->Ob,bindArgs->Ox,codeAny_of_tree->Oy,compTurn->Oz,concat_meets->OA,constantsAlone->OB,denote->OC,entryFor->OD,firstArgMember->OE,foldedSetIterable->OF,isInstance->OG,isSubtype_stop->OH,newTuple->OI,noFill_tuple_add->OJ,runOwn->OK,seq_tuple_add->OL,setAddHashed->OM,setNext->ON,setRelay->OO,slot_dict_contains->OP,slot_dict_getitem->OQ,storeSet->OR,strKind_is->OS,treeTable->OT,typeIs_str->OU,unsetMember->OV,wpAny_alloc->OW,wpAny_call->OX,wpAny_execs_nil->OY,wpAny_forIn_list->OZ,wpAny_fresh->Pa,wpAny_pyNext_list_end->Pb,wpAny_runValue->Pc,wpAny_setEntries_of->Pd,wpAny_setEpoch_of->Pe,wpAny_storeSet_of->Pf,wpAny_updateDictKeys->Pg,Params->Yz,arm_assign_Name->YH,assignInOrder->YI,callType_codes->YJ,callType_new->YK,call_list_seq->YL,checkCount->YM,clipAt_nat->YN,codeAny_call_builtin->YO,dictSetDefault->YQ,entryFor_of_tree->YR,entryOfKey->YS,exec->YT,execs->YU,getattributeRaised->YV,importedModules->YW,intKind_is->YX,interactive->YY,isSubtype_type->YZ,keywordEach->Za,letTemporaryGo->Zb,loadIfAlive->Zc,methodCallForm->Zd,name_of_addr->Ze,newFunctionEnv->Zf,pushCells_keeps->Zg,reduceHash->Zh,richCompare_meets_room->Zi,setScanFrom->Zj,slot_dict_setitem->Zk,slot_list_getitem->Zl,slot_list_setitem->Zm,sub_set_self->Zn,swapsWithSole->Zo,typeIs_int->Zp,wpAny_Constant_int->Zq,wpAny_cellOf->Zr,wpAny_comp_letGo->Zs,wpAny_dictFind_of->Zt,wpAny_fieldsOf->Zu,wpAny_isTrue_BoolOp->Zv,wpAny_isTrue_Compare1->Zw,wpAny_letTemporaryGo->Zx,wpAny_loadPart->Zy,wpAny_lt_int->Zz,wpAny_nextOf_list_item->ZA,wpAny_onRaise->ZB,wpAny_raiseNew_none->ZC,wpAny_runOwn->ZD,wpAny_setField->ZE,wpAny_throw->ZF,wpAny_updateSeq_pair->ZG
open Nat renaming le_trans->aq,le_refl->cu,zero_le->cW,succ_le_succ->dn,le_of_lt->dK,le_add_right->dP,lt_of_lt_of_le->ef,lt_of_le_of_lt->er,ne_of_lt->eC,le_of_eq->fi,not_lt->fP,ne_of_gt->fU,add_le_add_left->gE,le_add_left->gF,le_of_lt_succ->hl,zero_add->hu,add_comm->hN,add_le_add->ia,le_of_not_lt->ib,lt_irrefl->ic,succ_pos->iC,add_le_add_right->iO,succ_ne_zero->iP,add_assoc->jn,le_of_succ_le->jo,lt_succ_self->jO,add_right_comm->jZ,le_succ->ka,sub_self->kb,lt_trans->kH,not_le->kI,le_of_succ_le_succ->lc,le_succ_of_le->lg,le_antisymm->mh,succ_add_eq_add_succ->mi,not_lt_zero->mO,sub_le->mP,mul_le_mul_left->nx,lt_of_succ_lt->pd,lt_succ_of_le->pe,lt_add_of_pos_right->pZ,lt_succ_of_lt->qa,not_succ_le_zero->qb,lt_of_le_of_ne->qY,mul_le_mul_right->qZ,min_eq_left->sA,add_sub_cancel'->tQ,lt_of_not_le->tR,lt_or_eq_of_le->tS,strongRecOn->tT,succ_add->uZ,lt_one_iff->wQ,min_le_left->wR,mod_lt->wU,pow_le_pow_right->wV,le_total->zx,max_eq_left->zy,one_mul->zz,succ_ne_self->zA,add_left_cancel->CY,add_sub_cancel_left->CZ,le_of_sub_eq_zero->Da,lt_or_ge->Dc,lt_trichotomy->Dd,max_eq_right->De,min_eq_right->Df,mul_add->Dg,mul_succ->Dh,two_mul->Di,add_add_add_comm->Hl,le_max_left->Hm,le_max_right->Hn,lt_of_lt_of_eq->Ho,min_self->Hp,sub_lt->Hq,succ_mul->Hr,zero_lt_two->Hs,add_lt_add_right->Na,log2_lt->Nb,lt_asymm->Nc,lt_of_sub_pos->Nd,min_le_right->Nf,mul_one->Ng,one_le_two_pow->Nh,pow_succ'->Ni,sub_add_cancel->Nj,sub_succ->Nk,succ_pred->Nl,zero_mul->Nm,add_le_of_le_sub->WT,add_lt_add_iff_right->WU,add_lt_add_left->WV,add_mul->WW,eq_zero_of_not_pos->WX,le_sub_of_add_le->WY,le_zero->WZ,lt_min->Xa,lt_of_succ_le->Xb,lt_of_succ_lt_succ->Xc,max_self->Xd,mul_comm->Xe,mul_two->Xf,not_succ_le_self->Xg,pos_of_ne_zero->Xh,sub_le_sub_left->Xi,sub_ne_zero_of_lt->Xj,sub_pos_of_lt->Xk,succ_lt_succ->Xl,succ_lt_succ_iff->Xm
open Classical renaming byContradiction->bp,axiomOfChoice->mJ,em->oR,propDecidable->uI,not_not->Mc,byCases->adc,not_forall->ade,not_imp->adf
open Option.some renaming inj->dk
open LawfulBEq renaming eq_of_beq->dA
open Decidable renaming decide->dV
open Pure renaming pure->ey
open List.cons renaming inj->fH
open PySem.Obj renaming mapSeq->fW,mapDictKeys->xh,putSet->Ds,putName->HU,mapDict->Oc,data_mapFields->Yy
open Min renaming min->gn
open PySem.Heap renaming get?_push_size->gG,SameBut->hx,lt_size->iQ,size_push->lO,get?_update_self->rb,get?_push_of_some->sJ,get?_update_other->sL,ExtBut->zW,IsTuple->Yx
open Nat.succ renaming inj->ip
open Max renaming max->iB
open PySem.SetTable renaming Probe->jp,bits->qf,leap->sM,turns->sN,runEnd->xk,below->zY,grown->zZ,insertAt->HW,Met->YA,layClean->YB,sizeAbove->YC,slot->YD,advance->aeF,fill->aeG,fits->aeH,freeSlot->aeI,gaveWay->aeJ,has->aeK,laid->aeL,orStandIn->aeM,relaid->aeN,toList_insertAt->aeO
open Array renaming length_toList->jt,getElem?_toList->jJ,getElem?_eq_getElem->mI,getD_eq_getD_getElem?->od,size_push->yM,toList_push->yN,getElem?_eq_none->Ch,getElem?_eq_none_iff->Ci,mem_toList_iff->Cj,forIn_toList->FU,perm_iff_toList_perm->FV,toList_inj->FW,toList_append->LO,all_toList->UZ,any_toList->Va,ext'->Vb,getElem?_push_lt->Vc,getElem?_push_size->Vd,replicate->Ve,size_eraseIdx->Vf,toList_map->Vg
open Prod renaming ext->jz,fst->zM,ext_iff->XG
open PySem.Str renaming ofString->jA
open PySem.W renaming Frag->jP,nsIn->nD,findIn->rc,putL->rf,instObj->vk,WData->xl,WellAll->Ab,dictOf->Ac,KasT->Dt,SharedT->Du,kas_rev->Dv,typeIn->Dw,defOf->HY,emptyDict->Om,kat_cons->On,kat_no->Oo,kat_yes->Oq,keepIn->Os,plainGet_of->Ot,stepOk->Ou,through->Ov,topRun->Ow,lookIn_dict->YE,namesBound->YF,putName_dict->YG,defOf_name->aeP
open PySem.Heap.SameBut renaming update->kJ,refl->HS
open PySem.Value.type renaming inj->kL
open Int renaming ofNat_lt->lH,not_lt->pR,natCast_nonneg->sp,toNat_natCast->sq,toNat->wB,ediv_one->CA,sub_add_cancel->CB,sub_zero->CC,le_of_lt->GI,mul_one->GJ,natCast_add->GK,not_le->GL,ofNat_le->GM,zero_add->GN,add_comm->Mr,eq_ofNat_of_zero_le->Ms,natCast_pos->Mt,natCast_zero->Mu,ofNat_ne_zero->Mv,ofNat_sub->Mw,one_mul->Mx,sub_pos_of_lt->My,sub_sub->Mz,toNat_lt->MA,toNat_of_nonneg->MB,add_neg_cancel_right->VQ,add_nonneg->VR,add_sub_cancel->VS,add_zero->VT,ediv_nonneg->VU,emod_lt_of_pos->VV,emod_nonneg->VW,le_antisymm->VX,lt_irrefl->VY,natAbs_add_le->VZ,natAbs_natCast->Wa,ne_of_gt->Wb,neg_le_of_neg_le->Wc,neg_neg->Wd,sub_nonneg_of_le->We
open PySem.Challenge renaming rw_pq0088_01->mj,pw_pq0088_01->zT
open Eq renaming symm->mM,trans->yX
open Prod.mk renaming inj->nC
open Ne renaming symm->oh
open PyProof.Rows renaming get?_update_seq->sH,spliced_more->vf,listUpdate_at->xd,seqObj->xe,spliced_none->xf,Call_Name->HD,SortKind->HE,keyKind'->HF,listItems_at->HG,seqEpoch_at->HH,slicePart_none->HI,SortSt->Nw,ksk_tail->Nx,slot_tuple_getitem->Ny,sortRuns'->Nz,entry_list_sort->XI,entry_sorted->XJ,kind_sorted->XK,plain_sorted->XM,slicePart_int->XN,slot_list_sort->XO,wpAny_release'->XQ,callWith_type->adm
open PySem.Around renaming under_plainId->tU,in1_units->zQ,in1_handled->HJ
open PySem.F renaming called_set->vh,plain_extend_loop->zV,slot_tuple_hash->Do,entry_extend_loop->HN,slot_enumerate_next->HO,slot_list_getattribute->HP,slot_tuple_iterator_next->HQ,slot_zip_next->HR,args_tuple_add_2->NT,entry_tuple_add->NU,plain_list_iadd->NV,slot_dict_len->NW,slot_list_extend->NX,slot_range_getitem->NY,slot_tuple_add->NZ,args_enumerate_next_1->Yf,args_list_extend_2->Yg,args_tuple_iterator_next_1->Yh,args_zip_next_1->Yi,entry_enumerate_next->Yj,entry_list_extend->Yk,entry_list_iadd->Yl,entry_proto_collect->Ym,entry_tuple_iterator_next->Yn,entry_zip_next->Yo,slot_dict_get->Yp,slot_dict_pop->Yq,slot_dict_setdefault->Yr,slot_int_rmul->Ys,slot_list_append->Yt,slot_list_pop->Yu,slot_set_iter->Yv,slot_str_isspace->Yw,args_dict_get_3->adA,args_dict_init_2->adB,args_dict_len_1->adC,args_dict_pop_2->adD,args_dict_setdefault_3->adE,args_int_rmul_2->adF,args_list_append_2->adG,args_list_init_2->adH,args_list_mul_2->adI,args_list_pop_1->adJ,args_object_init_3->adK,args_range_getitem_2->adL,args_set_iter_1->adM,args_str_isspace_1->adN,called_list->adO,called_zip->adP,entry_dict_get->adQ,entry_dict_init->adR,entry_dict_len->adS,entry_dict_pop->adT,entry_dict_setdefault->adU,entry_int_rmul->adV,entry_list_append->adW,entry_list_init->adX,entry_list_mul->adY,entry_list_pop->adZ,entry_range_getitem->aea,entry_set_init->aeb,entry_set_new->aec,entry_str_isspace->aed,entry_type_call->aee,entry_zip_new->aef,fills_int_mul->aeg,kt_called_dict->aeh,kt_typeCall_dict_1->aei,newCall_set_1->aej,newCall_zip_2->aek,plainAttrs_dict->ael,plainAttrs_list->aem,plainAttrs_str->aen,plain_proto_collect->aeo,plain_set_new->aep,slot_int_index->aeq,slot_list_mul->aer,slot_str_getitem->aes,sub_list_frozenset->aet,sub_list_set->aeu,typeCall_list_1->aev,typeCall_set_1->aew,typeCall_zip_2->aex,type_dict_get->aey,type_dict_pop->aez,type_dict_setdefault->aeA,type_list_append->aeB,type_list_extend->aeC,type_list_pop->aeD,type_str_isspace->aeE
open List.Pairwise renaming imp_of_mem->wF,of_map->wG,imp₂->Wl,imp->adh,map->adi,sublist->adj
open PySem.SetTable.layClean renaming free->xj
open Iff renaming rfl->zb
open PySem.Builtin.Range renaming rangeSize->zR,rangeFields->XU,rangeFitsLong->XV,small->XW
open PySem.Builtin.Tuple renaming tupleHashOf->zS,tupleItemsOf->XZ,tupleCompareSizes->ady,tupleExact->adz
open PySem.Expr.Call renaming elim->zU
open PySem.Value renaming noConfusion->Aa
open List.Nodup renaming length_le_of_subset->CI,sublist->adg
open PySem.Builtin.Slice renaming sliceAdjust->Dm,slicePlaces->HL,sliceApplied->adv,slicePartIndex->adw
open PySem.Builtin.SmallTypes renaming nextOf->Dn,ownedTupleIsFree->NE,fitsIndex->XX,ownedTupleHandOut->XY,ownedTupleFields->adx
open PySem.IsL renaming update->Dq
open List.Perm renaming eq_of_pairwise->GR,refl->adk
open PySem.Expr.Tuple renaming elim->HM
open PySem.SetTable.probe renaming go->HX
open PyProof.Rows.F renaming plain_set_update_loop->Nv,entry_set_update_loop->XH
open PyProof renaming noPylong_of_log2->NA
open PySem.AutoSeq1 renaming wpAny_loadPart'->NB,list_extend_list_list_0->adn,list_extend_list_tuple_0->ado,sub_list_list->adp,sub_tuple_tuple->adq
open PySem.Builtin.List renaming listExtendWith->NC,listSameRef->ND,listTooLong->XS,listUpdate->XT,listItems->ads,listLengthHint->adt,listSubscript?->adu
open PySem.Expr.Attribute renaming elim->NG
open PySem.Expr.BinOp renaming elim->NH
open PySem.Expr.BoolOp renaming elim->NI
open PySem.Expr.Compare renaming elim->NJ
open PySem.Expr.Constant renaming elim->NK
open PySem.Expr.Dict renaming elim->NL
open PySem.Expr.IfExp renaming elim->NM
open PySem.Expr.List renaming elim->NN
open PySem.Expr.ListComp renaming elim->NO
open PySem.Expr.Name renaming elim->NP
open PySem.Expr.Slice renaming elim->NQ
open PySem.Expr.Subscript renaming elim->NR
open PySem.Expr.UnaryOp renaming elim->NS
open PySem.SetTable.below renaming go->Od
open PySem.Stmt.Assign renaming elim->Oe
open PySem.Stmt.Break renaming elim->Of
open PySem.Stmt.Expr renaming elim->Og
open PySem.Stmt.For renaming elim->Oh
open PySem.Stmt.If renaming elim->Oi
open PySem.Stmt.Return renaming elim->Oj
open PySem.Stmt.While renaming elim->Ol
open PySem.Builtin.Frozenset renaming updateFrom->XR,sizeOf->adr
open PySem.Calls renaming Name_function_global->Ya,callWith_builtin->Yb,callWith_function->Yc,call_function_entry->Yd,call_len_list->Ye
open PySem PySem.W PyProof.Rows PySem.SeqAt PySem.Calls
namespace Mine.Internal
theorem y{a:α}:a=a:=rfl
theorem aG{a b:Prop}(h:a)(n:¬a):b:=absurd h n
theorem bA{a b:α}(f:α->β)(h:a=b):f a=f b:=congrArg f h
theorem bV{c:Prop}{d:Decidable c}(h:¬c){a b:α}:ite c a b=b:=if_neg h
theorem cg{c:Prop}{d:Decidable c}(h:c){a b:α}:ite c a b=a:=if_pos h
variable{n G aH bI aQ:Nat}{ay:fJ}{aP:Nat}{qC:zX}{R:ez}{bC:Nat}{aD cM:List aZ}{p:Nat}{st:List aZ}{ac:cv}{cO:Nat}{aR:cv}{c gk q:Nat}{bo:cv}{C nT gT:Nat}{prog:gr}{aO eK f es dY:Nat}{bf:aZ}{dr be j:Nat}{w:eU}{h:cv}{fh:Nat}{aJ:aN}{a:Nat}{au:cv}{fC:aZ}{L:Nat->Nat}{da:aZ}{cJ:Nat}{E:aw->aN->Prop}{fj:aZ}{fm bg:Nat}{fs:aZ}{ax:List Nat}{bD:Array aw}{br:aZ}{hi F fK:Nat->Prop}{is:List Int}{ab:cv}{bG:aZ}{aC:List Nat}{tc:Nat->Prop}{ord:List aw}{cm:List Int}{ar:Array aw}{fS:aN}{cR dD:List Nat}{d:Nat}{dc:List (Option Nat)}{os:List Nat}{bN:Array aw}{dz:Nat}{bQ:Bool->Nat->Nat}{bi:List (List Nat)}{aI:aw}{Z0 fa:aZ}{eD:Array (Option Nat)}{iJ led tup:Bool}{cc:xg}{names:List (bj×iD)}{Z9:List ml}{dp hr o:List Nat}{Z2 aX cH:List aw}{Z8 cY eH eY ej nm oQ:Nat}{aB lo:Option Nat}{Z3:iR}{Z6 bu:bU}{Z5:hO}{x:bj}{Z1:String}{Z7:aw}{Z4 af:aw->aN->Prop}
set_option genInjectivity true in
inductive V where
|bM
|dF (b:Bool)
|X (i:Int)
|cG (s:bj)
|Y (l:List V)
|J (a:Nat)
|jH (a b c:Int)
noncomputable def V.dE(a b:V):Bool:=@dV (a=b) (uI _)
noncomputable def V.kx(a b:List V):Bool:=@dV (a=b) (uI _)
theorem V.fE{a b:V}:V.dE a b=ak↔a=b:=@decide_eq_true_iff _ (uI _)
theorem V.vF{a b:List V}:V.kx a b=ak↔a=b:=@decide_eq_true_iff _ (uI _)
theorem V.mX{a b:V}:V.dE a b=aW↔a≠b:=@decide_eq_false_iff_not _ (uI _)
theorem V.ms{a:V}:V.dE a a=ak:=V.fE.mpr y
theorem aF{n:Nat}(h:Nat.ble G n=ak):G<=n:=Nat.le_of_ble_eq_true h
theorem eG{n:Nat}(h:Nat.beq G n=aW):G≠n:=Nat.ne_of_beq_eq_false h
theorem afh{p:Prop}(h:aW=ak):p:=aG h dT
theorem afk{bw:Type}{x:bw}{p:Prop}(h:x∈([]:List bw)):p:=aG h nv
section
variable{bw gq:Type} {f:bw->gq} {l:List bw}
theorem gu(h:D l<=n):(l.map f).length<=n:=bK f▸h
theorem pG(h:D l<n):(l.map f).length<n:=bK f▸h
theorem Kf(h:D l=n):(l.map f).length=n:=(bK f).trans h
theorem Kg(h:n<=D l):n<=(l.map f).length:=bK f▸h
end
theorem LI{i:Int}(h:i.natAbs<2^63):i<2^63:=Int.lt_of_le_of_lt Int.le_natAbs (lH.mpr h)
theorem UR{i:Int}(h:i.natAbs<2^63):-2^63<=i:=Wc (GI (LI (i:=-i) (Int.natAbs_neg i▸h)))
theorem Cd{n:Nat}(h:n<2^62):n<2^63:=ef h (aF y)
theorem LJ{i:Int}(h:i.natAbs<2^62):i<2^63:=LI (Cd h)
theorem LK{i:Int}(h:i.natAbs<2^62):-2^63<=i:=UR (Cd h)
theorem UU{b c d:Int}(al:b.natAbs<2^62)(X:c.natAbs<2^62)(F:d.natAbs=1):(b+(c+d)).natAbs<2^63:=er (aq (VZ ..) (gE (VZ ..) _)) (F▸ef (Nat.add_lt_add_of_lt_of_le al X) (aF y))
theorem acP{n i:Nat}(h:i<n):(n:Int)-1-i=((n-1-i:Nat):Int):=by rw[Mw (Nat.le_sub_one_of_lt h),Mw (er (cW i) h)];rfl
theorem acO{i:Int}{n:Nat}(h:0<=i+n):-(n:Int)<=i:=Wc (by have:=Int.sub_le_sub_right h i;rwa[Int.zero_sub,Mr,VS]at this)
theorem acM{i:Int}{n:Nat}(h:i<0):i+n<n:=by have:=Int.add_lt_add_right h n;rwa[GN]at this
theorem FQ(a b:Nat):gn (a:Int) b=(gn a b:Nat):=by
 rcases zx a b with h|h
 ·rw[sA h,Int.min_eq_left (GM.mpr h)]
 ·rw[Df h,Int.min_eq_right (GM.mpr h)]
theorem acN{b n:Int}(h:0<=b)(au:b<2^62)(k:0<=n):(0+gn b n*1).natAbs<2^62:=by obtain⟨b,rfl⟩:=Ms h;obtain⟨n,rfl⟩:=Ms k;rw[GN,GJ,FQ];exact er (wR ..) (lH.mp au)
theorem UT{x:Int}{i:Nat}:x-((i+1:Nat):Int)=x-i-1:=(Mz x i 1).symm
theorem FP{u n:Nat}(H:u+n<c)(h:n-1<n):u+1+(n-1)<c:=by rw[jn,hN 1,Nj (er (cW _) h)];exact H
theorem US{i:Nat}:¬(i:Int)<0:=pR.mpr (sp i)
theorem V.ub{a:List V}:V.kx a a=ak:=V.vF.mpr y
noncomputable def aeX:List Nat->List Nat->Ordering
|[],[]=>.eq
|[],_::_=>.lt
|_::_,[]=>.gt
|a::as,b::g=>if a<b then .lt else if b<a then .gt else aeX as g
noncomputable def kz(a b:Int):Ordering:=if a<b then .lt else if b<a then .gt else .eq
mutual
noncomputable def V.gh:Nat->V->Bool
|_,.X _=>ak
|_,.cG _=>ak
|n+1,.Y l=>V.fu n l
|_,_=>aW
noncomputable def V.fu:Nat->List V->Bool
|_,[]=>ak
|n,x::ar=>V.gh n x&&V.fu n ar
end
mutual
noncomputable def V.hm:Nat->V->Bool
|_,.X _=>ak
|_,.cG _=>ak
|0,_=>aW
|n+1,.Y l=>V.iF n l
|_,_=>aW
noncomputable def V.iF:Nat->List V->Bool
|_,[]=>ak
|n,x::ar=>V.hm n x&&V.iF n ar
end
set_option genInjectivity true in
inductive cT where
|W (l:List V)
|Z (ag:List (V×V))
|dH (c:Nat) (cd:List (Nat×V))
|arg (l:List V)
abbrev aA:=List cT
inductive lI where|bE|vM|KX
inductive jC where|W (i:Nat)|Y (is:List Nat)
abbrev bk:=List (Option V)
inductive hI where|X|lp|dg (H:V)
def cZ:Nat:=16000000
noncomputable def afm(i:Int):Bool:=dV (i.natAbs<2^62)
noncomputable def lY(a b c:Int):Nat:=if c>0 then(if a<b then((b-a-1)/c+1).toNat else 0)else(if a>b then((a-b-1)/(-c)+1).toNat else 0)
noncomputable def pL(a b c:Int):List V:=(fz (lY a b c)).map λ(k:Nat)=>V.X (a+c*k)
noncomputable def qr(s:bj):List V:=s.cps.toList.map λc=>V.cG ⟨#[c]⟩
noncomputable def gs:V->Nat
|.X _=>1
|.cG _=>2
|.Y _=>3
|_=>0
def iM(ag:List (V×V))(k:V):Prop:=V.hm 8 k=ak/\∀e∈ag,gs e.1=gs k
noncomputable def iT(ag:List (V×V))(k:V):Option Nat:=ag.findIdx? λe=>V.dE e.1 k
noncomputable def cX(ag:List (V×V))(k:V):Option V:=(iT ag k).bind λi=>(ag[i]?).map (·.2)
noncomputable def hp(ag:List (V×V))(k H:V):List (V×V):=match iT ag k with
 |some i=>ag.modify i λe=>(e.1,H)
 |Option.none=>ag++[(k,H)]
noncomputable def kA(ag:List (V×V))(k:V):List (V×V):=match iT ag k with
 |some i=>ag.eraseIdx i
 |Option.none=>ag
noncomputable def mw:List (Nat×V)->Nat->Option V
|[],_=>aj
|(k,H)::r,n=>if k=n then A H else mw r n
noncomputable def xP:List (Nat×V)->Nat->V->List (Nat×V)
|[],n,H=>[(n,H)]
|(k,g)::r,n,H=>if k=n then(k,H)::r else(k,g)::xP r n H
noncomputable def afl(i k:Nat)(F:i=k->Bool):Bool:=if h:i=k then F h else aW
theorem jG{i k:Nat}{F:i=k->Bool}(h:afl i k F=ak):∃c,F c=ak:=by
 unfold afl at h;by_cases c:i=k
 ·rw[dif_pos c]at h;exact⟨c,h⟩
 ·rw[dif_neg c]at h;exact aG h dT
noncomputable def ji{bw:Type}:List bw->(bw->Bool)->Bool|[x],f=>f x|_,_=>aW
noncomputable def cK{bw:Type}:List bw->(bw->bw->Bool)->Bool|[x,Q],f=>f x Q|_,_=>aW
noncomputable def To{bw:Type}:List bw->(bw->List bw->Bool)->Bool|x::l,f=>f x l|[],_=>aW
noncomputable def Fe{bw:Type}:Option bw->Bool->(bw->Bool)->Bool|some x,_,f=>f x|none,b,_=>b
section
variable{bw:Type} {P:List bw->Prop} {l:List bw}
@[elab_as_elim]theorem ji.bX{f:bw->Bool}(h:ji l f=ak)(k:∀x,f x=ak->P [x]):P l:=match l,h with|[x],h=>k x h
@[elab_as_elim]theorem cK.bX{f:bw->bw->Bool}(h:cK l f=ak)(k:∀x Q,f x Q=ak->P [x,Q]):P l:=match l,h with|[x,Q],h=>k x Q h
end
noncomputable def gz(e:bU)(f:bj->Bool):Bool:=afl e.ctorIdx 23 λh=>NP (motive_1:=λz=>Bool) e h λx z=>f x
noncomputable def nX(e:bU)(f:Const->Bool):Bool:=afl e.ctorIdx 19 λh=>NK (motive_1:=λz=>Bool) e h λx z z=>f x
noncomputable def rV(e:bU)(f:List bU->Bool):Bool:=afl e.ctorIdx 25 λh=>HM (motive_1:=λx=>Bool) e h λl x x=>f l
noncomputable def Fd(e:bU)(f:List bU->Bool):Bool:=afl e.ctorIdx 24 λh=>NN (motive_1:=λx=>Bool) e h λl x=>f l
noncomputable def Fb(e:bU):Bool:=afl e.ctorIdx 6 λh=>NL (motive_1:=λx=>Bool) e h λa b x=>a.isEmpty&&b.isEmpty
noncomputable def EZ(e:bU)(f:bU->HV->bU->Bool):Bool:=afl e.ctorIdx 2 λh=>NH (motive_1:=λx=>Bool) e h λl C r x=>f l C r
noncomputable def yp(e:bU)(f:UnaryOp->bU->Bool):Bool:=afl e.ctorIdx 3 λh=>NS (motive_1:=λx=>Bool) e h λC e x=>f C e
noncomputable def tn(e:bU)(f:bU->List tV->List bU->Bool):Bool:=afl e.ctorIdx 15 λh=>NJ (motive_1:=λx=>Bool) e h λl C r x=>f l C r
noncomputable def wc(e:bU)(f:HK->List bU->Bool):Bool:=afl e.ctorIdx 0 λh=>NI (motive_1:=λx=>Bool) e h λC l x=>f C l
noncomputable def Fc(e:bU)(f:bU->bU->bU->Bool):Bool:=afl e.ctorIdx 5 λh=>NM (motive_1:=λx=>Bool) e h λl C r x=>f l C r
noncomputable def rU(e:bU)(f:bU->bj->iR->Bool):Bool:=afl e.ctorIdx 20 λh=>NG (motive_1:=λx=>Bool) e h λl C r=>f l C r
noncomputable def uy(e:bU)(f:bU->bU->Bool):Bool:=afl e.ctorIdx 21 λh=>NR (motive_1:=λx=>Bool) e h λl r x=>f l r
noncomputable def Ff(e:bU)(f:Option bU->Option bU->Bool):Bool:=afl e.ctorIdx 26 λh=>NQ (motive_1:=λx=>Bool) e h λl r G x=>G.isNone&&f l r
noncomputable def ih(e:bU)(f:bU->List bU->iR->Bool):Bool:=afl e.ctorIdx 16 λh=>zU (motive_1:=λx=>Bool) e h λg aK aC p=>aC.isEmpty&&f g aK p
noncomputable def Fa(e:bU)(f:bU->List bU->Ob->Bool):Bool:=afl e.ctorIdx 16 λh=>zU (motive_1:=λx=>Bool) e h λg aK aC x=>ji aC λF=>f g aK F
noncomputable def BD(e:bU)(f:bU->ml->List ml->hO->Bool):Bool:=afl e.ctorIdx 8 λh=>NO (motive_1:=λx=>Bool) e h λe a v x=>To a λg Z=>f e g Z v
theorem bx{a b:Bool}(h:(a&&b)=ak):a=ak/\b=ak:=by cases a<;>obtain⟨⟩:=b<;>first|exact⟨rfl,rfl⟩|exact absurd h dT
section
variable{P:bU->Prop}
@[elab_as_elim]theorem gz.bX{f:bj->Bool}(h:gz bu f=ak)(k:∀x p,f x=ak->P (.Name x p)):P bu:=(jG h).elim λc h=>NP (motive_1:=λe=>∀c,NP (motive_1:=λz=>Bool) e c (λx z=>f x)=ak->P e) bu c (λx p z h=>k x p h) c h
@[elab_as_elim]theorem nX.bX{f:Const->Bool}(h:nX bu f=ak)(k:∀x n p,f x=ak->P (.Constant x n p)):P bu:=(jG h).elim λc h=>NK (motive_1:=λe=>∀c,NK (motive_1:=λz=>Bool) e c (λx z z=>f x)=ak->P e) bu c (λx n p z h=>k x n p h) c h
@[elab_as_elim]theorem rV.bX{f:List bU->Bool}(h:rV bu f=ak)(k:∀l n p,f l=ak->P (.Tuple l n p)):P bu:=(jG h).elim λc h=>HM (motive_1:=λe=>∀c,HM (motive_1:=λx=>Bool) e c (λl x x=>f l)=ak->P e) bu c (λl n p x h=>k l n p h) c h
@[elab_as_elim]theorem Fd.bX{f:List bU->Bool}(h:Fd bu f=ak)(k:∀l p,f l=ak->P (.List l p)):P bu:=(jG h).elim λc h=>NN (motive_1:=λe=>∀c,NN (motive_1:=λx=>Bool) e c (λl x=>f l)=ak->P e) bu c (λl p x h=>k l p h) c h
@[elab_as_elim]theorem Fb.bX(h:Fb bu=ak)(k:∀p,P (.Dict [] [] p)):P bu:=(jG h).elim λc h=>NL (motive_1:=λe=>∀c,NL (motive_1:=λx=>Bool) e c (λa b x=>a.isEmpty&&b.isEmpty)=ak->P e) bu c (λa b p x h=>match a,b,h with|[],[],_=>k p) c h
@[elab_as_elim]theorem EZ.bX{f:bU->HV->bU->Bool}(h:EZ bu f=ak)(k:∀l C r p,f l C r=ak->P (.BinOp l C r p)):P bu:=(jG h).elim λc h=>NH (motive_1:=λe=>∀c,NH (motive_1:=λx=>Bool) e c (λl C r x=>f l C r)=ak->P e) bu c (λl C r p x h=>k l C r p h) c h
@[elab_as_elim]theorem yp.bX{f:UnaryOp->bU->Bool}(h:yp bu f=ak)(k:∀C e p,f C e=ak->P (.UnaryOp C e p)):P bu:=(jG h).elim λc h=>NS (motive_1:=λe=>∀c,NS (motive_1:=λx=>Bool) e c (λC e x=>f C e)=ak->P e) bu c (λC e p x h=>k C e p h) c h
@[elab_as_elim]theorem tn.bX{f:bU->List tV->List bU->Bool}(h:tn bu f=ak)(k:∀l C r p,f l C r=ak->P (.Compare l C r p)):P bu:=(jG h).elim λc h=>NJ (motive_1:=λe=>∀c,NJ (motive_1:=λx=>Bool) e c (λl C r x=>f l C r)=ak->P e) bu c (λl C r p x h=>k l C r p h) c h
@[elab_as_elim]theorem wc.bX{f:HK->List bU->Bool}(h:wc bu f=ak)(k:∀C l p,f C l=ak->P (.BoolOp C l p)):P bu:=(jG h).elim λc h=>NI (motive_1:=λe=>∀c,NI (motive_1:=λx=>Bool) e c (λC l x=>f C l)=ak->P e) bu c (λC l p x h=>k C l p h) c h
@[elab_as_elim]theorem Fc.bX{f:bU->bU->bU->Bool}(h:Fc bu f=ak)(k:∀l C r p,f l C r=ak->P (.IfExp l C r p)):P bu:=(jG h).elim λc h=>NM (motive_1:=λe=>∀c,NM (motive_1:=λx=>Bool) e c (λl C r x=>f l C r)=ak->P e) bu c (λl C r p x h=>k l C r p h) c h
@[elab_as_elim]theorem rU.bX{f:bU->bj->iR->Bool}(h:rU bu f=ak)(k:∀l C r,f l C r=ak->P (.Attribute l C r)):P bu:=(jG h).elim λc h=>NG (motive_1:=λe=>∀c,NG (motive_1:=λx=>Bool) e c (λl C r=>f l C r)=ak->P e) bu c (λl C r x h=>k l C r h) c h
@[elab_as_elim]theorem uy.bX{f:bU->bU->Bool}(h:uy bu f=ak)(k:∀l r p,f l r=ak->P (.Subscript l r p)):P bu:=(jG h).elim λc h=>NR (motive_1:=λe=>∀c,NR (motive_1:=λx=>Bool) e c (λl r x=>f l r)=ak->P e) bu c (λl r p x h=>k l r p h) c h
@[elab_as_elim]theorem Ff.bX{f:Option bU->Option bU->Bool}(h:Ff bu f=ak)(k:∀l r p,f l r=ak->P (.Slice l r aj p)):P bu:=(jG h).elim λc h=>NQ (motive_1:=λe=>∀c,NQ (motive_1:=λx=>Bool) e c (λl r G x=>G.isNone&&f l r)=ak->P e) bu c (λl r G p x h=>match G,h with|none,h=>k l r p h) c h
@[elab_as_elim]theorem ih.bX{f:bU->List bU->iR->Bool}(h:ih bu f=ak)(k:∀g aK p,f g aK p=ak->P (.Call g aK [] p)):P bu:=(jG h).elim λc h=>zU (motive_1:=λe=>∀c,zU (motive_1:=λx=>Bool) e c (λg aK aC p=>aC.isEmpty&&f g aK p)=ak->P e) bu c (λg aK aC p x h=>match aC,h with|[],h=>k g aK p h) c h
@[elab_as_elim]theorem Fa.bX{f:bU->List bU->Ob->Bool}(h:Fa bu f=ak)(k:∀g aK F p,f g aK F=ak->P (.Call g aK [F] p)):P bu:=(jG h).elim λc h=>zU (motive_1:=λe=>∀c,zU (motive_1:=λx=>Bool) e c (λg aK aC x=>ji aC λF=>f g aK F)=ak->P e) bu c (λg aK aC p x h=>ji.bX (P:=λaC=>P (.Call g aK aC p)) h λF h=>k g aK F p h) c h
@[elab_as_elim]theorem BD.bX{f:bU->ml->List ml->hO->Bool}(h:BD bu f=ak)(k:∀e g Z v p,f e g Z v=ak->P (.ListComp e (g::Z) v p)):P bu:=(jG h).elim λc h=>NO (motive_1:=λe=>∀c,NO (motive_1:=λx=>Bool) e c (λe a v x=>To a λg Z=>f e g Z v)=ak->P e) bu c (λe a v p x h=>match a,h with|g::Z,h=>k e g Z v p h) c h
end
structure eT where
 vars:List bj
 names:List (bj×iD)
structure mr where
 Ei:Nat->Option bj
 AO:Nat->bj
 nm:Nat->bj
 kT:Nat
 vT:List (bj×Int)
noncomputable def eT.lS(c:eT)(x:bj):Bool:=c.names.lookup x==A .globalImplicit&&!(x==("__debug__":bj))
noncomputable def eT.var(c:eT)(i:Nat)(x:bj):Bool:=c.vars[i]?==A x&&(!(x==("__classdict__":bj))&&!(x==("__debug__":bj)))
noncomputable def eT.tx(c:eT)(x:bj):Bool:=c.names.lookup x==A .local||c.names.lookup x==A .cell
noncomputable def Bv(e:bU):Bool:=!ih e λg aK x=>aK.isEmpty&&gz g λx=>ak
noncomputable def lV(e:bU):Bool:=e.ctorIdx !=22
noncomputable def EG(e:bU):Bool:=e.ctorIdx !=7
noncomputable def rM(e:bU):Bool:=e.ctorIdx==25
noncomputable def Ta(e:bU):Bool:=e.ctorIdx !=7&&e.ctorIdx !=24
noncomputable def yj(e:bU):Bool:=e.ctorIdx !=8&&(e.ctorIdx !=9&&e.ctorIdx !=10)
noncomputable def yI(v:hO):List bj:=(v.names.filter λx=>(x.2==.local||x.2==.cell||x.2==.free)&&x.1 !=(".0":bj)).map (·.1)
noncomputable def Jc(c:eT):List Nat->List bU->Bool
|[],l=>l.isEmpty
|i::is,l=>match l with|e::ag=>(gz e λx=>c.var i x&&c.tx x)&&Jc c is ag|[]=>aW
noncomputable def rz(c:eT):jC->bU->Bool
|.W i,e=>gz e λx=>c.var i x&&c.tx x
|.Y is,e=>rV e λag=>Jc c is ag
noncomputable def DU(c:eT)(names:List (bj×iD)):List bj->List (Option Nat)->Bool
|[],l=>l.isEmpty
|x::ar,l=>match l with
 |C::os=>(match C with
  |some i=>c.var i x&&(names.lookup x==A .free&&(c.names.lookup x==A .cell||c.names.lookup x==A .free))
  |none=>names.lookup x==A .local||names.lookup x==A .cell)&&DU c names ar os
 |[]=>aW
noncomputable def Lc(v:hO):Bool:=v.kind==.function&&(dV ((v.names.map (·.1)).Nodup)&&(v.names.all (λx=>!(x.2==.free)||x.1 !=(".0":bj))&&v.names.all (λx=>x.2 !=.globalExplicit)))
noncomputable def AN(c:eT)(f:bU->Bool)(Z:bU):lI->Bool
|.bE=>Ta Z&&f Z
|.vM=>ih Z λg aK x=>(gz g λQ=>Q==("enumerate":bj)&&c.lS Q)&&ji aK λp=>lV p&&f p
|.KX=>ih Z λg aK x=>(gz g λQ=>Q==("reversed":bj)&&c.lS Q)&&ji aK λp=>lV p&&f p
noncomputable def yA:lI->bU->Bool
|.vM,t=>rM t
|_,_=>ak
noncomputable def eT.Z(v:hO):eT:=⟨yI v,v.names⟩
def afe:Type:=Bool×(mr->eT->bU->Bool)
def S:Type:=Bool×(mr->eT->hK->Bool)
def kn:Type:=mr->eT->List ml->bU->Bool
noncomputable def rL(e:afe):Bool:=e.1
noncomputable def fv(t:mr)(e:afe)(c:eT)(bu:bU):Bool:=e.2 t c bu
noncomputable def AM(t:mr)(e:kn)(c:eT)(i:List ml)(o:bU):Bool:=e t c i o
noncomputable def lr(t:mr):List afe->eT->List bU->Bool
|[],_,aK=>aK.isEmpty
|e::ag,c,aK=>match aK with|p::aK=>lV p&&(fv t e c p&&lr t ag c aK)|[]=>aW
noncomputable def afe.bM:afe:=(ak,λt c bu=>nX bu λk=>k==.none)
noncomputable def afe.dF(b:Bool):afe:=(aW,λt c bu=>nX bu λk=>k==.bool b)
noncomputable def afe.X(i:Int):afe:=(aW,λt c bu=>(nX bu λk=>k==.int i)||yp bu λC p=>C==.USub&&nX p λk=>k==.int (-i))
noncomputable def afe.cG(s:bj):afe:=(aW,λt c bu=>nX bu λk=>k==.str s)
noncomputable def afe.J(i:Nat):afe:=(aW,λt c bu=>gz bu λx=>c.var i x)
noncomputable def afe.vT(i:Int):afe:=(aW,λt c bu=>gz bu λx=>c.lS x&&t.vT.lookup x==A i)
noncomputable def afe.Y(ag:List afe):afe:=(aW,λt c bu=>rV bu λaK=>dV (D aK<=1000)&&lr t ag c aK)
noncomputable def afe.W(ag:List afe):afe:=(aW,λt c bu=>Fd bu λaK=>lr t ag c aK)
noncomputable def afe.nL:afe:=(aW,λt c bu=>Fb bu)
noncomputable def afe.cb(ft:HV)(a b:afe):afe:=(aW,λt c bu=>EZ bu λl C r=>C==ft&&(fv t a c l&&fv t b c r))
noncomputable def afe.yi(a:afe):afe:=(aW,λt c bu=>yp bu λC p=>C==.Not&&fv t a c p)
noncomputable def afe.bH(ft:tV)(a b:afe):afe:=(aW,λt c bu=>tn bu λl os g=>os==[ft]&&ji g λr=>fv t a c l&&(fv t b c r&&EG r))
noncomputable def afe.AL(dX cx:tV)(a b d:afe):afe:=(aW,λt c bu=>tn bu λl os g=>os==[dX,cx]&&cK g λr q=>EG q&&(fv t a c l&&(fv t b c r&&fv t d c q)))
noncomputable def afe.isNone(a:afe):afe:=(aW,λt c bu=>tn bu λl os g=>os==[.Is]&&ji g λr=>(nX r λk=>k==.none)&&fv t a c l)
noncomputable def afe.and(ag:List afe):afe:=(aW,λt c bu=>wc bu λC aK=>C==.And&&(!aK.isEmpty&&lr t ag c aK))
noncomputable def afe.or(ag:List afe):afe:=(aW,λt c bu=>wc bu λC aK=>C==.Or&&(!aK.isEmpty&&lr t ag c aK))
noncomputable def afe.fc(d a b:afe):afe:=(aW,λt c bu=>Fc bu λq x Q=>fv t d c q&&(fv t a c x&&fv t b c Q))
noncomputable def afe.cy(C:afe)(n:Nat):afe:=(aW,λt c bu=>rU bu λp x z=>dV (n<t.kT)&&(x==t.nm n&&(Bv p&&fv t C c p)))
noncomputable def afe.Z(C i:afe):afe:=(aW,λt c bu=>uy bu λp q=>fv t C c p&&fv t i c q)
noncomputable def afe.eb(C lo aB:afe):afe:=(aW,λt c bu=>uy bu λp q=>fv t C c p&&Ff q λa b=>Fe a (rL lo) (λq=>fv t lo c q)&&Fe b (rL aB) (λq=>fv t aB c q))
noncomputable def afe.fg(f:Nat)(m:List afe):afe:=(aW,λt c bu=>ih bu λg aK z=>(gz g λx=>t.Ei f==A x&&c.lS x)&&lr t m c aK)
noncomputable def afe.cS(k:Nat)(m:List afe):afe:=(aW,λt c bu=>ih bu λg aK z=>(gz g λx=>x==t.AO k&&c.lS x)&&lr t m c aK)
noncomputable def afe.bZ(C:afe)(n:Nat)(m:List afe):afe:=(aW,λt c bu=>ih bu λg aK W=>rU g λp x Z=>(Z.endLine==W.line&&(dV (n<t.kT)&&x==t.nm n))&&(Bv p&&(dV (D aK<=10)&&(fv t C c p&&lr t m c aK))))
noncomputable def afe.eO(C:afe)(Q:bj)(m:List afe):afe:=(aW,λt c bu=>ih bu λg aK W=>rU g λp x Z=>(Z.endLine==W.line&&x==Q)&&(Bv p&&(dV (D aK<=10)&&(fv t C c p&&lr t m c aK))))
noncomputable def afe.bR(Q:bj)(m:List afe):afe:=(aW,λt c bu=>ih bu λg aK z=>(gz g λx=>x==Q&&c.lS x)&&lr t m c aK)
noncomputable def afe.uA(e:afe)(f:Nat):afe:=(aW,λt c bu=>Fa bu λg aK k=>(gz g λx=>x==("sorted":bj)&&c.lS x)&&(k.arg==A ("key":bj)&&(gz k.value λQ=>t.Ei f==A Q&&c.lS Q))&&ji aK λp=>lV p&&fv t e c p)
noncomputable def afe.BM(e:afe):afe:=(aW,λt c bu=>ih bu λg aK z=>(gz g λx=>x==("sorted":bj)&&c.lS x)&&ji aK λq=>ih q λg aK z=>(gz g λx=>x==("set":bj)&&c.lS x)&&ji aK λp=>lV p&&fv t e c p)
noncomputable def afe.zip(a b:afe):afe:=(aW,λt c bu=>ih bu λg aK z=>(gz g λx=>x==("list":bj)&&c.lS x)&&ji aK λq=>ih q λg aK z=>(gz g λx=>x==("zip":bj)&&c.lS x)&&cK aK λp r=>lV p&&(lV r&&(fv t a c p&&fv t b c r)))
noncomputable def afe.dy(cQ:jC)(k:lI)(s:afe)(fk:List afe)(dq:kn)(dc:List (Option Nat)):afe:=(aW,λt c bu=>BD bu λo g x v=>(Lc v&&DU c v.names (yI v) dc)&&(((g::x).all (λg=>g.is_async==0)&&(rz (.Z v) cQ g.target&&(AN c (λp=>fv t s c p) g.iter k&&yA k g.target)))&&(lr t fk (.Z v) g.ifs&&AM t dq (.Z v) x o)))
noncomputable def afe.vE:afe:=(aW,λx x x=>ak)
noncomputable def kn.hS(cQ:jC)(k:lI)(s:afe)(fk:List afe)(dq:kn):kn:=λt c i o=>match i with
 |g::x=>(rz c cQ g.target&&(AN c (λp=>fv t s c p) g.iter k&&yA k g.target))&&(lr t fk c g.ifs&&AM t dq c x o)
 |[]=>aW
noncomputable def kn.di(e:afe):kn:=λt c i o=>i.isEmpty&&fv t e c o
section
abbrev cw:=List (aZ×Option aZ)
variable{I bF LM:cw} {Bc:cv}
structure Nu where
 body:Nat->Option (Nat×Nat×List S)
 bZ:Nat->Nat->Option Nat
 init:Nat->Option Nat
end
section
noncomputable def nY(e:hK)(f:bU->bU->Bool):Bool:=afl e.ctorIdx 5 λh=>Oe (motive_2:=λz=>Bool) e h λar p z=>ji ar λx=>f x p
noncomputable def Fq(e:hK)(f:bU->Bool):Bool:=afl e.ctorIdx 24 λh=>Og (motive_2:=λx=>Bool) e h λp x=>f p
noncomputable def Fu(e:hK)(f:Option bU->Bool):Bool:=afl e.ctorIdx 3 λh=>Oj (motive_2:=λx=>Bool) e h λp x=>f p
noncomputable def Ft(e:hK)(f:bU->List hK->List hK->Bool):Bool:=afl e.ctorIdx 12 λh=>Oi (motive_2:=λx=>Bool) e h λa b c x=>f a b c
noncomputable def Fv(e:hK)(f:bU->List hK->Bool):Bool:=afl e.ctorIdx 11 λh=>Ol (motive_2:=λx=>Bool) e h λa b c x=>c.isEmpty&&f a b
noncomputable def Fs(e:hK)(f:bU->bU->List hK->Bool):Bool:=afl e.ctorIdx 9 λh=>Oh (motive_2:=λx=>Bool) e h λa b c d x=>d.isEmpty&&f a b c
noncomputable def Fp(e:hK):Bool:=afl e.ctorIdx 26 λh=>Of (motive_2:=λx=>Bool) e h λx=>ak
noncomputable def u2(e:bU):Bool:=ih e λx x x=>ak
noncomputable def F!(e:bU):Bool:=!rV e λl=>l.all (OB 8)
noncomputable def xU(s:S):Bool:=s.1
noncomputable def Jb(t:mr)(s:S)(c:eT)(aK:hK):Bool:=s.2 t c aK
noncomputable def qs(t:mr):List S->eT->List hK->Bool
|[],_,aK=>aK.isEmpty
|s::r,c,aK=>if xU s then qs t r c aK else match aK with|p::aK=>Jb t s c p&&qs t r c aK|[]=>aW
noncomputable def S.ea(x:Nat)(e:afe):S:=(aW,λt c aK=>nY aK λQ p=>(gz Q λQ=>c.var x Q&&c.tx Q)&&(yj p&&fv t e c p))
noncomputable def S.pv(x:Nat)(e:afe):S:=(aW,λt c aK=>nY aK λQ p=>(gz Q λQ=>c.var x Q&&c.tx Q)&&fv t e c p)
noncomputable def S.vC(ar:List Nat)(e:afe):S:=(aW,λt c aK=>nY aK λQ p=>rz c (.Y ar) Q&&(!rM p&&(yj p&&fv t e c p)))
noncomputable def S.lm(i j:Nat)(a b:afe):S:=(aW,λt c aK=>nY aK λQ p=>rz c (.Y [i,j]) Q&&(F! p&&fv t (.Y [a,b]) c p))
noncomputable def S.jT(C:afe)(n:Nat)(e:afe):S:=(aW,λt c aK=>nY aK λQ q=>rU Q λp x z=>(dV (n<t.kT)&&x==t.nm n)&&(yj q&&(fv t C c p&&fv t e c q)))
noncomputable def S.mE(C i e:afe):S:=(aW,λt c aK=>nY aK λQ q=>uy Q λp r=>yj q&&(fv t C c p&&(fv t i c r&&fv t e c q)))
noncomputable def S.fY(e:afe):S:=(aW,λt c aK=>Fq aK λp=>u2 p&&fv t e c p)
noncomputable def S.dg(e:afe):S:=(aW,λt c aK=>Fu aK λp=>Fe p (rL e) λp=>fv t e c p)
noncomputable def S.fc(e:afe)(a b:List S):S:=(aW,λt c aK=>Ft aK λp q r=>fv t e c p&&(qs t a c q&&qs t b c r))
noncomputable def S.tw(e:afe)(b:List S):S:=(aW,λt c aK=>Fv aK λp q=>fv t e c p&&qs t b c q)
noncomputable def S.eP(cQ:jC)(k:lI)(s:afe)(b:List S):S:=(aW,λt c aK=>Fs aK λQ Z q=>rz c cQ Q&&(AN c (λp=>fv t s c p) Z k&&(yA k Q&&qs t b c q)))
noncomputable def S.lp:S:=(aW,λt c aK=>Fp aK)
noncomputable def S.forget(i:Nat):S:=(ak,λx x x=>aW)
noncomputable def S.vE:S:=(aW,λx x x=>ak)
noncomputable def xC:List bj:=["len","range","sorted","dict","list","tuple","int","sum","max","enumerate","reversed","set","zip"]
end
noncomputable def KM(p:vg)(ar:List bj):Bool:=p.posonlyargs.isEmpty&&(p.args.map (·.arg)==ar&&(p.kwonlyargs.isEmpty&&(p.vararg.isNone&&p.kwarg.isNone)))
structure uK where
 nm:bj
 cls:Option Nat
 EH:Nat
 EI:Nat
 b:List S
structure jy where
 defs:List uK
 sY:List bj
 qA:List bj
 JS:List (bj×Int)
noncomputable def Fg:Option (Option aw)->aZ
|some (A (.ref a))=>a
|_=>0
noncomputable def lP(K:jP)(P:jy)(k:Nat):aZ:=Fg (nD K iE (P.sY.getD k ""))
noncomputable def pC(K:jP)(P:jy)(f:Nat):aZ:=match P.defs[f]? with
 |some d=>(match d.cls with
  |none=>Fg (nD K iE d.nm)
  |some k=>Fg (rc K (.ref (lP K P k)) d.nm))
 |none=>0
noncomputable def tr(P:jy):mr where
 Ei f:=(P.defs[f]?).bind λd=>if d.cls.isNone then A d.nm else aj
 AO k:=P.sY.getD k ""
 nm i:=P.qA.getD i ""
 kT:=D P.qA
 vT:=P.JS
noncomputable def oI(P:jy):Nu where
 body f:=(P.defs[f]?).map λd=>(d.EH,d.EI,d.b)
 bZ c n:=(P.qA[n]?).bind λx=>P.defs.findIdx? λd=>d.cls==A c&&d.nm==x
 init c:=P.defs.findIdx? λd=>d.cls==A c&&d.nm==("__init__":bj)
abbrev Az:=vg×hO×List hK
noncomputable def xI(x:Az):List bj:=x.1.args.map (·.arg)++(yI x.2.1).filter λQ=>!(x.1.args.map (·.arg)).contains Q
noncomputable def SK(t:mr)(x:Az)(d:uK):Bool:=((xI x).length==d.EI&&(dV (xI x).Nodup&&(dV (d.EH<=d.EI)&&(dV (x.2.1.names.map (·.1)).Nodup&&(xI x).all λQ=>x.2.1.names.lookup Q==A .local||x.2.1.names.lookup Q==A .cell))))&&((KM x.1 ((xI x).take d.EH)&&(x.2.1.kind==.function&&(!x.2.1.isCoroutine&&!x.2.1.isGenerator)))&&qs t d.b ⟨xI x,x.2.1.names⟩ x.2.2)
noncomputable def KA(K:jP)(cc:xg):Bool:=cc.closure.isEmpty&&(cc.globals==iE&&(cc.builtins==tX&&(codeIn K cc.code cc.qualname&&cc.defaults==.none)))
section
variable{K:jP} {P:jy}
noncomputable def EK(K:jP)(P:jy)(k n:Nat):Bool:=match(oI P).bZ k n with
 |none=>rc K (.ref (lP K P k)) ((tr P).nm n)==A aj
 |some f=>rc K (.ref (lP K P k)) ((tr P).nm n)==A (A (.ref (pC K P f)))&&Dw K (.ref (pC K P f))==A (.type "function")
noncomputable def SH(K:jP)(P:jy)(k:Nat):Bool:=match(oI P).init k with
 |none=>aW
 |some f=>rc K (.ref (lP K P k)) "__init__"==A (A (.ref (pC K P f)))&&Dw K (.ref (pC K P f))==A (.type "function")
noncomputable def SF(K:jP)(P:jy)(k:Nat):Bool:=(makesIn K (lP K P k)&&(plainGet K (lP K P k) ""&&(hasDictIn K (lP K P k)&&(rc K (.ref (lP K P k)) "__setattr__"==A (A (.builtin "object.__setattr__"))&&plainOver K (lP K P k)))))&&(((fz (D P.qA)).all (EK K P k)&&SH K P k)&&(nD K iE ((tr P).AO k)==A (A (.ref (lP K P k)))&&Os K (.ref (lP K P k))))
noncomputable def Bx(K:jP)(P:jy)(f:Nat):Bool:=match P.defs[f]? with
 |none=>ak
 |some d=>d.cls.isSome||nD K iE d.nm==A (A (.ref (pC K P f)))
noncomputable def SG(K:jP)(x:bj×Int):Bool:=match nD K iE x.1 with
 |some (A (.int j _))=>j==x.2
 |_=>aW
noncomputable def SE(P:jy)(K:jP):Bool:=((fz (D P.defs)).all (Bx K P)&&((fz (D P.sY)).all (SF K P)&&P.defs.all λd=>d.cls.all λk=>dV (k<D P.sY)))&&(dV P.qA.Nodup&&(P.JS.all (SG K)&&xC.all λx=>nD K iE x==A aj))
end
noncomputable def m7:List S:=[.dg (.and [(.bH .NotEq (.J 0) (.cG "")),(.bH .Eq (.dy (.W 0) .bE (.J 0) [(.or [(.eO (.J 0) "isspace" []),(.bH .In (.J 0) (.cG "()[]{},:"))])] (.di (.J 0)) [aj]) (.W []))])]
noncomputable def afi:List S:=[.ea 1 (.W [(.Y [(.Y []),(.J 0)])]),.eP (.Y [2,3]) .vM (.eb (.J 0) (.X 1) .bM) [.fY (.eO (.J 1) "extend" [(.dy (.Y [0,1]) .bE (.fg 1 [(.J 3)]) [] (.di (.Y [(.cb .Add (.Y [(.J 2)]) (.J 0)),(.J 1)])) [aj,aj,A 2])])],.dg (.J 1)]
noncomputable def afj:List S:=[.pv 1 (.dy (.Y [0,1]) .bE (.fg 1 [(.J 0)]) [] (.di (.J 1)) [aj,aj]),.dg (.Y [(.bR "len" [(.J 1)]),(.bR "tuple" [(.dy (.W 0) .bE (.J 1) [] (.di (.Z (.J 0) (.X 0))) [aj])]),(.bR "tuple" [(.dy (.W 0) .bE (.J 1) [] (.di (.cb .Sub (.bR "len" [(.J 0)]) (.X 1))) [aj])])])]
noncomputable def o1:List S:=[.jT (.J 0) 1 (.W []),.jT (.J 0) 2 .nL,.jT (.J 0) 3 (.W []),.jT (.J 0) 4 (.W [])]
noncomputable def p?:List S:=[.dg (.bR "len" [(.cy (.J 0) 1)])]
noncomputable def q_:List S:=[.ea 3 (.cb .Add (.Y [(.J 1)]) (.bR "tuple" [(.J 2)])),.fc (.bH .In (.J 3) (.cy (.J 0) 2)) [.dg (.Z (.cy (.J 0) 2) (.J 3))] [],.fY (.bZ (.J 0) 7 [(.J 1)]),.eP (.W 4) .bE (.eb (.J 3) (.X 1) .bM) [.fc (.yi (.AL .LtE .Lt (.X 0) (.J 4) (.bR "len" [(.cy (.J 0) 1)]))) [.vE] []],.mE (.cy (.J 0) 2) (.J 3) (.bR "len" [(.cy (.J 0) 1)]),.fY (.eO (.cy (.J 0) 1) "append" [(.J 3)]),.fY (.eO (.cy (.J 0) 3) "append" [(.cb .Add (.X 1) (.bR "sum" [(.dy (.W 0) .bE (.eb (.J 3) (.X 1) .bM) [] (.di (.Z (.cy (.J 1) 3) (.J 0))) [aj,A 0])]))]),.fY (.eO (.cy (.J 0) 4) "append" [(.cb .Add (.X 1) (.bR "max" [(.cb .Add (.dy (.W 0) .bE (.eb (.J 3) (.X 1) .bM) [] (.di (.Z (.cy (.J 1) 4) (.J 0))) [aj,A 0]) (.W [(.X 0)]))]))]),.dg (.cb .Sub (.bR "len" [(.cy (.J 0) 1)]) (.X 1))]
noncomputable def q5:List S:=[.fc (.or [(.yi (.fg 0 [(.J 1)])),(.bH .Eq (.Z (.J 1) (.X 0)) (.cG "?"))]) [.vE] []]
noncomputable def q6:List S:=[.eP (.Y [2,3]) .bE (.fg 1 [(.J 1)]) [.fY (.bZ (.J 0) 7 [(.Z (.J 3) (.X 0))])],.dg (.bZ (.J 0) 9 [(.J 1)])]
noncomputable def q7:List S:=[.dg (.bZ (.J 0) 6 [(.Z (.J 1) (.X 0)),(.bR "tuple" [(.dy (.W 0) .bE (.eb (.J 1) (.X 1) .bM) [] (.di (.bZ (.J 1) 9 [(.J 0)])) [aj,A 0])])])]
noncomputable def q8:List S:=[.dg (.Z (.Z (.cy (.J 0) 1) (.J 1)) (.X 0))]
noncomputable def m8:List S:=[.dg (.eb (.Z (.cy (.J 0) 1) (.J 1)) (.X 1) .bM)]
noncomputable def m9:List S:=[.dg (.Z (.cy (.J 0) 1) (.J 1))]
noncomputable def n_:List S:=[.lm 2 3 .vE (.W [(.J 1)]),.tw (.bH .Gt (.bR "len" [(.J 3)]) (.X 0)) [.eP (.W 4) .bE (.bZ (.J 0) 11 [(.eO (.J 3) "pop" [])]) [.fc (.bH .NotIn (.J 4) (.J 2)) [.mE (.J 2) (.J 4) (.dF ak),.fY (.eO (.J 3) "append" [(.J 4)])] []]],.ea 5 .nL,.eP (.W 6) .bE (.bR "sorted" [(.J 2)]) [.mE (.J 5) (.J 6) (.cb .Add (.Y [(.bZ (.J 0) 10 [(.J 6)])]) (.bR "tuple" [(.dy (.W 0) .bE (.bZ (.J 0) 11 [(.J 6)]) [] (.di (.Z (.J 1) (.J 0))) [aj,A 5])]))],.dg (.Z (.J 5) (.J 1))]
noncomputable def n':List S:=[.dg (.eO (.cy (.J 0) 2) "get" [(.cb .Add (.Y [(.J 1)]) (.bR "tuple" [(.J 2)])),(.X (-1))])]
noncomputable def n!:List S:=[.ea 2 (.W []),.eP (.Y [3,4]) .KX (.zip (.J 0) (.J 1)) [.pv 5 (.dy (.W 0) .bE (.bR "range" [(.J 4)]) [] (.di (.eO (.J 1) "pop" [])) [aj,A 2]),.fY (.eO (.J 2) "append" [(.cb .Add (.Y [(.J 3)]) (.bR "tuple" [(.J 5)]))])],.dg (.Z (.J 2) (.X 0))]
noncomputable def n?:List S:=[.jT (.J 0) 15 (.J 1),.jT (.J 0) 16 .bM,.jT (.J 0) 17 .nL]
noncomputable def n0:List S:=[.fc (.bH .Gt (.J 1) (.vT 200)) [.vE] [],.ea 2 (.Y [(.bZ (.cy (.J 0) 15) 5 []),(.bR "len" [(.cy (.cy (.J 0) 15) 19)])]),.fc (.bH .NotEq (.J 2) (.cy (.J 0) 16)) [.jT (.J 0) 16 (.J 2),.jT (.J 0) 17 .nL] []]
noncomputable def n1:List S:=[.fY (.bZ (.J 0) 18 [(.J 2)]),.dg (.bZ (.J 0) 21 [(.Y [(.bZ (.cy (.J 0) 15) 22 [(.J 1)])]),(.J 2)])]
noncomputable def n2:List S:=[.fc (.or [(.bH .Eq (.bR "len" [(.J 1)]) (.X 0)),(.bH .Lt (.J 2) (.bR "len" [(.J 1)]))]) [.dg (.fc (.and [(.bH .Eq (.J 2) (.X 0)),(.bH .Eq (.bR "len" [(.J 1)]) (.X 0))]) (.X 1) (.X 0))] [],.ea 3 (.Y [(.J 1),(.J 2)]),.fc (.bH .NotIn (.J 3) (.cy (.J 0) 17)) [.fc (.bH .Eq (.bR "len" [(.J 1)]) (.X 1)) [.ea 4 (.bR "sum" [(.dy (.W 0) .bE (.bZ (.cy (.J 0) 15) 23 [(.Z (.J 1) (.X 0))]) [] (.di (.bZ (.J 1) 21 [(.eb (.J 0) (.X 1) .bM),(.cb .Sub (.J 2) (.X 1))])) [aj,A 0,A 2])])] [.ea 4 (.X 0),.eP (.W 5) .bE (.bR "range" [(.X 1),(.cb .Add (.cb .Sub (.J 2) (.bR "len" [(.J 1)])) (.X 2))]) [.ea 6 (.bZ (.J 0) 21 [(.eb (.J 1) .bM (.X 1)),(.J 5)]),.fc (.bH .Gt (.J 6) (.X 0)) [.ea 4 (.cb .Add (.J 4) (.cb .Mult (.J 6) (.bZ (.J 0) 21 [(.eb (.J 1) (.X 1) .bM),(.cb .Sub (.J 2) (.J 5))])))] []]],.mE (.cy (.J 0) 17) (.J 3) (.J 4)] [],.dg (.Z (.cy (.J 0) 17) (.J 3))]
noncomputable def n3:List S:=[.fc (.bH .Gt (.bZ (.J 0) 20 [(.J 1),(.J 2)]) (.vT 10000)) [.vE] [],.dg (.uA (.dy (.W 0) .bE (.bZ (.J 0) 25 [(.Y [(.bZ (.cy (.J 0) 15) 22 [(.J 1)])]),(.J 2)]) [] (.di (.Z (.J 0) (.X 0))) [aj]) 2)]
noncomputable def n4:List S:=[.fc (.bH .Eq (.bZ (.J 0) 21 [(.J 1),(.J 2)]) (.X 0)) [.dg (.W [])] [],.fc (.bH .Eq (.bR "len" [(.J 1)]) (.X 0)) [.dg (.W [(.Y [])])] [],.ea 3 (.W []),.eP (.W 4) .bE (.bR "range" [(.X 1),(.cb .Add (.cb .Sub (.J 2) (.bR "len" [(.J 1)])) (.X 2))]) [.ea 5 (.bZ (.J 0) 25 [(.eb (.J 1) (.X 1) .bM),(.cb .Sub (.J 2) (.J 4))]),.fc (.bH .NotEq (.J 5) (.W [])) [.eP (.W 6) .bE (.bZ (.cy (.J 0) 15) 23 [(.Z (.J 1) (.X 0))]) [.eP (.W 7) .bE (.bZ (.J 0) 25 [(.eb (.J 6) (.X 1) .bM),(.cb .Sub (.J 4) (.X 1))]) [.fY (.eO (.J 3) "extend" [(.dy (.W 0) .bE (.J 5) [] (.di (.cb .Add (.Y [(.cb .Add (.Y [(.Z (.J 2) (.X 0))]) (.J 1))]) (.J 0))) [aj,A 7,A 6])])]]] []],.dg (.J 3)]
noncomputable def n5:List S:=[.ea 3 .nL,.eP (.Y [4,5]) .bE (.J 1) [.eP (.W 6) .bE (.bZ (.cy (.J 0) 15) 23 [(.Z (.J 4) (.X 0))]) [.ea 7 (.cb .Add (.eb (.J 6) (.X 1) .bM) (.eb (.J 4) (.X 1) .bM)),.fc (.bH .Gt (.bZ (.J 0) 21 [(.J 7),(.cb .Sub (.J 2) (.X 1))]) (.X 0)) [.fY (.eO (.eO (.J 3) "setdefault" [(.Z (.J 6) (.X 0)),(.W [])]) "append" [(.Y [(.J 7),(.cb .Add (.J 5) (.Y [(.cb .Sub (.bR "len" [(.J 6)]) (.X 1))]))])])] []]],.dg (.dy (.W 0) .bE (.bR "sorted" [(.J 3)]) [] (.di (.Y [(.J 0),(.Z (.J 1) (.J 0))])) [aj,A 3])]
noncomputable def n6:List S:=[.fc (.yi (.AL .LtE .Lt (.X 0) (.J 3) (.bZ (.J 0) 20 [(.J 1),(.J 2)]))) [.dg .bM] [],.lm 4 5 (.W [(.Y [(.Y [(.bZ (.cy (.J 0) 15) 22 [(.J 1)])]),(.Y [])])]) (.W []),.eP (.W 6) .bE (.bR "range" [(.J 2),(.X 0),(.X (-1))]) [.eP (.Y [7,8]) .bE (.bZ (.J 0) 26 [(.J 4),(.J 6)]) [.ea 9 (.bR "sum" [(.dy (.Y [0,1]) .bE (.J 8) [] (.di (.bZ (.J 3) 21 [(.J 0),(.cb .Sub (.J 2) (.X 1))])) [aj,aj,A 6,A 0])]),.fc (.bH .Lt (.J 3) (.J 9)) [.fY (.eO (.J 5) "append" [(.J 7)]),.ea 4 (.J 8),.lp] [],.ea 3 (.cb .Sub (.J 3) (.J 9))]],.dg (.fg 14 [(.J 5),(.Z (.bR "sorted" [(.dy (.Y [0,1]) .bE (.J 4) [] (.di (.J 1)) [aj,aj])]) (.J 3))])]
noncomputable def n7:List S:=[.dg (.Y [(.J 0),(.fg 2 [(.J 1)]),(.J 1)])]
noncomputable def n8:List S:=[.jT (.J 0) 15 (.J 1),.jT (.J 0) 28 (.J 2)]
noncomputable def n9:List S:=[.ea 4 (.W [(.fg 23 [(.eO (.cy (.J 0) 28) "get" [(.Z (.J 1) (.X 0)),(.X 1)]),(.eb (.J 1) .bM (.X 1))])]),.eP (.W 5) .bE (.eb (.J 1) (.X 1) .bM) [.pv 4 (.dy (.W 0) .bE (.J 4) [] (.hS (.W 1) .bE (.Z (.J 3) (.J 2)) [] (.di (.fg 23 [(.cb .Add (.Z (.J 0) (.X 0)) (.Z (.J 1) (.X 0))),(.cb .Add (.Z (.J 0) (.X 2)) (.Y [(.Z (.J 1) (.X 2))]))]))) [aj,aj,A 5,A 2]),.ea 4 (.eb (.bR "sorted" [(.J 4)]) .bM (.J 3))],.dg (.J 4)]
noncomputable def o_:List S:=[.ea 3 (.bR "dict" [(.dy (.W 0) .bE (.bZ (.cy (.J 0) 15) 31 []) [] (.di (.Y [(.J 0),(.W [])])) [aj])]),.ea 4 (.dF ak),.tw (.J 4) [.ea 4 (.dF aW),.eP (.W 2) .bE (.bZ (.cy (.J 0) 15) 31 []) [.pv 5 (.dy (.W 0) .bE (.bZ (.cy (.J 0) 15) 23 [(.J 2)]) [] (.hS (.W 1) .bE (.bZ (.J 4) 29 [(.J 0),(.J 3),(.J 2)]) [] (.di (.J 1))) [aj,aj,A 1,A 3,A 0]),.ea 5 (.eb (.bR "sorted" [(.J 5)]) .bM (.J 1)),.fc (.bH .NotEq (.J 5) (.Z (.J 3) (.J 2))) [.mE (.J 3) (.J 2) (.J 5),.ea 4 (.dF ak)] []]],.dg (.J 3)]
noncomputable def o':List S:=[.fc (.bH .Lt (.J 2) (.X 1)) [.dg (.W [])] [],.dg (.dy (.W 0) .bE (.Z (.bZ (.J 0) 30 [(.J 2)]) (.bZ (.cy (.J 0) 15) 22 [(.J 1)])) [] (.di (.Y [(.Z (.J 0) (.X 0)),(.Z (.J 0) (.X 2))])) [aj])]
noncomputable def o!:List S:=[.jT (.J 0) 33 (.W []),.jT (.J 0) 34 (.W []),.jT (.J 0) 35 (.W [])]
noncomputable def o?:List S:=[.fY (.eO (.cy (.J 0) 33) "append" [(.bR "len" [(.cy (.J 0) 33)])]),.fY (.eO (.cy (.J 0) 34) "append" [(.W [(.bR "len" [(.cy (.J 0) 34)])])]),.dg (.cb .Sub (.bR "len" [(.cy (.J 0) 33)]) (.X 1))]
noncomputable def o2:List S:=[.dg (.bR "len" [(.cy (.J 0) 33)])]
noncomputable def o3:List S:=[.tw (.bH .NotEq (.Z (.cy (.J 0) 33) (.J 1)) (.J 1)) [.ea 1 (.Z (.cy (.J 0) 33) (.J 1))],.dg (.J 1)]
noncomputable def o4:List S:=[.vC [3,4] (.bR "sorted" [(.W [(.bZ (.J 0) 22 [(.J 1)]),(.bZ (.J 0) 22 [(.J 2)])])]),.fc (.bH .Eq (.J 3) (.J 4)) [.dg .bM] [],.mE (.cy (.J 0) 33) (.J 4) (.J 3),.fY (.eO (.Z (.cy (.J 0) 34) (.J 3)) "extend" [(.Z (.cy (.J 0) 34) (.J 4))]),.fY (.eO (.cy (.J 0) 35) "append" [(.Y [(.J 3),(.J 4)])]),.dg (.Y [(.J 3),(.J 4)])]
noncomputable def o6:List S:=[.dg (.bR "sorted" [(.Z (.cy (.J 0) 34) (.bZ (.J 0) 22 [(.J 1)]))])]
noncomputable def o7:List S:=[.dg (.dy (.W 0) .bE (.bR "range" [(.bR "len" [(.cy (.J 0) 33)])]) [(.bH .Eq (.Z (.cy (.J 1) 33) (.J 0)) (.J 0))] (.di (.J 0)) [aj,A 0])]
noncomputable def o8:List S:=[.jT (.J 0) 39 (.cS 0 []),.jT (.J 0) 40 (.cS 3 []),.jT (.J 0) 19 (.W []),.jT (.J 0) 41 (.W []),.jT (.J 0) 17 .nL,.jT (.J 0) 33 .nL,.jT (.J 0) 42 (.W [])]
noncomputable def o9:List S:=[.dg (.bZ (.cy (.J 0) 39) 5 [])]
noncomputable def p_:List S:=[.dg (.cb .Add (.Y [(.bZ (.cy (.J 0) 39) 10 [(.J 1)])]) (.bR "tuple" [(.dy (.W 0) .bE (.bZ (.cy (.J 0) 39) 11 [(.J 1)]) [] (.di (.bZ (.J 1) 22 [(.J 0)])) [aj,A 0])]))]
noncomputable def p':List S:=[.ea 3 (.bZ (.cy (.J 0) 39) 6 [(.J 1),(.J 2)]),.fc (.bH .Lt (.J 3) (.bZ (.cy (.J 0) 40) 5 [])) [.dg (.J 3)] [],.fY (.bZ (.cy (.J 0) 40) 36 []),.mE (.cy (.J 0) 33) (.J 3) (.W []),.eP (.W 4) .bE (.BM (.dy (.W 0) .bE (.J 2) [] (.di (.bZ (.J 1) 22 [(.J 0)])) [aj,A 0])) [.fY (.eO (.Z (.cy (.J 0) 33) (.J 4)) "append" [(.J 3)])],.fY (.bZ (.J 0) 44 [(.J 3)]),.dg (.J 3)]
noncomputable def p!:List S:=[.dg (.bZ (.J 0) 43 [(.Z (.J 1) (.X 0)),(.bR "tuple" [(.dy (.W 0) .bE (.eb (.J 1) (.X 1) .bM) [] (.di (.bZ (.J 1) 8 [(.J 0)])) [aj,A 0])])])]
noncomputable def p0:List S:=[.ea 2 (.eO (.cy (.J 0) 17) "setdefault" [(.bZ (.J 0) 12 [(.J 1)]),(.J 1)]),.fc (.bH .NotEq (.bZ (.J 0) 22 [(.J 2)]) (.bZ (.J 0) 22 [(.J 1)])) [.fY (.bZ (.J 0) 45 [(.J 2),(.J 1),(.Y [(.cG "like")])])] []]
noncomputable def p1:List S:=[.dg (.bZ (.cy (.J 0) 40) 22 [(.J 1)])]
noncomputable def p2:List S:=[.dg (.bZ (.J 0) 45 [(.J 1),(.J 2),(.J 3)])]
noncomputable def p3:List S:=[.fY (.eO (.cy (.J 0) 19) "append" [(.Y [(.J 1),(.J 2),(.J 3)])]),.ea 4 (.bZ (.cy (.J 0) 40) 37 [(.J 1),(.J 2)]),.fc (.isNone (.J 4)) [.dg (.dF aW)] [],.vC [5,6] (.J 4),.fY (.eO (.cy (.J 0) 41) "append" [(.cb .Sub (.bR "len" [(.cy (.J 0) 19)]) (.X 1))]),.fY (.eO (.cy (.J 0) 42) "extend" [(.Z (.cy (.J 0) 33) (.J 6))]),.mE (.cy (.J 0) 33) (.J 5) (.cb .Add (.Z (.cy (.J 0) 33) (.J 5)) (.eO (.cy (.J 0) 33) "pop" [(.J 6)])),.dg (.dF ak)]
noncomputable def p4:List S:=[.tw (.bH .Gt (.bR "len" [(.cy (.J 0) 42)]) (.X 0)) [.fY (.bZ (.J 0) 44 [(.eO (.cy (.J 0) 42) "pop" [])])]]
noncomputable def p5:List S:=[.dg (.bZ (.cy (.J 0) 40) 31 [])]
noncomputable def p6:List S:=[.dg (.bZ (.cy (.J 0) 40) 38 [(.J 1)])]
noncomputable def p7:List S:=[.dg (.BM (.dy (.W 0) .bE (.bZ (.J 0) 38 [(.J 1)]) [] (.di (.bZ (.J 1) 12 [(.J 0)])) [aj,A 0]))]
noncomputable def p8:List S:=[.ea 3 (.eO (.cy (.J 0) 17) "get" [(.cb .Add (.Y [(.J 1)]) (.bR "tuple" [(.dy (.W 0) .bE (.J 2) [] (.di (.bZ (.J 1) 22 [(.J 0)])) [aj,A 0])])),(.X (-1))]),.dg (.fc (.bH .Lt (.J 3) (.X 0)) (.X (-1)) (.bZ (.J 0) 22 [(.J 3)]))]
noncomputable def p9:List S:=[.dg (.W [(.cb .Add (.dy (.W 0) .bE (.eb (.J 0) .bM (.X 40)) [] (.di (.cb .Mod (.bR "int" [(.J 0)]) (.X 1000003))) [aj]) (.cb .Mult (.W [(.X 0)]) (.bR "int" [(.bH .Eq (.bR "len" [(.J 0)]) (.X 0))]))),(.X 0)])]
noncomputable def q':List S:=[.lm 2 3 (.cb .FloorDiv (.Z (.J 0) (.X 1)) (.bR "len" [(.Z (.J 0) (.X 0))])) (.cb .Mod (.Z (.J 0) (.X 1)) (.bR "len" [(.Z (.J 0) (.X 0))])),.mE (.J 0) (.X 1) (.cb .Add (.Z (.J 0) (.X 1)) (.X 1)),.dg (.cb .Mod (.cb .Add (.cb .Add (.Z (.Z (.J 0) (.X 0)) (.J 3)) (.cb .FloorDiv (.cb .Mult (.cb .Mult (.X 5) (.J 2)) (.cb .Add (.J 2) (.X 1))) (.X 2))) (.J 2)) (.J 1))]
noncomputable def q!:List S:=[.ea 2 (.fg 50 [(.J 0),(.fc (.bH .Gt (.J 1) (.X 0)) (.X 5) (.X 2))]),.fc (.bH .Lt (.J 2) (.X 2)) [.dg (.Y [(.Z (.cG "ab") (.J 2))])] [],.dg (.cb .Add (.Y [(.Z (.cG "fgh") (.cb .Sub (.J 2) (.X 2)))]) (.bR "tuple" [(.dy (.W 0) .bE (.bR "range" [(.cb .Add (.X 1) (.cb .FloorDiv (.J 2) (.X 4)))]) [] (.di (.fg 51 [(.J 2),(.cb .Sub (.J 1) (.X 1))])) [aj,A 1,A 0])]))]
noncomputable def q?:List S:=[.ea 1 (.W []),.eP (.W 2) .bE (.J 0) [.ea 1 (.cb .Add (.J 1) (.dy (.W 0) .bE (.fg 52 [(.eb (.J 2) (.X 1) .bM)]) [(.bH .NotIn (.J 0) (.J 1))] (.di (.J 0)) [aj,A 1])),.ea 1 (.cb .Add (.J 1) (.cb .Mult (.W [(.J 2)]) (.bR "int" [(.bH .NotIn (.J 2) (.J 1))])))],.dg (.J 1)]
noncomputable def q0:List S:=[.ea 3 (.bR "dict" [(.dy (.W 0) .bE (.J 0) [] (.di (.Y [(.J 0),(.J 0)])) [aj])]),.tw (.bH .NotEq (.J 1) (.W [])) [.eP (.Y [4,5]) .bE (.J 1) [.lm 6 7 (.Z (.J 3) (.J 4)) (.Z (.J 3) (.J 5)),.eP (.W 2) .bE (.J 0) [.mE (.J 3) (.J 2) (.fc (.bH .Eq (.Z (.J 3) (.J 2)) (.J 7)) (.J 6) (.Z (.J 3) (.J 2)))]],.lm 8 1 .nL (.W []),.eP (.W 2) .bE (.J 0) [.ea 9 (.cb .Add (.Y [(.Z (.J 2) (.X 0))]) (.bR "tuple" [(.dy (.W 0) .bE (.eb (.J 2) (.X 1) .bM) [] (.di (.Z (.J 1) (.J 0))) [aj,A 3])])),.fc (.bH .NotEq (.Z (.J 3) (.eO (.J 8) "setdefault" [(.J 9),(.J 2)])) (.Z (.J 3) (.J 2))) [.fY (.eO (.J 1) "append" [(.Y [(.Z (.J 8) (.J 9)),(.J 2)])])] []]],.dg (.J 3)]
noncomputable def q1:List S:=[.fc (.bH .Eq (.J 1) (.Y [])) [.dg (.cb .Mult (.W [(.Y [])]) (.bR "int" [(.bH .Eq (.J 2) (.X 0))]))] [],.ea 3 (.W []),.eP (.W 4) .bE (.bR "range" [(.X 1),(.cb .Add (.J 2) (.X 1))]) [.eP (.W 5) .bE (.eO (.J 0) "get" [(.Y [(.Z (.J 1) (.X 0)),(.J 4)]),(.W [])]) [.ea 3 (.cb .Add (.J 3) (.dy (.W 0) .bE (.fg 54 [(.J 0),(.eb (.J 1) (.X 1) .bM),(.cb .Sub (.J 2) (.J 4))]) [] (.di (.cb .Add (.Y [(.J 1)]) (.J 0))) [aj,A 5]))]],.dg (.J 3)]
noncomputable def q2:List S:=[.lm 1 2 (.W [(.Z (.J 0) (.X 0))]) (.W [(.cb .Sub (.bR "len" [(.J 0)]) (.X 1))]),.eP (.W 3) .bE (.eb (.J 0) (.X 1) .bM) [.vC [4,5] (.fg 55 [(.J 3)]),.lm 1 2 (.cb .Add (.J 1) (.J 4)) (.cb .Add (.J 2) (.J 5))],.dg (.Y [(.J 1),(.J 2)])]
noncomputable def q3:List S:=[.vC [1,2] (.fg 55 [(.J 0)]),.dg (.Y [(.bR "len" [(.J 1)]),(.J 1),(.J 2)])]
noncomputable def q4:List S:=[.lm 1 2 (.fg 49 [(.J 0)]) (.cS 4 []),.forget 0,.ea 4 (.fg 52 [(.dy (.W 0) .bE (.bR "range" [(.X 2)]) [] (.di (.fg 51 [(.J 1),(.X 2)])) [aj,A 1])]),.lm 6 7 (.bR "dict" [(.dy (.W 0) .bE (.J 4) [] (.di (.Y [(.J 0),(.bZ (.J 1) 8 [(.J 0)])])) [aj,A 2])]) (.W []),.eP (.W 3) .bE (.bR "range" [(.cb .Add (.X 1) (.fg 50 [(.J 1),(.X 2)]))]) [.fY (.eO (.J 7) "append" [(.bR "tuple" [(.dy (.W 0) .bE (.bR "range" [(.X 2)]) [] (.di (.Z (.J 2) (.fg 50 [(.J 1),(.bR "len" [(.J 2)])]))) [aj,A 1,A 4])])]),.fY (.bZ (.J 2) 37 [(.Z (.J 6) (.Z (.Z (.J 7) (.X (-1))) (.X 0))),(.Z (.J 6) (.Z (.Z (.J 7) (.X (-1))) (.X 1))),(.Y [(.cG "told"),(.cG "t")])])],.fY (.bZ (.J 2) 46 []),.ea 8 (.fg 53 [(.J 4),(.J 7)]),.lm 9 10 (.BM (.dy (.W 0) .bE (.J 4) [] (.di (.Y [(.Z (.J 1) (.J 0)),(.Z (.J 0) (.X 0)),(.bR "tuple" [(.dy (.W 0) .bE (.eb (.J 0) (.X 1) .bM) [] (.di (.Z (.J 1) (.J 0))) [aj,A 1])])])) [aj,A 8])) .nL,.eP (.W 11) .bE (.bR "range" [(.X 1),(.X 5)]) [.eP (.Y [12,13,14]) .bE (.J 9) [.mE (.J 10) (.Y [(.J 12),(.J 11)]) (.cb .Add (.eO (.J 10) "get" [(.Y [(.J 12),(.J 11)]),(.W [])]) (.dy (.W 0) .bE (.fg 54 [(.J 10),(.J 14),(.cb .Sub (.J 11) (.X 1))]) [] (.di (.cb .Add (.Y [(.J 1)]) (.J 0))) [aj,A 13]))]],.lm 15 16 (.cS 1 [(.J 2)]) (.cS 2 [(.J 2),.nL]),.eP (.W 3) .bE (.bR "range" [(.X 2)]) [.ea 5 (.Z (.J 4) (.fg 50 [(.J 1),(.bR "len" [(.J 4)])])),.pv 17 (.dy (.W 0) .bE (.bR "range" [(.X 1),(.X 5)]) [] (.di (.uA (.Z (.J 2) (.Y [(.Z (.J 1) (.J 3)),(.J 0)])) 56)) [aj,A 8,A 10,A 5]),.eP (.W 11) .bE (.bR "range" [(.X 1),(.X 5)]) [.fc (.or [(.bH .NotEq (.bZ (.J 15) 20 [(.Z (.J 6) (.J 5)),(.J 11)]) (.bR "len" [(.Z (.J 17) (.cb .Sub (.J 11) (.X 1)))])),(.bH .NotEq (.bZ (.J 15) 24 [(.Z (.J 6) (.J 5)),(.J 11)]) (.Z (.J 17) (.cb .Sub (.J 11) (.X 1))))]) [.dg (.dF aW)] [],.fc (.bH .NotEq (.dy (.W 0) .bE (.eb (.bR "range" [(.bR "len" [(.Z (.J 17) (.cb .Sub (.J 11) (.X 1)))])]) .bM (.X 3)) [] (.di (.bZ (.J 1) 27 [(.Z (.J 3) (.J 4)),(.J 2),(.J 0)])) [aj,A 15,A 11,A 6,A 5]) (.eb (.Z (.J 17) (.cb .Sub (.J 11) (.X 1))) .bM (.X 3))) [.dg (.dF aW)] []],.ea 18 (.eb (.dy (.W 0) .bE (.J 17) [] (.hS (.W 1) .bE (.J 0) [] (.di (.Y [(.bR "len" [(.Z (.fg 55 [(.J 1)]) (.X 0))]),(.J 1)]))) [aj,aj]) .bM (.X 3)),.ea 19 (.bZ (.J 16) 32 [(.Z (.J 6) (.J 5)),(.X 3)]),.fc (.or [(.bH .NotEq (.eb (.J 19) .bM (.bR "len" [(.J 18)])) (.J 18)),(.bH .NotEq (.dy (.Y [0,1]) .bE (.eb (.J 19) (.bR "len" [(.J 18)]) .bM) [(.bH .Lt (.J 0) (.X 5))] (.di (.J 0)) [aj,aj]) (.W []))]) [.dg (.dF aW)] []],.dg (.dF ak)]
noncomputable def nW:jy where
 defs:=[⟨"is_op",aj,1,1,m7⟩,⟨"parts",aj,1,4,afi⟩,⟨"key_of",aj,1,2,afj⟩,⟨"__init__",A 0,1,1,o1⟩,⟨"size",A 0,1,1,p?⟩,⟨"take",A 0,3,5,q_⟩,⟨"require",A 0,2,2,q5⟩,⟨"put",A 0,2,4,q6⟩,⟨"put_all",A 0,2,2,q7⟩,⟨"op",A 0,2,2,q8⟩,⟨"kids",A 0,2,2,m8⟩,⟨"node",A 0,2,2,m9⟩,⟨"term",A 0,2,7,n_⟩,⟨"seek",A 0,3,3,n'⟩,⟨"grown",aj,2,6,n!⟩,⟨"__init__",A 1,2,2,n?⟩,⟨"renewed",A 1,2,3,n0⟩,⟨"many",A 1,3,3,n1⟩,⟨"rows",A 1,3,7,n2⟩,⟨"listed",A 1,3,3,n3⟩,⟨"spread",A 1,3,8,n4⟩,⟨"openings",A 1,3,8,n5⟩,⟨"nth",A 1,4,10,n6⟩,⟨"rank_of",aj,2,2,n7⟩,⟨"__init__",A 2,3,3,n8⟩,⟨"through",A 2,4,6,n9⟩,⟨"first_rows",A 2,2,6,o_⟩,⟨"cheapest",A 2,3,3,o'⟩,⟨"__init__",A 3,1,1,o!⟩,⟨"make",A 3,1,1,o?⟩,⟨"size",A 3,1,1,o2⟩,⟨"find",A 3,2,2,o3⟩,⟨"merge",A 3,3,5,o4⟩,⟨"members",A 3,2,2,o6⟩,⟨"classes",A 3,1,1,o7⟩,⟨"__init__",A 4,1,1,o8⟩,⟨"size",A 4,1,1,o9⟩,⟨"node",A 4,2,2,p_⟩,⟨"add",A 4,3,5,p'⟩,⟨"put",A 4,2,2,p!⟩,⟨"look_at",A 4,2,3,p0⟩,⟨"find",A 4,2,2,p1⟩,⟨"merge",A 4,4,4,p2⟩,⟨"join",A 4,4,7,p3⟩,⟨"settle",A 4,1,1,p4⟩,⟨"classes",A 4,1,1,p5⟩,⟨"members",A 4,2,2,p6⟩,⟨"nodes_of",A 4,2,2,p7⟩,⟨"seek",A 4,3,4,p8⟩,⟨"_law_pool",aj,1,1,p9⟩,⟨"_law_pull",aj,2,4,q'⟩,⟨"_law_term",aj,2,3,q!⟩,⟨"_law_whole",aj,1,3,q?⟩,⟨"_law_closed",aj,2,10,q0⟩,⟨"_law_spread",aj,3,6,q1⟩,⟨"_law_ops",aj,1,6,q2⟩,⟨"_law_rank",aj,1,3,q3⟩,⟨"law",aj,1,20,q4⟩]
 sY:=["Bank","Counts","Several","Unions","Heap"]
 qA:=(["__init__","nodes","numbers","weights","depths","size","take","require","put","put_all","op","kids","node","term","seek","heap"]:List bj)++(["mark","known","renewed","edges","many","rows","find","nodes_of","listed","spread","openings","nth","costs","through","first_rows","classes"]:List bj)++(["cheapest","above","lots","merged","make","merge","members","bank","unions","forest","waiting","add","look_at","join","settle"]:List bj)
 JS:=[("MOST_LISTED",10000),("MOST_SIZE",200)]
section
variable{P:jy} {K:jP} {body:List hK} {d:uK} {x:Az}
noncomputable def vS(h:cv)(as:List aZ):jP:=as.filterMap λa=>(h.get? a).map (a,·)
noncomputable def F?(K:jP)(az:aZ):aZ:=match clsIn K az with
 |some es=>es.ns
 |none=>0
noncomputable def Rj(K:jP)(a:aZ):Option xg:=(K.lookup a).bind λC=>match C.data with
 |.func cc=>A cc
 |_=>aj
noncomputable def h?(K:jP)(a:aZ):aZ:=match Rj K a with
 |some cc=>Fg (A (A cc.code))
 |none=>0
noncomputable def Fw(P:jy)(h:cv):jP:=
 let l:=vS h [iE]
 let ax:=(fz (D P.sY)).map (lP l P)
 let Z:=vS h ax
 let ns:=ax.map (F? Z)
 let L:=vS h (iE::(ax++ns))
 let cd:=(fz (D P.defs)).map (pC L P)
 let a:=vS h cd
 vS h (iE::(ax++(ns++(cd++cd.map (h? a)))))
noncomputable def Ki(K:jP)(P:jy)(f:Nat):Option (vg×hO×Dp):=(Rj K (pC K P f)).bind λcc=>if KA K cc then A (cc.params,cc.scope,cc.body)else aj
noncomputable def RR(K:jP)(P:jy):Nat->List (Option (vg×hO×Dp))
|0=>[]
|n+1=>Ki K P n::RR K P n
noncomputable def Le(P:jy)(h:cv):Bool×List (Option (vg×hO×Dp)):=(SE P (Fw P h),RR (Fw P h) P (D P.defs))
noncomputable def i3(nm:bj):List hK->Option Az
|[]=>aj
|s::r=>(match s with|.FunctionDef n a b _ _ _ v _ _ _=>if n==nm then A (a,v,b)else aj|_=>aj).or (i3 nm r)
noncomputable def d!(nm:bj):List hK->List hK
|[]=>[]
|s::r=>match s with|.ClassDef n _ _ b ..=>if n==nm then b else d! nm r|_=>d! nm r
noncomputable def Lr(body:List hK)(P:jy)(f:Nat):Option Az:=(P.defs[f]?).bind λd=>i3 d.nm (match d.cls with|none=>body|some k=>d! (P.sY.getD k "") body)
noncomputable def FG(body:List hK)(P:jy)(f:Nat):Option (vg×hO×Dp):=(Lr body P f).map λx=>(x.1,x.2.1,.stmts x.2.2)
noncomputable def FH(body:List hK)(P:jy):Nat->List (Option (vg×hO×Dp))
|0=>[]
|n+1=>FG body P n::FH body P n
noncomputable def EL(body:List hK)(P:jy)(f:Nat):Bool:=match P.defs[f]?,Lr body P f with
 |some d,A x=>SK (tr P) x d
 |_,_=>aW
end
theorem abm:(fz (D nW.defs)).all (EL zT.main.body nW)=ak:=by kernel_rfl
noncomputable def Ls(g:String->Option Builtin)(p:gr)(w:eU)(b:Nat)(a:Option aw)(n:Nat):Du->Thread->Option Du:=n.rec (λx x=>aj) λx F s t=>cond (Ov t) (A s) (cond (Ou b a t) ((stepT (OC g) p w s t).rec aj λr=>r.rec F) aj)
theorem abC{p:gr}{a:Option aw}{aJ:Du}(n:Nat):∀{s:Du} {t:Thread},Ls g p w b a n s t=A aJ->Ow g p w b a n s.abs t=A aJ.abs:=by
 induction n with
 |zero=>exactλh=>aG h.symm (gJ _)
 |succ n F=>
  intro s t h;replace h:cond (Ov t) (A s) (cond (Ou b a t) ((stepT (OC g) p w s t).rec aj λr=>r.rec (Ls g p w b a n)) aj)=A aJ:=h;unfold Ow;cases U:Ov t with
  |true=>rw[U]at h;exact bA (λx:Option Du=>x.map SharedT.abs) h
  |false=>
   rw[U]at h;cases X:Ou b a t with
   |false=>rw[X]at h;exact aG h.symm (gJ _)
   |true=>
    rw[X]at h;cases Z:stepT (OC g) p w s t with
    |none=>rw[Z]at h;exact aG h.symm (gJ _)
    |some r=>rw[Z]at h;rw[stepT_spec (s':=r.1) (t':=r.2) Z];exact F h
noncomputable def JP(l:List hb):BT->Nat->Option BT:=l.rec (λt x=>A t) λC x F t n=>cond ((t.ins n C).get n).isSome (F (t.ins n C) (n+1)) aj
theorem u?{T:BT}(l:List hb):∀{t:BT} {n:Nat},JP l t n=A T->(absHeap T (n+D l) Kc).objs.toList=(absHeap t n Kc).objs.toList++l:=by
 induction l with
 |nil=>exactλh=>dk h▸(eF _).symm
 |cons C l F=>
  intro t n h;replace h:cond ((t.ins n C).get n).isSome (JP l (t.ins n C) (n+1)) aj=A T:=h;cases e:((t.ins n C).get n).isSome with
  |false=>rw[e]at h;exact aG h.symm (gJ _)
  |true=>rw[e]at h;have q:=F h;rw[absHeap_ins e,mi]at q;exact q.trans ((bA (·++l) yN).trans (ha ..))
noncomputable def SR{bw:Type}(p:gr)(w:eU)(bC:Nat)(g:aN->bw):Option bw:=(fencedOpening OT p w bC).bind λj=>cond (j.heap.isNs iE&&j.gens.size==0) ((JP j.heap.objs.toList .nil 0).bind λT=>(Ls OT p w j.heap.objs.size (j.heap.nsMap iE (jA "__annotations__")) bC ⟨T,0+D j.heap.objs.toList,j.heap.life,j.gens,j.drawn,j.toks,j.os⟩ (topStub p)).bind λe=>cond (staticsOk (YW p.main.body) j.heap e.abs.heap&&YF p e.abs.heap&&gensDone e.abs&&laidKept j.heap e.abs.heap) (A (g e.abs)) aj) aj
theorem L?{bw:Type}{p:gr}{g:aN->bw}{c:bw}(h:SR p w bC g=A c):(openEnds OT p w bC).map g=A c:=by
 unfold SR at h;refine(wZ.mp h).elim λj h=>?_;have O:=h.1;replace h:=h.2;unfold openEnds;rw[O,zI];unfold topFrom;cases al:(j.heap.isNs iE&&j.gens.size==0)with
 |false=>rw[al]at h;exact aG h.symm (gJ _)
 |true=>
  rw[al]at h;refine(wZ.mp h).elim λT h=>(wZ.mp h.2).elim λe ab=>?_;have q:=abC _ ab.1;have a:SharedT.abs ⟨T,0+D j.heap.objs.toList,j.heap.life,j.gens,j.drawn,j.toks,j.os⟩=j:=bA (λaT:cv=>({j with heap:=aT}:aN)) (bA (Heap.mk · _) (FW.mp (u? (Kc:=j.heap.life) _ h.1)));rw[a]at q;replace h:=ab.2;show Nt g (XC (Ow ..) _)=_;rw[q,zI];cases Z:staticsOk (YW p.main.body) j.heap e.abs.heap&&YF p e.abs.heap&&gensDone e.abs&&laidKept j.heap e.abs.heap with
  |false=>rw[Z]at h;exact aG h.symm (gJ _)
  |true=>rw[Z]at h;exact h
noncomputable def v?:List Nat:=[0,2,3,4,6,7,8,9,11,12,13,14,16,17,19,21,23,24,25,26,27,28,29,30,31]
noncomputable def oO:gr:={zT with main:={zT.main with body:=v?.filterMap λi=>zT.main.body[i]?}}
theorem left:LeftO mj.row.prog oO [] (λs=>xlAt oO [] s&&recOk mj.row.toRowW.records s) (λs=>Le nW s.heap) (λx=>(ak,FH zT.main.body nW (D nW.defs))) 7976 ak:=λw=>L? (by kernel_rfl)
section
noncomputable def lR(G:aZ×Option aZ):List aZ:=G.1::G.2.toList
noncomputable def fq(I:cw):List aZ:=I.flatMap lR
noncomputable abbrev yr(a b c:Int)(t u H:mQ):hb:={cls:=.type "range",dict:=aj,data:=.fields #[.int a t,.int b u,.int c H],slots:=#[]}
noncomputable abbrev jU(ar:Array aw)(n:Nat):hb:=xe "tuple" ar n
noncomputable abbrev gp(ar:Array aw)(n:Nat):hb:=xe "list" ar n
mutual
noncomputable def cf(I:cw)(h:cv):V->aw->Prop
|.bM,H=>H=.none
|.dF b,H=>H=.bool b
|.X i,H=>∃t,H=.int i t
|.cG s,H=>∃t,H=.str s t
|.Y l,H=>∃a ar n,H=.ref a/\a∉fq I/\h.get? a=A (xe "tuple" ar n)/\ci I h l ar.toList
|.J a,H=>∃G,I[a]?=A G/\H=.ref G.1
|.jH a b c,H=>∃r t u w,H=.ref r/\r∉fq I/\h.get? r=A (yr a b c t u w)
noncomputable def ci(I:cw)(h:cv):List V->List aw->Prop
|[],aX=>aX=[]
|x::ar,aX=>∃H r,aX=H::r/\cf I h x H/\ci I h ar r
end
section
variable{I:cw} {H:aw} {P:aw->Prop}
@[elab_as_elim]theorem cf.Bu(r:cf I h .bM H)(k:P .none):P H:=by obtain rfl:=r;exact k
@[elab_as_elim]theorem cf.sV{b:Bool}(r:cf I h (.dF b) H)(k:P (.bool b)):P H:=by obtain rfl:=r;exact k
@[elab_as_elim]theorem cf.i{i:Int}(r:cf I h (.X i) H)(k:∀t,P (.int i t)):P H:=by obtain⟨t,rfl⟩:=r;exact k t
@[elab_as_elim]theorem cf.s{i:bj}(r:cf I h (.cG i) H)(k:∀t,P (.str i t)):P H:=by obtain⟨t,rfl⟩:=r;exact k t
@[elab_as_elim]theorem cf.t{l:List V}(r:cf I h (.Y l) H)(k:∀a ar n,a∉fq I->h.get? a=A (jU ar n)->ci I h l ar.toList->P (.ref a)):P H:=by obtain⟨a,ar,n,rfl,ab,ac,bo⟩:=r;exact k a ar n ab ac bo
@[elab_as_elim]theorem cf.r(r:cf I h (.J a) H)(k:∀G,I[a]?=A G->P (.ref G.1)):P H:=by obtain⟨G,ab,rfl⟩:=r;exact k G ab
@[elab_as_elim]theorem cf.g{a b c:Int}(r:cf I h (.jH a b c) H)(k:∀m t u w,m∉fq I->h.get? m=A (yr a b c t u w)->P (.ref m)):P H:=by obtain⟨a,t,u,w,rfl,ab,ac⟩:=r;exact k a t u w ab ac
theorem cf.J{G:aZ×Option aZ}(g:I[a]?=A G)(r:cf I h (.J a) H):H=.ref G.1:=by obtain⟨p,ab,rfl⟩:=r;obtain rfl:=dk (g.symm.trans ab);rfl
end
section
variable{I:cw} {P:List aw->Prop}
@[elab_as_elim]theorem ci.nil(r:ci I h [] aX)(k:P []):P aX:=by obtain rfl:=r;exact k
@[elab_as_elim]theorem ci.cons{x:V}{l:List V}(r:ci I h (x::l) aX)(k:∀H r,cf I h x H->ci I h l r->P (H::r)):P aX:=by obtain⟨H,r,rfl,ab,ac⟩:=r;exact k H r ab ac
@[elab_as_elim]theorem ci.W{x:V}(r:ci I h [x] aX)(k:∀H,cf I h x H->P [H]):P aX:=r.cons λH z ab r=>r.nil (k H ab)
@[elab_as_elim]theorem ci.two{x Q:V}(r:ci I h [x,Q] aX)(k:∀H w,cf I h x H->cf I h Q w->P [H,w]):P aX:=r.cons λH z ab r=>r.W λw ac=>k H w ab ac
end
structure bB(aD:List aZ)(I:cw)(h:cv)(bF:cw)(au:cv):Prop where
 pre:∃iW,bF=I++iW
 gf:∀b C,b∉aD->h.get? b=A C->∃Z,au.get? b=A Z
 fresh:∀b,b∈fq bF->b∉fq I->h.get? b=aj/\b∉aD
 jr:∀b C,b∉fq I->b∉aD->h.get? b=A C->au.get? b=A C
theorem uj(I iW:cw):fq (I++iW)=fq I++fq iW:=wH
theorem vO(G:aZ×Option aZ):fq [G]=lR G:=eF _
variable{I bF LM:cw} {Bc:cv}
theorem iH{b:aZ}{C:hb}{p:Prop}(e:h.get? b=aj)(bP:h.get? b=A C):p:=aG (e.symm.trans bP) (λh=>aG h.symm (gJ _))
theorem bB.dd:bB aD I h I h:=⟨⟨[],(eF _).symm⟩,λx C x e=>⟨C,e⟩,λx ab ac=>aG ab ac,λx x x x e=>e⟩
theorem bB.Z(s:bB aD I h bF au){b:aZ}(al:b∈fq I):b∈fq bF:=by refine s.pre.elim λiW e=>?_;rw[e,uj];exact iZ _ al
theorem bB.qB(s:bB aD I h bF au){b:aZ}{C:hb}(al:b∉fq I)(u:h.get? b=A C):b∉fq bF:=λZ=>iH (s.fresh b Z al).1 u
theorem bB.gone(s:bB [] I h bF au){b:aZ}(e:au.get? b=aj):h.get? b=aj:=by
 cases X:h.get? b with
 |none=>rfl
 |some C=>obtain⟨Z,bP⟩:=s.gf b C afk X;exact iH e bP
theorem bB.trans(s:bB aD I h bF au)(t:bB aD bF au LM Bc):bB aD I h LM Bc where
 pre:=by
  exact s.pre.elim λa e=>t.pre.elim λb bP=>⟨a++b,by rw[bP,e,ha]⟩
 gf b C Z e:=by
  exact(s.gf b C Z e).elim λY bP=>t.gf b Y Z bP
 fresh b ab ac:=by
  by_cases al:b∈fq bF
  ·exact s.fresh b al ac
  ·refine(t.fresh b ab al).elim λthis Z=>⟨?_,Z⟩
   cases W:h.get? b with
   |none=>rfl
   |some C=>obtain⟨Y,bP⟩:=s.gf b C Z W;exact iH this bP
 jr b C ab ac e:=t.jr b C (s.qB ab e) ac (s.jr b C ab ac e)
theorem bB.weak(s:bB [] I h bF au)(t:∀b∈aD,∃C,h.get? b=A C):bB aD I h bF au:=⟨s.pre,λb C x e=>s.gf b C afk e,λb ab ac=>⟨(s.fresh b ab ac).1,λal=>(t b al).elim λC e=>iH (s.fresh b ab ac).1 e⟩,λb C ab x e=>s.jr b C ab nofun e⟩
theorem bB.at{G:aZ×Option aZ}(S:bB aD I h bF au)(g:I[a]?=A G):bF[a]?=A G:=by refine S.pre.elim λiW e=>?_;obtain rfl:=e;exact(jY (hZ.mp g).1).trans g
def ki(C:hb):Prop:=(∀ar n,C.data=.seq ar n->C.cls≠.type "tuple")/\∀aX,C.data=.fields aX->C.cls≠.type "range"
def hn(aD:List aZ)(h:cv):Prop:=∀b∈aD,∀C,h.get? b=A C->ki C
theorem hn.nil:hn [] h:=λx h=>afk h
theorem j6{C:hb}{H:Option aw}(e:C.data=.cell H):ki C:=⟨λx x q=>(nomatch e.symm.trans q),λx q=>(nomatch e.symm.trans q)⟩
theorem j7{C:hb}{ag:Array gW}(e:C.data=.dict ag n):ki C:=⟨λx x q=>(nomatch e.symm.trans q),λx q=>(nomatch e.symm.trans q)⟩
theorem cf.mH(T:∀a C,a∉fq I->h.get? a=A C->¬ki C->a∉fq bF/\au.get? a=A C)(aQ:∀(a:Nat) G,I[a]?=A G->bF[a]?=A G):∀{H:V} {aI:aw},cf I h H aI->cf bF au H aI:=λ{H}=>V.rec (motive_1:=λH=>∀{aI},cf I h H aI->cf bF au H aI) (motive_2:=λl=>∀{Z},ci I h l Z->ci bF au l Z) (λr=>r) (λz {_} r=>r) (λz {_} r=>r) (λz {_} r=>r) (λl F {aI} r=>r.t λa ar n j Y B=>have q:=T a _ j Y λq=>q.1 _ _ y y;⟨a,ar,n,y,q.1,q.2,F B⟩) (λa {aI} r=>r.r λG e=>⟨G,aQ a G e,y⟩) (λa b c {aI} r=>r.g λx t u w j Y=>have q:=T x _ j Y λq=>q.2 _ y y;⟨x,t,u,w,y,q.1,q.2⟩) (λ{_} r=>r) (λx l fj fs {Z} r=>r.cons λH Z J cK=>⟨H,Z,y,fj J,fs cK⟩) H
theorem ci.mH(T:∀a C,a∉fq I->h.get? a=A C->¬ki C->a∉fq bF/\au.get? a=A C)(aQ:∀(a:Nat) G,I[a]?=A G->bF[a]?=A G):∀{l:List V} {w:List aw},ci I h l w->ci bF au l w:=λ{l}=>by
 induction l with
 |nil=>exactλr=>r
 |cons x l F=>exactλ{w} r=>r.cons λH w J cK=>⟨H,w,y,cf.mH T aQ J,F cK⟩
theorem cf.Y(s:bB aD I h bF au)(d:hn aD h){H:V}(r:cf I h H aI):cf bF au H aI:=cf.mH (λa C j u aa=>⟨s.qB j u,s.jr a C j (λt=>aa (d a t C u)) u⟩) (λa G e=>s.at e) r
theorem ci.Y(s:bB aD I h bF au)(d:hn aD h){H:List V}{aI:List aw}(r:ci I h H aI):ci bF au H aI:=ci.mH (λa C j u aa=>⟨s.qB j u,s.jr a C j (λt=>aa (d a t C u)) u⟩) (λa G e=>s.at e) r
theorem cf.fl(s:bB [] I h bF au){H:V}(r:cf I h H aI):cf bF au H aI:=r.Y s hn.nil
theorem ci.fl(s:bB [] I h bF au){H:List V}{aI:List aw}(r:ci I h H aI):ci bF au H aI:=r.Y s hn.nil
theorem ci.get{l:List V}:∀{aX:List aw},ci I h l aX->D l=D aX/\∀(i:Nat) {H:V},l[i]?=A H->∃aI,aX[i]?=A aI/\cf I h H aI:=by
 induction l with
 |nil=>intro aX r;exact r.nil ⟨rfl,nofun⟩
 |cons x l F=>
  intro aX r;refine r.cons λH r ab ac=>⟨bA (·+1) (F ac).1,λi w e=>?_⟩
  cases i with
  |zero=>obtain rfl:=dk e;exact⟨H,y,ab⟩
  |succ i=>exact(F ac).2 i e
theorem ci.length{l:List V}{aX:List aw}(r:ci I h l aX):D l=D aX:=r.get.1
theorem ci.size{l:List V}(r:ci I h l ar.toList):ar.size=D l:=(r.length.trans jt).symm
theorem ci.Kz{l:List V}:∀{aX:List aw},D l=D aX->(∀(i:Nat) H aI,l[i]?=A H->aX[i]?=A aI->cf I h H aI)->ci I h l aX:=by
 induction l with
 |nil=>intro aX e _;exact(ko e.symm)
 |cons x l F=>
  intro aX e k;cases aX with
  |nil=>exact aG e (iP _)
  |cons H aX=>exact⟨H,aX,y,k 0 x H y y,F (ip e) λi a b ab ac=>k (i+1) a b ab ac⟩
theorem ci.append{G:List V}(X:ci I h G FN){l:List V}:∀{aX:List aw},ci I h l aX->ci I h (l++G) (aX++FN):=by
 induction l with
 |nil=>intro aX r;exact r.nil X
 |cons x l F=>intro aX r;exact r.cons λH r ab ac=>⟨H,_,y,ab,F ac⟩
theorem ci.pick{l dB:List V}{aX:List aw}(r:ci I h l aX)(e:D dB=D Z2)(f:Nat->Nat)(ab:∀i,i<D dB->dB[i]?=l[f i]?)(ac:∀i,i<D dB->Z2[i]?=aX[f i]?):ci I h dB Z2:=ci.Kz e λi H aI a b=>by have aB:=(hZ.mp a).1;refine bp λZ=>?_;obtain⟨o,c,d⟩:=r.get.2 (f i) ((ab i aB).symm.trans a);obtain rfl:=dk (((ac i aB).symm.trans b).symm.trans c);exact Z<|d
theorem ci.cut{l:List V}{aX:List aw}(r:ci I h l aX)(a n:Nat):ci I h ((l.drop a).take n) ((aX.drop a).take n):=by
 refine r.pick (by simp[r.length]) (λi=>a+i) (λi aB=>?_) λi aB=>?_
 ·rw[tN]at aB;rw[MQ,cg (ef aB (wR _ _)),CN]
 ·rw[tN]at aB;rw[MQ,cg (ef aB (wR _ _)),CN]
theorem ci.set{l:List V}{H:V}(X:cf I h H aI):∀{aX:List aw},ci I h l aX->∀n:Nat,ci I h (l.set n H) (aX.set n aI):=by
 induction l with
 |nil=>intro aX r n;exact r.nil rfl
 |cons x l F=>
  intro aX r n;refine r.cons λw r ab ac=>?_;cases n with
  |zero=>exact⟨_,_,y,X,ac⟩
  |succ n=>exact⟨_,_,y,ab,F ac n⟩
structure bT where
 prog:gr
 w:eU
 K:jP
 aR:cv
 qC:zX
 cls:Nat->aZ
 fn:Nat->aZ
 t:mr
 P:Nu
mutual
noncomputable def gS(w:eU):V->Int
|.X i=>hashInt i
|.cG s=>if s.cps.isEmpty then 0 else Zh (w.params.strHash s.cps)
|.Y l=>Zh (zS (um w l))
|_=>0
noncomputable def um(w:eU):List V->List Int
|[]=>[]
|x::ar=>gS w x::um w ar
end
structure Cr(w:eU)(I:cw)(h:cv)(x:V×V)(e:gW):Prop where
 hash:e.hash=gS w x.1
 key:cf I h x.1 e.key
 val:cf I h x.2 e.val
structure lF(w:eU)(I:cw)(h:cv)(l:List (V×V))(ag:Array gW):Prop where
 J:ag.size=D l
 get:∀(i:Nat) x e,l[i]?=A x->ag[i]?=A e->Cr w I h x e
def DJ(I:cw)(h:cv)(bF:cw)(au:cv):Prop:=∀H aI,cf I h H aI->cf bF au H aI
theorem ci.qI(k:DJ I h bF au):∀{l:List V} {aX:List aw},ci I h l aX->ci bF au l aX:=by
 intro l;induction l with
 |nil=>exactλr=>r
 |cons x l F=>intro aX r;obtain⟨H,aX,rfl,ab,ac⟩:=r;exact⟨H,aX,rfl,k _ _ ab,F ac⟩
theorem lF.qI(k:DJ I h bF au){l:List (V×V)}{ag:Array gW}(r:lF w I h l ag):lF w bF au l ag:=⟨r.J,λi x e a b=>let q:=r.get i x e a b;⟨q.hash,k _ _ q.key,k _ _ q.val⟩⟩
theorem lF.Y(s:bB aD I h bF au)(d:hn aD h){l:List (V×V)}{ag:Array gW}(r:lF w I h l ag):lF w bF au l ag:=r.qI λx x r=>r.Y s d
noncomputable abbrev Jq(ag:Array gW)(n:Nat):hb:={cls:=.type "dict",data:=.dict ag n}
structure nt(B:bT)(I:cw)(h:cv)(cd:List (Nat×V))(ag:List gW):Prop where
 aC:∀e∈ag,∃x t,e.key=.str x t
 J:D ag<=D cd
 get:∀n H,mw cd n=A H->n<B.t.kT/\∃e,ag.find? (·.key.isStr (B.t.nm n))=A e/\cf I h H e.val
 no:∀x,(∀n,(mw cd n).isSome=ak->B.t.nm n≠x)->ag.find? (·.key.isStr x)=aj
theorem nt.qI{B:bT}{cd:List (Nat×V)}{ag:List gW}(k:DJ I h bF au)(r:nt B I h cd ag):nt B bF au cd ag:=⟨r.aC,r.J,λn H Z=>(r.get n H Z).elim λJ Y=>Y.elim λu R=>R.elim λa b=>⟨J,u,a,k _ _ b⟩,r.no⟩
theorem nt.Y{B:bT}{cd:List (Nat×V)}{ag:List gW}(s:bB aD I h bF au)(d:hn aD h)(r:nt B I h cd ag):nt B bF au cd ag:=r.qI λx x r=>r.Y s d
inductive pf(B:bT)(I:cw)(h:cv):aZ×Option aZ->cT->Prop
|W {a:aZ} {l:List V} {ar:Array aw} {n:Nat}:h.get? a=A (xe "list" ar n)->ci I h l ar.toList->pf B I h (a,aj) (.W l)
|Z {a:aZ} {ag:List (V×V)} {ar:Array gW} {n:Nat}:h.get? a=A (Jq ar n)->lF B.w I h ag ar->(ag.map (·.1)).Nodup->(∀e∈ag,V.hm 8 e.1=ak)->pf B I h (a,aj) (.Z ag)
|dH {a d:aZ} {c:Nat} {cd:List (Nat×V)} {ag:List gW} {n:Nat}:(B.P.init c).isSome=ak->h.get? a=A (vk (B.cls c) d)->h.get? d=A (Ac ag n)->nt B I h cd ag->pf B I h (a,A d) (.dH c cd)
|arg {a:aZ} {l:List V} {ar:Array aw} {n:Nat}:B.aR.get? a=A (xe "list" ar n)->h.get? a=A (xe "list" ar n)->ci I h l ar.toList->pf B I h (a,aj) (.arg l)
theorem pf.gf{B:bT}{C:cT}{G:aZ×Option aZ}(r:pf B I h G C):∀b∈lR G,∃C,h.get? b=A C:=by
 intro b al;cases r with
 |W ab=>cases al with|head=>exact⟨_,ab⟩|tail _ al=>cases al
 |Z ab=>cases al with|head=>exact⟨_,ab⟩|tail _ al=>cases al
 |arg _ ab=>cases al with|head=>exact⟨_,ab⟩|tail _ al=>cases al
 |dH aR ab ac=>cases al with|head=>exact⟨_,ab⟩|tail _ al=>cases al with|head=>exact⟨_,ac⟩|tail _ al=>cases al
theorem pf.qI{B:bT}{C:cT}{G:aZ×Option aZ}(k:DJ I h bF au)(e:∀b∈lR G,au.get? b=h.get? b)(r:pf B I h G C):pf B bF au G C:=by
 cases r with
 |W ab ac=>exact .W ((e _ (.head _)).trans ab) (ac.qI k)
 |Z ab ac bo c=>exact .Z ((e _ (.head _)).trans ab) (ac.qI k) bo c
 |arg aR ab ac=>exact .arg aR ((e _ (.head _)).trans ab) (ac.qI k)
 |dH aR ab ac bo=>exact .dH aR ((e _ (.head _)).trans ab) ((e _ (.tail _ (.head _))).trans ac) (bo.qI k)
theorem pf.Y{B:bT}{C:cT}{G:aZ×Option aZ}(s:bB aD I h bF au)(d:hn aD h)(e:∀b∈lR G,au.get? b=h.get? b)(r:pf B I h G C):pf B bF au G C:=r.qI (λx x r=>r.Y s d) e
end
variable{B:bT}{I bF:cw}{dx:bk}{z:aA}{eg bY:bk}{aL:aA}{N:bk}{ah O:aA}{gA:cw}{bP:afe}{aV:aA}{bq:afe}{cD:aA}{H:V}{fM:List V}{e:afe}{ag:List (V×V)}{cF:Option V}{l:List V}{ba:V}{gM lX:Option V}{fk:List afe}{Q:V}{ig:Option V}{aS:List V}{bt:Option V}{dq:kn}{ck:aA->Prop}{hU bO dX:Option V}{cQ:jC}{cx cj cC eo dQ:Option V}{iW:aA}{dG:afe}{de:hI}{cd:List (Nat×V)}{gP:List (V×V)}{hs v:List V}{ao:Nat->cw->cv->Prop}{it iu iv:Option V}{oE:V}
section
section
variable{P:hK->Prop} {bu:hK}
@[elab_as_elim]theorem nY.bX{f:bU->bU->Bool}(h:nY bu f=ak)(k:∀x p q,f x p=ak->P (.Assign [x] p q)):P bu:=(jG h).elim λc h=>Oe (motive_2:=λe=>∀c,Oe (motive_2:=λz=>Bool) e c (λar p z=>ji ar λx=>f x p)=ak->P e) bu c (λar p q z h=>ji.bX (P:=λar=>P (.Assign ar p q)) h λx h=>k x p q h) c h
@[elab_as_elim]theorem Fq.bX{f:bU->Bool}(h:Fq bu f=ak)(k:∀p q,f p=ak->P (.Expr p q)):P bu:=(jG h).elim λc h=>Og (motive_2:=λe=>∀c,Og (motive_2:=λx=>Bool) e c (λp x=>f p)=ak->P e) bu c (λp q x h=>k p q h) c h
@[elab_as_elim]theorem Fu.bX{f:Option bU->Bool}(h:Fu bu f=ak)(k:∀p q,f p=ak->P (.Return p q)):P bu:=(jG h).elim λc h=>Oj (motive_2:=λe=>∀c,Oj (motive_2:=λx=>Bool) e c (λp x=>f p)=ak->P e) bu c (λp q x h=>k p q h) c h
@[elab_as_elim]theorem Ft.bX{f:bU->List hK->List hK->Bool}(h:Ft bu f=ak)(k:∀a b c p,f a b c=ak->P (.If a b c p)):P bu:=(jG h).elim λc h=>Oi (motive_2:=λe=>∀c,Oi (motive_2:=λx=>Bool) e c (λa b c x=>f a b c)=ak->P e) bu c (λa b c p x h=>k a b c p h) c h
@[elab_as_elim]theorem Fv.bX{f:bU->List hK->Bool}(h:Fv bu f=ak)(k:∀a b p,f a b=ak->P (.While a b [] p)):P bu:=(jG h).elim λc h=>Ol (motive_2:=λe=>∀c,Ol (motive_2:=λx=>Bool) e c (λa b c x=>c.isEmpty&&f a b)=ak->P e) bu c (λa b c p x h=>match c,h with|[],h=>k a b p h) c h
@[elab_as_elim]theorem Fs.bX{f:bU->bU->List hK->Bool}(h:Fs bu f=ak)(k:∀a b c p,f a b c=ak->P (.For a b c [] p)):P bu:=(jG h).elim λc h=>Oh (motive_2:=λe=>∀c,Oh (motive_2:=λx=>Bool) e c (λa b c d x=>d.isEmpty&&f a b c)=ak->P e) bu c (λa b c d p x h=>match d,h with|[],h=>k a b c p h) c h
@[elab_as_elim]theorem Fp.bX(h:Fp bu=ak)(k:∀p,P (.Break p)):P bu:=(jG h).elim λc h=>Of (motive_2:=λe=>∀c,Of (motive_2:=λx=>Bool) e c (λx=>ak)=ak->P e) bu c (λp x h=>k p) c h
end
structure Gp(B:bT)(c:Nat):Prop where
 z3:makesIn B.K (B.cls c)=ak
 get:∀x,plainGet B.K (B.cls c) x=ak
 Z:hasDictIn B.K (B.cls c)=ak
 set:rc B.K (.ref (B.cls c)) "__setattr__"=A (A (.builtin "object.__setattr__"))
 N_:plainOver B.K (B.cls c)=ak
 name:∀n,n<B.t.kT->B.P.bZ c n=aj->rc B.K (.ref (B.cls c)) (B.t.nm n)=A aj
 bZ:∀n f,B.P.bZ c n=A f->n<B.t.kT/\rc B.K (.ref (B.cls c)) (B.t.nm n)=A (A (.ref (B.fn f)))/\Dw B.K (.ref (B.fn f))=A (.type "function")
 init:∀f,B.P.init c=A f->rc B.K (.ref (B.cls c)) "__init__"=A (A (.ref (B.fn f)))/\Dw B.K (.ref (B.fn f))=A (.type "function")
structure VG(B:bT)(f Z H:Nat)(b:List S)(C:hb)(cc:xg)(body:List hK)(aX:List bj):Prop where
 RQ:B.K.lookup (B.fn f)=A C
 QD:C.data=.func cc
 c':cc.body=.stmts body
 Jd:cc.closure=[]
 r4:cc.globals=iE
 AG:cc.builtins=tX
 h':codeIn B.K cc.code cc.qualname=ak
 xV:cc.scope.kind=.function
 i_:cc.scope.isCoroutine=aW
 hS:cc.scope.isGenerator=aW
 J:D aX=H
 aa:aX.Nodup
 le:Z<=H
 snd:(cc.scope.names.map (·.1)).Nodup
 UF:∀x∈aX,cc.scope.names.lookup x=A .local\/cc.scope.names.lookup x=A .cell
 bind:∀cH:List aw,D cH=Z->Ox cc ⟨cH,[]⟩=ey ((aX.take Z).zip cH)
 e8:qs B.t b ⟨aX,cc.scope.names⟩ body=ak
def Ml(B:bT)(f Z H:Nat)(b:List S):Prop:=∃C cc body aX,VG B f Z H b C cc body aX
structure uQ(B:bT):Prop where
 CG:B.K.In B.aR
 nolimit:B.aR.NoLimit
 g:∃Y,B.aR.Ns iE Y
 b:∃u,B.aR.Ns tX u/\∀x,x≠("__name__":bj)->u x=rh x
 inj:∀i j,i<B.t.kT->j<B.t.kT->B.t.nm i=B.t.nm j->i=j
 cls:∀k f,B.P.init k=A f->Gp B k/\nD B.K iE (B.t.AO k)=A (A (.ref (B.cls k)))/\Os B.K (.ref (B.cls k))=ak
 fn:∀f Z H b,B.P.body f=A (Z,H,b)->Ml B f Z H b
 JC:∀f x,B.t.Ei f=A x->nD B.K iE x=A (A (.ref (B.fn f)))/\∃C cc,B.K.lookup (B.fn f)=A C/\C.data=.func cc
 r3:∀x i,B.t.vT.lookup x=A i->∃t,nD B.K iE x=A (A (.int i t))
 bR:∀x∈xC,nD B.K iE x=A aj
structure bL(B:bT)(I:cw)(z:aA)(s:aN):Prop where
 J:D I=D z
 objs:∀(a:Nat) C,z[a]?=A C->∃G,I[a]?=A G/\pf B I s.heap G C
 nodup:(fq I).Nodup
 cS:∀(a:Nat) G C,I[a]?=A G->z[a]?=A C->C.ctorIdx≠3->∀b∈lR G,B.aR.get? b=aj
 mG:∀b∈fq I,(b==vo)=aW
 fZ:∀b C,B.aR.get? b=A C->s.heap.get? b=A C
 gens:s.gens=#[]
 os:s.os=B.qC
 good:uQ B
variable{LM:cw} {Bc:cv} {s:aN}
theorem rP{b:aZ}{G:aZ×Option aZ}(e:I[a]?=A G)(al:b∈lR G):b∈fq I:=gc.mpr ⟨G,io e,al⟩
theorem bL.K(ae:bL B I z s):B.K.In s.heap:=ae.good.CG.keeps ae.fZ
theorem bL.other(ae:bL B I z s)(st:bB aD I s.heap I aJ.heap)(d:hn aD s.heap)(t:∀b∈aD,B.aR.get? b=aj)(e:∀b∈fq I,aJ.heap.get? b=s.heap.get? b)(Q:aJ.gens=s.gens)(u:aJ.os=s.os):bL B I z aJ where
 J:=ae.J
 objs a C h:=by
  exact(ae.objs a C h).elim λG n=>n.elim λg Z=>⟨G,g,Z.Y st d λb al=>e b (rP g al)⟩
 nodup:=ae.nodup
 cS:=ae.cS
 mG:=ae.mG
 fZ b C h:=if al:b∈fq I then(e b al).trans (ae.fZ b C h)else st.jr b C al (λal=>iH (t b al) h) (ae.fZ b C h)
 gens:=Q.trans ae.gens
 os:=u.trans ae.os
 good:=ae.good
theorem fR(h:cv)(C:hb):∀b Z,h.get? b=A Z->(h.push C).get? b=A Z:=λx x e=>sJ C e
theorem bB.gL(k:∀b C,h.get? b=A C->au.get? b=A C):bB aD I h I au:=⟨⟨[],(eF _).symm⟩,λb Z x e=>⟨Z,k b Z e⟩,λx ab ac=>aG ab ac,λb Z x x e=>k b Z e⟩
theorem bB.push(C:hb):bB aD I h I (h.push C):=bB.gL (fR h C)
theorem bL.gf(ae:bL B I z s){b:aZ}(al:b∈fq I):∃C,s.heap.get? b=A C:=by refine bp λX=>?_;obtain⟨G,g,al⟩:=gc.mp al;obtain⟨a,aE,e⟩:=zq.mp g;obtain⟨p,Z,Y⟩:=ae.objs a _ (fO (ae.J▸aE));obtain rfl:=dk (((fO aE).trans (bA A e)).symm.trans Z);exact X<|Y.gf b al
theorem bL.gL(ae:bL B I z s)(k:∀b C,s.heap.get? b=A C->aJ.heap.get? b=A C)(Q:aJ.gens=s.gens)(u:aJ.os=s.os):bL B I z aJ:=ae.other (aD:=[]) (bB.gL k) hn.nil (λx h=>afk h) (λb al=>(ae.gf al).elim λC e=>(k b C e).trans e.symm) Q u
theorem bL.toks(ae:bL B I z s)(t:Nat):bL B I z {s with toks:=t}:=ae.gL (λx x e=>e) y y
theorem bL.hM(ae:bL B I z s){b:aZ}(e:s.heap.get? b=aj):b∉fq I:=λal=>(ae.gf al).elim λx bP=>iH e bP
theorem qw{b:aZ}(al:h.objs.size<=b):h.get? b=aj:=by
 cases X:h.get? b with
 |none=>rfl
 |some C=>exact aG (iQ X) (fP.mpr al)
theorem uz:h.get? h.objs.size=aj:=qw (cu _)
theorem bL.wd(ae:bL B I z s):s.heap.objs.size∉fq I:=ae.hM uz
theorem bL.wa(ae:bL B I z s){b:aZ}(al:s.heap.get? b=aj):B.aR.get? b=aj:=by
 cases X:B.aR.get? b with
 |none=>rfl
 |some C=>exact iH al (ae.fZ b C X)
theorem bL.aaF(ae:bL B I z s):3<s.heap.objs.size:=bp λZ=>ae.good.g.elim λx Q=>Q.elim λC w=>w.elim λx Y=>Y.elim λx M=>M.elim λe x=>Z<|iQ (ae.fZ _ _ e)
theorem bL.Uh(ae:bL B I z s){b:aZ}(al:s.heap.objs.size<=b):(b==vo)=aW:=beq_eq_false_iff_ne.mpr λe=>aG (ef ae.aaF (e▸al)) (by decide)
theorem bL.gy(ae:bL B I z s){G:aZ×Option aZ}{C:cT}(k:∀b C,s.heap.get? b=A C->aJ.heap.get? b=A C)(F:(lR G).Nodup)(J:∀b∈lR G,s.heap.objs.size<=b)(u:pf B (I++[G]) aJ.heap G C)(Q:aJ.gens=s.gens)(v:aJ.os=s.os):bL B (I++[G]) (z++[C]) aJ/\bB [] I s.heap (I++[G]) aJ.heap:=by
 have d:∀b,b∈fq (I++[G])->b∈fq I\/b∈lR G:=λb al=>by
  rw[uj,vO]at al;exact ew.mp al
 have n:∀b∈lR G,s.heap.get? b=aj:=λb al=>qw (J b al);have st:bB [] I s.heap (I++[G]) aJ.heap:=⟨⟨_,y⟩,λb C c e=>⟨C,k b C e⟩,λb ab ac=>⟨(d b ab).elim (λq=>aG q ac) (n b),afk⟩,λb C c c e=>k b C e⟩
 refine⟨⟨by rw[cp,cp,ae.J];rfl,λa x h=>?_,?_,λa p X ab ac bo b al=>?_,λb al=>(d b al).elim (ae.mG b) λal=>ae.Uh (J b al),
  λb C h=>k b C (ae.fZ b C h),Q.trans ae.gens,v.trans ae.os,ae.good⟩,st⟩
 ·by_cases aE:a<D z
  ·rw[jY aE]at h;exact(ae.objs a x h).elim λp W=>W.elim λg Z=>⟨p,st.at g,Z.Y st hn.nil λb al=>(Z.gf b al).elim λC e=>(k b C e).trans e.symm⟩
  ·rw[iN (ib aE)]at h;have aR:a-D z=0:=wQ.mp (hZ.mp h).1;rw[aR]at h;obtain rfl:=dk h;have e:a=D I:=ae.J▸mh (Da aR) (ib aE);exact⟨G,by rw[e,iN (cu _),kb];rfl,u⟩
 ·rw[uj,vO];exact oX.mpr ⟨ae.nodup,F,λa aE b al Y=>ae.hM (n b al) (Y▸aE)⟩
 ·by_cases aE:a<D z
  ·rw[jY (ae.J▸aE)]at ab;rw[jY aE]at ac;exact ae.cS a p X ab ac bo b al
  ·rw[iN (ae.J▸ib aE)]at ab;exact ae.wa (n b (cB.mp (io ab)▸al))
theorem k6{I:cw}:∀{a b:Nat} {G p:aZ×Option aZ},(fq I).Nodup->I[a]?=A G->I[b]?=A p->a≠b->∀x∈lR G,x∉lR p:=by
 induction I with
 |nil=>intro a b G p _ ab;exact absurd ab.symm (gJ _)
 |cons c I F=>
  intro a b G p J ab ac W x Y X;refine(oX.mp (sv▸J:(lR c++fq I).Nodup)).elim λj U=>U.elim λZ q=>?_;cases a with
  |zero=>
   cases b with
   |zero=>exact W y
   |succ b=>obtain rfl:=dk ab;exact q x Y x (rP ac X) y
  |succ a=>
   cases b with
   |zero=>obtain rfl:=dk ac;exact q x X x (rP ab Y) y
   |succ b=>exact F Z ab ac (λe=>W (bA _ e)) x Y X
theorem bB.ER{b:aZ}(al:b∈fq I)(Y:hx b h au)(W:∃C,au.get? b=A C):bB aD I h I au:=⟨⟨[],(eF _).symm⟩,λx C z e=>by
  by_cases Z:x=b
  ·subst Z;exact W
  ·exact⟨C,(Y.2 x Z).trans e⟩,λz ab ac=>aG ab ac,λx C ab z e=>(Y.2 x (λq=>ab (q▸al))).trans e⟩
theorem bL.upd(ae:bL B I z s){G:aZ×Option aZ}{C:cT}{b:aZ}(g:I[a]?=A G)(aR:∀b∈lR G,B.aR.get? b=aj)(al:b∈lR G)(U:hx b s.heap aJ.heap)(u:pf B I aJ.heap G C)(M:aJ.gens=s.gens)(v:aJ.os=s.os):bL B I (z.set a C) aJ/\bB aD I s.heap I aJ.heap:=by
 have st:∀aD,bB aD I s.heap I aJ.heap:=λaD=>bB.ER (rP g al) U (u.gf b al);refine⟨⟨(lJ ..).symm▸ae.J,λx W h=>?_,ae.nodup,λx p W ab ac bo Q Y=>?_,ae.mG,λx W h=>(U.2 x λq=>iH (aR b al) (q▸h)).trans (ae.fZ x W h),M.trans ae.gens,v.trans ae.os,ae.good⟩,st aD⟩;by_cases Z:a=x
 ·subst Z;rw[MP (lJ ..▸(hZ.mp h).1)]at h;obtain rfl:=dk h;exact⟨G,g,u⟩
 ·rw[wL Z]at h;exact(ae.objs x W h).elim λp J=>J.elim λN L=>⟨p,N,L.Y (st []) hn.nil λQ Y=>U.2 Q λq=>k6 ae.nodup N g (λq=>Z q.symm) Q Y (q▸al)⟩
 ·by_cases Z:a=x
  ·subst Z;obtain rfl:=dk (g.symm.trans ab);exact aR Q Y
  ·rw[wL Z]at ac;exact ae.cS x p W ab ac bo Q Y
theorem bL.Sm(ae:bL B I z s){G:aZ×Option aZ}{C:hb}(g:I[a]?=A G)(u:s.heap.get? G.1=A C)(X:C.cls≠.type "list"):∀b∈lR G,B.aR.get? b=aj:=by
 obtain⟨x,Z⟩:∃x,z[a]?=A x:=⟨_,fO (ae.J▸(hZ.mp g).1)⟩
 obtain⟨p,Y,r⟩:=ae.objs a x Z;obtain rfl:=dk (g.symm.trans Y);refine ae.cS a G x g Z λq=>?_;cases r with
 |arg _ ab=>obtain rfl:=dk (ab.symm.trans u);exact X y
 |_=>cases q
theorem bL.W(ae:bL B I z s){P:Prop}(aE:z[a]?=A (.W l))(k:∀x ar n,I[a]?=A (x,aj)->s.heap.get? x=A (gp ar n)->ci I s.heap l ar.toList->P):P:=by
 obtain⟨G,g,r⟩:=ae.objs a _ aE;cases r with
 |W ab ac=>exact k _ _ _ g ab ac
@[elab_as_elim]theorem bL.ie(ae:bL B I z s){P:aw->Prop}(aE:z[a]?=A (.W l))(r:cf I s.heap (.J a) aI)(k:∀x ar n,I[a]?=A (x,aj)->s.heap.get? x=A (gp ar n)->ci I s.heap l ar.toList->P (.ref x)):P aI:=ae.W aE λx ar n g ab ac=>r.J g▸k x ar n g ab ac
@[elab_as_elim]theorem bL.IM(ae:bL B I z s){P:aw->Prop}(aE:z[a]?=A (.arg l))(r:cf I s.heap (.J a) aI)(k:∀x ar n,s.heap.get? x=A (gp ar n)->ci I s.heap l ar.toList->P (.ref x)):P aI:=by
 obtain⟨G,g,C⟩:=ae.objs a _ aE;cases C with
 |arg _ ab ac=>exact r.J g▸k _ _ _ ab ac
end
section
noncomputable def mx(ay:fJ):List aZ:=ay.locals::ay.cells.map (·.2)
inductive rp(h:cv)(G:bj->Option aw)(ay:fJ)(x:bj):Option aw->Prop
|J:ay.kindOf x=A .local->rp h G ay x (G x)
|cell {c:aZ} {H:Option aw}:(ay.kindOf x=A .cell\/ay.kindOf x=A .free)->ay.cells.lookup x=A c->h.IsCell c H->rp h G ay x H
structure gi(B:bT)(c:eT)(I:cw)(h:cv)(st:List aZ)(N:bk)(ay:fJ):Prop where
 kinds:∀x k,c.names.lookup x=A k->ay.kindOf x=A k\/(k=.free/\ay.kindOf x=A .cell)
 kind:ay.scope.kind=.function
 Ek:ay.globals=iE
 AG:ay.builtins=tX
 J:D N=D c.vars
 nodup:c.vars.Nodup
 var:∃G,h.Ns ay.locals G/\∀(i:Nat) (x:bj),c.vars[i]?=A x->∃aI,rp h G ay x aI/\∀H,N[i]?=A (A H)->∃w,aI=A w/\cf I h H w
 apart:∀b∈mx ay,b∉fq I/\B.aR.get? b=aj/\∃C,h.get? b=A C/\ki C
 W:∀x Q c,ay.cells.lookup x=A c->ay.cells.lookup Q=A c->x=Q
 tx:∀x,c.tx x=ak->x∈c.vars->(ay.kindOf x=A .local/\ay.locals∈st)\/(ay.kindOf x≠A .local/\∃c,ay.cells.lookup x=A c/\c∈st)
 Z:∀b∈st,b∈mx ay
variable{s:aN} {c:eT}
variable{aQ:vj}
theorem yc{bw:Type}{l:List (bj×bw)}{n:bj}{c:bw}(e:l.lookup n=A c):c∈l.map (·.2):=gd (f:=(·.2)) (qh e)
theorem gi.gf(F:gi B c I h st N ay):∀b∈st,∃C,h.get? b=A C:=λb al=>(F.apart b (F.Z b al)).elim λx n=>n.elim λx Z=>Z.elim λC a=>a.elim λe x=>⟨C,e⟩
theorem gi.rC(F:gi B c I h st N ay):hn st h:=λb al C u=>by obtain⟨_,_,Z,a,d⟩:=F.apart b (F.Z b al);obtain rfl:=dk (u.symm.trans a);exact d
theorem rp.keeps{G:bj->Option aw}{aI:Option aw}(H:rp h G ay x aI)(k:∀b∈mx ay,∀C,h.get? b=A C->au.get? b=A C):rp au G ay x aI:=by
 cases H with
 |J e=>exact .J e
 |cell e bq p=>exact p.elim λC q=>q.elim λu F=>.cell e bq ⟨C,k _ (tO _ (yc bq)) _ u,F⟩
theorem gi.BN(F:gi B c I h st N ay)(s:bB aD I h bF au)(d:hn aD h)(t:∀b∈mx ay,b∉aD):gi B c bF au st N ay:=by have kept:∀b∈mx ay,∀C,h.get? b=A C->au.get? b=A C:=λb al C u=>s.jr b C (F.apart b al).1 (t b al) u;refine{F with var:=?_,apart:=λb al=>(F.apart b al).elim λab M=>M.elim λac Q=>Q.elim λC p=>p.elim λu d=>⟨s.qB ab u,ac,C,kept b al C u,d⟩};exact bp λP=>F.var.elim λG U=>U.elim λf Y=>f.elim λC J=>J.elim λag L=>L.elim λcJ q=>q.elim λu r=>P<|⟨G,⟨C,ag,cJ,kept _ (.head _) _ u,r⟩,λi x W=>bp λP=>(Y i x W).elim λaI g=>g.elim λa b=>P (⟨aI,a.keeps kept,λH e=>(b H e).elim λw n=>n.elim λZ bq=>⟨w,Z,bq.Y s d⟩⟩)⟩
theorem gi.Y(F:gi B c I h st N ay)(s:bB [] I h bF au):gi B c bF au st N ay:=F.BN s hn.nil λx x=>afk
def jX(N bY:bk):Prop:=D N=D bY/\∀(i:Nat) (H:V),N[i]?=A (A H)->bY[i]?=A (A H)
theorem gi.le(F:gi B c I h st bY ay)(l:jX N bY):gi B c I h st N ay:=bp λP=>F.var.elim λG q=>q.elim λZ Y=>P<|{F with J:=l.1.trans F.J,var:=⟨G,Z,λi x X=>(Y i x X).elim λaI M=>M.elim λa b=>⟨aI,a,λH e=>b H (l.2 i H e)⟩⟩}
theorem Fy{i:Nat}(h:∀w,N[i]?≠A (A w)):jX N (N.set i (A H)):=⟨(lJ ..).symm,λj w e=>by
  by_cases X:i=j
  ·subst X;exact aG e (h w)
  ·exact(wL X).trans e⟩
theorem x2{i:Nat}:jX (N.set i aj) N:=⟨lJ ..,λj w e=>by
  by_cases X:i=j
  ·subst X;rw[List.getElem?_set]at e;split at e<;>first|(split at e<;>exact nomatch e)|contradiction
  ·exact(wL X).symm.trans e⟩
theorem jX.trans{P:bk}(a:jX dx eg)(b:jX eg P):jX dx P:=⟨a.1.trans b.1,λi H h=>b.2 i H (a.2 i H h)⟩
theorem y8(F:gi B c I s.heap st N ay){i:Nat}(Z:c.var i x=ak)(U:N[i]?=A (A H))(k:∀w,cf I s.heap H w->af w s):bb aQ R (loadName ay x) af E s:=by
 refine bp λP=>?_;obtain⟨Z,X,L⟩:c.vars[i]?=A x/\(x==("__classdict__":bj))=aW/\(x==("__debug__":bj))=aW:=by
  obtain⟨a,b⟩:=bx Z;obtain⟨b,d⟩:=bx b;exact⟨dA a,(qM _).mp b,(qM _).mp d⟩
 obtain⟨G,g,W⟩:=F.var;obtain⟨aI,a,b⟩:=W i x Z;obtain⟨w,o,bq⟩:=b H U;refine P ?_;have r:=k w bq;cases a with
 |J e=>exact wpAny_loadName_local F.kind e g o r
 |cell e p Y=>
  subst o;rcases e with e|e
  ·exact wpAny_loadName_cell F.kind e p Y r
  ·exact wpAny_loadName_free F.kind e p Y r X
theorem aaR{c:aZ}{a:Option aw}{H:aw}{af:Unit->aN->Prop}(X:ay.scope.kind=.function)(Y:ay.kindOf x=A .free)(Z:ay.cells.lookup x=A c)(W:s.heap.IsCell c a)(h:∀au,au.IsCell c (A H)->hx c s.heap au->af () {s with heap:=au}):bb aQ R (storeName ay x H) af E s:=by unfold storeName;rw[Y,X];exact ap (Zr Z (wpAny_cellSet W h))
theorem Bw{M:aZ}{G:bj->Option aw}(n:h.Ns M G):∃C,h.get? M=A C/\ki C:=n.elim λC Y=>Y.elim λx Z=>Z.elim λx q=>q.elim λu r=>r.elim λF x=>⟨C,u,j7 F⟩
theorem IZ{M:aZ}{H:Option aw}(n:h.IsCell M H):∃C,h.get? M=A C/\ki C:=n.elim λC W=>W.elim λu F=>⟨C,u,j6 F⟩
theorem Sw{M a:aZ}{G:bj->Option aw}{H:Option aw}(n:h.Ns M G)(x:h.IsCell a H):M≠a:=λq=>by refine n.elim λC b=>b.elim λz d=>d.elim λz t=>t.elim λu f=>f.elim λF z=>x.elim λcx g=>g.elim λe Z=>?_;obtain rfl:=dk ((q▸u).symm.trans e);exact nomatch Z.symm.trans F
theorem bB.sameBut(Y:hx b h au)(W:∃C,au.get? b=A C)(t:b∈aD):bB aD I h I au:=⟨⟨[],(eF _).symm⟩,λx C z e=>by
  by_cases Z:x=b
  ·subst Z;exact W
  ·exact⟨C,(Y.2 x Z).trans e⟩,λz ab ac=>aG ab ac,λx C z ac e=>(Y.2 x (λq=>ac (q▸t))).trans e⟩
theorem uw{bw:Type}{l:List bw}(J:l.Nodup){i:Nat}{x:bw}(ab:l[i]?=A x)(ac:l[j]?=A x):i=j:=(hZ.mp ab).elim λt r=>(hZ.mp ac).elim λX Z=>(List.getElem_inj J).mp (r.trans Z.symm)
theorem gi.stored(F:gi B c I s.heap st N ay)(ae:bL B I z s){i:Nat}{w:aw}(L:c.vars[i]?=A x)(O:cf I s.heap H w){G:bj->Option aw}(l:∀(i:Nat) (x:bj),c.vars[i]?=A x->∃aI,rp s.heap G ay x aI/\∀H,N[i]?=A (A H)->∃w,aI=A w/\cf I s.heap H w){b:aZ}(al:b∈st)(t:Nat)(W:hx b s.heap au)(U:∃C,au.get? b=A C/\ki C){p:bj->Option aw}(g:au.Ns ay.locals p)(A7:rp au p ay x (A w))(A6:∀Q aI,Q≠x->rp s.heap G ay Q aI->rp au p ay Q aI):bL B I z {s with heap:=au,toks:=t}/\gi B c I au st (N.set i (A H)) ay/\bB st I s.heap I au:=by
 have S:bB st I s.heap I au:=bB.sameBut W (U.elim λC h=>h.elim λe f=>⟨C,e⟩) al;have E:∀b∈st,b∉fq I/\B.aR.get? b=aj:=λb al=>(F.apart b (F.Z b al)).elim λa A0=>A0.elim λb f=>⟨a,b⟩
 refine⟨ae.other (aJ:={s with heap:=au,toks:=t}) S F.rC (λb al=>(E b al).2) (λa aE=>W.2 a λq=>(E b al).1 (q▸aE)) y y,
  {F with J:=(lJ ..).trans F.J,var:=⟨p,g,λj Q Y=>?_⟩,apart:=λa aE=>?_},S⟩
 ·by_cases X:i=j
  ·subst X;refine bp λP=>?_;obtain rfl:=dk (L.symm.trans Y);refine P<|⟨_,A7,λu Z=>⟨w,y,?_⟩⟩;rw[List.getElem?_set_self']at Z;cases aB:N[i]? with
   |none=>rw[aB]at Z;exact aG Z.symm (gJ _)
   |some C=>rw[aB]at Z;cases Z;exact O.Y S F.rC
  ·exact bp λP=>(l j Q Y).elim λaI A2=>A2.elim λa k=>P<|⟨aI,A6 Q aI (λe=>X (uw F.nodup L (e▸Y))) a,λu Z=>(k u ((wL X).symm.trans Z)).elim λA8 A1=>A1.elim λr bq=>⟨A8,r,bq.Y S F.rC⟩⟩
 ·refine bp λP=>(F.apart a aE).elim λab A3=>A3.elim λac A4=>A4.elim λC A5=>A5.elim λn d=>P ?_;by_cases M:a=b
  ·exact⟨ab,ac,M▸U⟩
  ·exact⟨ab,ac,C,(W.2 a M).trans n,d⟩
theorem eT.UE{i:Nat}(h:c.var i x=ak):c.vars[i]?=A x:=dA (bx h).1
theorem xD(F:gi B c I s.heap st N ay)(ae:bL B I z s){i:Nat}{w:aw}{af:Unit->aN->Prop}(Z:(c.var i x&&c.tx x)=ak)(l:cf I s.heap H w)(k:∀aJ,bL B I z aJ->gi B c I aJ.heap st (N.set i (A H)) ay->bB st I s.heap I aJ.heap->af () aJ):bb aQ R (bindName ay x w) af E s:=by
 refine bp λP=>?_;obtain⟨Z,A0⟩:=bx Z;replace Z:=eT.UE Z;obtain⟨G,g,W⟩:=F.var;obtain⟨aI,a,_⟩:=W i x Z;refine P ?_;have Y:=F.tx x A0 (io Z);refine wpAny_bindName ?_;cases a with
 |J e=>
  refine wpAny_storeName_local e g (λau u X=>?_) ((F.kind ..)▸y);refine bp λP=>?_;obtain⟨C,cK,j⟩:=F.stored ae Z l W (Y.elim (·.2) λq=>aG e q.1) (s.toks+1) X (Bw u) u (by have:=rp.J (h:=au) (G:=λQ=>if Q=x then A w else G Q) e;rwa[cg y]at this) λQ A1 U t=>by
   cases t with
   |J e=>have:=rp.J (h:=au) (G:=λQ=>if Q=x then A w else G Q) e;rwa[bV U]at this
   |cell e bq p=>exact .cell e bq (p.sameBut X (Sw g p).symm)
  exact P<|k _ C cK j
 |@cell ir A7 e bq p=>
  have o:ir∈st:=Y.elim (λq=>aG q.1 (λq=>e.elim (λr=>nomatch q.symm.trans r) λr=>nomatch q.symm.trans r)) λd=>d.elim λb A3=>A3.elim λA6 A4=>A4.elim λA2 A5=>by obtain rfl:=dk (bq.symm.trans A2);exact A5
  have fin:∀au,au.IsCell ir (A w)->hx ir s.heap au->af () {s with heap:=au}:=λau n X=>by
   refine bp λP=>?_;obtain⟨C,cK,j⟩:=F.stored ae Z l W o s.toks X (IZ n) (g.sameBut X (Sw g p)) (.cell e bq n) λQ A1 U t=>by
    cases t with
    |J e=>exact .J e
    |cell f L O=>exact .cell f L (O.sameBut X λq=>U (F.W Q x ir (q▸L) bq))
   exact P<|k _ C cK j
  refine e.elim (λe=>?_) λe=>?_
  ·exact wpAny_storeName_cell F.kind e bq p fin
  ·exact aaR F.kind e bq p fin
end
section
open PySem PySem.W PyProof.Rows PySem.SeqAt PySem.Calls PySem.MeetsSeq PySem.MeetsSeq3
variable{s:aN}
theorem kQ{a:aZ}(e:s.heap.get? a=A (jU ar n)):s.heap.IsTuple a ar:=⟨_,e,y,n,y⟩
theorem hE{a:aZ}(e:s.heap.get? a=A (gp ar n)):s.heap.IsList a ar:=⟨_,e,y,n,y⟩
inductive hJ(I:cw)(h:cv)(n:Nat):V->aw->Prop
|X {i:Int} {t:mQ}:hJ I h n (.X i) (.int i t)
|cG {x:bj} {t:mQ}:hJ I h n (.cG x) (.str x t)
|Y {k:Nat} {l:List V} {a:aZ} {ar:Array aw}:n-1<n->h.get? a=A (jU ar k)->V.fu (n-1) l=ak->ci I h l ar.toList->hJ I h n (.Y l) (.ref a)
theorem iI{a:V}(p:V.gh n a=ak)(r:cf I h a u):hJ I h n a u:=by
 cases a with
 |X i=>exact r.i λt=>.X
 |cG x=>exact r.s λt=>.cG
 |Y l=>cases n with
  |zero=>exact aG p dT
  |succ n=>exact r.t λa ar k z ab ac=>.Y (jO _) ab p ac
 |_=>obtain⟨⟩:=n<;>exact aG p dT
theorem nU{x:V}(h:V.fu n (x::l)=ak):V.gh n x=ak/\V.fu n l=ak:=bx h
theorem nV(h:V.fu n l=ak){x:V}(Z:x∈l):V.gh n x=ak:=by
 induction l with
 |nil=>cases Z
 |cons Q l F=>cases Z with
  |head=>exact(nU h).1
  |tail _ Z=>exact F (nU h).2 Z
theorem hJ.JO(F:∀{a b:V} {H:aw},hJ I h n a H->hJ I h n b H->a=b){a:List V}:∀{b:List V} {H:List aw},V.fu n a=ak->V.fu n b=ak->ci I h a H->ci I h b H->a=b:=by
 induction a with
 |nil=>intro b H _ _ g Z;cases b with
  |nil=>rfl
  |cons Q b=>obtain⟨_,_,e,_⟩:=Z;cases(e.symm.trans g)
 |cons x a i=>intro b H aE al g Z;cases b with
  |nil=>obtain⟨_,_,e,_⟩:=g;cases(e.symm.trans Z)
  |cons Q b=>refine bp λP=>?_;obtain⟨H,r,rfl,ab,ac⟩:=g;obtain⟨_,_,e,bo,c⟩:=Z;obtain⟨rfl,rfl⟩:=fH e;refine P ?_;rw[F (iI (nU aE).1 ab) (iI (nU al).1 bo),i (nU aE).2 (nU al).2 ac c]
theorem hJ.inj:∀{a b:V} {H:aw},hJ I h n a H->hJ I h n b H->a=b:=by
 induction n using tT with
 |ind n F=>
  refineλ{a b H} X=>X.rec (motive:=λa H z=>hJ I h n b H->a=b) (λ{i t} Z=>?_) (λ{x t} Z=>?_) λ{k l a ar} aR ab ac bo Z=>?_
  ·exact Z.rec (motive:=λb H z=>H=.int i t->V.X i=b) (λe=>bA V.X (Value.int.inj e).1.symm) (λe=>Aa e) (λz z z z e=>Aa e) y
  ·exact Z.rec (motive:=λb H z=>H=.str x t->V.cG x=b) (λe=>Aa e) (λe=>bA V.cG (Value.str.inj e).1.symm) (λz z z z e=>Aa e) y
  ·refine Z.rec (motive:=λb H z=>H=.ref a->V.Y l=b) (λe=>Aa e) (λe=>Aa e) (λ{bI dB m d} z c E Y e=>bA V.Y ?_) y;have q:=Data.seq.inj (Obj.mk.inj (dk (ab.symm.trans (Value.ref.inj e▸c)))).2.2.1;exact hJ.JO (F _ aR) ac E bo (q.1▸Y)
theorem V.Tb:∀{n:Nat} {H:V},V.gh n H=ak->V.gh (n+1) H=ak:=by
 intro n;induction n with
 |zero=>intro H p;obtain⟨⟩:=H<;>first|exact p|exact absurd p dT
 |succ n F=>
  have Z:∀l,V.fu n l=ak->V.fu (n+1) l=ak:=λl=>by
   induction l with
   |nil=>exactλz=>y
   |cons x l i=>exactλp=>(wq _ _).mpr ⟨F (nU p).1,i (nU p).2⟩
  intro H p;obtain⟨⟩:=H<;>first|exact p|exact Z _ p
theorem PO:∀(l G:List V),(((fz (gn (D l) (D G))).all λj=>V.dE (l.getD j .bM) (G.getD j .bM))&&D l==D G)=V.kx l G:=λl G=>by
 rw[tB,V.vF,wq,mf,beq_iff_eq];refine⟨λb=>b.elim λa e=>List.ext_getElem e λi ab ac=>?_,λe=>?_⟩
 ·have:=V.fE.mp (a i (hk.mpr (Xa.mpr ⟨ab,ac⟩)));rwa[la,la,fO ab,fO ac]at this
 ·subst e;exact⟨λx x=>V.ms,y⟩
theorem v_{ae:aw->aw->Bool->Prop}(aE:V.fu n l=ak)(al:V.fu n aS=ak)(c:ci I s.heap l ar.toList)(i:ci I s.heap aS bD.toList)(F:∀{a b:V} {u H:aw},hJ I s.heap n a u->hJ I s.heap n b H->ae u H (V.dE a b)):∀j (ab:j<ar.size) (ac:j<bD.size),ae ar[j] bD[j] (V.dE (l.getD j .bM) (aS.getD j .bM)):=λj ab ac=>by have br:j<D l:=c.size▸ab;have bG:j<D aS:=i.size▸ac;refine bp λP=>(c.get.2 j (fO br)).elim λu q=>q.elim λo J=>(i.get.2 j (fO bG)).elim λH r=>r.elim λbq cK=>P ?_;rw[jJ,mI ab]at o;rw[jJ,mI ac]at bq;rw[la,la,fO br,fO bG,dk o,dk bq];exact F (iI (nV aE (pV br)) J) (iI (nV al (pV bG)) cK)
theorem Fx{P:List V}{x Q:aZ}(O:R.units<fp)(aE:V.fu n l=ak)(al:V.fu n P=ak)(c:ci I s.heap l ar.toList)(i:ci I s.heap P bD.toList)(F:∀{a b:V} {u H:aw},hJ I s.heap n a u->hJ I s.heap n b H->EqAt R.in1 s u H (V.dE a b)):(∀k bI,s.heap.get? x=A (jU ar k)->s.heap.get? Q=A (jU bD bI)->RcAt R s (.ref x) (.ref Q) (V.kx l P)/\RcNeAt R s (.ref x) (.ref Q) (!V.kx l P))/\∀k bI,s.heap.get? x=A (gp ar k)->s.heap.get? Q=A (gp bD bI)->RcAt R s (.ref x) (.ref Q) (V.kx l P)/\RcNeAt R s (.ref x) (.ref Q) (!V.kx l P):=by
 have U:=v_ (ae:=EqAt R.in1 s) aE al c i F;have p:=c.size;have X:=i.size;refine⟨λk bI W Y=>?_,λk bI W Y=>?_⟩
 ·have r:=RcAt.tuples (kQ W) (kQ Y) O U;have N:=RcNeAt.tuples (kQ W) (kQ Y) O U;rw[p,X,PO]at r N;exact⟨r,N⟩
 ·rw[←PO];by_cases Z:ar.size=bD.size
  ·have r:=RcAt.lists (hE W) (hE Y) Z O U;have N:=RcNeAt.lists (hE W) (hE Y) Z O U;rw[p]at r N;rw[←p,←X,Z,Hp,beq_self_eq_true,LS,X,←X,←Z,p];exact⟨r,N⟩
  ·have e:(D l==D P)=aW:=beq_eq_false_iff_ne.mpr (p▸X▸Z);rw[e,LR];exact⟨RcAt.lists_lengths (hE W) (hE Y) (bne_iff_ne.mpr Z) O,RcNeAt.lists_lengths (hE W) (hE Y) (bne_iff_ne.mpr Z) O⟩
theorem DQ(i j:Int):V.dE (.X i) (.X j)=(i==j):=by rw[tB,V.fE,beq_iff_eq];exact⟨λe=>V.X.inj e,bA _⟩
theorem IS(i j:bj):V.dE (.cG i) (.cG j)=(i==j):=by rw[tB,V.fE,beq_iff_eq];exact⟨λe=>V.cG.inj e,bA _⟩
theorem IT(l G:List V):V.dE (.Y l) (.Y G)=V.kx l G:=by rw[tB,V.fE,V.vF];exact⟨λe=>V.Y.inj e,bA _⟩
theorem c1{a b:V}(h:a≠b):V.dE a b=aW:=V.mX.mpr h
theorem xM{a b:V}{u H:aw}(h:a≠b)(e:EqAt R s u H aW):EqAt R s u H (V.dE a b):=c1 h▸e
theorem AY:∀{R:ez} {a b:V} {u H:aw},R.units+n<fp->hJ I s.heap n a u->hJ I s.heap n b H->EqAt R s u H (V.dE a b):=by
 induction n using tT with
 |ind n F=>
  intro R a b u H U t Z;have k:R.units<fp:=er (dP _ _) U;cases t with
  |X=>cases Z with
   |X=>rw[DQ];exact EqAt.int_int _ _ _ _
   |cG=>exact xM nofun (EqAt.int_str _ _ _ _)
   |Y _ h=>exact xM nofun (EqAt.int_tuple _ _ (kQ h) k)
  |cG=>cases Z with
   |X=>exact xM nofun (EqAt.str_int _ _ _ _)
   |cG=>rw[IS];exact EqAt.str_str _ _ _ _
   |Y _ h=>exact xM nofun (EqAt.str_tuple _ _ (kQ h) k)
  |@Y _ _ x _ aR ab ac bo=>
   cases Z with
   |X=>exact xM nofun (EqAt.tuple_int _ _ (kQ ab) k)
   |cG=>exact xM nofun (EqAt.tuple_str _ _ (kQ ab) k)
   |@Y _ _ Q _ _ c E W=>
    by_cases j:x=Q
    ·subst j;refine bp λP=>?_;cases ab.symm.trans c;exact P<|(hJ.JO hJ.inj ac E bo W)▸(V.ms ..)▸EqAt.same _
    ·rw[IT];exact EqAt.of_refs j ((Fx k ac E bo W (F _ aR (FP U aR))).1 _ _ ab c).1
theorem Ef{a b:V}{u H:aw}(Z:R.units+n<fp)(aE:V.gh n a=ak)(al:V.gh n b=ak)(g:cf I s.heap a u)(Y:cf I s.heap b H):EqAt R s u H (V.dE a b):=AY Z (iI aE g) (iI al Y)
end
section
open PySem PySem.W PyProof.Rows PySem.SeqAt PySem.Calls PySem.MeetsSeq PySem.MeetsSeq3
def pW(R:ez)(s:aN)(Q x:aw)(b:Bool):Prop:=∀(prog:gr) (w:eU) (E:aw->aN->Prop) (af:aw->aN->Prop),af (.bool b) s->bb (dm prog w) R (Ie .Lt Q x) af E s
def su(R:ez)(s:aN)(fin:Bool):List (aw×aw)->Bool->Prop
|[],r=>r=fin
|(x,Q)::dq,r=>∃e,EqAt R s x Q e/\(e=ak->su R s fin dq r)/\(e=aW->pW R s x Q r)
theorem abL(l b:aZ)(aS m:Array aw)(n W:Nat)(p a:Option aZ)(fa o:Array (Option aw))(r:Bool):Dr (Builtin.«tuple.__lt__» ⟨[.ref l,.ref b],[]⟩) (λR ae s=>s.heap.get? l=A {cls:=.type "tuple",dict:=p,data:=.seq aS n,slots:=fa}/\s.heap.get? b=A {cls:=.type "tuple",dict:=a,data:=.seq m W,slots:=o}/\su R.in1 s (dV (aS.size<m.size)) (aS.toList.zip m.toList) r/\ae (.ok (.ret (.bool r))) s):=.of_wp λprog w R ae s h=>by
  refine bp λP=>?_;obtain⟨z,g,d,dh,os⟩:=s;obtain⟨B,al,U,h⟩:=h;refine P ?_;have L:=adq;wp_walk using ot B,ot al,OZ _ (λdq b aJ=>b.1=aj/\aJ=⟨z,g,d,dh,os⟩/\su R.in1 ⟨z,g,d,dh,os⟩ (dV (aS.size<m.size)) dq r) _
  case turn=>
   rintro⟨Q,x⟩ dq b aJ ⟨H,rfl,e,t,Y,v⟩;refine ap (t prog w _ _ ?_);cases e with
   |true=>wp_walk;exact⟨y,y,Y y⟩
   |false=>have C:∀(E:aw->aN->Prop) (af:aw->aN->Prop),af (.bool r) ⟨z,g,d,dh,os⟩->bb (dm prog w) R.in1 (Ie .Lt Q x) af E ⟨z,g,d,dh,os⟩:=v y prog w;generalize Ie .Lt Q x=i at C⊢;wp_walk;refine C _ _ ?_;wp_walk;exact⟨_,y,h⟩
  case fin=>
   rintro⟨X,c⟩ aJ ⟨H,rfl,j⟩;simp only at H;subst H;wp_walk;exact⟨_,rfl,by rw[j]at h;simpa[ady]using h⟩
  case h=>
   exact⟨y,y,U⟩
theorem y!(l b:aZ)(aS m:Array aw)(n L:Nat)(p a:Option aZ)(fa o:Array (Option aw))(r:Bool)(k:Nat):∀i:Nat,gn aS.size m.size=i+k->Dr (Builtin.«list.__eq__.loop» ⟨[.ref l,.ref b,gK (i:Nat),gK ((0:Nat):Int)],[]⟩) (λR ae s=>s.heap.get? l=A {cls:=.type "list",dict:=p,data:=.seq aS n,slots:=fa}/\s.heap.get? b=A {cls:=.type "list",dict:=a,data:=.seq m L,slots:=o}/\su R.in1 s (dV (aS.size<m.size)) ((aS.toList.zip m.toList).drop i) r/\ae (.ok (.ret (.bool r))) s):=by
 induction k with
 |zero=>
  intro i X prog w R ae s h;refine bp λP=>?_;obtain⟨z,g,d,dh,os⟩:=s;obtain⟨B,al,U,h⟩:=h;refine P ?_;have Y:(aS.toList.zip m.toList).drop i=[]:=CJ.mpr (by rw[MT];exact fi X);rw[Y]at U;have U:r=dV (aS.size<m.size):=U;subst U;wp_walk using ot B,ot al;by_cases aB:i<aS.size
  ·have c:aS[((i:Nat):Int).toNat]?=A aS[i]:=by simp[aB]
   have x:m[((i:Nat):Int).toNat]?=aj:=Ch (ib λq=>aG (fi X) (kI.mpr (Xa.mpr ⟨aB,q⟩)));rw[c,x];wp_walk using ot B,ot al;exact h
  ·have c:aS[((i:Nat):Int).toNat]?=aj:=Ch (fP.mp aB);rw[c];wp_walk using ot B,ot al;exact h
 |succ k F=>
  intro i X prog w R ae s h;refine bp λP=>?_;obtain⟨z,g,d,dh,os⟩:=s;obtain⟨B,al,U,h⟩:=h;have W:i<gn aS.size m.size:=X▸pZ (iC k);have M:i<aS.size:=ef W (wR ..);have H:i<m.size:=ef W (Nf ..);have c:aS[((i:Nat):Int).toNat]?=A aS[i]:=mI M;have x:m[((i:Nat):Int).toNat]?=A m[i]:=mI H;have Y:(aS.toList.zip m.toList).drop i=(aS[i],m[i])::(aS.toList.zip m.toList).drop (i+1):=by
   rw[MH (by rw[MT];exact W),List.getElem_zip];rfl
  have O:((i:Int)+1)=((i+1:Nat):Int):=y;rw[Y]at U;obtain⟨e,t,N,v⟩:=U;refine P ?_;wp_walk using ot B,ot al;rw[c,x];refine ap (t prog w _ _ ?_);cases e with
  |true=>
   wp_walk;rw[O];exact⟨ph plain_eq_loop _,mR entry_eq_loop (by
    exact(tU plain_eq_loop _)▸F (i+1) (X.trans (jZ i k 1)) prog w R ae _ ⟨B,al,N y,h⟩)⟩
  |false=>have C:∀(E:aw->aN->Prop) (af:aw->aN->Prop),af (.bool r) ⟨z,g,d,dh,os⟩->bb (dm prog w) R.in1 (Ie .Lt aS[i] m[i]) af E ⟨z,g,d,dh,os⟩:=v y prog w;wp_walk using ot B,ot al;rw[c,x];refine ap (C _ _ ?_);wp_walk;exact h
theorem y'(l b:aZ)(aS m:Array aw)(n Y:Nat)(p a:Option aZ)(fa o:Array (Option aw))(r:Bool):Dr (Builtin.«list.__lt__» ⟨[.ref l,.ref b],[]⟩) (λR ae s=>s.heap.get? l=A {cls:=.type "list",dict:=p,data:=.seq aS n,slots:=fa}/\s.heap.get? b=A {cls:=.type "list",dict:=a,data:=.seq m Y,slots:=o}/\su R.in1 s (dV (aS.size<m.size)) (aS.toList.zip m.toList) r/\ae (.ok (.ret (.bool r))) s):=by
 intro prog w R ae s h;refine bp λP=>?_;obtain⟨z,g,d,dh,os⟩:=s;obtain⟨B,al,U,h⟩:=h;refine P ?_;have c:=adp;wp_walk using ot B,ot al;exact⟨ph plain_eq_loop _,mR entry_eq_loop (by
  exact(tU plain_eq_loop _)▸y! l b aS m n Y p a fa o r _ 0 ((hu ..).symm) prog w R ae _ ⟨B,al,U,h⟩)⟩
theorem pW.y2{R:ez}{s:aN}{l b:aZ}{aS:Array aw}(B:s.heap.IsList l aS)(al:s.heap.IsList b ar)(H:R.units<fp)(U:su R.in1 s (dV (aS.size<ar.size)) (aS.toList.zip ar.toList) r):pW R s (.ref l) (.ref b) r:=λprog w E af h=>by
 refine bp λP=>?_;obtain⟨⟨d,p,g,fa⟩,u,X,n,Y⟩:=id B;obtain⟨⟨f,a,i,o⟩,e,j,Z,c⟩:=id al;refine P ?_;simp only at X Y j c;subst X Y j c;exact Zi (op:=.Lt) ⟨_,u,y⟩ ⟨_,e,y⟩ F.slot_list_lt F.entry_list_lt (F.args_list_lt_2 _ _) (y' l b aS ar n Z p a fa o r)
  ⟨u,e,U,show Value.bool r≠Value.notImplemented/\af (.bool r) s from⟨(λx=>nomatch x),h⟩⟩ H
theorem pW.abM{R:ez}{s:aN}{l b:aZ}{aS:Array aw}(B:s.heap.IsTuple l aS)(al:s.heap.IsTuple b ar)(H:R.units<fp)(U:su R.in1 s (dV (aS.size<ar.size)) (aS.toList.zip ar.toList) r):pW R s (.ref l) (.ref b) r:=λprog w E af h=>by
 refine bp λP=>?_;obtain⟨⟨d,p,g,fa⟩,u,X,n,Y⟩:=id B;obtain⟨⟨f,a,i,o⟩,e,j,Z,c⟩:=id al;refine P ?_;simp only at X Y j c;subst X Y j c;exact Zi (op:=.Lt) ⟨_,u,y⟩ ⟨_,e,y⟩ F.slot_tuple_lt F.entry_tuple_lt (F.args_tuple_lt_2 _ _) (abL l b aS ar n Z p a fa o r)
  ⟨u,e,U,show Value.bool r≠Value.notImplemented/\af (.bool r) s from⟨(λx=>nomatch x),h⟩⟩ H
noncomputable def ec(p q:Ordering):Ordering:=match p with|.eq=>q|C=>C
noncomputable def oC:List Int->List Int->Ordering
|[],[]=>.eq
|[],_::_=>.lt
|_::_,[]=>.gt
|a::as,b::g=>ec (kz a b) (oC as g)
noncomputable def V.head:V->List Int
|.X i=>[1,i]
|.cG x=>2::x.cps.toList.map Int.ofNat
|.Y _=>[3]
|_=>[0]
noncomputable def V.items:V->List V
|.Y l=>l
|_=>[]
mutual
noncomputable def V.bH:V->V->Ordering
|.Y l,b=>ec (oC [3] b.head) (V.hA l b.items)
|a,b=>ec (oC a.head b.head) (if b.items.isEmpty then .eq else .lt)
noncomputable def V.hA:List V->List V->Ordering
|[],[]=>.eq
|[],_::_=>.lt
|_::_,[]=>.gt
|a::as,b::g=>ec (V.bH a b) (V.hA as g)
end
theorem V.sZ(a b:V):V.bH a b=ec (oC a.head b.head) (V.hA a.items b.items):=by
 have:(if b.items.isEmpty then Ordering.eq else .lt)=V.hA [] b.items:=by obtain⟨⟩:=b.items<;>rfl
 obtain⟨⟩:=a<;>first|rfl|exact congrArg (ec (oC (V.head _) b.head)) this
theorem BR{p q:Ordering}:(ec p q).swap=ec p.swap q.swap:=by obtain⟨⟩:=p<;>rfl
theorem g'(a b:Int):kz b a=(kz a b).swap:=by
 unfold kz;by_cases ab:a<b
 ·rw[cg ab,bV (pR.mpr (GI ab)),cg ab];rfl
 ·rw[bV ab,bV ab];split<;>rfl
theorem g6:∀(a b:List Int),oC b a=(oC a b).swap
|[],[]=>y
|[],_::_=>y
|_::_,[]=>y
|x::ar,Q::bD=>by show ec _ _=(ec _ _).swap;rw[BR,g' x Q,g6 ar bD]
theorem g4(l:List V)(h:∀x∈l,∀Q,V.bH Q x=(V.bH x Q).swap):∀G,V.hA G l=(V.hA l G).swap:=by
 induction l with
 |nil=>intro G;obtain⟨⟩:=G<;>rfl
 |cons x l F=>intro G;cases G with
  |nil=>rfl
  |cons Q G=>show ec _ _=(ec _ _).swap;rw[BR,h x (.head _) Q,F (λba j=>h ba (.tail _ j)) G]
theorem V.wg{a:V}(h:∀x∈a.items,∀Q,V.bH Q x=(V.bH x Q).swap)(b:V):V.bH b a=(V.bH a b).swap:=by rw[V.sZ,V.sZ a,BR,g6 a.head,g4 _ h]
theorem pJ{P:V->Prop}:∀x∈([]:List V),P x:=λz h=>afk h
mutual
theorem V.AQ:∀(a b:V),V.bH b a=(V.bH a b).swap
|.Y l,b=>V.wg (a:=.Y l) (V.Qm l) b
|.bM,b=>V.wg (a:=.bM) pJ b
|.dF x,b=>V.wg (a:=.dF x) pJ b
|.X x,b=>V.wg (a:=.X x) pJ b
|.cG x,b=>V.wg (a:=.cG x) pJ b
|.J x,b=>V.wg (a:=.J x) pJ b
|.jH x Q ba,b=>V.wg (a:=.jH x Q ba) pJ b
theorem V.Qm:∀(l:List V),∀x∈l,∀Q,V.bH Q x=(V.bH x Q).swap
|a::l,x,h,Q=>by
 refine(ee.mp h).elim (λe=>?_) λh=>?_
 ·rw[e];exact V.AQ a Q
 ·exact V.Qm l x h Q
end
theorem Jf(a b:Int):(kz a b==.lt)=dV (a<b):=by
 unfold kz;by_cases ab:a<b
 ·rw[cg ab,decide_eq_true ab];rfl
 ·rw[bV ab,decide_eq_false ab];split<;>rfl
theorem Qf{a b:Int}(h:kz a b=.eq):a=b:=by
 unfold kz at h;split at h
 ·exact nomatch h
 ·split at h
  ·exact nomatch h
  ·rename_i ab ac;exact VX (pR.mp ac) (pR.mp ab)
def ps(p q C:Ordering):Prop:=(p=.eq->C=q)/\(p=.lt->q≠.gt->C=.lt)
theorem g!(a b c:Int):ps (kz a b) (kz b c) (kz a c):=⟨λe=>Qf e▸y,λe h=>cg (Int.lt_of_lt_of_le (of_decide_eq_true ((Jf a b).symm.trans (by rw[e];rfl))) (pR.mp λq=>h ((bV (pR.mpr (GI q))).trans (cg q))))⟩
theorem ps.lex{p q C r u Z:Ordering}(h:ps p q C)(au:ps r u Z):ps (ec p r) (ec q u) (ec C Z):=by
 cases p with
 |eq=>
  obtain rfl:=h.1 y;cases C with
  |eq=>exact au
  |lt=>exact⟨λx=>y,λx x=>y⟩
  |gt=>exact⟨λx=>y,λx h=>aG y h⟩
 |lt=>exact⟨nofun,λx k=>by rw[h.2 y λe=>k (by rw[e];rfl)];rfl⟩
 |gt=>exact⟨nofun,nofun⟩
theorem g7(a:List Int):∀(b c:List Int),ps (oC a b) (oC b c) (oC a c):=by
 induction a with
 |nil=>
  intro b c;cases b with
  |nil=>exact⟨λd=>y,nofun⟩
  |cons Q bD=>cases c with
   |nil=>exact⟨nofun,λd h=>aG y h⟩
   |cons=>exact⟨nofun,λd d=>y⟩
 |cons x ar F=>
  intro b c;cases b with
  |nil=>exact⟨nofun,nofun⟩
  |cons Q bD=>cases c with
   |nil=>exact⟨λd=>y,λd h=>aG y h⟩
   |cons ba Z=>exact(g! x Q ba).lex (F bD Z)
theorem g5(a:List V):∀(b c:List V),(∀x∈a,∀Q ba,ps (V.bH x Q) (V.bH Q ba) (V.bH x ba))->ps (V.hA a b) (V.hA b c) (V.hA a c):=by
 induction a with
 |nil=>
  intro b c _;cases b with
  |nil=>exact⟨λd=>y,nofun⟩
  |cons Q bD=>cases c with
   |nil=>exact⟨nofun,λd h=>aG y h⟩
   |cons=>exact⟨nofun,λd d=>y⟩
 |cons x ar F=>
  intro b c h;cases b with
  |nil=>exact⟨nofun,nofun⟩
  |cons Q bD=>cases c with
   |nil=>exact⟨λd=>y,λd h=>aG y h⟩
   |cons ba Z=>exact(h x (.head _) Q ba).lex (F bD Z λw m=>h w (.tail _ m))
theorem V.wi{a:V}(h:∀x∈a.items,∀Q ba,ps (V.bH x Q) (V.bH Q ba) (V.bH x ba))(b c:V):ps (V.bH a b) (V.bH b c) (V.bH a c):=by rw[V.sZ,V.sZ b,V.sZ a c];exact(g7 _ _ _).lex (g5 _ _ _ h)
mutual
theorem V.Qn:∀(a b c:V),ps (V.bH a b) (V.bH b c) (V.bH a c)
 |.Y l,b,c=>V.wi (a:=.Y l) (V.Qo l) b c
 |.bM,b,c=>V.wi (a:=.bM) pJ b c
 |.dF x,b,c=>V.wi (a:=.dF x) pJ b c
 |.X x,b,c=>V.wi (a:=.X x) pJ b c
 |.cG x,b,c=>V.wi (a:=.cG x) pJ b c
 |.J x,b,c=>V.wi (a:=.J x) pJ b c
 |.jH x Q ba,b,c=>V.wi (a:=.jH x Q ba) pJ b c
termination_by structural a=>a
theorem V.Qo:∀(l:List V),∀x∈l,∀Q ba,ps (V.bH x Q) (V.bH Q ba) (V.bH x ba)
 |a::l,x,h,Q,ba=>by
  refine(ee.mp h).elim (λe=>?_) λh=>?_
  ·rw[e];exact V.Qn a Q ba
  ·exact V.Qo l x h Q ba
termination_by structural l=>l
end
noncomputable def V.le(a b:V):Bool:=V.bH a b !=.gt
theorem V.Et(a b:V):(V.le a b||V.le b a)=ak:=by unfold V.le;rw[V.AQ a b];obtain⟨⟩:=V.bH a b<;>rfl
theorem V.Eu{a b c:V}(ab:V.le a b=ak)(ac:V.le b c=ak):V.le a c=ak:=by
 have aY:=bne_iff_ne.mp ab;have Z:=bne_iff_ne.mp ac;refine bne_iff_ne.mpr ?_;have t:=V.Qn a b c;cases h:V.bH a b with
 |gt=>exact aG h aY
 |eq=>exact t.1 h▸Z
 |lt=>exact t.2 h Z▸nofun
theorem V.Kl(a b:V):V.bH a b=.lt↔V.le b a=aW:=by unfold V.le;rw[V.AQ a b];obtain⟨⟩:=V.bH a b<;>decide
mutual
def V.ok:V->V->Prop
|.X _,b=>∃j,b=.X j
|.cG _,b=>∃j,b=.cG j
|.Y l,b=>∃G,b=.Y G/\V.wb l G
|_,_=>False
def V.wb:List V->List V->Prop
|[],_=>True
|x::ar,G=>match G with
 |[]=>True
 |Q::bD=>(x=Q->V.wb ar bD)/\(x≠Q->V.ok x Q)
end
theorem qG{p q:Ordering}(h:ec p q=.eq):p=.eq/\q=.eq:=by obtain⟨⟩:=p<;>first|exact⟨rfl,h⟩|cases h
theorem Jg:∀{a b:List Int},oC a b=.eq->a=b
|[],[],_=>y
|x::ar,Q::bD,h=>(Qf (qG h).1)▸(Jg (qG h).2)▸y
theorem Qi{x:Int}(h:V.bH (.X x) b=.eq):V.X x=b:=by
 rw[V.sZ]at h;have e:=Jg (qG h).1;cases b with
 |X Q=>exact bA _ (fH (fH e).2).1
 |_=>exact aG (fH e).1 (by decide)
theorem Qj(h:V.bH (.cG x) b=.eq):V.cG x=b:=by
 rw[V.sZ]at h;have e:=Jg (qG h).1;cases b with
 |cG Q=>obtain⟨⟨x⟩⟩:=x;obtain⟨⟨Q⟩⟩:=Q;exact bA (λl=>V.cG ⟨⟨l⟩⟩) (uV (λz z e=>Int.ofNat.inj e)|>.mp (fH e).2)
 |_=>exact aG (fH e).1 (by decide)
theorem g?(F:∀{a b:V},V.gh n a=ak->V.bH a b=.eq->a=b):∀{a b:List V},V.fu n a=ak->V.hA a b=.eq->a=b:=by
 intro a;induction a with
 |nil=>intro b _ h;cases b with
  |nil=>rfl
  |cons=>cases h
 |cons x ar i=>intro b p h;cases b with
  |nil=>cases h
  |cons Q bD=>rw[F (nU p).1 (qG h).1,i (nU p).2 (qG h).2]
theorem V.uc:∀{a b:V},V.gh n a=ak->V.bH a b=.eq->a=b:=by
 induction n with
 |zero=>intro a b p h;cases a with
  |X x=>exact Qi h
  |cG x=>exact Qj h
  |_=>exact aG p dT
 |succ n F=>intro a b p h;cases a with
  |X x=>exact Qi h
  |cG x=>exact Qj h
  |Y l=>
   rw[V.sZ]at h;have e:=Jg (qG h).1;cases b with
   |Y G=>exact bA _ (g? F p (qG h).2)
   |_=>exact aG (fH e).1 (by decide)
  |_=>exact aG p dT
theorem V.xE(a:V):V.bH a a=.eq:=by
 have:=V.AQ a a;cases h:V.bH a a with
 |eq=>rfl
 |lt=>rw[h]at this;cases this
 |gt=>rw[h]at this;cases this
variable{s:aN}
theorem Kb(P:R.units+n<fp)(F:∀{a b:V} {u H:aw},hJ I s.heap n a u->hJ I s.heap n b H->V.ok a b->pW R s u H (V.bH a b==.lt)):∀{h:List V} {ar bD:List aw},V.fu n Y=ak->V.fu n h=ak->V.wb Y h->ci I s.heap Y ar->ci I s.heap h bD->∀{fin:Bool},fin=dV (D ar<D bD)->su R s fin (ar.zip bD) (V.hA Y h==.lt):=by
 induction Y with
 |nil=>
  intro h ar bD _ _ _ U W fin;refine U.nil ?_;cases h with
  |nil=>exact W.nil λZ=>Z.symm
  |cons b h=>exact W.cons λH r x x Z=>Z.symm
 |cons a Y i=>
  intro h ar bD t O C U W fin;refine U.cons λu gU J cK=>?_;cases h with
  |nil=>exact W.nil λZ=>Z.symm
  |cons b h=>
   refine W.cons λH aX j l Z=>?_;have p:=nU t;have c:=nU O;refine⟨V.dE a b,Ef P p.1 c.1 J j,λal=>?_,λal=>?_⟩
   ·have e:=V.fE.mp al;show su _ _ _ _ (ec (V.bH a b) _==.lt);rw[←e,V.xE];exact i p.2 c.2 (C.1 e) cK l (Z.trans (decide_eq_decide.mpr Xm))
   ·have Q:=V.mX.mp al;have:=F (iI p.1 J) (iI c.1 j) (C.2 Q);show pW _ _ _ _ (ec (V.bH a b) _==.lt);cases X:V.bH a b with
    |eq=>exact aG (V.uc p.1 X) Q
    |lt=>rw[X]at this;exact this
    |gt=>rw[X]at this;exact this
theorem yB{p:Ordering}:(ec p .eq==.lt)=(p==.lt):=by obtain⟨⟩:=p<;>rfl
theorem Qh(a:List Nat):∀b:List Nat,(oC (a.map Int.ofNat) (b.map Int.ofNat)==.lt)=dV (a<b):=by
 induction a with
 |nil=>
  intro b;cases b with
  |nil=>exact(decide_eq_false (WG _)).symm
  |cons Q bD=>exact(decide_eq_true (List.nil_lt_cons ..)).symm
 |cons x ar F=>
  intro b;cases b with
  |nil=>exact(decide_eq_false (WG _)).symm
  |cons Q bD=>
   show(ec (kz (Int.ofNat x) (Int.ofNat Q)) _==.lt)=_;refine(Dd x Q).elim (λh=>?_) λh=>h.elim (λh=>?_) λh=>?_
   ·rw[show kz (Int.ofNat x) (Int.ofNat Q)=.lt from cg (lH.mpr h)];exact(decide_eq_true (GU.mpr (.inl h))).symm
   ·rw[h,show kz (Int.ofNat Q) (Int.ofNat Q)=.eq from(bV (VY _)).trans (bV (VY _))];exact(F bD).trans (decide_eq_decide.mpr ⟨λq=>GU.mpr (.inr ⟨y,q⟩),λq=>(GU.mp q).elim (λq=>aG q (ic _)) And.right⟩)
   ·rw[show kz (Int.ofNat x) (Int.ofNat Q)=.gt from(bV (pR.mpr (GM.mpr (dK h)))).trans (cg (lH.mpr h))];exact(decide_eq_false λq=>(GU.mp q).elim (Nc h) λq=>ic _ (q.1▸h)).symm
theorem Kk:∀{R:ez} {a b:V} {u H:aw},R.units+n<fp->hJ I s.heap n a u->hJ I s.heap n b H->V.ok a b->pW R s u H (V.bH a b==.lt):=by
 induction n using tT with
 |ind n F=>
  intro R a b u H W t Z C;have f:n-1<n->R.in1.units+(n-1)<fp:=λh=>FP W h;cases t with
  |@X i=>
   obtain⟨j,rfl⟩:=C;cases Z;intro prog w E af h;refine Zz ?_;have:(V.bH (.X i) (.X j)==.lt)=dV (i<j):=by
    rw[←Jf];show(ec (ec (kz i j) .eq) .eq==.lt)=_;rw[yB,yB]
   rw[←this];exact h
  |@cG i=>
   obtain⟨j,rfl⟩:=C;cases Z;intro prog w E af h;refine P.lt_str ?_;have:(V.bH (.cG i) (.cG j)==.lt)=dV (i.cps.toList<j.cps.toList):=by
    rw[←Qh];show(ec (oC _ _) .eq==.lt)=_;rw[yB];rfl
   rw[this]at h;simpa using h
  |Y aR ab ac bo=>
   obtain⟨G,rfl,C⟩:=C;cases Z with
   |Y _ c U O=>exact pW.abM (kQ ab) (kQ c) (er (dP _ _) W) (Kb (f aR) (F _ aR (f aR)) ac U C bo O ((jt ..)▸(jt ..)▸y))
end
section
variable{s:aN}
inductive VP(I:cw)(h:cv)(n:Nat):V->aw->Prop
|X {i:Int} {t:mQ}:VP I h n (.X i) (.int i t)
|cG {x:bj} {t:mQ}:VP I h n (.cG x) (.str x t)
|Y {k:Nat} {l:List V} {a:aZ} {ar:Array aw}:n-1<n->h.get? a=A (jU ar k)->V.iF (n-1) l=ak->ci I h l ar.toList->VP I h n (.Y l) (.ref a)
theorem rK{a:V}(p:V.hm n a=ak)(r:cf I h a u):VP I h n a u:=by
 cases a with
 |X i=>exact r.i λt=>.X
 |cG x=>exact r.s λt=>.cG
 |Y l=>cases n with
  |zero=>exact aG p dT
  |succ n=>exact r.t λa ar k z ab ac=>.Y (jO _) ab p ac
 |_=>obtain⟨⟩:=n<;>exact aG p dT
theorem pD{x:V}(h:V.iF n (x::l)=ak):V.hm n x=ak/\V.iF n l=ak:=bx h
theorem xT:∀{n:Nat} {H:V},V.hm n H=ak->V.gh n H=ak:=by
 intro n;induction n with
 |zero=>intro H p;obtain⟨⟩:=H<;>first|exact p|cases p
 |succ n F=>
  have Z:∀l,V.iF n l=ak->V.fu n l=ak:=λl=>by
   induction l with
   |nil=>exactλz=>y
   |cons x l i=>exactλp=>(wq _ _).mpr ⟨F (pD p).1,i (pD p).2⟩
  intro H p;obtain⟨⟩:=H<;>first|exact p|exact Z _ p|cases p
mutual
noncomputable def kh:V->Nat
|.Y l=>xH l+1
|_=>1
noncomputable def xH:List V->Nat
|[]=>0
|x::ar=>kh x+xH ar
end
theorem s3(d:List V)(ba:V):um w (d++[ba])=um w d++[gS w ba]:=by
 induction d with
 |nil=>rfl
 |cons u d F=>exact bA (_::·) F
theorem j2(d:List V)(ba:V):xH (d++[ba])=xH d+kh ba:=by
 induction d with
 |nil=>exact hN _ _
 |cons u d F=>exact(bA (kh u+·) F).trans (jn ..).symm
theorem yo:∀{R:ez} {E:aw->aN->Prop} {s:aN} {a:V} {H:aw} {af:Int->aN->Prop},R.units+n<fp->V.hm n a=ak->cf I s.heap a H->af (gS w a) {s with toks:=s.toks+kh a}->bb (dm prog w) R (pyHash H) af E s:=by
 induction n using tT with
 |ind n L=>
  intro R E s a H af N aE g q;cases rK aE g with
  |X=>exact wpAny_pyHash_int q
  |cG=>exact wpAny_pyHash_str q
  |@Y G l a ar aR u J M=>
   have W:s.TypeIs (.ref a) "tuple":=⟨_,u,y⟩
   clear g aE
   first|unfold pyHashByItsType|skip
   first|refine ap (wpAny_cRoomFor_or (.inr (er (dP _ _) N)) ?_)|skip
   refine ap (rj W Do.lookup (ap (rj W Do.lookup (ap (wpAny_callSpecialIfBoundUnlessNone?_slot W Do (kM Do W F.entry_tuple_hash ?_ (F.args_tuple_hash_1 _)))))));show bb _ _ (XZ (.ref a)>>=_) _ _ s;refine ap (wpAny_tupleItemsOf u rfl (ap ?_));rw[←FU];refine OZ _
    (λdq (b:Array Int) aJ=>∃hB left,l=hB++left/\V.iF (n-1) left=ak/\ci I s.heap left dq/\b.toList=um w hB/\aJ={s with toks:=s.toks+xH hB})
    _ ?_ ?_ _ _ ⟨[],l,y,J,M,y,y⟩
   ·rintro x dq b aJ ⟨hB,left,rfl,J,Z,al,rfl⟩;cases left with
    |nil=>exact aG Z (ju _ _)
    |cons Q left=>
     refine bp λP=>?_;obtain⟨r,c,e,ab,ac⟩:=Z;obtain⟨rfl,rfl⟩:=fH e;refine P<|ap (L (n-1) aR (s:={s with toks:=s.toks+xH hB}) (FP N aR) (pD J).1 ab ?_);have fin:∃d U,hB++Q::left=d++U/\V.iF (n-1) U=ak/\ci I s.heap U dq/\(b.push (gS w Q)).toList=um w d/\({s with toks:=s.toks+xH hB+kh Q}:aN)={s with toks:=s.toks+xH d}:=
      ⟨hB++[Q],left,by rw[ha];rfl,(pD J).2,ac,by rw[yN,al,s3],by rw[j2,jn]⟩
     first
      |exact bh fin
      |exact wpAny_bind (wpAny_pure (wpAny_pure fin))
   ·rintro b aJ ⟨hB,left,rfl,_,Z,al,rfl⟩;cases left with
    |cons Q left=>obtain⟨_,_,e,_⟩:=Z;exact aG e.symm (ju _ _)
    |nil=>
     rw[eF]at q;show bb _ _ (retInt (zS b.toList)) _ _ _;rw[al];refine wpAny_ret_mkInt ?_;show bb _ _ (if(dV (-(2:Int)^63<=zS (um w hB))&&dV (zS (um w hB)<2^63))=ak then _ else _) af E _;change af (if _ then _ else _) _ at q;by_cases Z:(dV (-(2:Int)^63<=zS (um w hB))&&dV (zS (um w hB)<2^63))=ak
     ·rw[cg Z]at q⊢;exact bh q
     ·rw[bV Z]at q⊢;exact ap (li (bh q))
theorem KT:∀{R:ez} {E:aw->aN->Prop} {s:aN} {a:V} {H:aw} {af:Bool->aN->Prop},V.hm n a=ak->cf I s.heap a H->af ak s->bb (dm prog w) R (eqIsQuiet n H) af E s:=by
 induction n with
 |zero=>
  intro R E s a H af aE g q;cases rK aE g with
  |X=>rw[Ia _ y];exact bh q
  |cG=>rw[Ia _ y];exact bh q
  |Y h=>exact aG h (ic _)
 |succ n N=>
  intro R E s a H af aE g q;cases rK aE g with
  |X=>rw[Ia _ y];exact bh q
  |cG=>rw[Ia _ y];exact bh q
  |@Y G l a ar aR u J U=>
   have W:s.TypeIs (.ref a) "tuple":=⟨_,u,y⟩
   clear g aE;unfold eqIsQuiet;refine ap (rj W F.slot_tuple_eq.lookup (ap (ri W isSubtype_tuple_tuple (ap (ql u y (ap ?_))))));rw[←FU];refine OZ _ (λdq r aJ=>r.1=aj/\aJ=s/\∃left,V.iF n left=ak/\ci I s.heap left dq) _ ?_ ?_ _ _ ⟨y,y,l,J,U⟩
   ·rintro H dq r aJ ⟨Z,rfl,left,J,rK⟩;cases left with
    |nil=>exact aG rK (ju _ _)
    |cons Q left=>refine bp λP=>?_;obtain⟨L,c,e,ab,ac⟩:=rK;obtain⟨rfl,rfl⟩:=fH e;exact P<|ap (N (pD J).1 ab (bh ⟨y,y,left,(pD J).2,ac⟩))
   ·rintro⟨M,cK⟩ aJ ⟨Z,rfl,_⟩;simp only at Z;subst Z;exact bh q
theorem cf.El:∀{a:V} {H:aw},V.hm n a=ak->cf I h a H->(∀b ar k,h.get? b=A (jU ar k)->au.get? b=A (jU ar k)/\b∉fq bF)->cf bF au a H:=by
 induction n using tT with
 |ind n F=>
  intro a H aE r k;cases rK aE r with
  |X=>exact r
  |cG=>exact r
  |@Y G l a ar aR u J Z=>
   refine⟨a,ar,G,y,(k _ _ _ u).2,(k _ _ _ u).1,?_⟩;clear aE r;generalize ar.toList=aX at Z;induction l generalizing aX with
   |nil=>exact Z
   |cons x l i=>exact bp λP=>Z.elim λH q=>q.elim λr U=>U.elim λe W=>W.elim λab ac=>P<|⟨H,r,e,F _ aR (pD J).1 ab k,i (pD J).2 _ ac⟩
open Classical in noncomputable def BV(prog:gr)(w:eU):HeapKind prog w (List V)where
 is:=λh l a=>V.iF 7 l=ak/\cf [] h (.Y l) (.ref a)
 hash:=λl=>gS w (.Y l)
 draws:=λl=>kh (.Y l)
 room:=λR=>R.units+8<fp
 inj:=λ{h a x Q} Z Y=>V.Y.inj (hJ.inj (I:=[]) (h:=h) (n:=8) (iI (xT (n:=8) (H:=.Y x) Z.1) Z.2) (iI (xT (n:=8) (H:=.Y Q) Y.1) Y.2))
 keeps:=λ{h au k a d C ag cJ} X u F U=>⟨X.1,cf.El (n:=8) X.1 X.2 λb ar G al=>⟨(U.2 b λe=>by
  rw[e,u]at al;obtain rfl:=dk al;cases F).trans al,afk⟩⟩
 pyHash:=λ{R E s k a af} W X q=>yo (I:=[]) (n:=8) (a:=.Y k) W X.1 X.2 q
 eqBool:=λ{R E s x Q a b af} W Z Y q=>by
  refine Ef (I:=[]) (n:=8) W (xT (n:=8) (H:=.Y x) Z.1) (xT (n:=8) (H:=.Y Q) Y.1) Z.2 Y.2 prog w E af ?_;have:V.dE (.Y x) (.Y Q)=dV (x=Q):=by
   rw[tB,V.fE,decide_eq_true_iff];exact⟨V.Y.inj,bA _⟩
  rw[this];exact q
 quiet:=λ{R E s k a af} X q=>KT (I:=[]) (n:=8) (a:=.Y k) X.1 X.2 q
end
section
variable{s:aN}
abbrev ct(B:bT):vj:=dm B.prog B.w
def iy(B:bT)(I:cw)(s:aN)(O:aA)(H:V)(af:aw->aN->Prop):Prop:=∀aI bF aJ,bL B bF O aJ->bB [] I s.heap bF aJ.heap->cf bF aJ.heap H aI->af aI aJ
theorem iy.fx{H:V}(q:iy B I s z H af)(ae:bL B I z s){aI:aw}(r:cf I s.heap H aI)(t:Nat):af aI {s with toks:=t}:=q _ _ _ (ae.toks t) bB.dd r
theorem iy.after{H:V}(S:bB [] I s.heap bF aJ.heap)(q:iy B I s z H af):iy B bF aJ z H af:=λaI t f a Z cK=>q aI t f a (S.trans Z) cK
def gw(B:bT)(f:aw->aw->kc aw)(x Q:V)(z:aA)(H:V)(O:aA):Prop:=∀Z o R E I s af,R.units+400<fp->bL B I z s->cf I s.heap x Z->cf I s.heap Q o->iy B I s O H af->bb (ct B) R (f Z o) af E s
def hH(B:bT)(f:aw)(ar:List V)(z:aA)(H:V)(O:aA):Prop:=∀Z R E I s af,R.units+400<fp->R.handled=aj->bL B I z s->ci I s.heap ar Z->iy B I s O H af->bb (ct B) R (ja f Z) af E s
theorem mF(e:n<=cZ):n<=mS:=aq e (by rw[Ii];decide)
theorem kP{R:ez}{b:Nat}(h:R.units+a<c)(Z:b+1<=a):R.in1.units+b<c:=by rw[zQ];exact er (jZ R.units 1 b▸gE Z _) h
theorem Ez{b:Nat}{R:ez}(h:R.units+a<c)(Z:b<=a):R.units+b<c:=er (gE Z _) h
structure mL(B:bT)(I:cw)(s:aN)(d:aZ)(ag:List (V×V))(dW:Array gW)(cJ:Nat):Prop where
 jF:s.heap.get? d=A (Jq dW cJ)
 dj:lF B.w I s.heap ag dW
 nodup:(ag.map (·.1)).Nodup
 hash:∀e∈ag,V.hm 8 e.1=ak
 mG:(d==vo)=aW
theorem bL.Z(ae:bL B I z s){ag:List (V×V)}{P:Prop}(aE:z[a]?=A (.Z ag))(k:∀d dW cJ,I[a]?=A (d,aj)->mL B I s d ag dW cJ->P):P:=by
 obtain⟨G,g,r⟩:=ae.objs a _ aE;cases r with
 |Z ab ac bo c=>exact k _ _ _ g ⟨ab,ac,bo,c,ae.mG _ (rP g (.head _))⟩
@[elab_as_elim]theorem bL.pB(ae:bL B I z s){ag:List (V×V)}{aI:aw}{P:aw->Prop}(aE:z[a]?=A (.Z ag))(r:cf I s.heap (.J a) aI)(k:∀d dW cJ,I[a]?=A (d,aj)->mL B I s d ag dW cJ->P (.ref d)):P aI:=ae.Z aE λd dW cJ g U=>r.J g▸k d dW cJ g U
theorem Je{H:V}(h:gs H=1):∃i,H=.X i:=by obtain⟨⟩:=H<;>first|exact⟨_,rfl⟩|cases h
theorem DX{H:V}(h:gs H=2):∃i,H=.cG i:=by obtain⟨⟩:=H<;>first|exact⟨_,rfl⟩|cases h
theorem g_{H:V}(h:gs H=3):∃i,H=.Y i:=by obtain⟨⟩:=H<;>first|exact⟨_,rfl⟩|cases h
theorem ta{ag:List (V×V)}{k:V}{i:Nat}(e:iT ag k=A i):∃H,ag[i]?=A (k,H)/\cX ag k=A H:=by refine bp λP=>(Wv.mp e).elim λaB Z=>Z.elim λal x=>P ?_;have ab:ag[i]?=A (k,ag[i].2):=(fO aB)▸(V.fE.mp al)▸y;exact⟨ag[i].2,ab,by unfold cX;rw[e,zI,ab];rfl⟩
theorem AV{ag:List (V×V)}{k:V}(e:iT ag k=aj):cX ag k=aj/\∀x∈ag,x.1≠k:=by refine⟨by unfold cX;rw[e];rfl,λx Z q=>?_⟩;have:=List.findIdx?_eq_none_iff.mp e x Z;rw[q,V.ms]at this;exact aG this.symm dT
theorem j_{ag:List (V×V)}{k H:V}(J:(ag.map (·.1)).Nodup)(h:ag[j]?=A (k,H)):iT ag k=A j:=by
 cases aB:iT ag k with
 |none=>exact aG y ((AV aB).2 _ (io h))
 |some i=>exact(ta aB).elim λu a=>a.elim λZ x=>bA A (uw J (by rw[fI,Z];rfl) (by rw[fI,h];rfl))
variable{dW:Array gW} {d:aZ} {k:V} {mk:aw}
theorem lF.at(r:lF w I h ag dW){i:Nat}{x:V×V}(Z:ag[i]?=A x):∃e,dW[i]?=A e/\Cr w I h x e:=by have aB:i<dW.size:=r.J▸(hZ.mp Z).1;exact⟨_,mI aB,r.get i x _ Z (mI aB)⟩
theorem lF.mem(r:lF w I h ag dW){e:gW}(U:e∈dW):∃x,x∈ag/\Cr w I h x e:=by refine bp λP=>(Array.mem_iff_getElem.mp U).elim λi Y=>Y.elim λaB q=>P ?_;have Z:i<D ag:=r.J▸aB;exact⟨ag[i],pV Z,r.get i _ _ (fO Z) ((mI aB)▸q▸y)⟩
theorem lF.idx(q:aw->Bool)(r:lF w I h ag dW)(Y:∀x∈ag,∀H,cf I h x.1 H->q H=V.dE x.1 k):(dW.findIdx? λe=>q e.key)=iT ag k:=by
 rw[←Array.toArray_toList (xs:=dW),List.findIdx?_toArray];have e:dW.toList.map (λe=>q e.key)=ag.map λx=>V.dE x.1 k:=uS λi=>by
  rw[fI,fI,jJ];cases Z:ag[i]? with
  |none=>rw[Ci.mpr (r.J▸wK.mp Z)];rfl
  |some x=>refine bp λP=>?_;refine(r.at Z).elim λe Q=>Q.elim λU X=>?_;refine P ?_;exact U▸bA A (Y x (io Z) _ X.key)
 have:=bA (CL id) e;rw[Ww,Ww]at this;exact this
open Classical in theorem lF.abN(r:lF w I h ag dW)(X:∀x∈ag,∃l,x.1=.Y l/\V.iF 7 l=ak):∃ar:List (List V×aZ×aw),dW.toList=ar.map (YS (BV prog w))/\(∀x∈ar,(BV prog w).is h x.1 x.2.1)/\ar.map (λx=>V.Y x.1)=ag.map (·.1):=by
 have N:∀n,n<=D ag->∃ar:List (List V×aZ×aw),dW.toList.take n=ar.map (YS (BV prog w))/\(∀x∈ar,(BV prog w).is h x.1 x.2.1)/\ar.map (λx=>V.Y x.1)=(ag.map (·.1)).take n:=by
  intro n;induction n with
  |zero=>exactλz=>⟨[],y,λz h=>aG h nv,y⟩
  |succ n F=>
   intro J;refine bp λP=>?_;obtain⟨ar,o,bq,p⟩:=F (jo J);have Z:=fO (Xb J);obtain⟨e,U,Q⟩:=r.at Z;obtain⟨l,bX,Y⟩:=X _ (pV (Xb J));have W:=Q.key;rw[bX]at W;have g:=Q.hash;rw[bX]at g;obtain⟨a,bD,G,lQ,_⟩:=id W;refine P<|⟨ar++[(l,a,e.val)],?_,λx Z=>?_,?_⟩
   ·rw[sy,jJ,U,o,eI];refine bp λP=>?_;obtain⟨ab,ac,bo⟩:=e;refine P ?_;simp only at lQ g;rw[lQ,g];rfl
   ·refine(ew.mp Z).elim (λZ=>?_) λZ=>?_
    ·exact bq x Z
    ·refine bp λP=>?_;obtain rfl:=cB.mp Z;exact P<|⟨Y,lQ▸cf.El (n:=8) Y W λb M k al=>⟨al,afk⟩⟩
   ·rw[eI,p,sy,fI,Z,xa,bX];rfl
 have aR:D dW.toList=D ag:=(jt ..)▸r.J▸y;have:=N (D ag) (cu _);rwa[Hk (fi aR),Hk (gu (cu _))]at this
open Classical in theorem Ea{af:Option Nat->aN->Prop}(w:R.units+8<fp)(U:mL B I s d ag dW cJ)(c:iM ag k)(W:cf I s.heap k mk)(q:af (iT ag k) s):bb (ct B) R (dictFind d mk (gS B.w k)) af E s:=by
 refine c.elim λaY P=>?_;cases rK aY W with
 |@X i t=>
  refine Zt (knd:=intKind B.prog B.w) (k:=i) (YX B.prog B.w i t) U.jF y (λe F=>?_) ?_
  ·exact(U.dj.mem F).elim λx h=>h.elim λZ N=>(Je (P x Z)).elim λj M=>(M▸N.key).elim λu bP=>⟨j,bP▸YX B.prog B.w j u,N.hash.trans (bA _ M)⟩
  ·rw[U.dj.idx (k:=.X i) _ λx Z H rK=>?_];exact q;refine(Je (P x Z)).elim λj M=>?_;rw[M]at rK⊢;exact rK.i λu=>(DQ ..).symm
 |@cG i t=>
  refine Zt (knd:=tY B.prog B.w) (k:=i) (OS B.prog B.w i t) U.jF y (λe F=>?_) ?_
  ·exact(U.dj.mem F).elim λx C=>C.elim λZ N=>(DX (P x Z)).elim λj M=>(M▸N.key).elim λu bP=>⟨j,bP▸OS B.prog B.w j u,N.hash.trans (bA _ M)⟩
  ·rw[U.dj.idx (k:=.cG i) _ λx Z H rK=>?_];exact q;refine(DX (P x Z)).elim λj M=>?_;rw[M]at rK⊢;exact rK.s λu=>(IS ..).symm
 |@Y G l a ar aR A2 J A1=>
  obtain⟨bD,o,bq,L⟩:=U.dj.abN (prog:=B.prog) λx Z=>by
   exact(g_ (P x Z)).elim λj M=>⟨j,M,(bA (V.hm 8) M).symm.trans (U.hash x Z)⟩
  have g:∀(j:Nat) l p,bD[j]?=A (l,p)->∃H,ag[j]?=A (.Y l,H):=λj l p M=>by
   have:=bA (λl:List V=>l[j]?) L;simp only[fI,M,xa]at this;cases Z:ag[j]? with
   |none=>rw[Z]at this;exact aG this (gJ _)
   |some x=>rw[Z]at this;exact⟨x.2,bA A (jz (dk this).symm y)⟩
  refine wpAny_dictFind_heap (knd:=BV B.prog B.w) (xs:=bD) (k:=l) w ⟨J,cf.El (n:=8) aY W λb A3 k al=>⟨al,afk⟩⟩ U.jF y o bq ?_ (λO=>?_) λj p M=>?_
  ·have:=L▸U.nodup;rw[show bD.map (λx=>V.Y x.1)=(bD.map (·.1)).map V.Y from(ed ..).symm]at this;exact(oZ.mp this).imp λf e=>f (bA _ e)
  ·cases aB:iT ag (.Y l)with
   |none=>rw[aB]at q;exact q
   |some i=>
    refine(ta aB).elim λH A0=>A0.elim λrK z=>?_;have:=bA (λl:List V=>l[i]?) L;simp only[fI,rK,xa]at this;cases r:bD[i]? with
    |none=>rw[r]at this;exact aG this.symm (gJ _)
    |some Q=>rw[r]at this;have e:Q=(l,Q.2):=jz (V.Y.inj (dk (show A (V.Y Q.1)=A (V.Y l)from this))) y;exact aG (r.trans (bA A e)) (O i Q.2)
  ·refine(g j l p M).elim λH rK=>?_;rw[j_ U.nodup rK]at q;exact q
end
section
variable{s:aN} {dW:Array gW} {d:aZ} {k:V} {mk:aw}
theorem mL.typeIs(U:mL B I s d ag dW cJ):s.TypeIs (.ref d) "dict":=⟨_,U.jF,y⟩
theorem Jp{af:Option aw->aN->Prop}(Y:R.units+8<fp)(U:mL B I s d ag dW cJ)(X:iM ag k)(W:cf I s.heap k mk)(h:∀t C,(∀H,cX ag k=A H->∃aI,C=A aI/\cf I s.heap H aI)->(cX ag k=aj->C=aj)->af C {s with toks:=t}):bb (ct B) R (Dy d mk) af E s:=by
 unfold Dy
 try with_reducible refine eX ?_
 refine ap (yo (n:=8) Y X.1 W (ap (Ea (s:={s with toks:=s.toks+kh k}) Y ⟨U.jF,U.dj,U.nodup,U.hash,U.mG⟩ X W ?_)));cases aB:iT ag k with
 |none=>exact bh (h _ _ (λH e=>aG (mM ((AV aB).1.symm.trans e)) (gJ _)) λx=>y)
 |some i=>refine bp λP=>?_;refine(ta aB).elim λH L=>L.elim λM Z=>?_;refine(U.dj.at M).elim λe J=>J.elim λN F=>?_;refine P ?_;refine ap (Ik (s:={s with toks:=s.toks+kh k}) U.jF y ?_);exact N▸bh (h _ _ (λu e=>⟨_,y,dk (Z.symm.trans e)▸F.val⟩) λe=>aG (Z.symm.trans e) (gJ _))
theorem nA(aE:z[a]?=A (.Z ag))(X:iM ag k)(W:cX ag k=A H):gw B nE (.J a) k z H z:=by
 intro N P R E I s af Z ae n J q;refine ae.pB aE n λd dW cJ g U=>?_;have Y:=U.typeIs;unfold nE
 try with_reducible refine eX ?_
 refine ap (DF Y (by decide) (ap (pj (name:=jA "__getitem__") Y OQ (kM OQ Y entry_dict_getitem ?_ (args_dict_getitem _ _)))));show bb _ _ (Dy d P>>=_) _ _ s;refine ap (Jp (kP Z (aF y)) U X J λt C ab ac=>?_);obtain⟨aI,rfl,r⟩:=ab H W;exact bh ⟨aI,y,bh (q.fx ae r t)⟩
theorem Qv{af:Bool->aN->Prop}(P:R.units+400<fp)(U:mL B I s d ag dW cJ)(X:iM ag k)(W:cf I s.heap k mk)(q:∀t,af (cX ag k).isSome {s with toks:=t}):bb (ct B) R (contains (.ref d) mk) af E s:=by
 have Y:=U.typeIs;unfold contains
 try with_reducible refine eX ?_
 refine ap (rj Y OP.lookup (ap (wpAny_callSpecialUnlessNone?_slot (name:=jA "__contains__") Y OP (kM OP Y entry_dict_contains ?_ (args_dict_contains _ _)))));show bb _ _ (Dy d mk>>=_) _ _ s;refine ap (Jp (kP P (aF y)) U X W λt C ab ac=>?_);have q:=q t;cases Z:cX ag k with
 |some H=>obtain⟨aI,rfl,r⟩:=ab H Z;rw[Z]at q;exact bh ⟨_,y,vr q⟩
 |none=>obtain rfl:=ac Z;rw[Z]at q;exact ap (wpAny_pendingKey_other U.mG (bh ⟨_,y,vr q⟩))
theorem Xq(aE:z[a]?=A (.Z ag))(X:iM ag k):gw B (kq .In) k (.J a) z (.dF (cX ag k).isSome) z:=by intro Y o R E I s af Z ae n J q;exact ae.pB aE J λd dW cJ g U=>ap (Qv Z U X n λt=>bh (q.fx ae y t))
theorem Xr(aE:z[a]?=A (.Z ag))(X:iM ag k):gw B (kq .NotIn) k (.J a) z (.dF !(cX ag k).isSome) z:=by intro Y o R E I s af Z ae n J q;exact ae.pB aE J λd dW cJ g U=>ap (Qv Z U X n λt=>bh (q.fx ae y t))
theorem Gd(aE:z[a]?=A (.Z ag))(X:iM ag k):hH B (.builtin "dict.get") [.J a,k,oE] z ((cX ag k).getD oE) z:=by
 intro P R E I s af Y J ae r q;refine r.cons λN P n r=>r.two λmk m W bz=>ae.pB aE n λd dW cJ g U=>kM Yp U.typeIs adQ ?_ (adA _ _ _);show bb _ _ (Dy d mk>>=_) _ _ s;refine ap (Jp (kP Y (aF y)) U X W λt C ab ac=>?_);cases Z:cX ag k with
 |some H=>refine(ab H Z).elim λaI M=>M.elim λe r=>?_;obtain rfl:=e;rw[Z]at q;exact bh ⟨aI,y,q.fx ae r t⟩
 |none=>obtain rfl:=ac Z;rw[Z]at q;exact ap (wpAny_missed_other U.mG (bh ⟨m,y,q.fx ae bz t⟩))
theorem F'{l G:List (V×V)}(e:l.map (·.1)=G.map (·.1))(J:(G.map (·.1)).Nodup)(Z:∀e∈G,V.hm 8 e.1=ak):(l.map (·.1)).Nodup/\∀e∈l,V.hm 8 e.1=ak:=⟨e▸J,λx X=>(bJ.mp (e▸gd (f:=λx:V×V=>x.1) X)).elim λQ c=>c.elim λY q=>(bA (V.hm 8) q).symm.trans (Z Q Y)⟩
theorem bL.Jr(ae:bL B I z s)(g:I[a]?=A (d,aj))(U:mL B I s d ag dW cJ)(Z:hx d s.heap aJ.heap)(u:aJ.heap.get? d=A (Jq Ju Z8))(Y:lF B.w I s.heap gP Ju)(J:(gP.map (·.1)).Nodup/\∀e∈gP,V.hm 8 e.1=ak)(Q:aJ.gens=s.gens)(v:aJ.os=s.os):bL B I (z.set a (.Z gP)) aJ/\bB [] I s.heap I aJ.heap:=ae.upd g (ae.Sm g U.jF λq=>aG (kL q) (by decide)) (.head _) Z (.Z u (Y.Y (aD:=[]) (bB.ER (rP g (.head _)) Z ⟨_,u⟩) hn.nil) J.1 J.2) Q v
theorem bL.QJ(ae:bL B I z s)(g:I[a]?=A (d,aj))(U:mL B I s d ag dW cJ)(X:iM ag k)(aB:iT ag k=aj)(W:cf I s.heap k mk)(Z:cf I s.heap H aI)(t:Nat):bL B I (z.set a (.Z (ag++[(k,H)]))) {s with heap:=s.heap.update d (xh (·.push ⟨gS B.w k,mk,aI⟩)),toks:=t}/\bB [] I s.heap I (s.heap.update d (xh (·.push ⟨gS B.w k,mk,aI⟩))):=by
 refine ae.Jr (aJ:={s with heap:=s.heap.update d (xh (·.push ⟨gS B.w k,mk,aI⟩)),toks:=t}) g U (kJ ..) (rb _ U.jF y) ⟨by rw[yM,cp,U.dj.J];rfl,λi x e N P=>?_⟩ ⟨?_,λe P=>?_⟩ y y
 ·by_cases M:i<D ag
  ·rw[jY M]at N;rw[Vc (U.dj.J▸M)]at P;exact U.dj.get i x e N ((mI (U.dj.J▸M)).trans P)
  ·rw[iN (ib M)]at N;have aR:i-D ag=0:=wQ.mp (hZ.mp N).1;have o:i=dW.size:=U.dj.J▸mh (Da aR) (ib M);rw[aR]at N;obtain rfl:=dk N;rw[o,Vd]at P;obtain rfl:=dk P;exact⟨y,W,Z⟩
 ·rw[eI,oX];exact⟨U.nodup,jm ..,λx N Q Y e=>(bJ.mp N).elim λba L=>L.elim λj q=>(AV aB).2 ba j (q.trans (e.trans (cB.mp Y)))⟩
 ·refine(ew.mp P).elim (λP=>?_) λP=>?_
  ·exact U.hash e P
  ·obtain rfl:=cB.mp P;exact X.1
theorem bL.i7(ae:bL B I z s)(g:I[a]?=A (d,aj))(U:mL B I s d ag dW cJ){i:Nat}(aB:iT ag k=A i)(Z:cf I s.heap H aI)(t:Nat):bL B I (z.set a (.Z (ag.modify i λe=>(e.1,H)))) {s with heap:=s.heap.update d (Oc (·.modify i λe=>{e with val:=aI})),toks:=t}/\bB [] I s.heap I (s.heap.update d (Oc (·.modify i λe=>{e with val:=aI}))):=by
 refine ae.Jr (aJ:={s with heap:=s.heap.update d (Oc (·.modify i λe=>{e with val:=aI})),toks:=t}) g U (kJ ..) (rb _ U.jF y) ⟨by rw[Array.size_modify,WB,U.dj.J],λj x e W Y=>?_⟩
  (F' (uS λj=>?_) U.nodup U.hash) y y
 ·rw[Wz]at W;rw[Array.getElem?_modify]at Y;by_cases X:i=j
  ·rw[cg X]at Y;obtain⟨Q,b,rfl⟩:=lN.mp W;rw[cg X];obtain⟨P,N,rfl⟩:=lN.mp Y;have:=U.dj.get j Q P b N;exact⟨this.hash,this.key,Z⟩
  ·rw[bV X]at Y;obtain⟨Q,b,rfl⟩:=lN.mp W;rw[bV X];exact U.dj.get j _ e b Y
 ·rw[fI,Wz,fI];cases ag[j]? with
  |none=>rfl
  |some x=>show A (if i=j then(x.1,H)else x).1=A x.1;split<;>rfl
theorem QK{af:Unit->aN->Prop}(Y:R.units+8<fp)(ae:bL B I z s)(g:I[a]?=A (d,aj))(U:mL B I s d ag dW cJ)(X:iM ag k)(W:cf I s.heap k mk)(Z:cf I s.heap H aI)(P:D ag<=cZ)(q:∀aJ,bL B I (z.set a (.Z (hp ag k H))) aJ->bB [] I s.heap I aJ.heap->af () aJ):bb (ct B) R (HZ d mk aI) af E s:=by
 unfold HZ
 try with_reducible refine eX ?_
 refine ap (yo (n:=8) Y X.1 W ?_);unfold dictSetHashed
 try with_reducible refine eX ?_
 refine ap (Ea (s:={s with toks:=s.toks+kh k}) Y ⟨U.jF,U.dj,U.nodup,U.hash,U.mG⟩ X W ?_);unfold hp at q;cases aB:iT ag k with
 |none=>rw[aB]at q;have x:=ae.QJ g U X aB W Z (s.toks+kh k);exact ap (li (Pg (hz:=U.dj.J▸mF P) (s:={s with toks:=s.toks+kh k}) U.jF y (q _ x.1 x.2)))
 |some i=>rw[aB]at q;have x:=ae.i7 g U aB Z (s.toks+kh k);exact ap (li (ap (wpAny_updateDict (s:={s with toks:=s.toks+kh k}) U.jF y (wpAny_point (q _ x.1 x.2)))))
def It(B:bT)(x Q H:V)(z O:aA):Prop:=∀Z o aI R E I s af,R.units+400<fp->bL B I z s->cf I s.heap x Z->cf I s.heap Q o->cf I s.heap H aI->(∀aJ,bL B I O aJ->bB [] I s.heap I aJ.heap->af () aJ)->bb (ct B) R (Ig Z o aI) af E s
theorem uR(aE:z[a]?=A (.Z ag))(X:iM ag k)(W:D ag<=cZ):It B (.J a) k H z (z.set a (.Z (hp ag k H))):=by
 intro N o aI R E I s af P ae n J Z q;refine ae.pB aE n λd dW cJ g U=>?_;have Y:=U.typeIs;unfold Ig
 try with_reducible refine eX ?_
 refine ap (DF Y (by decide) (ap (pj (name:=jA "__setitem__") Y Zk (kM Zk Y entry_dict_setitem ?_ (args_dict_setitem _ _ _)))));refine ap (Im Y ?_);show bb _ _ (HZ d o aI>>=_) _ _ s;exact ap (QK (kP P (aF y)) ae g U X J Z W λaJ t r=>bh ⟨.none,y,bh (q aJ t r)⟩)
theorem TP(J:R.units+400<fp)(U:mL B I s d ag dW cJ)(X:iM ag k)(W:cf I s.heap k mk)(ab:∀i e t,iT ag k=A i->dW[i]?=A e->af e.val {s with toks:=t})(ac:iT ag k=aj->∀t,D ag<=cZ/\af m {s with heap:=s.heap.update d (xh (·.push ⟨gS B.w k,mk,m⟩)),toks:=t}):bb (ct B) R (ja (.builtin "dict.setdefault") [.ref d,mk,m]) af E s:=by
 have Y:=U.typeIs;have o:R.in1.units+8<fp:=kP J (aF y);refine kM Yr Y adU ?_ (adE _ _ _);refine ap ?_;refine ap (Im Y ?_);refine bh ?_;show bb _ _ (if(d==vo)=ak then _ else(YQ d mk m>>=_)) _ _ s;rw[bV ((U.mG ..)▸dT)];refine ap ?_;unfold YQ
 try with_reducible refine eX ?_
 refine ap (yo (n:=8) o X.1 W ?_);refine ap (Ea (s:={s with toks:=s.toks+kh k}) o ⟨U.jF,U.dj,U.nodup,U.hash,U.mG⟩ X W ?_);cases aB:iT ag k with
 |none=>refine bp λP=>?_;refine(ac aB (s.toks+kh k)).elim λN q=>?_;refine P ?_;exact ap (li (ap (Pg (hz:=U.dj.J▸mF N) (s:={s with toks:=s.toks+kh k}) U.jF y (bh (bh ⟨m,y,q⟩)))))
 |some i=>refine bp λP=>?_;refine(ta aB).elim λH L=>L.elim λF N=>?_;refine(U.dj.at F).elim λe M=>M.elim λZ C=>?_;refine P ?_;refine ap (Ik (s:={s with toks:=s.toks+kh k}) U.jF y ?_);exact Z▸ap (li (bh (bh ⟨_,y,ab i e _ aB Z⟩)))
theorem Gl(aE:z[a]?=A (.Z ag))(X:iM ag k)(J:cX ag k=aj)(Z:D ag<=cZ):hH B (.builtin "dict.setdefault") [.J a,k,oE] z oE (z.set a (.Z (ag++[(k,oE)]))):=by
 intro P R E I s af Y N ae r q;refine r.cons λM P n r=>r.two λmk m W bz=>ae.pB aE n λd dW cJ g U=>TP Y U X W (λi e t aB=>aG ((ta aB).choose_spec.2.symm.trans J) (gJ _)) λaB t=>⟨Z,?_⟩
 have x:=ae.QJ g U X aB W bz t;exact q _ _ _ x.1 x.2 (bz.fl x.2)
theorem Gm(aE:z[a]?=A (.Z ag))(X:iM ag k)(J:cX ag k=A H):hH B (.builtin "dict.setdefault") [.J a,k,oE] z H z:=by intro M R E I s af Z L ae r q;refine r.cons λF M n r=>r.two λmk m W bz=>ae.pB aE n λd dW cJ g U=>TP Z U X W (λi e t aB Y=>?_) λaB=>aG (mM ((AV aB).1.symm.trans J)) (gJ _);refine bp λP=>?_;obtain⟨u,Z,N⟩:=ta aB;obtain rfl:=dk (J.symm.trans N);exact P<|q.fx ae (U.dj.get i _ _ Z Y).val t
end
section
variable{s:aN} {dW:Array gW} {d:aZ} {k:V} {mk:aw}
theorem bL.dictDel(ae:bL B I z s)(g:I[a]?=A (d,aj))(U:mL B I s d ag dW cJ){i:Nat}(aB:iT ag k=A i)(t:Nat):bL B I (z.set a (.Z (kA ag k))) {s with heap:=s.heap.update d (xh (·.eraseIdxIfInBounds i)),toks:=t}/\bB [] I s.heap I (s.heap.update d (xh (·.eraseIdxIfInBounds i)))/\(dW.eraseIdxIfInBounds i).size<=dW.size:=by
 refine bp λP=>(ta aB).elim λu n=>n.elim λW _=>P ?_;have X:i<dW.size:=U.dj.J▸(hZ.mp W).1;have o:kA ag k=ag.eraseIdx i:=by unfold kA;rw[aB]
 have bq:dW.eraseIdxIfInBounds i=dW.eraseIdx i:=dif_pos X;rw[o];have r:=List.eraseIdx_sublist ag i;have:=ae.Jr (aJ:={s with heap:=s.heap.update d (xh (·.eraseIdxIfInBounds i)),toks:=t}) (gP:=ag.eraseIdx i) (Ju:=dW.eraseIdxIfInBounds i) g U (kJ ..)
  (rb _ U.jF y) ⟨by rw[bq,Vf,Hd,cg (U.dj.J▸X),U.dj.J],λj x e Y Z=>?_⟩ ⟨U.nodup.sublist (r.map _),λe Z=>U.hash e (r.subset Z)⟩ y y
 ·exact⟨this.1,this.2,by rw[bq,Vf];exact mP _ _⟩
 ·rw[bq,Array.getElem?_eraseIdx]at Z;rw[List.getElem?_eraseIdx]at Y;split at Z
  ·rename_i M;rw[cg M]at Y;exact U.dj.get _ _ _ Y Z
  ·rename_i M;rw[bV M]at Y;exact U.dj.get _ _ _ Y Z
theorem Vo{i:Int}(aE:z[a]?=A (.Z ag))(X:iM ag (.X i))(N:cX ag (.X i)=A H)(hf:D ag<=cZ):hH B (.builtin "dict.pop") [.J a,.X i] z H (z.set a (.Z (kA ag (.X i)))):=by
 intro w R E I s af p J ae r q;refine r.two λc mk l W=>ae.pB aE l λd dW cJ g U=>W.i λt=>?_;have W:cf I s.heap (.X i) (.int i t):=⟨t,y⟩
 have Y:=U.typeIs;have o:R.in1.units+8<fp:=kP p (aF y);cases M:iT ag (.X i)with
 |none=>exact aG (mM ((AV M).1.symm.trans N)) (gJ _)
 |some j=>
 refine bp λP=>?_;obtain⟨u,f,x⟩:=ta M;obtain rfl:=dk (N.symm.trans x);obtain⟨e,L,m⟩:=U.dj.at f;obtain⟨hc,k,b⟩:=ae.dictDel g U M (s.toks+kh (.X i));refine P ?_;have F:=q _ _ _ hc k (m.val.fl k);have C:=U.dj.J▸mF hf;clear q hc k;refine kM Yq Y adT ?_ (adD _ _);refine ap<|ap (Im Y (bh ?_));have Z:(keyPart (Value.int i t)).isSome=ak:=y;refine ap (bh (ap ?_))
 try with_reducible refine eX ?_
 refine ap (yo (n:=8) o X.1 W (ap (Ea (s:={s with toks:=s.toks+kh (.X i)}) o ⟨U.jF,U.dj,U.nodup,U.hash,U.mG⟩ X W ?_)));rw[M];refine ap (Ik (s:={s with toks:=s.toks+kh (.X i)}) U.jF y ?_);rw[L];exact ap (Pg (hz:=C) (hf:=lg b) (s:={s with toks:=s.toks+kh (.X i)}) U.jF y (bh (ap (xn (bh ⟨_,y,F⟩)))))
theorem JQ{x:aZ}{az d:aZ}{ag:List gW}(ab:s.heap.get? x=A (vk az d))(ac:s.heap.get? d=A (Ac ag n)):InstAt s.heap x (vk az d) az (A (Ac ag n)):=⟨ab,y,y,ac⟩
structure Cz(B:bT)(I:cw)(s:aN)(x d:aZ)(c:Nat)(cd:List (Nat×V))(ag:List gW)(n:Nat):Prop where
 ok:Gp B c
 t8:(B.P.init c).isSome=ak
 ab:s.heap.get? x=A (vk (B.cls c) d)
 ac:s.heap.get? d=A (Ac ag n)
 fr:nt B I s.heap cd ag
@[elab_as_elim]theorem bL.JR(ae:bL B I z s){P:aw->Prop}(aE:z[a]?=A (.dH c cd))(r:cf I s.heap (.J a) aI)(k:∀x d ag n,I[a]?=A (x,A d)->Cz B I s x d c cd ag n->P (.ref x)):P aI:=by
 obtain⟨G,g,X⟩:=ae.objs a _ aE;cases X with
 |dH aR ab ac bo=>obtain⟨f,e⟩:=sF.mp aR;exact r.J g▸k _ _ _ _ g ⟨(ae.good.cls c f e).1,aR,ab,ac,bo⟩
theorem Sv{ag:List gW}(X:∀e∈ag,∃x t,e.key=.str x t):ag.any (·.refKey)=aW:=Wm.mpr λe U=>by obtain⟨x,t,q⟩:=X e U;unfold DictEntry.refKey;rw[q];exact dT
theorem r?{ag:List gW}{x:bj}{e:gW}(h:ag.find? (·.key.isStr x)=A e):getL x ag=A (A e.val):=by unfold getL;rw[h]
theorem r!{ag:List gW}{x:bj}(X:∀e∈ag,∃x t,e.key=.str x t)(h:ag.find? (·.key.isStr x)=aj):getL x ag=A aj:=by unfold getL;rw[h,Sv X];rfl
theorem cf.s2(r:cf I h H aI):handedIn aI=ak:=by
 cases H with
 |bM=>exact r.Bu y
 |dF b=>exact r.sV y
 |X i=>exact r.i λz=>y
 |cG x=>exact r.s λz=>y
 |Y l=>exact r.t λz z z z z z=>y
 |J a=>exact r.r λz z=>y
 |jH a b c=>exact r.g λz z z z z z=>y
theorem q9{x d:aZ}{ag:List gW}(ae:bL B I z s)(bf:Cz B I s x d c cd ag G)(Z:mw cd n=A H)(g:B.P.bZ c n=aj)(q:∀aI t,cf I s.heap H aI->af aI {s with toks:=t}):bb (ct B) R (getAttr (.ref x) (B.t.nm n) iJ) af E s:=by refine bp λP=>(bf.fr.get n H Z).elim λJ w=>w.elim λe Y=>Y.elim λa b=>P<|get_value ae.K (JQ bf.ab bf.ac) (Ot (bf.ok.get (B.t.nm n))).1 (findObj_own bf.ok.Z (bf.ok.name n J g) y (v:=e.val) ?_) b.s2 (q _ _ b);rw[YE];exact r? a
theorem r0{x d:aZ}{ag:List gW}{be:kc Bool}{af:aw×List aw->aN->Prop}(ae:bL B I z s)(bf:Cz B I s x d c cd ag G)(g:B.P.bZ c n=A f)(Z:mw cd n=aj)(q:af (.ref (B.fn f),[.ref x]) s):bb (ct B) R (getMethod (.ref x) (B.t.nm n) be) af E s:=by
 refine bp λP=>(bf.ok.bZ n f g).elim λJ M=>M.elim λu X=>P<|method_fn ae.K (JQ bf.ab bf.ac) (Ot (bf.ok.get (B.t.nm n))).1 (Ot (bf.ok.get (B.t.nm n))).2 u X ?_ q;show(lookIn (B.t.nm n) (Ac ag G)).map _=_;rw[YE,r! bf.fr.aC (bf.fr.no _ λi aB e=>?_)]
 ·rfl
 ·refine bp λP=>(sF.mp aB).elim λH Y=>P ?_;rw[ae.good.inj i n (bf.fr.get i H Y).1 J e,Z]at aB;exact aG aB dT
variable{Q:bj} {iG:Int} {t:mQ}
theorem RD:Value.isStr (.str x t) Q=(x==Q):=y
theorem U!:∀(ag:List gW),∃e,(rf x iG (.str x t) aI ag).find? (·.key.isStr x)=A e/\e.val=aI:=λag=>by
 induction ag with
 |nil=>exact⟨_,Wu (RD.trans (beq_self_eq_true x)),y⟩
 |cons e r F=>
  rw[rf];by_cases al:e.key.isStr x=ak
  ·rw[cg al];exact⟨_,Wu al,y⟩
  ·rw[bV al,CK (p:=λba:gW=>ba.key.isStr x) al];exact F
theorem Ti(Z:Q≠x):∀(ag:List gW),(rf x iG (.str x t) aI ag).find? (·.key.isStr Q)=ag.find? (·.key.isStr Q):=λag=>by
 induction ag with
 |nil=>exact CK (by rw[RD,beq_iff_eq];exactλe=>Z e.symm)
 |cons e r F=>
  rw[rf];by_cases al:e.key.isStr x=ak
  ·have X:¬e.key.isStr Q=ak:=λX=>Z (Value.isStr_inj _ _ _ X al);rw[cg al];exact(CK (p:=λba:gW=>ba.key.isStr Q) (a:={e with val:=aI}) X).trans (CK (p:=λba:gW=>ba.key.isStr Q) (a:=e) X).symm
  ·rw[bV al,GZ,GZ,F]
theorem U':∀(ag:List gW),(∀e∈ag,∃x t,e.key=.str x t)->∀e∈rf x iG (.str x t) aI ag,∃x t,e.key=.str x t:=λag=>by
 induction ag with
 |nil=>intro _ e U;obtain rfl:=cB.mp U;exact⟨x,t,rfl⟩
 |cons bP r F=>
  intro X e U;rw[rf]at U;split at U
  ·cases U with
   |head=>exact X bP (.head _)
   |tail _ U=>exact X e (.tail _ U)
  ·cases U with
   |head=>exact X _ (.head _)
   |tail _ U=>exact F (λe U=>X e (.tail _ U)) e U
theorem Th:∀(ag:List gW),(rf x iG (.str x t) aI ag).length<=D ag+1/\((ag.find? (·.key.isStr x)).isSome=ak->(rf x iG (.str x t) aI ag).length=D ag):=λag=>by
 induction ag with
 |nil=>exact⟨cu _,afh⟩
 |cons e r F=>
  rw[rf];by_cases al:e.key.isStr x=ak
  ·rw[cg al];exact⟨ka _,λa=>y⟩
  ·rw[bV al,CK (p:=λba:gW=>ba.key.isStr x) al];exact⟨dn F.1,λh=>bA Nat.succ (F.2 h)⟩
theorem JA{k:Nat}:mw (xP cd n H) k=if k=n then A H else mw cd k:=by
 induction cd with
 |nil=>
  show(if n=k then A H else aj)=_;by_cases h:n=k
  ·rw[cg h,cg h.symm]
  ·rw[bV h,bV λe=>h e.symm];rfl
 |cons p r F=>
  obtain⟨bI,g⟩:=p;show mw (if bI=n then _ else _) k=_;by_cases h:bI=n
  ·rw[cg h];show(if bI=k then _ else _)=if k=n then _ else(if bI=k then _ else _)
   by_cases ac:bI=k
   ·rw[cg ac,cg (ac.symm.trans h)]
   ·rw[bV ac,bV ac,bV λe=>ac (h.trans e.symm)]
  ·rw[bV h];show(if bI=k then _ else _)=if k=n then _ else(if bI=k then _ else _)
   by_cases ac:bI=k
   ·rw[cg ac,cg ac,bV λe=>h (ac.trans e)]
   ·rw[bV ac,bV ac,F]
theorem m6:D cd<=(xP cd n H).length/\(mw cd n=aj->(xP cd n H).length=D cd+1):=by
 induction cd with
 |nil=>exact⟨cW _,λx=>y⟩
 |cons p r F=>
  obtain⟨bI,g⟩:=p;show _<=(if bI=n then _ else _:List _).length/\((if bI=n then _ else _)=aj->(if bI=n then _ else _:List _).length=_);by_cases h:bI=n
  ·rw[cg h,cg h];exact⟨cu _,λh=>aG h (gJ _)⟩
  ·rw[bV h,bV h];exact⟨dn F.1,λe=>bA Nat.succ (F.2 e)⟩
theorem nt.put{ag:List gW}(F:nt B I h cd ag)(N:n<B.t.kT)(b:∀i j,i<B.t.kT->j<B.t.kT->B.t.nm i=B.t.nm j->i=j)(Z:cf I h H aI):nt B I h (xP cd n H) (rf (B.t.nm n) iG (.str (B.t.nm n) t) aI ag)where
 aC:=U' ag F.aC
 J:=by
  have l:=m6 (cd:=cd) (n:=n) (H:=H);have p:=Th (x:=B.t.nm n) (iG:=iG) (t:=t) (aI:=aI) ag;cases M:mw cd n with
  |none=>rw[l.2 M];exact aq p.1 (dn F.J)
  |some u=>refine(F.get n u M).elim λz w=>w.elim λe C=>C.elim λU z=>?_;rw[p.2 (bA _ U)];exact aq F.J l.1
 get i u P:=by
  rw[JA]at P;by_cases f:i=n
  ·subst f;rw[cg y]at P;obtain rfl:=dk P;refine(U! (x:=B.t.nm i) (iG:=iG) (t:=t) (aI:=aI) ag).elim λe q=>q.elim λo bq=>?_;exact⟨N,e,o,bq▸Z⟩
  ·rw[bV f]at P;refine(F.get i u P).elim λX r=>r.elim λe W=>W.elim λc L=>?_;exact⟨X,e,(Ti (λe=>f (b i n X N e)) ag).trans c,L⟩
 no Q Y:=by
  rw[Ti (λe=>Y n (by rw[JA,cg y];rfl) e.symm)];refine F.no Q λi aB=>Y i ?_;rw[JA];split
  ·rfl
  ·exact aB
theorem aav{x d:aZ}{ag:List gW}{af:Unit->aN->Prop}(ae:bL B I z s)(g:I[a]?=A (x,A d))(bf:Cz B I s x d c cd ag G)(N:B.P.bZ c n=aj)(J:n<B.t.kT)(U:D cd<100)(Z:cf I s.heap H aI)(q:∀aJ,bL B I (z.set a (.dH c (xP cd n H))) aJ->bB [] I s.heap I aJ.heap->af () aJ):bb (ct B) R (setAttr (.ref x) (B.t.nm n) aI) af E s:=by
 have dw:∀iG t,(s.heap.update d (HU (B.t.nm n) iG (.str (B.t.nm n) t) aI)).get? d=A (Ac (rf (B.t.nm n) iG (.str (B.t.nm n) t) aI ag) (putN (B.t.nm n) ag G)):=λiG t=>by
  rw[rb _ bf.ac (by rw[YG];rfl),YG]
 have fin:∀(iG:Int) (t:mQ) (dh:Nat),af () {s with heap:=s.heap.update d (HU (B.t.nm n) iG (.str (B.t.nm n) t) aI),toks:=dh}:=by
  intro iG t dh;have Y:=kJ s.heap d (HU (B.t.nm n) iG (.str (B.t.nm n) t) aI);have o:x≠d:=λe=>by have aR:=bf.ab;rw[e,bf.ac]at aR;exact nomatch aR
  have x:=ae.upd (aD:=[]) (aJ:={s with heap:=s.heap.update d (HU (B.t.nm n) iG (.str (B.t.nm n) t) aI),toks:=dh}) g (ae.Sm g bf.ab λq=>nomatch q) (.tail _ (.head _)) Y (.dH bf.t8 ((Y.2 _ o).trans bf.ab) (dw iG t) ((bf.fr.put J ae.good.inj Z).Y (bB.ER (rP g (.tail _ (.head _))) Y ⟨_,dw iG t⟩) hn.nil)) y y;exact q _ x.1 x.2
 have i:=JQ bf.ab bf.ac;clear q;refine set_plain ae.K i bf.ok.set (osa_open ae.K i bf.ok.N_ (by unfold takerIn;rw[bf.ok.name n J N];rfl) λb=>bp λP=>(any_some bf.ok.Z).elim λes M=>M.elim λW r=>P (ap (bh (ap (ap (Zy (s:={s with toks:=s.toks+1}) bf.ab (ap (Looks.here (s:={s with toks:=s.toks+1}) (looks_clsIn ae.K W) ?_))))))));rw[r];refine bh (a:=A d) (ap (bh (ap (ap (ap (DD (bh (ap (wpAny_mkText (ap (Zy (s:={s with toks:=s.toks+1+1}) bf.ac ?_)))))))))));dsimp only;have ir:(!ag.toArray.any (·.key.isStr (B.t.nm n))&&ag.toArray.any (·.refKey))=aW:=by
  have:=Sv bf.fr.aC;simp[this]
 rw[aRefKeyMayBeTheName_at,ir];refine wpAny_updatePart (s:={s with toks:=s.toks+1+1}) bf.ac<|ap (wpAny_lookBehind (dw _ _) (pastItsLine_dict ?_) (bh (fin _ _ _)));rw[mN,Ii];exact aq (Th ag).1 (aq (dn (aq bf.fr.J (dK U))) (aF y))
end
section
def qn(R:ez)(n:Nat):Prop:=R.handled=aj/\R.depth+3*n+8<DA/\R.units+40*n+440<fp
def rm(R:ez)(n:Nat):Prop:=R.handled=aj/\R.depth+3*n+7<DA/\R.units+40*n+420<fp
theorem qn.Ux{R:ez}{n:Nat}(h:qn R n):R.units+400<fp:=er (ia (dP _ _) (aF y)) h.2.2
theorem qn.fg{R:ez}{n:Nat}(h:qn R n):rm R n:=⟨h.1,pd h.2.1,er (gE (aF y) _) h.2.2⟩
structure jV(B:bT)(n:Nat)(c:eT)(R:ez)(ay:fJ)(st:List aZ)(N:bk)(I:cw)(z:aA)(s:aN):Prop where
 room:qn R n
 fr:gi B c I s.heap st N ay
 dj:bL B I z s
variable{c:eT} {s:aN} {x:V} {a b d:afe} {ag:List afe}
theorem jV.Y(aD:jV B n c R ay st N I z s)(ae:bL B bF O aJ)(S:bB [] I s.heap bF aJ.heap):jV B n c R ay st N bF O aJ:=⟨aD.room,aD.fr.Y S,ae⟩
theorem jV.u(aD:jV B n c R ay st N I z s):R.units+400<fp:=aD.room.Ux
def bW(B:bT)(n:Nat)(e:afe)(N:bk)(z:aA)(H:V)(O:aA):Prop:=∀c bu R E ay st I s af,fv B.t e c bu=ak->jV B n c R ay st N I z s->iy B I s O H af->bb (ct B) R (lh bu ay) af E s
def Gy(B:bT)(I:cw)(s:aN)(O:aA)(af:aN->Prop):Prop:=∀bF aJ,bL B bF O aJ->bB [] I s.heap bF aJ.heap->af aJ
def eB(B:bT)(n:Nat)(e:afe)(N:bk)(z:aA)(b:Bool)(O:aA):Prop:=∀c bu R E ay st I s af,fv B.t e c bu=ak->jV B n c R ay st N I z s->Gy B I s O (af b)->bb (ct B) R (Ib bu ay (lh bu ay)) af E s
def qQ(B:bT)(n:Nat)(ag:List afe)(N:bk)(z:aA)(l:List V)(O:aA):Prop:=∀c aK R E ay st I s W af,lr B.t ag c aK=ak->jV B n c R ay st N I z s->(∀cH bF aJ,bL B bF O aJ->bB [] I s.heap bF aJ.heap->ci bF aJ.heap l cH->af cH aJ)->bb (ct B) R (DB (sO W (qj aK ay))) af E s
theorem tD:bW B n .bM N z .bM z:=λc bu R E ay st I s af Z aD q=>by refine nX.bX Z λk x x Z=>?_;obtain rfl:=dA Z;exact bh (q.fx aD.dj (H:=.bM) y s.toks)
theorem uM{b:Bool}:bW B n (.dF b) N z (.dF b) z:=λc bu R E ay st I s af Z aD q=>by refine nX.bX Z λk x x Z=>?_;obtain rfl:=dA Z;exact bh (q.fx aD.dj (H:=.dF b) y s.toks)
theorem sk{t:bj}:bW B n (.cG t) N z (.cG t) z:=λc bu R E ay st I s af Z aD q=>by refine nX.bX Z λk x x Z=>?_;obtain rfl:=dA Z;exact Constant_str (q.fx aD.dj (H:=.cG t) ⟨_,y⟩ _)
theorem cE{i:Int}:bW B n (.X i) N z (.X i) z:=λc bu R E ay st I s af Z aD q=>by
 refine((Cm _ _).mp Z).elim (λZ=>?_) λZ=>?_
 ·refine nX.bX Z λk x x Z=>?_;obtain rfl:=dA Z;exact Zq (q.fx aD.dj (H:=.X i) ⟨_,y⟩ _)
 ·refine yp.bX Z λC p x Z=>(bx Z).elim λF h=>?_;obtain rfl:=dA F;refine nX.bX h λk x x Z=>?_;obtain rfl:=dA Z;refine ap (Zq (ap (jc (eX (PySem.P.neg_int ?_)))));rw[Wd];exact q.fx aD.dj (H:=.X i) ⟨_,y⟩ _
theorem av{i:Nat}(h:N[i]?=A (A H)):bW B n (.J i) N z H z:=λc bu R E ay st I s af Z aD q=>by exact gz.bX Z λx p Z=>wpAny_Name (y8 aD.fr Z h λw r=>q.fx aD.dj r s.toks) ((qM _).mp (bx (bx Z).2).2)
theorem qF{p:bU}{aK:List bU}(Z:lV p=ak):qj (p::aK) ay=(aW,lh p ay)::qj aK ay:=by obtain⟨⟩:=p<;>first|rfl|exact absurd Z dT
theorem bc:qQ B n [] N z [] z:=λc aK R E ay st I s W af Z aD q=>by obtain rfl:=mg.mp Z;exact xf (q [] I s aD.dj bB.dd y)
theorem aU(ab:bW B n e N z H ah)(ac:qQ B n ag N ah l O):qQ B n (e::ag) N z (H::l) O:=λc aK R E ay st I s W af Z aD q=>by
 cases aK with
 |nil=>exact aG Z dT
 |cons p aK=>exact(bx Z).elim λM Z=>(bx Z).elim λF h=>vf (ab c p R E ay st I s _ F aD λaI m L i Y J=>ac c aK R E ay st m L W _ h (aD.Y i Y) λcH t f P U cK=>q _ t f P (Y.trans U) ⟨aI,cH,y,J.fl U,cK⟩) (qF M)
theorem E_(ae:bL B I z s)(r:ci I s.heap l cH)(Z:D l<=cZ)(q:iy B I s z (.Y l) af):bb (ct B) R (OI cH) af E s:=by have S:bB [] I s.heap I (s.heap.push {cls:=.type "tuple",data:=.seq cH.toArray}):=bB.push _;exact xo (q _ I _ (ae.gL (aJ:={s with heap:=s.heap.push _}) (fR _ _) y y) S ⟨_,cH.toArray,0,y,ae.wd,gG _ y,r.fl S⟩) (r.length▸mF Z)
theorem bL.newList(ae:bL B I z s)(r:ci I s.heap l ar.toList)(t:Nat):bL B (I++[(s.heap.objs.size,aj)]) (z++[.W l]) {s with heap:=s.heap.push {cls:=.type "list",data:=.seq ar},toks:=t}/\bB [] I s.heap (I++[(s.heap.objs.size,aj)]) (s.heap.push {cls:=.type "list",data:=.seq ar})/\∀h,cf (I++[(s.heap.objs.size,aj)]) h (.J (D z)) (.ref s.heap.objs.size):=by
 have S:bB [] I s.heap (I++[(s.heap.objs.size,aj)]) (s.heap.push {cls:=.type "list",data:=.seq ar}):=⟨⟨_,y⟩,λb C x q=>⟨C,fR _ _ b C q⟩,λb ab ac=>by
  rw[uj,vO]at ab;rcases ew.mp ab with ab|ab
  ·exact absurd ab ac
  ·obtain rfl:=cB.mp ab;exact⟨uz,afk⟩,λb C x x q=>fR _ _ b C q⟩
 obtain⟨hc,k⟩:=ae.gy (aJ:={s with heap:=s.heap.push {cls:=.type "list",data:=.seq ar},toks:=t}) (fR _ _) (G:=(s.heap.objs.size,aj)) (jm ..) (λb al=>by obtain rfl:=cB.mp al;exact cu _) (.W (gG _ y) (r.fl S)) y y;exact⟨hc,k,λh=>⟨(s.heap.objs.size,aj),by rw[←ae.J,iN (cu _),kb];rfl,y⟩⟩
theorem iy.lst(q:iy B I s (z++[.W l]) (.J (D z)) af)(ae:bL B I z s)(r:ci I s.heap l ar.toList)(t:Nat:=s.toks):af (.ref s.heap.objs.size) {s with heap:=s.heap.push {cls:=.type "list",data:=.seq ar},toks:=t}:=
 let⟨hc,k,X⟩:=ae.newList r t
 q _ _ _ hc k (X _)
theorem D!(ae:bL B I z s)(r:ci I s.heap l cH)(Z:D l<=cZ)(q:iy B I s (z++[.W l]) (.J (D z)) af):bb (ct B) R (Ic cH) af E s:=Aj (q.lst (ar:=cH.toArray) ae r) (r.length▸mF Z)
theorem aeW:∀{ag:List afe} {aK:List bU},lr t ag c aK=ak->D ag=D aK:=by
 intro ag;induction ag with
 |nil=>intro aK h;obtain rfl:=mg.mp h;rfl
 |cons e ag F=>intro aK h;cases aK with
  |nil=>exact aG h dT
  |cons p aK=>exact bA (·+1) (F (bx (bx h).2).2)
theorem ry:∀{ag:List afe} {aK:List bU},lr t ag c aK=ak->∀p∈aK,lV p=ak:=by
 intro ag;induction ag with
 |nil=>intro aK h;obtain rfl:=mg.mp h;nofun
 |cons e ag F=>intro aK h;cases aK with
  |nil=>exact aG h dT
  |cons p aK=>
   intro q Z;refine(bx h).elim λY h=>?_;cases Z with
   |head=>exact Y
   |tail _ Z=>exact F (bx h).2 q Z
theorem eL(h:qQ B n ag N z l O)(W:D l<=cZ):bW B n (.Y ag) N z (.Y l) O:=λc bu R E ay st I s af Z aD q=>by exact rV.bX Z λaK k p Z=>ap (jc (ap (h c aK R E ay st I s p _ (bx Z).2 aD λcH m L i Y J=>E_ i J W (q.after Y))))
theorem gB(h:qQ B n ag N z l O)(W:D l<=cZ):bW B n (.W ag) N z (.J (D O)) (O++[.W l]):=λc bu R E ay st I s af Z aD q=>by exact Fd.bX Z λaK p Z=>ap (jc (ap (h c aK R E ay st I s p _ Z aD λcH m L i Y J=>D! i J W (q.after Y))))
theorem en(aE:bW B n a N z x ah)(al:bW B n b N ah Q aV)(u:gw B (oq ft) x Q aV H cD):bW B n (.cb ft a b) N z H cD:=λc bu R E ay st I s af Z aD q=>by refine EZ.bX Z λl C r p Z=>(bx Z).elim λP Z=>(bx Z).elim λF h=>?_;obtain rfl:=dA P;exact wpAny_BinOp (aE c l R E ay st I s _ F aD λM m L i Y J=>al c r R E ay st m L _ h (aD.Y i Y) λw t f U W cK=>u M w R E t f _ aD.u U (J.fl W) cK ((q.after Y).after W))
theorem Sb{C:tV}(h:EG r=ak):behindInMarks C r=aW:=by obtain⟨⟩:=r<;>first|rfl|exact absurd h dT
theorem yU(aE:bW B n a N z x ah)(al:bW B n b N ah Q aV)(u:gw B (kq ft) x Q aV H cD):bW B n (.bH ft a b) N z H cD:=λc bu R E ay st I s af Z aD q=>by refine tn.bX Z λl os g p Z=>(bx Z).elim λP J=>?_;obtain rfl:=dA P;exact ji.bX J λr Z=>(bx Z).elim λF Z=>(bx Z).elim λh M=>wpAny_Compare1 (aE c l R E ay st I s _ F aD λC m L i Y ji=>al c r R E ay st m L _ h (aD.Y i Y) λo t f U W cK=>u C o R E t f _ aD.u U (ji.fl W) cK ((q.after Y).after W)) (Sb M)
theorem hz{k:Bool}(aE:bW B n a N z x ah)(al:bW B n b N ah Q aV)(u:gw B (kq ft) x Q aV (.dF k) cD):eB B n (.bH ft a b) N z k cD:=λc bu R E ay st I s af Z aD q=>by refine tn.bX Z λl os g p Z=>(bx Z).elim λP C=>?_;obtain rfl:=dA P;exact ji.bX C λr Z=>(bx Z).elim λF Z=>(bx Z).elim λh J=>Zw (aE c l R E ay st I s _ F aD λw m L i Y ji=>al c r R E ay st m L _ h (aD.Y i Y) λo t f U W cK=>u w o R E t f _ aD.u U (ji.fl W) cK λaI v e M d j=>j.sV (vr (q v e M ((Y.trans W).trans d)))) (Sb J)
theorem z7{dX cx:tV}{r t:bU}(h:EG t=ak):lastMarks [dX,cx] [r,t]=aW:=by obtain⟨⟩:=t<;>first|rfl|exact absurd h dT
theorem Pp{dX cx:tV}{aY:Bool}(aE:bW B n a N z x ah)(al:bW B n b N ah Q aV)(ab:gw B (kq dX) x Q aV (.dF aY) aV)(ac:aY=ak->bW B n d N aV ba cD/\gw B (kq cx) Q ba cD (.dF iJ) O)(bo:aY=aW->O=aV/\iJ=aW):eB B n (.AL dX cx a b d) N z iJ O:=λc bu R E ay st I s af Z aD q=>by
 refine tn.bX Z λl os B3 p Z=>?_;obtain⟨P,f⟩:=bx Z;obtain rfl:=dA P;refine cK.bX f λr t Z=>?_;obtain⟨ax,Z⟩:=bx Z;obtain⟨w,Z⟩:=bx Z;obtain⟨h,m⟩:=bx Z;refine isTrue_chain ?_ (z7 ax);refine aE c l R E ay st I s _ w aD λH A8 A4 i Y A0=>test_link<|al c r R E ay st A8 A4 _ h (aD.Y i Y) λo A9 A5 L W cK=>ab H o R E A9 A5 _ aD.u L (A0.fl W) cK λaI v e k U A1=>A1.sV (vr ?_);have S:=(Y.trans W).trans U;cases aY with
 |false=>obtain⟨rfl,rfl⟩:=bo y;exact q v e k S
 |true=>obtain⟨F,u⟩:=ac y;exact test_last (F c t R E ay st v e _ m (aD.Y k S) λg B0 A6 J M A2=>u o g R E B0 A6 _ aD.u J ((cK.fl U).fl M) A2 λB2 B1 A7 C j A3=>A3.sV (vr (q B1 A7 C ((S.trans M).trans j))))
noncomputable def V.isNone:V->Bool
|.bM=>ak
|_=>aW
theorem u5{I:cw}(r:cf I h H aI):(aI==Value.none)=H.isNone:=by
 cases H with
 |bM=>exact r.Bu y
 |dF b=>exact r.sV y
 |X i=>exact r.i λz=>y
 |cG x=>exact r.s λz=>y
 |Y l=>exact r.t λz z z z z z=>y
 |J a=>exact r.r λz z=>y
 |jH a b c=>exact r.g λz z z z z z=>y
theorem Pq(aE:bW B n a N z x ah):eB B n (.isNone a) N z x.isNone ah:=λc bu R E ay st I s af Z aD q=>by refine tn.bX Z λl os g p Z=>?_;refine(bx Z).elim λP W=>?_;obtain rfl:=dA P;refine ji.bX W λr Z=>?_;refine(bx Z).elim λF h=>?_;refine nX.bX F λk b b Z=>?_;obtain rfl:=dA Z;refine Zw (aE c l R E ay st I s _ h aD λU m L i Y ji=>?_) y;refine bh (is_none_gen (vr ?_));rw[u5 ji];exact q m L i Y
theorem Iz(aE:eB B n a N z k ah):eB B n (.yi a) N z (!k) ah:=λc bu R E ay st I s af Z aD q=>by refine yp.bX Z λC p x Z=>(bx Z).elim λF h=>?_;obtain rfl:=dA F;exact wpAny_isTrue_Not (aE c p R E ay st I s _ h aD q)
theorem Gs(F:eB B n d N z k ah)(aE:k=ak->bW B n a N ah H O)(al:k=aW->bW B n b N ah H O):bW B n (.fc d a b) N z H O:=λc bu R E ay st I s af Z aD q=>by
 refine Fc.bX Z λt x Q p Z=>(bx Z).elim λW Z=>(bx Z).elim λh U=>ap (F c t R E ay st I s _ W aD λm L i Y=>?_);cases k with
 |true=>exact aE y c x R E ay st m L _ h (aD.Y i Y) (q.after Y)
 |false=>exact al y c Q R E ay st m L _ U (aD.Y i Y) (q.after Y)
noncomputable def BA:bU->Bool
|.UnaryOp .Not _ _=>aW
|.BoolOp ..=>aW
|.IfExp ..=>aW
|.Compare ..=>aW
|_=>ak
theorem u6(Z:BA bu=ak){Y:kc aw}:Ib bu ay Y=(do let H←Y;DC bu.pos;xm [H] (truthy H)):=by
 obtain⟨⟩:=bu<;>first|rfl|exact absurd Z dT|skip
 rename_i ft _ _;obtain⟨⟩:=ft<;>first|rfl|exact absurd Z dT
theorem DI{k:Bool}(U:bW B n e N z (.dF k) ah)(W:∀c bu,fv B.t e c bu=ak->BA bu=ak):eB B n e N z k ah:=λc bu R E ay st I s af Z aD q=>wpAny_isTrue_value (U c bu R E ay st I s _ Z aD λaI m L i Y J=>J.sV (vr (q m L i Y))) (u6 (W c bu Z))
theorem Tg{i:Nat}(c:eT)(bu:bU)(h:fv t (.J i) c bu=ak):BA bu=ak:=by refine gz.bX h λx x x=>?_;exact y
theorem T?(c:eT)(bu:bU)(h:fv t (.fg f ag) c bu=ak):BA bu=ak:=by refine ih.bX h λx x x x=>?_;exact y
theorem T!{f:bj}(c:eT)(bu:bU)(h:fv t (.eO e f ag) c bu=ak):BA bu=ak:=by refine ih.bX h λx x x x=>?_;exact y
end
section
variable{c:eT} {s:aN} {x:V} {a b d:afe} {ag:List afe} {G:List V} {i j:Int}
theorem BL{x:Int}(h:afm x=ak):x.natAbs<2^62:=of_decide_eq_true h
theorem aaJ{x:Int}(h:afm x=ak):Builtin.Int.intBits x<=64:=by
 unfold Builtin.Int.intBits;split
 ·decide
 ·rename_i aR;have:=(Nb (λe=>aR (by simpa using e))).mpr (BL h);exact aq this (aF y)
theorem TU{x:Int}(h:afm x=ak):x.natAbs.log2<9000:=by
 by_cases e:x.natAbs=0
 ·rw[e];decide
 ·exact kH ((Nb e).mpr (BL h)) (aF y)
theorem zE:gw B (oq .Add) (.X i) (.X j) z (.X (i+j)) z:=λX o R E I s af Y ae Z J q=>by exact Z.i λx=>J.i λx=>AutoIntOps.add_0 (q.fx ae ⟨_,y⟩ _)
theorem XA:gw B (oq .Sub) (.X i) (.X j) z (.X (i-j)) z:=λX o R E I s af Y ae Z J q=>by exact Z.i λx=>J.i λx=>AutoIntOps.sub_0 (q.fx ae ⟨_,y⟩ _)
theorem Xy(aB:afm i=ak):gw B (oq .Mult) (.X i) (.X j) z (.X (i*j)) z:=λX o R E I s af Y ae Z J q=>by exact Z.i λx=>J.i λx=>AutoIntOps.mul_0 (q.fx ae ⟨_,y⟩ _) (IntMulOk.of_left (aaJ aB))
theorem Xu(M:afm j=ak)(aR:j≠0):gw B (oq .FloorDiv) (.X i) (.X j) z (.X (i.fdiv j)) z:=λX o R E I s af Y ae Z J q=>by exact Z.i λx=>J.i λx=>AutoIntOps.floordiv_1 (λe=>aR (dA e)) (by rw[NA (TU M)];decide) (q.fx ae ⟨_,y⟩ _)
theorem Hw(aR:j≠0):gw B (oq .Mod) (.X i) (.X j) z (.X (i.fmod j)) z:=λX o R E I s af Y ae Z J q=>by exact Z.i λx=>J.i λx=>AutoIntOps.mod_1 (λe=>aR (dA e)) (q.fx ae ⟨_,y⟩ _)
theorem ci.empty(r:ci I h l ar.toList)(e:ar.isEmpty=ak):l=[]:=ko (r.size.symm.trans (by simpa using e))
theorem iy.Y(q:iy B I s z (.Y l) af)(ae:bL B I z s)(r:ci I s.heap l ar.toList)(t:Nat:=s.toks):af (.ref s.heap.objs.size) {s with heap:=s.heap.push {cls:=.type "tuple",data:=.seq ar},toks:=t}:=q _ I _ (ae.gL (aJ:={s with heap:=s.heap.push _,toks:=t}) (fR _ _) y y) (bB.push _) ⟨_,ar,0,y,ae.wd,gG _ y,r.fl (bB.push _)⟩
theorem oj(U:D l+D G<=cZ):gw B (oq .Add) (.Y l) (.Y G) z (.Y (l++G)) z:=λL o R E I s af M ae W J q=>by
 have r:=W;have X:=J;revert r X;refine W.t λa ar k C ab ac=>J.t λb bD bI w bo Y=>?_;intro r X;by_cases F:ar.isEmpty=ak
 ·refine bp λP=>?_;obtain rfl:=ac.empty F;exact P<|OA ⟨_,ab,y⟩ ⟨_,bo,y⟩ OJ OL NZ NU (NT _ _) (tuple_addW0 a b ar bD k bI aj aj #[] #[] F) ⟨ab,bo,q.fx ae X s.toks⟩
 ·by_cases Z:bD.isEmpty=ak
  ·refine bp λP=>?_;obtain rfl:=Y.empty Z;exact P<|OA ⟨_,ab,y⟩ ⟨_,bo,y⟩ OJ OL NZ NU (NT _ _) (tuple_addW1 a b ar bD k bI aj aj #[] #[] F Z) ⟨ab,bo,(eF l▸q).fx ae r s.toks⟩
  ·exact OA ⟨_,ab,y⟩ ⟨_,bo,y⟩ OJ OL NZ NU (NT _ _) (tuple_addW2 a b ar bD k bI aj aj #[] #[] F Z (ac.size▸Y.size▸mF U))
    ⟨ab,bo,q.Y ae (((LO ..)).symm▸Y.append ac)⟩
theorem sD(X:z[p]?=A (.W l))(W:z[q]?=A (.W G))(Y:D l+D G<=cZ):gw B (oq .Add) (.J p) (.J q) z (.J (D z)) (z++[.W (l++G)]):=λL o R E I s af M ae U J q=>by exact ae.ie X U λa ar k x ab ac=>ae.ie W J λb bD bI x bo Z=>P.add_list ab bo (q.lst ae (((LO ..)).symm▸Z.append ac)) (ac.size▸Z.size▸mF Y)
theorem Hx{k:Int}(M:z[p]?=A (.W l))(X:k=0\/k=1)(P:D l<=cZ):gw B (oq .Mult) (.J p) (.X k) z (.J (D z)) (z++[.W (if k=0 then[]else l)]):=λC o R E I s af F ae L J q=>by
 refine ae.ie M L λa ar bI x ab ac=>J.i λu=>?_;have Z:ar.size*k.toNat<=cZ:=by
  rcases X with rfl|rfl
  ·exact cW _
  ·rw[show(1:Int).toNat=1 from rfl,Ng,ac.size];exact P
 have fin:∀bD:Array aw,ci I s.heap (if k=0 then[]else l) bD.toList->af (.ref s.heap.objs.size) {s with heap:=s.heap.push {cls:=.type "list",data:=.seq bD}}:=λbD r=>q.lst ae r;clear q;refine wpAny_binaryOp_repeat_ref (T:="list") (U:="int") (by decide) ⟨_,ab,y⟩ (λaJ=>Zp aJ k u) noFill_list_mul aeg Ys repeat_list aeq.lookup
  (Af Ys (Zp s k u) adV (adF _ _) (lm_int_rmul_list_any k u a ar bI aj #[]) ⟨ab,y,⟨_,ab,y⟩,Af aer ⟨_,ab,y⟩ adY (adI _ _) (lm_list_mul_any a ar bI aj #[] k u ?_ ?_ ?_) ⟨ab,?_⟩⟩)
 ·rcases X with rfl|rfl<;>decide
 ·exact fP.mpr (aq Z (aF rfl))
 ·unfold cZ at Z;simp[XS,mS];exact aq Z (aF rfl)
 ·refine fin _ ?_;rcases X with rfl|rfl
  ·have e:MN (λW v=>W++v) #[] (CU (if ar.isEmpty=ak then 0 else(0:Int).toNat) ar)=#[]:=by split<;>rfl
   rw[e];rfl
  ·have e:MN (λW v=>W++v) #[] (CU (if ar.isEmpty=ak then 0 else(1:Int).toNat) ar)=ar:=by
    by_cases Y:ar.isEmpty=ak
    ·rw[cg Y,show ar=#[]by simpa using Y];rfl
    ·rw[bV Y];exact Array.empty_append
   rw[e];exact ac
noncomputable def nJ(l:List V)(i:Int):Option V:=if 0<=i then l[i.toNat]? else if 0<=i+D l then l[(i+D l).toNat]? else aj
theorem PI(e:nJ l i=A x):∃k,seqIndex? i (D l)=A k/\l[k]?=A x:=by
 unfold nJ at e;unfold seqIndex?;by_cases aR:0<=i
 ·rw[cg aR]at e;have Z:=(hZ.mp e).1;refine⟨i.toNat,?_,e⟩;have ab:¬i<0:=pR.mpr aR;have ac:i<D l:=(MA aR).mp Z;simp[ab,aR,ac]
 ·rw[bV aR]at e;by_cases ab:0<=i+D l
  ·rw[cg ab]at e;have Z:=(hZ.mp e).1;refine⟨(i+D l).toNat,?_,e⟩;have bo:i<0:=GL.mp aR;simp[bo,ab];exact acM bo
  ·rw[bV ab]at e;exact aG e.symm (gJ _)
theorem jx(Y:afm i=ak)(Z:nJ l i=A x):gw B nE (.Y l) (.X i) z x z:=λC o R E I s af F ae L J q=>by refine L.t λa ar k w ab ac=>J.i λu=>bp λX=>(PI Z).elim λj W=>W.elim λM Z=>(ac.get.2 j Z).elim λaI U=>U.elim λg r=>X ?_;have dv:=BL Y;rw[←ac.size]at M;exact P.getItem_tuple (n:=k) ab (LK dv) (LJ dv) M (jJ▸g) (q.fx ae r s.toks)
theorem Hv(Y:afm i=ak)(Z:nJ (qr t) i=A x):gw B nE (.cG t) (.X i) z x z:=λF o R E I s af L ae U J q=>by refine U.s λC=>J.i λu=>bp λW=>?_;obtain⟨j,M,Z⟩:=PI Z;have dv:=BL Y;unfold qr at M Z;rw[fI,lN]at Z;obtain⟨ir,X,rfl⟩:=Z;refine W ?_;rw[bK,jt]at M;refine P.getItem_str (c:=ir) (Vj.mpr ⟨decide_eq_false (pR.mpr (LK dv)),decide_eq_false (GL.mpr (LJ dv))⟩) ?_ (q.fx ae (H:=.cG ⟨#[ir]⟩) ⟨_,y⟩ _);rw[show t.length=t.cps.size from y,M];simp only[zI];rw[←jJ];exact X
theorem nB(Y:z[p]?=A (.W l))(X:afm i=ak)(Z:nJ l i=A x):gw B nE (.J p) (.X i) z x z:=λL o R E I s af M ae U J q=>by
 refine ae.ie Y U λa ar k b ab ac=>J.i λu=>?_;have dv:=BL X;unfold nJ at Z;by_cases aR:0<=i
 ·rw[cg aR]at Z;exact bp λP=>(ac.get.2 i.toNat Z).elim λaI w=>w.elim λg r=>P<|wpAny_getItem_list (hE ab) aR (LJ dv) (jJ▸g) (q.fx ae r s.toks)
 ·rw[bV aR]at Z;split at Z
  ·refine bp λP=>(ac.get.2 _ Z).elim λaI W=>W.elim λg r=>P ?_;have ba:=ac.size;exact wpAny_getItem_list_neg (hE ab) (GL.mp aR) (ba▸acO ‹_›) (LK dv) (jJ▸ba▸g) (q.fx ae r s.toks)
  ·exact aG Z.symm (gJ _)
def sG(H:aw)(k:Option Nat):Prop:=(H=.none/\k=aj)\/∃(i:Nat) (u:mQ),H=.int i u/\k=A i
theorem sG.RC{H:aw}{k:Option Nat}(p:sG H k):IsPart H (k.map λ(i:Nat)=>(i:Int)):=by
 rcases p with⟨rfl,rfl⟩|⟨i,u,rfl,rfl⟩
 ·exact IsPart.none
 ·exact IsPart.int ..
theorem sG.index{H:aw}{k:Option Nat}{R:ez}(p:sG H k){af:Option Int->aN->Prop}(q:af (k.map λ(i:Nat)=>(i:Int)) s):bb (dm prog w) R (adw H) af E s:=by
 rcases p with⟨rfl,rfl⟩|⟨i,u,rfl,rfl⟩
 ·exact HI q
 ·exact XN q
noncomputable def iU(k:Option Nat)(n:Nat):Nat:=match k with|none=>0|some i=>gn i n
noncomputable def mz(k:Option Nat)(n:Nat):Nat:=match k with|none=>n|some i=>gn i n
theorem b'(lo aB:Option Nat)(n:Nat):Dm (lo.map λ(i:Nat)=>(i:Int)) (aB.map λ(i:Nat)=>(i:Int)) 1 (n:Int)=((iU lo n:Int),(mz aB n:Int)):=by
 unfold Dm;have ab:¬((1:Int)<0):=by decide
 simp only[ab,if_false]
 congr 1
 ·cases lo with
  |none=>rfl
  |some i=>simp only[xa,iU];rw[bV US];exact FQ ..
 ·cases aB with
  |none=>rfl
  |some i=>simp only[xa,mz];rw[bV US];exact FQ ..
theorem Q!(a b:Nat):HL (a:Int) (b:Int) 1=b-a:=by
 unfold HL;have ab:(1:Int)>0:=by decide
 simp only[ab,if_true,CA];by_cases h:a<b
 ·rw[cg (lH.mpr h)];exact(bA wB (CB ..)).trans (Int.toNat_sub ..)
 ·rw[bV λe=>h (lH.mp e)];exact(Nat.sub_eq_zero_of_le (fP.mp h)).symm
theorem aaH{hs:aw}{lo aB:Option Nat}{n:Nat}{af:Int×Int×Nat->aN->Prop}(Z:s.heap.IsSliceOf fa hs Z7 .none)(be:sG hs lo)(Y:sG Z7 aB)(h:af ((iU lo n:Int),1,mz aB n-iU lo n) s):bb (dm prog w) R (adv (.ref fa) (ey (n:Int))) af E s:=by refine bp λP=>Z.elim λos M=>M.elim λv X=>X.elim λW F=>P<|ap (ap (iq v F (x:=hs) y (ap (iq v F (x:=Z7) y (ap (iq v F (x:=.none) y (bh (ap (HI ?_)))))))));show bb _ _ (if((1:Int)==0)=ak then _ else _) _ _ s;rw[bV (by decide)];refine ap (be.index (ap (Y.index (ap (bh ?_)))));show bb _ _ (match Dm (lo.map λ(i:Nat)=>(i:Int)) (aB.map λ(i:Nat)=>(i:Int)) 1 (n:Int)with|(lo,aB)=>ey (lo,(1:Int),HL lo aB 1)) _ _ s;rw[b'];show bb _ _ (ey ((iU lo n:Int),(1:Int),HL (iU lo n:Int) (mz aB n:Int) 1)) _ _ s;rw[Q!];exact bh h
theorem P_(ar:Array aw)(a k:Nat):((fz k).filterMap λ(k:Nat)=>ar[((a:Int)+(k:Int)*1).toNat]?).toArray=((ar.toList.drop a).take k).toArray:=by
 have e:(λ(k:Nat)=>ar[((a:Int)+(k:Int)*1).toNat]?)=λk=>ar[a+k]?:=by
  funext k;have:((a:Int)+(k:Int)*1).toNat=a+k:=by rw[GJ];rfl
  rw[this]
 rw[e];have:=pick_run ar a k;rw[Wt]at this;have bq:((λx=>ar[x]?)∘λx=>a+x)=λk=>ar[a+k]?:=y;rw[bq]at this;rw[this]
theorem r'{t:aZ}{aS:Array aw}{hs:aw}{lo aB:Option Nat}(Z:IsTup s.heap t aS)(X:s.heap.IsSliceOf fa hs Z7 .none)(be:sG hs lo)(L:sG Z7 aB)(aR:iU lo aS.size=0->mz aB aS.size-iU lo aS.size=aS.size->af (.ref t) s)(h:af (.ref s.heap.objs.size) {s with heap:=s.heap.push {cls:=.type "tuple",data:=.seq ((aS.toList.drop (iU lo aS.size)).take (mz aB aS.size-iU lo aS.size)).toArray}})(M:aS.size<=mS):bb (dm prog w) R (nE (.ref t) (.ref fa)) af E s:=by
 have Y:sizeOk (.seq ((aS.toList.drop (iU lo aS.size)).take (mz aB aS.size-iU lo aS.size)).toArray):=by
  show((aS.toList.drop (iU lo aS.size)).take (mz aB aS.size-iU lo aS.size)).toArray.size<=mS;rw[mN,tN,MR,jt];exact aq (Nf _ _) (aq (mP _ _) M)
 refine bp λP=>X.elim λos J=>J.elim λv q=>q.elim λU F=>P ?_;have W:s.TypeIs (.ref fa) "slice":=⟨os,v,U⟩
 unfold nE
 try with_reducible refine eX ?_
 first|refine ap (bh ?_)|skip
 refine ap (DF Z.typeIs (by decide) (ap (pj (name:=jA "__getitem__") Z.typeIs Ny (kM Ny Z.typeIs entry_tuple_getitem ?_ (args_tuple_getitem _ _)))));show bb _ _ (XZ (.ref t)>>=_) _ _ s;refine ap (tupleItemsOf_ Z (ap (ou W ?_)));rw[cg (by decide)];refine ap (aaH X be L ?_);show bb _ _ (if((iU lo aS.size:Int)==0&&(1:Int)==1&&(mz aB aS.size-iU lo aS.size)==aS.size)=ak then _ else _) _ _ s;by_cases al:((iU lo aS.size:Int)==0&&(1:Int)==1&&(mz aB aS.size-iU lo aS.size)==aS.size)=ak
 ·rw[cg al];simp only[wq,beq_iff_eq]at al;refine ap (ap (ou Z.typeIs (bh ?_)));rw[cg (by decide)];exact ap (li (ap (bh (bh ⟨_,y,bh (aR (Int.ofNat.inj al.1.1) al.2)⟩))))
 ·rw[bV al,P_ aS]
  first
   |exact ap (m:=adz _) (qk (bh ⟨_,rfl,bh h⟩) Y)
   |exact wpAny_bind (m:=Builtin.Tuple.tupleExact _) (wpAny_newObj_type (wpAny_bind (wpAny_pure (wpAny_pure ⟨_,rfl,wpAny_pure h⟩))) Y)
   |exact wpAny_bind (wpAny_bind (m:=Builtin.Tuple.tupleExact _) (wpAny_newObj_type (wpAny_pure (wpAny_pure ⟨_,rfl,wpAny_pure h⟩)) Y))
   |exact wpAny_bind (wpAny_bind (m:=Builtin.Tuple.tupleExact _) (wpAny_newObj_type (wpAny_pure ⟨_,rfl,wpAny_pure h⟩) Y))
theorem f6(k:Option Nat)(n:Nat):(k.map λ(i:Nat)=>(i:Int)).elim 0 (clipAt n)=iU k n:=by
 cases k with
 |none=>rfl
 |some i=>simp[iU,YN]
theorem f7(k:Option Nat)(n:Nat):(k.map λ(i:Nat)=>(i:Int)).elim n (clipAt n)=mz k n:=by
 cases k with
 |none=>rfl
 |some i=>simp[mz,YN]
inductive qK:V->Option Nat->Prop
|bM:qK .bM aj
|X {k:Nat}:k<2^62->qK (.X k) (A k)
theorem qK.part{H:V}(b:qK H k)(r:cf I h H aI):sG aI k:=by
 cases b with
 |bM=>exact r.Bu (.inl ⟨y,y⟩)
 |X _=>exact r.i λt=>.inr ⟨_,t,y,y⟩
noncomputable def tp(l:List V)(lo aB:Option Nat):List V:=(match aB with|none=>l|some k=>l.take k).drop (lo.getD 0)
theorem QA{bw:Type}(l:List bw)(lo aB:Option Nat):(l.drop (iU lo (D l))).take (mz aB (D l)-iU lo (D l))=(match aB with|none=>l|some k=>l.take k).drop (lo.getD 0):=by
 have ab:l.take (mz aB (D l))=(match aB with|none=>l|some k=>l.take k):=by
  cases aB with
  |none=>exact zu
  |some k=>exact(WN ..).symm
 rw[←List.drop_take,ab];generalize r:(match aB with|none=>l|some k=>l.take k)=M;have ac:D M<=D l:=by rw[←r];cases aB with|none=>exact cu _|some k=>exact List.length_take_le' ..
 cases lo with
 |none=>rfl
 |some a=>
  show M.drop (gn a (D l))=M.drop a;rcases zx a (D l)with h|h
  ·rw[sA h]
  ·rw[Df h,Wr ac,Wr (aq ac h)]
theorem ci.Qz(r:ci I h l ar.toList)(lo aB:Option Nat):ci I h (tp l lo aB) ((ar.toList.drop (iU lo ar.size)).take (mz aB ar.size-iU lo ar.size)).toArray.toList:=by have:=r.cut (iU lo (D l)) (mz aB (D l)-iU lo (D l));rw[QA]at this;rw[r.size];exact this
def Ap(B:bT)(x lo aB:V)(z:aA)(H:V)(O:aA):Prop:=∀Y Z m fa R E I s af,R.units+400<fp->bL B I z s->cf I s.heap x Y->cf I s.heap lo Z->cf I s.heap aB m->s.heap.IsSliceOf fa Z m .none->iy B I s O H af->bb (ct B) R (nE Y (.ref fa)) af E s
theorem Pk(X:qK x lo)(W:qK Q aB)(U:D l<=cZ):Ap B (.Y l) x Q z (.Y (tp l lo aB)) z:=λC L m fa R E I s af M ae Y J g P q=>by
 have r:=Y;revert r;refine Y.t λa ar k w ab ac=>λr=>r' ⟨_,ab,y,k,y⟩ P (X.part J) (W.part g) (λF Z=>?_) (q.Y ae (ac.Qz lo aB)) (ac.size▸mF U);have:tp l lo aB=l:=by
  rw[ac.size]at F Z;unfold tp;rw[←QA,F,Ws];rw[F]at Z;rw[Z,zu]
 rw[this]at q;exact q.fx ae r s.toks
theorem TT{a k:Nat}(ae:bL B I z s)(ab:s.heap.get? a=A (gp ar k))(ac:ci I s.heap l ar.toList)(X:qK x lo)(Z:qK Q aB)(Y:D l<=cZ)(J:cf I s.heap x Z7)(g:cf I s.heap Q aI)(W:s.heap.IsSliceOf fa Z7 aI .none)(q:iy B I s (z++[.W (tp l lo aB)]) (.J (D z)) af):bb (ct B) R (nE (.ref a) (.ref fa)) af E s:=by refine wpAny_getItem_list_slice (hE ab) W (X.part J).RC (Z.part g).RC IsPart.none (by simp) ?_ (by rw[ac.size];exact mF Y);rw[slicePick_plain,f6,f7];exact q.lst ae (ac.Qz lo aB)
theorem Pj(W:z[p]?=A (.W l))(X:qK x lo)(Z:qK Q aB)(Y:D l<=cZ):Ap B (.J p) x Q z (.J (D z)) (z++[.W (tp l lo aB)]):=λF L m fa R E I s af M ae P J g U q=>by exact ae.ie W P λa ar k b ab ac=>TT ae ab ac X Z Y J g U q
theorem ZI(W:z[p]?=A (.arg l))(X:qK x lo)(Z:qK Q aB)(Y:D l<=cZ):Ap B (.J p) x Q z (.J (D z)) (z++[.W (tp l lo aB)]):=λF L m fa R E I s af M ae P J g U q=>by exact ae.IM W P λa ar k ab ac=>TT ae ab ac X Z Y J g U q
theorem r_{r:aZ}{b n:Int}{t u w x:mQ}(I:s.heap.get? r=A (yr 0 b 1 t u w))(al:0<=b)(Z:b<2^62)(J:0<=n)(U:s.heap.IsSliceOf fa .none (.int n x) .none){e:eU}(q:af (.ref s.heap.objs.size) {s with heap:=s.heap.push (yr 0 (gn b n) 1 s.toks (s.toks+1) (s.toks+2)),toks:=s.toks+3}):bb (dm prog e) R (nE (.ref r) (.ref fa)) af E s:=by
 refine bp λP=>U.elim λos M=>M.elim λv W=>W.elim λl F=>P ?_;have c:s.TypeIs (.ref fa) "slice":=⟨os,v,l⟩
 have Y:s.TypeIs (.ref r) "range":=⟨_,I,y⟩
 unfold nE
 try with_reducible refine eX ?_
 first|refine ap (bh ?_)|skip
 refine ap (DF Y (by decide) (ap (pj (name:=jA "__getitem__") Y NY (kM NY Y aea ?_ (adL _ _)))));show bb _ _ (XU (.ref r)>>=_) _ _ s;have X:∀{af:Int×Int×Int->aN->Prop},af (0,b,1) s->bb (dm prog e) R.in1 (XU (.ref r)) af E s:=λq=>by
  exact ap (iq I y (x:=.int 0 t) y (ap (pk (a:=A 0) y (ap (iq I y (x:=.int b u) y (ap (pk (a:=A b) y (ap (iq I y (x:=.int 1 w) y (ap (pk (a:=A 1) y (bh q))))))))))))
 refine ap (X (ap (ou c ?_)));rw[cg (by decide)];refine ap (ap (iq v F (x:=.none) y (ap (iq v F (x:=.int n x) y (ap (iq v F (x:=.none) y (bh (ap (HI ?_)))))))));show bb _ _ (if((1:Int)==0)=ak then _ else _) _ _ s;rw[bV (by decide)];refine ap (HI (ap (XN ?_)));have j:zR 0 b 1=b:=by
  unfold zR;rw[cg (by decide)];by_cases aR:0<b
  ·rw[cg aR,CA];exact(CB ..).trans (CC b)
  ·rw[bV aR];exact VX al (pR.mp aR)
 have aE:Dm aj (A n) 1 b=(0,gn b n):=by
  unfold Dm;have ab:¬((1:Int)<0):=by decide
  have ac:¬(n<0):=pR.mpr J;simp only[ab,ac,if_false]
  congr 1
  exact Int.min_comm ..
 have h:∀{k:Int} {af:Unit->aN->Prop},af () s->bb (dm prog e) R.in1 (Builtin.roomForPylong (k*1) (1*1)) af E s:=λ{k} {af} q=>by
  unfold Builtin.roomForPylong;rw[NA (aF y),bV (by simp)];exact bh q
 have d:∀{i:Int} {s:aN} {af:aw->aN->Prop},i.natAbs.log2<1000->af (.int i s.toks) {s with toks:=s.toks+1}->bb (dm prog e) R.in1 (Dz i) af E s:=λ{i} {s} {af} aB q=>by
  unfold Dz;rw[bV (kI.mpr (ef aB (aF y)))];exact Il q
 have g:(0+(gn b n)*1:Int).natAbs.log2<1000:=by
  by_cases aR:(0+(gn b n)*1:Int).natAbs=0
  ·rw[aR];decide
  ·have:=(Nb aR).mpr (show(0+(gn b n)*1:Int).natAbs<2^1000 from by
    have:(0+(gn b n)*1:Int).natAbs<2^62:=acN al Z J;exact ef this (wV (aF y) (aF y)))
   exact this
 simp only[Option.getD_none,j,aE];refine ap (h (ap (m:=Dz (0+0*1)) (d (i:=0+0*1) (aF y) (ap (m:=Dz (0+gn b n*1)) (d (i:=0+gn b n*1) g (ap (m:=Dz (1*1)) (d (i:=1*1) (aF y) (ap (qk ?_ (hd:=by size_fits))))))))));refine bh ⟨_,y,bh ?_⟩;have o:(0+0*1:Int)=0:=by decide
 have bq:(0+gn b n*1:Int)=gn b n:=(GN _).trans (GJ _);have p:(1*1:Int)=1:=by decide
 rw[o,bq,p];exact q
theorem ZJ{b k:Nat}(al:b<2^62)(X:k<2^62):Ap B (.jH 0 b 1) .bM (.X k) z (.jH 0 (gn b k:Nat) 1) z:=λP U m fa R E I s af W ae Y J g Z q=>by revert Z;refine J.Bu<|g.i λu=>?_;intro Z;refine Y.g λr t L w M ab=>?_;have e:((gn b k:Nat):Int)=gn (b:Int) (k:Int):=(FQ b k).symm;rw[e]at q;exact r_ ab (sp b) (lH.mpr al) (sp k) Z (q _ I _ (ae.gL (aJ:={s with heap:=s.heap.push _,toks:=_}) (fR _ _) y y) (bB.push _) ⟨s.heap.objs.size,_,_,_,y,ae.wd,gG _ y⟩)
end
section
variable{c:eT} {s:aN} {x:V} {a b d:afe} {ag:List afe} {G:List V} {i j:Int}
theorem Tt{k:Nat}{p q:V}{u w:aw}(W:R.units+k<fp)(t:hJ I s.heap k p u)(Z:hJ I s.heap k q w)(X:(∃l G,p=.Y l/\q=.Y G)\/(∃i j,p=.X i/\q=.X j)\/∃i j,p=.cG i/\q=.cG j):RcAt R s u w (V.dE p q)/\RcNeAt R s u w (!V.dE p q):=by
 rcases X with⟨l,G,rfl,rfl⟩|⟨i,j,rfl,rfl⟩|⟨i,j,rfl,rfl⟩
 ·cases t with
  |Y aR ab ac bo=>cases Z with
   |Y _ U P M=>rw[IT];exact(Fx (er (dP _ _) W) ac P bo M λa b=>AY (FP W ‹_›) a b).1 _ _ ab U
 ·cases t;cases Z;rw[DQ];exact⟨RcAt.int_int _ _ _ _,RcNeAt.int_int _ _ _ _⟩
 ·cases t;cases Z;rw[IS];exact⟨RcAt.str_str _ _ _ _,RcNeAt.str_str _ _ _ _⟩
def nr(x Q:V):Prop:=V.gh 100 x=ak/\V.gh 100 Q=ak/\((∃l G,x=.Y l/\Q=.Y G)\/(∃i j,x=.X i/\Q=.X j)\/∃i j,x=.cG i/\Q=.cG j)
theorem wX(X:nr x Q):gw B (kq .Eq) x Q z (.dF (V.dE x Q)) z:=λW o R E I s af Z ae Y J q=>(Tt (Ez Z (aF y)) (iI X.1 Y) (iI X.2.1 J) X.2.2).1 _ _ _ _ (q.fx ae y s.toks)
theorem wY(X:nr x Q):gw B (kq .NotEq) x Q z (.dF !(V.dE x Q)) z:=λW o R E I s af Z ae Y J q=>(Tt (Ez Z (aF y)) (iI X.1 Y) (iI X.2.1 J) X.2.2).2 _ _ _ _ (q.fx ae y s.toks)
theorem Xz:gw B (kq .NotEq) (.Y l) .bM z (.dF ak) z:=λX o R E I s af Z ae Y J q=>by exact Y.t λa ar k W ab ac=>J.Bu<|RcNeAt.tuple_none (kQ ab) (er (dP _ _) Z) _ _ _ _ (q.fx ae y s.toks)
theorem Tu{u w:aw}(ae:bL B I z s)(Z:R.units+400<fp)(X:z[p]?=A (.W l))(W:z[q]?=A (.W G))(dv:V.fu 100 l=ak)(et:V.fu 100 G=ak)(U:cf I s.heap (.J p) u)(J:cf I s.heap (.J q) w):RcAt R s u w (V.kx l G)/\RcNeAt R s u w (!V.kx l G):=ae.ie X U λa ar k x ab ac=>ae.ie W J λb bD bI x bo Y=>(Fx (er (dP _ _) Z) dv et ac Y λa b=>AY (kP Z (aF y)) a b).2 _ _ ab bo
theorem Xs(Z:z[p]?=A (.W l))(Y:z[q]?=A (.W G))(dv:V.fu 100 l=ak)(et:V.fu 100 G=ak):gw B (kq .Eq) (.J p) (.J q) z (.dF (V.kx l G)) z:=λU o R E I s af X ae W J k=>(Tu ae X Z Y dv et W J).1 _ _ _ _ (k.fx ae y s.toks)
theorem vc(Z:z[p]?=A (.W l))(Y:z[q]?=A (.W G))(dv:V.fu 100 l=ak)(et:V.fu 100 G=ak):gw B (kq .NotEq) (.J p) (.J q) z (.dF !(V.kx l G)) z:=λU o R E I s af X ae W J k=>(Tu ae X Z Y dv et W J).2 _ _ _ _ (k.fx ae y s.toks)
theorem Xw:gw B (kq .Lt) (.X i) (.X j) z (.dF (dV (i<j))) z:=λX o R E I s af Y ae Z J q=>by exact Z.i λx=>J.i λx=>Zz (q.fx ae y s.toks)
theorem Np:gw B (kq .LtE) (.X i) (.X j) z (.dF (dV (i<=j))) z:=λX o R E I s af Y ae Z J q=>by exact Z.i λx=>J.i λx=>PySem.P.le_int (q.fx ae y s.toks)
theorem Xv:gw B (kq .Gt) (.X i) (.X j) z (.dF (dV (j<i))) z:=λX o R E I s af Y ae Z J q=>by exact Z.i λx=>J.i λx=>PySem.P.gt_int (q.fx ae y s.toks)
theorem TM{k:Nat}(X:R.units+k<fp)(g:hJ I s.heap k x Z7)(be:V.fu k l=ak)(J:ci I s.heap l aX):∃e:aw->Bool,(∀Q,Q∈aX->EqAt R s Q Z7 (e Q))/\aX.any e=l.any λQ=>V.dE Q x:=by
 classical
 have j:∀Q,Q∈aX->∃H,H∈l/\cf I s.heap H Q:=λQ Y=>by
  refine bp λP=>?_;refine(zq.mp Y).elim λi n=>n.elim λaB e=>?_;have B:i<D l:=J.length▸aB;refine(J.get.2 i (fO B)).elim λaI U=>U.elim λab ac=>?_;rw[fO aB,e]at ab;obtain rfl:=dk ab;refine P ?_;exact⟨_,pV B,ac⟩
 have h:∀H,H∈l->∃Q,Q∈aX/\cf I s.heap H Q:=λH Z=>by
  refine bp λP=>?_;refine(zq.mp Z).elim λi a=>a.elim λaB e=>?_;refine(J.get.2 i (e▸fO aB)).elim λaI E=>E.elim λab ac=>?_;refine P ?_;exact⟨aI,io ab,ac⟩
 refine⟨λQ=>dV (cf I s.heap x Q/\V.gh k x=ak\/∃H,H∈l/\cf I s.heap H Q/\H=x),λQ Y=>?_,?_⟩
 ·refine bp λP=>?_;refine(j Q Y).elim λH L=>L.elim λZ r=>?_;refine P ?_;have this:=AY X (iI (nV be Z) r) g;refine Eq.subst (motive:=λb=>EqAt R s Q Z7 b) ?_ this;rw[tB,V.fE,decide_eq_true_iff];refine⟨λe=>.inr ⟨H,Z,r,e⟩,λe=>?_⟩;refine e.elim (λz=>?_) λt=>?_
  ·refine z.elim λe p=>?_;exact hJ.inj (iI (nV be Z) r) (iI p e)
  ·refine t.elim λw F=>F.elim λm C=>C.elim λu e=>?_;exact e▸hJ.inj (iI (nV be Z) r) (iI (nV be m) u)
 ·rw[tB,GS,GS];constructor
  ·rintro⟨Q,Y,e⟩;refine bp λP=>?_;refine(j Q Y).elim λH M=>M.elim λZ r=>?_;refine P ?_;refine⟨H,Z,V.fE.mpr ?_⟩;refine(decide_eq_true_iff.mp e).elim (λz=>?_) λt=>?_
   ·refine z.elim λe p=>?_;exact hJ.inj (iI (nV be Z) r) (iI p e)
   ·refine t.elim λw c=>c.elim λm W=>W.elim λu e=>?_;exact e▸hJ.inj (iI (nV be Z) r) (iI (nV be m) u)
  ·rintro⟨H,Z,e⟩;refine bp λP=>?_;refine(h H Z).elim λQ q=>q.elim λY r=>?_;refine P ?_;exact⟨Q,Y,decide_eq_true_iff.mpr (.inr ⟨H,Z,r,V.fE.mp e⟩)⟩
theorem adl(X:z[p]?=A (.W l))(g:V.gh 100 x=ak)(be:V.fu 100 l=ak):gw B (kq .In) x (.J p) z (.dF (l.any λQ=>V.dE Q x)) z:=λM o R E I s af W ae U J q=>by refine ae.ie X J λa ar k b ab ac=>bp λP=>(TM (R:=R.in1) (kP W (aF y)) (iI g U) be ac).elim λe r=>r.elim λt Z=>P ?_;rw[←Z,Va]at q;exact in_listAt e (hE ab) (λQ Y=>t Q (Cj.mpr Y)) (q.fx ae y s.toks)
theorem Nq(X:z[p]?=A (.W l))(g:V.gh 100 x=ak)(be:V.fu 100 l=ak):gw B (kq .NotIn) x (.J p) z (.dF !(l.any λQ=>V.dE Q x)) z:=λL o R E I s af U ae M J q=>by refine ae.ie X J λa ar k b ab ac=>bp λP=>(TM (R:=R.in1) (kP U (aF y)) (iI g M) be ac).elim λe W=>W.elim λt Z=>P ?_;rw[←Z,Va]at q;exact notIn_listAt e (hE ab) (λQ Y=>t Q (Cj.mpr Y)) (q.fx ae y s.toks)
theorem Xp{w:bj}(m:w=("a":bj)\/w=("b":bj)\/w=("f":bj)\/w=("g":bj)\/w=("h":bj)):gw B (kq .In) (.cG w) (.cG ("()[]{},:":bj)) z (.dF aW) z:=λX o R E I s af Y ae Z J q=>by
 refine Z.s λx=>J.s λx=>?_;have e:(!(Builtin.Str.occurrences ("()[]{},:":bj) w 0 ("()[]{},:":bj).length 1).isEmpty)=aW:=by
  rcases m with h|h|h|h|h<;>· rw[h];decide+kernel
 exact P.in_str (e▸q.fx ae rfl s.toks)
theorem aeU{C:HK}{p:bU}:boolOp Z3 C (evalEach [p] ay)=lh p ay:=y
theorem Vz(aE:eB B n a N z k ah)(g:bW B n a N z (.dF k) ah)(al:k=ak->bW B n b N ah (.dF iJ) O)(J:k=aW->iJ=aW/\O=ah):bW B n (.and [a,b]) N z (.dF iJ) O:=λc bu R E ay st I s af W aD q=>by
 refine wc.bX W λC aK p W=>(bx W).elim λP Z=>?_;obtain rfl:=dA P;refine(bx Z).elim λx Z=>?_
 match aK,Z with
 |[],Z=>exact aG Z dT
 |[_],Z=>exact aG (bx (bx Z).2).2 dT
 |p::r::aK,Z=>
 refine(bx Z).elim λx Z=>(bx Z).elim λF Z=>(bx Z).elim λx Z=>(bx Z).elim λw u=>?_;obtain rfl:=mg.mp u;show bb _ _ (do
  let H←lh p ay
  DC _
  let t←xm [H] (truthy H)
  match BoolOp.And,t with
  |.And,aW|.Or,ak=>ey H
  |_,_=>boolOp _ .And (evalEach [r] ay)) _ _ _
 refine ap (g c p R E ay st I s _ F aD λaI m L M Y U=>ap (jc ?_));revert U;refineλU=>U.sV<|ap (eX (vr ?_));cases k with
 |true=>exact al y c r R E ay st m L _ w (aD.Y M Y) (q.after Y)
 |false=>obtain⟨rfl,rfl⟩:=J y;exact bh (q _ m L M Y y)
def tF(B:bT)(n:Nat)(C:HK)(ag:List afe)(N:bk)(z:aA)(b:Bool)(O:aA):Prop:=∀c aK R E ay st I s af,lr B.t ag c aK=ak->jV B n c R ay st N I z s->Gy B I s O (af b)->bb (ct B) R (allTrue C aK ay) af E s
theorem UX:tF B n .And [] N z ak z:=λc aK R E ay st I s af Z aD q=>by obtain rfl:=mg.mp Z;exact wpAny_allTrue_And_nil (q I s aD.dj bB.dd)
theorem XE:tF B n .Or [] N z aW z:=λc aK R E ay st I s af Z aD q=>by obtain rfl:=mg.mp Z;exact wpAny_allTrue_Or_nil (q I s aD.dj bB.dd)
theorem FS(ab:eB B n e N z k ah)(ac:k=ak->tF B n .And ag N ah r O)(bo:k=aW->r=aW/\O=ah):tF B n .And (e::ag) N z r O:=λc aK R E ay st I s af W aD q=>by
 cases aK with
 |nil=>exact aG W dT
 |cons p aK=>
  obtain⟨F,M⟩:=bx (bx W).2;refine wpAny_allTrue_And_cons (ab c p R E ay st I s _ F aD λm L Y Z=>?_);cases k with
  |true=>exact ac y c aK R E ay st m L _ M (aD.Y Y Z) λt f U P=>q t f U (Z.trans P)
  |false=>obtain⟨rfl,rfl⟩:=bo y;exact q m L Y Z
theorem zJ(ab:eB B n e N z k ah)(ac:k=aW->tF B n .Or ag N ah r O)(bo:k=ak->r=ak/\O=ah):tF B n .Or (e::ag) N z r O:=λc aK R E ay st I s af W aD q=>by
 cases aK with
 |nil=>exact aG W dT
 |cons p aK=>
  obtain⟨F,M⟩:=bx (bx W).2;refine wpAny_allTrue_Or_cons (ab c p R E ay st I s _ F aD λm L Y Z=>?_);cases k with
  |false=>exact ac y c aK R E ay st m L _ M (aD.Y Y Z) λt f U P=>q t f U (Z.trans P)
  |true=>obtain⟨rfl,rfl⟩:=bo y;exact q m L Y Z
theorem Po(h:tF B n .And ag N z k O):eB B n (.and ag) N z k O:=λc bu R E ay st I s af Z aD q=>by refine wc.bX Z λC aK p Z=>(bx Z).elim λP Y=>?_;obtain rfl:=dA P;exact Zv (h c aK R E ay st I s af (bx Y).2 aD q)
theorem IA(h:tF B n .Or ag N z k O):eB B n (.or ag) N z k O:=λc bu R E ay st I s af Z aD q=>by refine wc.bX Z λC aK p Z=>(bx Z).elim λP Y=>?_;obtain rfl:=dA P;exact Zv (h c aK R E ay st I s af (bx Y).2 aD q)
theorem PL{p:bU}{x:bj}{Z:kc aw}(h:Bv p=ak):attributeBase p x ay Z=Z:=by
 cases p with
 |Call f aK aC q=>
  cases f with
  |Name Q r=>cases aK with
   |nil=>cases aC with
    |nil=>exact aG h dT
    |cons _ _=>rfl
   |cons _ _=>rfl
  |_=>rfl
 |_=>rfl
theorem dR{k a:Nat}{C:afe}(u:bW B n C N z (.J a) ah)(aE:ah[a]?=A (.dH k cd))(M:mw cd nm=A H)(g:B.P.bZ k nm=aj):bW B n (.cy C nm) N z H ah:=λc bu R E ay st I s af Z aD q=>by refine rU.bX Z λp x W Z=>(bx Z).elim λb Z=>(bx Z).elim λh P=>?_;obtain rfl:=dA h;refine(bx P).elim λU l=>?_;rw[arm_eval_Attribute,PL U];refine ap (u c p R E ay st I s _ l aD λaI F L i Y J=>ap (jc ?_));revert J;exactλJ=>i.JR aE J λx d ag G w bf=>ap (eX (q9 i bf M g λaI t r=>ap (Zx (bh (q aI F _ (i.toks t) Y r)))))
theorem Ue{C i:aw}{T:String}(Y:s.TypeIs C T)(X:vp (.type T) "__getitem__"=ey (A (.builtin Z1)))(h:bb (ct B) R (nE C i) af E s):bb (ct B) R (do
   DC Z3
   let r←subscripted bu (←getitemInPython C) C i
   Zb Z6 C r
   ey r) af E s:=by
 refine ap (jc (ap (ap (rj Y X ?_))));have fin:∀aX,bb (ct B) R (operate aX (nE C i)) (λr Z=>bb (ct B) R (Zb Z6 C r>>=λz=>ey r) af E Z) E s:=λaX=>
  wpAny_operating (jb h (λr Z u=>ap (Zx (bh u))) λz z x=>x)
 refine bh (ap ?_);cases bu with
 |Slice a b c p=>obtain⟨⟩:=c<;>exact fin _
 |_=>exact fin _
inductive CD(z:aA):V->Prop
|Y {l:List V}:CD z (.Y l)
|cG {w:bj}:CD z (.cG w)
|jH {a b c:Int}:CD z (.jH a b c)
|W {p:Nat} {l:List V}:z[p]?=A (.W l)->CD z (.J p)
|arg {p:Nat} {l:List V}:z[p]?=A (.arg l)->CD z (.J p)
|Z {p:Nat} {ag:List (V×V)}:z[p]?=A (.Z ag)->CD z (.J p)
theorem CD.road(h:CD z x)(ae:bL B I z s)(X:cf I s.heap x Z7):∃T P,s.TypeIs Z7 T/\vp (.type T) "__getitem__"=ey (A (.builtin P)):=by
 cases h with
 |Y=>exact X.t λa ar k M ab ac=>⟨_,_,⟨_,ab,y⟩,Ny.lookup⟩
 |cG=>exact X.s λt=>⟨_,_,OU s _ t,aes.lookup⟩
 |jH=>exact X.g λr t u w M ab=>⟨_,_,⟨_,ab,y⟩,NY.lookup⟩
 |W e=>exact ae.ie e X λa ar k b ab ac=>⟨_,_,⟨_,ab,y⟩,Zl.lookup⟩
 |arg e=>exact ae.IM e X λa ar k ab ac=>⟨_,_,⟨_,ab,y⟩,Zl.lookup⟩
 |Z e=>exact ae.pB e X λd dW cJ g U=>⟨_,_,U.typeIs,OQ.lookup⟩
theorem fo(aE:bW B n a N z x ah)(al:bW B n b N ah Q aV)(aB:CD aV x)(u:gw B nE x Q aV H cD):bW B n (.Z a b) N z H cD:=λc bu R E ay st I s af U aD q=>by exact uy.bX U λp r W U=>bp λP=>(bx U).elim λF h=>P<|ap (aE c p R E ay st I s _ F aD λO m L i w J=>ap (eX (al c r R E ay st m L _ h (aD.Y i w) λo t f M Z cK=>bp λP=>(aB.road M (J.fl Z)).elim λT l=>l.elim λk C=>C.elim λY g=>P (Ue Y g (u O o R E t f _ aD.u M (J.fl Z) cK ((q.after w).after Z))))))
theorem PR{q:Option bU}(U:bW B n e N z H ah)(J:rL e=ak->H=.bM/\ah=z)(Z:Fe q (rL e) (λp=>fv B.t e c p)=ak)(aD:jV B n c R ay st N I z s)(k:iy B I s ah H af):bb (ct B) R (valueOrNone (evalOpt q ay)) af E s:=by
 cases q with
 |some p=>exact U c p R E ay st I s _ Z aD k
 |none=>refine bp λP=>(J Z).elim λY W=>?_;obtain rfl:=Y;obtain rfl:=W;exact P<|bh (k.fx aD.dj (H:=.bM) y s.toks)
theorem wt{C lo aB:afe}(A2:bW B n C N z x ah)(A0:bW B n lo N ah Q aV)(J:bW B n aB N aV ba cD)(A5:rL lo=ak->Q=.bM/\aV=ah)(A4:rL aB=ak->ba=.bM/\cD=aV)(j:CD cD x)(h:Ap B x Q ba cD H O):bW B n (.eb C lo aB) N z H O:=λc bu R E ay st I s af Z aD q=>by refine uy.bX Z λp r B1 Z=>?_;refine bp λP=>?_;refine(bx Z).elim λF Z=>?_;refine P ?_;refine Ff.bX Z λa b B2 Z=>?_;refine bp λP=>?_;refine(bx Z).elim λf l=>?_;refine P ?_;refine ap (A2 c p R E ay st I s _ F aD λA3 B5 B3 i M A8=>ap (eX ?_));refine ap (PR A0 A5 f (aD.Y i M) λw B6 B4 m L cK=>ap (eX (PR J A4 l ((aD.Y i M).Y m L) λg U e k d A9=>ap (eX ?_))));refine bh (qk ?_ (hd:=by size_fits));have W:bB [] U e.heap U (e.heap.push {cls:=.type "slice",data:=.fields #[w,g,.none]}):=bB.push _;have u:bL B U cD {e with heap:=e.heap.push {cls:=.type "slice",data:=.fields #[w,g,.none]}}:=k.gL (fR _ _) y y;have t:=((A8.fl L).fl d).fl W;refine bp λP=>?_;refine(j.road u t).elim λT A6=>A6.elim λB0 A7=>A7.elim λY A1=>?_;refine P ?_;exact Ue Y A1 (h A3 w g _ R E U _ _ aD.u u t ((cK.fl d).fl W) (A9.fl W) (Heap.IsSliceOf.new ..) (((q.after M).after L).after d|>.after W))
end
section
variable{c:eT} {s:aN} {x:V} {a b d:afe} {ag:List afe} {G:List V} {i j:Int}
theorem Rm{x:bj}(F:gi B c I h st N ay)(Z:c.lS x=ak):ay.kindOf x=A .globalImplicit/\(x==("__debug__":bj))=aW:=(bx Z).elim λab ac=>⟨(F.kinds x _ (dA ab)).elim id (λh=>nomatch h.1),(qM _).mp ac⟩
theorem Ew{x:bj}{H:aw}(F:gi B c I s.heap st N ay)(ae:bL B I z s)(Y:c.lS x=ak)(e:nD B.K iE x=A (A H))(q:af H s):bb (ct B) R (lh (.Name x Z3) ay) af E s:=bp λP=>(Rm F Y).elim λab ac=>ae.good.g.elim λX Z=>P<|Ya F.kind ab (loadGlobal_global (F.Ek▸Z.keeps ae.fZ) (mg_of ae.good.CG Z e) q) ac
theorem Kh{x:bj}{H:aw}(F:gi B c I s.heap st N ay)(ae:bL B I z s)(W:c.lS x=ak)(g:x∈xC)(al:rh x=A H)(J:x≠("__name__":bj))(q:af H s):bb (ct B) R (lh (.Name x Z3) ay) af E s:=bp λP=>(Rm F W).elim λab ac=>ae.good.g.elim λM Z=>ae.good.b.elim λu U=>U.elim λY X=>P<|Ya F.kind ab (loadGlobal_builtin (F.Ek▸Z.keeps ae.fZ) (mg_none_of ae.good.CG Z (ae.good.bR x g)) (F.AG▸Y.keeps ae.fZ) ((X x J).trans al) q) ac
theorem Mf:bW B n (.vT i) N z (.X i) z:=λc bu R E ay st I s af Z aD q=>by exact gz.bX Z λx p Z=>bp λP=>(bx Z).elim λF Y=>(aD.dj.good.r3 x i (dA Y)).elim λt m=>P<|Ew aD.fr aD.dj F m (q.fx aD.dj (H:=.X i) ⟨t,y⟩ s.toks)
theorem yn:∀{aK:List bU},(∀p∈aK,lV p=ak)->(sO Z3 (qj aK ay)).any (·.1)=aW
|[],_=>y
|p::aK,h=>by
 rw[qF (h p (.head _))];show(aW||(sO Z3 (qj aK ay)).any (·.1))=aW;rw[yn λq Z=>h q ((.tail _ Z))];rfl
theorem xN{f:aw}{aK:List bU}{af:Args->aN->Prop}(J:∀p∈aK,lV p=ak)(h:bb (ct B) R (DB (sO Z3 (qj aK ay))) (λaX aJ=>af ⟨aX,[]⟩ aJ) E s):bb (ct B) R (evalArgs f ak (sO Z3 (qj aK ay)) []) af E s:=by
 cases aK with
 |nil=>
  refine ap (jb h (λaX aJ au=>?_) λz z x=>x)
  first
   |(refine eX ?_
     exact ap (bh (ap (bh (bh au)))))
   |(refine wpAny_bind (wpAny_pure ?_)
     exact wpAny_holding<|wpAny_bind (wpAny_pure (wpAny_bind (wpAny_pure (wpAny_pure au)))))
 |cons p aK=>rw[qF (J p (.head _))]at h⊢;exact evalArgs_plain h
def dU(B:bT)(n:Nat)(f:Nat)(m:List V)(z:aA)(H:V)(O:aA):Prop:=(B.P.body f).isSome=ak/\∀R I s cH (af:aw->aN->Prop),rm R n->bL B I z s->ci I s.heap m cH->iy B I s O H af->sQ (ct B) R (.call (.ref (B.fn f)) ⟨cH,[]⟩) (λr aJ=>∃aI,r=.ok (.ret aI)/\af aI aJ) s
theorem dU.wp(h:dU B n f l z H O)(u:rm R n)(ae:bL B I z s)(r:ci I s.heap l cH)(q:iy B I s O H af):bb (ct B) R (ja (.ref (B.fn f)) cH) af E s:=OX (Dx (h.2 R I s cH af u ae r q) λr aJ Z=>by obtain⟨aI,rfl,p⟩:=Z;exact p)
theorem uQ.func(Z:uQ B)(h:(B.P.body f).isSome=ak):∃C cc,B.K.lookup (B.fn f)=A C/\C.data=.func cc:=by refine bp λP=>?_;obtain⟨⟨Y,X,b⟩,e⟩:=sF.mp h;exact(Z.fn f Y X b e).elim λC W=>W.elim λcc U=>U.elim λbody w=>w.elim λaX F=>P<|⟨C,cc,F.RQ,F.QD⟩
theorem jK(k:qQ B n ag N z l ah)(w:dU B n f l ah H O):bW B n (.fg f ag) N z H O:=λc bu R E ay st I s af Y aD q=>by refine ih.bX Y λg aK W Y=>?_;refine bp λP=>?_;refine(bx Y).elim λZ U=>?_;refine P ?_;refine gz.bX Z λx r Z=>?_;refine bp λP=>?_;refine(bx Z).elim λp h=>?_;refine(aD.dj.good.JC f x (dA p)).elim λab a=>?_;refine(aD.dj.good.func w.1).elim λC j=>j.elim λcc M=>M.elim λu F=>?_;refine P ?_;refine HD y (Ew aD.fr aD.dj h ab (Yc (o:=C) (fd:=cc) (xN (ry U) ?_)));exact k c aK R E ay st I s W _ U aD λcH m L i t J=>⟨⟨i.K _ _ u,F⟩,w.wp aD.room.fg i J (q.after t)⟩
theorem c8{x:bj}(g:List (bj×aw)):∀(G:bj->Option aw),x∉g.map (·.1)->bindL k g G x=G x:=by
 induction g with
 |nil=>exactλz z=>y
 |cons p r F=>
  obtain⟨n,H⟩:=p;intro G h;refine(F _ λq=>h (.tail _ q)).trans ?_;by_cases c:k n=A .local
  ·exact(congrFun (if_pos c) x).trans (if_neg λq:x=n=>h (q▸.head _))
  ·exact congrFun (bV c) x
theorem c6{x:bj}(g:List (bj×aw)):∀(G:bj->Option aw),x∉g.map (·.1)->bindC k g G x=G x:=by
 induction g with
 |nil=>exactλz z=>y
 |cons p r F=>
  obtain⟨n,H⟩:=p;intro G h;refine(F _ λq=>h (.tail _ q)).trans ?_;by_cases c:k n=A .local
  ·exact congrFun (if_pos c) x
  ·exact(congrFun (if_neg c) x).trans (if_neg λq:x=n=>h (q▸.head _))
theorem LL{x:bj}{aK:List bj}(h:x∈(aK.zip cH).map (·.1)):x∈aK:=(bJ.mp h).elim λp q=>q.2▸(WH (a:=p.1) (b:=p.2) q.1).1
theorem c7{k:bj->Option iD}{x:bj}(X:k x=A .local){aK:List bj}:∀{cH:List aw} {i:Nat} {H:aw} (G:bj->Option aw),aK.Nodup->aK[i]?=A x->cH[i]?=A H->bindL k (aK.zip cH) G x=A H:=by
 induction aK with
 |nil=>exactλz z h=>aG h.symm (gJ _)
 |cons p aK F=>
  intro cH i H G J ab ac;cases cH with
  |nil=>exact aG ac.symm (gJ _)
  |cons u cH=>
   cases i with
   |zero=>obtain rfl:=dk ab;exact(c8 _ _ λh=>(jN.mp J).1 (LL h)).trans ((congrFun (cg X) p).trans ((cg y).trans ac))
   |succ i=>exact F _ (jN.mp J).2 ab ac
theorem c5{k:bj->Option iD}{x:bj}(X:k x≠A .local){aK:List bj}:∀{cH:List aw} {i:Nat} {H:aw} (G:bj->Option aw),aK.Nodup->aK[i]?=A x->cH[i]?=A H->bindC k (aK.zip cH) G x=A H:=by
 induction aK with
 |nil=>exactλz z h=>aG h.symm (gJ _)
 |cons p aK F=>
  intro cH i H G J ab ac;cases cH with
  |nil=>exact aG ac.symm (gJ _)
  |cons u cH=>
   cases i with
   |zero=>obtain rfl:=dk ab;exact(c6 _ _ λh=>(jN.mp J).1 (LL h)).trans ((congrFun (bV X) p).trans ((cg y).trans ac))
   |succ i=>exact F _ (jN.mp J).2 ab ac
theorem Ja(names:List (bj×iD)):∀(n:Nat) (bN:List (bj×aZ)),(mn n names bN).map (·.1)=((names.filter λx=>x.2==.cell).map (·.1)).reverse++bN.map (·.1):=by
 induction names with
 |nil=>exactλz z=>y
 |cons p r F=>
  obtain⟨x,k⟩:=p;intro n bN;by_cases X:(k==NameKind.cell)=ak
  ·refine(congrArg (zm _) (if_pos X)).trans ((F _ _).trans ?_);rw[MK (p:=λx:bj×iD=>x.2==.cell) X];exact(ha _ [x] _).symm.trans (bA (·++bN.map (·.1)) MV.symm)
  ·refine(bA (zm _) (bV X)).trans ((F _ _).trans ?_);rw[MJ (p:=λx:bj×iD=>x.2==.cell) X]
theorem RT{bw:Type}{l:List (bj×bw)}{x:bj}(h:x∈l.map (·.1)):(l.lookup x).isSome=ak:=by
 induction l with
 |nil=>simp at h
 |cons p r F=>
  obtain⟨k,H⟩:=p;rw[oW];cases al:x==k with
  |true=>rfl
  |false=>
   rw[jv,ee]at h;rcases h with rfl|h
   ·simp at al
   ·exact F h
theorem A!{bw:Type}{l:List (bj×bw)}{x:bj}{H:bw}(h:l.lookup x=A H):(x,H)∈l:=qh h
theorem Bm{bw:Type}{l:List (bj×bw)}(J:(l.map (·.1)).Nodup){x:bj}{H:bw}(h:(x,H)∈l):l.lookup x=A H:=by
 induction l with
 |nil=>cases h
 |cons p r F=>
  obtain⟨k,u⟩:=p;rw[jv,jN]at J;rw[oW];refine(ee.mp h).elim (λe=>?_) λau=>?_
  ·obtain⟨rfl,rfl⟩:=nC e;simp
  ·have:(x==k)=aW:=by
    rw[beq_eq_false_iff_ne];rintro rfl;exact J.1 (bJ.mpr ⟨(x,H),au,rfl⟩)
   exact this▸F J.2 au
theorem AK{x:bj}(n:Nat)(h:names.lookup x=A .cell):((mn n names []).lookup x).isSome=ak:=by refine RT ?_;rw[Ja];simp only[CQ,eF,CR];exact bJ.mpr ⟨(x,.cell),jw.mpr ⟨A! h,y⟩,y⟩
theorem e5(n:Nat)(J:(names.map (·.1)).Nodup):((mn n names []).map (·.1)).Nodup:=by rw[Ja];simp only[CQ,eF];exact List.pairwise_reverse.mpr (adh (λh=>h.symm) (J.sublist (List.Sublist.map _ pT)))
inductive sm(I:cw)(h:cv):hI->sI->Prop
|X:sm I h .X .next
|lp:sm I h .lp .brk
|dg {H:V} {aI:aw}:cf I h H aI->sm I h (.dg H) (.ret aI)
theorem sm.Y{f:sI}(r:sm I h de f)(S:bB aD I h bF au)(d:hn aD h):sm bF au de f:=by
 cases r with
 |X=>exact .X
 |lp=>exact .lp
 |dg r=>exact .dg (r.Y S d)
def uP(B:bT)(c:eT)(I:cw)(s:aN)(st:List aZ)(ay:fJ)(de:hI)(bY:bk)(O:aA)(af:sI->aN->Prop):Prop:=∀f bF aJ,bL B bF O aJ->gi B c bF aJ.heap st bY ay->bB st I s.heap bF aJ.heap->sm bF aJ.heap de f->af f aJ
def eM(B:bT)(n:Nat)(b:S)(N:bk)(z:aA)(de:hI)(bY:bk)(O:aA):Prop:=∀c aK R E ay st I s af,Jb B.t b c aK=ak->jV B n c R ay st N I z s->uP B c I s st ay de bY O af->bb (ct B) R (YT aK ay) af E s
def gb(B:bT)(n:Nat)(b:List S)(N:bk)(z:aA)(de:hI)(bY:bk)(O:aA):Prop:=∀c aK R E ay st I s af,qs B.t b c aK=ak->jV B n c R ay st N I z s->uP B c I s st ay de bY O af->bb (ct B) R (YU aK ay) af E s
theorem jV.weak(aD:jV B n c R ay st N I z s)(S:bB [] I s.heap bF aJ.heap):bB st I s.heap bF aJ.heap:=S.weak aD.fr.gf
theorem uP.vL{f:sI}{af:sI->aN->Prop}(q:uP B c I s st ay de N O af)(aD:jV B n c R ay st N I z s)(hc:bL B bF O aJ)(S:bB [] I s.heap bF aJ.heap)(Z:sm bF aJ.heap de f):af f aJ:=q f bF aJ hc (aD.fr.Y S) (aD.weak S) Z
theorem uP.after{af:sI->aN->Prop}(S:bB st I s.heap bF aJ.heap)(q:uP B c I s st ay de N z af):uP B c bF aJ st ay de N z af:=λf t U Y Z X W=>q f t U Y Z (S.trans X) W
theorem bB.m5(L:bB [] I h I ab)(f:bB aD I ab bF au)(t:∀b∈aD,h.get? b=aj):bB [] I h bF au where
 pre:=f.pre
 gf b C _ e:=by
  exact(L.gf b C afk e).elim λY bP=>f.gf b Y (λal=>iH (t b al) e) bP
 fresh b Z ac:=⟨L.gone (f.fresh b Z ac).1,afk⟩
 jr b C Z _ e:=f.jr b C Z (λal=>iH (t b al) e) (L.jr b C Z afk e)
theorem gi.k'{a:aZ}{aX:List bj}{U:Nat}{M:aN}(ae:bL B I z s)(A2:cc.scope.kind=.function)(A1:cc.globals=iE)(al:cc.builtins=tX)(q:aX.Nodup)(A3:U<=D aX)(A4:(cc.scope.names.map (·.1)).Nodup)(o:∀x∈aX,cc.scope.names.lookup x=A .local\/cc.scope.names.lookup x=A .cell)(N:D l=U)(j:ci I s.heap l cH)(x:InCallC s (sP cc s.heap.objs.size a).locals (bindL (sP cc s.heap.objs.size a).kindOf ((aX.take U).zip cH) λc=>aj) (sP cc s.heap.objs.size a).cells (bindC (sP cc s.heap.objs.size a).kindOf ((aX.take U).zip cH) λc=>aj) M):bL B I z M/\bB [] I s.heap I M.heap/\gi B ⟨aX,cc.scope.names⟩ I M.heap (mx (sP cc s.heap.objs.size a)) (l.map A++CU (D aX-U) aj) (sP cc s.heap.objs.size a)/\∀b∈mx (sP cc s.heap.objs.size a),s.heap.get? b=aj:=by
 refine bp λP=>?_;obtain⟨A7,dh,L,O⟩:=x.done;refine P ?_;have A0:bL B I z M:=ae.gL (L▸O) (L.symm▸y) (L▸y);have g:bB [] I s.heap I M.heap:=bB.gL (L▸O);have p:(aX.take U).Nodup:=q.sublist (CV _ _);have h:∀(i:Nat) Q H,aX[i]?=A Q->(l.map A++CU (D aX-U) aj)[i]?=A (A H)->∃w,cH[i]?=A w/\cf I s.heap H w/\(aX.take U)[i]?=A Q:=by
  intro i Q H Y X;by_cases aB:i<D l
  ·rw[jY (Kg aB),fI,lN]at X;refine bp λP=>?_;obtain⟨A8,A5,e⟩:=X;obtain rfl:=dk e;obtain⟨w,m,r⟩:=j.get.2 i A5;exact P<|⟨w,m,r,MQ▸(cg (N▸aB))▸Y⟩
  ·rw[iN (gu (ib aB)),List.getElem?_replicate]at X;split at X<;>exact nomatch X
 clear L O j;have E:∀b∈mx (sP cc s.heap.objs.size a),s.heap.get? b=aj:=by
  intro b al;rcases ee.mp al with rfl|al
  ·exact uz
  ·refine bp λP=>?_;obtain⟨⟨Q,d⟩,Y,rfl⟩:=bJ.mp al;exact P<|qw (dK (x.above Q d Y))
 refine⟨A0,g,{kinds:=λQ k e=>.inl e,kind:=A2,Ek:=A1,AG:=al,J:=?_,nodup:=q,var:=⟨_,x.toInCall.ns,λi Q Y=>?_⟩,apart:=λb C=>?_,W:=λQ ba d ab ac=>?_,tx:=λQ Y A6=>?_,Z:=λb al=>al},E⟩
 ·rw[cp,bK,List.length_replicate,N];exact tQ A3
 ·rcases o Q (io Y)with t|u
  ·refine⟨_,.J t,λH X=>bp λP=>?_⟩;obtain⟨w,m,r,f⟩:=h i Q H Y X;exact P<|⟨w,c7 (k:=(sP cc s.heap.objs.size a).kindOf) t _ p f m,r.fl g⟩
  ·refine bp λP=>?_;obtain⟨d,F⟩:=sF.mp (AK (s.heap.objs.size+1) u);refine P<|⟨_,.cell (.inl u) F (x.cell Q d F),λH X=>bp λP=>?_⟩;obtain⟨w,m,r,f⟩:=h i Q H Y X;exact P<|⟨w,c5 (k:=(sP cc s.heap.objs.size a).kindOf) (λe=>nomatch u.symm.trans e) _ p f m,r.fl g⟩
 ·have n:=E b C;refine⟨ae.hM n,ae.wa n,?_⟩;rcases ee.mp C with rfl|C
  ·exact Bw x.toInCall.ns
  ·refine bp λP=>?_;obtain⟨⟨Q,d⟩,Y,rfl⟩:=bJ.mp C;exact P<|IZ (x.cell Q d (Bm (e5 (names:=cc.scope.names) (s.heap.objs.size+1) A4) Y))
 ·exact Ze x.apart (qh ab) (qh ac)
 ·rcases o Q A6 with t|u
  ·exact .inl ⟨t,.head _⟩
  ·refine bp λP=>?_;obtain⟨d,F⟩:=sF.mp (AK (s.heap.objs.size+1) u);exact P<|.inr ⟨(λe=>nomatch u.symm.trans e),d,F,.tail _ (yc F)⟩
theorem rm.body{R:ez}{n:Nat}(h:rm R (n+1))(ay:fJ):qn (R.deeper ay) n:=by
 obtain⟨ab,ac,bo⟩:=h;refine⟨ab,?_,?_⟩
 ·show R.depth+1+3*n+8<DA;rw[jZ R.depth 1];exact pd ac
 ·show R.units+3+40*n+440<fp;rw[Dh,←jn]at bo;rw[jZ R.units 3];exact er (gE (aF y:443<=460) _) bo
theorem ep{U:Nat}{b:List S}(al:B.P.body f=A (U,Z8,b))(t:D l=U)(N:gb B n b (l.map A++CU (Z8-U) aj) z de bY O)(W:de=.dg H\/(de=.X/\H=.bM)):dU B (n+1) f l z H O:=by
 refine⟨bA _ al,λR I s cH af u ae Z q=>bp λP=>(ae.good.fn f U Z8 b al).elim λC c=>c.elim λcc a=>a.elim λbody J=>J.elim λaX F=>P (codeAny_call_cells (fd:=cc) (body:=body) (binds:=(aX.take U).zip cH) (er (aq (dP _ _) (dP _ _)) u.2.1) (ae.K _ _ F.RQ) F.QD (ae.good.nolimit.keeps ae.fZ) (codeRec_of ae.K F.h') F.c' (F.bind cH (Z.length.symm.trans t)) F.Jd (λQ Y=>?_) (λe x=>?_) F.i_ F.hS F.xV)⟩
 ·have g:Q.1∈aX:=wM (LL (gd Y));exact(F.UF Q.1 g).imp id λab=>⟨ab,AK _ ab⟩
 ·refine bp λP=>(gi.k' ae F.xV F.r4 F.AG F.aa (F.J▸F.le) F.snd F.UF t Z x).elim λi L=>L.elim λp j=>j.elim λM E=>P ?_;rw[F.J]at M;refine N ⟨aX,cc.scope.names⟩ body _ _ _ _ I e _ F.e8 ⟨rm.body u _,M,i⟩ λf bF aJ hc hi k m=>?_;have w:bB [] I s.heap bF aJ.heap:=p.m5 k E;cases m with
  |X=>
   rcases W with W|⟨_,rfl⟩
   ·cases W
   ·exact⟨.none,rfl,q _ bF aJ hc w rfl⟩
  |lp=>rcases W with W|⟨W,_⟩<;>cases W
  |dg r=>
   rcases W with W|⟨W,_⟩
   ·cases W;exact⟨_,rfl,q _ bF aJ hc w r⟩
   ·cases W
theorem eW:gb B n [] N z .X N z:=λc aK R E ay st I s af Z aD q=>by obtain rfl:=mg.mp Z;exact OY (q.vL aD aD.dj bB.dd .X)
theorem LP{b:S}{g:List S}{Y:hI}(al:xU b=aW)(ab:eM B n b N z Y dx ah)(ac:Y=.X->gb B n g dx ah de bY O)(bo:Y≠.X->de=Y/\bY=dx/\O=ah):gb B n (b::g) N z de bY O:=λc aK R E ay st I s af Z aD q=>by
 cases aK with
 |nil=>replace Z:(if xU b=ak then qs B.t g c []else aW)=ak:=Z;rw[al]at Z;exact aG Z dT
 |cons p aK=>
  replace Z:(if xU b=ak then qs B.t g c (p::aK)else(Jb B.t b c p&&qs B.t g c aK))=ak:=Z;rw[al,bV dT]at Z;refine bp λP=>(bx Z).elim λF J=>P<|wpAny_execs_cons (ab c p R E ay st I s _ F aD λf m L U W M C=>?_);cases C with
  |X=>exact ac y c aK R E ay st m L _ J ⟨aD.room,W,U⟩ (q.after M)
  |lp=>obtain⟨rfl,rfl,rfl⟩:=bo nofun;exact q _ m L U W M .lp
  |dg r=>obtain⟨rfl,rfl,rfl⟩:=bo nofun;exact q _ m L U W M (.dg r)
theorem bv{b:S}{g:List S}(ab:eM B n b N z .X dx ah)(ac:gb B n g dx ah de bY O)(al:xU b=aW:=by rfl):gb B n (b::g) N z de bY O:=LP al ab (λx=>ac) λh=>aG y h
theorem lE{b:S}{g:List S}(ab:eM B n b N z de bY O)(J:de≠.X)(al:xU b=aW:=by rfl):gb B n (b::g) N z de bY O:=LP al ab (λh=>aG h J) λx=>⟨y,y,y⟩
theorem Vh{i:Nat}(ac:gb B n g (N.set i aj) z de bY O):gb B n (.forget i::g) N z de bY O:=λc aK R E ay st I s af Z aD q=>ac c aK R E ay st I s af Z ⟨aD.room,aD.fr.le x2,aD.dj⟩ q
end
section
variable{c:eT} {s:aN} {x:V} {a b d:afe} {ag:List afe} {G:List V} {i j:Int}
theorem AB(U:bW B n e N z H O)(J:rL e=ak->H=.bM/\O=z:=by nofun):eM B n (.dg e) N z (.dg H) N O:=λc aK R E ay st I s af Z aD q=>by
 refine Fu.bX Z λp W Z=>?_;cases p with
 |some p=>exact wpAny_Return_some (U c p R E ay st I s _ Z aD λaI m L Y P M=>q.vL aD Y P (.dg M))
 |none=>obtain⟨rfl,rfl⟩:=J Z;exact wpAny_Return_none (q.vL aD aD.dj bB.dd (.dg (H:=.bM) y))
theorem Px{p q:List S}(F:eB B n d N z k ah)(aE:k=ak->gb B n p N ah de bY O)(al:k=aW->gb B n q N ah de bY O):eM B n (.fc d p q) N z de bY O:=λc aK R E ay st I s af Z aD q=>by
 refine Ft.bX Z λe x Q W Z=>bp λP=>(bx Z).elim λM Z=>(bx Z).elim λJ C=>P<|wpAny_If (F c e R E ay st I s _ M aD λm L U Y=>?_);cases k with
 |true=>exact aE y c x R E ay st m L _ J (aD.Y U Y) (q.after (aD.weak Y))
 |false=>exact al y c Q R E ay st m L _ C (aD.Y U Y) (q.after (aD.weak Y))
theorem a!:eM B n .lp N z .lp N z:=λc aK R E ay st I s af Z aD q=>by exact Fp.bX Z λW=>ap (jc (bh (q.vL aD aD.dj bB.dd .lp)))
theorem jR(U:bW B n e N z H O):eM B n (.fY e) N z .X N O:=λc aK R E ay st I s af Z aD q=>by
 refine Fq.bX Z λp W Z=>(bx Z).elim λF M=>?_;have aB:YY ay=aW:=by
  unfold YY;rw[aD.fr.kind];rfl
 have C:swapsWith p aj W.line ay=ey aW:=by refine ih.bX F λx x x x=>?_;exact y
 refine ap (jc ?_);rw[aB,bV dT,C];exact ap (bh (ap (U c p R E ay st I s _ M aD λaI m L Y P J=>wpAny_dropValue (q.vL aD Y P .X))))
theorem abg(h:yj bu=ak)(t:bU)(Z:Nat):Zo [t] bu Z ay=ey aW:=by obtain⟨⟩:=bu<;>first|rfl|exact absurd h dT
theorem DO{t:bU}{af:sI->aN->Prop}(m:vn [t] bu ay=ey aj)(Y:(Ad [t] ay).map (·.2)=[rg t ay])(Z:yj bu=ak)(h:bb (ct B) R (lh bu ay) (λH L=>bb (ct B) R (rg t ay H) (λz f=>af .next f) E L) E s):bb (ct B) R (YT (.Assign [t] bu Z3) ay) af E s:=by refine ap (jc ?_);rw[abg Z];exact ap (bh ((bV dT)▸m▸Y▸ap (jb h (λH L ab=>ap (bh (ap (jb ab (λz f ac=>bh ac) λz z x=>x)))) λz z x=>x)))
theorem abc{Q:bj}{p:iR}(bu:bU):vn [.Name Q p] bu ay=ey aj:=by obtain⟨⟩:=bu<;>rfl
theorem abb{Q:bj}{q:bU}{p:iR}(bu:bU):vn [.Attribute q Q p] bu ay=ey aj:=by obtain⟨⟩:=bu<;>rfl
theorem abe{Q q:bU}{p:iR}(bu:bU):vn [.Subscript q Q p] bu ay=ey aj:=by obtain⟨⟩:=bu<;>rfl
theorem ke{k a:Nat}{C:afe}(U:bW B n e N z H ah)(u:bW B n C N ah (.J a) aV)(aE:aV[a]?=A (.dH k cd))(g:B.P.bZ k nm=aj)(r:D cd<100):eM B n (.jT C nm e) N z .X N (aV.set a (.dH k (xP cd nm H))):=λc aK R E ay st I s af Z aD q=>by refine nY.bX Z λQ A0 A5 Z=>rU.bX Z λp x gk Z=>bp λP=>(bx Z).elim λh j=>(bx h).elim λF O=>(bx j).elim λw b=>(bx b).elim λt l=>?_;obtain rfl:=dA O;refine P<|DO (abb _) y w<|U c A0 R E ay st I s _ l aD λaI A3 A2 i W A1=>ap (eX (u c p R E ay st A3 A2 _ t (aD.Y i W) λA4 A8 A6 Y M cK=>ap (jc ?_)));revert cK;exactλcK=>Y.JR aE cK λx d ag G f bf=>ap (eX (aav Y f bf g (of_decide_eq_true F) r (A1.fl M) λA7 L J=>XQ (q.vL aD L (W.trans (M.trans J)) .X)))
theorem bL.xY(ae:bL B I z s){a:Nat}{d:aZ}{l dB:List V}(aE:z[a]?=A (.W l))(g:I[a]?=A (d,aj)){aJ:aN}(Z:hx d s.heap aJ.heap)(u:aJ.heap.get? d=A (gp ar k))(W:ci I s.heap dB ar.toList)(Y:aJ.gens=s.gens)(v:aJ.os=s.os):bL B I (z.set a (.W dB)) aJ/\bB [] I s.heap I aJ.heap:=ae.upd g (ae.cS a _ _ g aE λq=>aG (show(0:Nat)=3 from q) (eG y)) (.head _) Z (.W u (W.Y (aD:=[]) (bB.ER (rP g (.head _)) Z ⟨_,u⟩) hn.nil)) Y v
theorem l4{j:Nat}(h:j<=cZ):XX (j:Int)=ak:=fitsIndex_of (sp j) (lH.mpr (er h (aF y)))
theorem aaw{d:aZ}{i:Int}{t:mQ}{af:Unit->aN->Prop}(ab:s.heap.get? d=A (gp ar k))(aR:0<=i)(Z:XX i=ak)(J:i.toNat<ar.size)(fin:af () {s with heap:=s.heap.update d (fW (·.setIfInBounds i.toNat aI))}):bb (ct B) R (Ig (.ref d) (.int i t) aI) af E s:=by
 have Y:=(hE ab).typeIs;unfold Ig
 try with_reducible refine eX ?_
 first|refine ap (bh ?_)|skip
 refine ap (DF Y (by decide) (ap (pj (name:=jA "__setitem__") Y Zm (kM Zm Y entry_list_setitem ?_ (args_list_setitem _ _ _)))));show bb _ _ (adu (.int i t)>>=_) _ _ s;refine ap (wpAny_listSubscript_int Z ?_);clear Z;obtain⟨j,rfl⟩:=Ms aR;have X:ar[j]?=A ar[j]:=mI J;refine ap (ap (wpAny_seqItemAt ab y (bh ?_)));rw[X];refine ap (wpAny_setSeqItemAt ab y ?_)
 first
  |exact ap (bh (bh ⟨.none,rfl,bh fin⟩))
  |exact wpAny_pure ⟨.bM,rfl,wpAny_pure fin⟩
theorem Mq{a j:Nat}(aE:z[a]?=A (.W l))(M:j<D l)(Y:D l<=cZ):It B (.J a) (.X j) H z (z.set a (.W (l.set j H))):=λU o aI R E I s af W ae X J Z q=>by
 refine ae.ie aE X λd ar k g ab ac=>J.i λt=>?_;have x:=ae.xY (aJ:={s with heap:=s.heap.update d (fW (·.setIfInBounds j aI))}) (dB:=l.set j H) aE g (kJ ..) (Dq (n:=k) ab (·.setIfInBounds j aI)) (by
  rw[Array.toList_setIfInBounds];exact ci.set Z ac j) y y
 exact aaw ab (sp j) (l4 (aq (dK M) Y)) (ac.size▸M) (q _ x.1 x.2)
theorem sT{C i:afe}(U:bW B n e N z H ah)(u:bW B n C N ah x aV)(aB:bW B n i N aV Q cD)(h:It B x Q H cD O):eM B n (.mE C i e) N z .X N O:=λc aK R E ay st I s af Z aD q=>by exact nY.bX Z λba l A6 Z=>uy.bX Z λp r gk Z=>bp λP=>(bx Z).elim λw Z=>(bx Z).elim λF Z=>(bx Z).elim λm g=>P<|DO (abe _) y w<|U c l R E ay st I s _ g aD λaI A3 A0 M Y J=>ap (eX (u c p R E ay st A3 A0 _ F (aD.Y M Y) λb A4 A1 a W cK=>ap (eX (aB c r R E ay st A4 A1 _ m ((aD.Y M Y).Y a W) λf A5 A2 k d j=>ap (jc (ap (eX (h b f aI R E A5 A2 _ aD.u k (cK.fl d) j ((J.fl W).fl d) λA7 L t=>XQ (q.vL aD L (Y.trans (W.trans (d.trans t))) .X)))))))))
def IG(B:bT)(n:Nat)(e:afe)(b:List S)(bY:bk)(O:aA):Nat->bk->aA->Prop
|0,N,z=>eB B n e N z aW O/\N=bY
|k+1,N,z=>∃dx ah aV,eB B n e N z ak ah/\gb B n b N ah .X dx aV/\IG B n e b bY O k dx aV
inductive WS(B:bT)(c:eT)(I:cw)(s:aN)(aD st:List aZ)(ay:fJ)(P:bk->aA->cw->aN->Prop)(L:aN):Prop
|mk {N:bk} {z:aA} {m:cw}:P N z m L->bL B m z L->gi B c m L.heap st N ay->bB aD I s.heap m L.heap->WS B c I s aD st ay P L
theorem a?{b:List S}{k:Nat}(Y:IG B n e b bY O k N z):eM B n (.tw e b) N z .X bY O:=λc aK R E ay st I s af J aD q=>by
 refine Fv.bX J λp g W J=>(bx J).elim λF h=>wpAny_While<|codeAny_whileLoop (λk L=>WS B c I s st st ay (λdx ah _ _=>IG B n e b bY O k dx ah) L) (λk L d=>?_) k (.mk Y aD.dj aD.fr bB.dd);obtain⟨Y,i,Z,v⟩:=d;rename_i dx ah m;cases k with
 |zero=>refine Y.elim λU H=>?_;obtain rfl:=H;exact U c p R _ ay st m L _ F ⟨aD.room,Z,i⟩ λt C a P=>OY (q _ t C a (Z.Y P) (v.trans (P.weak Z.gf)) .X)
 |succ k=>refine Y.elim λeg l=>l.elim λaV w=>w.elim λcD j=>j.elim λU M=>M.elim λal Y=>U c p R _ ay st m L _ F ⟨aD.room,Z,i⟩ λt C a P=>al c g R _ ay st t C _ h ⟨aD.room,Z.Y P,a⟩ λf A1 A0 u o r x=>?_;cases x;exact⟨k,jO k,.mk Y u o (v.trans ((P.weak Z.gf).trans r))⟩
end
section
variable{c:eT} {s:aN}
theorem LH{Y t:aZ}{i:Nat}{aS:Array aw}{x:aw}(W:s.heap.IsTupleIter Y t i)(m:s.heap.IsTuple t aS)(M:aS[i]?=A x)(U:∀au,au.IsTupleIter Y t (i+1)->hx Y s.heap au->af x {s with heap:=au}):bb (dm prog w) R (Dn (.ref Y)) af E s:=by
 refine bp λP=>W.elim λC q=>q.elim λu b=>b.elim λX Z=>m.elim λd L=>L.elim λj e=>e.elim λz f=>f.elim λJ a=>P<|ap (pj (name:=jA "__next__") W.typeIs HQ (kM HQ W.typeIs Yn ?_ (Yh _)));show bb _ _ (vm (.ref Y) 0>>=_) _ _ s;refine ap (iq u Z (x:=.ref t) y ?_);rw[bV (show¬((Value.ref t==Value.none)=ak)from dT)];refine ap (iq u Z (x:=.int i 0) y (ap (ql j a ?_)));simp only[sq,M];refine ap (ZE u Z (by simp) (bh ⟨x,y,bh (U _ ?_ (kJ ..))⟩));exact⟨_,rb _ u (Obj.isFreed_of_fields (Yy Z _)),(Obj.cls_mapFields ..).trans X,by
  rw[Yy Z];simp[gK]⟩
theorem acz{t:aZ}{i:Nat}{aS:Array aw}(J:R.handled=aj)(Y:s.heap.IsTupleIter Z0 t i)(M:s.heap.IsTuple t aS)(L:aS[i]?=aj)(W:∀au e,zW Z0 s.heap au->(∃C,au.get? e=A C/\C.cls=.type "StopIteration")->E (.ref e) {s with heap:=au}):bb (dm prog w) R (Dn (.ref Z0)) af E s:=by
 refine bp λP=>Y.elim λC q=>q.elim λu b=>b.elim λX Z=>M.elim λd v=>v.elim λj f=>f.elim λz g=>g.elim λr U=>P<|ap (pj (name:=jA "__next__") Y.typeIs HQ (kM HQ Y.typeIs Yn ?_ (Yh _)));show bb _ _ (vm (.ref Z0) 0>>=_) _ _ s;refine ap (iq u Z (x:=.ref t) y ?_);rw[bV (show¬((Value.ref t==Value.none)=ak)from dT)];refine ap (iq u Z (x:=.int i 0) y (ap (ql j U ?_)));simp only[sq,L];refine ap (li (ap (ZE u Z (by simp) (ap (ap (qk ?_ (by size_fits)))))));refine ap (m:=OE _ _) (pk (a:=Value.none) (by first|rfl|(simp only[firstArgMember];rfl)) (qk ?_ (by size_fits)));refine ap (wpAny_handled ?_)
 first|rw[show R.in1.handled=aj from J]|rw[J]
 exact ap (bh (ZF (W _ _ (((kJ ..).extBut.push _).push _) ⟨_,gG _ rfl,rfl⟩)))
noncomputable def SV:List String:=["enumerate","zip","dict_itemiterator","dict_reverseitemiterator","odict_iterator","itertools.zip_longest","itertools.pairwise"]
def Dj(r:aZ)(x:kc Unit):Prop:=x=ey ()\/∃l a p,x=qg (.List l p) (.ref r) (.ref a)
theorem SU:Dj r (ey ()):=.inl y
theorem N'{r a:aZ}{l:List bU}{p:iR}:Dj r (qg (.List l p) (.ref r) (.ref a)):=.inr ⟨_,_,_,y⟩
theorem x8(Z:bU)(r:aZ)(H:aw):Dj r (qg Z (.ref r) H):=by
 have k:∀l p,Dj r (qg (.List l p) (.ref r) H):=λl p=>by obtain⟨⟩:=H<;>first|exact SU|exact N'
 cases Z with
 |Tuple l _ p=>exact k l p
 |List l p=>exact k l p
 |_=>exact SU
theorem x7{aQ:vj}{r:aZ}{C:hb}{T:String}(u:s.heap.get? r=A C)(X:C.cls=.type T)(Y:SV.contains T=aW){af:Unit->aN->Prop}(q:af () s):bb aQ R (qg Z6 (.ref r) aI) af E s:=by
 refine(x8 Z6 r aI).elim (λe=>e▸bh q) λe=>e.elim λl e=>e.elim λa e=>e.elim λp e=>e▸ap (Ai u ?_);clear e u;obtain⟨g,d,b,fa⟩:=C;obtain rfl:g=_:=X;obtain⟨⟩:=b<;>first
  |exact bh q
  |exact wpAny_ite_false (decide_eq_false λh=>afh (Y.symm.trans (bx h).1)) (bh q)
theorem abK{P:bU->Prop}{e:bU}(h:rM e=ak)(k:∀l n p,P (.Tuple l n p)):P e:=HM (motive_1:=P) e (dA h) k
theorem k3{e Z:aZ}{i:Int}{x q:aw}{P:cv->Prop}(U:tW s.heap e Z i q)(A4:e≠Z)(A2:∀{l:aw->aN->Prop},(∀au,P au->hx Z s.heap au->l x {s with heap:=au})->bb (dm prog w) R (Dn (.ref Z)) l E s)(A1:∀F au,P F->hx Z s.heap F->HT au e Z (i+1) x s.heap.objs.size->au.get? s.heap.objs.size=A {cls:=.type "tuple",data:=.seq #[.int i s.toks,x]}->(∀b C,b≠e->F.get? b=A C->au.get? b=A C)->af (.ref s.heap.objs.size) {s with heap:=au,toks:=s.toks+1}):bb (dm prog w) R (Builtin.«enumerate.__next__» ⟨[.ref e],[]⟩) (λfin aJ=>∃H,fin=.done (.ret H)/\af H aJ) E s:=by
 obtain⟨z,g,d,dh,os⟩:=s;show bb _ _ (vm (.ref e) 2>>=_) _ _ _;refine ap (iq U y (x:=.ref Z) y (ap (A2 λF A0 p=>?_)));replace p:hx Z z F:=p;have m:tW F e Z i q:=(p.2 e A4).trans U;show bb _ _ (vm (.ref e) 3>>=_) _ _ ⟨F,g,d,dh,os⟩;refine ap (iq m y (x:=gK i) y (ap (iq m y (x:=.none) y (ap (Il ?_)))));show bb _ _ (setField (.ref e) 3 (gK (i+1))>>=_) _ _ ⟨F,g,d,dh+1,os⟩;refine ap (nG m (by simp) λG h a=>?_);replace a:hx e F G:=a;replace h:tW G e Z (i+1) q:=h;refine ap (nG h (by simp) λu r O=>?_);replace O:hx e G u:=O;replace r:tW u e Z (i+1) q:=r;show bb _ _ (OI [.int i dh,x]>>=_) _ _ ⟨u,g,d,dh+1,os⟩;refine ap (xo ?_);have t:tW (u.push {cls:=.type "tuple",data:=.seq #[.int i dh,x]}) e Z (i+1) q:=sJ _ r;generalize L:u.push {cls:=.type "tuple",data:=.seq #[.int i dh,x]}=j at t;have n:u.objs.size=z.objs.size:=O.1.trans (a.1.trans p.1);have c:e<z.objs.size:=iQ U;have A5:j.get? z.objs.size=A {cls:=.type "tuple",data:=.seq #[.int i dh,x]}:=n▸L▸gG _ y;have A3:∀b C,b≠e->F.get? b=A C->j.get? b=A C:=λb C X al=>by
  rw[←L];exact sJ _ (O.extBut b C X (a.extBut b C X al))
 show bb _ _ (NE (.ref e)>>=_) _ _ ⟨j,g,d,dh+1,os⟩;rw[n];clear L r O h a m n u G;refine ap<|ap (iq t y (x:=.none) y (bh (ap (li (ap (iq t y (x:=q) y (ap (nG t (by simp) λk f W=>?_))))))));replace W:hx e j k:=W;replace f:tW k e Z (i+1) x:=f;show bb _ _ (XY (.ref e) (.ref z.objs.size)>>=_) _ _ ⟨k,g,d,dh+1,os⟩;refine ap<|ap (nG f (by simp) λI N M=>?_);replace M:hx e k I:=M;replace N:HT I e Z (i+1) x z.objs.size:=N;refine nG N (by simp) λB J Y=>?_;replace Y:hx e I B:=Y;replace J:HT B e Z (i+1) x z.objs.size:=J;refine ap (xn (bh ⟨_,y,A1 F B A0 p J ?_ ?_⟩))
 ·exact Y.extBut _ _ (fU c) (M.extBut _ _ (fU c) (W.extBut _ _ (fU c) A5))
 ·exactλb C X al=>Y.extBut b C X (M.extBut b C X (W.extBut b C X (A3 b C X al)))
theorem V_{e Z:aZ}{i:Int}{x:aw}{P:cv->Prop}{af:Option aw->aN->Prop}(U:tW s.heap e Z i Z7)(L:e≠Z)(f:∀{W:aw->aN->Prop},(∀au,P au->hx Z s.heap au->W x {s with heap:=au})->bb (dm prog w) R.in1 (Dn (.ref Z)) W (λe aJ=>bb (dm prog w) R (do if←OG e (.type "StopIteration")then ey aj else throw e) af E aJ) s)(M:∀X au,P X->hx Z s.heap X->HT au e Z (i+1) x s.heap.objs.size->au.get? s.heap.objs.size=A {cls:=.type "tuple",data:=.seq #[.int i s.toks,x]}->(∀b C,b≠e->X.get? b=A C->au.get? b=A C)->af (A (.ref s.heap.objs.size)) {s with heap:=au,toks:=s.toks+1}):bb (dm prog w) R (nF (.ref e)) af E s:=by
 have Y:s.TypeIs (.ref e) "enumerate":=⟨_,U,y⟩
 refine ap (vq (pj (name:=jA "__next__") Y HO (kM HO Y Yj ?_ (Yf _))));refine jb (k3 (af:=λH aJ=>bb (dm prog w) R (ey (A H)) af E aJ) U L (λk=>f k) λab au a b c d k=>bh (M ab au a b c d k)) (λfin aJ h=>h) λz z x=>x
theorem U?{prog:gr}{w:eU}{e Z:aZ}{i:Int}{q:aw}{af:Option aw->aN->Prop}(U:tW s.heap e Z i q)(f:∀{W:aw->aN->Prop} {M:aw->aN->Prop},(∀au x,zW Z s.heap au->(∃C,au.get? x=A C/\C.cls=.type "StopIteration")->W (.ref x) {s with heap:=au})->bb (dm prog w) R.in1 (Dn (.ref Z)) M W s)(L:∀au,zW Z s.heap au->af aj {s with heap:=au}):bb (dm prog w) R (nF (.ref e)) af E s:=by
 have Y:s.TypeIs (.ref e) "enumerate":=⟨_,U,y⟩
 refine ap (vq (pj (name:=jA "__next__") Y HO (kM HO Y Yj ?_ (Yf _))));show bb _ _ (vm (.ref e) 2>>=_) _ _ _;exact ap (iq U y (x:=.ref Z) y (ap (f λau x a J=>bp λP=>J.elim λC G=>G.elim λu X=>P (ap (ri (T:="StopIteration") (b:=ak) ⟨C,u,X⟩ OH (bh (L _ a)))))))
theorem Tp(a b c:Int)(X:c≠0):zR a b c=(lY a b c:Int):=by
 unfold zR lY;by_cases h:c>0
 ·rw[cg h,cg h];by_cases ab:a<b
  ·rw[cg ab,cg ab,MB];have:=VU (We (My ab)) (GI h);exact VR this (by decide)
  ·rw[bV ab,bV ab];rfl
 ·rw[bV h,bV h];by_cases ab:a>b
  ·rw[cg ab,cg ab,MB];have:=VU (We (My ab)) (Int.neg_nonneg_of_nonpos (pR.mp h));exact VR this (by decide)
  ·rw[bV ab,bV ab];rfl
theorem ui{C:hb}{T:String}{aX:Array aw}(c:C.cls=.type T)(Y:(T=="range")=aW)(d:C.data=.fields aX):ki C:=⟨λx x q=>(nomatch d.symm.trans q),λx x q=>aG (kL (c.symm.trans q)) (beq_eq_false_iff_ne.mp Y)⟩
def ol(B:bT)(I:cw)(cM:List aZ):Prop:=∀b∈cM,b∉fq I/\B.aR.get? b=aj
def Gz(B:bT)(I:cw)(z:aA)(s:aN)(cM:List aZ)(ao:cw->cv->Prop)(H:V)(K:aw->aN->Prop):Prop:=∀aI f,bL B I z f->bB cM I s.heap I f.heap->cf I f.heap H aI->ao I f.heap->K aI f
structure lk(B:bT)(bf:aZ)(cM:List aZ)(aS:List V)(ck:aA->Prop)(tup:Bool)(ao:Nat->cw->cv->Prop):Prop where
 pu:∀{i I h},ao i I h->∀b∈cM,∃C,h.get? b=A C/\ki C
 Y:∀{i I h aD bF au},ao i I h->bB aD I h bF au->hn aD h->(∀b∈cM,∀C,h.get? b=A C->au.get? b=A C)->ao i bF au
 X:∀{i I z s R} {E W:aw->aN->Prop} {H Z} {K:aw->aN->Prop} {bC:aN->Prop},ao i I s.heap->ol B I cM->bL B I z s->ck z->aS[i]?=A H->(tup=ak->rM Z=ak)->Gz B I z s cM (ao (i+1)) H K->
  bb (ct B) R (nF (.ref bf)) (λr L=>match r with
   |none=>bC L
   |some H=>bb (ct B) R (qg Z (.ref bf) H) (λx f=>K H f) W L) E s
 stop:∀{i I z s R} {E:aw->aN->Prop} {af:Option aw->aN->Prop},ao i I s.heap->ol B I cM->bL B I z s->ck z->D aS=i->R.handled=aj->(∀f,bL B I z f->bB cM I s.heap I f.heap->af aj f)->bb (ct B) R (nF (.ref bf)) af E s
 self:∀{i I s R} {E:aw->aN->Prop} {af:aw->aN->Prop},ao i I s.heap->af (.ref bf) s->bb (ct B) R (qi (.ref bf)) af E s
variable{i:Nat}
theorem afd(Y:∀b∈cM,∃C,au.get? b=A C)(Z:∀b C,b∉cM->h.get? b=A C->au.get? b=A C):bB cM I h I au:=⟨⟨[],(eF _).symm⟩,λb C al e=>⟨C,Z b C al e⟩,λx ab ac=>aG ab ac,λb C x al e=>Z b C al e⟩
theorem bL.moved(ae:bL B I z s)(w:ol B I cM)(d:hn cM s.heap)(Z:∀b C,b∉cM->s.heap.get? b=A C->au.get? b=A C)(t:Nat):bL B I z {s with heap:=au,toks:=t}/\bB cM I s.heap I au:=by
 have S:bB cM I s.heap I au:=⟨⟨[],(eF _).symm⟩,λb C al e=>⟨C,Z b C al e⟩,λx ab ac=>aG ab ac,λb C x al e=>Z b C al e⟩
 exact⟨ae.other (aJ:={s with heap:=au,toks:=t}) S d (λb al=>(w b al).2) (λb al=>(ae.gf al).elim λC e=>(Z b C (λY=>(w b Y).1 al) e).trans e.symm) y y,S⟩
theorem mv{C:hb}(e:h.get? bf=A C)(d:ki C):hn [bf] h:=λb al Z u=>by obtain rfl:=cB.mp al;obtain rfl:=dk (e.symm.trans u);exact d
theorem AC{C:hb}(e:h.get? bf=A C)(d:ki C):∀b∈[bf],∃C,h.get? b=A C/\ki C:=λb al=>by obtain rfl:=cB.mp al;exact⟨C,e,d⟩
theorem Gz.W{K:aw->aN->Prop}{ao:cw->cv->Prop}(q:Gz B I z s [bf] ao H K)(ae:bL B I z s)(w:ol B I [bf])(d:hn [bf] s.heap)(U:hx bf s.heap au)(t:Nat)(Z:cf I s.heap H aI)
  {C:hb}{T:String}(u:au.get? bf=A C)(X:C.cls=.type T)(Y:SV.contains T=aW)(W:bB [bf] I s.heap I au->ao I au):bb (ct B) R (qg Z6 (.ref bf) aI) (λx f=>K aI f) Z4 {s with heap:=au,toks:=t}:=x7 u X Y ((ae.moved w d (λb C al e=>(U.2 b λq=>al (q▸.head _)).trans e) t).elim λhc S=>q aI _ hc S (Z.Y S d) (W S))
theorem yv{af:Option aw->aN->Prop}{ao:aZ}(t:ao∈cM)(ae:bL B I z s)(w:ol B I cM)(d:hn cM s.heap)(q:∀f,bL B I z f->bB cM I s.heap I f.heap->af aj f)(au:cv)(U:zW ao s.heap au):af aj {s with heap:=au}:=(ae.moved w d (λb C al qt=>U b C (λq=>al (q▸t)) qt) s.toks).elim λhc S=>q _ hc S
theorem Lw(S:bB aD I h bF au)(d:hn aD h)(j:Z0∉fq I)(u:h.get? Z0=A (jU ar k)):au.get? Z0=A (jU ar k):=S.jr _ _ j (λt=>(d _ t _ u).1 _ _ y y) u
inductive wC(bf a:Nat)(i:Nat)(I:cw)(h:cv):Prop
|mk (Y:aZ):I[a]?=A (Y,aj)->h.IsListIter bf Y i->wC bf a i I h
theorem wC.lW(r:wC bf a i I h):∃C,h.get? bf=A C/\ki C:=let⟨_,_,C,ab,ac,bo⟩:=r;⟨C,ab,ui ac (by decide) bo⟩
theorem DK:lk B bf [bf] l (λz=>z[a]?=A (.W l)) aW (wC bf a)where
 pu r:=r.lW.elim λb Q=>Q.elim λe d=>AC e d
 Y r S d k:=let⟨U,g,C,ab,ac⟩:=r;⟨U,S.at g,C,k _ (.head _) _ ab,ac⟩
 X {i I z s R E A1 H A3 K bC} r w ae e p _ q:=by
  refine bp λP=>r.lW.elim λgv h=>h.elim λO M=>?_;obtain⟨U,g,W⟩:=r;refine P<|ae.W e λx ar k L ab ac=>bp λP=>?_;cases g.symm.trans L;exact(ac.get.2 i p).elim λaI n=>n.elim λm Z=>P<|Ip W (hE ab) (jJ.symm.trans m) λau j A0=>bp λP=>j.elim λC t=>t.elim λu f=>f.elim λF A2=>P<|q.W ae w (mv O M) A0 s.toks Z u F (by decide) λb=>⟨U,g,j⟩
 stop r w ae e aB J q:=by
  refine bp λP=>r.lW.elim λgv c=>c.elim λO M=>?_;obtain⟨U,g,W⟩:=r;refine P<|ae.W e λx ar k L ab ac=>bp λP=>?_;cases g.symm.trans L;exact P<|Pb J W (hE ab) (Ci.mpr (fi (ac.size.trans aB))) (yv (.head _) ae w (mv O M) q)
 self r q:=let⟨_,_,W⟩:=r;wpAny_pyIter_listiter W q
inductive CF(bf:Nat)(l:List V)(i:Nat)(I:cw)(h:cv):Prop
|mk (Y:aZ) (ar:Array aw) (k:Nat):Y∉fq I->h.get? Y=A (jU ar k)->ci I h l ar.toList->h.IsTupleIter bf Y i->CF bf l i I h
theorem CF.lW(r:CF bf l i I h):∃C,h.get? bf=A C/\ki C:=let⟨_,_,_,_,_,_,C,ab,ac,bo⟩:=r;⟨C,ab,ui ac (by decide) bo⟩
theorem Ps:lk B bf [bf] l (λx=>True) aW (CF bf l)where
 pu r:=r.lW.elim λx M=>M.elim λe d=>AC e d
 Y r S d k:=let⟨U,ar,n,j,u,F,C,ab,ac⟩:=r;⟨U,ar,n,S.qB j u,Lw S d j u,F.Y S d,C,k _ (.head _) _ ab,ac⟩
 X {i I z s R E A0 H A2 K bC} r w ae e p _ q:=by
  refine bp λP=>r.lW.elim λgv a=>a.elim λO b=>?_;obtain⟨U,ar,k,j,ab,ac,W⟩:=r;exact(ac.get.2 i p).elim λaI g=>g.elim λm Z=>P<|wpAny_pyNext_tuple_item W (kQ ab) (jJ.symm.trans m) λau Q c=>bp λP=>Q.elim λC h=>h.elim λu t=>t.elim λL A1=>P<|q.W ae w (mv O b) c s.toks Z u L (by decide) λS=>⟨U,ar,k,j,Lw S (mv O b) j ab,ac.Y S (mv O b),Q⟩
 stop r w ae e aB J q:=by
  refine bp λP=>r.lW.elim λgv f=>f.elim λO b=>?_;obtain⟨U,ar,k,j,ab,ac,W⟩:=r;exact P<|wpAny_pyNext_tuple_end J W (kQ ab) (Ci.mpr (fi (ac.size.trans aB))) (yv (.head _) ae w (mv O b) q)
 self r q:=let⟨_,_,_,_,_,_,W⟩:=r;wpAny_pyIter_tupleiter W q
noncomputable def xK(l:List V):List V:=l.zipIdx.map λx=>V.Y [.X x.2,x.1]
def CE(bf ao:Nat)(l:List V)(i:Nat)(I:cw)(h:cv):Prop:=CF ao l i I h/\∃q,tW h bf ao i q
theorem ZU{ao:aZ}(m:bf≠ao):lk B bf [bf,ao] (xK l) (λa=>True) ak (CE bf ao l):=by
 have L:∀{i I h},CE bf ao l i I h->∀b∈[bf,ao],∃C,h.get? b=A C/\ki C:=λr b al=>by
  obtain⟨r,X,e⟩:=r;rcases ee.mp al with rfl|al
  ·exact⟨_,e,ui (T:="enumerate") rfl (by decide) rfl⟩
  ·obtain rfl:=cB.mp al;exact r.lW
 have F:∀{i I h},CE bf ao l i I h->hn [bf,ao] h:=λr b al C u=>by
  obtain⟨B4,e,d⟩:=L r b al;obtain rfl:=dk (u.symm.trans e);exact d
 refine⟨L,λr S d k=>⟨Ps (B:=B).Y r.1 S d λb al=>k b (.tail _ al),r.2.elim λX e=>⟨X,k _ (.head _) _ e⟩⟩,?_,?_,λr q=>r.elim λa A9=>A9.elim λa e=>wpAny_pyIter_enum e q⟩
 ·intro i I z s R E B3 H B2 K bC r w ae _ M A4 q;have Z:=F r;obtain⟨⟨Y,ar,k,j,ab,ac,W⟩,X,U⟩:=r;unfold xK at M;rw[fI,List.getElem?_zipIdx,XD,lN]at M;obtain⟨Q,A7,rfl⟩:=M;obtain⟨aI,A6,B0⟩:=ac.get.2 i A7;refine V_ (P:=λau=>au.IsTupleIter ao Y (i+1)) U m (λk=>LH W (kQ ab) (jJ.symm.trans A6) k) λA8 au A3 B1 c A5 A2=>?_;obtain⟨ag,B5,p,rfl⟩:∃ag x p,B2=.Tuple ag x p:=abK (P:=λt=>∃ag x p,t=.Tuple ag x p) (A4 y) λl n p=>⟨l,n,p,y⟩
  refine wpAny_letOwnedTupleGo_enum c λBc A0 f=>?_;have g:∀b C,b≠bf->A8.get? b=A C->Bc.get? b=A C:=λb C al qt=>f.extBut b C al (A2 b C al qt);obtain⟨hc,S⟩:=ae.moved w Z (λb C al qt=>g b C (λq=>al (q▸.head _)) ((B1.2 b λq=>al (q▸.tail _ (.head _))).trans qt)) (s.toks+1);obtain⟨C,u,O⟩:=A3;refine q _ _ hc S ⟨s.heap.objs.size,_,0,y,ae.wd,(f.extBut _ _ (λe=>ic _ (e▸iQ U)) A5),.int i s.toks,[aI],y,⟨s.toks,?_⟩,aI,[],y,B0.Y S Z,y⟩ ⟨⟨Y,ar,k,j,Lw S Z j ab,ac.Y S Z,C,g _ _ (oh m) u,O⟩,aI,A0⟩;rw[hu]
 ·intro i I z s R E af r w ae _ aB A1 q;have Z:=F r;obtain⟨⟨Y,ar,k,j,ab,ac,W⟩,X,U⟩:=r;unfold xK at aB;rw[bK,List.length_zipIdx]at aB;exact U? U (λk=>acz (R:=R.in1) A1 W (kQ ab) (Ci.mpr (fi (ac.size.trans aB))) k) (yv (.tail _ (.head _)) ae w Z q)
inductive GO(bf a:Nat)(l:List V)(i:Nat)(I:cw)(h:cv):Prop
|mk (aB:i<=D l) (Y:aZ):I[a]?=A (Y,aj)->h.IsRevIter bf Y ((D l:Int)-1-i)->GO bf a l i I h
theorem GO.lW(r:GO bf a l i I h):∃C,h.get? bf=A C/\ki C:=let⟨_,_,_,C,ab,ac,bo⟩:=r;⟨C,ab,ui ac (by decide) bo⟩
theorem ZV:lk B bf [bf] l.reverse (λz=>z[a]?=A (.W l)) aW (GO bf a l)where
 pu r:=r.lW.elim λb A1=>A1.elim λe d=>AC e d
 Y r S d k:=let⟨aB,L,g,C,ab,ac⟩:=r;⟨aB,L,S.at g,C,k _ (.head _) _ ab,ac⟩
 X {i I z s R E A4 H A6 K bC} r w ae e t _ q:=by
  refine bp λP=>r.lW.elim λgv h=>h.elim λO F=>?_;obtain⟨aB,L,g,Z⟩:=r;refine P<|ae.W e λx ar k f ab ac=>bp λP=>?_;cases g.symm.trans f;have U:=(hZ.mp t).1;rw[Hf]at U;rw[List.getElem?_reverse U]at t;refine(ac.get.2 _ t).elim λaI n=>n.elim λm A2=>P ?_;have W:(D l:Int)-1-i=((D l-1-i:Nat):Int):=acP U;rw[W]at Z;refine wpAny_pyNext_rev_item Z (hE ab) (jJ.symm.trans m) λau j A3=>bp λP=>j.elim λC c=>c.elim λu M=>M.elim λp A5=>P<|q.W ae w (mv O F) A3 s.toks A2 u p (by decide) λb=>⟨U,L,g,?_⟩
  have bq:(D l:Int)-1-((i+1:Nat):Int)=((D l-1-i:Nat):Int)-1:=UT.trans (bA (·-1) W);rw[bq];exact j
 stop {i I z s R E af} r w ae e aB J q:=by
  refine bp λP=>r.lW.elim λgv A0=>A0.elim λO F=>?_;obtain⟨_,L,g,Z⟩:=r;refine P ?_;rw[Hf]at aB;have W:(D l:Int)-1-i=-1:=by rw[←aB,Mz,Mr,←Mz,Int.sub_self];rfl
  rw[W]at Z;exact wpAny_pyNext_rev_end J Z (yv (.head _) ae w (mv O F) q)
 self r q:=let⟨_,_,_,Z⟩:=r;wpAny_pyIter_revIter Z q
theorem ZW{a b c:Int}:lk B bf [bf] (pL a b c) (λx=>True) aW (λi x h=>IsRangeIter h bf (a+c*i) ((lY a b c:Int)-i) c)where
 pu r:=AC r (ui (T:="range_iterator") y (by decide) y)
 Y r S d k:=k _ (.head _) _ r
 X {i I z s R E F H C K bC} r w ae e W _ q:=by
  unfold pL at W;rw[fI,lN]at W;refine bp λP=>?_;obtain⟨j,M,rfl⟩:=W;have Z:=(hZ.mp M).1;rw[iA]at Z;rw[Hc Z]at M;obtain rfl:=dk M;refine P<|wpAny_pyNext_range_item r (My (lH.mpr Z)) λau U L=>q.W ae w (mv r (ui (T:="range_iterator") y (by decide) y)) L _ ⟨_,y⟩ U y (by decide) λx=>?_;have o:a+c*((i+1:Nat):Int)=a+c*i+c:=by rw[GK,Int.mul_add,Int.natCast_one,GJ,Int.add_assoc]
  have bq:(lY a b c:Int)-((i+1:Nat):Int)=(lY a b c:Int)-i-1:=UT;rw[o,bq];exact U
 stop {i I z s R E af} r w ae e aB J q:=by
  unfold pL at aB;rw[bK,iA]at aB;exact wpAny_pyNext_range_end J r (Int.sub_nonpos_of_le (GM.mpr (fi aB))) (yv (.head _) ae w (mv r (ui (T:="range_iterator") y (by decide) y)) q)
 self r q:=wpAny_pyIter_rangeiter r q
def GP(bf:Nat)(x:bj)(i:Nat)(I:cw)(h:cv):Prop:=∃t,h.IsStrIter bf "str_ascii_iterator" x t i
theorem GP.lW(r:GP bf x i I h):∃C,h.get? bf=A C/\ki C:=r.elim λz q=>q.elim λC Z=>Z.elim λab m=>m.elim λac bo=>⟨C,ab,ui ac (by decide) bo⟩
theorem ZX:lk B bf [bf] (qr x) (λa=>True) aW (GP bf x)where
 pu r:=r.lW.elim λa L=>L.elim λe d=>AC e d
 Y r S d k:=r.elim λt g=>g.elim λC h=>h.elim λab ac=>⟨t,C,k _ (.head _) _ ab,ac⟩
 X {i I z s R E m H c K bC} r w ae e W _ q:=by
  refine bp λP=>?_;obtain⟨gv,O,b⟩:=r.lW;obtain⟨t,Z⟩:=r;unfold qr at W;rw[fI,lN]at W;obtain⟨ir,M,rfl⟩:=W;refine P<|wpAny_pyNext_ascii_item Z (jJ.symm.trans M) λau j p=>bp λP=>?_;obtain⟨C,u,U,F⟩:=id j;exact P<|q.W ae w (mv O b) p _ ⟨_,y⟩ u U (by decide) λa=>⟨t,j⟩
 stop {i I z s R E af} r w ae e aB J q:=by
  refine bp λP=>?_;obtain⟨gv,O,b⟩:=r.lW;obtain⟨t,Z⟩:=r;refine P ?_;unfold qr at aB;rw[bK,jt]at aB;exact wpAny_pyNext_ascii_end J Z (Ci.mpr (fi aB)) (yv (.head _) ae w (mv O b) q)
 self r q:=r.elim λa Z=>wpAny_pyIter_striter_ascii Z q
end
section
open PySem PySem.W PyProof.Rows PySem.SeqAt PySem.Calls PySem.MeetsSeq PySem.MeetsSeq3
section
variable{s:aN}
theorem acv{bw:Type}{aQ:vj}{a:bw}{af:bw->aN->Prop}(h:∀b,af b s):bb aQ R (ey a) af E s:=bh (h a)
theorem z8(l:aZ)(aS:Array aw)(n:Nat):Dr (Builtin.«enumerate.__new__» ⟨[.type "enumerate",.ref l],[]⟩) (λx ae s=>s.heap.get? l=A {cls:=.type "tuple",dict:=aj,data:=.seq aS n,slots:=#[]}/\ae (.ok (.ret (.ref (s.heap.push {cls:=.type "tuple_iterator",data:=.fields #[.ref l,.int 0 0]}).objs.size)))
    {s with heap:=(s.heap.push {cls:=.type "tuple_iterator",data:=.fields #[.ref l,.int 0 0]}).push {cls:=.type "enumerate",data:=.fields #[.none,.bool aW,.ref s.heap.objs.size,gK 0,.none,.none]}}):=.of_wp λprog w R ae s h=>by
  obtain⟨X,g,d,dh,os⟩:=s;obtain⟨Y,h⟩:=h;have i:=sub_enumerate;have r:Yx (Shared.heap ⟨X,g,d,dh,os⟩) l aS:=⟨_,Y,y,n,y⟩
  wp_walk using NB Y;refine wpAny_stack_any λst=>acv λb=>?_;cases b
  ·wp_walk using NB Y,Io r;exact⟨_,y,h⟩
  ·wp_walk using NB Y,Io r;exact⟨_,y,h⟩
theorem QZ(a:hb)(i:Int)(Z:a.isFreed=aW):(((s.heap.push a).push {cls:=.type "enumerate",data:=.fields #[.none,.bool aW,.ref s.heap.objs.size,gK i,.none,.none]}).get? (s.heap.objs.size+1)=A {cls:=.type "enumerate",data:=.fields #[.none,.bool aW,.ref s.heap.objs.size,gK i,.none,.none]})/\((s.heap.push a).push {cls:=.type "enumerate",data:=.fields #[.none,.bool aW,.ref s.heap.objs.size,gK i,.none,.none]}).get? s.heap.objs.size=A a:=by refine⟨?_,sJ _ (gG _ Z)⟩;have:=gG (s.heap.push a) (o:={cls:=.type "enumerate",data:=.fields #[.none,.bool aW,.ref s.heap.objs.size,gK i,.none,.none]}) y;rw[(lO ..)]at this;exact this
end
variable{c:eT} {s:aN} {ag:List afe}
def qR(B:bT)(I:cw)(s:aN)(O:aA)(aS:List V)(ck:aA->Prop)(Z:Bool)(af:aw->aN->Prop):Prop:=∀bF aJ bf cM ao,lk B bf cM aS ck Z ao->ao 0 bF aJ.heap->ol B bF cM->bL B bF O aJ->bB [] I s.heap bF aJ.heap->(∀b∈cM,s.heap.get? b=aj)->af (.ref bf) aJ
def sr(B:bT)(f:aw->kc aw)(H:V)(z:aA)(aS:List V)(ck:aA->Prop)(Z:Bool)(O:aA):Prop:=∀aI R E I s af,R.units+400<fp->bL B I z s->cf I s.heap H aI->qR B I s O aS ck Z af->bb (ct B) R (f aI) af E s
theorem qR.W(q:qR B I s z aS ck aW af)(ae:bL B I z s){C:hb}(w:lk B s.heap.objs.size [s.heap.objs.size] aS ck aW ao)(j:bB [] I s.heap I (s.heap.push C)->ao 0 I (s.heap.push C))(t:Nat:=s.toks):af (.ref s.heap.objs.size) {s with heap:=s.heap.push C,toks:=t}:=q I _ _ _ ao w (j (bB.push _)) (λb al=>by obtain⟨⟩:=cB.mp al;exact⟨ae.wd,ae.wa uz⟩) (ae.gL (aJ:={s with heap:=s.heap.push C,toks:=t}) (fR _ _) y y) (bB.push _) λb al=>by obtain rfl:=cB.mp al;exact uz
theorem gD(aE:z[a]?=A (.W l)):sr B qi (.J a) z l (λz=>z[a]?=A (.W l)) aW z:=λaI R E I s af Y ae Z q=>by exact ae.ie aE Z λd ar k g ab ac=>DE (hE ab) (q.W ae DK λS=>⟨d,g,_,gG _ y,y,y⟩)
theorem qU:sr B qi (.Y l) z l (λx=>True) aW z:=λaI R E I s af Y ae Z q=>by exact Z.t λa ar k j ab ac=>Io (kQ ab) (q.W ae Ps λS=>⟨a,ar,k,S.qB j ab,fR _ _ _ _ ab,ac.fl S,_,gG _ y,y,y⟩)
theorem Wh(Y:x.cps.all (·<128)=ak):sr B qi (.cG x) z (qr x) (λa=>True) aW z:=λaI R E I s af X ae Z q=>by exact Z.s λt=>wpAny_pyIter_ascii Y (q.W ae ZX λS=>⟨t,_,gG _ y,y,y⟩)
theorem V?{a b c:Int}(ab:lY a b c<=cZ)(aE:afm a=ak)(al:afm b=ak)(X:afm c=ak)(aR:c≠0):XW a b c=ak:=by
 have aE:=of_decide_eq_true aE;have al:=of_decide_eq_true al;have X:=of_decide_eq_true X;unfold cZ at ab;unfold XW;rw[Tp a b c aR];have f:∀x:Int,x.natAbs<2^63->XV x=ak:=λx Z=>by
  unfold XV;simp only[wq,decide_eq_true_eq];exact⟨UR Z,LI Z⟩
 rw[f a (Cd aE),f b (Cd al),f c (Cd X),f (lY a b c:Int) (show lY a b c<2^63 from er ab (aF y))];simp only[Bool.and_self,Vm,Cm];right;split
 ·exact f _ (UU (d:=-1) al X y)
 ·exact f _ (UU al X y)
theorem zc{a b c:Int}(ab:lY a b c<=cZ)(aE:afm a=ak)(al:afm b=ak)(X:afm c=ak)(aR:c≠0):sr B qi (.jH a b c) z (pL a b c) (λx=>True) aW z:=λaI R E I s af U ae Z q=>by
 refine Z.g λr t u w j W=>wpAny_pyIter_range W (V? ab aE al X aR) (q.W ae ZW λS=>?_);have Y:a+c*((0:Nat):Int)=a:=by rw[Mu,Int.mul_zero,VT]
 have bq:(lY a b c:Int)-((0:Nat):Int)=zR a b c:=by rw[Tp a b c aR,Mu,CC]
 rw[Y,bq];exact gG s.heap (o:={cls:=.type "range_iterator",data:=.fields #[gK a,gK (zR a b c),gK c]}) y
theorem Wg(aE:z[a]?=A (.W l)):sr B (λaI=>ja (.type "reversed") [aI]) (.J a) z l.reverse (λz=>z[a]?=A (.W l)) aW z:=λaI R E I s af Y ae Z q=>by refine ae.ie aE Z λd ar k g ab ac=>call_reversed_list (hE ab) (q.W ae ZV λS=>⟨cW _,d,g,_,gG _ y,y,?_⟩);rw[←ac.size,Mu,CC];rfl
theorem d9{prog:gr}{w:eU}{l:aZ}{aS:Array aw}{n:Nat}(Z:s.heap.get? l=A (jU aS n))(h:af (.ref (s.heap.objs.size+1)) {s with heap:=(s.heap.push {cls:=.type "tuple_iterator",data:=.fields #[.ref l,.int 0 0]}).push {cls:=.type "enumerate",data:=.fields #[.none,.bool aW,.ref s.heap.objs.size,gK 0,.none,.none]}}):bb (dm prog w) R (ja (.type "enumerate") [.ref l]) af E s:=by have j:(s.heap.push {cls:=.type "tuple_iterator",data:=.fields #[.ref l,.int 0 0]}).objs.size=s.heap.objs.size+1:=lO ..;refine YK F.called_enumerate (by decide) (F.typeCall_enumerate_1 _) (F.newCall_enumerate_1 _) (λY=>F.args_object_init_2 Y _) F.entry_enumerate_new (z8 l aS n) ⟨Z,?_⟩;rw[j];exact⟨⟨_,(QZ _ 0 y).1,y⟩,h⟩
theorem Wf:sr B (λaI=>ja (.type "enumerate") [aI]) (.Y l) z (xK l) (λx=>True) ak z:=λaI R E I s af X ae Z q=>by
 refine Z.t λa ar k j ab ac=>(QZ (s:=s) {cls:=.type "tuple_iterator",data:=.fields #[.ref a,.int 0 0]} 0 y).elim λcL dw=>?_;have g:bB [] I s.heap I ((s.heap.push {cls:=.type "tuple_iterator",data:=.fields #[.ref a,.int 0 0]}).push {cls:=.type "enumerate",data:=.fields #[.none,.bool aW,.ref s.heap.objs.size,gK 0,.none,.none]}):=(bB.push _).trans (bB.push _);have J:∀b∈[s.heap.objs.size+1,s.heap.objs.size],s.heap.get? b=aj:=λb al=>by
  refine(ee.mp al).elim (λY=>?_) λal=>?_
  ·obtain rfl:=Y;exact qw (ka _)
  ·obtain rfl:=cB.mp al;exact uz
 exact d9 ab (q I _ _ _ (CE (s.heap.objs.size+1) s.heap.objs.size l) (ZU (zA _)) ⟨⟨a,ar,k,g.qB j ab,fR _ _ _ _ (fR _ _ _ _ ab),ac.fl g,_,dw,y,y⟩,.none,cL⟩ (λb al=>⟨ae.hM (J b al),ae.wa (J b al)⟩) (ae.gL (λb C e=>fR _ _ _ _ (fR _ _ _ _ e)) y y) g J)
theorem yG{T:String}{aK:List bU}(F:gi B c I s.heap st N ay)(ae:bL B I z s)(Z:c.lS x=ak)(g:x∈xC)(al:rh x=A (.type T))(J:x≠("__name__":bj))(o:∀p∈aK,lV p=ak)(h:bb (ct B) R (DB (sO W (qj aK ay))) (λaX L=>bb (ct B) R (ja (.type T) aX) af E L) E s):bb (ct B) R (lh (.Call (.Name x Z3) aK [] W) ay) af E s:=HD y (Kh F ae Z g al J (adm (yn o) (xN o h)))
theorem PQ{aK:List bU}(F:gi B c I s.heap st N ay)(ae:bL B I z s)(Z:c.lS x=ak)(g:x∈xC)(al:rh x=A (.builtin Z1))(J:x≠("__name__":bj))(o:∀p∈aK,lV p=ak)(h:bb (ct B) R (DB (sO W (qj aK ay))) (λaX L=>bb (ct B) R (ja (.builtin Z1) aX) af E L) E s):bb (ct B) R (lh (.Call (.Name x Z3) aK [] W) ay) af E s:=HD y (Kh F ae Z g al J (Yb (yn o) (xN o h)))
def hY(B:bT)(n:Nat)(k:lI)(e:afe)(N:bk)(z:aA)(aS:List V)(ck:aA->Prop)(O:aA):Prop:=∀c Z R E ay st I s af,AN c (λp=>fv B.t e c p) Z k=ak->jV B n c R ay st N I z s->qR B I s O aS ck (k matches .vM) af->(∀a x,OF Z a x=ey x)/\bb (ct B) R (lh Z ay) (λx L=>bb (ct B) R (qi x) af E L) E s
theorem Q?(h:Ta Z6=ak)(a:fJ)(x:aw):OF Z6 a x=ey x:=by obtain⟨⟩:=Z6<;>first|rfl|exact absurd h dT
theorem qR.after(S:bB [] I s.heap bF aJ.heap)(q:qR B I s O aS ck b af):qR B bF aJ O aS ck b af:=λt f bf cM ao w j C ae Z Y=>q t f bf cM ao w j C ae (S.trans Z) λb al=>S.gone (Y b al)
theorem qR.self(q:qR B I s O aS ck b af):qR B I s O aS ck b (λx L=>bb (ct B) R (qi x) af E L):=λt f bf cM ao w j C ae Z Y=>w.self j (q t f bf cM ao w j C ae Z Y)
theorem ff(U:bW B n e N z H ah)(aB:sr B qi H ah aS ck aW O):hY B n .bE e N z aS ck O:=λc P R E ay st I s af W aD q=>by exact(bx W).elim λF Y=>⟨Q? F,U c P R E ay st I s _ Y aD λaI m L i Z J=>aB aI R E m L af aD.u i J (q.after Z)⟩
theorem d?:rh ("enumerate":bj)=A (.type "enumerate"):=by decide+kernel
theorem d0:rh ("reversed":bj)=A (.type "reversed"):=by decide+kernel
theorem PE{p:bU}(W:lV p=ak){H:V}(U:bW B n e N z H ah)(Y:fv B.t e c p=ak)(aD:jV B n c R ay st N I z s){af:List aw->aN->Prop}(k:∀aI bF aJ,bL B bF ah aJ->bB [] I s.heap bF aJ.heap->cf bF aJ.heap H aI->af [aI] aJ):bb (ct B) R (DB (sO Z3 (qj [p] ay))) af E s:=vf (U c p R E ay st I s _ Y aD λaI m L i Z J=>xf (k aI m L i Z J)) (qF W)
theorem wf{p:bU}(Z:lV p=ak):∀q∈[p],lV q=ak:=λq Y=>by obtain rfl:=cB.mp Y;exact Z
theorem ZK(U:bW B n e N z H ah)(aB:sr B (λaI=>ja (.type "enumerate") [aI]) H ah aS ck ak O):hY B n .vM e N z aS ck O:=λc t R E ay st I s af Y aD q=>by refine ih.bX Y λg aK W Y=>?_;obtain⟨P,Z⟩:=bx Y;refine gz.bX P λx r P=>?_;obtain⟨F,C⟩:=bx P;refine ji.bX Z λp Z=>?_;obtain⟨M,u⟩:=bx Z;obtain rfl:=dA F;exact⟨λa a=>y,yG aD.fr aD.dj C (by decide+kernel) d? (by decide) (wf M) (PE M U u aD λaI m L i J ji=>aB aI R E m L _ aD.u i ji (q.after J).self)⟩
theorem ZL(U:bW B n e N z H ah)(aB:sr B (λaI=>ja (.type "reversed") [aI]) H ah aS ck aW O):hY B n .KX e N z aS ck O:=λc t R E ay st I s af Y aD q=>by refine ih.bX Y λg aK W Y=>?_;obtain⟨P,Z⟩:=bx Y;refine gz.bX P λx r P=>?_;obtain⟨F,C⟩:=bx P;refine ji.bX Z λp Z=>?_;obtain⟨M,u⟩:=bx Z;obtain rfl:=dA F;exact⟨λa a=>y,yG aD.fr aD.dj C (by decide+kernel) d0 (by decide) (wf M) (PE M U u aD λaI m L i J ji=>aB aI R E m L _ aD.u i ji (q.after J).self)⟩
end
section
variable{c:eT} {s:aN} {x:V} {a b d:afe} {ag:List afe} {G:List V} {is:List Nat} {i:Nat}
theorem acx{Z t:aZ}{aS:Array aw}(L:t≠Z)(n:Nat):∀(i:Nat) (s:aN) (af:List aw->aN->Prop),s.heap.IsListIter Z t i->s.heap.IsList t aS->i+n<=aS.size->(∀au,au.IsListIter Z t (i+n)->hx Z s.heap au->af ((aS.toList.drop i).take n) {s with heap:=au})->bb (dm prog w) R (draw (.ref Z) n) af E s:=by
 induction n with
 |zero=>exactλi s af X x x Y=>bh (Y s.heap X (HS ..))
 |succ n F=>intro i s af X m W Y;have U:i<D aS.toList:=ef (pZ (iC n)) (jt▸W);refine ap (Ip X m (jJ.symm.trans (fO U)) λv P p=>ap (eX (F (i+1) _ _ P (m.extBut p.extBut L) (jZ i n 1▸W) λC M J=>bh ?_)));have:=Y C (jZ i n 1▸M) (p.trans J);rw[MH U,List.take_succ_cons]at this;exact this
inductive ro(z:aA):V->List V->Prop
|Y {l:List V}:ro z (.Y l) l
|W {a:Nat} {l:List V}:z[a]?=A (.W l)->ro z (.J a) l
theorem Uy(w:ro z H l)(J:R.handled=aj)(ae:bL B I z s)(Z:cf I s.heap H aI){af:List aw->aN->Prop}(q:∀cH aJ,bL B I z aJ->bB [] I s.heap I aJ.heap->ci I aJ.heap l cH->af cH aJ):bb (ct B) R (unpackItems aI (D l) aj) af E s:=by
 have fin:∀(ar:Array aw) (au:cv),ci I s.heap l ar.toList->zW s.heap.objs.size s.heap au->af ar.toList {s with heap:=au}:=λar au r U=>by
  have X:∀b C,s.heap.get? b=A C->au.get? b=A C:=λb C qt=>U b C (eC (iQ qt)) qt;exact q _ _ (ae.gL (aJ:={s with heap:=au}) X y y) (bB.gL X) (r.fl (bB.gL X))
 clear q;cases w with
 |Y=>exact Z.t λa ar k t ab ac=>ac.size▸wpAny_unpackItems_tuple J (kQ ab) λau U=>fin ar au ac U
 |W e=>refine ae.ie e Z λa ar k g ab ac=>?_;rw[←ac.size];have m:=hE ab;have M:a≠s.heap.objs.size:=eC (iQ ab);refine ap<|ap (rj m.typeIs slot_list_iter.lookup (bh (ap (eX (DE m (ap (eX (acx M ar.size 0 _ _ ⟨_,gG _ y,y,y⟩ (m.push _) (fi (hu _)) λF P p=>?_))))))));have f:Hi ar.size (List.drop 0 ar.toList)=ar.toList:=Hk (fi jt);rw[f,bV (((jt ..)).symm▸ic _)];rw[hu]at P;exact ap (eX (Pb J P ((m.push _).extBut p.extBut M) (Ch (cu _)) λu L=>bh (fin ar u ac λb C al e=>L b C al (p.extBut b C al (sJ _ e)))))
def ww(B:bT)(c:eT)(I:cw)(z:aA)(s:aN)(st:List aZ)(ay:fJ)(bY:bk)(af:Unit->aN->Prop):Prop:=∀aJ,bL B I z aJ->gi B c I aJ.heap st bY ay->bB st I s.heap I aJ.heap->af () aJ
theorem ww.after{af:Unit->aN->Prop}(S:bB st I s.heap I aJ.heap)(q:ww B c I z s st ay bY af):ww B c I z aJ st ay bY af:=λf Y Z X=>q f Y Z (S.trans X)
noncomputable def TO(l:List (Nat×V))(N:bk):bk:=l.foldl (λN x=>N.set x.1 (A x.2)) N
theorem aaS:∀{is:List Nat} {ag:List bU} {l:List V} {cH:List aw} {N:bk} {s:aN},Jc c is ag=ak->gi B c I s.heap st N ay->bL B I z s->ci I s.heap l cH->D l=D is->∀{af:Unit->aN->Prop},ww B c I z s st ay (TO (is.zip l) N) af->bb (ct B) R (YI ((Ad ag ay).map (·.2)) cH) af E s:=by
 intro is;induction is with
 |nil=>intro ag l cH N s X F ae Z Y af q;obtain rfl:=mg.mp X;exact bh (q s ae F bB.dd)
 |cons i is C=>
  intro ag l cH N s X F ae Z Y af q;cases ag with
  |nil=>exact aG X dT
  |cons e ag=>
  cases l with
  |nil=>exact aG Y.symm (iP _)
  |cons H l=>
  obtain⟨ab,ac⟩:=bx X;refine gz.bX ab λx p M=>Z.cons λaI aX J cK=>?_;show bb _ _ (do xm aX (rg (.Name x p) ay aI);YI ((Ad ag ay).map (·.2)) aX) af E s;rw[YH];exact ap (eX (ap (jc (xD F ae M J λL P U W=>C ac U P (cK.Y W F.rC) (ip Y) (q.after W)))))
theorem e9(ay:fJ):∀{is:List Nat} {ag:List bU},Jc c is ag=ak->(Ad ag ay).findIdx? (·.1)=aj/\(Ad ag ay).length=D is:=by
 intro is;induction is with
 |nil=>intro ag h;obtain rfl:=mg.mp h;exact⟨rfl,rfl⟩
 |cons i is F=>intro ag h;cases ag with
  |nil=>exact aG h dT
  |cons e ag=>refine(bx h).elim λab ac=>?_;refine gz.bX ab λx p Y=>?_;refine(F ac).elim λaY Z=>?_;refine⟨?_,bA (·+1) Z⟩;show CL _ ((aW,rg (.Name x p) ay)::Ad ag ay)=aj;rw[Ha,aY];rfl
inductive mV(z:aA)(N:bk):jC->V->bk->Prop
|W {i:Nat} {H:V}:mV z N (.W i) H (N.set i (A H))
|Y {is:List Nat} {H:V} {l:List V}:ro z H l->D l=D is->mV z N (.Y is) H (TO (is.zip l) N)
theorem IP(m:mV z N cQ H bY)(X:rz c cQ t=ak)(F:gi B c I s.heap st N ay)(ae:bL B I z s)(Z:cf I s.heap H aI)(J:R.handled=aj){af:Unit->aN->Prop}(q:ww B c I z s st ay bY af):bb (ct B) R (rg t ay aI) af E s:=by
 cases m with
 |W=>refine gz.bX X λx p w=>?_;rw[YH];exact ap (jc (xD F ae w Z q))
 |Y C P=>refine rV.bX X λag k p X=>(e9 ay X).elim λab ac=>?_;rw[arm_assign_Tuple];refine ap (jc ?_);unfold unpack;exact ab▸ac▸P▸ap (eX (Uy C J ae Z λcH L M U u=>aaS X (F.Y U) M u P (q.after (U.weak F.gf))))
theorem bB.tf{sU:List aZ}(L:bB [] I h m ab)(f:bB (aD++sU) m ab bF au)(W:∀b∈sU,h.get? b=aj)(t:∀b∈aD,∃C,h.get? b=A C):bB aD I h bF au where
 pre:=L.pre.elim λa e=>f.pre.elim λb bP=>⟨a++b,by rw[bP,e,ha]⟩
 gf b C al e:=by
  exact(L.gf b C afk e).elim λU bP=>f.gf b U (λg=>(ew.mp g).elim al λg=>iH (W b g) e) bP
 fresh b Z ac:=by
  have e:h.get? b=aj:=by
   by_cases al:b∈fq m
   ·exact(L.fresh b al ac).1
   ·exact L.gone (f.fresh b Z al).1
  exact⟨e,λg=>(t b g).elim λC bP=>iH e bP⟩
 jr b C Z ac e:=f.jr b C (L.qB Z e) (λg=>(ew.mp g).elim ac λg=>iH (W b g) e) (L.jr b C Z afk e)
theorem bB.widen{sU:List aZ}(S:bB aD I h bF au)(W:∀b∈aD,b∈sU)(U:∀b∈sU,∃C,h.get? b=A C):bB sU I h bF au where
 pre:=S.pre
 gf b C al e:=S.gf b C (λg=>al (W b g)) e
 fresh b Z ac:=let e:=(S.fresh b Z ac).1;⟨e,λg=>(U b g).elim λx bP=>iH e bP⟩
 jr b C Z ac e:=S.jr b C Z (λg=>ac (W b g)) e
noncomputable def hI.hM:hI->hI
|.lp=>.X
|f=>f
inductive ZT(B:bT)(n:Nat)(ck:aA->Prop)(cQ:jC)(b:List S)(H:V)(N:bk)(z:aA)(K:hI->bk->aA->Prop):Prop
|mk {dx eg:bk} {f:hI} {ah:aA}:ck z->mV z N cQ H dx->gb B n b dx z f eg ah->K f eg ah->ZT B n ck cQ b H N z K
def qS(B:bT)(n:Nat)(ck:aA->Prop)(cQ:jC)(b:List S)(de:hI)(bY:bk)(O:aA):List V->bk->aA->Prop
|[],N,z=>ck z/\de=.X/\bY=N/\O=z
|H::r,N,z=>ZT B n ck cQ b H N z λf eg ah=>(f=.X->qS B n ck cQ b de bY O r eg ah)/\(f≠.X->de=f.hM/\bY=eg/\O=ah)
theorem VI{ck:aA->Prop}{b:List S}(h:ck z):qS B n ck cQ b .X N z [] N z:=⟨h,y,y,y⟩
theorem Mm{ck:aA->Prop}{b:List S}(h:ck z)(m:mV z N cQ H dx)(al:gb B n b dx z .X eg ah)(Z:qS B n ck cQ b de bY O l eg ah):qS B n ck cQ b de bY O (H::l) N z:=.mk h m al ⟨λx=>Z,λh=>aG y h⟩
theorem VK{ck:aA->Prop}{b:List S}{f:hI}(h:ck z)(m:mV z N cQ H dx)(al:gb B n b dx z f eg ah)(Z:f≠.X):qS B n ck cQ b f.hM eg ah (H::l) N z:=.mk h m al ⟨λe=>aG e Z,λx=>⟨y,y,y⟩⟩
theorem qn.mark{R:ez}(u:qn R n):qn (R.mark aj) n:=⟨(show(aj:Option aw).or R.handled=aj by rw[u.1];rfl),u.2.1,u.2.2⟩
structure nI(B:bT)(c:eT)(st cM:List aZ)(ay:fJ)(aS:List V)(ao:Nat->cw->cv->Prop)(gA:cw)(fS:aN)(i:Nat)(N:bk)(z:aA)(I:cw)(s:aN):Prop where
 dj:bL B I z s
 fr:gi B c I s.heap st N ay
 Y:bB (st++cM) gA fS.heap I s.heap
 hM:ol B I cM
 j:ao i I s.heap
theorem ol.Y{cM:List aZ}(C:ol B I cM)(Z:∀b∈cM,∃C,h.get? b=A C)(S:bB aD I h bF au):ol B bF cM:=λb al=>⟨(Z b al).elim λx e=>S.qB (C b al).1 e,(C b al).2⟩
theorem lk.gf{bf:aZ}{cM:List aZ}{aS:List V}{ck:aA->Prop}{tup:Bool}{ao:Nat->cw->cv->Prop}(w:lk B bf cM aS ck tup ao)(r:ao i I h):∀b∈cM,∃C,h.get? b=A C:=λb al=>(w.pu r b al).elim λC Z=>Z.elim λe x=>⟨C,e⟩
theorem lk.rC{bf:aZ}{cM:List aZ}{aS:List V}{ck:aA->Prop}{tup:Bool}{ao:Nat->cw->cv->Prop}(w:lk B bf cM aS ck tup ao)(r:ao i I h):hn cM h:=λb al C e=>by obtain⟨Z,bP,d⟩:=w.pu r b al;obtain rfl:=dk (e.symm.trans bP);exact d
section
theorem nI.pu(bi:nI B c st cM ay aS ao gA fS i N z I s)(w:lk B bf cM aS ck tup ao):∀b∈st++cM,∃C,s.heap.get? b=A C:=λb al=>(ew.mp al).elim (bi.fr.gf b) (w.gf bi.j b)
theorem nI.gy(bi:nI B c st cM ay aS ao gA fS i N z I s)(w:lk B bf cM aS ck tup ao)(Z:∀b∈mx ay,b∉cM)(ae:bL B bF O aJ)(F:gi B c bF aJ.heap st bY ay)(S:bB st I s.heap bF aJ.heap):nI B c st cM ay aS ao gA fS i bY O bF aJ:=⟨ae,F,bi.Y.trans (S.widen (λb al=>iZ _ al) (bi.pu w)),bi.hM.Y (w.gf bi.j) S,w.Y bi.j S bi.fr.rC λb al C e=>S.jr b C (bi.hM b al).1 (λY=>Z b (bi.fr.Z b Y) al) e⟩
theorem nI.le(bi:nI B c st cM ay aS ao gA fS i bY z I s)(h:jX N bY):nI B c st cM ay aS ao gA fS i N z I s:=⟨bi.dj,bi.fr.le h,bi.Y,bi.hM,bi.j⟩
theorem nI.X(bi:nI B c st cM ay aS ao gA fS i N z I s)(w:lk B bf cM aS ck tup ao)(P:∀b∈mx ay,b∉cM)(C:ck z)(u:aS[i]?=A H)(m:mV z N cQ H bY)(M:rz c cQ t=ak)(X:tup=ak->rM t=ak)(F:R.handled=aj){K:Unit->aN->Prop}{bC:aN->Prop}(q:∀aJ,nI B c st cM ay aS ao gA fS (i+1) bY z I aJ->K () aJ):bb (ct B) R (nF (.ref bf)) (λr L=>match r with
   |none=>bC L
   |some H=>bb (ct B) R (qg t (.ref bf) H) (λx f=>bb (ct B) R (rg t ay H) K af f) Z4 L) E s:=by
 refine w.X (i:=i) bi.j bi.hM bi.dj C u X λaI f a Y cK U=>?_;have Z:=bi.fr.BN Y (w.rC bi.j) P;have j:nI B c st cM ay aS ao gA fS (i+1) N z I f:=⟨a,Z,bi.Y.trans (Y.widen (λb al=>jl _ al) (bi.pu w)),bi.hM,U⟩
 exact IP m M Z a cK F λe k o d=>q e (j.gy w P k o d)
end
theorem Lx{k:lI}(e:(k matches .vM)=ak)(h:yA k t=ak):rM t=ak:=by obtain⟨⟩:=k<;>first|exact h|exact absurd e dT
theorem QP{i j:Nat}{r:List V}(h:l.drop i=H::r)(X:i+j=D l):l[i]?=A H/\l.drop (i+1)=r/\∃p,j=p+1/\(i+1)+p=D l:=by
 have Z:l[i]?=A H:=by have:=bA (·[0]?) h;rwa[CN]at this
 refine⟨Z,by rw[MG,h];rfl,?_⟩;cases j with
 |zero=>exact aG X (eC ((hZ.mp Z).1))
 |succ j=>exact⟨j,y,(mi i j).trans X⟩
inductive wx(B:bT)(n:Nat)(c:eT)(st cM:List aZ)(ay:fJ)(aS:List V)(ao:Nat->cw->cv->Prop)(gA:cw)(fS:aN)(F:List V->bk->aA->Prop)(j:Nat)(s:aN):Prop
|mk {i:Nat} {N:bk} {z:aA} {I:cw} (dq:List V):aS.drop i=dq->i+j=D aS->F dq N z->nI B c st cM ay aS ao gA fS i N z I s->wx B n c st cM ay aS ao gA fS F j s
def Cu(B:bT)(c:eT)(st cM:List aZ)(ay:fJ)(gA:cw)(fS:aN)(bY:bk)(O:aA)(P:cw->aN->Prop):Prop:=∀I s,bL B I O s->gi B c I s.heap st bY ay->bB (st++cM) gA fS.heap I s.heap->P I s
theorem sm.fin{f:hI}{Z:sI}(r:sm I h f Z){K:sI->Prop}(aY:f=.X->K .next)(Y:f≠.X->(f=.lp->K .brk)/\∀w aI,f=.dg w->cf I h w aI->K (.ret aI)):K Z:=by
 cases r with
 |X=>exact aY y
 |lp=>exact(Y nofun).1 y
 |dg r=>exact(Y nofun).2 _ _ y r
theorem l8{bf:aZ}{cM:List aZ}{aS:List V}{ck:aA->Prop}{tup:Bool}{ao:Nat->cw->cv->Prop}{gA:cw}{fS:aN}{b:List S}{j:Nat}(w:lk B bf cM aS ck tup ao)(P:∀b∈mx ay,b∉cM)(u:qn R n)(A0:rz c cQ t=ak)(A1:tup=ak->rM t=ak)(A2:qs B.t b c body=ak)
  {bC:aN->Prop}{K:sI->aN->Prop}(a:de=.X->Cu B c st cM ay gA fS bY O λx s=>bC s/\K .brk s)(A7:∀w,de=.dg w->Cu B c st cM ay gA fS bY O λI s=>∀aI,cf I s.heap w aI->K (.ret aI) s)(A5:∀p aJ,p<j->wx B n c st cM ay aS ao gA fS (qS B n ck cQ b de bY O) p aJ->K .next aJ)(A6:wx B n c st cM ay aS ao gA fS (qS B n ck cQ b de bY O) j s):bb (ct B) R (nF (.ref bf)) (λr L=>match r with
   |none=>bC L
   |some H=>bb (ct B) R (qg t (.ref bf) H) (λx B1=>bb (ct B) R (rg t ay H) (λx B2=>bb (ct B) R (YU body ay) K m B2) af B1) Z4 L) E s:=
 match A6 with
 |.mk (i:=i) (I:=o) [] F X ⟨M,A3,bq,A4⟩ bi=>
  w.stop bi.j bi.hM bi.dj M (mh (CJ.mp F) (X▸dP ..)) u.1 λB3 z h=>
   (a A3 o B3 (A4▸z) (bq▸bi.fr.BN h (w.rC bi.j) P) (bi.Y.trans (h.widen (λb al=>jl _ al) (bi.pu w)))).1
 |.mk (i:=i) (I:=o) (H::r) F X (.mk M B0 al g) bi=>
  have C:=QP F X
  bi.X w P M C.1 B0 A0 A1 u.1 λB4 Y=>al c body R m ay st o B4 K A2 ⟨u,Y.fr,Y.dj⟩ λk f U l Q d A8=>
  have Z:=Y.gy w P l Q d
  A8.fin (K:=λk=>K k U) (λe=>let⟨p,ab,ac⟩:=C.2.2;A5 p U (ab▸jO _) (.mk r C.2.1 ac (g.1 e) Z)) λA9=>
   have q:=g.2 A9;have Z:=q.2.1▸q.2.2▸Z
   ⟨λe=>(a (q.1.trans (bA hI.hM e)) f U Z.dj Z.fr Z.Y).2,λw aI e r=>A7 w (q.1.trans (bA hI.hM e)) f U Z.dj Z.fr Z.Y aI r⟩
theorem Pw{k:lI}{b:List S}{aS:List V}{ck:aA->Prop}(H:hY B n k e N z aS ck ah)(m:qS B n ck cQ b de bY O aS N ah):eM B n (.eP cQ k e b) N z de bY O:=λc aK R E ay st I s af Z aD q=>by
 refine Fs.bX Z λt A0 body A9 Z=>bp λA3=>(bx Z).elim λF Z=>(bx Z).elim λh Z=>(bx Z).elim λp l=>A3 ?_;rw[arm_exec_For];refine ap (jc ?_);have u:=H c A0 R E ay st I s (λx L=>bb (ct B) R (OK (.forLoop t x body [] ay) ay) af E L) h aD λA8 L bf cM ao w A2 A4 i U M=>?_
 ·exact ap (jb u.2 (λx L ab=>ap (pk (u.1 ay x) (ap (jc (ap (eX ab)))))) λa a x=>x)
 ·refine ZD (codeAny_forLoop_any (wx B n c st cM ay aS ao A8 L (qS B n ck cQ b de bY O)) (λj f d=>?_) (D aS) (.mk aS y (hu _) m ⟨i,aD.fr.Y U,bB.dd,A4,A2⟩));exact l8 w (λb al g=>(aD.fr.apart b al).elim λa A5=>A5.elim λa A6=>A6.elim λC A7=>A7.elim λe a=>iH (M b g) e) aD.room.mark F (λe=>Lx e p) l
   (λ(e:de=.X) v f W Y P=>have x:=q .next v f W Y (U.tf P M aD.fr.gf) (e▸sm.X);⟨OY x,x⟩)
   (λw (e:de=.dg w) v f W Y P aI r=>q (.ret aI) v f W Y (U.tf P M aD.fr.gf) (e▸sm.dg r)) (λA1 aJ ab ac=>⟨A1,ab,ac⟩) d
end
section
variable{c:eT} {s:aN} {w x:V} {a b d:afe} {ag:List afe} {G:List V} {is:List Nat} {i:Nat}
theorem fX(U:bW B n e N z H O):eM B n (.ea i e) N z .X (N.set i (A H)) O:=λc aK R E ay st I s af Z aD q=>by refine nY.bX Z λt p W Z=>?_;refine bp λP=>?_;refine(bx Z).elim λF Z=>?_;refine(bx Z).elim λk o=>?_;refine P ?_;refine gz.bX F λQ gk F=>?_;refine DO (abc _) y k (U c p R E ay st I s _ o aD λaI m L C Y J=>?_);exact ap (jc (xD (aD.fr.Y Y) C F J λf u M r=>q .next m f u M ((aD.weak Y).trans r) .X))
theorem abd{ag:List bU}{k:Nat}{p:iR}(h:rM bu=aW):vn [.Tuple ag k p] bu ay=ey aj:=by obtain⟨⟩:=bu<;>first|rfl|exact absurd h.symm dT
theorem DL(U:bW B n e N z H O)(m:mV O N (.Y is) H bY):eM B n (.vC is e) N z .X bY O:=λc aK R E ay st I s af Z aD q=>by refine nY.bX Z λt p W Z=>bp λP=>(bx Z).elim λF Z=>(bx Z).elim λh Z=>(bx Z).elim λw u=>P ?_;have b:=F;revert F;exact rV.bX b λai k gk b F=>DO (abd ((qM _).mp h)) y w (U c p R E ay st I s _ u aD λaI r L i Y J=>IP m F (aD.fr.Y Y) i J aD.room.1 λf a M C=>q .next r f a M ((aD.weak Y).trans C) .X)
theorem abf{x Q:bj}{dv et p q:iR}{k G:Nat}{Z:List bU}(X:Z.all (OB 8)=aW):vn [.Tuple [.Name x dv,.Name Q et] k p] (.Tuple Z G q) ay=ey aj\/vn [.Tuple [.Name x dv,.Name Q et] k p] (.Tuple Z G q) ay=ey (A [x,Q]):=by
 have aR:vn [.Tuple [.Name x dv,.Name Q et] k p] (.Tuple Z G q) ay=(if(!(2==2||2==3)||D Z !=2||ay.blockKind !=.function)=ak then ey aj else if(Z.any λ|.Starred ..=>ak|_=>aW)=ak then ey aj else
   let names:=[PySem.Expr.Name x dv,.Name Q et].filterMap λ
    |.Name Y W=>if ay.kindOf Y==A .local&&W.line==dv.line then A Y else aj
    |_=>aj
   if(D names !=2||D names.eraseDups !=D names)=ak then ey aj else
   if Z.all (foldedForSure 8)=ak then ey aj else
   if Z.all (OB 8)=ak then unsupported "assign.tuple-of-constant-expressions:order-of-the-stores" else
   ey (A names)):=y
 rw[aR];clear aR;split
 ·exact .inl y
 split
 ·exact .inl y
 rw[X,zi,zi];dsimp only;by_cases ab:(ay.kindOf x==A .local&&dv.line==dv.line)=ak
 ·rw[cg ab];by_cases ac:(ay.kindOf Q==A .local&&et.line==dv.line)=ak
  ·rw[cg ac];dsimp only;split
   ·exact .inl y
   split
   ·exact .inl y
   ·exact .inr y
  ·rw[bV ac];exact .inl y
 ·rw[bV ab];by_cases ac:(ay.kindOf Q==A .local&&et.line==dv.line)=ak
  ·rw[cg ac];exact .inl y
  ·rw[bV ac];exact .inl y
theorem rt(A0:bW B n (.Y [a,b]) N z (.Y [H,w]) O)(B4:i≠j):eM B n (.lm i j a b) N z .X ((N.set i (A H)).set j (A w)) O:=λc aK R E ay st I s af L aD q=>by
 refine nY.bX L λt p B9 L=>?_;refine bp λP=>?_;refine(bx L).elim λF L=>?_;refine(bx L).elim λh U=>?_;refine P ?_;refine rV.bX F λai k gk Z=>?_
 match ai,Z with
 |[],Z=>exact aG Z dT
 |[_],Z=>exact aG (bx Z).2 dT
 |C2::C3::ai,Z=>
 refine bp λP=>?_;refine(bx Z).elim λu M=>?_;refine(bx M).elim λr B3=>?_;obtain rfl:=mg.mp B3;refine P ?_;clear M F;revert Z;refine gz.bX u λQ dv u=>?_;refine gz.bX r λba et r Z=>?_;have e:=U;revert U h;refine rV.bX e λA2 G g e h U=>?_;have dG:∀{af:aw->aN->Prop},_->bb (ct B) R (lh (.Tuple A2 G g) ay) af E s:=λ{af}=>A0 c (.Tuple A2 G g) R E ay st I s af U aD;refine ap (jc ?_);refine ap (bh ?_);refine ap (dG λaI A6 C0 f l A3=>?_);have bi:=aD.weak l;have J:=aD.fr.Y l;have A1:ro O (.Y [H,w]) [H,w]:=.Y;have A4:=aD.room.1;clear dG A0 aD U;rcases abf (x:=Q) (Q:=ba) (dv:=dv) (et:=et) (p:=gk) (q:=g) (k:=k) (G:=G) (ay:=ay) ((qM _).mp h)with o|o
 ·rw[o];exact ap (bh (ap (IP (cQ:=.Y [i,j]) (.Y A1 rfl) (t:=.Tuple [.Name Q dv,.Name ba et] k gk) Z J f A3 A4 λA5 C A7 Y=>bh (q .next A6 A5 C A7 (bi.trans Y) .X))))
 ·rw[o];refine ap (bh (ap (li (ap (Uy A1 A4 f A3 λcH A5 C Y cK=>?_)))));refine cK.two λaI B8 B5 B6=>?_;refine ap (ap (eX (xD (J.Y Y) C r B6 λC1 B0 A8 d=>ap (eX (xD A8 B0 u (B5.Y d (J.Y Y).rC) λB7 B1 A9 B2=>bh (bh ?_))))));exact q .next A6 B7 B1 (List.set_comm _ _ B4▸A9) (bi.trans (((Y.weak J.gf).trans d).trans B2)) .X
end
section
variable{c:eT} {s:aN}
noncomputable def qv(ay:fJ)(names:List (bj×iD))(bN:List (bj×aZ)):List (bj×aZ):=names.foldl (λbN x=>if x.2==.free then(x.1,(ay.cells.lookup x.1).getD 0)::bN else bN) bN
theorem f9(f:bj×iD->List (bj×aZ)->kc (ForInStep (List (bj×aZ))))(M:∀Z P ax,f (Z,P) ax=if P==.free then(do let a←cellOf ay Z;ey (.yield ((Z,a)::ax)))else ey (.yield ax)){af:List (bj×aZ)->aN->Prop}:∀(names:List (bj×iD)) (bN:List (bj×aZ)),(∀x∈names,x.2=.free->(ay.cells.lookup x.1).isSome=ak)->af (qv ay names bN) s->bb (ct B) R (forIn names bN f) af E s:=by
 intro names;induction names with
 |nil=>exactλbN z q=>bh q
 |cons x r F=>
  intro bN U q;obtain⟨x,k⟩:=x;have W:=λQ Y=>U Q (.tail _ Y);rw[wJ,M];have e:qv ay ((x,k)::r) bN=qv ay r (if k==.free then(x,(ay.cells.lookup x).getD 0)::bN else bN):=y;rw[e]at q;by_cases X:(k==.free)=ak
  ·rw[cg X]at q⊢;refine(sF.mp (U (x,k) (.head _) (dA X))).elim λa aE=>?_;rw[aE]at q;exact ap (ap (Zr aE (bh (F _ W q))))
  ·rw[bV X]at q⊢;exact ap (bh (F _ W q))
theorem acw{af:List (bj×aZ)->aN->Prop}(Z:∀x∈Z5.names,x.2=.free->(ay.cells.lookup x.1).isSome=ak)(q:af (qv ay Z5.names []) s):bb (ct B) R (closureFor Z5 ay) af E s:=ap (f9 _ (λz z z=>y) _ _ Z (bh q))
theorem acy{g:List (bj×aZ)}{o:fJ}{af:fJ->aN->Prop}(q:af (newEnv Z5 s.heap.objs.size Z0 (mn (s.heap.objs.size+1) Z5.names g) x aj .none (A o) tX) {s with heap:=Ag (s.heap.push {cls:=.type "dict",data:=.dict #[]}) Z5.names}):bb (ct B) R (Zf Z5 Z0 g [] x aj .none (A o)) af E s:=by
 simp only[Zf,Option.isSome_some,if_true];refine ap (OW (ap (wpAny_layCells _ (λz z z=>y) _ _ _ _ ?_)))
 ·exact(show({s with heap:=s.heap.push {cls:=.type "dict",data:=.dict #[]}}:aN).heap.objs.size=s.heap.objs.size+1 from lO ..)▸ap (bh (bh q))
theorem e4:∀(names:List (bj×iD)) (n:Nat) (bN g:List (bj×aZ)),mn n names (bN++g)=mn n names bN++g:=by
 intro names;induction names with
 |nil=>intro n bN g;rfl
 |cons x r F=>
  intro n bN g;rw[mn,mn];by_cases X:(x.2==.cell)=ak
  ·rw[if_pos X,if_pos X];exact F (n+1) ((x.1,n)::bN) g
  ·rw[if_neg X,if_neg X];exact F n bN g
theorem Rg:∀(names:List (bj×iD)) (bN:List (bj×aZ)),(∀p∈qv ay names bN,p∈bN\/((p.1,NameKind.free)∈names/\p.2=(ay.cells.lookup p.1).getD 0))/\∀x,((x,NameKind.free)∈names\/x∈bN.map (·.1))->x∈(qv ay names bN).map (·.1):=by
 intro names;induction names with
 |nil=>exactλbN=>⟨λp h=>.inl h,λx h=>h.elim afk id⟩
 |cons Q r F=>
  obtain⟨Q,k⟩:=Q;intro bN;have e:qv ay ((Q,k)::r) bN=qv ay r (if k==.free then(Q,(ay.cells.lookup Q).getD 0)::bN else bN):=rfl;rw[e];by_cases X:(k==.free)=ak
  ·rw[cg X];clear e;obtain rfl:=dA X;refine⟨λp h=>((F _).1 p h).elim (λh=>?_) λh=>.inr ⟨.tail _ h.1,h.2⟩,λx h=>(F _).2 x (h.elim (λh=>?_) λh=>.inr (.tail _ h))⟩
   ·cases h with
    |head=>exact .inr ⟨.head _,y⟩
    |tail _ h=>exact .inl h
   ·cases h with
    |head=>exact .inr (.head _)
    |tail _ h=>exact .inl h
  ·rw[bV X];refine⟨λp h=>((F _).1 p h).imp id λh=>⟨.tail _ h.1,h.2⟩,λx h=>(F _).2 x (h.imp (λh=>?_) id)⟩;cases h with
   |head=>exact aG y X
   |tail _ h=>exact h
theorem RS{bw:Type}{H:bw}:∀{a b:List (bj×bw)},(a++b).lookup x=A H->a.lookup x=A H\/b.lookup x=A H:=by
 intro a;induction a with
 |nil=>exactλh=>.inr h
 |cons p a F=>
  intro b h;rw[MF,oW]at h;rw[oW];cases al:x==p.1 with
  |true=>rw[al]at h;exact .inl h
  |false=>rw[al]at h;exact F h
theorem z_{bw:Type}{H:bw}:∀{a b:List (bj×bw)},a.lookup x=A H->(a++b).lookup x=A H:=by
 intro a;induction a with
 |nil=>intro b h;exact absurd h.symm (gJ _)
 |cons p a F=>
  intro b h;rw[oW]at h;rw[MF,oW];cases al:x==p.1 with
  |true=>rw[al]at h;exact h
  |false=>rw[al]at h;exact F h
theorem RU{bw:Type}{a:List (bj×bw)}(h:x∈a.map (·.1)):∃H,a.lookup x=A H:=sF.mp (RT h)
noncomputable def yl(ay:fJ)(names:List (bj×iD)):List (bj×iD):=names.map λ(n,k)=>if(k==.free&&ay.scope.kind==.function&&ay.kindOf n==A .cell)=ak then(n,.cell)else(n,k)
theorem KJ{k:iD}:∀{names:List (bj×iD)},names.lookup x=A k->(yl ay names).lookup x=A k\/(k=.free/\(yl ay names).lookup x=A .cell):=by
 intro names;induction names with
 |nil=>intro h;exact absurd h.symm (gJ _)
 |cons Q r F=>
  obtain⟨Q,bI⟩:=Q;intro h;have e:yl ay ((Q,bI)::r)=(if(bI==.free&&ay.scope.kind==.function&&ay.kindOf Q==A .cell)=ak then(Q,.cell)else(Q,bI))::yl ay r:=rfl;rw[e];rw[oW]at h;split
  ·rename_i X;rw[oW];cases al:x==Q with
   |true=>rw[al]at h;obtain rfl:=dk h;exact .inr ⟨dA (bx (bx X).1).1,y⟩
   |false=>rw[al]at h;exact F h
  ·rw[oW];cases al:x==Q with
   |true=>rw[al]at h;obtain rfl:=dk h;exact .inl y
   |false=>rw[al]at h;exact F h
theorem Bz{k:iD}(X:k≠.free)(h:names.lookup x=A k):(yl ay names).lookup x=A k:=(KJ h).elim id λh=>aG h.1 X
def Vx(c:eT)(names:List (bj×iD))(x:bj)(C:Option Nat):Prop:=(∃j,C=A j/\c.vars[j]?=A x/\names.lookup x=A .free/\(c.names.lookup x=A .cell\/c.names.lookup x=A .free))\/(C=aj/\(names.lookup x=A .local\/names.lookup x=A .cell))
theorem e2:∀{ar:List bj} {dc:List (Option Nat)},DU c names ar dc=ak->D dc=D ar/\∀(i:Nat) (x:bj),ar[i]?=A x->∃C,dc[i]?=A C/\Vx c names x C:=by
 intro ar;induction ar with
 |nil=>intro dc h;obtain rfl:=mg.mp h;exact⟨rfl,nofun⟩
 |cons Q bD F=>
  intro dc h;cases dc with
  |nil=>exact aG h dT
  |cons C os=>
   refine(bx h).elim λab ac=>⟨bA (·+1) (F ac).1,λi x Y=>?_⟩
   cases i with
   |succ i=>exact(F ac).2 i x Y
   |zero=>
    clear ac;clear h;clear F;obtain rfl:=dk Y;refine⟨C,y,?_⟩;cases C with
    |some j=>exact(bx ab).elim λaY Z=>(bx Z).elim λZ X=>.inl ⟨j,y,eT.UE aY,dA Z,((Cm _ _).mp X).imp dA dA⟩
    |none=>exact .inr ⟨y,((Cm _ _).mp ab).imp dA dA⟩
noncomputable def pA(ay:fJ)(v:hO)(M:aZ):fJ:=
 {newEnv v M ay.globals (mn (M+1) v.names (qv ay v.names [])) ay.qual aj .none (A ay) tX with scope:={v with names:=yl ay v.names}}
noncomputable def ud(v:hO)(M:aZ):List aZ:=M::(mn (M+1) v.names []).map (·.2)
noncomputable def ho(N:bk)(dc:List (Option Nat)):bk:=dc.map λC=>C.bind λi=>(N[i]?).join
structure Ir(v:hO):Prop where
 kind:v.kind=.function
 aa:(v.names.map (·.1)).Nodup
 j0:∀x∈v.names,x.2=.free->x.1≠(".0":bj)
theorem aar(h:Lc Z5=ak):Ir Z5:=by
 refine(bx h).elim λab h=>(bx h).elim λac h=>(bx h).elim λbo z=>⟨dA ab,of_decide_eq_true ac,λx Y Z=>?_⟩
 have:=mf.mp bo x Y;rw[Z]at this;exact bne_iff_ne.mp this
theorem A?{k:iD}(g:(x,k)∈Z5.names)(X:k=.local\/k=.cell\/k=.free)(Z:x≠(".0":bj)):x∈yI Z5:=bJ.mpr ⟨(x,k),jw.mpr ⟨g,by rcases X with rfl|rfl|rfl<;>exact(Vm _).trans (bne_iff_ne.mpr Z)⟩,y⟩
theorem gi.Qd(F:gi B c I h st N ay)(Y:c.vars[j]?=A x)(u:c.names.lookup x=A .cell\/c.names.lookup x=A .free):∃ir aI,ay.cells.lookup x=A ir/\h.IsCell ir aI/\∀H,N[j]?=A (A H)->∃w,aI=A w/\cf I h H w:=by
 refine bp λP=>?_;obtain⟨G,X,Z⟩:=F.var;obtain⟨aI,a,b⟩:=Z j x Y;refine P ?_;cases a with
 |J e=>
  rcases u with h|h<;>rcases F.kinds x _ h with h|⟨_,h⟩<;>exact nomatch (h.symm.trans e)
 |cell _ bq p=>exact⟨_,_,bq,p,b⟩
structure uH(ay:fJ)(v:hO)(M:aZ):Prop where
 split:(pA ay v M).cells=mn (M+1) v.names []++qv ay v.names []
 cS:∀x d,(x,d)∈mn (M+1) v.names []->v.names.lookup x=A .cell
 old:∀x d,(x,d)∈qv ay v.names []->v.names.lookup x=A .free/\ay.cells.lookup x=A d
theorem e3(Z:Ir Z5)(M:aZ)(X:∀x∈Z5.names,x.2=.free->(ay.cells.lookup x.1).isSome=ak):uH ay Z5 M where
 split:=e4 _ _ [] _
 cS x d g:=by
  have ab:x∈(mn (M+1) Z5.names []).map (·.1):=gd (f:=(·.1)) g;rw[Ja,CQ,eF,CR]at ab;obtain⟨⟨Q,W⟩,Y,e⟩:=bJ.mp ab;obtain rfl:=e;obtain⟨ac,bo⟩:=jw.mp Y;exact dA bo▸Bm Z.aa ac
 old x d g:=by
  refine((Rg _ _).1 _ g).elim (λh=>?_) λt=>?_
  ·cases h
  ·obtain⟨ab,ac⟩:=t;obtain⟨a,aE⟩:=sF.mp (X _ ab y);rw[show(x,d).1=x from y,aE]at ac;exact⟨Bm Z.aa ab,aE.trans (bA A ac.symm)⟩
theorem uH.look{M:aZ}(az:uH ay Z5 M){d:aZ}(e:(pA ay Z5 M).cells.lookup x=A d):(x,d)∈mn (M+1) Z5.names []\/ay.cells.lookup x=A d:=(RS (az.split▸e)).imp qh λh=>(az.old x d (qh h)).2
theorem uH.e1{v:hO}{M:aZ}(az:uH ay v M){ir:aZ}(h:v.names.lookup x=A .free)(e:ay.cells.lookup x=A ir):(pA ay v M).cells.lookup x=A ir:=by
 refine(RU ((Rg (ay:=ay) v.names []).2 x (.inl (qh h)))).elim λd F=>?_;obtain⟨b,r⟩:∃b,(pA ay v M).cells.lookup x=A b:=RU (by rw[az.split,eI];exact jl _ (gd (f:=(·.1)) (qh F)));rcases RS (az.split▸r)with au|au
 ·cases(az.cS x b (qh au)).symm.trans h
 ·rw[r,←(az.old x b (qh au)).2,e]
theorem uH.gy{M:aZ}(az:uH ay Z5 M){d:aZ}(e:(mn (M+1) Z5.names []).lookup x=A d):(pA ay Z5 M).cells.lookup x=A d:=az.split▸z_ e
structure Vy(B:bT)(ay:fJ)(I:cw)(h:cv)(v:hO)(M:aZ)(N:bk)(au:cv):Prop where
 fZ:∀b C,h.get? b=A C->au.get? b=A C
 fr:gi B (.Z v) I au (ud v M) N (pA ay v M)
 cS:∀b∈ud v M,h.get? b=aj
 cells:∀b∈mx (pA ay v M),b∈ud v M\/∃x,ay.cells.lookup x=A b
theorem gi.dy(F:gi B c I s.heap st N ay)(ae:bL B I z s)(t:Ir X)(A6:DU c X.names (yI X) dc=ak):(∀x∈X.names,x.2=.free->(ay.cells.lookup x.1).isSome=ak)/\Vy B ay I s.heap X s.heap.objs.size (ho N dc) (Ag (s.heap.push {cls:=.type "dict",data:=.dict #[]}) X.names):=by
 refine bp λP=>?_;obtain⟨A7,A2⟩:=e2 A6;refine P ?_;have A0:∀x∈X.names,x.2=.free->(ay.cells.lookup x.1).isSome=ak:=λx U A8=>by
  refine bp λP=>?_;obtain⟨x,k⟩:=x;obtain rfl:=A8;obtain⟨i,aB⟩:=Hh.mp (A? U (.inr (.inr y)) (t.j0 _ U y));obtain⟨C,u,J⟩:=A2 i x aB;refine P ?_;have B1:=Bm t.aa U;rcases J with⟨j,_,ab,_,bo⟩|⟨_,ab⟩
  ·refine bp λP=>?_;obtain⟨ir,_,e,_⟩:=F.Qd ab bo;exact P<|e▸y
  ·rcases ab with ab|ab<;>cases B1.symm.trans ab
 refine⟨A0,?_⟩;have az:=e3 t s.heap.objs.size A0;generalize r:s.heap.objs.size=M at az;have q:∀b C,s.heap.get? b=A C->(Ag (s.heap.push {cls:=.type "dict",data:=.dict #[]}) X.names).get? b=A C:=λb C e=>Zg _ _ b C (fR _ _ b C e);have ns:(Ag (s.heap.push {cls:=.type "dict",data:=.dict #[]}) X.names).Ns M λf=>aj:=r▸(Heap.Ns.new s.heap (.type "dict")).keeps (Zg _ _);have Z:=cellsFrom_ok X.names (s.heap.push {cls:=.type "dict",data:=.dict #[]}) (M+1) [] ⟨λf f h=>afk h,.nil⟩ (r▸(lO ..)▸cu _);rw[lO,r]at Z;generalize Ag (s.heap.push {cls:=.type "dict",data:=.dict #[]}) X.names=au at q ns Z;have g:∀x d,(x,d)∈mn (M+1) X.names []->M+1<=d:=λx d h=>(Z.empty x d h).2;have A1:∀b∈ud X M,s.heap.get? b=aj:=λb al=>by
  rcases ee.mp al with rfl|al
  ·exact qw (fi r)
  ·refine bp λP=>?_;obtain⟨⟨Q,d⟩,Y,e⟩:=bJ.mp al;obtain rfl:=e;exact P<|qw (r▸jo (g Q d Y))
 have E:∀b∈mx (pA ay X M),b∈ud X M\/∃x,ay.cells.lookup x=A b:=λb al=>by
  rcases ee.mp al with rfl|al
  ·exact .inl (.head _)
  ·rw[az.split,eI]at al;refine(ew.mp al).imp (λal=>.tail _ al) λal=>bp λP=>?_;obtain⟨⟨Q,d⟩,Y,e⟩:=bJ.mp al;obtain rfl:=e;exact P<|⟨Q,(az.old Q d Y).2⟩
 have B4:∀{ba d},ay.cells.lookup ba=A d->d<M:=λB0=>by
  refine bp λP=>?_;obtain⟨_,_,C,u,_⟩:=F.apart _ (.tail _ (yc B0));exact P<|r▸iQ u
 have n:∀{p:Prop} {x Q d},(x,d)∈mn (M+1) X.names []->ay.cells.lookup Q=A d->p:=λab ac=>aG (ef (B4 ac) (jo (g _ _ ab))) (ic _);refine⟨q,⟨λx k e=>KJ e,t.kind,F.Ek,F.AG,(bK ..).trans A7,t.aa.sublist (List.Sublist.map _ pT),⟨λf=>aj,ns,λi x U=>?_⟩,λb al=>?_,λx Q d ab ac=>?_,λx m B5=>?_,λb al=>?_⟩,A1,E⟩
 ·refine bp λP=>?_;obtain⟨C,u,J⟩:=A2 i x U;refine P ?_;have A9:(ho N dc)[i]?=A (C.bind λi=>(N[i]?).join):=by unfold ho;rw[fI,u];rfl
  rw[A9];rcases J with⟨j,rfl,ab,ac,bo⟩|⟨rfl,ab⟩
  ·refine bp λP=>?_;obtain⟨ir,aI,A4,bq,A5⟩:=F.Qd ab bo;refine P<|⟨aI,.cell ((KJ ac).elim .inr λh=>.inl h.2) (az.e1 ac A4) (bq.keeps q),λH l=>?_⟩;cases O:N[j]? with
   |none=>rw[zI,O]at l;cases l
   |some C=>rw[zI,O]at l;refine bp λP=>?_;obtain⟨w,a,b⟩:=A5 H (O.trans l);exact P<|⟨w,a,b.fl (bB.gL q)⟩
  ·rcases ab with ab|ab
   ·exact⟨_,.J (Bz nofun ab),nofun⟩
   ·refine bp λP=>?_;obtain⟨d,W⟩:=sF.mp (AK (M+1) ab);exact P<|⟨_,.cell (.inl (Bz nofun ab)) (az.gy W) (Z.empty x d (qh W)).1,nofun⟩
 ·rcases E b al with al|⟨x,U⟩
  ·have A3:=A1 b al;refine⟨ae.hM A3,ae.wa A3,?_⟩;rcases ee.mp al with rfl|al
   ·exact Bw ns
   ·refine bp λP=>?_;obtain⟨⟨Q,d⟩,Y,e⟩:=bJ.mp al;obtain rfl:=e;exact P<|IZ (Z.empty Q d Y).1
  ·refine bp λP=>?_;obtain⟨B2,B3,C,u,W⟩:=F.apart b (.tail _ (yc U));exact P<|⟨B2,B3,C,q _ _ u,W⟩
 ·rcases az.look ab with ab|ab<;>rcases az.look ac with ac|ac
  ·exact Ze Z.apart ab ac
  ·exact n ab ac
  ·exact n ac ab
  ·exact F.W x Q d ab ac
 ·rcases(Cm _ _).mp m with m|m
  ·exact .inl ⟨Bz nofun (dA m),.head _⟩
  ·refine bp λP=>?_;obtain⟨d,W⟩:=sF.mp (AK (M+1) (dA m));exact P<|.inr ⟨(λe=>nomatch (Bz (ay:=ay) (k:=.cell) nofun (dA m)).symm.trans e),d,az.gy W,.tail _ (yc W)⟩
 ·rcases ee.mp al with rfl|al
  ·exact .head _
  ·exact .tail _ (by rw[az.split,eI];exact iZ _ al)
end
section
variable{c:eT} {s:aN} {ag:List afe} {k:lI}
noncomputable def vG(o:bU)(i:List ml)(p:hO)(W:iR)(d:Nat)(bN:aw)(ay:fJ):kc Unit:=
 match i[d]? with
 |some b=>do
  let x←lh b.iter ay
  DC b.iter.pos
  let x←OF b.iter ay x
  let Z←xm [x] (qi x)
  let _←OK (.compStart (.ListComp o i p W) d Z bN ay) ay
 |none=>do let _←ja (.builtin "list.append") [bN,←lh o ay]
theorem h8{U:bU}{fk:List bU}{d:Nat}(Q:Z9[d]?=A ⟨bu,U,fk,0⟩)(J:∀g,Z9[d+1]?=A g->g.is_async=0)(p:hO)(W:iR)(Y bN:aw)(ay:fJ):Oz (.ListComp Z6 Z9 p W) d Y bN ay=(do
   DC U.pos
   match←nF Y with
   |none=>ey (.done .next)
   |some H=>
    qg bu Y H
    rg bu ay H
    let mut Z:=ak
    for c in fk do
     if Z then Z←Ib c ay (lh c ay)
    if Z then
     vG Z6 Z9 p W (d+1) bN ay
    again (.compLoop (.ListComp Z6 Z9 p W) d Y bN ay)):=by
 unfold Oz vG;cases X:Z9[d+1]? with
 |none=>simp only[Q,X];rfl
 |some b=>have aR:=J b X;obtain⟨fN,P,f,m⟩:=b;obtain rfl:=aR;simp only[Q,X,bne_self_eq_false,ws,if_false,bind_assoc,pure_bind];rfl
noncomputable abbrev Lp(fk:List bU)(r:Bool)(ay:fJ):kc Bool:=forIn fk r λc r=>if r=ak then do let Z←Ib c ay (lh c ay);ey (ForInStep.yield Z)else ey (ForInStep.yield r)
theorem h!{w:bU}{fk:List bU}{d:Nat}(Q:Z9[d]?=A ⟨bu,w,fk,0⟩)(J:∀g,Z9[d+1]?=A g->g.is_async=0){bN:aw}{ay:fJ}{ae:xi->aN->Prop}(bf:Nat->aN->Prop)(turn:∀n s,bf n s->∀E,bb (ct B) R (nF Z7) (λr Y=>match r with
   |none=>ae (.ok .next) Y
   |some H=>bb (ct B) R (qg bu Z7 H) (λz L=>bb (ct B) R (rg bu ay H) (λz C=>bb (ct B) R (Lp fk ak ay) (λZ X=>if Z=ak then bb (ct B) R (vG Z6 Z9 Z5 Z3 (d+1) bN ay) (λz M=>∃G,G<n/\bf G M) E X else∃G,G<n/\bf G X) E C) E L) E Y) E s)(n:Nat)(h:bf n s):sQ (ct B) R (.compLoop (.ListComp Z6 Z9 Z5 Z3) d Z7 bN ay) ae s:=by
 refine codeAny_loop y bf (λn s W=>?_) n h;show bb _ R ((Oz (.ListComp Z6 Z9 Z5 Z3) d Z7 bN ay).onRaise (λx=>do noteFrame x ay;theTreesLotGoes x)) _ _ s;refine wpAny_noted ?_;rw[h8 Q J];have t:=turn n s W;clear turn W h;refine ap (jc (ap (jb (t _) (λr Y F=>?_) λz z au=>au)));cases r with
 |none=>exact bh F
 |some H=>
  refine ap (jb F (λz L b=>ap (jb b (λz C U=>ap (jb U (λZ X u=>?_) λz z au=>au)) λz z au=>au)) λz z au=>au);cases Z with
  |false=>exact bh ⟨y,u⟩
  |true=>exact ap (jb u (λz M P=>bh ⟨y,P⟩) λz z au=>au)
def Cw(B:bT)(n:Nat)(ag:List afe)(N:bk)(z:aA)(b:Bool)(O:aA):Prop:=∀c aK R E ay st I s af,lr B.t ag c aK=ak->jV B n c R ay st N I z s->Gy B I s O (af b)->bb (ct B) R (Lp aK ak ay) af E s
theorem GG:Cw B n [] N z ak z:=λc aK R E ay st I s af Z aD q=>by obtain rfl:=mg.mp Z;exact bh (q I s aD.dj bB.dd)
theorem GH(h:eB B n e N z b O):Cw B n [e] N z b O:=λc aK R E ay st I s af Z aD q=>by
 cases aK with
 |nil=>exact aG Z dT
 |cons p aK=>refine(bx (bx Z).2).elim λF W=>?_;obtain rfl:=mg.mp W;exact ap (ap (h c p R E ay st I s _ F aD λm L i Y=>bh (bh (q m L i Y))))
def xb(i:List ml):Prop:=i.all (λg=>g.is_async==0)=ak
theorem xb.at(h:xb Z9){d:Nat}(g:ml)(Q:Z9[d]?=A g):g.is_async=0:=dA (mf.mp h g (io Q))
def VH(B:bT)(c:eT)(I:cw)(s:aN)(st:List aZ)(ay:fJ)(N:bk)(O:aA)(af:Unit->aN->Prop):Prop:=∀bF aJ,bL B bF O aJ->gi B c bF aJ.heap st N ay->bB st I s.heap bF aJ.heap->af () aJ
def Cv(B:bT)(n:Nat)(dq:kn)(a:Nat)(N:bk)(z:aA)(O:aA):Prop:=∀c x i o p W d R E ay st I s G af,xb i->AM B.t dq c x o=ak->i.drop d=x->jV B n c R ay st N I z s->I[a]?=A G->VH B c I s st ay N O af->bb (ct B) R (vG o i p W d (.ref G.1) ay) af E s
theorem PD{G:aZ×Option aZ}(ae:bL B I z s)(g:I[a]?=A G)(aE:z[a]?=A (.W l))(Y:D l<=cZ)(Z:cf I s.heap H aI)(q:∀aJ,bL B I (z.set a (.W (l++[H]))) aJ->bB [] I s.heap I aJ.heap->af .none aJ):bb (ct B) R (ja (.builtin "list.append") [.ref G.1,aI]) af E s:=by
 refine ae.W aE λd ar k X ab ac=>?_;obtain rfl:=dk (g.symm.trans X);have x:=ae.xY (aJ:={s with heap:=s.heap.update d (fW λar=>ar.push aI)}) (dB:=l++[H]) aE g (kJ ..) (Dq (n:=k) ab λar=>ar.push aI) (by
  rw[yN];exact ci.append (G:=[H]) (FN:=[aI]) ⟨aI,[],y,Z,y⟩ ac) y y
 exact Af Yt ⟨_,ab,y⟩ adW (adG _ _) (list_append d ar k aI (by rw[ac.size];exact mF Y)) ⟨ab,q _ x.1 x.2⟩
theorem GB(U:bW B n e N z H ah)(aE:ah[a]?=A (.W l))(t:D l<=cZ):Cv B n (.di e) a N z (ah.set a (.W (l++[H]))):=λc b j o p W d R E ay st I s G af x u F aD g q=>by refine bp λP=>(bx u).elim λC w=>?_;obtain rfl:=mg.mp C;refine P ?_;unfold vG;exact(wK.mpr (CJ.mp F))▸ap (U c o R E ay st I s _ w aD λaI r L i Z J=>ap (PD i (Z.at g) aE t J λf M Y=>bh (q r f M ((aD.fr.Y Z).Y Y) (aD.weak (Z.trans Y)))))
inductive Vn(B:bT)(n:Nat)(ck:aA->Prop)(cQ:jC)(fk:List afe)(dq:kn)(a:Nat)(H:V)(N:bk)(z:aA)(K:aA->Prop):Prop
|mk {dx:bk} {ah aV:aA} (b:Bool):ck z->mV z N cQ H dx->jX N dx->Cw B n fk dx z b ah->(b=ak->Cv B n dq a dx ah aV)->(b=aW->aV=ah)->K aV->Vn B n ck cQ fk dq a H N z K
def oT(B:bT)(n:Nat)(ck:aA->Prop)(cQ:jC)(fk:List afe)(dq:kn)(a:Nat)(N:bk)(O:aA):List V->aA->Prop
|[],z=>ck z/\O=z
|H::r,z=>Vn B n ck cQ fk dq a H N z λaV=>oT B n ck cQ fk dq a N O r aV
structure Mp(B:bT)(c:eT)(cQ:jC)(k:lI)(fk:List afe)(dq:kn)(t:bU)(cd:List bU)(x:List ml)(o:bU):Prop where
 d6:rz c cQ t=ak
 aeV:yA k t=ak
 d7:lr B.t fk c cd=ak
 d8:AM B.t dq c x o=ak
theorem h7{cd:List bU}{U:List ml}{d:Nat}{G:aZ×Option aZ}(w:lk B bf cM aS ck tup ao)(Y:∀b∈mx ay,b∉cM)(u:qn R n)(P:Mp B c cQ k fk dq t cd Z9 Z6)(aE:xb U)(F:U.drop (d+1)=Z9)(B4:tup=ak->rM t=ak)(C1:gA[a]?=A G){g e:aw->aN->Prop}{bC K:aN->Prop}(B7:Cu B c st cM ay gA fS N O λx s=>bC s)(B5:∀p aJ,p<j->wx B n c st cM ay aS ao gA fS (λl r z=>r=N/\oT B n ck cQ fk dq a N O l z) p aJ->K aJ)(B6:wx B n c st cM ay aS ao gA fS (λl r z=>r=N/\oT B n ck cQ fk dq a N O l z) j s):bb (ct B) R (nF (.ref bf)) (λr A4=>match r with
   |none=>bC A4
   |some H=>bb (ct B) R (qg t (.ref bf) H) (λx C7=>bb (ct B) R (rg t ay H) (λx C8=>bb (ct B) R (Lp cd ak ay) (λC3 A5=>if C3=ak then bb (ct B) R (vG Z6 U Z5 Z3 (d+1) (.ref G.1) ay) (λx C9=>K C9) e A5 else K A5) g C8) af C7) Z4 A4) E s:=
 match B6 with
 |.mk (i:=i) (I:=q) [] F X ⟨o,M,bq⟩ bi=>
  w.stop bi.j bi.hM bi.dj M (mh (CJ.mp F) (X▸dP ..)) u.1 λC4 B0 A0=>
   B7 q C4 (bq▸B0) (o▸bi.fr.BN A0 (w.rC bi.j) Y) (bi.Y.trans (A0.widen (λb al=>jl _ al) (bi.pu w)))
 |.mk (i:=i) (I:=q) (H::r) B8 X ⟨o,.mk b M C2 A2 aB C0 B9 Q⟩ bi=>
  have L:=QP B8 X;have A3:∀{A6 C A8} {A7:bk},nI B c st cM ay aS ao gA fS (i+1) A7 A8 A6 C->jX N A7->oT B n ck cQ fk dq a N O r A8->K C:=λB3 l Q=>let⟨p,ab,ac⟩:=L.2.2;B5 p _ (ab▸jO _) (.mk r L.2.1 ac ⟨y,Q⟩ (B3.le l))
  bi.X w Y M L.1 (o▸C2) P.d6 B4 u.1 λC5 h=>aB c cd R g ay st q C5 _ P.d7 ⟨u,h.fr,h.dj⟩ λD0 C6 f A1=>by
   have Z:=h.gy w Y f (h.fr.Y A1) (A1.weak h.fr.gf);cases b with
   |false=>obtain rfl:=B9 y;exact A3 Z A2 Q
   |true=>exact C0 y c Z9 U Z6 Z5 Z3 (d+1) R e ay st D0 C6 G (λx s=>K s) aE P.d8 F ⟨u,Z.fr,f⟩ (Z.Y.at C1) λA6 C B1 A9 B2=>A3 (Z.gy w Y B1 A9 B2) A2 Q
theorem Qu{cd:List bU}{d:Nat}{G:aZ×Option aZ}(w:lk B bf cM aS ck tup ao)(U:∀b∈mx ay,b∉cM)(Y:Mp B c cQ k fk dq t cd Z9 bu)(aE:xb i)(Q:i[d]?=A ⟨t,Z6,cd,0⟩)(F:i.drop (d+1)=Z9)(P:tup=ak->rM t=ak)(aD:jV B n c R ay st N I z s)(g:I[a]?=A G)(v:ao 0 I s.heap)(L:ol B I cM)(W:oT B n ck cQ fk dq a N O aS z){hc:xi->aN->Prop}(q:Cu B c st cM ay I s N O λx s=>hc (.ok .next) s):sQ (ct B) R (.compStart (.ListComp bu i Z5 Z3) d (.ref bf) (.ref G.1) ay) hc s:=by
 have Z:sQ (ct B) R (.compLoop (.ListComp bu i Z5 Z3) d (.ref bf) (.ref G.1) ay) hc s:=h! Q aE.at
  (wx B n c st cM ay aS ao I s (λl r z=>r=N/\oT B n ck cQ fk dq a N O l z)) (λj f M E=>h7 w U aD.room Y aE F P g q (λp aJ ab ac=>⟨p,ab,ac⟩) M) (D aS) (.mk aS y (hu _) ⟨y,W⟩ ⟨aD.dj,aD.fr,bB.dd,L,v⟩)
 clear W q F Y;refine Oy<|wpAny_notedAt ?_;unfold compStart;rw[show clausesOf (.ListComp bu i Z5 Z3)=i from y,Q];refine ap (DD (wpAny_ite ?_));split
 ·first
   |exact ap (bh (bh (And.intro rfl Z)))
   |exact wpAny_pure (And.intro rfl Z)
 ·first
   |exact ap (li (ap (jc (ap (w.self v (bh (And.intro rfl Z)))))))
   |(refine wpAny_bind (wpAny_rule ?_)
     show wpAny _ _ (standAt Z6.pos>>=_) _ _ s;exact wpAny_bind (wpAny_standAt (wpAny_bind (w.self v (wpAny_pure (And.intro rfl Z))))))
end
section
variable{c:eT} {s:aN} {ag:List afe} {k:lI}
theorem VL(A7:hY B n k e N z aS ck ah)(A6:oT B n ck cQ fk dq a N O aS ah):Cv B n (.hS cQ k e fk dq) a N z O:=λc U W A4 B2 B0 d R E ay st I s G af aE Z F aD M q=>by
 cases U with
 |nil=>exact aG Z dT
 |cons g U=>
  cases g with
  |mk t j cd v=>
  have Z:=bx Z;have A0:=(bx Z.1).1;have A1:=(bx (bx Z.1).2).1;have u:=(bx (bx Z.1).2).2;have A2:=(bx Z.2).1;have A3:=(bx Z.2).2;clear Z;have P:W[d]?=A ⟨t,j,cd,v⟩:=by have:=bA (·[0]?) F;rwa[CN]at this
  have aR:v=0:=aE.at _ P;subst aR;have A5:W.drop (d+1)=U:=by rw[MG,F];rfl
  unfold vG;rw[P];have p:=A7 c j R E ay st I s (λx L=>bb (ct B) R (do let _←OK (.compStart (.ListComp A4 W B2 B0) d x (.ref G.1) ay) ay;ey ()) af E L) A1 aD λB4 L bf cM ao w A8 A9 i Y r=>?_
  ·exact ap (jb p.2 (λx L ab=>ap (jc (ap (pk (p.1 ay x) (ap (eX ab)))))) λf f x=>x)
  ·exact ap (ZD (Qu w (λb al M=>(aD.fr.apart b al).2.2.elim λC e=>iH (r b M) e.1) ⟨A0,u,A2,A3⟩ aE P A5 (λe=>Lx e u) ⟨aD.room.mark,aD.fr.Y Y,i⟩ (Y.at M) A8 A9 A6 λB3 B1 l H h=>bh (q B3 B1 l H (Y.tf h r aD.fr.gf))))
structure Me(B:bT)(I:cw)(s:aN)(H:V)(O:aA)(Z:fJ)(aX:List (bj×iD))(aI:aw)(W:cw)(X:aN):Prop where
 dj:bL B W O X
 Y:bB [] I s.heap W X.heap
 val:cf W X.heap H aI
 ns:∃G,X.heap.Ns Z.locals G
 hM:Z.locals∉fq W/\B.aR.get? Z.locals=aj
 cS:s.heap.get? Z.locals=aj
 kind:Z.scope.kind=.function
 J:∀x∈aX,x.2=.local->Z.kindOf x.1=A .local
theorem Qt(C8:hY B n k e N z aS ck ah)(A2:oT B n ck cQ fk dq (D ah) (ho N dc) O aS (ah++[.W []])){g:ml}{v:hO}(aD:jV B n c R ay st N I z s)(Z:((Lc v&&DU c v.names (yI v) dc)&&(((g::Z9).all (λg=>g.is_async==0)&&(rz (.Z v) cQ g.target&&(AN c (λp=>fv B.t e c p) g.iter k&&yA k g.target)))&&(lr B.t fk (.Z v) g.ifs&&AM B.t dq (.Z v) Z9 Z6)))=ak){Ca:Option (aw->kc Unit)}(fin:∀(A9:fJ) (A8:List (bj×iD)->List aw) (aX:List (bj×iD)) (aI:aw) (Y:cw) (j:aN),Me B I s (.J (D ah)) O A9 aX aI Y j->bb (ct B) R (match Ca with
    |none=>do xm [aI] (comprehension.letGo A9 A8 aX.reverse);ey aI
    |some u=>do rule "comprehension.stores-exchanged";xm (A8 aX) (u aI);comprehension.letGo A9 A8 (aX.reverse.drop 1++aX.reverse.take 1);ey .none) af E j):bb (ct B) R (comprehension (.ListComp Z6 (g::Z9) v Z3) v ay (firstIterPos (g::Z9) Z3) (Ic []) (firstAsync (g::Z9)) (firstIter (g::Z9) ay) Ca) af E s:=by
 have Z:=bx Z;have B7:=aar (bx Z.1).1;have Z:=bx Z.2;have aE:=(bx Z.1).1;have A4:=bx (bx Z.1).2;have D6:=A4.1;have C2:=(bx A4.2).1;have C3:=(bx A4.2).2;have D7:=(bx Z.2).1;have D8:=(bx Z.2).2;cases g with
 |mk t E2 cd D5=>
 have aR:D5=0:=xb.at aE (d:=0) _ y;subst aR;clear Z A4;have B1:=λ(D4:aw->aN->Prop) D9=>C8 c E2 R E ay st I s D4 C2 aD D9;have C5:=(B1 (λa a=>True) λa a a a a a a a a a a=>trivial).1;refine ap (jb (B1 _ λD3 W bf cM ao w B3 B5 A6 C0 B0=>?_).2 (λx W ab=>ap (jc (ap (pk (C5 ay x) (ap (eX ab)))))) λa a x=>x);clear B1 C5 C8 C2;refine wpAny_standIf (ap (Aj ?_ (cW _)));have P:=A6.newList (l:=[]) (ar:=([]:List aw).toArray) y W.toks;have q:=P.2.1;have P:=P.1;have A3:(D3++[(W.heap.objs.size,(aj:Option aZ))])[D ah]?=A (W.heap.objs.size,aj):=by
  rw[←A6.J,iN (cu _),kb];rfl
 generalize D3++[(W.heap.objs.size,(aj:Option aZ))]=A5 at P q A3;generalize C9:({W with heap:=W.heap.push {cls:=.type "list",data:=.seq ([]:List aw).toArray},toks:=W.toks}:aN)=f at P⊢;rw[show W.heap.push {cls:=.type "list",data:=.seq ([]:List aw).toArray}=f.heap from C9▸y]at q;have A1:=C0.trans q;have B4:=w.Y B3 q hn.nil λb al C e=>q.jr b C (B5 b al).1 afk e;have B6:=B5.Y (w.gf B3) q;have A7:=w.gf B4;generalize W.heap.objs.size=U at A3;clear q C0 A6 B3 B5 C9;have az:=gi.dy (aD.fr.Y A1) P B7 ((bx Z.1).2);have E0:=az.1;have az:=az.2;refine ap (acw E0 (ap (acy ?_)));generalize E3:f.heap.objs.size=M at az;generalize Ag (f.heap.push {cls:=.type "dict",data:=.dict #[]}) v.names=bo at az;have i:bB [] A5 f.heap A5 bo:=bB.gL az.fZ;have B9:=A1.trans i;have B8:bL B A5 (ah++[.W []]) {f with heap:=bo}:=P.gL az.fZ y y;have D0:=w.Y B4 i hn.nil λb al C e=>i.jr b C (B6 b al).1 afk e;have D2:=B6.Y A7 i;have C1:∀b∈mx (pA ay v M),b∉cM:=λb al C7=>by
  refine(az.cells b al).elim (λal=>(A7 b C7).elim λC e=>iH (az.cS b al) e) λh=>h.elim λx B2=>(aD.fr.apart b (.tail _ (yc B2))).2.2.elim λC e=>iH (B0 b C7) e.1
 have D1:∀b∈ud v M++cM,s.heap.get? b=aj:=λb al=>(ew.mp al).elim (λal=>A1.gone (az.cS b al)) (B0 b);have C6:∀x∈(v.names.filter λx=>(x.2==.local||x.2==.cell)&&x.1 !=(".0":bj)),x.2=.local->(pA ay v M).kindOf x.1=A .local:=λx B2 A2=>Bz nofun (A2▸Bm B7.aa (jw.mp B2).1);refine eX (ap (vq (eX (wpAny_run (Dx (Qu (c:=.Z v) (d:=0) w C1 ⟨D6,C3,D7,D8⟩ aE y y (λe=>Lx e C3) ⟨aD.room.mark,az.fr,B8⟩ A3 D0 D2 A2 (hc:=λr aJ=>r=.ok .next/\∃Y,bL B Y O aJ/\gi B (.Z v) Y aJ.heap (ud v M) (ho N dc) (pA ay v M)/\bB (ud v M++cM) A5 bo Y aJ.heap) λY j A0 F H=>⟨y,Y,A0,F,H⟩) λr j E1=>?_)))));obtain⟨rfl,Y,A0,F,H⟩:=E1;have C4:Me B I s (.J (D ah)) O (pA ay v M) (v.names.filter λx=>(x.2==.local||x.2==.cell)&&x.1 !=(".0":bj)) (.ref U) Y j:=
  ⟨A0,B9.tf (aD:=[]) H D1 (λa h=>afk h),⟨_,H.at A3,y⟩,F.var.imp λG h=>h.1,⟨(F.apart M (.head _)).1,(F.apart M (.head _)).2.1⟩,A1.gone (az.cS M (.head _)),B7.kind,C6⟩
 clear A2 B0 w B4 D0 B6 D2 A7 C1 D1 C6 az F H A0 i B9 B8;cases Ca with
 |none=>exact fin _ _ _ _ Y j C4
 |some u=>exact fin _ _ _ _ Y j C4
end
section
variable{c:eT} {s:aN} {C:afe} {ag:List afe} {G:List V} {i:Nat} {w x:V} {k:lI}
theorem bL.PG(ae:bL B I z s){M:aZ}{au:cv}{G:bj->Option aw}(Y:hx M s.heap au)(r:M∉fq I/\B.aR.get? M=aj)(J:s.heap.Ns M G):bL B I z {s with heap:=au,toks:=s.toks}/\bB [M] I s.heap I au/\hn [M] s.heap:=
 have d:hn [M] s.heap:=(Bw J).elim λa Z=>Z.elim λe d=>mv e d;have x:=ae.moved (au:=au) (cM:=[M]) (λb al=>cB.mp al▸r) d (λb C al e=>(Y.2 b λq=>al (q▸.head _)).trans e) s.toks
 ⟨x.1,x.2,d⟩
theorem Cs(P:hY B n k e N z aS ck ah)(Y:oT B n ck cQ fk dq (D ah) (ho N dc) O aS (ah++[.W []])):bW B n (.dy cQ k e fk dq dc) N z (.J (D ah)) O:=λc bu R E ay st I s af Z aD q=>by exact BD.bX Z λo g H v W Z=>Qt P Y aD Z (Ca:=aj) λl f aX aI t F az=>az.ns.elim λG J=>ap (eX (Zs az.kind _ F G (λx M=>az.J x (CR.mp M)) J λau p h u=>bh ((az.dj.PG u az.hM J).elim λr L=>L.elim λj U=>q aI t _ r (az.Y.tf (aD:=[]) j (λb al=>cB.mp al▸az.cS) nofun) (az.val.Y j U))))
theorem a'(f:hY B n k e N z aS ck ah)(J:oT B n ck cQ fk dq (D ah) (ho N dc) O aS (ah++[.W []])):eM B n (.pv i (.dy cQ k e fk dq dc)) N z .X (N.set i (A (.J (D ah)))) O:=λc aK R E ay st I s af Z aD q=>by
 refine nY.bX Z λt p B1 Z=>?_;refine(bx Z).elim λF h=>?_;refine gz.bX F λQ gk F=>?_;have dG:=λaf q=>Cs f J c p R E ay st I s af h aD q;revert h;refineλh=>?_;have A2:=h;revert dG h;refine BD.bX A2 λA7 g A8 C3 B2 Z dG h=>?_;obtain⟨b,al⟩:∃b,Zo [.Name Q gk] (.ListComp A7 (g::A8) C3 B2) B1.line ay=ey b:=⟨_,y⟩
 refine ap (jc ?_);rw[al];refine ap (bh ?_);have H:∀{aI:aw} {U:cw} {W:aN} {E:aw->aN->Prop} {af:Unit->aN->Prop},bL B U O W->bB [] I s.heap U W.heap->cf U W.heap (.J (D ah)) aI->ww B c U O W st ay (N.set i (A (.J (D ah)))) af->bb (ct B) R (rg (.Name Q gk) ay aI) af E W:=λae S r k=>by
  exact ap (jc (xD (aD.fr.Y S) ae F r k))
 cases b with
 |false=>refine ap (dG _ λaI C4 C8 A4 w C1=>?_);exact ap (bh (ap (H A4 w C1 λM L d j=>bh (q .next C4 M L d ((aD.weak w).trans j) .X))))
 |true=>
  clear dG h A2 al;refine ap (ap (Qt f J aD Z (Ca:=A _) λl C5 aX aI U W az=>?_));clear Z f J;refine ap (li (ap (eX (H az.dj az.Y az.val λM L d j=>?_))));clear H;refine az.ns.elim λG A3=>?_;have u:M.heap.Ns l.locals G:=A3.elim λbO B4=>B4.elim λag B5=>B5.elim λcJ B6=>B6.elim λB0 A9=>⟨bO,ag,cJ,j.jr _ _ az.hM.1 (λv=>(aD.fr.gf _ v).elim λa e=>iH az.cS e) B0,A9⟩
  refine ap (Zs az.kind _ M G (λx P=>az.J x ((ew.mp P).elim (λP=>CR.mp (List.mem_of_mem_drop P)) λP=>CR.mp (wM P))) u λau C7 C6 C2=>bh (bh (bh ?_)));refine(L.PG C2 az.hM u).elim λA5 B3=>B3.elim λA0 A6=>?_;have A1:∀{s:aN},(∀b∈st,∃C,s.heap.get? b=A C)->(∃G,s.heap.Ns l.locals G)->∀b∈st++[l.locals],∃C,s.heap.get? b=A C:=λab ⟨G,ac⟩ b al=>(ew.mp al).elim (ab b) λal=>(Bw ac).elim λC B7=>B7.elim λe a=>⟨C,cB.mp al▸e⟩
  exact q .next U _ A5 (d.BN A0 A6 λb al v=>(aD.fr.apart _ al).elim λa B8=>B8.elim λa B9=>B9.elim λC C0=>C0.elim λe a=>iH (cB.mp v▸az.cS) e) (az.Y.tf ((j.widen (sU:=st++[l.locals]) (λb al=>iZ _ al) (A1 (aD.fr.Y az.Y).gf ⟨G,A3⟩)).trans (A0.widen (λb al=>jl _ al) (A1 d.gf ⟨G,u⟩))) (λb al=>cB.mp al▸az.cS) aD.fr.gf) .X
theorem Sh{p:bU}{x:bj}{W:iR}{aK:List bU}(al:Bv p=ak)(U:(Z3.endLine==W.line)=ak)(J:D aK<=10)(o:∀q∈aK,lV q=ak)(h:∀be,bb (ct B) R (lh p ay) (λY L=>bb (ct B) R (getMethod Y x be) (λZ f=>bb (ct B) R (callWith W Z.1 Z.2 (sO W (qj aK ay)) []) af E f) E L) E s):bb (ct B) R (lh (.Call (.Attribute p x Z3) aK [] W) ay) af E s:=by
 have X:Zd (D aK+([]:List Ob).length) (sO W (qj aK ay)) (backToKw W (Za [] ay))=ak:=by
  unfold Zd;rw[(mf.mpr λx P=>(qM _).mpr ((Vi _).mp (Wm.mp (yn o) x P))),show(backToKw W (Za [] ay))=[]from y];simp;exact er J (aF y)
 rw[arm_eval_Call,PL al];refine ap (jb (h (do return(←importBound p ay).getD ak)) (λY L ab=>ap (jc ?_)) λz z x=>x);unfold methodCall;exact X▸ap (eX (jb ab (λZ f ac=>ap (pk (by unfold methodCallPos;rw[U];rfl) ac)) λz z x=>x))
theorem eu{k:Nat}(u:bW B n C N z (.J a) ah)(aE:ah[a]?=A (.dH k cd))(M:mw cd nm=aj)(t:B.P.bZ k nm=A f)(L:qQ B n ag N ah l aV)(P:dU B n f (.J a::l) aV H O):bW B n (.bZ C nm ag) N z H O:=λc bu R E ay st I s af Z aD q=>by refine ih.bX Z λg aK A8 Z=>rU.bX Z λp x B3 Z=>bp λA6=>(bx Z).elim λaY e=>(bx aY).elim λA0 A1=>(bx A1).elim λB4 A2=>?_;obtain rfl:=dA A2;refine(bx e).elim λA3 A4=>(bx A4).elim λA5 j=>(bx j).elim λw b=>(aD.dj.good.func P.1).elim λA7 A9=>A9.elim λcc B0=>B0.elim λh F=>A6<|Sh A3 A0 (of_decide_eq_true A5) (ry b) λbe=>u c p R E ay st I s _ w aD λaI B2 B1 i W J=>?_;revert J;exactλJ=>i.JR aE J λx d ag G r bf=>r0 i bf t M (Yc (o:=A7) (fd:=cc) (xN (ry b) (L c aK R E ay st B2 B1 A8 _ b (aD.Y i W) λcH B6 B5 Y U cK=>⟨⟨Y.K _ _ h,F⟩,P.wp (cH:=.ref x::cH) aD.room.fg Y ⟨.ref x,cH,y,⟨_,U.at r,y⟩,cK⟩ ((q.after W).after U)⟩)))
structure FZ(s:aN)(aI:aw)(x:bj)(T Z:String):Prop where
 abU:s.TypeIs aI T
 N?:PlainAttrs T
 slot:Slot T x Z
 t4:Ij (.builtin Z)=ey (.type "method_descriptor")
 E!:∀a,aI=.ref a->∃C,s.heap.get? a=A C/\C.dict=aj
inductive pQ(z:aA):V->bj->String->Prop
|append {a:Nat} {l:List V}:z[a]?=A (.W l)->pQ z (.J a) "append" "list.append"
|AZ {a:Nat} {l:List V}:z[a]?=A (.W l)->pQ z (.J a) "extend" "list.extend"
|pop {a:Nat} {l:List V}:z[a]?=A (.W l)->pQ z (.J a) "pop" "list.pop"
|QO {a:Nat} {l:List (V×V)}:z[a]?=A (.Z l)->pQ z (.J a) "pop" "dict.pop"
|get {a:Nat} {l:List (V×V)}:z[a]?=A (.Z l)->pQ z (.J a) "get" "dict.get"
|yt {a:Nat} {l:List (V×V)}:z[a]?=A (.Z l)->pQ z (.J a) "setdefault" "dict.setdefault"
|RE {w:bj}:pQ z (.cG w) "isspace" "str.isspace"
theorem pQ.lst(ae:bL B I z s)(aE:z[a]?=A (.W l))(r:cf I s.heap (.J a) aI){x:bj}(ab:Slot "list" x Z1)(ac:Ij (.builtin Z1)=ey (.type "method_descriptor")):∃T,FZ s aI x T Z1:=ae.ie aE r λd ar k g cL dw=>⟨_,⟨_,cL,y⟩,aem,ab,ac,λb e=>by cases e;exact⟨_,cL,y⟩⟩
theorem pQ.Jn(ae:bL B I z s){ag:List (V×V)}(aE:z[a]?=A (.Z ag))(r:cf I s.heap (.J a) aI){x:bj}(ab:Slot "dict" x Z1)(ac:Ij (.builtin Z1)=ey (.type "method_descriptor")):∃T,FZ s aI x T Z1:=ae.pB aE r λd dW cJ g U=>⟨_,U.typeIs,ael,ab,ac,λb e=>by cases e;exact⟨_,U.jF,y⟩⟩
theorem pQ.at{x:bj}(b:pQ z H x Z1)(ae:bL B I z s)(r:cf I s.heap H aI):∃T,FZ s aI x T Z1:=by
 cases b with
 |append e=>exact pQ.lst ae e r Yt aeB
 |AZ e=>exact pQ.lst ae e r NX aeC
 |pop e=>exact pQ.lst ae e r Yu aeD
 |QO e=>exact pQ.Jn ae e r Yq aez
 |get e=>exact pQ.Jn ae e r Yp aey
 |yt e=>exact pQ.Jn ae e r Yr aeA
 |RE=>exact r.s λt=>⟨_,OU s _ t,aen,Yw,aeE,nofun⟩
theorem iL{x:bj}(u:bW B n C N z Q ah)(al:pQ ah Q x Z1)(r:qQ B n ag N ah l aV)(t:hH B (.builtin Z1) (Q::l) aV H O):bW B n (.eO C x ag) N z H O:=λc bu R E ay st I s af Z aD q=>by refine ih.bX Z λg aK W Z=>rU.bX Z λp A2 A1 Z=>bp λP=>(bx Z).elim λaY w=>(bx aY).elim λk e=>?_;obtain rfl:=dA e;exact(bx w).elim λU h=>(bx h).elim λF d=>(bx d).elim λj b=>P<|Sh U k (of_decide_eq_true F) (ry b) λbe=>u c p R E ay st I s _ j aD λaI m L i Y J=>bp λP=>(al.at i J).elim λT bg=>P<|getMethod_builtin bg.abU bg.N? bg.slot bg.t4 bg.E! (Yb (yn (ry b)) (xN (ry b) (r c aK R E ay st m L W _ b (aD.Y i Y) λcH A0 f a M cK=>t (aI::cH) R E A0 f af aD.u aD.room.1 a ⟨aI,cH,y,J.fl M,cK⟩ ((q.after Y).after M))))
theorem qO(aE:z[a]?=A (.W l))(X:D l<=cZ):hH B (.builtin "list.append") [.J a,H] z .bM (z.set a (.W (l++[H]))):=λP R E I s af U J ae r q=>by exact r.two λb aI W Z=>W.r λG g=>PD ae g aE X Z λaJ hc Y=>q .none I aJ hc Y y
theorem TN(X:ro z H G)(ae:bL B I z s)(Z:cf I s.heap H aI){P:aw->Prop}(aY:∀a ar k,s.heap.get? a=A (gp ar k)->ci I s.heap G ar.toList->P (.ref a))(U:∀a ar k,s.heap.get? a=A (jU ar k)->ci I s.heap G ar.toList->P (.ref a)):P aI:=by
 cases X with
 |Y=>exact Z.t λa ar k x ab ac=>U a ar k ab ac
 |W e=>exact ae.ie e Z λa ar k x ab ac=>aY a ar k ab ac
theorem Cn(aE:z[a]?=A (.W l))(U:ro z H G)(W:D l+D G<=cZ):hH B (.builtin "list.extend") [.J a,H] z .bM (z.set a (.W (l++G))):=λu R E I s af L J ae r q=>by
 refine r.two λb aI M Z=>ae.ie aE M λd ar k g cL dw=>?_;have fin:∀bD:Array aw,ci I s.heap G bD.toList->(¬(!ar.isEmpty&&XS (ar.size+bD.size))=ak/\ar.size+bD.size<=mS)/\af .none {s with heap:=s.heap.update d (fW λar=>ar++bD)}:=λbD Y=>by
  have X:ar.size+bD.size<=mS:=dw.size▸Y.size▸mF W;have x:=ae.xY (aJ:={s with heap:=s.heap.update d (fW λar=>ar++bD)}) (dB:=l++G) aE g (kJ ..) (Dq (n:=k) cL λar=>ar++bD) (by
   exact((LO ..)).symm▸ci.append Y dw) y y
  refine⟨⟨λh=>?_,X⟩,q .none I _ x.1 x.2 y⟩;exact aG (of_decide_eq_true (bx h).2) (fP.mpr X)
 clear q;refine TN (P:=λaI=>bb (ct B) R (ja (.builtin "list.extend") [.ref d,aI]) af E s) U ae Z (λQ bD F bo Y=>?_) λQ bD F bo Y=>?_
 ·have f:=fin bD Y;exact Af NX ⟨_,cL,y⟩ Yk (Yg _ _) (adn d ar k Q bD F f.1.1 (aq (dP ..) f.1.2) (lg f.1.2)) ⟨cL,bo,f.2⟩
 ·have f:=fin bD Y;exact Af NX ⟨_,cL,y⟩ Yk (Yg _ _) (ado d ar k Q bD F f.1.1 (aq (dP ..) f.1.2) (lg f.1.2)) ⟨cL,bo,f.2⟩
theorem LV(aE:z[a]?=A (.W (l++[H])))(U:D l<cZ):hH B (.builtin "list.pop") [.J a] z H (z.set a (.W l)):=λu R E I s af F J ae r q=>by
 refine r.W λb L=>ae.ie aE L λd ar k g cL dw=>?_;have ba:=dw.size;rw[cp]at ba;have Y:ar.size-1=D l:=ba▸y;refine bp λP=>(dw.get.2 (D l) (Wy ..)).elim λaI W=>W.elim λM Z=>P ?_;have bX:(ar.eraseIdxIfInBounds (ar.size-1)).toList=(ar.toList.drop 0).take (D l):=by
  rw[Array.toList_eraseIdxIfInBounds,Y,List.eraseIdx_eq_take_drop_succ,Wq ((jt ..)▸ba▸cu _),eF];rfl
 have X:=dw.cut 0 (D l);rw[←bX,Ws,Hj]at X;have x:=ae.xY (aJ:={s with heap:=s.heap.update d (fW λx=>x.eraseIdxIfInBounds (ar.size-1))}) (dB:=l) aE g (kJ ..) (Dq (n:=k) cL λx=>x.eraseIdxIfInBounds (ar.size-1)) X y y;exact Af Yu ⟨_,cL,y⟩ adZ (adJ _) (PySem.MeetsSeq.list_pop_last d ar k aI (Y▸jJ▸M) (by rw[ba];exact mF U)) ⟨cL,q aI I _ x.1 x.2 (Z.fl x.2)⟩
theorem u9:∀c:Nat,c<128->97<=c->(dV ((⟨#[c]⟩:bj).length>0)&&(⟨#[c]⟩:bj).cps.all Unicode.isSpace)=aW:=by decide+kernel
theorem Vq{c:Nat}(ab:97<=c)(ac:c<128):hH B (.builtin "str.isspace") [.cG ⟨#[c]⟩] z (.dF aW) z:=λX R E I s af Y J ae r q=>by refine r.W λb Z=>Z.s λt=>call_gives Yw (OU s _ t) aed (adN _) (gives_str_isspace _ t) ?_;show af (.bool _) s;exact(u9 c ac ab)▸q.fx ae (H:=.dF aW) y s.toks
end
section
variable{c:eT} {s:aN} {C:afe} {ag:List afe} {G:List V} {i:Nat} {w x:V}
theorem bL.X(ae:bL B I z s){G:aZ×Option aZ}:(I++[G])[D z]?=A G:=by rw[←ae.J,iN (cu _),kb];rfl
theorem nt.nil:nt B I h [] []:=⟨λx h=>(afk h),cu _,λx x h=>(aG (mM h) (gJ _)),λx x=>y⟩
theorem yV{k:Nat}(H:qQ B n ag N z l ah)(M:B.P.init k=A f)(A2:dU B n f (.J (D ah)::l) (ah++[.dH k []]) .bM O):bW B n (.cS k ag) N z (.J (D ah)) O:=λc bu R E ay st I s af W aD q=>by
 refine ih.bX W λg aK A7 W=>?_;obtain⟨Z,Y⟩:=bx W;refine gz.bX Z λx B8 Z=>?_;obtain⟨F,h⟩:=bx Z;obtain rfl:=dA F;obtain⟨p,a,j⟩:=aD.dj.good.cls k f M;refine HD y (Ew aD.fr aD.dj h a (callWith_of (P:=B.K.In) (((yn (ry Y))).symm▸y) (keeps_K j) (xN (ry Y) (H c aK R E ay st I s A7 _ Y aD λcH B3 L i v A8=>⟨i.K,?_⟩))));have q:=q.after v;have u:=aD.room;clear H aD W Y Z F h v j a;obtain⟨A4,A3⟩:=p.init f M;have U:=i.K;have dw:((L.heap.push Om).push (vk (B.cls k) L.heap.objs.size)).get? (L.heap.objs.size+1)=A (vk (B.cls k) L.heap.objs.size):=by
  have:=gG (L.heap.push Om) (o:=vk (B.cls k) L.heap.objs.size) y;rwa[(lO ..)]at this
 obtain⟨A0,t⟩:=i.gy (aJ:={L with heap:=(L.heap.push Om).push (vk (B.cls k) L.heap.objs.size)}) (G:=(L.heap.objs.size+1,A L.heap.objs.size)) (C:=.dH k []) (λb C e=>fR _ _ _ _ (fR _ _ _ _ e))
  (List.Pairwise.cons (λb al=>cB.mp al▸zA _) (jm ..)) (λb al=>(ee.mp al).elim (λe=>e▸ka _) λe=>fi (cB.mp e).symm)
  (.dH (M▸y) dw (sJ _ (gG _ y)) nt.nil) y y
 refine OX ?_;have B0:rm (R.under (.builtin "type.__call__" ⟨.ref (B.cls k)::cH,[]⟩)) n:=by
  refine⟨u.1,?_,?_⟩
  ·show R.depth+1+3*n+7<DA;exact(jZ R.depth 1 (3*n))▸u.2.1
  ·show R.units+Code.cUnits (.builtin "type.__call__" ⟨.ref (B.cls k)::cH,[]⟩)+40*n+420<fp;rw[show Code.cUnits (.builtin "type.__call__" ⟨.ref (B.cls k)::cH,[]⟩)=1 from y];have:=u.2.2;rw[jZ R.units 1];exact er (gE (aF y:421<=440) _) this
 have w:(B3++[(L.heap.objs.size+1,A L.heap.objs.size)])[D ah]?=A (L.heap.objs.size+1,A L.heap.objs.size):=i.X;obtain⟨J,B6,B5,B9,B7⟩:=L;refine make_core (makes_of U p.z3) (looks_findIn U A4) (λB2=>bind_fn U B2 A3) (.inl y) (Dx (A2.2 _ _ _ (.ref (J.objs.size+1)::cH) (λaI aJ=>aI=.none/\af (.ref (J.objs.size+1)) aJ) B0 A0 ⟨_,_,y,⟨_,w,y⟩,A8.fl t⟩ λaI B4 B1 A1 d A9=>?_) λr aJ A6=>?_)
 ·exact⟨A9,q _ B4 B1 A1 (t.trans d) ⟨_,d.at w,y⟩⟩
 ·obtain⟨aI,rfl,rfl,A5⟩:=A6;exact⟨y,A5⟩
theorem Eh{n:Nat}(h:n<=cZ):(n:Int)<2^63:=lH.mpr (er h (aF y))
theorem x6{d:aZ}{ag:List (V×V)}{dW:Array gW}(U:mL B I s d ag dW cJ)(Z:D ag<=cZ)(h:af (.int (D ag) (s.toks+1)) {s with toks:=s.toks+1+1}):bb (ct B) R (ja (.builtin "len") [.ref d]) af E s:=by refine Yd kind_len plain_len entry_len (args_len1 _)<|ap (m:=oneArg "len" _) (bh (ap (m:=callSpecial? (.ref d) (jA "__len__")) (pj (name:=jA "__len__") U.typeIs NW (kM NW U.typeIs adS ?_ (adC _)))));show bb _ _ (dictSize d>>=_) _ _ s;refine ap (ap (Ik U.jF y (bh ?_)));show bb _ _ (Builtin.Dict.pendingCount d>>=_) _ _ s;refine ap (wpAny_pendingCount_other U.mG ?_);rw[U.dj.J,show((D ag:Int)+((0:Nat):Int))=(D ag:Int)from VT _];exact ap (Il (bh ⟨_,y,ap (eX (bh (ap (xn ((bV (GL.mpr (Eh Z)))▸ap (Il (bh ⟨_,y,h⟩)))))))⟩))
inductive WR(z:aA):V->Nat->Prop
|Y {l:List V}:WR z (.Y l) (D l)
|W {a:Nat} {l:List V}:z[a]?=A (.W l)->WR z (.J a) (D l)
|arg {a:Nat} {l:List V}:z[a]?=A (.arg l)->WR z (.J a) (D l)
|Z {a:Nat} {l:List (V×V)}:z[a]?=A (.Z l)->WR z (.J a) (D l)
theorem yQ{k:Nat}(M:WR z H k)(X:k<=cZ):hH B (.builtin "len") [H] z (.X k) z:=λF R E I s af L J ae r q=>by
 refine r.W λaI P=>?_;cases M with
 |Y=>exact P.t λa ar k j ab ac=>len_tuple ⟨_,ab,y,_,y⟩ (ac.size.symm▸Eh X) (q.fx ae (H:=.X _) ⟨_,by rw[ac.size]⟩ _)
 |W e=>exact ae.ie e P λa ar k x ab ac=>Ye (hE ab) (ac.size.symm▸Eh X) (q.fx ae (H:=.X _) ⟨_,by rw[ac.size]⟩ _)
 |arg e=>exact ae.IM e P λa ar k ab ac=>Ye (hE ab) (ac.size.symm▸Eh X) (q.fx ae (H:=.X _) ⟨_,by rw[ac.size]⟩ _)
 |Z e=>exact ae.pB e P λd dW cJ g U=>x6 U X (q.fx ae (H:=.X _) ⟨_,y⟩ _)
theorem iy.jH{a b c:Int}(q:iy B I s z (.jH a b c) af)(ae:bL B I z s)(t u w:mQ)(k:Nat):af (.ref s.heap.objs.size) {s with heap:=s.heap.push (yr a b c t u w),toks:=k}:=q _ I _ (ae.gL (aJ:={s with heap:=s.heap.push (yr a b c t u w),toks:=k}) (fR _ _) y y) (bB.push _) ⟨_,t,u,w,y,ae.wd,gG _ y⟩
theorem Gk{b:Int}:hH B (.type "range") [.X b] z (.jH 0 b 1) z:=λX R E I s af Y J ae r q=>by exact r.W λaI Z=>Z.i λt=>call_range_1 (q.jH ae _ _ _ _)
theorem Vs{a b:Int}:hH B (.type "range") [.X a,.X b] z (.jH a b 1) z:=λX R E I s af Y J ae r q=>by exact r.two λaI o Z u=>Z.i λt=>u.i λt=>call_range_2 (q.jH ae _ _ _ _)
theorem Vt{a b c:Int}(X:afm c=ak)(aR:c≠0):hH B (.type "range") [.X a,.X b,.X c] z (.jH a b c) z:=λY R E I s af U J ae r q=>by exact r.cons λP Y W r=>r.two λaI o Z u=>W.i λt=>Z.i λt=>u.i λt=>call_range_3 aR (q.jH ae _ _ _ _) (.inl (NA (TU X)))
theorem bL.yg(ae:bL B I z s){a:aZ}{C:cT}(aE:s.heap.objs.size<=a)(k:∀b Z,s.heap.get? b=A Z->aJ.heap.get? b=A Z)(u:pf B (I++[(a,aj)]) aJ.heap (a,aj) C)(Y:aJ.gens=s.gens)(v:aJ.os=s.os):bL B (I++[(a,aj)]) (z++[C]) aJ/\bB [] I s.heap (I++[(a,aj)]) aJ.heap:=ae.gy k (jm ..) (λb al=>cB.mp al▸aE) u Y v
theorem bB.yg{a:aZ}(aE:s.heap.objs.size<=a)(k:∀b Z,s.heap.get? b=A Z->au.get? b=A Z):bB [] I s.heap (I++[(a,aj)]) au:=⟨⟨_,y⟩,λb C x q=>⟨C,k b C q⟩,λb ab ac=>⟨by rw[uj,vO]at ab;exact(ew.mp ab).elim (λab=>aG ab ac) λab=>qw (cB.mp ab▸aE),afk⟩,λb C x x q=>k b C q⟩
theorem iy.Kt(q:iy B I s (z++[.W l]) (.J (D z)) af)(ae:bL B I z s){a:aZ}(aE:s.heap.objs.size<=a)(Z:∀b Y,s.heap.get? b=A Y->aJ.heap.get? b=A Y)(u:aJ.heap.get? a=A (gp ar k))(W:∀bF,bB [] I s.heap bF aJ.heap->ci bF aJ.heap l ar.toList)(X:aJ.gens=s.gens)(v:aJ.os=s.os):af (.ref a) aJ:=
 have x:=ae.yg aE Z (.W u (W _ (bB.yg aE Z))) X v
 q _ _ _ x.1 x.2 ⟨_,ae.X,y⟩
theorem Ma(L:ro z H l)(M:D l<=cZ):hH B (.type "tuple") [H] z (.Y l) z:=λt R E I s af u J ae r q=>by
 refine r.W λaI Z=>?_;cases L with
 |Y=>have F:=Z;revert Z;exact F.t λa ar k j ab ac Z=>call_tuple_same (kQ ab) (q.fx ae Z s.toks)
 |W e=>refine ae.ie e Z λa ar k x ab ac=>call_tuple_list (hE ab) (λau X=>?_) (ac.size.symm▸mF M);have P:∀b U,s.heap.get? b=A U->(au.push {cls:=.type "tuple",data:=.seq ar}).get? b=A U:=λb U e=>fR _ _ _ _ (X b U e);exact q _ I _ (ae.gL (aJ:={s with heap:=au.push _}) P y y) (bB.gL P) ⟨au.objs.size,ar,0,y,λal=>(ae.gf al).elim λC e=>ic _ (iQ (X _ _ e)),gG _ y,ac.fl (bB.gL P)⟩
theorem adb(W:ro z H l)(Y:D l<=cZ):hH B (.type "list") [H] z (.J (D z)) (z++[.W l]):=λM R E I s af U J ae r q=>by
 refine r.W λaI Z=>TN (P:=λaI=>bb (ct B) R (ja (.type "list") [aI]) af E s) W ae Z (λa ar k ab ac=>?_) λa ar k ab ac=>?_
 ·exact YL a (.inl y) ab y y (λau u X g=>q.Kt (aJ:={s with heap:=au}) ae (cu _) X g (λbF S=>ac.fl S) y y) (by rw[ac.size];exact mF Y)
 ·exact YL a (.inr y) ab y y (λau u X g=>q.Kt (aJ:={s with heap:=au}) ae (cu _) X g (λbF S=>ac.fl S) y y) (by rw[ac.size];exact mF Y)
theorem Vp{i:Int}:hH B (.type "int") [.X i] z (.X i) z:=λX R E I s af Y J ae r q=>by exact r.W λaI Z=>Z.i λt=>call_int_int (q.fx ae (H:=.X i) ⟨_,y⟩ s.toks)
theorem Gg{b:Bool}:hH B (.type "int") [.dF b] z (.X (if b then 1 else 0)) z:=λX R E I s af Y J ae r q=>by exact r.W λaI Z=>Z.sV<|call_int_bool (q.fx ae (H:=.X _) ⟨_,y⟩ _)
theorem u1:∀{l:List Int} {aX:List aw},ci I h (l.map .X) aX->∃bD:List (Int×mQ),aX=bD.map (λp=>Value.int p.1 p.2)/\bD.map (·.1)=l:=by
 intro l;induction l with
 |nil=>intro aX r;exact r.nil ⟨[],rfl,rfl⟩
 |cons x l F=>intro aX r;refine r.cons λH r ab ac=>?_;obtain⟨t,rfl⟩:=ab;obtain⟨bD,rfl,rfl⟩:=F ac;exact⟨(x,t)::bD,y,y⟩
theorem RB{l:List Int}(r:ci I h (l.map .X) ar.toList):∃bD:Array (Int×mQ),ar=intItems bD/\bD.size=D l/\numAt bD=λi=>l.getD i 0:=by refine bp λP=>?_;obtain⟨bD,e,rfl⟩:=u1 r;refine P<|⟨bD.toArray,FW.mp (e.trans (Vg ..).symm),(mN ..).trans (bK ..).symm,funext λi=>?_⟩;unfold numAt;rw[pU,la,fI]
theorem S?{l:List Int}:∀k≤D l,preSum (λi=>l.getD i 0) k=(l.take k).sum:=by
 intro k;induction k with
 |zero=>exactλx=>y
 |succ k F=>intro h;rw[preSum,F (jo h),sy,la,fO h,Option.toList_some,List.sum_append,List.sum_singleton];rfl
theorem LY{l:List Int}(aE:z[a]?=A (.W (l.map .X))):hH B (.builtin "sum") [.J a] z (.X l.sum) z:=λW R E I s af Y J ae r q=>by refine r.W λaI Z=>ae.ie aE Z λd ar k x ab ac=>bp λP=>?_;obtain⟨bD,rfl,o,bq⟩:=RB ac;refine P<|sum_intListG J (hE ab) λau dh fN X=>?_;rw[o,bq,S? _ (cu _),zu];exact q _ I _ (ae.gL (aJ:={s with heap:=au,toks:=dh}) X y y) (bB.gL X) ⟨_,y⟩
theorem Vr{l:List Int}(aE:z[a]?=A (.W (l.map .X)))(aR:0<D l):∃k,hH B (.builtin "max") [.J a] z (.X k) z:=by refine⟨l.getD (argBest (λi j=>dV (l.getD i 0>l.getD j 0)) (D l-1)) 0,λU R E I s af W J ae r q=>r.W λaI Z=>ae.ie aE Z λd ar k x ab ac=>?_⟩;obtain⟨bD,rfl,o,bq⟩:=RB ac;refine max_intList J (hE ab) (o▸aR) λH au dh Y X=>?_;obtain⟨t,rfl⟩:=intItems_at Y;exact o▸bq▸q _ I _ (ae.gL (aJ:={s with heap:=au,toks:=dh}) X y y) (bB.gL X) ⟨_,y⟩
end
section
open Sem (wp)
namespace F
theorem y5:vp (.type "list") "__getattr__"=ey aj:=by rw[Ah,Ae];kernel_rfl
theorem y6:vp (.type "list") "keys"=ey aj:=by rw[Ah,Ae];kernel_rfl
end F
section
variable{g:Array GenState} {d:Drawn} {t:Nat} {os:zX} {a:aZ} {C:hb}
theorem Lj:isSubtype (.type "AttributeError") (.type "AttributeError")=ey ak:=by rw[YZ];kernel_rfl
theorem acA{s:aN}{e:aZ}{x Z:aw}{af:Unit->aN->Prop}(U:s.heap.get? e=A {cls:=.type "AttributeError",data:=.fields #[Z7,.none,.none,.none,.bool aW,.none,OV,OV]})(X:∀au o,hx e s.heap au->au.get? e=A o->o.cls=.type "AttributeError"->af () {s with heap:=au}):bb (dm prog w) R (noteAttr (.ref e) x Z) af E s:=by
 have Y:s.TypeIs (.ref e) "AttributeError":=⟨_,U,y⟩
 unfold noteAttr;refine ap ?_;unfold lacksNameAndObj;refine ap (ri Y Lj ?_);simp only[Bool.not_true,ws,if_false];refine ap (Ai U ?_);dsimp only;rw[bV];rotate_left
 ·exact(show¬((aW||aW)=ak)by decide)
 rw[bV (by simp[OV,doubtfulMember,gK])];refine bh ?_;simp only[if_true];refine ap (li (ap (ou Y ?_)));dsimp only;unfold layMembers;refine ap (Ai U ?_);dsimp only;refine wpAny_update U ?_;have:=rb (Obj.mapFields λaX=>aX.extract 0 6++#[Z,x]) U y;exact X _ _ (kJ ..) this y
theorem v3{dh:mQ}{af:Oa->aN->Prop}{k:Nat}(J:R.handled=aj)(L:h.get? a=A {cls:=.type "list",dict:=aj,data:=.seq ar k,slots:=#[]})(U:∀au fN e o,(∀b X,h.get? b=A X->au.get? b=A X)->au.get? e=A o->o.cls=.type "AttributeError"->E (.ref e) ⟨au,g,d,fN,os⟩):bb (dm prog w) R (Builtin.«object.__getattribute__» ⟨[.ref a,.str "keys" dh],[]⟩) af E ⟨h,g,d,t,os⟩:=by
 have Y:(⟨h,g,d,t,os⟩:aN).TypeIs (.ref a) "list":=⟨_,L,y⟩
 have f:=F.y6
 repeat(any_goals (first|assumption|wp_step))
 have W:¬(jA (toString "'"++toString ((Manifest.find? "list").elim "list" λx=>x.tpName)++toString "' object has no attribute '")++jA "keys"++jA "'").length>mS:=by decide+kernel
 generalize(jA (toString "'"++toString ((Manifest.find? "list").elim "list" λx=>x.tpName)++toString "' object has no attribute '")++jA "keys"++jA "'")=v at W⊢;unfold raiseAttrError;refine ap ?_;unfold mkStr;rw[bV W];refine ap (Pa (bh ?_));unfold newExc OI;refine ap (ap (qk ?_ (by show 1<=mS;decide)));refine ap (m:=OE _ _) (pk (a:=Value.none) y (qk (ap (ap (Pa (bh (ap (acA (gG _ y) λau o M ab ac=>ZC J (U au _ _ o (λb X al=>?_) ab ac)))))))));have P:b≠(h.push {cls:=Value.type "tuple",data:=Data.seq #[Value.str v t]}).objs.size:=λe=>by
  have:=iQ al;rw[e,lO]at this;exact ic _ (pd this)
 exact(M.2 b P).trans (sJ _ (sJ _ al))
theorem v5{af:Option aw->aN->Prop}{k:Nat}(J:R.handled=aj)(X:h.get? a=A {cls:=.type "list",dict:=aj,data:=.seq ar k,slots:=#[]})(P:∀au fN,(∀b U,h.get? b=A U->au.get? b=A U)->af aj ⟨au,g,d,fN,os⟩):bb (dm prog w) R (getAttr? (.ref a) "keys") af E ⟨h,g,d,t,os⟩:=by
 have Y:(⟨h,g,d,t,os⟩:aN).TypeIs (.ref a) "list":=⟨_,X,y⟩
 have L:=HP.lookup;have u:=HP.bind (.ref a);unfold getAttr? getAttrBy?;refine ap (ap (Pa (bh (ap (vq ?_)))));unfold getAttrBy;refine eX<|ap (ou Y ?_)
 repeat(any_goals (first|assumption|wp_step))
 refine YO HP.plain F.entry_list_ga (HP.check _ _ _ _ _ _ _ _ (show(⟨h,g,d,t+1,os⟩:aN).TypeIs (.ref a) "list" from⟨_,X,y⟩) (F.args_list_getattribute_2 _ _) (v3 (by assumption) X λau fN e o aY M v=>?_));have W:(⟨au,g,d,fN,os⟩:aN).TypeIs (.ref e) "AttributeError":=⟨o,M,v⟩
 show bb (dm prog w) R (YV (.ref a) _ (.type "list") (.ref e) aj aW aW) _ _ _;unfold YV;refine ap (ri W Lj ?_);simp only[if_true];refine ap ?_;unfold hookBehind;have:onTheHeap (.type "list")=aW:=y;rw[this];simp only[ws,if_false];rw[F.y5];refine bh ?_;unfold hookOrError attributeErrorLeaves;simp only[Bool.not_false,if_true]
 first|refine ZF ?_|refine wpAny_bind (wpAny_throw ?_)
 show bb (dm prog w) R (OG (.ref e) (.type "AttributeError")>>=_) _ _ _;refine ap (ri W Lj ?_);simp only[if_true];exact bh (P au fN aY)
end
namespace F
theorem QY:OD table "dict.update.loop"=A Builtin.«dict.update.loop»:=YR (by kernel_rfl)
theorem ES:plainId "dict.update.loop"=ak:=by decide+kernel
end F
variable{c:eT} {s:aN} {C:afe} {ag:List afe} {G:List V} {i:Nat} {w x:V}
theorem i8{d:aZ}{ag:List (V×V)}{mk aI:aw}{af:Unit->aN->Prop}(F:R.units+8<fp)(ae:bL B I (z++[.Z ag]) s)(Y:I[D z]?=A (d,aj))(X:iM ag k)(W:cf I s.heap k mk)(Z:cf I s.heap H aI)(L:D ag<=cZ)(q:∀aJ,bL B I (z++[.Z (hp ag k H)]) aJ->bB [] I s.heap I aJ.heap->af () aJ):bb (ct B) R (HZ d mk aI) af E s:=ae.Z (a:=D z) (Wy ..) λb dW cJ J U=>by refine bp λP=>?_;cases Y.symm.trans J;exact P<|QK F ae Y U X W Z L λaJ hc M=>q aJ (by rwa[MW _ _ (cu _),kb]at hc) M
def HA:List (V×V)->List (V×V)->List (V×V)->Prop
|[],ag,gP=>ag=gP
|(k,H)::r,ag,gP=>iM ag k/\D ag<=cZ/\HA r (hp ag k H) gP
noncomputable def tl(p:V×V):V:=.Y [p.1,p.2]
theorem acB{aQ:vj}{a:aZ}{af:Option (Array aw)->aN->Prop}(h:s.heap.get? a=A (xe T ar k))(q:af (A ar) s):bb aQ R (seqItems? (.ref a)) af E s:=ap (Ai h (bh q))
theorem y0{bf b:Nat}(r:wC bf b i I s.heap)(w:ol B I [bf])(ae:bL B I z s)(e:z[b]?=A (.W l))(M:l[i]?=A H){af:Option aw->aN->Prop}(q:∀aI f,bL B I z f->bB [bf] I s.heap I f.heap->cf I f.heap H aI->wC bf b (i+1) I f.heap->af (A aI) f):bb (ct B) R (nF (.ref bf)) af E s:=by refine bp λP=>r.lW.elim λgv n=>n.elim λO X=>?_;obtain⟨Y,g,U⟩:=r;refine P<|ae.W e λx ar k W ab ac=>bp λP=>?_;cases g.symm.trans W;exact(ac.get.2 i M).elim λaI a=>a.elim λm Z=>P<|Ip U (hE ab) (jJ.symm.trans m) λau j L=>bp λP=>(ae.moved w (mv O X) (λb C al e=>(L.2 b λq=>al (q▸.head _)).trans e) s.toks).elim λhc S=>P<|q aI _ hc S (Z.Y S (mv O X)) ⟨Y,g,j⟩
theorem i9{b:Nat}{d:aZ}{l:List (V×V)}{ae:xi->aN->Prop}(J:R.handled=aj)(A2:R.units+40<fp)(al:z[b]?=A (.W (l.map tl))):∀(r:List (V×V)) (i:Nat) (ag:List (V×V)) (I:cw) (s:aN),l.drop i=r->i<=D l->HA r ag gP->bL B I (z++[.Z ag]) s->I[D z]?=A (d,aj)->wC bf b i I s.heap->ol B I [bf]->(∀aJ,bL B I (z++[.Z gP]) aJ->bB [bf] I s.heap I aJ.heap->ae (.ok (.ret .none)) aJ)->sQ (ct B) R (.builtin "dict.update.loop" ⟨[.ref d,.ref bf,gK (i:Nat),.none],[]⟩) ae s:=by
 have L:∀ag,(z++[cT.Z ag])[b]?=A (.W (l.map tl)):=λag=>(jY (hZ.mp al).1).trans al;intro r;induction r with
 |nil=>intro i ag I s X aB Y W g j w q;have Y:ag=gP:=Y;subst Y;refine mR F.QY ?_;rw[tU F.ES _];show bb _ R.in1 (nF (.ref bf)>>=_) _ _ s;refine ap (DK.stop j w W (L ag) ((bK ..).trans (mh (CJ.mp X) aB)) J λf a P=>?_);show bb _ R.in1 (Builtin.Dict.addKeywords d []>>=λx=>ret Value.none) _ _ _;exact ap (bh (bh (q f a P)))
 |cons p r A4=>
  intro i ag I s X aB Y W g j w q;refine bp λA5=>?_;obtain⟨k,H⟩:=p;refine Y.elim λA0 A6=>A6.elim λE Y=>A5 ?_;have A3:(l.map tl)[i]?=A (.Y [k,H]):=by
   have:=bA (·[0]?) X;rw[CN]at this;rw[fI,show l[i]?=A (k,H)from this];rfl
  refine mR F.QY ?_;rw[tU F.ES _];show bb _ R.in1 (nF (.ref bf)>>=_) _ _ s;refine ap (y0 j w W (L ag) A3 λaI f a P Z U=>Z.t λt ar n B0 m c=>ap (eX (ap (wpAny_tryCatch (ap (ou (T:="tuple") ⟨_,m,y⟩ (ap (acB m (bh ?_)))))))));show bb _ R.in1 (match ar.toList with|[k,H]=>_|l=>_) _ _ _;revert c;generalize ar.toList=aX;refineλc=>c.two λmk aI A7 Z=>eX (i8 (kP A2 (aF y)) a g A0 A7 Z E λA8 u M=>bh ⟨ph F.ES _,?_⟩);have N:l.drop (i+1)=r:=by rw[MG,X];rfl
  have A1:i<D l:=tR λh=>aG (mM ((Wq h).symm.trans X)) (ju _ _);exact A4 (i+1) _ I A8 N A1 Y u g (DK (B:=B) (l:=l.map tl)|>.Y U M hn.nil λb al C e=>M.jr b C (w b al).1 afk e) w λA9 Q O=>q A9 Q (P.trans ((M.weak (DK (B:=B) (l:=l.map tl)|>.gf U)).trans O))
end
section
variable{c:eT} {s:aN} {C:afe} {ag:List afe} {G:List V} {i:Nat} {w x:V}
theorem bL.newDict(ae:bL B I z s):bL B (I++[(s.heap.objs.size,aj)]) (z++[.Z []]) {s with heap:=s.heap.push {cls:=.type "dict",data:=.dict #[]}}/\bB [] I s.heap (I++[(s.heap.objs.size,aj)]) (s.heap.push {cls:=.type "dict",data:=.dict #[]}):=ae.yg (aJ:={s with heap:=s.heap.push {cls:=.type "dict",data:=.dict #[]}}) (cu _) (fR _ _) (.Z (ar:=#[]) (n:=0) (gG _ y) ⟨y,λx x x h=>(nomatch h)⟩ oY λx h=>(nomatch h)) y y
theorem sj:bW B n .nL N z (.J (D z)) (z++[.Z []]):=λc bu R E ay st I s af Z aD q=>by refine Fb.bX Z λW=>aD.dj.newDict.elim λhc k=>?_;rw[arm_eval_Dict];refine ap (jc ?_);show bb (ct B) R PySem.newDict af E s;exact ap (OW (bh (q _ _ _ hc k ⟨_,aD.dj.X,y⟩)))
theorem bB.forget(Z:bB [] I h m ab)(Y:bB aD m ab bF au)(t:∀b∈aD,h.get? b=aj):bB [] I h bF au:=Z.tf (aD:=[]) Y t (λx h=>afk h)
theorem Ge{b:Nat}{l:List (V×V)}(aE:z[b]?=A (.W (l.map tl)))(v:HA l [] gP):hH B (.type "dict") [.J b] z (.J (D z)) (z++[.Z gP]):=λw R E I s af H J ae r q=>by
 refine r.W λaI Z=>ae.ie aE Z λY ar k g u p=>YJ (Q₁:=λN e=>N=.ref s.heap.objs.size/\e={s with heap:=s.heap.push {cls:=.type "dict",data:=.dict #[]}}) aeh (aei _) adR (kt_code_dict_new _ ⟨y,y⟩) ?_;rintro N e ⟨rfl,rfl⟩;obtain⟨i,M⟩:=ae.newDict;have P:({s with heap:=s.heap.push {cls:=.type "dict",data:=.dict #[]}}:aN).TypeIs (.ref s.heap.objs.size) "dict":=⟨_,gG _ y,y⟩
 refine⟨P,adB _ _,ap (ap (Im P (bh ?_)))⟩;show bb _ _ (Builtin.Dict.updateFrom "dict.__init__" s.heap.objs.size (.ref Y) [] .none) _ _ _;have j:(s.heap.push {cls:=.type "dict",data:=.dict #[]}).get? Y=A (gp ar k):=fR _ _ _ _ u;refine ap (ou (T:="list") ⟨_,j,y⟩ ?_);rw[cg (by decide)];refine ap (v5 (R:=R.in1.in1) J j λac X U=>ap (li (ap (DE (s:=⟨ac,s.gens,s.drawn,X,s.os⟩) (hE (U _ _ j)) ?_))));have a:=i.gL (aJ:=⟨ac,s.gens,s.drawn,X,s.os⟩) U y y;have W:=M.trans (bB.gL U);have L:bB [] (I++[(s.heap.objs.size,aj)]) ac (I++[(s.heap.objs.size,aj)]) (ac.push {cls:=.type "list_iterator",data:=.fields #[.ref Y,.int 0 0]}):=bB.push _;have d:s.heap.get? ac.objs.size=aj:=W.gone uz;refine bh ⟨ph F.ES _,?_⟩;refine i9 (R:=R.in1) J (kP H (aF y)) aE l 0 [] _ ⟨_,s.gens,s.drawn,X,s.os⟩ y (cW _) v (a.gL (aJ:=⟨_,s.gens,s.drawn,X,s.os⟩) (fR _ _) y y) ae.X ⟨Y,W.at g,_,gG _ y,y,y⟩
  (λb al=>by obtain rfl:=cB.mp al;exact⟨a.wd,ae.wa d⟩) λt x h=>?_
 exact⟨y,q _ _ t x ((W.trans L).forget h λb al=>by obtain rfl:=cB.mp al;exact d) ⟨_,ae.X,y⟩⟩
structure qL(x:bj)(f:aw):Prop where
 mem:x∈xC
 AH:rh x=A f
 nm:x≠("__name__":bj)
 kind:(∃T,f=.type T)\/∃k,f=.builtin k
theorem AE:qL "len" (.builtin "len"):=⟨by decide+kernel,by decide+kernel,by decide,.inr ⟨_,y⟩⟩
theorem AF:qL "range" (.type "range"):=⟨by decide+kernel,by decide+kernel,by decide,.inl ⟨_,y⟩⟩
theorem pw:qL "sorted" (.builtin "sorted"):=⟨by decide+kernel,by decide+kernel,by decide,.inr ⟨_,y⟩⟩
theorem IU:qL "dict" (.type "dict"):=⟨by decide+kernel,by decide+kernel,by decide,.inl ⟨_,y⟩⟩
theorem IV:qL "list" (.type "list"):=⟨by decide+kernel,by decide+kernel,by decide,.inl ⟨_,y⟩⟩
theorem rv:qL "tuple" (.type "tuple"):=⟨by decide+kernel,by decide+kernel,by decide,.inl ⟨_,y⟩⟩
theorem DS:qL "int" (.type "int"):=⟨by decide+kernel,by decide+kernel,by decide,.inl ⟨_,y⟩⟩
theorem IW:qL "sum" (.builtin "sum"):=⟨by decide+kernel,by decide+kernel,by decide,.inr ⟨_,y⟩⟩
theorem c2:qL "max" (.builtin "max"):=⟨by decide+kernel,by decide+kernel,by decide,.inr ⟨_,y⟩⟩
theorem gV{x:bj}{f:aw}(b:qL x f)(u:qQ B n ag N z l ah)(M:hH B f l ah H O):bW B n (.bR x ag) N z H O:=λc bu R E ay st I s af Y aD q=>by
 refine ih.bX Y λg aK W Y=>?_;obtain⟨P,Z⟩:=bx Y;refine gz.bX P λQ r P=>?_;obtain⟨F,h⟩:=bx P;obtain rfl:=dA F;have a:=u c aK R E ay st I s W (λaX L=>bb (ct B) R (ja f aX) af E L) Z aD λcH m L i U J=>M cH R E m L af aD.u aD.room.1 i J (q.after U);refine b.kind.elim (λp=>?_) λt=>?_
 ·obtain⟨T,rfl⟩:=p;exact yG aD.fr aD.dj h b.mem b.AH b.nm (ry Z) a
 ·obtain⟨k,rfl⟩:=t;exact PQ aD.fr aD.dj h b.mem b.AH b.nm (ry Z) a
end
structure qd(le:Nat->Nat->Bool):Prop where
 FI:∀a b,le a b=aW->le b a=ak
 mH:∀a b c,le a b=ak->le b c=ak->le a c=ak
def jM{bw:Type}(le:Nat->Nat->Bool)(n:Nat)(P:bw->Prop):Dt bw->Prop
|.ret a=>P a
|.ask i j k=>i<n/\j<n/\jM le n P (k (!le j i))
section
variable{bw gq:Type} {le:Nat->Nat->Bool} {P af:bw->Prop}
theorem jM.mono(b:∀a,P a->af a):∀{t:Dt bw},jM le n P t->jM le n af t
|.ret a,h=>b a h
|.ask i j k,h=>⟨h.1,h.2.1,jM.mono b h.2.2⟩
theorem jM.bind{af:gq->Prop}{f:bw->Dt gq}(Z:∀a,P a->jM le n af (f a)):∀{t:Dt bw},jM le n P t->jM le n af (t.bind f)
|.ret a,h=>Z a h
|.ask i j k,h=>⟨h.1,h.2.1,jM.bind Z h.2.2⟩
theorem jM.wp{af:bw->aN->Prop}{c:Nat->Nat->(Bool->aN->Prop)->aN->Prop}(X:∀i j (az:Bool->aN->Prop),i<n->j<n->az (!le j i) s->c i j az s)(Z:∀a,P a->af a s):∀{t:Dt bw},jM le n P t->t.kasWp c af s
|.ret a,h=>Z a h
|.ask i j k,h=>X i j _ h.1 h.2.1 (jM.wp X Z h.2.2)
end
def jL(n:Nat)(p:Array Nat):Prop:=p.Perm (fz n).toArray
noncomputable abbrev eN(p:Array Nat)(k:Nat):Nat:=p.getD k 0
section
variable{le:Nat->Nat->Bool} {p:Array Nat}
theorem jL.size(h:jL bC p):p.size=bC:=h.size_eq.trans ((mN ..).trans iA)
theorem b8{k:Nat}(X:k<p.size):eN p k∈p.toList:=by have:eN p k=p[k]:=dif_pos X;rw[this,Cj];exact Array.getElem_mem X
theorem jL.lt(h:jL bC p)(a:0<bC)(k:Nat):eN p k<bC:=by
 by_cases X:k<p.size
 ·exact hk.mp ((FV.mp h).mem_iff.mp (b8 X))
 ·have:eN p k=0:=dif_neg X;rw[this];exact a
theorem jL.inj(h:jL bC p){i:Nat}(aB:i<bC)(M:j<bC)(e:eN p i=eN p j):i=j:=by
 have g:∀k,k<bC->p.toList[k]?=A (eN p k):=λk X=>by
  have:eN p k=p[k]'(h.size▸X):=dif_pos _;rw[jJ,mI (h.size▸X),this]
 exact uw ((FV.mp h).nodup_iff.mpr zr) (g i aB) ((g j M).trans (bA A e.symm))
def jd(le:Nat->Nat->Bool)(p:Array Nat)(k:Nat):Prop:=∀i,i+1<k->le (eN p i) (eN p (i+1))=ak
def uL(le:Nat->Nat->Bool)(p:Array Nat)(k:Nat):Prop:=∀i,i+1<k->le (eN p (i+1)) (eN p i)=ak
theorem abZ:jd le p 1:=λi h=>aG h (fP.mpr (gF 1 i))
theorem jd.succ{k:Nat}(h:jd le p (k+1))(e:le (eN p k) (eN p (k+1))=ak):jd le p (k+1+1):=λi aB=>by
 refine(tS (hl aB)).elim (λab=>?_) λab=>?_
 ·exact h i ab
 ·obtain rfl:=ip ab;exact e
theorem uL.succ{k:Nat}(h:uL le p (k+1))(e:le (eN p (k+1)) (eN p k)=ak):uL le p (k+1+1):=λi aB=>by
 refine(tS (hl aB)).elim (λab=>?_) λab=>?_
 ·exact h i ab
 ·obtain rfl:=ip ab;exact e
theorem jd.k5(C:qd le)(h:jd le p k){i:Nat}:∀d,i+d<k->le (eN p i) (eN p (i+d))=ak:=by
 have r:∀a,le a a=ak:=λa=>by
  cases h:le a a with
  |true=>rfl
  |false=>exact h.symm.trans (C.FI a a h)
 intro d;induction d with
 |zero=>exactλx=>r _
 |succ d F=>exactλZ=>C.mH _ _ _ (F (pd Z)) (h (i+d) Z)
theorem jd.mon(C:qd le)(h:jd le p k){i:Nat}(X:i<=j)(M:j<k):le (eN p i) (eN p j)=ak:=by refine(Nat.le.dest X).elim λd Z=>?_;obtain rfl:=Z;exact h.k5 C d M
theorem PF(C:qd le)(z:jL bC p)(a:0<bC):∀(f n:Nat),n+1+f=bC->jd le p (n+1)->jM le bC (λG=>1<=G/\G<=bC/\jd le p G/\(G<bC->le (eN p (G-1)) (eN p G)=aW)) (kas_asc p f (n+1)):=by
 intro f;induction f with
 |zero=>exactλn J H=>⟨gF ..,fi J,H,λh=>aG h (fP.mpr (fi J.symm))⟩
 |succ f F=>
  intro n J H;refine⟨z.lt a _,z.lt a _,?_⟩;cases X:le (eN p n) (eN p (n+1))with
  |false=>rw[show(!le (p.getD (n+1-1) 0) (p.getD (n+1) 0))=ak from bA not X];exact⟨gF ..,J▸dP ..,H,λx=>X⟩
  |true=>rw[show(!le (p.getD (n+1-1) 0) (p.getD (n+1) 0))=aW from bA not X];exact F (n+1) ((mi ..).trans J) (H.succ X)
def wA(le:Nat->Nat->Bool)(bC:Nat):Prop:=∀i j,i<bC->j<bC->le i j=ak->le j i=ak->i=j
theorem i5(C:qd le)(aB:wA le bC)(z:jL bC p)(a:0<bC):∀(f n:Nat),n+1+f=bC->uL le p (n+1)->jM le bC (λx=>x.1=p/\x.2.2=0/\1<=x.2.1/\x.2.1<=bC/\uL le p x.2.1) (kas_desc f p (n+1) 0):=by
 intro f;induction f with
 |zero=>exactλn J H=>⟨y,y,gF ..,fi J,H⟩
 |succ f F=>
  intro n J H;have Z:n+1<bC:=J▸pZ (iC f);refine⟨z.lt a _,z.lt a _,?_⟩;cases X:le (eN p n) (eN p (n+1))with
  |false=>rw[show(!le (p.getD (n+1-1) 0) (p.getD (n+1) 0))=ak from bA not X];exact F (n+1) ((mi ..).trans J) (H.succ (C.FI _ _ X))
  |true=>
   rw[show(!le (p.getD (n+1-1) 0) (p.getD (n+1) 0))=aW from bA not X];refine⟨z.lt a _,z.lt a _,?_⟩;cases Y:le (eN p (n+1)) (eN p n)with
   |false=>rw[show(!le (p.getD (n+1) 0) (p.getD (n+1-1) 0))=ak from bA not Y];exact⟨y,y,gF ..,dK Z,H⟩
   |true=>exact aG (z.inj (pd Z) Z (aB _ _ (z.lt a _) (z.lt a _) X Y)) (eC (jO n))
theorem X?{n:Nat}(z:jL bC p)(J:n<=bC)(F:uL le p n):jL bC (Dv p 0 n)/\jd le (Dv p 0 n) n:=by
 refine⟨(mirror_perm _ _ _ _).trans z,λi aB=>?_⟩;have g:∀k,k<n->eN (Dv p 0 n) k=eN p (n-1-k):=λk X=>by
  have e:=getElem?_mirror_all (xs:=p) (i:=0) (j:=n) (z.size▸J) k;rw[cg ⟨cW _,X⟩,hu]at e;unfold eN Dv;rw[od,e,od]
 rw[g i (pd aB),g (i+1) aB];have e:n-1-i=n-1-(i+1)+1:=(Nat.sub_sub ..)▸(Nj (Xk (Nat.lt_sub_of_add_lt aB)))▸y;exact e▸F _ (er (e▸mP (n-1) i) (Nat.sub_one_lt (fU (er (cW _) aB))))
def Gq(le:Nat->Nat->Bool)(bC:Nat)(x:Nat×Array Nat):Prop:=jL bC x.2/\1<=x.1/\x.1<=bC/\jd le x.2 x.1
theorem Ll{n:Nat}(h:1<=n):∃k,n=k+1:=⟨n-1,(Nj h).symm⟩
theorem i4(C:qd le)(aB:wA le bC)(z:jL bC p)(a:1<bC)(F:uL le p 2):jM le bC (Gq le bC) (kas_descPart 1 bC p):=by have aR:=pd a;refine jM.bind (λx Z=>?_) (i5 C aB z aR (bC-2) 1 (tQ a) F);obtain⟨x,G,q⟩:=x;obtain⟨rfl,rfl,ab,ac,bo⟩:=Z;obtain⟨k,rfl⟩:=Ll ab;have r:=X? z ac bo;exact jM.bind (af:=Gq le bC) (f:=λG=>.ret (G,Dv x 0 (k+1))) (λG g=>⟨r.1,g.1,g.2.1,g.2.2.1⟩) (PF C r.1 aR (bC-(k+1)) k (tQ ac) r.2)
theorem i'(C:qd le)(z:jL bC p)(a:0<bC)(aB:wA le bC\/jd le p bC):jM le bC (Gq le bC) (kas_count bC p):=by
 refine jM.bind (λn J=>?_) (PF C z a (bC-1) 0 (tQ a) abZ);obtain⟨ab,ac,bo,c⟩:=J;by_cases U:n=bC
 ·rw[cg (beq_iff_eq.mpr U)];exact⟨z,ab,ac,bo⟩
 ·rw[bV λh=>U (beq_iff_eq.mp h)];have Z:=qY ac U;have c:=c Z;obtain⟨k,rfl⟩:=Ll ab;have aB:wA le bC:=aB.elim id λh=>afh (c.symm.trans (h k Z));cases k with
  |zero=>exact i4 C aB z Z λi aB=>(by
    cases i with
    |zero=>exact C.FI _ _ c
    |succ i=>exact aG aB (fP.mpr (gF 2 i)):le (eN p (i+1)) (eN p i)=true)
  |succ k=>
   refine⟨z.lt a _,z.lt a _,?_⟩;cases X:le (eN p (k+1)) (eN p 0)with
   |false=>rw[show(!le (p.getD (k+1+1-1) 0) (p.getD 0 0))=ak from bA not X];exact⟨z,ab,ac,bo⟩
   |true=>exact aG (z.inj a (pd Z) (aB _ _ (z.lt a _) (z.lt a _) (bo.mon C (cW (k+1)) (jO _)) X)) nofun
theorem Sl{l e:Nat}(h:l<e):l<=(l+e)/2/\(l+e)/2<e:=⟨(Nat.le_div_iff_mul_le (aF y)).mpr (Xf l▸gE (dK h) l),(Nat.div_lt_iff_lt_mul (aF y)).mpr (Xf e▸Na h e)⟩
theorem Q_(C:qd le)(z:jL bC p)(a:0<bC)(H:jd le p k):∀(f l e:Nat),e<=l+f->e<=k->l<=e->(∀j,j<l->le (eN p j) (eN p k)=ak)->(∀j,e<=j->j<k->le (eN p j) (eN p k)=aW)->jM le bC (λG=>G<=k/\(∀j,j<G->le (eN p j) (eN p k)=ak)/\∀j,G<=j->j<k->le (eN p j) (eN p k)=aW) (kas_place p k f l e):=by
 intro f;induction f with
 |zero=>exactλl e Z X b ab ac=>⟨aq b X,ab,λj M=>ac j (aq Z M)⟩
 |succ f F=>
  intro l e Z X b ab ac;rw[kas_place];by_cases Y:l<e
  ·rw[if_neg (kI.mpr Y)];refine bp λR=>(Sl Y).elim λu B=>R ?_;generalize(l+e)/2=G at u B;have g:=ef B X;refine⟨z.lt a _,z.lt a _,?_⟩;cases W:le (eN p G) (eN p k)with
   |false=>
    refine F l G (hl (ef B Z)) (dK g) u ab λj M h=>?_;cases U:le (eN p j) (eN p k)with
    |false=>rfl
    |true=>exact(C.mH _ _ _ (H.mon C M h) U).symm.trans W
   |true=>exact F (G+1) e (aq Z ((jZ ..)▸iO u (f+1))) X B (λj M=>C.mH _ _ _ (H.mon C (hl M) g) W) ac
  ·rw[cg (ib Y)];exact⟨aq b X,ab,λj M=>ac j (aq (ib Y) M)⟩
theorem d2(C:qd le){k l:Nat}(X:k<p.size)(B:l<=k)(H:jd le p k)(ab:∀j,j<l->le (eN p j) (eN p k)=ak)(ac:∀j,l<=j->j<k->le (eN p j) (eN p k)=aW):jd le (bubble p k (k-l)) (k+1):=by
 have g:∀j,eN (bubble p k (k-l)) j=if j=l then eN p k else if l<j/\j<=k then eN p (j-1)else eN p j:=λj=>by
  have e:=getElem?_bubble (xs:=p) (src:=k) X (k-l) (mP _ _) j;rw[Nat.sub_sub_self B]at e;unfold eN;rw[od,e];by_cases F:j=l
  ·rw[cg F,cg F,od]
  ·rw[bV F,bV F];by_cases Z:l<j/\j<=k
   ·rw[cg Z,cg Z,od]
   ·rw[bV Z,bV Z,od]
 intro i aB;have b:=hl aB;rw[g,g];rcases Dd i l with c|rfl|c
 ·rw[if_neg (eC c),if_neg λh=>Nc c h.1];by_cases Z:i+1=l
  ·rw[if_pos Z];exact ab i c
  ·have R:=qY c Z;rw[bV Z,bV λh=>Nc R h.1];exact H i (ef R B)
 ·rw[cg y,bV (zA _),cg ⟨jO _,b⟩];exact C.FI _ _ (ac i (cu _) b)
 ·rw[bV (fU c),cg ⟨c,dK b⟩,bV (fU (qa c)),cg ⟨qa c,b⟩];refine(Ll (er (cW _) c)).elim λj a=>?_;obtain rfl:=a;exact H j b
theorem c4(C:qd le)(a:0<bC):∀(f:Nat) (p:Array Nat) (k:Nat),jL bC p->k+f=bC->jd le p k->jM le bC (λq=>jL bC q/\jd le q bC) (kas_bin f p k):=by
 intro f;induction f with
 |zero=>exactλp k z X H=>⟨z,X▸H⟩
 |succ f F=>
  intro p k z X H;exact jM.bind (λl B=>F _ (k+1) ((bubble_perm _ _ _).trans z) ((mi ..).trans X) (d2 C (z.size▸X▸pZ (iC f)) B.1 H B.2.1 B.2.2))
   (Q_ C z a H k 0 k (fi (hu k).symm) (cu _) (cW _) (λj M=>aG M (mO _)) λj ab ac=>aG ac (fP.mpr ab))
theorem aaL(C:qd le)(a:0<bC)(aB:wA le bC\/∀i,i+1<bC->le i (i+1)=ak):jM le bC (λq=>jL bC q/\jd le q bC) (kas_sort bC):=by
 have e:∀i,i<bC->eN (fz bC).toArray i=i:=λi aB=>by
  unfold eN;rw[od,pU,Hc aB];rfl
 refine jM.bind (λx Y=>?_) (i' C (p:=(fz bC).toArray) (.refl _) a (aB.imp id λh i aB=>by rw[e i (pd aB),e _ aB];exact h i aB));refine bp λX=>Y.elim λr W=>W.elim λv U=>U.elim λZ Q=>X ?_;split
 ·exact((zy v)).symm▸c4 C a _ _ _ r (tQ Z) Q
 ·rename_i h;exact⟨r,mh Z (ib h)▸Q⟩
end
section
variable{s:aN} {aC ar:List V} {w x:V} {t u:Nat}
theorem RH{w:eU}{b fin r:Bool}{af:Bool->aN->Prop}(Y:af r s):∀{l:List (aw×aw)} {i:Nat},su R s fin l r->KatLex prog w R b fin af l (i+1) s:=by
 intro l;induction l with
 |nil=>intro i Z;cases(Z:r=fin);exact kat_nil Y
 |cons p l F=>
  intro i Z;obtain⟨x,Q⟩:=p;obtain⟨e,U,ab,ac⟩:=Z;refine On (U prog w _ _ ?_);cases e with
  |true=>exact Oq (F (ab y))
  |false=>exact Oo<|(show(b&&i+1==0)=aW from LR b)▸kat_one x Q (ac y prog w _ _ Y)
def yO(R:ez)(s:aN)(fm:HE)(x Q:aw)(r:Bool):Prop:=∀(prog:gr) (w:eU) (E:aw->aN->Prop) (af:Bool->aN->Prop),af r s->bb (dm prog w) R (keyLt' fm x Q) af E s
theorem Qk(i j:Int):(V.bH (.X i) (.X j)==.lt)=dV (i<j):=by rw[←Jf];show(ec (ec (kz i j) .eq) .eq==.lt)=_;rw[yB,yB]
theorem g9(i j:bj):(V.bH (.cG i) (.cG j)==.lt)=dV (i.cps.toList<j.cps.toList):=by rw[←Qh];show(ec (oC _ _) .eq==.lt)=_;rw[yB];rfl
theorem SM{b:Bool}{p q:aw}(W:R.units+100<fp)(al:b=(u !=3))(P:gs x=u)(F:gs Q=u)(aR:u≠0)(g:V.gh 100 x=ak)(a:V.gh 100 Q=ak)(C:V.ok x Q)(n:cf I s.heap x p)(J:cf I s.heap Q q)
  {w:eU}{E:aw->aN->Prop}{af:Bool->aN->Prop}(Z:af (V.bH x Q==.lt) s):bb (dm prog w) R (oneLt' b p q) af E s:=by
 subst al;cases x with
 |X i=>obtain rfl:=P;refine(Je F).elim λj c=>?_;obtain rfl:=c;rw[Qk]at Z;exact n.i λt=>J.i λt=>oneLt_int Z
 |cG i=>obtain rfl:=P;refine(DX F).elim λj e=>?_;obtain rfl:=e;rw[g9]at Z;exact n.s λt=>J.s λt=>oneLt_str Z
 |Y l=>obtain rfl:=P;exact kat_one p q (Kk W (iI g n) (iI a J) C prog w _ _ Z)
 |_=>exact aG P.symm aR
structure gO(t u:Nat)(aC:List V):Prop where
 rX:t≠0
 sd:u≠0
 kind:∀k∈aC,gs k=t
 head:t=3->∀k∈aC,∃a r,k=.Y (a::r)/\gs a=u
 hF:V.fu 100 aC=ak
 ok:∀a∈aC,∀b∈aC,V.ok a b
theorem b7{a d:V}{p q:aw}(H:R.units+100<fp)(aE:V.gh 100 (.Y (a::v))=ak)(al:V.gh 100 (.Y (d::l))=ak)(C:V.ok (.Y (a::v)) (.Y (d::l)))(aR:u≠0)(r:gs a=u)(aP:gs d=u)(g:cf I s.heap (.Y (a::v)) p)(B:cf I s.heap (.Y (d::l)) q):yO R s (tuples' (u !=3)) p q (V.bH (.Y (a::v)) (.Y (d::l))==.lt):=by
 intro prog w E af M;refine bp λP=>?_;obtain⟨G,e,C⟩:=C;cases e;obtain⟨t,F⟩:=nU (n:=99) aE;obtain⟨fh,b⟩:=nU (n:=99) al;refine P ?_;have Z:R.units+99<fp:=pd H;refine g.t λx ar k z f c=>B.t λQ bD bI z Y W=>kat_lt f y Y y ?_;have L:dV (ar.size<bD.size)=dV (D ar.toList<D bD.toList):=(jt ..)▸(jt ..)▸y;rw[L];revert c W;generalize ar.toList=gU;generalize bD.toList=aX;refineλc=>c.cons λO gU J cK=>λW=>W.cons λA0 aX j h=>On (Ef (n:=99) Z t fh J j prog w _ _ ?_);cases U:V.dE a d with
 |true=>
  have e:=V.fE.mp U;refine Oq (RH (i:=0) ?_ (Kb (s:=s) Z (λx Q C=>Kk Z x Q C) F b (C.1 e) cK h (fin:=dV ((O::gU).length<(A0::aX).length)) (decide_eq_decide.mpr Xm)));subst e;have:(V.bH (.Y (a::v)) (.Y (a::l))==.lt)=(V.hA v l==.lt):=by
   show(ec .eq (ec (V.bH a a) (V.hA v l))==.lt)=_;rw[V.xE];rfl
  rwa[this]at M
 |false=>
  have N:=V.mX.mp U;refine Oo ?_;rw[show((u !=3)&&0==0)=(u !=3)from LS _];refine SM H y r aP aR (V.Tb t) (V.Tb fh) (C.2 N) J j ?_;have:(V.bH (.Y (a::v)) (.Y (d::l))==.lt)=(V.bH a d==.lt):=by
   show(ec .eq (ec (V.bH a d) (V.hA v l))==.lt)=_;cases X:V.bH a d with
   |eq=>exact aG (V.uc t X) N
   |lt=>rfl
   |gt=>rfl
  rwa[this]at M
theorem l3:∀{aC:List V} {aX:List aw},(∀k∈aC,∃a Y,k=.Y (a::Y)/\gs a=u)->ci I h aC aX->∃cd,KatTups h aX cd/\D cd=D aC/\∀f∈cd,∃a,gs a=u/\cf I h a f:=by
 intro aC;induction aC with
 |nil=>intro aX _ r;obtain rfl:=r;exact⟨[],KatTups.nil,rfl,λz h=>absurd h nv⟩
 |cons k aC F=>
  intro aX X r;refine bp λP=>?_;obtain⟨H,aX,rfl,J,cK⟩:=r;obtain⟨a,Y,rfl,aE⟩:=X k (.head _);obtain⟨cd,t,U,W⟩:=F (λk l=>X k (.tail _ l)) cK;obtain⟨x,ar,n,rfl,_,N,w,gU,e,g,_⟩:=J;refine P<|⟨w::cd,KatTups.cons N y y (jJ▸e▸y) t,bA (·+1) U,λf o=>(ee.mp o).elim (λZ=>?_) λo=>?_⟩
  ·obtain rfl:=Z;exact⟨a,aE,g⟩
  ·exact W f o
theorem ci.getD(r:ci I h l aX){i:Nat}(aB:i<D l):cf I h (l.getD i .bM) (aX.getD i .none)/\l.getD i .bM∈l:=by refine bp λP=>(r.get.2 i (fO aB)).elim λaI J=>J.elim λe r=>P ?_;rw[la,la,e,fO aB];exact⟨r,pV aB⟩
noncomputable def yF(u:Nat):aw:=if u=1 then .type "int" else if u=2 then .type "str" else .type "tuple"
theorem Ey{aQ:vj}{p:aw}(aR:u≠0)(P:gs x=u)(r:cf I s.heap x p):Looks aQ s.heap (Ij p) (yF u)/\(yF u !=.type "tuple")=(u !=3)/\(yF u==yF u)=ak:=by
 cases x with
 |X i=>obtain rfl:=P;exact r.i λt=>⟨Looks.now,(by decide:(Value.type "int"!=.type "tuple")=true),(by decide:(Value.type "int"==.type "int")=true)⟩
 |cG i=>obtain rfl:=P;exact r.s λt=>⟨Looks.now,(by decide:(Value.type "str"!=.type "tuple")=true),(by decide:(Value.type "str"==.type "str")=true)⟩
 |Y l=>obtain rfl:=P;exact r.t λa ar n z Z z=>⟨(Looks.ld Z).andThen .now,(by decide:(Value.type "tuple"!=.type "tuple")=false),(by decide:(Value.type "tuple"==.type "tuple")=true)⟩
 |_=>exact aG P.symm aR
theorem v7(g:R.units+100<fp)(K:gO t u aC)(Z:ci I s.heap aC aX)(ac:2<=D aC){af:HE->aN->Prop}(q:∀fm,(∀i j,i<D aC->j<D aC->yO R s fm (aX.getD i .none) (aX.getD j .none) (V.bH (aC.getD i .bM) (aC.getD j .bM)==.lt))->af fm s):bb (ct B) R (HF aX.toArray) af E s:=by
 have W:∀{i},i<D aC->V.gh 100 (aC.getD i .bM)=ak:=λaB=>nV K.hF (Z.getD aB).2;by_cases m:t=3
 ·refine bp λP=>?_;obtain⟨cd,oH,k,n⟩:=l3 (K.head m) Z;obtain⟨l,x⟩:∃f,f∈cd:=by cases cd with
   |nil=>exact aG (k▸ac) (by decide)
   |cons f cd=>exact⟨f,.head _⟩
  obtain⟨A5,A1,J⟩:=n l x;refine P ?_;have z:=Ey (aQ:=ct B) K.sd A1 J;refine kat_kind (T:=yF u) oH (k▸ef Hs ac) (λf b=>(n f b).elim λa A3=>A3.elim λr A4=>(Ey K.sd r A4).1) z.2.2 ?_;rw[z.2.1];refine q _ λi j aB Y=>bp λP=>?_;obtain⟨U,O⟩:=Z.getD aB;obtain⟨X,L⟩:=Z.getD Y;have N:=W aB;have c:=W Y;obtain⟨a,A6,tb,r⟩:=K.head m _ O;obtain⟨d,A7,F,aP⟩:=K.head m _ L;refine P ?_;have C:=K.ok _ O _ L;rw[tb]at U N C⊢;rw[F]at X c C⊢;exact b7 g N c C K.sd r aP U X
 ·refine bp λP=>?_;obtain⟨J,A2⟩:=Z.getD (ef Hs ac);refine P ?_;have z:=Ey (aQ:=ct B) K.rX (K.kind _ A2) J;refine kas_kind (T:=yF t) (Z.length▸ac) (λH A0=>?_) (z.2.1.trans (bne_iff_ne.mpr m)) z.2.2 (q _ λi j aB Y=>?_)
  ·refine bp λP=>?_;obtain⟨i,aB,e⟩:=zq.mp A0;refine P ?_;have p:i<D aC:=Z.length▸aB;have:=(Ey (aQ:=ct B) K.rX (K.kind _ (Z.getD p).2) (Z.getD p).1).1;rwa[la,fO aB,Option.getD_some,e]at this
  ·refine bp λP=>?_;obtain⟨U,O⟩:=Z.getD aB;obtain⟨X,L⟩:=Z.getD Y;refine P ?_;intro prog w E af h;exact SM (u:=t) g (bne_iff_ne.mpr m).symm (K.kind _ O) (K.kind _ L) K.rX (W aB) (W Y) (K.ok _ O _ L) U X h
def FX(B:bT)(R:ez)(s:aN)(aC:List V)(W:List aw):Prop:=D aC=D W/\(2<=D aC->∀(E:aw->aN->Prop) (af:HE->aN->Prop),(∀fm,(∀i j,i<D aC->j<D aC->yO R s fm (W.getD i .none) (W.getD j .none) (V.bH (aC.getD i .bM) (aC.getD j .bM)==.lt))->af fm s)->bb (ct B) R (HF W.toArray) af E s)
theorem gO.asks(K:gO t u aC)(Y:R.units+100<fp)(Z:ci I s.heap aC Z2):FX B R s aC Z2:=⟨Z.length,λac E af q=>v7 Y K Z ac q⟩
noncomputable def tg(aC:List V)(i j:Nat):Bool:=V.le (aC.getD i .bM) (aC.getD j .bM)
theorem RN(aC:List V):qd (tg aC):=⟨λa b h=>by have:=V.Et (aC.getD a .bM) (aC.getD b .bM);rw[show V.le (aC.getD a .bM) (aC.getD b .bM)=aW from h]at this;exact this,λa b c ab ac=>V.Eu ab ac⟩
theorem z0(a b:V):(V.bH a b==.lt)=!V.le b a:=by
 cases h:V.le b a with
 |false=>rw[(V.Kl a b).mpr h];rfl
 |true=>exact beq_eq_false_iff_ne.mpr λe=>afh (((V.Kl a b).mp e).symm.trans h)
def Gx(aC:List V):Prop:=wA (tg aC) (D aC)\/∀i,i+1<D aC->tg aC i (i+1)=ak
theorem aaf{fm:HE}(X:D Z2=D aX)(Y:D aC=D aX)(ac:2<=D aC)(c:D aC<64)(Z:Gx aC)(b:∀i j,i<D aC->j<D aC->yO R s fm (Z2.getD i .none) (Z2.getD j .none) (V.bH (aC.getD i .bM) (aC.getD j .bM)==.lt)){af:Nw->aN->Prop}(q:∀a (p:Array Nat),jL (D aC) p->jd (tg aC) p (D aC)->failedOf a=aj->(arrOf a).map (·.2)=(p.toList.map λi=>aX.getD i Value.none).toArray->af a s):bb (ct B) R ((Nz).run (SortSt.mk' fm (Z2.toArray.zip aX.toArray) #[] 7 aj)) (λr aJ=>af r.2 aJ) E s:=by
 refine kat_run (G:=λp aJ=>aJ=s/\jL (D aC) p/\jd (tg aC) p (D aC)) X (Y▸ac) (Y▸c) (λp a aJ W e Z P=>?_) ?_
 ·obtain⟨rfl,cL,dw⟩:=P;exact q a p cL dw Z (kat_snds X e)
 ·rw[←Y];exact jM.wp (λi j az aB M U=>b i j aB M _ _ _ _ (by rw[z0];exact U)) (λp W=>⟨y,W⟩) (aaL (RN aC) (ef Hs ac) Z)
theorem aca{p:Array Nat}(h:bC<2):jd le p bC:=λi aB=>aG (ef aB (hl h)) (fP.mpr (gF ..))
end
section
variable{s:aN} {aC ar:List V} {w x:V} {t u:Nat}
structure nH(aC ar:List V)(G:List (V×V)):Prop where
 J:D aC=D ar
 perm:G.Perm (aC.zip ar)
 ord:G.Pairwise λx Q=>V.le x.1 Q.1=ak
 abY:∀x∈aC.zip ar,∀Q∈aC.zip ar,x.1=Q.1->x.2=Q.2
 l?:Gx aC
 small:D aC<64
 hF:V.fu 100 aC=ak
theorem Bj{a b:V}(p:V.gh n a=ak)(ab:V.le a b=ak)(ac:V.le b a=ak):a=b:=by
 refine V.uc p ?_;cases h:V.bH a b with
 |eq=>rfl
 |lt=>exact afh (((V.Kl a b).mp h).symm.trans ac)
 |gt=>unfold V.le at ab;rw[h]at ab;exact aG ab dT
theorem Bo{bw:Type}{d:bw}(l:List bw):(fz (D l)).map (λi=>l.getD i d)=l:=uS λi=>by
 rw[fI];by_cases aB:i<D l
 ·rw[Hc aB,xa,la,fO aB];rfl
 ·rw[tM ((iA ..)▸ib aB),tM (ib aB)];rfl
theorem nH.hM{G:List (V×V)}(S:nH aC ar G){p:Array Nat}(Y:jL (D aC) p)(U:jd (tg aC) p (D aC)):p.toList.map (λi=>ar.getD i .bM)=G.map (·.2):=by
 have P:(fz (D aC)).map (λi=>(aC.getD i V.bM,ar.getD i V.bM))=aC.zip ar:=by
  refine(MZ ..).symm.trans ?_;rw[Bo aC,S.J,Bo ar]
 have dv:(p.toList.map λi=>(aC.getD i V.bM,ar.getD i V.bM)).Perm (aC.zip ar):=P▸(FV.mp Y).map _;have e:(p.toList.map λi=>(aC.getD i V.bM,ar.getD i V.bM))=G:=by
  refine GR (le:=λx Q:V×V=>V.le x.1 Q.1=ak) (λa b aE al ab ac=>?_) ?_ S.ord (dv.trans S.perm.symm)
  ·have Z:=dv.mem_iff.mp aE;have e:=Bj (nV S.hF (WH Z).1) ab ac;exact jz e (S.abY a Z b (S.perm.mem_iff.mp al) e)
  ·rw[oZ,WJ];intro i j aB M W;have g:∀{k} (X:k<D p.toList),p.toList[k]=eN p k:=λX=>(dif_pos (jt▸X):eN p _=_).symm;exact(g aB)▸(g M)▸U.mon (RN aC) (dK W) (Y.size▸(jt ..)▸M)
 rw[←e,ed];rfl
theorem nH.dj{G:List (V×V)}(S:nH aC ar G){p:Array Nat}(Z:jL (D aC) p)(Y:jd (tg aC) p (D aC))(r:ci I h ar aX):ci I h (G.map (·.2)) (p.toList.map λi=>aX.getD i Value.none):=by
 rw[←S.hM Z Y];have al:∀i∈p.toList,i<D ar:=λi aB=>S.J▸hk.mp ((FV.mp Z).mem_iff.mp aB);generalize p.toList=l at al;induction l with
 |nil=>rfl
 |cons i l F=>exact⟨_,_,y,(r.getD (al i (.head _))).1,F λj M=>al j (.tail _ M)⟩
theorem PH{G:List (V×V)}(S:nH aC ar G)(U:FX B R s aC Z2)(P:D aX=D ar){gq:Type}{f:Unit×Nw->kc gq}{af:gq->aN->Prop}(q:∀W (p:Array Nat),jL (D aC) p->jd (tg aC) p (D aC)->failedOf W=aj->(arrOf W).map (·.2)=(p.toList.map λi=>aX.getD i Value.none).toArray->bb (ct B) R (f ((),W)) af E s):bb (ct B) R (do
   let fm←if aX.toArray.size<2 then ey general' else HF Z2.toArray
   let r←(if aX.toArray.size<2 then ey ()else Nz).run (SortSt.mk' fm (Z2.toArray.zip aX.toArray) #[] 7 aj)
   f r) af E s:=by
 have X:=U.1;have Z:D aC=D aX:=S.J.trans P.symm;by_cases ac:D aC<2
 ·have Y:aX.toArray.size<2:=(mN ..)▸Z▸ac;rw[cg Y];refine ap (bh ?_);rw[cg Y];refine ap (bh (q _ (fz (D aC)).toArray (.refl _) (aca ac) y (FW.mp ?_)));show(((Z2.toArray.zip aX.toArray).map (·.2))).toList=(fz (D aC)).map λi=>aX.getD i Value.none;rw[Z,Bo aX,Vg,Array.toList_zip];exact List.map_snd_zip (fi (Z.symm.trans X))
 ·have Y:¬aX.toArray.size<2:=(mN ..)▸Z▸ac;rw[bV Y];refine ap (U.2 (ib ac) E _ λfm b=>?_);show bb _ _ ((if _ then _ else _:StateT Nw kc Unit).run _>>=_) _ _ _;exact(bV Y)▸ap (jb (aaf (E:=E) (X.symm.trans Z) Z (ib ac) S.small S.l? b (af:=λW aJ=>bb (ct B) R (f ((),W)) af E aJ) q) (λr aJ U=>U) λz z x=>x)
theorem ma(h:n<64):n<=mS:=Ii▸aq (dK h) (aF y)
theorem y?{U:aZ}{G:List (V×V)}(H:R.units+100<fp)(S:nH ar ar G)(K:gO t u ar)(r:ci I aR ar aX)(h:∀b C,aR.get? b=A C->s.heap.get? b=A C)(k:aR.get? U=aj)(Z:s.heap.get? U=A (gp aX.toArray n)){P:Oa->aN->Prop}(N:∀(au:cv) (c:Nat) (bD:Array aw),(∀b C,aR.get? b=A C->au.get? b=A C)->au.get? U=A (gp bD c)->ci I aR (G.map (·.2)) bD.toList->P (.done (.ret .none)) {s with heap:=au}):bb (ct B) R (Builtin.«list.sort» ⟨[.ref U],[]⟩) P E s:=by
 have Y:=r.length;have v:=kJ s.heap U (fW λx=>(#[]:Array aw));obtain⟨W,j⟩:∃W,(s.heap.update U (fW λx=>(#[]:Array aw))).get? U=A (gp #[] W):=⟨_,sH Z λx=>#[]⟩
 have d:∀b C,aR.get? b=A C->b≠U/\(s.heap.update U (fW λx=>(#[]:Array aw))).get? b=A C:=λb C e=>
  have al:b≠U:=λq=>iH k (q▸e)
  ⟨al,(v.2 b al).trans (h b C e)⟩
 rw[list_sort_plain];refine ap (HG Z y (ap (xd Z y ?_ ((mN ..)▸Y▸ma S.small) (cW _))));generalize s.heap.update U (fW λx=>(#[]:Array aw))=ab at j d;refine ap (HH j y (ap (xo ?_ (Y▸ma S.small))));refine ap (Aj ?_ (cW _));have X:∀b C,ab.get? b=A C->((ab.push {cls:=.type "tuple",data:=.seq aX.toArray}).push {cls:=.type "list",data:=.seq ([]:List aw).toArray}).get? b=A C:=λb C e=>fR _ _ _ _ (fR _ _ _ _ e);have l:=X _ _ j;have g:∀b C,aR.get? b=A C->b≠U/\((ab.push {cls:=.type "tuple",data:=.seq aX.toArray}).push {cls:=.type "list",data:=.seq ([]:List aw).toArray}).get? b=A C:=λb C e=>⟨(d b C e).1,X _ _ (d b C e).2⟩
 generalize(ab.push {cls:=.type "tuple",data:=.seq aX.toArray}).push {cls:=.type "list",data:=.seq ([]:List aw).toArray}=bo at l g;clear X d v j h Z;refine eX (PH (s:={s with heap:=bo}) (f:=_) S (K.asks (I:=I) (s:={s with heap:=bo}) H (r.fl (bB.gL λb C e=>(g b C e).2))) Y.symm λa p z O M w=>?_);have fin:=N _ _ (p.toList.map λi=>aX.getD i Value.none).toArray (λb C e=>((kJ bo U (fW λx=>(p.toList.map λi=>aX.getD i Value.none).toArray)).2 b (g b C e).1).trans (g b C e).2) (sH l (λx=>(p.toList.map λi=>aX.getD i Value.none).toArray)) (S.dj z O r);clear N;dsimp only;rw[w];refine ap (HH l y (ap (xd (s:={s with heap:=bo}) l y ?_ (cW _) (lg (by rw[mN,bK,jt,z.size];exact ma S.small)))));rw[M];simp only[bne_self_eq_false,ws,if_false];exact bh fin
def Cp(B:bT)(I:cw)(R:ez)(s:aN)(x:aw)(P:List V->Prop):Prop:=∀(E:aw->aN->Prop) (af:List aw->aN->Prop),(∀ab dh Z aC aX,P aC->(∀b C,s.heap.get? b=A C->ab.get? b=A C)->s.heap.objs.size<=ab.objs.size->ci I s.heap aC aX->af aX {s with heap:=ab,toks:=dh,drawn:=Z})->bb (ct B) R (collect x) af E s
theorem Qs{l:aZ}(Z:s.heap.get? l=A (gp bD k))(Y:ci I s.heap aC bD.toList)(n:bD.size<=mS):Cp B I R s (.ref l) (Eq aC):=λE af q=>by exact collect_list (hE Z) (q _ s.toks s.drawn aC _ y (λb C e=>(sL _ _ (oh (eC (iQ e)))).trans (fR _ _ _ _ e)) (by rw[Heap.size_update,lO];exact ka _) Y) n
theorem Lh{x:aw}{G:List (V×V)}(J:R.handled=aj)(L:R.units+400<fp)(ae:bL B I z s){P:List V->Prop}(S:∀ar,P ar->nH ar ar G)(K:∀ar,P ar->gO t u ar)(Y:Cp B I R.in1 s x P)(q:iy B I s (z++[.W (G.map (·.2))]) (.J (D z)) af):bb (ct B) R (ja (.builtin "sorted") [x]) af E s:=by refine Yd XK XM XJ (args_sorted1 _)<|ap (m:=YM "sorted" 1 1 _) (bh (ap (Y _ _ λab dh Z ar aX g aY n X=>ap (Aj ?_ (X.length▸ma (S ar g).small)))));have N:(ab.push {cls:=.type "list",data:=.seq aX.toArray}).get? ab.objs.size=A (gp aX.toArray 0):=gG _ y;have W:∀b C,s.heap.get? b=A C->(ab.push {cls:=.type "list",data:=.seq aX.toArray}).get? b=A C:=λb C e=>fR _ _ _ _ (aY b C e);generalize ab.push {cls:=.type "list",data:=.seq aX.toArray}=ac at N W;generalize ab.objs.size=U at N n;clear Y aY;refine ap (eX (kM XO ⟨_,N,y⟩ XI ?_ (args_list_sort _)));exact y? (B:=B) (I:=I) (s:={s with heap:=ac,toks:=dh,drawn:=Z}) (G:=G) (kP (kP (b:=200) L (aF y)) (aF y)) (S ar g) (K ar g) X W (qw n) N λau c bD i M j=>⟨_,y,bh ⟨_,y,q.Kt (aJ:={s with heap:=au,toks:=dh,drawn:=Z}) ae n i M (λbF k=>j.fl k) y y⟩⟩
theorem Go{G:List (V×V)}(aE:z[a]?=A (.W ar))(S:nH ar ar G)(K:gO t u ar):hH B (.builtin "sorted") [.J a] z (.J (D z)) (z++[.W (G.map (·.2))]):=λP R E I s af U J ae r q=>by exact r.W λaI Z=>ae.ie aE Z λY bD k g W X=>Lh J U ae (λx e=>e▸S) (λx e=>e▸K) (Qs W X (X.size▸ma S.small)) q
end
section
variable{c:eT} {s:aN} {aC ar:List V} {w x:V} {t u:Nat}
theorem aaT{w:eU}:∀{l:List (V×V)} {bX:List gW},D bX=D l->(∀(i:Nat) x e,l[i]?=A x->bX[i]?=A e->Cr w I h x e)->(∀x∈l,gs x.1=2)->∃W:List (bj×aw),Pairs (tY prog w) bX W/\l.map (·.1)=W.map (λp=>V.cG p.1)/\∀e∈bX,∃k,(tY prog w).is k e.key=ak/\e.hash=(tY prog w).hash k:=by
 intro l;induction l with
 |nil=>intro bX Z _ _;obtain rfl:=ko Z;exact⟨[],.nil,rfl,λz h=>absurd h nv⟩
 |cons x l F=>
  intro bX Z Y X;cases bX with
  |nil=>exact aG Z.symm (iP _)
  |cons e bX=>
   refine bp λP=>(F (ip Z) (λi=>Y (i+1)) λx C=>X x (.tail _ C)).elim λW v=>v.elim λp q=>q.elim λo J=>?_;have r:=Y 0 x e y y;refine(DX (X x (.head _))).elim λj M=>(M▸r.key).elim λu G=>P ?_;have L:(tY prog w).is j e.key=ak:=G▸OS prog w j u;refine⟨(j,e.val)::W,.cons L y p,List.cons_eq_cons.mpr ⟨M,o⟩,λbP U=>?_⟩;cases U with
   |head=>exact⟨j,L,r.hash.trans (bA _ M)⟩
   |tail _ U=>exact J bP U
theorem h4{d:aZ}{dW:Array gW}(B7:R.handled=aj)(U:mL B I s d ag dW cJ)(A8:∀e∈ag,gs e.1=2)(C1:D ag<=mS):Cp B I R s (.ref d) (Eq (ag.map (·.1))):=λE af q=>by
 refine bp λP=>?_;obtain⟨W,A7,M,A4⟩:=aaT (prog:=B.prog) (w:=B.w) (bX:=dW.toList) (jt.trans U.dj.J) (λi x e a b=>U.dj.get i x e a (jJ▸b)) A8;refine P ?_;have B9:(W.map (·.1)).Nodup:=by
  have:=M▸U.nodup;rw[show W.map (λp=>V.cG p.1)=(W.map (·.1)).map V.cG from(ed ..).symm]at this;exact(oZ.mp this).imp λB4 e=>B4 (bA _ e)
 have g:s.heap.DictAt (tY B.prog B.w) d W cJ:=⟨_,dW,U.jF,⟨y,y,y⟩,y,λe B5=>A4 e (Cj.mpr B5),A7,B9⟩
 have A3:d<s.heap.objs.size:=iQ U.jF;have N:d≠s.heap.objs.size:=eC A3;have B6:D W<=mS:=by
  have:=bA D M;rw[bK,bK]at this;exact this▸C1
 have C0:=U.mG;have fin:∀(aJ:aN) Z,(∀b C,s.heap.get? b=A C->aJ.heap.get? b=A C)->s.heap.objs.size<=aJ.heap.objs.size->aJ={s with heap:=aJ.heap,toks:=aJ.toks}->ItemsOf (λi H=>∃k x,W[i]?=A (k,x)/\Value.isStrOf k H=ak) Z (D W)->af Z.toList aJ:=λaJ Z X C2 e f=>by
  rw[e];refine q aJ.heap aJ.toks s.drawn _ Z.toList y X C2 ?_;rw[M];refine bp λP=>?_;obtain⟨z,r⟩:=f;refine P<|ci.Kz ((bK ..).trans (z.symm.trans jt.symm)) λi H aI A9 A6=>?_;rw[fI,lN]at A9;refine bp λP=>?_;obtain⟨⟨k,x⟩,X,rfl⟩:=A9;rw[jJ]at A6;obtain⟨bI,C8,e,B8⟩:=r i aI A6;obtain⟨rfl,rfl⟩:=nC (dk (X.symm.trans e));obtain⟨t,rfl⟩:=Value.isStrOf_shape B8;exact P<|⟨t,y⟩
 clear q U A4 A7 M A8;refine ap (Pc (mR Ym ?_));show bb _ R.in1 (Ic []>>=λl=>again (.builtin "list.__iadd__" ⟨[l,.ref d],[]⟩)) _ _ s;refine ap (qk (bh ⟨ph NV _,mR Yl ?_⟩));have j:(s.heap.push {cls:=.type "list",data:=.seq ([]:List aw).toArray}).DictAt (tY B.prog B.w) d W cJ:=g.push _;have Y:({s with heap:=s.heap.push {cls:=.type "list",data:=.seq ([]:List aw).toArray}}:aN).TypeIs (.ref d) "dict":=j.dictOf.typeIs;have c:(s.heap.push {cls:=.type "list",data:=.seq ([]:List aw).toArray}).get? s.heap.objs.size=A (gp #[] 0):=gG _ y;have B0:∀b C,s.heap.get? b=A C->(s.heap.push {cls:=.type "list",data:=.seq ([]:List aw).toArray}).get? b=A C:=fR _ _;have O:(s.heap.push {cls:=.type "list",data:=.seq ([]:List aw).toArray}).objs.size=s.heap.objs.size+1:=lO ..;show bb _ R.in1 (NC (.ref s.heap.objs.size) (.ref d) (.ref s.heap.objs.size)) _ _ _;generalize s.heap.push {cls:=.type "list",data:=.seq ([]:List aw).toArray}=ab at j Y c B0 O;refine ap (ou Y ?_);have B1:ND (.ref s.heap.objs.size) (.ref d)=aW:=beq_eq_false_iff_ne.mpr N.symm;have B2:(Value.type "dict"==Value.type "list")=aW:=by decide
 have B3:(Value.type "dict"==Value.type "tuple")=aW:=by decide
 simp only[B1,B2,B3,Vl,ws,if_false];refine ap (wpAny_pyIter_dict C0 j ?_);have J:∀b C,ab.get? b=A C->(ab.push {cls:=.type "dict_keyiterator",data:=.fields #[.ref d,.int 0 0,.int (D W) 0,.int cJ 0]}).get? b=A C:=fR _ _;have u:(ab.push {cls:=.type "dict_keyiterator",data:=.fields #[.ref d,.int 0 0,.int (D W) 0,.int cJ 0]}).IsKeyIter (s.heap.objs.size+1) d 0 (D W) cJ:=⟨_,O▸gG _ y,y,y⟩
 rw[O];generalize ab.push {cls:=.type "dict_keyiterator",data:=.fields #[.ref d,.int 0 0,.int (D W) 0,.int cJ 0]}=ac at u J;have A5:ac.DictAt (tY B.prog B.w) d W cJ:=j.keep J;have m:({s with heap:=ac}:aN).TypeIs (.ref d) "dict":=A5.dictOf.typeIs;refine ap (eX (ap (rj m NW.lookup (ap (ri m isSubtype_dict_dict (ap (ou m (bh (ap (li (ap ?_)))))))))));have A0:ac.get? s.heap.objs.size=A (gp #[] 0):=J _ _ c;refine ap (vs (s:={s with heap:=ac}) A0 y ?_ (cW _) (dn (cW _)));have A1:=rb (fW (·.push Value.none)) A0 y;refine vs A1 y ?_ (ma (aF y)) (cW _);have A2:=rb (fW (·.pop)) A1 y;have F:∀b C,b≠s.heap.objs.size->ac.get? b=A C->((ac.update s.heap.objs.size (fW (·.push Value.none))).update s.heap.objs.size (fW (·.pop))).get? b=A C:=
  λb C al e=>(sL _ _ (oh al)).trans ((sL _ _ (oh al)).trans e)
 generalize(ac.update s.heap.objs.size (fW (·.push Value.none))).update s.heap.objs.size (fW (·.pop))=C7 at A2 F;have n:s.heap.objs.size+1≠s.heap.objs.size:=zA _;refine bh ⟨ph zV _,codeAny_extend_loopS ((Walks.dictKeys (prog:=B.prog) (w:=B.w) (knd:=tY B.prog B.w) (A:=R.in1) B7 (s.heap.objs.size+1) d (eC (qa A3)) W cJ).toS) B6 s.heap.objs.size (λg=>?_) _ (D W) 0 _ _ _ y (cW _) ⟨u.at λC e=>F _ _ n e,A5.at' λC e=>F _ _ N e⟩ A2 (ItemsOf.nil _) λaJ Z C6 L h f=>?_⟩
 ·refine(ee.mp g).elim (λg=>?_) λg=>?_
  ·exact n g.symm
  ·exact N (cB.mp g).symm
 refine ap (Ai h (bh (fin aJ Z (λb C e=>?_) (dK (iQ h)) ?_ f)))
 ·have al:=iQ e;refine L.heap b C (λg=>?_) (F b C (eC al) (J b C (B0 b C e)));refine(ee.mp g).elim (λg=>?_) λg=>?_
  ·exact eC al g
  ·exact eC (qa al) (cB.mp g)
 ·have cL:=L.gens;obtain⟨z,r,C3,C4,C5⟩:=aJ;obtain rfl:=cL;cases L.drawn;obtain rfl:=L.os;rfl
theorem Vw{G:List (V×V)}(aE:z[a]?=A (.Z ag))(X:∀e∈ag,gs e.1=2)(S:nH (ag.map (·.1)) (ag.map (·.1)) G)(K:gO t u (ag.map (·.1))):hH B (.builtin "sorted") [.J a] z (.J (D z)) (z++[.W (G.map (·.2))]):=λW R E I s af Y J ae r q=>by exact r.W λaI Z=>ae.pB aE Z λd dW cJ g U=>Lh J Y ae (λx e=>e▸S) (λx e=>e▸K) (h4 (R:=R.in1) J U X (bK (λe:V×V=>e.1)▸ma S.small)) q
end
section
variable{c:eT} {s:aN} {aC ar:List V} {w x:V} {t u:Nat}
inductive wO(I:cw)(h:cv)(l:List V):aw->Prop
|mk {x:aZ} {ar:Array aw} {k:Nat}:h.get? x=A (gp ar k)->ci I h l ar.toList->V.fu 98 l=ak->wO I h l (.ref x)
theorem RW{p q:aw}(W:R.units+99<fp)(aE:wO I s.heap v p)(al:wO I s.heap aS q):EqAt R s p q (V.dE (.Y v) (.Y aS)):=by
 obtain⟨ab,ac,bo⟩:=aE;obtain⟨Z,Y,X⟩:=al;rename_i x ar k Q bD bI;rw[IT];by_cases j:x=Q
 ·subst j;cases ab.symm.trans Z;exact(hJ.JO hJ.inj bo X ac Y)▸(V.ub ..)▸EqAt.same _
 ·exact EqAt.of_refs j ((Fx (er (dP _ _) W) bo X ac Y λa b=>AY ((zQ ..)▸W) a b).2 _ _ ab Z).1
theorem RX{p q:aw}(Z:R.units+99<fp)(aE:wO I s.heap v p)(al:wO I s.heap aS q)(C:V.wb v aS):pW R s p q (V.bH (.Y v) (.Y aS)==.lt):=by obtain⟨ab,ac,bo⟩:=aE;obtain⟨Y,X,W⟩:=al;exact pW.y2 (hE ab) (hE Y) (er (dP _ _) Z) (Kb (by rw[zQ];exact Z) (λa b C=>Kk (by rw[zQ];exact Z) a b C) bo W C ac X ((jt ..)▸(jt ..)▸y))
inductive Al(I:cw)(h:cv):V->aw->Prop
|mk {i:Int} {Y Z:List V} {t:aZ} {wh:mQ} {p q:aw} {n:Nat}:h.get? t=A (jU #[.int i wh,p,q] n)->wO I h Y p->wO I h Z q->Al I h (.Y [.X i,.Y Y,.Y Z]) (.ref t)
theorem Y_{k bI:V}{p q:aw}(H:R.units+100<fp)(z:Al I s.heap k p)(Z:Al I s.heap bI q)(C:V.ok k bI):yO R s (tuples' ak) p q (V.bH k bI==.lt):=by
 obtain⟨ab,ac,bo⟩:=z;obtain⟨c,L,F⟩:=Z;rename_i i Y h t wh p q n j P g fN J r u f;have v:R.units+99<fp:=pd H;obtain⟨G,e,C⟩:=C;cases e;intro prog w E af Z;refine kat_lt ab rfl c rfl<|On ((DQ i j▸EqAt.int_int _ _ _ _:EqAt R s (.int i wh) (.int j J) (V.dE (.X i) (.X j))) prog w _ _ ?_);have b:∀{x Q:V} {ar bD:List V},(V.hA (x::ar) (Q::bD)==.lt)=(ec (V.bH x Q) (V.hA ar bD)==.lt):=y;rw[show(V.bH (.Y [.X i,.Y Y,.Y h]) (.Y [.X j,.Y P,.Y g])==.lt)=(V.hA [.X i,.Y Y,.Y h] [.X j,.Y P,.Y g]==.lt)from y,b]at Z;cases al:V.dE (.X i) (.X j)with
 |false=>
  refine Oo (oneLt_int ?_);rw[←Qk];cases X:V.bH (.X i) (.X j)with
  |eq=>exact aG (V.uc (n:=0) y X) (V.mX.mp al)
  |lt=>rw[X]at Z;exact Z
  |gt=>rw[X]at Z;exact Z
 |true=>
  have e:=V.fE.mp al;rw[e,V.xE]at Z;have cx:=C.1 e;refine Oq (RH (i:=0) Z ⟨_,RW v ac L,λa=>⟨_,RW v bo F,λd=>?_,λd=>?_⟩,λa=>?_⟩)
  ·rw[V.fE.mp a,V.fE.mp d,V.hA,V.xE,V.hA,V.xE];rfl
  ·have W:=V.mX.mp d;have bq:=V.fE.mp a;obtain⟨G,U,bO⟩:=(cx.1 bq).2 W;cases U;have:=RX v bo F bO;rw[bq,V.hA,V.xE,V.hA];cases X:V.bH (.Y h) (.Y g)with
   |eq=>obtain⟨_,_,M⟩:=bo;exact aG (V.uc (show V.gh 99 (.Y h)=ak from M) X) W
   |lt=>rw[X]at this;exact this
   |gt=>rw[X]at this;exact this
  ·have W:=V.mX.mp a;obtain⟨G,U,bO⟩:=cx.2 W;cases U;have:=RX v ac L bO;rw[V.hA];cases X:V.bH (.Y Y) (.Y P)with
   |eq=>obtain⟨_,_,M⟩:=ac;exact aG (V.uc (show V.gh 99 (.Y Y)=ak from M) X) W
   |lt=>rw[X]at this;exact this
   |gt=>rw[X]at this;exact this
inductive zf(z:aA)(aC:List V):List V->Prop
|hF {t u:Nat}:gO t u aC->V.iF 8 aC=ak->zf z aC aC
|Tq {fM:List V}:D aC=D fM->(∀(i:Nat) k bI,aC[i]?=A k->fM[i]?=A bI->∃j a b Y Z,k=.Y [.X j,.J a,.J b]/\bI=.Y [.X j,.Y Y,.Y Z]/\z[a]?=A (.W Y)/\z[b]?=A (.W Z)/\V.fu 98 Y=ak/\V.fu 98 Z=ak)->
   (∀a∈fM,∀b∈fM,V.ok a b)->zf z aC fM
theorem Y'{fM:List V}(ae:bL B I z s)(X:∀(i:Nat) k bI,aC[i]?=A k->fM[i]?=A bI->∃j a b Y h,k=.Y [.X j,.J a,.J b]/\bI=.Y [.X j,.Y Y,.Y h]/\z[a]?=A (.W Y)/\z[b]?=A (.W h)/\V.fu 98 Y=ak/\V.fu 98 h=ak)(Z:ci I s.heap aC aX):∀(i:Nat) bI H,fM[i]?=A bI->aX[i]?=A H->Al I s.heap bI H:=λi bI H l W=>by
 have aB:i<D aC:=Z.length▸(hZ.mp W).1;refine bp λP=>?_;obtain⟨aI,e,r⟩:=Z.get.2 i (fO aB);obtain rfl:=dk (W.symm.trans e);obtain⟨j,a,b,Y,h,lQ,rfl,aE,al,f,d⟩:=X i _ bI (fO aB) l;rw[lQ]at r;obtain⟨t,ai,n,rfl,_,m,C⟩:=r;obtain⟨O,J,o,⟨wh,rfl⟩,g,cK,bq,ac,U,Q,M,bo,L⟩:=C;refine P ?_;have F:ai=#[.int j wh,g,U]:=FW.mp (by rw[o,bq,M,L]);refine .mk (wh:=wh) (p:=g) (q:=U) (F▸m) ?_ ?_
 ·exact ae.ie aE ac λx ar k c cL dw=>.mk cL dw f
 ·exact ae.ie al bo λx ar k c cL dw=>.mk cL dw d
theorem ci.hM:∀{l:List V} {aX:List aw},V.iF 8 l=ak->ci I h l aX->(∀b ar k,h.get? b=A (jU ar k)->au.get? b=A (jU ar k)/\b∉fq bF)->ci bF au l aX:=by
 intro l;induction l with
 |nil=>intro aX _ r _;exact r
 |cons x l F=>intro aX Z r k;obtain⟨H,aX,rfl,ab,ac⟩:=r;exact⟨H,aX,rfl,cf.El (n:=8) (pD Z).1 ab k,F (pD Z).2 ac k⟩
theorem zf.asks{fM:List V}(K:zf z aC fM)(C:R.units+100<fp)(ae:bL B I z s)(J:ci I s.heap aC aX):FX B R s fM aX:=by
 cases K with
 |hF K _=>exact K.asks C J
 |Tq Y X Z=>
  have W:=Y' ae X J;have U:=Y.symm.trans J.length;have p:∀{i},i<D fM->Al I s.heap (fM.getD i .bM) (aX.getD i .none)/\fM.getD i .bM∈fM:=λaB=>by
   rw[la,la,fO aB,fO (U▸aB)];exact⟨W _ _ _ (fO aB) (fO (U▸aB)),pV aB⟩
  refine⟨U,λac E af q=>?_⟩;have a:∀(dB:List V) (aX:List aw),D dB=D aX->(∀(i:Nat) bI H,dB[i]?=A bI->aX[i]?=A H->Al I s.heap bI H)->∃cd,KatTups s.heap aX cd/\D cd=D dB/\∀f∈cd,∃i t,f=.int i t:=by
   intro dB;induction dB with
   |nil=>intro aX Y _;obtain rfl:=ko Y.symm;exact⟨[],KatTups.nil,rfl,λx h=>absurd h nv⟩
   |cons k dB F=>
    intro aX Y h;cases aX with
    |nil=>exact aG Y (iP _)
    |cons H aX=>
     refine bp λP=>?_;refine(F aX (ip Y) λi=>h (i+1)).elim λcd l=>l.elim λt r=>r.elim λe L=>?_;obtain⟨cL,_,_⟩:=h 0 k H y y;refine P ?_;refine⟨_::cd,KatTups.cons cL y y y t,bA (·+1) e,λf o=>?_⟩;cases o with
     |head=>exact⟨_,_,y⟩
     |tail _ o=>exact L f o
  refine bp λP=>?_;refine(a fM aX U W).elim λcd c=>c.elim λoH m=>m.elim λe L=>?_;refine P ?_;refine kat_kind (T:=.type "int") oH (e▸ef Hs ac) (λf o=>(L f o).elim λi n=>n.elim λt e=>e▸Looks.now) (by decide) (q _ λi j aB M=>?_);exact Y_ C (p aB).1 (p M).1 (Z _ (p aB).2 _ (p M).2)
inductive Wj(B:bT)(n f b:Nat)(H:V)(z:aA)(K:aA->Prop):Prop
|mk {k:V} {ah:aA} {l:List V}:dU B n f [H] z k ah->ah[b]?=A (.W l)->D l<=cZ->K (ah.set b (.W (l++[k])))->Wj B n f b H z K
def ze(B:bT)(n f b:Nat)(O:aA):List V->aA->Prop
|[],z=>O=z
|H::r,z=>Wj B n f b H z λaV=>ze B n f b O r aV
theorem v4{kD:aZ}{body:aw->PUnit->kc (ForInStep PUnit)}{af:PUnit->aN->Prop}(u:rm R n)(al:∀x s (az:aN->Prop),bb (ct B) R (ja (.ref (B.fn f)) [x]) (λk aJ=>bb (ct B) R (XT (.ref kD) (·.push k)) (λ_ A0=>az A0) E aJ) (λ_ _=>False) s->bb (ct B) R (body x ⟨⟩) (λr aJ=>r=.yield ⟨⟩/\az aJ) E s):∀(l:List V) (aX:List aw) (I:cw) (z O:aA) (s:aN),ze B n f b O l z->bL B I z s->ci I s.heap l aX->I[b]?=A (kD,aj)->(∀bF aJ,bL B bF O aJ->bB [] I s.heap bF aJ.heap->af ⟨⟩ aJ)->bb (ct B) R (forIn aX PUnit.unit body) af E s:=by
 intro l;induction l with
 |nil=>intro aX I z O s e ae r g q;obtain rfl:=r;cases(e:O=z);exact bh (q I s ae bB.dd)
 |cons H l F=>
  intro aX I z O s e ae r g q;refine bp λP=>?_;obtain⟨X,ab,ac,N⟩:=e;rename_i h A2 w;obtain⟨aI,aX,rfl,J,cK⟩:=r;refine P ?_;rw[wJ];refine ap (jb (al aI s (λZ=>∃t,bL B t (A2.set b (.W (w++[h]))) Z/\bB [] I s.heap t Z.heap) (X.wp u ae (cH:=[aI]) ⟨aI,[],y,J,y⟩ λp A1 L i M W=>i.W ab λd ar k o cL dw=>?_)) (λr Z c=>?_) λ_ _ x=>x)
  ·refine bp λP=>?_;cases(M.at g).symm.trans o;refine P ?_;have x:=i.xY (aJ:={L with heap:=L.heap.update kD (fW λar=>ar.push p)}) ab o (kJ ..) (Dq (n:=k) cL λar=>ar.push p) (by
    rw[yN];exact ci.append (G:=[h]) (FN:=[p]) ⟨p,[],y,W,y⟩ dw) y y
   have U:=mF ac;rw[←dw.size]at U;exact xd cL y ⟨A1,x.1,M.trans x.2⟩ U (by rw[yM];exact dn U)
  ·refine bp λP=>?_;obtain⟨rfl,t,a,Y⟩:=c;exact P<|F aX t _ O Z N a (cK.fl Y) (Y.at g) λbF aJ hc j=>q bF aJ hc (Y.trans j)
end
section
variable{c:eT} {s:aN} {aC ar:List V} {w x:V} {t u:Nat}
section
variable{U:aZ} {k:Nat}
theorem Kp{b:aZ}(al:b∈fq (I++[(U,aj)])):b∈fq I\/b=U:=by rw[uj,vO]at al;exact(ew.mp al).imp id cB.mp
theorem j8{ar:Array aw}{k:Nat}:ki (gp ar k):=⟨λx x x q=>aG q (by decide:¬Value.type "list"=Value.type "tuple"),λx q=>(nomatch q)⟩
theorem Pz(X:h.get? U=A (gp bD k))(W:hx U h au)(a:aZ)(C:hb)(j:a∉fq I)(Y:h.get? a=A C)(aa:¬ki C):a∉fq (I++[(U,aj)])/\au.get? a=A C:=
 have Z:a≠U:=λe=>aa (dk ((e▸Y).symm.trans X)▸j8)
 ⟨λal=>(Kp al).elim j Z,(W.2 a Z).trans Y⟩
theorem cf.adopt(Z:h.get? U=A (gp bD k))(Y:hx U h au){H:V}(r:cf I h H aI):cf (I++[(U,aj)]) au H aI:=cf.mH (Pz Z Y) (λa G e=>(jY (hZ.mp e).1).trans e) r
theorem ci.adopt(Z:h.get? U=A (gp bD k))(Y:hx U h au){l:List V}(r:ci I h l Z2):ci (I++[(U,aj)]) au l Z2:=ci.mH (Pz Z Y) (λa G e=>(jY (hZ.mp e).1).trans e) r
theorem bL.adopt(ae:bL B I z s)(S:bB [] gA fS.heap I s.heap)(aR:fS.heap.get? U=aj)(n:s.heap.get? U=A (gp bD k))(P:hx U s.heap aJ.heap)(J:U∉fq I)(Y:(U==vo)=aW)(h:B.aR.get? U=aj)
  {ar:Array aw}(u:aJ.heap.get? U=A (gp ar bI))(M:ci I s.heap l ar.toList)(F:aJ.gens=s.gens)(v:aJ.os=s.os)(q:iy B gA fS (z++[.W l]) (.J (D z)) af):af (.ref U) aJ:=by
 have t:∀{b:aZ} {C:hb},fS.heap.get? b=A C->b≠U:=λe q=>iH aR (q▸e);refine q _ (I++[(U,aj)]) aJ ⟨by rw[cp,cp,ae.J];rfl,λb x W=>?_,?_,λb j i Z bq p c X=>?_,λb al=>(Kp al).elim (ae.mG b) λe=>e▸Y,λb C e=>(P.2 b λq=>iH h (q▸e)).trans (ae.fZ b C e),F.trans ae.gens,v.trans ae.os,ae.good⟩
  ⟨S.pre.elim λiW e=>⟨iW++[(U,aj)],e▸(ha ..)▸y⟩,λb C al e=>(S.gf b C al e).elim λdX Z=>⟨dX,(P.2 b (t e)).trans Z⟩,λb ab ac=>(Kp ab).elim (λab=>S.fresh b ab ac) λe=>⟨e▸aR,afk⟩,λb C ab ac e=>(P.2 b (t e)).trans (S.jr b C ab ac e)⟩ ⟨_,ae.X,y⟩
 ·by_cases al:b<D z
  ·rw[jY al]at W;obtain⟨G,g,M⟩:=ae.objs b x W;exact⟨G,(jY (ae.J▸al)).trans g,M.qI (λd d r=>r.adopt n P) λc X=>P.2 c λe=>J (e▸rP g X)⟩
  ·rw[iN (ib al)]at W;have aR:b-D z=0:=wQ.mp (hZ.mp W).1;rw[aR]at W;obtain rfl:=dk W;obtain rfl:=mh (Da aR) (ib al);exact⟨(U,aj),ae.X,.W u (M.adopt n P)⟩
 ·rw[uj,vO];exact oX.mpr ⟨ae.nodup,jm ..,λa aE b al L=>J ((show U∈fq I from(L.trans (cB.mp al):a=U)▸aE))⟩
 ·by_cases al:b<D z
  ·rw[jY (ae.J▸al)]at Z;rw[jY al]at bq;exact ae.cS b j i Z bq p c X
  ·rw[iN (ae.J▸ib al)]at Z;obtain rfl:=cB.mp (io Z);exact cB.mp X▸h
end
theorem v1{U kD:aZ}{b o:Nat}{G:List (V×V)}(H:R.units+100<fp)(ae:bL B I z s)(e:bB [] gA fS.heap I s.heap)(g:I[b]?=A (kD,aj))(aE:z[b]?=A (.W aC))(t:s.heap.get? kD=A (gp bN Z8))(P:ci I s.heap aC bN.toList)(aR:fS.heap.get? U=aj)(n:s.heap.get? U=A (gp #[] o))(J:U∉fq I)(Y:(U==vo)=aW)(h:B.aR.get? U=aj)(K:zf z aC fM)(S:nH fM l G)(Z:ci I s.heap l aX){af:aw->aN->Prop}(q:iy B gA fS (z.set b (.W [])++[.W (G.map (·.2))]) (.J (D z)) af):bb (ct B) R (ksk_end U aW aX.toArray o (.ref kD) bN) (λf aJ=>f=.done (.ret .none)/\af (.ref U) aJ) E s:=by
 have j:=K.asks H ae P;have bq:bN.size<=mS:=by
  rw[←jt,←j.1];exact ma S.small
 have v:=kJ s.heap kD (fW λa=>(#[]:Array aw));have x:=ae.xY (aJ:={s with heap:=s.heap.update kD (fW λa=>(#[]:Array aw))}) (dB:=[]) (ar:=#[]) aE g v (sH t λa=>#[]) y y y;have c:=(v.2 U (λq=>J (q▸rP g (.head _)))).trans n;show bb (ct B) R (do
   let fm←if aX.toArray.size<2 then ey general' else HF bN.toList.toArray
   let r←(if aX.toArray.size<2 then ey ()else Nz).run (SortSt.mk' fm (bN.toList.toArray.zip aX.toArray) #[] 7 aj)
   Nx U aW o (.ref kD) r.2) _ E s
 refine PH S j Z.length.symm λM p X O W w=>?_;have fin:af (.ref U) {s with heap:=(s.heap.update kD (fW λa=>(#[]:Array aw))).update U (fW λa=>(p.toList.map λi=>aX.getD i Value.none).toArray)}:=
  x.1.adopt (aJ:={s with heap:=(s.heap.update kD (fW λa=>(#[]:Array aw))).update U (fW λa=>(p.toList.map λi=>aX.getD i Value.none).toArray)}) (e.trans x.2) aR c (kJ ..) J Y h (sH c λa=>_) ((S.dj X O Z).fl x.2) y y (by rwa[lJ])
 clear q x v e j;show bb _ _ (Nx U aW o (.ref kD) M) _ _ _;unfold Nx;dsimp only;rw[w];refine ap (xd t y ?_ bq (cW _));refine ap (xn (ap (HH c y ?_)));simp only[ws,if_false];refine ap (xd (s:={s with heap:=s.heap.update kD (fW λa=>(#[]:Array aw))}) c y ?_ (cW _) (by rw[mN,bK,jt,X.size];exact lg (ma S.small)));rw[W];simp only[bne_self_eq_false,ws,if_false];exact bh ⟨y,fin⟩
theorem aaM{U:aZ}{G:List (V×V)}(B1:rm R n)(A7:R.units+100<fp)(ae:bL B I ah s)(g:bB [] gA fS.heap I s.heap)(L:ci I s.heap l aX)(aR:fS.heap.get? U=aj)(Z:s.heap.get? U=A (gp aX.toArray Z8))(J:U∉fq I)(A9:(U==vo)=aW)(N:B.aR.get? U=aj)(X:ze B n f (D ah) aV l (ah++[.W []]))(a:aV[D ah]?=A (.W aC))(K:zf aV aC fM)(S:nH fM l G)(q:iy B gA fS (aV.set (D ah) (.W [])++[.W (G.map (·.2))]) (.J (D aV)) af):bb (ct B) R (ksk_tree U (.ref (B.fn f)) aW) (λf aJ=>f=.done (.ret .none)/\af (.ref U) aJ) E s:=by
 have A1:D aX<=mS:=L.length▸(S.J ..)▸ma S.small;have A0:=kJ s.heap U (fW λz=>(#[]:Array aw));refine bp λP=>?_;obtain⟨M,F⟩:∃M,(s.heap.update U (fW λz=>(#[]:Array aw))).get? U=A (gp #[] M):=⟨_,sH Z λz=>#[]⟩
 refine P ?_;have W:hn [U] s.heap:=mv Z ⟨λz z z=>(by decide:Value.type "list"≠.type "tuple"),λz q=>(nomatch q)⟩;have x:=ae.moved (cM:=[U]) (au:=s.heap.update U (fW λz=>(#[]:Array aw))) (λb al=>cB.mp al▸⟨J,N⟩) W (λb C al e=>(A0.2 b λq=>al (q▸.head _)).trans e) s.toks;have O:=g.forget x.2 λb al=>cB.mp al▸aR;have t:=L.Y x.2 W;refine ap (HG Z y (ap (xd Z y ?_ ((mN ..)▸A1) (cW _))));have i:bL B I ah {s with heap:=s.heap.update U (fW λz=>(#[]:Array aw))}:=x.1;clear x W A0 L g ae Z;generalize s.heap.update U (fW λz=>(#[]:Array aw))=ab at*;refine ap (HH F y (ap (xo ?_ A1)));refine ap (Aj ?_ (cW _));refine eX ?_;have Y:bL B I ah {s with heap:=ab.push {cls:=.type "tuple",data:=.seq aX.toArray}}:=i.gL (fR _ _) y y;have h:bB [] I ab I (ab.push {cls:=.type "tuple",data:=.seq aX.toArray}):=bB.push _;have r:=fR ab {cls:=.type "tuple",data:=.seq aX.toArray} _ _ F;show bb _ _ (ksk_rest U (.ref (B.fn f)) aW aX.toArray M (.ref (ab.push {cls:=.type "tuple",data:=.seq aX.toArray}).objs.size)) _ _ {s with heap:=(ab.push {cls:=.type "tuple",data:=.seq aX.toArray}).push {cls:=.type "list",data:=.seq ([]:List aw).toArray}};generalize ab.push {cls:=.type "tuple",data:=.seq aX.toArray}=c at*;refine bp λP=>(Y.newList (l:=[]) (ar:=([]:List aw).toArray) y s.toks).elim λA2 B0=>B0.elim λj z=>P ?_;have d:(I++[(c.objs.size,(aj:Option aZ))])[D ah]?=A (c.objs.size,aj):=Y.X;have k:=fR c {cls:=.type "list",data:=.seq ([]:List aw).toArray} _ _ r;have u:U∉fq (I++[(c.objs.size,aj)]):=j.qB J r;have A3:=O.trans (h.trans j);have p:=(t.fl h).fl j;clear j Y h r i F t O;generalize c.push {cls:=.type "list",data:=.seq ([]:List aw).toArray}=A4 at*;generalize c.objs.size=kD at*;refine ap (li ?_);rw[MO];refine ap (v4 (E:=E) (kD:=kD) B1 (λx B7 az A8=>?_) l aX _ _ _ {s with heap:=A4} X A2 p d λB9 B2 v w=>?_)
 ·refine ap (vq (jb A8 (λB5 B2 X=>?_) λz z A6=>A6.elim));exact ap (jb X (λz B8 A5=>bh ⟨y,A5⟩) λz z x=>x)
 ·refine v.W a λB3 B6 B4 H cL dw=>bp λP=>?_;cases(w.at d).symm.trans H;exact P<|ap (HG cL y (v1 A7 v (A3.trans w) H a cL dw aR (w.jr U _ u afk k) (w.qB u k) A9 N K S (p.fl w) q))
theorem Mg{G:List (V×V)}(r:bW B n e N z (.J a) ah)(aE:ah[a]?=A (.W l))(B0:ze B n f (D ah) aV l (ah++[.W []]))(A8:aV[D ah]?=A (.W aC))(K:zf aV aC fM)(S:nH fM l G):bW B n (.uA e f) N z (.J (D aV)) (aV.set (D ah) (.W [])++[.W (G.map (·.2))]):=λc bu R E ay st I s af Z aD q=>by
 refine Fa.bX Z λg aK k B7 Z=>?_;obtain⟨Z,aY⟩:=bx Z;obtain⟨F,w⟩:=bx Z;refine gz.bX F λQ B6 F=>?_;obtain⟨A5,h⟩:=bx F;obtain rfl:=dA A5;obtain⟨A0,Y⟩:=bx w;refine ji.bX aY λp aY=>?_;obtain⟨W,A1⟩:=bx aY;obtain⟨B4,A4,B5⟩:=k;have A7:B4=A ("key":bj):=dA A0;subst A7;clear A0 Z w;revert Y;refineλY=>(gz.bX (P:=λA4=>bb (ct B) R (lh (.Call (.Name "sorted" B6) [p] [⟨A "key",A4,B5⟩] B7) ay) af E s) Y λba C2 Y=>?_)
 obtain⟨A2,A3⟩:=bx Y;obtain⟨ab,_⟩:=aD.dj.good.JC f ba (dA A2);refine ap (Kh aD.fr aD.dj h pw.mem pw.AH pw.nm (callWith_kw ?_ ((qF W)▸y) (yn (wf W))));refine vf (r c p R E ay st I s _ A1 aD λaI B9 L i J ji=>?_) (qF W);refine xf (kws_cons (Ew (aD.fr.Y J) i A3 ab (kws_nil ?_)));show bb (ct B) R (ja (.builtin "sorted") [aI] [(jA "key",.ref (B.fn f))]) af E L;have q:=q.after J;have u:=aD.room;clear aD r A3 A2 A1 W Y h ab J;refine i.ie aE ji λC1 ar M C0 B1 O=>call_function_entry_kw XK XM XJ (ksk_s1 _ _) ?_;have ba:D l<=mS:=S.J▸ma S.small;refine ap (m:=YM "sorted" 1 1 _) (bh (ap (Qs (B:=B) (R:=R.in1) B1 O (O.size▸ba) _ _ λab dh A6 dB aX bX aY H t=>?_)));subst bX;refine ap (Aj ?_ (t.length▸ba));have M:∀b C,L.heap.get? b=A C->(ab.push {cls:=.type "list",data:=.seq aX.toArray}).get? b=A C:=λb C e=>fR _ _ _ _ (aY b C e);have j:(ab.push {cls:=.type "list",data:=.seq aX.toArray}).get? ab.objs.size=A (gp aX.toArray 0):=gG _ y;generalize ab.push {cls:=.type "list",data:=.seq aX.toArray}=ac at*;have v:L.heap.get? ab.objs.size=aj:=qw H;have B3:=i.Uh H;generalize ab.objs.size=U at*;refine ap (eX (wpAny_call_entry_kw XO ⟨_,j,y⟩ XI ?_ (ksk_l1 _ _)));have B8:rm R.in1.in1 n:=⟨u.1,(show R.depth+3*n+7<DA from pd u.2.1),by rw[zQ,zQ];exact er ((jZ R.units 2 (40*n))▸gE (aF y:422<=440) _) u.2.2⟩
 refine jb (aaM (s:={L with heap:=ac,toks:=dh,drawn:=A6}) (fS:=L) (gA:=B9) (E:=E) B8 (kP (kP (b:=200) u.Ux (aF y)) (aF y)) (i.gL M y y) (bB.gL M) (t.fl (bB.gL M)) v j (i.hM v) B3 (i.wa v) B0 A8 K S q) (λf aJ A9=>?_) λd d x=>x;obtain⟨rfl,B2⟩:=A9;exact⟨_,y,bh ⟨_,y,B2⟩⟩
end
section
noncomputable def Pl(G:Nat):kK:={mask:=G,place:=#[],dummies:=#[],finger:=0,led:=aW,moves:=0,plain:=aW}
noncomputable def oy(G:Nat)(p:jp):jp:=(Pl G).advance p
noncomputable def ua(G i p:Nat):jp:={j:=i,more:=xk G i-i,i,perturb:=p,dummy:=aj}
noncomputable def oK(G:Nat)(h:Int):jp:=ua G (qf h %(G+1)) (qf h)
inductive qT(G:Nat)(eZ:Nat->Prop)(a:jp):jp->Prop
|nil:qT G eZ a a
|snoc (b:jp):qT G eZ a b->eZ b.j->qT G eZ a (oy G b)
inductive pm(G:Nat)(eZ:Nat->Prop)(j:Nat):jp->Prop
|my (a:jp):a.j=j->pm G eZ j a
|X (a:jp):eZ a.j->pm G eZ j (oy G a)->pm G eZ j a
inductive oi(G:Nat)(eZ:Nat->Prop):Nat->jp->Prop
|my (n:Nat) (a:jp):¬eZ a.j->oi G eZ (n+1) a
|X (n:Nat) (a:jp):oi G eZ n (oy G a)->oi G eZ (n+1) a
inductive wW(G:Nat)(eZ:Nat->Prop):Nat->Nat->Nat->Prop
|my (n i p:Nat):¬eZ i->wW G eZ (n+1) i p
|X (n i p:Nat):wW G eZ n (sM G i p).1 (sM G i p).2->wW G eZ (n+1) i p
variable{i k lo aB:Nat} {eZ Ky:Nat->Prop} {a b q st:jp} {t:kK} {h:Int}
theorem pm.mono(g:∀j,eZ j->Ky j)(x:pm G eZ j a):pm G Ky j a:=by
 induction x with
 |my _ e=>exact .my _ e
 |X _ C _ F=>exact .X _ (g _ C) F
theorem qT.to(x:qT G eZ a b)(Q:pm G eZ j b):pm G eZ j a:=by
 induction x with
 |nil=>exact Q
 |snoc _ _ C F=>exact F (.X _ C Q)
theorem oi.mono(x:oi G eZ n a):∀{k},n<=k->oi G eZ k a:=by
 induction x with
 |my _ _ C=>intro k Z;obtain⟨k,rfl⟩:=Nat.exists_eq_add_of_lt (ef (iC _) Z);rw[hu];exact .my _ _ C
 |X _ _ _ F=>intro k Z;cases k with
  |zero=>exact aG Z (qb _)
  |succ k=>exact .X _ _ (F (lc Z))
theorem aeT{j e i p:Nat}:oy G {j,more:=e+1,i,perturb:=p,dummy:=aj}={j:=j+1,more:=e,i,perturb:=p,dummy:=aj}:=y
theorem aeS{j i p:Nat}:oy G {j,more:=0,i,perturb:=p,dummy:=aj}=ua G (sM G i p).1 (sM G i p).2:=y
theorem TF(G i:Nat):xk G i-i<=9/\(i<=G->i+(xk G i-i)<=G):=by
 unfold xk;by_cases h:i+9<=G
 ·rw[cg h,CZ];exact⟨cu _,λx=>h⟩
 ·rw[bV h,kb];exact⟨cW _,id⟩
theorem D_(x:oi G eZ k (ua G (sM G i p).1 (sM G i p).2)):∀d j,oi G eZ (k+d+1) {j,more:=d,i,perturb:=p,dummy:=aj}
|0,j=>.X _ _ x
|d+1,j=>.X _ _ (D_ x d (j+1))
theorem wW.near(x:wW G eZ n i p):oi G eZ (10*n) (ua G i p):=by
 induction x with
 |my n i p C=>exact(oi.my 9 _ C).mono (Nat.le_mul_of_pos_right 10 (iC n))
 |X n i p _ F=>exact(D_ F _ _).mono (dn (gE (TF G i).1 (10*n)))
noncomputable def EQ(G:Nat):Nat->Nat->List Nat
|0,_=>[]
|n+1,i=>i::EQ G n ((i*5+1) %(G+1))
theorem M?(C:¬eZ j):∀n i,j∈EQ G n i->wW G eZ n i 0
|0,i,h=>by cases h
|n+1,i,h=>by
 rcases ee.mp h with rfl|h
 ·exact .my _ _ _ C
 ·exact .X _ _ _ (M? C n _ h)
def sz(G:Nat):Prop:=G=7\/G=31
theorem M!(g:sz G):∀i,i<G+1->∀j,j<G+1->j∈EQ G (G+1) i:=by
 have s:∀G,((fz (G+1)).all λi=>(fz (G+1)).all λj=>(EQ G (G+1) i).contains j)=ak->∀i,i<G+1->∀j,j<G+1->j∈EQ G (G+1) i:=λG h i aB j M=>
  List.contains_iff_mem.mp (mf.mp (mf.mp h i (hk.mpr aB)) j (hk.mpr M))
 refine g.elim (λZ=>?_) λY=>?_
 ·obtain rfl:=Z;exact s 7 (by decide+kernel)
 ·obtain rfl:=Y;exact s 31 (by decide+kernel)
theorem C?(g:sz G)(M:j<G+1)(C:¬eZ j):∀n i p,i<G+1->p<32^n->wW G eZ (n+(G+1)) i p
|0,i,p,aB,z=>by
 obtain rfl:p=0:=wQ.mp z;rw[hu];exact M? C _ _ (M! g i aB j M)
|n+1,i,p,aB,z=>by
 rw[uZ];refine .X _ _ _ (C? g M C n _ _ (wU _ (iC _)) (Nat.div_lt_of_lt_mul ?_));rw[Xe];exact z
theorem d'(h:Int):qf h<32^13:=(MA (VW _ (by decide))).mpr (Int.lt_trans (VV _ (by decide)) (by decide))
theorem Ss(g:sz G)(M:j<G+1)(C:¬eZ j)(h:Int):wW G eZ (G+14) (qf h %(G+1)) (qf h):=by have:=C? g M C 13 _ _ (wU (qf h) (iC G)) (d' h);rw[hN]at this;exact this
theorem D'(g:sz G)(M:j<G+1)(C:¬eZ j)(h:Int):oi G eZ (10*sN G) (oK G h):=(Ss g M C h).near.mono (nx 10 (ka _))
theorem c0{ar:Array Nat}(ab:∀i,i<n->ar.getD i j<j)(ac:∀i,n<=i->i<ar.size->¬ar.getD i j<j):∀f lo aB,aB<=lo+f->lo<=n->n<=aB->aB<=ar.size->Od ar j f lo aB=n:=λf=>by
 induction f with
 |zero=>exactλlo aB a b c d=>mh b (aq c a)
 |succ f F=>
  intro lo aB a b c d;by_cases Z:lo<aB
  ·refine bp λP=>(Sl Z).elim λu B=>P<|(cg Z).trans ?_;generalize(lo+aB)/2=m at u B;show(if ar.getD m j<j then Od ar j f (m+1) aB else Od ar j f lo m)=n;by_cases g:ar.getD m j<j
   ·exact(cg g).trans (F _ _ (aq a (aq (iO u (f+1)) (fi (jZ m f 1)))) (tR λq=>ac m q (ef B d) g) c d)
   ·exact(bV g).trans (F _ _ (hl (ef B a)) b (ib λq=>g (ab m q)) (aq (dK B) d))
  ·exact(bV Z).trans (mh b (aq c (ib Z)))
theorem PN{br bG:List Nat}(ab:∀x∈br,x<j)(ac:∀x∈bG,j<=x):zY (br++bG).toArray j=D br:=by
 refine c0 (λi aB=>?_) (λi aB Z=>?_) _ _ _ (gF _ _) (cW _) (by simp) (cu _)
 ·rw[od,pU,jY aB,fO aB];exact ab _ (pV aB)
 ·rw[od,pU,iN aB];cases e:bG[i-D br]? with
  |none=>exact ic _
  |some x=>exact fP.mpr (ac x (io e))
theorem aaO(j:Nat){bw:Type}(f:bw->Nat){l:List bw}(X:l.Pairwise λx Q=>f x<f Q):∃br bG,l=br++bG/\(∀x∈br,f x<j)/\∀x∈bG,j<=f x:=by
 induction X with
 |nil=>exact⟨[],[],y,λz h=>aG h nv,λz h=>aG h nv⟩
 |@cons x l ab _ F=>
  by_cases Z:f x<j
  ·exact bp λP=>F.elim λbr W=>W.elim λbG R=>R.elim λe U=>U.elim λa b=>P<|⟨x::br,bG,bA (x::·) e,qW.mpr ⟨Z,a⟩,b⟩
  ·exact⟨[],x::l,y,λz h=>aG h nv,qW.mpr ⟨ib Z,λQ Y=>aq (ib Z) (dK (ab Q Y))⟩⟩
structure qp(t:kK)(be:List Nat):Prop where
 mD:t.place=be.toArray
 vK:t.dummies=#[]
 yq:be.Pairwise (·<·)
theorem qp.below{br bG:List Nat}(T:qp t (br++bG))(ab:∀x∈br,x<j)(ac:∀x∈bG,j<=x):zY t.place j=D br:=by rw[T.mD];exact PN ab ac
theorem qp.live{br bG:List Nat}(T:qp t (br++j::bG)):t.slot j=.live (D br):=by
 have I:=uX.mp T.yq;unfold YD;rw[T.below (λx Z=>I.2.2 x Z j sx) λx Z=>by
  refine(ee.mp Z).elim (λY=>?_) λZ=>?_
  ·obtain rfl:=Y;exact cu _
  ·exact dK ((qX.mp I.2.1).1 x Z)]
 have:t.place[D br]?=A j:=by rw[T.mD,pU,iN (cu _),kb];rfl
 simp only[this,beq_self_eq_true,if_true]
theorem qp.free{be:List Nat}(T:qp t be)(M:j∉be):t.slot j=.empty:=by
 unfold YD;rw[bV,T.vK]
 ·rfl
 ·intro e;rw[beq_iff_eq,T.mD,pU]at e;exact M (io e)
theorem PA(h:q.dummy=aj):(oy G q).dummy=aj:=by
 show((Pl G).advance q).dummy=aj;unfold aeF;split
 ·exact h
 ·exact h
theorem Rq{be:List Nat}{vV:Nat->Int}{bf:jp->Prop}{az:Option YA->Prop}(T:qp t be)(Y:∀q,bf q->q.dummy=aj)(R:∀q (br bG:List Nat),bf q->be=br++q.j::bG->vV (D br)≠h->bf (oy t.mask q))(W:∀q,bf q->q.j∉be->az (A (.empty q.j aj)))(c:∀q k (br bG:List Nat),bf q->oi t.mask (·∈be) k (oy t.mask q)->k<f->be=br++q.j::bG->vV (D br)=h->az (A (.candidate q.j (D br) (oy t.mask q)))):∀n a,n<=f->oi t.mask (·∈be) n a->bf a->∀g,n<=g->az (HX t vV h g a):=by
 intro n a U x;induction x with
 |my n a C=>
  intro Z g Q;cases g with
  |zero=>exact aG Q (qb _)
  |succ g=>
   conv in HX _ _ _ _ _=>whnf
   rw[T.free C];show az (A (.empty a.j a.dummy));rw[Y a Z];exact W a Z C
 |X n a x F=>
  intro Z g Q;cases g with
  |zero=>exact aG Q (qb _)
  |succ g=>
   conv in HX _ _ _ _ _=>whnf
   by_cases C:a.j∈be
   ·refine bp λP=>(List.append_of_mem C).elim λbr E=>E.elim λbG e=>P ?_;rw[(qp.live (e▸T))];show az (if vV (D br)==h then A (.candidate a.j (D br) (oy t.mask a))else HX t vV h g (oy t.mask a));by_cases J:vV (D br)=h
    ·rw[cg (J.symm▸beq_self_eq_true h)];exact c a n br bG Z x U e J
    ·rw[bV λq=>J (beq_iff_eq.mp q)];exact F (jo U) (R a br bG Z e J) g (lc Q)
   ·rw[T.free C];show az (A (.empty a.j a.dummy));rw[Y a Z];exact W a Z C
end
section
variable{i k:Nat} {eZ Ky:Nat->Prop} {a b q:jp} {t:kK} {h:Int} {M:List (Nat×V×aw)} {x:aw} {az:Prop}
noncomputable def eV(w:eU)(e:Nat×V×aw):Int×aw:=(gS w e.2.1,e.2.2)
structure gX(w:eU)(t:kK)(M:List (Nat×V×aw)):Prop where
 uu:sz t.mask
 lA:qp t (M.map (·.1))
 room:D M<=t.mask
 reach:∀e∈M,pm t.mask (·∈M.map (·.1)) e.1 (oK t.mask (gS w e.2.1))
theorem gX.R_(T:gX w t M):gX w {t with plain:=aW} M:=⟨T.uu,⟨T.lA.mD,T.lA.vK,T.lA.yq⟩,T.room,T.reach⟩
theorem gX.Eg(T:gX w t M):t.fill=D M:=by unfold aeG;rw[T.lA.mD,T.lA.vK,mN,bK];rfl
theorem gX.kO(T:gX w t M):t.fits (M.map (eV w)).toArray.size=ak:=by unfold aeH;rw[T.Eg,T.lA.mD,mN,bK,mN,bK,wq];exact⟨beq_self_eq_true _,decide_eq_true T.room⟩
theorem gX.Rl(T:gX w t M):t.gaveWay=aW:=by unfold aeJ;rcases T.uu with h|h<;>rw[h]<;>rfl
theorem Rh{be:List Nat}(h:D be<=G):∃j,j<G+1/\j∉be:=bp λJ=>by have:=zr.length_le_of_subset (l₁:=fz (G+1)) (l₂:=be) λj Z=>bp λq=>J ⟨j,hk.mp Z,q⟩;rw[iA]at this;exact aG (aq this h) (Xg G)
theorem gX.near(T:gX w t M)(h:Int):oi t.mask (·∈M.map (·.1)) (10*sN t.mask) (oK t.mask h):=by refine bp λP=>?_;obtain⟨j,Z,C⟩:=Rh (be:=M.map (·.1)) (gu T.room);exact P<|D' T.uu Z C h
theorem RA{bw:Type}(br bG:List bw)(x:bw):HW (br++bG).toArray (D br) x=(br++x::bG).toArray:=by refine Vb ((aeO _ _ _).trans ?_);rw[WO y,List.drop_left' y]
theorem gX.put(T:gX w t M)(C:j∉M.map (·.1))(r:pm t.mask (·∈M.map (·.1)) j (oK t.mask (gS w H)))(I:D M+1<=t.mask)(k:∀fN p fb,t.put j=(fN,p)->gX w fN fb->fN.led=t.led->fN.mask=t.mask->fb.Perm ((j,H,x)::M)->HW (M.map (eV w)).toArray p (gS w H,x)=(fb.map (eV w)).toArray->az):az:=by
 refine(aaO j (λe:Nat×V×aw=>e.1) (oZ.mp T.lA.yq)).elim λbr X=>X.elim λbG R=>R.elim λe W=>W.elim λab ac=>?_;have al:zY t.place j=D br:=by
  rw[T.lA.mD,e,eI,PN,bK]
  ·exact CM.mpr ab
  ·exact CM.mpr ac
 have z:(br++(j,H,x)::bG).Perm ((j,H,x)::M):=e▸List.perm_middle;have g:∀i,i∈M.map (·.1)->i∈(br++(j,H,x)::bG).map (·.1):=λi aB=>(z.map _).mem_iff.mpr (tO _ aB);refine k _ _ (br++(j,H,x)::bG) y ⟨T.uu,⟨?_,?_,?_⟩,?_,λQ Y=>?_⟩ y y z ?_
 ·show HW t.place (zY t.place j) j=_;rw[al,T.lA.mD,e,eI,←bK (f:=(·.1)),RA,eI,jv]
 ·show(if aeK t.dummies j then _ else t.dummies)=_;rw[T.lA.vK];rfl
 ·have I:=T.lA.yq;rw[e,eI,uX]at I;rw[eI,jv,uX,qX];refine⟨I.1,⟨CM.mpr (λx Z=>qY (ac x Z) λq=>C (bJ.mpr ⟨x,e▸jl _ Z,q.symm⟩)),I.2.1⟩,λa aE=>qW.mpr ⟨?_,I.2.2 a aE⟩⟩;refine(bJ.mp aE).elim λQ U=>U.elim λY c=>?_;obtain rfl:=c;exact ab Q Y
 ·rw[z.length_eq];exact I
 ·rcases ee.mp (z.mem_iff.mp Y)with rfl|Y
  ·exact r.mono g
  ·exact(T.reach Q Y).mono g
 ·show HW _ (zY t.place j) _=_;rw[al,e,eI,←bK (f:=eV w),RA,eI,jv];rfl
theorem Rr:∀d e j,qT G eZ a {j,more:=d+e,i,perturb:=p,dummy:=aj}->(∀k,k<d->eZ (j+k))->qT G eZ a {j:=j+d,more:=e,i,perturb:=p,dummy:=aj}
|0,e,j,g,_=>by rw[hu]at g;exact g
|d+1,e,j,g,C=>by
 rw[uZ]at g;have:=Rr d e (j+1) (.snoc _ g (C 0 (iC _))) λk X=>by
  rw[uZ];exact C (k+1) (Xl X)
 rw[uZ]at this;exact this
theorem aah(G i:Nat):i<=xk G i:=by
 unfold xk;split
 ·exact dP _ _
 ·exact cu _
inductive GQ(G:Nat)(eZ:Nat->Prop)(a:jp)(r:Option Nat):Prop
|mk (q:jp):qT G eZ a q->q.j<G+1->¬eZ q.j->r=A q.j->GQ G eZ a r
theorem Ri(u:∀j,j<G+1->((eD.getD j (A 0)).isNone=ak↔¬eZ j))(aB:i<G+1)(g:qT G eZ a (ua G i p))(W:eZ i->qT G eZ a (ua G (sM G i p).1 (sM G i p).2)->GQ G eZ a (xj G eD f (sM G i p).1 (sM G i p).2)):GQ G eZ a (xj G eD (f+1) i p):=by
 have I:=(TF G i).2 (hl aB)
 conv in xj _ _ (f+1) _ _=>whnf
 rw[Nat.succ_sub (aah G i)];unfold ua at g;generalize xk G i-i=r at I g;have al:∀k,k<=r->i+k<G+1:=λk X=>pe (aq (gE X i) I);cases Z:(fz (r+1)).find? λk=>(eD.getD (i+k) (A 0)).isNone with
 |some d=>refine bp λP=>(List.find?_range_eq_some.mp Z).elim λY U=>U.elim λL c=>P ?_;have F:=hl (hk.mp L);rw[←tQ F]at g;refine .mk _ (Rr d (r-d) i g λk X=>Mc.mp λq=>?_) (al d F) ((u _ (al d F)).mp Y) y;have:=c k X;rw[(u _ (al k (aq (dK X) F))).mpr q]at this;exact aG this (by decide)
 |none=>have o:∀k,k<=r->eZ (i+k):=λk X=>Mc.mp λq=>MM.mp Z k (hk.mpr (pe X)) ((u _ (al k X)).mpr q);exact W (o 0 (cW _)) (.snoc _ (Rr r 0 i g λk X=>o k (dK X)) (o r (cu _)))
theorem m4(u:∀j,j<G+1->((eD.getD j (A 0)).isNone=ak↔¬eZ j))(x:wW G eZ n i p):i<G+1->qT G eZ a (ua G i p)->∀f,n<=f->GQ G eZ a (xj G eD f i p):=by
 induction x with
 |my n i p C=>
  intro aB g f Z;cases f with
  |zero=>exact aG Z (qb _)
  |succ f=>exact Ri u aB g λq=>aG q C
 |X n i p x F=>
  intro aB g f Z;cases f with
  |zero=>exact aG Z (qb _)
  |succ f=>exact Ri u aB g λz Y=>F (wU _ (iC _)) Y f (lc Z)
end
section
variable{i k:Nat} {t:kK} {h:Int} {M:List (Nat×V×aw)} {x:aw} {az:Prop} {aT:Nat->Int}
noncomputable def kj(G:Nat)(eD:Array (Option Nat)):List (Nat×Nat):=(fz (G+1)).filterMap λj=>(eD.getD j aj).map (j,·)
structure tL(G:Nat)(aT:Nat->Int)(k:Nat)(eD:Array (Option Nat)):Prop where
 BP:eD.size=G+1
 perm:((kj G eD).map (·.2)).Perm (fz k)
 reach:∀e∈kj G eD,pm G (·∈(kj G eD).map (·.1)) e.1 (oK G (aT e.2))
theorem JB{bw gq:Type}{f g:bw->Option gq}:∀{l:List bw},(∀x∈l,f x=g x)->l.filterMap f=l.filterMap g
|[],_=>y
|x::l,h=>by rw[zi,zi,h x sx,JB λQ Y=>h Q (tO _ Y)]
theorem Ke{e:Nat×Nat}:e∈kj G eD↔e.1<G+1/\eD.getD e.1 aj=A e.2:=by
 unfold kj;rw[WF];constructor
 ·rintro⟨j,Z,q⟩;obtain⟨k,X,rfl⟩:=lN.mp q;exact⟨hk.mp Z,X⟩
 ·rintro⟨ab,ac⟩;exact⟨e.1,hk.mpr ab,congrArg _ ac⟩
theorem y3(Y:eD.size=G+1)(Z:j<G+1):(eD.getD j (A 0)).isNone=ak↔¬j∈(kj G eD).map (·.1):=by
 have e:eD.getD j (A 0)=eD.getD j aj:=by
  rw[od,od,mI (Y▸Z)];rfl
 rw[e,Nr];constructor
 ·intro q h;obtain⟨e,U,rfl⟩:=bJ.mp h;rw[(Ke.mp U).2]at q;exact absurd q (gJ _)
 ·intro q;cases u:eD.getD j aj with
  |none=>rfl
  |some k=>exact aG (bJ.mpr ⟨(j,k),Ke.mpr ⟨Z,u⟩,y⟩) q
theorem y4(Y:eD.size=G+1)(Z:j<G+1)(C:¬j∈(kj G eD).map (·.1))(k:Nat):(kj G (eD.setIfInBounds j (A k))).Perm ((j,k)::kj G eD):=by
 have g:∀i,(eD.setIfInBounds j (A k)).getD i aj=if j=i then A k else eD.getD i aj:=λi=>by
  rw[od,od,Array.getElem?_setIfInBounds];by_cases e:j=i
  ·rw[cg e,cg e,cg (Y▸Z)];rfl
  ·rw[bV e,bV e]
 have J:eD.getD j aj=aj:=by
  cases u:eD.getD j aj with
  |none=>rfl
  |some k=>exact aG (bJ.mpr ⟨(j,k),Ke.mpr ⟨Z,u⟩,y⟩) C
 have z:=List.perm_cons_erase (hk.mpr Z);refine(z.filterMap _).trans (.trans ?_ ((z.filterMap _).symm.cons _));rw[zi,g,cg y,zi,J];refine .of_eq (bA ((j,k)::·) (JB λi aB=>?_));rw[g,bV (oh (zr.mem_erase_iff.mp aB).1)]
theorem tL.Y(W:sz G)(bf:tL G aT k eD)(X:k<=G):∃j,xj G eD (sN G) (qf (aT k) %(G+1)) (qf (aT k))=A j/\tL G aT (k+1) (eD.setIfInBounds j (A k)):=by
 refine bp λP=>?_;obtain⟨v,aR,gv⟩:=Rh (G:=G) (be:=(kj G eD).map (·.1)) (by
  have:=bf.perm.length_eq;rw[bK,iA]at this;rw[bK,this];exact X)
 obtain⟨q,g,R,C,e⟩:=m4 (λj Y=>y3 bf.BP Y) (Ss W aR gv (aT k)) (wU _ (iC _)) .nil (sN G) (ka _);refine P<|⟨q.j,e,?_⟩;have z:=y4 bf.BP R C k;have Z:∀i,i∈(kj G eD).map (·.1)->i∈(kj G (eD.setIfInBounds q.j (A k))).map (·.1):=λi aB=>(z.map _).mem_iff.mpr (tO _ aB);refine⟨(Array.size_setIfInBounds ..).trans bf.BP,?_,λe U=>?_⟩
 ·rw[List.range_succ];exact(z.map _).trans ((bf.perm.cons k).trans (List.perm_append_singleton _ _).symm)
 ·rcases ee.mp (z.mem_iff.mp U)with rfl|U
  ·exact(g.to (.my _ rfl)).mono Z
  ·exact(bf.reach e U).mono Z
theorem x!(g:sz G)(n:Nat):∀(k:Nat) (eD:Array (Option Nat)),tL G aT k eD->k+n<=G+1->∃a,((lK k n).map aT).foldl (λ(bN:Option (Array (Option Nat)×Nat)) h=>do
   let(eD,k)←bN
   let j←xj G eD (sN G) (qf h %(G+1)) (qf h)
   ey (eD.setIfInBounds j (A k),k+1)) (A (eD,k))=A (a,k+n)/\tL G aT (k+n) a:=by
 induction n with
 |zero=>exactλk eD bf x=>⟨eD,y,bf⟩
 |succ n F=>
  intro k eD bf B;refine(bf.Y g (lc (aq (dn (dP k n)) B))).elim λj q=>?_;rw[((mi k n).symm)]at B⊢;refine(F (k+1) _ q.2 B).elim λC r=>⟨C,.trans ?_ r.1,r.2⟩
  show MN _ ((xj G eD (sN G) (qf (aT k) %(G+1)) (qf (aT k))).bind λj=>A (eD.setIfInBounds j (A k),k+1)) _=_;rw[q.1];rfl
theorem tL.acQ(G:Nat):tL G aT 0 (Ve (G+1) aj):=by
 have aR:kj G (Ve (G+1) aj)=[]:=List.filterMap_eq_nil_iff.mpr λj Z=>by
  rw[od,Array.getElem?_replicate,cg (hk.mp Z)];rfl
 refine⟨Array.size_replicate,?_,?_⟩
 ·rw[aR];exact .nil
 ·rw[aR];exactλx h=>aG h nv
theorem x?(g:sz G)(J:n<=G):∃eD,YB G ((fz n).map aT).toArray=A eD/\tL G aT n eD:=by refine bp λP=>?_;obtain⟨eD,e,bf⟩:=x! g n 0 _ (.acQ G) (by rw[hu];exact lg J);refine P ?_;rw[hu]at bf;refine⟨eD,?_,bf⟩;unfold YB;rw[←Array.foldl_toList,WL];exact bA (Nt (·.1)) e
theorem s':∀n,n<8->5<=n->YC (zZ n)=32:=by decide+kernel
noncomputable def ue:Nat×V×aw:=(0,.bM,.none)
theorem gX.W!(T:gX w t M)(R:t.tooFull=ak)(z:D M<=18)(q:∀fN o fb,t.relaid ((M.map (eV w)).toArray.map (·.1)) (zZ (M.map (eV w)).toArray.size)=A (fN,o)->YC (zZ (M.map (eV w)).toArray.size)=32->gX w fN fb->fN.tooFull=aW->fN.led=t.led->(fb.map (·.2)).Perm (M.map (·.2))->o.filterMap ((M.map (eV w)).toArray[·]?)=(fb.map (eV w)).toArray->az):az:=by
 have X:t.mask*3<=D M*5:=by
  have:=of_decide_eq_true R;rw[T.Eg]at this;exact this
 have W:=T.room;obtain⟨O,g⟩:5<=D M/\D M<8:=by
  refine T.uu.elim (λh=>?_) λh=>?_<;>rw[h]at X W
  ·exact⟨ib λq=>aG X (kI.mpr (er (qZ 5 (hl q)) (aF y))),pe W⟩
  ·exact aG X (kI.mpr (er (qZ 5 z) (aF y)))
 have Q:=s' _ g O;have c:(M.map (eV w)).toArray.map (·.1)=((fz (D M)).map λi=>gS w (M.getD i ue).2.1).toArray:=by
  rw[List.map_toArray,ed];refine bA _ (.trans (bA _ (Bo (d:=ue) M).symm) ?_);rw[ed];rfl
 obtain⟨eD,e,bf⟩:=x? (G:=31) (n:=D M) (aT:=λi=>gS w (M.getD i ue).2.1) (.inr y) (aq (dK g) (by decide));have B:∀x∈kj 31 eD,x.2<D M:=λx Z=>hk.mp (bf.perm.mem_iff.mp (gd Z));have Y:((kj 31 eD).map λx=>(x.1,(M.getD x.2 ue).2)).map (·.1)=(kj 31 eD).map (·.1):=ed;have U:(kj 31 eD).length=D M:=by
  have:=bf.perm.length_eq;rw[bK,iA]at this;exact this
 rw[((mN ..).trans (bK ..)),Q,c]at q;refine q {mask:=31,place:=((kj 31 eD).map (·.1)).toArray,dummies:=#[],finger:=t.finger,led:=t.led,moves:=t.movedTo 31,plain:=t.plain} ((kj 31 eD).map (·.2)).toArray ((kj 31 eD).map λx=>(x.1,(M.getD x.2 ue).2)) ?E y
  ⟨.inr y,⟨?P,y,?_⟩,?_,CM.mpr λx Z=>?_⟩ ?F y ?_ (Vb ?_)
 case E=>
  unfold aeN aeL;exact Q▸bA (XC · _) e
 case P=>rw[Y]
 case F=>
  refine decide_eq_false (kI.mpr ?_);show(((kj 31 eD).map (·.1)).toArray.size+0)*5<31*3;rw[mN,bK,U];exact er (qZ 5 (dK g)) (by decide)
 ·rw[Y,oZ];refine WK.filterMap _ λa v N b al u J=>?_;obtain⟨_,_,rfl⟩:=lN.mp al;obtain⟨_,_,rfl⟩:=lN.mp J;exact N
 ·rw[bK,U];exact aq (dK g) (show 8<=31 by decide)
 ·rw[Y];exact bf.reach x Z
 ·have:=bf.perm.map λi=>(M.getD i ue).2;rw[ed]at this;rw[ed];refine this.trans (.of_eq (.trans ?_ (bA (zm (·.2)) (Bo (d:=ue) M))));rw[ed];rfl
 ·rw[Array.toList_filterMap,ed];rw[Wt];refine .trans (JB λx Z=>?_) (congrFun List.filterMap_eq_map _);show(M.map (eV w)).toArray[x.2]?=A (eV w (x.1,(M.getD x.2 ue).2));rw[pU,fI,la,fO (B x Z)];rfl
theorem gX.fresh(Z m:Nat)(led:Bool):gX w (.fresh Z m led) []:=⟨.inl y,⟨y,y,.nil⟩,cW _,λx h=>aG h nv⟩
end
section
variable{s:aN} {t:kK} {M:List (Nat×V×aw)} {a:aZ}
theorem JD{aQ:vj}{gq:Type}{b:gq}{f:aw->gq->kc (ForInStep gq)}{af:gq->aN->Prop}(Z:∀x∈aX,∀P:ForInStep gq->aN->Prop,P (.yield b) s->(∀c,af c s->P (.done c) s)->bb aQ R (f x b) P E s)(q:af b s):bb aQ R (forIn aX b f) af E s:=by
 induction aX with
 |nil=>rw[List.forIn_nil];exact bh q
 |cons x l F=>rw[wJ];exact ap (Z x sx _ (F λQ Y=>Z Q (tO _ Y)) λc X=>bh X)
theorem Rv:∀{l:List V} {aX:List aw},V.iF n l=ak->ci I h l aX->∀x∈aX,∃Q,V.hm n Q=ak/\cf I h Q x:=by
 intro l;induction l with
 |nil=>intro aX _ Z;obtain rfl:=Z;exactλz h=>aG h nv
 |cons Q l F=>intro aX J Z;refine bp λP=>?_;obtain⟨x,Y,rfl,ab,ac⟩:=Z;exact P<|qW.mpr ⟨⟨Q,(pD J).1,ab⟩,F (pD J).2 ac⟩
set_option smartUnfolding false in theorem Qe:∀{af:Bool->aN->Prop} {a:V} {H:aw},V.hm n a=ak->cf I s.heap a H->af aW s->bb (dm prog w) R (ofAClassStatement n H) af E s:=by
 induction n with
 |zero=>
  intro af a H aE g q;cases rK aE g with
  |X=>exact bh q
  |cG=>exact bh q
  |Y h=>exact aG h (ic _)
 |succ n F=>
  intro af a H aE g q;cases rK aE g with
  |X=>exact bh q
  |cG=>exact bh q
  |@Y G l a ar aR u J B=>refine ap (ou (T:="tuple") (show s.TypeIs (.ref a) "tuple" from⟨_,u,y⟩) (ap (bh (ap (ql u y (ap ?_))))));show bb _ _ (forIn ar _ _) _ _ s;rw[←FU];exact JD (λx Z P p z=>(Rv J B x Z).elim λQ U=>U.elim λW O=>ap (F W O (bh p))) (bh q)
theorem d5:∀{af:Bool->aN->Prop} {a:V} {H:aw},V.hm n a=ak->cf I s.heap a H->(∀b,af b s)->bb (dm prog w) R (hashByValue n H) af E s:=by
 induction n with
 |zero=>
  intro af a H aE g q;cases rK aE g with
  |X=>exact bh (q _)
  |cG=>exact bh (q _)
  |Y h=>exact aG h (ic _)
 |succ n U=>
  intro af a H aE g q;cases rK aE g with
  |X=>exact bh (q _)
  |cG=>exact bh (q _)
  |@Y G l a ar aR u J B=>
   refine ap (rj (T:="tuple") (show s.TypeIs (.ref a) "tuple" from⟨_,u,y⟩) Do.lookup (ap (ql u y (ap ?_))));show bb _ _ (forIn ar _ _) _ _ s;rw[←FU];refine JD (λx Z P p d=>(Rv J B x Z).elim λQ O=>O.elim λW N=>ap (U W N λb=>?_)) (bh (q _));cases b with
   |true=>exact bh p
   |false=>exact bh (d _ (bh (q _)))
def jW(fm:Nat)(I:cw)(h:cv)(H:V)(x:aw):Prop:=V.hm 8 H=ak/\gs H=fm/\cf I h H x
theorem aat{af:Bool->aN->Prop}(W:V.hm 8 H=ak)(Z:cf I s.heap H aI)(q:af aW s):∀{st:List aw},(∀Q∈st,∃k,jW 3 I s.heap k Q)->bb (dm prog w) R (searchCouldBeSeen aI st) af E s:=λ{st} X=>by refine ap (JD (λQ Y P p x=>?_) (bh q));exact bp λU=>(X Q Y).elim λk O=>O.elim λab N=>N.elim λx ac=>U<|hy (λx=>bh p) λx=>ap (KT W Z (ap (KT ab ac (ap (Qe W Z (ap (Qe ab ac (bh p))))))))
noncomputable abbrev nZ(ag:Array (Int×aw))(cJ:Nat)(t:kK):hb:={cls:=.type "set",dict:=aj,data:=.set ag cJ t,slots:=#[]}
noncomputable def FB(ag:Array (Int×aw))(i:Nat):Int:=(ag[i]?.map (·.1)).getD 0
theorem Tf{F hi:Nat->Int}{h:Int}{p:jp}{r:Option YA}(e:t.probe F h p=r)(i:hi=F):t.probe hi h p=r:=i▸e
theorem QX{br bG:List Nat}(e:M.map (·.1)=br++j::bG):∃x∈M,M[D br]?=A x/\x.1=j:=by
 have ab:(M.map (·.1))[D br]?=A j:=by rw[e,iN (cu _),kb];rfl
 rw[fI]at ab;obtain⟨x,Z,rfl⟩:=lN.mp ab;exact⟨x,io Z,Z,y⟩
theorem Q'(T:gX w t M){x Q:Nat×V×aw}(Z:x∈M)(Y:Q∈M)(e:x.1=Q.1):x=Q:=by
 have z:=oZ.mp T.lA.yq;obtain⟨i,aB,rfl⟩:=zq.mp Z;obtain⟨k,X,rfl⟩:=zq.mp Y;have z:=WJ.mp z;rcases Dd i k with q|rfl|q
 ·exact absurd e (eC (z i k aB X q))
 ·rfl
 ·exact absurd e.symm (eC (z k i X aB q))
structure vt(w:eU)(t:kK)(M:List (Nat×V×aw))(H:V)(q:jp):Prop where
 vK:q.dummy=aj
 go:qT t.mask (·∈M.map (·.1)) (oK t.mask (gS w H)) q
 to:∀e∈M,e.2.1=H->pm t.mask (·∈M.map (·.1)) e.1 q
theorem vt.X(T:gX w t M){q:jp}(bf:vt w t M H q){x:Nat×V×aw}(Z:x∈M)(e:x.1=q.j)(W:x.2.1≠H):vt w t M H (oy t.mask q):=⟨PA bf.vK,.snoc _ bf.go (e▸gd Z),λQ Y dG=>by
  cases bf.to Q Y dG with
  |my _ q=>exact aG (Q' T Z Y (e.trans q)▸dG) W
  |X _ _ r=>exact r⟩
theorem vt.free{q:jp}(bf:vt w t M H q)(Z:q.j∉M.map (·.1)):H∉M.map (·.2.1):=λW=>by
 refine(bJ.mp W).elim λQ U=>U.elim λY dG=>?_;cases bf.to Q Y dG with
 |my _ e=>exact Z (e▸gd Y)
 |X _ C _=>exact Z C
end
section
variable{s:aN} {t:kK} {M:List (Nat×V×aw)} {a:aZ}
theorem FC{x:Nat×V×aw}{i:Nat}(e:M[i]?=A x):(M.map (eV w)).toArray[i]?=A (eV w x)/\FB (M.map (eV w)).toArray i=gS w x.2.1:=by
 have:(M.map (eV w)).toArray[i]?=A (eV w x):=by rw[pU,fI,e];rfl
 exact⟨this,by unfold FB;rw[this];rfl⟩
theorem jW.J(r:jW 3 I h H aI):∃x,aI=.ref x:=by
 refine bp λP=>?_;obtain⟨_,ac,bo⟩:=r;refine P ?_;cases H with
 |Y l=>exact bo.t λa ar k z z z=>⟨a,y⟩
 |_=>cases ac
theorem aap(t:kK):t.sameMemory t.moves t.mask=A ak:=cg (beq_self_eq_true t.moves)
theorem aau{gq:Type}{c:Prop}[Decidable c]{G:kc Bool}{u:kc Unit}{r:kc gq}{af:gq->aN->Prop}(Z:∀l:Bool->aN->Prop,l aW s->bb (dm prog w) R G l E s)(h:bb (dm prog w) R r af E s):bb (dm prog w) R (if c then G>>=λb=>if b=ak then u>>=λx=>r else r else r) af E s:=hy (λx=>ap (Z _ h)) λx=>h
theorem e?{p q:jp}{x:Nat×V×aw}{i:Nat}{af:SetFound->aN->Prop}(J:R.units+8<fp)(u:s.heap.get? a=A (nZ (M.map (eV w)).toArray cJ t))(T:gX w t M)(g:∀e∈M,jW 3 I s.heap e.2.1 e.2.2)(Z:jW 3 I s.heap H aI)(X:M[i]?=A x)(O:t.slot p.j=.live i)(N:x.2.1=H->af (.there aj) s)(G:x.2.1≠H->bb (dm prog w) R (Ih a aI (gS w H) ak f (A q)) af E s)
  {W:Option jp}{r:jp}(o:W.getD (t.probeStart (gS w H))=r)(P:t.probe (FB (M.map (eV w)).toArray) (gS w H) r=A (.candidate p.j i q)):bb (dm prog w) R (Ih a aI (gS w H) ak (f+1) W) af E s:=by
 obtain⟨ab,_⟩:=FC (w:=w) X;have n:=g x (io X);obtain⟨Q,Y⟩:=n.J;refine ap (qm u y T.kO ?_);dsimp only;rw[T.Rl,o,Tf P];rotate_left
 ·rfl
 refine hy (λq=>aG q (by decide)) λb=>aau (λb q=>aat Z.1 Z.2.2 q λQ Y=>?_) ?_
 ·obtain⟨e,U,rfl⟩:=bJ.mp Y;obtain⟨ba,j,rfl⟩:=bJ.mp (List.mem_toArray.mp (Array.mem_of_mem_filter (Cj.mp U)));exact⟨_,g ba j⟩
 rw[ab];refine ap (eX (Ef (R:=R) (s:=s) J (xT n.1) (xT Z.1) n.2.2 Z.2.2 prog w E _ (ap (qm u y T.kO ?_))));cases al:V.dE x.2.1 H with
 |true=>exact bh (N (V.fE.mp al))
 |false=>rw[bV (by decide),aap];dsimp only;rw[cg y,O];dsimp only;rw[ab];refine ap ?_;show bb _ _ (isSame x.2.2 x.2.2) _ _ _;exact Y▸wpAny_isSame_ref_self (ap (bh (G (V.mX.mp al))))
theorem aas{af:SetFound->aN->Prop}(G:R.units+8<fp)(u:s.heap.get? a=A (nZ (M.map (eV w)).toArray cJ t))(T:gX w t M)(A0:∀e∈M,jW 3 I s.heap e.2.1 e.2.2)(A1:jW 3 I s.heap H aI)(N:H∈M.map (·.2.1)->af (.there aj) s)(B:H∉M.map (·.2.1)->∀j,j∉M.map (·.1)->pm t.mask (·∈M.map (·.1)) j (oK t.mask (gS w H))->af (.free j aW) s):∀f n p h,n<=f->n<=10*sN t.mask->oi t.mask (·∈M.map (·.1)) n p->vt w t M H p->h.getD (t.probeStart (gS w H))=p->bb (dm prog w) R (Ih a aI (gS w H) ak f h) af E s:=by
 intro f;induction f with
 |zero=>intro n p h J _ d;cases d<;>exact absurd J (qb _)
 |succ f F=>
  intro n p h J g d bf o;refine Rq (f:=n) (bf:=λq=>vt w t M H q) (az:=λr=>t.probe (FB (M.map (eV w)).toArray) (gS w H) p=r->bb (dm prog w) R (Ih a aI (gS w H) ak (f+1) h) af E s) T.lA (λz bf=>bf.vK) ?_ ?_ ?_ n p (cu _) d bf _ g y
  ·intro q br bG bf e W;exact bp λP=>(QX e).elim λx m=>m.elim λZ l=>l.elim λab ac=>P<|bf.X T Z ac λdG=>W (((FC ab).2)▸dG▸y)
  ·intro q bf U Y;refine ap (qm u rfl T.kO ?_);dsimp only;rw[T.Rl,o,Tf Y];rotate_left
   ·rfl
   exact bh (B (bf.free U) q.j U (bf.go.to (.my _ rfl)))
  ·intro q k br bG bf i X e W Y;refine bp λP=>(QX e).elim λx b=>b.elim λZ c=>c.elim λab ac=>P<|e? (p:=q) G u T A0 A1 ab (qp.live (e▸T.lA)) (λdG=>N (bJ.mpr ⟨x,Z,dG⟩)) (λO=>?_) o Y;exact F k (oy t.mask q) _ (hl (ef X J)) (aq (dK X) g) i (bf.X T Z ac O) y
inductive mT(w:eU)(fm:Nat)(I:cw)(aR h:cv)(a:aZ)(led:Bool):List V->Prop
|mk (M:List (Nat×V×aw)) (t:kK) (cJ:Nat):h.get? a=A (nZ (M.map (eV w)).toArray cJ t)->gX w t M->t.tooFull=aW->t.led=led->(∀e∈M,jW fm I aR e.2.1 e.2.2)->mT w fm I aR h a led (M.map (·.2.1))
theorem mT.fZ{aX:List V}(S:mT w fm I aR h a led aX)(e:∀C,h.get? a=A C->au.get? a=A C):mT w fm I aR au a led aX:=by obtain⟨M,t,cJ,u,T,Z,B,r⟩:=S;exact .mk M t cJ (e _ u) T Z B r
def yK(H:V)(aX Z:List V):Prop:=(H∈aX/\Z=aX)\/(H∉aX/\Z.Perm (H::aX))
theorem KS{ag gP:Array (Int×aw)}(u:h.get? a=A (nZ ag cJ t)):(h.update a (Ds gP fN)).get? a=A (nZ gP (cJ+1) fN):=by have:=rb (Ds gP fN) u (bA _ (putSet_of gP fN y));rw[putSet_of gP fN y]at this;exact this
theorem gX.more(T:gX w t M)(Z:t.tooFull=aW):D M+1<=t.mask:=by have:=of_decide_eq_false Z;rw[T.Eg]at this;refine T.uu.elim (λh=>?_) λh=>?_<;>rw[h]at this⊢<;>exact tR λq=>this (aq (aF y) (qZ 5 q))
theorem rE(M:List (Nat×V×aw)):(M.map (eV w)).toArray.size=D M:=(mN ..).trans (bK ..)
theorem yx(h:n<=18):n<=mS:=ma (er h (by decide))
theorem W?{af:Unit->aN->Prop}(u:s.heap.get? a=A (nZ (M.map (eV w)).toArray cJ t))(T:gX w t M)(f:t.tooFull=ak)(Y:D M<=18)(q:∀fN fb,gX w fN fb->fN.tooFull=aW->fN.led=t.led->(fb.map (·.2)).Perm (M.map (·.2))->af () {s with heap:=s.heap.update a (Ds (fb.map (eV w)).toArray fN)}):bb (dm prog w) R (OO a (zZ (M.map (eV w)).toArray.size)) af E s:=by refine T.W! f Y λfN o fb e bq i X B p b=>?_;have Z:=p.length_eq;rw[bK,bK]at Z;refine ap (qm u y T.kO (hy (λq=>aG q (by rw[bq,Ii];decide)) λx=>?_));rw[e];refine ap (hy (λq=>aG q (by rw[b,rE,rE,Z,bne_self_eq_false];decide)) λx=>bh ?_);dsimp only;rw[b];exact Pf u y (q fN fb i X B p) (by rw[rE,Z];exact yx Y)
theorem l'{ag:Array (Int×aw)}{l:kK}{af:Bool->aN->Prop}(u:s.heap.get? a=A (nZ ag cJ t))(m:gX w l Z)(B:l.led=led)(X:D Z<=18)(g:∀e∈Z,jW fm I aR e.2.1 e.2.2)(J:n=(Z.map (eV w)).toArray.size)(q:∀au W,hx a s.heap au->mT w fm I aR au a led W->W.Perm (Z.map (·.2.1))->af ak {s with heap:=au}):bb (dm prog w) R (OR a (Z.map (eV w)).toArray l>>=λx=>if(!aW&&l.tooFull)=ak then OO a (zZ n)>>=λx=>ey ak else ey ak) af E s:=by
 refine ap (Pf u y ?_ (by rw[rE];exact yx X));have cL:=KS (gP:=(Z.map (eV w)).toArray) (fN:=l) u;have z:=kJ s.heap a (Ds (Z.map (eV w)).toArray l);generalize s.heap.update a (Ds (Z.map (eV w)).toArray l)=ab at cL z⊢;cases Y:l.tooFull with
 |false=>exact bh (q ab _ z (.mk Z l _ cL m Y B g) (.refl _))
 |true=>
  subst J;refine ap (W? (s:={s with heap:=ab}) cL m Y X λfN fb i o N p=>bh (q _ (fb.map (·.2.1)) (z.trans (kJ _ a _)) (.mk fb fN _ (KS cL) i o (N.trans B) λe U=>?_) ?_))
  ·refine(bJ.mp (p.mem_iff.mp (gd U))).elim λbP k=>k.elim λO P=>?_;have:=g bP O;rw[P]at this;exact this
  ·have:=p.map (·.1);rw[ed,ed]at this;exact this
theorem jW.moved(r:jW fm I aR H aI)(S:bB [] I aR bF au):jW fm bF au H aI:=⟨r.1,r.2.1,r.2.2.fl S⟩
theorem abR(g:sz t.mask):10*sN t.mask<=99999+1:=by rcases g with h|h<;>rw[h]<;>decide
theorem a7{aX:List V}{af:Bool->aN->Prop}(n:R.units+8<fp)(S:mT w 3 I aR s.heap a led aX)(h:∀b C,aR.get? b=A C->s.heap.get? b=A C)(Z:jW 3 I aR H aI)(N:D aX<18)(q:∀au X,hx a s.heap au->mT w 3 I aR au a led X->yK H aX X->∀b,af b {s with heap:=au}):bb (dm prog w) R (OM a aI (gS w H)) af E s:=by
 obtain⟨M,t,cJ,u,T,P,Y,g⟩:=S;rw[bK]at N;have K:bB [] I aR I s.heap:=bB.gL h;refine eX<|(ap (qm u y T.kO ?_));obtain⟨x,rfl⟩:=Z.J;refine hy (λq=>aG q dT) λz=>ap<|aas n u T (λe U=>(g e U).moved K) (Z.moved K) (λf=>?_) (λf j F r=>?_) _ _ (oK t.mask (gS w H)) aj (abR T.uu) (cu _) (T.near _) ⟨y,.nil,λe U dG=>dG▸T.reach e U⟩ y
 ·exact bh (q s.heap _ (HS a s.heap) (.mk M t cJ u T P Y g) (.inl ⟨f,y⟩) _)
 ·refine ap (qm u y T.kO (T.put (H:=H) (x:=.ref x) F r (T.more P) λfN p fb e i W z gk J=>?_));have O:=gk.length_eq;have c:∀e∈fb,jW 3 I aR e.2.1 e.2.2:=λe U=>by
   refine(ee.mp (gk.mem_iff.mp U)).elim (λG=>?_) λU=>?_
   ·obtain rfl:=G;exact Z
   ·exact g e U
  dsimp only;rw[e];rw[J];have fin:∀l,gX w l fb->l.led=led->bb (dm prog w) R (OR a (fb.map (eV w)).toArray l>>=λz=>if(!aW&&l.tooFull)=ak then OO a (zZ ((M.map (eV w)).toArray.size+1))>>=λz=>ey ak else ey ak) af E s:=λl m B=>
   l' u m B (O▸N) c (by rw[rE,rE,O];rfl) λau X A0 k d=>q au X A0 k (.inr ⟨f,d.trans (gk.map (·.2.1))⟩) _
  refine hy (λz=>ap (d5 Z.1 (Z.moved K).2.2 λb=>?_)) λz=>ap (bh ?_)
  ·cases b with
   |true=>exact fin fN i (W.trans Y)
   |false=>exact fin _ i.R_ (W.trans Y)
  ·exact fin fN i (W.trans Y)
end
section
variable{s:aN} {t:kK} {M:List (Nat×V×aw)} {a:aZ} {n:Int} {dh:mQ}
theorem jW.X(r:jW 1 I h H aI):∃j u,H=.X j/\aI=.int j u:=by
 obtain⟨ab,ac,bo⟩:=r;cases rK ab bo with
 |X=>exact⟨_,_,y,y⟩
 |cG=>cases ac
 |Y=>cases ac
theorem aaq(X:s.heap.get? a=A (nZ (M.map (eV w)).toArray cJ t))(T:gX w t M){af:ScanMet->aN->Prop}{P:Prop}:∀(l:List (Nat×V×aw)) (i:Nat),(∀e∈l,jW 1 I aR e.2.1 e.2.2)->(V.X n∈l.map (·.2.1)->∀j,af (.found j) s)->(V.X n∉l.map (·.2.1)->af .absent s)->bb (dm prog w) R (Zj a (.int n dh) (gS w (.X n)) ak (l.map (eV w)) i) af E s:=by
 intro l;induction l with
 |nil=>intro i _ _ Y;exact bh (Y nv)
 |cons e l F=>
  intro i W N Y;obtain⟨U,o⟩:=qW.mp W;clear W;obtain⟨p,dG,fK⟩:=e;obtain⟨j,u,rfl,rfl⟩:=U.X;have r:j≠n->bb (dm prog w) R (Zj a (.int n dh) (gS w (.X n)) ak (l.map (eV w)) (i+1)) af E s:=λO=>F (i+1) o (λg=>N (tO _ g)) λg=>Y λq=>by
   refine(ee.mp q).elim (λq=>?_) λq=>?_
   ·exact O (V.X.inj q).symm
   ·exact g q
  show bb _ _ (if(gS w (.X j)==gS w (.X n))=ak then _ else _) _ _ _;refine hy (λx=>?_) λJ=>r λe=>J (e▸beq_self_eq_true _);refine ap (Pe X y T.kO (ap (wpAny_eqBool_int ?_)));by_cases Z:j=n
  ·rw[beq_iff_eq.mpr Z];exact bh (N (Z▸sx) _)
  ·rw[beq_eq_false_iff_ne.mpr Z];exact ap (Pe X y T.kO (hy (λq=>aG q (by rw[bne_self_eq_false];exact dT)) λx=>r Z))
theorem m3{be:List Nat}(T:qp t be)(h:Int)(d:oi t.mask (·∈be) (10*sN t.mask) (oK t.mask h)):∃j,t.freeSlot h=A (j,aW)/\j∉be/\pm t.mask (·∈be) j (oK t.mask h):=Rq (f:=10*sN t.mask) (vV:=λx=>h+1) (h:=h) (bf:=λq=>q.dummy=aj/\qT t.mask (·∈be) (oK t.mask h) q) (az:=λr=>t.probe (λx=>h+1) h (t.probeStart h)=r->∃j,t.freeSlot h=A (j,aW)/\j∉be/\pm t.mask (·∈be) j (oK t.mask h)) T (λx bf=>bf.1) (λq br bG bf e x=>⟨PA bf.1,.snoc _ bf.2 (by rw[e];exact jl _ sx)⟩) (λq bf Z e=>⟨q.j,by unfold aeI;rw[e];rfl,Z,bf.2.to (.my _ y)⟩) (λq k br bG x x x x J=>aG J (Wb (Int.lt_succ h))) _ (oK t.mask h) (cu _) d ⟨y,.nil⟩ _ (cu _) y
theorem aaK(T:gX w t M)(h:D M<=4):t.tooFull=aW:=decide_eq_false (by rw[T.Eg];refine T.uu.elim (λe=>?_) λe=>?_<;>rw[e]<;>exactλq=>aG (aq q (qZ 5 h)) (by decide))
theorem a6{aX:List V}{af:Bool->aN->Prop}(S:mT w 1 I aR s.heap a led aX)(A4:jW 1 I aR (.X n) (.int n dh))(X:D aX<4)(q:∀au C,hx a s.heap au->mT w 1 I aR au a led C->yK (.X n) aX C->∀b,af b {s with heap:=au}):bb (dm prog w) R (OM a (.int n dh) (gS w (.X n))) af E s:=by
 refine bp λY=>?_;obtain⟨M,t,cJ,Z,T,O,N,g⟩:=S;refine Y ?_;rw[bK]at X;refine eX<|(ap (qm Z y T.kO ?_));have al:byScan (.int n dh) (M.map (eV w)).toArray=ak:=by
  have ab:(M.map (eV w)).toArray.all (λe=>e.2.scannable)=ak:=by
   rw[←UZ];refine mf.mpr (CM.mpr λe U=>bp λY=>((g e U).X).elim λj W=>W.elim λu A0=>A0.elim λz bq=>Y ?_);show e.2.2.scannable=ak;rw[bq];rfl
  unfold byScan;rw[ab,rE,decide_eq_true (show D M<scanBound from kH X (aF y))];rfl
 refine hy (λz=>ap ?_) λq=>aG al q;refine ap (li (ap (aaq (P:=True) Z T M 0 g (λf j=>?_) λf=>?_)))
 ·exact bh (bh (q s.heap _ (HS a s.heap) (.mk M t cJ Z T O N g) (.inl ⟨f,y⟩) _))
 ·refine bp λY=>(m3 T.lA (gS w (.X n)) (T.near _)).elim λj A1=>A1.elim λk A2=>A2.elim λd r=>Y<|T.put (H:=.X n) (x:=.int n dh) d r (T.more O) λfN p fb e i c z gk J=>?_;have F:=gk.length_eq;have A3:∀e∈fb,jW 1 I aR e.2.1 e.2.2:=λe U=>by
   refine(ee.mp (gk.mem_iff.mp U)).elim (λl=>?_) λU=>?_
   ·obtain rfl:=l;exact A4
   ·exact g e U
  have h:layNew t (M.map (eV w)).toArray (gS w (.X n)) (.int n dh)=((fb.map (eV w)).toArray,fN,aW,aW):=by
   unfold layNew;rw[k];dsimp only;rw[e,J];unfold aeM;rw[i.kO];rfl
  rw[h];have fin:∀G:kc (Option Bool),bb (dm prog w) R (OR a (fb.map (eV w)).toArray fN>>=λz=>if(!aW&&fN.tooFull)=ak then G else ey (A ak)) (λr aJ=>bb (dm prog w) R (match r with|some B=>ey B|none=>setAddHashedIn a (.int n dh) (gS w (.X n)) 99999) af E aJ) E s:=λG=>by
   refine ap (Pf Z y ?_ (by rw[rE,F];exact yx (aq X (aF y))));have o:=aaK i (by rw[F];exact X);exact o.symm▸bh (bh (q _ _ (kJ s.heap a _) (.mk fb fN _ (KS Z) i o (c.trans N) A3) (.inr ⟨f,gk.map (·.2.1)⟩) _))
  exact ap (bh (hy (λz=>ap (bh (fin _))) λz=>ap (bh (fin _))))
end
def qN(hs aC:List V):Prop:=aC.Nodup/\∀H,H∈aC↔H∈hs
theorem qN.add{aC:List V}{H:V}(bg:qN hs aC)(a:yK H aC fM):qN (hs++[H]) fM:=by
 rcases a with⟨f,rfl⟩|⟨f,z⟩
 ·refine⟨bg.1,λx=>?_⟩;rw[ew,cB,←bg.2];exact⟨.inl,λh=>h.elim id λe=>e▸f⟩
 ·refine⟨z.symm.nodup (jN.mpr ⟨f,bg.1⟩),λx=>?_⟩;rw[z.mem_iff,ee,ew,cB,bg.2];exact Or.comm
theorem qN.J{aC:List V}(bg:qN hs aC):D aC<=D hs:=bg.1.length_le_of_subset λx Z=>(bg.2 x).mp Z
section
variable{s:aN} {ae:xi->aN->Prop}
def CH(fm n:Nat):Prop:=(fm=3/\n<=18)\/(fm=1/\n<=4)
theorem a8{a:aZ}{H:V}{aI:aw}{aX:List V}{af:Bool->aN->Prop}(k:CH fm G)(W:R.units+8<fp)(S:mT w fm I aR s.heap a led aX)(U:∀b C,aR.get? b=A C->s.heap.get? b=A C)(Z:jW fm I aR H aI)(Y:D aX<G)(q:∀au X,hx a s.heap au->mT w fm I aR au a led X->yK H aX X->∀b,af b {s with heap:=au}):bb (dm prog w) R (OM a aI (gS w H)) af E s:=by
 refine k.elim (λz=>?_) λP=>?_
 ·obtain⟨rfl,h⟩:=z;exact a7 W S U Z (ef Y h) q
 ·obtain⟨rfl,h⟩:=P;obtain⟨j,u,rfl,rfl⟩:=Z.X;exact a6 S Z (ef Y h) q
theorem aaB{S l:aZ}{aS:Array aw}(A4:R.handled=aj)(u:R.units+30<fp)(J:ci I aR hs aS.toList)(A7:CH fm (D hs))(A5:∀H∈hs,V.hm 8 H=ak/\gs H=fm)(O:S≠bf)(A8:l≠bf)(A9:l≠S)(A1:aR.get? S=aj)(E:aR.get? bf=aj):∀(k i:Nat) (s:aN) (aC:List V),i+k=aS.size->s.heap.IsListIter bf l i->s.heap.IsList l aS->mT w fm I aR s.heap S led aC->qN (hs.take i) aC->(∀b C,aR.get? b=A C->s.heap.get? b=A C)->(∀au dh fM,(∀b C,b≠S->b≠bf->s.heap.get? b=A C->au.get? b=A C)->mT w fm I aR au S led fM->qN hs fM->ae (.ok (.ret .none)) {s with heap:=au,toks:=dh})->sQ (dm prog w) R (.builtin "set.update.loop" ⟨[.ref S,.ref bf],[]⟩) ae s:=by
 have f:D hs=aS.size:=J.size.symm;intro k;induction k with
 |zero=>intro i s aC aB d r g j h Q;refine bp λP=>?_;obtain rfl:i=aS.size:=aB;refine P<|mR XH ?_;rw[tU Nv _];refine ap (Pb (A:=R.in1) A4 d r (Ch (cu _)) λau U=>?_);rw[←f,zu]at j;exact bh (Q au s.toks aC (λb C x al e=>U b C al e) (g.fZ λC e=>U _ _ O e) j)
 |succ k B0=>
  intro i s aC aB d r g j h Q;have N:i<aS.size:=aB▸pZ (iC k);have Y:i<D hs:=f▸N;refine mR XH ?_;rw[tU Nv _];refine ap (Ip d r (mI N) λau A6 a=>bp λP=>?_);obtain⟨aI,L,Z⟩:=J.get.2 i (fO Y);rw[jJ,mI N]at L;obtain rfl:=dk L;refine P ?_;have t:∀fM,yK hs[i] aC fM->qN (hs.take (i+1)) fM:=λfM aE=>by
   rw[sy,fO Y];exact j.add aE
  have W:=A5 hs[i] (pV Y);generalize hs[i]=H at Z t W;generalize aS[i]=aI at Z⊢;have aY:∀b C,aR.get? b=A C->au.get? b=A C:=λb C e=>a.extBut b C (λq=>iH E (q▸e)) (h b C e);have A2:mT w fm I aR au S led aC:=g.fZ λC e=>a.extBut _ _ O e;have A0:au.IsList l aS:=r.extBut a.extBut A8;have B:D aC<D hs:=er (aq j.J (aq (fi tN) (wR _ _))) Y;clear j g r h;exact ap (m:=xm [aI] (setAdd S aI)) (eX (eX (ap (yo (I:=I) (w:=w) (n:=8) (kP (b:=8) u (aF y)) W.1 (Z.fl (bB.gL aY)) (a8 (s:={s with heap:=au,toks:=s.toks+kh H}) A7 (kP (b:=8) u (aF y)) A2 aY ⟨W.1,W.2,Z⟩ B λac fM z A3 aE b=>bh ⟨ph Nv _,B0 (i+1) _ fM ((uZ ..)▸aB) (A6.at λC e=>(z.2 bf (oh O)).trans e) (A0.at λC e=>(z.2 l A9).trans e) A3 (t fM aE) (λb C e=>(z.2 b λq=>iH A1 (q▸e)).trans (aY b C e)) λbo dh B1 F p M=>Q bo dh B1 (λb C X c e=>F b C X c ((z.2 b X).trans (a.extBut b C c e))) p M⟩)))))
end
section
variable{s:aN}
noncomputable abbrev sW(w:eU):Bool:=w.params.followText "set-order"
noncomputable abbrev rR(w:eU):hb:=nZ #[] 0 (.fresh 0 0 (!sW w))
theorem h3(a:aw){Ak:aw->aN->Prop}(h:Ak (.ref s.heap.objs.size) {s with heap:=s.heap.push (rR w)}):sQ (dm prog w) R (.call (.builtin "set.__new__") ⟨[.type "set",a],[]⟩) (wants Ak E) s:=by refine Oy<|ap (pk (aej a) (bh ⟨ph aep _,mR aec ?_⟩));have i:=Zn;obtain⟨z,g,d,dh,os⟩:=s;wp_walk;exact DD (bh (ap (OW (bh (bh h)))))
theorem e!{a:aw}(g:bb (dm prog w) R.in1.in1 (Builtin.«set.__init__» ⟨[.ref s.heap.objs.size,a],[]⟩) (λfin aJ=>fin=.done (.ret .none)/\af (.ref s.heap.objs.size) aJ) E {s with heap:=s.heap.push (rR w)}):bb (dm prog w) R (ja (.type "set") [a]) af E s:=by
 refine bp λP=>?_;obtain⟨c,J,l⟩:=vh.mro;refine P ?_;have k:=vh.made;have i:=vh.sub;refine OX (Oy (bh ⟨Code.quiet_builtin _ (by decide+kernel),mR aee ?_⟩));rw[Around.under_plain (weight_type_call_type "set" [a] []) y];have ab:=vh.notType;have ac:=vh.canCreate;have d:=aew a
 repeat(any_goals (first|assumption|wp_step))
 refine Dx (h3 a (E:=E) (Ak:=λN W=>N=.ref s.heap.objs.size/\W={s with heap:=s.heap.push (rR w)}) ⟨y,y⟩) λr W Z=>?_;cases r with
 |error e=>exact Z
 |ok de=>
  cases de with
  |ret N=>
   obtain⟨rfl,rfl⟩:=Z;have Y:Shared.TypeIs {s with heap:=s.heap.push (rR w)} (.ref s.heap.objs.size) "set":=⟨_,(gG _ y),y⟩
   have j:=vh.init.lookup;have O:=vh.init.bind (.ref s.heap.objs.size)
   repeat(any_goals (first|assumption|wp_step))
   refine Dx (YO (R:=wants (λr C=>r=.none/\af (.ref s.heap.objs.size) C) E) vh.init.plain aeb (check_set_init_1 Y (jb g (λfin f U=>?_) λz z x=>x))) λn C m=>?_
   ·obtain⟨rfl,X⟩:=U;exact⟨y,X⟩
   ·cases n with
    |error e=>exact m
    |ok b=>
     cases b with
     |ret r=>
      obtain⟨rfl,X⟩:=m
      repeat(any_goals (first|assumption|wp_step))
     |_=>exact m.elim
  |_=>exact Z.elim
theorem acd{S l:aZ}{aS:Array aw}{af:Unit->aN->Prop}(B:s.heap.IsList l aS)(q:bb (dm prog w) R (qi (.ref l)) (λZ L=>bb (dm prog w) R (runValue (.builtin "set.update.loop" ⟨[.ref S,Z],[]⟩)) (λx aJ=>af () aJ) E L) E s):bb (dm prog w) R (XR "set.__init__" S (.ref l)) af E s:=by have Y:s.TypeIs (.ref l) "list":=B.typeIs;exact ap (ap (ri Y aeu (ri Y aet (hy (λq=>aG q dT) λx=>ap (ou Y (hy (λq=>aG q (by decide)) λx=>ap (jb q (λx x h=>ap (jb h (λx x h=>bh h) λx x h=>h)) λx x h=>h)))))))
theorem t9{S l:aZ}{aS:Array aw}{af:Oa->aN->Prop}(g:s.heap.get? S=A (rR w))(B:s.heap.IsList l aS)(q:bb (dm prog w) R (qi (.ref l)) (λZ L=>bb (dm prog w) R (runValue (.builtin "set.update.loop" ⟨[.ref S,Z],[]⟩)) (λx aJ=>af (.done (.ret .none)) aJ) E L) E s):bb (dm prog w) R (Builtin.«set.__init__» ⟨[.ref S,.ref l],[]⟩) af E s:=by
 have Y:s.TypeIs (.ref S) "set":=⟨_,g,y⟩
 unfold Builtin.«set.__init__» noKeywords;have aR:=acd (S:=S) (af:=λx aJ=>bb (dm prog w) R (ret Value.none) af E aJ) B (jb q (λx x h=>jb h (λx x h=>bh h) λx x h=>h) λx x h=>h);generalize XR=U at aR⊢;wp_walk;exact aR
theorem e'{l:aZ}{aS:Array aw}(J:R.handled=aj)(P:R.units+100<fp)(B:s.heap.get? l=A (gp aS n))(U:ci I s.heap hs aS.toList)(X:CH fm (D hs))(d:∀H∈hs,V.hm 8 H=ak/\gs H=fm)(q:∀au dh aC,mT w fm I s.heap au s.heap.objs.size (!sW w) aC->qN hs aC->(∀b C,s.heap.get? b=A C->au.get? b=A C)->af (.ref s.heap.objs.size) {s with heap:=au,toks:=dh}):bb (dm prog w) R (ja (.type "set") [.ref l]) af E s:=by
 refine e! ?_;have Y:l<s.heap.objs.size:=iQ B;have aY:∀b C,s.heap.get? b=A C->(s.heap.push (rR w)).get? b=A C:=fR _ _;have g:(s.heap.push (rR w)).get? s.heap.objs.size=A (rR w):=gG _ y;have j:(s.heap.push (rR w)).objs.size=s.heap.objs.size+1:=lO ..;have Z:s.heap.get? s.heap.objs.size=aj:=uz;generalize s.heap.push (rR w)=ab at aY g j⊢;have t:ab.IsList l aS:=hE (s:={s with heap:=ab}) (aY _ _ B);have c:l≠ab.objs.size:=eC (j▸qa Y);have r:s.heap.objs.size≠ab.objs.size:=eC (j▸jO _);have m:s.heap.get? ab.objs.size=aj:=qw (j▸ka _);clear j;generalize s.heap.objs.size=S at*;refine t9 g t (DE t (Pc ?_));refine aaB (hs:=hs) (aR:=s.heap) (led:=!sW w) ((HJ ..)▸(HJ ..)▸J) (kP (kP (b:=60) P (aF y)) (aF y)) U X d r c (eC Y) Z m aS.size 0 _ [] (hu _)
  ⟨_,gG _ y,y,y⟩ (t.push _) (.mk [] _ _ (fR _ _ _ _ g) (gX.fresh 0 0 _) y y λx h=>aG h nv) ⟨oY,λH=>.rfl⟩ (λb C e=>fR _ _ _ _ (aY b C e)) λau f fM F W a=>?_
 exact⟨y,q au f fM W a λb C e=>F b C (λbP=>iH Z (bP▸e)) (λbP=>iH m (bP▸e)) (fR _ _ _ _ (aY b C e))⟩
end
namespace F
theorem N!:Manifest.owners.lookup (String.ofList ['r','o','t','a','r','e','t','i','_','t','e','s'].reverse)=A Manifest.sig_set_iterator:=by kernel_rfl
theorem Lf:Slot "set_iterator" "__next__" "set_iterator.__next__":=.of (owner:="set_iterator") (n:="__next__") (by rw[Ah,Ae];kernel_rfl) (by decide+kernel) (by decide+kernel) (by decide+kernel) (by first|exact .inl (by decide+kernel)|exact .inr (by decide+kernel)) (by rw[YZ];kernel_rfl)
theorem k0:OD table "set_iterator.__next__"=A Builtin.«set_iterator.__next__»:=YR (by kernel_rfl)
theorem b2(a:aw):argsOk "set_iterator.__next__" ⟨[a],[]⟩:=by unfold argsOk;rw[signature?_of (id:="set_iterator.__next__") (n:=['_','_','t','x','e','n','_','_']) (o:=['r','o','t','a','r','e','t','i','_','t','e','s']) (by kernel_rfl) N!];kernel_rfl
theorem k?:OD table "set.__iter__"=A Builtin.«frozenset.__iter__»:=entryFor_alias (id':="frozenset.__iter__") (by kernel_rfl) (by first|rfl|decide+kernel|(unfold String.splitOn;simp+decide [String.splitOnAux])) (by decide+kernel) (by kernel_rfl)
theorem aaA:vp (.type "set") "__len__"=ey (A (.builtin "set.__len__")):=by rw[Ah,Ae];kernel_rfl
end F
section
variable{s:aN} {t:kK} {M:List (Nat×V×aw)} {a:aZ} {i fa:Nat}
theorem f_{H:Source}{af:Nat->aN->Prop}(J:n≠0)(q:∀k B,k<n->af k {s with drawn:=B}):bb (dm prog w) R (choose H n) af E s:=λx x x=>⟨J,q _ _ (wU _ (Xh J))⟩
theorem Rb{bw:Type}{x:bw}:∀{l:List bw} {i:Nat},l[i]?=A x->l.Perm (x::l.eraseIdx i)
|[],_,h=>by exact aG h.symm (gJ _)
|Q::l,0,h=>by obtain rfl:=dk h;exact .refl _
|Q::l,i+1,h=>((Rb (l:=l) (i:=i) h).cons Q).trans (.swap _ _ _)
theorem P!{bw:Type}(n:Nat->Nat)(f:Nat):∀(k:Nat) (left:List bw) (Z:Array bw),D left=f->(pickOrder.go n f k left Z).toList.Perm (Z.toList++left):=by
 induction f with
 |zero=>intro k left Z h;obtain rfl:=ko h;rw[eF];exact .refl _
 |succ f F=>
  intro k left Z h;have Y:n k %D left<D left:=wU _ (h▸iC f);have e:=fO Y
  conv in pickOrder.go _ _ _ _ _=>whnf
  rw[e];refine(F (k+1) _ _ (by rw[Hd,cg Y,h];rfl)).trans ?_;rw[yN,ha];exact(Rb e).symm.append_left _
theorem P'{bw:Type}(n:Nat->Nat)(ar:Array bw):(pickOrder n ar).toList.Perm ar.toList:=P! n ar.size 0 ar.toList #[] y
theorem j1{bw:Type}(n:Nat):∀(ar:List bw) {s:aN} {af:List bw->aN->Prop},D ar=n->(∀bD B,bD.Perm ar->af bD {s with drawn:=B})->bb (dm prog w) R (drawOrder n ar) af E s:=by
 induction n with
 |zero=>exactλar z z h q=>ko h▸bh (q [] _ (ko h▸.refl _))
 |succ n F=>
  intro ar s af h q;cases ar with
  |nil=>exact aG h.symm (iP _)
  |cons x ar=>refine ap (f_ (λe=>aG e (iP _)) λk B X=>?_);have e:=fO X;rw[e];exact ap (F _ ((Hd ..).trans ((cg X).trans (ip h))) λbD d Y=>bh (q _ d ((Y.cons _).trans (Rb e).symm)))
noncomputable abbrev Fz(g:aw)(i:Int)(a:aw)(n:Int)(cJ:Nat):hb:={cls:=.type "set_iterator",dict:=aj,data:=.fields #[g,gK i,a,gK n,gK cJ],slots:=#[]}
inductive HB(w:eU)(M:List (Nat×V×aw))(a:aZ)(cJ:Nat)(t:kK)(i fa:Nat):List aw->Prop
|Lq:sW w=ak->HB w M a cJ t i fa ((pickOrder (w.params.setOrder a cJ) (M.map (eV w)).toArray).toList.map (·.2))
|Ka:sW w=aW->(!t.plain&&dV (1<(M.map (eV w)).toArray.size))=aW->t.led=ak->zY t.place fa=i->HB w M a cJ t i fa ((M.map (eV w)).map (·.2))
inductive vu(w:eU)(h:cv)(bf a:aZ)(M:List (Nat×V×aw))(cJ:Nat)(t:kK)(ord:List aw)(i:Nat):Prop
|mD (fa:Nat):h.get? bf=A (Fz (gK fa) i (.ref a) (D M) cJ)->HB w M a cJ t i fa ord->vu w h bf a M cJ t ord i
|AW (T k:Nat) (be:List Nat):h.get? bf=A (Fz (.ref T) i (.ref a) (D M) cJ)->T≠bf->h.get? T=A (jU (be.map λp:Nat=>gK p).toArray k)->(∀j:Nat,be[j]?=aj/\ord[j]?=aj\/∃p e,be[j]?=A p/\(M.map (eV w)).toArray[p]?=A e/\ord[j]?=A e.2)->vu w h bf a M cJ t ord i
theorem DT{af:Bool->aN->Prop}(q:af (sW w) s):bb (dm prog w) R setsByText af E s:=ap (DD (bh q))
theorem aax(P:HB w M a cJ t i fa ord)(T:gX w t M)(u:s.heap.get? a=A (nZ (M.map (eV w)).toArray cJ t)):∃r,(i<D M->HB w M a cJ t (i+1) r ord)/\∀(af:Option (aw×Nat)->aN->Prop) (E:aw->aN->Prop),af (ord[i]?.map (·,r)) s->bb (dm prog w) R (ON a fa i cJ) af E s:=by
 cases P with
 |Lq al=>refine⟨fa,λz=>.Lq al,λaf E q=>?_⟩;show bb _ _ (setState a>>=_) _ _ _;refine ap (qm u y T.kO (ap (DT (hy (λz=>?_) λq=>aG al q))));refine hy (λq=>aG q (by rw[bne_self_eq_false];exact dT)) λz=>?_;unfold setWalk;refine ap (ap (qm u y T.kO (ap (DT (hy (λz=>?_) λq=>aG al q)))));refine ap (DD (bh (bh ?_)));rw[fI,jJ,XD]at q;exact q
 |Ka al F B U=>
  have W:∀r,(∀af:Option (aw×Nat)->aN->Prop,af ((((M.map (eV w)).map (·.2))[i]?).map (·,r)) s->af (match(M.map (eV w)).toArray[i]?,t.place[i]? with|some (_,x),A j=>A (x,j+1)|_,_=>aj) s)->∀(af:Option (aw×Nat)->aN->Prop) (E:aw->aN->Prop),af ((((M.map (eV w)).map (·.2))[i]?).map (·,r)) s->bb (dm prog w) R (ON a fa i cJ) af E s:=λr g af E q=>by
   show bb _ _ (setState a>>=_) _ _ _;exact ap (qm u y T.kO (ap (DT (hy (λq=>aG (al.symm.trans q) dT) λz=>hy (λq=>aG (F.symm.trans q) dT) λz=>ap (hy (λq=>aG q (B.symm▸dT)) λz=>bh (U▸bh (g _ q)))))))
  by_cases aB:i<D M
  ·have o:M[i]?=A M[i]:=fO aB;have p:t.place[i]?=A M[i].1:=by rw[T.lA.mD,pU,fI,o];rfl
   refine⟨M[i].1+1,λz=>.Ka al F B ?_,W _ λaf q=>?_⟩
   ·have Y:=T.lA;have O:M.map (·.1)=((M.take i).map (·.1)++[M[i].1])++(M.drop (i+1)).map (·.1):=by
     rw[ha];show _=(M.take i).map (·.1)++(M[i]::M.drop (i+1)).map (·.1);rw[←MH aB,←eI,uY]
    rw[O]at Y;have X:=uX.mp Y.yq;refine(Y.below (j:=M[i].1+1) (λx Z=>?_) λx Z=>X.2.2 _ (jl _ sx) x Z).trans ?_
    ·rcases ew.mp Z with Z|Z
     ·exact qa ((uX.mp X.1).2.2 x Z _ sx)
     ·rw[cB.mp Z];exact jO _
    ·rw[cp,bK,tN,sA (dK aB)];rfl
   ·rw[((FC o).1),p];rw[fI,fI,o]at q;exact q
  ·refine⟨0,λq=>aG q aB,W _ λaf q=>?_⟩;have o:M[i]?=aj:=tM (ib aB);have bq:(M.map (eV w)).toArray[i]?=aj:=by rw[pU,fI,o];rfl
   rw[bq];rw[fI,fI,o]at q;exact q
end
section
variable{s:aN} {t:kK} {M:List (Nat×V×aw)} {a:aZ} {i fa:Nat}
theorem Ub{af:Option aw->aN->Prop}(J:R.handled=aj)(q:∀au,(∀c C,s.heap.get? c=A C->au.get? c=A C)->af aj {s with heap:=au}):bb (dm prog w) R.in1 (do raiseNew (←newExc (.type "StopIteration") [])) (λfin aJ=>∃H,fin=Fin.done (Flow.ret H)/\bb (dm prog w) R (ey (A H)) af E aJ) (λe aJ=>bb (dm prog w) R (do if←OG e (.type "StopIteration")then ey aj else throw e) af E aJ) s:=by refine ap (ap (qk ?_ (cW _)));exact ap (m:=OE _ _) (pk (a:=Value.none) y (qk (ZC ((HJ ..).trans J) (ap (ri (T:="StopIteration") (b:=ak) ⟨_,gG _ y,y⟩ OH (bh (q _ λc C e=>sJ _ (sJ _ e))))))))
theorem TR{af:Option aw->aN->Prop}(H:R.handled=aj)(h:vu w s.heap bf a M cJ t ord i)(m:s.heap.get? a=A (nZ (M.map (eV w)).toArray cJ t))(T:gX w t M)(A4:a≠bf)(aB:∀x,ord[i]?=A x->i<D M)(N:∀x au,ord[i]?=A x->vu w au bf a M cJ t ord (i+1)->hx bf s.heap au->af (A x) {s with heap:=au})(G:ord[i]?=aj->∀au,zW bf s.heap au->af aj {s with heap:=au}):bb (dm prog w) R (nF (.ref bf)) af E s:=by
 have O:s.TypeIs (.ref bf) "set_iterator":=by obtain⟨⟩:=h<;>exact⟨_,by assumption,y⟩
 refine ap (vq (pj (name:=jA "__next__") O F.Lf (kM F.Lf O F.k0 ?_ (F.b2 _))));refine ap (pk (a:=(.ref bf,[])) y ?_);have n:((M.map (eV w)).toArray.size:Int)=D M:=bA _ (rE M);cases h with
 |mD fa d P=>
  obtain⟨r,g,J⟩:=aax P T m;refine ap (Zu d y (ap (Pd m y T.kO (hy (λq=>aG q (by rw[n,bne_self_eq_false];exact dT)) λz=>?_))));show bb (dm prog w) R.in1 (ON a (wB fa) (wB i) (wB cJ)>>=_) _ _ _;rw[sq,sq,sq];refine ap (J _ _ ?_);cases u:ord[i]? with
  |some x=>exact ap (nG d (by simp) λab cL v=>ap (nG (s:={s with heap:=ab}) cL (by simp) λac dw Y=>bh ⟨x,y,bh (N x ac u (.mD r dw (g (aB x u))) (v.trans Y))⟩))
  |none=>exact ap (nG d (by simp) λab cL v=>Ub (s:={s with heap:=ab}) H λau k=>G u au λc C X e=>k c C (v.extBut c C X e))
 |AW l k be d j W U=>
  refine ap (Zu d y (ap (Pd m y T.kO (hy (λq=>aG q (by rw[n,bne_self_eq_false];exact dT)) λz=>ap (ql W y ?_)))));have f:(be.map λp:Nat=>gK p).toArray[wB i]?=be[i]?.map λp:Nat=>gK p:=by rw[pU,fI,sq]
  dsimp only;rw[f];refine(U i).elim (λb=>?_) λA0=>?_
  ·refine b.elim λZ bq=>?_;rw[Z];exact ap (nG d (by simp) λab cL v=>ap (nG (s:={s with heap:=ab}) cL (by simp) λac dw Y=>Ub (s:={s with heap:=ac}) H λau k=>G bq au λc C X e=>k c C ((v.trans Y).extBut c C X e)))
  ·refine A0.elim λp A1=>A1.elim λe A2=>A2.elim λZ A3=>A3.elim λbq B=>?_;rw[Z];show bb (dm prog w) R.in1 (setNextDrawn a (wB p) (wB cJ)>>=_) _ _ _;rw[sq,sq];refine ap (ap (qm m y T.kO (hy (λq=>aG q (by rw[bne_self_eq_false];exact dT)) λz=>?_)));dsimp only;rw[bq];exact bh (ap (nG d (by simp) λab cL v=>bh ⟨_,y,bh (N _ ab B (.AW l k be cL j ((v.2 l j).trans W) U) v)⟩))
end
section
variable{s:aN} {t:kK} {M:List (Nat×V×aw)} {a S:aZ} {i fa:Nat}
theorem vu.fZ(x:vu w h bf a M cJ t ord i)(g:h.get? S=A (gp bN c))(k:∀b C,b≠S->h.get? b=A C->au.get? b=A C):vu w au bf a M cJ t ord i:=by
 have W:∀{b C},h.get? b=A C->C.cls≠.type "list"->au.get? b=A C:=λe X=>k _ _ (λq=>X (by rw[q,g]at e;obtain rfl:=dk e;rfl)) e;cases x with
 |mD fa Z P=>exact .mD fa (W Z λq=>aG (kL q) (by decide)) P
 |AW T d be Z j Y r=>exact .AW T d be (W Z λq=>aG (kL q) (by decide)) j (W Y λq=>aG (kL q) (by decide)) r
theorem aaz(X:s.heap.get? a=A (nZ (M.map (eV w)).toArray cJ t))(T:gX w t M)(z:t.led=!sW w)(n:D M<=18)(q:∀au B bf ord,(∀b C,s.heap.get? b=A C->au.get? b=A C)->s.heap.objs.size<=bf->vu w au bf a M cJ t ord 0->ord.Perm ((M.map (eV w)).map (·.2))->af (.ref bf) {s with heap:=au,drawn:=B}):bb (dm prog w) R (qi (.ref a)) af E s:=by
 have O:s.TypeIs (.ref a) "set":=⟨_,X,y⟩
 refine wpAny_pyIter_slot O Yv (kM Yv O F.k? ?_ (adM _));refine ap (pk (a:=a) y (ap (m:=adr a) (ap (Pd X y T.kO (bh ?_)))));rw[rE];have mk:∀(Z:aN) (g:aw),Z.heap.get? a=A (nZ (M.map (eV w)).toArray cJ t)->(∀au,au.get? Z.heap.objs.size=A (Fz g (0:Nat) (.ref a) (D M) cJ)->(∀b C,Z.heap.get? b=A C->au.get? b=A C)->af (.ref Z.heap.objs.size) {Z with heap:=au})->
   bb (dm prog w) R.in1 (do ret (←newFields "set_iterator" [g,gK 0,.ref a,gK (D M),gK (←setEpoch a)]))
   (λfin aJ=>∃H,fin=.done (.ret H)/\∃(l:String) (r:aw),aJ.TypeIs H l/\vp (.type l) (jA "__next__")=ey (A r)/\af H aJ) E Z:=λZ g ab N=>by
  refine ap (Pe ab y T.kO (ap (m:=newFields _ _) (qk ?_)));have d:=gG Z.heap (o:=Fz g (0:Nat) (.ref a) (D M) cJ) y;exact bh ⟨_,y,"set_iterator",_,⟨_,d,y⟩,F.Lf.lookup,N _ d (fR _ _)⟩
 refine ap (m:=setDrawn a) (ap (qm X y T.kO (ap (DT (bh (hy (λW=>?_) λW=>?_))))))
 ·have W:=bx W;refine ap (j1 (D M) (fz (D M)) iA λbD B Y=>ap (xo ?_ (by rw[bK,(Y.length_eq.trans iA)];exact yx n)));have J:=gG s.heap (o:=jU (bD.map λp:Nat=>gK p).toArray 0) y;have aY:=fR s.heap (jU (bD.map λp:Nat=>gK p).toArray 0);have P:(s.heap.push (jU (bD.map λp:Nat=>gK p).toArray 0)).objs.size=s.heap.objs.size+1:=lO ..;refine mk {s with heap:=s.heap.push (jU (bD.map λp:Nat=>gK p).toArray 0),drawn:=B} _ (aY _ _ X) λau d u=>?_;generalize s.heap.push (jU (bD.map λp:Nat=>gK p).toArray 0)=ab at J aY P d u⊢;refine q au B _ (bD.map λp=>((M.map (eV w))[p]?.map (·.2)).getD .none) (λb C e=>u b C (aY b C e)) (P▸ka _) (.AW s.heap.objs.size 0 bD d (eC (P▸jO _)) (u _ _ J) λj=>?_) ?_
  ·rw[fI];cases e:bD[j]? with
   |none=>exact .inl ⟨y,y⟩
   |some p=>have:=hk.mp (Y.mem_iff.mp (io e));have U:=(FC (w:=w) (fO this)).1;refine .inr ⟨p,_,y,U,?_⟩;rw[pU]at U;rw[xa,U];rfl
  ·refine(Y.map _).trans (.of_eq (uS λi=>?_));rw[fI,fI];by_cases aB:i<D M
   ·rw[fO ((iA ..)▸aB),List.getElem_range];show A ((Nt (·.2) (M.map (eV w))[i]?).getD .none)=_;rw[fI,fO aB];rfl
   ·rw[tM ((iA ..)▸ib aB),fI,tM (ib aB)];rfl
 ·refine ap (bh (mk s (gK 0) X λau d k=>?_));cases al:sW w with
  |true=>exact q au s.drawn _ _ k (cu _) (.mD 0 d (.Lq al)) ((P' _ _).map _)
  |false=>rw[al]at W z;refine q au s.drawn _ _ k (cu _) (.mD 0 d (.Ka al (Ga.mpr W) z ?_)) (.refl _);have:=T.lA;exact this.below (λx h=>aG h nv) λx x=>cW _
theorem aaE{ae:xi->aN->Prop}(J:R.handled=aj)(r:S≠bf)(h:a≠S)(Z:a≠bf)(T:gX w t M)(N:D ord=D M)(n:D M<=18):∀(k i:Nat) (bN:Array aw) (c:Nat) (s:aN),i+k=D ord->vu w s.heap bf a M cJ t ord i->s.heap.get? a=A (nZ (M.map (eV w)).toArray cJ t)->s.heap.get? S=A (gp bN c)->bN.toList=ord.take i->(∀au p u,(∀b C,b≠S->b≠bf->s.heap.get? b=A C->au.get? b=A C)->au.get? S=A (gp p u)->p.toList=ord->ae (.ok (.ret Z7)) {s with heap:=au})->sQ (dm prog w) R (.builtin "list.extend.loop" ⟨[.ref S,.ref bf,Z7],[]⟩) ae s:=by
 have j:∀{i x},ord[i]?=A x->i<D M:=λe=>N▸(hZ.mp e).1;intro k;induction k with
 |zero=>intro i bN c s aB d m g f Q;refine bp λA2=>?_;obtain rfl:i=D ord:=aB;refine A2<|mR HN ?_;rw[tU zV _];exact ap (TR (R:=R.in1) J d m T Z (λx e=>j e) (λx au e=>aG (hZ.mp e).1 (ic _)) λz au U=>bh (Q au bN c (λb C z al e=>U b C al e) (U _ _ r g) (f▸(zu ..)▸y)))
 |succ k F=>
  intro i bN c s aB d m g f Q;have H:i<D ord:=aB▸pZ (iC k);refine mR HN<|ap (TR (R:=R.in1) J d m T Z (λx e=>j e) (λx au e G Y=>?_) λe=>aG (wK.mp e) (kI.mpr H));have W:au.get? S=A (gp bN c):=(Y.2 S r).trans g;have q:=(Y.2 a Z).trans m;have O:bN.size<=17:=by
   exact(jt ..)▸f▸(tN ..)▸aq (wR _ _) (hl (ef H (N▸n)))
  have v:(bN.push x).toList=ord.take (i+1):=by rw[yN,f,sy,e];rfl
  have aY:∀b C,b≠S->b≠bf->s.heap.get? b=A C->au.get? b=A C:=λb C z al e=>(Y.2 b al).trans e;clear Y d m g f;refine ap (vs (s:={s with heap:=au}) W y (bh ⟨ph zV _,?_⟩) (yx (lg O)) (by show(bN.push x).size<=_;rw[yM];exact dn (yx (lg O))));have E:=rb (fW (·.push x)) W y;have B:∀b C,b≠S->au.get? b=A C->(au.update S (fW (·.push x))).get? b=A C:=λb C al e=>(sL _ _ (oh al)).trans e;generalize au.update S (fW (·.push x))=ac at E B;refine F (i+1) (bN.push x) _ {s with heap:=ac} ((uZ ..)▸aB) (G.fZ W B) (B a _ h q) E v λbo p u l A0 A1=>Q bo p u (λb C X P e=>l b C X P (B b C X (aY b C X P e))) A0 A1
end
section
variable{c:eT} {s:aN} {aC ar r:List V} {w x:V} {t u:Nat}
theorem ace(p:Z2.Perm aX):∀{aC:List V},ci I h aC aX->∃fM,fM.Perm aC/\ci I h fM Z2:=by
 induction p with
 |nil=>exactλr=>⟨_,.refl _,r⟩
 |cons x p F=>
  intro aC r;cases aC with
  |nil=>exact aG r (ju _ _)
  |cons k aC=>refine bp λP=>?_;obtain⟨_,_,e,J,cK⟩:=r;obtain⟨rfl,rfl⟩:=fH e;obtain⟨fM,W,X⟩:=F cK;exact P<|⟨k::fM,W.cons k,_,_,y,J,X⟩
 |swap x Q l=>
  intro aC r;cases aC with
  |nil=>exact aG r (ju _ _)
  |cons k aC=>
   refine bp λP=>?_;obtain⟨_,_,e,J,cK⟩:=r;obtain⟨rfl,rfl⟩:=fH e;refine P ?_;cases aC with
   |nil=>exact aG cK (ju _ _)
   |cons bI aC=>refine bp λP=>?_;obtain⟨_,_,e,j,U⟩:=cK;obtain⟨rfl,rfl⟩:=fH e;exact P<|⟨bI::k::aC,.swap _ _ _,_,_,y,j,_,_,y,J,U⟩
 |trans p q Z i=>intro aC r;refine bp λP=>?_;obtain⟨aY,dv,J⟩:=i r;obtain⟨Y,et,cK⟩:=Z J;exact P<|⟨Y,et.trans dv,cK⟩
theorem k_:∀{M:List (Nat×V×aw)},(∀e∈M,jW fm I h e.2.1 e.2.2)->ci I h (M.map (·.2.1)) ((M.map (eV B.w)).map (·.2))
|[],_=>y
|e::M,Z=>⟨_,_,y,(Z e sx).2.2,k_ λx Y=>Z x (tO _ Y)⟩
theorem t'{S:aZ}{af:Bool->aN->Prop}(T:s.TypeIs (.ref S) "set")(q:af aW s):bb (ct B) R (adt (.ref S)) af E s:=by refine ap (rj T F.aaA (ap (ri T Zn (hy (λq=>aG q (by decide)) λx=>hy (λx=>?_) λq=>aG (by decide+kernel) q))));exact ap (ou T (bh q))
theorem h5{S:aZ}(A6:R.handled=aj)(O:mT B.w fm I aR s.heap S (!sW B.w) aC)(h:∀b C,aR.get? b=A C->s.heap.get? b=A C)(N:D aC<=18):Cp B I R s (.ref S) (λl=>l.Perm aC):=λE af q=>by
 refine bp λP=>?_;obtain⟨M,t,cJ,F,T,B7,A7,g⟩:=O;refine P ?_;rw[bK]at N;have r:S<s.heap.objs.size:=iQ F;have d:S≠s.heap.objs.size:=eC r;have A9:=k_ (B:=B) λe A5=>(g e A5).moved (bB.gL (aD:=[]) h);clear g h;refine ap (Pc (mR Ym ?_));rw[tU aeo _];show bb _ R.in1 (Ic []>>=λl=>again (.builtin "list.__iadd__" ⟨[l,.ref S],[]⟩)) _ _ s;refine ap (qk (bh ⟨ph NV _,mR Yl ?_⟩));rw[tU NV _];have aY:=fR s.heap {cls:=.type "list",data:=.seq ([]:List aw).toArray};have k:(s.heap.push {cls:=.type "list",data:=.seq ([]:List aw).toArray}).get? s.heap.objs.size=A (gp #[] 0):=gG _ y;have j:(s.heap.push {cls:=.type "list",data:=.seq ([]:List aw).toArray}).objs.size=s.heap.objs.size+1:=lO ..;show bb _ R.in1 (NC (.ref s.heap.objs.size) (.ref S) (.ref s.heap.objs.size)) _ _ _;have W:=aY _ _ F;generalize s.heap.push {cls:=.type "list",data:=.seq ([]:List aw).toArray}=ab at*;have Y:({s with heap:=ab}:aN).TypeIs (.ref S) "set":=⟨_,W,y⟩
 have i:ND (.ref s.heap.objs.size) (.ref S)=aW:=beq_eq_false_iff_ne.mpr λq=>d q.symm;refine ap (ou Y (hy (λq=>aG q (by rw[i];decide)) λx=>?_));clear i;refine ap (aaz (s:={s with heap:=ab}) W T A7 N λf Z bf ord U a A1 c=>?_);have A2:s.heap.objs.size≠bf:=eC (ef (j▸jO _) a);have A3:S≠bf:=eC (ef (j▸qa r) a);have B0:∀b C,s.heap.get? b=A C->b≠bf:=λb C e=>eC (ef (j▸qa (iQ e)) a);have kD:∀b C,s.heap.get? b=A C->b≠s.heap.objs.size:=λb C e=>eC (iQ e);have B1:∀b C,s.heap.get? b=A C->f.get? b=A C:=λb C e=>U b C (aY b C e);have H:=U _ _ W;have v:=U _ _ k;clear aY U a j W k Y F;refine ap (eX (t' (s:={s with heap:=f,drawn:=Z}) ⟨_,H,y⟩ (hy (λx=>?_) λq=>aG (by decide+kernel) q)));refine ap (li (ap (ap (vs (s:={s with heap:=f,drawn:=Z}) v y ?_ (cW _) (dn (cW _))))));have z:=sH v (·.push Value.none);refine vs z y ?_ (ma (n:=1) (aF y)) (cW _);have u:=sH z (·.pop);have J:∀b C,b≠s.heap.objs.size->f.get? b=A C->((f.update s.heap.objs.size (fW (·.push Value.none))).update s.heap.objs.size (fW (·.pop))).get? b=A C:=
  λb C al e=>(sL _ _ (oh al)).trans ((sL _ _ (oh al)).trans e)
 generalize(f.update s.heap.objs.size (fW (·.push Value.none))).update s.heap.objs.size (fW (·.pop))=bo at u J⊢;have A8:D ord=D M:=c.length_eq.trans ((bK ..).trans (bK ..));exact bh ⟨ph zV _,aaE (R:=R) (S:=s.heap.objs.size) A6 A2 d A3 T A8 N (D ord) 0 #[] _ {s with heap:=bo,drawn:=Z} (hu _) (A1.fZ v J) (J _ _ d H) u y λA0 p B6 B2 w A4=>ap (m:=PySem.load s.heap.objs.size) (Ai w (bh (bp λP=>(ace c A9).elim λfM B4=>B4.elim λB3 B5=>P (q A0 s.toks Z fM p.toList B3 (λb C e=>B2 b C (kD b C e) (B0 b C e) (J b C (kD b C e) (B1 b C e))) (dK (iQ w)) (A4▸B5)))))⟩
theorem jS:∀{l:List V},(∀H∈l,V.gh n H=ak)->V.fu n l=ak
|[],_=>by obtain⟨⟩:=n<;>rfl
|x::l,h=>by
 have:=jS λH Z=>h H (tO _ Z);obtain⟨⟩:=n<;>(show(V.gh _ x&&V.fu _ l)=ak;rw[(h x sx),this];rfl)
structure qo(l r:List V):Prop where
 nodup:r.Nodup
 mem:∀H,H∈r↔H∈l
 ord:r.Pairwise λx Q=>V.le x Q=ak
theorem gO.Z(K:gO t u l)(h:∀H∈ar,H∈l):gO t u ar:=⟨K.rX,K.sd,λk X=>K.kind k (h k X),λe k X=>K.head e k (h k X),jS λH Z=>nV K.hF (h H Z),λa aE b al=>K.ok a (h a aE) b (h b al)⟩
theorem qo.sort(O:qo l r)(K:gO t u l)(W:D l<64){ar:List V}(bg:qN l ar):nH ar ar (r.map λH=>(H,H)):=by
 have X:∀l:List V,l.zip l=l.map λH=>(H,H):=λl=>by
  induction l with
  |nil=>rfl
  |cons x l F=>exact bA ((x,x)::·) F
 have be:=(K.Z λH U=>(bg.2 H).mp U).hF;refine⟨y,?_,?_,λx Z Q Y e=>?_,.inl λi j aB M ab ac=>?_,er bg.J W,be⟩
 ·rw[X];exact((zt O.nodup bg.1).mpr λH=>(O.mem H).trans (bg.2 H).symm).map _
 ·exact oZ.mpr O.ord
 ·rw[X]at Z Y;obtain⟨H,_,rfl⟩:=bJ.mp Z;obtain⟨g,_,rfl⟩:=bJ.mp Y;exact e
 ·unfold tg at ab ac;rw[la,la,fO aB,fO M]at ab ac;exact uw bg.1 (fO aB) ((fO M).trans (bA A (Bj (nV be (pV aB)) ab ac).symm))
theorem d1:rh ("set":bj)=A (.type "set"):=by decide+kernel
theorem Gv(A3:bW B n e N z (.J a) ah)(aE:ah[a]?=A (.W l))(A4:CH t (D l))(B0:∀H∈l,V.hm 8 H=ak)(K:gO t u l)(O:qo l r):bW B n (.BM e) N z (.J (D ah)) (ah++[.W r]):=λc bu R E ay st I s af C aD q=>by
 have A2:D l<=18:=A4.elim (·.2) λh=>aq h.2 (aF y);refine ih.bX C λg aK B8 C=>?_;refine(bx C).elim λF Z=>?_;refine gz.bX F λQ B6 F=>?_;refine(bx F).elim λA7 d=>?_;obtain rfl:=dA A7;refine ji.bX Z λC0 Z=>?_;refine ih.bX Z λg aK B9 Z=>?_;refine(bx Z).elim λb M=>?_;refine gz.bX b λQ B7 b=>?_;refine(bx b).elim λA8 A0=>?_;obtain rfl:=dA A8;refine ji.bX M λp M=>?_;refine(bx M).elim λx A1=>?_;refine PQ aD.fr aD.dj d pw.mem pw.AH pw.nm (wf y) (vf ?_ (qF y));refine yG aD.fr aD.dj A0 (by decide+kernel) d1 (by decide) (wf x) (vf (A3 c p R E ay st I s _ A1 aD λaI U L i f ji=>?_) (qF x));have q:=q.after f;have A5:=aD.u;have J:=aD.room.1;clear aD A3 A1 x A0 d f;refine xf (i.ie aE ji λB5 ar k B4 B2 B3=>?_);refine e' (w:=B.w) J (Ez A5 (aF y)) B2 B3 A4 (λH W=>⟨B0 H W,K.kind H W⟩) λau dh aC A9 j o=>xf ?_;have A6:bL B U ah {L with heap:=au,toks:=dh}:=i.gL o y y;have B1:=aq j.J A2;refine Lh (t:=t) (u:=u) (s:={L with heap:=au,toks:=dh}) J (Ez A5 (aF y)) A6 (G:=r.map λH=>(H,H)) (P:=λl=>l.Perm aC) (λar Y=>?_) (λar Y=>?_) (h5 J A9 o B1) ?_
 ·exact O.sort K (er A2 (aF y)) ⟨Y.symm.nodup j.1,λH=>Y.mem_iff.trans (j.2 H)⟩
 ·exact K.Z λH W=>(j.2 H).mp (Y.mem_iff.mp W)
 ·rw[ed,show((·.2)∘λH:V=>(H,H))=id from y,zp];exact(q.after (bB.gL (aD:=[]) (I:=U) o:bB [] U L.heap U ({L with heap:=au,toks:=dh}:aN).heap))
end
section
variable{s:aN} {ba:aZ} {i:Nat} {x Q a b:aw}
abbrev xx(h:cv)(ba fC da:aZ)(l Y:aw):Prop:=h.get? ba=A {cls:=.type "zip",dict:=aj,data:=.fields #[l,Y,.bool aW,.ref fC,.ref da],slots:=#[]}
def ru(ba da fj fs:aZ)(h au:cv):Prop:=∀c C,c≠ba->c≠da->c≠fj->c≠fs->h.get? c=A C->au.get? c=A C
inductive MD(h:cv)(ba fC da:aZ)(i:Nat):Prop
|bM:i=0->vi h ba fC da .none->MD h ba fC da i
|W (T:Nat) (Z u H:aw):xx h ba fC da (gK T) Z->mm h T u H->T≠da->MD h ba fC da i
structure kN(h:cv)(ba fC da fj fs br bG:aZ)(ar bD:Array aw)(i:Nat):Prop where
 Bi:MD h ba fC da i
 BU:mm h fC (.ref fj) (.ref fs)
 to:∃a b,mm h da a b
 vW:h.IsListIter fj br i
 Bf:h.IsTupleIter fs bG i
 lst:h.IsList br ar
 Y:h.IsTuple bG bD
theorem y7{aQ:vj}{c:aZ}{af:Option hb->aN->Prop}(Z:af (s.heap.get? c) s):bb aQ R (Zc c) af E s:=λY p x=>by unfold Zc;rw[Sem.wp_loadIfAlive];exact Z
theorem UV{T:Nat}{o:hb}(j:xx s.heap ba fC da (gK T) Z7)(Y:s.heap.get? T=A o){af:Bool->aN->Prop}(q:∀aR cL,xx aR ba fC da (gK T) cL->hx ba s.heap aR->af aW {s with heap:=aR}):bb (dm prog w) R (NE (.ref ba)) af E s:=by refine ap (iq j y (x:=gK T) y (ap (y7 ?_)));rw[sq,Y];exact hy (λq=>aG q dT) λa=>ap (iq j y (x:=Z7) y (hy (λa=>ap (nG j (by simp) λaR k Z=>bh (q aR (.bool ak) k Z))) λa=>bh (q s.heap Z7 j (HS _ _))))
theorem kN.X(Z:kN h ba fC da fj fs br bG ar bD i)(U:vl ba fC da fj fs br bG)(k:ru ba da fj fs h au)(B:MD au ba fC da (i+1))(c:∃a b,mm au da a b)(N:au.IsListIter fj br (i+1))(g:au.IsTupleIter fs bG (i+1)):kN au ba fC da fj fs br bG ar bD (i+1):=⟨B,k _ _ U.TIz U.TITO U.TIi1 U.TIi2 Z.BU,c,N,g,Z.lst.at λC e=>k _ C U.l1z U.l1TO U.l1i1 U.l1i2 e,Z.Y.elim λC n=>n.elim λu r=>⟨C,k _ C U.l2z U.l2TO U.l2i1 U.l2i2 u,r⟩⟩
theorem acW{u H:aw}{T:Nat}(U:vl ba fC da fj fs br bG)(Z:kN s.heap ba fC da fj fs br bG ar bD i)(j:xx s.heap ba fC da (gK T) Z7)(Y:mm s.heap T u H)(r:T≠da)(A1:ar[i]?=A x)(A2:bD[i]?=A Q)(B:∀au,kN au ba fC da fj fs br bG ar bD (i+1)->mm au s.heap.objs.size x Q->ru ba da fj fs s.heap au->af (.ref s.heap.objs.size) {s with heap:=au}):bb (dm prog w) R (Builtin.«zip.__next__» ⟨[.ref ba],[]⟩) (λfin aJ=>∃H,fin=.done (.ret H)/\af H aJ) E s:=by show bb _ _ (vm (.ref ba) 2>>=_) _ _ _;refine ap (iq j y (x:=.bool aW) y (ap (iq j y (x:=.ref fC) y (ap (ql Z.BU y (ap (UV j Y λaR cL I X=>hy (λq=>aG q dT) λd=>?_)))))));dsimp only;rw[MO,wJ];refine ap (ap (ap (eX (ap (ZA (Z.vW.extBut X.extBut U.i1z) (Z.lst.extBut X.extBut U.l1z) A1 λac N p=>bh (bh (ap (ap (eX (ap (LH ((Z.Bf.extBut X.extBut U.i2z).extBut p.extBut U.i12.symm) ((Z.Y.extBut X.extBut U.l2z).extBut p.extBut U.l2i1) A2 λbo g f=>bh (bh (bh (ap (xo ?_ (ma (n:=2) (by decide)))))))))))))))));have M:∀c C,c≠ba->c≠fj->c≠fs->s.heap.get? c=A C->bo.get? c=A C:=λc C F h O e=>f.extBut _ _ O (p.extBut _ _ h (X.extBut _ _ F e));have L:bo.objs.size=s.heap.objs.size:=f.1.trans (p.1.trans X.1);have A3:xx bo ba fC da (gK T) cL:=f.extBut _ _ U.i2z.symm (p.extBut _ _ U.i1z.symm I);have m:=N.extBut f.extBut U.i12;clear X p f I N;refine bh ⟨_,y,?_⟩;rw[L];have W:=fR bo {cls:=.type "tuple",data:=.seq #[x,Q]};have J:=gG bo (o:={cls:=.type "tuple",data:=.seq #[x,Q]}) y;rw[L]at J;have k:ru ba da fj fs s.heap (bo.push {cls:=.type "tuple",data:=.seq #[x,Q]}):=λc C F d O l e=>W c C (M c C F O l e);have t:∀{c C},s.heap.get? c=A C->C.cls≠.type "tuple"->T≠c:=λe A0 q=>A0 (by rw[←q,Y]at e;obtain rfl:=dk e;rfl);refine bp λP=>Z.vW.elim λdX A4=>A4.elim λG A5=>A5.elim λF d=>Z.Bf.elim λcx A6=>A6.elim λbq A7=>A7.elim λh d=>P<|B _ (Z.X U k (.W T cL u H (W _ _ A3) (k _ _ (t j λq=>aG (kL q) (by decide)) r (t G (by rw[F];decide)) (t bq (by rw[h];decide)) Y) r) ?_ (m.at λC e=>W _ C e) (g.at λC e=>W _ C e)) J k;exact bp λP=>Z.to.elim λa A8=>A8.elim λb e=>P<|⟨a,b,W _ _ (M _ _ U.TOz U.TOi1 U.TOi2 e)⟩
end
section
variable{s:aN} {ba:aZ} {i:Nat} {x Q a b:aw}
theorem acS(U:vl ba fC da fj fs br bG)(Z:kN s.heap ba fC da fj fs br bG ar bD 0)(j:vi s.heap ba fC da .none)(B1:ar[0]?=A x)(B2:bD[0]?=A Q)(A7:∀au,kN au ba fC da fj fs br bG ar bD 1->mm au s.heap.objs.size x Q->ru ba da fj fs s.heap au->af (.ref s.heap.objs.size) {s with heap:=au}):bb (dm prog w) R (Builtin.«zip.__next__» ⟨[.ref ba],[]⟩) (λfin aJ=>∃H,fin=.done (.ret H)/\af H aJ) E s:=by refine bp λB6=>Z.to.elim λa B7=>B7.elim λb r=>B6 ?_;show bb _ _ (vm (.ref ba) 2>>=_) _ _ _;refine ap (iq j y (x:=.bool aW) y (ap (iq j y (x:=.ref fC) y (ap (ql Z.BU y (ap (m:=NE (.ref ba)) (ap (iq j y (x:=.none) y (bh (hy (λd=>?_) λq=>aG y q))))))))));refine ap (li (ap (iq j y (x:=.ref da) y (ap (nG j (by simp) λab O W=>?_)))));replace O:vi ab ba fC da .ellipsis:=O;refine ap ?_;rw[WP,WP,List.zipIdx_nil,wJ];refine ap (ap (ZB (ap (ZA (Z.vW.extBut W.extBut U.i1z) (Z.lst.extBut W.extBut U.l1z) B1 λac N p=>bh ?_))));have k:ru ba da fj fs s.heap ac:=λc C F d Y d e=>p.extBut _ _ Y (W.extBut _ _ F e);have P:=(Z.Bf.extBut W.extBut U.i2z).extBut p.extBut U.i12.symm;have r:mm ac da a b:=p.extBut _ _ U.TOi1 (W.extBut _ _ U.TOz r);have A4:vi ac ba fC da .ellipsis:=p.extBut _ _ U.i1z.symm O;have n:ac.objs.size=s.heap.objs.size:=W.1▸p.1▸y;have tup:ac.IsTuple bG bD:=(Z.Y.extBut W.extBut U.l2z).extBut p.extBut U.l2i1;clear O W p j;refine ap (ql r y (ap (ZG r λbo t f=>ap (xn (bh ?_)))));dsimp only;rw[wJ];refine ap (ap (ZB (ap (LH (P.extBut f.extBut U.TOi2.symm) (tup.extBut f.extBut U.l2TO) B2 λi P u=>bh ?_))));replace t:mm i da x b:=u.extBut _ _ U.TOi2 t;have k:ru ba da fj fs s.heap i:=λc C F h Y l e=>u.extBut _ _ l (f.extBut _ _ h (k c C F h Y l e));have N:=(N.extBut f.extBut U.TOi1.symm).extBut u.extBut U.i12;have A5:vi i ba fC da .ellipsis:=u.extBut _ _ U.i2z.symm (f.extBut _ _ U.TOz.symm A4);have n:i.objs.size=s.heap.objs.size:=u.1.trans (f.1.trans n);clear A4 f u tup r;refine ap (ql t y (ap (ZG t λX L I=>ap (xn (bh (bh ?_))))));replace L:mm X da x Q:=L;have k:ru ba da fj fs s.heap X:=λc C F h Y l e=>I.extBut _ _ h (k c C F h Y l e);have N:=N.extBut I.extBut U.TOi1.symm;have P:=P.extBut I.extBut U.TOi2.symm;have A1:vi X ba fC da .ellipsis:=I.extBut _ _ U.TOz.symm A5;have n:X.objs.size=s.heap.objs.size:=n▸I.1▸y;clear A5 I t;refine ap (ql L y (ap (xo ?_)));have B:=fR X {cls:=.type "tuple",data:=.seq #[x,Q]};have J:=gG X (o:={cls:=.type "tuple",data:=.seq #[x,Q]}) y;have A0:X.objs.size≠ba:=fU (iQ A1);have B3:=B _ _ A1;have A3:=fU (iQ L);rw[n]at J A0 A3⊢;have A8:=B _ _ L;have k:ru ba da fj fs s.heap (X.push {cls:=.type "tuple",data:=.seq #[x,Q]}):=λc C F h Y l e=>B c C (k c C F h Y l e);have N:=N.at λC e=>B _ C e;have P:=P.at λC e=>B _ C e;generalize X.push {cls:=.type "tuple",data:=.seq #[x,Q]}=A2 at*;clear B A1 L;refine ap (m:=XY (.ref ba) (.ref s.heap.objs.size)) (ap (nG (s:={s with heap:=A2}) B3 (by simp) λA6 B4 A9=>nG (s:={s with heap:=A6}) B4 (by simp) λg B5 B0=>?_));have M:∀c C,c≠ba->A2.get? c=A C->g.get? c=A C:=λc C F e=>B0.extBut _ _ F (A9.extBut _ _ F e);have k:ru ba da fj fs s.heap g:=λc C F h Y l e=>M c C F (k c C F h Y l e);exact bh ⟨_,y,A7 g (Z.X U k (.W s.heap.objs.size (.bool aW) x Q B5 (M _ _ A0 J) A3) ⟨x,Q,M _ _ U.TOz A8⟩ (N.at λC e=>M _ C U.i1z e) (P.at λC e=>M _ C U.i2z e)) (M _ _ A0 J) k⟩
theorem acR{u H:aw}{T:Nat}{af:Option aw->aN->Prop}(J:R.handled=aj)(U:vl ba fC da fj fs br bG)(Z:kN s.heap ba fC da fj fs br bG ar bD i)(j:xx s.heap ba fC da (gK T) Z7)(Y:mm s.heap T u H)(t:ar[i]?=aj)(B:∀au,(∀c C,c≠ba->c≠fj->s.heap.get? c=A C->au.get? c=A C)->af aj {s with heap:=au}):bb (dm prog w) R (nF (.ref ba)) af E s:=by
 have O:s.TypeIs (.ref ba) "zip":=⟨_,j,y⟩
 refine ap (vq (pj (name:=jA "__next__") O HR (kM HR O Yo ?_ (Yi _))));show bb _ _ (vm (.ref ba) 2>>=_) _ _ _;refine ap (iq j y (x:=.bool aW) y (ap (iq j y (x:=.ref fC) y (ap (ql Z.BU y (ap (UV j Y λaR cL k W=>hy (λq=>aG q dT) λa=>?_)))))));dsimp only;rw[MO,wJ];exact ap (ap (ap (eX (ap (wpAny_nextOf_list_end J (Z.vW.extBut W.extBut U.i1z) (Z.lst.extBut W.extBut U.l1z) t λac e I L=>bp λP=>L.elim λC r=>r.elim λG X=>P (ap (ri (T:="StopIteration") (b:=ak) ⟨C,G,X⟩ OH (bh (B _ λc C N M e=>I _ _ M (W.extBut _ _ N e))))))))))
end
namespace F
theorem acZ:vp (.type "zip") "__len__"=ey aj:=by rw[Ah,Ae];kernel_rfl
theorem acY:vp (.type "zip") "__length_hint__"=ey aj:=by rw[Ah,Ae];kernel_rfl
end F
section
variable{s:aN} {ba S:aZ} {i:Nat} {x Q a b:aw}
theorem nR{c d:aZ}{C Z:hb}{p q:aw}(e:h.get? c=A C)(bP:h.get? d=A Z)(X:C.cls=p)(F:Z.cls=q)(n:p≠q):c≠d:=λr=>n (by rw[←X,←F];rw[r,bP]at e;obtain rfl:=dk e;rfl)
def qe(aR h:cv)(da:aZ)(ar bD bN:Array aw):Prop:=∀j x Q,j<bN.size->ar[j]?=A x->bD[j]?=A Q->∃T:aZ,bN[j]?=A (.ref T)/\mm h T x Q/\aR.objs.size<=T/\T≠da
theorem qe.fZ(P:qe aR h da ar bD bN)(k:∀T x Q,T≠da->mm h T x Q->mm au T x Q):qe aR au da ar bD bN:=λj x Q M X Y=>(P j x Q M X Y).elim λT n=>n.elim λt W=>W.elim λr U=>U.elim λZ H=>⟨T,t,k T x Q H r,Z,H⟩
theorem qe.push(P:qe aR h da ar bD bN)(O:ar[bN.size]?=A x)(Y:bD[bN.size]?=A Q)(U:mm h T x Q)(g:aR.objs.size<=T)(n:T≠da):qe aR h da ar bD (bN.push (.ref T)):=λj u H M Z X=>by
 rw[yM]at M;rcases tS (hl M)with M|rfl
 ·exact bp λN=>(P j u H M Z X).elim λW L=>L.elim λt r=>N<|⟨W,by rw[Vc M,←mI];exact t,r⟩
 ·rw[O]at Z;rw[Y]at X;cases Z;obtain rfl:=dk X;exact⟨T,Vd,U,g,n⟩
theorem acX{af:Option aw->aN->Prop}(U:vl ba fC da fj fs br bG)(Z:kN s.heap ba fC da fj fs br bG ar bD i)(N:ar[i]?=A x)(Y:bD[i]?=A Q)(B:∀au,kN au ba fC da fj fs br bG ar bD (i+1)->mm au s.heap.objs.size x Q->ru ba da fj fs s.heap au->af (A (.ref s.heap.objs.size)) {s with heap:=au}):bb (dm prog w) R (nF (.ref ba)) af E s:=by
 have O:s.TypeIs (.ref ba) "zip":=by obtain⟨⟩:=Z.Bi<;>exact⟨_,by assumption,y⟩
 refine ap (vq (pj (name:=jA "__next__") O HR (kM HR O Yo ?_ (Yi _))));cases Z.Bi with
 |bM e j=>subst e;exact acS U Z j N Y λau p X P=>bh (B au p X P)
 |W T L u H j M r=>exact acW U Z j M r N Y λau p X P=>bh (B au p X P)
theorem kN.fZ(Z:kN h ba fC da fj fs br bG ar bD i)(k:∀{b C p},h.get? b=A C->C.cls=.type p->p≠"list"->au.get? b=A C)(B:∀C,h.get? br=A C->au.get? br=A C):kN au ba fC da fj fs br bG ar bD i:=by
 refine⟨?_,k Z.BU y (by decide),?_,?_,?_,Z.lst.at B,?_⟩
 ·cases Z.Bi with
  |bM e j=>exact .bM e (k j y (by decide))
  |W T U u H j Y P=>exact .W T U u H (k j y (by decide)) (k Y y (by decide)) P
 ·exact Z.to.elim λa O=>O.elim λb e=>⟨a,b,k e y (by decide)⟩
 ·exact Z.vW.elim λC N=>N.elim λe L=>L.elim λX r=>⟨C,k e X (by decide),X,r⟩
 ·exact Z.Bf.elim λC M=>M.elim λe c=>c.elim λX r=>⟨C,k e X (by decide),X,r⟩
 ·exact Z.Y.elim λC I=>I.elim λe q=>q.elim λX r=>⟨C,k e X (by decide),X,r⟩
theorem kN.hM(Z:kN h ba fC da fj fs br bG ar bD i)(g:h.get? S=A (gp bN c))(B:br≠S)(k:∀b C,b≠S->h.get? b=A C->au.get? b=A C):kN au ba fC da fj fs br bG ar bD i:=Z.fZ (λe X n=>k _ _ (nR e g X y λq=>n (kL q)) e) λC e=>k _ C B e
structure IJ(aR:cv)(ba da fj fs br S:aZ):Prop where
 s?:aR.objs.size<=ba
 Rk:aR.objs.size<=da
 cL:aR.objs.size<=fj
 dw:aR.objs.size<=fs
 JF:aR.objs.size<=S
 cP:br≠S
theorem acV{ae:xi->aN->Prop}(A9:R.handled=aj)(U:vl ba fC da fj fs br bG)(O:IJ aR ba da fj fs br S)(B0:ar.size=bD.size)(A8:0<ar.size)(A1:ar.size<64):∀(k i:Nat) (bN:Array aw) (c:Nat) (s:aN),i+k=ar.size->bN.size=i->kN s.heap ba fC da fj fs br bG ar bD i->s.heap.get? S=A (gp bN c)->qe aR s.heap da ar bD bN->(∀b C,aR.get? b=A C->s.heap.get? b=A C)->(∀(au:cv) m A5,(∀b C,aR.get? b=A C->au.get? b=A C)->au.get? S=A (gp m A5)->m.size=ar.size->qe aR au da ar bD m->ae (.ok (.ret Z7)) {s with heap:=au})->sQ (dm prog w) R (.builtin "list.extend.loop" ⟨[.ref S,.ref ba,Z7],[]⟩) ae s:=by
 have M:∀{b C},aR.get? b=A C->b≠ba/\b≠da/\b≠fj/\b≠fs/\b≠S:=λe=>have f:=λ{c:aZ} (g:aR.objs.size<=c)=>eC (ef (iQ e) g)
  ⟨f O.s?,f O.Rk,f O.cL,f O.dw,f O.JF⟩
 intro k;induction k with
 |zero=>
  intro i bN c s aB aE Z N P K l;refine bp λL=>?_;obtain rfl:i=ar.size:=aB;refine Z.vW.elim λdX B4=>B4.elim λI B5=>B5.elim λF a=>L<|mR HN ?_;cases Z.Bi with
  |bM e j=>exact aG e (fU A8)
  |W T A7 u H j d r=>
   refine ap (acR (R:=R.in1) A9 U Z j d (Ch (cu _)) λau k=>bh (l au bN c (λb C e=>k b C (M e).1 (M e).2.2.1 (K b C e)) ?_ aE (P.fZ λT x Q a e=>?_)))
   ·exact k _ _ (nR N j y y λq=>aG (kL q) (by decide)) (nR N I y F λq=>aG (kL q) (by decide)) N
   ·exact k _ _ (nR e j y y λq=>aG (kL q) (by decide)) (nR e I y F λq=>aG (kL q) (by decide)) e
 |succ k B1=>
  intro i bN c s aB aE Z N P K l;have t:i<ar.size:=aB▸pZ (iC k);have h:=mI t;have Y:=mI (B0▸t);generalize ar[i]=x at h;generalize bD[i]=Q at Y;refine mR HN<|ap (acX U Z h Y λau A4 d k=>?_);have oH:∀{b C p},s.heap.get? b=A C->C.cls=.type p->p≠"zip"->p≠"list_iterator"->p≠"tuple_iterator"->b≠da->au.get? b=A C:=λe X A2 B2 B3 al=>by
   refine bp λL=>Z.vW.elim λdX B6=>B6.elim λI B7=>B7.elim λF a=>Z.Bf.elim λcx B8=>B8.elim λbq B9=>B9.elim λA6 a=>L<|k _ _ ?_ al (nR e I X F λq=>B2 (kL q)) (nR e bq X A6 λq=>B3 (kL q)) e;cases Z.Bi with
   |bM _ j=>exact nR e j X y λq=>A2 (kL q)
   |W T A7 u H j _ _=>exact nR e j X y λq=>A2 (kL q)
  refine bp λL=>Z.to.elim λu C0=>C0.elim λH r=>L ?_;have A0:s.heap.objs.size≠da:=fU (iQ r);have J:aR.objs.size<=s.heap.objs.size:=aq O.Rk (dK (iQ r));have G:=oH N y (by decide) (by decide) (by decide) (nR N r y y λq=>aG (kL q) (by decide));have A3:=(P.fZ λT x Q n e=>oH e y (by decide) (by decide) (by decide) n).push (aE.symm▸h) (aE.symm▸Y) d J A0;have pS:∀b C,aR.get? b=A C->au.get? b=A C:=λb C e=>k b C (M e).1 (M e).2.1 (M e).2.2.1 (M e).2.2.2.1 (K b C e);clear oH k K P N Z r J A0;generalize s.heap.objs.size=T at*;refine ap (vs (s:={s with heap:=au}) G y (bh ⟨ph zV _,?_⟩) (aE▸ma (kH t A1)) (by show(bN.push _).size<=_;rw[yM,aE];exact dn (ma (kH t A1))));have E:=rb (fW (·.push (.ref T))) G y;have B:∀b C,b≠S->au.get? b=A C->(au.update S (fW (·.push (.ref T)))).get? b=A C:=λb C al e=>(sL _ _ (oh al)).trans e;generalize au.update S (fW (·.push (.ref T)))=ac at E B⊢;exact B1 (i+1) (bN.push (.ref T)) _ {s with heap:=ac} ((uZ ..)▸aB) (aE▸(yM ..)▸y) (A4.hM G O.cP B) E (A3.fZ λT x Q n e=>B _ _ (nR e G y y λq=>aG (kL q) (by decide)) e) (λb C e=>B b C (M e).2.2.2.2 (pS b C e)) l
end
section
section
variable{s:aN} {ba S:aZ} {i:Nat} {x Q a b:aw}
noncomputable abbrev Ce(br:aZ):hb:={cls:=.type "list_iterator",data:=.fields #[.ref br,.int 0 0]}
noncomputable abbrev Cf(bG:aZ):hb:={cls:=.type "tuple_iterator",data:=.fields #[.ref bG,.int 0 0]}
noncomputable abbrev sf(a b:aw):hb:={cls:=.type "tuple",data:=.seq #[a,b]}
noncomputable abbrev Cg(a b:aZ):hb:={cls:=.type "zip",data:=.fields #[.none,.bool aW,.bool aW,.ref a,.ref b]}
noncomputable abbrev uF(h:cv)(br bG:aZ):cv:=((((h.push (Ce br)).push (Cf bG)).push (sf (.ref h.objs.size) (.ref (h.objs.size+1)))).push (sf .none .none)).push (Cg (h.objs.size+2) (h.objs.size+3))
theorem z9(br bG:aZ)(ar bD:Array aw):Dr (Builtin.«zip.__new__» ⟨[.type "zip",.ref br,.ref bG],[]⟩) (λx ae s=>s.heap.IsList br ar/\s.heap.IsTuple bG bD/\ae (.ok (.ret (.ref (s.heap.objs.size+4)))) {s with heap:=uF s.heap br bG}):=.of_wp λprog w R ae s h=>by obtain⟨Y,g,d,dh,os⟩:=s;obtain⟨t,m,h⟩:=h;have X:=sub_zip;have Z:Yx (Shared.heap ⟨Y.push {cls:=.type "list_iterator",data:=.fields #[.ref br,.int 0 0]},g,d,dh,os⟩) bG bD:=Heap.IsTuple.push m _;wp_walk using DE t,Io Z;refine⟨_,y,?_⟩;simpa[lO,jn,adx,uF]using h
theorem aff{b:Nat}(ab:br<b)(ac:bG<b):vl (b+4) (b+2) (b+3) b (b+1) br bG:=by have n:∀j k,j≠k->b+j≠b+k:=λj k h e=>h (CY e);have Z:∀k,br≠b+k:=λk=>eC (ef ab (dP b k));have L:∀k,bG≠b+k:=λk=>eC (ef ac (dP b k));exact⟨n 2 4 (eG y),n 3 4 (eG y),n 0 4 (eG y),n 1 4 (eG y),n 2 3 (eG y),n 2 0 (eG y),n 2 1 (eG y),n 3 0 (eG y),n 3 1 (eG y),n 0 1 (eG y),Z 4,Z 3,Z 0,Z 1,L 4,L 3,L 0,L 1⟩
theorem ada(t:h.IsList br ar)(m:h.IsTuple bG bD):(uF h br bG).objs.size=h.objs.size+5/\(∀b C,h.get? b=A C->(uF h br bG).get? b=A C)/\vi (uF h br bG) (h.objs.size+4) (h.objs.size+2) (h.objs.size+3) .none/\kN (uF h br bG) (h.objs.size+4) (h.objs.size+2) (h.objs.size+3) h.objs.size (h.objs.size+1) br bG ar bD 0:=by have p:(h.push (Ce br)).objs.size=h.objs.size+1:=lO ..;have j:=gG h (o:=Ce br) y;have aY:=fR h (Ce br);unfold uF;generalize h.push (Ce br)=cL at*;have X:(cL.push (Cf bG)).objs.size=h.objs.size+2:=(lO ..).trans (bA _ p);have Z:=gG cL (o:=Cf bG) y;have W:=fR cL (Cf bG);rw[p]at Z;generalize cL.push (Cf bG)=dw at*;have a:(dw.push (sf (.ref h.objs.size) (.ref (h.objs.size+1)))).objs.size=h.objs.size+3:=(lO ..).trans (bA _ X);have q:=gG dw (o:=sf (.ref h.objs.size) (.ref (h.objs.size+1))) y;have i:=fR dw (sf (.ref h.objs.size) (.ref (h.objs.size+1)));rw[X]at q;generalize dw.push (sf (.ref h.objs.size) (.ref (h.objs.size+1)))=J at*;have z:(J.push (sf .none .none)).objs.size=h.objs.size+4:=(lO ..).trans (bA _ a);have x:=gG J (o:=sf .none .none) y;have Y:=fR J (sf .none .none);rw[a]at x;generalize J.push (sf .none .none)=c at*;have I:(c.push (Cg (h.objs.size+2) (h.objs.size+3))).objs.size=h.objs.size+5:=(lO ..).trans (bA _ z);have w:=gG c (o:=Cg (h.objs.size+2) (h.objs.size+3)) y;have M:=fR c (Cg (h.objs.size+2) (h.objs.size+3));rw[z]at w;generalize c.push (Cg (h.objs.size+2) (h.objs.size+3))=B at*;have k:∀b C,h.get? b=A C->B.get? b=A C:=λb C e=>M _ _ (Y _ _ (i _ _ (W _ _ (aY _ _ e))));exact⟨I,k,w,.bM y w,M _ _ (Y _ _ q),⟨_,_,M _ _ x⟩,⟨_,M _ _ (Y _ _ (i _ _ (W _ _ j))),y,y⟩,⟨_,M _ _ (Y _ _ (i _ _ Z)),y,y⟩,t.at λC e=>k _ C e,m.elim λC n=>n.elim λu r=>⟨C,k _ C u,r⟩⟩
theorem acU{ae:xi->aN->Prop}(J:R.handled=aj)(U:vl ba fC da fj fs br bG)(i:IJ aR ba da fj fs br S)(L:ar.size=bD.size)(P:0<ar.size)(a:ar.size<64)(Z:kN s.heap ba fC da fj fs br bG ar bD 0)(j:vi s.heap ba fC da .none)
  {c:Nat}(g:s.heap.get? S=A (gp #[] c))(K:∀b C,aR.get? b=A C->s.heap.get? b=A C)(Q:∀(au:cv) p u,(∀b C,aR.get? b=A C->au.get? b=A C)->au.get? S=A (gp p u)->p.size=ar.size->qe aR au da ar bD p->ae (.ok (.ret .none)) {s with heap:=au}):bb (dm prog w) R.in1 (Builtin.«list.__init__» ⟨[.ref S,.ref ba],[]⟩) (λfin aJ=>match fin with|.done f=>ae (.ok f) aJ|.again u=>u.quiet=ak/\sQ (dm prog w) R u ae aJ) (λe aJ=>ae (.error e) aJ) s:=by
 have v:∀{b C},aR.get? b=A C->b≠S:=λe=>eC (ef (iQ e) i.JF);show bb _ R.in1 (do let t←ads (.ref S);XT (.ref S) (λx=>#[]);letGo t.toList.reverse;NC (.ref S) (.ref ba) .none) _ _ _;refine ap (HG g y (ap (xd g y ?_ (cW _) (cW _))));have h:=sH g λx=>(#[]:Array aw)
 have W:∀b C,b≠S->s.heap.get? b=A C->(s.heap.update S (fW λx=>(#[]:Array aw))).get? b=A C:=λb C al e=>(sL _ _ (oh al)).trans e;have k:=Z.hM g i.cP W;have O:=W _ _ (nR j g y y λq=>aG (kL q) (by decide)) j;have l:∀b C,aR.get? b=A C->(s.heap.update S (fW λx=>(#[]:Array aw))).get? b=A C:=λb C e=>W b C (v e) (K b C e);generalize s.heap.update S (fW λx=>(#[]:Array aw))=ab at*;clear W g Z K j;refine ap (xn ?_);have Y:({s with heap:=ab}:aN).TypeIs (.ref ba) "zip":=⟨_,O,y⟩
 refine ap (ou Y ?_);have X:ND (.ref S) (.ref ba)=aW:=beq_eq_false_iff_ne.mpr (nR h O y y λq=>aG (kL q) (by decide));refine hy (λq=>aG q (by rw[X];decide)) λx=>?_;clear X;refine ap (wpAny_pyIter_zip (s:={s with heap:=ab}) O (ap (eX (ap (m:=specialOf (.ref ba) "__len__") (rj Y F.acZ (ap (rj Y F.acY (bh (ap (li (ap (ap (vs (s:={s with heap:=ab}) h y ?_ (cW _) (dn (cW _)))))))))))))));have E:=sH h (·.push Value.none);refine vs E y ?_ (ma (n:=1) (by decide)) (cW _);have r:=sH E (·.pop);have B:∀b C,b≠S->ab.get? b=A C->((ab.update S (fW (·.push Value.none))).update S (fW (·.pop))).get? b=A C:=
  λb C al e=>(sL _ _ (oh al)).trans ((sL _ _ (oh al)).trans e)
 generalize(ab.update S (fW (·.push Value.none))).update S (fW (·.pop))=ac at r B⊢;exact bh ⟨ph zV _,acV J U i L P a ar.size 0 #[] _ {s with heap:=ac} (hu _) y (k.hM h i.cP B) r (λx x x M=>aG M (mO _)) (λb C e=>B b C (v e) (l b C e)) Q⟩
end
variable{c:eT} {s:aN} {G:List V} {w x:V} {tb qt:afe}
theorem e_{br bG:aZ}{ar bD:Array aw}(J:R.handled=aj)(t:s.heap.IsList br ar)(m:s.heap.IsTuple bG bD)(n:ar.size=bD.size)(X:0<ar.size)(M:ar.size<64)(W:∀(au:cv) bN c S da,s.heap.objs.size<=S->S≠da->(∀b C,s.heap.get? b=A C->au.get? b=A C)->au.get? S=A (gp bN c)->bN.size=ar.size->qe s.heap au da ar bD bN->af (.ref S) {s with heap:=au}):bb (ct B) R (ja (.type "zip") [.ref br,.ref bG]) (λH L=>bb (ct B) R (ja (.type "list") [H]) af E L) E s:=by
 refine YK adP (by decide) (aex _ _) (aek _ _) (λN=>adK N _ _) aef (z9 br bG ar bD) ⟨t,m,?_⟩;obtain⟨I,k,j,Z⟩:=ada t m;have U:=aff (br:=br) (bG:=bG) (b:=s.heap.objs.size) (t.elim λx r=>r.elim λe x=>iQ e) (m.elim λx f=>f.elim λe x=>iQ e);have i:IJ s.heap (s.heap.objs.size+4) (s.heap.objs.size+3) s.heap.objs.size (s.heap.objs.size+1) br (s.heap.objs.size+5):=
  ⟨dP _ 4,dP _ 3,cu _,ka _,dP _ 5,t.elim λx a=>a.elim λe x=>eC (ef (iQ e) (dP _ 5))⟩
 have q:s.heap.objs.size+5≠s.heap.objs.size+3:=λe=>aG (CY e) (eG y);refine⟨⟨_,j,y⟩,?_⟩;generalize uF s.heap br bG=ab at*;generalize s.heap.objs.size+5=S at*;generalize s.heap.objs.size+4=ba at*;generalize s.heap.objs.size+3=da at*;refine YJ (Q₁:=λN Y=>N=.ref S/\Y={s with heap:=ab.push {cls:=.type "list",data:=.seq #[]}}) adO (aev _) adX
  (code_list_new _ ⟨bA _ I,y⟩) λN Y F=>?_
 obtain⟨rfl,rfl⟩:=F;have g:=gG ab (o:={cls:=.type "list",data:=.seq #[]}) y;rw[I]at g;have aY:=fR ab {cls:=.type "list",data:=.seq #[]};exact⟨⟨_,g,y⟩,adH _ _,acU (R:=R.in1) (s:={s with heap:=ab.push {cls:=.type "list",data:=.seq #[]}}) ((HJ ..).trans J) U i n X M (Z.fZ (λe x x=>aY _ _ e) λC e=>aY _ C e) (aY _ _ j) g (λb C e=>aY b C (k b C e)) λau p u K w aE P=>⟨y,W au p u S da i.JF q K w aE P⟩⟩
theorem T'{ar bD bN:Array aw}{da:aZ}(M:ci I aR l ar.toList)(o:ci I aR G bD.toList)(B:D l=D G)(n:bN.size=D l)(P:qe aR h da ar bD bN)(q:bB [] I aR bF h)(w:∀T x Q,mm h T x Q->aR.objs.size<=T->T∉fq bF):ci bF h ((l.zip G).map λp=>.Y [p.1,p.2]) bN.toList:=ci.Kz (by rw[bK,MT,(jt (xs:=bN)).trans n,←B,Hp]) λi H aI Z g=>by rw[fI]at Z;refine bp λL=>?_;obtain⟨⟨x,Q⟩,j,rfl⟩:=lN.mp Z;refine(List.getElem?_zip_eq_some.mp j).elim λU Y=>(M.get.2 i U).elim λu J=>J.elim λX c=>(o.get.2 i Y).elim λs W=>W.elim λa e=>?_;rw[jJ]at X a g;refine(P i u s (n▸(hZ.mp U).1) X a).elim λT F=>F.elim λt C=>C.elim λr k=>k.elim λb z=>?_;rw[t]at g;obtain rfl:=dk g;exact L<|⟨T,#[u,s],0,y,w T u s r b,r,u,[s],y,c.fl q,s,[],y,e.fl q,y⟩
theorem c3:rh ("zip":bj)=A (.type "zip"):=by decide+kernel
theorem VE(d:bW B n tb N z (.J a) ah)(O:bW B n qt N ah (.Y G) aV)(aE:aV[a]?=A (.W l))(i:D l=D G)(aR:0<D l)(A8:D l<64):bW B n (.zip tb qt) N z (.J (D aV)) (aV++[.W ((l.zip G).map λp=>.Y [p.1,p.2])]):=λc bu R E ay st I s af u aD q=>by
 refine ih.bX u λg aK C9 u=>?_;refine(bx u).elim λC Z=>?_;refine gz.bX C λQ C7 C=>?_;refine(bx C).elim λA4 h=>?_;obtain rfl:=dA A4;refine ji.bX Z λD1 Z=>?_;refine ih.bX Z λg aK D0 Z=>?_;refine(bx Z).elim λt M=>?_;refine gz.bX t λQ C8 t=>?_;refine(bx t).elim λA5 f=>?_;obtain rfl:=dA A5;refine cK.bX M λB5 B6 M=>?_;refine(bx M).elim λr U=>?_;refine(bx U).elim λU W=>?_;refine(bx W).elim λW w=>?_;refine yG aD.fr aD.dj h IV.mem IV.AH IV.nm (wf y) (vf ?_ (qF y));refine yG aD.fr aD.dj f (by decide+kernel) c3 (by decide) (λp o=>?_) (vf (d c B5 R E ay st I s _ W aD λaI C0 B7 A3 J ji=>?_) (qF r))
 ·refine(ee.mp o).elim (λA6=>?_) λo=>?_
  ·obtain rfl:=A6;exact r
  ·exact wf U p o
 refine vf (O c B6 R E ay st C0 B7 _ w (aD.Y A3 J) λC6 D3 B8 Y F cK=>?_) (qF U);have q:=(q.after J).after F;have B0:=aD.room.1;have ji:=ji.fl F;clear aD d O w W U r f h J F;refine xf (Y.ie aE ji λC4 ar k C2 B1 A0=>cK.t λC5 bD C3 al B2 A1=>?_);have L:=A0.size;have B9:=A1.size;refine jb (e_ (af:=af) B0 (hE B1) (kQ B2) (L.trans (i.trans B9.symm)) (L▸aR) (L▸A8) λau bN c S da j C1 A2 e B3 P=>?_) (λH D2 bo=>xf bo) λb b x=>x;have B4:=T' A0 A1 i (B3.trans L) P (bB.yg j A2) λT x Q A9 A7 al=>by
  rw[uj,vO]at al;refine(ew.mp al).elim (λal=>?_) λal=>?_
  ·exact Y.hM (qw A7) al
  ·exact nR A9 e y y (λq=>aG (kL q) (by decide)) (cB.mp al)
 have x:=Y.yg (aJ:={B8 with heap:=au}) j A2 (.W e B4) y y;exact q _ _ _ x.1 x.2 ⟨_,Y.X,y⟩
end
theorem acT:∀{ar:List bj} {cH:List aw},ar.Nodup->D cH=D ar->(ar.filterMap λn=>((ar.zip cH).lookup n).map (n,·))=ar.zip cH/\(ar.filter λn=>((ar.zip cH).lookup n).isNone)=[]:=by
 have s:∀(ar:List bj) (cH:List aw),D cH=D ar->∀n∈ar,∃H,(ar.zip cH).lookup n=A H:=by
  intro ar;induction ar with
  |nil=>exactλz z n h=>aG h nv
  |cons x ar F=>
   intro cH B n J;cases cH with
   |nil=>exact aG B.symm (iP _)
   |cons H cH=>
    rw[WQ,oW];by_cases e:n=x
    ·rw[e,beq_self_eq_true];exact⟨H,y⟩
    ·rw[beq_eq_false_iff_ne.mpr e];exact F cH (ip B) n ((ee.mp J).resolve_left e)
 intro ar cH J B;refine⟨?_,GX.mpr λn h=>by obtain⟨H,e⟩:=s ar cH B n h;rw[e];exact dT⟩;clear s;induction ar generalizing cH with
 |nil=>rfl
 |cons x ar F=>
  cases cH with
  |nil=>exact aG B.symm (iP _)
  |cons H cH=>refine(jN.mp J).elim λab ac=>?_;rw[WQ,List.filterMap_cons_some (b:=(x,H)) (by rw[oW,beq_self_eq_true];rfl)];refine bA _ (.trans (JB λn g=>?_) (F ac (ip B)));rw[oW,beq_eq_false_iff_ne.mpr λe:n=x=>ab (e▸g)]
theorem l7{bw gq Z:Type}{l:List bw}{s:gq}{f:bw->gq->kc (ForInStep gq)}{g:gq->kc Z}{r:kc Z}(h:l=[])(k:g s=r):(forIn l s f>>=g)=r:=by subst h;exact k
theorem d_{as:List PySem.Arg}{aP:List (Option bU)}{d:List bU}(z:cc.params=⟨[],as,aj,[],aP,aj,d⟩)(F:cc.defaults=.none)(J:(as.map (·.arg)).Nodup)(B:D cH=(as.map (·.arg)).length):Ox cc ⟨cH,[]⟩=ey ((as.map (·.arg)).zip cH):=by
 refine(acT J B).elim λZ L=>?_;have Y:∀G,((as.map (·.arg)).take G).filter (λn=>(((as.map (·.arg)).zip cH).lookup n).isNone)=[]:=λG=>ko (WZ.mp (by
  have:=((CV G (as.map (·.arg))).filter (λn=>(((as.map (·.arg)).zip cH).lookup n).isNone)).length_le;rw[L]at this;exact this))
 obtain⟨nm,p,cO,e,v,a,g,o,r,k,H,c,b,i,h⟩:=cc;obtain rfl:cO=_:=z;obtain rfl:o=_:=F;refine(bV λq=>?_).trans ((bV λq=>?_).trans ?_)
 ·exact aG (of_decide_eq_true (bx q).1) (B▸ic _)
 ·exact aG q (Ga.mp (bA (λl:List bj=>!l.isEmpty) (Y _)))
 ·refine l7 ((bA (List.zip _) List.drop_nil).trans List.zip_nil_right) ?_;exact(bA (λl:List bj=>(ey (l.filterMap λn=>(((as.map (·.arg)).zip cH).lookup n).map (n,·)):kc (List (bj×aw)))) (eF (as.map (·.arg)))).trans (bA ey Z)
theorem O_{p:vg}{ar:List bj}(h:KM p ar=ak):p=⟨[],p.args,aj,[],p.kw_defaults,aj,p.defaults⟩/\p.args.map (·.arg)=ar:=by refine(bx h).elim λab h=>(bx h).elim λac h=>(bx h).elim λbo h=>(bx h).elim λc E=>?_;clear h;refine⟨?_,dA ac⟩;clear ac;obtain⟨t,as,v,a,aP,k,d⟩:=p;obtain rfl:t=[]:=mg.mp ab;obtain rfl:a=[]:=mg.mp bo;obtain rfl:v=aj:=Nr.mp c;obtain rfl:k=aj:=Nr.mp E;rfl
theorem c9{ar:List bj}(h:KM cc.params ar=ak)(F:(cc.defaults==.none)=ak)(J:ar.Nodup)(cH:List aw)(B:D cH=D ar):Ox cc ⟨cH,[]⟩=ey (ar.zip cH):=by refine(O_ h).elim λab e=>?_;obtain rfl:=e;exact d_ ab (dA F) J B
noncomputable def AR(prog:gr)(w:eU)(K:jP)(aR:cv)(qC:zX)(P:jy):bT:=⟨prog,w,K,aR,qC,lP K P,pC K P,tr P,oI P⟩
inductive yY(K:jP)(P:jy)(f:Nat)(d:uK):Prop
|mk (C:hb) (cc:xg) (body:List hK):K.lookup (pC K P f)=A C->C.data=.func cc->cc.body=.stmts body->KA K cc=ak->SK (tr P) (cc.params,cc.scope,body) d=ak->yY K P f d
theorem yY.ok{K:jP}{P:jy}{d:uK}(S:yY K P f d):Ml (AR prog w K aR qC P) f d.EH d.EI d.b:=by refine bp λR=>?_;obtain⟨C,cc,body,B,F,al,ab,h⟩:=S;refine(bx ab).elim λt ab=>(bx ab).elim λr ab=>(bx ab).elim λb ab=>(bx ab).elim λH s=>?_;clear ab;refine(bx h).elim λac h=>(bx h).elim λh c=>(bx h).elim λdv h=>(bx h).elim λaY h=>(bx h).elim λU i=>?_;clear h;refine(bx ac).elim λX ac=>(bx ac).elim λZ ac=>(bx ac).elim λa ac=>(bx ac).elim λe k=>R ?_;clear ac;have aa:=of_decide_eq_true Z;have le:=of_decide_eq_true a;have z:=dA X;exact⟨C,cc,body,xI (cc.params,cc.scope,body),B,F,al,mg.mp t,dA r,dA b,H,dA aY,(qM _).mp U,(qM _).mp i,z,aa,le,of_decide_eq_true e,λx W=>(Vk.mp (mf.mp k x W)).imp dA dA,λcH Y=>c9 dv s ((CV _ _).nodup aa) cH (by rw[tN,z,sA le];exact Y),c⟩
section
variable{K:jP} {P:jy}
theorem H?{d:uK}(h:Bx K P f=ak)(e:P.defs[f]?=A d)(X:d.cls=aj):nD K iE d.nm=A (A (.ref (pC K P f))):=by unfold Bx at h;rw[e]at h;dsimp only at h;rw[X]at h;exact dA h
theorem u_{k:Nat}(e:(oI P).init k=A f)(h:(P.defs.all λd=>d.cls.all λk=>dV (k<D P.sY))=ak):k<D P.sY:=by refine(Wv.mp e).elim λZ n=>n.elim λab x=>?_;have:=mf.mp h _ (pV Z);rw[dA (bx ab).1]at this;exact of_decide_eq_true this
theorem l6{d:uK}(F:(fz (D P.defs)).all (Bx K P)=ak)(e:P.defs[f]?=A d):Bx K P f=ak:=mf.mp F f (hk.mpr (hZ.mp e).1)
theorem SJ(h:EK K P k n=ak):((oI P).bZ k n=aj->rc K (.ref (lP K P k)) ((tr P).nm n)=A aj)/\∀f,(oI P).bZ k n=A f->rc K (.ref (lP K P k)) ((tr P).nm n)=A (A (.ref (pC K P f)))/\Dw K (.ref (pC K P f))=A (.type "function"):=by
 unfold EK at h;cases e:(oI P).bZ k n with
 |none=>rw[e]at h;exact⟨λx=>dA h,λx q=>(aG (mM q) (gJ _))⟩
 |some f=>rw[e]at h;exact⟨λq=>(aG q (gJ _)),λx q=>dk q▸⟨dA (bx h).1,dA (bx h).2⟩⟩
theorem Si{k:Nat}(e:(oI P).bZ k n=A f):n<D P.qA:=(wZ.mp e).elim λx R=>R.elim λZ z=>(hZ.mp Z).1
theorem H!(h:SF K P k=ak):Gp (AR prog w K aR qC P) k/\nD K iE ((tr P).AO k)=A (A (.ref (lP K P k)))/\Os K (.ref (lP K P k))=ak:=by refine bp λZ=>(bx h).elim λab ac=>(bx ab).elim λt ab=>(bx ab).elim λr ab=>(bx ab).elim λb ab=>(bx ab).elim λH s=>(bx ac).elim λbo c=>(bx bo).elim λbo E=>Z ?_;have G:∀n,n<D P.qA->EK K P k n=ak:=λn J=>mf.mp bo n (hk.mpr J);refine⟨⟨t,λx=>r,b,dA H,s,λn J e=>(SJ (G n J)).1 e,λn f e=>⟨Si e,(SJ (G n (Si e))).2 f e⟩,λf e=>?_⟩,dA (bx c).1,(bx c).2⟩;unfold SH at E;rw[show(oI P).init k=A f from e]at E;exact⟨dA (bx E).1,dA (bx E).2⟩
theorem r7(a:K.In aR)(l:aR.NoLimit)(g:∃O,aR.Ns iE O)(b:∃u,aR.Ns tX u/\∀x,x≠("__name__":bj)->u x=rh x)(h:SE P K=ak)(W:∀f d,P.defs[f]?=A d->yY K P f d):uQ (AR prog w K aR qC P):=by
 refine bp λZ=>?_;obtain⟨ab,ac⟩:=bx h;obtain⟨ab,bo⟩:=bx ab;obtain⟨bo,c⟩:=bx bo;obtain⟨E,ac⟩:=bx ac;obtain⟨I,R⟩:=bx ac;refine Z<|⟨a,l,g,b,λi j aB M e=>?_,λk f e=>H! (mf.mp bo k (hk.mpr (u_ e c))),λf N L b e=>?_,λf x e=>?_,λx i e=>?_,λx Q=>dA (mf.mp R x Q)⟩
 ·have m:∀i,i<D P.qA->P.qA[i]?=A (P.qA.getD i ""):=λi aB=>la▸(fO aB)▸y;exact uw (of_decide_eq_true E) (m i aB) ((m j M).trans (bA A (mM e)))
 ·refine bp λZ=>?_;obtain⟨d,F,e⟩:=lN.mp e;cases e;exact Z<|(W f d F).ok
 ·refine bp λZ=>?_;obtain⟨d,F,e⟩:=wZ.mp e;have Y:d.cls=aj:=by
   cases Y:d.cls with
   |none=>rfl
   |some k=>rw[Y]at e;exact aG e.symm (gJ _)
  rw[Y]at e;obtain rfl:=dk e;obtain⟨C,cc,_,U,bq,_⟩:=W f d F;exact Z<|⟨H? (l6 ab F) F Y,C,cc,U,bq⟩
 ·have:=mf.mp I _ (qh e);unfold SG at this;show∃t,nD K iE x=A (A (.int i t));generalize nD K iE x=r at this;cases r with
  |none=>exact aG this dT
  |some r=>cases r with
   |none=>exact aG this dT
   |some H=>cases H with
    |int j t=>exact⟨t,(show j=i from dA this)▸y⟩
    |_=>exact aG this dT
end
section
variable{P:jy} {K:jP} {body:List hK} {d:uK} {x:Az}
theorem A'{a:aZ}{C:hb}:∀{l:jP},l.lookup a=A C->(a,C)∈l
|[],e=>by exact aG e.symm (gJ _)
|(b,Z)::l,e=>by
 rw[oW]at e;by_cases q:a=b
 ·rw[q,beq_self_eq_true]at e;obtain rfl:=dk e;rw[q];exact sx
 ·rw[beq_eq_false_iff_ne.mpr q]at e;exact tO _ (A' e)
theorem m2(h:cv)(as:List aZ):(vS h as).In h:=λa C e=>by obtain⟨b,_,q⟩:=WF.mp (A' (l:=vS h as) e);obtain⟨Z,u,q⟩:=lN.mp q;obtain⟨rfl,rfl⟩:=nC q;exact u
theorem y9:∀{n:Nat},RR K P n=FH body P n->∀f,f<n->Ki K P f=FG body P f
|n+1,e,f,Z=>by
 refine(fH e).elim λo bq=>?_;rcases tS (hl Z)with h|rfl
 ·exact y9 bq f h
 ·exact o
theorem yY.of(B:Ki K P f=FG body P f)(m:EL body P f=ak)(F:P.defs[f]?=A d):yY K P f d:=by
 unfold EL at m;rw[F]at m;cases Z:Lr body P f with
 |none=>rw[Z]at m;exact aG m dT
 |some x=>
  rw[Z]at m;unfold FG at B;rw[Z]at B;refine(wZ.mp B).elim λcc a=>a.elim λab ac=>(wZ.mp ab).elim λC E=>E.elim λu bo=>?_;cases n:C.data with
  |func b=>
   rw[n]at bo;cases bo;cases X:KA K cc with
   |false=>rw[X]at ac;exact aG ac.symm (gJ _)
   |true=>rw[X]at ac;refine(nC (dk ac)).elim λdv et=>(nC et).elim λet c=>.mk C cc x.2.2 u n c X ?_;rw[dv,et];exact m
  |_=>rw[n]at bo;exact aG bo.symm (gJ _)
theorem r8(e:Le P h=(ak,FH body P (D P.defs)))(m:(fz (D P.defs)).all (EL body P)=ak)(k:∀b C,h.get? b=A C->aR.get? b=A C)(l:aR.NoLimit)(g:∃O,aR.Ns iE O)(b:∃u,aR.Ns tX u/\∀x,x≠("__name__":bj)->u x=rh x):uQ (AR prog w (Fw P h) aR qC P):=by refine(nC e).elim λY bq=>r7 (λa C q=>k a C (m2 _ _ a C q)) l g b Y λf d F=>?_;have Z:=(hZ.mp F).1;exact .of (y9 bq f Z) (mf.mp m f (hk.mpr Z)) F
end
def Iu(_:eU)(h:cv):Prop:=∃ab,Le nW ab=(ak,FH zT.main.body nW (D nW.defs))/\∀b C,ab.get? b=A C->h.get? b=A C
theorem aao:mj.wellSaid=ak:=by decide+kernel
theorem w1{d:NF}{r:List (bj×bU)}(F:HY oO mj.row.name=A (d,r))(X:kwWritten? d.params.kwonlyargs d.params.kw_defaults=A r)(z:mj.row.prog.theDef mj.row.name=A (d.params,d.body,d.scope))(c:WalkO oO [] (XL oO []) Iu mj.row.toRowW d r λf aX=>ja f aX):mj.Holds:=by
 refine⟨aao,?_⟩;refine holds_open (q:=oO) (loose:=[]) (Xt:=λs=>xlAt oO [] s&&recOk mj.row.toRowW.records s) (XP:=XL oO []) (YP:=Iu) (N:=7976) left (λw s e=>⟨s.heap,e,λx x q=>q⟩)
  (λw h au ⟨ab,e,k⟩ Z=>⟨ab,e,λb C q=>Z b C (k b C q)⟩) (λs e=>xl_of s (wr.mp e).1) XL.keeps F z X (λs e=>recFacts_of (wr.mp e).2) y ?_ (by decide+kernel) ⟨y,y,y,y,y,by decide+kernel⟩ ?_ c
 ·decide+kernel
 ·exact⟨[.list [.int 3,.int 1]],by decide+kernel,by decide+kernel⟩
structure aM(F:Nat->Prop)(z O:aA):Prop where
 le:D z<=D O
 get:∀a C,F a->z[a]?=A C->O[a]?=A C
def cI(_:Nat):Prop:=True
section
variable{C x Q:cT} {b:Nat} {w:V}
theorem aM.dd:aM F z z:=⟨cu _,λx x x h=>h⟩
theorem aM.trans(k:aM F z ah)(bI:aM F ah aV):aM F z aV:=⟨aq k.le bI.le,λa C f h=>bI.get a C f (k.get a C f h)⟩
theorem aM.Z(k:aM F z ah)(h:∀a,hi a->F a):aM hi z ah:=⟨k.le,λa C f e=>k.get a C (h a f) e⟩
theorem aM.of(k:aM cI z ah):aM F z ah:=k.Z λx x=>trivial
theorem eQ(h:z[a]?=A C):(z++iW)[a]?=A C:=(jY (hZ.mp h).1).trans h
theorem dt:(z++[C])[D z]?=A C:=(iN (cu _)).trans (bA _ (kb ..))
theorem fA(h:z[a]?=A C):a<D z:=(hZ.mp h).1
theorem gR(h:z[a]?=A C):(z.set a x)[a]?=A x:=MP (fA h)
theorem r1(h:b≠a):(z.set b x)[a]?=z[a]?:=wL h
theorem fL(h:z[a]?=A C)(al:b≠a):(z.set b x)[a]?=A C:=(r1 al).trans h
theorem aM.dS(k:aM F z ah):aM F z (ah++iW):=⟨aq k.le (by rw[cp];exact dP _ _),λa C f h=>eQ (k.get a C f h)⟩
theorem aM.cS:aM F z (z++iW):=aM.dd.dS
theorem aM.set(k:aM F z ah)(al:D z<=b):aM F z (ah.set b x):=⟨by rw[lJ];exact k.le,λa C f h=>fL (k.get a C f h) λe=>aG (fA h) (fP.mpr (e▸al))⟩
theorem aM.gN(k:aM F z ah)(al:¬F b):aM F z (ah.set b x):=⟨by rw[lJ];exact k.le,λa C f h=>fL (k.get a C f h) λe=>al (e▸f)⟩
theorem aM.at(k:aM cI z ah)(h:z[a]?=A C):ah[a]?=A C:=k.get a C trivial h
theorem aM.lt(k:aM F z ah)(h:a<D z):a<D ah:=ef h k.le
variable{k:lI}
theorem nj{H:V}(h:hI.dg H=.X):False:=nomatch h
theorem fy{Z:List S}(U:bW B n e N z H O)(J:rL e=aW:=by rfl):gb B n (.dg e::Z) N z (.dg H) N O:=lE (AB U λh=>afh (J.symm.trans h)) nj
theorem ku{p q:List S}(Z:eB B n e N z ak ah)(h:gb B n p N ah de bY O):eM B n (.fc e p q) N z de bY O:=Px Z (λx=>h) λq=>afh q.symm
theorem Py{p q:List S}(Z:eB B n e N z aW ah)(h:gb B n q N ah de bY O):eM B n (.fc e p q) N z de bY O:=Px Z afh λx=>h
theorem hQ{p:List S}(Z:eB B n e N z aW ah):eM B n (.fc e p []) N z .X N ah:=Py Z eW
theorem Mi{a b:afe}(Z:eB B n e N z ak ah)(h:bW B n a N ah H O):bW B n (.fc e a b) N z H O:=Gs Z (λx=>h) λq=>afh q.symm
theorem Gu{a b:afe}(Z:eB B n e N z aW ah)(h:bW B n b N ah H O):bW B n (.fc e a b) N z H O:=Gs Z afh λx=>h
theorem kE{b:Nat}{x Q:cT}(h:z[a]?=A x)(au:z[b]?=A Q)(q:x≠Q):a≠b:=λe=>q (dk (h.symm.trans (e▸au)))
theorem pF{l:List V}:cT.W l≠.Z ag:=nofun
theorem JX{l:List V}:cT.W l≠.dH c cd:=nofun
theorem QC:cT.Z ag≠.dH c cd:=nofun
theorem qq{bw:Type}{l:List bw}{i:Nat}(h:i<D l):∃x,l[i]?=A x:=⟨_,fO h⟩
section
variable{bw:Type} {g f:bw->V} {aS:List bw}
theorem Cq{ao:List bw->List V->aA->Prop}(st:∀r l z,ao r l z->ck z)(Z:∀x r l z,ao (x::r) l z->z[a]?=A (.W l)->(∀dx ah aV dB b,mV z N cQ (g x) dx->jX N dx->Cw B n fk dx z b ah->(b=ak->Cv B n dq a dx ah aV)->(b=aW->aV=ah)->aV[a]?=A (.W dB)->ao r dB aV->False)->False):∀(aS:List bw) (l:List V) (z:aA),ao aS l z->z[a]?=A (.W l)->(∀O dB,oT B n ck cQ fk dq a N O (aS.map g) z->ao [] dB O->O[a]?=A (.W dB)->False)->False
|[],l,z,j,aE,k=>k z l ⟨st _ l z j,y⟩ j aE
|x::r,l,z,j,aE,k=>Z x r l z j aE λdx ah aV dB b ab ac bo c E I i=>Cq st Z r dB aV i I λO bG Y X W=>k O bG (.mk b (st _ l z j) ab ac bo c E Y) X W
inductive oS(B:bT)(n:Nat)(cQ:jC)(k:lI)(e:afe)(fk:List afe)(dq:kn)(dc:List (Option Nat))(N:bk)(z:aA):V->aA->Prop
|mk {aS:List V} {ck:aA->Prop} {ah O:aA}:hY B n k e N z aS ck ah->oT B n ck cQ fk dq (D ah) (ho N dc) O aS (ah++[.W []])->oS B n cQ k e fk dq dc N z (.J (D ah)) O
theorem oS.ev(h:oS B n cQ k e fk dq dc N z H O):bW B n (.dy cQ k e fk dq dc) N z H O:=h.rec λY Z=>Cs Y Z
theorem oS.xy{i:Nat}(h:oS B n cQ k e fk dq dc N z H O):eM B n (.pv i (.dy cQ k e fk dq dc)) N z .X (N.set i (A H)) O:=h.rec λY Z=>a' Y Z
theorem LU{ao:List bw->List V->aA->Prop}(Y:hY B n k e N z (aS.map g) ck ah)(Z:D aS<=cZ)(st:∀r l z,ao r l z->ck z)(X:ao aS [] (ah++[.W []]))(W:∀x r l z,ao (x::r) l z->z[D ah]?=A (.W l)->(∀dx O H,mV z (ho N dc) cQ (g x) dx->jX (ho N dc) dx->bW B n bP dx z H O->O[D ah]?=A (.W l)->ao r (l++[H]) (O.set (D ah) (.W (l++[H])))->False)->False)(d:∀O l,oS B n cQ k e [] (.di bP) dc N z (.J (D ah)) O->ao [] l O->O[D ah]?=A (.W l)->False):False:=Cq (B:=B) (n:=n) (ck:=ck) (cQ:=cQ) (fk:=[]) (dq:=.di bP) (N:=ho N dc) (a:=D ah) (ao:=λr l z=>ao r l z/\D l+D r=D aS) (λr l z j=>st r l z j.1) (λx r l z j aE k=>W x r l z j.1 aE λdx O H t le dG h p=>k dx z _ _ ak t le GG (λb=>GB dG h (aq (j.2▸dP _ _) Z)) (λh=>afh h.symm) (gR h) ⟨p,by rw[cp,zl,jn,hN 1];exact j.2⟩) aS [] _ ⟨X,hu _⟩ dt λO dB ab j bo=>d O dB (.mk Y ab) j.1 bo
theorem DV{r:bk}{x:V}:jX (aj::r) ((aj::r).set 0 (A x)):=Fy λz q=>by cases q
theorem sg{ao:List bw->List V->aA->Prop}{ax:bk}(X:ho N dc=aj::ax)(Y:hY B n k e N z (aS.map g) ck ah)(Z:D aS<=cZ)(st:∀r l z,ao r l z->ck z)(W:ao aS [] (ah++[.W []]))(U:∀x r l z,ao (x::r) l z->z[D ah]?=A (.W l)->(∀O H,bW B n bP (A (g x)::ax) z H O->O[D ah]?=A (.W l)->ao r (l++[H]) (O.set (D ah) (.W (l++[H])))->False)->False)(d:∀O l,oS B n (.W 0) k e [] (.di bP) dc N z (.J (D ah)) O->ao [] l O->O[D ah]?=A (.W l)->False):False:=LU Y Z st W (λx r l z j aE k=>U x r l z j aE λO H=>k (A (g x)::ax) O H (X▸.W) (X▸(DV:jX (aj::ax) (A (g x)::ax)))) d
theorem Gi{ao:aA->Prop}{ay:bw->bk}(m:∀x z,mV z (ho N dc) cQ (g x) (ay x)/\jX (ho N dc) (ay x))(X:hY B n k e N z (aS.map g) ck ah)(Y:D aS<=cZ)(st:∀z,ao z->ck z)(v:ao (ah++[.W []]))(t:∀z l,ao z->ao (z.set (D ah) (.W l)))(Z:∀x∈aS,∀z l,ao z->z[D ah]?=A (.W l)->(∀O,bW B n bP (ay x) z (f x) O->ao O->O[D ah]?=A (.W l)->False)->False)(d:∀O,oS B n cQ k e [] (.di bP) dc N z (.J (D ah)) O->ao O->O[D ah]?=A (.W (aS.map f))->False):False:=LU (ao:=λr l z=>ao z/\(∀x∈r,x∈aS)/\l++r.map f=aS.map f) X Y (λa a z j=>st z j.1) ⟨v,λa h=>h,y⟩ (λx r l z j aE k=>Z x (j.2.1 x (.head _)) z l j.1 aE λO dG p h=>k _ O _ (m x z).1 (m x z).2 dG h ⟨t _ _ p,λQ h=>j.2.1 Q (.tail _ h),(ha ..).trans j.2.2⟩) λO l c j h=>d O c j.1 (h.trans (bA (λl=>A (cT.W l)) ((eF l).symm.trans j.2.2)))
theorem Gj{ao:aA->Prop}{ax:bk}(X:ho N dc=aj::ax)(W:hY B n k e N z (aS.map g) ck ah)(Y:D aS<=cZ)(st:∀z,ao z->ck z)(v:ao (ah++[.W []]))(t:∀z l,ao z->ao (z.set (D ah) (.W l)))(Z:∀x∈aS,∀z l,ao z->z[D ah]?=A (.W l)->(∀O,bW B n bP (A (g x)::ax) z (f x) O->ao O->O[D ah]?=A (.W l)->False)->False)(d:∀O,oS B n (.W 0) k e [] (.di bP) dc N z (.J (D ah)) O->ao O->O[D ah]?=A (.W (aS.map f))->False):False:=Gi (ay:=λx=>A (g x)::ax) (λx z=>⟨X▸.W,X▸(DV:jX (aj::ax) (A (g x)::ax))⟩) W Y st v t Z d
theorem oe{ax:bk}(X:ho N dc=aj::ax)(W:hY B n k e N z (aS.map g) ck ah)(Y:D aS<=cZ)(st:∀z,aM cI ah z->ck z)(Z:∀x∈aS,∀z,aM cI ah z->(∀O,bW B n bP (A (g x)::ax) z (f x) O->aM cI z O->False)->False)(d:∀O,oS B n (.W 0) k e [] (.di bP) dc N z (.J (D ah)) O->aM cI ah O->O[D ah]?=A (.W (aS.map f))->False):False:=Gj X W Y st .cS (λz l j=>j.set (cu _)) (λx U z l j aE k=>Z x U z j λO dG h=>k O dG (j.trans h) (h.at aE)) d
theorem DW{r:bk}{x Q:V}(h:ho N dc=aj::aj::r):mV z (ho N dc) (.Y [0,1]) (.Y [x,Q]) (A x::A Q::r)/\jX (ho N dc) (A x::A Q::r):=h▸⟨.Y (is:=[0,1]) .Y y,jX.trans (Fy (i:=0) λa q=>by cases q) (Fy (i:=1) λa q=>by cases q)⟩
theorem Gh{ax:bk}{cL dw:bw->V}(X:ho N dc=aj::aj::ax)(W:hY B n k e N z (aS.map λx=>.Y [cL x,dw x]) ck ah)(Y:D aS<=cZ)(st:∀z,aM cI ah z->ck z)(Z:∀x∈aS,∀z,aM cI ah z->(∀O,bW B n bP (A (cL x)::A (dw x)::ax) z (f x) O->aM cI z O->False)->False)(d:∀O,oS B n (.Y [0,1]) k e [] (.di bP) dc N z (.J (D ah)) O->aM cI ah O->O[D ah]?=A (.W (aS.map f))->False):False:=Gi (λx z=>DW X) W Y st .cS (λz l j=>j.set (cu _)) (λx U z l j aE k=>Z x U z j λO dG h=>k O dG (j.trans h) (h.at aE)) d
end
theorem VJ{de:hI}{b:List S}{bw:Type}{g:bw->V}{ao:List bw->bk->aA->Prop}(st:∀r N z,ao r N z->ck z)(Z:∀x r N z,ao (x::r) N z->(∀dx eg ah,mV z N cQ (g x) dx->gb B n b dx z .X eg ah->ao r eg ah->False)->False):∀(aS:List bw) (N:bk) (z:aA),ao aS N z->(∀bY O,qS B n ck cQ b .X bY O (aS.map g) N z->ao [] bY O->False)->False
|[],N,z,j,k=>k N z (VI (st _ N z j)) j
|x::r,N,z,j,k=>Z x r N z j λdx eg ah ac bo c=>VJ (de:=de) st Z r eg ah c λbY O Y X=>k bY O (Mm (st _ N z j) ac bo Y) X
theorem II{b:List S}{bw:Type}{g:bw->V}{aS:List bw}{ao:List bw->bk->aA->Prop}(Z:hY B n k e N z (aS.map g) ck ah)(st:∀r N z,ao r N z->ck z)(v:ao aS N ah)(Y:∀x r N z,ao (x::r) N z->(∀dx eg ah,mV z N cQ (g x) dx->gb B n b dx z .X eg ah->ao r eg ah->False)->False)(d:∀bY O,eM B n (.eP cQ k e b) N z .X bY O->ao [] bY O->False):False:=VJ (de:=.X) st Y aS N ah v λbY O ab ac=>d bY O (Pw Z ab) ac
theorem vA{b:List S}{bw:Type}{g:bw->V}{aS:List bw}{i:Nat}{ao:List bw->bk->aA->Prop}(Z:hY B n k e N z (aS.map g) ck ah)(st:∀r N z,ao r N z->ck z)(v:ao aS N ah)(Y:∀x r N z,ao (x::r) N z->(∀eg aV,gb B n b (N.set i (A (g x))) z .X eg aV->ao r eg aV->False)->False)(d:∀bY O,eM B n (.eP (.W i) k e b) N z .X bY O->ao [] bY O->False):False:=II Z st v (λx r N z j k=>Y x r N z j λeg aV=>k _ eg aV .W) d
theorem AA{b:List S}{bw:Type}{g:bw->V}{aS:List bw}{ao:List bw->bk->aA->Prop}(Z:hY B n k e N z (aS.map g) ck ah)(st:∀p N z,ao p N z->ck z)(v:ao [] N ah)(X:∀p x r N z,p++x::r=aS->ao p N z->(∀dx eg ah,mV z N cQ (g x) dx->gb B n b dx z .X eg ah->ao (p++[x]) eg ah->False)->False)(d:∀bY O,eM B n (.eP cQ k e b) N z .X bY O->ao aS bY O->False):False:=II (ao:=λr N z=>∃p,p++r=aS/\ao p N z) Z (λa N z j=>j.elim λp j=>st p N z j.2) ⟨[],y,v⟩ (λx r N z j k=>j.elim λp j=>X p x r N z j.1 j.2 λdx eg ah t b Y=>k dx eg ah t b ⟨p++[x],(ha ..).trans j.1,Y⟩) λbY O w j=>j.elim λp j=>d bY O w (((eF p).symm.trans j.1)▸j.2)
theorem ox{b:List S}{bw:Type}{g:bw->V}{aS:List bw}{i:Nat}{ao:List bw->bk->aA->Prop}(Z:hY B n k e N z (aS.map g) ck ah)(st:∀p N z,ao p N z->ck z)(v:ao [] N ah)(Y:∀p x r N z,p++x::r=aS->ao p N z->(∀eg ah,gb B n b (N.set i (A (g x))) z .X eg ah->ao (p++[x]) eg ah->False)->False)(d:∀bY O,eM B n (.eP (.W i) k e b) N z .X bY O->ao aS bY O->False):False:=AA Z st v (λp x r N z q j k=>Y p x r N z q j λeg ah=>k _ eg ah .W) d
theorem kC{bw:Type}{p r aS:List bw}{x:bw}(h:p++x::r=aS):x∈aS:=h▸jl _ (.head _)
theorem ul{bw gq:Type}{F:bw->List gq}{p:List bw}{x:bw}:(p++[x]).flatMap F=p.flatMap F++F x:=by rw[wH,sv,Wx,eF]
theorem uk{bw gq:Type}{F:bw->List gq}{p r aS:List bw}{x:bw}(h:p++x::r=aS):(p.flatMap F).length+(F x).length<=(aS.flatMap F).length:=by rw[←h,wH,sv,cp,cp,←jn];exact dP _ _
theorem a_{b:List S}{ao:Nat->bk->aA->Prop}{K:bk->aA->Prop}(U:∀G N z,ao G N z->(∀ah,eB B n e N z aW ah->K N ah->False)->(∀p ah dx aV,p<G->eB B n e N z ak ah->gb B n b N ah .X dx aV->ao p dx aV->False)->False):∀(G:Nat) (N:bk) (z:aA),ao G N z->(∀k bY O,IG B n e b bY O k N z->K bY O->False)->False:=λG=>tT G λG Y N z j k=>U G N z j (λah h q=>k 0 N ah ⟨h,y⟩ q) λp ah dx aV Z ab ac bo=>Y p Z dx aV bo λi bY O X W=>k (i+1) bY O ⟨dx,ah,aV,ab,ac,X⟩ W
theorem DM{b:List S}{ao:Nat->bk->aA->Prop}{K:bk->aA->Prop}(j:ao G N z)(Z:∀G N z,ao G N z->(∀ah,eB B n e N z aW ah->K N ah->False)->(∀p ah dx aV,p<G->eB B n e N z ak ah->gb B n b N ah .X dx aV->ao p dx aV->False)->False)(d:∀bY O,eM B n (.tw e b) N z .X bY O->K bY O->False):False:=a_ Z G N z j λk bY O ab ac=>d bY O (a? ab) ac
theorem dU.mono{f:Nat}(h:dU B n f as z H O)(Z:n<=G):dU B G f as z H O:=⟨h.1,λR I s cH af u=>h.2 R I s cH af ⟨u.1,er (iO (gE (nx 3 Z) _) 7) u.2.1,er (iO (gE (nx 40 Z) _) 420) u.2.2⟩⟩
end
noncomputable def Sp:List (Nat×Nat):=[(0,3),(5,4),(6,5),(7,6),(8,7),(9,8),(10,9),(11,10),(12,11),(13,12),(14,13),(64,15),(82,16),(84,17),(85,18),(88,19),(89,20),(90,21),(91,22),(128,24),(157,25),(158,26),(160,27),(192,28),(228,29),(197,30),(214,31),(229,32),(230,33),(223,34),(256,35),(261,36),(268,37),(299,38),(264,39),(300,40),(278,41),(293,42),(301,43),(302,44),(287,45),(294,46),(279,47),(270,48)]
structure cq(B:bT):Prop where
 eq:B.P=oI nW
theorem cq.b(P:cq B){f:Nat}{r:Option (Nat×Nat×List S)}(h:(oI nW).body f=r):B.P.body f=r:=P.eq▸h
theorem B!:(fz 5).all (λk=>(fz 47).all λn=>(oI nW).bZ k n==Sp.lookup (64*k+n))=ak:=by decide+kernel
theorem cq.m(P:cq B){k n:Nat}{r:Option Nat}(h:Sp.lookup (64*k+n)=r)(X:k<5:=by decide)(J:n<47:=by decide):B.P.bZ k n=r:=(P.eq ..)▸h▸dA (mf.mp (mf.mp B! k (hk.mpr X)) n (hk.mpr J))
theorem cq.i(P:cq B){k:Nat}{r:Option Nat}(h:(oI nW).init k=r):B.P.init k=r:=P.eq▸h
section
noncomputable def am(n:Nat):V:=.X n
theorem gQ{bw:Type}{l:List bw}{i:Nat}{x:bw}(h:l[i]?=A x):i<D l:=(hZ.mp h).1
theorem mA{a b:Nat}(h:am a=am b):a=b:=Int.ofNat.inj (V.X.inj h)
theorem IR{a b:Nat}:V.dE (am a) (am b)=dV (a=b):=by
 by_cases h:a=b
 ·rw[h,V.ms,decide_eq_true y]
 ·rw[V.mX.mpr λe=>h (mA e),decide_eq_false h]
noncomputable def ni:Nat->Nat
|0=>97
|1=>98
|2=>102
|3=>103
|_=>104
noncomputable def ce(k:Nat):V:=.cG ⟨#[ni k]⟩
noncomputable def dN:Nat->Nat
|0=>0
|1=>0
|2=>1
|3=>1
|_=>2
abbrev bl:=Nat×List Nat
noncomputable def cU(x:bl):V:=.Y (ce x.1::x.2.map am)
theorem Kn{a b:List Nat}(h:a.map am=b.map am):a=b:=(uV λx x=>mA).mp h
theorem L!:∀{a b:Nat},a<5->b<5->ni a=ni b->a=b:=by
 have:∀a,a<5->∀b,b<5->ni a=ni b->a=b:=by decide
 exactλ{a b} ab ac h=>this a ab b ac h
theorem tj{a b:Nat}(ab:a<5)(ac:b<5)(h:ce a=ce b):a=b:=L! ab ac (fH (bA (λH:V=>match H with|.cG s=>s.cps.toList|_=>[]) h:[ni a]=[ni b])).1
theorem EF{x Q:bl}(ab:x.1<5)(ac:Q.1<5)(h:cU x=cU Q):x=Q:=(fH (V.Y.inj h)).elim λp q=>jz (tj ab ac p) (Kn q)
def fT(z:aA)(a:Nat)(l:List Nat):Prop:=z[a]?=A (.W (l.map am))
theorem lT{n:Nat}(h:n<=cZ):afm (n:Int)=ak:=by refine decide_eq_true ?_;rw[Wa];exact er h (aF y)
theorem vD{i:Nat}{x:V}(h:l[i]?=A x):nJ l (i:Int)=A x:=(cg (sp i)).trans h
theorem PJ{l:List Nat}{i x:Nat}(h:l[i]?=A x):nJ (l.map am) (i:Int)=A (am x):=vD (by rw[fI,h];rfl)
theorem nr.X{i j:Int}:nr (.X i) (.X j):=⟨y,y,.inr (.inl ⟨_,_,y,y⟩)⟩
theorem rN{ag:List (V×V)}{n:Nat}(h:∀x∈ag,gs x.1=1):iM ag (am n):=⟨y,h⟩
theorem TA(b:Nat):lY 0 (b:Int) 1=b:=by
 cases b with
 |zero=>rfl
 |succ k=>refine(cg (by decide)).trans ((cg (Mt.mpr (iC k))).trans ?_);rw[CA,CC,CB];rfl
theorem Z'{a b c:Int}:(pL a b c).length=lY a b c:=by unfold pL;rw[bK,iA]
theorem KU{b:Nat}(h:b<=cZ):lY 0 (b:Int) 1<=cZ:=by rw[TA];exact h
theorem KZ(b:Nat):pL 0 (b:Int) 1=(fz b).map am:=by unfold pL;rw[TA];refine lb λi x=>?_;rw[Mx,GN];rfl
variable{k bI w:V}
theorem uf:cX ag k=(ag.find? λe=>V.dE e.1 k).map (·.2):=by
 unfold cX iT;induction ag with
 |nil=>rfl
 |cons e ag F=>
  rw[Ha,GZ];cases h:V.dE e.1 k with
  |true=>rfl
  |false=>rw[bV dT];refine yX ?_ F;cases CL (λe=>V.dE e.1 k) ag<;>rfl
theorem i6(h:cX ag k=A H):(k,H)∈ag:=by rw[uf]at h;obtain⟨e,U,rfl⟩:=lN.mp h;have:=List.find?_some U;rw[show k=e.1 from(V.fE.mp this).symm];exact List.mem_of_find?_eq_some U
theorem QI(h:∀x∈ag,x.1≠k):cX ag k=aj:=by rw[uf,MM.mpr λx Z=>by rw[V.mX.mpr (h x Z)];exact dT];rfl
theorem aeY(h:cX ag k=aj):∀x∈ag,x.1≠k:=λx Z e=>by rw[uf,Option.map_eq_none_iff,MM]at h;exact h x Z (V.fE.mpr e)
theorem mu{x:V×V}:cX (x::ag) k=if V.dE x.1 k=ak then A x.2 else cX ag k:=by rw[uf,uf,GZ];obtain⟨⟩:=V.dE x.1 k<;>rfl
theorem vI{cd:List (V×V)}:cX (ag++cd) k=(cX ag k).or (cX cd k):=by rw[uf,uf,uf,List.find?_append];cases List.find? (λe=>V.dE e.1 k) ag<;>rfl
theorem QR(h:cX ag k=aj):hp ag k H=ag++[(k,H)]:=by
 have:iT ag k=aj:=by
  unfold cX at h;cases aB:iT ag k with
  |none=>rfl
  |some i=>refine(ta aB).elim λw Z=>Z.elim λx m=>?_;unfold cX at m;rw[m]at h;exact aG h (gJ _)
 unfold hp;rw[this]
theorem j5:∀{ag:List (V×V)},(∃w,cX ag k=A w)->hp ag k H=ag.modify ((iT ag k).getD 0) λe=>(e.1,H):=by
 intro ag ⟨w,h⟩;unfold hp;unfold cX at h;cases aB:iT ag k with
 |none=>rw[aB]at h;exact aG h.symm (gJ _)
 |some i=>rfl
theorem AX{x:V×V}:hp (x::ag) k H=if V.dE x.1 k=ak then(x.1,H)::ag else x::hp ag k H:=by
 unfold hp iT;rw[Ha];cases V.dE x.1 k with
 |true=>rfl
 |false=>rw[bV dT,bV dT];cases CL (λe=>V.dE e.1 k) ag<;>rfl
theorem AU:cX (hp ag k H) bI=if V.dE k bI=ak then A H else cX ag bI:=by
 induction ag with
 |nil=>exact mu
 |cons x ag F=>
  rw[AX];by_cases h:x.1=k
  ·rw[cg (V.fE.mpr h),mu,mu,h];by_cases ac:V.dE k bI=ak
   ·rw[cg ac,cg ac]
   ·rw[bV ac,bV ac,bV ac]
  ·rw[bV λe=>h (V.fE.mp e),mu,F,mu];by_cases ac:V.dE k bI=ak
   ·rw[cg ac,cg ac,bV λe=>h ((V.fE.mp e).trans (V.fE.mp ac).symm)]
   ·rw[bV ac,bV ac]
theorem DZ:cX (hp ag k H) k=A H:=AU.trans (cg V.ms)
theorem DY(h:k≠bI):cX (hp ag k H) bI=cX ag bI:=AU.trans (bV λe=>h (V.fE.mp e))
theorem QQ:(hp ag k H).length<=D ag+1:=by
 induction ag with
 |nil=>exact cu _
 |cons x ag F=>
  rw[AX];by_cases h:V.dE x.1 k=ak
  ·rw[cg h];exact ka _
  ·rw[bV h];exact dn F
theorem vJ{P:V->Prop}(h:∀x∈ag,P x.1)(X:P k):∀x∈hp ag k H,P x.1:=by
 induction ag with
 |nil=>exactλx Z=>by obtain rfl:=cB.mp Z;exact X
 |cons Q ag F=>
  rw[AX];intro x Z;by_cases ac:V.dE Q.1 k=ak
  ·rw[if_pos ac]at Z;refine(ee.mp Z).elim (λY=>?_) λZ=>?_
   ·obtain rfl:=Y;exact h Q (.head _)
   ·exact h x (.tail _ Z)
  ·rw[bV ac]at Z;refine(ee.mp Z).elim (λY=>?_) λZ=>?_
   ·obtain rfl:=Y;exact h _ (.head _)
   ·exact F (λx Z=>h x (.tail _ Z)) x Z
theorem QE{x:V×V}:kA (x::ag) k=if V.dE x.1 k=ak then ag else x::kA ag k:=by
 unfold kA iT;rw[Ha];cases V.dE x.1 k with
 |true=>rfl
 |false=>rw[bV dT,bV dT];cases CL (λe=>V.dE e.1 k) ag<;>rfl
theorem QG(h:k≠bI):cX (kA ag k) bI=cX ag bI:=by
 induction ag with
 |nil=>rfl
 |cons x ag F=>
  rw[QE];by_cases ac:x.1=k
  ·rw[cg (V.fE.mpr ac),mu,bV λe=>h (ac.symm.trans (V.fE.mp e))]
  ·rw[bV λe=>ac (V.fE.mp e),mu,mu,F]
theorem QH{x:V×V}(h:x∈kA ag k):x∈ag:=by
 induction ag with
 |nil=>exact h
 |cons Q ag F=>
  rw[QE]at h;by_cases ac:V.dE Q.1 k=ak
  ·rw[cg ac]at h;exact .tail _ h
  ·rw[bV ac]at h;refine(ee.mp h).elim (λZ=>?_) λh=>?_
   ·obtain rfl:=Z;exact .head _
   ·exact .tail _ (F h)
theorem QF:(kA ag k).length<=D ag:=by
 unfold kA;split
 ·rw[Hd];split
  ·exact mP _ _
  ·exact cu _
 ·exact cu _
structure iY(z:aA):Prop where
 eA:z[7]?=A (.dH 4 [(39,.J 8),(40,.J 13),(19,.J 17),(41,.J 18),(17,.J 19),(33,.J 20),(42,.J 21)])
 jj:z[8]?=A (.dH 0 [(1,.J 9),(2,.J 10),(3,.J 11),(4,.J 12)])
 ii:z[13]?=A (.dH 3 [(33,.J 14),(34,.J 15),(35,.J 16)])
structure kt(z:aA)(bC:Nat)(L:Nat->Nat):Prop where
 pY:bC<=100
 le:∀i,i<bC->L i<=i
 nN:∀i,i<bC->L (L i)=L i
 tm:∃p:List Nat,fT z 14 p/\D p=bC/\∀i j,p[i]?=A j->j<=i/\L j=L i/\(j=i↔L i=i)
theorem kt.find(P:cq B)(aT:iY z)(U:kt z bC L)(aE:a<bC):dU B (n+1) 31 [.J 13,am a] z (am (L a)) z:=by
 refine bp λW=>U.tm.elim λp h=>DM (B:=B) (n:=n) (e:=.bH .NotEq (.Z (.cy (.J 0) 33) (.J 1)) (.J 1)) (b:=[.ea 1 (.Z (.cy (.J 0) 33) (.J 1))]) (ao:=λG N ah=>(G<bC/\L G=L a)/\N=[A (.J 13),A (am G)]/\ah=z) (K:=λN ah=>N=[A (.J 13),A (am (L a))]/\ah=z) (G:=a) ⟨⟨aE,y⟩,y,y⟩ (λG N ah j aY X=>?_) λbY O w j=>?_
 ·obtain⟨⟨g,I⟩,rfl,rfl⟩:=j;have Y:=fO (h.2.1▸g);generalize p[G]=q at Y;have j:=h.2.2 G q Y;have dG:bW B n (.Z (.cy (.J 0) 33) (.J 1)) [A (.J 13),A (am G)] ah (am q) ah:=fo (dR (av y) aT.ii y (P.m y)) (av y) (.W h.1) (nB h.1 (lT (aq (dK (ef g U.pY)) (aF y))) (PJ Y));have Z:=hz (ft:=.NotEq) dG (av (i:=1) y) (wY (Q:=am G) nr.X);by_cases e:q=G
  ·rw[e,V.ms]at Z;exact aY ah Z ⟨by rw[←I,j.2.2.mp e],y⟩
  ·rw[V.mX.mpr λq=>e (mA q)]at Z;exact X q ah _ _ (qY j.1 e) Z (bv (fX dG) eW) ⟨⟨er j.1 g,j.2.1.trans I⟩,y,y⟩
 ·obtain⟨rfl,rfl⟩:=j;exact W (ep (P.b y) y (bv w (fy (av y))) (.inl y))
end
variable{ns:Nat->List bl}{jg:List bl}
section
structure gj(aQ:Nat)(z:aA)(aa:List bl)(L:Nat->Nat):Prop where
 du:iY z
 fF:kt z (D aa) L
 lz:z[9]?=A (.W (aa.map cU))
 hR:∀(n:Nat) (x:bl),aa[n]?=A x->x.1<5/\x.2.length=dN x.1/\∀k∈x.2,k<n
 lL:22<=aQ
 nP:∃l,z[15]?=A (.W l)/\∀c,c<D aa->L c=c->∃a G,l[c]?=A (.J a)/\a<aQ/\fT z a G/\G.Nodup/\D G<=D aa/\∀i,i∈G↔i<D aa/\L i=c
variable{aa:List bl} {x:bl}
theorem hL{x:V}:[x].length<=cZ:=(by decide:1<=cZ)
theorem hq{x:V}:[x,Q].length<=cZ:=(by decide:2<=cZ)
theorem xW{x:V}:[x,Q,ba].length<=cZ:=(by decide:3<=cZ)
theorem gj.cz(ae:gj aQ z aa L)(k:aM (·<aQ) z O):gj aQ O aa L:=
 have g:∀{i C},i<22->z[i]?=A C->O[i]?=A C:=λh=>k.get _ _ (ef h ae.lL)
 ⟨⟨g (aF y) ae.du.eA,g (aF y) ae.du.jj,g (aF y) ae.du.ii⟩,⟨ae.fF.pY,ae.fF.le,ae.fF.nN,ae.fF.tm.imp λp q=>⟨g (aF y) q.1,q.2⟩⟩,g (aF y) ae.lz,ae.hR,ae.lL,ae.nP.imp λl q=>⟨g (aF y) q.1,λc ab ac=>(q.2 c ab ac).imp λa q=>q.imp λG q=>⟨q.1,q.2.1,k.get _ _ q.2.1 q.2.2.1,q.2.2.2⟩⟩⟩
theorem gj.k(ae:gj aQ z aa L)(k:aM cI z O):gj aQ O aa L:=ae.cz k.of
theorem gj.find(P:cq B)(ae:gj aQ z aa L)(aE:a<D aa):dU B (n+2) 41 [.J 7,am a] z (am (L a)) z:=ep (P.b y) y (fy (eu (dR (av y) ae.du.eA y (P.m y)) ae.du.ii y (P.m y) (aU (av y) bc) (ae.fF.find P ae.du aE))) (.inl y)
theorem gj.Sq(ae:gj aQ z aa L)(Z:aa[a]?=A x)(aR:N[0]?=A (A (.J 8)))(ab:N[1]?=A (A (am a)))(P:cq B):bW B n (.Z (.cy (.J 0) 1) (.J 1)) N z (cU x) z:=fo (dR (av aR) ae.du.jj y (P.m y)) (av ab) (.W ae.lz) (nB ae.lz (lT (aq (dK (ef (gQ Z) ae.fF.pY)) (aF y))) (vD (by rw[fI,Z];rfl)))
theorem gj.op(P:cq B)(ae:gj aQ z aa L)(Z:aa[a]?=A x):dU B (n+1) 9 [.J 8,am a] z (ce x.1) z:=ep (P.b y) y (fy (fo (ae.Sq Z y y P) cE .Y (jx y y))) (.inl y)
theorem kv(k:Nat):dN k<=2:=by unfold dN;split<;>decide
theorem gj.JW(ae:gj aQ z aa L)(Z:aa[a]?=A x):x.2.length<=2:=(ae.hR a x Z).2.1▸kv _
theorem lG{k:Nat}(h:bW B n e N z (.Y l) ah)(X:k<2^62)(Z:D l<=cZ):bW B n (.eb e (.X k) .bM) N z (.Y (l.drop k)) ah:=wt h cE tD (λh=>afh h) (λx=>⟨y,y⟩) .Y (Pk (.X X) .bM Z)
theorem Mh{k:Nat}(h:bW B n e N z (.Y l) ah)(X:k<2^62)(Z:D l<=cZ):bW B n (.eb e .bM (.X k)) N z (.Y (l.take k)) ah:=wt h tD cE (λx=>⟨y,y⟩) (λh=>afh h) .Y (Pk .bM (.X X) Z)
theorem gj.X(P:cq B)(ae:gj aQ z aa L)(Z:aa[a]?=A x):dU B (n+1) 10 [.J 8,am a] z (.Y (x.2.map am)) z:=ep (P.b y) y (fy (lG (k:=1) (ae.Sq Z y y P) (aF y) (by rw[iz,bK];exact aq (dn (ae.JW Z)) (aF y)))) (.inl y)
theorem sh(h:z[a]?=A (.W l))(Z:D l<=cZ):hH B (.type "tuple") [.J a] z (.Y l) z:=Ma (.W h) Z
noncomputable def he(L:Nat->Nat)(x:bl):bl:=(x.1,x.2.map L)
theorem gj.node(P:cq B)(ae:gj aQ z aa L)(Z:aa[a]?=A x)(d:∀O,dU B (n+3) 37 [.J 7,am a] z (cU (he L x)) O->aM cI z O->False):False:=by
 have Y:∀{f:Nat->V},(x.2.map f).length+1<=cZ:=by intro f;rw[bK];exact aq (dn (ae.JW Z)) (aF rfl)
 refine oe (B:=B) (n:=n+2) (e:=.bZ (.cy (.J 0) 39) 11 [.J 1]) (bP:=.bZ (.J 1) 22 [.J 0]) (dc:=[aj,A 0]) (N:=[A (.J 7),A (am a)]) (z:=z) (aS:=x.2) (g:=am) (f:=am∘L) y
  (ff (eu (dR (av y) ae.du.eA y (P.m y)) ae.du.jj y (P.m y) (aU (av y) bc) (ae.X (n:=n+1) P Z)) qU) (aq (ae.JW Z) (aF y)) (λb b=>trivial) (λi aB O k d=>d O (eu (av y) (ae.k k).du.eA y (P.m y) (aU (av y) bc) ((ae.k k).find P (kH ((ae.hR a x Z).2.2 i aB) (gQ Z)))) .dd) λah ab ac bo=>?_
 have C:=oj (B:=B) (z:=ah) (l:=[ce x.1]) (G:=x.2.map (am∘L)) (hN _ 1▸Y);rw[show V.Y ([ce x.1]++x.2.map (am∘L))=cU (he L x)from bA (λl=>V.Y (ce x.1::l)) (ed (f:=L) (g:=am)).symm]at C;exact d ah (ep (P.b y) y (fy (en (eL (aU (eu (dR (av y) ae.du.eA y (P.m y)) ae.du.jj y (P.m y) (aU (av y) bc) (ae.op P Z)) bc) hL) (gV rv (aU ab.ev bc) (sh bo (jo Y))) C)) (.inl y)) ac
end
section
theorem Cb(l:List V):(l.mergeSort V.le).Perm l:=wN _ _
theorem UG(l:List V):(l.mergeSort V.le).Pairwise λx Q=>V.le x Q=ak:=CT (le:=V.le) (λz z z=>V.Eu) V.Et l
theorem Jy:∀l:List V,∃r,qo l r
|[]=>⟨[],⟨oY,λz=>zb,.nil⟩⟩
|x::l=>by
 refine(Jy l).elim λr h=>?_;by_cases Z:x∈r
 ·exact⟨r,h.nodup,λH=>(h.mem H).trans ⟨.tail _,λq=>(ee.mp q).elim (λe=>e▸(h.mem x).mp Z) id⟩,h.ord⟩
 ·exact⟨(x::r).mergeSort V.le,(Cb _).symm.nodup (jN.mpr ⟨Z,h.nodup⟩),λH=>(Cb _).mem_iff.trans (by rw[ee,ee,h.mem]),UG _⟩
theorem qo.F_{l:List V}(h:l.Nodup):qo l (l.mergeSort V.le):=⟨(Cb l).symm.nodup h,λx=>(Cb l).mem_iff,UG l⟩
variable{t u:Nat} {aa:List bl} {x:bl}
theorem Gn(aE:z[a]?=A (.W l))(h:l.Nodup)(Z:D l<64)(K:gO t u l):hH B (.builtin "sorted") [.J a] z (.J (D z)) (z++[.W (l.mergeSort V.le)]):=by have:=Go (B:=B) aE ((qo.F_ h).sort K Z ⟨h,λx=>zb⟩) K;rw[ed,show((·.2)∘λH:V=>(H,H))=id from y,zp]at this;exact this
theorem gO.Be(l:List Nat):gO 1 1 (l.map am)where
 rX:=nofun
 sd:=nofun
 kind k X:=by obtain⟨i,_,rfl⟩:=bJ.mp X;rfl
 head e:=nomatch e
 hF:=jS λH Z=>by obtain⟨i,_,rfl⟩:=bJ.mp Z;rfl
 ok a aE b al:=by
  obtain⟨i,_,rfl⟩:=bJ.mp aE;obtain⟨j,_,rfl⟩:=bJ.mp al;exact⟨_,y⟩
theorem I'(i j:Nat):V.ok (am i) (am j):=⟨_,y⟩
theorem KB:∀a b:List Nat,V.wb (a.map am) (b.map am)
|[],_=>trivial
|_::_,[]=>trivial
|x::a,Q::b=>⟨λz=>KB a b,λz=>I' x Q⟩
theorem I!(x Q:bl):V.ok (cU x) (cU Q):=⟨_,y,λz=>KB _ _,λz=>⟨_,y⟩⟩
theorem KN(l:List Nat):V.fu G (l.map am)=ak:=jS λH Z=>by obtain⟨i,_,rfl⟩:=bJ.mp Z;obtain⟨⟩:=G<;>rfl
theorem Tc(x:bl):V.gh (G+1) (cU x)=ak:=by show(V.gh G (ce x.1)&&V.fu G (x.2.map am))=ak;rw[KN];obtain⟨⟩:=G<;>rfl
theorem JK(l:List Nat):V.iF G (l.map am)=ak:=by
 induction l with
 |nil=>obtain⟨⟩:=G<;>rfl
 |cons x l F=>
  cases G with
  |zero=>exact F
  |succ G=>exact F
theorem JL(x:bl):V.hm (G+1) (cU x)=ak:=by show(V.hm G (ce x.1)&&V.iF G (x.2.map am))=ak;rw[JK];obtain⟨⟩:=G<;>rfl
theorem gO.C'(l:List bl):gO 3 2 (l.map cU)where
 rX:=nofun
 sd:=nofun
 kind k X:=by obtain⟨i,_,rfl⟩:=bJ.mp X;rfl
 head _ k X:=by obtain⟨i,_,rfl⟩:=bJ.mp X;exact⟨_,_,y,y⟩
 hF:=jS λH Z=>by obtain⟨i,_,rfl⟩:=bJ.mp Z;exact Tc i
 ok a aE b al:=by
  obtain⟨i,_,rfl⟩:=bJ.mp aE;obtain⟨j,_,rfl⟩:=bJ.mp al;exact I! i j
theorem Gr{bw:Type}{g f:bw->V}{aS:List bw}{d:afe}{p:bw->Bool}{ax:bk}(X:ho N dc=aj::ax)(P:hY B n k e N z (aS.map g) ck ah)(R:D aS<=cZ)(M:∀z,aM cI ah z->ck z)(U:∀x∈aS,∀z,aM cI ah z->eB B n d (A (g x)::ax) z (p x) z/\bW B n bP (A (g x)::ax) z (f x) z)(I:∀O,bW B n (.dy (.W 0) k e [d] (.di bP) dc) N z (.J (D ah)) O->aM cI ah O->O[D ah]?=A (.W ((aS.filter p).map f))->False):False:=Cq (B:=B) (n:=n) (ck:=ck) (cQ:=.W 0) (fk:=[d]) (dq:=.di bP) (N:=ho N dc) (a:=D ah) (ao:=λr l z=>aM cI ah z/\(∀x∈r,x∈aS)/\D l+D r<=D aS/\l++(r.filter p).map f=(aS.filter p).map f) (λb b z j=>M z j.1) (λx r l z j aE k=>by
  have h:=U x (j.2.1 x (.head _)) z j.1;have o:jX (ho N dc) (A (g x)::ax):=X▸(DV:jX (aj::ax) (A (g x)::ax));have Y:=j.2.2.1;have Z:=j.2.2.2;rw[iz,←jn]at Y;rw[uT]at Z;cases W:p x with
  |true=>rw[W]at h Z;exact k _ z _ _ ak (X▸.W) o (GH h.1) (λb=>GB h.2 aE (aq (aq (dP _ _) j.2.2.1) R)) (λh=>afh h.symm) (gR aE) ⟨j.1.set (cu _),λQ h=>j.2.1 Q (.tail _ h),by rw[cp,jZ];exact Y,(ha ..).trans Z⟩
  |false=>rw[W]at h Z;exact k _ z _ l aW (X▸.W) o (GH h.1) afh (λb=>y) aE ⟨j.1,λQ h=>j.2.1 Q (.tail _ h),jo Y,Z⟩) aS [] _ ⟨.cS,λb h=>h,fi (hu _),y⟩ dt λO dB ab j bo=>I O (Cs P ab) j.1 (bo.trans (bA (λl=>A (cT.W l)) ((eF _).symm.trans j.2.2.2)))
theorem kt.qD(U:kt z bC L)(h:a<bC):L a<bC:=er (U.le a h) h
theorem ei{k:Nat}(h:k<=100):k<=cZ:=aq h (aF y)
theorem gj.va(ae:gj aQ z aa L):D aa<=cZ:=ei ae.fF.pY
theorem EB{l:List Nat}:am i∈l.map am↔i∈l:=⟨λh=>(bJ.mp h).elim λj q=>mA q.2▸q.1,gd⟩
theorem FD{bw:Type}{f:bw->V}{S:bw->Prop}:∀{r:List V},(∀H∈r,∃x,f x=H/\S x)->∃X:List bw,r=X.map f/\∀x∈X,S x
|[],_=>⟨[],y,λz=>afk⟩
|H::r,h=>(h H (.head _)).elim λx q=>(FD λw m=>h w (.tail _ m)).elim λX p=>⟨x::X,(jv ..)▸q.1▸p.1▸y,qW.mpr ⟨q.2,p.2⟩⟩
theorem gj.members(P:cq B)(ae:gj aQ z aa L)(X:D aa<=18)(aE:a<D aa)(d:∀(O:aA) (p:Nat) (G:List Nat),dU B (n+3) 46 [.J 7,am a] z (.J p) O->aM cI z O->fT O p G->D G<=18->(∀i,i∈G↔i<D aa/\L i=L a)->False):False:=by
 have I:=ae.fF.qD aE;refine ae.nP.elim λl Y=>(Y.2 (L a) I (ae.fF.nN a aE)).elim λb j=>j.elim λG j=>?_;have Z:=Cb (G.map am);refine(FD (S:=(·∈G)) (f:=am) (r:=(G.map am).mergeSort V.le) λH W=>(bJ.mp (Z.mem_iff.mp W)).imp λx q=>q.symm).elim λU e=>?_;have ab:dU B (n+2) 33 [.J 13,am a] z (.J (D z)) (z++[.W ((G.map am).mergeSort V.le)]):=
  ep (P.b y) y (fy (gV pw (aU (fo (dR (av y) ae.du.ii y (P.m y)) (eu (av y) ae.du.ii y (P.m y) (aU (av y) bc) (ae.fF.find P ae.du aE)) (.W Y.1) (nB Y.1 (lT (aq (dK I) ae.va)) (vD j.1))) bc) (Gn j.2.2.1 (adi _ (λi j h e=>h (mA e)) j.2.2.2.1) (pG (er (aq j.2.2.2.2.1 X) (aF y))) (gO.Be G)))) (.inl y)
 rw[e.1]at ab Z;exact d _ _ U (ep (P.b y) y (fy (eu (dR (av y) ae.du.eA y (P.m y)) ae.du.ii y (P.m y) (aU (av y) bc) ab)) (.inl y)) .cS dt ((by have:=Z.length_eq;rw[bK,bK]at this;exact this)▸aq j.2.2.2.2.1 X) λi=>(EB.symm.trans (Z.mem_iff.trans EB)).trans (j.2.2.2.2.2 i)
def vb(aa:List bl)(L:Nat->Nat)(c:Nat)(r:List bl):Prop:=(r.Nodup/\∀x,x∈r↔∃(i:Nat) (Q:bl),aa[i]?=A Q/\L i=c/\x=he L Q)/\r.Pairwise λx Q=>V.le (cU x) (cU Q)=ak
noncomputable def dI(aa:List bl)(L:Nat->Nat)(c:Nat):List bl:=@dite _ (∃r,vb aa L c r) (uI _) (λh=>h.choose) λx=>[]
theorem C!(E:∀(n:Nat) (x:bl),aa[n]?=A x->x.1<5){r:List bl}(h:vb aa L c r):dI aa L c=r:=by unfold dI;rw[dif_pos ⟨r,h⟩];have q:=(⟨r,h⟩:∃r,vb aa L c r).choose_spec;refine GR (λa b aE al ab ac=>?_) q.2 h.2 ((zt q.1.1 h.1.1).mpr λx=>(q.1.2 x).trans (h.1.2 x).symm);obtain⟨i,Q,o,_,rfl⟩:=(q.1.2 a).mp aE;obtain⟨j,ba,bq,_,rfl⟩:=(h.1.2 b).mp al;exact EF (E i Q o) (E j ba bq) (Bj (n:=1) (Tc _) ab ac)
theorem gj.Bt(P:cq B)(ae:gj aQ z aa L)(u:D aa<=18)(aE:a<D aa)(d:∀(O:aA) (p:Nat),dU B (n+5) 47 [.J 7,am a] z (.J p) O->aM cI z O->O[p]?=A (.W ((dI aa L (L a)).map cU))->(dI aa L (L a)).length<=18->vb aa L (L a) (dI aa L (L a))->D z<=p->False):False:=by
 refine ae.members (n:=n+1) P u aE λah p G ab ac bo U E=>?_;have I:=ae.k ac;refine(mJ (r:=λi (Q:bl)=>i<D aa->aa[i]?=A Q) λi=>(oR (i<D aa)).elim (λh=>⟨_,λc=>fO h⟩) λh=>⟨(0,[]),λq=>aG q h⟩).elim λg Z=>?_;have Z:∀i∈G,aa[i]?=A (g i):=λi aB=>Z i ((E i).mp aB).1;refine oe (B:=B) (n:=n+4) (N:=[A (.J 7),A (am a)]) (z:=z) (k:=.bE) (dc:=[aj,A 0]) (ax:=[A (.J 7)]) (aS:=G) (g:=am) (f:=λi=>cU (he L (g i))) (e:=.bZ (.J 0) 38 [.J 1]) (bP:=.bZ (.J 1) 12 [.J 0]) y
  (ff (eu (av y) ae.du.eA y (P.m y) (aU (av y) bc) ab) (gD bo)) (aq U (aF y)) (λc k=>k.at bo) (λi aB O k d=>(I.k k).node (n:=n+1) P (Z i aB) λcD l A0=>d cD (eu (av (i:=1) y) (I.k k).du.eA y (P.m y) (aU (av (i:=0) y) bc) l) A0) λaV o bq F=>?_
 have j:(G.map λi=>cU (he L (g i)))=(G.map λi=>he L (g i)).map cU:=by rw[ed];rfl
 rw[j]at F;refine(Jy ((G.map λi=>he L (g i)).map cU)).elim λr Y=>(FD (S:=(·∈G.map λi=>he L (g i))) (f:=cU) (r:=r) λH J=>(bJ.mp ((Y.mem H).mp J)).imp λc q=>q.symm).elim λX e=>?_;have W:=e.2;obtain rfl:=e.1;have C:∀x∈G.map (λi=>he L (g i)),x.1<5:=λx t=>(bJ.mp t).elim λi q=>q.2▸(ae.hR i _ (Z i q.1)).1;have jg:X.Nodup:=wG cU (λa b h e=>h (bA cU e)) Y.nodup;have s:∀x,x∈X↔x∈G.map λi=>he L (g i):=λx=>⟨W x,λh=>(bJ.mp ((Y.mem _).mpr (gd h))).elim λQ q=>EF (C Q (W Q q.1)) (C x h) q.2▸q.1⟩
 have w:vb aa L (L a) X:=⟨⟨jg,λx=>(s x).trans (bJ.trans ⟨λh=>h.elim λi q=>⟨i,g i,Z i q.1,((E i).mp q.1).2,q.2.symm⟩,λh=>h.elim λi h=>h.elim λQ q=>
   have aB:=(E i).mpr ⟨gQ q.1,q.2.1⟩
   ⟨i,aB,dk ((Z i aB).symm.trans q.1)▸q.2.2.symm⟩⟩)⟩,oZ.mp Y.ord⟩
 rw[C! (λn x h=>(ae.hR n x h).1) w]at d;exact d _ _ (ep (P.b y) y (fy (Gv o.ev F (.inl ⟨y,gu (gu U)⟩) (λH J=>(bJ.mp J).elim λi q=>q.2▸JL i) (gO.C' _) Y)) (.inl y)) (ac.trans bq).dS dt (aq (CI jg W) (gu U)) w (ac.trans bq).le
theorem gj.classes(P:cq B)(ae:gj aQ z aa L)(Z:∀(O:aA) (p:Nat),dU B (n+2) 45 [.J 7] z (.J p) O->aM cI z O->fT O p ((fz (D aa)).filter λi=>dV (L i=i))->False):False:=by
 refine ae.fF.tm.elim λp h=>?_;have b:=KZ (D aa)▸zc (B:=B) (z:=z) (KU ae.va) y (lT ae.va) y (by decide);rw[←h.2.1,←bK (f:=am) (as:=p)]at b;refine Gr (B:=B) (n:=n) (N:=[A (.J 13)]) (z:=z) (k:=.bE) (dc:=[aj,A 0]) (ax:=[A (.J 13)]) (p:=λi=>dV (L i=i)) (g:=am) (f:=am) (aS:=fz (p.map am).length) (e:=.bR "range" [.bR "len" [.cy (.J 0) 33]]) (bP:=.J 0) (d:=.bH .Eq (.Z (.cy (.J 1) 33) (.J 0)) (.J 0)) y
  (ff (gV AF (aU (gV AE (aU (dR (av y) ae.du.ii y (P.m y)) bc) (yQ (.W h.1) (by rw[bK,h.2.1];exact ae.va))) bc) Gk) b) (by rw[iA,bK,h.2.1];exact ae.va) (λa a=>trivial) (λi aB O k=>?_) λah ab ac bo=>?_
 ·rw[bK]at aB;have aB:=hk.mp aB;refine⟨?_,av y⟩;refine(qq aB).elim λq Q=>?_;have t:=hz (ft:=.Eq) (fo (dR (nm:=33) (av (B:=B) (n:=n) (i:=1) (N:=[A (am i),A (.J 13)]) y) (ae.k k).du.ii y (P.m y)) (av (i:=0) y) (.W (k.at h.1)) (nB (k.at h.1) (lT (aq (dK aB) (h.2.1▸ae.va))) (PJ Q))) (av (i:=0) y) (wX (x:=am q) nr.X);rw[IR,decide_eq_decide.mpr (h.2.2 i q Q).2.2]at t;exact t
 ·rw[bK,h.2.1]at bo;exact Z _ _ (ep (P.b y) y (fy (eu (dR (av y) ae.du.eA y (P.m y)) ae.du.ii y (P.m y) bc (ep (P.b y) y (fy ab) (.inl y)))) (.inl y)) ac bo
theorem gj.size(P:cq B)(ae:gj aQ z aa L):dU B (n+2) 36 [.J 7] z (am (D aa)) z:=by have:dU B (n+1) 4 [.J 8] z (.X ((aa.map cU).length:Nat)) z:=ep (P.b y) y (fy (gV AE (aU (dR (av y) ae.du.jj y (P.m y)) bc) (yQ (.W ae.lz) (gu ae.va)))) (.inl y);rw[bK]at this;exact ep (P.b y) y (fy (eu (dR (av y) ae.du.eA y (P.m y)) ae.du.jj y (P.m y) bc this)) (.inl y)
end
section
set_option genSizeOf false in
set_option genInjectivity false in
inductive T where
|l (k:Bool)
|u (k:Bool) (t:T)
|b (t s:T)
noncomputable def T.op:T->Nat
|.l k=>if k then 1 else 0
|.u k _=>if k then 3 else 2
|.b _ _=>4
noncomputable def T.X:T->List T
|.l _=>[]
|.u _ t=>[t]
|.b t s=>[t,s]
noncomputable def gZ(C:Nat)(ai:List T):T:=match ai with
 |[]=>.l (C==1)
 |[t]=>.u (C==3) t
 |t::s::_=>.b t s
theorem Kr(t:T):gZ t.op t.X=t:=by
 match t with
 |.l ak=>rfl
 |.l aW=>rfl
 |.u ak _=>rfl
 |.u aW _=>rfl
 |.b _ _=>rfl
theorem rQ{ai:List T}(u:C<5)(h:D ai=dN C):(gZ C ai).op=C/\(gZ C ai).X=ai:=by
 cases C with
 |zero=>rw[ko h];exact⟨y,y⟩
 |succ C=>cases C with
  |zero=>rw[ko h];exact⟨y,y⟩
  |succ C=>cases C with
   |zero=>exact(MS.mp h).elim λa e=>e▸⟨y,y⟩
   |succ C=>cases C with
    |zero=>exact(MS.mp h).elim λa e=>e▸⟨y,y⟩
    |succ C=>cases C with
     |zero=>cases ai with
      |nil=>exact aG h.symm (iP _)
      |cons a ai=>exact(MS.mp (ip h)).elim λb e=>e▸⟨y,y⟩
     |succ C=>exact aG u (fP.mpr (gF 5 C))
theorem T.pK(t:T):t.op<5:=by
 match t with
 |.l ak=>decide
 |.l aW=>decide
 |.u ak _=>exact(by decide:3<5)
 |.u aW _=>exact(by decide:2<5)
 |.b _ _=>exact(by decide:4<5)
theorem T.lu(t:T):D t.X=dN t.op:=by
 match t with
 |.l ak=>rfl
 |.l aW=>rfl
 |.u ak _=>rfl
 |.u aW _=>rfl
 |.b _ _=>rfl
theorem T.ext{t s:T}(ab:t.op=s.op)(ac:t.X=s.X):t=s:=by rw[←Kr t,←Kr s,ab,ac]
theorem T.nc{P:T->Prop}(h:∀t:T,(∀s∈t.X,P s)->P t)(t:T):P t:=by
 induction t with
 |l k=>exact h _ (λx h=>afk h)
 |u k t F=>exact h _ λs Z=>cB.mp Z▸F
 |b t s a i=>exact h _ λr I=>(ee.mp I).elim (λe=>e▸a) λI=>cB.mp I▸i
noncomputable def T.Y:T->List Nat
|.l k=>[(T.l k).op]
|.u k t=>(T.u k t).op::t.Y
|.b t s=>4::(t.Y++s.Y)
noncomputable def cV(ai:List T):List Nat:=ai.flatMap T.Y
theorem T.mC(t:T):t.Y=t.op::cV t.X:=by
 match t with
 |.l _=>rfl
 |.u _ t=>exact bA _ (eF _).symm
 |.b t s=>exact bA (λl=>4::(t.Y++l)) (eF _).symm
noncomputable def T.size(t:T):Nat:=D t.Y
noncomputable def eS(ai:List T):Nat:=(cV ai).length
theorem ux{t:T}{ai:List T}:cV (t::ai)=t.Y++cV ai:=y
theorem ob{t:T}{ai:List T}:eS (t::ai)=t.size+eS ai:=cp
theorem T.size_eq(t:T):t.size=eS t.X+1:=by unfold T.size;rw[t.mC];rfl
theorem T.nk(t:T):0<t.size:=by rw[t.size_eq];exact iC _
theorem BQ:∀ai:List T,D ai<=eS ai
|[]=>cu _
|t::ai=>by
 exact ob▸(iz ..)▸(hN ..)▸ia t.nk (BQ ai)
theorem M'{a b:List Nat}{ai:List T}:∀{dZ:List T},(∀x∈ai,∀(s:T) {a b:List Nat},x.Y++a=s.Y++b->x=s/\a=b)->D ai=D dZ->cV ai++a=cV dZ++b->ai=dZ/\a=b:=by
 induction ai with
 |nil=>intro dZ _ B q;cases dZ with
  |nil=>exact⟨y,q⟩
  |cons=>exact aG B.symm (iP _)
 |cons x ai i=>intro dZ F B q;cases dZ with
  |nil=>exact aG B (iP _)
  |cons Q dZ=>rw[ux,ux,ha,ha]at q;have e:=F x (.head _) Q q;have bP:=i (λba j=>F ba (.tail _ j)) (ip B) e.2;exact⟨e.1▸bP.1▸y,bP.2⟩
theorem KI(t:T):∀(s:T) {a b:List Nat},t.Y++a=s.Y++b->t=s/\a=b:=by refine T.nc (P:=λt=>∀(s:T) {a b:List Nat},t.Y++a=s.Y++b->t=s/\a=b) (λt F s a b h=>?_) t;rw[t.mC,s.mC]at h;have h:=fH h;exact(M' F (t.lu▸s.lu▸h.1▸y) h.2).imp_left (T.ext h.1)
theorem T.ug{t s:T}(h:t.Y=s.Y):t=s:=(KI t s (a:=[]) (b:=[]) (h▸y)).1
theorem tk{ai:List T}:∀{dZ:List T},cV ai=cV dZ->ai=dZ:=by
 induction ai with
 |nil=>intro dZ h;cases dZ with
  |nil=>rfl
  |cons s dZ=>rw[ux,s.mC]at h;exact aG h.symm (ju _ _)
 |cons t ai F=>intro dZ h;cases dZ with
  |nil=>rw[ux,t.mC]at h;exact aG h (ju _ _)
  |cons s dZ=>have h:=KI t s h;rw[h.1,F h.2]
abbrev eE:=Nat->bl->Prop
noncomputable def dO(g:eE):T->Nat->Prop
|.l k,c=>g c ((T.l k).op,[])
|.u k t,c=>∃d,g c ((T.u k t).op,[d])/\dO g t d
|.b t s,c=>∃d e,g c (4,[d,e])/\dO g t d/\dO g s e
def gI(g:eE):List Nat->List T->Prop
|[],[]=>True
|c::ax,t::ai=>dO g t c/\gI g ax ai
|_,_=>False
theorem wz{g:eE}{ax:List Nat}(h:gI g ax []):ax=[]:=by
 cases ax with
 |nil=>rfl
 |cons=>exact h.elim
theorem wy{g:eE}{ax:List Nat}{t:T}{ai:List T}(h:gI g ax (t::ai)):∃d dp,ax=d::dp/\dO g t d/\gI g dp ai:=by
 cases ax with
 |nil=>exact h.elim
 |cons d dp=>exact⟨d,dp,y,h⟩
theorem gI.J{g:eE}{ai:List T}:∀{ax:List Nat},gI g ax ai->D ax=D ai:=by
 induction ai with
 |nil=>exactλh=>bA D (wz h)
 |cons t ai F=>exactλh=>(wy h).elim λd h=>h.elim λdp h=>h.1▸bA (·+1) (F h.2.2)
structure eh(g:eE):Prop where
 kf:∀c x,g c x->x.1<5/\x.2.length=dN x.1
 Ly:∀c d x,g c x->g d x->c=d
 fin:∀c,∃r:List bl,r.Nodup/\∀x,x∈r↔g c x
variable{g:eE} {t:T} {ai:List T} {M:List (List T)}
theorem GC{x:bl}(q:g c x)(e:x.1=C)(h:x.2=ax):g c (C,ax):=by cases e;obtain rfl:=h;exact q
theorem iX(h:eh g):dO g t c↔∃x,g c x/\x.1=t.op/\gI g x.2 t.X:=by
 cases t with
 |l k=>exact⟨λq=>⟨_,q,y,trivial⟩,λq=>q.elim λx q=>GC q.1 q.2.1 (wz q.2.2)⟩
 |u k t=>exact⟨λq=>q.elim λd q=>⟨_,q.1,y,q.2,trivial⟩,λq=>q.elim λx q=>(wy q.2.2).elim λd r=>r.elim λdp r=>⟨d,GC q.1 q.2.1 (wz r.2.2▸r.1),r.2.1⟩⟩
 |b t s=>exact⟨λq=>q.elim λd q=>q.elim λe q=>⟨_,q.1,y,q.2.1,q.2.2,trivial⟩,λq=>q.elim λx q=>(wy q.2.2).elim λd r=>r.elim λdp r=>(wy r.2.2).elim λe u=>u.elim λag u=>⟨d,e,GC q.1 q.2.1 (r.1.trans (u.1▸(wz u.2.2)▸y)),r.2.1,u.2.1⟩⟩
theorem Mo{ai:List T}:∀{aC Z:List Nat},(∀x∈ai,∀{c d:Nat},dO g x c->dO g x d->c=d)->gI g aC ai->gI g Z ai->aC=Z:=by
 induction ai with
 |nil=>exactλa ab ac=>(wz ab).trans (wz ac).symm
 |cons x ai F=>exactλX ab ac=>(wy ab).elim λd r=>r.elim λdp r=>(wy ac).elim λe s=>s.elim λag s=>by rw[r.1,s.1,X x (.head _) r.2.1 s.2.1,F (λba j=>X ba (.tail _ j)) r.2.2 s.2.2]
theorem so(h:eh g)(t:T):∀{c d:Nat},dO g t c->dO g t d->c=d:=by refine T.nc (P:=λt=>∀{c d:Nat},dO g t c->dO g t d->c=d) (λt F c d N Y=>?_) t;exact((iX h).mp N).elim λx a=>((iX h).mp Y).elim λQ b=>h.Ly c d x a.1 (jz (a.2.1.trans b.2.1.symm) (Mo (λx Z=>F x Z) a.2.2 b.2.2)▸b.1)
theorem Cy(Q:eh g){ax:List Nat}(ab:gI g ax ai)(ac:gI g dp ai):ax=dp:=Mo (λx z=>so Q x) ab ac
def gC(g:eE)(ax:List Nat)(n:Nat)(M:List (List T)):Prop:=M.Nodup/\∀ai,ai∈M↔gI g ax ai/\eS ai=n
theorem gC.J{fb:List (List T)}(h:gC g ax n M)(au:gC g ax n fb):D M=D fb:=((zt h.1 au.1).mpr λai=>(h.2 ai).trans (au.2 ai).symm).length_eq
theorem Ed:gC g [] 0 [[]]:=⟨jm ..,λai=>cB.trans ⟨λe=>e▸⟨trivial,y⟩,λq=>ko q.1.J.symm⟩⟩
theorem Jx(h:n<D ax):gC g ax n []:=⟨oY,λai=>⟨afk,λq=>aG (q.2▸q.1.J▸BQ ai) (kI.mpr h)⟩⟩
theorem Jw(h:0<n):gC g [] n []:=⟨oY,λai=>⟨afk,λq=>by have:=ko q.1.J.symm;rw[this]at q;exact aG q.2 (eC h)⟩⟩
theorem uv{bw gq:Type}{l:List bw}{f:bw->List gq}(ab:∀x∈l,(f x).Nodup)(ac:l.Nodup)(bo:∀x∈l,∀Q∈l,∀a,a∈f x->a∈f Q->x=Q):(l.flatMap f).Nodup:=WI.mpr ⟨ab,wF (λ{x Q} Z Y R a aE b al e=>R (bo x Z Q Y a aE (e▸al))) ac⟩
theorem iV{bw gq:Type}{l:List bw}{f:bw->gq}(h:l.Nodup)(bo:∀x∈l,∀Q∈l,f x=f Q->x=Q):(l.map f).Nodup:=oZ.mpr (wF (λ{x Q} Z Y R e=>R (bo x Z Q Y e)) h)
theorem J!(Q:eh g){x:bl}(h:g c x)(m:gC g x.2 n M)(q:ai∈M):(gZ x.1 ai).op=x.1/\(gZ x.1 ai).X=ai:=rQ (Q.kf c x h).1 (((m.2 ai).mp q).1.J▸(Q.kf c x h).2)
theorem Ee(W:eh g){r:List bl}(I:r.Nodup/\∀x,x∈r↔g c x){R:bl->List (List T)}(m:∀x∈r,gC g x.2 n (R x)):gC g [c] (n+1) (r.flatMap λx=>(R x).map λai=>[gZ x.1 ai]):=by
 have Z:∀x∈r,∀ai∈R x,(gZ x.1 ai).op=x.1/\(gZ x.1 ai).X=ai:=λx X ai q=>J! W ((I.2 x).mp X) (m x X) q;refine⟨uv (λx X=>iV (m x X).1 λa aE b al e=>?_) I.1 λx X Q Y a aE al=>?_,λai=>⟨λh=>?_,λq=>?_⟩⟩
 ·rw[←(Z x X a aE).2,←(Z x X b al).2,(fH e).1]
 ·refine(bJ.mp aE).elim λp u=>(bJ.mp al).elim λq H=>?_;have e:=(fH (u.2.trans H.2.symm)).1;have ab:=Z x X p u.1;have ac:=Z Q Y q H.1;refine jz (ab.1.symm.trans ((bA T.op e).trans ac.1)) (Cy W (((m x X).2 p).mp u.1).1 ?_);rw[←ab.2,e,ac.2];exact(((m Q Y).2 q).mp H.1).1
 ·refine(gc.mp h).elim λx h=>(bJ.mp h.2).elim λp u=>?_;have ab:=Z x h.1 p u.1;have q:=((m x h.1).2 p).mp u.1;rw[←u.2];exact⟨⟨(iX W).mpr ⟨x,(I.2 x).mp h.1,ab.1.symm,by rw[ab.2];exact q.1⟩,trivial⟩,by rw[ob,T.size_eq,ab.2,q.2];rfl⟩
 ·cases ai with
  |nil=>exact q.1.elim
  |cons t ai=>cases ai with
   |cons=>exact q.1.2.elim
   |nil=>refine((iX W).mp q.1.1).elim λx a=>?_;have q:=q.2;rw[ob,T.size_eq]at q;have X:=(I.2 x).mpr a.1;exact gc.mpr ⟨x,X,bJ.mpr ⟨t.X,((m x X).2 _).mpr ⟨a.2.2,ip q⟩,by rw[a.2.1,Kr]⟩⟩
noncomputable def mZ(G n:Nat):List Nat:=lK 1 (n-G)
theorem pH{n:Nat}:f∈mZ G n↔1<=f/\f+G<=n:=MU.trans (and_congr_right λh=>by rw[hN 1];exact⟨λq=>WT (dK (Nd (aq h (hl q)))) (hl q),λq=>pe (WY q)⟩)
theorem Jj{bg:List (List T)}(m:gC g [c] n M){s:List T}(h:s∈M.flatMap λa=>bg.map λai=>a++ai):∃t ai,s=t::ai/\dO g t c/\t.size=n/\ai∈bg:=(gc.mp h).elim λa h=>(bJ.mp h.2).elim λp r=>by
  have q:=(m.2 a).mp h.1;cases a with
  |nil=>exact q.1.elim
  |cons t ai=>cases ai with
   |nil=>exact⟨t,p,r.2.symm,q.1.1,(ob (ai:=[])).symm.trans q.2,r.1⟩
   |cons=>exact q.1.2.elim
theorem Ec{R bg:Nat->List (List T)}(m:∀f∈mZ (D ax) n,gC g [c] f (R f))(j:∀f∈mZ (D ax) n,gC g ax (n-f) (bg f)):gC g (c::ax) n ((mZ (D ax) n).flatMap λf=>(R f).flatMap λa=>(bg f).map λai=>a++ai):=by
 refine⟨uv (λf Z=>uv (λa aE=>iV (j f Z).1 λx z Q z e=>zh e) (m f Z).1 λa aE b al s ab ac=>?_) (List.nodup_range' 1) λf Z Y o s ab ac=>?_,λai=>⟨λh=>?_,λq=>?_⟩⟩
 ·exact(bJ.mp ab).elim λp u=>(bJ.mp ac).elim λq H=>(Wn (u.2.trans H.2.symm) ((((m f Z).2 a).mp aE).1.J.symm.trans (((m f Z).2 b).mp al).1.J)).1
 ·exact(Jj (m f Z) ab).elim λt u=>u.elim λp u=>(Jj (m Y o) ac).elim λfN H=>H.elim λq H=>u.2.2.1.symm.trans ((bA T.size (fH (u.1.symm.trans H.1)).1).trans H.2.2.1)
 ·refine(gc.mp h).elim λf h=>(Jj (m f h.1) h.2).elim λt u=>u.elim λp u=>?_;have r:=((j f h.1).2 p).mp u.2.2.2;exact u.1▸⟨⟨u.2.1,r.1⟩,ob▸u.2.2.1▸r.2▸Nat.add_sub_of_le (aq (dP _ _) (pH.mp h.1).2)⟩
 ·cases ai with
  |nil=>exact q.1.elim
  |cons t ai=>have e:=q.2;rw[ob]at e;have Z:t.size∈mZ (D ax) n:=pH.mpr ⟨t.nk,e▸q.1.2.J▸gE (BQ ai) _⟩;exact gc.mpr ⟨t.size,Z,gc.mpr ⟨[t],((m _ Z).2 _).mpr ⟨⟨q.1.1,trivial⟩,ob⟩,bJ.mpr ⟨ai,((j _ Z).2 _).mpr ⟨q.1.2,e▸(CZ ..)▸y⟩,y⟩⟩⟩
theorem vN(Q:eh g)(n:Nat):∀ax:List Nat,∃M,gC g ax n M:=by
 induction n using tT with
 |ind n F=>
  have o:∀f c,f<=n->∃M,gC g [c] f M:=λf c Z=>by
   cases f with
   |zero=>exact⟨[],Jx (ax:=[c]) Nat.zero_lt_one⟩
   |succ f=>exact(Q.fin c).elim λr I=>(mJ λx:bl=>F f Z x.2).elim λR m=>⟨_,Ee Q I λx z=>m x⟩
  intro ax;cases ax with
  |nil=>cases n with
   |zero=>exact⟨_,Ed⟩
   |succ n=>exact⟨_,Jw (iC _)⟩
  |cons c ax=>
   refine(mJ (r:=λf M=>f<=n->gC g [c] f M) λf=>?_).elim λR m=>(mJ (r:=λf M=>1<=f->f<=n->gC g ax (n-f) M) λf=>?_).elim λbg j=>⟨_,Ec (λf Z=>m f (aq (dP _ _) (pH.mp Z).2)) λf Z=>j f (pH.mp Z).1 (aq (dP _ _) (pH.mp Z).2)⟩
   ·exact(oR (f<=n)).elim (λh=>(o f c h).imp λz q z=>q) λh=>⟨[],λq=>aG q h⟩
   ·exact(oR (1<=f/\f<=n)).elim (λh=>(F (n-f) (Hq (ef h.1 h.2) h.1) ax).imp λz q z z=>q) λh=>⟨[],λq u=>aG ⟨q,u⟩ h⟩
noncomputable def cA(g:eE)(ax:List Nat)(n:Nat):Nat:=@dite Nat (∃M,gC g ax n M) (uI _) (λh=>D h.choose) λx=>0
theorem nS(h:gC g ax n M):cA g ax n=D M:=by unfold cA;exact(dif_pos ⟨M,h⟩).trans (gC.J (Exists.choose_spec (⟨M,h⟩:∃M,gC g ax n M)) h)
theorem SC:cA g [] 0=1:=nS Ed
theorem SD(h:n<D ax):cA g ax n=0:=nS (Jx h)
theorem SB(h:0<n):cA g [] n=0:=nS (Jw h)
theorem H'(Q:eh g){r:List bl}(I:r.Nodup/\∀x,x∈r↔g c x):cA g [c] (n+1)=(r.map λx=>cA g x.2 n).sum:=(mJ λx:bl=>vN Q n x.2).elim λR m=>(nS (Ee Q I λx z=>m x)).trans ((zk ..).trans (bA MX (lb λx z=>(bK ..).trans (nS (m x)).symm)))
theorem G?(Q:eh g):cA g (c::ax) n=((mZ (D ax) n).map λf=>cA g [c] f*cA g ax (n-f)).sum:=by refine(mJ λf=>vN Q f [c]).elim λR m=>(mJ λf=>vN Q (n-f) ax).elim λbg j=>?_;rw[nS (Ec (λf x=>m f) λf x=>j f),zk];refine bA MX (lb λf x=>?_);rw[zk,nS (m f),nS (j f)];have:((R f).map λa=>((bg f).map λai=>a++ai).length)=(R f).map λx=>(bg f).length:=lb λa x=>bK ..;rw[this,WD,WM]
end
variable{ai U df:List T}{cn:List (T×T)}{ae:T->Nat->List T}{pre:List T}{M:T->T}{mK:List T}{fb:T->T}{ly:Nat->List T}{aK:List (T×T)}{fQ:T->Nat}{ht:T->T}{dB dZ:List T}{hj:bl->List (List T)}
section
variable{i:Nat} {d:afe} {p q:Bool} {l:List Nat} {x:V}
theorem aaU(h:j<=i):V.X ((i:Int)-(j:Int))=am (i-j):=bA V.X (Mw h).symm
theorem kp(h:j<=i):gw B (oq .Sub) (am i) (am j) z (am (i-j)) z:=aaU h▸XA
theorem sE:gw B (oq .Add) (am i) (am j) z (am (i+j)) z:=zE
theorem Hy(h:i<2^62):gw B (oq .Mult) (am i) (am j) z (am (i*j)) z:=by have:am (i*j)=V.X ((i:Int)*(j:Int)):=bA V.X (Int.natCast_mul i j);rw[this];exact Xy (decide_eq_true (by rw[Wa];exact h))
theorem zF:gw B (kq .Eq) (am i) (am j) z (.dF (dV (i=j))) z:=IR▸wX nr.X
theorem Hz:gw B (kq .NotEq) (am i) (am j) z (.dF !dV (i=j)) z:=IR▸wY nr.X
theorem zG:gw B (kq .Lt) (am i) (am j) z (.dF (dV (i<j))) z:=by have:=Xw (B:=B) (z:=z) (i:=(i:Int)) (j:=(j:Int));rw[decide_eq_decide.mpr lH]at this;exact this
theorem Nn:gw B (kq .Gt) (am i) (am j) z (.dF (dV (j<i))) z:=by have:=Xv (B:=B) (z:=z) (i:=(i:Int)) (j:=(j:Int));rw[decide_eq_decide.mpr lH]at this;exact this
section
variable{a b:afe} (aE:bW B n a N z (am i) ah) (al:bW B n b N ah (am j) aV)
include aE al
theorem DH(h:i<j):eB B n (.bH .Lt a b) N z ak aV:=decide_eq_true h▸(hz aE al zG:eB B n _ N z (dV (i<j)) aV)
theorem As(h:¬i<j):eB B n (.bH .Lt a b) N z aW aV:=decide_eq_false h▸(hz aE al zG:eB B n _ N z (dV (i<j)) aV)
theorem DG(h:j<i):eB B n (.bH .Gt a b) N z ak aV:=decide_eq_true h▸(hz aE al Nn:eB B n _ N z (dV (j<i)) aV)
theorem xv(h:¬j<i):eB B n (.bH .Gt a b) N z aW aV:=decide_eq_false h▸(hz aE al Nn:eB B n _ N z (dV (j<i)) aV)
theorem vy(h:i=j):eB B n (.bH .Eq a b) N z ak aV:=decide_eq_true h▸(hz aE al zF:eB B n _ N z (dV (i=j)) aV)
theorem vx(h:i≠j):eB B n (.bH .Eq a b) N z aW aV:=decide_eq_false h▸(hz aE al zF:eB B n _ N z (dV (i=j)) aV)
theorem aeR(h:i=j):eB B n (.bH .NotEq a b) N z aW aV:=by have:=hz aE al (Hz (i:=i));rw[decide_eq_true h]at this;exact this
end
theorem Au(ab:eB B n d N z aW ah)(ac:eB B n e N ah aW aV):eB B n (.or [d,e]) N z aW aV:=IA (zJ ab (λx=>zJ ac (λx=>XE) afh) afh)
theorem ZP(ab:eB B n d N z aW ah)(ac:eB B n e N ah ak aV):eB B n (.or [d,e]) N z ak aV:=IA (zJ ab (λx=>zJ ac (λh=>afh h.symm) λx=>⟨y,y⟩) afh)
theorem ZO(ab:eB B n d N z ak ah):eB B n (.or [d,e]) N z ak ah:=IA (zJ ab (λh=>afh h.symm) λx=>⟨y,y⟩)
theorem Iy(ab:eB B n d N z ak ah)(ac:eB B n e N ah q aV):eB B n (.and [d,e]) N z q aV:=Po (FS ab (λx=>FS ac (λZ=>Z▸UX) λZ=>⟨Z,y⟩) λh=>afh h.symm)
theorem Iw(ab:eB B n d N z aW ah):eB B n (.and [d,e]) N z aW ah:=Po (FS ab afh λx=>⟨y,y⟩)
theorem aeQ(ab:eB B n d N z p z)(ac:eB B n e N z q z):eB B n (.and [d,e]) N z (p&&q) z:=by cases p with
 |true=>exact Iy ab ac
 |false=>exact Iw ab
theorem uN{l:List V}(h:bW B n e N z (.Y l) ah)(Z:D l<=cZ):bW B n (.bR "len" [e]) N z (am (D l)) ah:=gV AE (aU h bc) (yQ .Y Z)
theorem km{l:List V}(h:bW B n e N z (.J a) ah)(aE:ah[a]?=A (.W l))(Z:D l<=cZ):bW B n (.bR "len" [e]) N z (am (D l)) ah:=gV AE (aU h bc) (yQ (.W aE) Z)
theorem aaZ:∀l:List Nat,(l.map λ(k:Nat)=>(k:Int)).sum=((l.sum:Nat):Int)
|[]=>y
|x::l=>by rw[jv,MY,MY,aaZ l,GK]
theorem LZ(aE:fT z a l):hH B (.builtin "sum") [.J a] z (am l.sum) z:=by have:=LY (B:=B) (z:=z) (a:=a) (l:=l.map λ(k:Nat)=>(k:Int)) (((ed ..)).symm▸aE);rw[aaZ]at this;exact this
theorem TB(k:Nat):lY 1 ((k:Int)+1) 1=k:=by
 cases k with
 |zero=>rfl
 |succ k=>refine(cg (by decide)).trans ((cg (Int.lt_add_of_pos_left 1 (Mt.mpr (iC k)))).trans ?_);rw[CA,VS,CB];rfl
theorem Z_(k:Nat):pL 1 ((k:Int)+1) 1=(lK 1 k).map am:=by unfold pL;rw[TB,List.range'_eq_map_range,ed];refine lb λi x=>?_;rw[Mx];rfl
theorem xu{d:afe}{k:Nat}(h:bW B n d N z (.X ((k:Int)+1)) ah)(X:k<cZ):hY B n .bE (.bR "range" [.X 1,d]) N z ((lK 1 k).map am) (λx=>True) ah:=by rw[←Z_];exact ff (gV AF (aU cE (aU h bc)) Vs) (zc (by rw[TB];exact dK X) y (lT (n:=k+1) X) y (by decide))
theorem xt{d:afe}{k:Nat}(h:bW B n d N z (am k) ah)(X:k<=cZ):hY B n .bE (.bR "range" [d]) N z ((fz k).map am) (λx=>True) ah:=KZ k▸ff (gV AF (aU h bc) Gk) (zc (KU X) y (lT X) y (by decide))
end
noncomputable def FM(k:Nat):Nat->List (List Nat)
|0=>[[]]
|n+1=>(fz k).flatMap λx=>(FM k n).map (x::·)
theorem Sf{k:Nat}:∀{n:Nat} {l:List Nat},D l=n->(∀x∈l,x<k)->l∈FM k n
|0,[],_,_=>.head _
|n+1,x::l,h,Z=>gc.mpr ⟨x,hk.mpr (Z x (.head _)),bJ.mpr ⟨l,Sf (ip h) λQ Y=>Z Q (.tail _ Y),y⟩⟩
theorem Re{bw gq:Type}{l:List bw}{f:bw->List gq}{G:Nat}(h:∀x,(f x).length=G):(l.flatMap f).length=D l*G:=by rw[zk,show(l.map λa=>(f a).length)=l.map λz=>G from lb λx z=>h x,WD,WM]
theorem UO:∀n:Nat,(FM k n).length=k^n
|0=>y
|n+1=>by
 show(List.flatMap _ _).length=_;rw[Re λx=>(bK ..).trans (UO n),iA,Nat.pow_succ,Xe]
theorem T.yk(t:T):∀x∈t.Y,x<5:=by
 refine T.nc (P:=λt=>∀x∈t.Y,x<5) (λt F x Z=>?_) t;rw[t.mC]at Z;refine(ee.mp Z).elim (λY=>?_) λZ=>?_
 ·obtain rfl:=Y;exact t.pK
 ·exact(gc.mp Z).elim λs W=>W.elim λX Z=>F s X x Z
theorem H_{n:Nat}(h:∃M,gC g ax n M):cA g ax n<=5^n:=by
 refine h.elim λM h=>?_;rw[nS h,←UO,←bK (f:=cV)];refine CI (iV h.1 λx z Q z e=>tk e) λw m=>(bJ.mp m).elim λai X=>X.elim λo Y=>?_;obtain rfl:=Y;exact Sf ((h.2 ai).mp o).2 λx Z=>by
  exact(gc.mp Z).elim λt E=>E.elim λz Z=>t.yk x Z
theorem Kx(Z:eh g){n:Nat}(J:n<=4):cA g ax n<=625:=aq (H_ (vN Z n ax)) (wV (aF y) J)
section
def cs(aa:List bl)(L:Nat->Nat):eE:=λc x=>∃(i:Nat) (Q:bl),aa[i]?=A Q/\L i=c/\x=he L Q
noncomputable def kR(ax:List Nat)(n:Nat):V:=.Y [.Y (ax.map am),am n]
structure pb(g:eE)(ag:List (V×V)):Prop where
 aa:(ag.map (·.1)).Nodup
 ok:∀x∈ag,∃ax n,x=(kR ax n,am (cA g ax n))/\(∀c∈ax,c<18)/\D ax<=4/\n<=4
theorem v0{ax:List Nat}{n:Nat}(h:kR ax n=kR o Z8):ax=o/\n=Z8:=
 have q:=fH (V.Y.inj h)
 ⟨Kn (V.Y.inj q.1),mA (fH q.2).1⟩
theorem pb.get(G:pb g ag){ax:List Nat}{n:Nat}(h:cX ag (kR ax n)=A H):H=am (cA g ax n):=(G.ok _ (i6 h)).elim λZ q=>q.elim λY q=>by have e:=nC q.1;have o:=v0 e.1;rw[o.1,o.2];exact e.2
theorem pb.J(G:pb g ag):D ag<=1000000:=by
 have h:(ag.map (·.1)).length<=((fz 5).flatMap λk=>(FM 18 k).flatMap λax=>(fz 5).map λn=>kR ax n).length:=
  CI G.aa λk X=>by
   obtain⟨x,Z,rfl⟩:=bJ.mp X;obtain⟨ax,n,rfl,ab,ac,bo⟩:=G.ok x Z;exact gc.mpr ⟨D ax,hk.mpr (pe ac),gc.mpr ⟨ax,Sf y ab,bJ.mpr ⟨n,hk.mpr (pe bo),y⟩⟩⟩
 rw[bK]at h;refine aq h ?_;have e:∀k,((FM 18 k).flatMap λax=>(fz 5).map λn=>kR ax n).length=18^k*5:=λk=>by
  rw[Re (G:=5) λax=>(bK ..).trans (iA ..),UO]
 rw[zk,lb (g:=λk=>18^k*5) λk z=>e k];decide
theorem j4:∀{ag:List (V×V)},(ag.map (·.1)).Nodup->((hp ag k H).map (·.1)).Nodup
|[],_=>jm ..
|x::ag,h=>by
 rw[jv,jN]at h;rw[AX];by_cases q:V.dE x.1 k=ak
 ·rw[cg q];exact jN.mpr h
 ·rw[bV q];refine jN.mpr ⟨λg=>?_,j4 h.2⟩;refine(bJ.mp g).elim λQ M=>M.elim λY e=>?_;have:Q.1=x.1->Q.1≠k:=λo bq=>q (V.fE.mpr (o.symm.trans bq));exact vJ (P:=λba=>ba=x.1->False) (λba j e=>h.1 (bJ.mpr ⟨ba,j,e⟩)) (λe=>q (V.fE.mpr e.symm)) Q Y e
theorem j3{x:V×V}:∀{ag:List (V×V)},x∈hp ag k H->x∈ag\/x=(k,H)
|[],h=>.inr (cB.mp h)
|Q::ag,h=>by
 rw[AX]at h;by_cases q:V.dE Q.1 k=ak
 ·rw[cg q,V.fE.mp q]at h;exact(ee.mp h).elim .inr λh=>.inl (.tail _ h)
 ·rw[bV q]at h;exact(ee.mp h).elim (λe=>.inl (e▸.head _)) λh=>(j3 h).imp (.tail _) id
theorem pb.set(G:pb g ag){ax:List Nat}{n:Nat}(ab:∀c∈ax,c<18)(ac:D ax<=4)(bo:n<=4):pb g (hp ag (kR ax n) (am (cA g ax n))):=⟨j4 G.aa,λx Z=>(j3 Z).elim (G.ok x) λe=>⟨ax,n,e,ab,ac,bo⟩⟩
theorem pb.key(G:pb g ag)(ax:List Nat)(n:Nat):iM ag (kR ax n):=⟨by show(V.iF 6 (ax.map am)&&(ak&&ak))=ak;rw[JK];rfl,λx Z=>by obtain⟨ax,n,rfl,_⟩:=G.ok x Z;rfl⟩
structure ek(aQ aH aP aO:Nat)(aa:List bl)(L:Nat->Nat)(z:aA):Prop where
 bz:gj aQ z aa L
 na:D aa<=18
 nw:aQ<=aH
 pX:aQ<=aP
 c:z[aH]?=A (.dH 1 [(15,.J 7),(16,.Y [am (D aa),am aO]),(17,.J aP)])
 e:∃l,z[17]?=A (.W l)/\D l=aO
 memo:∃ag,z[aP]?=A (.Z ag)/\pb (cs aa L) ag
variable{aa:List bl} {r:List bl}
theorem ek.ne(az:ek aQ aH aP aO aa L z):aH≠aP:=λe=>by refine az.memo.elim λag Z=>Z.elim λh x=>?_;rw[←e,az.c]at h;cases h
theorem ek.fZ(az:ek aQ aH aP aO aa L z)(k:aM (·≠aP) z ah)(G:∃ag,ah[aP]?=A (.Z ag)/\pb (cs aa L) ag):ek aQ aH aP aO aa L ah:=⟨az.bz.cz (k.Z λa h e=>aG az.pX (kI.mpr (e▸h))),az.na,az.nw,az.pX,k.get _ _ az.ne az.c,az.e.imp λl h=>⟨k.get _ _ (λe=>aG (aq az.bz.lL az.pX) (e▸(by decide:¬22<=17))) h.1,h.2⟩,G⟩
theorem ek.k(az:ek aQ aH aP aO aa L z)(k:aM cI z ah):ek aQ aH aP aO aa L ah:=az.fZ k.of (az.memo.imp λag h=>⟨k.at h.1,h.2⟩)
theorem ek.set(az:ek aQ aH aP aO aa L z){x:cT}(ab:aQ<=a)(ac:a≠aH)(bo:a≠aP):ek aQ aH aP aO aa L (z.set a x)where
 bz:=az.bz.cz (aM.dd.gN (fP.mpr ab))
 na:=az.na
 nw:=az.nw
 pX:=az.pX
 c:=fL az.c ac
 e:=az.e.imp λl q=>⟨fL q.1 λe=>aG (aq az.bz.lL ab) (e▸(by decide:¬22<=17)),q.2⟩
 memo:=az.memo.imp λag q=>⟨fL q.1 bo,q.2⟩
def mq(aa:List bl)(L:Nat->Nat)(ax:List Nat):Prop:=∀c∈ax,c<D aa/\L c=c
theorem gj.ys(ae:gj aQ z aa L){x:bl}(h:cs aa L c x):mq aa L x.2:=λk X=>h.elim λi h=>h.elim λQ h=>by rw[h.2.2]at X;exact(bJ.mp X).elim λj q=>have:=kH ((ae.hR i Q h.1).2.2 j q.1) (gQ h.1);q.2▸⟨ae.fF.qD this,ae.fF.nN j this⟩
theorem gj.kf(ae:gj aQ z aa L){x:bl}(h:cs aa L c x):x.1<5/\x.2.length=dN x.1:=h.elim λi h=>h.elim λQ h=>h.2.2▸⟨(ae.hR i Q h.1).1,(bK ..).trans (ae.hR i Q h.1).2.1⟩
theorem ye{x:bl}(h:x.2.length=dN x.1):(ce x.1::x.2.map am).length<=cZ:=by rw[iz,bK,h];exact aq (dn (kv _)) (aF y)
theorem ek.Sg(P:cq B)(az:ek aQ aH aP aO aa L z)(h:z[aP]?=A (.Z ag))(G:pb (cs aa L) ag)(aR:N[0]?=A (A (.J aH)))(bo:N[3]?=A (A (kR ax n)))(e:cX ag (kR ax n)=A H):bW B a (.Z (.cy (.J 0) 17) (.J 3)) N z (am (cA (cs aa L) ax n)) z:=G.get e▸fo (dR (av aR) az.c y (P.m y)) (av bo) (.Z h) (nA h (G.key ax n) e)
def An(B:bT)(aQ aH aP aO:Nat)(aa:List bl)(L:Nat->Nat)(G:Nat)(n:Nat):Prop:=∀(ax:List Nat) (z:aA),mq aa L ax->D ax<=1000->ek aQ aH aP aO aa L z->(∀O,dU B G 18 [.J aH,.Y (ax.map am),am n] z (am (cA (cs aa L) ax n)) O->ek aQ aH aP aO aa L O->aM (·≠aP) z O->False)->False
theorem ek.lt(az:ek aQ aH aP aO aa L z):aH<D z/\aP<D z/\aQ<=D z:=have h:=az.memo.elim λx h=>fA h.1;⟨fA az.c,h,aq az.pX (dK h)⟩
theorem ek.aac(P:cq B)(Q:eh (cs aa L)){n:Nat}(X:c<D aa/\L c=c)(az:ek aQ aH aP aO aa L z)(F:An B aQ aH aP aO aa L (n+7) n)(aR:N[0]?=A (A (.J aH)))(ab:N[1]?=A (A (.Y [am c])))(H:ho N [aj,A 0,A 2]=[aj,A (.J aH),A (am (n+1))])(d:∀O,bW B (n+7) (.bR "sum" [.dy (.W 0) .bE (.bZ (.cy (.J 0) 15) 23 [.Z (.J 1) (.X 0)]) [] (.di (.bZ (.J 1) 21 [.eb (.J 0) (.X 1) .bM,.cb .Sub (.J 2) (.X 1)])) [aj,A 0,A 2]]) N z (am (cA (cs aa L) [c] (n+1))) O->ek aQ aH aP aO aa L O->aM (·≠aP) z O->False):False:=by
 refine az.bz.Bt (n:=n+2) P az.na X.1 λah p o bq Z U Y a=>?_;rw[X.2]at Z U Y;generalize dI aa L c=r at Z U Y;have q:=az.k bq;refine Gj (B:=B) (n:=n+7) (N:=N) (z:=z) (k:=.bE) (ao:=λO=>ek aQ aH aP aO aa L O/\aM (·≠aP) ah O) (aS:=r) (g:=cU) (f:=λx=>am (cA (cs aa L) x.2 n)) (e:=.bZ (.cy (.J 0) 15) 23 [.Z (.J 1) (.X 0)]) (bP:=.bZ (.J 1) 21 [.eb (.J 0) (.X 1) .bM,.cb .Sub (.J 2) (.X 1)]) H
  (ff (eu (dR (av aR) az.c y (P.m y)) az.bz.du.eA y (P.m y) (aU (fo (av ab) (cE (i:=0)) .Y (jx y y)) bc) o) (gD Z)) (aq U (aF y)) (λO h=>h.2.get _ _ (q.memo.elim λa h=>kE Z h.1 pF) Z) ⟨q.k .cS,.cS⟩
  (λO l h=>⟨h.1.set q.lt.2.2 (fU q.lt.1) (fU q.lt.2.1),h.2.set (cu _)⟩) (λx E O l j aE k=>?_) λaV v I u=>?_
 ·have R:=(Y.1.2 x).mp E;exact F x.2 O (az.bz.ys R) ((az.bz.kf R).2▸aq (kv _) (aF y)) j.1 λcD W t w=>k cD (eu (av (i:=1) y) j.1.c y (P.m y) (aU (lG (k:=1) (av (i:=0) y) (aF y) (ye (az.bz.kf R).2)) (aU (en (av (i:=2) y) cE (kp (i:=n+1) (j:=1) (gF 1 n))) bc)) W) ⟨t,j.2.trans w⟩ (w.get _ _ (fU q.lt.2.1) aE)
 ·refine d aV (H' Q Y.1▸gV IW (aU v.ev bc) (LZ (l:=r.map λx=>cA (cs aa L) x.2 n) ?_)) I.1 (bq.of.trans I.2);show aV[D ah]?=_;rw[ed];exact u
end
section
variable{aa:List bl} {r:List bl}
noncomputable def Fj:List S:=[.ea 6 (.bZ (.J 0) 21 [(.eb (.J 1) .bM (.X 1)),(.J 5)]),.fc (.bH .Gt (.J 6) (.X 0)) [.ea 4 (.cb .Add (.J 4) (.cb .Mult (.J 6) (.bZ (.J 0) 21 [(.eb (.J 1) (.X 1) .bM),(.cb .Sub (.J 2) (.J 5))])))] []]
theorem Jk{ax:List Nat}(h:D ax<=4):(ax.map am).length<=cZ:=gu (aq h (aF y))
noncomputable def kW(aH:Nat)(ax:List Nat)(n:Nat)(k bO bt cj:Option V):bk:=[A (.J aH),A (.Y (ax.map am)),A (am n),k,bO,bt,cj]
theorem ek.aad(P:cq B)(Q:eh (cs aa L)){n bN:Nat}(J:n<=4)(l:mq aa L (c::ax))(Y:(c::ax).length<=4)(az:ek aQ aH aP aO aa L z)(F:∀G,G<n->An B aQ aH aP aO aa L (n+6) G)(ab:1<=f)(ac:f<n){k:Option V}(d:∀C O,gb B (n+6) Fj (kW aH (c::ax) n k (A (am bN)) (A (am f)) cj) z .X (kW aH (c::ax) n k (A (am (bN+cA (cs aa L) [c] f*cA (cs aa L) ax (n-f)))) (A (am f)) C) O->ek aQ aH aP aO aa L O->aM (·≠aP) z O->False):False:=by
 refine F f ac [c] z (λx U=>l x (cB.mp U▸.head _)) (by decide:1<=1000) az λah t Z b=>?_;have R:=fX (i:=6) (eu (nm:=21) (av (B:=B) (n:=n+6) (i:=0) (N:=kW aH (c::ax) n k (A (am bN)) (A (am f)) cj) y) az.c y (P.m y) (aU (Mh (k:=1) (av (i:=1) y) (aF y) (Jk Y)) (aU (av (i:=5) y) bc)) t);have g:=av (B:=B) (n:=n+6) (z:=ah) (i:=6) (N:=kW aH (c::ax) n k (A (am bN)) (A (am f)) (A (am (cA (cs aa L) [c] f)))) y;by_cases W:0<cA (cs aa L) [c] f
 ·exact F (n-f) (Hq (er (cW _) ac) ab) ax ah (λx U=>l x (.tail _ U)) (aq (jo Y) (aF y)) Z λaV X I H=>d _ aV (bv R (bv (ku (DG g (cE (i:=0)) W) (bv (fX (en (av y) (en (av y) (eu (av y) Z.c y (P.m y) (aU (lG (k:=1) (av y) (aF y) (Jk Y)) (aU (en (av y) (av y) (kp (dK ac))) bc)) X) (Hy (er (Kx Q (aq (dK ac) J)) (aF y)))) sE)) eW)) eW)) I (b.trans H)
 ·have e:bN+cA (cs aa L) [c] f*cA (cs aa L) ax (n-f)=bN:=by rw[WX W,Nm];rfl
  rw[e]at d;exact d _ ah (bv R (bv (hQ (xv g (cE (i:=0)) W)) eW)) Z b
def Am(aQ aH aP aO:Nat)(aa:List bl)(L:Nat->Nat)(c:Nat)(ax:List Nat)(n:Nat)(k:Option V)(aL:aA)(cd:List Nat)(N:bk)(z:aA):Prop:=∀{P:Prop},(∀{bN:Nat} {C Z:Option V},N=kW aH (c::ax) n k (A (am bN)) C Z->(∀f∈cd,1<=f/\f+D ax<=n)->bN+(cd.map λf=>cA (cs aa L) [c] f*cA (cs aa L) ax (n-f)).sum=cA (cs aa L) (c::ax) n->ek aQ aH aP aO aa L z->aM (·≠aP) aL z->P)->P
theorem Am.mk{aQ aH aP aO:Nat}{aa:List bl}{L:Nat->Nat}{c:Nat}{ax:List Nat}{n:Nat}{cd:List Nat}{z:aA}{bN:Nat}{C:Option V}(h:N=kW aH (c::ax) n k (A (am bN)) C bO)(Z:(∀f∈cd,1<=f/\f+D ax<=n))(G:bN+(cd.map λf=>cA (cs aa L) [c] f*cA (cs aa L) ax (n-f)).sum=cA (cs aa L) (c::ax) n)(J:ek aQ aH aP aO aa L z)(Y:aM (·≠aP) aL z):Am aQ aH aP aO aa L c ax n k aL cd N z:=λe=>e h Z G J Y
theorem ek.aab(P:cq B)(Q:eh (cs aa L)){n:Nat}(W:n<=4)(l:mq aa L (c::ax))(X:(c::ax).length<=n)(ac:0<D ax)(az:ek aQ aH aP aO aa L z)(F:∀G,G<n->An B aQ aH aP aO aa L (n+6) G){k:Option V}(d:∀C H O,eM B (n+6) (.eP (.W 5) .bE (.bR "range" [(.X 1),(.cb .Add (.cb .Sub (.J 2) (.bR "len" [(.J 1)])) (.X 2))]) Fj) (kW aH (c::ax) n k (A (am 0)) bt cj) z .X (kW aH (c::ax) n k (A (am (cA (cs aa L) (c::ax) n))) C H) O->ek aQ aH aP aO aa L O->aM (·≠aP) z O->False):False:=by
 have h:=aq X W;have R:n-((c::ax).map am).length+2=n-D ax+1:=by
  rw[bK,iz,Nk];exact bA (·+1) (Nl (Xj X))
 have U:=en (ft:=.Add) (en (ft:=.Sub) (av (B:=B) (n:=n+6) (i:=2) (N:=kW aH (c::ax) n k (A (am 0)) bt cj) (z:=z) y) (uN (av (i:=1) y) (Jk h)) (kp (gu X))) (cE (i:=2)) (sE (j:=2));rw[R]at U;refine vA (B:=B) (n:=n+6) (b:=Fj) (i:=5) (g:=am) (aS:=mZ (D ax) n) (ao:=Am aQ aH aP aO aa L c ax n k z) (xu U (er (aq (mP _ _) W) (aF y))) (λx x x x=>trivial) (Am.mk y (λf I=>pH.mp I) ((G? Q)▸(hu ..)▸y) az .dd)
  (λf cd N O j bI=>j λZ bq p Y e=>?_) λbY O w j=>j λZ x p Y e=>?_
 ·obtain rfl:=Z;exact Y.aad P Q W l h F (bq f (.head _)).1 (ef (pZ ac) (bq f (.head _)).2) λC aV E v u=>bI _ aV E (Am.mk y (λg Q=>bq g (.tail _ Q)) ((jn ..).trans p) v (e.trans u))
 ·obtain rfl:=Z;rw[←p]at d;exact d _ _ O w Y e
noncomputable def Z!:S:=.fc (.bH .Eq (.bR "len" [(.J 1)]) (.X 1)) [.ea 4 (.bR "sum" [(.dy (.W 0) .bE (.bZ (.cy (.J 0) 15) 23 [(.Z (.J 1) (.X 0))]) [] (.di (.bZ (.J 1) 21 [(.eb (.J 0) (.X 1) .bM),(.cb .Sub (.J 2) (.X 1))])) [aj,A 0,A 2])])] [.ea 4 (.X 0),.eP (.W 5) .bE (.bR "range" [(.X 1),(.cb .Add (.cb .Sub (.J 2) (.bR "len" [(.J 1)])) (.X 2))]) Fj]
theorem ek.aaa(P:cq B)(Q:eh (cs aa L)){n:Nat}(J:n<=4)(l:mq aa L (c::ax))(ac:(c::ax).length<=n)(az:ek aQ aH aP aO aa L z)(F:∀G,G<n->An B aQ aH aP aO aa L (n+6) G)(bX:bW B (n+6) (.bR "len" [.J 1]) (kW aH (c::ax) n (A (kR (c::ax) n)) aj aj aj) z (am (c::ax).length) z)(Y:∀C Z O,eM B (n+6) Z! (kW aH (c::ax) n (A (kR (c::ax) n)) aj aj aj) z .X (kW aH (c::ax) n (A (kR (c::ax) n)) (A (am (cA (cs aa L) (c::ax) n))) C Z) O->ek aQ aH aP aO aa L O->aM (·≠aP) z O->False):False:=by
 cases ax with
 |nil=>cases n with
  |zero=>exact qb _ ac
  |succ G=>exact az.aac (N:=kW aH [c] (G+1) (A (kR [c] (G+1))) aj aj aj) P Q (l c (.head _)) (F G (jO G)) y y y λaV W=>Y _ _ aV (ku (vy bX (cE (i:=1)) y) (bv (fX W) eW))
 |cons d ax=>exact az.aab (k:=A (kR (c::d::ax) n)) (bt:=aj) (cj:=aj) P Q J l ac (iC _) F λC Z aV w=>Y C Z aV (Py (vx bX (cE (i:=1)) (Nat.succ_ne_succ_iff.mpr (iP _))) (bv (fX cE) (bv w eW)))
theorem ek.Fi(P:cq B)(Q:eh (cs aa L))(n:Nat):n<=4->An B aQ aH aP aO aa L (n+7) n:=by
 refine tT n λn w J ax z l t az d=>?_;have bX:∀{N:bk},N[1]?=A (A (.Y (ax.map am)))->bW B (n+6) (.bR "len" [.J 1]) N z (am (D ax)) z:=λh=>
  bK (f:=am) (as:=ax)▸uN (av h) (gu (aq t (aF y)))
 have bG:=av (B:=B) (n:=n+6) (i:=2) (N:=kW aH ax n aj aj aj aj) (z:=z) y;by_cases ab:D ax=0
 ·obtain rfl:=ko ab;have a:∀H:Nat,cA (cs aa L) [] n=H->bW B (n+6) (.fc (.and [(.bH .Eq (.J 2) (.X 0)),(.bH .Eq (.bR "len" [.J 1]) (.X 0))]) (.X 1) (.X 0)) (kW aH [] n aj aj aj aj) z (am H) z->False:=λH e dG=>
   d z (ep (P.b y) y (lE (ku (ZO (vy (bX y) (cE (i:=0)) y)) (fy (e▸dG))) nj) (.inl y)) az .dd
  cases n with
  |zero=>exact a 1 SC (Mi (Iy (vy bG (cE (i:=0)) y) (vy (bX y) (cE (i:=0)) y)) cE)
  |succ n=>exact a 0 (SB (iC n)) (Gu (Iw (vx bG (cE (i:=0)) (iP n))) cE)
 have j:=vx (bX (N:=kW aH ax n aj aj aj aj) y) (cE (i:=0)) ab;by_cases ac:n<D ax
 ·have iJ:=(Nat.eq_zero_or_pos n).elim (λe=>Iy (vy bG (cE (i:=0)) e) (vx (bX y) (cE (i:=0)) ab)) λe=>Iw (vx bG (cE (i:=0)) (fU e));exact d z (ep (P.b y) y (lE (ku (ZP j (DH bG (bX y) ac)) (fy (SD (g:=cs aa L) ac▸Gu iJ cE))) nj) (.inl y)) az .dd
 have p:=Au j (As bG (bX y) ac);have ac:=ib ac;cases ax with
 |nil=>exact ab y
 |cons c ax=>
 refine az.memo.elim λag G=>?_;have X:=fX (i:=3) (eL (aU (av (B:=B) (n:=n+6) (i:=1) (N:=kW aH (c::ax) n aj aj aj aj) (z:=z) y) (aU bG bc)) hq);have dh:=hz (b:=.cy (.J 0) 17) (av (B:=B) (n:=n+6) (i:=3) (N:=kW aH (c::ax) n (A (kR (c::ax) n)) aj aj aj) (z:=z) y) (dR (av (i:=0) y) az.c y (P.m y)) (Xr G.1 (G.2.key (c::ax) n));cases F:cX ag (kR (c::ax) n)with
 |some H=>rw[F]at dh;exact d z (ep (P.b y) y (bv (hQ p) (bv X (bv (hQ dh) (fy (az.Sg P G.1 G.2 y y F))))) (.inl y)) az .dd
 |none=>rw[F]at dh;refine az.aaa P Q J l ac (λG Y ax z ab ac bo k=>w G Y (aq (dK Y) J) ax z ab ac bo λO q=>k O (q.mono (iO Y 6))) (bX y) λC r aV W U A0=>U.memo.elim λu Z=>?_;have E:=Z.2.set (ax:=c::ax) (n:=n) (λx s=>ef (l x s).1 az.na) (aq ac J) J;have I:aM (·≠aP) aV (aV.set aP (.Z (hp u (kR (c::ax) n) (am (cA (cs aa L) (c::ax) n))))):=aM.dd.gN λh=>h y;have R:=U.fZ I ⟨_,gR Z.1,E⟩;exact d _ (ep (P.b y) y (bv (hQ p) (bv X (bv (ku dh (bv W (bv (sT (av (B:=B) (n:=n+6) (i:=4) (N:=kW aH (c::ax) n (A (kR (c::ax) n)) (A (am (cA (cs aa L) (c::ax) n))) C r) y) (dR (nm:=17) (av (i:=0) y) U.c y (P.m y)) (av (i:=3) y) (uR (H:=am (cA (cs aa L) (c::ax) n)) Z.1 (Z.2.key (c::ax) n) (aq Z.2.J (aF y)))) eW))) (fy (R.Sg P (gR Z.1) E y y DZ))))) (.inl y)) R (A0.trans I)
end
section
variable{aa:List bl} {r:List bl}
structure kY(aQ aH aP aO:Nat)(aa:List bl)(L:Nat->Nat)(z:aA):Prop where
 bz:gj aQ z aa L
 na:D aa<=18
 nw:aQ<=aH
 pX:aQ<=aP
 e:∃l,z[17]?=A (.W l)/\D l=aO
 xJ:aO<=1000
 c:z[aH]?=A (.dH 1 [(15,.J 7),(16,.bM),(17,.J aP)])\/ek aQ aH aP aO aa L z
def iK(aH aP:Nat)(a:Nat):Prop:=a≠aH/\a≠aP
def Gc(B:bT)(aQ aH aP aO:Nat)(aa:List bl)(L:Nat->Nat)(G f:Nat)(as:List V)(H:V)(z:aA):Prop:=(∀O eK,dU B G f as z H O->ek aQ aH eK aO aa L O->aM (iK aH aP) z O->eK=aP\/D z<=eK->False)->False
theorem VA(h:D z=G):bW B n .nL N z (.J G) (z++[.Z []]):=h▸sj
noncomputable def BE(aH n:Nat)(C:Option V):bk:=[A (.J aH),A (am n),C]
theorem kY.X_(P:cq B)(az:kY aQ aH aP aO aa L z)(J:n<=4):Gc B aQ aH aP aO aa L (a+3) 16 [.J aH,am n] .bM z:=λd=>by
 have p:=xv (av (B:=B) (n:=a+2) (i:=1) (N:=BE aH n aj) (z:=z) y) (Mf (i:=200)) (j:=200) (fP.mpr (aq J (aF y)));have fS:∀cd,z[aH]?=A (.dH 1 cd)->mw cd 15=A (.J 7)->eM B (a+2) (.ea 2 (.Y [.bZ (.cy (.J 0) 15) 5 [],.bR "len" [.cy (.cy (.J 0) 15) 19]])) (BE aH n aj) z .X (BE aH n (A (.Y [am (D aa),am aO]))) z:=λcd ab ac=>az.e.elim λl h=>by
  have X:=dR (B:=B) (n:=a+2) (nm:=15) (av (i:=0) (N:=BE aH n aj) (z:=z) y) ab ac (P.m y);have W:=fX (i:=2) (eL (aU (eu (nm:=5) X az.bz.du.eA y (P.m y) bc (az.bz.size (n:=a) P)) (aU (km (dR (nm:=19) X az.bz.du.eA y (P.m y)) h.1 (h.2▸aq az.xJ (aF y))) bc)) hq);rw[h.2]at W;exact W
 have bG:=av (B:=B) (n:=a+2) (i:=2) (N:=BE aH n (A (.Y [am (D aa),am aO]))) (z:=z) y;refine az.c.elim (λh=>?_) λh=>?_
 ·have ab:=gR (x:=.dH 1 [(15,.J 7),(16,.Y [am (D aa),am aO]),(17,.J aP)]) h;have aY:aM (·≠aH) z (z.set aH (.dH 1 [(15,.J 7),(16,.Y [am (D aa),am aO]),(17,.J aP)])):=aM.dd.gN λh=>h y;have Z:(z.set aH (.dH 1 [(15,.J 7),(16,.Y [am (D aa),am aO]),(17,.J aP)])).length=D z:=lJ ..;have k:=(aY.dS (iW:=[.Z []])).gN (b:=aH) (x:=.dH 1 [(15,.J 7),(16,.Y [am (D aa),am aO]),(17,.J (D z))]) λh=>h y;exact d _ (D z) (ep (P.b y) y (bv (hQ p) (bv (fS _ h y) (bv (ku (q:=[]) (hz bG (dR (nm:=16) (av (i:=0) y) h y (P.m y)) Xz) (bv (ke (nm:=16) bG (av (i:=0) y) h (P.m y) (by decide:3<100)) (bv (ke (nm:=17) (VA Z) (av (i:=0) y) (eQ ab) (P.m y) (by decide:3<100)) eW))) eW))) (.inr ⟨y,y⟩)) ⟨az.bz.cz (k.Z λa h e=>aG az.nw (kI.mpr (e▸h))),az.na,az.nw,aq az.nw (dK (fA h)),(gR (x:=.dH 1 [(15,.J 7),(16,.Y [am (D aa),am aO]),(17,.J (D z))]) (eQ (iW:=[.Z []]) ab)),az.e.imp λl Y=>⟨k.get _ _ (λe=>aG (aq az.bz.lL az.nw) (e▸(by decide:¬22<=17))) Y.1,Y.2⟩,[],(fL (x:=.dH 1 [(15,.J 7),(16,.Y [am (D aa),am aO]),(17,.J (D z))]) (Z▸dt (z:=z.set aH (.dH 1 [(15,.J 7),(16,.Y [am (D aa),am aO]),(17,.J aP)])) (C:=.Z [])) (eC (fA h))),oY,λc=>afk⟩ (k.Z λc h=>h.1) (.inr (cu _))
 ·have U:=hz (ft:=.NotEq) bG (dR (nm:=16) (av (i:=0) y) h.c y (P.m y)) (wY (x:=.Y [am (D aa),am aO]) ⟨y,y,.inl ⟨_,_,y,y⟩⟩);rw[V.ms]at U;exact d z aP (ep (P.b y) y (bv (hQ p) (bv (fS _ h.c y) (bv (hQ U) eW))) (.inr ⟨y,y⟩)) h .dd (.inl y)
theorem kY.k(az:kY aQ aH aP aO aa L z)(k:aM cI z ah):kY aQ aH aP aO aa L ah:=⟨az.bz.k k,az.na,az.nw,az.pX,az.e.imp λl h=>⟨k.at h.1,h.2⟩,az.xJ,az.c.imp k.at λh=>h.k k⟩
theorem Rf{x:V}(h:G≠15/\G≠16/\G≠17):mw [(15,x),(16,Q),(17,ba)] G=aj:=(bV h.1.symm).trans ((bV h.2.1.symm).trans (bV h.2.2.symm))
theorem kY.self(az:kY aQ aH aP aO aa L z):∃cd,z[aH]?=A (.dH 1 cd)/\mw cd 15=A (.J 7)/\∀G,(G≠15/\G≠16/\G≠17)->mw cd G=aj:=az.c.elim (λh=>⟨_,h,y,λx=>Rf⟩) λh=>⟨_,h.c,y,λx=>Rf⟩
theorem IK(aY:aM (iK aH aP) z ah)(W:eK=aP\/D z<=eK)(Z:aM (·≠eK) ah aV):aM (iK aH aP) z aV:=W.elim (λe=>aY.trans (Z.Z λx h=>e▸h.2)) λW=>⟨aq aY.le Z.le,λb C h e=>Z.get b C (λq=>aG (fA e) (fP.mpr (q▸W))) (aY.get b C h e)⟩
theorem kY.many(P:cq B)(Q:eh (cs aa L))(az:kY aQ aH aP aO aa L z)(J:n<=4)(X:c<D aa):Gc B aQ aH aP aO aa L (n+8) 17 [.J aH,am c,am n] (am (cA (cs aa L) [L c] n)) z:=λd=>by
 exact az.X_ (n:=n) (a:=n+4) P J λah i F q aY W=>az.self.elim λcd h=>ek.Fi P Q n J [L c] _ (λx Y=>cB.mp Y▸⟨q.bz.fF.qD X,q.bz.fF.nN c X⟩) (by decide:1<=1000) q λaV Z o U=>d aV i (ep (P.b y) y (bv (jR (eu (av y) h.1 (h.2.2 18 (by decide)) (P.m y) (aU (av y) bc) F)) (fy (eu (av y) q.c y (P.m y) (aU (eL (aU (eu (dR (av y) q.c y (P.m y)) q.bz.du.eA y (P.m y) (aU (av y) bc) (q.bz.find (n:=n+5) P X)) bc) hL) (aU (av y) bc)) Z))) (.inl y)) o
  (IK aY W U) W
end
section
noncomputable def T.J:T->V
|.l k=>.Y [ce (T.l k).op]
|.u k t=>.Y [ce (T.u k t).op,t.J]
|.b t s=>.Y [ce 4,t.J,s.J]
theorem T.lC(t:T):t.J=.Y (ce t.op::t.X.map T.J):=by obtain⟨⟩:=t<;>rfl
noncomputable def hW(ai:List T):V:=.Y (ai.map T.J)
variable{aa:List bl} {r:List bl} {x:bl} {bN dC R bi:List (List T)}
structure jQ(aQ aH aP aO:Nat)(aa:List bl)(L:Nat->Nat)(aL:aA)(dz be:Nat)(dC bN:List (List T))(z:aA):Prop where
 fw:ek aQ aH aP aO aa L z
 k:aM (·≠aP) aL z
 mY:D aL<=dz
 qz:aQ<=D aL
 f:z[dz]?=A (.W (bN.map hW))
 l:z[be]?=A (.W (dC.map hW))
 ne:dz≠be
 JY:D dC<=1000
noncomputable def pO(aH:Nat)(ax:List Nat)(n dz f be:Nat)(cj cC:Option V):bk:=[A (.J aH),A (.Y (ax.map am)),A (am n),A (.J dz),A (am f),A (.J be),cj,cC]
theorem ek.kS(az:ek aQ aH aP aO aa L z)(h:z[p]?=A (.W l)):p≠aH/\p≠aP:=⟨kE h az.c JX,az.memo.elim λx q=>kE h q.1 pF⟩
theorem jQ.Y(ao:jQ aQ aH aP aO aa L aL dz be dC bN z)(az:ek aQ aH aP aO aa L ah)(k:aM (·≠aP) z ah):jQ aQ aH aP aO aa L aL dz be dC bN ah:=⟨az,ao.k.trans k,ao.mY,ao.qz,k.get _ _ (ao.fw.kS ao.f).2 ao.f,k.get _ _ (ao.fw.kS ao.l).2 ao.l,ao.ne,ao.JY⟩
theorem jQ.set(ao:jQ aQ aH aP aO aa L aL dz be dC bN z):jQ aQ aH aP aO aa L aL dz be dC R (z.set dz (.W (R.map hW))):=⟨ao.fw.set (aq ao.qz ao.mY) (ao.fw.kS ao.f).1 (ao.fw.kS ao.f).2,ao.k.set ao.mY,ao.mY,ao.qz,gR ao.f,fL ao.l ao.ne,ao.ne,ao.JY⟩
theorem ED{x:bl}(ab:x.1<5)(ac:D ai=dN x.1):(gZ x.1 ai).J=.Y (ce x.1::ai.map T.J):=by rw[T.lC,(rQ ab ac).1,(rQ ab ac).2]
theorem jQ.ext(P:cq B)(ao:jQ aQ aH aP aO aa L aL dz be dC bN z)(ab:x.1<5)(ac:D ai=dN x.1)(W:D bN+D dC<=1000)(X:∀dZ∈dC,D dZ<=10)(d:∀O,eM B G (.fY (.eO (.J 3) "extend" [(.dy (.W 0) .bE (.J 5) [] (.di (.cb .Add (.Y [(.cb .Add (.Y [(.Z (.J 2) (.X 0))]) (.J 1))]) (.J 0))) [aj,A 7,A 6])])) (pO aH ax n dz f be (A (cU x)) (A (hW ai))) z .X (pO aH ax n dz f be (A (cU x)) (A (hW ai))) O->jQ aQ aH aP aO aa L aL dz be dC (bN++dC.map (gZ x.1 ai::·)) O->aM (·≠dz) z O->False):False:=by
 have Y:∀{dZ:List T} {k:Nat},D dZ<=k->k<=10->[ce x.1].length+(dZ.map T.J).length<=cZ:=λh au=>((bK ..)).symm▸aq (gE (aq h au) 1) (aF y);refine oe (B:=B) (n:=G) (N:=pO aH ax n dz f be (A (cU x)) (A (hW ai))) (z:=z) (k:=.bE) (dc:=[aj,A 7,A 6]) (ax:=[A (hW ai),A (cU x)]) (aS:=dC) (g:=hW) (f:=λdZ=>hW (gZ x.1 ai::dZ)) (e:=.J 5) (bP:=.cb .Add (.Y [(.cb .Add (.Y [(.Z (.J 2) (.X 0))]) (.J 1))]) (.J 0)) y
  (ff (av y) (gD ao.l)) (aq ao.JY (aF y)) (λa k=>k.at ao.l) (λdZ U O k bI=>?_) λah o bq p=>?_
 ·refine bI O ?_ .dd;unfold hW;rw[jv,(ED ab ac)];exact en (eL (aU (en (eL (aU (fo (av y) cE .Y (jx y y)) bc) hL) (av y) (oj (l:=[ce x.1]) (Y (ac▸kv _) (aF y)))) bc) hL) (av y) (oj (l:=[.Y (ce x.1::ai.map T.J)]) (Y (X dZ U) (cu _)))
 ·rw[show dC.map (λdZ=>hW (gZ x.1 ai::dZ))=(dC.map (gZ x.1 ai::·)).map hW by rw[ed];rfl]at p;have Z:=(ao.Y (ao.fw.k bq) bq.of).set (R:=bN++dC.map (gZ x.1 ai::·));rw[eI]at Z;exact d _ (jR (iL (av y) (.AZ ao.f) (aU o.ev bc) (Cn (bq.at ao.f) (.W p) (by rw[bK,bK,bK];exact aq W (aF y))))) Z (bq.of.gN λh=>h y)
def Aq(B:bT)(aQ aH aP aO:Nat)(aa:List bl)(L:Nat->Nat)(G n:Nat)(ax:List Nat)(M:List (List T)):Prop:=∀z,ek aQ aH aP aO aa L z->(∀O p,dU B G 20 [.J aH,.Y (ax.map am),am n] z (.J p) O->ek aQ aH aP aO aa L O->aM (·≠aP) z O->O[p]?=A (.W (M.map hW))->D z<=p->False)->False
noncomputable def TX:List S:=[.fY (.eO (.J 3) "extend" [(.dy (.W 0) .bE (.J 5) [] (.di (.cb .Add (.Y [(.cb .Add (.Y [(.Z (.J 2) (.X 0))]) (.J 1))]) (.J 0))) [aj,A 7,A 6])])]
noncomputable def FA:List S:=[.eP (.W 7) .bE (.bZ (.J 0) 25 [(.eb (.J 6) (.X 1) .bM),(.cb .Sub (.J 4) (.X 1))]) TX]
noncomputable def ti(x:bl)(dC R:List (List T)):List (List T):=R.flatMap λai=>dC.map (gZ x.1 ai::·)
def zd(aQ aH aP aO:Nat)(aa:List bl)(L:Nat->Nat)(aL:aA)(dz be:Nat)(dC bN R:List (List T))(p:Nat)(E:Option V->bk)(x:bl)(ah:aA)(pre:List (List T))(N:bk)(z:aA):Prop:=∀{P:Prop},(∀{C:Option V},N=E C->aM (iK dz aP) ah z->z[p]?=A (.W (R.map hW))->jQ aQ aH aP aO aa L aL dz be dC (bN++ti x dC pre) z->P)->P
theorem zd.mk{aQ aH aP aO:Nat}{aa:List bl}{L:Nat->Nat}{aL:aA}{dz be:Nat}{dC bN R:List (List T)}{E:Option V->bk}{x:bl}{ah:aA}{pre:List (List T)}{z:aA}{C:Option V}(h:N=E C)(Z:aM (iK dz aP) ah z)(Y:z[p]?=A (.W (R.map hW)))(J:jQ aQ aH aP aO aa L aL dz be dC (bN++ti x dC pre) z):zd aQ aH aP aO aa L aL dz be dC bN R p E x ah pre N z:=λe=>e h Z Y J
theorem jQ.X(P:cq B)(ao:jQ aQ aH aP aO aa L aL dz be dC bN z)(E:1<=f)(ab:x.1<5)(ac:x.2.length=dN x.1)(H:∀ai∈R,D ai=dN x.1)(u:Aq B aQ aH aP aO aa L G (f-1) x.2 R)(v:D bN+(ti x dC R).length<=1000)(I:∀dZ∈dC,D dZ<=10)(d:∀O C,gb B G FA (pO aH ax n dz f be (A (cU x)) cC) z .X (pO aH ax n dz f be (A (cU x)) C) O->jQ aQ aH aP aO aa L aL dz be dC (bN++ti x dC R) O->aM (iK dz aP) z O->False):False:=by
 refine u z ao.fw λah p Q U aY br dv=>ox (B:=B) (n:=G) (i:=7) (b:=TX) (g:=hW) (aS:=R) (ao:=zd aQ aH aP aO aa L aL dz be dC bN R p (pO aH ax n dz f be (A (cU x))) x ah) (N:=pO aH ax n dz f be (A (cU x)) cC) (z:=z) (e:=.bZ (.J 0) 25 [(.eb (.J 6) (.X 1) .bM),(.cb .Sub (.J 4) (.X 1))])
  (ff (eu (av y) ao.fw.c y (P.m y) (aU (lG (k:=1) (av y) (by decide) (ye ac)) (aU (en (av y) cE (kp (i:=f) (j:=1) E)) bc)) Q) (gD br)) (λa a a j=>j λa a h a=>h) (zd.mk y .dd br ((eF bN).symm▸ao.Y U aY)) (λpre ai r N aV q j k=>j λe Y bG Z=>?_) λbY O w j=>j λe Y bG Z=>?_
 ·obtain rfl:=e;refine Z.ext (G:=G) (ax:=ax) (n:=n) (f:=f) (x:=x) P ab (H ai (kC q)) (aq ?_ v) I λcD W t X=>?_
  ·rw[cp,jn,←bK (f:=(gZ x.1 ai::·)) (as:=dC)];exact gE (uk (F:=λai=>dC.map (gZ x.1 ai::·)) q) _
  ·refine k _ cD (bv W eW) (zd.mk y (Y.trans (X.Z λa h=>h.1)) (X.get _ _ (λe=>aG (fA ao.f) (fP.mpr (e▸dv))) bG) ?_);rw[show ti x dC (pre++[ai])=ti x dC pre++dC.map (gZ x.1 ai::·)from ul,←ha];exact t
 ·obtain rfl:=e;exact d O _ (bv w eW) Z ((aY.Z λa h=>h.2).trans Y)
end
section
variable{aa:List bl} {r:List bl} {x:bl} {bN dC R bi:List (List T)}
noncomputable def T.co:T->Nat
|.l _=>0
|.u _ t=>t.co+1
|.b t s=>iB t.co s.co+1
theorem T.rO{t s:T}(h:s∈t.X):s.co+1<=t.co:=by
 match t,h with
 |.u _ t,h=>obtain rfl:=cB.mp h;exact cu _
 |.b t s,h=>
  rcases ee.mp h with rfl|h
  ·exact dn (Hm _ _)
  ·obtain rfl:=cB.mp h;exact dn (Hn _ _)
theorem oL{s:T}(h:s∈ai):s.size<=eS ai:=by
 induction ai with
 |nil=>cases h
 |cons Q l F=>
  rw[ob];refine(ee.mp h).elim (λZ=>?_) λh=>?_
  ·obtain rfl:=Z;exact dP _ _
  ·exact aq (F h) (gF _ _)
theorem T.uo:∀t:T,t.co+1<=t.size
|.l _=>cu 1
|.u k t=>by rw[T.size_eq];exact dn (aq t.uo (oL (ai:=(T.u k t).X) (.head _)))
|.b t s=>by
 rw[T.size_eq];refine dn ?_;show iB t.co s.co+1<=_;rcases zx t.co s.co with h|h
 ·rw[De h];exact aq s.uo (oL (ai:=(T.b t s).X) (.tail _ (.head _)))
 ·rw[zy h];exact aq t.uo (oL (ai:=(T.b t s).X) (.head _))
theorem T.hF:∀(t:T) {G:Nat},t.co+1<=G->V.gh G t.J=ak:=λt=>by
 refine T.nc (P:=λt=>∀{G:Nat},t.co+1<=G->V.gh G t.J=ak) (λt F G h=>?_) t;cases G with
 |zero=>exact aG h (qb _)
 |succ G=>
  rw[t.lC];show(V.gh G (ce t.op)&&V.fu G (t.X.map T.J))=ak;have:V.gh G (ce t.op)=ak:=by obtain⟨⟩:=G<;>rfl
  rw[this];refine jS λH Y=>?_;obtain⟨s,Z,rfl⟩:=bJ.mp Y;exact F s Z (aq (T.rO Z) (lc h))
theorem abJ(h:eS ai<=90):V.gh 100 (hW ai)=ak:=by show V.fu 99 (ai.map T.J)=ak;refine jS λH Y=>?_;obtain⟨s,Z,rfl⟩:=bJ.mp Y;exact s.hF (aq s.uo (aq (oL Z) (aq h (aF y))))
structure xr(aQ aH aP aO:Nat)(aa:List bl)(L:Nat->Nat)(aL:aA)(dz:Nat)(bN:List (List T))(z:aA):Prop where
 fw:ek aQ aH aP aO aa L z
 k:aM (·≠aP) aL z
 mY:D aL<=dz
 qz:aQ<=D aL
 f:z[dz]?=A (.W (bN.map hW))
theorem jQ.abz(ao:jQ aQ aH aP aO aa L aL dz be dC bN z):xr aQ aH aP aO aa L aL dz bN z:=⟨ao.fw,ao.k,ao.mY,ao.qz,ao.f⟩
noncomputable def ng(dC:List (List T))(hj:bl->List (List T))(l:List bl):List (List T):=l.flatMap λx=>ti x dC (hj x)
def zB(aQ aH aP aO:Nat)(aa:List bl)(L:Nat->Nat)(aL:aA)(dz be:Nat)(dC bN:List (List T))(hj:bl->List (List T))(p:Nat)(E:Option V->Option V->bk)(ns pre:List bl)(N:bk)(z:aA):Prop:=∀{P:Prop},(∀{C Z:Option V},N=E C Z->z[p]?=A (.W (ns.map cU))->jQ aQ aH aP aO aa L aL dz be dC (bN++ng dC hj pre) z->P)->P
theorem zB.mk{aQ aH aP aO:Nat}{aa:List bl}{L:Nat->Nat}{aL:aA}{dz be:Nat}{dC bN:List (List T)}{E:Option V->Option V->bk}{ns pre:List bl}{z:aA}{C:Option V}(h:N=E C bO)(Z:z[p]?=A (.W (ns.map cU)))(Y:jQ aQ aH aP aO aa L aL dz be dC (bN++ng dC hj pre) z):zB aQ aH aP aO aa L aL dz be dC bN hj p E ns pre N z:=λe=>e h Z Y
theorem jQ.E?(P:cq B)(ao:jQ aQ aH aP aO aa L aL dz be dC bN z)(t:1<=f)(X:c<D aa/\L c=c)(R:∀x∈dI aa L c,(∀ai∈hj x,D ai=dN x.1)/\Aq B aQ aH aP aO aa L (G+5) (f-1) x.2 (hj x))(H:D bN+(ng dC hj (dI aa L c)).length<=1000)(u:∀dZ∈dC,D dZ<=10)(d:∀O C U,eM B (G+5) (.eP (.W 6) .bE (.bZ (.cy (.J 0) 15) 23 [(.Z (.J 1) (.X 0))]) FA) (pO aH (c::ax) n dz f be cj cC) z .X (pO aH (c::ax) n dz f be C U) O->jQ aQ aH aP aO aa L aL dz be dC (bN++ng dC hj (dI aa L c)) O->False):False:=by
 refine ao.fw.bz.Bt (n:=G) P ao.fw.na X.1 λah p E aY br a Y dv=>?_;rw[X.2]at br Y;generalize dI aa L c=ns at R H d br Y;have Q:=ao.Y (ao.fw.k aY) aY.of;refine ox (B:=B) (n:=G+5) (i:=6) (b:=FA) (g:=cU) (aS:=ns) (ao:=zB aQ aH aP aO aa L aL dz be dC bN hj p (pO aH (c::ax) n dz f be) ns)
  (N:=pO aH (c::ax) n dz f be cj cC) (z:=z) (e:=.bZ (.cy (.J 0) 15) 23 [(.Z (.J 1) (.X 0))])
  (ff (eu (dR (av y) ao.fw.c y (P.m y)) ao.fw.bz.du.eA y (P.m y) (aU (fo (av y) cE .Y (jx y y)) bc) E) (gD br)) (λa a a j=>j λa h a=>h) (zB.mk y br ((eF bN).symm▸Q)) (λpre x r N aV q j k=>j λ{C U} e v Z=>?_) λbY O w j=>j λe a Z=>?_
 ·obtain rfl:=e;have I:=ao.fw.bz.kf ((Y.1.2 x).mp (kC q));refine Z.X (G:=G+5) (ax:=c::ax) (n:=n) (cC:=U) P t I.1 I.2 (R x (kC q)).1 (R x (kC q)).2 (aq ?_ H) u λcD cx W s l=>?_
  ·rw[cp,jn];exact gE (uk (F:=λx=>ti x dC (hj x)) q) _
  ·refine k _ cD W (zB.mk y (l.get _ _ (⟨λe=>aG (fA ao.f) (fP.mpr (e▸dv)),(Q.fw.kS br).2⟩) v) ?_);rw[show ng dC hj (pre++[x])=ng dC hj pre++ti x dC (hj x)from ul,←ha];exact s
 ·obtain rfl:=e;exact d O _ _ w Z
noncomputable def Li:List S:=[.ea 5 (.bZ (.J 0) 25 [(.eb (.J 1) (.X 1) .bM),(.cb .Sub (.J 2) (.J 4))]),.fc (.bH .NotEq (.J 5) (.W [])) [.eP (.W 6) .bE (.bZ (.cy (.J 0) 15) 23 [(.Z (.J 1) (.X 0))]) FA] []]
noncomputable def we(aH:Nat)(ax:List Nat)(n dz:Nat)(bO bt cj cC:Option V):bk:=[A (.J aH),A (.Y (ax.map am)),A (am n),A (.J dz),bO,bt,cj,cC]
theorem D?{l:List bl}:ng [] hj l=[]:=Hb.mpr λx z=>Hb.mpr λz z=>y
theorem xr.first(P:cq B)(ao:xr aQ aH aP aO aa L aL dz bN z)(U:1<=f/\f<=n)(X:c<D aa/\L c=c)(R:∀x∈dI aa L c,(∀ai∈hj x,D ai=dN x.1)/\Aq B aQ aH aP aO aa L (G+5) (f-1) x.2 (hj x))
  {bg:List (List T)}(j:Aq B aQ aH aP aO aa L (G+5) (n-f) ax bg)(w:D bg<=1000/\∀dZ∈bg,D dZ<=10/\eS dZ<=90)(u:D bN+(ng bg hj (dI aa L c)).length<=1000)(t:(c::ax).length<=1000)(d:∀O C Z g,gb B (G+5) Li (we aH (c::ax) n dz (A (am f)) bt cj cC) z .X (we aH (c::ax) n dz (A (am f)) C Z g) O->xr aQ aH aP aO aa L aL dz (bN++ng bg hj (dI aa L c)) O->False):False:=by
 refine j z ao.fw λah p F q aY br dv=>?_;have I:=fX (i:=5) (eu (nm:=25) (av (B:=B) (n:=G+5) (i:=0) (N:=we aH (c::ax) n dz (A (am f)) bt cj cC) (z:=z) y) ao.fw.c y (P.m y) (aU (lG (k:=1) (av (i:=1) y) (aF y) (gu (aq t (aF y)))) (aU (en (av (i:=2) y) (av (i:=4) y) (kp U.2)) bc)) F);have Y:=aY.get _ _ (ao.fw.kS ao.f).2 ao.f;have Q:aM (·≠aP) aL (ah++[.W []]):=(ao.k.trans aY).dS;have r:=hz (ft:=.NotEq) (av (B:=B) (n:=G+5) (i:=5) (N:=pO aH (c::ax) n dz f p cj cC) (z:=ah) y) (gB bc (cW _)) (vc (eQ br) dt (jS λH l=>(bJ.mp l).elim λdZ h=>h.2▸abJ (w.2 dZ h.1).2) y);cases bg with
 |nil=>rw[show V.kx ((([]:List (List T))).map hW) []=ak from V.ub]at r;rw[D?,eF]at d;exact d _ _ _ _ (bv I (bv (hQ r) eW)) ⟨q.k .cS,Q,ao.mY,ao.qz,eQ Y⟩
 |cons b bg=>
  rw[show V.kx ((b::bg).map hW) []=aW from Ga.mpr λh=>ju _ _ (V.vF.mp h)]at r;have E:jQ aQ aH aP aO aa L aL dz p (b::bg) bN (ah++[.W []]):=⟨q.k .cS,Q,ao.mY,ao.qz,eQ Y,eQ br,λe=>aG (fA ao.f) (fP.mpr (e▸dv)),w.1⟩
  exact E.E? (cj:=cj) (cC:=cC) (n:=n) P U.1 X R u (λdZ s=>(w.2 dZ s).1) λcD C Z W a=>d cD _ C Z (bv I (bv (ku r (bv W eW)) eW)) a.abz
theorem Jv(Q:eh g){n:Nat}(J:n<=4){ax:List Nat}{M:List (List T)}(h:gC g ax n M):D M<=625:=nS h▸Kx Q J
theorem vP{bw gq:Type}{l:List bw}{f g:bw->List gq}(h:∀x,f x=g x):l.flatMap f=l.flatMap g:=(funext h)▸y
theorem Br(Z:eh (cs aa L)):vb aa L c (dI aa L c):=by
 have h:∃r,vb aa L c r:=(Z.fin c).elim λr q=>
  have H:=wN r λx Q=>V.le (cU x) (cU Q)
  ⟨_,⟨H.symm.nodup q.1,λx=>H.mem_iff.trans (q.2 x)⟩,CT (le:=λx Q=>V.le (cU x) (cU Q)) (λz z z=>V.Eu) (λz z=>V.Et _ _) r⟩
 unfold dI;rw[dif_pos h];exact h.choose_spec
noncomputable def Ua(aH:Nat)(ax:List Nat)(n:Nat):bk:=[A (.J aH),A (.Y (ax.map am)),A (am n),aj,aj,aj,aj,aj]
def xs(B:bT)(aQ aH aP aO:Nat)(aa:List bl)(L:Nat->Nat)(G n:Nat)(ax:List Nat)(M:List (List T)):Prop:=gC (cs aa L) ax n M/\Aq B aQ aH aP aO aa L G n ax M
theorem ek.aaQ(P:cq B)(Q:eh (cs aa L))(Z:n<=4)(X:c<D aa/\L c=c)(v:(c::ax).length<=1000)(U:D ax<n){bg:Nat->List (List T)}{hj:Nat->bl->List (List T)}(u:∀f,1<=f->f<=n->xs B aQ aH aP aO aa L (G+5) (n-f) ax (bg f))(t:∀f x,1<=f->f<=n->x∈dI aa L c->xs B aQ aH aP aO aa L (G+5) (f-1) x.2 (hj f x))(s:gC (cs aa L) (c::ax) n ((mZ (D ax) n).flatMap λf=>ng (bg f) (hj f) (dI aa L c)))(az:ek aQ aH aP aO aa L z)(d:∀O bO bt cj cC,eM B (G+5) (.eP (.W 4) .bE (.bR "range" [(.X 1),(.cb .Add (.cb .Sub (.J 2) (.bR "len" [(.J 1)])) (.X 2))]) Li) (we aH (c::ax) n (D z) aj aj aj aj) (z++[.W []]) .X (we aH (c::ax) n (D z) bO bt cj cC) O->xr aQ aH aP aO aa L z (D z) ((mZ (D ax) n).flatMap λf=>ng (bg f) (hj f) (dI aa L c)) O->False):False:=by
 have E:n-((c::ax).map am).length+2=n-D ax+1:=by
  rw[bK,iz,Nk];exact bA (·+1) (Nl (Xj U))
 have H:=en (ft:=.Add) (en (ft:=.Sub) (av (B:=B) (n:=G+5) (i:=2) (N:=we aH (c::ax) n (D z) aj aj aj aj) (z:=z++[.W []]) y) (uN (av (i:=1) y) (gu (aq v (aF y)))) (kp (pG U))) (cE (i:=2)) (sE (j:=2));rw[E]at H;refine ox (B:=B) (n:=G+5) (i:=4) (b:=Li) (g:=am) (aS:=mZ (D ax) n) (ao:=λpre N O=>(∃bO bt cj cC,N=we aH (c::ax) n (D z) bO bt cj cC)/\xr aQ aH aP aO aa L z (D z) (pre.flatMap λf=>ng (bg f) (hj f) (dI aa L c)) O)
  (xu H (er (aq (mP _ _) Z) (aF y))) (λa a a a=>trivial) ⟨⟨_,_,_,_,y⟩,az.k .cS,.cS,cu _,az.lt.2.2,dt⟩ (λpre f r N aV q j k=>?_) λbY O w j=>j.1.elim λbO h=>h.elim λbt h=>h.elim λcj h=>h.elim λcC h=>?_
 ·refine j.1.elim λbO h=>h.elim λbt h=>h.elim λcj h=>h.elim λcC h=>?_;obtain rfl:=h;have Y:=pH.mp (kC q);have W:=aq (dP _ _) Y.2;have b:=u f Y.1 W;exact j.2.first (G:=G) (ax:=ax) (n:=n) (hj:=hj f) (bt:=bt) (cj:=cj) (cC:=cC) P ⟨Y.1,W⟩ X (λx I=>have q:=t f x Y.1 W I;⟨λai l=>((q.1.2 ai).mp l).1.J▸(Q.kf c x (((Br Q).1.2 x).mp I)).2,q.2⟩) b.2
   ⟨aq (Jv Q (aq (mP _ _) Z) b.1) (aF y),λdZ p=>have q:=(b.1.2 dZ).mp p;⟨q.1.J▸aq (dK U) (aq Z (aF y)),q.2▸aq (mP _ _) (aq Z (aF y))⟩⟩ (aq (uk (F:=λf=>ng (bg f) (hj f) (dI aa L c)) q) (aq (Jv Q Z s) (aF y))) v
   λcD C R e A0 A1=>k _ cD A0 ⟨⟨_,C,R,e,y⟩,(show _=_ from ul (F:=λf=>ng (bg f) (hj f) (dI aa L c)))▸A1⟩
 ·obtain rfl:=h;exact d O bO bt cj cC w j.2
theorem ek.aaP(P:cq B)(Y:eh (cs aa L))(A8:∀c x,cs aa L c x->mq aa L x.2)(n:Nat):n<=4->∀ax,mq aa L ax->D ax<=1000->∃M,xs B aQ aH aP aO aa L (n+8) n ax M:=by
 refine tT n λn A7 J ax l v=>?_;have s:∀z,ek aQ aH aP aO aa L z->∀{b:Bool},dV (cA (cs aa L) ax n=0)=b->(∀O,eB B (n+7) (.bH .Eq (.bZ (.J 0) 21 [(.J 1),(.J 2)]) (.X 0)) (Ua aH ax n) z b O->ek aQ aH aP aO aa L O->aM (·≠aP) z O->False)->False:=λz az b e k=>
  ek.Fi P Y n J ax z l v az λO t=>k O (e▸hz (eu (av y) az.c y (P.m y) (aU (av y) (aU (av y) bc)) t) (cE (i:=0)) (zF (j:=0)))
 have A5:∀z,bW B (n+7) (.bR "len" [.J 1]) (Ua aH ax n) z (am (D ax)) z:=λz=>
  bK (f:=am) (as:=ax)▸uN (av (i:=1) y) (gu (aq v (aF y)))
 by_cases aR:cA (cs aa L) ax n=0
 ·refine(vN Y n ax).elim λM A1=>⟨M,A1,λz az d=>s z az (decide_eq_true aR) λah t X Z=>?_⟩
  rw[nS A1]at aR;rw[ko aR]at d;exact d _ _ (ep (P.b y) y (lE (ku t (fy (gB bc (cW _)))) nj) (.inl y)) (X.k .cS) Z.dS dt Z.le
 ·cases ax with
  |nil=>have:n=0:=WX λh=>aR (SB h);subst this;exact⟨[[]],Ed,λz az d=>s z az (decide_eq_false aR) λah t X Z=>d _ _ (ep (P.b y) y (bv (hQ t) (lE (ku (vy (A5 ah) (cE (i:=0)) y) (fy (gB (aU (eL bc (cW _)) bc) hL))) nj)) (.inl y)) (X.k .cS) Z.dS dt Z.le⟩
  |cons c ax=>
   have A6:=(Br (c:=c) Y).1;have A4:∀G W,G<n->mq aa L W->D W<=1000->∃M,xs B aQ aH aP aO aa L (n+7) G W M:=λG W H ab ac=>(A7 G H (aq (dK H) J) W ab ac).imp λM q=>⟨q.1,λz az k=>q.2 z az λO p B0=>k O p (B0.mono (iO H 7))⟩
   refine(mJ (r:=λf M=>1<=f->f<=n->xs B aQ aH aP aO aa L (n+7) (n-f) ax M) λf=>(oR (1<=f/\f<=n)).elim (λh=>(A4 (n-f) ax (Hq (aq h.1 h.2) h.1) (λx F=>l x (.tail _ F)) (jo v)).imp λa q a a=>q) λh=>⟨[],λq A9=>aG ⟨q,A9⟩ h⟩).elim λbg A0=>(mJ (r:=λ(Q:Nat×bl) M=>1<=Q.1->Q.1<=n->Q.2∈dI aa L c->xs B aQ aH aP aO aa L (n+7) (Q.1-1) Q.2.2 M) λQ=>(oR ((1<=Q.1/\Q.1<=n)/\Q.2∈dI aa L c)).elim (λh=>?_) λh=>⟨[],λN E u=>aG ⟨⟨N,E⟩,u⟩ h⟩).elim λhj A2=>?_
   ·have o:=(A6.2 Q.2).mp h.2;exact(A4 (Q.1-1) Q.2.2 (ef (Hq h.1.1 Nat.one_pos) h.1.2) (A8 c _ o) ((Y.kf c _ o).2▸aq (kv _) (aF y))).imp λa q a a a=>q
   have A3:gC (cs aa L) (c::ax) n ((mZ (D ax) n).flatMap λf=>ng (bg f) (λx=>hj (f,x)) (dI aa L c)):=by
    have:=Ec (g:=cs aa L) (c:=c) (ax:=ax) (n:=n) (R:=λf=>(dI aa L c).flatMap λx=>(hj (f,x)).map λai=>[gZ x.1 ai]) (bg:=bg) (λf U=>?_) λf U=>(A0 f (pH.mp U).1 (aq (dP _ _) (pH.mp U).2)).1
    ·refine(bA (gC _ _ _) (vP λf=>?_)).mp this;exact(List.flatMap_assoc ..).trans (vP λx=>wI ..)
    ·have I:=pH.mp U;cases f with
     |zero=>exact aG I.1 (qb 0)
     |succ f=>exact Ee Y A6 λx F=>(A2 (f+1,x) I.1 (aq (dP _ _) I.2) F).1
   exact⟨_,A3,λz az d=>s z az (decide_eq_false aR) λah t X Z=>X.aaQ (G:=n+2) P Y J (l c (.head _)) v (tR λh=>aR (SD (pe h))) A0 (λf x N E u=>A2 (f,x) N E u) A3 λO bO bt cj cC w bq=>d O (D ah) (ep (P.b y) y (bv (hQ t) (bv (hQ (vx (A5 ah) (cE (i:=0)) (iP _))) (bv (fX (gB bc (cW _))) (bv w (fy (av y)))))) (.inl y)) bq.fw (Z.trans bq.k) bq.f Z.le⟩
end
section
variable{i:Nat}
noncomputable def T.eR:T->List T
|.l k=>[.l k]
|.u k t=>.u k t::t.eR
|.b t s=>.b t s::(t.eR++s.eR)
theorem T.BO(t:T):t.eR=t::t.X.flatMap T.eR:=by cases t with
 |l=>rfl
 |u _ t=>exact bA _ (eF _).symm
 |b t s=>exact bA (λl=>T.b t s::(t.eR++l)) (eF _).symm
theorem T.Uc(t:T):t.eR.map T.op=t.Y:=by induction t with
 |l=>rfl
 |u k t F=>exact bA (_::·) F
 |b t s ab ac=>exact bA (_::·) (eI.trans (by rw[ab,ac]))
theorem Lk(ai:List T):(ai.flatMap T.eR).map T.op=cV ai:=(uU ..).trans (vP T.Uc)
noncomputable def hV(C:Nat)(ai:List T):V:=.Y (ce C::ai.map T.J)
theorem T.tv(t:T):t.J=hV t.op t.X:=t.lC
noncomputable def EU(q:List V×V):V:=.Y [.Y q.1,q.2]
def ve(B:bT)(G:Nat)(C:Nat)(ai:List T):Prop:=∀z,(∀(O:aA) (p:Nat) (aK:List (List V×V)),dU B G 1 [hV C ai] z (.J p) O->aM cI z O->O[p]?=A (.W (aK.map EU))->aK.map (·.2)=hV C ai::(ai.flatMap T.eR).map T.J->(∀q∈aK,q.1.length<=eS ai)->False)->False
theorem FE(ai:List T):(ai.flatMap T.eR).length=eS ai:=by show _=(cV ai).length;rw[←Lk,bK]
theorem hg{k:Nat}(h:k<=10000):k<=cZ:=aq h (aF y)
theorem xX{k:Nat}(h:k<=2000001):k<=cZ:=aq h (aF y)
theorem SY{aK:List (List V×V)}(h:aK.map (·.2)=hV C ai::(ai.flatMap T.eR).map T.J):D aK=eS ai+1:=by have:=bA D h;rw[bK,iz,bK,FE]at this;exact this
def zO(C:Nat)(ai:List T)(aL:aA)(pre:List (T×Nat))(N:bk)(z:aA):Prop:=∀{P:Prop},(∀{cx cF:Option V} {aK:List (List V×V)},N=[A (hV C ai),A (.J (D aL)),cx,cF]->aM cI aL z->z[D aL]?=A (.W (aK.map EU))->aK.map (·.2)=hV C ai::(pre.flatMap λx=>x.1.eR).map T.J->(∀q∈aK,q.1.length<=eS ai)->P)->P
theorem zO.mk{pre:List (T×Nat)}{N:bk}{z:aA}{aK:List (List V×V)}(h:N=[A (hV C ai),A (.J (D aL)),cx,cF])(Z:aM cI aL z)(Y:z[D aL]?=A (.W (aK.map EU)))(J:aK.map (·.2)=hV C ai::(pre.flatMap λx=>x.1.eR).map T.J)(X:(∀q∈aK,q.1.length<=eS ai)):zO C ai aL pre N z:=λe=>e h Z Y J X
theorem SX(P:cq B)(v:eS ai<=2000000)(A3:∀s∈ai,ve B G s.op s.X):ve B (G+1) C ai:=λz A4=>by
 have de:(ai.zipIdx.flatMap λx=>x.1.eR)=ai.flatMap T.eR:=by
  have:=wI zM T.eR ai.zipIdx;rw[List.zipIdx_map_fst]at this;exact this.symm
 have H:hY B G .vM (.eb (.J 0) (.X 1) .bM) [A (hV C ai),A (.J (D z)),aj,aj] (z++[.W [.Y [.Y [],hV C ai]]]) (xK (ai.map T.J)) (λa=>True) (z++[.W [.Y [.Y [],hV C ai]]]):=ZK (lG (k:=1) (l:=ce C::ai.map T.J) (av y) (aF y) (by rw[iz,bK];exact xX (dn (aq (BQ ai) v)))) Wf;unfold xK at H;rw[List.zipIdx_map,ed]at H;refine AA (B:=B) (n:=G) (cQ:=.Y [2,3]) (aS:=ai.zipIdx) (g:=λx=>V.Y [.X x.2,x.1.J]) (b:=[.fY (.eO (.J 1) "extend" [(.dy (.Y [0,1]) .bE (.fg 1 [(.J 3)]) [] (.di (.Y [(.cb .Add (.Y [(.J 2)]) (.J 0)),(.J 1)])) [aj,aj,A 2])])]) (ao:=zO C ai z) H (λa a a a=>trivial)
  (zO.mk (aK:=[([],hV C ai)]) y .cS dt y λq Z=>cB.mp Z▸cW _) (λpre x r N aV q j k=>j λ{cx cF aK} e U X bq W=>?_) λbY O w j=>j λ{cx cF aK} e U X bq W=>?_
 ·obtain rfl:=e;have c:x.1∈ai:=(List.mem_zipIdx' (kC q)).2▸pV _;have M:=oL c;refine A3 x.1 c aV λcD p Y t i E L u=>?_;have Q:D Y=x.1.size:=(SY L).trans x.1.size_eq.symm;have Z:∀q∈Y,q.1.length+1<=eS ai:=λq Z=>aq (dn (u q Z)) (aq (fi x.1.size_eq.symm) M);have A1:D aK+D Y<=2000001:=by
   have ab:=bA D bq;have ac:=uk (F:=λx:T×Nat=>x.1.eR) q;rw[de,FE,←bK (as:=x.1.eR) T.op,x.1.Uc]at ac;rw[bK,iz,bK]at ab;exact ab▸Q▸(jZ ..)▸dn (aq ac v)
  refine Gh (B:=B) (n:=G) (N:=[A (hV C ai),A (.J (D z)),A (am x.2),A x.1.J]) (z:=aV) (k:=.bE) (dc:=[aj,aj,A 2]) (ax:=[A (am x.2)]) (aS:=Y) (cL:=λq=>.Y q.1) (dw:=(·.2)) (f:=λq=>EU (am x.2::q.1,q.2)) (e:=.fg 1 [(.J 3)]) (bP:=.Y [(.cb .Add (.Y [(.J 2)]) (.J 0)),(.J 1)]) y
   (ff (jK (aU (av y) bc) (x.1.tv▸t)) (gD E)) (Q▸xX (lg (aq M v))) (λa k=>k.at E) (λq A2 z a k=>k z (eL (aU (en (eL (aU (av y) bc) hL) (av y) (oj (l:=[am x.2]) (G:=q.1) (hN _ 1▸xX (lg (aq (Z q A2) v))))) (aU (av y) bc)) hq) .dd) λA6 d R A0=>?_
  have I:=R.at (i.at X);refine k _ _ _ (.Y (is:=[2,3]) .Y y) (bv (jR (iL (av y) (.AZ X) (aU d.ev bc) (Cn I (.W A0) (by rw[bK,bK];exact xX A1)))) eW) (zO.mk (aK:=aK++Y.map λq=>(am x.2::q.1,q.2)) y ((U.trans (i.trans R)).set (cu _)) ?_ ?_ λq h=>(ew.mp h).elim (W q) λh=>(bJ.mp h).elim λA5 h=>h.2▸Z A5 h.1)
  ·rw[gR I,eI,ed];rfl
  ·rw[eI,ed,bq,ul,eI,x.1.BO,jv,x.1.tv,←L];rfl
 ·obtain rfl:=e;rw[de]at bq;exact A4 O (D z) aK (ep (P.b y) y (bv (fX (gB (aU (eL (aU (eL bc (cW _)) (aU (av y) bc)) hq) bc) hL)) (bv w (fy (av y)))) (.inl y)) U X bq W
theorem ve.mono{k:Nat}(h:ve B G C ai)(X:G<=k):ve B k C ai:=λz d=>h z λO p aK c=>d O p aK (c.mono X)
theorem T.parts(P:cq B)(t:T):t.size<=2000000->ve B (t.co+1) t.op t.X:=by refine T.nc (P:=λt=>t.size<=2000000->ve B (t.co+1) t.op t.X) (λt F h=>?_) t;rw[t.size_eq]at h;exact SX P (jo h) λs Z=>(F s Z (aq (oL Z) (jo h))).mono (T.rO Z)
noncomputable def nO(C:Nat)(ai:List T):V:=.Y [am (eS ai+1),.Y ((C::cV ai).map ce),.Y ((D ai::(cV ai).map dN).map am)]
noncomputable def BC(x:Nat×List T):V:=hV x.1 x.2
theorem RI(P:cq B)(Y:eS ai<=2000000)(J:∀s∈ai,s.co+1<=G)(A0:∀O,dU B (G+2) 2 [hV C ai] z (nO C ai) O->aM cI z O->False):False:=by
 refine SX (C:=C) P Y (λs U=>(s.parts P (aq (oL U) Y)).mono (J s U)) z λah p aK F aY br u A2=>?_;have r:eS ai+1<=cZ:=xX (dn Y);have Q:hV C ai::(ai.flatMap T.eR).map T.J=((C,ai)::(ai.flatMap T.eR).map λt=>(t.op,t.X)).map BC:=by
  rw[jv,ed];exact bA _ (lb λt a=>t.tv)
 have w:=SY u;rw[Q]at u;have W:((C,ai)::(ai.flatMap T.eR).map λt=>(t.op,t.X)).map (λx=>ce x.1)=(C::cV ai).map ce:=by
  rw[jv,jv,ed,←Lk,ed];rfl
 have bq:((C,ai)::(ai.flatMap T.eR).map λt=>(t.op,t.X)).map (λx=>am x.2.length)=(D ai::(cV ai).map dN).map am:=by
  rw[jv,jv,ed,←Lk,ed,ed];exact bA _ (lb λt a=>bA am t.lu)
 have bX:∀x∈(C,ai)::(ai.flatMap T.eR).map λt=>(t.op,t.X),x.2.length<=2000000:=qW.mpr ⟨aq (BQ ai) Y,λx d=>(bJ.mp d).elim λt h=>h.2▸aq (t.lu▸kv _) (aF y)⟩;have Z:((C,ai)::(ai.flatMap T.eR).map λt=>(t.op,t.X)).length=eS ai+1:=by rw[iz,bK,FE]
 generalize(C,ai)::(ai.flatMap T.eR).map (λt=>(t.op,t.X))=l at u W bq bX Z;refine Gh (B:=B) (n:=G+1) (N:=[A (hV C ai),aj]) (z:=z) (k:=.bE) (dc:=[aj,aj]) (ax:=[]) (aS:=aK) (cL:=λq=>.Y q.1) (dw:=(·.2)) (f:=(·.2)) (e:=.fg 1 [(.J 0)]) (bP:=.J 1) y
  (ff (jK (aU (av y) bc) F) (gD br)) (w▸r) (λa k=>k.at br) (λq a z a k=>k z (av y) .dd) λaV R b M=>?_
 rw[u]at M;refine oe (B:=B) (n:=G+1) (N:=[A (hV C ai),A (.J (D ah))]) (z:=aV) (k:=.bE) (dc:=[aj]) (ax:=[]) (aS:=l) (g:=BC) (f:=λx=>ce x.1) (e:=.J 1) (bP:=.Z (.J 0) (.X 0)) y
  (ff (av y) (gD M)) (Z▸r) (λa k=>k.at M) (λq a z a k=>k z (fo (av y) cE .Y (jx y y)) .dd) λcD I L c=>?_
 refine oe (B:=B) (n:=G+1) (N:=[A (hV C ai),A (.J (D ah))]) (z:=cD) (k:=.bE) (dc:=[aj]) (ax:=[]) (aS:=l) (g:=BC) (f:=λx=>am x.2.length) (e:=.J 1) (bP:=.cb .Sub (.bR "len" [(.J 0)]) (.X 1)) y
  (ff (av y) (gD (L.at M))) (Z▸r) (λa k=>k.at (L.at M)) (λq Z z a k=>k z ?_ .dd) λA1 cL dw E=>?_
 ·have ab:=uN (B:=B) (n:=G+1) (av (i:=0) (N:=[A (BC q)]) (z:=z) (H:=BC q) y) (by rw[iz,bK];exact xX (dn (bX q Z)));rw[iz,bK]at ab;exact en ab cE (kp (j:=1) (gF _ _))
 have X:∀{f:Nat×List T->V},(l.map f).length=eS ai+1:=λ{f}=>(bK f).trans Z;refine A0 A1 (ep (P.b y) y (bv R.xy (fy (eL (aU (km (av y) M (X▸r)) (aU (gV rv (aU I.ev bc) (sh c (X▸r))) (aU (gV rv (aU cL.ev bc) (sh E (X▸r))) bc))) xW))) (.inl ?_)) (aY.trans (b.trans (L.trans dw)));unfold nO;rw[X,W,bq]
end
section
noncomputable def T.key(t:T):V:=nO t.op t.X
noncomputable def T.le(t s:T):Bool:=V.le t.key s.key
theorem T.Bh(t:T):t.key=.Y [am t.size,.Y (t.Y.map ce),.Y ((t.Y.map dN).map am)]:=by unfold T.key nO;rw[t.lu,t.size_eq,t.mC];rfl
theorem z5{a:List Nat}:∀{b:List Nat},(∀x∈a,x<5)->(∀x∈b,x<5)->a.map ce=b.map ce->a=b:=by
 induction a with
 |nil=>exactλc c h=>(zo.mp h.symm).symm
 |cons x a F=>
  intro b ab ac h;cases b with
  |nil=>exact aG h (ju _ _)
  |cons Q b=>have e:=fH h;rw[tj (ab x (.head _)) (ac Q (.head _)) e.1,F (λba j=>ab ba (.tail _ j)) (λba j=>ac ba (.tail _ j)) e.2]
theorem T.JT{t s:T}(h:t.key=s.key):t=s:=by rw[t.Bh,s.Bh]at h;exact T.ug (z5 t.yk s.yk (V.Y.inj (fH (fH (V.Y.inj h)).2).1))
theorem KP{G:Nat}(l:List Nat):V.fu G (l.map ce)=ak:=jS λH Z=>(bJ.mp Z).elim λi h=>h.2▸by obtain⟨⟩:=G<;>rfl
theorem s5{G:Nat}(l:List Nat):V.iF G (l.map ce)=ak:=by
 induction l with
 |nil=>obtain⟨⟩:=G<;>rfl
 |cons x l F=>
  cases G with
  |zero=>exact F
  |succ G=>exact F
theorem KO{G:Nat}(C:Nat)(ai:List T):V.gh (G+2) (nO C ai)=ak:=by show(ak&&(V.fu G ((C::cV ai).map ce)&&(V.fu G ((D ai::(cV ai).map dN).map am)&&ak)))=ak;rw[KP,KN];rfl
theorem s4{G:Nat}(C:Nat)(ai:List T):V.hm (G+2) (nO C ai)=ak:=by show(ak&&(V.iF G ((C::cV ai).map ce)&&(V.iF G ((D ai::(cV ai).map dN).map am)&&ak)))=ak;rw[s5,JK];rfl
theorem I_:∀a b:List Nat,V.wb (a.map ce) (b.map ce)
|[],_=>trivial
|_::_,[]=>trivial
|x::a,Q::b=>⟨λz=>I_ a b,λz=>⟨_,y⟩⟩
theorem KC(C:Nat)(ai:List T)(Z:Nat)(t:List T):V.ok (nO C ai) (nO Z t):=⟨_,y,λx=>⟨λx=>⟨λx=>trivial,λx=>⟨_,y,KB _ _⟩⟩,λx=>⟨_,y,I_ _ _⟩⟩,λx=>⟨_,y⟩⟩
noncomputable def nq(l:List T):List T:=l.mergeSort T.le
theorem wj(l:List T):(nq l).Perm l:=wN _ _
theorem Lv(l:List T):(nq l).Pairwise λx Q=>T.le x Q=ak:=CT (le:=T.le) (λz z z=>V.Eu) (λz z=>V.Et _ _) l
theorem T.x1{t s:T}(ab:T.le t s=ak)(ac:T.le s t=ak):t=s:=T.JT (Bj (n:=2) (KO _ _) ab ac)
theorem aaN{l r:List T}(Z:l.Pairwise λx Q=>T.le x Q=ak)(I:r.Pairwise λx Q=>T.le x Q=ak)(p:l.Perm r):l=r:=GR (λz z z z=>T.x1) Z I p
theorem gO.JU(l:List T):gO 3 1 (l.map T.key)where
 rX:=by decide
 sd:=by decide
 kind k X:=(bJ.mp X).elim λi h=>h.2▸y
 head _ k X:=(bJ.mp X).elim λi h=>h.2▸⟨_,_,y,y⟩
 hF:=jS λH Z=>(bJ.mp Z).elim λi h=>h.2▸KO _ _
 ok a aE b al:=(bJ.mp aE).elim λi h=>(bJ.mp al).elim λj q=>h.2▸q.2▸KC ..
theorem l0(J:l.Nodup)(Z:V.fu 100 l=ak):Gx l:=.inl λi j aB M ab ac=>by
 have e:∀{i},i<D l->l[i]?=A (l.getD i .bM):=λaB=>by rw[la,fO aB];rfl
 exact uw J (e aB) ((e M).trans (bA A (Bj (n:=100) (nV Z (io (e aB))) ab ac).symm))
theorem TV{l:List T}(J:l.Nodup)(X:D l<64):nH (l.map T.key) (l.map T.J) ((nq l).map λt=>(t.key,t.J)):=by
 have j:(l.map T.key).zip (l.map T.J)=l.map λt=>(t.key,t.J):=by rw[MZ,]
 exact⟨(bK ..).trans (bK ..).symm,j▸(wj l).map _,oZ.mpr (Lv l),λx Z Q Y e=>by
  rw[j]at Z Y;obtain⟨t,_,rfl⟩:=bJ.mp Z;obtain⟨s,_,rfl⟩:=bJ.mp Y;rw[T.JT e],l0 (iV J λz z z z=>T.JT) (gO.JU l).hF,pG X,(gO.JU l).hF⟩
variable{aa:List bl}
theorem v6(P:cq B){b:Nat}(al:D aL<=b):∀(ai:List T) (l:List V) (z:aA),(∀t∈ai,t.size<=2000000/\t.co+2<=n)->D l+D ai<=cZ->aM cI aL z->z[b]?=A (.W l)->(∀O,ze B n 2 b O (ai.map T.J) z->aM cI aL O->O[b]?=A (.W (l++ai.map T.key))->False)->False:=λai=>by
 induction ai with
 |nil=>exactλl z x x k h d=>d z y k ((eF l).symm▸h)
 |cons t ai F=>
  intro l z Z Y k h d;have X:=(Z t (.head _)).1;rw[t.size_eq]at X;refine RI (z:=z) (C:=t.op) (ai:=t.X) (G:=t.co) P (jo X) (λs Z=>T.rO Z) λah W aY=>?_;have ab:=aY.at h;exact F (l++[t.key]) (ah.set b (.W (l++[t.key]))) (λt U=>Z t (.tail _ U)) (by rw[cp,zl,jn,hN 1];exact Y) ((k.trans aY).set al) (gR ab) λO R Q w=>
   d O (.mk (t.tv▸W.mono (Z t (.head _)).2) ab (aq (dP _ _) Y) R) Q ((ha l [t.key] (ai.map T.key))▸w)
theorem xS{n:Nat}:(∀H∈l,V.hm n H=ak)->V.iF n l=ak:=by
 induction l with
 |nil=>intro _;obtain⟨⟩:=n<;>rfl
 |cons x l F=>intro h;have q:=wr.mpr ⟨h x (.head _),F λH Z=>h H (.tail _ Z)⟩;obtain⟨⟩:=n<;>exact q
theorem VC(P:cq B)(U:bW B n e N z (.J a) ah)(aE:ah[a]?=A (.W (ai.map T.J)))(J:ai.Nodup)(Z:D ai<64)(X:∀t∈ai,t.size<=2000000/\t.co+2<=n)(d:∀O p,bW B n (.uA e 2) N z (.J p) O->aM cI ah O->O[p]?=A (.W ((nq ai).map T.J))->D ah<=p->False):False:=by refine v6 (n:=n) (aL:=ah) (b:=D ah) P (cu _) ai [] (ah++[.W []]) X (by rw[He,hu];exact hg (aq (dK Z) (aF y))) .cS dt λaV R Y w=>?_;have:=Mg U aE R w (.hF (gO.JU ai) (xS λH W=>(bJ.mp W).elim λt h=>h.2▸s4 _ _)) (TV J Z);rw[ed]at this;exact d _ _ this (Y.set (cu _)).dS ((iN (fi lJ)).trans (by rw[lJ,kb];rfl)) Y.le
noncomputable def vw:List T:=[.l aW,.l ak]
noncomputable def Ar:List T:=vw.flatMap λt=>[.u aW t,.u ak t]
noncomputable def Iv:List T:=(Ar.flatMap λt=>[.u aW t,.u ak t])++vw.flatMap λt=>vw.map (.b t)
noncomputable def Pm:List T:=(Iv.flatMap λt=>[.u aW t,.u ak t])++((vw.flatMap λt=>Ar.map (.b t))++Ar.flatMap λt=>vw.map (.b t))
theorem T.afc:(T.l k).size=1:=y
theorem yy{t:T}:eS [t]=t.size:=ob (ai:=[])
theorem T.BK:(T.u k t).size=t.size+1:=(T.size_eq _).trans (bA (·+1) yy)
theorem T.BJ:(T.b t s).size=t.size+s.size+1:=(T.size_eq ..).trans (bA (·+1) (ob.trans (bA (t.size+·) (yy (t:=s)))))
theorem IY(k:Bool)(t:T):T.u k t∈[T.u aW t,T.u ak t]:=by obtain⟨⟩:=k;exact .head _;exact .tail _ (.head _)
theorem Km{a b c:Nat}(al:0<b)(h:a+b=c):a<c:=Ho (pZ al) h
theorem abT{a b:Nat}(aE:0<a)(al:0<b)(h:a+b=2):a=1/\b=1:=⟨mh (hl (Km al h)) aE,mh (hl (Km aE ((hN b a).trans h))) al⟩
theorem abu{a b:Nat}(aE:0<a)(al:0<b)(h:a+b=3):(a=1/\b=2)\/(a=2/\b=1):=by
 refine(tS (hl (Km al h))).elim (λq=>?_) λp=>?_
 ·obtain rfl:=mh (hl q) aE;exact .inl ⟨y,CY h⟩
 ·obtain rfl:=p;exact .inr ⟨y,CY h⟩
theorem xZ{t:T}(h:t.size=1):t∈vw:=by cases t with
 |l k=>obtain⟨⟩:=k;exact .head _;exact .tail _ (.head _)
 |u k t=>rw[T.BK]at h;exact aG t.nk (fP.mpr (fi (ip h)))
 |b t s=>rw[T.BJ]at h;exact aG t.nk (fP.mpr (aq (dP _ _) (fi (ip h))))
theorem EA{t:T}(h:t.size=2):t∈Ar:=by cases t with
 |l k=>cases h
 |u k t=>rw[T.BK]at h;exact gc.mpr ⟨t,xZ (ip h),IY k t⟩
 |b t s=>rw[T.BJ]at h;exact aG (ia t.nk s.nk) (ip h▸by decide)
theorem Sd{t:T}(h:t.size=3):t∈Iv:=by cases t with
 |l k=>cases h
 |u k t=>rw[T.BK]at h;exact iZ _ (gc.mpr ⟨t,EA (ip h),IY k t⟩)
 |b t s=>rw[T.BJ]at h;have q:=abT t.nk s.nk (ip h);exact jl _ (gc.mpr ⟨t,xZ q.1,gd (xZ q.2)⟩)
theorem A_{t:T}(h:t.size=4):t∈Pm:=by cases t with
 |l k=>cases h
 |u k t=>rw[T.BK]at h;exact iZ _ (gc.mpr ⟨t,Sd (ip h),IY k t⟩)
 |b t s=>rw[T.BJ]at h;exact jl _ ((abu t.nk s.nk (ip h)).elim (λq=>iZ _ (gc.mpr ⟨t,xZ q.1,gd (EA q.2)⟩)) λq=>jl _ (gc.mpr ⟨t,EA q.1,gd (xZ q.2)⟩))
theorem afg{l:List T}{n:Nat}(J:n<=4)(F:l.Nodup)(h:∀t∈l,t.size=n):D l<=40:=by
 have r:∀S:List T,D S<=40->(∀t,t.size=n->t∈S)->D l<=40:=λS q k=>aq (F.length_le_of_subset λt m=>k t (h t m)) q;refine(tS J).elim (λJ=>?_) λp=>?_
 ·refine(tS (hl J)).elim (λJ=>?_) λp=>?_
  ·rcases tS (hl J)with J|rfl
   ·rcases tS (hl J)with J|rfl
    ·exact r [] (aF rfl) λt e=>aG t.nk (fP.mpr (e▸hl J))
    ·exact r vw (aF y) λt=>xZ
   ·exact r Ar (aF y) λt=>EA
  ·obtain rfl:=p;exact r Iv (aF y) λt=>Sd
 ·obtain rfl:=p;exact r Pm (aF y) λt=>A_
structure IsL(g:eE)(c n:Nat)(r:List T):Prop where
 aa:r.Nodup
 mem:∀t,t∈r↔dO g t c/\t.size=n
 ord:r.Pairwise λx Q=>T.le x Q=ak
theorem IsL.eq{c n:Nat}(h:IsL g c n r)(au:IsL g c n U):r=U:=aaN h.ord au.ord ((zt h.aa au.aa).mpr λt=>(h.mem t).trans (au.mem t).symm)
theorem IsL.J{c n:Nat}(h:IsL g c n r)(J:n<=4):D r<=40:=afg J h.aa λt m=>((h.mem t).mp m).2
theorem KE{c:Nat}(h:gI g [c] ai):∃t,dO g t c/\[t]=ai:=by cases ai with
 |nil=>exact h.elim
 |cons t ai=>cases ai with
  |nil=>exact⟨t,h.1,y⟩
  |cons=>exact h.2.elim
theorem Ra{c n:Nat}{M:List (List T)}(h:gC g [c] n M):∃l:List T,M=l.map (λt=>[t])/\l.Nodup/\∀t,t∈l↔dO g t c/\t.size=n:=by
 have:∃l:List T,M=l.map λt=>[t]:=by
  have:∀ai∈M,∃t,[t]=ai:=λai o=>(KE ((h.2 ai).mp o).1).imp λz q=>q.2;clear h;induction M with
  |nil=>exact⟨[],y⟩
  |cons x M F=>exact(this x (.head _)).elim λt e=>(F λai o=>this ai (.tail _ o)).elim λl q=>⟨t::l,by rw[jv,e,←q]⟩
 obtain⟨l,rfl⟩:=this;exact⟨l,y,wG (λt=>[t]) (λa b q e=>q (bA (λt=>[t]) e)) h.1,λt=>(show t∈l↔[t]∈l.map λt=>[t]from⟨λh=>gd h,λh=>(bJ.mp h).elim λs q=>(fH q.2).1▸q.1⟩).trans ((h.2 [t]).trans ⟨λq=>⟨q.1.1,yy.symm.trans q.2⟩,λq=>⟨⟨q.1,trivial⟩,yy.trans q.2⟩⟩)⟩
theorem SA{c n:Nat}(h:IsL g c n r):cA g [c] n=D r:=by
 have:gC g [c] n (r.map λt=>[t]):=⟨iV h.aa λx x x x e=>(fH e).1,λai=>⟨λq=>(bJ.mp q).elim λt q=>q.2▸⟨⟨((h.mem t).mp q.1).1,trivial⟩,yy.trans ((h.mem t).mp q.1).2⟩,λq=>(KE q.1).elim λt e=>by
  rw[←e.2]at q⊢;exact gd ((h.mem t).mpr ⟨e.1,yy.symm.trans q.2⟩)⟩⟩
 rw[nS this,bK]
noncomputable def RP(aH c n:Nat):bk:=[A (.J aH),A (am c),A (am n)]
theorem kY.y1(P:cq B)(Q:eh (cs aa L))(I:∀c x,cs aa L c x->mq aa L x.2)(az:kY aQ aH aP aO aa L z)(J:n<=4)(X:c<D aa)(d:∀(r:List T) (p:Nat) O eK,IsL (cs aa L) (L c) n r->dU B (n+10) 19 [.J aH,am c,am n] z (.J p) O->ek aQ aH eK aO aa L O->aM (iK aH aP) z O->eK=aP\/D z<=eK->O[p]?=A (.W (r.map T.J))->False):False:=by
 refine az.many (n:=n) P Q J X λah Y F q aY W=>az.self.elim λcd h=>(ek.aaP (B:=B) (aQ:=aQ) (aH:=aH) (aP:=Y) (aO:=aO) P Q I n J [L c] (λx v=>cB.mp v▸⟨q.bz.fF.qD X,q.bz.fF.nN c X⟩) (by decide:1<=1000)).elim λM S=>(Ra S.1).elim λl M=>?_;have w:=afg J M.2.1 λt m=>((M.2.2 t).mp m).2;refine S.2 ah q λaV p R o u bq et=>?_;rw[M.1,ed]at bq;refine oe (B:=B) (n:=n+9) (N:=RP aH c n) (z:=ah) (k:=.bE) (dc:=[aj]) (ax:=[]) (aS:=l) (g:=λt=>hW [t]) (f:=T.J) (e:=.bZ (.J 0) 25 [(.Y [(.bZ (.cy (.J 0) 15) 22 [(.J 1)])]),(.J 2)]) (bP:=.Z (.J 0) (.X 0)) y
  (ff (eu (av y) q.c y (P.m y) (aU (eL (aU (eu (dR (av y) q.c y (P.m y)) q.bz.du.eA y (P.m y) (aU (av y) bc) (q.bz.find (n:=n+7) P X)) bc) hL) (aU (av y) bc)) (R.mono (ka _))) (gD bq)) (hg (aq w (aF y))) (λa k=>k.at bq) (λt a z a k=>k z (fo (av y) cE .Y (jx y y)) .dd) λcD H b E=>?_
 refine VC P H.ev E M.2.1 (er w (aF y)) (λt m=>?_) λU s A0 A1 A2 A3=>?_
 ·have ab:=((M.2.2 t).mp m).2;exact⟨ab▸aq J (aF y),aq (dn t.uo) (ab▸dP (n+1) 8)⟩
 have Z:aM cI aV U:=b.trans A1;exact d (nq l) s U Y ⟨(wj l).symm.nodup M.2.1,λt=>(wj l).mem_iff.trans (M.2.2 t),Lv l⟩ (ep (P.b y) y (bv (hQ (xv (eu (nm:=20) (av (B:=B) (n:=n+9) (i:=0) (N:=RP aH c n) (z:=z) y) h.1 (h.2.2 20 (by decide)) (P.m y) (aU (av (i:=1) y) (aU (av (i:=2) y) bc)) (F.mono (ka _))) (Mf (i:=10000)) (j:=10000) (fP.mpr (aq (Kx Q J) (aF y))))) (fy A0)) (.inl y)) (o.k Z) (IK aY W (u.trans Z.of)) W A2
end
section
variable{g:eE} {k:Nat} {u w:List Nat} {t:T}
def rr(g:eE)(ax:List Nat)(u:List Nat):Prop:=∃ai,gI g ax ai/\cV ai=u
theorem gI.dS{dp:List Nat}(au:gI g dp dZ){ax:List Nat}:∀{ai:List T},gI g ax ai->gI g (ax++dp) (ai++dZ):=by
 induction ax with
 |nil=>intro ai h;cases ai with
  |nil=>exact au
  |cons=>exact h.elim
 |cons c ax F=>intro ai h;cases ai with
  |nil=>exact h.elim
  |cons t ai=>exact⟨h.1,F h.2⟩
theorem gI.split{dp:List Nat}{ax:List Nat}:∀{ai:List T},gI g (ax++dp) ai->∃a b,ai=a++b/\gI g ax a/\gI g dp b:=by
 induction ax with
 |nil=>exactλ{ai} h=>⟨[],ai,y,trivial,h⟩
 |cons c ax F=>intro ai h;cases ai with
  |nil=>exact h.elim
  |cons t ai=>exact(F h.2).elim λa q=>q.elim λb q=>⟨t::a,b,bA _ q.1,⟨h.1,q.2.1⟩,q.2.2⟩
theorem rS{ai:List T}:cV (ai++dZ)=cV ai++cV dZ:=wH
theorem Pt(Q:eh g):rr g (d::dp) (C::u)↔∃aC,g d (C,aC)/\rr g (aC++dp) u:=by
 refine⟨λh=>h.elim λai h=>?_,λh=>h.elim λaC h=>h.2.elim λai q=>?_⟩
 ·cases ai with
  |nil=>exact h.1.elim
  |cons t ai=>refine((iX Q).mp h.1.1).elim λx q=>?_;have e:=h.2;rw[ux,t.mC]at e;have e:=fH e;rw[←e.1,←q.2.1];exact⟨x.2,q.1,t.X++ai,gI.dS h.1.2 q.2.2,rS.trans e.2⟩
 ·refine q.1.split.elim λa p=>p.elim λb p=>?_;have G:=rQ (Q.kf d _ h.1).1 (p.2.1.J▸(Q.kf d _ h.1).2);refine⟨gZ C a::b,⟨(iX Q).mpr ⟨_,h.1,G.1.symm,G.2.symm▸p.2.1⟩,p.2.2⟩,?_⟩;rw[ux,T.mC,G.1,G.2,←q.2,p.1,rS];rfl
theorem ZZ(h:rr g [] (C::u)):False:=h.elim λai h=>by have e:=h.2;rw[ko h.1.J.symm]at e;exact aG e.symm (ju _ _)
theorem ZY:rr g ax []↔ax=[]:=⟨λh=>h.elim λai h=>by have q:=h.1.J;rw[tk (ai:=ai) (dZ:=[]) h.2]at q;exact ko q,λe=>by rw[e];exact⟨[],trivial,y⟩⟩
theorem Kw(Q:eh g):0<cA g ax n↔∃u,rr g ax u/\D u=n:=(vN Q n ax).elim λM h=>by rw[nS h];exact⟨λq=>(GV q).elim λai q=>⟨cV ai,⟨ai,((h.2 ai).mp q).1,y⟩,((h.2 ai).mp q).2⟩,λq=>q.elim λu q=>q.1.elim λai p=>CO ((h.2 ai).mpr ⟨p.1,(bA D p.2).trans q.2⟩)⟩
noncomputable def jq(w:List Nat)(aD:List (List Nat)):List (List Nat):=aD.filter λx=>dV (x.take (D w)=w)
theorem ya{aD:List (List Nat)}{x:List Nat}:x∈jq w aD↔x∈aD/\x.take (D w)=w:=by unfold jq;rw[jw,decide_eq_true_iff]
structure rq(g:eE)(c n:Nat)(w:List Nat)(bi:List (List Nat)):Prop where
 aa:bi.Nodup
 mem:∀u,D w+D u=n->((∃ax∈bi,rr g ax u)↔rr g [c] (w++u))
 some:∀ax∈bi,∃u,D w+D u=n/\rr g ax u
theorem rq.count(Q:eh g){aD:List (List Nat)}(h:rq g c n w bi)(m:D w<=n)(J:aD.Nodup)(U:∀u,u∈aD↔rr g [c] u/\D u=n):(bi.map λax=>cA g ax (n-D w)).sum=(jq w aD).length:=by
 have I:∀u:List Nat,D w+D u=n->D u=n-D w:=λu e=>e▸(CZ ..).symm;refine(mJ λax:List Nat=>vN Q (n-D w) ax).elim λM Z=>?_;have e:(bi.map λax=>cA g ax (n-D w)).sum=(bi.flatMap λax=>(M ax).map λai=>w++cV ai).length:=by
  exact(bA MX (lb λax z=>by rw[bK,nS (Z ax)])).trans (zk ..).symm
 rw[e];clear e;have b:∀{ai dZ:List T},w++cV ai=w++cV dZ->ai=dZ:=λh=>tk (zh h);refine((zt (uv (λax z=>iV (Z ax).1 λz z z z=>b) h.aa λax z dp z x ab ac=>?_) (J.sublist pT)).mpr λx=>?_).length_eq
 ·exact(bJ.mp ab).elim λai q=>(bJ.mp ac).elim λdZ p=>Cy Q (((Z ax).2 ai).mp q.1).1 (((Z dp).2 ai).mp (b (p.2.trans q.2.symm)▸p.1)).1
 ·rw[show x∈(aD.filter λx=>dV (x.take (D w)=w))↔_ from ya,U];refine⟨λab=>(gc.mp ab).elim λax q=>(bJ.mp q.2).elim λai p=>?_,λab=>?_⟩
  ·have r:=((Z ax).2 ai).mp p.1;have a:D w+(cV ai).length=n:=(bA (D w+·) r.2).trans (tQ m);rw[←p.2];exact⟨⟨(h.mem _ a).mp ⟨ax,q.1,ai,r.1,y⟩,(cp ..).trans a⟩,Hj⟩
  ·have Y:w++x.drop (D w)=x:=(bA (·++_) ab.2).symm.trans (uY (D w) x);have a:D w+(x.drop (D w)).length=n:=by rw[←cp,Y];exact ab.1.2
   have ac:=ab.1.1;rw[←Y]at ac;exact((h.mem _ a).mpr ac).elim λax q=>q.2.elim λai p=>gc.mpr ⟨ax,q.1,bJ.mpr ⟨ai,((Z ax).2 ai).mpr ⟨p.1,(bA D p.2).trans (I _ a)⟩,(bA (w++·) p.2).trans Y⟩⟩
noncomputable def dW(g:eE)(ns:Nat->List bl)(left:Nat)(bi:List (List Nat)):List (Nat×List Nat):=bi.flatMap λax=>(ns ax.head!).flatMap λx=>if 0<cA g (x.2++ax.tail) left then[(x.1,x.2++ax.tail)]else[]
noncomputable def dC(C:Nat)(E:List (Nat×List Nat)):List (List Nat):=(E.filter λx=>x.1==C).map (·.2)
theorem ur{E:List (Nat×List Nat)}:ax∈dC C E↔(C,ax)∈E:=bJ.trans ⟨λh=>h.elim λx h=>have q:=jw.mp h.1;(jz (dA q.2) h.2:x=(C,ax))▸q.1,λh=>⟨_,jw.mpr ⟨h,beq_self_eq_true _⟩,y⟩⟩
theorem vZ{bw:Type}{p:Prop}[Decidable p]{x Q:bw}:x∈(if p then[Q]else[])↔p/\x=Q:=by
 by_cases h:p
 ·rw[cg h];exact⟨λq=>⟨h,cB.mp q⟩,λq=>cB.mpr q.2⟩
 ·rw[bV h];exact⟨afk,λq=>aG q.1 h⟩
theorem Se{left:Nat}{e:Nat×List Nat}(f:∀c,(ns c).Nodup/\∀x,x∈ns c↔g c x)(F:∀ax∈bi,ax≠[]):e∈dW g ns left bi↔∃d dp aC,d::dp∈bi/\g d (e.1,aC)/\e.2=aC++dp/\0<cA g e.2 left:=by
 refine gc.trans ⟨λh=>h.elim λax h=>(gc.mp h.2).elim λx q=>?_,λh=>h.elim λd h=>h.elim λdp h=>h.elim λaC h=>⟨d::dp,h.1,gc.mpr ⟨(e.1,aC),((f d).2 _).mpr h.2.1,vZ.mpr ⟨h.2.2.1▸h.2.2.2,jz y h.2.2.1⟩⟩⟩⟩;have p:=vZ.mp q.2;have ab:=h.1;obtain rfl:=p.2;cases ax with
 |nil=>exact aG y (F [] ab)
 |cons d dp=>exact⟨d,dp,x.2,ab,((f d).2 x).mp q.1,y,p.1⟩
theorem rq.ne(h:rq g c n w bi)(m:D w<n):∀ax∈bi,ax≠[]:=λax l e=>(h.some ax l).elim λu q=>by
 cases u with
 |nil=>exact aG q.1 (eC m)
 |cons C u=>exact ZZ (e▸q.2)
theorem rq.Y(Z:eh g)(f:∀c,(ns c).Nodup/\∀x,x∈ns c↔g c x)(h:rq g c n w bi){left:Nat}(m:D w+(left+1)=n)(C:Nat):rq g c n (w++[C]) (dC C (dW g ns left bi)):=by
 have R:=h.ne (m▸pZ (iC left));have U:=λe=>Se (g:=g) (left:=left) (e:=e) f R;have b:∀u:List Nat,D u=left↔(w++[C]).length+D u=n:=λu=>by
  rw[cp,←m,jn,Nat.add_left_cancel_iff,hN];exact Nat.add_right_cancel_iff.symm
 refine⟨?_,λu H=>?_,λax l=>((U _).mp (ur.mp l)).elim λd q=>q.elim λdp q=>q.elim λaC q=>((Kw Z).mp q.2.2.2).elim λu p=>⟨u,(b u).mp p.2,p.1⟩⟩
 ·refine iV (adg pT (uv (λax l=>uv (λx z=>?_) (f _).1 λx M Q Y a ab ac=>?_) h.aa λax l dp F a ab ac=>?_)) λx M Q Y e=>jz ((dA (jw.mp M).2).trans (dA (jw.mp Y).2).symm) e
  ·by_cases N:0<cA g (x.2++ax.tail) left
   ·rw[cg N];exact jm ..
   ·rw[bV N];exact oY
  ·have e:=nC ((vZ.mp ab).2.symm.trans (vZ.mp ac).2);exact jz e.1 (ME e.2)
  ·refine(gc.mp ab).elim λx q=>(gc.mp ac).elim λQ p=>?_;have e:=nC ((vZ.mp q.2).2.symm.trans (vZ.mp p.2).2);have P:=((f _).2 x).mp q.1;have X:=((f _).2 Q).mp p.1;have O:=Wn e.2 ((Z.kf _ _ P).2.trans ((bA dN e.1).trans (Z.kf _ _ X).2.symm));cases ax with
   |nil=>exact aG y (R _ l)
   |cons c ax=>cases dp with
    |nil=>exact aG y (R _ F)
    |cons d dp=>exact(show c=d from Z.Ly _ _ _ P ((jz e.1 O.1:x=Q)▸X))▸bA _ (show ax=dp from O.2)
 ·have L:D w+(C::u).length=n:=by rw[cp,jn,hN [C].length]at H;exact H
  rw[ha,show[C]++u=C::u from y,←h.mem (C::u) L];refine⟨λq=>q.elim λax q=>((U _).mp (ur.mp q.1)).elim λd p=>p.elim λdp p=>p.elim λaC p=>⟨d::dp,p.1,(Pt Z).mpr ⟨aC,p.2.1,(show ax=aC++dp from p.2.2.1)▸q.2⟩⟩,λq=>q.elim λax q=>?_⟩;cases ax with
  |nil=>exact aG y (R _ q.1)
  |cons d dp=>exact((Pt Z).mp q.2).elim λaC p=>⟨aC++dp,ur.mpr ((U _).mpr ⟨d,dp,aC,q.1,p.1,y,(Kw Z).mpr ⟨u,p.2,(b u).mpr H⟩⟩),p.2⟩
theorem Jz{bw gq:Type}{l:List bw}{f g:bw->List gq}(h:∀x∈l,f x=g x):l.flatMap f=l.flatMap g:=by
 induction l with
 |nil=>rfl
 |cons x l F=>rw[sv,sv,h x (.head _),F λQ Y=>h Q (.tail _ Y)]
theorem d3{bw:Type}{f:bw->Nat}{bg:List bw}:bg.Pairwise (λx Q=>f x<=f Q)->(∀x∈bg,C<=f x)->bg=(bg.filter λx=>f x==C)++bg.filter λx=>!(f x==C):=by
 induction bg with
 |nil=>exactλz z=>y
 |cons x bg F=>
  intro N Z;have q:=qX.mp N;rw[uT,uT];cases X:f x==C with
  |true=>exact bA (x::·) (F q.2 λQ Y=>Z Q (.tail _ Y))
  |false=>have a:∀Q∈bg,(f Q==C)=aW:=λQ Y=>beq_eq_false_iff_ne.mpr (fU (ef (qY (Z x (.head _)) λe=>beq_eq_false_iff_ne.mp X e.symm) (q.1 Q Y)));show x::bg=(bg.filter λQ=>f Q==C)++x::bg.filter λQ=>!(f Q==C);rw[GX.mpr λQ Y e=>afh ((a Q Y).symm.trans e),ML.mpr λQ Y=>bA _ (a Q Y)];rfl
theorem d4{bw:Type}{f:bw->Nat}:∀{bg:List bw},os.Pairwise (·<·)->bg.Pairwise (λx Q=>f x<=f Q)->(∀x∈bg,f x∈os)->bg=os.flatMap λC=>bg.filter λx=>f x==C:=by
 induction os with
 |nil=>intro bg _ _ h;cases bg with
  |nil=>rfl
  |cons x bg=>exact afk (h x (.head _))
 |cons C os F=>
  intro bg Z j h;have Z:=qX.mp Z;have e:=d3 (C:=C) j λx Y=>(ee.mp (h x Y)).elim (λe=>fi e.symm) λq=>dK (Z.1 _ q);have F:=F (bg:=bg.filter λx=>!(f x==C)) Z.2 (j.sublist pT) λx Y=>have a:=jw.mp Y;(ee.mp (h x a.1)).resolve_left λe=>by
   have b:=a.2;rw[e,beq_self_eq_true]at b;exact afh b
  rw[sv];refine e.trans (bA (_++·) (F.trans (Jz λp X=>?_)));rw[GY];refine GW λx z=>?_;cases Y:f x==p with
  |false=>rfl
  |true=>rw[dA Y,beq_eq_false_iff_ne.mpr (fU (Z.1 p X))];rfl
end
section
variable{b:Nat} {aa:List bl} {cc:Nat} {l:List Nat} {E:List (Nat×List Nat)} {R:Nat->Nat} {x:bl}
theorem K?:∀a,a<5->∀b,b<5->a<=b->V.le (ce a) (ce b)=ak:=by decide
theorem aeZ:∀a,a<5->∀b,b<5->V.le (ce a) (ce b)=ak->a<=b:=by decide
noncomputable def oP(dD ax:List Nat):V:=.Y [.Y (ax.map am),.Y (dD.map am)]
noncomputable def nh(R:Nat->Nat)(os:List Nat):List (V×V):=os.map λC=>(ce C,.J (R C))
theorem SO(Z:∀p∈os,p<5)(u:C∈os):cX (nh R os) (ce C)=A (.J (R C)):=by
 induction os with
 |nil=>cases u
 |cons p os F=>
  show cX ((ce p,.J (R p))::nh R os) _=_;rw[mu];by_cases q:p=C
  ·rw[cg (V.fE.mpr (bA ce q)),q]
  ·exact(bV λe=>q (tj (Z p (.head _)) (Z C u) (V.fE.mp e))).trans (F (λp Y=>Z p (.tail _ Y)) ((ee.mp u).resolve_left λe=>q e.symm))
theorem J?(Z:∀p∈os,p<5)(h:C<5)(u:C∉os):cX (nh R os) (ce C)=aj:=QI λx Y e=>(bJ.mp Y).elim λp q=>u (tj (Z p q.1) h ((bA zM q.2).trans e)▸q.1)
theorem KG:iM (nh R os) (ce C):=⟨y,λx Z=>(bJ.mp Z).elim λp q=>q.2▸y⟩
structure lM(aQ aH aP aO:Nat)(aa:List bl)(L:Nat->Nat)(aL:aA)(cc:Nat)(dD:List Nat)(E:List (Nat×List Nat))(os:List Nat)(R:Nat->Nat)(z:aA):Prop where
 fw:ek aQ aH aP aO aa L z
 k:aM (·≠aP) aL z
 mY:D aL<=cc
 qz:aQ<=D aL
 on:os.Nodup
 EM:∀C,C∈os↔∃x∈E,x.1=C
 bt:∀C∈os,C<5
 d:z[cc]?=A (.Z (nh R os))
 l:∀C∈os,cc<R C/\z[R C]?=A (.W ((dC C E).map (oP (dD++[dN C]))))
 inj:∀C∈os,∀p∈os,R C=R p->C=p
theorem lM.Y(ao:lM aQ aH aP aO aa L aL cc dD E os R z)(az:ek aQ aH aP aO aa L ah)(k:aM (·≠aP) z ah)(U:cc≠aP):lM aQ aH aP aO aa L aL cc dD E os R ah:=
 {ao with fw:=az,k:=ao.k.trans k,d:=k.get _ _ U ao.d,l:=λC u=>⟨(ao.l C u).1,k.get _ _ (ao.fw.kS (ao.l C u).2).2 (ao.l C u).2⟩}
theorem RL:dC C (E++[(C,l)])=dC C E++[l]:=by unfold dC;rw[MI,eI];exact bA (_++·) (bA _ (MK (p:=λx:Nat×List Nat=>x.1==C) (beq_self_eq_true C)))
theorem RK(h:p≠C):dC p (E++[(C,l)])=dC p E:=by unfold dC;rw[MI,eI,MJ ((beq_eq_false_iff_ne.mpr λq=>h (mM q))▸dT)];exact eF _
theorem RJ:(dC C E).length<=D E:=by unfold dC;rw[bK];exact zj _ _
noncomputable def BY(R:Nat->Nat)(C b p:Nat):Nat:=if p=C then b else R p
theorem yH:BY R C b C=b:=cg y
theorem wl(h:p≠C):BY R C b p=R p:=bV h
def Ht(z O:aA):Prop:=∀(p:Nat) (Q:bl) (l:List V),z[p]?=A (cT.W (cU Q::l))->O[p]?=A (cT.W (cU Q::l))
theorem t7{E:List (Nat×List Nat)}:(∃x∈E++[(C,l)],x.1=p)↔(∃x∈E,x.1=p)\/p=C:=⟨λh=>h.elim λx h=>(ew.mp h.1).imp (λq=>⟨x,q,h.2⟩) λq=>(cB.mp q▸h.2).symm,λh=>h.elim (λh=>h.imp λx h=>⟨iZ _ h.1,h.2⟩) λe=>⟨_,jl _ (.head _),e.symm⟩⟩
theorem lM.add(ao:lM aQ aH aP aO aa L aL cc dD E os R z)(U:cc≠aP)(g:cc≠aH)(u:C<5)(n:D E<=10000)(bo:N[3]?=A (A (.J cc)))(X:∀z,bW B G lQ N z (ce C) z)(s:∀z,bW B G dG N z (oP (dD++[dN C]) l) z)(d:∀O os R,eM B G (.fY (.eO (.eO (.J 3) "setdefault" [lQ,(.W [])]) "append" [dG])) N z .X N O->lM aQ aH aP aO aa L aL cc dD (E++[(C,l)]) os R O->Ht z O->False):False:=by
 have W:(z++[.W []])[cc]?=A (.Z (nh R os)):=eQ ao.d;have al:cc<D z:=fA ao.d;have k:lM aQ aH aP aO aa L aL cc dD E os R (z++[.W []]):=ao.Y (ao.fw.k .cS) .cS U;have H:aQ<=cc:=aq ao.qz ao.mY;have f:∀p,(∃x∈E++[(C,l)],x.1=p)↔p∈os\/p=C:=λp=>t7.trans (or_congr_left (ao.EM p).symm);by_cases q:C∈os
 ·have F:=Gm (B:=B) (oE:=.J (D z)) W KG (SO ao.bt q);have br:=(k.l C q).1;have bG:=(k.l C q).2;refine d _ os R (jR (iL (iL (av bo) (.yt ao.d) (aU (X _) (aU (gB bc (cW _)) bc)) F) (.append bG) (aU (s _) bc) (qO bG (gu (hg (aq RJ n)))))) ⟨k.fw.set (aq H (dK br)) (k.fw.kS bG).1 (k.fw.kS bG).2,k.k.set (dK (er ao.mY br)),ao.mY,ao.qz,ao.on,λp=>⟨λh=>(f p).mpr (.inl h),λh=>((f p).mp h).elim id λe=>e▸q⟩,ao.bt,fL W (fU br),λp Z=>⟨(k.l p Z).1,?_⟩,ao.inj⟩ λp Q l h=>fL (eQ h) λe=>?_
  ·by_cases e:p=C
   ·rw[e,gR bG,RL,eI];rfl
   ·rw[RK e];exact fL (k.l p Z).2 λh=>e (ao.inj C q p Z h).symm
  ·have h:=cT.W.inj (dk ((eQ (e▸h)).symm.trans bG));cases w:dC C E with
   |nil=>exact((ao.EM C).mp q).elim λx P=>afk (w▸ur.mpr (P.2▸P.1:(C,x.2)∈E))
   |cons ba i=>rw[w]at h;cases h
 ·have v:(nh R os).length<=cZ:=by
   rw[show(nh R os).length=D os from bK ..];exact aq (ao.on.length_le_of_subset (l₂:=fz 5) λp Z=>hk.mpr (ao.bt p Z)) (aF y)
  have bG:((z++[cT.W []]).set cc (.Z (nh R os++[(ce C,.J (D z))])))[D z]?=A (.W []):=fL dt (eC al);have t:∀p∈os,p≠C:=λp Z e=>q (e▸Z);have e:nh (BY R C (D z)) (os++[C])=nh R os++[(ce C,.J (D z))]:=by
   unfold nh;rw[eI,jv,yH,CQ];exact bA (·++_) (lb λp Z=>(wl (t p Z))▸y)
  refine d _ (os++[C]) (BY R C (D z)) (jR (iL (iL (av bo) (.yt ao.d) (aU (X _) (aU (gB bc (cW _)) bc)) (Gl (B:=B) (oE:=.J (D z)) W KG (J? ao.bt u q) v)) (.append bG) (aU (s _) bc) (qO bG (cW _)))) ⟨((k.fw.set (x:=.Z (nh R os++[(ce C,.J (D z))])) H g U).set (a:=D z) (x:=.W ([]++[oP (dD++[dN C]) l])) (aq H (dK al)) (fU ao.fw.lt.1) (fU ao.fw.lt.2.1)),(k.k.set ao.mY).set (aq ao.mY (dK al)),ao.mY,ao.qz,oX.mpr ⟨ao.on,jm ..,λx P Q Y e=>t x P (e.trans (cB.mp Y))⟩,λp=>(ew.trans (or_congr_right cB)).trans (f p).symm,λp Z=>(ew.mp Z).elim (ao.bt p) λh=>cB.mp h▸u,e▸fL (gR W) (fU al),λp Z=>(ew.mp Z).elim (λh=>?_) λh=>?_,λp Z r I e=>?_⟩ λp Q l h=>fL (fL (eQ h) (kE ao.d h λh=>pF h.symm)) (fU (fA h))
  ·rw[wl (t p h),RK (t p h)];exact⟨(ao.l p h).1,fL (fL (eQ (ao.l p h).2) (eC (ao.l p h).1)) (fU (fA (ao.l p h).2))⟩
  ·rw[cB.mp h,yH,RL,(List.eq_nil_iff_forall_not_mem.mpr λax h=>q ((ao.EM C).mpr ⟨_,ur.mp h,y⟩))];exact⟨al,gR bG⟩
  ·have j:∀p∈os,R p≠D z:=λp Z=>eC (fA (ao.l p Z).2);rcases ew.mp Z with h|h
   ·rw[wl (t p h)]at e;rcases ew.mp I with au|au
    ·rw[wl (t r au)]at e;exact ao.inj p h r au e
    ·rw[cB.mp au,yH]at e;exact absurd e (j p h)
   ·rw[cB.mp h]at e⊢;rcases ew.mp I with au|au
    ·rw[wl (t r au),yH]at e;exact absurd e.symm (j r au)
    ·exact(cB.mp au).symm
noncomputable def KH:List S:=[.ea 7 (.cb .Add (.eb (.J 6) (.X 1) .bM) (.eb (.J 4) (.X 1) .bM)),.fc (.bH .Gt (.bZ (.J 0) 21 [(.J 7),(.cb .Sub (.J 2) (.X 1))]) (.X 0)) [.fY (.eO (.eO (.J 3) "setdefault" [(.Z (.J 6) (.X 0)),(.W [])]) "append" [(.Y [(.J 7),(.cb .Add (.J 5) (.Y [(.cb .Sub (.bR "len" [(.J 6)]) (.X 1))]))])])] []]
noncomputable def EO(aH ej n cc:Nat)(bO bt cj cC:Option V):bk:=[A (.J aH),A (.J ej),A (am n),A (.J cc),bO,bt,cj,cC]
noncomputable def rT(aH ej n cc:Nat)(ax dD:List Nat)(cj cC:Option V):bk:=EO aH ej n cc (A (.Y (ax.map am))) (A (.Y (dD.map am))) cj cC
noncomputable def rD(g:eE)(left:Nat)(ax:List Nat)(x:bl):List (Nat×List Nat):=if 0<cA g (x.2++ax.tail) left then[(x.1,x.2++ax.tail)]else[]
theorem K'(P:cq B)(s:eh (cs aa L)){left ej:Nat}{cj cC:Option V}(a:left<=3)(w:cs aa L c x){d:Nat}{dp:List Nat}(u:mq aa L (d::dp))(X:(d::dp).length<=100)(iG:D dD<=100)(v:D E<=10000)(U:cc≠aP)(g:cc≠aH)(ao:lM aQ aH aP aO aa L aL cc dD E os R z)(Y:∀O C os R,gb B (left+8) KH (rT aH ej (left+1) cc (d::dp) dD (A (cU x)) cC) z .X (rT aH ej (left+1) cc (d::dp) dD (A (cU x)) C) O->lM aQ aH aP aO aa L aL cc dD (E++rD (cs aa L) left (d::dp) x) os R O->Ht z O->False):False:=by
 have e:=ao.fw.bz.kf w;have I:(x.2++dp).length<=102:=(cp ..)▸ia (b:=2) (d:=100) (e.2▸kv _) (jo X);refine ek.Fi P s left (aq a (aF y)) (x.2++dp) z (λQ A0=>(ew.mp A0).elim (ao.fw.bz.ys w Q) λh=>u Q (.tail _ h)) (aq I (aF y)) ao.fw λah t r W=>?_;have f:Ht z ah:=λp Q l h=>W.get _ _ (ao.fw.kS h).2 h;have H:=fX (i:=7) (en (ft:=.Add) (lG (k:=1) (av (B:=B) (n:=left+8) (i:=6) (N:=rT aH ej (left+1) cc (d::dp) dD (A (cU x)) cC) (z:=z) y) (aF y) (ye e.2)) (lG (k:=1) (l:=(d::dp).map am) (av (i:=4) y) (aF y) (gu (hg (aq X (aF y))))) (oj (l:=x.2.map am) (G:=dp.map am) (by rw[bK,bK,←cp];exact hg (aq I (aF y)))));rw[←eI]at H;have F:=eu (nm:=21) (av (B:=B) (n:=left+8) (i:=0) (N:=rT aH ej (left+1) cc (d::dp) dD (A (cU x)) (A (.Y ((x.2++dp).map am)))) (z:=z) y) ao.fw.c y (P.m y) (aU (av (i:=7) y) (aU (en (av (i:=2) y) cE (kp (i:=left+1) (j:=1) (gF 1 left))) bc)) (t.mono (ka _));by_cases Z:0<cA (cs aa L) (x.2++dp) left
 ·rw[show rD (cs aa L) left (d::dp) x=[(x.1,x.2++dp)]from cg Z]at Y;refine(ao.Y r W U).add (G:=left+8) (l:=x.2++dp) (N:=rT aH ej (left+1) cc (d::dp) dD (A (cU x)) (A (.Y ((x.2++dp).map am)))) (lQ:=.Z (.J 6) (.X 0)) (dG:=.Y [(.J 7),(.cb .Add (.J 5) (.Y [(.cb .Sub (.bR "len" [(.J 6)]) (.X 1))]))]) U g e.1 v y (λz=>fo (av y) cE .Y (jx y y)) (λz=>?_) λaV os R A1 A2 A3=>Y aV _ os R (bv H (bv (ku (DG F (cE (i:=0)) Z) (bv A1 eW)) eW)) A2 λp Q l h=>A3 p Q l (f p Q l h);have q:=en (ft:=.Sub) (uN (B:=B) (n:=left+8) (l:=ce x.1::x.2.map am) (av (i:=6) (N:=rT aH ej (left+1) cc (d::dp) dD (A (cU x)) (A (.Y ((x.2++dp).map am)))) (z:=z) y) (ye e.2)) cE (kp (j:=1) (gF _ _));rw[iz,bK,Nat.add_sub_cancel,e.2]at q;have ag:V.Y (dD.map am++[am (dN x.1)])=.Y ((dD++[dN x.1]).map am):=(eI ..)▸y;exact eL (aU (av y) (aU (ag▸en (av (i:=5) y) (eL (aU q bc) hL) (oj (l:=dD.map am) (G:=[am (dN x.1)]) (pG (hg (aq (dn iG) (aF y)))))) bc)) hq
 ·rw[show rD (cs aa L) left (d::dp) x=[]from bV Z,eF]at Y;exact Y ah _ os R (bv H (bv (hQ (xv F (cE (i:=0)) Z)) eW)) (ao.Y r W U) f
theorem K!(h:os.Nodup)(U:∀C∈os,C<5):∃r:List Nat,r.Pairwise (·<·)/\(∀C,C∈r↔C∈os)/\qo (os.map ce) (r.map ce):=by have W:=wN os λa b=>dV (a<=b);have eH:=CT (le:=λa b:Nat=>dV (a<=b)) (λa b c ab ac=>decide_eq_true (aq (of_decide_eq_true ab) (of_decide_eq_true ac))) (λa b=>Vk.mpr ((zx a b).imp decide_eq_true decide_eq_true)) os;have aa:=W.symm.nodup h;have X:=λx Z=>U x (W.mem_iff.mp Z);exact⟨_,Wl (λa b ab ac=>qY (of_decide_eq_true ab) ac) eH aa,λC=>W.mem_iff,⟨iV aa λx Z Q Y e=>tj (X x Z) (X Q Y) e,λH=>(W.map ce).mem_iff,oZ.mpr (wF (λ{x Q} Z Y e=>K? x (X x Z) Q (X Q Y) (of_decide_eq_true e)) eH)⟩⟩
theorem gO.Y(l:List Nat):gO 2 1 (l.map ce)where
 rX:=by decide
 sd:=by decide
 kind k X:=(bJ.mp X).elim λi h=>h.2▸y
 head e:=aG e (eG y)
 hF:=KP l
 ok a aE b al:=(bJ.mp aE).elim λi h=>(bJ.mp al).elim λj q=>h.2▸q.2▸⟨_,y⟩
def zH(aQ aH aP aO:Nat)(aa:List bl)(L:Nat->Nat)(aL:aA)(cc ej p:Nat)(dD:List Nat)(ns:List bl)(bi:List V)(F:List bl->List (Nat×List Nat))(i:Option V->Option V->bk)(pre:List bl)(N:bk)(z:aA):Prop:=∀{P:Prop},(∀{C Z:Option V} {os:List Nat} {R:Nat->Nat},N=i C Z->z[ej]?=A (.W bi)->z[p]?=A (.W (ns.map cU))->lM aQ aH aP aO aa L aL cc dD (F pre) os R z->P)->P
theorem zH.mk{aQ aH aP aO:Nat}{aa:List bl}{L:Nat->Nat}{aL:aA}{cc:Nat}{dD:List Nat}{ns:List bl}{bi:List V}{F:List bl->List (Nat×List Nat)}{i:Option V->Option V->bk}{pre:List bl}{N:bk}{z:aA}{C:Option V}{os:List Nat}{R:Nat->Nat}(h:N=i C bO)(Y:z[ej]?=A (.W bi))(X:z[p]?=A (.W (ns.map cU)))(J:lM aQ aH aP aO aa L aL cc dD (F pre) os R z):zH aQ aH aP aO aa L aL cc ej p dD ns bi F i pre N z:=λZ=>Z h Y X J
noncomputable def SP:S:=.eP (.W 6) .bE (.bZ (.cy (.J 0) 15) 23 [(.Z (.J 4) (.X 0))]) KH
theorem L_(P:cq B)(A1:eh (cs aa L)){left:Nat}(A3:left<=3){bN:List (Nat×List Nat)}(l:mq aa L (d::dp))(X:(d::dp).length<=100)(iG:D dD<=100)(u:D bN+((dI aa L d).flatMap (rD (cs aa L) left (d::dp))).length<=10000)(U:cc≠aP)(A0:cc≠aH)(ao:lM aQ aH aP aO aa L aL cc dD bN os R z)(A4:z[ej]?=A (.W v))(A2:∀{O E os R},lM aQ aH aP aO aa L aL cc dD E os R O->O[ej]?=A (.W v))(s:∀O C Z os R,eM B (left+8) SP (rT aH ej (left+1) cc (d::dp) dD cj cC) z .X (rT aH ej (left+1) cc (d::dp) dD C Z) O->lM aQ aH aP aO aa L aL cc dD (bN++(dI aa L d).flatMap (rD (cs aa L) left (d::dp))) os R O->False):False:=by
 have t:=l d (.head _);refine ao.fw.bz.Bt (n:=left+3) P ao.fw.na t.1 λcD p c I Y a H A9=>?_;rw[t.2]at Y H;generalize dI aa L d=ns at u s Y H;refine ox (B:=B) (n:=left+8) (i:=6) (k:=.bE) (e:=.bZ (.cy (.J 0) 15) 23 [(.Z (.J 4) (.X 0))]) (N:=rT aH ej (left+1) cc (d::dp) dD cj cC) (z:=z) (aS:=ns) (g:=cU) (b:=KH)
  (ao:=zH aQ aH aP aO aa L aL cc ej p dD ns v (λpre=>bN++pre.flatMap (rD (cs aa L) left (d::dp))) (rT aH ej (left+1) cc (d::dp) dD))
  (ff (eu (dR (av y) ao.fw.c y (P.m y)) ao.fw.bz.du.eA y (P.m y) (aU (fo (av y) cE .Y (jx y y)) bc) c) (gD Y)) (λa a a j=>j λa a h a=>h) (zH.mk y (I.at A4) Y ((eF bN).symm▸ao.Y (ao.fw.k I) I.of U)) (λpre x r N B0 q j k=>j λ{C Z os R} e A7 m W=>?_) λbY O w j=>j λ{C Z os R} e A7 m W=>?_
 ·obtain rfl:=e;refine K' (ej:=ej) (cj:=C) (cC:=Z) P A1 A3 ((H.1.2 x).mp (kC q)) l X iG ?_ U A0 W λA8 C os R A5 f A6=>?_
  ·rw[cp];exact aq (gE (aq (dP _ _) (uk (F:=rD (cs aa L) left (d::dp)) q)) _) u
  ·refine k _ A8 A5 (zH.mk (os:=os) (R:=R) y (A2 f) ?_ ?_)
   ·cases ns with
    |nil=>exact afk (kC q)
    |cons Q bD=>exact A6 p Q _ m
   ·rw[ul,←ha];exact f
 ·obtain rfl:=e;exact s O C Z os R w W
def zK(aQ aH aP aO:Nat)(aa:List bl)(L:Nat->Nat)(aL:aA)(cc ej:Nat)(dD:List Nat)(bi:List V)(F:List (List Nat)->List (Nat×List Nat))(i:Option V->Option V->Option V->Option V->bk)(pre:List (List Nat))(N:bk)(z:aA):Prop:=∀{P:Prop},(∀{bO bt cj cC:Option V} {os:List Nat} {R:Nat->Nat},N=i bO bt cj cC->z[ej]?=A (.W bi)->lM aQ aH aP aO aa L aL cc dD (F pre) os R z->P)->P
theorem zK.mk{aQ aH aP aO:Nat}{aa:List bl}{L:Nat->Nat}{aL:aA}{cc:Nat}{dD:List Nat}{bi:List V}{F:List (List Nat)->List (Nat×List Nat)}{i:Option V->Option V->Option V->Option V->bk}{pre:List (List Nat)}{N:bk}{z:aA}{os:List Nat}{R:Nat->Nat}(h:N=i bO bt cj cC)(Y:z[ej]?=A (.W bi))(X:lM aQ aH aP aO aa L aL cc dD (F pre) os R z):zK aQ aH aP aO aa L aL cc ej dD bi F i pre N z:=λZ=>Z h Y X
theorem ek.M_(P:cq B)(B0:eh (cs aa L)){left:Nat}(az:ek aQ aH aP aO aa L z)(B1:left<=3)(A6:∀ax∈bi,mq aa L ax/\0<D ax/\D ax<=100)(iG:D dD<=100)(Y:z[ej]?=A (.W (bi.map (oP dD))))(A5:(dW (cs aa L) (dI aa L) left bi).length<=10000)(s:∀(O:aA) (p:Nat) (os:List Nat) (R:Nat->Nat),dU B (left+9) 21 [.J aH,.J ej,am (left+1)] z (.J p) O->ek aQ aH aP aO aa L O->aM (·≠aP) z O->os.Pairwise (·<·)->(∀C,C∈os↔∃x∈dW (cs aa L) (dI aa L) left bi,x.1=C)->O[p]?=A (.W (os.map λC=>.Y [ce C,.J (R C)]))->(∀C∈os,C<5/\O[R C]?=A (.W ((dC C (dW (cs aa L) (dI aa L) left bi)).map (oP (dD++[dN C])))))->False):False:=by
 have A9:=fU az.lt.2.1;have A8:=fU az.lt.1;have A0:∀{O E os R},lM aQ aH aP aO aa L z (D z) dD E os R O->O[ej]?=A (.W (bi.map (oP dD))):=λao=>ao.k.get _ _ (az.kS Y).2 Y;refine AA (B:=B) (n:=left+8) (cQ:=.Y [4,5]) (k:=.bE) (e:=.J 1) (N:=EO aH ej (left+1) (D z) aj aj aj aj) (z:=z++[.Z []]) (aS:=bi) (g:=oP dD) (b:=[SP])
  (ao:=zK aQ aH aP aO aa L z (D z) ej dD (bi.map (oP dD)) (λpre=>pre.flatMap λax=>(dI aa L ax.head!).flatMap (rD (cs aa L) left ax)) (EO aH ej (left+1) (D z)))
  (ff (av y) (gD (eQ Y))) (λa a a j=>j λa h a=>h) (zK.mk (os:=[]) (R:=λa=>0) y (eQ Y) ⟨az.k .cS,.cS,cu _,az.lt.2.2,oY,λC=>⟨afk,λh=>h.elim λx h=>afk h.1⟩,λa=>afk,dt,λa=>afk,λa=>afk⟩)
  (λpre ax r N aV q j k=>j λ{bO bt cj cC os R} e A1 ao=>?_) λbY ah w j=>j λ{bO bt cj cC os R} e A1 ao=>?_
 ·obtain rfl:=e;have i:=A6 ax (kC q);cases ax with
  |nil=>exact aG i.2.1 (ic 0)
  |cons d dp=>refine L_ (bN:=pre.flatMap λax=>(dI aa L ax.head!).flatMap (rD (cs aa L) left ax)) (cj:=cj) (cC:=cC) P B0 B1 i.1 i.2.2 iG (aq (uk (F:=λax:List Nat=>(dI aa L ax.head!).flatMap (rD (cs aa L) left ax)) q) A5) A9 A8 ao A1 A0 λB5 C B6 os R B4 X=>k _ _ B5 (.Y (is:=[4,5]) .Y y) (bv B4 eW) (zK.mk (os:=os) (R:=R) y (A0 X) ?_);rw[ul];exact X
 ·obtain rfl:=e;refine(K! ao.on ao.bt).elim λr ae=>?_;have lQ:(nh R os).map (·.1)=os.map ce:=by unfold nh;rw[ed];rfl
  have c:∀{l:List Nat},l.Nodup->(∀p∈l,p<5)->D l<=5:=λh k=>h.length_le_of_subset (l₂:=fz 5) λp U=>hk.mpr (k p U);have ax:=Vw (B:=B) (G:=(r.map ce).map λH=>(H,H)) (t:=2) (u:=1) ao.d (λe A7=>(bJ.mp A7).elim λp h=>h.2▸y) (lQ▸ae.2.2.sort (gO.Y os) (pG (er (c ao.on ao.bt) (aF y))) ⟨iV ao.on λx B2 Q B3 e=>tj (ao.bt x B2) (ao.bt Q B3) e,λa=>zb⟩) (lQ▸gO.Y os);rw[ed,show((·.2)∘λH:V=>(H,H))=id from y,zp]at ax;refine oe (B:=B) (n:=left+8) (N:=EO aH ej (left+1) (D z) bO bt cj cC) (z:=ah) (k:=.bE) (dc:=[aj,A 3]) (ax:=[A (.J (D z))]) (aS:=r) (g:=ce) (f:=λC=>.Y [ce C,.J (R C)]) (e:=.bR "sorted" [(.J 3)]) (bP:=.Y [(.J 0),(.Z (.J 1) (.J 0))]) y
   (ff (gV pw (aU (av y) bc) ax) (gD dt)) (hg (aq (c (ae.1.imp eC) λp U=>ao.bt p ((ae.2.1 p).mp U)) (aF y))) (λa k=>k.at dt) (λC Z O k s=>?_) λaV A2 A3 A4=>?_
  ·have h:=k.at (eQ ao.d);exact s O (eL (aU (av y) (aU (fo (av y) (av y) (.Z h) (nA h KG (SO ao.bt ((ae.2.1 C).mp Z)))) bc)) hq) .dd
  ·have I:aM cI ah aV:=aM.cS.trans A3;exact s aV _ r R (ep (P.b y) y (bv (fX sj) (bv w (fy A2.ev))) (.inl y)) (ao.fw.k I) (ao.k.trans I.of) ae.1 (λC=>(ae.2.1 C).trans (ao.EM C)) A4 λC Z=>⟨ao.bt C ((ae.2.1 C).mp Z),I.at (ao.l C ((ae.2.1 C).mp Z)).2⟩
end
noncomputable def dM(a b:Nat):Ordering:=if a<b then .lt else if b<a then .gt else .eq
theorem oA(a:Nat):dM a a=.eq:=by unfold dM;rw[bV (ic _),bV (ic _)]
theorem g8:∀a,a<5->∀b,b<5->V.bH (ce a) (ce b)=dM a b:=by decide
theorem AP(a b:Nat):V.bH (am a) (am b)=dM a b:=by
 rw[V.sZ];show ec (ec (kz 1 1) (ec (kz a b) .eq)) .eq=_;unfold kz dM;by_cases h:a<b
 ·rw[cg h,cg (lH.mpr h)];rfl
 ·rw[bV h,bV λq=>h (lH.mp q)];by_cases au:b<a
  ·rw[cg au,cg (lH.mpr au)];rfl
  ·rw[bV au,bV λq=>au (lH.mp q)];rfl
noncomputable def ij:List Nat->List Nat->Ordering
|[],[]=>.eq
|[],_::_=>.lt
|_::_,[]=>.gt
|a::as,b::g=>ec (dM a b) (ij as g)
theorem Qg{a:List Nat}:∀{b:List Nat},(∀x∈a,x<5)->(∀x∈b,x<5)->V.hA (a.map ce) (b.map ce)=ij a b:=by
 induction a with
 |nil=>intro b _ _;cases b with
  |nil=>rfl
  |cons=>rfl
 |cons x a F=>intro b ab ac;cases b with
  |nil=>rfl
  |cons Q b=>show ec (V.bH (ce x) (ce Q)) (V.hA (a.map ce) (b.map ce))=_;rw[g8 x (ab x (.head _)) Q (ac Q (.head _)),F (λba j=>ab ba (.tail _ j)) λba j=>ac ba (.tail _ j)];rfl
theorem sX(h:dM a b=.eq):a=b:=by
 unfold dM at h;by_cases ab:a<b
 ·rw[cg ab]at h;exact nomatch h
 ·rw[bV ab]at h;by_cases ac:b<a
  ·rw[cg ac]at h;exact nomatch h
  ·exact mh (ib ac) (ib ab)
theorem FK{a:List Nat}:∀{b:List Nat},ij a b=.eq->a=b:=by
 induction a with
 |nil=>intro b h;cases b with
  |nil=>rfl
  |cons=>cases h
 |cons x a F=>intro b h;cases b with
  |nil=>cases h
  |cons Q b=>rw[sX (qG h).1,F (qG h).2]
theorem acj(a:List Nat):ij a a=.eq:=by
 induction a with
 |nil=>rfl
 |cons x a F=>exact(congr (bA ec (oA x)) F:ec (dM x x) (ij a a)=_)
theorem T.uc(t s:T):V.bH t.key s.key=ec (dM t.size s.size) (ij t.Y s.Y):=by
 rw[t.Bh,s.Bh];show ec (V.bH (am t.size) (am s.size)) (ec (V.hA (t.Y.map ce) (s.Y.map ce)) (ec (V.hA _ _) .eq))=_;rw[AP,Qg t.yk s.yk];cases h:ij t.Y s.Y with
 |eq=>
  obtain rfl:=T.ug (FK h);have:∀l:List Nat,V.hA (l.map am) (l.map am)=.eq:=λl=>by
   induction l with
   |nil=>rfl
   |cons x l F=>show ec (V.bH (am x) (am x)) _=_;rw[F,AP,oA];rfl
  show ec _ (ec .eq (ec (V.hA ((t.Y.map dN).map am) ((t.Y.map dN).map am)) .eq))=_;rw[this];rfl
 |lt=>rfl
 |gt=>rfl
theorem T.RO(h:T.le t s=ak)(U:t.size=s.size):ij t.Y s.Y≠.gt:=by unfold T.le V.le at h;rw[T.uc,U,oA]at h;exact bne_iff_ne.mp h
theorem ach{a b w:List Nat}:ij (w++C::a) (w++p::b)≠.gt->C<=p:=by
 induction w with
 |nil=>exactλh=>ib λq=>h (by
   show ec (dM C p) _=_;unfold dM;rw[bV (fP.mpr (dK q)),cg q];rfl)
 |cons x w F=>exactλh=>F λq=>h (congr (bA ec (oA x)) q:ec (dM x x) (ij (w++C::a) (w++p::b))=_)
theorem JH{w a:List Nat}:(w++C::a).getD (D w) 0=C:=by rw[la,iN (cu _),kb];rfl
theorem abi{w a:List Nat}:(w++C::a).take (w++[p]).length=w++[p]↔C=p:=by
 have:(w++C::a).take (w++[p]).length=w++[C]:=by
  rw[show w++C::a=(w++[C])++a from(ha w [C] a).symm];exact WO (by rw[cp,cp];rfl)
 exact this▸⟨λe=>(fH (zh e)).1,λe=>e▸y⟩
theorem IQ{aD:List (List Nat)}{w x:List Nat}(J:∀x∈aD,D x=n)(m:D w<n)(Z:x∈jq w aD):∃C a,x=w++C::a:=by
 have h:=ya.mp Z;have e:=uY (D w) x;rw[h.2]at e;cases F:x.drop (D w)with
 |nil=>rw[F,eF]at e;exact aG (J x h.1) (eC (e▸m))
 |cons C a=>exact⟨C,a,F▸e.symm⟩
theorem PM{aD:List (List Nat)}{w:List Nat}(J:∀x∈aD,D x=n)(m:D w<n)(C:Nat):jq (w++[C]) aD=(jq w aD).filter λx=>x.getD (D w) 0==C:=by
 unfold jq;rw[GY];refine GW λx Z=>?_;by_cases ab:x.take (D w)=w
 ·refine(IQ J m (ya.mpr ⟨Z,ab⟩)).elim λp h=>h.elim λa e=>?_;rw[decide_eq_true ab,LS,e,JH];exact tB.mpr (decide_eq_true_iff.trans (abi.trans beq_iff_eq.symm))
 ·rw[decide_eq_false ab,LR];refine decide_eq_false λq=>ab ?_;have:=bA (Hi (D w)) q;rw[List.take_take,cp,sA (dP _ _),Hj]at this;exact this
theorem c?{aD:List (List Nat)}{w:List Nat}(t:aD.Pairwise λx Q=>ij x Q≠.gt)(J:∀x∈aD,D x=n)(m:D w<n)(W:os.Pairwise (·<·))(h:∀C,jq (w++[C]) aD≠[]->C∈os):jq w aD=os.flatMap λC=>jq (w++[C]) aD:=by
 refine(d4 (f:=λx=>x.getD (D w) 0) W (wF (λ{x Q} Z Y q=>?_) (t.sublist pT)) λx Z=>h _ λe=>?_).trans (vP λC=>(PM J m C).symm)
 ·refine(IQ J m Z).elim λC u=>u.elim λa u=>(IQ J m Y).elim λp H=>H.elim λb H=>?_;rw[u,H]at q⊢;exact aq (fi JH) (aq (ach q) (fi JH.symm))
 ·rw[PM J m]at e;exact afk (e▸jw.mpr ⟨Z,beq_self_eq_true _⟩:x∈[])
section
variable{w u:List Nat} {t:T}
theorem aaY{w:List Nat}:∀{u:List Nat} {ai:List T},cV ai=w++u->∃dZ,cV dZ=u:=by
 induction w with
 |nil=>exactλ{u ai} h=>⟨ai,h⟩
 |cons C w F=>
  intro u ai h;cases ai with
  |nil=>exact aG h.symm (ju _ _)
  |cons t ai=>rw[ux,t.mC]at h;exact F (ai:=t.X++ai) (rS.trans ((fH h).2))
theorem l9(h:cV dZ=u)(au:∃ai,cV ai=C::u):∃s dq,dZ=s.X++dq/\s.op=C/\cV (s::dq)=C::u:=au.elim λai e=>by
 cases ai with
 |nil=>exact aG e.symm (ju _ _)
 |cons s dq=>have q:=e;rw[ux,s.mC]at q;have q:=fH q;exact⟨s,dq,tk (by rw[h,rS];exact q.2.symm),q.1,e⟩
theorem Tw{ai:List T}{t:T}:((t::ai).map T.J).reverse=(ai.map T.J).reverse++[t.J]:=by rw[jv,MV]
noncomputable def vU(eH:Nat)(dD:V)(fh:Nat)(cF bO bt:Option V):bk:=[A (.J eH),A dD,A (.J fh),cF,bO,bt]
theorem aM.past{b:Nat}(k:aM F aL z)(bI:aM (·≠b) z O)(h:D aL<=b):aM F aL O:=⟨aq k.le bI.le,λa C f e=>bI.get a C (λq=>aG (fA e) (fP.mpr (q▸h))) (k.get a C f e)⟩
noncomputable def Rt:List S:=[.pv 5 (.dy (.W 0) .bE (.bR "range" [(.J 4)]) [] (.di (.eO (.J 1) "pop" [])) [aj,A 2]),.fY (.eO (.J 2) "append" [(.cb .Add (.Y [(.J 3)]) (.bR "tuple" [(.J 5)]))])]
def yZ(s:T)(dq:List T)(fh:Nat)(aL:aA)(r:List Nat)(l:List V)(z:aA):Prop:=∀{P:Prop},(∀{a b:List T},aM (·≠fh) aL z->s.X=a++b->l=a.map T.J->D b=D r->z[fh]?=A (.W ((b++dq).map T.J).reverse)->P)->P
theorem yZ.mk{s:T}{dq:List T}{aL:aA}{r:List Nat}{z:aA}{a b:List T}(h:aM (·≠fh) aL z)(Z:s.X=a++b)(Y:l=a.map T.J)(J:D b=D r)(X:z[fh]?=A (.W ((b++dq).map T.J).reverse)):yZ s dq fh aL r l z:=λe=>e h Z Y J X
theorem r9(P:cq B){dD:V}{s:T}{dq:List T}(F:z[fh]?=A (.W ((s.X++dq).map T.J).reverse))(W:(s.X++dq).length<=1000)(d:∀O C,gb B n Rt (vU eH dD fh (A (ce s.op)) (A (am (dN s.op))) bt) z .X (vU eH dD fh (A (ce s.op)) (A (am (dN s.op))) C) O->O[fh]?=A (.W ((s::dq).map T.J).reverse)->aM (·≠fh) z O->False):False:=by
 have R:fh≠D z:=eC (fA F);have X:dN s.op<=cZ:=ei (aq (kv _) (aF y));have Q:∀{a b:List T},s.X=a++b->(b++dq).length<=1000:=λe=>by
  rw[e,ha,cp]at W;exact aq (gF _ _) W
 refine sg (B:=B) (n:=n) (dc:=[aj,A 2]) (ax:=[A (.J fh)]) (N:=vU eH dD fh (A (ce s.op)) (A (am (dN s.op))) bt) (z:=z) (k:=.bE) (e:=.bR "range" [(.J 4)]) (bP:=.eO (.J 1) "pop" []) (aS:=fz (dN s.op)) (g:=am)
  (ao:=yZ s dq fh z) y (xt (av y) X) (by rw[iA];exact X) (λc c c c=>trivial) (yZ.mk (a:=[]) .cS y y (((iA ..)).symm▸s.lu) (eQ F)) (λx r l O j aE bI=>j λ{a b} k Y bq p Z=>?_) λah l M j br=>j λ{a b} aY Y bq p Z=>?_
 ·cases b with
  |nil=>exact aG p.symm (iP _)
  |cons q b=>rw[MF,Tw]at Z;have I:s.X=(a++[q])++b:=Y.trans (ha a [q] b).symm;exact bI _ q.J (iL (av y) (.pop Z) bc (LV Z (by rw[Hf,bK];exact er (Q I) (aF y)))) (fL aE R) (yZ.mk ((k.gN λh=>h y).set (cu _)) I ((eI ..)▸bq▸y) (ip p) (fL (gR Z) R.symm))
 ·obtain rfl:=ko p;rw[bq,←(Y.trans (eF a))]at br;have U:D s.X<=2:=s.lu▸kv _;refine d _ _ (bv M.xy (bv (jR (iL (av y) (.append Z) (aU (en (ft:=.Add) (eL (aU (av (B:=B) (n:=n) (i:=3) (N:=vU eH dD fh (A (ce s.op)) (A (am (dN s.op))) (A (.J (D z)))) (z:=ah) y) bc) hL) (gV rv (aU (av (i:=5) y) bc) (sh br (by rw[bK];exact ei (aq U (aF y))))) (oj (l:=[ce s.op]) (((bK ..)).symm▸ei (aq (gE U 1) (aF y))))) bc) (qO Z (by rw[Hf,bK];exact aq (Q Y) (aF y))))) eW)) ?_ (aY.gN λh=>h y);rw[gR Z,Tw,s.lC];rfl
noncomputable def FO(C:Nat):V:=.Y [ce C,am (dN C)]
def za(t:T)(eH b:Nat)(dD:V)(aL:aA)(r:List Nat)(N:bk)(z:aA):Prop:=∀{P:Prop},(∀{cF bO bt:Option V} {u:List Nat} {ai:List T},N=vU eH dD (D aL) cF bO bt->t.Y=r.reverse++u->cV ai=u->z[D aL]?=A (.W (ai.map T.J).reverse)->aM cI aL z->z[b]?=A (.W (t.Y.map FO))->P)->P
theorem za.mk{t:T}{b:Nat}{dD:V}{aL:aA}{r:List Nat}{z:aA}{u:List Nat}{ai:List T}(h:N=vU eH dD (D aL) cF bO bt)(Z:t.Y=r.reverse++u)(Y:cV ai=u)(J:z[D aL]?=A (.W (ai.map T.J).reverse))(X:aM cI aL z)(W:z[b]?=A (.W (t.Y.map FO))):za t eH b dD aL r N z:=λe=>e h Z Y J X W
theorem s_(P:cq B)(m:z[eH]?=A (.W (t.Y.map ce)))(Q:t.size<64)(d:∀O,dU B (n+1) 14 [.J eH,.Y ((t.Y.map dN).map am)] z t.J O->aM cI z O->False):False:=by
 have ba:=VE (B:=B) (n:=n) (av (i:=0) (N:=vU eH (.Y ((t.Y.map dN).map am)) (D z) aj aj aj) (z:=z++[.W []]) y) (av (i:=1) y) (eQ m) (by rw[bK,bK,bK]) (Kg t.nk) (pG Q);have I:((t.Y.map ce).zip ((t.Y.map dN).map am)).map (λp=>V.Y [p.1,p.2])=t.Y.map FO:=by
  rw[ed,MZ,ed];rfl
 rw[I]at ba;have H:=ZL ba (Wg dt);rw[←List.map_reverse]at H;have M:cV [t]=t.Y:=eF _;refine II (B:=B) (n:=n) (cQ:=.Y [3,4]) (b:=Rt) (aS:=t.Y.reverse) (g:=FO) (ao:=za t eH (z++[cT.W []]).length (.Y ((t.Y.map dN).map am)) z) H (λx x x j=>j λx x x x x h=>h)
  (za.mk (ai:=[]) y ((List.reverse_reverse ..).symm.trans ((eF _).symm)) y (eQ dt) aM.cS.dS dt) (λC r N aV j k=>j λ{cF bO bt u ai} e Z Y X U R=>?_) λbY O w j=>j λ{cF bO bt u ai} e Z Y X U R=>?_
 ·obtain rfl:=e;rw[MV,ha]at Z;refine(l9 Y (aaY (ai:=[t]) (w:=r.reverse) (u:=C::u) (M.trans Z))).elim λs q=>q.elim λdq q=>?_;obtain rfl:=q.1;obtain rfl:=q.2.1;refine r9 (n:=n) (eH:=eH) (dD:=.Y ((t.Y.map dN).map am)) (bt:=bt) P X (aq (BQ _) ?_) λcD C W F L=>k _ _ cD (.Y (is:=[3,4]) .Y y) W (za.mk y Z q.2.2 F (U.past L (cu _)) (L.get _ _ (by rw[cp];exact zA _) R));have h:=bA D Z;rw[cp,cp]at h;rw[show eS (s.X++dq)=D u from bA D Y];exact aq (aq (gF _ _) (aq (gF _ _) (fi h.symm))) (aq (dK Q) (aF y))
 ·obtain rfl:=e;obtain rfl:=tk (Y.trans ((show t.Y=u from Z).symm.trans M.symm));exact d O (ep (P.b y) y (bv (fX (gB bc (cW _))) (bv w (fy (fo (av y) cE (.W X) (nB X y y))))) (.inl y)) U
end
section
variable{k left K:Nat} {aa:List bl} {w:List Nat} {E:List (Nat×List Nat)} {R:Nat->Nat} {aD:List (List Nat)}
theorem IX:hI.lp≠.X:=nofun
noncomputable def pI(aH c n k ej eH:Nat)(cj cC eo dQ:Option V):bk:=[A (.J aH),A (am c),A (am n),A (am k),A (.J ej),A (.J eH),cj,cC,eo,dQ]
noncomputable def Sz:afe:=.bR "sum" [.dy (.Y [0,1]) .bE (.J 8) [] (.di (.bZ (.J 3) 21 [(.J 0),(.cb .Sub (.J 2) (.X 1))])) [aj,aj,A 6,A 0]]
noncomputable def Ug(aa:List bl)(L:Nat->Nat)(left:Nat)(e:List (List Nat)):Nat:=(e.map λax=>cA (cs aa L) ax left).sum
theorem G!(P:cq B)(Q:eh (cs aa L))(az:ek aQ aH aP aO aa L z)(H:left<=3)(I:left+8<=bC){b:Nat}{Z:List (List Nat)}(al:z[b]?=A (.W (Z.map (oP dD))))(r:∀ax∈Z,mq aa L ax/\D ax<=1000)(x:D Z<=10000)(d:∀O,bW B bC Sz (pI aH c n k ej eH (A (am (left+1))) cC (A (.J b)) dQ) z (am (Ug aa L left Z)) O->ek aQ aH aP aO aa L O->aM (·≠aP) z O->False):False:=by
 have X:D z≠aP:=fU az.lt.2.1;refine Gi (B:=B) (n:=bC) (cQ:=.Y [0,1]) (dc:=[aj,aj,A 6,A 0]) (N:=pI aH c n k ej eH (A (am (left+1))) cC (A (.J b)) dQ) (z:=z) (k:=.bE) (e:=.J 8) (bP:=.bZ (.J 3) 21 [(.J 0),(.cb .Sub (.J 2) (.X 1))]) (aS:=Z) (g:=oP dD) (f:=λax=>am (cA (cs aa L) ax left)) (ay:=λax=>[A (.Y (ax.map am)),A (.Y (dD.map am)),A (am (left+1)),A (.J aH)])
  (ao:=λO=>ek aQ aH aP aO aa L O/\aM (·≠aP) z O) (λax z=>DW y) (ff (av y) (gD al)) (hg x) (λO h=>h.2.get _ _ (az.kS al).2 al) ⟨az.k .cS,.cS⟩ (λO l h=>⟨h.1.set az.lt.2.2 (fU az.lt.1) X,h.2.set (cu _)⟩)
  (λax Y O l j aE bI=>?_) λah F j br=>?_
 ·exact ek.Fi P Q left (aq H (aF y)) ax O (r ax Y).1 (r ax Y).2 j.1 λcD W v U=>bI cD (eu (av y) j.1.c y (P.m y) (aU (av y) (aU (en (av y) cE (kp (i:=left+1) (j:=1) (gF _ _))) bc)) (W.mono (jo I))) ⟨v,j.2.trans U⟩ (U.get _ _ X aE)
 ·refine d ah (gV IW (aU F.ev bc) (LZ ?_)) j.1 j.2;show ah[D z]?=_;rw[ed];exact br
noncomputable def Sx:List S:=[.ea 9 Sz,.fc (.bH .Lt (.J 3) (.J 9)) [.fY (.eO (.J 5) "append" [(.J 7)]),.ea 4 (.J 8),.lp] [],.ea 3 (.cb .Sub (.J 3) (.J 9))]
noncomputable def K_(R:Nat->Nat)(C:Nat):V:=.Y [ce C,.J (R C)]
structure Xn(aa:List bl)(L:Nat->Nat)(dD w:List Nat)(left:Nat)(E:List (Nat×List Nat))(R:Nat->Nat)(aD:List (List Nat))(z:aA)(C:Nat):Prop where
 l:z[R C]?=A (.W ((dC C E).map (oP (dD++[dN C]))))
 r:∀ax∈dC C E,mq aa L ax/\D ax<=1000
 n:(dC C E).length<=10000
 s:Ug aa L left (dC C E)=(jq (w++[C]) aD).length
structure Xo(aQ aH aP aO:Nat)(aa:List bl)(L:Nat->Nat)(eH:Nat)(w os:List Nat)(aD:List (List Nat))(k:Nat)(z O:aA)(C bI:Nat):Prop where
 mem:C∈os
 xA:(os.flatMap λC=>jq (w++[C]) aD)[k]?=(jq (w++[C]) aD)[bI]?
 lt:bI<(jq (w++[C]) aD).length
 fw:ek aQ aH aP aO aa L O
 cz:aM (λa=>a≠aP/\a≠eH) z O
 Y:O[eH]?=A (.W ((w++[C]).map ce))
theorem G'(P:cq B)(Q:eh (cs aa L))(e:left<=3)(a:left+8<=bC)(m:D w<=4)(j:aQ<=eH)(os:List Nat):∀(k:Nat) (z:aA) (cC eo dQ:Option V),(∀C∈os,Xn aa L dD w left E R aD z C)->k<(os.flatMap λC=>jq (w++[C]) aD).length->ek aQ aH aP aO aa L z->z[eH]?=A (.W (w.map ce))->z[be]?=A (.W v)->(∀O C bI A0 A1 A2,qS B bC (λz=>z[be]?=A (.W v)) (.Y [7,8]) Sx .X (pI aH c n bI (R C) eH (A (am (left+1))) A0 A1 A2) O (os.map (K_ R)) (pI aH c n k ej eH (A (am (left+1))) cC eo dQ) z->Xo aQ aH aP aO aa L eH w os aD k z O C bI->False)->False:=by
 induction os with
 |nil=>exactλk z x x x x U x x x x=>aG U (mO _)
 |cons C os F=>
  intro k z cC eo dQ t U az r W d;have h:=t C (.head _);refine G! (c:=c) (n:=n) (k:=k) (ej:=ej) (eH:=eH) (cC:=A (ce C)) (dQ:=dQ) P Q az e a h.l h.r h.n λah I q aY=>?_;rw[h.s]at I;have Z:=aY.get _ _ (az.kS r).2 r;have s:=av (B:=B) (n:=bC) (i:=3) (N:=pI aH c n k ej eH (A (am (left+1))) (A (ce C)) (A (.J (R C))) (A (am (jq (w++[C]) aD).length))) (z:=ah) y;refine(Dc k (jq (w++[C]) aD).length).elim (λH=>?_) λY=>?_
  ·have p:=jR (iL (av (B:=B) (n:=bC) (i:=5) (N:=pI aH c n k ej eH (A (am (left+1))) (A (ce C)) (A (.J (R C))) (A (am (jq (w++[C]) aD).length))) (z:=ah) y) (.append Z) (aU (av (i:=7) y) bc) (qO Z (gu (ei (aq m (aF y))))));refine d _ C k _ _ _ (VK (f:=.lp) W (.Y (is:=[7,8]) .Y y) (bv (fX I) (lE (ku (DH s (av (i:=9) y) H) (bv p (bv (fX (av (i:=8) y)) (lE a! IX)))) IX)) IX) ⟨.head _,?_,H,q.set j (q.kS Z).1 (q.kS Z).2,(aY.Z λx h=>h.1).gN λh=>h.2 y,?_⟩
   ·rw[sv,jY H]
   ·rw[gR Z,eI];rfl
  ·rw[sv,cp]at U;refine F (k-(jq (w++[C]) aD).length) ah (A (ce C)) (A (.J (R C))) (A (am (jq (w++[C]) aD).length)) (λC u=>have g:=t C (.tail _ u);{g with l:=aY.get _ _ (az.kS g.l).2 g.l}) (Nat.sub_lt_left_of_lt_add Y U) q Z (aY.get _ _ (az.kS W).2 W) λO b bI x x x A3 J=>d O b bI _ _ _ (Mm W (.Y (is:=[7,8]) .Y y) (bv (fX I) (bv (hQ (As s (av (i:=9) y) (fP.mpr Y))) (bv (fX (en (av y) (av y) (kp Y))) eW))) A3) {J with mem:=.tail _ J.mem,xA:=?_,cz:=(aY.Z λx h=>h.1).trans J.cz};rw[sv,iN Y];exact J.xA
noncomputable def xG:Nat->List Nat
|0=>[]
|G+1=>(G+1)::xG G
theorem Tz(n:Nat):pL (n:Int) 0 (-1)=(xG n).map am:=by
 have e:lY (n:Int) 0 (-1)=n:=by
  cases n with
  |zero=>rfl
  |succ n=>unfold lY;rw[bV (by decide),cg (Mt.mpr (iC n)),Wd,CA,CC,CB];rfl
 have s:∀G k,G+k=n->(lK k G).map (λ(i:Nat)=>V.X ((n:Int)+(-1)*i))=(xG G).map am:=λG=>by
  induction G with
  |zero=>exactλx x=>y
  |succ G F=>intro k h;rw[List.range'_succ,jv,F (k+1) ((mi G k).symm.trans h),←h,GK,Int.neg_mul,Mx,VQ];rfl
 unfold pL;rw[e,WL];exact s n 0 rfl
theorem aba{bw:Type}{l:List bw}{f:bw->Nat}(h:∀x∈l,1<=f x):D l<=(l.map f).sum:=by
 induction l with
 |nil=>exact cu _
 |cons x l F=>rw[jv,MY,iz,hN];exact ia (h x (.head _)) (F λQ Y=>h Q (.tail _ Y))
theorem Ba{bw gq:Type}{l:List bw}{f:bw->List gq}{b:Nat}(h:∀x∈l,(f x).length<=b):(l.flatMap f).length<=D l*b:=by
 induction l with
 |nil=>exact cW _
 |cons x l F=>rw[sv,cp,iz,Hr,hN];exact ia (F λQ Y=>h Q (.tail _ Y)) (h x (.head _))
structure IE(g:eE)(c n:Nat)(aD:List (List Nat)):Prop where
 aa:aD.Nodup
 mem:∀u,u∈aD↔rr g [c] u/\D u=n
 ord:aD.Pairwise λx Q=>ij x Q≠.gt
theorem rq.short(Q:eh (cs aa L))(h:rq (cs aa L) c n w bi)(m:D w<=n)(t:IE (cs aa L) c n aD):D bi<=D aD:=aq (aba (f:=λax=>cA (cs aa L) ax (n-D w)) λax l=>(Kw Q).mpr ((h.some ax l).imp λu q=>⟨q.2,(CZ (D w) _).symm.trans (bA (·-D w) q.1)⟩)) (h.count Q m t.aa t.mem▸zj _ _)
theorem ek.C_(P:cq B)(az:ek aQ aH aP aO aa L z)(F:d<D aa/\L d=d):(dI aa L d).length<=18:=bp λZ=>az.bz.Bt (B:=B) (n:=0) P az.na F.1 λx x x x x h x x=>Z (F.2▸h)
theorem c!{x H:List Nat}(h:x∈jq H aD):x∈aD/\H++x.drop (D H)=x:=by have e:=uY (D H) x;rw[(ya.mp h).2]at e;exact⟨(ya.mp h).1,e⟩
theorem acf{M:List (List Nat)}(h:M.map (oP dD)=w.map ce):M=[]:=by
 cases M with
 |nil=>rfl
 |cons=>cases w with
  |nil=>exact aG h (ju _ _)
  |cons=>cases h
structure ra(aQ aH aP aO:Nat)(aa:List bl)(L:Nat->Nat)(c n K eH:Nat)(aD:List (List Nat))(aL:aA)(G:Nat)(w:List Nat)(bi:List (List Nat))(k ej:Nat)(z:aA):Prop where
 fw:ek aQ aH aP aO aa L z
 cz:aM (λa=>a≠aP/\a≠eH) aL z
 J:D w+G=n
 yJ:rq (cs aa L) c n w bi
 xA:aD[K]?=(jq w aD)[k]?
 lt:k<(jq w aD).length
 Sa:z[ej]?=A (.W (bi.map (oP (w.map dN))))
 lo:z[eH]?=A (.W (w.map ce))
 rW:∀ax∈bi,mq aa L ax/\D ax<=1+2*D w
noncomputable def Sy:List S:=[.eP (.Y [7,8]) .bE (.bZ (.J 0) 26 [(.J 4),(.J 6)]) Sx]
theorem k1(P:cq B)(ao:ra aQ aH aP aO aa L c n K eH aD aL G w bi k ej z)(Y:∀ax∈bi,ax≠[])(F:D bi<=40):(dW (cs aa L) (dI aa L) left bi).length<=10000:=by
 refine aq (Ba (b:=18) λax l=>?_) (aq (qZ 18 F) (aF y));cases ax with
 |nil=>exact aG y (Y _ l)
 |cons d dp=>
  refine aq (Ba (b:=1) λx a=>?_) ((Ng ..)▸ao.fw.C_ P ((ao.rW _ l).1 d (.head _)));by_cases Z:0<cA (cs aa L) (x.2++dp) left
  ·exact fi (bA D (cg Z))
  ·exact aq (fi (bA D (bV Z))) (cW 1)
theorem Bl:(w++[C]).length=D w+1:=cp
theorem ra.tf(Z:eh (cs aa L))(ao:ra aQ aH aP aO aa L c n K eH aD aL G w bi k ej z)(U:∀ax∈bi,ax≠[])(C:Nat):∀ax∈dC C (dW (cs aa L) (dI aa L) left bi),mq aa L ax/\D ax<=1+2*(w++[C]).length:=λax l=>((Se (λc=>(Br Z).1) U).mp (ur.mp l)).elim λd h=>h.elim λdp h=>h.elim λaC h=>by have r:=ao.rW _ h.1;have e:ax=aC++dp:=h.2.2.1;have ac:D aC<=2:=(ao.fw.bz.kf h.2.1).2▸kv _;have cK:=r.2;rw[iz,hN 1]at cK;refine e▸⟨λQ Y=>(ew.mp Y).elim (ao.fw.bz.ys h.2.1 Q) λq=>r.1 Q (.tail _ q),?_⟩;rw[cp,Bl,Dh,hN (2*_)];exact aq (ia ac (lc cK)) (gF _ 1)
theorem ra.turn(P:cq B)(Q:eh (cs aa L))(A2:n<=4)(t:IE (cs aa L) c n aD)(A9:D aD<=40)(A8:aQ<=eH)(ao:ra aQ aH aP aO aa L c n K eH aD aL (G+1) w bi k ej z){ir:Nat}(B1:∀O B7 A5 bI A4 B2 B3 B4 B5,gb B 13 Sy (pI aH ir n k ej eH (A (am (G+1))) cC eo dQ) z .X (pI aH ir n bI A4 eH B2 B3 B4 B5) O->ra aQ aH aP aO aa L c n K eH aD aL G B7 A5 bI A4 O->False):False:=by
 have U:D w<n:=ao.J▸pZ (iC G);have d:=aq (dK U) A2;have g:G<=3:=lc (aq (ao.J▸gF (G+1) (D w)) A2);have F:=ao.yJ.ne U;have f:=k1 (left:=G) P ao F (aq (ao.yJ.short Q (dK U) t) A9);have s:=λC=>ao.yJ.Y Q (λc=>(Br Q).1) (left:=G) ao.J C;have I:=ao.tf (left:=G) Q F;have b:∀{H:List Nat},D H<=5->1+2*D H<=100:=λh=>aq (gE (nx 2 h) 1) (aF y);have lo:∀{C},(w++[C]).length<=5:=λ{C}=>Bl▸dn d;have bG:D w+1+G=n:=(mi _ _).trans ao.J;refine ao.fw.M_ (left:=G) (ej:=ej) (dD:=w.map dN) P Q g (λax l=>⟨(ao.rW ax l).1,WC.mpr (F ax l),aq (ao.rW ax l).2 (b (lg d))⟩) (gu (aq d (aF y))) ao.Sa f λah p os R A6 j aY B6 A3 i bq=>?_;have B0:=c? (os:=os) t.ord (λx Y=>((t.mem x).mp Y).2) U B6 λC u=>(List.exists_mem_of_ne_nil _ u).elim λx Y=>by
  have q:=c! Y;have r:=(t.mem x).mp q.1;exact(((s C).mem (x.drop (w++[C]).length) (by rw[←cp,q.2];exact r.2)).mpr (q.2.symm▸r.1)).elim λax h=>(A3 C).mpr ⟨_,ur.mp h.1,y⟩
 have E:=ao.xA;have A0:=ao.lt;rw[B0]at E A0;have A1:=aY.get _ _ (ao.fw.kS ao.lo).2 ao.lo;refine G' (c:=ir) (n:=n) (ej:=ej) (dD:=w.map dN) (eH:=eH) (be:=p) (left:=G) (bC:=13) P Q g (aq (iO g 8) (aF y)) d A8 os k ah cC eo dQ (λC u=>⟨(bq C u).2,λax l=>⟨(I C ax l).1,aq (I C ax l).2 (aq (b lo) (aF y))⟩,aq RJ f,?_⟩) A0 j A1 i λO C bI a a a A7 Z=>?_
 ·have h:=(s C).count Q (Bl▸U) t.aa t.mem;rw[Bl,show n-(D w+1)=G from bG▸(CZ ..)▸y]at h;exact h
 ·have h:=(bq C Z.mem).2;refine B1 O (w++[C]) (dC C (dW (cs aa L) (dI aa L) G bi)) bI (R C) _ _ _ _ (bv (Pw (ff (eu (av y) ao.fw.c y (P.m y) (aU (av y) (aU (av y) bc)) (A6.mono (aq (iO g 9) (aF y)))) (gD i)) A7) eW) ⟨Z.fw,(ao.cz.trans (aY.Z λa h=>h.1)).trans Z.cz,Bl▸bG,s C,E.trans Z.xA,Z.lt,?_,Z.Y,I C⟩;rw[eI];refine Z.cz.get _ _ ⟨(j.kS h).2,λe=>((A3 C).mp Z.mem).elim λx Y=>?_⟩ h;rw[e,A1]at h;have ba:=ur.mpr (Y.2▸Y.1:(C,x.2)∈dW (cs aa L) (dI aa L) G bi);rw[acf (cT.W.inj (dk h)).symm]at ba;exact afk ba
theorem UQ(h:IsL (cs aa L) c n r):IE (cs aa L) c n (r.map T.Y)where
 aa:=iV h.aa λz z z z=>T.ug
 mem u:=⟨λH=>(bJ.mp H).elim λt q=>q.2▸⟨⟨[t],⟨((h.mem t).mp q.1).1,trivial⟩,eF _⟩,((h.mem t).mp q.1).2⟩,λq=>q.1.elim λai p=>(KE p.1).elim λt g=>by
  have e:=p.2;rw[←g.2]at e;have e:t.Y=u:=(eF _).symm.trans e;exact e▸gd ((h.mem t).mpr ⟨g.1,(bA D e).trans q.2⟩)⟩
 ord:=oZ.mpr (wF (λ{x Q} Z Y q=>T.RO q (((h.mem x).mp Z).2.trans ((h.mem Q).mp Y).2.symm)) h.ord)
theorem ra.fin(Q:eh (cs aa L))(I:IsL (cs aa L) c n r){t:T}(m:r[K]?=A t)(ao:ra aQ aH aP aO aa L c n K eH (r.map T.Y) aL 0 w bi k ej z):w=t.Y/\bi=[[]]/\k=0:=by
 have aD:=UQ I;have h:D w=n:=ao.J;have F:∀ax∈bi,ax=[]:=λax l=>(ao.yJ.some ax l).elim λu q=>ZY.mp (ko (CY (q.1.trans ao.J.symm))▸q.2);refine⟨?_,?_⟩
 ·refine(qq ao.lt).elim λx Y=>?_;have q:=ya.mp (io Y);have e:=ao.xA;rw[Y,fI,m]at e;have U:=q.2;rw[h,←((aD.mem x).mp q.1).2,zu]at U;exact((dk e).trans U).symm
 ·have Z:=ao.lt;have g:=ao.yJ.aa;rw[←ao.yJ.count Q (fi h) aD.aa aD.mem,h,kb]at Z;clear ao m;cases bi with
  |nil=>exact aG Z (mO _)
  |cons ax bi=>
   cases bi with
   |nil=>obtain rfl:=F ax (.head _);rw[jv,CQ,SC]at Z;exact⟨y,wQ.mp Z⟩
   |cons dp bi=>exact aG ((F ax (.head _)).trans (F dp (.tail _ (.head _))).symm) ((qX.mp g).1 dp (.head _))
theorem Wk(t:T):gO 3 1 [V.Y ((t.Y.map dN).map am)]where
 rX:=iP _
 sd:=iP _
 kind k X:=cB.mp X▸y
 head _ k X:=by rw[t.mC]at X;exact cB.mp X▸⟨_,_,y,y⟩
 hF:=jS λH Z=>cB.mp Z▸KN (G:=99) _
 ok a aE b al:=by rw[cB.mp aE,cB.mp al];exact⟨_,y,KB _ _⟩
def zD(aQ aH aP aO:Nat)(aa:List bl)(L:Nat->Nat)(ir c n K eH:Nat)(aD:List (List Nat))(aL:aA)(r:List Nat)(N:bk)(z:aA):Prop:=∀{P:Prop},(∀{G:Nat} {w:List Nat} {bi:List (List Nat)} {q ej:Nat} {cj cC eo dQ:Option V},r=xG G->N=pI aH ir n q ej eH cj cC eo dQ->ra aQ aH aP aO aa L c n K eH aD aL G w bi q ej z->P)->P
theorem zD.mk{aQ aH aP aO:Nat}{aa:List bl}{L:Nat->Nat}{ir c n K eH:Nat}{aD:List (List Nat)}{aL:aA}{r:List Nat}{z:aA}{G:Nat}{w:List Nat}{bi:List (List Nat)}{ej:Nat}{cj cC eo dQ:Option V}(h:r=xG G)(Z:N=pI aH ir n q ej eH cj cC eo dQ)(Y:ra aQ aH aP aO aa L c n K eH aD aL G w bi q ej z):zD aQ aH aP aO aa L ir c n K eH aD aL r N z:=λe=>e h Z Y
theorem kY.G_(P:cq B)(Q:eh (cs aa L))(az:kY aQ aH aP aO aa L z)(Y:n<=4)(F:c<D aa){r:List T}(I:IsL (cs aa L) (L c) n r){t:T}(U:r[k]?=A t):Gc B aQ aH aP aO aa L 14 22 [.J aH,am c,am n,am k] t.J z:=λB7=>by
 have A2:=gQ U;have aD:=UQ I;refine az.many (n:=n) P Q Y F λah A3 A0 Z aY A6=>az.self.elim λcd h=>?_;rw[SA I]at A0;have C0:eB B 13 (.yi (.AL .LtE .Lt (.X 0) (.J 3) (.bZ (.J 0) 20 [(.J 1),(.J 2)]))) [A (.J aH),A (am c),A (am n),A (am k),aj,aj,aj,aj,aj,aj] z aW ah:=
  Iz (k:=ak) (Pp (aY:=ak) cE (av y) (decide_eq_true (sp k)▸Np (B:=B) (z:=z) (i:=0) (j:=(k:Int))) (λd=>⟨eu (av y) h.1 (h.2.2 20 (by decide)) (P.m y) (aU (av y) (aU (av y) bc)) (A0.mono (aq (iO Y 8) (by decide))),(decide_eq_true A2▸zG (B:=B) (z:=ah) (i:=k) (j:=D r))⟩) λh=>afh h.symm)
 have A4:=rt (i:=4) (j:=5) (a:=.W [(.Y [(.Y [(.bZ (.cy (.J 0) 15) 22 [(.J 1)])]),(.Y [])])]) (b:=.W []) (eL (B:=B) (n:=13) (N:=[A (.J aH),A (am c),A (am n),A (am k),aj,aj,aj,aj,aj,aj]) (z:=ah) (aU (gB (aU (eL (aU (eL (aU (eu (dR (av y) Z.c y (P.m y)) Z.bz.du.eA y (P.m y) (aU (av y) bc) (Z.bz.find (n:=11) P F)) bc) hL) (aU (eL bc (cW _)) bc)) hq) bc) hL) (aU (gB bc (cW _)) bc)) hq) (eG y);have R:jq [] (r.map T.Y)=r.map T.Y:=ML.mpr λd d=>y;have s:(ah++[cT.W [V.Y [.Y [am (L c)],.Y []]]]).length=D ah+1:=cp;generalize B3:(ah++[cT.W [V.Y [.Y [am (L c)],.Y []]]]).length=eH at A4 s;have B8:∀G,(xG G).length=G:=λG=>by
  induction G with
  |zero=>rfl
  |succ G B5=>exact bA (·+1) B5
 have B9:hY B 13 .bE (.bR "range" [(.J 2),(.X 0),(.X (-1))]) (pI aH c n k (D ah) eH aj aj aj aj) (ah++[.W [V.Y [.Y [am (L c)],.Y []]]]++[.W []]) ((xG n).map am) (λd=>True) (ah++[.W [V.Y [.Y [am (L c)],.Y []]]]++[.W []]):=
  Tz n▸ff (gV AF (aU (av y) (aU cE (aU cE bc))) (Vt y (by decide))) (zc (by rw[←Z',Tz,bK,B8];exact ei (aq Y (by decide))) (lT (ei (aq Y (by decide)))) y y (by decide))
 refine vA (i:=6) (b:=Sy) (ao:=zD aQ aH A3 aO aa L c (L c) n k eH (r.map T.Y) ah) B9 (λd d d d=>trivial)
  (zD.mk (G:=n) (w:=[]) (bi:=[[L c]]) (q:=k) y y ⟨(Z.k .cS).k .cS,aM.dS .cS,hu _,(⟨jm ..,λu d=>⟨λh=>h.elim λax q=>cB.mp q.1▸q.2,λq=>⟨_,.head _,q⟩⟩,λax v=>cB.mp v▸⟨t.Y,by rw[He,hu];exact((I.mem t).mp (io U)).2,((aD.mem _).mp (gd (io U))).1⟩⟩),by rw[R],by rw[R,bK];exact A2,eQ dt,B3▸dt,λax v=>cB.mp v▸⟨λx B4=>cB.mp B4▸⟨(Z.bz.fF.qD F),Z.bz.fF.nN c F⟩,cu _⟩⟩)
  (λx l N aV j bI=>j λ{G w bi B6 ej cj cC eo dQ} H bq ao=>?_) λbY O g j=>j λ{G w bi bI ej cj cC eo dQ} H bq ao=>?_
 ·obtain rfl:=bq;cases G with
  |zero=>exact aG H (ju _ _)
  |succ G=>refine(fH H).elim λB1 B2=>?_;obtain rfl:=B1;obtain rfl:=B2;exact ao.turn (ir:=c) (cC:=cC) (eo:=eo) (dQ:=dQ) P Q Y aD (by rw[bK];exact I.J Y) (s▸lg Z.lt.2.2) λcD C3 C1 B6 C2 d d d d g A8=>bI _ cD g (zD.mk y y A8)
 ·obtain rfl:=bq;cases G with
  |succ G=>exact aG H.symm (ju _ _)
  |zero=>
   have f:=ao.fin Q I U;obtain rfl:=f.2.1;obtain rfl:=f.2.2;have p:=ao.Sa;have lo:=ao.lo;rw[f.1]at p lo;refine Gh (B:=B) (n:=13) (N:=pI aH c n 0 ej eH cj cC eo dQ) (z:=O) (k:=.bE) (dc:=[aj,aj]) (ax:=[]) (aS:=[([]:List Nat)]) (cL:=λax=>.Y (ax.map am)) (dw:=λd=>.Y ((t.Y.map dN).map am)) (f:=λd=>.Y ((t.Y.map dN).map am)) (e:=.J 4) (bP:=.J 1) y
    (ff (av y) (gD p)) (ei (by decide:1<=100)) (λd k=>k.at p) (λq d z d k=>k z (av y) .dd) λcD A9 A1 B0=>?_
   have A5:=Gn (B:=B) (l:=[V.Y ((t.Y.map dN).map am)]) B0 (jm ..) (by decide:1<64) (Wk t);rw[show[V.Y ((t.Y.map dN).map am)].mergeSort V.le=[V.Y ((t.Y.map dN).map am)]from List.mergeSort_singleton _]at A5;refine s_ (n:=12) (t:=t) P ((aM.dS (iW:=[.W [V.Y ((t.Y.map dN).map am)]]) A1).at lo) (er ((((I.mem t).mp (io U)).2▸Y:t.size<=4)) (aF y)) λA7 cL dw=>?_;have E:aM cI O A7:=(aM.dS A1).trans dw;exact B7 A7 A3 (ep (P.b y) y (bv (hQ C0) (bv A4 (bv g (fy (jK (aU (av y) (aU (fo (gV pw (aU A9.ev bc) A5) (av y) (.W dt) (nB dt y y)) bc)) cL))))) (.inl y)) (ao.fw.k E) (IK aY A6 (⟨aq ao.cz.le E.le,λa C h e=>E.get a C trivial (ao.cz.get a C ⟨h,λq=>aG (fA e) (by rw[q,s];exact fP.mpr (ka _))⟩ e)⟩)) A6
end
abbrev fD:=List Nat
noncomputable def ix(a b:fD):Ordering:=ec (dM (D a) (D b)) (ij a b)
def gH(a b:fD):Prop:=ix a b=.lt
theorem rx:dM a b=.lt↔a<b:=by
 unfold dM;by_cases h:a<b
 ·rw[cg h];exact⟨λx=>h,λx=>y⟩
 ·rw[bV h];refine⟨λq=>?_,λq=>aG q h⟩;by_cases au:b<a
  ·rw[cg au]at q;cases q
  ·rw[bV au]at q;cases q
theorem Qa{b:Nat}(h:a<b):dM b a=.gt:=by unfold dM;rw[bV (fP.mpr (dK h)),cg h]
theorem Qb(a b:Nat):dM b a=(dM a b).swap:=(Dd a b).elim (λh=>by rw[rx.mpr h,Qa h];rfl) λh=>h.elim (λe=>by rw[e,oA];rfl) λh=>by rw[rx.mpr h,Qa h];rfl
theorem ack(a:fD):∀b:fD,ij b a=(ij a b).swap:=by
 induction a with
 |nil=>intro b;cases b<;>rfl
 |cons x a F=>
  intro b;cases b with
  |nil=>rfl
  |cons Q b=>show ec (dM Q x) (ij b a)=(ec (dM x Q) (ij a b)).swap;rw[BR,Qb x Q,F b]
theorem LG(a b:fD):ix b a=(ix a b).swap:=by unfold ix;rw[BR,Qb (D a),ack a]
theorem UN{a b:fD}(h:ix a b=.eq):a=b:=FK (qG h).2
theorem acu(a:fD):ix a a=.eq:=by unfold ix;rw[oA,acj];rfl
theorem pP{a:fD}:¬gH a a:=λh=>by unfold gH at h;rw[acu]at h;cases h
theorem acs(a b:fD):a=b\/gH a b\/gH b a:=by
 unfold gH;rw[LG a b];cases h:ix a b with
 |eq=>exact .inl (UN h)
 |lt=>exact .inr (.inl y)
 |gt=>exact .inr (.inr y)
theorem mb{p q:Ordering}:ec p q=.lt↔p=.lt\/(p=.eq/\q=.lt):=by cases p<;>cases q<;>decide
theorem RZ{p q r:Ordering}(ab:ec (dM a b) p=.lt)(ac:ec (dM b c) q=.lt)(h:p=.lt->q=.lt->r=.lt):ec (dM a c) r=.lt:=(mb.mp ab).elim (λbr=>mb.mpr (.inl (rx.mpr ((mb.mp ac).elim (λbG=>kH (rx.mp br) (rx.mp bG)) λw=>sX w.1▸rx.mp br)))) λW=>(mb.mp ac).elim (λbG=>mb.mpr (.inl (sX W.1▸bG))) λz=>mb.mpr (.inr ⟨by rw[sX W.1,sX z.1,oA],h W.2 z.2⟩)
theorem acl{a:fD}:∀{b c:fD},ij a b=.lt->ij b c=.lt->ij a c=.lt:=by
 induction a with
 |nil=>
  intro b c ab ac;cases c with
  |nil=>cases b with
   |nil=>cases ab
   |cons=>cases ac
  |cons=>rfl
 |cons x a F=>
  intro b c ab ac;cases b with
  |nil=>cases ab
  |cons Q b=>cases c with
   |nil=>cases ac
   |cons ba c=>exact RZ ab ac F
theorem uE{a b c:fD}(ab:gH a b)(ac:gH b c):gH a c:=RZ ab ac acl
theorem wo{a b:fD}(h:D a<D b):gH a b:=mb.mpr (.inl (rx.mpr h))
theorem FL{a b:fD}(h:gH a b):D a<=D b:=(mb.mp h).elim (λq=>dK (rx.mp q)) λq=>fi (sX q.1)
theorem acg{u H a:fD}:∀{b:fD},D a=D b->ij a b=.lt->ij (a++u) (b++H)=.lt:=by
 induction a with
 |nil=>
  intro b B h;cases b with
  |nil=>cases h
  |cons=>exact aG B.symm (iP _)
 |cons x a F=>
  intro b B h;cases b with
  |nil=>exact aG B (iP _)
  |cons Q b=>exact(mb.mp h).elim (λq=>mb.mpr (.inl q)) λq=>mb.mpr (.inr ⟨q.1,F (ip B) q.2⟩)
theorem aci{a u H:fD}(h:ij u H=.lt):ij (a++u) (a++H)=.lt:=by
 induction a with
 |nil=>exact h
 |cons x a F=>exact mb.mpr (.inr ⟨oA x,F⟩)
theorem LD{a b u:fD}(h:gH a b):gH (a++u) (b++u):=(mb.mp h).elim (λq=>wo (by rw[cp,cp];exact Na (rx.mp q) _)) λq=>mb.mpr (.inr ⟨by rw[cp,cp,sX q.1,oA],acg (sX q.1) q.2⟩)
theorem Cc{a u H:fD}(h:gH u H):gH (a++u) (a++H):=(mb.mp h).elim (λq=>wo (by rw[cp,cp];exact WV (rx.mp q) _)) λq=>mb.mpr (.inr ⟨by rw[cp,cp,sX q.1,oA],aci q.2⟩)
def hX(P:List fD)(x:fD):Prop:=x∈P\/(D P=3/\∀p∈P,gH p x)
structure jB(P:List fD):Prop where
 ord:P.Pairwise gH
 J:D P<=3
theorem jB.aa{P:List fD}(h:jB P):P.Nodup:=h.ord.imp λ{a b} (q:gH a b) (e:a=b)=>pP (a:=a) (by rw[←e]at q;exact q)
theorem vH{P l:List fD}{x:fD}(I:jB P)(B:l.Nodup)(bo:D l=3)(X:∀q∈l,hX P q)(W:∀q∈l,gH q x):D P=3/\∀p∈P,gH p x:=by
 by_cases h:∀q∈l,q∈P
 ·have b:=CI B h;refine⟨mh I.J (bo▸b),λp Z=>bp λJ=>?_⟩;have:=CI (l₁:=p::l) (jN.mpr ⟨λq=>J (W p q),B⟩) λq Y=>(ee.mp Y).elim (λe=>e▸Z) (h q);rw[iz,bo]at this;exact aG (aq this I.J) (by decide)
 ·exact(ade.mp h).elim λq Y=>have w:=adf.mp Y;have ba:=(X q w.1).resolve_left w.2;⟨ba.1,λp Z=>uE (ba.2 p Z) (W q w.1)⟩
noncomputable def yD(af:List fD):List fD:=(af.mergeSort λa b=>ix a b !=.gt).take 3
theorem act{a b:fD}(h:gH a b):ix b a=.gt:=by rw[LG a b,show ix a b=.lt from h];rfl
theorem LF{a b:fD}(h:(ix a b !=.gt)=ak):a=b\/gH a b:=(acs a b).imp_right λq=>q.elim id λq=>by rw[act q]at h;exact afh h
theorem acC(af:List fD)(B:af.Nodup):(af.mergeSort λa b=>ix a b !=.gt).Pairwise gH:=Wl (λa b ab ac=>(LF ab).resolve_left ac) (CT (le:=λa b=>ix a b !=.gt) (λa b c ab ac=>(LF ab).elim (λe=>e▸ac) λN=>(LF ac).elim (λe=>e▸ab) λZ=>by rw[show ix a c=.lt from uE N Z];rfl) (λa b=>by rw[LG a b];cases ix a b<;>rfl) af) ((wN _ _).symm.nodup B)
structure xw(af P:List fD):Prop where
 kF:jB P
 Z:∀p∈P,p∈af
 rA:∀q∈af,hX P q
theorem Uv{af:List fD}(B:af.Nodup):xw af (yD af):=by
 have u:=acC af B;have H:∀x,x∈af.mergeSort (λa b=>ix a b !=.gt)↔x∈af:=λx=>(wN _ _).mem_iff;unfold yD;generalize af.mergeSort (λa b=>ix a b !=.gt)=S at u H;refine⟨⟨u.sublist (CV _ _),Hg _ _⟩,λp z=>(H p).mp (wM z),λq Z=>?_⟩;have g:=(H q).mpr Z;rw[←uY 3 S]at g u;refine(ew.mp g).imp id λh=>⟨?_,λp z=>(uX.mp u).2.2 p z q h⟩
 have w:=CO h;rw[MR]at w;rw[tN];exact sA (dK (Nd w))
theorem xw.rF{af P l:List fD}{x:fD}(h:xw af P)(Y:x∈P)(B:l.Nodup)(bo:D l=3)(Z:∀q∈l,q∈af):∃q∈l,¬gH q x:=bp λJ=>pP ((vH h.kF B bo (λq u=>h.rA q (Z q u)) λq u=>bp λk=>J ⟨q,u,k⟩).2 x Y)
theorem jB.ext{P ae:List fD}(I:jB P)(Q:jB ae)(ab:∀x∈P,x∈ae)(ac:∀x∈ae,x∈P):P=ae:=GR (λa b z z p q=>aG (uE p q) pP) I.ord Q.ord ((zt I.aa Q.aa).mpr λx=>⟨ab x,ac x⟩)
noncomputable def BB(P M:List fD):List fD:=P.flatMap λp=>M.map (p++·)
theorem yb{P M:List fD}{x:fD}:x∈BB P M↔∃p∈P,∃l∈M,x=p++l:=gc.trans ⟨λh=>h.imp λp h=>⟨h.1,(bJ.mp h.2).imp λl q=>⟨q.1,q.2.symm⟩⟩,λh=>h.imp λp h=>⟨h.1,h.2.elim λl q=>bJ.mpr ⟨l,q.1,q.2.symm⟩⟩⟩
theorem i1{P M a:List fD}{x u:fD}(I:jB P)(r:jB M)(h:xw (BB P M) a)(X:hX P x)(Y:hX M u):hX a (x++u):=by
 refine X.elim (λX=>Y.elim (λY=>h.rA _ (yb.mpr ⟨x,X,u,Y,y⟩)) λw=>?_) λw=>?_
 ·exact .inr (vH h.kF (l:=M.map (x++·)) (iV r.aa λz z z z=>zh) (Kf w.1) (λq Z=>(bJ.mp Z).elim λl e=>e.2▸h.rA _ (yb.mpr ⟨x,X,l,e.1,y⟩)) λq Z=>(bJ.mp Z).elim λl e=>e.2▸Cc (w.2 l e.1))
 ·have:∃l∈M,l=u\/gH l u:=Y.elim (λh=>⟨u,h,.inl y⟩) λH=>(GV (show 0<D M by rw[H.1];decide)).imp λl B=>⟨B,.inr (H.2 l B)⟩
  exact this.elim λl B=>.inr (vH h.kF (l:=P.map (·++l)) (iV I.aa λz z z z=>ME) (Kf w.1) (λq Z=>(bJ.mp Z).elim λp e=>e.2▸h.rA _ (yb.mpr ⟨p,e.1,l,B.1,y⟩)) λq Z=>(bJ.mp Z).elim λp e=>e.2▸have N:gH (p++l) (x++l):=LD (w.2 p e.1)
   B.2.elim (λe=>e▸N) λe=>uE N (Cc e))
variable{P:List fD}
section
noncomputable def oM(af:List (List T)):List (List T):=(af.mergeSort λa b=>ix (cV a) (cV b)!=.gt).take 3
noncomputable def sb(af:List T):List T:=(af.mergeSort λa b=>ix a.Y b.Y !=.gt).take 3
theorem abB(af:List (List T)):(oM af).map cV=yD (af.map cV):=by unfold oM yD;exact(uW ..).trans (bA (Hi 3) (CP (f:=cV) (s:=λa b=>ix a b !=.gt) λx x x x=>y))
theorem abE(af:List T):(sb af).map T.Y=yD (af.map T.Y):=by unfold sb yD;exact(uW ..).trans (bA (Hi 3) (CP (f:=T.Y) (s:=λa b=>ix a b !=.gt) λx x x x=>y))
abbrev gx:=Nat->List T
noncomputable def fe(l:List T):List fD:=l.map T.Y
noncomputable def lx(P:List (List T))(l:List T):List (List T):=P.flatMap λai=>l.map λt=>ai++[t]
noncomputable def yC(M:gx)(P:List (List T))(aC:List Nat):List (List T):=aC.foldl (λP k=>oM (lx P (M k))) P
noncomputable def kX(M:gx)(aC:List Nat):List (List T):=yC M [[]] aC
noncomputable def ky(ns:Nat->List bl)(M:gx)(c:Nat):List T:=(ns c).flatMap λx=>(kX M x.2).map (gZ x.1)
noncomputable def il(ns:Nat->List bl)(M:gx)(c:Nat):List T:=sb (ky ns M c)
theorem SW{P:List (List T)}{l:List T}:(lx P l).map cV=BB (P.map cV) (fe l):=by unfold lx BB fe;rw[uU,wI];refine vP λai=>?_;rw[ed,ed];exact lb λt x=>rS.trans (bA (_++·) (eF _))
theorem ym{P:List (List T)}{l:List T}(I:P.Nodup)(B:l.Nodup):(lx P l).Nodup:=uv (λai x=>iV B λx x x x e=>(fH (zh e)).1) I λai x dZ x a ab ac=>by obtain⟨t,_,rfl⟩:=bJ.mp ab;obtain⟨s,_,e⟩:=bJ.mp ac;exact(Wo e y).1.symm
theorem UP{af:List (List T)}(h:af.Nodup):(af.map cV).Nodup:=iV h λx x x x=>tk
theorem UJ{af:List T}(h:af.Nodup):(fe af).Nodup:=iV h λx x x x=>T.ug
theorem kk{l:List T}{t:T}:t.Y∈fe l↔t∈l:=⟨λh=>by obtain⟨s,Z,e⟩:=bJ.mp h;exact T.ug e▸Z,gd⟩
theorem yf{af:List (List T)}(h:(af.map cV).Nodup):af.Nodup:=wG cV (λa b q e=>q (bA cV e)) h
theorem yE{af:List (List T)}(h:af.Nodup):xw (af.map cV) ((oM af).map cV):=abB af▸Uv (UP h)
def kG(M:gx):Prop:=∀c,jB (fe (M c))
theorem kG.aa{M:gx}(h:kG M)(c:Nat):(M c).Nodup:=wG T.Y (λa b q e=>q (bA T.Y e)) (h c).aa
theorem Ul{M:gx}(r:kG M):∀(aC:List Nat) {P:List (List T)},jB (P.map cV)->jB ((yC M P aC).map cV)
|[],_,h=>h
|k::aC,P,h=>Ul r aC (yE (ym (yf h.aa) (r.aa k))).kF
theorem EN:jB (([[]]:List (List T)).map cV):=⟨jm ..,by decide⟩
def yR(M:gx):List Nat->List T->Prop
|[],[]=>True
|k::aC,t::ai=>hX (fe (M k)) t.Y/\yR M aC ai
|_,_=>False
theorem abq{M:gx}(r:kG M):∀(aC:List Nat) {P:List (List T)} {dZ ai:List T},jB (P.map cV)->hX (P.map cV) (cV dZ)->yR M aC ai->hX ((yC M P aC).map cV) (cV (dZ++ai))
|[],P,dZ,[],_,h,_=>(eF ..)▸h
|k::aC,P,dZ,t::ai,I,h,X=>by
 have m:=yE (ym (yf I.aa) (r.aa k));have:=abq r aC (P:=oM (lx P (M k))) (dZ:=dZ++[t]) m.kF (rS▸(show cV [t]=t.Y from eF _)▸(i1 I (r k) (SW▸m) h X.1)) X.2;rw[ha]at this;exact this
|[],_,_,_::_,_,_,h=>h.elim
|_::_,_,_,[],_,_,h=>h.elim
theorem abt{M:gx}(r:kG M)(h:yR M aC ai):hX ((kX M aC).map cV) (cV ai):=abq r aC (dZ:=[]) EN (.inl (.head _)) h
def tH(M:gx)(aC:List Nat)(ai:List T):Prop:=D aC=D ai/\∀(i k:Nat) (t:T),aC[i]?=A k->ai[i]?=A t->t∈M k
theorem tH.cons{M:gx}{t:T}(h:t∈M k)(q:tH M aC ai):tH M (k::aC) (t::ai):=⟨bA (·+1) q.1,λi=>by
 cases i with
 |zero=>exactλbI fN o bq=>by cases o;obtain rfl:=dk bq;exact h
 |succ i=>exact q.2 i⟩
theorem abr{M:gx}(r:kG M)(aC:List Nat):∀{P:List (List T)} {gU:List T},jB (P.map cV)->gU∈yC M P aC->∃dZ∈P,∃ai,gU=dZ++ai/\tH M aC ai:=by
 induction aC with
 |nil=>exactλ{P gU} x h=>⟨gU,h,[],(eF _).symm,y,λi x x h=>aG (gQ h) (mO _)⟩
 |cons k aC F=>
  intro P gU I h;have m:=yE (ym (yf I.aa) (r.aa k));refine(F m.kF h).elim λdZ h=>h.2.elim λai q=>(bJ.mp (m.Z _ (gd h.1))).elim λs e=>?_;obtain rfl:=tk e.2;refine(gc.mp e.1).elim λp z=>(bJ.mp z.2).elim λt a=>⟨p,z.1,t::ai,?_,q.2.cons a.1⟩
  rw[q.1,←a.2,ha];rfl
theorem rY{M:gx}(r:kG M)(h:ai∈kX M aC):tH M aC ai:=(abr r aC EN h).elim λdZ h=>h.2.elim λt q=>by have e:=q.1;rw[cB.mp h.1]at e;exact(show ai=t from e)▸q.2
variable{g:eE} {M fb:gx}
def ny(g:eE)(ns:Nat->List bl):Prop:=∀c,(ns c).Nodup/\∀x,x∈ns c↔g c x
theorem Ko(r:kG M)(Q:eh g)(J:ny g ns){t:T}(h:t∈ky ns M c):∃x,g c x/\x.1=t.op/\x∈ns c/\t.X∈kX M x.2:=(gc.mp h).elim λx Z=>(bJ.mp Z.2).elim λai q=>by have O:=((J c).2 x).mp Z.1;have a:=Q.kf c x O;have e:=rQ a.1 ((rY r q.1).1▸a.2);exact⟨x,O,q.2▸e.1.symm,Z.1,by rw[←q.2,e.2];exact q.1⟩
theorem Um(r:kG M)(aC:List Nat):(kX M aC).Nodup:=yf (Ul r aC EN).aa
theorem JG{M:gx}(Z:∀c,∀t∈M c,dO g t c):∀{ai:List T},tH M aC ai->gI g aC ai:=by
 induction aC with
 |nil=>intro ai h;cases ai with
  |nil=>trivial
  |cons=>exact aG h.1.symm (iP _)
 |cons k aC F=>intro ai h;cases ai with
  |nil=>exact aG h.1 (iP _)
  |cons t ai=>exact⟨Z k t (h.2 0 k t y y),F ⟨ip h.1,λi=>h.2 (i+1)⟩⟩
theorem Qc(r:kG M)(W:eh g)(J:ny g ns)(U:∀c,∀t∈M c,dO g t c):(ky ns M c).Nodup:=by
 have Z:∀x∈ns c,∀ai∈kX M x.2,(gZ x.1 ai).op=x.1/\(gZ x.1 ai).X=ai:=λx X ai o=>have a:=W.kf c x (((J c).2 x).mp X);rQ a.1 ((rY r o).1▸a.2);refine uv (λx X=>iV (Um r _) λa aE b al e=>?_) (J c).1 λx X Q Y t ab ac=>(bJ.mp ab).elim λa aE=>(bJ.mp ac).elim λb al=>?_
 ·rw[←(Z x X a aE).2,←(Z x X b al).2,e]
 ·have p:=Z x X a aE.1;have q:=Z Q Y b al.1;rw[al.2,←aE.2]at q;exact jz (p.1.symm.trans q.1) (Cy W (JG U (rY r aE.1)) (JG U ((show a=b from p.2.symm.trans q.2)▸rY r al.1)))
theorem wu(r:kG M)(Q:eh g)(J:ny g ns)(Z:∀c,∀t∈M c,dO g t c):xw (fe (ky ns M c)) (fe (il ns M c)):=by have:=Uv (UJ (Qc (c:=c) r Q J Z));unfold il fe;rw[abE];exact this
theorem Gw(r:kG M)(Q:eh g)(J:ny g ns)(U:∀c,∀t∈M c,dO g t c){t:T}{x:bl}(W:g c x)(u:x.1=t.op)(X:yR M x.2 t.X):hX (fe (il ns M c)) t.Y:=by
 have m:=wu (c:=c) r Q J U;have s:∀ai∈kX M x.2,x.1::cV ai∈fe (ky ns M c):=λai o=>by
  have a:=Q.kf c x W;have e:=rQ a.1 ((rY r o).1▸a.2);have q:(gZ x.1 ai).Y∈fe (ky ns M c):=gd (gc.mpr ⟨x,((J c).2 x).mpr W,gd o⟩);rw[T.mC,e.1,e.2]at q;exact q
 rw[t.mC,←u];exact(abt r X).elim (λh=>(bJ.mp h).elim λai e=>e.2▸m.rA _ (s ai e.1)) λh=>.inr (vH m.kF (l:=((kX M x.2).map cV).map (x.1::·)) (iV (UP (Um r _)) λz z z z e=>(fH e).2) (Kf h.1) (λq Y=>(bJ.mp Y).elim λw Z=>(bJ.mp Z.1).elim λai o=>Z.2▸o.2▸m.rA _ (s ai o.1)) λq Y=>(bJ.mp Y).elim λw Z=>Z.2▸Cc (a:=[x.1]) (h.2 w Z.1))
def FY(M fb:gx):Prop:=∀c x,hX (fe (M c)) x->hX (fe (fb c)) x
theorem Qw{M:gx}:∀{ai:List T},D aC=D ai->(∀(i k:Nat) (t:T),aC[i]?=A k->ai[i]?=A t->hX (fe (M k)) t.Y)->yR M aC ai:=by
 induction aC with
 |nil=>intro ai h _;cases ai with
  |nil=>trivial
  |cons=>exact aG h.symm (iP _)
 |cons k aC F=>intro ai B h;cases ai with
  |nil=>exact aG B (iP _)
  |cons t ai=>exact⟨h 0 k t y y,F (ip B) λi=>h (i+1)⟩
theorem VF(r:kG M)(b:kG fb)(Z:eh g)(J:ny g ns)(W:∀c,∀t∈M c,dO g t c)(a:∀c,∀t∈fb c,dO g t c)(al:FY M fb){x:fD}(h:hX (fe (il ns M c)) x):hX (fe (il ns fb c)) x:=by
 have X:=wu (c:=c) r Z J W;have s:∀Q∈fe (il ns M c),hX (fe (il ns fb c)) Q:=λQ Y=>(bJ.mp (X.Z Q Y)).elim λt q=>(Ko r Z J q.1).elim λx h=>q.2▸have G:=rY r h.2.2.2
  Gw b Z J a h.1 h.2.1 (Qw G.1 λi k t o bq=>al k _ (.inl (kk.mpr (G.2 i k t o bq))))
 exact h.elim (s x) λh=>.inr (vH (wu (c:=c) b Z J a).kF X.kF.aa h.1 s h.2)
def GF(g:eE)(s:T):Prop:=∀d,dO g s d->∀l:List T,l.Nodup->(∀u∈l,u∈s.eR/\dO g u d)->D l<=3
def IC(s:T):Prop:=∀x Q,s=.b x Q->x.size+1<=2^14\/Q.size+1<=2^14
structure iS(g:eE)(ns:Nat->List bl)(M:gx):Prop where
 ok:kG M
 snd:∀c,∀t∈M c,dO g t c
 inv:∀c x,hX (fe (M c)) x->hX (fe (il ns M c)) x
 Z:∀c,∀t∈M c,∀u∈t.eR,∀d,dO g u d->hX (fe (M d)) u.Y
 Bd:∀c,∀t∈M c,∀s∈t.eR,GF g s
 BS:∀c,∀t∈M c,∀s∈t.eR,IC s
 low:∀c,M c=[]\/∃t∈M c,t.size+1<=2^(c+1)
noncomputable def oN(ns:Nat->List bl)(M:gx)(c:Nat):gx:=λd=>if d=c then il ns M c else M d
theorem uD:oN ns M c c=il ns M c:=cg y
theorem BZ(h:d≠c):oN ns M c d=M d:=bV h
theorem yw(t:T):t∈t.eR:=by rw[t.BO];exact .head _
theorem nQ{t u:T}:u∈t.eR↔u=t\/∃s∈t.X,u∈s.eR:=by rw[t.BO,ee,gc]
theorem Ud:∀(t u:T),u∈t.eR->u=t\/u.size<t.size:=λt=>by refine T.nc (P:=λt=>∀u,u∈t.eR->u=t\/u.size<t.size) (λt F u h=>(nQ.mp h).imp id λb=>b.elim λs R=>R.elim λZ h=>?_) t;rw[t.size_eq];exact pe (aq ((F s Z u h).elim (λe=>e▸cu _) dK) (oL Z))
theorem iS.better(h:iS g ns M):FY M (oN ns M c):=λd x Z=>by
 by_cases e:d=c
 ·rw[e,uD];exact h.inv c x (e▸Z)
 ·rw[BZ e];exact Z
theorem abp(r:kG M){aY X:Nat}{x Q u B:T}(h:[x,Q]∈kX M [aY,X])(ab:u∈M aY)(ac:B∈M X)(N:gH u.Y x.Y)(U:gH B.Y Q.Y):False:=by
 have O:=yE (af:=lx [[]] (M aY)) (ym (jm ..) (r.aa aY));have l:=yE (af:=lx (oM (lx [[]] (M aY))) (M X)) (ym (yf O.kF.aa) (r.aa X));have P:[x]∈oM (lx [[]] (M aY)):=by
  obtain⟨dZ,b,e⟩:=bJ.mp (l.Z _ (gd h));obtain rfl:=tk e;obtain⟨p,I,e⟩:=gc.mp b;obtain⟨t,_,e⟩:=bJ.mp e;have:p=[x]:=(Wo (show p++[t]=[x]++[Q]from e) y).1;exact this▸I
 have o:∀t:T,cV [t]=t.Y:=λt=>eF _;have R:u.Y∈(oM (lx [[]] (M aY))).map cV:=by
  have:cV [u]∈(lx [[]] (M aY)).map cV:=gd (gc.mpr ⟨[],.head _,gd ab⟩);rw[o]at this;refine(O.rA _ this).resolve_right λa=>a.elim λz q=>pP (uE N (q x.Y ?_));rw[←o];exact gd P
 rw[SW]at l;have j:u.Y≠x.Y:=λe=>pP (e▸N);have Z:B.Y≠Q.Y:=λe=>pP (e▸U);have aa:[u.Y++B.Y,u.Y++Q.Y,x.Y++B.Y].Nodup:=jN.mpr ⟨λh=>by
  refine(ee.mp h).elim (λe=>?_) λh=>?_
  ·exact Z (zh e)
  ·exact j (ME (cB.mp h)),jN.mpr ⟨λh=>j (bA T.Y (KI u x (cB.mp h)).1),jm ..⟩⟩
 have s:∀q∈[u.Y++B.Y,u.Y++Q.Y,x.Y++B.Y],q∈BB ((oM (lx [[]] (M aY))).map cV) (fe (M X))/\gH q (x.Y++Q.Y):=λq Y=>by
  refine(ee.mp Y).elim (λW=>?_) λY=>?_
  ·obtain rfl:=W;exact⟨yb.mpr ⟨_,R,_,gd ac,y⟩,uE (LD N) (Cc U)⟩
  ·refine(ee.mp Y).elim (λW=>?_) λY=>?_
   ·obtain rfl:=W;exact⟨yb.mpr ⟨_,R,_,gd ((rY r h).2 1 X Q y y),y⟩,LD N⟩
   ·obtain rfl:=cB.mp Y;exact⟨yb.mpr ⟨_,(o x▸gd P),_,gd ac,y⟩,Cc U⟩
 obtain⟨q,Y,J⟩:=l.rF (x:=x.Y++Q.Y) ((bA (x.Y++·) (o Q))▸gd h) aa y λq Y=>(s q Y).1;exact J (s q Y).2
theorem l_{b ba:Nat}(ac:a<=2)(al:1<=b)(h:ba+a<=a*b):ba+2<=2*b:=by
 cases a with
 |zero=>rw[Nm]at h;obtain rfl:=WZ.mp (show ba<=0 from h);exact nx 2 al
 |succ a=>cases a with
  |zero=>rw[hu,zz]at h;rw[Di];show ba+1+1<=b+b;exact ia h al
  |succ a=>cases a with
   |zero=>exact h
   |succ a=>exact aG ac (kI.mpr (gF 3 a))
theorem z'{b:Nat}(lo:∀k∈aC,∃G∈M k,G.size+1<=b):∃ai:List T,tH M aC ai/\eS ai+D ai<=D ai*b:=by
 induction aC with
 |nil=>exact⟨[],⟨y,λi x x h=>aG (gQ h) (mO _)⟩,cW _⟩
 |cons k aC F=>exact(F λk X=>lo k (.tail _ X)).elim λai h=>(lo k (.head _)).elim λG Z=>⟨G::ai,h.1.cons Z.1,by
   rw[ob,iz,Hr,hN (D ai),Hl,hN (D ai*b)];exact ia Z.2 h.2⟩
theorem iS.RV(h:iS g ns M)(Q:eh g)(J:ny g ns)(W:∃x,g c x/\∀k∈x.2,k<c/\M k≠[]):∃t∈il ns M c,t.size+1<=2^(c+1):=W.elim λx Z=>(z' (M:=M) (b:=2^c) (aC:=x.2) λk X=>((h.low k).resolve_left (Z.2 k X).2).imp λG q=>⟨q.1,aq q.2 (wV (aF y) (Z.2 k X).1)⟩).elim λai q=>by
 have a:=Q.kf c _ Z.1;have e:=rQ (C:=x.1) (ai:=ai) a.1 (q.1.1▸a.2);have j:(gZ x.1 ai).size+1<=2^(c+1):=by
  rw[T.size_eq,e.2,Ni];exact l_ (q.1.1▸a.2▸kv _) Nh q.2
 exact(Gw (t:=gZ x.1 ai) h.ok Q J h.snd Z.1 e.1.symm (e.2.symm▸Qw q.1.1 λi k t N U=>.inl (kk.mpr (q.1.2 i k t N U)))).elim (λw=>⟨_,kk.mp w,j⟩) λw=>(GV (show 0<(fe (il ns M c)).length by rw[w.1];decide)).elim λu H=>(bJ.mp H).elim λt Y=>⟨t,Y.1,aq (dn (FL (Y.2▸w.2 _ H:gH t.Y (gZ x.1 ai).Y))) j⟩
theorem iS.JV(h:iS g ns M)(Q:eh g)(J:ny g ns){t:T}(q:t∈il ns M c):∃x,g c x/\x.1=t.op/\t.X∈kX M x.2/\tH M x.2 t.X:=(Ko h.ok Q J (kk.mp ((wu (c:=c) h.ok Q J h.snd).Z _ (kk.mpr q)))).imp λx k=>⟨k.1,k.2.1,k.2.2.2,rY h.ok k.2.2.2⟩
theorem iS.En(h:iS g ns M)(Q:eh g)(J:ny g ns){t s:T}(q:t∈il ns M c)(Z:s∈t.X):∃k,s∈M k:=(h.JV Q J q).elim λx w=>(Hh.mp Z).elim λi e=>(qq (w.2.2.2.1▸gQ e:i<x.2.length)).imp λk X=>w.2.2.2.2 i k s X e
theorem iS.hS(h:iS g ns M)(Q:eh g)(J:ny g ns){t:T}(q:t∈il ns M c):dO g t c:=(iX Q).mpr ((h.JV Q J q).imp λx w=>⟨w.1,w.2.1,JG h.snd w.2.2.2⟩)
theorem iS.rF(h:iS g ns M)(Q:eh g)(J:ny g ns){t u:T}(q:t∈il ns M c)(H:u∈t.eR)(f:dO g u c):u∈il ns M c:=(nQ.mp H).elim (λe=>e▸q) λw=>w.elim λs Z=>(h.En Q J q Z.1).elim λk X=>kk.mp ((h.inv c _ (h.Z k s X u Z.2 c f)).resolve_right λY=>have ba:=Y.2 _ (kk.mpr q)
 (Ud t u H).elim (λe=>pP (e▸ba:gH t.Y t.Y)) λe=>pP (uE (wo e) ba))
theorem iS.lows(h:iS g ns M)(Q:eh g)(E:∀c x,g c x->c<14){ba:T}(j:ba∈M k):∃G∈M k,G.size+1<=2^14:=(h.low k).elim (λe=>afk (e▸j)) λw=>w.imp λG q=>⟨q.1,((iX Q).mp (h.snd k G q.1)).elim λx O=>aq q.2 (wV (aF y) (E k x O.1))⟩
theorem iS.abo(h:iS g ns M)(Z:eh g)(J:ny g ns)(E:∀c x,g c x->c<14){x Q:T}(q:T.b x Q∈il ns M c):x.size+1<=2^14\/Q.size+1<=2^14:=(h.JV Z J q).elim λba w=>by
 have f:=w.2.2.2;have t:=w.2.2.1;generalize ba.2=aC at f t;cases aC with
 |nil=>exact aG f.1.symm (iP _)
 |cons aY aC=>cases aC with
  |nil=>cases f.1
  |cons W aC=>obtain rfl:=ko (ip (ip f.1));exact(h.lows Z E (f.2 0 aY x y y)).elim λu Y=>(h.lows Z E (f.2 1 W Q y y)).elim λB X=>bp λP=>abp h.ok t Y.1 X.1 (wo (Xc (er Y.2 (tR λq=>P (.inl q))))) (wo (Xc (er X.2 (tR λq=>P (.inr q)))))
theorem wm{p:Nat->List T->Prop}(ab:p c (il ns M c))(ac:∀d,p d (M d))(d:Nat):p d (oN ns M c d):=by
 by_cases e:d=c
 ·rw[e,uD];exact ab
 ·rw[BZ e];exact ac d
theorem iS.upd(h:iS g ns M)(Y:eh g)(J:ny g ns)(E:∀c x,g c x->c<14)(R:∃x,g c x/\∀k∈x.2,k<c/\M k≠[]):iS g ns (oN ns M c):=by
 have m:=wu (c:=c) h.ok Y J h.snd;have o:kG (oN ns M c):=wm (p:=λz l=>jB (fe l)) m.kF h.ok;have n:∀d,∀t∈oN ns M c d,dO g t d:=wm (p:=λd l=>∀t∈l,dO g t d) (λt q=>h.hS Y J q) h.snd;exact
 {ok:=o
  snd:=n
  inv:=λd x P=>VF h.ok o Y J h.snd n h.better (wm (p:=λd l=>hX (fe l) x->hX (fe (il ns M d)) x) id (λd=>h.inv d x) d P)
  Z:=wm (p:=λd l=>∀t∈l,∀u∈t.eR,∀b,dO g u b->hX (fe (oN ns M c b)) u.Y) (λt q u H b f=>(nQ.mp H).elim (λe=>by rw[so Y u f (e▸h.hS Y J q),uD];exact .inl (kk.mpr (e▸q))) λw=>w.elim λs W=>(h.En Y J q W.1).elim λk X=>h.better b _ (h.Z k s X u W.2 b f)) λd t q u H b f=>h.better b _ (h.Z d t q u H b f)
  Bd:=wm (p:=λd l=>∀t∈l,∀s∈t.eR,GF g s) (λt q s W=>(nQ.mp W).elim (λe b i l B U=>by
    rw[e]at U i;rw[so Y t i (h.hS Y J q)]at U;exact aq (B.length_le_of_subset λu H=>h.rF Y J q (U u H).1 (U u H).2) (bK T.Y▸m.kF.J)) λw=>w.elim λaJ a=>(h.En Y J q a.1).elim λk X=>h.Bd k aJ X s a.2) h.Bd
  BS:=wm (p:=λd l=>∀t∈l,∀s∈t.eR,IC s) (λt q s W=>(nQ.mp W).elim (λe x Q j=>h.abo Y J E (j▸e▸q)) λw=>w.elim λaJ a=>(h.En Y J q a.1).elim λk X=>h.BS k aJ X s a.2) h.BS
  low:=wm (p:=λd l=>l=[]\/∃t∈l,t.size+1<=2^(d+1)) (.inr (h.RV Y J R)) h.low}
end
section
variable{g:eE} {M fb:gx} {b:Nat}
structure Dl(t:T)(p:List T):Prop where
 J:D p=t.co+1
 Z:∀s∈p,s∈t.eR
 QN:p.Pairwise λa b=>b∈a.eR/\b.size<a.size
theorem Dl.cons{t s:T}{p:List T}(h:Dl s p)(Z:s∈t.X)(e:s.co+1=t.co):Dl t (t::p):=
 have Y:∀u∈p,u∈t.eR/\u.size<t.size:=λu H=>⟨nQ.mpr (.inr ⟨s,Z,h.Z u H⟩),t.size_eq▸pe (aq ((Ud s u (h.Z u H)).elim (λe=>e▸cu _) dK) (oL Z))⟩
 ⟨by rw[iz,h.J,e],λu H=>(ee.mp H).elim (λe=>e▸yw t) λh=>(Y u h).1,qX.mpr ⟨Y,h.QN⟩⟩
theorem O'(t:T):∃p:List T,Dl t p:=by
 induction t with
 |l k=>exact⟨[.l k],y,λs Z=>Z,jm ..⟩
 |u k t F=>exact F.imp' (T.u k t::·) λp h=>h.cons (.head _) y
 |b t s a i=>exact(zx t.co s.co).elim (λh=>i.imp' (T.b t s::·) λp q=>q.cons (.tail _ (.head _)) (by show _=iB t.co s.co+1;rw[De h])) λh=>a.imp' (T.b t s::·) λp q=>q.cons (.head _) (by show _=iB t.co s.co+1;rw[zy h])
theorem x4{q:T->Bool}{p:List T}:D p=(p.filter q).length+(p.filter λs=>!q s).length:=by
 induction p with
 |nil=>rfl
 |cons s p F=>
  rw[uT,uT,iz,F];cases q s
  ·exact jn _ _ 1
  ·exact jZ _ _ 1
theorem x5{f:T->Nat}(bC:Nat):∀{p:List T},(∀s∈p,f s<bC)->(∀d,(p.filter λs=>f s==d).length<=G)->D p<=G*bC:=by
 induction bC with
 |zero=>
  intro p h _;cases p with
  |nil=>exact cW _
  |cons s p=>exact aG (h s (.head _)) (mO _)
 |succ bC F=>intro p h Z;rw[x4 (q:=λs=>f s==bC),Dh,hN];refine ia (F (λs Y=>?_) λd=>aq (pT.filter _).length_le (Z d)) (Z bC);have w:=jw.mp Y;exact qY (hl (h s w.1)) λe=>by have q:=w.2;rw[e,beq_self_eq_true]at q;cases q
theorem gI.W:∀{aC:List Nat},gI g aC ai->∀u∈ai,∃d,dO g u d:=by
 induction ai with
 |nil=>exactλx x=>afk
 |cons t ai F=>
  intro aC h u H;cases aC with
  |nil=>exact h.elim
  |cons k aC=>exact(ee.mp H).elim (λe=>⟨k,e▸h.1⟩) (F h.2 u)
theorem VO(Q:eh g)(t:T):∀{c:Nat},dO g t c->∀s∈t.eR,∃d,dO g s d:=T.nc (P:=λt=>∀{c:Nat},dO g t c->∀s∈t.eR,∃d,dO g s d) (λt F c h s Y=>(nQ.mp Y).elim (λe=>⟨c,e▸h⟩) λw=>w.elim λu H=>((iX Q).mp h).elim λx k=>(k.2.2.W u H.1).elim λd Z=>F u H.1 Z s H.2) t
theorem t?(Q:eh g)(U:∀c x,g c x->c<bC)(m:dO g t c)(J:∀s∈t.eR,GF g s):t.co+1<=3*bC:=(O' t).elim λp P=>by
 refine(mJ (λs=>(oR (s∈t.eR)).elim (λh=>(VO Q t m s h).imp λd F z=>F) λh=>⟨0,λq=>aG q h⟩:∀s,∃d,s∈t.eR->dO g s d)).elim λf W=>?_;rw[←P.J];refine x5 (f:=f) bC (λs X=>((iX Q).mp (W s (P.Z s X))).elim λx O=>U _ x O.1) λd=>?_;have Y:=P.QN.sublist (pT (p:=λs=>f s==d));have Z:∀s∈p.filter (λs=>f s==d),s∈t.eR/\dO g s d:=λs X=>have w:=jw.mp X;⟨P.Z s w.1,dA w.2▸W s (P.Z s w.1)⟩;generalize p.filter (λs=>f s==d)=q at Y Z;cases q with
 |nil=>exact cW _
 |cons s q=>have w:=Z s (.head _);exact J s w.1 d w.2 (s::q) (Y.imp λ{a b} (h:b∈a.eR/\b.size<a.size) (e:a=b)=>ic _ (e▸h.2:b.size<b.size)) λu H=>⟨(ee.mp H).elim (λe=>e▸yw u) λh=>((qX.mp Y).1 u h).1,(Z u H).2⟩
theorem aaG(t:T):(∀s∈t.eR,IC s)->t.size+1<=2^14*(t.co+1):=by
 induction t with
 |l k=>exactλz=>(by decide:2<=2^14)
 |u k t F=>intro h;rw[T.BK];show t.size+1+1<=2^14*(t.co+1+1);rw[Dh];exact ia (F λs Z=>h s (nQ.mpr (.inr ⟨t,.head _,Z⟩))) (aF rfl)
 |b x Q fj fs=>
  intro h;have e:(T.b x Q).size+1=(x.size+1)+(Q.size+1):=by rw[T.BJ,Hl]
  rw[e];show _<=2^14*(iB x.co Q.co+1+1);rw[Dh];have Y:∀{k:Nat},k<=iB x.co Q.co->2^14*(k+1)<=2^14*(iB x.co Q.co+1):=λq=>nx _ (dn q);refine(h _ (yw _) x Q y).elim (λq=>?_) λq=>?_
  ·rw[hN (x.size+1)];exact ia (aq (fs λs Z=>h s (nQ.mpr (.inr ⟨Q,.tail _ (.head _),Z⟩))) (Y (Hn _ _))) q
  ·exact ia (aq (fj λs Z=>h s (nQ.mpr (.inr ⟨x,.head _,Z⟩))) (Y (Hm _ _))) q
theorem iS.bound(h:iS g ns M)(Q:eh g)(E:∀c x,g c x->c<14){t:T}(m:t∈M c):t.co+1<=42/\t.size<=1000000:=
 have ab:=t? Q E (h.snd c t m) (h.Bd c t m)
 ⟨ab,jo (aq (aaG t (h.BS c t m)) (aq (nx (2^14) ab) (aF y)))⟩
def tI(g:eE)(M:gx)(b c:Nat):Prop:=∀t,dO g t c->t.size<=b->hX (fe (M c)) t.Y
theorem gI.i2(h:∀c,tI g M b c):∀{aC:List Nat},gI g aC ai->eS ai<=b->yR M aC ai:=by
 induction ai with
 |nil=>
  intro aC q _;cases aC with
  |nil=>trivial
  |cons=>exact q.elim
 |cons t ai F=>
  intro aC q Z;cases aC with
  |nil=>exact q.elim
  |cons k aC=>rw[ob]at Z;exact⟨h k t q.1 (aq (dP _ _) Z),F q.2 (aq (gF _ _) Z)⟩
theorem Mk(r:kG M)(Q:eh g)(J:ny g ns)(Z:∀c,∀t∈M c,dO g t c)(h:∀c,tI g M b c):∀t,dO g t c->t.size<=b+1->hX (fe (il ns M c)) t.Y:=λt m al=>((iX Q).mp m).elim λx k=>Gw r Q J Z k.1 k.2.1 (k.2.2.i2 h (lc (aq (fi t.size_eq.symm) al)))
theorem TC{l:List T}(ab:jB (fe l))(ac:jB (fe dB))(bo:∀t∈l,t∈dB)(Y:∀t∈dB,t∈l):l=dB:=(uV (λz z=>T.ug)).mp (ab.ext ac (λx Z=>(bJ.mp Z).elim λt q=>q.2▸kk.mpr (bo t q.1)) λx Z=>(bJ.mp Z).elim λt q=>q.2▸kk.mpr (Y t q.1))
theorem LB{l:List T}:(fe l).length=D l:=bK ..
theorem UK{l:List T}(h:(fe l).Nodup):l.Nodup:=wG T.Y (λa b q e=>q (bA T.Y e)) h
structure og(g:eE)(c bg:Nat)(l:List T):Prop where
 s:jB (fe l)
 rH:∀t∈l,dO g t c
 AS:∀t,dO g t c->t.size<=bg->hX (fe l) t.Y
theorem og.Su{l q:List T}{p:T}(az:og g c bg l)(z:p∈l)(N:q.Nodup)(Y:D q=3)(Z:∀u∈q,u.size<=bg/\dO g u c/\gH u.Y p.Y):False:=pP ((vH (x:=p.Y) az.s (UJ N) (LB.trans Y) (λw m=>(bJ.mp m).elim λu h=>h.2▸az.AS u (Z u h.1).2.1 (Z u h.1).1) λw m=>(bJ.mp m).elim λu h=>h.2▸(Z u h.1).2.2).2 _ (kk.mpr z))
theorem og.half{ar l:List T}(r:ar.Nodup)(v:D ar=3)(n:∀t∈ar,dO g t c)(az:og g c (eS ar) l)(Y:og g c (eS ar) dB):∀p∈l,p∈dB:=λp X=>bp λP=>(Dc (eS ar) p.size).elim (λZ=>az.Su X r v λu H=>⟨oL H,n u H,wo (er (oL H) Z)⟩) λZ=>P (kk.mp ((Y.AS p (az.rH p X) Z).resolve_right λw=>az.Su X (UK Y.s.aa) (LB.symm.trans w.1) λu H=>have ba:=w.2 u.Y (kk.mpr H);⟨aq (FL ba) Z,Y.rH u H,ba⟩))
theorem abS(bo:¬∃l:List T,l.Nodup/\D l=3/\∀t∈l,dO g t c):∃ar:List T,∀t,dO g t c->t∈ar:=bp λJ=>by have fK:∀ar:List T,∃t,dO g t c/\t∉ar:=λar=>bp λq=>J ⟨ar,λt m=>bp λu=>q ⟨t,m,u⟩⟩;exact(fK []).elim λa aE=>(fK [a]).elim λb al=>(fK [a,b]).elim λd F=>bo ⟨[d,b,a],jN.mpr ⟨λh=>F.2 ((ee.mp h).elim (λe=>e▸.tail _ (.head _)) λh=>cB.mp h▸.head _),jN.mpr ⟨al.2,jm ..⟩⟩,y,λt m=>(ee.mp m).elim (λe=>e▸F.1) λm=>(ee.mp m).elim (λe=>e▸al.1) λm=>cB.mp m▸aE.1⟩
theorem j?(g:eE)(c:Nat):∃bg,∀l dB:List T,og g c bg l->og g c bg dB->l=dB:=(oR (∃l:List T,l.Nodup/\D l=3/\∀t∈l,dO g t c)).elim (λh=>h.elim λar x=>⟨eS ar,λl dB az Z=>TC az.s Z.s (az.half x.1 x.2.1 x.2.2 Z) (Z.half x.1 x.2.1 x.2.2 az)⟩) λbo=>(abS bo).elim λar X=>
  have Y:∀{l:List T},og g c (eS ar) l->∀t,dO g t c->t∈l:=λ{l} az t m=>kk.mp ((az.AS t m (oL (X t m))).resolve_right λw=>bo ⟨l,UK az.s.aa,LB.symm.trans w.1,az.rH⟩)
  ⟨eS ar,λl dB az Z=>TC az.s Z.s (λt m=>Y Z t (az.rH t m)) λt m=>Y az t (Z.rH t m)⟩
end
abbrev oo:=Nat×List T
noncomputable def iw(x:oo):fD:=x.1::cV x.2
noncomputable def fB(x:oo):V:=.Y [am (eS x.2+1),nO x.1 x.2,hV x.1 x.2]
noncomputable def T.bS(t:T):oo:=(t.op,t.X)
theorem T.UI(t:T):iw t.bS=t.Y:=t.mC.symm
theorem UH{x Q:oo}(h:iw x=iw Q):x=Q:=jz (fH h).1 (tk (fH h).2)
theorem g0(h:∀x:V,V.bH x x=.eq)(l:List V):V.hA l l=.eq:=by
 induction l with
 |nil=>rfl
 |cons x l F=>show ec (V.bH x x) (V.hA l l)=_;rw[h x,F];rfl
theorem Jh(x:V):V.bH x x=.eq:=by
 have h:=V.AQ x x;cases q:V.bH x x with
 |eq=>rfl
 |lt=>rw[q]at h;cases h
 |gt=>rw[q]at h;cases h
theorem Ql{x Q:oo}(Z:x.1<5)(Y:Q.1<5):V.bH (fB x) (fB Q)=ix (iw x) (iw Q):=by
 have lt:∀ai:List T,∀ba∈cV ai,ba<5:=λai ba j=>(gc.mp j).elim λt q=>t.yk ba q.2;have v:∀{x:oo},x.1<5->∀ba∈iw x,ba<5:=λh ba j=>(ee.mp j).elim (λe=>e▸h) (lt _ ba);have k:V.bH (nO x.1 x.2) (nO Q.1 Q.2)=ec (dM (iw x).length (iw Q).length) (ec (ij (iw x) (iw Q)) (ec (V.hA ((x.2.length::(cV x.2).map dN).map am) ((Q.2.length::(cV Q.2).map dN).map am)) .eq)):=by
  show ec (V.bH (am _) (am _)) (ec (V.hA ((iw x).map ce) ((iw Q).map ce)) _)=_;rw[AP,Qg (v Z) (v Y)];rfl
 show ec (V.bH (am _) (am _)) (ec (V.bH (nO x.1 x.2) (nO Q.1 Q.2)) (ec (V.bH (hV x.1 x.2) (hV Q.1 Q.2)) .eq))=ec (dM (iw x).length (iw Q).length) (ij (iw x) (iw Q));rw[AP,k,show dM (eS x.2+1) (eS Q.2+1)=dM (iw x).length (iw Q).length from y];cases q:ij (iw x) (iw Q)with
 |eq=>have:=UH (FK q);subst this;rw[oA,Jh,g0 Jh];rfl
 |lt=>obtain⟨⟩:=dM (iw x).length (iw Q).length<;>rfl
 |gt=>obtain⟨⟩:=dM (iw x).length (iw Q).length<;>rfl
theorem SI{a:List T}(h:∀t∈a,∀s:T,V.ok t.J s.J):∀b:List T,V.wb (a.map T.J) (b.map T.J):=by
 induction a with
 |nil=>exactλx=>trivial
 |cons t a F=>
  intro b;cases b with
  |nil=>trivial
  |cons s b=>exact⟨λx=>F (λt m=>h t (.tail _ m)) b,λx=>h t (.head _) s⟩
theorem SL{a:List T}(h:∀t∈a,∀s:T,V.ok t.J s.J)(C Z:Nat)(b:List T):V.ok (hV C a) (hV Z b):=⟨_,y,λx=>SI h b,λx=>⟨_,y⟩⟩
theorem T.KD:∀t s:T,V.ok t.J s.J:=λt=>T.nc (P:=λt=>∀s:T,V.ok t.J s.J) (λt F s=>s.tv▸t.tv▸SL F ..) t
theorem I?(x Q:oo):V.ok (fB x) (fB Q):=⟨_,y,λz=>⟨λz=>⟨λz=>trivial,λz=>SL (λt z=>t.KD) ..⟩,λz=>KC ..⟩,λz=>⟨_,y⟩⟩
theorem S_(h:∀t∈ai,t.co+1<=90){G:Nat}(g:90<=G):V.gh (G+1) (hV C ai)=ak:=by show(V.gh G (ce C)&&V.fu G (ai.map T.J))=ak;exact(show V.gh G (ce C)=ak by obtain⟨⟩:=G<;>rfl)▸jS λH Z=>(bJ.mp Z).elim λs q=>q.2▸s.hF (aq (h s q.1) g)
theorem Td{x:oo}(h:∀t∈x.2,t.co+1<=90):V.gh 100 (fB x)=ak:=by show(ak&&(V.gh 99 (nO x.1 x.2)&&(V.gh 99 (hV x.1 x.2)&&ak)))=ak;rw[KO (G:=97),S_ (G:=98) h (aF y)];rfl
theorem gO.Y!{l:List oo}(h:∀x∈l,∀t∈x.2,t.co+1<=90):gO 3 1 (l.map fB)where
 rX:=iP _
 sd:=iP _
 kind k X:=(bJ.mp X).elim λi q=>q.2▸y
 head _ k X:=(bJ.mp X).elim λi q=>q.2▸⟨_,_,y,y⟩
 hF:=jS λH Z=>(bJ.mp Z).elim λi q=>q.2▸Td (h i q.1)
 ok a aE b al:=(bJ.mp aE).elim λi q=>(bJ.mp al).elim λj u=>q.2▸u.2▸I? ..
noncomputable def pM(l:List oo):List oo:=l.mergeSort λa b=>ix (iw a) (iw b)!=.gt
theorem Tx{x Q:oo}(Z:x.1<5)(Y:Q.1<5)(h:fB x=fB Q):x=Q:=by have:=Ql Z Y;rw[h,Jh]at this;exact UH (UN this.symm)
theorem LW{l:List oo}(aE:z[a]?=A (.W (l.map fB)))(J:l.Nodup)(X:D l<64)(E:∀x∈l,x.1<5)(h:∀x∈l,∀t∈x.2,t.co+1<=90):hH B (.builtin "sorted") [.J a] z (.J (D z)) (z++[.W ((pM l).map fB)]):=by have:=Gn (B:=B) aE (iV J λx Z Q Y e=>Tx (E x Z) (E Q Y) e) (pG X) (gO.Y! h);unfold pM;exact(CP (f:=fB) (s:=V.le) λx Z Q Y=>by unfold V.le;rw[Ql (E x Z) (E Q Y)])▸this
theorem yW{aB:afe}(h:bW B n e N z (.J a) ah)(aE:ah[a]?=A (.W l))(J:bW B n aB N ah (am k) ah)(R:rL aB=aW)(X:k<2^62)(Z:D l<=cZ):bW B n (.eb e .bM aB) N z (.J (D ah)) (ah++[.W (l.take k)]):=wt h tD J (λx=>⟨y,y⟩) (λq=>afh (R.symm.trans q)) (.W aE) (Pj aE .bM (.X X) Z)
theorem IL{bw:Type}{a b c d l:List bw}(h:a++b=c)(e:c++d=l):D a<=D l:=by rw[←e,←h,cp,cp,jn];exact dP _ _
theorem Gf{bw gq:Type}{aS:List bw}{g:bw->V}{bD:bw->List gq}{h:gq->V}{f:bw->gq->V}{ax:List (Option Nat)}(M:hY B n k e N z (aS.map g) ck ah)(o:∀z,aM cI ah z->ck z)(P:(aS.flatMap λx=>(bD x).map (f x)).length<=cZ)(ac:∀x∈aS,∀z,aM cI ah z->D ah<D z->(∀s aV,hY B n .bE bq (A (g x)::aj::ho N ax) z ((bD x).map h) s aV->(∀O,aM (·≠D ah) aV O->s O)->aM cI z aV->False)->False)(R:∀x∈aS,∀Q∈bD x,∀z,aM cI ah z->(∀O,bW B n bP (A (g x)::A (h Q)::ho N ax) z (f x Q) O->aM cI z O->False)->False)(d:∀O,oS B n (.W 0) k e [] (.hS (.W 1) .bE bq [] (.di bP)) (aj::aj::ax) N z (.J (D ah)) O->aM cI ah O->O[D ah]?=A (.W (aS.flatMap λx=>(bD x).map (f x)))->False):False:=Cq (B:=B) (n:=n) (cQ:=.W 0) (fk:=[]) (dq:=.hS (.W 1) .bE bq [] (.di bP)) (N:=ho N (aj::aj::ax)) (a:=D ah) (g:=g) (ao:=λr l z=>aM cI ah z/\(∀x∈r,x∈aS)/\l++(r.flatMap λx=>(bD x).map (f x))=aS.flatMap λx=>(bD x).map (f x)) (λb b z j=>o z j.1) (λx r l z j aE k=>ac x (j.2.1 x (.head _)) z j.1 (fA aE) λs aV L E U=>by
   have e:(l++(bD x).map (f x))++(r.flatMap λx=>(bD x).map (f x))=aS.flatMap λx=>(bD x).map (f x):=(ha ..).trans j.2.2;exact Cq (B:=B) (n:=n) (ck:=s) (cQ:=.W 1) (fk:=[]) (dq:=.di bP) (N:=A (g x)::aj::ho N ax) (a:=D ah) (g:=h) (ao:=λX dB O=>aM cI ah O/\aM (·≠D ah) aV O/\(∀Q∈X,Q∈bD x)/\dB++X.map (f x)=l++(bD x).map (f x)) (λb b O j=>E O j.2.1)
    (λQ X dB O p t bI=>R x (j.2.1 x (.head _)) Q (p.2.2.1 Q (.head _)) O p.1 λv C Z=>bI _ O _ _ ak .W (Fy (i:=1) λb q=>by cases q) GG (λb=>GB C (Z.at t) (aq (IL p.2.2.2 e) P)) (λq=>afh q.symm) (gR (Z.at t)) ⟨(p.1.trans Z).set (cu _),(p.2.1.trans Z.of).gN λq=>q y,λQ h=>p.2.2.1 Q (.tail _ h),(ha ..).trans p.2.2.2⟩)
    (bD x) l aV ⟨j.1.trans U,.dd,λb h=>h,y⟩ (U.at aE) λcD Y H cK F=>k _ z _ _ ak .W DV GG (λb=>VL L H) (λq=>afh q.symm) F ⟨cK.1,λx h=>j.2.1 x (.tail _ h),(eF Y▸cK.2.2.2:Y=_)▸e⟩) aS [] _ ⟨.cS,λb h=>h,y⟩ dt λO l I W w=>d O (.mk M I) W.1 ((eF l▸W.2.2:l=_)▸w)
theorem Tr(P:cq B)(X:H=am (eS ai+1))(v:eS ai<=2000000)(J:∀s∈ai,s.co+1<=G)(d:∀O,dU B (G+3) 23 [H,hV C ai] z (fB (C,ai)) O->aM cI z O->False):False:=RI (z:=z) (C:=C) P v J λO c=>d O (ep (P.b y) y (fy (eL (aU (X▸av y) (aU (jK (aU (av y) bc) c) (aU (av y) bc))) xW)) (.inl y))
structure lj(z:aA)(bz:Nat)(Z:Nat->Prop)(M:gx):Prop where
 d:∃ag,z[bz]?=A (.Z ag)/\((∀x∈ag,gs x.1=1)/\D ag<=100)/\∀c,Z c->∃a,cX ag (am c)=A (.J a)/\z[a]?=A (.W ((M c).map λt=>fB t.bS))
 Ex:kG M
 co:∀c,∀t∈M c,t.co+1<=42/\t.size<=1000000
theorem lj.k{M:gx}(ae:lj z bz F M)(k:aM cI z ah):lj ah bz F M:=
 {ae with d:=ae.d.imp λag h=>⟨k.at h.1,h.2.1,λc X=>(h.2.2 c X).imp λa q=>⟨q.1,k.at q.2⟩⟩}
theorem afb(t:T):fB t.bS=.Y [am t.size,t.key,t.J]:=t.tv▸t.size_eq▸y
theorem abA{af:List (List T)}:((pM (af.map λai=>(C,ai))).map fB).take 3=((oM af).map λai=>fB (C,ai)):=by
 unfold pM oM;rw[←CP (f:=λai:List T=>(C,ai)) (r:=λa b=>ix (cV a) (cV b)!=.gt),ed,uW];rfl;intro a _ b _;have:ix (iw (C,a)) (iw (C,b))=ix (cV a) (cV b):=by
  show ec (dM ((cV a).length+1) ((cV b).length+1)) (ec (dM C C) (ij (cV a) (cV b)))=ec (dM (cV a).length (cV b).length) (ij (cV a) (cV b));rw[oA];refine bA (λx=>ec x _) ?_;unfold dM;rw[ite_congr (propext WU) (λz=>y) λz=>y,ite_congr (propext (WU (k:=1) (m:=(cV a).length) (n:=(cV b).length))) (λz=>y) λz=>y]
 rw[this]
noncomputable def uB(cY:Nat)(x:bl)(bz:Nat)(bO bt:Option V):bk:=[A (.J cY),A (cU x),A (.J bz),A (am 3),bO,bt]
noncomputable def Uk:List S:=[.pv 4 (.dy (.W 0) .bE (.J 4) [] (.hS (.W 1) .bE (.Z (.J 3) (.J 2)) [] (.di (.fg 23 [(.cb .Add (.Z (.J 0) (.X 0)) (.Z (.J 1) (.X 0))),(.cb .Add (.Z (.J 0) (.X 2)) (.Y [(.Z (.J 1) (.X 2))]))]))) [aj,aj,A 5,A 2]),.ea 4 (.eb (.bR "sorted" [(.J 4)]) .bM (.J 3))]
def Dk(i:Nat)(P:List (List T)):Prop:=D P<=3/\P.Nodup/\∀ai∈P,D ai<=i/\∀t∈ai,t.co+1<=42/\t.size<=1000000
theorem abh{i b:Nat}(h:∀t∈ai,t.size<=b)(Z:D ai<=i):eS ai<=i*b:=by
 refine aq ?_ (qZ b Z);clear Z;induction ai with
 |nil=>exact cW _
 |cons t ai F=>rw[ob,iz,Hr,hN];exact ia (F λt m=>h t (.tail _ m)) (h t (.head _))
theorem abn(P:cq B){cY bz U i:Nat}(aB:i<=1){x:bl}{cm:List (List T)}{E:Nat->Prop}{M:gx}{bt:Option V}(ae:lj z bz E M)(A4:x.1<5)(A1:E c)(I:Dk i cm)(d:z[U]?=A (.W (cm.map λai=>fB (x.1,ai))))(A6:∀O J,gb B 46 Uk (uB cY x bz (A (.J U)) (A (am c))) z .X (uB cY x bz (A (.J J)) (A (am c))) O->aM cI z O->O[J]?=A (.W ((oM (lx cm (M c))).map λai=>fB (x.1,ai)))->Dk (i+1) (oM (lx cm (M c)))->D z<=J->False):False:=by
 have be:(lx cm (M c)).length<=9:=aq (Ba (b:=3) λai a=>gu ((bK T.Y).symm▸(ae.Ex c).J)) (qZ 3 I.1);have H:∀gU∈lx cm (M c),D gU<=i+1/\∀t∈gU,t.co+1<=42/\t.size<=1000000:=λgU A3=>(gc.mp A3).elim λai q=>(bJ.mp q.2).elim λt w=>w.2▸have ba:=I.2.2 ai q.1
  ⟨(cp ..)▸dn ba.1,λs A2=>(ew.mp A2).elim (ba.2 s) λh=>cB.mp h▸ae.co c t w.1⟩
 have dr:=ym I.2.1 (ae.Ex.aa c);have u:(cm.flatMap λai=>(M c).map λt=>fB (x.1,ai++[t]))=((lx cm (M c)).map λai=>(x.1,ai)).map fB:=by
  unfold lx;rw[ed,uU];exact vP λai=>((ed ..)).symm▸y
 refine ae.d.elim λag r=>(r.2.2 c A1).elim λR W=>Gf (B:=B) (n:=46) (N:=uB cY x bz (A (.J U)) (A (am c))) (z:=z) (k:=.bE) (e:=.J 4) (bq:=.Z (.J 3) (.J 2)) (bP:=.fg 23 [(.cb .Add (.Z (.J 0) (.X 0)) (.Z (.J 1) (.X 0))),(.cb .Add (.Z (.J 0) (.X 2)) (.Y [(.Z (.J 1) (.X 2))]))]) (ax:=[A 5,A 2]) (aS:=cm) (g:=λai=>fB (x.1,ai)) (bD:=λa=>M c) (h:=λt=>fB t.bS) (f:=λai t=>fB (x.1,ai++[t]))
  (ff (av y) (gD d)) (λa k=>k.at d) (by rw[u,bK,bK];exact ei (aq be (aF y)))
  (λai a O k a bI=>bI _ O (ff (fo (av y) (av y) (.Z (k.at r.1)) (nA (k.at r.1) (rN r.2.1.1) W.1)) (gD (k.at W.2))) (λaV A5=>A5.get _ _ (eC (fA W.2)) (k.at W.2)) .dd)
  (λai X t Z O k bI=>?_) λah F aY br=>?_
 ·have q:=H (ai++[t]) (gc.mpr ⟨ai,X,gd Z⟩);have A0:eS (ai++[t])+1=eS ai+1+t.size:=by
   show(cV (ai++[t])).length+1=_;exact rS▸(cp ..)▸(show cV [t]=t.Y from eF _)▸jZ _ _ 1
  have p:hV x.1 (ai++[t])=.Y ((ce x.1::ai.map T.J)++[t.J]):=by unfold hV;rw[eI];rfl
  refine Tr (z:=O) (G:=43) (C:=x.1) (ai:=ai++[t]) P y (aq (abh (λt Z=>(q.2 t Z).2) q.1) (qZ _ (dn aB))) (λt Z=>lg (q.2 t Z).1) λaV A7 A8=>bI aV (jK (aU (A0▸en (fo (av y) cE .Y (jx y y)) (fo (av y) cE .Y (jx y (by rw[t.size_eq];rfl))) (sE (i:=eS ai+1) (j:=t.size))) (aU (?_:bW B 46 _ _ _ (hV x.1 (ai++[t])) _) bc)) A7) A8;rw[p];exact en (fo (av y) cE .Y (jx y y)) (eL (aU (fo (av y) cE .Y (jx y (t.tv▸y))) bc) hL) (oj (l:=ce x.1::ai.map T.J) (by
   rw[iz,bK];exact ei (aq (iO (dn (aq (I.2.2 ai X).1 aB)) 1) (aF y))))
 ·rw[u]at br;have v:=yW (B:=B) (n:=46) (aB:=.J 3) (gV pw (aU (av (i:=4) (N:=uB cY x bz (A (.J (D z))) (A (am c))) y) bc) (LW (B:=B) br (iV dr λa a a a e=>(nC e).2) (pG (er be (aF y))) (λQ Y=>(bJ.mp Y).elim λai q=>q.2▸A4) λQ Y=>(bJ.mp Y).elim λai q=>q.2▸λt Z=>aq ((H ai q.1).2 t Z).1 (aF y))) dt (av y) y (k:=3) (aF y) (by
   rw[bK];unfold pM;rw[WA,bK];exact ei (aq be (aF y)))
  rw[abA]at v;exact A6 _ _ (bv F.xy (bv (fX v) eW)) aY.dS.dS dt ⟨Hg _ _,yf (yE dr).kF.aa,λai X=>H ai ((wN _ _).mem_iff.mp (wM X))⟩ (aY.dS (iW:=[_])).le
def Aw(cY bz:Nat)(x:bl)(Z:Nat->Prop)(M:gx)(aL:aA)(aC:List Nat)(N:bk)(z:aA):Prop:=∀{P:Prop},(∀{i l:Nat} {cm:List (List T)} {bt:Option V},N=uB cY x bz (A (.J l)) bt->i+D aC<=2->(∀c∈aC,Z c)->aM cI aL z->Dk i cm->z[l]?=A (.W (cm.map λai=>fB (x.1,ai)))->D aL<=l->yC M cm aC=kX M x.2->P)->P
theorem Aw.mk{x:bl}{M:gx}{N:bk}{z:aA}{i:Nat}{cm:List (List T)}(h:N=uB cY x bz (A (.J Z8)) bt)(Y:i+D aC<=2)(X:(∀c∈aC,F c))(J:aM cI aL z)(W:Dk i cm)(U:z[Z8]?=A (.W (cm.map λai=>fB (x.1,ai))))(j:D aL<=Z8)(R:yC M cm aC=kX M x.2):Aw cY bz x F M aL aC N z:=λZ=>Z h Y X J W U j R
theorem through(P:cq B){bz:Nat}{x:bl}{M:gx}(v:z[cY]?=A (.dH 2 [(15,.J 7),(28,.J es)]))(s:z[es]?=A (.Z []))(ae:lj z bz F M)(t:x.1<5)(U:x.2.length=dN x.1)(X:∀c∈x.2,F c)(d:∀O Z,dU B 47 25 [.J cY,cU x,.J bz,am 3] z (.J Z) O->aM cI z O->O[Z]?=A (.W ((kX M x.2).map λai=>fB (x.1,ai)))->D z<=Z->False):False:=by
 refine Tr (z:=z) (G:=43) (C:=x.1) (ai:=[]) P y (cW _) (λa=>afk) λah W aY=>?_;have E:bW B 46 (.W [(.fg 23 [(.eO (.cy (.J 0) 28) "get" [(.Z (.J 1) (.X 0)),(.X 1)]),(.eb (.J 1) .bM (.X 1))])]) (uB cY x bz aj aj) z (.J (D ah)) (ah++[.W [fB (x.1,[])]]):=
  gB (aU (jK (aU (iL (dR (av y) v y (P.m y)) (.get s) (aU (fo (av y) cE .Y (jx y y)) (aU cE bc)) (Gd s ⟨y,λa=>afk⟩)) (aU (Mh (k:=1) (av y) (aF y) (ye U)) bc)) W) bc) hL
 refine vA (B:=B) (n:=46) (i:=5) (b:=Uk) (aS:=x.2) (g:=am) (ao:=Aw cY bz x F M z) (ff (lG (k:=1) (av (i:=1) (N:=uB cY x bz (A (.J (D ah))) aj) (z:=ah++[.W [fB (x.1,[])]]) y) (aF y) (ye U)) qU) (λa a a a=>trivial)
  (Aw.mk (i:=0) (cm:=[[]]) y (U▸(hu ..)▸kv _) X aY.dS ⟨by decide,jm ..,λai u=>cB.mp u▸⟨cu _,λa=>afk⟩⟩ dt aY.le y)
  (λc aC N aV j bI=>j λ{i l cm bt} e aB h k I Y aR Q=>?_) λbY O H j=>j λ{i l cm bt} e aB h k I Y aR Q=>?_
 ·obtain rfl:=e;have p:i+1+D aC<=2:=aq (fi (mi i (D aC))) aB;exact abn (bt:=bt) P (lc (aq (dP _ _) p)) (ae.k k) t (h c (.head _)) I Y λcD Z H r w f q=>bI _ cD H (Aw.mk y p (λc X=>h c (.tail _ X)) (k.trans r) f w (aq k.le q) Q)
 ·obtain rfl:=e;rw[show cm=kX M x.2 from Q]at Y;exact d O l (ep (P.b y) y (bv (fX E) (bv H (fy (av y)))) (.inl y)) k Y aR
section
variable{g:eE} {M ht fb:gx} {b:Nat} {hB:List Nat}
structure qP(g:eE)(ns:Nat->List bl)(hr:List Nat):Prop where
 gY:eh g
 te:ny g ns
 jf:∀c x,g c x->c<14
 rW:∀c x,g c x->c∈hr/\∀k∈x.2,k∈hr
 gy:∀c∈hr,∃x,g c x/\∀k∈x.2,k<c
 up:hr.Pairwise (·<·)
structure om(g:eE)(ns:Nat->List bl)(bg p:Nat)(hB:List Nat)(ht M:gx)(iJ:Bool):Prop where
 jI:iS g ns M
 good:∀c,tI g M p c
 JI:∀c∈hB,tI g M (p+1) c
 ne:∀c,(c∈hB\/(0<p/\∃x,g c x))->M c≠[]
 fx:iJ=aW->M=ht/\∀c∈hB,il ns M c=M c
 rF:bg<=p->iJ=aW
theorem tI.better(h:tI g M b c)(k:FY M fb):tI g fb b c:=λt ab ac=>k c _ (h t ab ac)
def yP(g:eE)(hr:List Nat)(bg:Nat):Prop:=∀c∈hr,∀l dB:List T,og g c bg l->og g c bg dB->l=dB
theorem og.less{l:List T}(az:og g c bg l)(h:Z8<=bg):og g c Z8 l:={az with AS:=λt ab ac=>az.AS t ab (aq ac h)}
theorem k4(g:eE)(hr:List Nat):∃bg,yP g hr bg:=by
 induction hr with
 |nil=>exact⟨0,λx=>afk⟩
 |cons c hr F=>exact F.elim λbg h=>(j? g c).elim λf au=>⟨iB bg f,λd Z l dB az Y=>(ee.mp Z).elim (λe=>au l dB (e▸az.less (Hn _ _)) (e▸Y.less (Hn _ _))) λZ=>h d Z l dB (az.less (Hm _ _)) (Y.less (Hm _ _))⟩
theorem UD(h:il ns M c=M c):oN ns M c=M:=funext λd=>by
 by_cases e:d=c
 ·rw[e,uD,h]
 ·rw[BZ e]
theorem om.Y(az:qP g ns hr)(j:yP g hr bg)(ao:om g ns bg p hB ht M iJ)(X:c∈hr)(F:∀d∈hr,d<c->d∈hB)(al:led=aW↔il ns M c=M c):om g ns bg p (hB++[c]) ht (oN ns M c) (iJ||led):=by
 have R:∃x,g c x/\∀k∈x.2,k<c/\M k≠[]:=(az.gy c X).imp λx w=>⟨w.1,λk q=>⟨w.2 k q,ao.ne k (.inl (F k ((az.rW c x w.1).2 k q) (w.2 k q)))⟩⟩
 have Z:=ao.jI.better (c:=c);have f:=Mk ao.jI.ok az.gY az.te ao.jI.snd ao.good (c:=c);have h:il ns M c≠[]:=λe=>(ao.jI.RV az.gY az.te R).elim λt w=>afk (e▸w.1);exact
 {jI:=(ao.jI.upd az.gY az.te az.jf R)
  good:=λd=>(ao.good d).better Z
  JI:=λd q=>(ew.mp q).elim (λq=>(ao.JI d q).better Z) λq t ab ac=>by
   rw[cB.mp q]at ab⊢;rw[uD];exact f t ab ac
  ne:=λd q=>by
   by_cases e:d=c
   ·rw[e,uD];exact h
   ·rw[BZ e];exact ao.ne d (q.imp (λq=>(ew.mp q).resolve_right λq=>e (cB.mp q)) id)
  fx:=λq=>have w:=Vj.mp q;have Y:=al.mp w.2;by
   exact((UD Y)).symm▸⟨(ao.fx w.1).1,λd r=>(ew.mp r).elim ((ao.fx w.1).2 d) λq=>cB.mp q▸Y⟩
  rF:=λq=>by
   rw[ao.rF q,Bool.false_or];exact al.mpr (j c X _ _ ⟨(wu ao.jI.ok az.gY az.te ao.jI.snd).kF,λt m=>ao.jI.hS az.gY az.te m,λt ab ac=>f t ab (lg (aq ac q))⟩ ⟨ao.jI.ok c,ao.jI.snd c,λt ab ac=>ao.good c t ab (aq ac q)⟩)}
structure uO(g:eE)(ns:Nat->List bl)(hr:List Nat)(M:gx):Prop where
 jI:iS g ns M
 fix:∀c∈hr,il ns M c=M c
theorem uO.all(az:qP g ns hr)(h:uO g ns hr M)(b:Nat):∀c,tI g M b c:=by
 induction b with
 |zero=>exactλc t z ac=>aG ac (kI.mpr t.nk)
 |succ b F=>exactλc t ab ac=>((iX az.gY).mp ab).elim λx w=>h.fix c (az.rW c x w.1).1▸Mk h.jI.ok az.gY az.te h.jI.snd F t ab ac
theorem i0{x:fD}{p:Prop}(h:hX [] x):p:=h.elim afk λh=>aG h.1 (eG y)
theorem aak(az:qP g ns hr):iS g ns λx=>[]where
 ok _:=⟨.nil,cW _⟩
 snd _ _:=afk
 inv _ _ h:=i0 h
 Z _ _:=afk
 Bd _ _:=afk
 BS _ _:=afk
 low _:=.inl y
theorem P?(az:qP g ns hr):om g ns bg 0 [] (λx=>[]) (λx=>[]) aW:=⟨aak az,λx t x h=>aG h (kI.mpr t.nk),λx=>afk,λc h=>h.elim afk λh=>aG h.1 (ic _),λx=>⟨y,λx=>afk⟩,λx=>y⟩
theorem om.X(az:qP g ns hr)(ao:om g ns bg p hr ht M iJ):om g ns bg (p+1) [] M M aW:=⟨ao.jI,λc t ab ac=>((iX az.gY).mp ab).elim λx w=>ao.JI c (az.rW c x w.1).1 t ab ac,λz=>afk,λc h=>h.elim afk λh=>h.2.elim λx O=>ao.ne c (.inl (az.rW c x O).1),λz=>⟨y,λz=>afk⟩,λz=>y⟩
theorem om.fin(ao:om g ns bg p hr ht M aW):uO g ns hr M:=⟨ao.jI,(ao.fx y).2⟩
end
section
variable{aa:List bl} {M ht:gx}
theorem KL(r:List (V×V)):∀ag:List (V×V),(∀x∈ag++r,V.hm 8 x.1=ak/\gs x.1=fm)->((ag++r).map (·.1)).Nodup->(ag++r).length<=cZ->HA r ag (ag++r):=by
 induction r with
 |nil=>exactλag z z z=>(eF ag).symm
 |cons Q r F=>
  intro ag h J Z;have X:=h Q (jl _ (.head _));have W:∀x∈ag,x.1≠Q.1:=λx Y e=>by
   rw[eI,oX]at J;exact J.2.2 _ (gd Y) Q.1 (.head _) e
  refine⟨⟨X.1,λx Y=>(h x (iZ _ Y)).2.trans X.2.symm⟩,aq (by rw[cp];exact dP _ _) Z,?_⟩;have e:ag++Q::r=(ag++[Q])++r:=(ha ag [Q] r).symm;rw[QR (QI W),e];rw[e]at h J Z;exact F _ h J Z
theorem Jo{k:V}(J:(ag.map (·.1)).Nodup)(h:(k,H)∈ag):cX ag k=A H:=by
 induction ag with
 |nil=>cases h
 |cons x ag F=>rw[jv,jN]at J;rw[mu];exact(ee.mp h).elim (λe=>e▸(cg V.ms)▸y) λh=>(bV λq=>J.1 (bJ.mpr ⟨_,h,(V.fE.mp q).symm⟩))▸F J.2 h
theorem abD{af:List T}:((pM (af.map T.bS)).map fB).take 3=(sb af).map λt=>fB t.bS:=by unfold pM sb;rw[←CP (f:=T.bS) (r:=λa b=>ix a.Y b.Y !=.gt) λa x b x=>(T.UI ..)▸(T.UI ..)▸y,ed,uW];rfl
theorem Js{k w:V}(h:∃H,cX ag k=A H):(hp ag k w).length=D ag:=by rw[j5 h,WB]
noncomputable def hG(aa:List bl)(L:Nat->Nat):List Nat:=(fz (D aa)).filter λi=>dV (L i=i)
def fG(aa:List bl)(L:Nat->Nat)(c:Nat):Prop:=c<D aa/\L c=c
theorem ut:c∈hG aa L↔fG aa L c:=by unfold hG;rw[jw,hk,decide_eq_true_iff];rfl
noncomputable def nM(cY bz:Nat)(iJ:V)(cx bt:Option V):bk:=[A (.J cY),A (am 3),cx,A (.J bz),A iJ,bt]
structure ov(aQ cY es:Nat)(aa:List bl)(L:Nat->Nat)(z:aA):Prop where
 bz:gj aQ z aa L
 jf:D aa<=14
 tP:aQ<=cY
 s:z[cY]?=A (.dH 2 [(15,.J 7),(28,.J es)])
 d:z[es]?=A (.Z [])
theorem ov.k(S:ov aQ cY es aa L z)(k:aM cI z ah):ov aQ cY es aa L ah:=⟨S.bz.k k,S.jf,S.tP,k.at S.s,k.at S.d⟩
theorem gj.Rp(ae:gj aQ z aa L){x:bl}(h:cs aa L c x):fG aa L c:=h.elim λi h=>h.elim λQ h=>h.2.1▸⟨ae.fF.qD (gQ h.1),ae.fF.nN i (gQ h.1)⟩
theorem gj.cls(ae:gj aQ z aa L)(gY:eh (cs aa L))(jf:D aa<=14):qP (cs aa L) (dI aa L) (hG aa L)where
 gY:=gY
 te c:=(Br gY).1
 jf c x h:=ef (ae.Rp h).1 jf
 rW c x h:=⟨ut.mpr (ae.Rp h),λk X=>ut.mpr (ae.ys h k X)⟩
 gy c W:=have h:=ut.mp W;(qq h.1).elim λQ Y=>⟨he L Q,⟨c,Q,Y,h.2,y⟩,λk X=>(bJ.mp X).elim λj q=>have Z:=(ae.hR c Q Y).2.2 j q.1;q.2▸er (ae.fF.le j (kH Z h.1)) Z⟩
 up:=adj pT WK
noncomputable def Bb:List S:=[.pv 5 (.dy (.W 0) .bE (.bZ (.cy (.J 0) 15) 23 [(.J 2)]) [] (.hS (.W 1) .bE (.bZ (.J 4) 29 [(.J 0),(.J 3),(.J 2)]) [] (.di (.J 1))) [aj,aj,A 1,A 3,A 0]),.ea 5 (.eb (.bR "sorted" [(.J 5)]) .bM (.J 1)),.fc (.bH .NotEq (.J 5) (.Z (.J 3) (.J 2))) [.mE (.J 3) (.J 2) (.J 5),.ea 4 (.dF ak)] []]
theorem lj.Ts(h:∀c,∀t∈M c,t.co+1<=42/\t.size<=1000000):V.fu 100 ((M c).map λt=>fB t.bS)=ak:=jS λH Y=>(bJ.mp Y).elim λt q=>q.2▸Td λs Z=>aq (lg (T.rO Z)) (aq (h c t q.1).1 (aF y))
theorem Y?{l:List T}:(l.map λt=>fB t.bS)=(dB.map λt=>fB t.bS)->l=dB:=(uV λa b e=>have q:=Tx a.pK b.pK e;T.ext (nC q).1 (nC q).2).mp
theorem m?(P:cq B){bz:Nat}(az:qP (cs aa L) (dI aa L) (hG aa L))(S:ov aQ cY es aa L z)(X:fG aa L c)(bi:iS (cs aa L) (dI aa L) M)(A4:iS (cs aa L) (dI aa L) (oN (dI aa L) M c))(ae:lj z bz (fG aa L) M)(B0:∀O A5 C2,gb B 48 Bb (nM cY bz (.dF iJ) (A (am c)) bt) z .X (nM cY bz (.dF (iJ||A5)) (A (am c)) C2) O->(A5=aW↔il (dI aa L) M c=M c)->lj O bz (fG aa L) (oN (dI aa L) M c)->aM (·≠bz) z O->False):False:=by
 refine S.bz.Bt (n:=40) P (aq S.jf (aF y)) X.1 λah p B3 aY br B2 B1 dv=>?_;rw[X.2]at br B1 B2;have A2:∀x∈dI aa L c,cs aa L c x:=λx Z=>(B1.1.2 x).mp Z;have C3:∀aC,(kX M aC).length<=3:=λaC=>bK cV▸(Ul bi.ok aC EN).J;have A7:((dI aa L c).flatMap λx=>(kX M x.2).map λai=>(x.1,ai))=(ky (dI aa L) M c).map T.bS:=by
  unfold ky;rw[uU];refine Jz λx Z=>?_;rw[ed];refine lb λai B8=>?_;have a:=S.bz.kf (A2 x Z);have e:=rQ a.1 ((rY bi.ok B8).1▸a.2);exact jz e.1.symm e.2.symm
 have u:((ky (dI aa L) M c).map T.bS).length<=54:=by
  rw[←A7];exact aq (Ba (b:=3) λx j=>gu (C3 _)) (qZ 3 B2)
 have A8:((dI aa L c).flatMap λx=>((kX M x.2).map λai=>(x.1,ai)).map fB)=((ky (dI aa L) M c).map T.bS).map fB:=A7▸(uU ..)▸y;have B6:∀t∈ky (dI aa L) M c,∀s∈t.X,s.co+1<=42:=λt A0 s l=>(Ko bi.ok az.gY az.te A0).elim λx h=>(Hh.mp l).elim λi e=>have G:=rY bi.ok h.2.2.2
  (qq (G.1▸gQ e:i<x.2.length)).elim λk q=>(ae.co _ s (G.2 i k s q e)).1
 refine Gf (B:=B) (n:=48) (N:=nM cY bz (.dF iJ) (A (am c)) bt) (z:=z) (k:=.bE) (e:=.bZ (.cy (.J 0) 15) 23 [(.J 2)]) (bq:=.bZ (.J 4) 29 [(.J 0),(.J 3),(.J 2)]) (bP:=.J 1) (ax:=[A 1,A 3,A 0]) (aS:=dI aa L c) (g:=cU) (bD:=λx=>(kX M x.2).map λai=>(x.1,ai)) (h:=fB) (f:=λj Q=>fB Q)
  (ff (eu (dR (av y) S.s y (P.m y)) S.bz.du.eA y (P.m y) (aU (av y) bc) (B3.mono (aF y))) (gD br)) (λj k=>k.at br) (by rw[A8,bK];exact ei (aq u (aF y)))
  (λx Z O k B7 C1=>?_) (λx j Q j O j k=>k O (av y) .dd) λaV A6 B9 bG=>?_
 ·have a:=S.bz.kf (A2 x Z);have bI:=aY.trans k;refine through (z:=O) (bz:=bz) P (bI.at S.s) (bI.at S.d) (ae.k bI) a.1 a.2 (S.bz.ys (A2 x Z)) λcD B4 C4 C5 F C6=>?_;have F:cD[B4]?=A (.W (((kX M x.2).map λai=>(x.1,ai)).map fB)):=by rw[ed];exact F
  exact C1 _ cD (ff (eu (av y) (bI.at S.s) y (P.m y) (aU (av y) (aU (av y) (aU (av y) bc))) (C4.mono (aF y))) (gD F)) (λC7 C0=>C0.get _ _ (fU (ef B7 C6)) F) C5
 rw[A8]at bG;have Y:=yW (B:=B) (n:=48) (aB:=.J 1) (gV pw (aU (av (i:=5) (N:=nM cY bz (.dF iJ) (A (am c)) (A (.J (D ah)))) y) bc) (LW (B:=B) bG (iV (Qc bi.ok az.gY az.te bi.snd) λa j b j e=>T.ext (nC e).1 (nC e).2) (er u (aF y)) (λQ A1=>(bJ.mp A1).elim λt q=>q.2▸t.pK) λQ A1=>(bJ.mp A1).elim λt q=>q.2▸λs l=>aq (B6 t q.1 s l) (aF y))) dt (av y) y (k:=3) (aF y) (by
  rw[bK];unfold pM;rw[WA];exact ei (aq u (aF y)))
 rw[abD]at Y;have J:=dt (z:=aV++[.W ((pM ((ky (dI aa L) M c).map T.bS)).map fB)]) (C:=.W ((sb (ky (dI aa L) M c)).map λt=>fB t.bS));have E:aM cI z (aV++[.W ((pM ((ky (dI aa L) M c).map T.bS)).map fB)]++[.W ((sb (ky (dI aa L) M c)).map λt=>fB t.bS)]):=(aY.trans B9).dS.dS;generalize(aV++[cT.W ((pM ((ky (dI aa L) M c).map T.bS)).map fB)]).length=q at Y J;generalize aV++[.W ((pM ((ky (dI aa L) M c).map T.bS)).map fB)]++[.W ((sb (ky (dI aa L) M c)).map λt=>fB t.bS)]=cD at Y J E;have A9:∀d,∀t∈oN (dI aa L) M c d,t.co+1<=42/\t.size<=1000000:=λd t A0=>A4.bound az.gY az.jf A0;have dz:=lj.Ts (c:=c) A9;rw[uD]at dz;refine(ae.k E).d.elim λag r=>(r.2.2 c X).elim λR A3=>?_;have I:=hz (b:=.Z (.J 3) (.J 2)) (av (B:=B) (n:=48) (i:=5) (N:=nM cY bz (.dF iJ) (A (am c)) (A (.J q))) (z:=cD) y) (fo (av y) (av y) (.Z r.1) (nA r.1 (rN r.2.1.1) A3.1)) (vc J A3.2 dz (lj.Ts ae.co));refine(oR (il (dI aa L) M c=M c)).elim (λU=>?_) λU=>?_
 ·rw[show V.kx ((sb (ky (dI aa L) M c)).map λt=>fB t.bS) ((M c).map λt=>fB t.bS)=ak from V.vF.mpr (bA (zm λt=>fB t.bS) U)]at I;exact B0 cD aW _ (bv A6.xy (bv (fX Y) (bv (hQ I) (by rw[Vl];exact eW)))) ⟨λj=>U,λj=>y⟩ (by rw[UD U];exact ae.k E) E.of
 ·rw[show V.kx ((sb (ky (dI aa L) M c)).map λt=>fB t.bS) ((M c).map λt=>fB t.bS)=aW from Ga.mpr λq=>U (Y? (V.vF.mp q))]at I;refine B0 _ ak _ (bv A6.xy (bv (fX Y) (bv (ku I (bv (sT (av y) (av y) (av y) (uR (B:=B) (H:=.J q) r.1 (rN (n:=c) r.2.1.1) (ei r.2.1.2))) (bv (fX uM) eW))) (by rw[Bool.or_true];exact eW)))) ⟨λh=>afh h.symm,λq=>aG q U⟩ ⟨⟨_,gR r.1,⟨vJ (P:=λk=>gs k=1) r.2.1.1 y,by rw[Js ⟨_,A3.1⟩];exact r.2.1.2⟩,λd B5=>?_⟩,A4.ok,A9⟩ (E.of.gN λq=>q y);by_cases e:d=c
  ·rw[e,uD];exact⟨_,DZ,fL J (kE r.1 J pF.symm)⟩
  ·rw[BZ e];exact(r.2.2 d B5).imp λa w=>⟨(DY λq=>e (mA q).symm).trans w.1,fL w.2 (kE r.1 w.2 pF.symm)⟩
theorem ov.cz{bz:Nat}(S:ov aQ cY es aa L z)(k:aM (·≠bz) z ah)(Z:aQ<=bz)(ab:cY≠bz)(ac:es≠bz):ov aQ cY es aa L ah:=⟨S.bz.cz (k.Z λa h e=>aG Z (kI.mpr (e▸h))),S.jf,S.tP,k.get _ _ ab S.s,k.get _ _ ac S.d⟩
def tG(aa:List bl)(L:Nat->Nat)(bg p cY bz:Nat)(ht:gx)(m:aA)(r:List Nat)(N:bk)(z:aA):Prop:=∀{P:Prop},(∀{hB:List Nat} {M:gx} {iJ:Bool} {cx bt:Option V},hB++r=hG aa L->N=nM cY bz (.dF iJ) cx bt->om (cs aa L) (dI aa L) bg p hB ht M iJ->lj z bz (fG aa L) M->aM (·≠bz) m z->P)->P
theorem tG.mk{aa:List bl}{L:Nat->Nat}{ht:gx}{r:List Nat}{N:bk}{z:aA}{hB:List Nat}{M:gx}(h:hB++r=hG aa L)(Y:N=nM cY bz (.dF iJ) cx bt)(X:om (cs aa L) (dI aa L) bg p hB ht M iJ)(J:lj z bz (fG aa L) M)(W:aM (·≠bz) aL z):tG aa L bg p cY bz ht aL r N z:=λZ=>Z h Y X J W
theorem tG.Y(P:cq B){bz:Nat}(az:qP (cs aa L) (dI aa L) (hG aa L))(j:yP (cs aa L) (hG aa L) bg)(S:ov aQ cY es aa L aL)(W:aQ<=bz)(ab:cY≠bz)(ac:es≠bz){r:List Nat}(h:tG aa L bg p cY bz ht aL (c::r) N z)(U:∀eg aV,gb B 48 Bb (N.set 2 (A (am c))) z .X eg aV->tG aa L bg p cY bz ht aL r eg aV->False):False:=h λ{hB M iJ cx bt} o e ao ae k=>by
 obtain rfl:=e;have X:c∈hG aa L:=kC o;have F:∀d∈hG aa L,d<c->d∈hB:=λd F Z=>by
  have Y:=az.up;rw[←o]at F Y;exact(ew.mp F).resolve_right λq=>(ee.mp q).elim (λe=>ic _ (e▸Z)) λq=>ic _ (kH Z ((qX.mp (uX.mp Y).2.1).1 d q))
 exact m? (iJ:=iJ) (bt:=bt) P az (S.cz k W ab ac) (ut.mp X) ao.jI (ao.Y az j X F ((@decide_eq_false_iff_not _ (uI _)).trans Mc)).jI ae λaV Q x I H w E=>U _ aV I (tG.mk ((ha ..).trans o) y (ao.Y az j X F H) w (k.trans E))
inductive GA(aa:List bl)(L:Nat->Nat)(bg cY bz:Nat)(aL:aA)(G:Nat)(N:bk)(z:aA):Prop
|run {p n:Nat} {M:gx} {cx bt:Option V}:n+p=bg->G=n+1->om (cs aa L) (dI aa L) bg p [] M M aW->lj z bz (fG aa L) M->N=nM cY bz (.dF ak) cx bt->aM (·≠bz) aL z->GA aa L bg cY bz aL G N z
|stop {M:gx} {cx bt:Option V}:uO (cs aa L) (dI aa L) (hG aa L) M->lj z bz (fG aa L) M->N=nM cY bz (.dF aW) cx bt->aM (·≠bz) aL z->GA aa L bg cY bz aL G N z
def Cx(aa:List bl)(L:Nat->Nat)(cY bz:Nat)(aL:aA)(N:bk)(z:aA):Prop:=∀{P:Prop},(∀{M:gx} {cx bt:Option V},uO (cs aa L) (dI aa L) (hG aa L) M->lj z bz (fG aa L) M->N=nM cY bz (.dF aW) cx bt->aM (·≠bz) aL z->P)->P
theorem Cx.mk{aa:List bl}{L:Nat->Nat}{N:bk}{z:aA}{M:gx}(h:uO (cs aa L) (dI aa L) (hG aa L) M)(Y:lj z bz (fG aa L) M)(X:N=nM cY bz (.dF aW) cx bt)(J:aM (·≠bz) aL z):Cx aa L cY bz aL N z:=λZ=>Z h Y X J
theorem m'(P:cq B){bz n:Nat}(az:qP (cs aa L) (dI aa L) (hG aa L))(I:yP (cs aa L) (hG aa L) bg)(S:ov aQ cY es aa L aL)(U:aQ<=bz)(ab:cY≠bz)(ac:es≠bz)(Q:n+p=bg)(ao:om (cs aa L) (dI aa L) bg p [] M M aW)(ae:lj z bz (fG aa L) M)(k:aM (·≠bz) aL z)(d:∀G bY O,G<n+1->gb B 48 [.ea 4 (.dF aW),.eP (.W 2) .bE (.bZ (.cy (.J 0) 15) 31 []) Bb] (nM cY bz (.dF ak) cx bt) z .X bY O->GA aa L bg cY bz aL G bY O->False):False:=by
 have Z:=S.cz k U ab ac;refine Z.bz.classes (n:=45) P λah q F aY br=>(ae.k aY).d.elim λag r=>?_;have H:q≠bz:=kE br r.1 pF;refine vA (B:=B) (n:=48) (i:=2) (b:=Bb) (N:=nM cY bz (.dF aW) cx bt) (ao:=tG aa L bg p cY bz M ah) (z:=z) (k:=.bE) (e:=.bZ (.cy (.J 0) 15) 31 [])
  (ff (eu (dR (av y) Z.s y (P.m y)) Z.bz.du.eA y (P.m y) bc (F.mono (aF y))) (gD br)) (λr N z j=>j λa a a a k=>k.get _ _ H br) (tG.mk (hB:=[]) (CS _) y ao (ae.k aY) .dd) (λx r N O j bI=>j.Y P az I (Z.k aY) U ab ac bI)
  λeg aV W j=>j λ{hB h iJ v s} o bq Y X w=>?_
 obtain rfl:=bq;obtain rfl:=(eF hB).symm.trans o;have E:aM (·≠bz) aL aV:=(k.trans aY.of).trans w;cases iJ with
 |false=>exact d 0 _ aV (iC _) (bv (fX uM) (bv W eW)) (.stop Y.fin X y E)
 |true=>
  cases n with
  |zero=>exact afh (Y.rF (fi (Q.symm.trans (hu p)))).symm
  |succ n=>exact d (n+1) _ aV (jO _) (bv (fX uM) (bv W eW)) (.run ((mi n p).symm.trans Q) y (Y.X az) X y E)
theorem m1(P:cq B){bz:Nat}(az:qP (cs aa L) (dI aa L) (hG aa L))(j:yP (cs aa L) (hG aa L) bg)(S:ov aQ cY es aa L aL)(Y:aQ<=bz)(ab:cY≠bz)(ac:es≠bz)(ao:GA aa L bg cY bz aL G N z)(d:∀bY O,eM B 48 (.tw (.J 4) [.ea 4 (.dF aW),.eP (.W 2) .bE (.bZ (.cy (.J 0) 15) 31 []) Bb]) N z .X bY O->Cx aa L cY bz aL bY O->False):False:=DM (ao:=GA aa L bg cY bz aL) ao (λG N z ao aY W=>ao.rec (λ{p n M cx bt} X e Z ae bP k=>by
  obtain rfl:=bP;obtain rfl:=e;exact m' P az j S Y ab ac X Z ae k λG bY O U Q w=>W G z bY O U (DI (av y) Tg) Q w) λF ae e k=>by
  obtain rfl:=e;exact aY z (DI (av y) Tg) (Cx.mk F ae y k)) d
def tE(hr:List Nat)(aL:aA)(r:List Nat)(l:List V)(z:aA):Prop:=∀{P:Prop},(∀{pre:List Nat} {R:Nat->Nat},pre++r=hr->l=(pre.map λc=>(am c,V.J (R c))).map tl->aM cI aL z->(∀c∈pre,D aL<R c/\z[R c]?=A (.W []))->P)->P
theorem tE.mk{r:List Nat}{z:aA}{pre:List Nat}{R:Nat->Nat}(h:pre++r=hr)(Y:l=(pre.map λc=>(am c,V.J (R c))).map tl)(X:aM cI aL z)(J:(∀c∈pre,D aL<R c/\z[R c]?=A (.W []))):tE hr aL r l z:=λZ=>Z h Y X J
theorem tE.add{r:List Nat}(j:tE hr aL (c::r) l z)(m:hr.Nodup)(Y:D aL<D z):tE hr aL r (l++[V.Y [am c,.J (D z)]]) ((z++[cT.W []]).set (D aL) (cT.W (l++[V.Y [am c,.J (D z)]]))):=j λ{pre R} o p k Z=>by
 have J:∀{d},d∈pre->d≠c:=λh e=>by
  rw[←o,oX]at m;exact m.2.2 _ h c (.head _) e
 refine tE.mk (pre:=pre++[c]) (R:=BY R c (D z)) ((ha ..)▸o) ?_ (k.dS.set (cu _)) λd F=>(ew.mp F).elim (λF=>?_) λF=>?_
 ·rw[p,eI,eI,jv,yH];exact bA (·++_) (bA _ (lb λd F=>(wl (J F))▸y))
 ·rw[wl (J F)];exact⟨(Z d F).1,fL (eQ (Z d F).2) (eC (Z d F).1)⟩
 ·rw[cB.mp F,yH];exact⟨Y,fL dt (eC Y)⟩
noncomputable def e6(cY c:Nat):bk:=[A (.J cY),A (am c),A (am 3)]
theorem l1(P:cq B)(A0:eh (cs aa L))(S:ov aQ cY es aa L z)(A2:∀O p M,dU B 49 26 [.J cY,am 3] z (.J p) O->aM cI z O->uO (cs aa L) (dI aa L) (hG aa L) M->lj O p (fG aa L) M->False):False:=by
 have az:=S.bz.cls A0 S.jf;refine(k4 (cs aa L) (hG aa L)).elim λbg i=>S.bz.classes (n:=46) P λah p u aY br=>?_;have E:(hG aa L).length<=14:=aq (zj _ _) ((iA ..)▸S.jf);have v:(hG aa L).Nodup:=az.up.imp λ{a b} (h:a<b) (e:a=b)=>eC h e;refine sg (B:=B) (n:=48) (dc:=[aj]) (ax:=[]) (N:=[A (.J cY),A (am 3),aj,aj,aj,aj]) (z:=z) (k:=.bE) (e:=.bZ (.cy (.J 0) 15) 31 []) (bP:=.Y [(.J 0),(.W [])]) (aS:=hG aa L) (g:=am)
  (ao:=tE (hG aa L) ah) y (ff (eu (dR (av y) S.s y (P.m y)) S.bz.du.eA y (P.m y) bc u) (gD br)) (ei (aq E (aF y))) (λd d d j=>j λd d k d=>k.at br) (tE.mk (pre:=[]) (R:=λd=>0) y y .cS λd=>afk)
  (λx r l O j aE k=>k _ _ (eL (aU (av y) (aU (gB bc (cW _)) bc)) hq) (eQ aE) (j.add v (fA aE))) λaV l t j w=>j λ{pre R} o U Z H=>?_
 obtain rfl:=(eF pre).symm.trans o;rw[U]at w;have Q:(((hG aa L).map λc=>(am c,V.J (R c))).map (·.1)).Nodup:=by
  rw[ed];exact iV v λd d d d e=>mA e
 have aC:∀x∈(hG aa L).map λc=>(am c,V.J (R c)),V.hm 8 x.1=ak/\gs x.1=1:=λx Y=>(bJ.mp Y).elim λc q=>q.2▸⟨y,y⟩;have W:((hG aa L).map λc=>(am c,V.J (R c))).length<=100:=gu (aq E (aF y));have aP:aM cI z (aV++[.Z ([]++(hG aa L).map λc=>(am c,V.J (R c)))]):=(aY.trans Z).dS;have I:cY<D aV:=fA ((aY.trans Z).at S.s);refine m1 (G:=bg+1) (N:=nM cY (D aV) (.dF ak) aj aj) P az i (S.k aP) (aq S.tP (dK I)) (eC I) (eC (fA ((aY.trans Z).at S.d)))
  (.run (p:=0) y y (P? az) ⟨⟨_,dt,⟨λx Y=>(aC x Y).2,W⟩,λc X=>⟨R c,Jo Q (gd (f:=λc=>(am c,V.J (R c))) (ut.mpr X)),eQ (H c (ut.mpr X)).2⟩⟩,λd=>⟨.nil,cW _⟩,λd d=>afk⟩ y .dd) λbY O s j=>j λF ae e A1=>?_
 obtain rfl:=e;exact A2 O (D aV) _ (ep (P.b y) y (bv (fX (gV IU (aU t.ev bc) (Ge (B:=B) w (KL (fm:=1) _ [] aC Q (ei W))))) (bv (fX uM) (bv s (fy (av y))))) (.inl y)) (aP.past A1 (aY.trans Z).le) F ae
theorem e7(P:cq B)(Q:eh (cs aa L))(S:ov aQ cY es aa L z)(X:c<D aa)(d:∀(r:List T) (O:aA) (p:Nat),dU B 50 27 [.J cY,am c,am 3] z (.J p) O->aM cI z O->O[p]?=A (.W (r.map λt=>.Y [am t.size,t.J]))->jB (fe r)->(∀t∈r,dO (cs aa L) t (L c))->(∀t,dO (cs aa L) t (L c)->hX (fe r) t.Y)->(∀t∈r,t.co+1<=42)->False):False:=by
 refine l1 P Q S λO p M b k F ae=>ae.d.elim λag r=>(r.2.2 _ (⟨S.bz.fF.qD X,S.bz.fF.nN c X⟩:fG aa L (L c))).elim λa l=>?_;have Z:=S.k k;refine oe (B:=B) (n:=49) (N:=e6 cY c) (z:=z) (k:=.bE) (dc:=[aj]) (ax:=[]) (aS:=M (L c)) (g:=λt=>fB t.bS) (f:=λt=>.Y [am t.size,t.J]) (e:=.Z (.bZ (.J 0) 30 [(.J 2)]) (.bZ (.cy (.J 0) 15) 22 [(.J 1)])) (bP:=.Y [(.Z (.J 0) (.X 0)),(.Z (.J 0) (.X 2))]) y
  (ff (fo (eu (av y) S.s y (P.m y) (aU (av y) bc) b) (eu (dR (av y) Z.s y (P.m y)) Z.bz.du.eA y (P.m y) (aU (av y) bc) (Z.bz.find (n:=47) P X)) (.Z r.1) (nA r.1 (rN r.2.1.1) l.1)) (gD l.2)) (ei (aq (bK T.Y▸(ae.Ex (L c)).J) (aF y))) (λx k=>k.at l.2)
  (λt x z x k=>k z (eL (aU (fo (av y) cE .Y (jx y (by rw[t.size_eq];rfl))) (aU (fo (av y) cE .Y (jx y (bA _ t.tv.symm))) bc)) hq) .dd) λY cL dw J=>?_
 exact d (M (L c)) Y _ (ep (P.b y) y (bv (hQ (hz (av y) (cE (i:=1)) (zG (i:=3) (j:=1)))) (fy cL.ev)) (.inl y)) (k.trans dw) J (ae.Ex _) (F.jI.snd _) (λt m=>F.all (S.bz.cls Q S.jf) t.size _ t m (cu _)) λt m=>(ae.co _ t m).1
end
section
variable{b:Nat} {aa:List bl} {K:Nat} {M:Nat->Nat->Prop}
structure kZ(aa:List bl)(L:Nat->Nat)(c:Nat)(G:List Nat):Prop where
 no:G.Nodup
 mem:∀i,i∈G↔i<D aa/\L i=c
structure kl(aa:List bl)(L:Nat->Nat)(bg c:Nat)(G:List Nat):Prop where
 J:D G<=bg
 lt:∀n∈G,n<D aa
 all:∀(n:Nat) (x:bl) (k:Nat),aa[n]?=A x->k∈x.2->L k=c->n∈G
structure qJ(aa:List bl)(L:Nat->Nat)(bQ:Nat->Nat)(ag:List (V×V)):Prop where
 cls:∀x∈ag,gs x.1=1
 J:D ag<=D aa
 get:∀c,fG aa L c->cX ag (am c)=A (.J (bQ c))
structure nu(aa:List bl)(L:Nat->Nat)(fK:Nat->Prop)(K:Nat)(ag:List (V×V)):Prop where
 J:D ag<=K
 cls:∀x∈ag,gs x.1=3
 old:∀k H,cX ag k=A H->∃G x ax,H=am G/\aa[G]?=A x/\k=cU (x.1,ax)/\ax.map L=x.2.map L
 cS:∀(n:Nat) (x:bl),aa[n]?=A x->fK n\/∃G,cX ag (cU (he L x))=A (am G)/\L G=L n
structure dJ(F:Nat->Prop)(aa:List bl)(L:Nat->Nat)(fK:Nat->Prop)(cR:List Nat)(aO bg K:Nat)(M:Nat->Nat->Prop)(bQ:Bool->Nat->Nat)(z:aA):Prop where
 du:iY z
 fF:kt z (D aa) L
 lz:z[9]?=A (.W (aa.map cU))
 hR:∀(n:Nat) (x:bl),aa[n]?=A x->x.1<5/\x.2.length=dN x.1/\∀k∈x.2,k<n
 eJ:∀a,F a->(a<7\/(9<a/\a<13)\/21<a)/\a<D z
 gy:∀b c,fG aa L c->21<bQ b c/\¬F (bQ b c)
 inj:∀b c Q d,fG aa L c->fG aa L d->bQ b c=bQ Q d->b=Q/\c=d
 nP:∃l,z[15]?=A (.W l)/\D l=D aa/\∀c,fG aa L c->l[c]?=A (.J (bQ aW c))
 qx:∀c,fG aa L c->∃G,fT z (bQ aW c) G/\kZ aa L c G
 vB:∃ag,z[20]?=A (.Z ag)/\qJ aa L (bQ ak) ag
 mW:∀c,fG aa L c->∃G,fT z (bQ ak c) G/\kl aa L bg c G
 lU:∃ag,z[19]?=A (.Z ag)/\nu aa L fK K ag
 qu:∃l,z[17]?=A (.W l)/\D l=aO
 vQ:∃l,z[18]?=A (.W l)/\D l<=aO
 merged:∃l,z[16]?=A (.W l)/\D l<=aO
 lZ:fT z 21 cR
 se:∀n∈cR,n<D aa
 nf:∀i j,i<D aa->j<D aa->L i=L j->M i j
def vd(i:Nat):Prop:=(7<=i/\i<=9)\/(13<=i/\i<=21)
instance(i:Nat):Decidable (vd i):=inferInstanceAs(Decidable ((7<=i/\i<=9)\/(13<=i/\i<=21)))
theorem dJ.th(aT:dJ F aa L fK cR aO bg K M bQ z){a:Nat}(h:vd a):¬F a:=λi=>have t:=(aT.eJ a i).1
 h.elim (λh=>t.elim (λt=>fP.mpr h.1 t) λt=>t.elim (λt=>fP.mpr h.2 t.1) λt=>aG (ef t h.2) (by decide))
  λh=>t.elim (λt=>aG (er h.1 t) (by decide)) λt=>t.elim (λt=>fP.mpr h.1 t.2) λt=>fP.mpr h.2 t
theorem kt.fZ(U:kt z bC L)(h:∀p,fT z 14 p->fT ah 14 p):kt ah bC L:={U with tm:=U.tm.imp λp q=>⟨h p q.1,q.2⟩}
theorem iY.cz{S:Nat->Prop}(aT:iY z)(k:aM S z ah)(h:∀i,vd i->i≠14/\i≠16/\i≠17/\i≠18/\i≠19/\i≠20/\i≠21->S i):iY ah:=⟨k.get _ _ (h 7 (by decide) (by decide)) aT.eA,k.get _ _ (h 8 (by decide) (by decide)) aT.jj,k.get _ _ (h 13 (by decide) (by decide)) aT.ii⟩
theorem dJ.fZ{S:Nat->Prop}{pS:Nat}(aT:dJ F aa L fK cR aO bg K M bQ z)(k:aM S z ah)(aB:∀i,vd i->i≠17/\i≠19/\i≠21->S i)(u:∀b c,fG aa L c->S (bQ b c))(Q:aO<=Z8)(qu:∃l,ah[17]?=A (.W l)/\D l=Z8)(lU:∃ag,ah[19]?=A (.Z ag)/\nu aa L tc pS ag)(lZ:fT ah 21 o)(se:∀n∈o,n<D aa):dJ F aa L tc o Z8 bg pS M bQ ah where
 du:=aT.du.cz k λi h q=>aB i h ⟨q.2.2.1,q.2.2.2.2.1,q.2.2.2.2.2.2⟩
 fF:=aT.fF.fZ λp q=>k.get _ _ (aB 14 (by decide) (by decide)) q
 lz:=k.get _ _ (aB 9 (by decide) (by decide)) aT.lz
 hR:=aT.hR
 eJ a h:=⟨(aT.eJ a h).1,ef (aT.eJ a h).2 k.le⟩
 gy:=aT.gy
 inj:=aT.inj
 nP:=aT.nP.imp λl q=>⟨k.get _ _ (aB 15 (by decide) (by decide)) q.1,q.2⟩
 qx c X:=(aT.qx c X).imp λG q=>⟨k.get _ _ (u _ _ X) q.1,q.2⟩
 vB:=aT.vB.imp λl q=>⟨k.get _ _ (aB 20 (by decide) (by decide)) q.1,q.2⟩
 mW c X:=(aT.mW c X).imp λG q=>⟨k.get _ _ (u _ _ X) q.1,q.2⟩
 lU:=lU
 qu:=qu
 vQ:=aT.vQ.imp λl q=>⟨k.get _ _ (aB 18 (by decide) (by decide)) q.1,aq q.2 Q⟩
 merged:=aT.merged.imp λl q=>⟨k.get _ _ (aB 16 (by decide) (by decide)) q.1,aq q.2 Q⟩
 lZ:=lZ
 se:=se
 nf:=aT.nf
theorem dJ.cz(aT:dJ F aa L fK cR aO bg K M bQ z)(k:aM (λa=>¬F a) z ah):dJ F aa L fK cR aO bg K M bQ ah:=aT.fZ k (λi h x=>aT.th h) (λb c X=>(aT.gy b c X).2) (cu _) (aT.qu.imp λl q=>⟨k.get _ _ (aT.th (by decide)) q.1,q.2⟩) (aT.lU.imp λl q=>⟨k.get _ _ (aT.th (by decide)) q.1,q.2⟩) (k.get _ _ (aT.th (by decide)) aT.lZ) aT.se
theorem dJ.lL(aT:dJ F aa L fK cR aO bg K M bQ z):22<=D z:=fA aT.lZ
theorem dJ.olds(aT:dJ F aa L fK cR aO bg K M bQ z)(b:Bool)(X:fG aa L c):bQ b c<D z:=by
 cases b with
 |false=>exact(aT.qx c X).elim λG q=>fA q.1
 |true=>exact(aT.mW c X).elim λG q=>fA q.1
theorem dJ.grow(aT:dJ F aa L fK cR aO bg K M bQ z)(k:aM (λa=>¬F a) z ah):dJ (λa=>F a\/(D z<=a/\a<D ah)) aa L fK cR aO bg K M bQ ah:=
 {aT.cz k with
  eJ:=λa h=>h.elim ((aT.cz k).eJ a) λh=>⟨.inr (.inr (ef aT.lL h.1)),h.2⟩
  gy:=λb c X=>⟨(aT.gy b c X).1,λh=>h.elim (aT.gy b c X).2 λh=>fP.mpr h.1 (aT.olds b X)⟩}
theorem dJ.less(aT:dJ F aa L fK cR aO bg K M bQ z)(h:∀a,hi a->F a):dJ hi aa L fK cR aO bg K M bQ z:=
 {aT with eJ:=λa q=>aT.eJ a (h a q),gy:=λb c X=>⟨(aT.gy b c X).1,λq=>(aT.gy b c X).2 (h _ q)⟩}
theorem kZ.J{G:List Nat}(h:kZ aa L c G):D G<=D aa:=by have q:=h.no.length_le_of_subset (l₂:=fz (D aa)) λi aB=>hk.mpr ((h.mem i).mp aB).1;rw[iA]at q;exact q
theorem dJ.bz(aT:dJ F aa L fK cR aO bg K M bQ z):gj (D z) z aa L:=⟨aT.du,aT.fF,aT.lz,aT.hR,aT.lL,aT.nP.imp λl q=>⟨q.1,λc ab ac=>(aT.qx c ⟨ab,ac⟩).elim λG h=>⟨_,G,q.2.2 c ⟨ab,ac⟩,fA h.1,h.1,h.2.no,h.2.J,h.2.mem⟩⟩⟩
noncomputable def hT(L:Nat->Nat)(k g:Nat)(i:Nat):Nat:=if L i=g then k else L i
theorem oF{k g i:Nat}(h:L i=g):hT L k g i=k:=cg h
theorem kB{k g i:Nat}(h:L i≠g):hT L k g i=L i:=bV h
end
section
variable{b k g:Nat} {aa:List bl} {K:Nat} {M:Nat->Nat->Prop}
theorem JZ{x Q:Nat}(h:x<=Q):V.le (am x) (am Q)=ak:=by
 unfold V.le;rw[AP];unfold dM;by_cases ab:x<Q
 ·rw[cg ab];rfl
 ·rw[bV ab,bV (fP.mpr h)];rfl
theorem LX{G:List V}(aE:z[a]?=A (.W l))(h:l.Nodup)(Z:D l<64)(O:qo l G)(K:gO t u l):hH B (.builtin "sorted") [.J a] z (.J (D z)) (z++[.W G]):=by have:=Go (B:=B) aE (O.sort K Z ⟨h,λx=>zb⟩) K;rw[ed,show((·.2)∘λH:V=>(H,H))=id from y,zp]at this;exact this
theorem Ks{x Q:Nat}(h:x≠Q):[am x,am Q].Nodup:=jN.mpr ⟨λq=>h (mA (cB.mp q)),jm ..⟩
theorem SS{x Q:Nat}(h:x<Q)(Z:[am x,am Q].Perm l):qo l [am x,am Q]:=⟨Ks (eC h),λa=>Z.mem_iff,qX.mpr ⟨λba j=>cB.mp j▸JZ (dK h),jm ..⟩⟩
theorem Vu{x:Nat}(aE:z[a]?=A (.W [am x,am x])):hH B (.builtin "sorted") [.J a] z (.J (D z)) (z++[.W [am x,am x]]):=by
 have K:=gO.Be [x,x];have h:∀p:V×V,p∈[am x,am x].zip [am x,am x]->p.2=am x:=λp Z=>(ee.mp Z).elim (λe=>e▸y) λZ=>cB.mp Z▸y;exact Go (G:=[(am x,am x),(am x,am x)]) aE ⟨y,adk _,qX.mpr ⟨λba j=>((cB.mp j)).symm▸JZ (cu x),jm ..⟩,λp Z q Y b=>((h p Z)▸(h q Y)▸y),.inr λi aB=>by
  cases i with
  |zero=>exact JZ (cu x)
  |succ i=>exact aG aB (fP.mpr (gF 2 i)),(by decide:2<64),K.hF⟩ K
theorem Vv{x Q:Nat}(aE:z[a]?=A (.W [am x,am Q])):hH B (.builtin "sorted") [.J a] z (.J (D z)) (z++[.W [am (gn x Q),am (iB x Q)]]):=by
 refine(Dd x Q).elim (λh=>?_) λh=>h.elim (λe=>?_) λh=>?_
 ·rw[sA (dK h),De (dK h)];exact LX aE (Ks (eC h)) (by decide:2<64) (SS h (.refl _)) (gO.Be [x,Q])
 ·obtain rfl:=e;exact(Hp ..)▸(Xd ..)▸Vu aE
 ·rw[Df (dK h),zy (dK h)];exact LX aE (Ks (fU h)) (by decide:2<64) (SS h (.swap ..)) (gO.Be [x,Q])
theorem Sn{x Q:Nat}(h:x≠Q):gn x Q<iB x Q:=(Nat.lt_or_gt_of_ne h).elim (λh=>by rw[sA (dK h),De (dK h)];exact h) λh=>by rw[Df (dK h),zy (dK h)];exact h
noncomputable def EC(a b k g:V):bk:=[A (.J 13),A a,A b,A k,A g]
theorem Sk(P:cq B)(Z:iY z)(U:kt z G L)(aE:a<G)(al:b<G):eM B (n+1) (.vC [3,4] (.bR "sorted" [(.W [(.bZ (.J 0) 22 [(.J 1)]),(.bZ (.J 0) 22 [(.J 2)])])])) [A (.J 13),A (am a),A (am b),aj,aj] z .X (EC (am a) (am b) (am (gn (L a) (L b))) (am (iB (L a) (L b)))) (z++[.W [am (L a),am (L b)]]++[.W [am (gn (L a) (L b)),am (iB (L a) (L b))]]):=DL (gV pw (aU (gB (aU (eu (av y) Z.ii y (P.m y) (aU (av y) bc) (U.find P Z aE)) (aU (eu (av y) Z.ii y (P.m y) (aU (av y) bc) (U.find P Z al)) bc)) hq) bc) (Vv dt)) (.Y (is:=[3,4]) (.W dt) y)
theorem abW(P:cq B)(Z:iY z)(U:kt z G L)(aE:a<G)(al:b<G)(e:L a=L b)(d:∀O,dU B (n+2) 32 [.J 13,am a,am b] z .bM O->aM cI z O->False):False:=by have ab:=Sk (n:=n) P Z U aE al;rw[e,Hp,Xd]at ab;exact d _ (ep (P.b y) y (bv ab (lE (ku (vy (av y) (av y) y) (lE (AB tD λx=>⟨y,y⟩) nj)) nj)) (.inl y)) aM.cS.dS
structure zv(bC k g R oQ:Nat)(p mk Y:List Nat)(C Z:List V)(z:aA):Prop where
 BG:fT z 14 p
 hD:D p=bC
 Fl:z[15]?=A (.W C)
 Tl:C[k]?=A (.J R)
 Tn:C[g]?=A (.J oQ)
 Fm:z[16]?=A (.W Z)
 Ru:D Z<=1000
 Fn:fT z R mk
 Fo:fT z oQ Y
 tA:21<R
 FR:21<oQ
 UW:R≠oQ
 J:D mk+D Y<=1000
theorem gg{i x:Nat}(h:21<x)(aB:i<=21:=by decide):x≠i:=λq=>aG (q▸h) (fP.mpr aB)
theorem zv.cz{R i:Nat}{p mk:List Nat}(af:zv bC k g R oQ p mk o v l z)(h:aM (·≠i) z ah)(aB:(14≠i/\15≠i/\16≠i)/\i<=21:=by decide):zv bC k g R oQ p mk o v l ah:=
 {af with BG:=h.get _ _ aB.1.1 af.BG,Fl:=h.get _ _ aB.1.2.1 af.Fl,Fm:=h.get _ _ aB.1.2.2 af.Fm,Fn:=h.get _ _ (gg af.tA aB.2) af.Fn,Fo:=h.get _ _ (gg af.FR aB.2) af.Fo}
theorem abV(P:cq B)(f:iY z)(U:kt z G L)(aE:a<G)(al:b<G)(e:L a≠L b)(A1:gn (L a) (L b)=k)(u:iB (L a) (L b)=g){p mk:List Nat}{R:Nat}(af:zv G k g R oQ p mk o l aS z)(A2:∀O H,dU B (n+2) 32 [.J 13,am a,am b] z (.Y [am k,am g]) O->aM (λx=>x≠14/\x≠16/\x≠R) z O->fT O 14 (p.set g k)->O[16]?=A (.W (aS++[H]))->fT O R (mk++o)->False):False:=by
 have r:=Sn e;have E:iB (L a) (L b)<G:=Nat.max_lt.mpr ⟨U.qD aE,U.qD al⟩;have ab:=Sk (n:=n) P f U aE al;rw[A1,u]at ab r;rw[u]at E;have aY:aM cI z (z++[cT.W [am (L a),am (L b)]]++[cT.W [am k,am g]]):=aM.cS.dS;generalize z++[cT.W [am (L a),am (L b)]]++[cT.W [am k,am g]]=ah at ab aY;have d:=f.cz aY λc c c=>trivial;have F:=U.pY;have J:=Mq (B:=B) (H:=am k) (aY.at af.BG) (j:=g) (by rw[bK,af.hD];exact E) (by rw[bK,af.hD];exact ei F);have Z:aM (·≠14) ah (ah.set 14 (.W ((p.map am).set g (am k)))):=aM.dd.gN λh=>h y;have w:=gR (x:=.W ((p.map am).set g (am k))) (aY.at af.BG);generalize ah.set 14 (.W ((p.map am).set g (am k)))=aV at J Z w;have M:=Z.get _ _ (eG y) d.ii;have I:=Z.get _ _ (eG y) (aY.at af.Fl);have s:∀{j i:Nat} {H:V},l[j]?=A H->j<G->(EC (am a) (am b) (am k) (am g))[i]?=A (A (am j))->bW B (n+1) (.Z (.cy (.J 0) 34) (.J i)) (EC (am a) (am b) (am k) (am g)) aV H aV:=λh A0 aB=>
  fo (dR (av y) M y (P.m y)) (av aB) (.W I) (nB I (lT (ei (aq (dK A0) F))) (vD h))
 have W:=Z.get _ _ (gg af.tA) (aY.at af.Fn);have t:=jR (iL (s af.Tl (kH r E) (i:=3) y) (.AZ W) (aU (s af.Tn E (i:=4) y) bc) (Cn W (.W (Z.get _ _ (gg af.FR) (aY.at af.Fo))) (by rw[bK,bK];exact hg (aq af.J (aF y)))));have Y:aM (·≠R) aV (aV.set R (.W (mk.map am++o.map am))):=aM.dd.gN λh=>h y;have C:=gR (x:=.W (mk.map am++o.map am)) W;generalize aV.set R (.W (mk.map am++o.map am))=cD at t Y C;have q:=λ{i} (h:i<=21)=>(gg af.tA h).symm;have X:=Y.get _ _ (q (aF y)) (Z.get _ _ (eG y) (aY.at af.Fm));refine A2 _ _ (ep (P.b y) y (bv ab (bv (hQ (vx (av y) (av y) (eC r))) (bv (sT (av y) (dR (av y) d.ii y (P.m y)) (av y) J) (bv t (bv (jR (iL (dR (nm:=35) (av (B:=B) (n:=n+1) (i:=0) (N:=EC (am a) (am b) (am k) (am g)) y) (Y.get _ _ (q (aF y)) M) y (P.m y)) (.append X) (aU (eL (aU (av (i:=3) y) (aU (av (i:=4) y) bc)) hq) bc) (qO X (hg (aq af.Ru (aF y)))))) (fy (eL (aU (av y) (aU (av y) bc)) hq))))))) (.inl y)) (((aY.of.trans (Z.Z λc h=>h.1)).trans (Y.Z λc h=>h.2.2)).gN λh=>h.2.1 y) ?_ (gR X) ?_
 ·show _=A (cT.W ((p.set g k).map am));rw[List.map_set];exact fL (Y.get _ _ (q (aF y)) w) (eG y)
 ·show _=A (cT.W ((mk++o).map am));rw[eI];exact fL C (q (aF y))
end
section
variable{b k g:Nat} {aa:List bl} {K:Nat} {M:Nat->Nat->Prop} {r:V}
theorem EW{i:Nat}(U:bW B n e N z (.J i) z)(h:z[i]?=A (.W l))(aE:bW B n dG N z H z)(Z:D l<=1000)(d:∀ah,eM B n (.fY (.eO e "append" [dG])) N z .X N ah->ah[i]?=A (.W (l++[H]))->aM (·≠i) z ah->D ah=D z->False):False:=d _ (jR (iL U (.append h) (aU aE bc) (qO h (hg (aq Z (aF y)))))) (gR h) (aM.dd.gN λh=>h y) (lJ ..)
theorem ZQ(h:bW B n e N z (.Y l) O):eB B n (.isNone e) N z aW O:=Pq h
theorem ZN(h:bW B n e N z .bM O):eB B n (.isNone e) N z ak O:=Pq h
noncomputable def Bg(a b:Nat)(r:V)(bO bt cj:Option V):bk:=[A (.J 7),A (am a),A (am b),A r,bO,bt,cj]
theorem dJ.v'(P:cq B)(aT:dJ F aa L fK cR aO bg K M bQ z)(aE:a<D aa)(al:b<D aa)(e:L a=L b)(Q:aO<=900)(R:∀O,dU B (n+4) 43 [.J 7,am a,am b,r] z (.dF aW) O->dJ F aa L fK cR (aO+1) bg K M bQ O->aM F z O->False):False:=by
 refine aT.qu.elim λl U=>EW (B:=B) (n:=n+3) (N:=Bg a b r aj aj aj) (dR (nm:=19) (av (i:=0) y) aT.du.eA y (P.m y)) U.1 (eL (aU (av (i:=1) y) (aU (av (i:=2) y) (aU (av (i:=3) y) bc))) xW) (U.2▸aq Q (aF y)) λah Y f aY j=>?_;have o:=aT.du.cz aY λi d q=>q.2.2.1;refine abW (n:=n+1) P o (aT.fF.fZ λp q=>aY.get _ _ (eG y) q) aE al e λaV W Z=>?_;have k:aM (·≠17) z aV:=aY.trans Z.of;exact R aV (ep (P.b y) y (bv Y (bv (fX (eu (dR (av y) o.eA y (P.m y)) o.ii y (P.m y) (aU (av y) (aU (av y) bc)) W)) (lE (ku (ZN (av y)) (lE (AB uM λh=>nomatch h) nj)) nj))) (.inl y))
  (aT.fZ k (λi d q=>q.1) (λb c X=>gg (aT.gy b c X).1) (ka aO) ⟨_,Z.at f,by rw[cp,U.2];rfl⟩ (aT.lU.imp λl q=>⟨k.get _ _ (eG y) q.1,q.2⟩) (k.get _ _ (by decide) aT.lZ) aT.se) (k.Z λx h q=>aT.th (a:=17) (by decide) (q▸h))
noncomputable def qH(bQ:Bool->Nat->Nat)(k x:Nat)(b:Bool)(c:Nat):Nat:=if b=ak/\c=k then x else bQ b c
theorem UB{x:Nat}:qH bQ k x ak k=x:=cg ⟨y,y⟩
theorem Uz{x:Nat}:qH bQ k x aW c=bQ aW c:=bV λh=>afh h.1
theorem UA{x:Nat}{b:Bool}(h:c≠k):qH bQ k x b c=bQ b c:=bV λq=>h q.2
theorem acb{x:Nat}{b:Bool}:qH bQ k x b c=x\/qH bQ k x b c=bQ b c:=by
 by_cases q:b=ak/\c=k
 ·exact .inl (cg q)
 ·exact .inr (bV q)
theorem Qy(X:fG aa L k)(Q:fG aa L g)(Z:k≠g):fG aa (hT L k g) c↔fG aa L c/\c≠g:=by
 refine⟨λh=>?_,λh=>⟨h.1.1,(kB (λq=>h.2 (h.1.2.symm.trans q))).trans h.1.2⟩⟩;have ac:=h.2;by_cases e:L c=g
 ·rw[oF e]at ac;exact aG ((show L k=k from X.2).symm.trans (ac▸e)) Z
 ·rw[kB e]at ac;exact⟨⟨h.1,ac⟩,λq=>e (ac.trans q)⟩
theorem xR(i:Nat):hT L k g i=(λx=>if x=g then k else x) (L i):=y
theorem r6{p:List Nat}{s aJ:aA}(U:kt s bC L)(I:fT s 14 p)(R:D p=bC)(P:∀i j,p[i]?=A j->j<=i/\L j=L i/\(j=i↔L i=i))(Z:k<g)(Q:g<bC)(W:L k=k)(J:L g=g)(h:fT aJ 14 (p.set g k)):kt aJ bC (hT L k g):=by
 have Y:hT L k g k=k:=(kB (λq=>aG (W.symm.trans q) (eC Z))).trans W;refine⟨U.pY,λi aB=>?_,λi aB=>?_,p.set g k,h,(lJ ..).trans R,λi j X=>?_⟩
 ·by_cases e:L i=g
  ·rw[oF e];exact aq (dK Z) (e▸U.le i aB)
  ·rw[kB e];exact U.le i aB
 ·by_cases e:L i=g
  ·rw[oF e];exact Y
  ·rw[kB e,kB (by rw[U.nN i aB];exact e)];exact U.nN i aB
 ·by_cases e:g=i
  ·obtain rfl:=e;rw[MP (R▸Q)]at X;obtain rfl:=dk X;rw[Y,oF J];exact⟨dK Z,y,zb⟩
  ·rw[wL e]at X;have w:=P i j X;refine⟨w.1,by rw[xR,xR,w.2.1],w.2.2.trans ?_⟩;by_cases q:L i=g
   ·rw[oF q,q];exact⟨λu=>aG u e,λu=>aG (W.symm.trans (u.symm▸q)) (eC Z)⟩
   ·rw[kB q]
structure Wi(bC k g R md uG:Nat)(Z t cR:List Nat)(Y X:List V)(ag:List (V×V))(z:aA):Prop where
 TJ:z[17]?=A (.W Y)
 JJ:D Y<=1000
 TK:z[18]?=A (.W X)
 na:D X<=1000
 lZ:fT z 21 cR
 Ry:D cR+D t<=cZ
 TL:z[20]?=A (.Z ag)
 cls:∀x∈ag,gs x.1=1
 J:D ag<=1000
 QB:cX ag (am k)=A (.J md)
 Jm:cX ag (am g)=A (.J uG)
 TS:fT z md Z
 TQ:fT z uG t
 px:21<md/\md≠R
 DR:21<uG/\uG≠R
 lim:D Z+D t<=cZ
structure MC(k g R Z:Nat)(p mk u Y t cR:List Nat)(X W J:List V)(ag:List (V×V))(z O:aA):Prop where
 cz:aM (λx=>(x≠17/\x≠18/\x≠20/\x≠21)/\(x≠14/\x≠16/\x≠R)) z O
 AI:fT O 14 (p.set g k)
 PT:∃H,O[16]?=A (.W (X++[H]))
 PU:∃H,O[17]?=A (.W (W++[H]))
 PV:∃H,O[18]?=A (.W (J++[H]))
 PW:fT O 21 (cR++t)
 PX:fT O R (mk++u)
 fresh:D z<=Z
 AJ:O[20]?=A (.Z (hp (kA ag (am g)) (am k) (.J Z)))
 Qp:fT O Z (Y++t)
theorem v!(P:cq B)(A4:iY z)(U:kt z G L)(aE:a<G)(al:b<G)(e:L a≠L b)(A8:gn (L a) (L b)=k)(A7:iB (L a) (L b)=g){p mk Y t:List Nat}{R md uG:Nat}(af:zv G k g R oQ p mk o l aS z)(ao:Wi G k g R md uG Y t cR fM hs ag z)(B0:∀O B2,dU B (n+4) 43 [.J 7,am a,am b,r] z (.dF ak) O->MC k g R B2 p mk o Y t cR aS fM hs ag z O->False):False:=by
 refine EW (B:=B) (n:=n+3) (N:=Bg a b r aj aj aj) (dR (nm:=19) (av (i:=0) y) A4.eA y (P.m y)) ao.TJ (eL (aU (av (i:=1) y) (aU (av (i:=2) y) (aU (av (i:=3) y) bc))) xW) ao.JJ λah A5 PU aY B3=>?_;have w:=A4.cz aY λi c q=>q.2.2.1;refine abV (n:=n+1) P w (U.fZ λp q=>aY.get _ _ (eG y) q) aE al e A8 A7 (af.cz aY) λaV B5 ae s AI PT PX=>?_;have C:=λ{i} (h:i<=21)=>(gg af.tA h).symm;have d:=w.cz s λi h q=>⟨q.1,q.2.1,C (h.elim (λh=>aq h.2 (by decide)) (·.2))⟩
 have PU:=s.get _ _ ⟨by decide,by decide,C (by decide)⟩ PU;have PV:=s.get _ _ ⟨by decide,by decide,C (by decide)⟩ (aY.get _ _ (eG y) ao.TK);refine EW (B:=B) (n:=n+3) (N:=Bg a b r (A (.Y [am k,am g])) (A (am k)) (A (am g))) (dR (nm:=41) (av (i:=0) y) d.eA y (P.m y)) PV (en (km (dR (nm:=19) (av (i:=0) y) d.eA y (P.m y)) PU (by rw[cp];exact hg (aq (dn ao.JJ) (by decide)))) (cE (i:=1)) (kp (j:=1) (by rw[cp];exact gF _ _))) ao.na λcD A6 PV I B4=>?_;have f:=d.cz I λi c q=>q.2.2.2.1;have W:aM (λx=>(x≠17/\x≠18)/\(x≠14/\x≠16/\x≠R)) z cD:=((aY.Z λx h=>h.1.1).trans (s.Z λx h=>h.2)).trans (I.Z λx h=>h.1.2);have A3:=λ{i} (h:21<i/\i≠R)=>(⟨⟨gg h.1,gg h.1⟩,gg h.1,gg h.1,h.2⟩:(i≠17/\i≠18)/\(i≠14/\i≠16/\i≠R))
 have PW:=W.get _ _ ⟨by decide,by decide,by decide,C (by decide)⟩ ao.lZ;have AJ:=W.get _ _ ⟨by decide,by decide,by decide,C (by decide)⟩ ao.TL;have A2:=W.get _ _ (A3 ao.DR) ao.TQ;have A0:=jR (iL (dR (nm:=42) (av (B:=B) (n:=n+3) (i:=0) (N:=Bg a b r (A (.Y [am k,am g])) (A (am k)) (A (am g))) y) f.eA y (P.m y)) (.AZ PW) (aU (fo (dR (nm:=33) (av (i:=0) y) f.eA y (P.m y)) (av (i:=6) y) (.Z AJ) (nA AJ (rN ao.cls) ao.Jm)) bc) (Cn PW (.W A2) (by rw[bK,bK];exact ao.Ry)));rw[←eI]at A0;have X:aM (·≠21) cD (cD.set 21 (.W ((cR++t).map am))):=aM.dd.gN λh=>h y;have PW:=gR (x:=.W ((cR++t).map am)) PW;generalize cD.set 21 (.W ((cR++t).map am))=Z at A0 X PW;have u:=f.cz X λi c q=>q.2.2.2.2.2.2;have AJ:=X.get _ _ (eG y) AJ;have dG:=en (ft:=.Add) (fo (dR (nm:=33) (av (B:=B) (n:=n+3) (i:=0) (N:=Bg a b r (A (.Y [am k,am g])) (A (am k)) (A (am g))) y) u.eA y (P.m y)) (av (i:=5) y) (.Z AJ) (nA AJ (rN ao.cls) ao.QB)) (iL (dR (nm:=33) (av (i:=0) y) u.eA y (P.m y)) (.QO AJ) (aU (av (i:=6) y) bc) (Vo (i:=(g:Int)) AJ (rN (n:=g) ao.cls) ao.Jm (hg (aq ao.J (by decide))))) (sD (fL (X.get _ _ (gg ao.px.1) (W.get _ _ (A3 ao.px) ao.TS)) (gg ao.px.1).symm) (fL (X.get _ _ (gg ao.DR.1) A2) (gg ao.DR.1).symm) (by rw[bK,bK];exact ao.lim));rw[←eI,lJ]at dG;have M:aM (·≠20) Z (Z.set 20 (.Z (kA ag (.X g)))++[.W ((Y++t).map am)]):=(aM.dd.gN λh=>h y).dS;have B1:D Z≠20:=fU (fA AJ);have AJ:=eQ (iW:=[.W ((Y++t).map am)]) (gR (x:=.Z (kA ag (.X g))) AJ);have Qp:(Z.set 20 (.Z (kA ag (.X g)))++[.W ((Y++t).map am)])[D Z]?=A (.W ((Y++t).map am)):=(lJ (as:=Z) (i:=20) (a:=.Z (kA ag (.X g))))▸dt;generalize Z.set 20 (.Z (kA ag (.X g)))++[cT.W ((Y++t).map am)]=A1 at dG M AJ Qp;have F:aM (·≠20) A1 (A1.set 20 (.Z (hp (kA ag (.X g)) (am k) (.J (D Z))))):=aM.dd.gN λh=>h y;have E:aM (λx=>x≠20/\x≠21) cD (A1.set 20 (.Z (hp (kA ag (.X g)) (am k) (.J (D Z))))):=((X.Z λx h=>h.2).trans (M.Z λx h=>h.1)).trans (F.Z λx h=>h.1);exact B0 _ (D Z) (ep (P.b y) y (bv A5 (bv (fX (eu (dR (av y) w.eA y (P.m y)) w.ii y (P.m y) (aU (av y) (aU (av y) bc)) ae)) (bv (hQ (ZQ (av y))) (bv (DL (av y) (.Y (is:=[5,6]) .Y y)) (bv A6 (bv A0 (bv (sT dG (dR (av y) (u.cz M λi c q=>q.2.2.2.2.2.1).eA y (P.m y)) (av y) (uR (B:=B) (H:=.J (D Z)) AJ (rN (n:=k) λx A9=>ao.cls x (QH A9)) (aq QF (hg (aq ao.J (by decide)))))) (lE (AB uM λh=>afh h) nj)))))))) (.inl y))
  {cz:=(W.Z λx h=>⟨⟨h.1.1,h.1.2.1⟩,h.2⟩).trans (E.Z λx h=>h.1.2.2)
   AI:=E.get _ _ (by decide) (I.get _ _ (eG y) AI)
   PT:=⟨_,E.get _ _ (by decide) (I.get _ _ (eG y) PT)⟩
   PU:=⟨_,E.get _ _ (by decide) (I.get _ _ (eG y) PU)⟩
   PV:=⟨_,E.get _ _ (by decide) PV⟩
   PW:=F.get _ _ (eG y) (M.get _ _ (eG y) PW)
   PX:=E.get _ _ ⟨gg af.tA,gg af.tA⟩ (I.get _ _ (gg af.tA) PX)
   fresh:=aq W.le X.le
   AJ:=gR AJ
   Qp:=F.get _ _ B1 Qp}
structure qV(aa:List bl)(L:Nat->Nat)(k g:Nat):Prop where
 uq:k<g
 ls:fG aa L k
 lq:fG aa L g
theorem qV.oD(U:qV aa L k g)(h:fG aa (hT L k g) c):fG aa L c/\c≠g:=(Qy U.ls U.lq (eC U.uq)).mp h
theorem kZ.both{mk:List Nat}(U:qV aa L k g)(h:kZ aa L k mk)(au:kZ aa L g o):kZ aa (hT L k g) k (mk++o)where
 no:=oX.mpr ⟨h.no,au.no,λx Z Q Y e=>eC U.uq (((h.mem x).mp Z).2.symm.trans (e▸((au.mem Q).mp Y).2))⟩
 mem i:=by
  rw[ew,h.mem,au.mem];by_cases q:L i=g
  ·rw[oF q];exact⟨λh=>⟨h.elim (·.1) (·.1),y⟩,λh=>.inr ⟨h.1,q⟩⟩
  ·rw[kB q];exact⟨λh=>h.elim id λh=>aG h.2 q,.inl⟩
theorem kZ.other{G:List Nat}(h:kZ aa L c G)(Z:c≠k)(Y:c≠g):kZ aa (hT L k g) c G where
 no:=h.no
 mem i:=(h.mem i).trans (by
  by_cases q:L i=g
  ·rw[oF q,q];exact⟨λh=>aG h.2.symm Y,λh=>aG h.2.symm Z⟩
  ·rw[kB q])
theorem kl.both{mk:List Nat}(h:kl aa L bg k mk)(au:kl aa L bg g o):kl aa (hT L k g) (2*bg) k (mk++o)where
 J:=by rw[cp,Di];exact ia h.J au.J
 lt n X:=(ew.mp X).elim (h.lt n) (au.lt n)
 all n x Q Z Y q:=ew.mpr (by
  by_cases e:L Q=g
  ·exact .inr (au.all n x Q Z Y e)
  ·rw[kB e]at q;exact .inl (h.all n x Q Z Y q))
theorem kl.other{G:List Nat}(h:kl aa L bg c G)(Z:c≠k):kl aa (hT L k g) (2*bg) c G where
 J:=aq h.J (by rw[Di];exact gF _ _)
 lt:=h.lt
 all n x Q X Y q:=h.all n x Q X Y (by
  by_cases e:L Q=g
  ·rw[oF e]at q;exact aG q.symm Z
  ·rw[kB e]at q;exact q)
theorem qJ.xQ{x:Nat}(U:qV aa L k g)(h:qJ aa L (bQ ak) ag):qJ aa (hT L k g) (qH bQ k x ak) (hp (kA ag (am g)) (am k) (.J x))where
 cls:=vJ (P:=λx=>gs x=1) (λx Z=>h.cls x (QH Z)) y
 J:=aq (fi (Js ⟨_,(QG λq=>fU U.uq (mA q)).trans (h.get k U.ls)⟩)) (aq QF h.J)
 get c X:=by
  by_cases q:c=k
  ·rw[q,UB];exact DZ
  ·rw[UA q,DY λh=>q (mA h).symm,QG λh=>(U.oD X).2 (mA h).symm];exact h.get c (U.oD X).1
theorem nu.xQ(h:nu aa L fK K ag)(au:kl aa L bg g o):nu aa (hT L k g) (λn=>fK n\/n∈o) K ag where
 J:=h.J
 cls:=h.cls
 old x H q:=(h.old x H q).imp λG f=>f.imp λQ f=>f.imp λax f=>⟨f.1,f.2.1,f.2.2.1,by
  have:=bA (zm λx=>if x=g then k else x) f.2.2.2;rw[ed,ed]at this;exact this⟩
 cS n x Z:=by
  by_cases q:n∈o
  ·exact .inl (.inr q)
  ·refine(h.cS n x Z).imp .inl λf=>f.imp λG f=>⟨?_,by rw[xR,xR,f.2]⟩
   rw[show he (hT L k g) x=he L x from jz y (lb λQ Y=>kB λh=>q (au.all n x Q Z Y h))];exact f.1
theorem r5(Y:∀i j,M i j->M j i)(ao:∀i j,i<D aa->j<D aa->L i=L j->M i j)(v:∀i j,i<D aa->j<D aa->L i=k->L j=g->M i j)(i j:Nat)(aB:i<D aa)(Z:j<D aa)(q:hT L k g i=hT L k g j):M i j:=by
 by_cases dv:L i=g
 ·by_cases et:L j=g
  ·exact ao i j aB Z (dv.trans et.symm)
  ·rw[oF dv,kB et]at q;exact Y _ _ (v j i Z aB q.symm dv)
 ·by_cases et:L j=g
  ·rw[kB dv,oF et]at q;exact v i j aB Z q et
  ·rw[kB dv,kB et]at q;exact ao i j aB Z q
theorem dJ.u'(aT:dJ F aa L fK cR aO bg K M bQ z){x:Nat}{b Q:Bool}(Y:D z<=x)(X:fG aa L c)(Z:fG aa L d)(q:qH bQ k x b c=qH bQ k x Q d):b=Q/\c=d:=by
 unfold qH at q;by_cases dv:b=ak/\c=k
 ·by_cases et:Q=ak/\d=k
  ·exact⟨dv.1.trans et.1.symm,dv.2.trans et.2.symm⟩
  ·rw[cg dv,bV et]at q;exact aG (q▸aT.olds Q Z) (fP.mpr Y)
 ·by_cases et:Q=ak/\d=k
  ·rw[bV dv,cg et]at q;exact aG (q▸aT.olds b X) (fP.mpr Y)
  ·rw[bV dv,bV et]at q;exact aT.inj b c Q d X Z q
theorem dJ.joined(aT:dJ F aa L fK cR aO bg K M bQ z)(U:qV aa L k g)(r:∀i j,M i j->M j i)(nf:∀i j,i<D aa->j<D aa->L i=k->L j=g->M i j){p mk:List Nat}{Y:List V}(bi:MC k g (bQ aW k) Z8 p mk aC ax dD cR aS fM Y ag z O)(Z:fT z 14 p/\D p=D aa/\∀i j,p[i]?=A j->j<=i/\L j=L i/\(j=i↔L i=i))(I:D aS<=aO)(w:D fM=aO)(f:D Y<=aO)(e:kZ aa L k mk)(N:kZ aa L g aC)(t:kl aa L bg k ax)(P:kl aa L bg g dD)(R:qJ aa L (bQ ak) ag):dJ F aa (hT L k g) (λn=>fK n\/n∈dD) (cR++dD) (aO+1) (2*bg) K M (qH bQ k Z8) O:=by
 have E:∀{i C},vd i->((i≠17/\i≠18/\i≠20/\i≠21)/\(i≠14/\i≠16))->z[i]?=A C->O[i]?=A C:=λu h au=>bi.cz.get _ _ ⟨h.1,h.2.1,h.2.2,(gg ((aT.gy aW k U.ls).1) (u.elim (λh=>aq h.2 (aF y)) (·.2))).symm⟩ au;have a:∀b c G,fG aa L c->bQ b c≠bQ aW k->fT z (bQ b c) G->fT O (bQ b c) G:=λb c G X J h=>
  have C:=(aT.gy b c X).1
  bi.cz.get _ _ ⟨⟨gg C,gg C,gg C,gg C⟩,gg C,gg C,J⟩ h
 exact
 {du:=⟨E (by decide) (by decide) aT.du.eA,E (by decide) (by decide) aT.du.jj,E (by decide) (by decide) aT.du.ii⟩
  fF:=r6 aT.fF Z.1 Z.2.1 Z.2.2 U.uq U.lq.1 U.ls.2 U.lq.2 bi.AI
  lz:=E (by decide) (by decide) aT.lz
  hR:=aT.hR
  eJ:=λx h=>⟨(aT.eJ x h).1,ef (aT.eJ x h).2 bi.cz.le⟩
  gy:=λb c X=>have C:=aT.gy b c (U.oD X).1;acb.elim (λq=>⟨q▸ef aT.lL bi.fresh,λh=>aG (aT.eJ _ (q▸h)).2 (fP.mpr bi.fresh)⟩) λq=>q▸C
  inj:=λb c Q d X s q=>aT.u' bi.fresh (U.oD X).1 (U.oD s).1 q
  nP:=aT.nP.imp λl h=>⟨E (by decide) (by decide) h.1,h.2.1,λc X=>Uz▸h.2.2 c (U.oD X).1⟩
  qx:=λc X=>by
   rw[Uz];by_cases q:c=k
   ·rw[q];exact⟨_,bi.PX,e.both U N⟩
   ·exact(aT.qx c (U.oD X).1).imp λG h=>⟨a aW c G (U.oD X).1 (λh=>q (aT.inj _ _ _ _ (U.oD X).1 U.ls h).2) h.1,h.2.other q (U.oD X).2⟩
  vB:=⟨_,bi.AJ,R.xQ U⟩
  mW:=λc X=>by
   by_cases q:c=k
   ·rw[q,UB];exact⟨_,bi.Qp,t.both P⟩
   ·rw[UA q];exact(aT.mW c (U.oD X).1).imp λG h=>⟨a ak c G (U.oD X).1 (λh=>afh (aT.inj _ _ _ _ (U.oD X).1 U.ls h).1.symm) h.1,h.2.other q⟩
  lU:=aT.lU.imp λag h=>⟨E (by decide) (by decide) h.1,h.2.xQ P⟩
  qu:=bi.PU.elim λH h=>⟨_,h,by rw[cp,w];rfl⟩
  vQ:=bi.PV.elim λH h=>⟨_,h,by rw[cp];exact dn f⟩
  merged:=bi.PT.elim λH h=>⟨_,h,by rw[cp];exact dn I⟩
  lZ:=bi.PW
  se:=λn J=>(ew.mp J).elim (aT.se n) (P.lt n)
  nf:=r5 r aT.nf nf}
theorem Bq{x Q:Nat}:(gn x Q=x/\iB x Q=Q)\/(gn x Q=Q/\iB x Q=x):=(zx x Q).imp (λh=>⟨sA h,De h⟩) λh=>⟨Df h,zy h⟩
theorem dJ.RG(P:cq B)(aT:dJ F aa L fK cR aO bg K M bQ z)(A1:∀i j,M i j->M j i)(A2:∀i j l,M i j->M j l->M i l)(A7:M a b)(aE:a<D aa)(al:b<D aa)(e:L a≠L b)(A8:aO<=900)(u:D cR+bg<=12000000/\bg<=4000000)(A0:D aa<=14)(d:∀O I B2,dU B (n+4) 43 [.J 7,am a,am b,r] z (.dF ak) O->qV aa L (gn (L a) (L b)) (iB (L a) (L b))->dJ F aa (hT L (gn (L a) (L b)) (iB (L a) (L b))) (λn=>fK n\/n∈I) (cR++I) (aO+1) (2*bg) K M B2 O->kl aa L bg (iB (L a) (L b)) I->aM F z O->(∀ag,z[19]?=A (.Z ag)->O[19]?=A (.Z ag))->False):False:=by
 have aH:fG aa L (L a):=⟨aT.fF.qD aE,aT.fF.nN a aE⟩
 have N:fG aa L (L b):=⟨aT.fF.qD al,aT.fF.nN b al⟩
 have A4:∀i j,i<D aa->j<D aa->L i=L a->L j=L b->M i j:=λi j aB Q o bq=>A2 _ _ _ (aT.nf i a aB aE o) (A2 _ _ _ A7 (aT.nf b j al Q bq.symm));have U:qV aa L (gn (L a) (L b)) (iB (L a) (L b)):=⟨Sn e,Bq.elim (λq=>by rw[q.1];exact aH) (λq=>by rw[q.1];exact N),Bq.elim (λq=>by rw[q.2];exact N) (λq=>by rw[q.2];exact aH)⟩
 have v:∀i j,i<D aa->j<D aa->L i=gn (L a) (L b)->L j=iB (L a) (L b)->M i j:=λi j aB Q o bq=>Bq.elim (λq=>A4 i j aB Q (o.trans q.1) (bq.trans q.2)) λq=>A1 _ _ (A4 j i Q aB (bq.trans q.2) (o.trans q.1));generalize B0:gn (L a) (L b)=k at U v d;generalize A9:iB (L a) (L b)=g at U v d;have E:aO<=1000:=aq A8 (aF y);have A5:=λ{x G} (h:kZ aa L x G)=>aq h.J A0;refine aT.qu.elim λB6 JJ=>aT.vQ.elim λB7 na=>aT.merged.elim λB5 Ru=>aT.nP.elim λB4 C=>aT.fF.tm.elim λp hD=>(aT.qx _ U.ls).elim λmk f=>(aT.qx _ U.lq).elim λI s=>(aT.mW _ U.ls).elim λB3 t=>(aT.mW _ U.lq).elim λA6 X=>aT.vB.elim λag Y=>?_;have Z:=aT.gy aW k U.ls;refine v! (n:=n) (r:=r) P aT.du aT.fF aE al e B0 A9 (R:=bQ aW k) (oQ:=bQ aW g) (md:=bQ ak k) (uG:=bQ ak g)
  {BG:=hD.1,hD:=hD.2.1,Fl:=C.1,Tl:=C.2.2 k U.ls,Tn:=C.2.2 g U.lq,Fm:=Ru.1,Ru:=aq Ru.2 E,Fn:=f.1,Fo:=s.1,tA:=Z.1,FR:=(aT.gy _ _ U.lq).1,UW:=λq=>eC U.uq (aT.inj _ _ _ _ U.ls U.lq q).2,J:=aq (ia (A5 f.2) (A5 s.2)) (aF y)}
  {TJ:=JJ.1,JJ:=JJ.2▸E,TK:=na.1,na:=aq na.2 E,lZ:=aT.lZ,Ry:=aq (gE X.2.J _) (aq u.1 (aF y)),TL:=Y.1,cls:=Y.2.cls,J:=aq Y.2.J (aq A0 (aF y)),QB:=Y.2.get k U.ls,Jm:=Y.2.get g U.lq,TS:=t.1,TQ:=X.1,px:=⟨(aT.gy ak k U.ls).1,λq=>afh (aT.inj _ _ _ _ U.ls U.ls q).1.symm⟩,DR:=⟨(aT.gy _ _ U.lq).1,λq=>afh (aT.inj _ _ _ _ U.lq U.ls q).1.symm⟩,lim:=aq (ia t.2.J X.2.J) (aq (ia u.2 u.2) (aF y))} λO B1 c bi=>?_
 refine d O A6 (qH bQ k B1) c U (aT.joined U A1 v bi hD Ru.2 JJ.2 na.2 f.2 s.2 t.2 X.2 Y.2) X.2 (bi.cz.Z λx A3=>?_) λag h=>bi.cz.get _ _ ⟨by decide,by decide,by decide,(gg Z.1).symm⟩ h;have w:=λi (ab:vd i) (q:x=i)=>aT.th ab (q▸A3);exact⟨⟨w 17 (by decide),w 18 (by decide),w 20 (by decide),w 21 (by decide)⟩,w 14 (by decide),w 16 (by decide),λq=>Z.2 (q▸A3)⟩
end
section
variable{b k g:Nat} {aa:List bl} {K:Nat} {M:Nat->Nat->Prop} {r:V} {x:bl}
structure tC(aa:List bl)(M:Nat->Nat->Prop):Prop where
 symm:∀i j,M i j->M j i
 trans:∀i j l,M i j->M j l->M i l
 Ji:∀(n G:Nat) (x Q:bl),aa[n]?=A x->aa[G]?=A Q->x.1=Q.1->(∀(i k l:Nat),x.2[i]?=A k->Q.2[i]?=A l->M k l)->M n G
theorem dJ.uh(aT:dJ F aa L fK cR aO bg K M bQ z)(h:∀i,fK i->tc i):dJ F aa L tc cR aO bg K M bQ z:=
 {aT with lU:=aT.lU.imp λag q=>⟨q.1,{q.2 with cS:=λn x Z=>(q.2.cS n x Z).imp (h n) id}⟩}
theorem nu.seen(h:nu aa L fK K ag)(Z:aa[n]?=A x)(ab:cX ag (cU (he L x))=A (am G))(ac:L G=L n):nu aa L (λi=>fK i/\i≠n) K ag where
 J:=h.J
 cls:=h.cls
 old:=h.old
 cS i Q Y:=by
  by_cases e:i=n
  ·obtain rfl:=e;obtain rfl:=dk (Z.symm.trans Y);exact .inr ⟨G,ab,ac⟩
  ·exact(h.cS i Q Y).imp (λh=>⟨h,e⟩) id
theorem dJ.seen(aT:dJ F aa L fK cR aO bg K M bQ z)(Z:z[19]?=A (.Z ag))(Y:aa[n]?=A x){G:Nat}(ab:cX ag (cU (he L x))=A (am G))(ac:L G=L n):dJ F aa L (λi=>fK i/\i≠n) cR aO bg K M bQ z:=
 {aT with lU:=aT.lU.elim λgP q=>⟨ag,Z,(cT.Z.inj (dk (q.1.symm.trans Z))▸q.2).seen Y ab ac⟩}
theorem e0(h:∀k∈x.2,L (L k)=L k):(x.2.map L).map L=x.2.map L:=by rw[ed];exact lb h
theorem nu.add(h:nu aa L fK K ag)(Z:aa[n]?=A x)(X:cX ag (cU (he L x))=aj)(o:(x.2.map L).map L=x.2.map L):nu aa L fK (K+1) (ag++[(cU (he L x),am n)]):=by
 have d:∀ba,cX (ag++[(cU (he L x),am n)]) ba=(cX ag ba).or (if V.dE (cU (he L x)) ba=ak then A (am n)else aj):=λba=>by rw[vI,mu];rfl
 refine⟨((cp ..)).symm▸dn h.J,λba j=>(ew.mp j).elim (h.cls ba) λh=>(cB.mp h)▸y,λba H q=>?_,λi Q Y=>(h.cS i Q Y).imp id λf=>f.imp λG f=>⟨by rw[d,f.1];rfl,f.2⟩⟩;rw[d]at q;cases j:cX ag ba with
 |some w=>rw[j]at q;obtain rfl:=dk q;exact h.old ba _ j
 |none=>
  rw[j,Option.none_or]at q;by_cases e:V.dE (cU (he L x)) ba=ak
  ·rw[cg e]at q;obtain rfl:=dk q;exact⟨n,x,x.2.map L,y,Z,(V.fE.mp e).symm,o⟩
  ·rw[bV e]at q;exact aG q.symm (gJ _)
theorem dJ.x9(aT:dJ F aa L fK cR aO bg K M bQ z)(U:tC aa M)(Z:aa[n]?=A x){Q:bl}(Y:aa[G]?=A Q)(P:cU (he L x)=cU (Q.1,ax))(f:ax.map L=Q.2.map L)(o:(x.2.map L).map L=x.2.map L):M G n:=by have d:=aT.hR n x Z;have W:=aT.hR G Q Y;have g:=nC (EF (x:=he L x) (Q:=(Q.1,ax)) d.1 W.1 P);have J:x.2.map L=Q.2.map L:=f▸g.2▸o.symm;refine U.symm _ _ (U.Ji n G x Q Z Y g.1 λi k l X R=>aT.nf k l (kH (d.2.2 k (io X)) (gQ Z)) (kH (W.2.2 l (io R)) (gQ Y)) ?_);have q:=bA (λba:List Nat=>ba[i]?) J;rw[fI,fI,X,R]at q;exact dk q
theorem dJ.known(aT:dJ F aa L fK cR aO bg K M bQ z)(I:tC aa M)(W:aa[n]?=A x)(C:M n n)(P:K<=9000000){ah:aA}(aY:aM cI z ah)(d:∀(aV:aA) (R:List (V×V)) (G:Nat),hH B (.builtin "dict.setdefault") [.J 19,cU (he L x),am n] ah (am G) aV->aV[19]?=A (.Z R)->cX R (cU (he L x))=A (am G)->G<D aa->M G n->dJ F aa L fK cR aO bg (K+1) M bQ aV->aM F z aV->False):False:=by
 refine aT.lU.elim λag q=>?_;have Y:=aY.at q.1;have X:iM ag (cU (he L x)):=⟨JL (G:=7) _,q.2.cls⟩
 have e:=aT.cz aY.of;have o:=e0 (L:=L) λk X=>aT.fF.nN k (kH ((aT.hR n x W).2.2 k X) (gQ W));cases Z:cX ag (cU (he L x))with
 |some H=>refine(q.2.old _ _ Z).elim λG f=>f.elim λQ f=>f.elim λax f=>?_;obtain rfl:=f.1;exact d ah ag G (Gm Y X Z) Y Z (gQ f.2.1) (aT.x9 I W f.2.1 f.2.2.1 f.2.2.2 o) {e with lU:=⟨ag,Y,{q.2 with J:=lg q.2.J}⟩} aY.of
 |none=>
  have j:=gR (x:=.Z (ag++[(cU (he L x),am n)])) Y;have U:aM (·≠19) ah (ah.set 19 (.Z (ag++[(cU (he L x),am n)]))):=aM.dd.gN λh=>h y;exact d _ _ n (Gl (B:=B) (oE:=am n) Y X Z (aq q.2.J (aq P (by decide)))) j (by rw[vI,Z,mu,cg V.ms];rfl) (gQ W) C
   (e.fZ U (λi a q=>q.2.1) (λb c E=>gg (aT.gy b c E).1) (cu _) (e.qu.imp λl q=>⟨U.get _ _ (eG y) q.1,q.2⟩) ⟨_,j,q.2.add W Z o⟩ (U.get _ _ (by decide) e.lZ) aT.se) (aY.of.gN λh=>aT.th (by decide) h)
theorem Rn:hT L (gn (L a) (L b)) (iB (L a) (L b)) a=gn (L a) (L b):=by
 by_cases q:L a=iB (L a) (L b)
 ·exact oF q
 ·exact(kB q).trans (Bq.elim (λh=>h.1.symm) λh=>aG h.2.symm q)
theorem Ro:hT L (gn (L a) (L b)) (iB (L a) (L b)) b=gn (L a) (L b):=by
 by_cases q:L b=iB (L a) (L b)
 ·exact oF q
 ·exact(kB q).trans (Bq.elim (λh=>aG h.2.symm q) λh=>h.1.symm)
theorem dJ.look(P:cq B)(aT:dJ F aa L fK cR aO bg K M bQ z)(X:tC aa M)(Z:aa[n]?=A x)(A2:M n n)(c:K<=9000000)(A1:aO<=900)(d:D cR+bg<=12000000/\bg<=4000000)(E:D aa<=14)(A6:∀O,dU B (G+5) 40 [.J 7,am n] z .bM O->dJ F aa L (λi=>fK i/\i≠n) cR aO bg (K+1) M bQ O->aM F z O->False)(A5:∀O k g Y J,dU B (G+5) 40 [.J 7,am n] z .bM O->qV aa L k g->dJ F aa (hT L k g) (λi=>(fK i/\i≠n)\/i∈Y) (cR++Y) (aO+1) (2*bg) (K+1) M J O->D Y<=bg->aM F z O->False):False:=by
 refine aT.bz.node (n:=G+1) P Z λah s aY=>aT.known (B:=B) X Z A2 c aY λaV A7 j l o bq w A0 W v=>aT.lU.elim λag q=>?_;have u:=fX (i:=2) (iL (dR (nm:=17) (av (B:=B) (n:=G+4) (i:=0) (N:=[A (.J 7),A (am n),aj]) (z:=z) y) aT.du.eA y (P.m y)) (.yt q.1) (aU (eu (nm:=12) (av (i:=0) y) aT.du.eA y (P.m y) (aU (av (i:=1) y) bc) s) (aU (av (i:=1) y) bc)) l);have a:=W.bz;have t:=hz (ft:=.NotEq) (eu (nm:=22) (av (B:=B) (n:=G+4) (i:=0) (N:=[A (.J 7),A (am n),A (am j)]) (z:=aV) y) W.du.eA y (P.m y) (aU (av (i:=2) y) bc) (a.find (n:=G+2) P w)) (eu (nm:=22) (av (i:=0) y) W.du.eA y (P.m y) (aU (av (i:=1) y) bc) (a.find (n:=G+2) P (gQ Z))) (Hz (i:=L j) (j:=L n));by_cases e:L j=L n
 ·rw[decide_eq_true e]at t;exact A6 _ (ep (P.b y) y (bv u (bv (hQ t) eW)) (.inr ⟨y,y⟩)) (W.seen o Z bq e) v
 ·rw[decide_eq_false e]at t;refine W.RG (n:=G) (r:=.Y [.cG "like"]) P X.symm X.trans A0 w (gQ Z) e A1 d E λcD Y J R U I C A4 b=>A5 _ _ _ Y J (ep (P.b y) y (bv u (bv (ku t (bv (jR (eu (av y) W.du.eA y (P.m y) (aU (av y) (aU (av y) (aU (eL (aU sk bc) hL) bc))) R)) eW)) eW)) (.inr ⟨y,y⟩)) U ?_ C.J (v.trans A4);by_cases q:n∈Y
  ·exact I.uh λi h=>h.elim (λh=>if p:i=n then .inr (p▸q)else .inl ⟨h,p⟩) .inr
  ·have f:he (hT L (gn (L j) (L n)) (iB (L j) (L n))) x=he L x:=jz y (lb λQ A3=>kB λh=>q (C.all n x Q Z A3 h));exact(I.seen (b _ o) Z (f▸bq) (Rn.trans Ro.symm)).uh λi h=>h.1.imp (λp=>⟨p,h.2⟩) id
end
section
variable{b k g:Nat} {aa:List bl} {oJ:Nat->Nat} {K:Nat} {M:Nat->Nat->Prop} {r:V} {x:bl}
noncomputable def kV(aa:List bl)(L:Nat->Nat):Nat:=(hG aa L).length
theorem x3{l:List Nat}(h:l.Nodup)(Q:g∈l):(l.filter λi=>!(i==g)).length+1=D l:=by
 induction l with
 |nil=>cases Q
 |cons x l Z=>
  rw[uT];by_cases e:x=g
  ·cases e;rw[beq_self_eq_true];have:(l.filter λi=>!(i==g))=l:=ML.mpr λi aB=>((beq_eq_false_iff_ne.mpr λq:i=g=>((jN.mp h).1) (q▸aB))).symm▸y;show(l.filter λi=>!(i==g)).length+1=_;rw[this];rfl
  ·exact(beq_eq_false_iff_ne.mpr e)▸bA (·+1) (Z (jN.mp h).2 ((ee.mp Q).resolve_left λq=>e q.symm))
theorem aae:(hG aa L).Nodup:=zr.sublist pT
theorem Tv(U:qV aa L k g):kV aa (hT L k g)+1=kV aa L:=by
 have:hG aa (hT L k g)=(hG aa L).filter λi=>!(i==g):=by
  unfold hG;rw[GY];refine GW λi aB=>?_;have h:=Qy (c:=i) U.ls U.lq (eC U.uq);have aB:=hk.mp aB;have o:fG aa (hT L k g) i↔hT L k g i=i:=⟨λq=>q.2,λq=>⟨aB,q⟩⟩
  have bq:fG aa L i↔L i=i:=⟨λq=>q.2,λq=>⟨aB,q⟩⟩
  rw[o,bq]at h;rw[tB,wq,decide_eq_true_iff,decide_eq_true_iff,qM,beq_eq_false_iff_ne,h,and_comm]
 unfold kV;exact this▸x3 aae (ut.mpr U.lq)
theorem KW(h:D aa<=14):kV aa L<=14:=aq (zj _ _) ((iA ..)▸h)
theorem afa(h:fG aa L c):0<kV aa L:=CO (ut.mpr h)
structure mU(aa:List bl)(L:Nat->Nat)(w aO bg K:Nat):Prop where
 b:bg<=2^(19-kV aa L)
 s:w+K+kV aa L*2^19<=2^23
 e:aO+kV aa L<=20
def uJ(L oJ:Nat->Nat):Prop:=∀i j,L i=L j->oJ i=oJ j
theorem Qr:uJ L (hT L k g):=λi j h=>by rw[xR,xR,h]
theorem mU.xQ(h:mU aa L (D cR) aO bg K){pS:Nat}(U:qV aa L k g)(Y:D o<=bg)(E:D aa<=14)(Z:pS<=K+1):mU aa (hT L k g) (cR++o).length (aO+1) (2*bg) pS/\(cR++o).length+kV aa (hT L k g)*2^19+1<=D cR+kV aa L*2^19:=by
 have e:=Tv U;have l:=KW (L:=L) E;have ab:=h.b;have ac:=h.s;have bo:=h.e;rw[←e]at ab ac bo l⊢;generalize Q:kV aa (hT L k g)=ae at ab ac bo l⊢;have bq:2*2^(19-(ae+1))=2^(19-ae):=by rw[←Ni,Nk,Nat.succ_pred_eq_of_pos (Xk (ef l (aF y)))]
 have p:∀ba,ba+(D o+1)+ae*2^19<=ba+(ae+1)*2^19:=λba=>by
  rw[jn,Hr,hN (ae*2^19)];exact gE (iO (aq (dn (aq Y (aq ab (wV (aF y) (Xi (gF 1 ae) 19))))) (aF y)) _) _
 rw[cp];refine⟨⟨?_,?_,?_⟩,?_⟩
 ·rw[Q,←bq];exact nx 2 ab
 ·rw[Q];refine aq (aq (iO (gE Z _) _) ?_) ac;rw[Hl (D cR) (D o) K 1];exact p _
 ·rw[Q];exact aq (fi (mi aO ae)) bo
 ·rw[jZ (D cR+D o) (ae*2^19) 1];exact p _
def vv(aa:List bl)(F:Nat->Prop)(M:Nat->Nat->Prop)(f:Nat->Nat)(aL:aA)(G:Nat)(N:bk)(z:aA):Prop:=∀{P:Prop},(∀{L:Nat->Nat} {cR:List Nat} {aO bg K:Nat} {bQ:Bool->Nat->Nat},dJ F aa L (·∈cR) cR aO bg K M bQ z->mU aa L (D cR) aO bg K->G=D cR+kV aa L*2^19->uJ f L->aM F aL z->N=[A (.J 7)]->P)->P
theorem vv.mk{aa:List bl}{F:Nat->Prop}{M:Nat->Nat->Prop}{f:Nat->Nat}{aL:aA}{G:Nat}{N:bk}{z:aA}{L:Nat->Nat}{cR:List Nat}{aO bg K:Nat}{bQ:Bool->Nat->Nat}(h:dJ F aa L (·∈cR) cR aO bg K M bQ z)(Z:mU aa L (D cR) aO bg K)(Y:G=D cR+kV aa L*2^19)(J:uJ f L)(X:aM F aL z)(W:N=[A (.J 7)]):vv aa F M f aL G N z:=λe=>e h Z Y J X W
inductive ZM(aa:List bl)(F:Nat->Prop)(M:Nat->Nat->Prop)(f:Nat->Nat)(aL:aA)(N:bk)(z:aA):Prop
|mk {L:Nat->Nat} {aO bg K:Nat} {bQ:Bool->Nat->Nat}:dJ F aa L (λx=>False) [] aO bg K M bQ z->aO<=20->uJ f L->aM F aL z->ZM aa F M f aL N z
theorem dJ.pop(aT:dJ F aa L fK (cR++[n]) aO bg K M bQ z):dJ F aa L fK cR aO bg K M bQ (z.set 21 (.W (cR.map am)))/\aM F z (z.set 21 (.W (cR.map am))):=
 have Z:aM (·≠21) z (z.set 21 (.W (cR.map am))):=aM.dd.gN λh=>h y
 ⟨aT.fZ Z (λi x q=>q.2.2) (λb c X=>gg (aT.gy b c X).1) (cu _) (aT.qu.imp λl q=>⟨Z.get _ _ (eG y) q.1,q.2⟩) (aT.lU.imp λl q=>⟨Z.get _ _ (by decide) q.1,q.2⟩) (gR aT.lZ) λn J=>aT.se n (iZ _ J),aM.dd.gN λh=>aT.th (by decide) h⟩
theorem mU.lim{w:Nat}(Z:mU aa L w aO bg K):bg<=2^19/\w<=2^23/\K<=2^23:=⟨aq Z.b (wV (aF y) (mP _ _)),aq (aq (dP _ _) (dP _ _)) Z.s,aq (aq (gF _ _) (dP _ _)) Z.s⟩
theorem aaC(P:cq B)(aT:dJ F aa L (·∈cR++[a]) (cR++[a]) aO bg K M bQ z)(w:tC aa M)(I:∀i,M i i)(E:D aa<=14)(Z:mU aa L (cR++[a]).length aO bg K){f:Nat->Nat}(Q:uJ f L)(X:aM F aL z)(d:∀p ah aV,p<(cR++[a]).length+kV aa L*2^19->eB B (n+5) (.bH .Gt (.bR "len" [(.cy (.J 0) 42)]) (.X 0)) [A (.J 7)] z ak ah->gb B (n+5) [.fY (.bZ (.J 0) 44 [(.eO (.cy (.J 0) 42) "pop" [])])] [A (.J 7)] ah .X [A (.J 7)] aV->vv aa F M f aL p [A (.J 7)] aV->False):False:=by
 have t:=DG (km (dR (nm:=42) (av (B:=B) (n:=n+5) (i:=0) (N:=[A (.J 7)]) (z:=z) y) aT.du.eA y (P.m y)) aT.lZ (gu (aq Z.lim.2.1 (aF y)))) cE (j:=0) (by rw[bK,cp];exact iC _);have v:z[21]?=A (.W (cR.map am++[am a])):=by have:=aT.lZ;rw[fT,eI]at this;exact this
 rw[cp]at Z d;have J:mU aa L (D cR) aO bg (K+1):=⟨Z.b,aq (fi (bA (·+_) (mi (D cR) K).symm)) Z.s,Z.e⟩
 have Y:mU aa L (D cR) aO bg K:=⟨Z.b,aq (iO (gE (ka K) _) _) J.s,Z.e⟩
 have C:∀{aV},dU B (n+5) 40 [.J 7,am a] (z.set 21 (.W (cR.map am))) .bM aV->gb B (n+5) [.fY (.bZ (.J 0) 44 [(.eO (.cy (.J 0) 42) "pop" [])])] [A (.J 7)] z .X [A (.J 7)] aV:=λc=>bv (jR (eu (av y) aT.du.eA y (P.m y) (aU (iL (dR (av y) aT.du.eA y (P.m y)) (.pop v) bc (LV v (pG (er Y.lim.2.1 (aF y))))) bc) c)) eW;refine(qq (aT.se a (jl _ (.head _)))).elim λx q=>aT.pop.1.look (G:=n) P w q (I a) (aq Z.lim.2.2 (aF y)) (aq (dP _ _) (aq Z.e (aF y))) ⟨aq (ia Y.lim.2.1 Z.lim.1) (aF y),aq Z.lim.1 (aF y)⟩ E (λaV c W R=>?_) λaV k g l o c U W u R=>?_
 ·exact d _ z aV (Na (jO _) _) t (C c) (vv.mk (W.uh λi h=>(ew.mp h.1).resolve_right λe=>h.2 (cB.mp e)) J y Q (X.trans (aT.pop.2.trans R)) y)
 ·have s:=Y.xQ (pS:=K+1) U u E (cu _);exact d _ z aV (ef s.2 (iO (ka _) _)) t (C c) (vv.mk (W.uh λi h=>h.elim (λh=>iZ _ ((ew.mp h.1).resolve_right λe=>h.2 (cB.mp e))) (jl _)) s.1 y (λi j e=>Qr i j (Q i j e)) (X.trans (aT.pop.2.trans R)) y)
theorem dJ.settle(P:cq B)(aT:dJ F aa L (·∈cR) cR aO bg K M bQ z)(U:tC aa M)(I:∀i,M i i)(E:D aa<=14)(Z:mU aa L (D cR) aO bg K)(d:∀O oJ Y f pS o,dU B (n+6) 44 [.J 7] z .bM O->dJ F aa oJ (λx=>False) [] Y f pS M o O->Y<=20->uJ L oJ->aM F z O->False):False:=DM (B:=B) (n:=n+5) (e:=.bH .Gt (.bR "len" [(.cy (.J 0) 42)]) (.X 0)) (b:=[.fY (.bZ (.J 0) 44 [(.eO (.cy (.J 0) 42) "pop" [])])]) (ao:=vv aa F M L z) (K:=ZM aa F M L z) (vv.mk aT Z y (λx x h=>h) .dd y) (λG N ah j aY R=>j λ{v cR aO bg K bQ} aT Z e W X bP=>by
   obtain rfl:=e;obtain rfl:=bP;refine(List.eq_nil_or_concat cR).elim (λe=>?_) λh=>h.elim λw h=>h.elim λq e=>?_
   ·obtain rfl:=e;exact aY ah (xv (km (dR (nm:=42) (av (B:=B) (n:=n+5) (i:=0) (N:=[A (.J 7)]) (z:=ah) y) aT.du.eA y (P.m y)) aT.lZ (cW _)) cE (j:=0) (ic 0)) (.mk (aT.uh λx=>afk) (aq (dP _ _) Z.e) W X)
   ·rw[List.concat_eq_append]at e;obtain rfl:=e;exact aaC P aT U I E Z W X λp ah aV=>R p ah _ aV) λbY O ab ac=>ac.rec λdv et Q C=>d O _ _ _ _ _ (ep (P.b y) y (bv ab eW) (.inr ⟨y,y⟩)) dv et Q C
theorem dJ.merge(P:cq B)(aT:dJ F aa L (·∈cR) cR aO bg K M bQ z)(W:tC aa M)(aE:a<D aa)(al:b<D aa)(R:M a b)(E:D aa<=14)(Z:mU aa L (D cR) aO bg K)(Q:aO+1+kV aa L<=20)(d:∀H O oJ j J f o,dU B (n+5) 42 [.J 7,am a,am b,r] z H O->dJ F aa oJ (·∈j) j J f K M o O->mU aa oJ (D j) J f K->J+kV aa oJ<=aO+1+kV aa L->uJ L oJ->oJ a=oJ b->aM F z O->False):False:=by
 have m:∀{H aV},dU B (n+4) 43 [.J 7,am a,am b,r] z H aV->dU B (n+5) 42 [.J 7,am a,am b,r] z H aV:=λc=>ep (P.b y) y (fy (eu (av y) aT.du.eA y (P.m y) (aU (av y) (aU (av y) (aU (av y) bc))) c)) (.inl y);have X:aO<=900:=aq (aq (dP _ _) Z.e) (aF y);by_cases e:L a=L b
 ·exact aT.v' (n:=n) (r:=r) P aE al e X λO c Y k=>d _ _ _ _ _ _ _ (m c) Y ⟨Z.b,Z.s,Q⟩ (cu _) (λx x h=>h) e k
 ·exact aT.RG (n:=n) (r:=r) P W.symm W.trans R aE al e X ⟨aq (ia Z.lim.2.1 Z.lim.1) (aF y),aq Z.lim.1 (aF y)⟩ E λO I o c U Y t k x=>d _ _ _ _ _ _ _ (m c) (Y.uh λi h=>ew.mpr h) (Z.xQ (pS:=K) U t.J E (ka _)).1 (gE (jo (fi (Tv U))) _) Qr (Rn.trans Ro.symm) k
end
section
variable{b i:Nat} {aa:List bl} {x:bl}
noncomputable def kU(k:Nat):bj:=⟨#[ni k]⟩
theorem By{p:Nat->Prop}(aR:p 0)(ab:p 1)(ac:p 2)(bo:p 3)(Z:p 4){k:Nat}(X:k<5):p k:=by
 cases k with
 |zero=>exact aR
 |succ k=>cases k with
  |zero=>exact ab
  |succ k=>cases k with
   |zero=>exact ac
   |succ k=>cases k with
    |zero=>exact bo
    |succ k=>cases k with
     |zero=>exact Z
     |succ k=>exact aG X (fP.mpr (gF 5 k))
theorem L'{k:Nat}(X:k<5):kU k=("a":bj)\/kU k=("b":bj)\/kU k=("f":bj)\/kU k=("g":bj)\/kU k=("h":bj):=By (p:=λk=>kU k=("a":bj)\/kU k=("b":bj)\/kU k=("f":bj)\/kU k=("g":bj)\/kU k=("h":bj)) (.inl y) (.inr (.inl y)) (.inr (.inr (.inl y))) (.inr (.inr (.inr (.inl y)))) (.inr (.inr (.inr (.inr y)))) X
theorem SQ{k:Nat}(X:k<5):97<=ni k/\ni k<128:=By (p:=λk=>97<=ni k/\ni k<128) (by decide) (by decide) (by decide) (by decide) (by decide) X
theorem PP{s t:bj}(h:s.cps.toList≠t.cps.toList):V.dE (.cG s) (.cG t)=aW:=V.mX.mpr λq=>h (by cases q;rfl)
theorem nr.cG{s t:bj}:nr (.cG s) (.cG t):=⟨y,y,.inr (.inr ⟨_,_,y,y⟩)⟩
theorem u7(P:cq B)(u:C<5)(X:∀O,dU B (n+1) 0 [ce C] z (.dF ak) O->aM cI z O->False):False:=by
 have al:=SQ u;refine Gr (B:=B) (n:=n) (N:=[A (ce C)]) (z:=z) (k:=.bE) (dc:=[aj]) (ax:=[]) (aS:=qr (kU C)) (g:=id) (p:=λa=>aW) (f:=id) (e:=.J 0) (bP:=.J 0) (d:=.or [(.eO (.J 0) "isspace" []),(.bH .In (.J 0) (.cG "()[]{},:"))]) y
  (by
   rw[zp];refine ff (av (H:=ce C) y) (Wh (x:=kU C) ?_);show(#[ni C]:Array Nat).all (·<128)=ak;rw[←UZ];show(dV (ni C<128)&&ak)=ak;rw[decide_eq_true al.2];rfl) (ei (by decide:1<=100)) (λa a=>trivial) (λH Y O k=>by
   exact(cB.mp (show H∈[ce C]from Y))▸⟨Au (DI (iL (av y) .RE bc (Vq al.1 al.2)) T!) (hz (av y) sk (Xp (L' u))),av y⟩) λah ab ac bo=>?_
 have bq:=yU ab (gB bc (cW _)) (Xs (eQ bo) dt y y);rw[show V.kx (zm id ((qr (kU C)).filter λa=>aW)) []=ak from(V.ub:V.kx [] []=ak)]at bq;have W:((!V.dE (ce C) (.cG "")):Bool)=ak:=(show V.dE (ce C) (.cG "")=aW from PP (s:=kU C) (t:="") (ju _ _))▸y;have w:=av (B:=B) (n:=n) (i:=0) (N:=[A (ce C)]) (z:=z) (H:=ce C) y;have r:=hz w (sk (t:="")) (wY (nr.cG (s:=kU C)));have Z:=yU w (sk (t:="")) (wY (nr.cG (s:=kU C)));rw[W]at r Z;exact X _ (ep (P.b y) y (fy (Vz r Z (λa=>bq) λh=>afh h.symm)) (.inl y)) ac.dS
theorem X!(P:cq B)(Z:iY z)(u:C<5)(d:∀O,dU B (n+2) 6 [.J 8,ce C] z .bM O->aM cI z O->False):False:=u7 (n:=n) (z:=z) P u λO c k=>by have l:=hz (fo (av (B:=B) (n:=n+1) (i:=1) (N:=[A (.J 8),A (ce C)]) (z:=O) (H:=.cG (kU C)) y) (cE (i:=0)) .cG (Hv (x:=.cG (kU C)) y y)) (sk (t:="?")) (wX nr.cG);rw[PP (s:=kU C) (t:="?") λh=>aG (fH (show[ni C]=[63]from h)).1 (fU (ef (aF y) (SQ u).1))]at l;exact d O (ep (P.b y) y (bv (hQ (Au (Iz (DI (jK (aU (av (B:=B) (n:=n+1) (i:=1) (N:=[A (.J 8),A (ce C)]) (z:=z) y) bc) c) T?)) l)) eW) (.inr ⟨y,y⟩)) k
structure Ck(aa:List bl)(ag:List (V×V)):Prop where
 cls:∀x∈ag,gs x.1=3
 J:D ag<=D aa
 got:∀(i:Nat) (x:bl),aa[i]?=A x->cX ag (cU x)=A (am i)
 no:∀x:bl,x∉aa->x.1<5->cX ag (cU x)=aj
structure md(aa:List bl)(z:aA):Prop where
 kT:aa.Nodup
 EE:∃ag,z[10]?=A (.Z ag)/\Ck aa ag
 LA:∃l:List Int,z[11]?=A (.W (l.map .X))/\D l=D aa
 Jl:∃l:List Int,z[12]?=A (.W (l.map .X))/\D l=D aa
theorem md.cz{S:Nat->Prop}(bg:md aa z)(k:aM S z ah)(h:S 10/\S 11/\S 12):md aa ah:=⟨bg.kT,bg.EE.imp λx q=>⟨k.get _ _ h.1 q.1,q.2⟩,bg.LA.imp λx q=>⟨k.get _ _ h.2.1 q.1,q.2⟩,bg.Jl.imp λx q=>⟨k.get _ _ h.2.2 q.1,q.2⟩⟩
theorem yu{i:Nat}{Q:bl}(h:(aa++[x])[i]?=A Q):(i<D aa/\aa[i]?=A Q)\/(i=D aa/\Q=x):=(Dc i (D aa)).elim (λq=>by
 rw[jY q]at h;exact .inl ⟨q,h⟩) λq=>by
 rw[iN q]at h;have aR:i-D aa=0:=wQ.mp (gQ h);rw[aR]at h;exact .inr ⟨mh (Da aR) q,(dk h).symm⟩
theorem Ck.add(h:Ck aa ag)(X:x∉aa)(u:x.1<5):Ck (aa++[x]) (ag++[(cU x,am (D aa))])where
 cls ba j:=(ew.mp j).elim (h.cls ba) λh=>(cB.mp h)▸y
 J:=by rw[cp,cp];exact dn h.J
 got i Q Y:=by
  rw[vI,mu];refine(yu Y).elim (λq=>by rw[h.got i Q q.2];rfl) λq=>?_;rw[q.2,h.no x X u,cg V.ms,q.1];rfl
 no Q Y Z:=by
  rw[vI,mu,h.no Q (λq=>Y (iZ _ q)) Z,bV λq=>Y (jl _ ((EF Z u (V.fE.mp q).symm)▸.head _))];rfl
noncomputable def oc(x:bl)(bO:Option V):bk:=[A (.J 8),A (ce x.1),A (.Y (x.2.map am)),A (cU x),bO]
theorem Uo(Z:x.2.length<=2):eM B n (.ea 3 (.cb .Add (.Y [(.J 1)]) (.bR "tuple" [(.J 2)]))) [A (.J 8),A (ce x.1),A (.Y (x.2.map am)),aj,aj] z .X (oc x aj) z:=fX (i:=3) (en (eL (aU (av y) bc) hL) (gV rv (aU (av y) bc) (Ma .Y (gu (ei (aq Z (aF y)))))) (oj (l:=[ce x.1]) (by rw[bK];exact ei (aq (gE Z 1) (aF y)))))
theorem Sr(x:bl):V.hm 8 (cU x)=ak:=JL (G:=7) x
theorem Ur(P:cq B)(Z:iY z)(e:z[10]?=A (.Z ag))(X:iM ag (cU x)):eB B n (.bH .In (.J 3) (.cy (.J 0) 2)) (oc x aj) z (cX ag (cU x)).isSome z:=hz (av y) (dR (av (i:=0) y) Z.jj y (P.m y)) (Xq e X)
theorem abk(P:cq B)(Z:iY z)(W:md aa z)(Y:aa[i]?=A x)(ac:x.2.length<=2):dU B (n+1) 5 [.J 8,ce x.1,.Y (x.2.map am)] z (am i) z:=bp λU=>W.EE.elim λag e=>by
 have X:iM ag (cU x):=⟨Sr x,e.2.cls⟩
 have t:=Ur (n:=n) P Z e.1 X;rw[e.2.got i x Y]at t;exact U (ep (P.b y) y (bv (Uo ac) (lE (ku t (fy (fo (dR (av y) Z.jj y (P.m y)) (av y) (.Z e.1) (nA e.1 X (e.2.got i x Y))))) nj)) (.inl y))
theorem PK{l:List Int}{k:Nat}(h:k<D l):nJ (l.map V.X) (k:Int)=A (.X (l.getD k 0)):=vD (by rw[fI,la,fO h];rfl)
noncomputable def abw(nm:Nat):afe:=.dy (.W 0) .bE (.eb (.J 3) (.X 1) .bM) [] (.di (.Z (.cy (.J 1) nm) (.J 0))) [aj,A 0]
theorem Up(ac:x.2.length<=2):(ce x.1::x.2.map am).length<=cZ:=by rw[iz,bK];exact ei (aq (dn ac) (aF y))
theorem Uq(P:cq B)(W:iY z){R:Nat}{l:List Int}(h:mw [(1,V.J 9),(2,.J 10),(3,.J 11),(4,.J 12)] nm=A (.J R))(Y:B.P.bZ 0 nm=aj)(m:z[R]?=A (.W (l.map .X)))(Z:D l<=1000)(X:∀k∈x.2,k<D l)(ac:x.2.length<=2)(d:∀O,bW B n (abw nm) (oc x bO) z (.J (D z)) O->aM cI z O->O[D z]?=A (.W ((x.2.map λk=>l.getD k 0).map .X))->False):False:=oe (B:=B) (n:=n) (N:=oc x bO) (z:=z) (k:=.bE) (dc:=[aj,A 0]) (ax:=[A (.J 8)]) (aS:=x.2) (g:=am) (f:=λk=>V.X (l.getD k 0)) (e:=.eb (.J 3) (.X 1) .bM) (bP:=.Z (.cy (.J 1) nm) (.J 0)) y (ff (lG (k:=1) (av y) (aF y) (Up ac)) qU) (ei (aq ac (aF y))) (λa a=>trivial) (λj M O k U=>U O (fo (dR (av y) (k.at W.jj) h Y) (av y) (.W (k.at m)) (nB (k.at m) (lT (hg (aq (dK (X j M)) (aq Z (aF y))))) (PK (X j M)))) .dd) λO c k e=>d O c.ev k (((ed ..)).symm▸e)
theorem EX(U:bW B n e N z (.J i) z)(h:z[i]?=A (.W l))(aE:bW B n dG N z H ah)(au:ah[i]?=A (.W l))(Z:D l<=1000)(d:∀aV,eM B n (.fY (.eO e "append" [dG])) N z .X N aV->aV[i]?=A (.W (l++[H]))->aM (·≠i) ah aV->False):False:=d _ (jR (iL U (.append h) (aU aE bc) (qO au (hg (aq Z (aF y)))))) (gR au) (aM.dd.gN λh=>h y)
noncomputable def Un:List S:=[.fc (.yi (.AL .LtE .Lt (.X 0) (.J 4) (.bR "len" [(.cy (.J 0) 1)]))) [.vE] []]
def Av(x:bl)(bC:Nat)(ah:aA)(r:List Nat)(N:bk)(z:aA):Prop:=∀{P:Prop},(∀{bO:Option V},N=oc x bO->z=ah->(∀k∈r,k<bC)->P)->P
theorem Av.mk{x:bl}{ah:aA}{r:List Nat}{N:bk}{z:aA}(h:N=oc x bO)(Z:z=ah)(Y:(∀k∈r,k<bC)):Av x bC ah r N z:=λe=>e h Z Y
theorem abx(P:cq B)(Y:iY z)(Z:z[9]?=A (.W (aa.map cU)))(ac:x.2.length<=2)(X:∀k∈x.2,k<D aa)(W:(aa.map cU).length<=cZ)(d:∀bO,eM B n (.eP (.W 4) .bE (.eb (.J 3) (.X 1) .bM) Un) (oc x aj) z .X (oc x bO) z->False):False:=by
 refine vA (B:=B) (n:=n) (i:=4) (b:=Un) (aS:=x.2) (g:=am) (ao:=Av x (D aa) z) (ff (lG (k:=1) (av (i:=3) (N:=oc x aj) y) (by decide) (Up ac)) qU) (λa a a a=>trivial) (Av.mk y y X) (λj l N ah ao k=>ao λ{bO} e bP h=>?_) λN ah w ao=>ao λ{bO} e bP h=>?_
 ·obtain rfl:=e;cases bP;exact k _ z (bv (hQ (Iz (k:=ak) (Pp (aY:=ak) cE (av (i:=4) (N:=oc x (A (am j))) y) (decide_eq_true (sp j)▸Np (B:=B) (z:=z) (i:=0) (j:=(j:Int))) (λa=>⟨km (dR (av y) Y.jj y (P.m y)) Z W,(decide_eq_true (p:=j<(aa.map cU).length) (Kg (h j (.head _)))▸zG (B:=B) (z:=z) (i:=j) (j:=(aa.map cU).length))⟩) λh=>afh h.symm))) eW) (Av.mk y y λk X=>h k (.tail _ X))
 ·obtain rfl:=e;obtain rfl:=bP;exact d bO w
theorem abj(P:cq B)(R:iY z)(I:z[9]?=A (.W (aa.map cU)))(U:md aa z)(Q:x∉aa)(u:x.1<5)(ac:x.2.length<=2)(X:∀k∈x.2,k<D aa)(E:D aa<=100)(B5:∀O,dU B (n+3) 5 [.J 8,ce x.1,.Y (x.2.map am)] z (am (D aa)) O->aM (λa=>a≠9/\a≠10/\a≠11/\a≠12) z O->O[9]?=A (.W ((aa++[x]).map cU))->md (aa++[x]) O->False):False:=by
 refine U.EE.elim λag e=>U.LA.elim λC0 w=>U.Jl.elim λm d=>?_;have C:iM ag (cU x):=⟨Sr x,e.2.cls⟩
 have t:=Ur (n:=n+2) P R e.1 C;rw[e.2.no x Q u]at t;have F:(aa.map cU).length<=1000:=gu (aq E (aF y));have A2:=hg (aq F (aF y));refine X! (n:=n) (z:=z) P R u λah B0 aY=>?_;have o:=R.cz aY λc c c=>trivial;refine abx (n:=n+2) P o (aY.at I) ac X A2 λbO de=>?_;have st:=uR (B:=B) (H:=am (aa.map cU).length) (aY.at e.1) C (aq e.2.J (ei E));rw[QR (e.2.no x Q u)]at st;have s:=gR (x:=.Z (ag++[(cU x,am (aa.map cU).length)])) (aY.at e.1);have M:aM (·≠10) ah (ah.set 10 (.Z (ag++[(cU x,am (aa.map cU).length)]))):=aM.dd.gN λh=>h y;generalize ah.set 10 (.Z (ag++[(cU x,am (aa.map cU).length)]))=aV at st M s;have p:=M.get _ _ (eG y) (aY.at I);refine EX (n:=n+2) (N:=oc x bO) (dR (nm:=1) (av (i:=0) y) (M.get _ _ (eG y) o.jj) y (P.m y)) p (av (i:=3) y) p F λcD A9 B2 A1=>?_;have Y:aM (λa=>a≠9/\a≠10) ah cD:=(M.Z λc h=>h.2).trans (A1.Z λc h=>h.1);have f:iY cD:=⟨Y.get _ _ (by decide) o.eA,Y.get _ _ (by decide) o.jj,Y.get _ _ (by decide) o.ii⟩
 have g:=Y.get _ _ (by decide) (aY.at w.1);refine Uq (n:=n+2) (x:=x) (bO:=bO) (nm:=3) P f y (P.m y) g (w.2▸aq E (aF y)) (w.2▸X) ac λC3 dv et B7=>EX (n:=n+2) (N:=oc x bO) (dR (nm:=3) (av (i:=0) y) f.jj y (P.m y)) g (en (ft:=.Add) (cE (i:=1)) (gV IW (aU dv bc) (LY B7)) zE) (et.at g) (by rw[bK,w.2];exact aq E (aF y)) λL A7 B1 B3=>?_;have Z:aM (·≠11) cD L:=et.of.trans B3;have q:iY L:=⟨Z.get _ _ (eG y) f.eA,Z.get _ _ (eG y) f.jj,Z.get _ _ (eG y) f.ii⟩
 have A0:aM (λa=>a≠9/\a≠10/\a≠11) ah L:=(Y.Z λc h=>⟨h.1,h.2.1⟩).trans (Z.Z λc h=>h.2.2);have J:=A0.get _ _ (by decide) (aY.at d.1);refine Uq (n:=n+2) (x:=x) (bO:=bO) (nm:=4) P q y (P.m y) J (d.2▸aq E (aF y)) (d.2▸X) ac λA5 B8 cK B9=>?_;have r:=en (ft:=.Add) B8 (gB (aU (cE (i:=0)) bc) hL) (sD (eQ B9) dt (pG (pG (ei (aq (dn ac) (aF y))))));rw[show(x.2.map λk=>m.getD k 0).map V.X++[V.X 0]=((x.2.map λk=>m.getD k 0)++[0]).map V.X by rw[eI];rfl]at r;refine(Vr (B:=B) (z:=A5++[.W [.X 0]]++[.W (((x.2.map λk=>m.getD k 0)++[0]).map .X)]) (a:=(A5++[cT.W [V.X 0]]).length) (l:=(x.2.map λk=>m.getD k 0)++[0]) dt ((cp ..)▸iC _)).elim λC2 B6=>EX (n:=n+2) (N:=oc x bO) (dR (nm:=4) (av (i:=0) y) q.jj y (P.m y)) J (en (ft:=.Add) (cE (i:=1)) (gV c2 (aU r bc) B6) zE) (cK.dS.dS.at J) (by rw[bK,d.2];exact aq E (aF y)) λA6 A8 C1 B4=>?_;have W:aM (·≠12) L A6:=cK.dS.dS.of.trans B4;have A4:=W.get _ _ (eG y) (Z.get _ _ (eG y) B2);have A3:=W.get _ _ (eG y) (Z.get _ _ (eG y) (A1.get _ _ (eG y) s));have h:=km (dR (nm:=1) (av (B:=B) (n:=n+2) (i:=0) (N:=oc x bO) y) (W.get _ _ (eG y) q.jj) y (P.m y)) A4 ((cp ..)▸hg (aq (dn F) (aF y)));rw[cp,bK]at h;rw[bK]at A3;exact B5 A6 (ep (P.b y) y (bv (Uo ac) (bv (hQ t) (bv (jR (eu (av y) R.jj y (P.m y) (aU (av y) bc) B0)) (bv de (bv (sT (km (dR (av y) o.jj y (P.m y)) (aY.at I) A2) (dR (av y) o.jj y (P.m y)) (av y) st) (bv A9 (bv A7 (bv A8 (fy (en h cE (kp (i:=D aa+1) (j:=1) (gF 1 _)))))))))))) (.inl y))
  ((aY.of.trans (A0.Z λx h=>⟨h.1,h.2.1,h.2.2.1⟩)).trans (W.Z λx h=>h.2.2.2)) ((eI ..)▸A4)
  ⟨oX.mpr ⟨U.kT,jm ..,λa aE b al e=>Q (cB.mp al▸e▸aE)⟩,⟨_,A3,e.2.add Q u⟩,⟨C0++[_],by rw[eI];exact(W.get _ _ (eG y) B1),by rw[cp,cp,w.2];rfl⟩,⟨m++[_],by rw[eI];exact C1,by rw[cp,cp,d.2];rfl⟩⟩
end
section
variable{b i:Nat} {aa:List bl} {x:bl}
theorem z2(P:cq B)(Y:iY z){p:List Nat}(E:fT z 14 p)(J:z[15]?=A (.W v))(Z:D v=D p)(f:D p<=100)(d:∀O,dU B (n+1) 29 [.J 13] z (am (D p)) O->aM (λa=>a≠14/\a≠15) z O->fT O 14 (p++[D p])->O[15]?=A (.W (v++[.J (D z)]))->fT O (D z) [D p]->False):False:=by have W:(p.map am).length<=1000:=gu (aq f (aF y));have o:=km (dR (nm:=33) (av (B:=B) (n:=n) (i:=0) (N:=[A (.J 13)]) (z:=z) y) Y.ii y (P.m y)) E (hg (aq W (aF y)));rw[bK]at o;refine EW (n:=n) (N:=[A (.J 13)]) (dR (nm:=33) (av (i:=0) y) Y.ii y (P.m y)) E o W λah t L aY M=>?_;have s:=aY.get _ _ (eG y) Y.ii;have k:=aY.get _ _ (eG y) J;have bq:=km (dR (nm:=34) (av (B:=B) (n:=n) (i:=0) (N:=[A (.J 13)]) (z:=ah) y) s y (P.m y)) k (Z▸ei f);rw[Z]at bq;refine EX (n:=n) (N:=[A (.J 13)]) (dR (nm:=34) (av (i:=0) y) s y (P.m y)) k (gB (aU bq bc) hL) (eQ k) (Z▸aq f (aF y)) λaV r k Q=>?_;rw[M]at k;have X:aM (·≠15) ah aV:=aM.cS.trans Q;have U:=X.get _ _ (eG y) L;have R:=km (dR (nm:=33) (av (B:=B) (n:=n) (i:=0) (N:=[A (.J 13)]) y) (X.get _ _ (eG y) s) y (P.m y)) U ((cp ..)▸hg (aq (dn W) (aF y)));rw[cp,bK]at R;exact d aV (ep (P.b y) y (bv t (bv r (fy (en R cE (kp (i:=D p+1) (j:=1) (gF 1 _)))))) (.inl y)) ((aY.Z λx h=>h.1).trans (X.Z λx h=>h.2)) (by rw[fT,eI];exact U) k (Q.get _ _ (eC (fA J)).symm (M▸dt))
theorem kt.size(P:cq B)(Y:iY z)(U:kt z bC L):dU B (n+1) 30 [.J 13] z (am bC) z:=bp λX=>U.tm.elim λp Z=>by have e:=km (dR (nm:=33) (av (B:=B) (n:=n) (i:=0) (N:=[A (.J 13)]) (z:=z) y) Y.ii y (P.m y)) Z.1 (by rw[bK,Z.2.1];exact ei U.pY);rw[bK,Z.2.1]at e;exact X (ep (P.b y) y (fy e) (.inl y))
structure hv(F:Nat->Prop)(aa:List bl)(bQ:Bool->Nat->Nat)(z:aA):Prop where
 hD:dJ F aa id (λb=>False) [] 0 (D aa) (D aa) Eq bQ z
 px:md aa z
 td:∀a,F a->¬(9<a/\a<13)
theorem xF:fG aa id c↔c<D aa:=⟨λh=>h.1,λh=>⟨h,y⟩⟩
theorem h9(J:aa.Nodup)(Z:∀(n:Nat) (x:bl),aa[n]?=A x->x.1<5/\x.2.length=dN x.1/\∀k∈x.2,k<n):tC aa Eq where
 symm _ _ h:=h.symm
 trans _ _ _ h au:=h.trans au
 Ji n G x Q W Y u X:=by
  have e:x.2.length=Q.2.length:=(Z n x W).2.1.trans ((bA dN u).trans (Z G Q Y).2.1.symm);refine uw J W (Y.trans (bA A (jz u.symm (uS λi=>?_))));cases ab:x.2[i]? with
  |none=>rw[wK]at ab⊢;rw[←e];exact ab
  |some k=>exact(qq (e▸gQ ab:i<Q.2.length)).elim λl ac=>(X i k l ab ac)▸ac
noncomputable def tZ(x:bl)(bC:Nat)(bO:Option V):bk:=[A (.J 7),A (ce x.1),A (.Y (x.2.map am)),A (am bC),bO]
theorem J'(aC:List Nat):∃g:List Nat,g.Nodup/\(∀k,k∈g↔k∈aC)/\qo (aC.map am) (g.map am):=(Jy (aC.map am)).elim λr O=>(FD (S:=(·∈aC)) (f:=am) (r:=r) λH Z=>(bJ.mp ((O.mem H).mp Z)).imp λx q=>q.symm).elim λg e=>by rw[e.1]at O;exact⟨g,wG am (λa b q e=>q (bA am e)) O.nodup,λk=>EB.symm.trans ((O.mem _).trans EB),O⟩
noncomputable def a3:List S:=[.fY (.eO (.Z (.cy (.J 0) 33) (.J 4)) "append" [(.J 3)])]
structure UY(bC:Nat)(R:Nat->Nat)(mk:Nat->List Nat)(g:List Nat)(aL:aA)(p:List Nat)(z:aA):Prop where
 cz:aM (λa=>∀k∈g,a≠R k) aL z
 got:∀k∈p,fT z (R k) (mk k++[bC])
 QS:∀k∈g,k∉p->fT z (R k) (mk k)
theorem a4(P:cq B){R:Nat->Nat}{mk:Nat->List Nat}{g:List Nat}(Z:g.Nodup)(m:∀i∈g,∀j∈g,R i=R j->i=j)(U:∀i∈g,21<R i)(Q:∀x∈ag,gs x.1=1)(F:∀i∈g,cX ag (am i)=A (.J (R i)))(I:∀i∈g,(mk i).length<=1000)(W:∀k∈g,be≠R k)(t:iY ah)(u:ah[20]?=A (.Z ag))(L:∀k∈g,fT ah (R k) (mk k))(H:ah[be]?=A (.W v))(c:hY B n .bE e (tZ x bC aj) z (g.map am) (λz=>z[be]?=A (.W v)) ah)(d:∀C O,eM B n (.eP (.W 4) .bE e a3) (tZ x bC aj) z .X (tZ x bC C) O->aM (λa=>∀k∈g,a≠R k) ah O->(∀k∈g,fT O (R k) (mk k++[bC]))->False):False:=by
 refine ox (ao:=λp N z=>(∃C,N=tZ x bC C)/\UY bC R mk g ah p z) c (λp N z j=>j.2.cz.get _ _ W H) ⟨⟨aj,y⟩,.dd,λb=>afk,λk h b=>L k h⟩ (λp k r N z q j bI=>j.1.elim λC e=>?_) λN O w j=>j.1.elim λC e=>d C O (e▸w) j.2.cz j.2.got;obtain rfl:=e;have X:=kC q;have Y:k∉p:=λh=>by
  rw[←q]at Z;exact(oX.mp Z).2.2 k h k (.head _) y
 have ao:=j.2;have f:∀{i},i<=21->∀k∈g,i≠R k:=λh k X=>(gg (U k X) h).symm;have l:=ao.QS k X Y;have u:=ao.cz.get _ _ (f (aF y)) u;refine bI _ _ (bv (jR (iL (fo (dR (nm:=33) (av (B:=B) (n:=n) (i:=0) (N:=tZ x bC (A (am k))) (z:=z) y) (ao.cz.get _ _ (f (aF y)) t.eA) y (P.m y)) (av (i:=4) y) (.Z u) (nA u (rN Q) (F k X))) (.append l) (aU (av (i:=3) y) bc) (qO l (gu (hg (aq (I k X) (aF y))))))) eW) ⟨⟨_,y⟩,ao.cz.gN λh=>h k X y,λj M=>(ew.mp M).elim (λh=>fL (ao.got j h) λe=>Y (m k X j (q▸iZ _ h) e▸h)) λh=>?_,λj M Z=>fL (ao.QS j M λh=>Z (iZ _ h)) λe=>Z (m k X j M e▸jl _ (.head _))⟩;rw[cB.mp h,fT,eI];exact gR l
theorem hv.b_(P:cq B)(aT:hv F aa bQ z)(Z:aa[i]?=A x):dU B (n+4) 38 [.J 7,ce x.1,.Y (x.2.map am)] z (am i) z:=ep (P.b y) y (bv (fX (eu (dR (av y) aT.hD.du.eA y (P.m y)) aT.hD.du.jj y (P.m y) (aU (av y) (aU (av y) bc)) (abk (n:=n+2) P aT.hD.du aT.px Z ((aT.hD.hR i x Z).2.1▸kv _)))) (lE (ku (DH (av (B:=B) (n:=n+3) (i:=3) (N:=tZ x i aj) (z:=z) y) (eu (nm:=5) (dR (nm:=40) (av (i:=0) y) aT.hD.du.eA y (P.m y)) aT.hD.du.ii y (P.m y) bc (aT.hD.fF.size (n:=n+2) P aT.hD.du)) (gQ Z)) (fy (av y))) nj)) (.inl y)
noncomputable def ts(bQ:Bool->Nat->Nat)(bC t r:Nat)(b:Bool)(c:Nat):Nat:=if c=bC then(if b then r else t)else bQ b c
theorem tu{b:Bool}(h:c≠bC):ts bQ bC Z8 d b c=bQ b c:=bV h
theorem BW:ts bQ bC Z8 d aW bC=Z8:=(cg y).trans y
theorem BX:ts bQ bC Z8 d ak bC=d:=(cg y).trans y
theorem Lz{b:Bool}(h:Z8<d):Z8<=ts bQ bC Z8 d b bC:=by
 cases b with
 |false=>exact fi BW.symm
 |true=>exact aq (dK h) (fi BX.symm)
theorem iY.Er{S:Nat->Prop}(aT:iY z)(k:aM S z ah)(h:S 7/\S 8/\S 13:=by decide):iY ah:=⟨k.get _ _ h.1 aT.eA,k.get _ _ h.2.1 aT.jj,k.get _ _ h.2.2 aT.ii⟩
structure LN(aa:List bl)(x:bl)(bQ:Bool->Nat->Nat)(p:List Nat)(Z:List V)(ag:List (V×V))(t r:Nat)(z O:aA):Prop where
 cz:aM (λa=>(a≠9/\a≠10/\a≠11/\a≠12)/\(a≠14/\a≠15/\a≠20)/\∀k∈x.2,a≠bQ ak k) z O
 cL:D z<=t
 dw:t<r
 lz:O[9]?=A (.W ((aa++[x]).map cU))
 AI:fT O 14 (p++[D aa])
 PS:O[15]?=A (.W (Z++[.J t]))
 PY:fT O t [D aa]
 AJ:O[20]?=A (.Z (hp ag (am (D aa)) (.J r)))
 PZ:fT O r []
 mW:∀k∈x.2,∃G,fT z (bQ ak k) G/\fT O (bQ ak k) (G++[D aa])
theorem oa:(aa++[x]).length=D aa+1:=cp
theorem rB(h:fG (aa++[x]) id c)(X:c≠D aa):fG aa id c:=xF.mpr (qY (hl (Ho (xF.mp h) oa)) X)
theorem kt.add{p:List Nat}{O:aA}(U:kt z (D aa) id)(Z:D p=D aa/\∀i j:Nat,p[i]?=A j->j<=i/\id j=id i/\(j=i↔id i=i))(h:D aa+1<=14)(c:fT O 14 (p++[D aa])):kt O (aa++[x]).length id where
 pY:=oa▸aq h (aF y)
 le _ _:=cu _
 nN _ _:=y
 tm:=⟨_,c,by rw[cp,Z.1,oa];rfl,λi j X=>by
  refine(Dc i (D p)).elim (λaB=>?_) λaB=>?_
  ·rw[jY aB]at X;exact Z.2 i j X
  ·rw[iN aB]at X;have aR:i-D p=0:=wQ.mp (gQ X);rw[aR]at X;obtain rfl:=dk X;obtain rfl:=mh (Da aR) aB;exact Z.1▸⟨cu _,y,⟨λa=>y,λa=>y⟩⟩⟩
theorem kZ.more{G:List Nat}(h:kZ aa id c G)(X:c<D aa):kZ (aa++[x]) id c G:=⟨h.no,λi=>(h.mem i).trans ⟨λq=>⟨oa▸qa q.1,q.2⟩,λq=>⟨(show i=c from q.2)▸X,q.2⟩⟩⟩
theorem kZ.W:kZ (aa++[x]) id (D aa) [D aa]:=⟨jm ..,λi=>cB.trans ⟨λq=>⟨q▸oa▸jO _,q⟩,λq=>q.2⟩⟩
theorem kl.more{G:List Nat}(h:kl aa id C c G)(Z:c∉x.2):kl (aa++[x]) id (C+1) c G:=⟨lg h.J,λi q=>oa▸qa (h.lt i q),λi Q k ab ac bo=>(yu ab).elim (λq=>h.all i Q k q.2 ac bo) λq=>aG (q.2▸(show k=c from bo)▸ac) Z⟩
theorem kl.push{G:List Nat}(h:kl aa id C c G):kl (aa++[x]) id (C+1) c (G++[D aa]):=⟨(cp ..)▸dn h.J,λi q=>(ew.mp q).elim (λq=>oa▸qa (h.lt i q)) λq=>oa▸(cB.mp q)▸jO _,λi Q k ab ac bo=>(yu ab).elim (λq=>iZ _ (h.all i Q k q.2 ac bo)) λq=>jl _ (q.1▸.head _)⟩
theorem kl.bM(Z:∀(n:Nat) (x:bl),aa[n]?=A x->∀k∈x.2,k<n)(X:∀k∈x.2,k<D aa):kl (aa++[x]) id C (D aa) []:=⟨cW _,λz=>afk,λi Q k ab ac bo=>have e:k=D aa:=bo
  (yu ab).elim (λq=>aG (kH (Z i Q q.2 k ac) q.1) (e▸ic _)) λq=>aG (X k (q.2▸ac)) (e▸ic _)⟩
theorem qJ.add(h:qJ aa id (bQ ak) ag):qJ (aa++[x]) id (ts bQ (D aa) Z8 d ak) (hp ag (am (D aa)) (.J d))where
 cls:=vJ (P:=λx=>gs x=1) h.cls y
 J:=oa▸aq QQ (dn h.J)
 get c X:=by
  by_cases q:c=D aa
  ·rw[q,BX];exact DZ
  ·rw[tu q,DY λh=>q (mA h).symm];exact h.get c (rB X q)
theorem nu.more{K:Nat}(h:nu aa id (λz=>False) K ag):nu (aa++[x]) id (·=D aa) K ag where
 J:=h.J
 cls:=h.cls
 old k H q:=(h.old k H q).imp λG f=>f.imp λQ f=>f.imp λax f=>⟨f.1,(jY (gQ f.2.1)).trans f.2.1,f.2.2⟩
 cS i Q q:=(yu q).elim (λq=>(h.cS i Q q.2).elim (λh=>h.elim) .inr) λq=>.inl q.1
theorem dJ.u!(aT:dJ F aa id (λa=>False) [] 0 (D aa) (D aa) Eq bQ z){t:Nat}{b Q:Bool}(cL:D z<=t)(dw:t<Z8)(X:fG (aa++[x]) id c)(Z:fG (aa++[x]) id d)(e:ts bQ (D aa) t Z8 b c=ts bQ (D aa) t Z8 Q d):b=Q/\c=d:=by
 by_cases dv:c=D aa
 ·by_cases et:d=D aa
  ·rw[dv,et]at e;refine⟨?_,dv.trans et.symm⟩;cases b with
   |false=>cases Q with
    |false=>rfl
    |true=>rw[BW,BX]at e;exact aG e (eC dw)
   |true=>cases Q with
    |true=>rfl
    |false=>rw[BW,BX]at e;exact aG e.symm (eC dw)
  ·rw[tu et,dv]at e;exact aG (er (e▸Lz dw) (aT.olds Q (rB Z et))) (fP.mpr cL)
 ·by_cases et:d=D aa
  ·rw[tu dv,et]at e;exact aG (er (e.symm▸Lz dw) (aT.olds b (rB X dv))) (fP.mpr cL)
  ·rw[tu dv,tu et]at e;exact aT.inj b c Q d (rB X dv) (rB Z et) e
def Gb(a:Nat):Prop:=9<a/\a<13
instance(a:Nat):Decidable (Gb a):=inferInstanceAs(Decidable (9<a/\a<13))
theorem dJ.added(aT:dJ F aa id (λr=>False) [] 0 (D aa) (D aa) Eq bQ z){p:List Nat}(bi:LN aa x bQ p v ag Z8 f z O)(I:D p=D aa/\∀i j:Nat,p[i]?=A j->j<=i/\id j=id i/\(j=i↔id i=i))(J:D v=D aa/\∀c,fG aa id c->v[c]?=A (.J (bQ aW c)))(R:qJ aa id (bQ ak) ag)(u:x.1<5)(L:x.2.length=dN x.1)(X:∀k∈x.2,k<D aa)(E:D aa+1<=14):dJ (λa=>F a\/Gb a) (aa++[x]) id (·=D aa) [] 0 (D aa+1) (D aa) Eq (ts bQ (D aa) Z8 f) O:=by
 have Y:∀b {c},fG aa id c->21<bQ b c:=λb c Z=>(aT.gy b c Z).1;have P:∀{k},k∈x.2->fG aa id k:=λh=>xF.mpr (X _ h);have lo:∀{i C},((i≠9/\i≠10/\i≠11/\i≠12)/\(i≠14/\i≠15/\i≠20))->i<=21->z[i]?=A C->O[i]?=A C:=λh au q=>bi.cz.get _ _ ⟨h.1,h.2,λk X=>(gg (Y ak (P X)) au).symm⟩ q;have aB:∀{i C},21<i->(∀k∈x.2,i≠bQ ak k)->z[i]?=A C->O[i]?=A C:=λh au q=>bi.cz.get _ _ ⟨⟨gg h,gg h,gg h,gg h⟩,⟨gg h,gg h,gg h⟩,au⟩ q;have s:∀a,(F a\/Gb a)->(a<7\/(9<a/\a<13)\/21<a)/\a<D z:=λa h=>h.elim (aT.eJ a) λh=>⟨.inr (.inl h),ef (kH h.2 (aF y)) aT.lL⟩
 exact
 {du:=⟨lo (by decide) (aF y) aT.du.eA,lo (by decide) (aF y) aT.du.jj,lo (by decide) (aF y) aT.du.ii⟩
  fF:=aT.fF.add I E bi.AI
  lz:=bi.lz
  hR:=λi Q h=>(yu h).elim (λq=>aT.hR i Q q.2) λq=>q.1▸q.2▸⟨u,L,X⟩
  eJ:=λa h=>⟨(s a h).1,ef (s a h).2 bi.cz.le⟩
  gy:=λb c Z=>by
   by_cases q:c=D aa
   ·have g:=aq bi.cL (Lz (bQ:=bQ) (bC:=D aa) (b:=b) bi.dw);exact q.symm▸⟨ef aT.lL g,λh=>aG (s _ h).2 (fP.mpr g)⟩
   ·have h:=aT.gy b c (rB Z q);exact(tu q)▸⟨h.1,λau=>au.elim h.2 λau=>aG (kH h.1 au.2) (by decide)⟩
  inj:=λb c w d Z M e=>aT.u! bi.cL bi.dw Z M e
  nP:=⟨_,bi.PS,(cp ..)▸oa▸J.1▸y,λc Z=>by
   by_cases q:c=D aa
   ·rw[q,BW,iN (fi J.1),J.1,kb];rfl
   ·rw[tu q,jY (J.1.symm▸(rB Z q).1)];exact J.2 c (rB Z q)⟩
  qx:=λc Z=>by
   by_cases q:c=D aa
   ·rw[q,BW];exact⟨_,bi.PY,.W⟩
   ·have Z:=rB Z q;exact(tu q)▸(aT.qx c Z).imp λG h=>⟨aB (Y aW Z) (λk X e=>afh (aT.inj _ _ _ _ Z (P X) e).1) h.1,h.2.more Z.1⟩
  vB:=⟨_,bi.AJ,R.add⟩
  mW:=λc Z=>by
   by_cases q:c=D aa
   ·rw[q,BX];exact⟨_,bi.PZ,.bM (λn x h=>(aT.hR n x h).2.2) X⟩
   ·have Z:=rB Z q;rw[tu q];by_cases U:c∈x.2
    ·exact(aT.mW c Z).elim λG h=>(bi.mW c U).elim λt au=>⟨_,au.2,Kn (cT.W.inj (dk (h.1.symm.trans au.1)))▸h.2.push⟩
    ·exact(aT.mW c Z).imp λG h=>⟨aB (Y ak Z) (λk X e=>U ((aT.inj _ _ _ _ Z (P X) e).2▸X)) h.1,h.2.more U⟩
  lU:=aT.lU.imp λag h=>⟨lo (by decide) (aF y) h.1,h.2.more⟩
  qu:=aT.qu.imp λl q=>⟨lo (by decide) (aF y) q.1,q.2⟩
  vQ:=aT.vQ.imp λl q=>⟨lo (by decide) (aF y) q.1,q.2⟩
  merged:=aT.merged.imp λl q=>⟨lo (by decide) (aF y) q.1,q.2⟩
  lZ:=lo (by decide) (aF y) aT.lZ
  se:=λr=>afk
  nf:=λi j r r h=>h}
theorem a5(P:cq B)(aT:hv F aa bQ z)(D0:x∉aa)(C5:x.1<5)(ac:x.2.length<=2)(X:∀k∈x.2,k<D aa)(A7:D aa+1<=14){p:List Nat}(C6:fT z 14 p)(W:D p=D aa)(C7:∀i j:Nat,p[i]?=A j->j<=i/\id j=id i/\(j=i↔id i=i))(C2:z[15]?=A (.W l))(C4:D l=D aa)(C3:z[20]?=A (.Z ag))(I:qJ aa id (bQ ak) ag)(D1:∀O B6 B7,(∀aV,iY O->dU B (n+7) 40 [.J 7,am (D aa)] O .bM aV->dU B (n+8) 38 [.J 7,ce x.1,.Y (x.2.map am)] z (am (D aa)) aV)->LN aa x bQ p l ag B6 B7 z O->md (aa++[x]) O->False):False:=by
 have Y:=aT.hD;have s:∀{k},k∈x.2->fG aa id k:=λh=>xF.mpr (X _ h);have U:=λ{k} (h:k∈x.2)=>(Y.gy ak k (s h)).1;refine(mJ (λc=>by
  by_cases h:c<D aa
  ·exact(Y.mW c (xF.mpr h)).imp λG q b=>⟨q.1,q.2.J⟩
  ·exact⟨[],λq=>aG (X c q) h⟩:∀c,∃G:List Nat,c∈x.2->fT z (bQ ak c) G/\D G<=D aa)).elim λmk A4=>(J' x.2).elim λw r=>?_
 have Z:∀{k},k∈w->k∈x.2:=λh=>(r.2.1 _).mp h;refine abj (n:=n) P Y.du Y.lz aT.px D0 C5 ac X Y.fF.pY λah B4 aY D3 d=>?_;have M:=Y.du.Er aY;refine z2 (n:=n+6) P M (aY.get _ _ (by decide) C6) (aY.get _ _ (by decide) C2) (C4.trans W.symm) (W▸Y.fF.pY) λaV B5 L AI PS PY=>?_;have A8:=M.Er L;have t:=As (av (B:=B) (n:=n+7) (i:=3) (N:=tZ x (D aa) aj) (z:=ah) y) (eu (nm:=5) (dR (nm:=40) (av (i:=0) y) M.eA y (P.m y)) M.ii y (P.m y) bc ((Y.fF.fZ λp q=>aY.get _ _ (by decide) q).size (n:=n+6) P M)) (ic (D aa));have B2:=eQ (iW:=[.W []]) (L.get _ _ (by decide) (aY.get _ _ (by decide) C3));have st:=uR (B:=B) (H:=.J (D aV)) B2 (rN (n:=D aa) I.cls) (ei (aq I.J Y.fF.pY));have AJ:=gR (x:=.Z (hp ag (am (D aa)) (.J (D aV)))) B2;have Q:aM (·≠20) aV ((aV++[cT.W []]).set 20 (.Z (hp ag (am (D aa)) (.J (D aV))))):=aM.cS.gN λh=>h y;have dw:D ah<D aV:=fA PY;have PZ:((aV++[cT.W []]).set 20 (.Z (hp ag (am (D aa)) (.J (D aV)))))[D aV]?=A (.W []):=fL dt (eC (ef (ef (aF y) Y.lL) (aq aY.le L.le)));generalize(aV++[cT.W []]).set 20 (.Z (hp ag (am (D aa)) (.J (D aV))))=cD at st AJ Q PZ;have A9:=A8.Er Q;have A1:=Q.get _ _ (eG y) AI;rw[W]at A1 PY;refine oe (B:=B) (n:=n+7) (N:=tZ x (D aa) aj) (z:=cD) (k:=.bE) (dc:=[aj,A 0]) (ax:=[A (.J 7)]) (aS:=x.2) (g:=am) (f:=am) (e:=.J 2) (bP:=.bZ (.J 1) 22 [(.J 0)]) y
  (ff (av y) qU) (ei (aq ac (aF y))) (λb b=>trivial) (λj A3 O k bI=>?_) λA5 B8 B0 D2=>?_
 ·have E:=A9.cz k λb b b=>trivial;exact bI O (eu (av y) E.eA y (P.m y) (aU (av y) bc) (ep (n:=n+6) (P.b y) y (fy (eu (dR (av y) E.eA y (P.m y)) E.ii y (P.m y) (aU (av y) bc) (((Y.fF.add (x:=x) ⟨W,C7⟩ A7 A1).fZ λp q=>k.at q).find P E (Ho (qa (X j A3)) oa.symm)))) (.inl y))) .dd
 have B3:=Gv (t:=1) (u:=1) B8.ev D2 (.inr ⟨y,gu (aq ac (aF y))⟩) (λH C9=>(bJ.mp C9).elim λj q=>q.2▸y) (gO.Be x.2) r.2.2;have J:aM cI cD (A5++[.W (w.map am)]):=B0.dS;have be:=dt (z:=A5) (C:=.W (w.map am));generalize A5++[cT.W (w.map am)]=D4 at B3 J be;have A6:aM (λa=>(a≠9/\a≠10/\a≠11/\a≠12)/\a≠14/\a≠15/\a≠20) z D4:=(((aY.Z λb h=>h.1).trans (L.Z λb h=>⟨h.2.1,h.2.2.1⟩)).trans (Q.Z λb h=>h.2.2.2)).trans J.of;have B1:∀{k ba},D z<=ba->k∈x.2->ba≠bQ ak k:=λh au=>fU (ef (Y.olds ak (s au)) h);refine a4 (n:=n+7) (x:=x) (bC:=D aa) (R:=bQ ak) (mk:=mk) P r.1 (λi aB j A3 e=>(Y.inj _ _ _ _ (s (Z aB)) (s (Z A3)) e).2) (λi aB=>U (Z aB)) (vJ (P:=λx=>gs x=1) I.cls y) (λi aB=>((DY λq=>fU (X i (Z aB)) (mA q))).symm▸I.get i (s (Z aB))) (λi aB=>aq (A4 i (Z aB)).2 (aq (jo A7) (aF y))) (λk X=>B1 (aq (aq aY.le L.le) (aq Q.le B0.le)) (Z X)) (A9.cz J λb b b=>trivial) (J.at AJ) (λk X=>A6.get _ _ ⟨⟨gg (U (Z X)),gg (U (Z X)),gg (U (Z X)),gg (U (Z X))⟩,gg (U (Z X)),gg (U (Z X)),gg (U (Z X))⟩ (A4 k (Z X)).1) be (ff B3 (gD be)) λbO A0 C0 A2 C1=>?_;have lo:∀{i C},i<=21->cD[i]?=A C->A0[i]?=A C:=λh q=>A2.get _ _ (λk X e=>gg (U (Z X)) h e.symm) (J.at q);have aB:∀{i C},D z<=i->cD[i]?=A C->A0[i]?=A C:=λh q=>A2.get _ _ (λk X=>B1 h (Z X)) (J.at q);have dh:∀{i C},i<=21->(i≠14/\i≠15)/\i≠20->ah[i]?=A C->A0[i]?=A C:=λh au q=>lo h (Q.get _ _ au.2 (L.get _ _ au.1 q));exact D1 A0 (D ah) (D aV) (λD5 C8 B9=>ep (P.b y) y (bv (fX (eu (dR (av y) Y.du.eA y (P.m y)) Y.du.jj y (P.m y) (aU (av y) (aU (av y) bc)) (B4.mono (gE (aF y) n)))) (bv (hQ t) (bv (jR (eu (dR (av y) M.eA y (P.m y)) M.ii y (P.m y) bc B5)) (bv (sT (gB bc (cW _)) (dR (av y) (eQ A8.eA) y (P.m y)) (av y) st) (bv C0 (bv (jR (eu (av y) C8.eA y (P.m y) (aU (av y) bc) B9)) (fy (av y)))))))) (.inl y))
  {cz:=(A6.Z λb h=>⟨h.1,h.2.1⟩).trans (A2.Z λb h k X=>h.2.2 k (Z X))
   cL:=aY.le
   dw:=dw
   lz:=dh (by decide) (by decide) D3
   AI:=lo (aF y) A1
   PS:=lo (by decide) (Q.get _ _ (eG y) PS)
   PY:=aB aY.le (Q.get _ _ (fU (ef (ef (aF y) Y.lL) aY.le)) PY)
   AJ:=lo (aF y) AJ
   PZ:=aB (aq aY.le (dK dw)) PZ
   mW:=λk X=>⟨mk k,(A4 k X).1,C1 k ((r.2.1 k).mpr X)⟩}
  ⟨d.kT,d.EE.imp λb q=>⟨dh (by decide) (by decide) q.1,q.2⟩,d.LA.imp λb q=>⟨dh (by decide) (by decide) q.1,q.2⟩,d.Jl.imp λb q=>⟨dh (by decide) (by decide) q.1,q.2⟩⟩
theorem hv.a9(P:cq B)(aT:hv F aa bQ z)(N:x∉aa)(u:x.1<5)(I:x.2.length=dN x.1)(X:∀k∈x.2,k<D aa)(E:D aa+1<=14)(d:∀O A0,dU B (n+8) 38 [.J 7,ce x.1,.Y (x.2.map am)] z (am (D aa)) O->hv F (aa++[x]) A0 O->aM F z O->False):False:=by
 have Z:=aT.hD;refine Z.fF.tm.elim λp Y=>Z.nP.elim λA1 J=>Z.vB.elim λag R=>a5 (n:=n) P aT N u (I▸kv _) X E Y.1 Y.2.1 Y.2.2 J.1 J.2.1 R.1 R.2 λA2 t r c bi bg=>?_;have j:=Z.added bi Y.2 J.2 R.2 u I X E;have v:(aa++[x])[D aa]?=A x:=(iN (cu _)).trans ((kb ..)▸y);have C:D aa<=14:=jo E;refine j.look (G:=n+2) P (h9 bg.kT j.hR) v y (aq C (aF y)) (cW _) ⟨aq (gE E _) (aF y),aq E (aF y)⟩ (oa▸E) (λM o f s=>?_) λM k g b b b U f b b=>eC U.uq (f.nf k g U.ls.1 U.lq.1 ((kB (L:=id) (i:=k) (eC U.uq)).trans (oF (L:=id) (i:=g) y).symm));refine d M (ts bQ (D aa) t r) (c M j.du o) ⟨?_,bg.cz s ⟨.inr (by decide),.inr (by decide),.inr (by decide)⟩,aT.td⟩ ((bi.cz.Z λa h=>?_).trans (s.Z λb h=>.inl h))
 ·rw[oa];exact(f.uh λi h=>h.2 h.1).less λb h=>.inl h
 ·have w:=λi (ab:vd i) (q:a=i)=>Z.th ab (q▸h);have Q:=λi (ab:9<i/\i<13) (q:a=i)=>(aT.td a h) (q▸ab)
  exact⟨⟨w 9 (by decide),Q 10 (by decide),Q 11 (by decide),Q 12 (by decide)⟩,⟨w 14 (by decide),w 15 (by decide),w 20 (by decide)⟩,λk l e=>(Z.gy ak k (xF.mpr (X k l))).2 (e▸h)⟩
end
section
variable{b i:Nat} {aa:List bl} {x:bl} {t:T}
def hC(aa:List bl):eE:=λn x=>aa[n]?=A x
theorem GD{g Z:eE}(h:∀c x,g c x->Z c x){t:T}:∀{c:Nat},dO g t c->dO Z t c:=by
 induction t with
 |l k=>exact h _ _
 |u k t Y=>exactλq=>q.imp λd q=>⟨h _ _ q.1,Y q.2⟩
 |b t s fj fs=>exactλq=>q.imp λd q=>q.imp λe q=>⟨h _ _ q.1,fj q.2.1,fs q.2.2⟩
theorem Mn{g Z:eE}(h:∀c x,g c x->Z c x):∀{aC:List Nat},gI g aC ai->gI Z aC ai:=by
 induction ai with
 |nil=>
  intro aC q;cases aC with
  |nil=>exact trivial
  |cons=>exact q.elim
 |cons t ai Y=>
  intro aC q;cases aC with
  |nil=>exact q.elim
  |cons k aC=>exact⟨GD h q.1,Y q.2⟩
def pg(aa jg:List bl):Prop:=∃e,jg=aa++e
theorem pg.rH(h:pg aa jg):∀c x,hC aa c x->hC jg c x:=λc x q=>h.elim λe h=>h▸(jY (gQ q)).trans q
theorem pg.dd:pg aa aa:=⟨[],(eF _).symm⟩
theorem pg.trans{Z:List bl}(h:pg aa jg)(au:pg jg Z):pg aa Z:=h.elim λa e=>au.elim λb bP=>⟨a++b,bP▸e▸(ha ..)▸y⟩
theorem hv.rI(aT:hv F aa bQ z):eh (hC aa):=⟨λc x h=>⟨(aT.hD.hR c x h).1,(aT.hD.hR c x h).2.1⟩,λc d x h au=>uw aT.px.kT h au,λc=>by
  cases h:aa[c]? with
  |none=>exact⟨[],oY,λx=>⟨afk,λq=>by rw[show aa[c]?=A x from q]at h;cases h⟩⟩
  |some Q=>exact⟨[Q],jm ..,λx=>⟨λq=>cB.mp q▸h,λq=>cB.mpr (dk (q.symm.trans h))⟩⟩⟩
theorem hv.cz(aT:hv F aa bQ z)(k:aM (λa=>¬F a) z ah):hv F aa bQ ah:=⟨aT.hD.cz k,aT.px.cz k ⟨λh=>aT.td _ h (by decide),λh=>aT.td _ h (by decide),λh=>aT.td _ h (by decide)⟩,aT.td⟩
theorem hv.grow(aT:hv F aa bQ z)(k:aM (λa=>¬F a) z ah):hv (λa=>F a\/(D z<=a/\a<D ah)) aa bQ ah:=⟨aT.hD.grow k,(aT.cz k).px,λa h q=>h.elim (λh=>aT.td a h q) λh=>aG (er (aq aT.hD.lL h.1) q.2) (by decide)⟩
theorem hv.less(aT:hv F aa bQ z)(h:∀a,hi a->F a):hv hi aa bQ z:=⟨aT.hD.less h,aT.px,λa q=>aT.td a (h a q)⟩
def me(U:List T)(aa:List bl):Prop:=∀n,n<D aa->∃s∈U,dO (hC aa) s n
theorem me.room(aT:hv F aa bQ z)(X:me U aa)(m:t∈U)(J:∀n,¬dO (hC aa) t n):D aa+1<=D U:=by
 refine(mJ (λn=>by
  by_cases h:n<D aa
  ·exact(X n h).imp λs h x=>h
  ·exact⟨t,λq=>aG q h⟩:∀n,∃s,n<D aa->s∈U/\dO (hC aa) s n)).elim λf Z=>?_
 have W:(t::(fz (D aa)).map f).Nodup:=jN.mpr ⟨λh=>(bJ.mp h).elim λk q=>J k (q.2▸(Z k (hk.mp q.1)).2),iV zr λi aB j M e=>so aT.rI (f i) (Z i (hk.mp aB)).2 (e▸(Z j (hk.mp M)).2)⟩;have q:=W.length_le_of_subset (l₂:=U) λs Y=>(ee.mp Y).elim (λe=>e▸m) λY=>(bJ.mp Y).elim λk q=>q.2▸(Z k (hk.mp q.1)).1;rw[iz,bK,iA]at q;exact q
theorem VN(Q:eh g)(h:dO g t n):∃x,g n x:=((iX Q).mp h).imp λx q=>q.1
def HC(B:bT)(G f:Nat)(F:Nat->Prop)(U:List T)(aa:List bl)(t:T)(as:List V)(z:aA):Prop:=(∀(O:aA) (jg:List bl) (o:Bool->Nat->Nat) (n:Nat),dU B G f as z (am n) O->hv F jg o O->pg aa jg->dO (hC jg) t n->me U jg->aM F z O->False)->False
theorem gI.lt:∀{ns:List Nat},gI (hC aa) ns ai->eh (hC aa)->∀k∈ns,k<D aa:=by
 induction ai with
 |nil=>
  intro ns Q _;cases ns with
  |nil=>exactλz=>afk
  |cons=>exact Q.elim
 |cons t ai Y=>
  intro ns Q Z;cases ns with
  |nil=>exact Q.elim
  |cons k ns=>exactλj M=>(ee.mp M).elim (λe=>e▸(VN Z Q.1).elim λx q=>gQ q) (Y Q.2 Z j)
theorem hv.add(P:cq B)(aT:hv F aa bQ z)(E:D U<=14)(X:me U aa)(m:t∈U){ns:List Nat}(Q:gI (hC aa) ns t.X):HC B (n+8) 38 F U aa t [.J 7,ce t.op,.Y (ns.map am)] z:=λd=>by
 by_cases h:(t.op,ns)∈aa
 ·exact(Hh.mp h).elim λi Y=>d z aa bQ i (aT.b_ (n:=n+4) (x:=(t.op,ns)) P Y) aT .dd ((iX aT.rI).mpr ⟨_,Y,y,Q⟩) X .dd
 ·have W:∀k,¬dO (hC aa) t k:=λk q=>((iX aT.rI).mp q).elim λx q=>h (io (i:=k) ((jz q.2.1 (Cy aT.rI q.2.2 Q):x=(t.op,ns))▸q.1));refine aT.a9 (n:=n) (x:=(t.op,ns)) P h t.pK (Q.J.trans t.lu) (Q.lt aT.rI) (aq (X.room aT m W) E) λO o c g bI=>?_;have cO:pg aa (aa++[(t.op,ns)]):=⟨_,y⟩
  have v:(aa++[(t.op,ns)])[D aa]?=A (t.op,ns):=(iN (cu _)).trans ((kb ..)▸y);have Z:=(iX g.rI).mpr ⟨_,v,y,Mn cO.rH Q⟩;refine d O _ o _ c g cO Z (λi aB=>?_) bI;by_cases q:i<D aa
  ·exact(X i q).imp λs h=>⟨h.1,GD cO.rH h.2⟩
  ·rw[oa]at aB;exact mh (hl aB) (ib q)▸⟨t,m,Z⟩
def zP(U:List T)(aa:List bl)(F hi:Nat->Prop)(aC:List T)(aL:aA)(r:List T)(l:List V)(z:aA):Prop:=∀{P:Prop},(∀{pre:List T} {ns:List Nat} {jg:List bl} {o:Bool->Nat->Nat},pre++r=aC->l=ns.map am->gI (hC jg) ns pre->pg aa jg->me U jg->hv hi jg o z->aM F aL z->P)->P
theorem zP.mk{U:List T}{aa:List bl}{F hi:Nat->Prop}{aC:List T}{aL:aA}{r:List T}{z:aA}{ns:List Nat}{jg:List bl}{o:Bool->Nat->Nat}(h:pre++r=aC)(Z:l=ns.map am)(Y:gI (hC jg) ns pre)(J:pg aa jg)(X:me U jg)(W:hv hi jg o z)(j:aM F aL z):zP U aa F hi aC aL r l z:=λe=>e h Z Y J X W j
theorem U_(P:cq B)(E:D U<=14)(t:T):∀{F:Nat->Prop} {aa:List bl} {bQ:Bool->Nat->Nat} {z:aA},(∀s∈t.eR,s∈U)->me U aa->hv F aa bQ z->HC B (t.co+10) 39 F U aa t [.J 7,t.J] z:=by
 refine T.nc (P:=λt=>∀{F:Nat->Prop} {aa:List bl} {bQ:Bool->Nat->Nat} {z:aA},(∀s∈t.eR,s∈U)->me U aa->hv F aa bQ z->HC B (t.co+10) 39 F U aa t [.J 7,t.J] z) (λt A1 {F aa bQ z} I X aT A3=>?_) t;have Q:D t.X<=2:=t.lu▸kv _;have v:∀{a},a=D z->F a\/(D z<=a/\a<(z++[cT.W []]).length):=λe=>.inr ((cp ..)▸e▸⟨cu _,jO _⟩);refine sg (B:=B) (n:=t.co+9) (dc:=[aj,A 0]) (ax:=[A (.J 7)]) (N:=[A (.J 7),A t.J]) (z:=z) (k:=.bE) (e:=.eb (.J 1) (.X 1) .bM) (bP:=.bZ (.J 1) 8 [(.J 0)]) (aS:=t.X) (g:=T.J)
  (ao:=zP U aa F (λa=>F a\/(D z<=a/\a<(z++[cT.W []]).length)) t.X z) y (ff (lG (B:=B) (n:=t.co+9) (k:=1) (l:=ce t.op::t.X.map T.J) (av (i:=1) (N:=[A (.J 7),A t.J]) (z:=z) (t.lC▸y)) (aF y) (by rw[iz,bK];exact ei (aq (dn Q) (aF y)))) qU) (ei (aq Q (aF y))) (λx x x x=>trivial) (zP.mk (pre:=[]) (ns:=[]) y y trivial .dd X (aT.grow (.cS (iW:=[.W []]))) .cS)
  (λs B3 l aV j aE k=>j λ{pre ns A5 A8} o p g cO L W Y=>?_) λah l d j br=>j λ{pre ns A5 A8} o p g cO L W Y=>?_
 ·have Z:s∈t.X:=kC o;exact A1 s Z (λu A0=>I u (nQ.mpr (.inr ⟨s,Z,A0⟩))) L W λcD A6 B2 q R m r b M w=>k cD (am q) (eu (av y) W.hD.du.eA y (P.m y) (aU (av y) bc) (R.mono (iO (T.rO Z) 9))) (w.get _ _ (v y) aE)
   (zP.mk (pre:=pre++[s]) (ns:=ns++[q]) ((ha ..).trans o) (p▸(eI ..)▸y) (gI.dS (show gI (hC A6) [q] [s]from⟨b,trivial⟩) (Mn r.rH g)) (cO.trans r) M (m.cz (aM.dd.gN λh=>h (v y))) ((Y.trans (w.Z λx h=>.inl h)).set (cu _)))
 ·rw[(eF pre).symm.trans o]at g;obtain rfl:=p;exact(W.less (hi:=F) λx h=>.inl h).add (n:=t.co) P E L (I t (yw t)) g λB1 A7 A9 A4 O f B0 c C A2=>A3 B1 A7 A9 A4 (ep (P.b y) y (fy (eu (av y) aT.hD.du.eA y (P.m y) (aU (fo (av y) cE (t.lC▸.Y) (t.lC▸jx y y)) (aU (gV rv (aU d.ev bc) (sh br (by rw[bK,g.J];exact ei (aq Q (aF y))))) bc)) (O.mono (ka _)))) (.inl y)) f (cO.trans B0) c C (Y.trans A2)
end
section
variable{gv dX cx cF bO bt cj h:cT}
noncomputable def oz:List cT:=[.dH 0 [(1,.J 9),(2,.J 10),(3,.J 11),(4,.J 12)],.W [],.Z [],.W [],.W []]
noncomputable def wk:List cT:=[.dH 3 [(33,.J 14),(34,.J 15),(35,.J 16)],.W [],.W [],.W []]
theorem c_(P:cq B):dU B (n+1) 3 [.J 8] ([gv,dX,cx,cF,bO,bt,cj,h]++[.dH 0 []]) .bM ([gv,dX,cx,cF,bO,bt,cj,h]++oz):=by have L:=ke (B:=B) (n:=n) (nm:=1) (N:=[A (.J 8)]) (cd:=[]) (z:=[gv,dX,cx,cF,bO,bt,cj,h]++[.dH 0 []]) (gB bc (cW _)) (av (i:=0) y) y (P.m y) (by decide:0<100);have f:=ke (B:=B) (n:=n) (nm:=2) (N:=[A (.J 8)]) (cd:=[(1,.J 9)]) (z:=[gv,dX,cx,cF,bO,bt,cj,h]++[.dH 0 [(1,.J 9)],.W []]) sj (av (i:=0) y) y (P.m y) (by decide:1<100);have e:=ke (B:=B) (n:=n) (nm:=3) (N:=[A (.J 8)]) (cd:=[(1,.J 9),(2,.J 10)]) (z:=[gv,dX,cx,cF,bO,bt,cj,h]++[.dH 0 [(1,.J 9),(2,.J 10)],.W [],.Z []]) (gB bc (cW _)) (av (i:=0) y) y (P.m y) (by decide:2<100);have Z:=ke (B:=B) (n:=n) (nm:=4) (N:=[A (.J 8)]) (cd:=[(1,.J 9),(2,.J 10),(3,.J 11)]) (z:=[gv,dX,cx,cF,bO,bt,cj,h]++[.dH 0 [(1,.J 9),(2,.J 10),(3,.J 11)],.W [],.Z [],.W []]) (gB bc (cW _)) (av (i:=0) y) y (P.m y) (by decide:3<100);exact ep (P.b y) y (bv L (bv f (bv e (bv Z eW)))) (.inr ⟨y,y⟩)
theorem abX(P:cq B):dU B (n+1) 28 [.J 13] ([gv,dX,cx,cF,bO,bt,cj,h]++(oz++[.dH 3 []])) .bM ([gv,dX,cx,cF,bO,bt,cj,h]++(oz++wk)):=by have L:=ke (B:=B) (n:=n) (nm:=33) (N:=[A (.J 13)]) (cd:=[]) (z:=[gv,dX,cx,cF,bO,bt,cj,h]++(oz++[.dH 3 []])) (gB bc (cW _)) (av (i:=0) y) y (P.m y) (by decide:0<100);have f:=ke (B:=B) (n:=n) (nm:=34) (N:=[A (.J 13)]) (cd:=[(33,.J 14)]) (z:=[gv,dX,cx,cF,bO,bt,cj,h]++(oz++[.dH 3 [(33,.J 14)],.W []])) (gB bc (cW _)) (av (i:=0) y) y (P.m y) (by decide:1<100);have e:=ke (B:=B) (n:=n) (nm:=35) (N:=[A (.J 13)]) (cd:=[(33,.J 14),(34,.J 15)]) (z:=[gv,dX,cx,cF,bO,bt,cj,h]++(oz++[.dH 3 [(33,.J 14),(34,.J 15)],.W [],.W []])) (gB bc (cW _)) (av (i:=0) y) y (P.m y) (by decide:2<100);exact ep (P.b y) y (bv L (bv f (bv e eW))) (.inr ⟨y,y⟩)
noncomputable def Rx:List cT:=[.dH 4 [(39,.J 8),(40,.J 13),(19,.J 17),(41,.J 18),(17,.J 19),(33,.J 20),(42,.J 21)]]++(oz++(wk++[.W [],.W [],.Z [],.Z [],.W []]))
theorem t_(P:cq B):bW B (n+2) (.cS 4 []) N [gv,dX,cx,cF,bO,bt,cj] (.J 7) ([gv,dX,cx,cF,bO,bt,cj]++Rx):=by have Z:=ke (B:=B) (n:=n+1) (nm:=41) (N:=[A (.J 7)]) (cd:=[(39,.J 8),(40,.J 13),(19,.J 17)]) (z:=[gv,dX,cx,cF,bO,bt,cj,.dH 4 [(39,.J 8),(40,.J 13),(19,.J 17)]]++(oz++(wk++[.W []]))) (gB bc (cW _)) (av (i:=0) y) (k:=4) y (P.m y) (by decide:3<100);have Y:=ke (B:=B) (n:=n+1) (nm:=17) (N:=[A (.J 7)]) (cd:=[(39,.J 8),(40,.J 13),(19,.J 17),(41,.J 18)]) (z:=[gv,dX,cx,cF,bO,bt,cj,.dH 4 [(39,.J 8),(40,.J 13),(19,.J 17),(41,.J 18)]]++(oz++(wk++[.W [],.W []]))) sj (av (i:=0) y) (k:=4) y (P.m y) (by decide:4<100);have U:=ke (B:=B) (n:=n+1) (nm:=33) (N:=[A (.J 7)]) (cd:=[(39,.J 8),(40,.J 13),(19,.J 17),(41,.J 18),(17,.J 19)]) (z:=[gv,dX,cx,cF,bO,bt,cj,.dH 4 [(39,.J 8),(40,.J 13),(19,.J 17),(41,.J 18),(17,.J 19)]]++(oz++(wk++[.W [],.W [],.Z []]))) sj (av (i:=0) y) (k:=4) y (P.m y) (by decide:5<100);have s:=ke (B:=B) (n:=n+1) (nm:=42) (N:=[A (.J 7)]) (cd:=[(39,.J 8),(40,.J 13),(19,.J 17),(41,.J 18),(17,.J 19),(33,.J 20)]) (z:=[gv,dX,cx,cF,bO,bt,cj,.dH 4 [(39,.J 8),(40,.J 13),(19,.J 17),(41,.J 18),(17,.J 19),(33,.J 20)]]++(oz++(wk++[.W [],.W [],.Z [],.Z []]))) (gB bc (cW _)) (av (i:=0) y) (k:=4) y (P.m y) (by decide:6<100);exact yV bc (P.i (k:=4) y) (ep (P.b y) y (bv (ke (B:=B) (n:=n+1) (nm:=39) (N:=[A (.J 7)]) (cd:=[]) (z:=[gv,dX,cx,cF,bO,bt,cj,.dH 4 []]) (yV bc (P.i (k:=0) y) (c_ (B:=B) (n:=n) (gv:=gv) (dX:=dX) (cx:=cx) (cF:=cF) (bO:=bO) (bt:=bt) (cj:=cj) (h:=.dH 4 []) P)) (av (i:=0) y) (k:=4) y (P.m y) (by decide:0<100)) (bv (ke (B:=B) (n:=n+1) (nm:=40) (N:=[A (.J 7)]) (cd:=[(39,.J 8)]) (z:=[gv,dX,cx,cF,bO,bt,cj,.dH 4 [(39,.J 8)]]++oz) (yV bc (P.i (k:=3) y) (abX (B:=B) (n:=n) (gv:=gv) (dX:=dX) (cx:=cx) (cF:=cF) (bO:=bO) (bt:=bt) (cj:=cj) (h:=.dH 4 [(39,.J 8)]) P)) (av (i:=0) y) (k:=4) y (P.m y) (by decide:1<100)) (bv (ke (B:=B) (n:=n+1) (nm:=19) (N:=[A (.J 7)]) (cd:=[(39,.J 8),(40,.J 13)]) (z:=[gv,dX,cx,cF,bO,bt,cj,.dH 4 [(39,.J 8),(40,.J 13)]]++(oz++wk)) (gB bc (cW _)) (av (i:=0) y) (k:=4) y (P.m y) (by decide:2<100)) (bv Z (bv Y (bv U (bv s eW))))))) (.inr ⟨y,y⟩))
theorem yh{p:Prop}(h:fG [] id c):p:=aG h.1 (mO _)
theorem Kv{n:Nat}{x:bl}{p:Prop}(h:([]:List bl)[n]?=A x):p:=aG (gQ h) (mO _)
theorem O!:hv (·<7) [] (λz z=>0) ([gv,dX,cx,cF,bO,bt,cj]++Rx)where
 hD:={du:=⟨y,y,y⟩,fF:=⟨cW _,λz z=>cu _,λz z=>y,[],y,y,λi j h=>aG (gQ h) (mO _)⟩,lz:=y,hR:=λn x=>Kv,eJ:=λa h=>⟨.inl h,kH h (by decide:7<22)⟩,gy:=λz z=>yh,inj:=λz z z z h=>yh h,nP:=⟨[],y,y,λz=>yh⟩,qx:=λz=>yh,vB:=⟨[],y,⟨λz=>afk,cu _,λz=>yh⟩⟩,mW:=λz=>yh,lU:=⟨[],y,⟨cu _,λz=>afk,λz z h=>(by exact aG h.symm (gJ _)),λn x=>Kv⟩⟩,qu:=⟨[],y,y⟩,vQ:=⟨[],y,cu _⟩,merged:=⟨[],y,cu _⟩,lZ:=y,se:=λz=>afk,nf:=λi j h=>aG h (mO _)}
 px:=⟨oY,⟨[],y,⟨λz=>afk,cu _,λn x=>Kv,λz z z=>y⟩⟩,⟨[],y,y⟩,⟨[],y,y⟩⟩
 td a h q:=aG (kH q.1 h) (by decide)
end
section
variable{k lim:Nat}
theorem Co{bw:Type}{g f:bw->V}{aS:List bw}{ax:bk}(X:ho N dc=aj::ax)(W:hY B n oH e N z (aS.map g) ck ah)(Y:D aS<=cZ)(o:∀l,ck (ah++[.W l]))(Z:∀x∈aS,∀l,bW B n bP (A (g x)::ax) (ah++[.W l]) (f x) (ah++[.W l])):oS B n (.W 0) oH e [] (.di bP) dc N z (.J (D ah)) (ah++[.W (aS.map f)]):=by
 have s:∀(l dB:List V),(ah++[cT.W l]).set (D ah) (.W dB)=ah++[.W dB]:=λl dB=>by
  rw[MW _ _ (cu _),kb];rfl
 refine bp λP=>Gj (f:=f) (bP:=bP) (ao:=λO=>∃l,O=ah++[.W l]) X W Y (λz h=>h.elim λl h=>h▸o l) ⟨[],y⟩ (λz l h=>h.elim λdB h=>⟨l,by rw[h,s]⟩) (λx U z l h aE k=>h.elim λdB h=>?_) λO ab h bo=>h.elim λl h=>?_
 ·obtain rfl:=h;exact k _ (Z x U dB) ⟨dB,y⟩ aE
 ·obtain rfl:=h;rw[cT.W.inj (dk (dt.symm.trans bo))]at ab;exact P ab
theorem t5(a b:Nat):V.X (Int.fdiv (a:Int) (b:Int))=am (a/b):=bA V.X (Int.ofNat_fdiv a b).symm
theorem t6(a b:Nat):V.X (Int.fmod (a:Int) (b:Int))=am (a %b):=bA V.X (Int.ofNat_fmod a b).symm
theorem Hu(M:j<=cZ)(aR:0<j):gw B (oq .FloorDiv) (am i) (am j) z (am (i/j)) z:=t5 i j▸Xu (lT M) (Mv.mpr (fU aR))
theorem Xx(aR:0<j):gw B (oq .Mod) (am i) (am j) z (am (i %j)) z:=t6 i j▸Hw (Mv.mpr (fU aR))
structure fV(cm:List Int)(k:Nat)(z:aA):Prop where
 c:z[5]?=A (.W (cm.map .X))
 p:z[6]?=A (.W [.J 5,am k])
 pos:0<D cm
 le:D cm<=1000
theorem fV.cz(h:fV cm k z)(q:aM (·<7) z ah):fV cm k ah:=⟨q.get _ _ (aF y) h.c,q.get _ _ (aF y) h.p,h.pos,h.le⟩
theorem l5(ba:Int)(Z:0<lim):∃H,H<lim/\V.X (ba.fmod lim)=am H:=by have ab:(0:Int)<lim:=lH.mpr Z;rw[Int.fmod_eq_emod_of_nonneg _ (sp lim)];have o:=VW ba (Wb ab);exact⟨(ba %lim).toNat,(MA o).mpr (VV ba ab),bA V.X (MB o).symm⟩
noncomputable def SZ(lim a b:Nat):bk:=[A (.J 6),A (am lim),A (am a),A (am b)]
theorem Te{x:V}(I:z[6]?=A (.W [.J 5,x]))(aR:N[0]?=A (A (.J 6))):bW B n (.Z (.J 0) (.X 0)) N z (.J 5) z:=fo (av aR) cE (.W I) (nB I y y)
theorem KQ{x:V}(I:z[6]?=A (.W [.J 5,x]))(aR:N[0]?=A (A (.J 6))):bW B n (.Z (.J 0) (.X 1)) N z x z:=fo (av aR) cE (.W I) (nB I y y)
theorem EV(P:cq B)(h:fV cm k z)(X:k<=1000)(Z:0<lim)(d:∀H,H<lim->dU B (n+1) 50 [.J 6,am lim] z (am H) (z.set 6 (.W [.J 5,am (k+1)]))->False):False:=by have c:=hg (aq h.le (aF y));have p:=km (Te (B:=B) (n:=n) (N:=[A (.J 6),A (am lim),aj,aj]) h.p y) h.c (by rw[bK];exact c);rw[bK]at p;have E:=fL (x:=.W [.J 5,am (k+1)]) h.c (by decide:6≠5);have g:k %D cm<D cm:=wU _ h.pos;have bG:=av (B:=B) (n:=n) (i:=2) (N:=SZ lim (k/D cm) (k %D cm)) (z:=z.set 6 (.W [.J 5,am (k+1)])) y;have dG:=en (ft:=.Mod) (en (ft:=.Add) (en (ft:=.Add) (fo (Te (gR (x:=.W [.J 5,am (k+1)]) h.p) y) (av (i:=3) y) (.W E) (nB E (lT (aq (dK g) c)) (PK g))) (en (ft:=.FloorDiv) (en (ft:=.Mult) (en (ft:=.Mult) (cE (i:=5)) bG (Hy (i:=5) (j:=k/D cm) (aF y))) (en (ft:=.Add) bG (cE (i:=1)) (sE (j:=1))) (Hy (i:=5*(k/D cm)) (j:=k/D cm+1) (er (nx 5 (aq (Nat.div_le_self _ _) X)) (aF y)))) (cE (i:=2)) (Hu (j:=2) (aF y) (aF y))) zE) bG zE) (av (i:=1) y) (Hw (j:=(lim:Int)) (Mv.mpr (fU Z)));refine(l5 (cm.getD (k %D cm) 0+((5*(k/D cm)*(k/D cm+1)/2:Nat):Int)+((k/D cm:Nat):Int)) Z).elim λH q=>d H q.1 ?_;rw[q.2]at dG;exact ep (P.b y) y (bv (rt (B:=B) (n:=n) (i:=2) (j:=3) (N:=[A (.J 6),A (am lim),aj,aj]) (eL (aU (en (KQ h.p y) p (Hu (i:=k) c h.pos)) (aU (en (KQ h.p y) p (Xx (i:=k) h.pos)) bc)) hq) (by decide)) (bv (sT (B:=B) (n:=n) (N:=SZ lim (k/D cm) (k %D cm)) (e:=.cb .Add (.Z (.J 0) (.X 1)) (.X 1)) (en (KQ h.p y) cE (sE (i:=k) (j:=1))) (av (i:=0) y) (cE (i:=1)) (Mq (B:=B) (j:=1) (H:=am (k+1)) h.p (by decide:1<2) (by decide:2<=cZ))) (fy dG))) (.inl y)
theorem fV.X(h:fV cm k z):fV cm (k+1) (z.set 6 (.W [.J 5,am (k+1)])):=⟨fL h.c (by decide),gR h.p,h.pos,h.le⟩
theorem fV.dS(h:fV cm k z):fV cm k (z++iW):=⟨eQ h.c,eQ h.p,h.pos,h.le⟩
def Pr(B:bT)(G eY:Nat)(cm:List Int)(k:Nat)(z:aA):Prop:=(∀(t:T) (O:aA) (bI:Nat),dU B G 51 [.J 6,am eY] z t.J O->fV cm bI O->bI+1<=k+2^(eY+1)->aM (·≠6) z O->t.co<=eY->t.size+1<=2^(eY+1)->False)->False
theorem a0{w:Nat}(m:w<2):nJ (qr ("ab":bj)) (w:Int)=A (ce w):=by
 cases w with
 |zero=>rfl
 |succ w=>cases w with
  |zero=>rfl
  |succ w=>exact aG m (fP.mpr (gF 2 w))
theorem k7{w:Nat}(m:w<5)(ac:2<=w):nJ (qr ("fgh":bj)) ((w-2:Nat):Int)=A (ce w):=By (p:=λw=>2<=w->nJ (qr ("fgh":bj)) ((w-2:Nat):Int)=A (ce w)) (λh=>aG h (by decide)) (λh=>aG h (by decide)) (λx=>y) (λx=>y) (λx=>y) m ac
theorem b0{w:Nat}(m:w<5)(ac:2<=w):1+w/4=dN w:=By (p:=λw=>2<=w->1+w/4=dN w) (λh=>aG h (by decide)) (λh=>aG h (by decide)) (λx=>y) (λx=>y) (λx=>y) m ac
theorem b?{w:Nat}(m:w<2):dN w=0:=By (p:=λw=>w<2->dN w=0) (λx=>y) (λx=>y) (λh=>aG h (by decide)) (λh=>aG h (by decide)) (λh=>aG h (by decide)) (kH m (by decide)) m
noncomputable def rZ(eY:Nat)(C:Option V):bk:=[A (.J 6),A (am eY),C]
theorem Ut(P:cq B)(h:fV cm k z)(X:k<=1000)(d:∀H,H<5->(eY=0->H<2)->eM B (n+2) (.ea 2 (.fg 50 [(.J 0),(.fc (.bH .Gt (.J 1) (.X 0)) (.X 5) (.X 2))])) (rZ eY aj) z .X (rZ eY (A (am H))) (z.set 6 (.W [.J 5,am (k+1)]))->False):False:=by
 have br:=av (B:=B) (n:=n+2) (i:=1) (N:=rZ eY aj) (z:=z) y;by_cases F:0<eY
 ·exact EV (n:=n+1) (lim:=5) P h X (aF y) λH Z c=>d H Z (λq=>aG (q▸F) (ic 0)) (fX (jK (aU (av y) (aU (Mi (DG br (cE (i:=0)) (j:=0) F) (cE (i:=5))) bc)) c))
 ·exact EV (n:=n+1) (lim:=2) P h X (aF y) λH Z c=>d H (ef Z (aF y)) (λx=>Z) (fX (jK (aU (av y) (aU (Gu (xv br (cE (i:=0)) (j:=0) F) (cE (i:=2))) bc)) c))
noncomputable def Us:S:=.ea 2 (.fg 50 [(.J 0),(.fc (.bH .Gt (.J 1) (.X 0)) (.X 5) (.X 2))])
theorem Uu(P:cq B){H:Nat}(Z:H<2)(L:eM B (n+2) Us (rZ eY aj) z .X (rZ eY (A (am H))) ah):dU B (n+3) 51 [.J 6,am eY] z (gZ H []).J ah:=by have bG:=av (B:=B) (n:=n+2) (i:=2) (N:=rZ eY (A (am H))) (z:=ah) y;have dG:=eL (aU (fo sk bG .cG (Hv (lT (ei (aq (dK Z) (aF y)))) (a0 Z))) bc) hL;rw[show V.Y [ce H]=(gZ H []).J from(ED (x:=(H,[])) (ai:=[]) (kH Z (aF y)) (b? Z).symm).symm]at dG;exact ep (P.b y) y (bv L (lE (ku (DH bG (cE (i:=2)) (j:=2) Z) (fy dG)) nj)) (.inl y)
theorem Rc{a:Nat}(ab:1<=a)(ac:a<=2)(F:1<=d)(h:q+a<=k+1+a*d):q+1<=k+2*d:=by
 cases a with
 |zero=>exact aG ab (by decide)
 |succ a=>cases a with
  |zero=>rw[hu,zz,jZ]at h;exact aq h (by rw[Di,←jn];exact gE F _)
  |succ a=>cases a with
   |zero=>rw[jZ k 1]at h;exact lc h
   |succ a=>exact aG ac (kI.mpr (gF 3 a))
theorem l!{a:Nat}(ac:a<=1)(F:1<=d)(h:q+a<=k+1+a*d):q+d<=k+2*d:=by
 rw[Di,←jn];refine iO ?_ d;cases a with
 |zero=>rw[Nm]at h;exact aq h (gE F k)
 |succ a=>cases a with
  |zero=>rw[hu,zz,jZ]at h;exact lc h
  |succ a=>exact aG ac (kI.mpr (gF 2 a))
theorem Uj{t:T}:eS (ai++[t])=eS ai+t.size:=by show(cV (ai++[t])).length=_;rw[rS,cp,show cV [t]=t.Y from eF _];rfl
theorem T.t2{t:T}(h:∀s∈t.X,s.co<=d):t.co<=d+1:=by
 cases t with
 |l k=>exact cW _
 |u k t=>exact dn (h t (.head _))
 |b t s=>exact dn (Nat.max_le.mpr ⟨h t (.head _),h s (.tail _ (.head _))⟩)
def Ax(cm:List Int)(k d a eY:Nat)(aL:aA)(r:List Nat)(l:List V)(z:aA):Prop:=∀{P:Prop},(∀{ai:List T} {q:Nat},l=ai.map T.J->D ai+D r=a->(∀t∈ai,t.co<=eY)->eS ai+D ai<=D ai*d->fV cm q z->q+D ai<=k+1+D ai*d->aM (·≠6) aL z->P)->P
theorem Ax.mk{cm:List Int}{k a:Nat}{aL:aA}{r:List Nat}{z:aA}(h:l=ai.map T.J)(Y:D ai+D r=a)(X:(∀t∈ai,t.co<=eY))(J:eS ai+D ai<=D ai*d)(W:fV cm q z)(U:q+D ai<=k+1+D ai*d)(j:aM (·≠6) aL z):Ax cm k d a eY aL r l z:=λZ=>Z h Y X J W U j
theorem aby(P:cq B){H:Nat}(F:∀(k:Nat) (z:aA),fV cm k z->k+2^(eY+1)<=900->Pr B (eY+3) eY cm k z)(W:H<5)(Q:2<=H)(ac:fV cm (k+1) ah)(h:aM (·≠6) z ah)(A7:eM B (eY+3) Us (rZ (eY+1) aj) z .X (rZ (eY+1) (A (am H))) ah)(X:k+2*2^(eY+1)<=900)(b:∀(t:T) (O:aA) (bI:Nat),dU B (eY+4) 51 [.J 6,am (eY+1)] z t.J O->fV cm bI O->bI+1<=k+2*2^(eY+1)->aM (·≠6) z O->t.co<=eY+1->t.size+1<=2*2^(eY+1)->False):False:=by
 have R:1<=2^(eY+1):=Nh;generalize A4:2^(eY+1)=d at F X b R;have Z:=kv H;have C:=b0 W Q;have E:1<=dN H:=C▸dP 1 _;have bG:=av (B:=B) (n:=eY+3) (i:=2) (N:=rZ (eY+1) (A (am H))) (z:=ah) y;have I:D ah≠6:=fU (fA ac.p);refine sg (B:=B) (n:=eY+3) (dc:=[aj,A 1,A 0]) (ax:=[A (am (eY+1)),A (.J 6)]) (N:=rZ (eY+1) (A (am H))) (z:=ah) (k:=.bE) (e:=.bR "range" [(.cb .Add (.X 1) (.cb .FloorDiv (.J 2) (.X 4)))]) (bP:=.fg 51 [(.J 2),(.cb .Sub (.J 1) (.X 1))]) (aS:=fz (dN H)) (g:=am)
  (ao:=Ax cm k d (dN H) eY z) y (xt (C▸en (cE (i:=1)) (en bG (cE (i:=4)) (Hu (i:=H) (j:=4) (aF y) (aF y))) (sE (i:=1) (j:=H/4))) (ei (aq Z (aF y)))) (by rw[iA];exact ei (aq Z (aF y))) (λa a a a=>trivial)
  (Ax.mk (ai:=[]) y ((hu _).trans (iA ..)) (λa=>afk) (cW _) ac.dS (dP _ _) h.dS) (λx r l A9 j aE bI=>j λ{ai q} o bq p U M Y u=>?_) λcD l A2 j br=>j λ{ai q} o bq p U M Y u=>?_
 ·have A5:D ai<=1:=lc (aq (dn (dP (D ai) (D r))) (aq (fi bq) Z));refine F q A9 M (aq (l! A5 R Y) X) λt B0 A6 A3 c w f A8 A1=>?_;rw[A4]at w A1;refine bI B0 t.J (jK (aU (av y) (aU (en (av y) cE (kp (i:=eY+1) (j:=1) (gF 1 eY))) bc)) A3) (f.get _ _ I aE)<|Ax.mk (ai:=ai++[t]) (q:=A6) (by rw[o,eI];rfl) ((cp ..)▸(mi (D ai) (D r)).trans bq) (λs L=>(ew.mp L).elim (p s) λL=>cB.mp L▸A8) ?_ ⟨fL c.c (fU (fA ac.c)),fL c.p I,c.pos,c.le⟩ ?_ ((u.trans f).set h.le)
  ·rw[Uj,cp,WW,Hl];exact ia U (by rw[zl,zz];exact A1)
  ·rw[cp,WW,zl,zz,hN (D ai),←jn,←jn];exact aq (iO w _) (by rw[jZ];exact iO Y d)
 ·have bq:D ai=dN H:=bq;obtain rfl:=o;have A0:(ai.map T.J).length<=2:=by rw[bK,bq];exact Z
  have ft:=eL (aU (fo sk (en bG (cE (i:=2)) (kp (j:=2) Q)) .cG (Hv (lT (ei (aq (mP _ _) (aq (dK W) (aF y))))) (k7 W Q))) bc) hL;have dG:=en (ft:=.Add) ft (gV rv (aU A2.ev bc) (sh br (ei (aq A0 (aF y))))) (oj (l:=[ce H]) (ei (aq (gE A0 1) (aF y))));rw[show V.Y ([ce H]++ai.map T.J)=(gZ H ai).J from(ED (x:=(H,[])) W bq).symm]at dG;have G:=rQ W bq;rw[bq]at U Y;exact b (gZ H ai) cD q (ep (P.b y) y (bv A7 (bv (hQ (As bG (cE (i:=2)) (j:=2) (fP.mpr Q))) (fy dG))) (.inl y)) M (Rc E Z R Y) u (T.t2 (by rw[G.2];exact p))
   (by rw[T.size_eq,G.2];exact aq (Rc (k:=0) (q:=eS ai+1) E Z R (by rw[jZ,hN (0+1)];exact dn U)) (fi (hu _)))
theorem w7(P:cq B)(eY:Nat):∀(k:Nat) (z:aA),fV cm k z->k+2^(eY+1)<=900->Pr B (eY+3) eY cm k z:=by
 induction eY with
 |zero=>exactλk z h X d=>Ut (n:=0) (eY:=0) P h (aq (dP _ _) (aq X (aF y))) λH Y Z L=>d (gZ H []) _ (k+1) (Uu P (Z y) L) h.X (cu _) (aM.dd.gN λh=>h y) (cu _) (cu _)
 |succ eY F=>
  intro k z h X d;have W:2^(eY+1+1)=2*2^(eY+1):=Ni;rw[W]at X d;have ac:2<=2*2^(eY+1):=nx 2 Nh;refine Ut (n:=eY+1) (eY:=eY+1) P h (aq (dP _ _) (aq X (aF y))) λH Y x L=>(Dc H 2).elim (λZ=>?_) λZ=>?_
  ·exact d (gZ H []) _ (k+1) (Uu P Z L) h.X (gE ac k) (aM.dd.gN λh=>h y) (cW _) ac
  ·exact aby P F Y Z h.X (aM.dd.gN λh=>h y) L X d
end
section
variable{k:Nat} {t:T}
theorem T.lD{t s:T}(h:t.J=s.J):t=s:=by
 revert s;refine T.nc (P:=λt=>∀{s:T},t.J=s.J->t=s) (λt F s h=>?_) t;rw[t.lC,s.lC]at h;have h:=fH (V.Y.inj h);refine T.ext (tj t.pK s.pK h.1) ?_;have:∀(a b:List T),(∀x∈a,x∈t.X)->a.map T.J=b.map T.J->a=b:=λa=>by
  induction a with
  |nil=>exactλb c e=>(zo.mp e.symm).symm
  |cons x a i=>
   intro b Z e;cases b with
   |nil=>exact aG e (ju _ _)
   |cons Q b=>rw[F x (Z x (.head _)) (fH e).1,i b (λba j=>Z ba (.tail _ j)) (fH e).2]
 exact this _ _ (λc h=>h) h.2
noncomputable def oG(U:List T)(t:T):Bool:=(U.map T.J).any λQ=>V.dE Q t.J
theorem u3:oG U t=ak↔t∈U:=⟨λh=>(GS.mp h).elim λQ q=>(bJ.mp q.1).elim λs r=>T.lD (r.2.trans (V.fE.mp q.2))▸r.1,λh=>GS.mpr ⟨_,gd h,V.ms⟩⟩
theorem Em:(!oG U t)=ak↔t∉U:=by rw[qM,←u3,Vi]
structure ll(ai U:List T):Prop where
 aa:U.Nodup
 mem:∀s,s∈U↔s∈ai.flatMap T.eR
theorem ll.J(bi:ll ai U):D U<=eS ai:=FE ai▸bi.aa.length_le_of_subset λs Z=>(bi.mem s).mp Z
theorem ll.snoc(bi:ll pre U)(X:ll t.X mK):ll (pre++[t]) ((U++mK.filter λs=>!oG U s)++if !oG (U++mK.filter λs=>!oG U s) t then[t]else[]):=by
 have j:(U++mK.filter λs=>!oG U s).Nodup:=oX.mpr ⟨bi.aa,X.aa.filter _,λx Z Q Y e=>Em.mp (jw.mp Y).2 (e▸Z)⟩;have u:∀s,s∈U++mK.filter (λs=>!oG U s)↔s∈U\/s∈mK:=λs=>by
  rw[ew,jw];exact⟨λh=>h.imp_right And.left,λh=>h.elim .inl λh=>adc .inl λq:s∉U=>.inr ⟨h,Em.mpr q⟩⟩
 generalize(U++mK.filter λs=>!oG U s)=E at j u;have R:∀s,s∈(pre++[t]).flatMap T.eR↔s∈U\/s∈mK\/s=t:=λs=>by
  rw[wH,ew,←bi.mem,List.flatMap_singleton,t.BO,ee,←X.mem,or_comm (a:=s=t)]
 by_cases h:t∈E
 ·rw[bV λq=>Em.mp q h,eF];exact⟨j,λs=>(u s).trans (Iff.trans ⟨λq=>q.imp_right .inl,λq=>q.elim .inl λq=>q.elim .inr λe=>(u s).mp (e▸h)⟩ (R s).symm)⟩
 ·rw[cg (Em.mpr h)];refine⟨oX.mpr ⟨j,jm ..,λx Z Q Y e=>h (cB.mp Y▸e▸Z)⟩,λs=>?_⟩;rw[R,ew,u,cB,or_assoc]
noncomputable def wn(H:V)(p:Nat)(C:Option V):bk:=[A H,A (.J p),C]
def sS(H:V)(aL:aA)(pre:List T)(N:bk)(z:aA):Prop:=∀{P:Prop},(∀{U:List T} {p:Nat} {C:Option V},N=wn H p C->z[p]?=A (.W (U.map T.J))->ll pre U->aM cI aL z->D aL<=p->P)->P
theorem sS.mk{H:V}{aL:aA}{pre:List T}{N:bk}{z:aA}{U:List T}{p:Nat}{C:Option V}(h:N=wn H p C)(Y:z[p]?=A (.W (U.map T.J)))(X:ll pre U)(J:aM cI aL z)(W:D aL<=p):sS H aL pre N z:=λZ=>Z h Y X J W
def IF(B:bT)(G:Nat)(H:V)(ai:List T)(z:aA):Prop:=(∀(O:aA) (U:List T) (p:Nat),dU B G 52 [H] z (.J p) O->aM cI z O->O[p]?=A (.W (U.map T.J))->ll ai U->D z<=p->False)->False
theorem ET(h:∀t∈U,t.co+1<=99):V.fu 100 (U.map T.J)=ak:=jS λH Z=>(bJ.mp Z).elim λt q=>q.2▸t.hF (aq (h t q.1) (aF y))
theorem aaW:∀(t:T),∀s∈t.eR,s.co<=t.co:=T.nc λt F s Z=>by rw[t.BO]at Z;exact(ee.mp Z).elim (λe=>e▸cu _) λZ=>(gc.mp Z).elim λu q=>aq (F u q.1 s q.2) (jo (T.rO q.1))
theorem ll.co(bi:ll ai U){h:Nat}(J:∀t∈ai,t.co<=h):∀s∈U,s.co<=h:=λs Z=>(gc.mp ((bi.mem s).mp Z)).elim λt q=>aq (aaW t s q.2) (J t q.1)
theorem KF{b:Bool}:(if b=ak then(1:Int)else 0)=0\/(if b=ak then(1:Int)else 0)=1:=by obtain⟨⟩:=b;exact .inl y;exact .inr y
theorem abv{b:Bool}(E:List T):E.map T.J++(if(if b=ak then(1:Int)else 0)=0 then[]else[t.J])=(E++if b=ak then[t]else[]).map T.J:=by rw[eI];obtain⟨⟩:=b<;>rfl
theorem SN{b:Bool}{x:V}:(if(if b=ak then(1:Int)else 0)=0 then[]else[x]).length<=1:=by
 obtain⟨⟩:=b
 ·exact cW 1
 ·exact cu 1
theorem Eo:(ce t.op::t.X.map T.J).length<=cZ:=by rw[iz,bK,t.lu];exact ei (aq (dn (kv _)) (aF y))
noncomputable def LC:List S:=[.ea 1 (.cb .Add (.J 1) (.dy (.W 0) .bE (.fg 52 [(.eb (.J 2) (.X 1) .bM)]) [(.bH .NotIn (.J 0) (.J 1))] (.di (.J 0)) [aj,A 1])),.ea 1 (.cb .Add (.J 1) (.cb .Mult (.W [(.J 2)]) (.bR "int" [(.bH .NotIn (.J 2) (.J 1))])))]
theorem aco(P:cq B){h:Nat}(A6:∀(ai:List T) (H:V) (z:aA),(∀t∈ai,t.co<h)->h<=50->eS ai<=1000->ro z H (ai.map T.J)->IF B (h+1) H ai z)(A0:h<50)(R:t.co<=h)(Z:eS pre+t.size<=1000)(A5:∀t∈pre,t.co<=h)(ao:sS H aL pre N z)(A7:∀eg aV,gb B (h+1) LC (N.set 2 (A t.J)) z .X eg aV->sS H aL (pre++[t]) eg aV->False):False:=ao λ{U p C} e ab bi aY br=>by
 obtain rfl:=e;have F:=bi.co A5;have A1:eS t.X<=1000:=jo (aq (fi t.size_eq.symm) (aq (gF _ _) Z));have b:∀{s:T},s.co<=h->s.co+1<=99:=λq=>aq (dn (aq q (dK A0))) (aF y);refine A6 t.X (.Y (t.X.map T.J)) z (λs Z=>ef (T.rO Z) R) (dK A0) A1 .Y λaV mK q c L ac j bG=>?_;have x:=j.co (h:=h) λs Z=>aq (jo (T.rO Z)) R;have A2:=aq j.J A1;have A3:=L.at ab;refine Gr (B:=B) (n:=h+1) (e:=.fg 52 [(.eb (.J 2) (.X 1) .bM)]) (bP:=.J 0) (d:=.bH .NotIn (.J 0) (.J 1)) (N:=wn H p (A t.J)) (z:=z) (k:=.bE) (dc:=[aj,A 1]) (ax:=[A (.J p)]) (aS:=mK) (g:=T.J) (f:=T.J) (p:=λs=>!oG U s) y
  (ff (jK (aU (lG (B:=B) (n:=h+1) (k:=1) (l:=ce t.op::t.X.map T.J) (av (i:=2) (N:=wn H p (A t.J)) (z:=z) (t.lC▸y)) (aF y) Eo) bc) c) (gD ac)) (hg (aq A2 (aF y))) (λz k=>k.at ac) (λs Z O k=>⟨hz (av y) (av y) (Nq (k.at A3) (s.hF (aq (b (x s Z)) (aF y))) (ET λs Z=>b (F s Z))),av y⟩) λcD A4 I bo=>?_
 have a:=bi.snoc (t:=t) j;have w:∀s∈U++mK.filter λs=>!oG U s,s.co<=h:=λs Z=>(ew.mp Z).elim (F s) λZ=>x s (jw.mp Z).1;have u:(U++mK.filter λs=>!oG U s).length<=2000:=(cp ..)▸ia (aq bi.J (aq (dP _ _) Z)) (aq (zj _ _) A2);have Y:=fX (i:=1) (en (av (B:=B) (n:=h+1) (i:=1) (N:=wn H p (A t.J)) y) A4 (sD (I.at A3) bo (by rw[←cp,←eI,bK];exact hg (aq u (aF y)))));rw[←eI]at Y;generalize(U++mK.filter λs=>!oG U s)=E at a w u Y;have X:=dt (z:=cD) (C:=.W (E.map T.J));have M:aM cI z (cD++[.W (E.map T.J)]):=(L.trans I).dS;have A9:=(L.trans I).le;generalize cD++[.W (E.map T.J)]=A8 at Y X M;have r:=fX (i:=1) (en (av (B:=B) (n:=h+1) (i:=1) (N:=wn H (D cD) (A t.J)) (z:=A8) y) (en (gB (aU (av (i:=2) y) bc) hL) (gV DS (aU (yU (av (i:=2) y) (av (i:=1) y) (Nq (eQ X) (t.hF (G:=100) (aq (b R) (aF y))) (ET λs Z=>b (w s Z)))) bc) Gg) (Hx dt KF hL)) (sD (eQ (eQ X)) dt (hg (by rw[bK];exact aq (ia u SN) (aF y)))));rw[show((E.map T.J).any λQ=>V.dE Q t.J)=oG E t from y,abv E]at r;exact A7 _ _ (bv Y (bv r eW)) (sS.mk y dt a ((aY.trans M).dS.dS.dS) (aq (aq aY.le M.dS.dS.le) (cu _)))
theorem UL(P:cq B)(X:ro z H (ai.map T.J))(Q:∀(pre:List T) (t:T) (r:List T) (N:bk) (ah:aA),pre++t::r=ai->sS H z pre N ah->(∀eg aV,gb B n LC (N.set 2 (A t.J)) ah .X eg aV->sS H z (pre++[t]) eg aV->False)->False):IF B (n+1) H ai z:=λd=>by
 have Z:∀ck,hY B n .bE (.J 0) (wn H (D z) aj) (z++[.W []]) (ai.map T.J) ck (z++[.W []])->(∀O,aM cI z O->ck O)->False:=λck R o=>
  ox (i:=2) (b:=LC) (ao:=sS H z) R (λp N ah ao=>o _ (ao λx x x k x=>k)) (sS.mk y dt ⟨oY,λs=>zb⟩ aM.dd.dS (cu _)) Q λbY O f ao=>ao λe ab bi aY br=>
   d O _ _ (ep (P.b y) y (bv (fX (i:=1) (N:=[A H,aj,aj]) (gB bc (cW _))) (bv f (fy (e▸av y)))) (.inl y)) aY ab bi br
 cases X with
 |Y=>exact Z _ (ff (av y) qU) λx x=>trivial
 |W h=>exact Z _ (ff (av y) (gD (eQ h))) λx k=>k.at h
theorem Ui{r:List T}:eS (pre++t::r)=eS pre+(t.size+eS r):=by show(cV (pre++t::r)).length=_;rw[rS,cp];exact bA _ ob
theorem x'(P:cq B)(h:Nat):∀(ai:List T) (H:V) (z:aA),(∀t∈ai,t.co<h)->h<=50->eS ai<=1000->ro z H (ai.map T.J)->IF B (h+1) H ai z:=by
 induction h with
 |zero=>exactλai H z m x x Y=>UL P Y λpre t r x x e x=>aG (m t (kC e)) (mO _)
 |succ h F=>intro ai H z m X Z Y;refine UL P Y λpre t r x x e ao=>?_;obtain rfl:=e;exact aco P F X (hl (m t (jl _ (.head _)))) (aq (gE (dP t.size (eS r)) _) (Ui (pre:=pre)▸Z)) (λs Z=>hl (m s (iZ _ Z))) ao
end
section
variable{k:Nat} {t:T}
theorem S'{dX cx:cT}{N:bk}(aR:N[0]?=A (A (.J 0)))(r:D l<=cZ):bW B n (.cb .Mult (.W [(.X 0)]) (.bR "int" [(.bH .Eq (.bR "len" [(.J 0)]) (.X 0))])) N [.arg l,dX,cx] (.J 4) [.arg l,dX,cx,.W [.X 0],.W (if(if dV (D l=0)=ak then(1:Int)else 0)=0 then[]else[.X 0])]:=en (gB (aU cE bc) hL) (gV DS (aU (yU (gV (B:=B) (n:=n) (N:=N) (z:=[.arg l,dX,cx,.W [.X 0]]) AE (aU (av aR) bc) (yQ (.arg (a:=0) y) r)) cE (zF (j:=0))) bc) Gg) (Hx (p:=3) y KF hL)
theorem w3(P:cq B)(Y:D is<=1000)(d:∀(dX cx cF bO bt:cT) (cm:List Int),dU B (n+1) 49 [.J 0] [.arg (is.map .X)] (.J 6) [.arg (is.map .X),dX,cx,cF,bO,bt,.W [.J 5,am 0]]->fV cm 0 [.arg (is.map .X),dX,cx,cF,bO,bt,.W [.J 5,am 0]]->False):False:=by
 have r:(is.map V.X).length<=cZ:=gu (hg (aq Y (aF y)));have fa:=wt (B:=B) (n:=n) (N:=[A (.J 0)]) (z:=[.arg (is.map .X)]) (av (i:=0) y) tD (cE (i:=40)) (λa=>⟨y,y⟩) afh (.arg y) (ZI y .bM (.X (aF y)) r);rw[show tp (is.map V.X) aj (A 40)=(is.take 40).map .X from uW.symm]at fa;have w:(is.take 40).length<=999:=aq (Hg _ _) (aF y);have aR:is.take 40=[]->is=[]:=λh=>by cases is with
  |nil=>rfl
  |cons=>exact aG h (ju _ _)
 generalize is.take 40=Z at fa w aR;have b:=gB (aU (en (Co (B:=B) (n:=n) (dc:=[aj]) (ax:=[]) (N:=[A (.J 0)]) (g:=V.X) (f:=λi=>.X (i.fmod 1000003)) (aS:=Z) (bP:=.cb .Mod (.bR "int" [(.J 0)]) (.X 1000003)) y (ff fa (gD y)) (hg (aq w (aF y))) (λl=>y) λi a l=>en (gV DS (aU (av y) bc) Vp) cE (Hw (by decide))).ev (S' (B:=B) (n:=n) (l:=is.map .X) (dX:=.W (Z.map .X)) (cx:=.W (Z.map λi=>.X (i.fmod 1000003))) (N:=[A (.J 0)]) y r) (sD (p:=2) (q:=4) y y (hg (by rw[bK];exact aq (ia w (SN (x:=.X 0))) (aF y))))) (aU (cE (i:=0)) bc)) hq;have e:(Z.map λi=>V.X (i.fmod 1000003))++(if(if dV ((is.map V.X).length=0)=ak then(1:Int)else 0)=0 then[]else[V.X 0])=(Z.map (λi:Int=>i.fmod 1000003)++if is=[]then[0]else[]).map V.X:=by
  rw[eI,ed];obtain⟨⟩:=is<;>rfl
 rw[e]at b;refine d _ _ _ _ _ _ (ep (P.b y) y (fy b) (.inl y)) ⟨y,y,?_,?_⟩
 ·rw[cp,bK];by_cases h:is=[]
  ·rw[cg h];exact iC _
  ·rw[bV h];exact WC.mpr λq=>h (aR q)
 ·rw[cp,bK];refine aq (ia w (?_:_<=1)) (aF y);by_cases h:is=[]
  ·rw[cg h];exact cu _
  ·rw[bV h];exact cW _
end
section
variable{b k:Nat} {t:T} {aC:List V}
structure qc(os:List Nat)(a b:Nat)(z:aA):Prop where
 a:z[a]?=A (.W (os.map ce))
 b:z[b]?=A (.W ((os.map dN).map am))
theorem qc.cz(h:qc os a b z)(k:aM cI z ah):qc os a b ah:=⟨k.at h.a,k.at h.b⟩
noncomputable def EP(H:V)(a b:Nat)(cF bO bt:Option V):bk:=[A H,A (.J a),A (.J b),cF,bO,bt]
def XB(B:bT)(G:Nat)(t:T)(z:aA):Prop:=(∀(O:aA) (a b:Nat),dU B G 55 [t.J] z (.Y [.J a,.J b]) O->aM cI z O->qc t.Y a b O->D z<=a->D z<=b->False)->False
inductive XF(t:T)(aL:aA)(pre:List T)(N:bk)(z:aA):Prop
|mk {a b:Nat} {cF bO bt:Option V}:N=EP t.J a b cF bO bt->qc (t.op::cV pre) a b z->aM cI aL z->D aL<=a->D aL<=b->XF t aL pre N z
theorem qc.add(P:cq B){m Q:Nat}(h:qc os a b z)(au:qc o m Q z)(Y:D os+D o<=2000)(d:∀O Z c,eM B n (.lm 1 2 (.cb .Add (.J 1) (.J 4)) (.cb .Add (.J 2) (.J 5))) (EP H a b cF (A (.J m)) (A (.J Q))) z .X (EP H Z c cF (A (.J m)) (A (.J Q))) O->qc (os++o) Z c O->aM cI z O->D z<=Z->D z<=c->False):False:=by
 have r:∀{f g:Nat->V},(os.map f).length+(o.map g).length<=cZ:=λ{f g}=>by rw[bK,bK];exact hg (aq Y (aF y))
 have s:=rt (B:=B) (n:=n) (i:=1) (j:=2) (N:=EP H a b cF (A (.J m)) (A (.J Q))) (z:=z) (eL (aU (en (av (i:=1) y) (av (i:=4) y) (sD h.a au.a r)) (aU (en (av (i:=2) y) (av (i:=5) y) (sD (eQ h.b) (eQ au.b) (by rw[ed,ed];exact r))) bc)) hq) (eG y);rw[←eI,←eI,←eI]at s;exact d _ _ _ s ⟨eQ dt,dt⟩ aM.dd.dS.dS (cu _) (by rw[cp];exact dP _ _)
theorem RM(P:cq B):∀(t:T) (G:Nat) (z:aA),t.co+1<=G->t.size<=1000->XB B G t z:=T.nc λt F G z Y L E=>by
 cases G with
 |zero=>exact aG Y (qb _)
 |succ G=>
  have R:=Eo (t:=t);have w:∀{r:bk} {z},bW B G (.J 0) (A t.J::r) z (.Y (ce t.op::t.X.map T.J)) z:=av (i:=0) (bA (λH=>A (A H)) t.lC);have p:=uN (w (r:=[aj,aj,aj,aj,aj]) (z:=z++[.W [ce t.op]])) R;rw[iz,bK,t.lu]at p;refine ox (B:=B) (n:=G) (i:=3) (e:=.eb (.J 0) (.X 1) .bM) (b:=[.vC [4,5] (.fg 55 [(.J 3)]),.lm 1 2 (.cb .Add (.J 1) (.J 4)) (.cb .Add (.J 2) (.J 5))]) (aS:=t.X) (g:=T.J)
   (ao:=XF t z) (ff (lG (k:=1) (w (r:=[A (.J (D z)),A (.J (z++[cT.W [ce t.op]]).length),aj,aj,aj]) (z:=z++[.W [ce t.op]]++[.W [am (dN t.op)]])) (aF y) R) qU) (λd d d d=>trivial)
   (.mk y ⟨eQ dt,dt⟩ aM.dd.dS.dS (cu _) ((cp ..)▸dP _ _)) (λpre s r N ah e ao bI=>ao.rec λ{a b cF bO bt} bP ab aY br bG=>?_) λbY O f ao=>ao.rec λ{a b cF bO bt} bP ab aY br bG=>?_
  ·obtain rfl:=bP;have X:=kC e;have W:eS t.X+1<=1000:=t.size_eq▸L;have M:eS pre+s.size<=eS t.X:=by
    rw[←e,Ui];exact gE (dP _ _) _
   exact F s X G ah (aq (T.rO X) (lc Y)) (aq (oL X) (jo W)) λaV u Q c Z ac d d=>(ab.cz Z).add (n:=G) (H:=t.J) (cF:=A s.J) P ac (aq (fi (uZ (eS pre) s.size)) (aq (dn M) (aq W (aF y)))) λcD q o x bo I C h=>bI _ cD (bv (DL (jK (aU (av y) bc) c) (.Y (is:=[4,5]) .Y y)) (bv x eW)) (.mk y (rS▸(show cV [s]=s.Y from eF _).symm▸bo) ((aY.trans Z).trans I) (aq aY.le (aq Z.le C)) (aq aY.le (aq Z.le h)))
  ·obtain rfl:=bP;exact E O a b (ep (P.b y) y (bv (rt (i:=1) (j:=2) (eL (aU (gB (aU (fo (w (r:=[aj,aj,aj,aj,aj]) (z:=z)) (cE (i:=0)) .Y (jx y y)) bc) hL) (aU (gB (aU (en p cE (kp (i:=dN t.op+1) (j:=1) (gF 1 _))) bc) hL) bc)) hq) (eG y)) (bv f (fy (eL (aU (av y) (aU (av y) bc)) hq)))) (.inl y)) aY (t.mC▸ab) br bG
theorem w4(P:cq B)(h:t.co+2<=G+1)(Z:t.size<=1000)(d:∀O a b,dU B (G+1) 56 [t.J] z (.Y [am t.size,.J a,.J b]) O->aM cI z O->qc t.Y a b O->D z<=a->D z<=b->False):False:=RM P t G z (lc h) Z λah a b c k C br bG=>by have Y:=km (B:=B) (n:=G) (av (i:=1) (N:=[A t.J,A (.J a),A (.J b)]) y) C.a (gu (hg (aq Z (aF y))));rw[bK]at Y;exact d _ _ _ (ep (P.b y) y (bv (DL (jK (aU (av (i:=0) y) bc) c) (.Y (is:=[1,2]) .Y y)) (fy (eL (aU Y (aU (av y) (aU (av y) bc))) xW))) (.inl y)) k C br bG
def ZH(p:Nat)(z:aA)(aC:List V)(ai:List T):Prop:=D aC=D ai/\∀(i:Nat) (x:V) (t:T),aC[i]?=A x->ai[i]?=A t->∃a b,x=.Y [am t.size,.J a,.J b]/\qc t.Y a b z
theorem W_(P:cq B)(ai:List T):∀(l:List V) (z:aA),(∀t∈ai,t.size<=1000/\t.co+2<=n)->D l+D ai<=cZ->z[p]?=A (.W l)->(∀O aC,ze B n 56 p O (ai.map T.J) z->aM (·≠p) z O->O[p]?=A (.W (l++aC))->ZH p O aC ai->False)->False:=by
 induction ai with
 |nil=>exactλl z d d h Z=>Z z [] y aM.dd ((eF ..)▸h) ⟨y,λi x t h=>aG (gQ h) (mO _)⟩
 |cons t ai J=>
  intro l z R W h Z;have s:=R t (.head _);cases n with
  |zero=>exact aG s.2 (qb _)
  |succ n=>
   refine w4 (G:=n) (z:=z) P s.2 s.1 λah a b c aY C br bG=>?_;have ab:=aY.at h;have be:=fA h;have j:a≠p:=λe=>aG (e▸br) (kI.mpr be);have Q:b≠p:=λe=>aG (e▸bG) (kI.mpr be);refine J (l++[.Y [am t.size,.J a,.J b]]) (ah.set p (.W (l++[.Y [am t.size,.J a,.J b]]))) (λt L=>R t (.tail _ L)) (by rw[cp,zl,jn,hN 1];exact W) (gR ab) λO aC I Y w M=>Z O (_::aC) (.mk c ab (aq (dP _ _) W) I) (((aY.of (F:=(·≠p))).gN λh=>h y).trans Y) (by rw[w,ha];rfl) ⟨bA (·+1) M.1,λi x t X bq=>?_⟩;cases i with
   |zero=>cases X;obtain rfl:=dk bq;exact⟨_,_,y,Y.get _ _ j (fL C.a j.symm),Y.get _ _ Q (fL C.b Q.symm)⟩
   |succ i=>exact M.2 i x t X bq
theorem VB(P:cq B)(R:bW B n e N z (.J a) ah)(aE:ah[a]?=A (.W (ai.map T.J)))(J:ai.Nodup)(Z:D ai<64)(M:∀t∈ai,t.size<=1000/\t.co+2<=n)(d:∀O p,bW B n (.uA e 56) N z (.J p) O->aM cI ah O->O[p]?=A (.W ((nq ai).map T.J))->D ah<=p->False):False:=by
 refine W_ (n:=n) (p:=D ah) P ai [] (ah++[.W []]) M (by rw[He,hu];exact hg (aq (dK Z) (aF y))) dt λaV aC F X w W=>?_;have le:D ah<=D aV:=aq (by rw[cp];exact dP _ _) X.le;have q:=Mg R aE F w (.Tq (fM:=ai.map T.key) (((bK ..)).symm▸W.1) (λi x r ab ac=>?_) λx I Q Y=>?_) (TV J Z)
 ·rw[ed]at q;exact d _ _ q ⟨aq le (by rw[cp,lJ];exact dP _ _),λb C f h=>eQ (fL (X.get b C (eC (fA h)) (eQ h)) (fU (fA h)))⟩ ((iN (fi lJ)).trans (by rw[lJ,kb];rfl)) le
 ·rw[fI]at ac;exact(lN.mp ac).elim λt h=>(W.2 i x t ab h.1).elim λa q=>q.elim λb q=>⟨_,_,_,_,_,q.1,h.2.symm.trans t.Bh,q.2.a,q.2.b,KP _,jS λH L=>(bJ.mp L).elim λc q=>q.2▸y⟩
 ·exact(bJ.mp I).elim λt q=>(bJ.mp Y).elim λs u=>q.2▸u.2▸KC _ _ _ _
end
section
variable{s t u x Q:T}
structure Mb(U:List T)(cn:List (T×T))(ae:T->T->Prop):Prop where
 KY:∀s,ae s s
 FF:∀{s t},ae s t->ae t s
 mH:∀{s t u},ae s t->ae t u->ae s u
 cn:∀x∈cn,ae x.1 x.2
 lq:∀{s t},s∈U->t∈U->s.op=t.op->(∀(i:Nat) (a b:T),s.X[i]?=A a->t.X[i]?=A b->ae a b)->ae s t
def hP(U:List T)(cn:List (T×T))(s t:T):Prop:=∀ae,Mb U cn ae->ae s t
theorem hP.oB:Mb U cn (hP U cn):=⟨λs ae h=>h.KY s,λq ae h=>h.FF (q ae h),λq X ae h=>h.mH (q ae h) (X ae h),λx Y ae h=>h.cn x Y,λZ m e q ae h=>h.lq Z m e λi a b aE al=>q i a b aE al ae h⟩
structure pa(U:List T)(cn:List (T×T))(M:T->T):Prop where
 mem:∀t∈U,M t∈U
 rG:∀t∈U,M (M t)=M t
 snd:∀t∈U,hP U cn t (M t)
theorem pa.yz(h:pa U cn M)(Z:s∈U)(m:t∈U)(e:M s=M t):hP U cn s t:=hP.oB.mH (h.snd s Z) (e▸hP.oB.FF (h.snd t m))
noncomputable def mB(M:T->T)(kept lw:T)(t:T):T:=if V.dE (M t).J lw.J=ak then kept else M t
theorem yd(h:M t=s):mB M u s t=u:=cg (V.fE.mpr (bA T.J h))
theorem Bp(h:M t≠s):mB M u s t=M t:=bV λq=>h (T.lD (V.fE.mp q))
theorem Sj(h:M s=M t):mB M x Q s=mB M x Q t:=by unfold mB;rw[h]
theorem pa.B_(h:pa U cn M)(Z:x∈U)(Y:Q∈U)(q:hP U cn x Q):pa U cn (mB M (M x) (M Q)):=by
 have a:∀t,(M t=M Q/\mB M (M x) (M Q) t=M x)\/(M t≠M Q/\mB M (M x) (M Q) t=M t):=λt=>(oR (M t=M Q)).imp (λe=>⟨e,yd e⟩) λe=>⟨e,Bp e⟩
 refine⟨λt m=>(a t).elim (λe=>?_) λe=>?_,λt m=>(a t).elim (λe=>?_) λe=>?_,λt m=>(a t).elim (λe=>?_) λe=>?_⟩<;>rw[e.2]
 ·exact h.mem x Z
 ·exact h.mem t m
 ·exact(a (M x)).elim (·.2) λbq=>bq.2.trans (h.rG x Z)
 ·rw[Bp (by rw[h.rG t m];exact e.1),h.rG t m]
 ·exact hP.oB.mH (h.yz m Y e.1) (hP.oB.mH (hP.oB.FF q) (h.snd x Z))
 ·exact h.snd t m
noncomputable def pz(U:List T)(M:T->T):Nat:=(U.filter λt=>V.dE (M t).J t.J).length
theorem k9{bw:Type}{p q:bw->Bool}{l:List bw}(h:∀x∈l,q x=ak->p x=ak):(l.filter q).length<=(l.filter p).length/\((∃x∈l,p x=ak/\q x=aW)->(l.filter q).length<(l.filter p).length):=by
 have e:l.filter q=(l.filter p).filter q:=by
  rw[GY];refine GW λx Y=>?_;cases Z:q x with
  |true=>rw[h x Y Z];rfl
  |false=>rfl
 rw[e];exact⟨zj _ _,λh=>List.length_filter_lt_length_iff_exists.mpr (h.imp λx h=>⟨jw.mpr ⟨h.1,h.2.1⟩,by rw[h.2.2];exact dT⟩)⟩
theorem pa.h_(h:pa U cn M)(Z:x∈U)(Y:Q∈U):pz U (mB M (M x) (M Q))<=pz U M/\(M x≠M Q->pz U (mB M (M x) (M Q))<pz U M):=by
 have q:=k9 (l:=U) (p:=λt=>V.dE (M t).J t.J) (q:=λt=>V.dE (mB M (M x) (M Q) t).J t.J) λt m e=>by
  have e:=T.lD (V.fE.mp e);refine V.fE.mpr (bA T.J ?_);by_cases q:M t=M Q
  ·rw[yd q]at e;rw[←e];exact h.rG x Z
  ·rw[Bp q]at e;exact e
 exact⟨q.1,λn=>q.2 ⟨M Q,h.mem Q Y,V.fE.mpr (bA T.J (h.rG Q Y)),V.mX.mpr λe=>n (by rw[yd (h.rG Q Y)]at e;exact T.lD e)⟩⟩
def Md(U:List T)(M:T->T):Prop:=∀s∈U,∀t∈U,s.op=t.op->s.X.map M=t.X.map M->M s=M t
structure wD(U:List T)(cn:List (T×T))(M:T->T):Prop where
 ok:pa U cn M
 cn:∀x∈cn,M x.1=M x.2
 Jd:Md U M
theorem wD.iff(h:wD U cn M)(X:∀t∈U,∀s∈t.X,s∈U)(Z:s∈U)(m:t∈U):M s=M t↔hP U cn s t:=by
 refine⟨h.ok.yz Z m,λq=>q (λs t=>M s=M t) ⟨λx=>y,mM,yX,h.cn,λ{s t} Z m e q=>h.Jd s Z t m e (uS λi=>?_)⟩⟩;rw[fI,fI];have B:D s.X=D t.X:=s.lu▸t.lu▸e▸y;cases aE:s.X[i]? with
 |none=>rw[tM (B▸wK.mp aE)]
 |some a=>have aB:=(hZ.mp aE).1;have al:=fO (B▸aB:i<D t.X);rw[al];exact bA A (q i a _ aE al)
end
section
variable{bS:Nat} {s t u x Q kept lw:T}
theorem T.hash:∀(t:T) {G:Nat},t.co+1<=G->V.hm G t.J=ak:=T.nc λt F G h=>by
 cases G with
 |zero=>exact aG h (qb _)
 |succ G=>
  rw[t.lC];have ab:V.hm G (ce t.op)=ak:=by obtain⟨⟩:=G<;>rfl
  have ac:V.iF G (t.X.map T.J)=ak:=xS λH Z=>(bJ.mp Z).elim λs q=>q.2▸F s q.1 (aq (T.rO q.1) (lc h));show V.iF G (ce t.op::t.X.map T.J)=ak;cases G with
  |zero=>exact wr.mpr ⟨ab,ac⟩
  |succ G=>exact wr.mpr ⟨ab,ac⟩
structure ik(U:List T):Prop where
 aa:U.Nodup
 aP:∀t∈U,∀s∈t.X,s∈U
 co:∀t∈U,t.co<=5
 J:D U<=20
theorem ik.hF(h:ik U)(m:t∈U):V.gh 100 t.J=ak:=t.hF (aq (dn (h.co t m)) (aF y))
theorem ik.Qx(h:ik U)(Z:s∈U)(m:t∈U):nr s.J t.J:=⟨h.hF Z,h.hF m,.inl ⟨_,_,s.lC,t.lC⟩⟩
structure hw(U:List T)(M:T->T)(p:Nat)(z:aA):Prop where
 d:∃ag,z[p]?=A (.Z ag)/\D ag<=100/\(∀x∈ag,gs x.1=3)/\∀t∈U,cX ag t.J=A (M t).J
theorem T.cls:gs t.J=3:=bA _ t.lC
theorem ik.key(h:ik U)(m:t∈U)(X:∀x∈ag,gs x.1=3):iM ag t.J:=⟨t.hash (aq (dn (h.co t m)) (aF y)),λx Z=>(X x Z).trans T.cls.symm⟩
theorem hw.cz(h:hw U M p z)(k:aM F z ah)(Z:F p):hw U M p ah:=⟨h.d.imp λag q=>⟨k.get _ _ Z q.1,q.2⟩⟩
theorem hw.congr(h:hw U M p z)(e:∀t∈U,M t=fb t):hw U fb p z:=⟨h.d.imp λag q=>⟨q.1,q.2.1,q.2.2.1,λt m=>e t m▸q.2.2.2 t m⟩⟩
theorem hw.ne(h:hw U M p z)(Z:z[bS]?=A (.W l)):bS≠p:=h.d.elim λag q=>kE Z q.1 pF
theorem hw.get(h:hw U M p z)(F:ik U)(m:t∈U)(ab:bW B n e N z (.J p) z)(ac:bW B n bP N z t.J z):bW B n (.Z e bP) N z (M t).J z:=bp λP=>h.d.elim λag q=>P (fo ab ac (.Z q.1) (nA q.1 (F.key m q.2.2.1) (q.2.2.2 t m)))
noncomputable def FJ(M:T->T)(t s u:T):T:=if V.dE t.J u.J=ak then s else M u
theorem acc:FJ M t s t=s:=cg V.ms
theorem UC(h:t≠u):FJ M t s u=M u:=bV λq=>h (T.lD (V.fE.mp q))
theorem hw.set(h:hw U M p z)(F:ik U)(m:t∈U)(Z:bW B n bq N z s.J z)(ab:bW B n e N z (.J p) z)(ac:bW B n bP N z t.J z)(d:∀O,eM B n (.mE e bP bq) N z .X N O->hw U (FJ M t s) p O->aM (·≠p) z O->False):False:=h.d.elim λag q=>by refine d _ (sT Z ab ac (uR q.1 (F.key m q.2.2.1) (ei q.2.1))) ⟨_,gR q.1,by rw[Js ⟨_,q.2.2.2 t m⟩];exact q.2.1,vJ (P:=λk=>gs k=3) q.2.2.1 T.cls,λu H=>?_⟩ (aM.dd.gN λh=>h y);rw[AU,q.2.2.2 u H];unfold FJ;obtain⟨⟩:=V.dE t.J u.J<;>rfl
noncomputable def je(bS:Nat)(dX cx:Option V)(be:Nat)(bO bt cj cC eo dQ:Option V):bk:=[A (.J bS),dX,cx,A (.J be),bO,bt,cj,cC,eo,dQ]
def zw(U:List T)(M:T->T)(kept lw:T)(bS be:Nat)(dX bO bt eo dQ:Option V)(aL:aA)(pre:List T)(N:bk)(z:aA):Prop:=∀{P:Prop},(∀{fb:T->T} {cx:Option V},N=je bS dX cx be bO bt (A kept.J) (A lw.J) eo dQ->hw U fb be z->aM (·≠be) aL z->(∀u∈U,u∉pre->fb u=M u)->(∀u∈pre,fb u=mB M kept lw u)->P)->P
theorem zw.mk{U:List T}{M:T->T}{kept lw:T}{bS be:Nat}{dX bO bt eo dQ:Option V}{aL:aA}{N:bk}{z:aA}{fb:T->T}{cx:Option V}(h:N=je bS dX cx be bO bt (A kept.J) (A lw.J) eo dQ)(Y:hw U fb be z)(X:aM (·≠be) aL z)(J:(∀u∈U,u∉pre->fb u=M u))(W:(∀u∈pre,fb u=mB M kept lw u)):zw U M kept lw bS be dX bO bt eo dQ aL pre N z:=λZ=>Z h Y X J W
theorem B'{bw:Type}{l p r:List bw}{x:bw}(h:l.Nodup)(e:p++x::r=l):x∉p:=λq=>by rw[←e]at h;exact(oX.mp h).2.2 x q x (.head _) y
noncomputable def Kq:List S:=[.mE (.J 3) (.J 2) (.fc (.bH .Eq (.Z (.J 3) (.J 2)) (.J 7)) (.J 6) (.Z (.J 3) (.J 2)))]
theorem f?(F:ik U)(W:∀t∈U,M t∈U)(aR:z[bS]?=A (.W (U.map T.J)))(Y:hw U M be z)(o:lw∈U)(d:∀c O,eM B n (.eP (.W 2) .bE (.J 0) Kq) (je bS dX cx be bO bt (A kept.J) (A lw.J) eo dQ) z .X (je bS dX c be bO bt (A kept.J) (A lw.J) eo dQ) O->hw U (mB M kept lw) be O->aM (·≠be) z O->False):False:=by
 refine ox (i:=2) (b:=Kq) (ao:=zw U M kept lw bS be dX bO bt eo dQ z) (ff (av (i:=0) (N:=je bS dX cx be bO bt (A kept.J) (A lw.J) eo dQ) y) (gD aR)) (λx x x ao=>ao λx x k x x=>k.get _ _ (Y.ne aR) aR) (zw.mk y Y aM.dd (λx x x=>y) λx=>afk) (λpre t r N ah e ao k=>ao λ{fb cx} bP br aY I Z=>?_) λbY O w ao=>ao λbP br aY I Z=>d _ O (bP▸w) (br.congr Z) aY;obtain rfl:=bP;have m:=kC e;have X:=B' F.aa e;have g:=br.get F m (av (B:=B) (n:=n) (i:=3) (N:=je bS dX (A t.J) be bO bt (A kept.J) (A lw.J) eo dQ) y) (av (i:=2) y);rw[I t m X]at g;have dG:bW B n (.fc (.bH .Eq (.Z (.J 3) (.J 2)) (.J 7)) (.J 6) (.Z (.J 3) (.J 2))) (je bS dX (A t.J) be bO bt (A kept.J) (A lw.J) eo dQ) ah (mB M kept lw t).J ah:=
  Gs (hz g (av y) (wX (F.Qx (W t m) o))) (λq=>by rw[yd (T.lD (V.fE.mp q))];exact av y) λq=>by rw[Bp λe=>V.mX.mp q (bA T.J e)];exact g
 refine br.set F m dG (av (i:=3) y) (av (i:=2) y) λaV P bG R=>k _ aV (bv P eW) (zw.mk y bG (aY.trans R) (λu H h=>(UC λq:t=u=>h (q▸jl _ (.head _))).trans (I u H λau=>h (iZ _ au))) λu H=>(ew.mp H).elim (λH=>(UC λq:t=u=>X (q.symm▸H)).trans (Z u H)) λH=>?_);rw[cB.mp H];exact acc
end
section
variable{bS:Nat} {s t u x Q:T}
noncomputable def jh(x:T×T):V:=.Y [x.1.J,x.2.J]
structure zN(U:List T)(cn aK:List (T×T))(ht M:T->T)(bN:List (T×T)):Prop where
 ok:pa U cn M
 Qq:∀s t,ht s=ht t->M s=M t
 RF:∀x∈bN,M x.1=M x.2
 le:pz U M<=pz U ht
 st:bN=[]->M=ht
 lt:(∀x∈aK,ht x.1≠ht x.2)->bN≠[]->pz U M<pz U ht
theorem zN.Y{x:T×T}{bN:List (T×T)}(h:zN U cn aK ht M bN)(X:x∈aK)(ab:x.1∈U)(ac:x.2∈U)(q:hP U cn x.1 x.2):zN U cn aK ht (mB M (M x.1) (M x.2)) (bN++[x]):=by
 have c:=h.ok.h_ ab ac;refine⟨h.ok.B_ ab ac q,λs t e=>Sj (h.Qq s t e),λQ Y=>(ew.mp Y).elim (λY=>Sj (h.RF Q Y)) λY=>?_,aq c.1 h.le,λe=>aG e (Wp _ (ju _ _)),λZ z=>?_⟩
 ·rw[cB.mp Y,yd (t:=x.2) y];by_cases e:M x.1=M x.2
  ·exact yd e
  ·exact Bp e
 ·cases bN with
  |nil=>exact ef (c.2 ((h.st y)▸Z x X)) h.le
  |cons Q bN=>exact er c.1 (h.lt Z (ju _ _))
def xc(U:List T)(cn aK:List (T×T))(ht:T->T)(bS gk be:Nat)(eo dQ:Option V)(aL:aA)(bN:List (T×T))(N:bk)(z:aA):Prop:=∀{P:Prop},(∀{M:T->T} {cx bO bt cj cC:Option V},N=je bS (A (.J gk)) cx be bO bt cj cC eo dQ->hw U M be z->aM (·≠be) aL z->zN U cn aK ht M bN->P)->P
theorem xc.mk{U:List T}{cn aK:List (T×T)}{ht:T->T}{bS gk be:Nat}{eo dQ:Option V}{aL:aA}{bN:List (T×T)}{N:bk}{z:aA}{M:T->T}{cx bO bt cj cC:Option V}(h:N=je bS (A (.J gk)) cx be bO bt cj cC eo dQ)(Y:hw U M be z)(X:aM (·≠be) aL z)(J:zN U cn aK ht M bN):xc U cn aK ht bS gk be eo dQ aL bN N z:=λZ=>Z h Y X J
noncomputable def KR:List S:=[.lm 6 7 (.Z (.J 3) (.J 4)) (.Z (.J 3) (.J 5)),.eP (.W 2) .bE (.J 0) Kq]
theorem f3(F:ik U)(aR:z[bS]?=A (.W (U.map T.J)))(X:z[gk]?=A (.W (aK.map jh)))(Y:hw U M be z)(Z:pa U cn M)(w:∀x∈aK,x.1∈U/\x.2∈U/\hP U cn x.1 x.2)(d:∀bY O,eM B n (.eP (.Y [4,5]) .bE (.J 1) KR) (je bS (A (.J gk)) cx be bO bt cj cC eo dQ) z .X bY O->xc U cn aK M bS gk be eo dQ z aK bY O->False):False:=by refine AA (B:=B) (n:=n) (cQ:=.Y [4,5]) (b:=KR) (g:=jh) (ao:=xc U cn aK M bS gk be eo dQ z) (ff (av (i:=1) (N:=je bS (A (.J gk)) cx be bO bt cj cC eo dQ) y) (gD X)) (λa a a ao=>ao λa a k a=>k.get _ _ (Y.ne X) X) (xc.mk y Y aM.dd ⟨Z,λa a h=>h,λa=>afk,cu _,λa=>y,λa h=>aG y h⟩) (λbN x r N ah e ao k=>ao λ{I cx bO bt cj cC} bP br aY q=>?_) d;obtain rfl:=bP;have W:=kC e;have h:=w x W;exact f? (B:=B) (n:=n) (dX:=A (.J gk)) (cx:=cx) (bO:=A x.1.J) (bt:=A x.2.J) (eo:=eo) (dQ:=dQ) (kept:=I x.1) F q.ok.mem (aY.get _ _ (Y.ne aR) aR) br (q.ok.mem _ h.2.1) λc aV f bG R=>k _ _ aV (.Y (is:=[4,5]) .Y y) (bv (rt (B:=B) (n:=n) (i:=6) (j:=7) (eL (aU (br.get F h.1 (av (i:=3) (N:=je bS (A (.J gk)) cx be (A x.1.J) (A x.2.J) cj cC eo dQ) y) (av (i:=4) y)) (aU (br.get F h.2.1 (av (i:=3) y) (av (i:=5) y)) bc)) hq) (eG y)) (bv f eW)) (xc.mk y bG (aY.trans R) (q.Y W h.1 h.2.1 h.2.2))
end
section
variable{bS:Nat} {s t u x Q:T}
noncomputable def hf(M:T->T)(t:T):V:=.Y (ce t.op::t.X.map λk=>(M k).J)
theorem s7(h:hf M s=hf M t):s.op=t.op/\s.X.map M=t.X.map M:=by have h:=fH (V.Y.inj h);refine⟨tj s.pK t.pK h.1,(uV λx x=>T.lD).mp ?_⟩;rw[ed,ed];exact h.2
theorem s6(ab:s.op=t.op)(ac:s.X.map M=t.X.map M):hf M s=hf M t:=by unfold hf;rw[ab,show(s.X.map λk=>(M k).J)=(s.X.map M).map T.J from(ed ..).symm,ac,ed];rfl
theorem Rw(F:ik U)(r:∀t∈U,M t∈U)(m:t∈U):V.hm 8 (hf M t)=ak:=by show V.iF 7 (ce t.op::_)=ak;exact wr.mpr ⟨y,xS λH Z=>(bJ.mp Z).elim λk q=>q.2▸(M k).hash (aq (dn (F.co _ (r k (F.aP t m k q.1)))) (aF y))⟩
theorem f'(Y:ik U)(m:t∈U)(W:hw U M be z):∃x,bW B n (.cb .Add (.Y [(.Z (.J 2) (.X 0))]) (.bR "tuple" [(.dy (.W 0) .bE (.eb (.J 2) (.X 1) .bM) [] (.di (.Z (.J 1) (.J 0))) [aj,A 3])])) (je bS dX (A t.J) be bO bt cj cC eo dQ) z (hf M t) (z++[x]):=by
 have Z:D t.X<=2:=t.lu▸kv _;have bG:=av (B:=B) (n:=n) (i:=2) (N:=je bS dX (A t.J) be bO bt cj cC eo dQ) (z:=z) (H:=.Y (ce t.op::t.X.map T.J)) (bA (λH=>A (A H)) t.lC);have c:=Co (B:=B) (n:=n) (oH:=.bE) (e:=.eb (.J 2) (.X 1) .bM) (bP:=.Z (.J 1) (.J 0)) (dc:=[aj,A 3]) (ax:=[A (.J be)]) (N:=je bS dX (A t.J) be bO bt cj cC eo dQ) (g:=T.J) (f:=λk=>(M k).J) (aS:=t.X) y
  (ff (lG (k:=1) bG (aF y) Eo) qU) (ei (aq Z (aF y))) (λa=>trivial) λk X l=>(W.cz (F:=cI) .cS trivial).get Y (Y.aP t m k X) (av (i:=1) y) (av (i:=0) y)
 exact⟨_,en (eL (aU (fo bG cE .Y (jx y y)) bc) hL) (gV rv (aU c.ev bc) (sh dt (gu (ei (aq Z (aF y)))))) (oj (l:=[ce t.op]) (((bK ..)).symm▸ei (aq (gE Z 1) (aF y))))⟩
structure oU(M:T->T)(pre:List T)(nT:Nat)(ag:List (V×V))(z:aA):Prop where
 d:z[nT]?=A (.Z ag)
 c:∀x∈ag,gs x.1=3
 n:D ag<=D pre
 f:∀s∈pre,∃u:T,cX ag (hf M s)=A u.J
 b:∀k H,cX ag k=A H->∃u∈pre,H=u.J/\hf M u=k
theorem oU.old(h:oU M pre nT ag z)(q:cX ag (hf M t)=A u.J):oU M (pre++[t]) nT ag z:=
 {h with n:=aq h.n (((cp ..)).symm▸dP _ _),f:=λs Z=>(ew.mp Z).elim (h.f s) λZ=>((cB.mp Z)▸⟨u,q⟩),b:=λk H e=>(h.b k H e).imp λu q=>⟨iZ _ q.1,q.2⟩}
theorem oU.cS(h:oU M pre nT ag z)(q:cX ag (hf M t)=aj)(a:cX (ag++[(hf M t,t.J)]) (hf M t)=A t.J)(W:∀k H,cX ag k=A H->cX (ag++[(hf M t,t.J)]) k=A H):oU M (pre++[t]) nT (ag++[(hf M t,t.J)]) (z.set nT (.Z (ag++[(hf M t,t.J)])))where
 d:=gR h.d
 c x Y:=(ew.mp Y).elim (h.c x) λY=>(cB.mp Y)▸y
 n:=by rw[cp,cp];exact iO h.n 1
 f s Z:=(ew.mp Z).elim (λZ=>(h.f s Z).imp λu e=>W _ _ e) λZ=>((cB.mp Z)).symm▸⟨t,a⟩
 b k H e:=by
  rw[vI,mu]at e;cases X:cX ag k with
  |some w=>rw[X]at e;cases e;exact(h.b k H X).imp λu q=>⟨iZ _ q.1,q.2⟩
  |none=>
   rw[X]at e;by_cases bq:V.dE (hf M t) k=ak
   ·rw[cg bq]at e;obtain rfl:=dk e;exact⟨t,jl _ (.head _),y,V.fE.mp bq⟩
   ·rw[bV bq]at e;exact aG e.symm (gJ _)
theorem f5(F:ik U)(W:∀t∈U,M t∈U)(m:t∈U)(h:oU M pre nT ag z)(J:D pre<=50)(g:N[8]?=A (A (.J nT)))(X:N[9]?=A (A (hf M t)))(ac:N[2]?=A (A t.J))(d:∀O gP u,bW B n (.eO (.J 8) "setdefault" [(.J 9),(.J 2)]) N z u.J O->oU M (pre++[t]) nT gP O->aM (·≠nT) z O->cX gP (hf M t)=A u.J->(∀k H,cX ag k=A H->cX gP k=A H)->u∈pre++[t]->hf M u=hf M t->False):False:=by
 have Z:iM ag (hf M t):=⟨Rw F W m,λx R=>h.c x R⟩
 have as:=aU (av (B:=B) (n:=n) (z:=z) X) (aU (av ac) bc);cases q:cX ag (hf M t)with
 |some H=>refine(h.b _ _ q).elim λu r=>?_;rw[r.2.1]at q;exact d z ag u (iL (av g) (.yt h.d) as (Gm h.d Z q)) (h.old q) .dd q (λa a h=>h) (iZ _ r.1) r.2.2
 |none=>
  have Y:cX (ag++[(hf M t,t.J)]) (hf M t)=A t.J:=by rw[vI,mu,q,cg V.ms];rfl
  have c:∀k H,cX ag k=A H->cX (ag++[(hf M t,t.J)]) k=A H:=λk H e=>by rw[vI,e];rfl
  exact d _ _ t (iL (av g) (.yt h.d) as (Gl h.d Z q (ei (aq h.n (aq J (aF y)))))) (h.cS q Y c) (aM.dd.gN λh=>h y) Y c (jl _ (.head _)) y
end
section
variable{bS:Nat} {s t u x Q:T}
theorem hw.get'(h:hw U M p ah)(F:ik U)(m:t∈U)(ab:bW B n e N z (.J p) z)(ac:bW B n bP N z t.J ah):bW B n (.Z e bP) N z (M t).J ah:=bp λP=>h.d.elim λag q=>P (fo ab ac (.Z q.1) (nA q.1 (F.key m q.2.2.1) (q.2.2.2 t m)))
structure tK(U:List T)(M:T->T)(pre:List T)(ag:List (V×V))(aK:List (T×T)):Prop where
 n:D aK<=D pre
 ok:∀x∈aK,x.1∈U/\x.2∈U/\hf M x.1=hf M x.2/\M x.1≠M x.2
 cl:aK=[]->∀s∈pre,∀u:T,cX ag (hf M s)=A u.J->M u=M s
def tJ(U:List T)(M:T->T)(bS be:Nat)(bO bt cj cC:Option V)(aL:aA)(pre:List T)(N:bk)(z:aA):Prop:=∀{P:Prop},(∀{ag:List (V×V)} {aK:List (T×T)} {cx dQ:Option V},N=je bS (A (.J (D aL+1))) cx be bO bt cj cC (A (.J (D aL))) dQ->oU M pre (D aL) ag z->z[D aL+1]?=A (.W (aK.map jh))->aM cI aL z->tK U M pre ag aK->P)->P
theorem tJ.mk{U:List T}{M:T->T}{bS be:Nat}{bO bt cj cC:Option V}{aL:aA}{pre:List T}{N:bk}{z:aA}{ag:List (V×V)}{aK:List (T×T)}{cx dQ:Option V}(h:N=je bS (A (.J (D aL+1))) cx be bO bt cj cC (A (.J (D aL))) dQ)(Y:oU M pre (D aL) ag z)(X:z[D aL+1]?=A (.W (aK.map jh)))(J:aM cI aL z)(W:tK U M pre ag aK):tJ U M bS be bO bt cj cC aL pre N z:=λZ=>Z h Y X J W
noncomputable def JN:List S:=[.ea 9 (.cb .Add (.Y [(.Z (.J 2) (.X 0))]) (.bR "tuple" [(.dy (.W 0) .bE (.eb (.J 2) (.X 1) .bM) [] (.di (.Z (.J 1) (.J 0))) [aj,A 3])])),.fc (.bH .NotEq (.Z (.J 3) (.eO (.J 8) "setdefault" [(.J 9),(.J 2)])) (.Z (.J 3) (.J 2))) [.fY (.eO (.J 1) "append" [(.Y [(.Z (.J 8) (.J 9)),(.J 2)])])] []]
theorem tK.fx{u:T}(h:tK U M pre ag aK)(o:oU M pre p ag z)(c:∀k H,cX ag k=A H->cX gP k=A H)(C:cX gP (hf M t)=A u.J)(q:M u=M t):tK U M (pre++[t]) gP aK where
 n:=aq h.n ((cp ..)▸dP _ _)
 ok:=h.ok
 cl e s Z w m:=(ew.mp Z).elim (λZ=>(o.f s Z).elim λX Y=>T.lD (dk ((c _ _ Y).symm.trans m))▸h.cl e s Z X Y) λZ=>by
  obtain rfl:=cB.mp Z;exact T.lD (dk (C.symm.trans m))▸q
theorem tK.more{u:T}(h:tK U M pre ag aK)(Y:u∈U)(m:t∈U)(w:hf M u=hf M t)(q:M u≠M t):tK U M (pre++[t]) gP (aK++[(u,t)]):=⟨by rw[cp,cp];exact iO h.n 1,λx Z=>(ew.mp Z).elim (h.ok x) λZ=>((cB.mp Z)▸⟨Y,m,w,q⟩),λe=>aG e (Wp _ (ju _ _))⟩
theorem s9(F:ik U)(r:∀t∈U,M t∈U)(E:hw U M be aL)(m:t∈U)(g:∀s∈pre,s∈U)(v:D pre<=20)(ao:tJ U M bS be bO bt cj cC aL pre N z)(l:∀eg aV,gb B n JN (N.set 2 (A t.J)) z .X eg aV->tJ U M bS be bO bt cj cC aL (pre++[t]) eg aV->False):False:=ao λ{ag aK cx dQ} e ab ac aY bo=>by
 obtain rfl:=e;refine(f' (B:=B) (n:=n) (bS:=bS) (dX:=A (.J (D aL+1))) (bO:=bO) (bt:=bt) (cj:=cj) (cC:=cC) (eo:=A (.J (D aL))) (dQ:=dQ) F m (E.cz aY trivial)).elim λx dG=>?_;have W:=fX (i:=9) dG;have P:aM cI z (z++[x]):=.cS;have ab:oU M pre (D aL) ag (z++[x]):={ab with d:=P.at ab.d}
 have ac:=P.at ac;have aY:=aY.trans P;generalize z++[x]=ah at W ab ac aY;refine f5 (B:=B) (n:=n) (N:=je bS (A (.J (D aL+1))) (A t.J) be bO bt cj cC (A (.J (D aL))) (A (hf M t))) F r m ab (aq v (aF y)) y y y λaV gP u dG Z Y I Q H w=>?_;have j:D aL+1≠D aL:=zA _;have c:=Y.get _ _ j ac;have X:aM cI aL aV:=⟨aq aY.le Y.le,λa C b h=>Y.get a C (eC (fA h)) (aY.at h)⟩
 have R:u∈U:=(ew.mp H).elim (g u) λh=>cB.mp h▸m;have bG:=E.cz X trivial;have k:=hz (ft:=.NotEq) (bG.get' (B:=B) (n:=n) F R (av (i:=3) y) dG) (bG.get F m (av (i:=3) y) (av (i:=2) y)) (wY (F.Qx (r u R) (r t m)));by_cases q:M u=M t
 ·rw[show V.dE (M u).J (M t).J=ak from V.fE.mpr (bA T.J q)]at k;exact l _ _ (bv W (bv (hQ k) eW)) (tJ.mk y Z c X (bo.fx ab Q I q))
 ·rw[show V.dE (M u).J (M t).J=aW from V.mX.mpr λe=>q (T.lD e)]at k;exact l _ _ (bv W (bv (ku k (bv (jR (B:=B) (n:=n) (N:=je bS (A (.J (D aL+1))) (A t.J) be bO bt cj cC (A (.J (D aL))) (A (hf M t))) (iL (av (i:=1) y) (.append c) (aU (eL (aU (fo (av (i:=8) y) (av (i:=9) y) (.Z Z.d) (nA Z.d ⟨Rw F r m,λx f=>Z.c x f⟩ I)) (aU (av (i:=2) y) bc)) hq) bc) (qO c (gu (ei (aq bo.n (aq v (aF y)))))))) eW)) eW)) (tJ.mk (aK:=aK++[(u,t)]) y {Z with d:=fL Z.d j} ((eI ..)▸gR c) (X.set (ka _)) (bo.more R m w q))
noncomputable def UM:List S:=[.eP (.Y [4,5]) .bE (.J 1) KR,.lm 8 1 .nL (.W []),.eP (.W 2) .bE (.J 0) JN]
structure Pv(U:List T)(cn:List (T×T))(M:T->T)(aK:List (T×T))(G:Nat):Prop where
 ok:pa U cn M
 Ln:∀x∈cn,M x.1=M x.2\/x∈aK
 cl:aK=[]->Md U M
 Ld:∀x∈aK,x.1∈U/\x.2∈U/\hP U cn x.1 x.2
 J:D aK<=100
 So:pz U M<G\/(pz U M=G/\∀x∈aK,M x.1≠M x.2)
inductive IH(U:List T)(cn:List (T×T))(bS be:Nat)(aL:aA)(G:Nat)(N:bk)(z:aA):Prop
|mk {M:T->T} {aK:List (T×T)} {gk:Nat} {cx bO bt cj cC eo dQ:Option V}:N=je bS (A (.J gk)) cx be bO bt cj cC eo dQ->hw U M be z->z[gk]?=A (.W (aK.map jh))->aM cI aL z->Pv U cn M aK G->IH U cn bS be aL G N z
inductive Pu(U:List T)(cn:List (T×T))(bS be:Nat)(aL:aA)(N:bk)(z:aA):Prop
|mk {M:T->T} {dX cx bO bt cj cC eo dQ:Option V}:N=je bS dX cx be bO bt cj cC eo dQ->hw U M be z->aM cI aL z->wD U cn M->Pu U cn bS be aL N z
theorem R?(F:ik U)(h:∀x∈aK,x.1∈U/\x.2∈U/\hP U cn x.1 x.2):V.fu 100 (aK.map jh)=ak:=jS λH Z=>(bJ.mp Z).elim λx r=>by have q:∀{t:T},t∈U->V.gh 99 t.J=ak:=λ{t} m=>t.hF (aq (dn (F.co t m)) (aF y));rw[←r.2];show V.fu 99 [x.1.J,x.2.J]=ak;exact jS λH Z=>(ee.mp Z).elim (λe=>e▸q (h x r.1).1) λZ=>cB.mp Z▸q (h x r.1).2.1
theorem s8(F:ik U)(Z:pa U cn M)(Y:s∈U)(m:t∈U)(h:hf M s=hf M t):hP U cn s t:=by have h:=s7 h;refine hP.oB.lq Y m h.1 λi a b aE al=>Z.yz (F.aP s Y a (io aE)) (F.aP t m b (io al)) ?_;have q:=bA (λl:List T=>l[i]?) h.2;rw[fI,fI,aE,al]at q;exact dk q
theorem acr(F:ik U)(aR:aL[bS]?=A (.W (U.map T.J)))(A1:D aL<=be)(O:hw U M be z)(A0:z[gk]?=A (.W (aK.map jh)))(k:aM cI aL z)(w:Pv U cn M aK G)(R:aK≠[])(A3:∀p dx aV,p<G->gb B n UM (je bS (A (.J gk)) cx be bO bt cj cC eo dQ) z .X dx aV->IH U cn bS be aL p dx aV->False):False:=by
 refine f3 (B:=B) (n:=n) (cn:=cn) (cx:=cx) (bO:=bO) (bt:=bt) (cj:=cj) (cC:=cC) (eo:=eo) (dQ:=dQ) F (k.at aR) A0 O w.ok w.Ld λdx ah d ao=>ao λ{I cx bO bt cj cC} bP br aY q=>?_;obtain rfl:=bP;have P:aM cI aL ah:=⟨aq k.le aY.le,λa C c h=>aY.get a C (eC (ef (fA h) A1)) (k.at h)⟩
 have f:=rt (B:=B) (n:=n) (i:=8) (j:=1) (N:=je bS (A (.J gk)) cx be bO bt cj cC eo dQ) (z:=ah) (eL (aU sj (aU (gB bc (cW _)) bc)) hq) (eG y);have cP:(ah++[cT.Z []]).length=D ah+1:=cp;rw[cP]at f;have cL:(ah++[cT.Z []]++[.W []])[D ah]?=A (.Z []):=eQ dt;have dw:(ah++[cT.Z []]++[.W []])[D ah+1]?=A (.W (([]:List (T×T)).map jh)):=cP▸dt;have E:aM cI ah (ah++[cT.Z []]++[.W []]):=aM.dd.dS.dS;generalize ah++[cT.Z []]++[.W []]=aV at f cL dw E;refine ox (B:=B) (n:=n) (i:=2) (b:=JN) (N:=je bS (A (.J (D ah+1))) cx be bO bt cj cC (A (.J (D ah))) dQ) (ah:=aV) (ao:=tJ U I bS be bO bt cj cC ah) (ff (av (i:=0) y) (gD ((P.trans E).at aR))) (λc c c ao=>ao λc c c W c=>(P.trans W).at aR) (tJ.mk y ⟨cL,λc=>afk,cu _,λc=>afk,λk H h=>(by exact aG h.symm (gJ _))⟩ dw E ⟨cu _,λc=>afk,λc c=>afk⟩)
  (λpre t r N z e ao=>s9 (n:=n) F q.ok.mem br (kC e) (λs X=>e▸iZ _ X) (aq (e▸(cp ..)▸dP _ _) F.J) ao) λA5 cD Q ao=>ao λ{ag A4 cx dQ} bP g dv W bo=>?_
 obtain rfl:=bP;exact A3 (pz U I) _ cD (w.So.elim (λh=>er q.le h) λh=>h.1▸q.lt h.2 R) (bv d (bv f (bv Q eW))) (.mk y (br.cz W trivial) dv (P.trans W)
  {ok:=q.ok
   Ln:=λx Z=>.inl ((w.Ln x Z).elim (q.Qq _ _) (q.RF x))
   cl:=λY s X t A2 ab ac=>(g.f s X).elim λu l=>(bo.cl Y s X u l).symm.trans (bo.cl Y t A2 u (s6 ab ac▸l))
   Ld:=λx Z=>have h:=bo.ok x Z;⟨h.1,h.2.1,s8 F q.ok h.1 h.2.1 h.2.2.1⟩
   J:=aq bo.n (aq F.J (aF y))
   So:=.inr ⟨y,λx Z=>(bo.ok x Z).2.2.2⟩})
end
section
variable{bS:Nat} {s t u x Q:T}
theorem acq(F:ik U)(aR:aL[bS]?=A (.W (U.map T.J)))(W:D aL<=be)(ao:IH U cn bS be aL G N z)(d:∀bY O,eM B n (.tw (.bH .NotEq (.J 1) (.W [])) UM) N z .X bY O->Pu U cn bS be aL bY O->False):False:=DM (ao:=IH U cn bS be aL) (K:=Pu U cn bS be aL) ao (λG N z ao Q X=>ao.rec λ{M aK gk cx bO bt cj cC eo dQ} e br dv aY w=>by
  obtain rfl:=e;have k:=hz (ft:=.NotEq) (av (B:=B) (n:=n) (i:=1) (N:=je bS (A (.J gk)) cx be bO bt cj cC eo dQ) (z:=z) y) (gB bc (cW _)) (vc (eQ dv) dt (R? F w.Ld) y);have r:aM cI z (z++[.W []]):=.cS;have br:=br.cz r trivial;have dv:=r.at dv;have aY:=aY.trans r;generalize z++[.W []]=ah at k br dv aY;by_cases e:aK=[]
  ·obtain rfl:=e;rw[show V.kx (([]:List (T×T)).map jh) []=ak from V.ub]at k;exact Q ah k (.mk y br aY ⟨w.ok,λx Z=>(w.Ln x Z).elim id afk,w.cl y⟩)
  ·rw[show V.kx (aK.map jh) []=aW from eq_false_of_ne_true λq=>e (zo.mp (V.vF.mp q))]at k;exact acr (n:=n) F aR W br dv aY w e λY dx aV a x ao=>X Y ah dx aV a k x ao) d
theorem w?(P:cq B)(F:ik U)(aR:z[bS]?=A (.W (U.map T.J)))(C:z[gk]?=A (.W (cn.map jh)))(R:∀x∈cn,x.1∈U/\x.2∈U)(E:D cn<=100)(d:∀(O:aA) (be:Nat) (M:T->T),dU B (n+1) 53 [.J bS,.J gk] z (.J be) O->aM cI z O->hw U M be O->wD U cn M->D z<=be->False):False:=by
 have H:=ei (aq F.J (aF y));have c:=Co (B:=B) (n:=n) (oH:=.bE) (e:=.J 0) (bP:=.Y [(.J 0),(.J 0)]) (dc:=[aj]) (ax:=[]) (N:=[A (.J bS),A (.J gk),aj,aj,aj,aj,aj,aj,aj,aj]) (g:=T.J) (f:=λt=>.Y [t.J,t.J]) (aS:=U) y
  (ff (av y) (gD aR)) H (λl=>eQ aR) λt I l=>eL (aU (av y) (aU (av y) bc)) hq
 have r:aM cI z (z++[.W (U.map λt=>.Y [t.J,t.J])]):=.cS;have cL:(z++[.W (U.map λt=>.Y [t.J,t.J])])[D z]?=A (.W ((U.map λt:T=>(t.J,t.J)).map tl)):=((ed ..)).symm▸dt;generalize z++[.W (U.map λt=>.Y [t.J,t.J])]=ah at c r cL;have lQ:((U.map λt:T=>(t.J,t.J)).map λx:V×V=>x.1)=U.map T.J:=ed ..;have W:((U.map λt:T=>(t.J,t.J)).map λx:V×V=>x.1).Nodup:=lQ▸iV F.aa λa a a a=>T.lD;have X:=fX (i:=3) (gV IU (aU c.ev bc) (Ge (B:=B) cL (KL (fm:=3) (U.map λt:T=>(t.J,t.J)) [] (λx Z=>(bJ.mp Z).elim λt q=>q.2▸⟨t.hash (aq (dn (F.co t q.1)) (aF y)),T.cls⟩) W (by rw[CS,bK];exact H))));have w:hw U (λt=>t) (D ah) (ah++[.Z (U.map λt:T=>(t.J,t.J))]):=⟨⟨_,dt,gu (aq F.J (aF y)),λx Z=>(bJ.mp Z).elim λt q=>q.2▸T.cls,λt I=>Jo W (gd I)⟩⟩
 have Y:=r.trans (.cS (iW:=[.Z (U.map λt:T=>(t.J,t.J))]));have be:=r.le;rw[CS]at X;generalize ah++[cT.Z (U.map λt:T=>(t.J,t.J))]=aV at X w Y;refine acq (B:=B) (n:=n) (G:=pz U (λt=>t)+1) F aR be (.mk (cx:=aj) (bO:=aj) (bt:=aj) (cj:=aj) (cC:=aj) (eo:=aj) (dQ:=aj) y w (Y.at C) Y ⟨(⟨λa h=>h,λa a=>y,λt a=>hP.oB.KY t⟩),λa h=>.inr h,λa s a t a ab ac=>T.ext ab (by rw[WE,WE]at ac;exact ac),λx Z=>⟨(R x Z).1,(R x Z).2,hP.oB.cn x Z⟩,E,.inl (jO _)⟩) λbY O f ao=>ao.rec λe br aY fin=>?_;obtain rfl:=e;exact d O _ _ (ep (P.b y) y (bv X (bv f (fy (av y)))) (.inl y)) aY br fin be
end
section
variable{bS h:Nat} {aC:List T} {s t k:T} {R:List (List T)} {g:eE} {left:Nat}
theorem k2{r:Nat->List T}{bg:Nat->List (List T)}(m:∀f,1<=f->f<=n->gC g [c] f ((r f).map λt=>[t]))(j:∀f,1<=f->f<=n->gC g ax (n-f) (bg f)):gC g (c::ax) n ((lK 1 n).flatMap λf=>(r f).flatMap λt=>(bg f).map (t::·)):=by
 have de:∀f∈mZ (D ax) n,1<=f/\f<=n:=λf Z=>⟨(pH.mp Z).1,aq (dP _ _) (pH.mp Z).2⟩
 rw[show(lK 1 n).flatMap (λf=>(r f).flatMap λt=>(bg f).map (t::·))=(mZ (D ax) n).flatMap λf=>((r f).map λt=>[t]).flatMap λa=>(bg f).map λai=>a++ai by
  have ab:lK 1 n=mZ (D ax) n++lK (1+(n-D ax)) (n-(n-D ax)):=by
   unfold mZ;rw[List.range'_append_1,tQ (mP _ _)]
  have ac:((lK (1+(n-D ax)) (n-(n-D ax))).flatMap λf=>(r f).flatMap λt=>(bg f).map (t::·))=[]:=Hb.mpr λf Z=>by
   have w:=MU.mp Z;have Y:=w.2;rw[jn,tQ (mP _ _),hN]at Y;have d:=hl Y;have dD:n-f<D ax:=tR λh=>Xg _ (aq (hN 1 _▸w.1) (WY (hN f _▸WT d h)));exact((ko ((j f (aq (dP 1 _) w.1) d).J (Jx dD)))).symm▸Hb.mpr λx x=>y
  rw[ab,wH,ac,eF];exact vP λf=>by rw[wI];rfl]
 exact(Ec (g:=g) (c:=c) (ax:=ax) (n:=n) (R:=λf=>(r f).map λt=>[t]) (bg:=bg) (λf Z=>m f (de f Z).1 (de f Z).2) λf Z=>j f (de f Z).1 (de f Z).2)
noncomputable def jk(ae:T->Nat->List T):List T->Nat->List (List T)
|[],left=>if left=0 then[[]]else[]
|k::aC,left=>(lK 1 left).flatMap λf=>(ae k f).flatMap λt=>(jk ae aC (left-f)).map (t::·)
theorem TY{dM:T->Nat}(Q:∀l∈df,∀h,1<=h->h<=G->gC g [dM l] h ((ae l h).map λt=>[t]))(aC:List T):∀left:Nat,(∀k∈aC,k∈df)->left<=G->gC g (aC.map dM) left (jk ae aC left):=by
 induction aC with
 |nil=>
  intro left _ _;show gC g [] left (if left=0 then[[]]else[]);by_cases h:left=0
  ·rw[if_pos h,h];exact Ed
  ·rw[if_neg h];exact Jw (Xh h)
 |cons k aC F=>exactλleft X Y=>k2 (λf Z L=>Q k (X k (.head _)) f Z (aq L Y)) λf Z L=>F (left-f) (λk h=>X k (.tail _ h)) (aq (mP _ _) Y)
structure rn(df:List T)(G:Nat)(ae:T->Nat->List T)(cO:Nat)(z:aA):Prop where
 d:∃ag,z[cO]?=A (.Z ag)/\(∀x∈ag,gs x.1=3)/\∀l∈df,∀h,1<=h->h<=G->∃p,cX ag (.Y [l.J,am h])=A (.J p)/\z[p]?=A (.W ((ae l h).map T.J))
theorem rn.cz(h:rn df G ae cO z)(k:aM cI z ah):rn df G ae cO ah:=⟨h.d.imp λag q=>⟨k.at q.1,q.2.1,λl Z h ab ac=>(q.2.2 l Z h ab ac).imp λp q=>⟨q.1,k.at q.2⟩⟩⟩
theorem JM(h:t.co<=5):V.hm 8 (.Y [t.J,am i])=ak:=by show V.iF 7 [t.J,am i]=ak;exact xS λH Z=>(ee.mp Z).elim (λe=>e▸t.hash (aq (dn h) (aF y))) λZ=>cB.mp Z▸y
noncomputable def Bn(cO:Nat)(aC:List T)(left dz:Nat)(bO bt:Option V):bk:=[A (.J cO),A (.Y (aC.map T.J)),A (am left),A (.J dz),bO,bt]
inductive CX(cO:Nat)(aC:List T)(left:Nat)(bO:Option V)(aL:aA)(R:List (List T))(N:bk)(z:aA):Prop
|mk {dz:Nat} {bt:Option V}:N=Bn cO aC left dz bO bt->z[dz]?=A (.W (R.map hW))->aM cI aL z->D aL<=dz->CX cO aC left bO aL R N z
def CW(B:bT)(G:Nat)(ae:T->Nat->List T)(cO:Nat)(aC:List T)(left:Nat)(z:aA):Prop:=(∀(O:aA) (p:Nat),dU B G 54 [.J cO,.Y (aC.map T.J),am left] z (.J p) O->aM cI z O->O[p]?=A (.W ((jk ae aC left).map hW))->D z<=p->False)->False
noncomputable def Kj:List S:=[.ea 3 (.cb .Add (.J 3) (.dy (.W 0) .bE (.fg 54 [(.J 0),(.eb (.J 1) (.X 1) .bM),(.cb .Sub (.J 2) (.J 4))]) [] (.di (.cb .Add (.Y [(.J 1)]) (.J 0))) [aj,A 5]))]
theorem y_{l:List T}(h:D l<=50):(l.map T.J).length<=cZ:=gu (ei (aq h (aF y)))
theorem z?(X:(k::aC).length<=50)(U:f<=left)(F:∀z,aM cI aL z->CW B n ae cO aC (left-f) z)(j:∀ai∈jk ae aC (left-f),D ai<=50)(Z:D R+(jk ae aC (left-f)).length<=1000)(ao:CX cO (k::aC) left (A (am f)) aL R N z)(d:∀eg aV,gb B n Kj (N.set 5 (A t.J)) z .X eg aV->CX cO (k::aC) left (A (am f)) aL (R++(jk ae aC (left-f)).map (t::·)) eg aV->False):False:=ao.rec λ{dz bt} e ab aY br=>by
 obtain rfl:=e;refine F z aY λah p c Y ac bG=>?_;generalize jk ae aC (left-f)=bg at ac j Z d;refine oe (B:=B) (n:=n) (k:=.bE) (e:=.fg 54 [(.J 0),(.eb (.J 1) (.X 1) .bM),(.cb .Sub (.J 2) (.J 4))]) (bP:=.cb .Add (.Y [(.J 1)]) (.J 0)) (dc:=[aj,A 5]) (ax:=[A t.J]) (N:=Bn cO (k::aC) left dz (A (am f)) (A t.J)) (z:=z) (g:=hW) (f:=λai=>hW (t::ai)) (aS:=bg) y
  (ff (jK (aU (av y) (aU (lG (k:=1) (av y) (aF y) (y_ X)) (aU (en (av y) (av y) (kp U)) bc))) c) (gD ac)) (hg (aq (aq (gF _ _) Z) (aF y))) (λz k=>k.at ac) (λai o z x bI=>bI z (en (eL (aU (av y) bc) hL) (av y) (oj (l:=[t.J]) (G:=ai.map T.J) (ei (by rw[bK];exact aq (gE (j ai o) 1) (aF y))))) .dd) λaV w W bo=>?_
 have s:=fX (i:=3) (en (av (i:=3) (N:=Bn cO (k::aC) left dz (A (am f)) (A t.J)) y) w.ev (sD (W.at (Y.at ab)) bo (by rw[bK,bK];exact hg (aq Z (aF y)))));rw[show(bg.map λai=>hW (t::ai))=(bg.map (t::·)).map hW by rw[ed];rfl,←eI]at s;exact d _ _ (bv s eW) (.mk y dt (((aY.trans Y).trans W).dS) (aq aY.le (aq Y.le W.le)))
end
section
variable{bS h:Nat} {aC:List T} {s t k:T} {R:List (List T)} {g:eE} {left:Nat}
theorem TZ(aC:List T):∀(left:Nat),∀ai∈jk ae aC left,D ai=D aC:=by
 induction aC with
 |nil=>intro left ai h;rw[(vZ (p:=left=0) (Q:=[])).mp h|>.2.symm]
 |cons k aC F=>exactλleft ai h=>(gc.mp h).elim λf h=>(gc.mp h.2).elim λt h=>(bJ.mp h.2).elim λgU h=>h.2▸bA (·+1) (F _ gU h.1)
theorem B?{left:Nat}:(if(if dV (left=0)=ak then(1:Int)else 0)=0 then[]else[V.Y []])=(jk ae [] left).map hW:=by
 show _=(if left=0 then[[]]else[]).map hW;by_cases h:left=0
 ·rw[decide_eq_true h,cg h];rfl
 ·rw[decide_eq_false h,bV h];rfl
theorem Z?(U:∀l∈df,l.co<=5)(bi:rn df G ae cO aL)(P:aM cI aL z)(X:k∈df)(Y:1<=f)(L:f<=G)(M:(k::aC).length<=50)(d:∀p,bW B n (.eO (.J 0) "get" [(.Y [(.Z (.J 1) (.X 0)),(.J 4)]),(.W [])]) (Bn cO (k::aC) left dz (A (am f)) bt) z (.J p) (z++[.W []])->aL[p]?=A (.W ((ae k f).map T.J))->False):False:=bi.d.elim λag q=>(q.2.2 k X f Y L).elim λp e=>by have Z:=P.at q.1;have c:=Gd (B:=B) (oE:=.J (D z)) (eQ (iW:=[.W []]) Z) (k:=.Y [k.J,am f]) ⟨JM (U k X),λx Q=>q.2.1 x Q⟩;rw[e.1]at c;exact d p (iL (av y) (.get Z) (aU (eL (aU (fo (av (i:=1) y) cE .Y (jx y y)) (aU (av y) bc)) hq) (aU (gB bc (cW _)) bc)) c) e.2
theorem z!(P:cq B)(c:∀l∈df,l.co<=5)(C:G<=4)(X:∀bI∈k::aC,bI∈df)(Z:(k::aC).length<=50)(U:left<=G)(E:(jk ae (k::aC) left).length<=1000)(bi:rn df G ae cO z)(h:∀f ah,aM cI z ah->CW B n ae cO aC (left-f) ah):CW B (n+1) ae cO (k::aC) left z:=λA0=>by
 have t:=hz (ft:=.Eq) (av (B:=B) (n:=n) (i:=1) (N:=[A (.J cO),A (.Y ((k::aC).map T.J)),A (am left),aj,aj,aj]) (z:=z) y) (eL bc (cW _)) (wX ⟨(show V.fu 99 ((k::aC).map T.J)=ak from jS λH u=>(bJ.mp u).elim λs q=>q.2▸s.hF (aq (dn (c s (X s q.1))) (aF y))),y,.inl ⟨_,_,y,y⟩⟩);rw[show V.dE (.Y ((k::aC).map T.J)) (.Y [])=aW from V.mX.mpr λe=>by cases V.Y.inj e]at t;refine ox (B:=B) (n:=n) (i:=4) (g:=am) (b:=[.eP (.W 5) .bE (.eO (.J 0) "get" [(.Y [(.Z (.J 1) (.X 0)),(.J 4)]),(.W [])]) Kj]) (N:=Bn cO (k::aC) left (D z) aj aj) (ao:=λp N ah=>∃bO,CX cO (k::aC) left bO z (p.flatMap λf=>(ae k f).flatMap λt=>(jk ae aC (left-f)).map (t::·)) N ah)
  (xu (d:=.cb .Add (.J 2) (.X 1)) (k:=left) (en (av y) cE (sE (j:=1))) (er (aq U C) (aF y))) (λa a a a=>trivial) ⟨aj,.mk y dt aM.dd.dS (cu _)⟩ (λpre f r N ah e ao bI=>ao.elim λbO ao=>ao.rec λ{dz bt} bP ab aY br=>?_) λbY O I ao=>ao.elim λbO ao=>ao.rec λ{dz bt} bP ab aY br=>?_
 ·obtain rfl:=bP;have aE:=aq (uk (F:=λf=>(ae k f).flatMap λt=>(jk ae aC (left-f)).map (t::·)) e) E;have w:=MU.mp (kC e);have L:f<=left:=hl (Ho w.2 (hN 1 left));rw[ul]at bI;generalize(pre.flatMap λf=>(ae k f).flatMap λt=>(jk ae aC (left-f)).map (t::·))=bN at ab aE bI;refine Z? (B:=B) (n:=n) (aC:=aC) (left:=left) (bt:=bt) (dz:=dz) c bi aY (X k (.head _)) w.1 (aq L U) Z λp dG Q=>ox (i:=5) (g:=T.J) (b:=Kj) (ao:=λM N aV=>CX cO (k::aC) left (A (am f)) z (bN++M.flatMap λt=>(jk ae aC (left-f)).map (t::·)) N aV) (ff dG (gD (eQ (aY.at Q)))) (λa a a ao=>ao.rec λa a Y a=>Y.at Q) (by rw[Wx,eF];exact .mk y (eQ ab) aY.dS br) (λM t A1 N aV bq ao Y=>?_) λeg aV q ao=>bI _ aV (bv q eW) ⟨_,ao⟩;have al:=uk (F:=λt=>(jk ae aC (left-f)).map (t::·)) bq;rw[bK]at al;refine z? (t:=t) Z L (h f) (λai o=>by rw[TZ _ _ ai o];exact jo Z) (by rw[cp,jn];exact aq (gE al _) aE) ao λeg cD x ao=>Y eg cD x ?_;rw[ul,←ha];exact ao
 ·obtain rfl:=bP;exact A0 O dz (ep (P.b y) y (bv (hQ t) (bv (fX (i:=3) (gB bc (cW _))) (bv I (fy (av y))))) (.inl y)) aY ab br
theorem w6(P:cq B)(Y:∀l∈df,l.co<=5)(aT:∀aC left,(∀k∈aC,k∈df)->left<=G->(jk ae aC left).length<=1000)(U:G<=4)(aC:List T):∀(left:Nat) (z:aA),(∀k∈aC,k∈df)->D aC<=50->left<=G->rn df G ae cO z->CW B (D aC+1) ae cO aC left z:=by
 induction aC with
 |nil=>intro left z _ _ _ _ d;have t:=hz (ft:=.Eq) (av (B:=B) (n:=0) (i:=1) (N:=[A (.J cO),A (.Y []),A (am left),aj,aj,aj]) (z:=z) y) (eL bc (cW _)) (wX ⟨y,y,.inl ⟨_,_,y,y⟩⟩);rw[V.ms]at t;have r:=en (ft:=.Mult) (gB (aU (eL (B:=B) (n:=0) (N:=[A (.J cO),A (.Y []),A (am left),aj,aj,aj]) (z:=z) bc (cW _)) bc) hL) (gV DS (aU (yU (av (i:=2) y) (cE (i:=0)) (zF (i:=left) (j:=0))) bc) Gg) (Hx dt KF hL);rw[B? (ae:=ae)]at r;exact d _ _ (ep (P.b y) y (lE (ku t (fy r)) nj) (.inl y)) aM.dd.dS.dS dt (by rw[cp];exact dP _ _)
 |cons k aC F=>exactλleft z X Z b bi=>z! P Y U X Z b (aT (k::aC) left X b) bi λf ah aY=>F (left-f) ah (λk h=>X k (.tail _ h)) (jo Z) (aq (mP _ _) b) (bi.cz aY)
end
section
variable{bS:Nat} {aC:List T} {s t k:T}
abbrev jD:=T×Nat×List T
noncomputable def mc(x:jD):V:=.Y [x.1.J,ce x.2.1,.Y (x.2.2.map T.J)]
noncomputable def uC(M:T->T)(t:T):jD:=(M t,t.op,t.X.map M)
theorem z6{a b:List T}(h:a.map T.J=b.map T.J):a=b:=(uV λx x=>T.lD).mp h
theorem abG{x Q:jD}(ab:x.2.1<5)(ac:Q.2.1<5)(h:mc x=mc Q):x=Q:=by have h:=fH (V.Y.inj h);have g:=fH h.2;exact jz (T.lD h.1) (jz (tj ab ac g.1) (z6 (V.Y.inj (fH g.2).1)))
theorem J_(x Q:jD):V.ok (mc x) (mc Q):=⟨_,y,λz=>⟨λz=>⟨λz=>trivial,λz=>⟨_,y,SI (λt z=>t.KD) _⟩⟩,λz=>⟨_,y⟩⟩,λz=>x.1.KD Q.1⟩
theorem Rz{bw:Type}{p:bw->Prop}{a b c:bw}(aE:p a)(al:p b)(X:p c)(x:bw)(h:x∈[a,b,c]):p x:=(ee.mp h).elim (λe=>e▸aE) λh=>(ee.mp h).elim (λe=>e▸al) λh=>cB.mp h▸X
theorem abH{x:jD}(ab:x.1.co<=5)(ac:∀k∈x.2.2,k.co<=5):V.hm 8 (mc x)=ak:=by show V.iF 7 [x.1.J,ce x.2.1,.Y (x.2.2.map T.J)]=ak;exact xS (Rz (x.1.hash (aq (dn ab) (aF y))) y (show V.iF 6 (x.2.2.map T.J)=ak from xS λH Z=>(bJ.mp Z).elim λk q=>q.2▸k.hash (dn (ac k q.1))))
theorem abI{x:jD}(ab:x.1.co<=5)(ac:∀k∈x.2.2,k.co<=5):V.gh 100 (mc x)=ak:=by show V.fu 99 [x.1.J,ce x.2.1,.Y (x.2.2.map T.J)]=ak;exact jS (Rz (x.1.hF (aq (dn ab) (aF y))) y (show V.fu 98 (x.2.2.map T.J)=ak from jS λH Z=>(bJ.mp Z).elim λk q=>q.2▸k.hF (aq (dn (ac k q.1)) (aF y))))
theorem VD(Y:ik U)(aR:z[bS]?=A (.W (U.map T.J)))(A0:hw U M be z)(R:∀t∈U,M t∈U)(C:N[4]?=A (A (.J bS)))(o:ho N [aj,A 8]=[aj,A (.J be)])(E:D U<=18)(A2:∀(O:aA) (p:Nat) (gm:List jD),bW B n (.BM (.dy (.W 0) .bE (.J 4) [] (.di (.Y [(.Z (.J 1) (.J 0)),(.Z (.J 0) (.X 0)),(.bR "tuple" [(.dy (.W 0) .bE (.eb (.J 0) (.X 1) .bM) [] (.di (.Z (.J 1) (.J 0))) [aj,A 1])])])) [aj,A 8])) N z (.J p) O->aM cI z O->O[p]?=A (.W (gm.map mc))->gm.Nodup->(∀x,x∈gm↔∃t∈U,x=uC M t)->False):False:=by
 refine oe (B:=B) (n:=n) (k:=.bE) (e:=.J 4) (bP:=.Y [(.Z (.J 1) (.J 0)),(.Z (.J 0) (.X 0)),(.bR "tuple" [(.dy (.W 0) .bE (.eb (.J 0) (.X 1) .bM) [] (.di (.Z (.J 1) (.J 0))) [aj,A 1])])]) (dc:=[aj,A 8]) (ax:=[A (.J be)]) (N:=N) (g:=T.J) (f:=λt=>mc (uC M t)) (aS:=U) o
  (ff (av C) (gD aR)) (ei (aq E (aF y))) (λd k=>k.at aR) (λt m aV A1 bI=>?_) λah c aY ab=>?_
 ·have bG:=A0.cz A1 trivial;have I:D t.X<=2:=t.lu▸kv _;have P:=av (B:=B) (n:=n) (i:=0) (N:=[A t.J,A (.J be)]) (z:=aV) (H:=.Y (ce t.op::t.X.map T.J)) (bA (λH=>A (A H)) t.lC);have w:=Co (B:=B) (n:=n) (oH:=.bE) (e:=.eb (.J 0) (.X 1) .bM) (bP:=.Z (.J 1) (.J 0)) (dc:=[aj,A 1]) (ax:=[A (.J be)]) (N:=[A t.J,A (.J be)]) (g:=T.J) (f:=λk=>(M k).J) (aS:=t.X) y
   (ff (lG (k:=1) P (aF y) Eo) qU) (ei (aq I (aF y))) (λd=>trivial) λk X l=>(bG.cz (F:=cI) .cS trivial).get Y (Y.aP t m k X) (av (i:=1) y) (av (i:=0) y)
  have q:=eL (aU (bG.get Y m (av (B:=B) (n:=n) (i:=1) y) (av (i:=0) y)) (aU (fo P (cE (i:=0)) .Y (jx y y)) (aU (gV rv (aU w.ev bc) (sh dt (gu (ei (aq I (aF y)))))) bc))) xW;rw[show(t.X.map λk=>(M k).J)=(t.X.map M).map T.J by rw[ed];rfl]at q;exact bI _ q .cS
 have X:∀t∈U,∀k∈(uC M t).2.2,k.co<=5:=λt m k X=>(bJ.mp X).elim λj q=>q.2▸Y.co _ (R j (Y.aP t m j q.1));refine(Jy (U.map λt=>mc (uC M t))).elim λr W=>(FD (f:=mc) (S:=λx=>∃t∈U,x=uC M t) (r:=r) λH Z=>(bJ.mp ((W.mem H).mp Z)).elim λt q=>⟨_,q.2,t,q.1,y⟩).elim λgm e=>?_;have J:=e.2;rw[e.1]at W;exact A2 _ _ gm (Gv (t:=3) (u:=3) c.ev ab (.inl ⟨y,gu E⟩) (λH Z=>(bJ.mp Z).elim λt q=>q.2▸abH (Y.co _ (R t q.1)) (X t q.1)) (⟨by decide,by decide,λH Z=>(bJ.mp Z).elim λt q=>q.2▸y,λd H Z=>(bJ.mp Z).elim λt q=>q.2▸⟨_,_,y,T.cls⟩,jS λH Z=>(bJ.mp Z).elim λt q=>q.2▸abI (Y.co _ (R t q.1)) (X t q.1),λa aE b al=>(bJ.mp aE).elim λt q=>(bJ.mp al).elim λs A3=>q.2▸A3.2▸J_ _ _⟩) W) aY.dS dt (wG mc (λa b h e=>h (bA mc e)) W.nodup) λx=>⟨J x,λh=>h.elim λt h=>(bJ.mp ((W.mem (mc x)).mpr (h.2▸gd (f:=λt=>mc (uC M t)) h.1))).elim λQ q=>(J Q q.1).elim λs e=>abG (e.2▸s.pK) (h.2.symm▸t.pK) q.2▸q.1⟩
end
variable{gm:List jD}
section
variable{bS:Nat} {aC:List T} {s t k l:T} {pre:List jD} {x:jD}
noncomputable def js(gm:List jD)(ae:T->Nat->List T)(G:Nat)(l:T):List T:=(gm.filter λx=>V.dE x.1.J l.J).flatMap λx=>(jk ae x.2.2 G).map (gZ x.2.1)
theorem Lb{b:List jD}:js (pre++b) ae G l=js pre ae G l++js b ae G l:=by unfold js;rw[MI,wH]
theorem TH:js [x] ae G x.1=(jk ae x.2.2 G).map (gZ x.2.1):=by unfold js;rw[MK (p:=λQ:jD=>V.dE Q.1.J x.1.J) V.ms];exact eF _
theorem TG(h:x.1≠l):js [x] ae G l=[]:=by unfold js;rw[MJ (p:=λQ:jD=>V.dE Q.1.J l.J) λq=>h (T.lD (V.fE.mp q))];rfl
theorem aaj(h:¬∃x∈pre,x.1=l):js pre ae G l=[]:=by unfold js;rw[GX.mpr λx Z q=>h ⟨x,Z,T.lD (V.fE.mp q)⟩];rfl
structure kr(df:List T)(G:Nat)(ae:T->Nat->List T)(pre:List jD)(ag:List (V×V))(z:aA):Prop where
 cls:∀x∈ag,gs x.1=3
 J:D ag<=18*G+D pre
 old:∀l∈df,∀h,1<=h->h<=G->∃p,cX ag (.Y [l.J,am h])=A (.J p)/\z[p]?=A (.W ((ae l h).map T.J))
 now:∀l,(∃x∈pre,x.1=l)->∃p,cX ag (.Y [l.J,am (G+1)])=A (.J p)/\z[p]?=A (.W ((js pre ae G l).map T.J))
 no:∀l:T,(¬∃x∈pre,x.1=l)->cX ag (.Y [l.J,am (G+1)])=aj
 later:∀(l:T) h,G+1<h->cX ag (.Y [l.J,am h])=aj
theorem kr.cz(h:kr df G ae pre ag z)(k:∀(a:Nat) (l:List V),z[a]?=A (.W l)->ah[a]?=A (.W l)):kr df G ae pre ag ah:=⟨h.cls,h.J,λl Z i ab ac=>(h.old l Z i ab ac).imp λp q=>⟨q.1,k _ _ q.2⟩,λl Y=>(h.now l Y).imp λp q=>⟨q.1,k _ _ q.2⟩,h.no,h.later⟩
theorem v2{a b:T}(h:V.Y [a.J,am i]=V.Y [b.J,am j]):a=b/\i=j:=have h:=fH (V.Y.inj h);⟨T.lD h.1,mA (fH h.2).1⟩
theorem kr.put(h:kr df G ae pre ag z)(aE:z[a]?=A (.W ((js (pre++[x]) ae G x.1).map T.J))):kr df G ae (pre++[x]) (hp ag (.Y [x.1.J,am (G+1)]) (.J a)) z:=by
 have b:∀(l:T) (i:Nat),¬(l=x.1/\i=G+1)->cX (hp ag (.Y [x.1.J,am (G+1)]) (.J a)) (.Y [l.J,am i])=cX ag (.Y [l.J,am i]):=λl i J=>by
  rw[AU,bV λq=>J ((v2 (V.fE.mp q)).imp mM mM)]
 refine⟨vJ (P:=λk=>gs k=3) h.cls y,aq QQ (by rw[cp];exact dn h.J),λl Z au ab ac=>?_,λl X=>?_,λl J=>?_,λl i aB=>?_⟩
 ·rw[b l au λq=>aG q.2 (eC (pe ac))];exact h.old l Z au ab ac
 ·by_cases e:l=x.1
  ·rw[e];exact⟨a,AU.trans (cg V.ms),aE⟩
  ·rw[b l _ λq=>e q.1,Lb,TG (oh e),eF];exact X.elim λQ Y=>h.now l ⟨Q,(ew.mp Y.1).elim id λh=>aG (cB.mp h▸Y.2.symm) e,Y.2⟩
 ·exact(b l _ λq=>J ⟨x,jl _ (.head _),q.1.symm⟩).trans (h.no l λh=>J (h.imp λQ q=>⟨iZ _ q.1,q.2⟩))
 ·rw[b l i λq=>aG q.2 (fU aB)];exact h.later l i aB
theorem kr.TI(h:kr df G ae pre ag z)(I:z[cO]?=A (.Z ag)):rn df G ae cO z:=⟨⟨ag,I,h.cls,h.old⟩⟩
structure sC where
 (acD acE acF acG acH acI acJ acK acL:Option V)
noncomputable def qE(q:sC)(gT cO:Nat)(gM it iu iv:Option V):bk:=[q.acD,q.acE,q.acF,q.acG,q.acH,q.acI,q.acJ,q.acK,q.acL,A (.J gT),A (.J cO),gM,it,iu,iv,aj,aj,aj,aj,aj]
noncomputable def BF:S:=.mE (.J 10) (.Y [(.J 12),(.J 11)]) (.cb .Add (.eO (.J 10) "get" [(.Y [(.J 12),(.J 11)]),(.W [])]) (.dy (.W 0) .bE (.fg 54 [(.J 10),(.J 14),(.cb .Sub (.J 11) (.X 1))]) [] (.di (.cb .Add (.Y [(.J 1)]) (.J 0))) [aj,A 13]))
theorem kr.got(af:kr df G ae pre ag z):∃w,(cX ag (.Y [x.1.J,am (G+1)])).getD (.J (D z))=.J w/\(z++[.W []])[w]?=A (.W ((js pre ae G x.1).map T.J)):=(oR (∃Q∈pre,Q.1=x.1)).elim (λe=>(af.now _ e).imp λw e=>⟨by rw[e.1];rfl,eQ e.2⟩) λe=>⟨D z,by rw[af.no _ e];rfl,by rw[aaj e];exact dt⟩
noncomputable def Fk(q:sC)(gT cO G:Nat)(x:jD):bk:=qE q gT cO (A (am (G+1))) (A x.1.J) (A (ce x.2.1)) (A (.Y (x.2.2.map T.J)))
theorem aam(P:cq B){q:sC}(u:∀l∈df,l.co<=5)(aT:∀aC left,(∀k∈aC,k∈df)->left<=G->(jk ae aC left).length<=1000)(M:G<=3)(A8:x.1∈df)(X:∀k∈x.2.2,k∈df)(A5:x.2.1<5)(d:x.2.2.length=dN x.2.1)(A6:D pre<=18)(al:(js (pre++[x]) ae G x.1).length<=10000)(I:z[cO]?=A (.Z ag))(af:kr df G ae pre ag z)(A4:4<=n)(B0:∀O gP,eM B n BF (Fk q gT cO G x) z .X (Fk q gT cO G x) O->O[cO]?=A (.Z gP)->kr df G ae (pre++[x]) gP O->aM (·≠cO) z O->False):False:=by
 have A2:iM ag (.Y [x.1.J,am (G+1)]):=⟨JM (u _ A8),λQ A9=>af.cls Q A9⟩
 have Z:aM cI z (z++[.W []]):=.cS;have c:=Gd (B:=B) (oE:=.J (D z)) (Z.at I) A2;have bG:x.2.2.length<=2:=d▸kv _;refine(af.got (x:=x)).elim λw J=>?_;have p:=J.2;rw[J.1]at c;have E:=iL (N:=Fk q gT cO G x) (n:=n) (av (i:=10) y) (.get I) (aU (eL (aU (av (i:=12) y) (aU (av (i:=11) y) bc)) hq) (aU (gB bc (cW _)) bc)) c;have s:=af.cz (ah:=z++[.W []]) λa l h=>Z.at h;have t:=Z.at I;clear J;generalize z++[.W []]=ah at E s t p Z;refine w6 (df:=df) (ae:=ae) (G:=G) P u aT (lg M) x.2.2 G ah X (aq bG (aF y)) (cu _) (s.TI t) λaV et ax A0 ac b=>?_;have ax:=ax.mono (G:=n) (aq (dn bG) (jo A4));refine oe (B:=B) (n:=n) (k:=.bE) (e:=.fg 54 [(.J 10),(.J 14),(.cb .Sub (.J 11) (.X 1))]) (bP:=.cb .Add (.Y [(.J 1)]) (.J 0)) (dc:=[aj,A 13]) (ax:=[A (ce x.2.1)]) (N:=Fk q gT cO G x) (z:=ah) (g:=hW) (f:=λai=>(gZ x.2.1 ai).J) (aS:=jk ae x.2.2 G) y
  (ff (jK (aU (av y) (aU (av y) (aU (en (av y) cE (kp (i:=G+1) (j:=1) (gF 1 G))) bc))) ax) (gD ac)) (hg (aq (aT _ _ X (cu _)) (aF y))) (λz k=>k.at ac) (λai A7 z k bI=>?_) λcD A3 A1 bo=>?_
 ·have U:=TZ _ _ ai A7;rw[ED (x:=(x.2.1,[])) A5 (U.trans d)]at bI;exact bI z (en (eL (aU (av y) bc) hL) (av y) (oj (l:=[ce x.2.1]) (G:=ai.map T.J) (ei (by rw[bK,U];exact aq (gE bG 1) (aF y))))) .dd
 have v:(js pre ae G x.1).map T.J++(jk ae x.2.2 G).map (λai=>(gZ x.2.1 ai).J)=(js (pre++[x]) ae G x.1).map T.J:=by
  rw[Lb,TH,eI,ed];rfl
 have r:=sD (B:=B) (A1.at (A0.at p)) bo (by rw[←cp,v,bK];exact hg al);rw[v]at r;have Y:aM cI ah (cD++[.W ((js (pre++[x]) ae G x.1).map T.J)]):=(A0.trans A1).dS;have dG:=en E A3.ev r;have L:=dt (z:=cD) (C:=.W ((js (pre++[x]) ae G x.1).map T.J));generalize cD++[cT.W ((js (pre++[x]) ae G x.1).map T.J)]=B1 at dG L Y;have W:=Y.at t;exact B0 _ _ (sT dG (av (i:=10) y) (eL (aU (av (i:=12) y) (aU (av (i:=11) y) bc)) hq) (uR W A2 (ei (aq af.J (aq (ia (nx 18 M) A6) (aF y)))))) (gR W) (((s.cz λa l h=>Y.at h).put L).cz λa l h=>fL h (kE W h pF.symm)) (((Z.trans Y).of (F:=(·≠cO))).gN λh=>h y)
end
section
variable{bS:Nat} {aC:List T} {s t k l:T} {pre:List jD} {x:jD} {g:eE} {dM:T->Nat}
noncomputable def EJ(gm:List jD)(ae:T->Nat->List T)(G:Nat)(l:T)(h:Nat):List T:=if h=G+1 then js gm ae G l else ae l h
theorem kr.X(af:kr df G ae gm ag z)(c:∀l∈df,∃x∈gm,x.1=l)(f:D gm<=18):kr df (G+1) (EJ gm ae G) [] ag z:=by
 refine⟨af.cls,aq af.J (by rw[Dg];exact gE f _),λl Z h ab ac=>?_,λl Y=>Y.elim λa h=>afk h.1,λl a=>af.later l _ (jO _),λl h J=>af.later l h (pd J)⟩;unfold EJ;by_cases e:h=G+1
 ·rw[cg e,e];exact af.now l (c l Z)
 ·rw[bV e];exact af.old l Z h ab (hl (qY ac e))
structure vz(g:eE)(dM:T->Nat)(gm:List jD)(df:List T):Prop where
 gY:eh g
 inj:∀l∈df,∀dB∈df,dM l=dM dB->l=dB
 Z:∀x∈gm,x.1∈df/\∀k∈x.2.2,k∈df
 aa:gm.Nodup
 mem:∀l∈df,∀Q:bl,g (dM l) Q↔∃x∈gm,x.1=l/\Q=(x.2.1,x.2.2.map dM)
 has:∀l∈df,∃x∈gm,x.1=l
def sl(g:eE)(dM:T->Nat)(df:List T)(ae:T->Nat->List T)(G:Nat):Prop:=∀l∈df,∀h,1<=h->h<=G->gC g [dM l] h ((ae l h).map λt=>[t])
theorem z4{f:T->Nat}{a:List T}:∀{b:List T},(∀x∈a,∀Q∈b,f x=f Q->x=Q)->a.map f=b.map f->a=b:=by
 induction a with
 |nil=>exactλz e=>(zo.mp e.symm).symm
 |cons x a F=>
  intro b h e;cases b with
  |nil=>exact aG e (ju _ _)
  |cons Q b=>rw[h x (.head _) Q (.head _) (fH e).1,F (λx Z Q Y=>h x (.tail _ Z) Q (.tail _ Y)) (fH e).2]
theorem vz.row(bi:vz g dM gm df)(I:sl g dM df ae G)(H:l∈df):gC g [dM l] (G+1) ((js gm ae G l).map λt=>[t]):=by
 refine(mJ (λc=>(oR (∃l∈df,dM l=c)).elim (λh=>h.imp λl h dB au e=>bi.inj dB au l h.1 (e.trans h.2.symm)) λh=>⟨l,λdB au e=>aG ⟨dB,au,e⟩ h⟩:∀c:Nat,∃l,∀dB∈df,dM dB=c->dB=l)).elim λo aB=>?_;have L:∀aC:List T,(∀k∈aC,k∈df)->(aC.map dM).map o=aC:=λaC h=>by
  exact(ed ..).trans ((lb λk X=>(aB (dM k) k (h k X) y).symm).trans (zp _))
 have de:∀x∈gm.filter (λx=>V.dE x.1.J l.J),x∈gm/\x.1=l:=λx Z=>⟨(jw.mp Z).1,T.lD (V.fE.mp (jw.mp Z).2)⟩
 have J:∀x,x∈gm->x.1=l->x∈gm.filter (λx=>V.dE x.1.J l.J):=λx ab ac=>jw.mpr ⟨ab,V.fE.mpr (bA T.J ac)⟩;have d:=bi.aa.filter (λx=>V.dE x.1.J l.J);unfold js;generalize gm.filter (λx=>V.dE x.1.J l.J)=cd at de J d;have P:=λ{x} (Z:x∈cd)=>(bi.Z x (de x Z).1).2;have e:=Ee (g:=g) (c:=dM l) (n:=G) (r:=cd.map λx=>(x.2.1,x.2.2.map dM)) (R:=λQ=>jk ae (Q.2.map o) G) bi.gY ⟨iV d λx Z Q Y e=>jz ((de x Z).2.trans (de Q Y).2.symm) (jz (XG.mp e).1 (z4 (λa aE b al=>bi.inj a (P Z a aE) b (P Y b al)) (XG.mp e).2)),λQ=>?_⟩ λQ Y=>?_
 ·rw[wI]at e;rw[uU];refine(bA (gC g [dM l] (G+1)) (Jz λx Z=>?_)).mp e;show(jk ae ((x.2.2.map dM).map o) G).map _=_;rw[L _ (P Z),ed];rfl
 ·rw[bi.mem l H];exact⟨λh=>(bJ.mp h).elim λx q=>⟨x,(de x q.1).1,(de x q.1).2,q.2.symm⟩,λh=>h.elim λx h=>bJ.mpr ⟨x,J x h.1 h.2.1,h.2.2.symm⟩⟩
 ·refine(bJ.mp Y).elim λx q=>?_;rw[←q.2];show gC g (x.2.2.map dM) G (jk ae ((x.2.2.map dM).map o) G);rw[L _ (P q.1)];exact TY I x.2.2 G (P q.1) (cu _)
theorem vz.Eb(bi:vz g dM gm df)(Q:sl g dM df ae G):sl g dM df (EJ gm ae G) (G+1):=λl Z h ab ac=>by
 unfold EJ;by_cases e:h=G+1
 ·rw[cg e,e];exact bi.row Q Z
 ·rw[bV e];exact Q l Z h ab (hl (qY ac e))
def xq(q:sC)(df:List T)(G:Nat)(ae:T->Nat->List T)(gT cO:Nat)(aL:aA)(pre:List jD)(N:bk)(z:aA):Prop:=∀{P:Prop},(∀{it iu iv:Option V} {ag:List (V×V)},N=qE q gT cO (A (am (G+1))) it iu iv->z[cO]?=A (.Z ag)->kr df G ae pre ag z->aM (·≠cO) aL z->P)->P
theorem xq.mk{q:sC}{df:List T}{G:Nat}{ae:T->Nat->List T}{gT cO:Nat}{aL:aA}{pre:List jD}{N:bk}{z:aA}{ag:List (V×V)}(h:N=qE q gT cO (A (am (G+1))) it iu iv)(Z:z[cO]?=A (.Z ag))(Y:kr df G ae pre ag z)(J:aM (·≠cO) aL z):xq q df G ae gT cO aL pre N z:=λe=>e h Z Y J
theorem aai{b:Nat}{pre:List jD}(h:∀x∈pre,(jk ae x.2.2 G).length<=b):(js pre ae G l).length<=b*D pre:=by
 induction pre with
 |nil=>exact cW _
 |cons x pre F=>
  have ac:(js [x] ae G l).length<=b:=by
   by_cases e:x.1=l
   ·rw[←e,TH,bK];exact h x (.head _)
   ·rw[TG e];exact cW _
  rw[show x::pre=[x]++pre from y,Lb,cp,cp,Dg];exact ia (aq ac (fi (Ng b).symm)) (F λQ Y=>h Q (.tail _ Y))
theorem aal(P:cq B){q:sC}(bi:vz g dM gm df)(o:sl g dM df ae G)(C:G<=3)(c:∀l∈df,l.co<=5)(w:∀x∈gm,x.2.1<5/\x.2.2.length=dN x.2.1)(E:D gm<=14)(H:z[gT]?=A (.W (gm.map mc)))(I:z[cO]?=A (.Z ag))(af:kr df G ae [] ag z)(j:4<=n)(d:∀bY O,eM B n (.eP (.Y [12,13,14]) .bE (.J 9) [BF]) (qE q gT cO (A (am (G+1))) it iu iv) z .X bY O->xq q df G ae gT cO z gm bY O->False):False:=by have F:∀aC left,(∀k∈aC,k∈df)->left<=G->(jk ae aC left).length<=625:=λaC left X Z=>Jv bi.gY (aq Z (lg C)) (TY o aC left X Z);refine AA (B:=B) (n:=n) (cQ:=.Y [12,13,14]) (b:=[BF]) (g:=mc) (ao:=xq q df G ae gT cO z) (ff (av (i:=9) (N:=qE q gT cO (A (am (G+1))) it iu iv) y) (gD H)) (λa a a ao=>ao λa a a k=>k.get _ _ (kE H I pF) H) (xq.mk y I af aM.dd) (λpre x r N ah e ao k=>ao λ{it iu iv ag} bP ab v aY=>?_) d;obtain rfl:=bP;have bq:(pre++[x])++r=gm:=(ha ..).trans e;have L:=kC e;exact aam (gT:=gT) P (q:=q) c (λaC left X Z=>aq (F aC left X Z) (aF y)) C (bi.Z x L).1 (bi.Z x L).2 (w x L).1 (w x L).2 (aq (IL e (eF _)) (aq E (aF y))) (aq (aai λQ Y=>F _ _ (bi.Z Q (bq▸iZ r Y)).2 (cu _)) (aq (nx 625 (aq (IL bq (eF _)) E)) (aF y))) ab v j λaV f s ac u h=>k _ _ aV (.Y (is:=[12,13,14]) .Y y) (bv s eW) (xq.mk y ac u (aY.trans h))
def Ao(q:sC)(g:eE)(dM:T->Nat)(df:List T)(gT cO:Nat)(aL:aA)(G:Nat)(N:bk)(z:aA):Prop:=∀{P:Prop},(∀{ae:T->Nat->List T} {ag:List (V×V)} {gM it iu iv:Option V},N=qE q gT cO gM it iu iv->z[cO]?=A (.Z ag)->kr df G ae [] ag z->sl g dM df ae G->aM (·≠cO) aL z->P)->P
theorem Ao.mk{q:sC}{g:eE}{dM:T->Nat}{df:List T}{gT cO:Nat}{aL:aA}{G:Nat}{N:bk}{z:aA}{ae:T->Nat->List T}{ag:List (V×V)}(h:N=qE q gT cO gM it iu iv)(Z:z[cO]?=A (.Z ag))(Y:kr df G ae [] ag z)(J:sl g dM df ae G)(X:aM (·≠cO) aL z):Ao q g dM df gT cO aL G N z:=λe=>e h Z Y J X
theorem KV{n:Nat}{p r:List Nat}{x:Nat}(e:p++x::r=lK 1 n):D p<n/\x=D p+1:=by
 have q:(lK 1 n)[D p]?=A x:=by rw[←e,iN (cu _),kb];rfl
 have l:=gQ q;rw[List.length_range']at l;rw[List.getElem?_range' l,zz,hN]at q;exact⟨l,(dk q).symm⟩
theorem w5(P:cq B){q:sC}(bi:vz g dM gm df)(c:∀l∈df,l.co<=5)(m:∀x∈gm,x.2.1<5/\x.2.2.length=dN x.2.1)(E:D gm<=14)(Y:z[gT]?=A (.W (gm.map mc)))(I:z[cO]?=A (.Z []))(Q:4<=n)(H:∀ae F v u C O,eM B n (.eP (.W 11) .bE (.bR "range" [(.X 1),(.X 5)]) [.eP (.Y [12,13,14]) .bE (.J 9) [BF]]) (qE q gT cO gM it iu iv) z .X (qE q gT cO F v u C) O->rn df 4 ae cO O->sl g dM df ae 4->aM (·≠cO) z O->False):False:=by
 refine ox (B:=B) (n:=n) (i:=11) (g:=am) (aS:=lK 1 4) (b:=[.eP (.Y [12,13,14]) .bE (.J 9) [BF]]) (N:=qE q gT cO gM it iu iv) (ao:=λp N ah=>Ao q g dM df gT cO z (D p) N ah)
  (xu (d:=.X 5) (k:=4) cE (aF y)) (λa a a a=>trivial) (Ao.mk (ae:=λa a=>[]) y I ⟨λa=>afk,cW _,λl a h ab ac=>aG (ef ab ac) (ic 0),λl h=>h.elim λa h=>afk h.1,λa a=>y,λa a a=>y⟩ (λl a h ab ac=>aG (ef ab ac) (ic 0)) aM.dd)
  (λp x r N ah e ao k=>ao λ{ae ag gM it iu iv} bP ab Z o aY=>?_) λbY O f ao=>ao λ{ae ag gM it iu iv} bP ab Z o aY=>?_
 ·obtain rfl:=bP;have w:=KV e;obtain rfl:=w.2;refine aal (n:=n) (it:=it) (iu:=iu) (iv:=iv) (q:=q) P bi o (hl w.1) c m E (aY.get _ _ (kE Y I pF) Y) ab Z Q λeg aV f ao=>ao λ{it iu iv ag} bP ac X L=>?_;obtain rfl:=bP;exact k _ aV (bv f eW) (((cp ..)).symm▸Ao.mk y ac (X.X bi.has (aq E (aF y))) (bi.Eb o) (aY.trans L))
 ·obtain rfl:=bP;exact H ae gM it iu iv O f (Z.TI ab) o aY
end
section
variable{bS k:Nat} {aC:List T} {s t l:T} {aa:List bl}
noncomputable def qy(gv cF bO cj cC eo:Option V):bk:=[gv,A (.J 6),A (.J 7),cF,bO,aj,cj,cC,eo,aj,aj,aj,aj,aj,aj,aj,aj,aj,aj,aj]
noncomputable def z1:bk:=[A (.J 0),aj,aj,aj,aj,aj,aj,aj,aj,aj,aj,aj,aj,aj,aj,aj,aj,aj,aj,aj]
theorem v8(P:cq B)(Z:D is<=1000)(d:∀(z:aA) (cm:List Int),eM B (n+2) (.lm 1 2 (.fg 49 [(.J 0)]) (.cS 4 [])) z1 [.arg (is.map .X)] .X (qy (A (.J 0)) aj aj aj aj aj) z->fV cm 0 z->hv (·<7) [] (λx x=>0) z->False):False:=w3 (B:=B) (n:=n+1) P Z λdX cx cF bO bt cm c h=>d _ cm (rt (eL (aU (jK (aU (av (i:=0) y) bc) c) (aU (t_ P) bc)) hq) (eG y)) ⟨h.c,h.p,h.pos,h.le⟩ O!
structure ID(ai:List T):Prop where
 co:∀t∈ai,t.co<=2
 BP:eS ai<=14
 pos:0<D ai
theorem aaX:∀u:T,∀t∈u.eR,∀s∈t.eR,s∈u.eR:=T.nc λu Z t ab s ac=>(nQ.mp ab).elim (λe=>e▸ac) λh=>h.elim λH q=>nQ.mpr (.inr ⟨H,q.1,Z H q.1 t q.2 s ac⟩)
theorem ll.Z(bi:ll ai U){t:T}(m:t∈U):∀s∈t.eR,s∈U:=λs Z=>(gc.mp ((bi.mem t).mp m)).elim λu h=>(bi.mem s).mpr (gc.mpr ⟨u,h.1,aaX u t h.2 s Z⟩)
theorem ll.j!(bi:ll ai U)(h:ID ai):ik U/\D U<=14/\(∀t∈U,t.co<=2)/\∀t∈U,∀s∈t.eR,s∈U:=
 have Z:=aq bi.J h.BP;have m:=bi.co h.co
 ⟨⟨bi.aa,λt m s Y=>bi.Z m s (nQ.mpr (.inr ⟨s,Y,yw s⟩)),λt h=>aq (m t h) (aF y),aq Z (aF y)⟩,Z,m,λt m=>bi.Z m⟩
theorem ll.pos(bi:ll ai U)(h:ID ai):0<D U:=(GV h.pos).elim λt m=>CO ((bi.mem t).mpr (gc.mpr ⟨t,m,yw t⟩))
def zg(cm:List Int)(aL:aA)(r:List Nat)(l:List V)(z:aA):Prop:=∀{P:Prop},(∀{ai:List T} {k:Nat},l=ai.map T.J->D ai+D r=2->(∀t∈ai,t.co<=2)->eS ai<=7*D ai->fV cm k z->k<=7*D ai->aM (·≠6) aL z->P)->P
theorem zg.mk{cm:List Int}{aL:aA}{r:List Nat}{l:List V}{z:aA}{ai:List T}{k:Nat}(h:l=ai.map T.J)(Z:D ai+D r=2)(Y:(∀t∈ai,t.co<=2))(J:eS ai<=7*D ai)(X:fV cm k z)(W:k<=7*D ai)(j:aM (·≠6) aL z):zg cm aL r l z:=λe=>e h Z Y J X W j
theorem v9(P:cq B)(h:fV cm 0 z)(E:6<=n)(d:∀(O:aA) (ai U:List T) (bS k:Nat),eM B n (.ea 4 (.fg 52 [(.dy (.W 0) .bE (.bR "range" [(.X 2)]) [] (.di (.fg 51 [(.J 1),(.X 2)])) [aj,A 1])])) (qy aj aj aj aj aj aj) z .X (qy aj aj (A (.J bS)) aj aj aj) O->fV cm k O->k<=14->aM (·≠6) z O->ID ai->ll ai U->O[bS]?=A (.W (U.map T.J))->D z<=bS->False):False:=by
 have I:D z≠6:=fU (fA h.p);refine sg (B:=B) (n:=n) (dc:=[aj,A 1]) (ax:=[A (.J 6)]) (N:=qy aj aj aj aj aj aj) (z:=z) (k:=.bE) (e:=.bR "range" [(.X 2)]) (bP:=.fg 51 [(.J 1),(.X 2)]) (aS:=fz 2) (g:=am)
  (ao:=zg cm z) y (xt (k:=2) (cE (i:=2)) (aF y)) (aF y) (λa a a a=>trivial) (zg.mk (ai:=[]) y y (λa=>afk) (cu _) h.dS (cu _) .cS) (λx r l Q j aE bI=>j λ{ai k} o bq p Z L Y u=>?_) λah l c j br=>j λ{ai k} o bq p Z L Y u=>?_
 ·have q:D ai<=2:=bq▸dP _ _;refine w7 P 2 k Q L (aq (iO (aq Y (nx 7 q)) 8) (aF y)) λt A0 M R X w v f F=>bI A0 t.J (jK (aU (av y) (aU cE bc)) (R.mono (aq (aF y) E))) (v.get _ _ I aE) (zg.mk (ai:=ai++[t]) (k:=M) ((eI ..)▸o▸y) ((cp ..)▸(mi (D ai) (D r)).trans bq) (λs H=>(ew.mp H).elim (p s) λH=>cB.mp H▸f) ?_ ⟨fL X.c (fU (fA h.c)),fL X.p I,X.pos,X.le⟩ ?_ ((u.trans v).set (cu _)))
  ·rw[Uj,cp,Dg];exact ia Z (lc F)
  ·rw[cp,Dg];exact aq (lc w) (iO Y 7)
 ·have bq:D ai=2:=bq;rw[bq]at Z Y;obtain rfl:=o;exact x' P 3 ai (.J (D z)) ah (λt m=>pe (p t m)) (aF y) (aq Z (aF y)) (.W br) λaV U bS b C ac bi bG=>d aV ai U bS k (fX (jK (aU c.ev bc) (b.mono (aq (aF y) E)))) (L.cz C.of) Y (u.trans C.of) ⟨p,Z,by rw[bq];decide⟩ bi ac (aq u.le bG)
end
section
variable{bS k:Nat} {aC:List T} {s t l:T} {aa:List bl} {cA:T->Nat}
structure nz(U:List T)(aa:List bl)(cA:T->Nat)(dr:Nat)(z:aA):Prop where
 d:∃ag,z[dr]?=A (.Z ag)/\(∀x∈ag,gs x.1=3)/\∀t∈U,cX ag t.J=A (am (cA t))
 hS:∀t∈U,dO (hC aa) t (cA t)
theorem nz.cz(h:nz U aa cA dr z)(k:aM F z ah)(Z:F dr):nz U aa cA dr ah:=⟨h.d.imp λag q=>⟨k.get _ _ Z q.1,q.2⟩,h.hS⟩
theorem nz.get(h:nz U aa cA p ah)(Z:ik U)(m:t∈U)(ab:bW B n e N z (.J p) z)(ac:bW B n bP N z t.J ah):bW B n (.Z e bP) N z (am (cA t)) ah:=bp λP=>h.d.elim λag q=>P (fo ab ac (.Z q.1) (nA q.1 (Z.key m q.2.1) (q.2.2 t m)))
noncomputable def Ku(x:T×Nat):V:=.Y [x.1.J,am x.2]
def zC(U:List T)(F hi:Nat->Prop)(aL:aA)(r:List T)(l:List V)(z:aA):Prop:=∀{P:Prop},(∀{aK:List (T×Nat)} {aa:List bl} {bQ:Bool->Nat->Nat},aK.map zM++r=U->l=aK.map Ku->(∀x∈aK,dO (hC aa) x.1 x.2)->hv hi aa bQ z->me U aa->aM F aL z->P)->P
theorem zC.mk{U:List T}{F hi:Nat->Prop}{aL:aA}{r:List T}{l:List V}{z:aA}{aK:List (T×Nat)}{aa:List bl}{bQ:Bool->Nat->Nat}(h:aK.map zM++r=U)(Z:l=aK.map Ku)(Y:(∀x∈aK,dO (hC aa) x.1 x.2))(J:hv hi aa bQ z)(X:me U aa)(W:aM F aL z):zC U F hi aL r l z:=λe=>e h Z Y J X W
theorem w_(P:cq B)(A8:ik U)(E:D U<=14)(ac:∀t∈U,t.co<=2)(B1:∀t∈U,∀s∈t.eR,s∈U)(aT:hv F aa bQ z)(A7:me U aa)(Y:z[bS]?=A (.W (U.map T.J)))(A6:F bS)(A9:12<=n)(B3:∀(O:aA) (aa:List bl) (bQ:Bool->Nat->Nat) (cA:T->Nat) (dr dY:Nat),eM B n (.lm 6 7 (.bR "dict" [(.dy (.W 0) .bE (.J 4) [] (.di (.Y [(.J 0),(.bZ (.J 1) 8 [(.J 0)])])) [aj,A 2])]) (.W [])) (qy aj aj (A (.J bS)) aj aj aj) z .X (qy aj aj (A (.J bS)) (A (.J dr)) (A (.J dY)) aj) O->hv (λa=>F a\/(D z<=a/\a<D z+1)\/a=dr\/a=dY) aa bQ O->me U aa->nz U aa cA dr O->O[dY]?=A (.W [])->aM F z O->False):False:=by
 have v:F (D z)\/(D z<=D z/\D z<(z++[cT.W []]).length):=.inr ⟨cu _,by rw[cp];exact jO _⟩;refine sg (B:=B) (n:=n) (dc:=[aj,A 2]) (ax:=[A (.J 7)]) (N:=qy aj aj (A (.J bS)) aj aj aj) (z:=z) (k:=.bE) (e:=.J 4) (bP:=.Y [(.J 0),(.bZ (.J 1) 8 [(.J 0)])]) (aS:=U) (g:=T.J)
  (ao:=zC U F (λa=>F a\/(D z<=a/\a<(z++[cT.W []]).length)) (z++[cT.W []])) y (ff (av y) (gD Y)) (ei (aq E (aF y))) (λd d d ao=>ao λd d d d d k=>k.get _ _ A6 (eQ Y)) (zC.mk (aK:=[]) y y (λd=>afk) (aT.grow (.cS (iW:=[.W []]))) A7 aM.dd)
  (λt r l C3 ao aE bI=>ao λ{aK C1 C2} o p g W A2 B2=>?_) λah l c ao br=>ao λ{aK B5 B7} o p g w A1 aY=>?_
 ·have L:t∈U:=kC o;exact U_ (B:=B) P E t (B1 t L) A2 W λC0 B6 B8 C A4 A0 B9 A5 A3 M=>bI C0 (Ku (t,C)) (eL (aU (av (i:=0) y) (aU (eu (av (i:=1) y) W.hD.du.eA y (P.m y) (aU (av (i:=0) y) bc) (A4.mono (aq (iO (ac t L) 10) A9))) bc)) hq) (M.get _ _ v aE)
   (zC.mk (aK:=aK++[(t,C)]) (aa:=B6) (bQ:=B8) (by rw[eI,ha];exact o) ((eI ..)▸p▸y) (λx Z=>(ew.mp Z).elim (λZ=>GD B9.rH (g x Z)) λZ=>(cB.mp Z)▸A5) (A0.cz (aM.dd.gN λh=>h v)) A3 ((B2.trans (M.Z λd h=>.inl h)).gN (λh=>aG (aT.hD.eJ _ h).2 (ic _))))
 have X:aK.map zM=U:=(eF _).symm.trans o;obtain rfl:=p;have u:((aK.map λx:T×Nat=>(x.1.J,am x.2)).map λx:V×V=>x.1).Nodup:=by
  rw[ed,show((λx:V×V=>x.1)∘λx:T×Nat=>(x.1.J,am x.2))=T.J∘zM from y,←ed,X];exact iV A8.aa λd d d d=>T.lD
 have B0:∀x∈aK,x.1∈U:=λx Z=>X▸gd Z;have be:D aK<=14:=by rw[←X,bK]at E;exact E
 have es:=Ge (B:=B) (b:=D z) (l:=aK.map λx:T×Nat=>(x.1.J,am x.2)) (z:=ah) (by rw[ed];exact br) (KL (fm:=3) (aK.map λx:T×Nat=>(x.1.J,am x.2)) [] (λx Z=>(bJ.mp Z).elim λQ q=>q.2▸⟨Q.1.hash (aq (dn (ac _ (B0 Q q.1))) (aF y)),T.cls⟩) u (by rw[CS,bK];exact ei (aq be (aF y))));rw[CS]at es;refine(mJ (λt=>(oR (t∈U)).elim (λh=>(bJ.mp (X.symm▸h)).elim λx q=>⟨x.2,λd=>q.2▸q.1⟩) λh=>⟨0,λq=>aG q h⟩:∀t:T,∃G,t∈U->(t,G)∈aK)).elim λcA R=>?_;have I:aM cI ah (ah++[cT.Z (aK.map λx:T×Nat=>(x.1.J,am x.2))]++[.W []]):=aM.dd.dS.dS;have B4:(ah++[cT.Z (aK.map λx:T×Nat=>(x.1.J,am x.2))]++[cT.W []]).length=D ah+2:=by rw[cp,cp];rfl
 have cL:(ah++[cT.Z (aK.map λx:T×Nat=>(x.1.J,am x.2))]++[cT.W []])[D ah]?=A (.Z (aK.map λx:T×Nat=>(x.1.J,am x.2))):=eQ dt;refine B3 _ B5 B7 cA _ _ (rt (i:=6) (j:=7) (eL (aU (gV IU (aU c.ev bc) es) (aU (gB bc (cW _)) bc)) hq) (eG y)) ((w.grow I.of).less λa h=>?_) A1 ⟨⟨_,cL,λx Z=>(bJ.mp Z).elim λQ q=>q.2▸T.cls,λt Y=>Jo u (gd (f:=λx:T×Nat=>(x.1.J,am x.2)) (R t Y))⟩,λt Y=>g _ (R t Y)⟩ dt ((aM.trans .cS aY).trans I.of);refine h.elim (λh=>.inl (.inl h)) λh=>h.elim (λh=>.inl (.inr ⟨h.1,by rw[cp];exact h.2⟩)) λh=>.inr ?_;rw[B4];refine h.elim (λh=>h▸⟨cu _,pZ (aF y)⟩) λh=>?_;rw[cp]at h;exact h▸⟨dP _ _,jO _⟩
end
section
variable{i:Nat} {s t u:T} {aa:List bl} {g:eE}
theorem gI.at{ai:List T}:∀{aC:List Nat} {i:Nat} {t:T},gI g aC ai->ai[i]?=A t->∃k,aC[i]?=A k/\dO g t k:=by
 induction ai with
 |nil=>exactλx h=>aG (gQ h) (mO _)
 |cons s ai F=>
  intro aC i t h e;cases aC with
  |nil=>exact h.elim
  |cons k aC=>cases i with
   |zero=>cases e;exact⟨k,y,h.1⟩
   |succ i=>exact F (aC:=aC) (i:=i) h.2 e
theorem Ej(Z:eh (hC aa)):∀(s:T) {t:T} {i:Nat},dO (hC aa) s i->dO (hC aa) t i->s=t:=T.nc λs F t i ab ac=>((iX Z).mp ab).elim λx a=>((iX Z).mp ac).elim λQ b=>by
 cases dk (yX (mM (a.1:aa[i]?=A x)) b.1);have Y:D s.X=D t.X:=a.2.2.J.symm.trans b.2.2.J;refine T.ext (a.2.1.symm.trans b.2.1) (uS λj=>?_);cases aE:s.X[j]? with
 |none=>rw[tM (Y▸wK.mp aE)]
 |some u=>refine(qq (Y▸gQ aE:j<D t.X)).elim λH al=>(a.2.2.at aE).elim λk c=>(b.2.2.at al).elim λbI d=>?_;obtain rfl:=dk (c.1.symm.trans d.1);rw[al,F u (io aE) c.2 d.2]
def oV(U:List T)(aa:List bl)(cn:List (T×T))(i j:Nat):Prop:=i=j\/∃s t,s∈U/\t∈U/\dO (hC aa) s i/\dO (hC aa) t j/\hP U cn s t
theorem oV.yz(Q:eh (hC aa))(h:oV U aa cn i j)(Z:dO (hC aa) s i)(m:dO (hC aa) t j):hP U cn s t:=h.elim (λe=>Ej Q s Z (e▸m)▸hP.oB.KY s) λh=>h.elim λaJ h=>h.elim λfN h=>by rw[Ej Q s Z h.2.2.1,Ej Q t m h.2.2.2.1];exact h.2.2.2.2
theorem hP.mono(h:∀x∈cn,x∈aK)(q:hP U cn s t):hP U aK s t:=λae c=>q ae {c with cn:=λx Z=>c.cn x (h x Z)}
theorem oV.mono(h:∀x∈cn,x∈aK)(q:oV U aa cn i j):oV U aa aK i j:=q.imp_right λe=>e.imp λs e=>e.imp λt e=>⟨e.1,e.2.1,e.2.2.1,e.2.2.2.1,e.2.2.2.2.mono h⟩
theorem RY(Z:eh (hC aa))(P:me U aa):tC aa (oV U aa cn)where
 symm i j h:=h.imp mM λe=>e.elim λs e=>e.elim λt e=>⟨t,s,e.2.1,e.1,e.2.2.2.1,e.2.2.1,hP.oB.FF e.2.2.2.2⟩
 trans i j l ab ac:=ab.elim (λe=>e▸ac) λe=>e.elim λs e=>e.elim λt e=>ac.elim (λq=>q▸.inr ⟨s,t,e⟩) λq=>q.elim λfN q=>q.elim λu q=>by
  obtain rfl:=Ej Z t e.2.2.2.1 q.2.2.1;exact .inr ⟨s,u,e.1,q.2.1,e.2.2.1,q.2.2.2.1,hP.oB.mH e.2.2.2.2 q.2.2.2.2⟩
 Ji n G x Q N Y M X:=(P n (gQ N)).elim λs W=>(P G (gQ Y)).elim λt R=>((iX Z).mp W.2).elim λr a=>((iX Z).mp R.2).elim λf b=>by
  cases dk (yX (mM (a.1:aa[n]?=A r)) N);cases dk (yX (mM (b.1:aa[G]?=A f)) Y);exact .inr ⟨s,t,W.1,R.1,W.2,R.2,hP.oB.lq W.1 R.1 (a.2.1.symm.trans (M.trans b.2.1)) λi u H aE al=>(a.2.2.at aE).elim λk c=>(b.2.2.at al).elim λl d=>(X i k l c.1 d.1).yz Z c.2 d.2⟩
end
section
variable{i k bS:Nat} {s t u:T} {aa:List bl} {gv:Option V}
theorem b9{x:V}:nJ (l++[x]) (-1)=A x:=by
 have e:-1+((l++[x]).length:Int)=(D l:Int):=by
  rw[cp,GK,Mr];exact VQ _ _
 unfold nJ;rw[bV (by decide),cg (by rw[e];exact sp _),e,sq];exact(iN (cu _)).trans (bA _ (kb ..))
theorem fV.ne{C:cT}(p:fV cm k z)(h:z[a]?=A C)(q:C≠.W [.J 5,am k]):a≠6:=kE h p.p q
theorem fV.neT(p:fV cm k z)(h:z[a]?=A (cT.W (ai.map T.J))):a≠6:=p.ne h λe=>by
 cases ai with
 |nil=>cases e
 |cons t ai=>have e:=(fH (cT.W.inj e)).1;rw[t.lC]at e;cases e
theorem draw(P:cq B)(h:fV cm k z)(X:k<=900)(m:z[bS]?=A (.W (U.map T.J)))(W:0<D U)(E:D U<=14)(o:N[i]?=A (A (.J 6)))(bq:N[j]?=A (A (.J bS)))(d:∀a O,a∈U->bW B (n+1) (.Z (.J j) (.fg 50 [(.J i),(.bR "len" [(.J j)])])) N z a.J O->fV cm (k+1) O->aM (·≠6) z O->False):False:=by refine EV (n:=n) (lim:=D U) P h (aq X (aF y)) W λH Z c=>(qq Z).elim λa Y=>?_;have p:=km (B:=B) (n:=n+1) (av bq) m (gu (ei (aq E (aF y))));rw[bK]at p;have I:(z.set 6 (.W [.J 5,am (k+1)]))[bS]?=A (.W (U.map T.J)):=fL m (h.neT m).symm;exact d a _ (io Y) (fo (av bq) (jK (aU (av o) (aU p bc)) c) (.W I) (nB I (lT (ei (aq (dK Z) (aq E (aF y))))) (vD (fI▸Y▸y)))) h.X (aM.dd.gN λh=>h y)
def zL(cm:List Int)(k:Nat)(U:List T)(aL:aA)(r:List Nat)(l:List V)(z:aA):Prop:=∀{P:Prop},(∀{gU:List T},l=gU.map T.J->D gU+D r=2->(∀u∈gU,u∈U)->fV cm (k+D gU) z->aM (·≠6) aL z->P)->P
theorem zL.mk{cm:List Int}{k:Nat}{U:List T}{aL:aA}{r:List Nat}{z:aA}{gU:List T}(h:l=gU.map T.J)(Z:D gU+D r=2)(Y:(∀u∈gU,u∈U))(J:fV cm (k+D gU) z)(X:aM (·≠6) aL z):zL cm k U aL r l z:=λe=>e h Z Y J X
theorem O?(P:cq B)(h:fV cm k z)(X:k<=800)(m:z[bS]?=A (.W (U.map T.J)))(R:0<D U)(E:D U<=14)(C:∀(a b:T) (O:aA),bW B (n+1) (.bR "tuple" [(.dy (.W 0) .bE (.bR "range" [(.X 2)]) [] (.di (.Z (.J 2) (.fg 50 [(.J 1),(.bR "len" [(.J 2)])]))) [aj,A 1,A 4])]) (qy gv cF (A (.J bS)) cj cC eo) z (jh (a,b)) O->a∈U->b∈U->fV cm (k+2) O->aM (·≠6) z O->False):False:=by
 have I:D z≠6:=fU (fA h.p);have w:D z≠5:=fU (fA h.c);refine sg (B:=B) (n:=n+1) (dc:=[aj,A 1,A 4]) (ax:=[A (.J 6),A (.J bS)]) (N:=qy gv cF (A (.J bS)) cj cC eo) (z:=z) (k:=.bE) (e:=.bR "range" [(.X 2)]) (bP:=.Z (.J 2) (.fg 50 [(.J 1),(.bR "len" [(.J 2)])])) (aS:=fz 2) (g:=am)
  (ao:=zL cm k U z) y (xt (k:=2) (cE (i:=2)) (aF y)) (aF y) (λd d d d=>trivial) (zL.mk (gU:=[]) y y (λd=>afk) h.dS .cS) (λx r l Q j aE bI=>j λ{gU} o bq p Z Y=>?_) λah l c j br=>j λ{gU} o bq p Z Y=>?_
 ·have F:D gU<=2:=bq▸dP _ _;exact draw (B:=B) (n:=n) (i:=1) (j:=2) (N:=[A (am x),A (.J 6),A (.J bS)]) P Z (aq (ia X F) (aF y)) (Y.get _ _ (h.neT m) m) R E y y λa L H dG q M=>bI L a.J dG (M.get _ _ I aE) (zL.mk (gU:=gU++[a]) (o▸(eI ..)▸y) (((cp ..)).symm▸(mi (D gU) (D r)).trans bq) (λs W=>(ew.mp W).elim (p s) λW=>cB.mp W▸H) ⟨fL q.c w,fL ((cp ..)▸q.p) I,q.pos,q.le⟩ ((Y.trans M).set (cu _)))
 ·have bq:D gU=2:=bq;obtain rfl:=o;rw[bq]at Z;cases gU with
  |nil=>exact aG bq.symm (iP _)
  |cons a gU=>cases gU with
   |nil=>cases bq
   |cons b gU=>obtain rfl:=ko (ip (ip bq));exact C a b ah (gV rv (aU c.ev bc) (sh br hq)) (p a (.head _)) (p b (.tail _ (.head _))) Z Y
end
section
variable{i k K bS:Nat} {s t u:T} {aa:List bl} {cA:T->Nat}
theorem me.J(Q:eh (hC aa))(X:me U aa):D aa<=D U:=by refine(mJ (λi=>(oR (i<D aa)).elim (λh=>(X i h).imp λs h x=>h) λh=>⟨.l aW,λq=>aG q h⟩:∀i,∃s,i<D aa->s∈U/\dO (hC aa) s i)).elim λf Z=>?_;have q:=(iV (zr (n:=D aa)) λi aB j M (e:f i=f j)=>so Q (f i) (Z i (hk.mp aB)).2 (e▸(Z j (hk.mp M)).2)).length_le_of_subset (l₂:=U) λs Y=>(bJ.mp Y).elim λi q=>q.2▸(Z i (hk.mp q.1)).1;rw[bK,iA]at q;exact q
structure sR(U:List T)(aa:List bl)(cA:T->Nat)(F:Nat->Prop)(bS dr dY:Nat)(aL:aA):Prop where
 hd:ik U
 pos:0<D U
 jf:D U<=14
 gY:eh (hC aa)
 rJ:me U aa
 nm:nz U aa cA dr aL
 lt:aL[bS]?=A (.W (U.map T.J))
 fn:F dr/\dr≠6/\dr≠dY
 JE:F bS/\bS≠6/\bS≠dY
 vR:F dY/\dY≠6/\dY≠5
 xO:F 5/\F 6
theorem sR.lt'(az:sR U aa cA F bS dr dY aL)(m:t∈U):cA t<D aa:=((iX az.gY).mp (az.nm.hS t m)).elim λx h=>gQ h.1
structure ZR(U:List T)(aa:List bl)(cA:T->Nat)(cm:List Int)(F:Nat->Prop)(dY K:Nat)(aL:aA)(cn:List (T×T))(k:Nat)(L:Nat->Nat)(cR:List Nat)(aO bg:Nat)(bQ:Bool->Nat->Nat)(z:aA):Prop where
 Lm:∀x∈cn,x.1∈U/\x.2∈U
 q:z[dY]?=A (.W (cn.map jh))
 be:fV cm k z
 Ep:k<=15+2*D cn
 hD:dJ F aa L (·∈cR) cR aO bg K (oV U aa cn) bQ z
 Lg:mU aa L (D cR) aO bg K
 bX:aO+kV aa L<=14+D cn
 La:∀x∈cn,L (cA x.1)=L (cA x.2)
 cz:aM (λa=>F a/\a≠6/\a≠dY) aL z
noncomputable def tq(bS dr dY:Nat)(cF:Option V):bk:=qy aj cF (A (.J bS)) (A (.J dr)) (A (.J dY)) aj
inductive IB(U:List T)(aa:List bl)(cA:T->Nat)(cm:List Int)(F:Nat->Prop)(bS dr dY K:Nat)(aL:aA)(r:List Nat)(N:bk)(z:aA):Prop
|mk {cn:List (T×T)} {k:Nat} {L:Nat->Nat} {cR:List Nat} {aO bg:Nat} {bQ:Bool->Nat->Nat} {cF:Option V}:N=tq bS dr dY cF->D cn+D r<=2->ZR U aa cA cm F dY K aL cn k L cR aO bg bQ z->IB U aa cA cm F bS dr dY K aL r N z
noncomputable def Lo:List S:=[.fY (.eO (.J 7) "append" [(.bR "tuple" [(.dy (.W 0) .bE (.bR "range" [(.X 2)]) [] (.di (.Z (.J 2) (.fg 50 [(.J 1),(.bR "len" [(.J 2)])]))) [aj,A 1,A 4])])]),.fY (.bZ (.J 2) 37 [(.Z (.J 6) (.Z (.Z (.J 7) (.X (-1))) (.X 0))),(.Z (.J 6) (.Z (.Z (.J 7) (.X (-1))) (.X 1))),(.Y [(.cG "told"),(.cG "t")])])]
theorem abl(P:cq B)(az:sR U aa cA F bS dr dY aL){x:Nat}{r:List Nat}(ao:IB U aa cA cm F bS dr dY K aL (x::r) N z)(A5:∀eg ah,gb B (n+5) Lo (N.set 3 (A (am x))) z .X eg ah->IB U aa cA cm F bS dr dY K aL r eg ah->False):False:=ao.rec λ{cn k L cR aO bg bQ cF} e ab Z=>by
 obtain rfl:=e;have I:D cn<=1:=lc (aq (dn (dP (D cn) (D r))) ab);refine O? (B:=B) (n:=n+4) (gv:=aj) (cF:=A (am x)) (cj:=A (.J dr)) (cC:=A (.J dY)) (eo:=aj) P Z.be (aq Z.Ep (aq (gE (nx 2 I) 15) (aF y))) ((λf h=>Z.cz.get _ _ f h) az.JE az.lt) az.pos az.jf λa b aV dG aE al et m=>?_;have X:=m.get _ _ az.vR.2.1 Z.q;have u:=jR (iL (av (i:=7) y) (.append Z.q) (aU dG bc) (qO X (gu (ei (aq I (aF y))))));have g:(aV.set dY (.W (cn.map jh++[jh (a,b)])))[dY]?=A (.W (cn.map jh++[jh (a,b)])):=gR X;have M:aM (λi=>i≠6/\i≠dY) z (aV.set dY (.W (cn.map jh++[jh (a,b)]))):=(m.Z λc h=>h.1).gN λh=>h.2 y;have W:fV cm (k+2) (aV.set dY (.W (cn.map jh++[jh (a,b)]))):=⟨fL et.c az.vR.2.2,fL et.p az.vR.2.1,et.pos,et.le⟩
 generalize aV.set dY (.W (cn.map jh++[jh (a,b)]))=cD at u g M W;have w:dJ F aa L (·∈cR) cR aO bg K (oV U aa (cn++[(a,b)])) bQ cD:={Z.hD.cz (M.Z λi h=>⟨λe=>h (e▸az.xO.2),λe=>h (e▸az.vR.1)⟩)with nf:=λi j aB A2 e=>(Z.hD.nf i j aB A2 e).mono λx A4=>iZ _ A4}
 have d:aM (λi=>F i/\i≠6/\i≠dY) aL cD:=Z.cz.trans (M.Z λc h=>h.2);have O:∀{i:Int} {t:T},t∈U->gw B nE (jh (a,b)) (.X i) cD t.J cD->bW B (n+5) (.Z (.J 6) (.Z (.Z (.J 7) (.X (-1))) (.X i))) (tq bS dr dY (A (am x))) cD (am (cA t)) cD:=λA3 C=>
  (az.nm.cz d az.fn).get az.hd A3 (av (i:=6) y) (fo (fo (av (i:=7) y) cE (.W g) (nB g y b9)) cE .Y C)
 have p:aO+1+kV aa L<=14+(D cn+1):=aq (fi (jZ aO 1 _)) (dn Z.bX);refine w.merge (n:=n) (r:=.Y [.cG "told",.cG "t"]) P (RY az.gY az.rJ) (az.lt' aE) (az.lt' al) (.inr ⟨a,b,aE,al,az.nm.hS a aE,az.nm.hS b al,hP.oB.cn (a,b) (jl _ (.head _))⟩) (aq (az.rJ.J az.gY) az.jf) Z.Lg (aq p (aq (gE (dn I) 14) (aF y))) λH A8 B2 B3 B0 A9 B1 A0 s A7 A1 l A6 R=>?_;have E:(cn++[(a,b)]).length=D cn+1:=cp;exact A5 _ A8 (bv u (bv (jR (eu (av (B:=B) (n:=n+5) (i:=2) (N:=tq bS dr dY (A (am x))) y) w.du.eA y (P.m (k:=4) (n:=37) y) (aU (O (i:=0) aE (jx y y)) (aU (O (i:=1) al (jx y y)) (aU (eL (aU sk (aU sk bc)) hq) bc))) A0)) eW)) (.mk (cn:=cn++[(a,b)]) y (E▸aq (fi (mi (D cn) (D r))) ab)
  {Lm:=λQ Y=>(ew.mp Y).elim (Z.Lm Q) λY=>(cB.mp Y)▸⟨aE,al⟩
   q:=R.get _ _ az.vR.1 ((eI ..)▸g)
   be:=⟨R.get _ _ az.xO.1 W.c,R.get _ _ az.xO.2 W.p,W.pos,W.le⟩
   Ep:=E▸(Dg ..)▸(jn ..)▸iO Z.Ep 2
   hD:=s
   Lg:=A7
   bX:=E▸aq A1 p
   La:=λQ Y=>(ew.mp Y).elim (λY=>l _ _ (Z.La Q Y)) λY=>(cB.mp Y)▸A6
   cz:=d.trans (R.Z λc h=>h.1)})
end
section
variable{i k K bS:Nat} {s t u:T} {aa:List bl} {cA:T->Nat}
theorem aaI(h:D aa<=14):mU aa id 0 0 (D aa) (D aa):=
 have J:=KW (L:=id) h
 ⟨aq h (aq (by decide:14<=2^5) (wV (aF y) (Xi J 19))),by rw[hu];exact aq (ia h (qZ _ J)) (aF y),by rw[hu];exact aq J (aF y)⟩
theorem w'(P:cq B)(az:sR U aa cA F bS dr dY z)(aT:hv F aa bQ z)(h:fV cm k z)(X:k<=14)(A0:z[dY]?=A (.W []))(A4:∀(cn:List (T×T)) (k:Nat) (L:Nat->Nat) (aO bg K:Nat) (bQ:Bool->Nat->Nat) (cF:Option V) (ah O:aA),eM B (n+7) (.eP (.W 3) .bE (.bR "range" [(.cb .Add (.X 1) (.fg 50 [(.J 1),(.X 2)]))]) Lo) (tq bS dr dY aj) z .X (tq bS dr dY cF) ah->eM B (n+7) (.fY (.bZ (.J 2) 46 [])) (tq bS dr dY cF) ah .X (tq bS dr dY cF) O->D cn<=2->(∀x∈cn,x.1∈U/\x.2∈U)->O[dY]?=A (.W (cn.map jh))->fV cm k O->k<=19->dJ F aa L (λd=>False) [] aO bg K (oV U aa cn) bQ O->aO<=20->(∀x∈cn,L (cA x.1)=L (cA x.2))->aM (λa=>F a/\a≠6/\a≠dY) z O->False):False:=by
 refine EV (B:=B) (n:=n+6) (lim:=2) P h (aq X (aF y)) (aF y) λH A1 c=>?_;have Y:aM (λa=>F a/\a≠6/\a≠dY) z (z.set 6 (.W [.J 5,am (k+1)])):=aM.dd.gN λh=>h.2.1 y;have I:=aT.hD.cz (ah:=z.set 6 (.W [.J 5,am (k+1)])) (aM.dd.gN λh=>h az.xO.2);have w:(z.set 6 (.W [.J 5,am (k+1)]))[dY]?=A (.W []):=fL A0 az.vR.2.1.symm;have E:=aq (az.rJ.J az.gY) az.jf;have ab:=h.X;have q:sR U aa cA F bS dr dY (z.set 6 (.W [.J 5,am (k+1)])):={az with nm:=az.nm.cz Y az.fn,lt:=Y.get _ _ az.JE az.lt}
 have o:=en (B:=B) (n:=n+7) (ft:=.Add) (cE (i:=1) (N:=tq bS dr dY aj)) (jK (aU (av (i:=1) y) (aU (cE (i:=2)) bc)) c) (sE (i:=1) (j:=H));generalize z.set 6 (.W [.J 5,am (k+1)])=ah at Y I w ab q o;have g:1+H<=2:=hN 1 H▸A1;refine vA (B:=B) (n:=n+7) (i:=3) (b:=Lo) (ao:=IB U aa cA cm F bS dr dY (D aa) ah) (xt o (ei (aq g (aF y)))) (λd d d d=>trivial)
  (.mk (cn:=[]) (cF:=aj) y ((He ..)▸(hu ..)▸(iA ..)▸g) ⟨λd=>afk,w,ab,dn X,{I.uh (tc:=(·∈[])) (λd h=>h.elim)with nf:=λi j aB M e=>.inl (I.nf i j aB M e)},aaI E,((hu ..)).symm▸KW E,λd=>afk,aM.dd⟩) (λx r N z ao k=>abl (n:=n+2) P q ao k) λeg aV f ao=>ao.rec λ{cn A3 L cR aO bg A7 cF} e t Z=>?_
 obtain rfl:=e;have t:D cn<=2:=t;exact Z.hD.settle (n:=n+1) P (RY az.gY az.rJ) (λi=>.inl y) E Z.Lg λcD A6 s Q u A5 R m p l W=>A4 cn A3 A6 s Q u A5 cF aV cD f (jR (eu (av (i:=2) y) Z.hD.du.eA y (P.m y) bc R)) t Z.Lm (W.get _ _ az.vR.1 Z.q) ⟨W.get _ _ az.xO.1 Z.be.c,W.get _ _ az.xO.2 Z.be.p,Z.be.pos,Z.be.le⟩ (aq Z.Ep (gE (nx 2 t) 15)) m p (λx A2=>l _ _ (Z.La x A2)) ((Y.trans Z.cz).trans (W.Z λd h=>h.1))
end
section
variable{i K bS:Nat} {s t u:T} {aa:List bl} {cA:T->Nat} {x Q:bl}
theorem dJ.alike(aT:dJ F aa L (λc=>False) [] aO bg K X bQ z)(W:aa[n]?=A x)(Y:aa[G]?=A Q)(e:he L x=he L Q):L n=L G:=aT.lU.elim λag h=>((h.2.cS n x W).resolve_left id).elim λa aE=>((h.2.cS G Q Y).resolve_left id).elim λb al=>by have Z:=aE.1;rw[e,al.1]at Z;rw[←aE.2,←al.2,mA (dk Z)]
theorem X'(az:sR U aa cA F bS dr dY aL)(aT:dJ hi aa L (λf=>False) [] aO bg K (oV U aa cn) bQ z)(I:∀x∈cn,L (cA x.1)=L (cA x.2))(Z:s∈U)(m:t∈U):L (cA s)=L (cA t)↔hP U cn s t:=by
 refine⟨λe=>(aT.nf _ _ (az.lt' Z) (az.lt' m) e).yz az.gY (az.nm.hS s Z) (az.nm.hS t m),λq=>q (λs t=>L (cA s)=L (cA t)) ⟨λf=>y,mM,yX,I,λ{s t} Z m e X=>((iX az.gY).mp (az.nm.hS s Z)).elim λx a=>((iX az.gY).mp (az.nm.hS t m)).elim λQ b=>aT.alike a.1 b.1 (jz (a.2.1.trans (e.trans b.2.1.symm)) (uS λi=>?_))⟩⟩;show(x.2.map L)[i]?=(Q.2.map L)[i]?;rw[fI,fI];have Y:D s.X=D t.X:=s.lu▸t.lu▸e▸y;cases aE:s.X[i]? with
 |none=>have q:=wK.mp aE;rw[tM (a.2.2.J.symm▸q),tM ((b.2.2.J.trans Y.symm).symm▸q)]
 |some u=>refine(qq (Y▸gQ aE:i<D t.X)).elim λH al=>(a.2.2.at aE).elim λk c=>(b.2.2.at al).elim λl d=>?_;rw[c.1,d.1,so az.gY u c.2 (az.nm.hS u (az.hd.aP s Z u (io aE))),so az.gY H d.2 (az.nm.hS H (az.hd.aP t m H (io al)))];exact bA A (X i u H aE al)
theorem Fh(az:sR U aa cA F bS dr dY aL)(aT:dJ hi aa L (λa=>False) [] aO bg K (oV U aa cn) bQ z)(I:∀x∈cn,L (cA x.1)=L (cA x.2))(r:wD U cn M)(Z:s∈U)(m:t∈U):L (cA s)=L (cA t)↔M s=M t:=(X' az aT I Z m).trans (r.iff az.hd.aP Z m).symm
end
section
variable{i K bS:Nat} {s t u:T} {aa:List bl} {cA:T->Nat} {x Q:bl}
theorem aaV{bw:Type}(p:bw->Prop)(l:List bw):∃r:List bw,r.Nodup/\∀x,x∈r↔x∈l/\p x:=by
 induction l with
 |nil=>exact⟨[],oY,λx=>⟨afk,λh=>h.1⟩⟩
 |cons a l Z=>
  refine Z.elim λr h=>?_;by_cases q:a∈r\/¬p a
  ·exact⟨r,h.1,λx=>(h.2 x).trans ⟨λq=>⟨.tail _ q.1,q.2⟩,λw=>⟨(ee.mp w.1).elim (λe=>e▸((h.2 a).mp (q.resolve_right λba=>ba (e▸w.2))).1) id,w.2⟩⟩⟩
  ·have Y:p a:=bp λe=>q (.inr e);refine⟨a::r,jN.mpr ⟨λe=>q (.inl e),h.1⟩,λx=>?_⟩;rw[ee,ee,h.2];exact⟨λq=>q.elim (λe=>⟨.inl e,e▸Y⟩) λq=>⟨.inr q.1,q.2⟩,λq=>q.1.elim .inl λh=>.inr ⟨h,q.2⟩⟩
theorem dJ.rI(aT:dJ F aa L (λa=>False) [] aO bg K Z bQ z):eh (cs aa L)where
 kf c x h:=h.elim λi h=>h.elim λQ h=>h.2.2▸⟨(aT.hR i Q h.1).1,(bK _).trans (aT.hR i Q h.1).2.1⟩
 Ly c d x h au:=h.elim λi h=>h.elim λQ h=>au.elim λj au=>au.elim λba au=>h.2.1.symm.trans ((aT.alike h.1 au.1 (h.2.2.symm.trans au.2.2)).trans au.2.1)
 fin c:=(aaV (cs aa L c) (aa.map (he L))).imp λr h=>⟨h.1,λx=>(h.2 x).trans ⟨λq=>q.2,λq=>⟨q.elim λi q=>q.elim λQ q=>q.2.2▸gd (io q.1),q⟩⟩⟩
theorem VM(Z:eh (hC aa)){ai:List T}:∀{aC:List Nat},gI (hC aa) aC ai->(∀t∈ai,dO (hC aa) t (cA t))->aC=ai.map cA:=by
 induction ai with
 |nil=>
  intro aC h _;cases aC with
  |nil=>rfl
  |cons=>exact h.elim
 |cons t ai Y=>
  intro aC h J;cases aC with
  |nil=>exact h.elim
  |cons k aC=>rw[jv,so Z t h.1 (J t (.head _)),Y h.2 λt m=>J t (.tail _ m)]
theorem w8(az:sR U aa cA F bS dr dY aL)(aT:dJ hi aa L (λc=>False) [] aO bg K (oV U aa cn) bQ z)(I:∀x∈cn,L (cA x.1)=L (cA x.2))(r:wD U cn M)(J:gm.Nodup)(g:∀x,x∈gm↔∃t∈U,x=uC M t):vz (cs aa L) (λt=>L (cA t)) gm (U.map M):=by
 have d:∀{t:T},t∈U->L (cA (M t))=L (cA t):=λ{t} m=>(Fh az aT I r (r.ok.mem t m) m).mpr (r.ok.rG t m);have W:∀{t:T},t∈U->∃ba,aa[cA t]?=A ba/\he L ba=(t.op,(t.X.map M).map λt=>L (cA t)):=λ{t} m=>((iX az.gY).mp (az.nm.hS t m)).imp λba a=>⟨a.1,jz a.2.1 (by
  show ba.2.map L=_;rw[VM (cA:=cA) az.gY a.2.2 λk X=>az.nm.hS k (az.hd.aP t m k X),ed,ed];exact lb λk X=>(d (az.hd.aP t m k X)).symm)⟩
 refine⟨aT.rI,λl Y dB R e=>(bJ.mp Y).elim λs Z=>(bJ.mp R).elim λt m=>?_,λx P=>((g x).mp P).elim λt m=>?_,J,λl Y Q=>⟨λh=>h.elim λi h=>h.elim λba h=>(bJ.mp Y).elim λs Z=>(az.rJ i (gQ h.1)).elim λt m=>?_,λh=>h.elim λx h=>((g x).mp h.1).elim λt m=>?_⟩,λl Y=>(bJ.mp Y).elim λt m=>⟨_,(g _).mpr ⟨t,m.1,y⟩,m.2⟩⟩
 ·rw[←Z.2,←m.2]at e⊢;have q:=(Fh az aT I r (r.ok.mem s Z.1) (r.ok.mem t m.1)).mp e;rw[r.ok.rG s Z.1,r.ok.rG t m.1]at q;exact q
 ·exact m.2▸⟨gd m.1,λk X=>(bJ.mp X).elim λj q=>q.2▸gd (az.hd.aP t m.1 j q.1)⟩
 ·rw[h.2.2,←Z.2];obtain rfl:=so az.gY t m.2 (az.nm.hS t m.1);refine(W m.1).elim λf b=>?_;obtain rfl:=dk (h.1.symm.trans b.1);exact⟨_,(g _).mpr ⟨t,m.1,y⟩,(Fh az aT I r m.1 Z.1).mp (h.2.1.trans (Z.2▸d Z.1)),b.2⟩
 ·exact h.2.2▸h.2.1▸m.2▸(W m.1).elim λba b=>⟨_,ba,b.1,(d m.1).symm,b.2.symm⟩
end
section
variable{k:Nat} {aa:List bl}
theorem BH{x Q:cT}:(z++[x]).set (D z) Q=z++[Q]:=by rw[MW _ _ (cu _),kb];rfl
theorem aay{x Q ba:cT}:(z++[x]++[ba]).set (D z) Q=z++[Q]++[ba]:=by rw[List.set_append_left _ _ (by rw[cp];exact jO _),BH]
theorem i!(P:cq B):dU B (n+1) 15 [.J (D z),.J 7] (z++[.dH 1 []]) .bM (z++[.dH 1 [(15,.J 7),(16,.bM),(17,.J (D z+1))]]++[.Z []]):=by have Z:=ke (B:=B) (n:=n) (nm:=15) (N:=[A (.J (D z)),A (.J 7)]) (cd:=[]) (k:=1) (z:=z++[.dH 1 []]) (av (i:=1) y) (av (i:=0) y) dt (P.m y) (by decide:0<100);rw[BH]at Z;have f:=ke (B:=B) (n:=n) (nm:=16) (N:=[A (.J (D z)),A (.J 7)]) (cd:=[(15,.J 7)]) (k:=1) (z:=z++[.dH 1 [(15,.J 7)]]) tD (av (i:=0) y) dt (P.m y) (by decide:1<100);rw[BH]at f;have e:=ke (B:=B) (n:=n) (nm:=17) (N:=[A (.J (D z)),A (.J 7)]) (cd:=[(15,.J 7),(16,.bM)]) (k:=1) (z:=z++[.dH 1 [(15,.J 7),(16,.bM)]]) sj (av (i:=0) y) (eQ dt) (P.m y) (by decide:2<100);rw[aay,show(z++[cT.dH 1 [(15,.J 7),(16,.bM)]]).length=D z+1 from cp]at e;exact ep (P.b y) y (bv Z (bv f (bv e eW))) (.inr ⟨y,y⟩)
theorem aaD(P:cq B){es:V}:dU B (n+1) 24 [.J (D z),.J 7,es] (z++[.dH 2 []]) .bM (z++[.dH 2 [(15,.J 7),(28,es)]]):=by have Z:=ke (B:=B) (n:=n) (nm:=15) (N:=[A (.J (D z)),A (.J 7),A es]) (cd:=[]) (k:=2) (z:=z++[.dH 2 []]) (av (i:=1) y) (av (i:=0) y) dt (P.m y) (by decide:0<100);rw[BH]at Z;have f:=ke (B:=B) (n:=n) (nm:=28) (N:=[A (.J (D z)),A (.J 7),A es]) (cd:=[(15,.J 7)]) (k:=2) (z:=z++[.dH 2 [(15,.J 7)]]) (av (i:=2) y) (av (i:=0) y) dt (P.m y) (by decide:1<100);rw[BH]at f;exact ep (P.b y) y (bv Z (bv f eW)) (.inr ⟨y,y⟩)
theorem w!(P:cq B)(ae:gj (D z) z aa L)(E:D aa<=14)(U:∃l,z[17]?=A (.W l)/\D l=aO)(Q:aO<=1000)(ac:N[2]?=A (A (.J 7)))(d:∀(aH aP cY es:Nat) (O:aA),bW B (n+1) (.Y [(.cS 1 [(.J 2)]),(.cS 2 [(.J 2),.nL])]) N z (.Y [.J aH,.J cY]) O->kY (D z) aH aP aO aa L O->O[aP]?=A (.Z [])->ov (D z) cY es aa L O->aM cI z O->D z<=aH->D z<=aP->cY≠aH->cY≠aP->es≠aH->es≠aP->False):False:=by
 have Y:=yV (B:=B) (n:=n+1) (aU (av ac) bc) (P.i (k:=1) y) (i! (z:=z) P);have aY:aM cI z (z++[cT.dH 1 [(15,.J 7),(16,.bM),(17,.J (D z+1))]]++[.Z []]):=aM.dd.dS.dS;have cL:(z++[cT.dH 1 [(15,.J 7),(16,.bM),(17,.J (D z+1))]]++[cT.Z []])[D z]?=A (.dH 1 [(15,.J 7),(16,.bM),(17,.J (D z+1))]):=eQ dt;have p:(z++[cT.dH 1 [(15,.J 7),(16,.bM),(17,.J (D z+1))]]++[cT.Z []]).length=D z+2:=by rw[cp,cp];rfl
 have dw:=dt (z:=z++[cT.dH 1 [(15,.J 7),(16,.bM),(17,.J (D z+1))]]) (C:=.Z []);rw[cp]at dw;generalize z++[cT.dH 1 [(15,.J 7),(16,.bM),(17,.J (D z+1))]]++[cT.Z []]=ah at Y aY cL dw p;have bq:=yV (B:=B) (n:=n+1) (aU (av ac) (aU sj bc)) (P.i (k:=2) y) (aaD (z:=ah++[.Z []]) (es:=.J (D ah)) P);have Z:aM cI ah (ah++[.Z []]++[.dH 2 [(15,.J 7),(28,.J (D ah))]]):=aM.dd.dS.dS;have x:=dt (z:=ah++[.Z []]) (C:=.dH 2 [(15,.J 7),(28,.J (D ah))]);have a:(ah++[.Z []]++[.dH 2 [(15,.J 7),(28,.J (D ah))]])[D ah]?=A (.Z []):=eQ dt;have b:(ah++[cT.Z []]).length=D z+3:=by rw[cp,p];rfl
 have t:∀{i j:Nat},i<j->D z+j≠D z+i:=λh=>fU (WV h _);rw[b]at bq x;rw[p]at a bq x Z;have k:=aY.trans Z;exact d (D z) (D z+1) (D z+3) (D z+2) _ (eL (aU Y (aU bq bc)) hq) ⟨ae.k k,aq E (aF y),cu _,ka _,U.imp λl q=>⟨k.at q.1,q.2⟩,Q,.inl (Z.at cL)⟩ (Z.at dw) ⟨ae.k k,E,dP _ _,x,a⟩ k (cu _) (ka _) (t (by decide:0<3)) (t (aF y)) (t (by decide:0<2)) (t (aF y))
end
section
variable{k:Nat} {aa:List bl}
theorem gj.BI(ae:gj aQ z aa L)(h:fV cm k z)(q:aM (·≠6) z O):gj aQ O aa L where
 du:=ae.du.Er q
 fF:=ae.fF.fZ λp h=>q.get _ _ (eG y) h
 lz:=q.get _ _ (eG y) ae.lz
 hR:=ae.hR
 lL:=ae.lL
 nP:=ae.nP.imp λl w=>⟨q.get _ _ (eG y) w.1,λc ab ac=>(w.2 c ab ac).imp λa w=>w.imp λG w=>⟨w.1,w.2.1,q.get _ _ (h.ne w.2.2.1 λe=>by
  cases G with
  |nil=>cases e
  |cons i G=>cases(fH (cT.W.inj e)).1) w.2.2.1,w.2.2.2⟩⟩
theorem kY.BI(az:kY aQ aH aP aO aa L z)(h:fV cm k z)(q:aM (·≠6) z O):kY aQ aH aP aO aa L O:=by have ae:=az.bz.BI h q;have m:∀i,aQ<=i->i≠6:=λi aB e=>aG (aq ae.lL (e▸aB)) (by decide);exact{az with bz:=ae,e:=az.e.imp λl p=>⟨q.get _ _ (eG y) p.1,p.2⟩,c:=az.c.imp (q.get _ _ (m _ az.nw)) λT=>{T with bz:=ae,c:=q.get _ _ (m _ az.nw) T.c,e:=T.e.imp λl p=>⟨q.get _ _ (eG y) p.1,p.2⟩,memo:=T.memo.imp λag p=>⟨q.get _ _ (m _ az.pX) p.1,p.2⟩}}
end
section
variable{g:eE} {r:List T}
theorem QT(h:gC g [c] n (r.map λt=>[t])):IsL g c n (nq r)/\r.Nodup:=by refine(Ra h).elim λl q=>?_;obtain rfl:=(uV λx x e=>(fH e).1).mp q.1;exact⟨⟨(wj r).nodup_iff.mpr q.2.1,λt=>(wj r).mem_iff.trans (q.2.2 t),Lv r⟩,q.2.1⟩
end
section
variable{t:T} {g:eE} {dM:T->Nat}
structure yT(M:T->T)(ae:T->Nat->List T)(t:T)(b:Nat)(l:List V)(G:Nat)(z:aA):Prop where
 J:D l=G
 xB:∀i,i<G->∃p,l[i]?=A (.J p)/\b<p/\z[p]?=A (.W ((nq (ae (M t) (i+1))).map T.J))
def yS(M:T->T)(ae:T->Nat->List T)(t:T)(aL:aA)(r:List Nat)(l:List V)(z:aA):Prop:=∀{P:Prop},(∀{p:List Nat},p++r=lK 1 4->yT M ae t (D aL) l (D p) z->aM cI aL z->P)->P
theorem yS.mk{M:T->T}{ae:T->Nat->List T}{t:T}{aL:aA}{r:List Nat}{z:aA}{p:List Nat}(h:p++r=lK 1 4)(Z:yT M ae t (D aL) l (D p) z)(Y:aM cI aL z):yS M ae t aL r l z:=λe=>e h Z Y
theorem w0(P:cq B)(F:ik U)(bi:rn df 4 ae cO z)(Q:sl g dM df ae 4)(m:hw U M be z)(A2:t∈U)(I:M t∈df)(E:(M t).co<=5)(X:ho N [aj,A 8,A 10,A 5]=[aj,A (.J be),A (.J cO),A t.J])(A0:5<=n)(A4:∀(O:aA) (l:List V),eM B n (.pv 17 (.dy (.W 0) .bE (.bR "range" [(.X 1),(.X 5)]) [] (.di (.uA (.Z (.J 2) (.Y [(.Z (.J 1) (.J 3)),(.J 0)])) 56)) [aj,A 8,A 10,A 5])) N z .X (N.set 17 (A (.J (D z)))) O->O[D z]?=A (.W l)->yT M ae t (D z) l 4 O->aM cI z O->False):False:=by
 refine sg (B:=B) (n:=n) (dc:=[aj,A 8,A 10,A 5]) (N:=N) (z:=z) (k:=.bE) (e:=.bR "range" [(.X 1),(.X 5)]) (bP:=.uA (.Z (.J 2) (.Y [(.Z (.J 1) (.J 3)),(.J 0)])) 56) (aS:=lK 1 4) (g:=am)
  (ao:=yS M ae t z) X (xu (d:=.X 5) (k:=4) cE (aF y)) (aF y) (λf f f f=>trivial) (yS.mk (p:=[]) y ⟨y,λi h=>aG h (mO i)⟩ .cS) (λx r l A5 ao aE bI=>ao λ{p} e d k=>?_) λah l c ao br=>ao λ{p} e d k=>?_
 ·have w:=KV e;obtain rfl:=w.2;have Z:D p+1<=4:=w.1;have ab:=gF 1 (D p);have is:=QT (Q (M t) I (D p+1) ab Z);refine(bi.cz k).d.elim λag q=>(q.2.2 (M t) I (D p+1) ab Z).elim λb o=>VB P (fo (B:=B) (n:=n) (av (i:=2) (N:=[A (am (D p+1)),A (.J be),A (.J cO),A t.J]) y) (eL (aU ((m.cz k trivial).get F A2 (av (i:=1) y) (av (i:=3) y)) (aU (av (i:=0) y) bc)) hq) (.Z q.1) (nA q.1 ⟨JM E,λx A3=>q.2.1 x A3⟩ o.1)) o.2 is.2 (((wj _).length_eq)▸er (is.1.J Z) (aF y)) (λs A1=>?_) λA6 C dG Y u v=>?_
  ·have j:=((is.1.mem s).mp ((wj _).mem_iff.mpr A1)).2;exact⟨aq (fi j) (aq Z (aF y)),aq (dn s.uo) (aq (dn (aq (fi j) Z)) A0)⟩
  have H:D z<D A5:=fA aE;refine bI A6 (.J C) dG (Y.at aE) (yS.mk (p:=p++[D p+1]) ((ha ..).trans e) ?_ ((k.trans Y).set (cu _)));rw[cp];refine⟨by rw[cp,d.J];rfl,λi aB=>?_⟩;by_cases h:i=D p
  ·obtain rfl:=h;exact⟨C,by rw[iN (fi d.J),d.J,kb];rfl,ef H v,fL u (eC (ef H v))⟩
  ·exact(d.xB i (qY (hl aB) h)).imp λq a=>⟨(jY (gQ a.1)).trans a.1,a.2.1,fL (Y.at a.2.2) (eC a.2.1)⟩
 ·have e:=(eF p).symm.trans e;rw[e]at d;exact A4 ah l c.xy br d k
end
section
variable{k:Nat} {aa:List bl} {as:List V}
structure hh(aQ aH aP aO:Nat)(aa:List bl)(L:Nat->Nat)(z:aA):Prop where
 kg:kY aQ aH aP aO aa L z
 d:∃ag,z[aP]?=A (.Z ag)
theorem hh.W(az:hh aQ aH aP aO aa L z)(h:z[p]?=A (.W l)):iK aH aP p:=az.kg.self.elim λcd q=>az.d.elim λag Z=>⟨kE h q.1 JX,kE h Z pF⟩
theorem hh.low(az:hh aQ aH aP aO aa L z)(h:p<aQ):iK aH aP p:=⟨λe=>aG az.kg.nw (kI.mpr (e▸h)),λe=>aG az.kg.pX (kI.mpr (e▸h))⟩
theorem hh.of(az:ek aQ aH aP aO aa L z)(U:aO<=1000):hh aQ aH aP aO aa L z:=⟨⟨az.bz,az.na,az.nw,az.pX,az.e,U,.inr az⟩,az.memo.imp λx q=>q.1⟩
end
section
variable{k:Nat} {aa:List bl} {r:List T} {t:T}
structure xp(aH dr fh G:Nat)(t:T)(N:bk):Prop where
 QU:N[15]?=A (A (.J aH))
 QW:N[6]?=A (A (.J dr))
 QV:N[5]?=A (A t.J)
 Jt:N[11]?=A (A (am (G+1)))
 j9:N[17]?=A (A (.J fh))
structure rk(fh G:Nat)(l:List V)(r:List T)(z:aA):Prop where
 d:z[fh]?=A (.W l)
 r:∃p,l[G]?=A (.J p)/\z[p]?=A (.W (r.map T.J))
theorem hh.apart(az:hh aQ aH aP aO aa L z)(k:aM (iK aH aP) z O)(h:z[p]?=A (.W l)):O[p]?=A (.W l):=k.get _ _ (az.W h) h
theorem rk.cz(af:rk fh G l r z)(az:hh aQ aH aP aO aa L z)(k:aM (iK aH aP) z O):rk fh G l r O:=⟨az.apart k af.d,af.r.imp λp q=>⟨q.1,az.apart k q.2⟩⟩
theorem Ct(af:rk fh G l r z)(E:xp aH dr fh G t N)(g:G<=3):∃p,bW B n (.Z (.J 17) (.cb .Sub (.J 11) (.X 1))) N z (.J p) z/\z[p]?=A (.W (r.map T.J)):=af.r.imp λp h=>⟨fo (av E.j9) (en (av E.Jt) cE (kp (i:=G+1) (j:=1) (gF 1 G))) (.W af.d) (nB af.d (lT (ei (aq (mP _ _) (aq (dn g) (aF y))))) (vD h.1)),h.2⟩
def Iq(B:bT)(n aQ aH aP aO:Nat)(aa:List bl)(L:Nat->Nat)(e:afe)(N:bk)(z:aA):Prop:=(∀(O:aA) (eK:Nat),eB B n e N z aW O->hh aQ aH eK aO aa L O->aM (iK aH aP) z O->eK=aP\/D z<=eK->False)->False
structure rl(aa:List bl)(L:Nat->Nat)(U:List T)(fQ:T->Nat)(t:T)(G:Nat)(r:List T):Prop where
 gY:eh (cs aa L)
 hd:ik U
 co:t∈U
 pE:G<=3
 rJ:fQ t<D aa
 is:IsL (cs aa L) (L (fQ t)) (G+1) r
theorem rl.lim(Z:rl aa L U fQ t G r):D r<=40:=Z.is.J (dn Z.pE)
theorem rl.Kd(Z:rl aa L U fQ t G r):(r.map T.J).length<=cZ:=gu (ei (aq Z.lim (aF y)))
theorem b4(P:cq B)(Z:rl aa L U fQ t G r)(az:hh aQ aH aP aO aa L z)(nm:nz U aa fQ dr z)(af:rk fh G l r z)(E:xp aH dr fh G t N)(J:12<=n):Iq B n aQ aH aP aO aa L (.bH .NotEq (.bZ (.J 15) 20 [(.Z (.J 6) (.J 5)),(.J 11)]) (.bR "len" [(.Z (.J 17) (.cb .Sub (.J 11) (.X 1)))])) N z:=λd=>az.kg.many (n:=G+1) P Z.gY (dn Z.pE) Z.rJ λO eK c o Y w=>az.kg.self.elim λcd q=>(Ct (B:=B) (n:=n) (af.cz az Y) E Z.pE).elim λp h=>by have X:=hz (ft:=.NotEq) (eu (av E.QU) q.1 (q.2.2 20 (by decide)) (P.m y) (aU (nm.get Z.hd Z.co (av E.QW) (av E.QV)) (aU (av E.Jt) bc)) (c.mono (aq (iO (dn Z.pE) 8) J))) (km h.1 h.2 Z.Kd) Hz;rw[SA Z.is,bK,decide_eq_true y]at X;exact d O eK X (hh.of o az.kg.xJ) Y w
end
section
variable{k:Nat} {aa:List bl} {r:List T} {t:T}
theorem IsL.co(h:IsL g c n r)(J:n<=4):∀t∈r,t.co+1<=99:=λt m=>aq t.uo (((h.mem t).mp m).2▸aq J (aF y))
theorem b3(P:cq B)(Z:rl aa L U fQ t G r)(az:hh aQ aH aP aO aa L z)(nm:nz U aa fQ dr z)(af:rk fh G l r z)(E:xp aH dr fh G t N)(J:14<=n):Iq B n aQ aH aP aO aa L (.bH .NotEq (.bZ (.J 15) 24 [(.Z (.J 6) (.J 5)),(.J 11)]) (.Z (.J 17) (.cb .Sub (.J 11) (.X 1)))) N z:=λd=>az.kg.y1 (n:=G+1) P Z.gY (λc x h=>az.kg.bz.ys h) (dn Z.pE) Z.rJ λX R O eK i c o Y w dw=>az.kg.self.elim λcd q=>(Ct (B:=B) (n:=n) (af.cz az Y) E Z.pE).elim λp h=>by have be:=ET (Z.is.co (dn Z.pE));rw[i.eq Z.is]at dw;have W:=hz (ft:=.NotEq) (eu (av E.QU) q.1 (q.2.2 24 (by decide)) (P.m y) (aU (nm.get Z.hd Z.co (av E.QW) (av E.QV)) (aU (av E.Jt) bc)) (c.mono (aq (iO (dn Z.pE) 10) J))) h.1 (vc dw h.2 be be);rw[V.ub]at W;exact d O eK W (hh.of o az.kg.xJ) Y w
end
section
variable{k vX:Nat} {aa:List bl} {r:List T} {t:T}
theorem DN(aY:aM (iK aH aP) z ah)(W:eK=aP\/D z<=eK)(Z:aM (iK aH eK) ah O):aM (iK aH aP) z O:=⟨aq aY.le Z.le,λa C f h=>Z.get a C ⟨f.1,λe=>W.elim (λq=>f.2 (e.trans q)) λq=>aG (fA h) (fP.mpr (e▸q))⟩ (aY.get a C f h)⟩
theorem AD(aY:aM (iK aH aP) z ah)(W:eK=aP\/D z<=eK)(Z:vX=eK\/D ah<=vX):vX=aP\/D z<=vX:=Z.elim (λe=>e▸W) λq=>.inr (aq aY.le q)
theorem V!{n:Nat}{p r:List Nat}{x:Nat}(e:p++x::r=fz n):D p<n/\x=D p:=by
 have q:(fz n)[D p]?=A x:=by rw[←e,iN (cu _),kb];rfl
 have l:=gQ q;rw[iA]at l;rw[Hc l]at q;exact⟨l,(dk q).symm⟩
def yL(aQ aH aP aO:Nat)(aa:List bl)(L:Nat->Nat)(ai:List T)(b:Nat)(aL:aA)(r:List Nat)(l:List V)(z:aA):Prop:=∀{P:Prop},(∀{eK:Nat} {p:List Nat},p++r=fz b->l=(ai.take (D p)).map T.J->hh aQ aH eK aO aa L z->aM (iK aH aP) aL z->(eK=aP\/D aL<=eK)->P)->P
theorem yL.mk{aQ aH aP aO:Nat}{aa:List bl}{L:Nat->Nat}{b:Nat}{r:List Nat}{l:List V}{z:aA}{eK:Nat}{p:List Nat}(h:p++r=fz b)(Z:l=(ai.take (D p)).map T.J)(Y:hh aQ aH eK aO aa L z)(J:aM (iK aH aP) aL z)(X:(eK=aP\/D aL<=eK)):yL aQ aH aP aO aa L ai b aL r l z:=λe=>e h Z Y J X
theorem hh.dS(az:hh aQ aH aP aO aa L z):hh aQ aH aP aO aa L (z++iW):=⟨az.kg.k (aM.dS .dd),az.d.imp λx h=>eQ h⟩
theorem b5(P:cq B)(Z:rl aa L U fQ t G r)(az:hh aQ aH aP aO aa L z)(nm:nz U aa fQ dr z)(A2:dr<aQ)(af:rk fh G l r z)(E:xp aH dr fh G t N)(A1:14<=n)(A0:ho N [aj,A 15,A 11,A 6,A 5]=[aj,A (.J aH),A (am (G+1)),A (.J dr),A t.J])(A4:∀O eK,bW B n (.dy (.W 0) .bE (.eb (.bR "range" [(.bR "len" [(.Z (.J 17) (.cb .Sub (.J 11) (.X 1)))])]) .bM (.X 3)) [] (.di (.bZ (.J 1) 27 [(.Z (.J 3) (.J 4)),(.J 2),(.J 0)])) [aj,A 15,A 11,A 6,A 5]) N z (.J (D z)) O->O[D z]?=A (.W ((r.take 3).map T.J))->hh aQ aH eK aO aa L O->aM (iK aH aP) z O->eK=aP\/D z<=eK->False):False:=by
 refine(Ct (B:=B) (n:=n) af E Z.pE).elim λb h=>?_;have j:=km h.1 h.2 Z.Kd;rw[bK]at j;have R:gn (D r) 3<=100:=aq (Nf _ _) (aF y);have v:=zc (B:=B) (z:=z) (KU (ei R)) y (lT (ei R)) y (by decide);rw[KZ]at v;refine sg (B:=B) (n:=n) (dc:=[aj,A 15,A 11,A 6,A 5]) (N:=N) (z:=z) (k:=.bE) (bP:=.bZ (.J 1) 27 [(.Z (.J 3) (.J 4)),(.J 2),(.J 0)]) (aS:=fz (gn (D r) 3)) (g:=am)
  (ao:=yL aQ aH aP aO aa L r (gn (D r) 3) z) A0 (ff (wt (gV AF (aU j bc) Gk) tD (cE (i:=3)) (λa=>⟨y,y⟩) afh .jH (ZJ (b:=D r) (k:=3) (er Z.lim (aF y)) (aF y))) v) (by rw[iA];exact ei R) (λa a a a=>trivial) (yL.mk (p:=[]) y y az.dS .cS (.inl y)) (λx B0 l B1 ao aE bI=>ao λ{A8 p} e o Y W f=>?_) λah br c ao cL=>ao λ{A3 p} e o d aY A5=>?_
 ·have w:=V! e;obtain rfl:=w.2;refine(qq (ef w.1 (wR _ _))).elim λu H=>Y.kg.G_ (k:=D p) P Z.gY (dn Z.pE) Z.rJ Z.is H λA7 A9 c I s A6=>Y.kg.self.elim λcd q=>?_;have F:=hh.of I az.kg.xJ;have X:=Y.apart s aE;refine bI A7 u.J (eu (av (i:=1) y) q.1 (q.2.2 27 (by decide)) (P.m y) (aU ((nm.cz W (az.low A2)).get Z.hd Z.co (av (i:=3) y) (av (i:=4) y)) (aU (av (i:=2) y) (aU (av (i:=0) y) bc))) (c.mono A1)) X
   (yL.mk (p:=p++[D p]) ((ha ..).trans e) ?_ (hh.of (I.set (az.kg.self.elim λcd q=>aq az.kg.nw (dK (fA q.1))) (F.W X).1 (F.W X).2) az.kg.xJ) ((DN W f s).set (cu _)) (AD W f A6))
  rw[cp,o,show r.take (D p+[D p].length)=r.take (D p)++[u]by rw[zl,sy,H];rfl,eI];rfl
 ·have dh:r.take (gn (D r) 3)=r.take 3:=by rw[Nat.min_comm,←WN]
  rw[o,(eF p).symm.trans e,iA,dh]at cL;exact A4 ah A3 c.ev cL d aY A5
theorem b6(P:cq B)(Z:rl aa L U fQ t G r)(az:hh aQ aH aP aO aa L z)(nm:nz U aa fQ dr z)(R:dr<aQ)(af:rk fh G l r z)(E:xp aH dr fh G t N)(J:14<=n)(X:ho N [aj,A 15,A 11,A 6,A 5]=[aj,A (.J aH),A (am (G+1)),A (.J dr),A t.J]):Iq B n aQ aH aP aO aa L (.bH .NotEq (.dy (.W 0) .bE (.eb (.bR "range" [(.bR "len" [(.Z (.J 17) (.cb .Sub (.J 11) (.X 1)))])]) .bM (.X 3)) [] (.di (.bZ (.J 1) 27 [(.Z (.J 3) (.J 4)),(.J 2),(.J 0)])) [aj,A 15,A 11,A 6,A 5]) (.eb (.Z (.J 17) (.cb .Sub (.J 11) (.X 1))) .bM (.X 3))) N z:=λd=>b5 (n:=n) P Z az nm R af E J X λah H dG cL q aY W=>(Ct (B:=B) (n:=n) (af.cz az aY) E Z.pE).elim λp h=>by have dh:=yW h.1 h.2 (cE (i:=3)) y (aF y) Z.Kd;rw[←uW]at dh;have be:=ET (U:=r.take 3) λt I=>Z.is.co (dn Z.pE) t (wM I);have Y:=hz (ft:=.NotEq) dG dh (vc (eQ cL) dt be be);rw[V.ub]at Y;exact d _ H Y q.dS aY.dS W
end
section
structure si where
 (bS dr dY be gT cO aH cY:Nat)
 (it iu iv:Option V)
noncomputable def lB(c:si)(cF bt gM lX ig hU:Option V):bk:=[aj,A (.J 6),A (.J 7),cF,A (.J c.bS),bt,A (.J c.dr),A (.J c.dY),A (.J c.be),A (.J c.gT),A (.J c.cO),gM,c.it,c.iu,c.iv,A (.J c.aH),A (.J c.cY),lX,ig,hU]
noncomputable def EY:List S:=[.fc (.or [(.bH .NotEq (.bZ (.J 15) 20 [(.Z (.J 6) (.J 5)),(.J 11)]) (.bR "len" [(.Z (.J 17) (.cb .Sub (.J 11) (.X 1)))])),(.bH .NotEq (.bZ (.J 15) 24 [(.Z (.J 6) (.J 5)),(.J 11)]) (.Z (.J 17) (.cb .Sub (.J 11) (.X 1))))]) [.dg (.dF aW)] [],.fc (.bH .NotEq (.dy (.W 0) .bE (.eb (.bR "range" [(.bR "len" [(.Z (.J 17) (.cb .Sub (.J 11) (.X 1)))])]) .bM (.X 3)) [] (.di (.bZ (.J 1) 27 [(.Z (.J 3) (.J 4)),(.J 2),(.J 0)])) [aj,A 15,A 11,A 6,A 5]) (.eb (.Z (.J 17) (.cb .Sub (.J 11) (.X 1))) .bM (.X 3))) [.dg (.dF aW)] []]
variable{k:Nat} {aa:List bl} {r:List T} {t:T} {c:si}
inductive ZS(c:si)(aQ aP aO:Nat)(aa:List bl)(L:Nat->Nat)(f:Option V->bk)(aL:aA)(N:bk)(z:aA):Prop
|mk {eK:Nat} {gM:Option V}:N=f gM->aM (iK c.aH aP) aL z->(eK=aP\/D aL<=eK)->hh aQ c.aH eK aO aa L z->ZS c aQ aP aO aa L f aL N z
theorem V'(P:cq B)(Z:rl aa L U fQ t G r)(ao:hh aQ c.aH aP aO aa L z)(nm:nz U aa fQ c.dr z)(X:c.dr<aQ)(af:rk fh G l r z)(Y:14<=n)(k:∀O eK,gb B n EY (lB c cF (A t.J) (A (am (G+1))) (A (.J fh)) ig hU) z .X (lB c cF (A t.J) (A (am (G+1))) (A (.J fh)) ig hU) O->hh aQ c.aH eK aO aa L O->aM (iK c.aH aP) z O->eK=aP\/D z<=eK->False):False:=
 have E:xp c.aH c.dr fh G t (lB c cF (A t.J) (A (am (G+1))) (A (.J fh)) ig hU):=⟨y,y,y,y,y⟩
 b4 P Z ao nm af E (aq (aF y) Y) λah x H q aY W=>
 b3 P Z q (nm.cz aY (ao.low X)) (af.cz ao aY) E Y λaV vX F o I R=>
 have b:=DN aY W I
 b6 P Z o (nm.cz b (ao.low X)) X (af.cz ao b) E Y y λcD d g C i w=>
 k cD d (bv (hQ (Au H F)) (bv (hQ g) eW)) C (DN b (AD aY W R) i) (AD b (AD aY W R) w)
theorem abO(P:cq B)(I:∀G,G<=3->rl aa L U fQ t G (ly G))(ao:hh aQ c.aH aP aO aa L z)(nm:nz U aa fQ c.dr z)(Y:c.dr<aQ)(Q:∀G,G<=3->rk fh G l (ly G) z)(H:14<=n)(k:∀O eK C,eM B n (.eP (.W 11) .bE (.bR "range" [(.X 1),(.X 5)]) EY) (lB c cF (A t.J) gM (A (.J fh)) ig hU) z .X (lB c cF (A t.J) C (A (.J fh)) ig hU) O->hh aQ c.aH eK aO aa L O->aM (iK c.aH aP) z O->eK=aP\/D z<=eK->False):False:=by
 refine ox (B:=B) (n:=n) (i:=11) (g:=am) (aS:=lK 1 4) (b:=EY) (N:=lB c cF (A t.J) gM (A (.J fh)) ig hU) (ao:=λa N ah=>ZS c aQ aP aO aa L (λC=>lB c cF (A t.J) C (A (.J fh)) ig hU) z N ah)
  (xu (d:=.X 5) (k:=4) cE (aF y)) (λa a a a=>trivial) (.mk y .dd (.inl y) ao) (λp x r N ah e j bI=>j.rec λ{X C} bP aY W q=>?_) λbY O w j=>j.rec λ{X C} bP aY W q=>k O X C (bP▸w) q aY W
 obtain rfl:=bP;have w:=KV e;obtain rfl:=w.2;have Z:=hl w.1;exact V' (n:=n) (cF:=cF) (ig:=ig) (hU:=hU) P (I _ Z) q (nm.cz aY (ao.low Y)) Y ((Q _ Z).cz ao aY) H λaV vX b R F E=>bI _ aV b (.mk y (DN aY W F) (AD aY W E) R)
end
section
variable{g:eE} {R r:List T}
structure FT(g:eE)(c:Nat)(R:List T):Prop where
 ord:(fe R).Pairwise gH
 mem:∀t,t∈R↔dO g t c/\t.size<=4
structure LQ(g:eE)(c:Nat)(r:List T):Prop where
 kF:jB (fe r)
 snd:∀t∈r,dO g t c
 rA:∀t,dO g t c->hX (fe r) t.Y
theorem Tj{l:List fD}(h:l.Pairwise gH){k:Nat}{x Q:fD}(Z:x∈l.take k)(Y:Q∈l.drop k):gH x Q:=by rw[←uY k l]at h;exact(uX.mp h).2.2 x Z Q Y
theorem acp{x Q:fD}(h:gH x Q)(q:gH Q x):False:=pP (uE h q)
theorem i?{x:fD}(h:hX P x)(J:x∉P):D P=3/\∀p∈P,gH p x:=h.resolve_left J
theorem abF(a:FT g c R)(b:LQ g c r):fe (r.filter λt=>dV (t.size<=4))=fe (R.take 3):=by
 have X:jB (fe (r.filter λt=>dV (t.size<=4))):=⟨b.kF.ord.sublist (pT.map _),aq (pT.map T.Y).length_le b.kF.J⟩
 have dh:fe (R.take 3)=(fe R).take 3:=uW;have m:jB (fe (R.take 3)):=⟨a.ord.sublist ((CV 3 R).map _),by rw[dh];exact Hg _ _⟩
 refine X.ext m (λx Y=>(bJ.mp Y).elim λt h=>?_) λx Y=>(bJ.mp Y).elim λt h=>?_
 ·have f:=jw.mp h.1;rw[←h.2];refine kk.mpr (bp λJ=>?_);have F:t∈R.drop 3:=(ew.mp ((uY 3 R).symm▸((a.mem t).mpr ⟨b.snd t f.1,of_decide_eq_true f.2⟩))).resolve_left J;have bo:(R.take 3).length=3:=by
   have:=CO F;rw[MR]at this;rw[tN];exact sA (dK (Nd this))
  exact pP ((vH (x:=t.Y) b.kF m.aa ((show(fe (R.take 3)).length=(R.take 3).length from bK ..).trans bo) (λw Z=>(bJ.mp Z).elim λu q=>q.2▸b.rA u ((a.mem u).mp (wM q.1)).1) λw Z=>Tj (k:=3) a.ord (dh▸Z) ((show(fe R).drop 3=fe (R.drop 3)from List.map_drop.symm)▸kk.mpr F)).2 _ (kk.mpr f.1))
 ·have ab:=(a.mem t).mp (wM h.1);rw[←h.2]at Y⊢;refine kk.mpr (jw.mpr ⟨bp λJ=>?_,decide_eq_true ab.2⟩);have k:=i? (b.rA t ab.1) λq=>J (kk.mp q);have q:(t.Y::fe r).length<=(fe (R.take 3)).length:=(jN.mpr ⟨λq=>pP (k.2 _ q),b.kF.aa⟩).length_le_of_subset λw Z=>(ee.mp Z).elim (λe=>e▸Y) λZ=>(bJ.mp Z).elim λu q=>by
   have d:=kk.mpr ((a.mem u).mpr ⟨b.snd u q.1,aq (FL (q.2▸k.2 w Z)) ab.2⟩);rw[q.2,←uY 3 (fe R)]at d;exact dh▸(ew.mp d).resolve_right λq=>acp (k.2 _ Z) (Tj a.ord (dh▸Y) q)
  rw[iz,k.1]at q;exact aG (aq q m.J) (by decide)
theorem k8{p:T->Bool}{r:List T}(h:(fe r).Pairwise gH)(z:∀a b:T,gH a.Y b.Y->p b=ak->p a=ak):r=r.filter p++r.filter λt=>!p t:=by
 induction r with
 |nil=>rfl
 |cons t r F=>
  have h:=qX.mp h;have F:=F h.2;rw[uT,uT];cases e:p t with
  |true=>exact bA (t::·) F
  |false=>rw[show r.filter p=[]from GX.mpr λs Z q=>dT (e.symm.trans (z t s (h.1 _ (kk.mpr Z)) q))]at F⊢;exact bA (t::·) F
theorem l2(a:FT g c R)(b:LQ g c r):∃cK,r=R.take 3++cK/\∀t∈cK,5<=t.size:=by have f:=k8 (p:=λt=>dV (t.size<=4)) b.kF.ord λx Q h q=>decide_eq_true (aq (FL h) (of_decide_eq_true q));rw[((uV λz z=>T.ug).mp (abF a b))]at f;exact⟨_,f,λt m=>tR λq=>aG (jw.mp m).2 (by rw[decide_eq_true q];decide)⟩
theorem u4{l:List T}(h:IsL g c n l):(fe l).Pairwise gH:=by
 refine oZ.mpr (wF (λ{x Q} Z Y (q:x≠Q/\T.le x Q=ak)=>?_) (h.aa.and h.ord));have e:x.size=Q.size:=((h.mem x).mp Z).2.trans ((h.mem Q).mp Y).2.symm;have:=T.RO q.2 e;refine mb.mpr (.inr ⟨by rw[show D x.Y=D Q.Y from e,oA],?_⟩);cases w:ij x.Y Q.Y with
 |lt=>rfl
 |eq=>exact aG (T.ug (FK w)) q.1
 |gt=>exact aG w this
theorem vY:∀{G},G∈[0,1,2,3]->G<=3:=λh=>(by decide:∀G∈[0,1,2,3],G<=3) _ h
theorem b!(h:∀G,G<=3->IsL g c (G+1) (ly G)):FT g c ([0,1,2,3].flatMap ly):=by
 refine⟨?_,λt=>⟨λq=>(gc.mp q).elim λG q=>have w:=((h G (vY q.1)).mem t).mp q.2;⟨w.1,w.2▸dn (vY q.1)⟩,λq=>?_⟩⟩
 ·rw[show fe ([0,1,2,3].flatMap ly)=[0,1,2,3].flatMap λG=>fe (ly G)from uU];refine WI.mpr ⟨λG Z=>u4 (h G (vY Z)),wF (λ{i j} aB M (X:i<j) x P Q Y=>(bJ.mp P).elim λt U=>(bJ.mp Y).elim λs W=>?_) (by decide:[0,1,2,3].Pairwise (·<·))⟩;rw[←U.2,←W.2];exact wo<|(show D s.Y=j+1 from(((h j (vY M)).mem s).mp W.1).2)▸(show D t.Y=i+1 from(((h i (vY aB)).mem t).mp U.1).2)▸Xl X
 ·have e:=Nl (fU t.nk);have Z:t.size.pred<=3:=lc (aq (fi e) q.2);exact gc.mpr ⟨t.size.pred,(by decide:∀G,G<4->G∈[0,1,2,3]) _ (pe Z),((h _ Z).mem t).mpr ⟨q.1,e.symm⟩⟩
end
section
variable{k:Nat} {aa:List bl} {r R:List T} {t:T} {c:si} {d:afe} {az:Prop}
noncomputable def jE(t:T):V:=.Y [am t.size,t.J]
structure Ph(l:List V)(ly:Nat->List T)(aK:List (Nat×List T))(z:aA):Prop where
 e:l=aK.map λx=>V.J x.1
 r:aK.map (·.2)=[0,1,2,3].map ly
 a:∀x∈aK,z[x.1]?=A (.W (x.2.map T.J))
theorem m_{x w:V}(h:D l=4)(aR:l[0]?=A x)(ab:l[1]?=A Q)(ac:l[2]?=A ba)(bo:l[3]?=A w):l=[x,Q,ba,w]:=by refine(Hk (fi h)).symm.trans ?_;rw[sy,sy,sy,sy,aR,ab,ac,bo];rfl
theorem yT.aan(h:yT M ae t b l 4 z)(k:∀aK,Ph l (λG=>nq (ae (M t) (G+1))) aK z->False):False:=(h.xB 0 (aF y)).elim λZ aR=>(h.xB 1 (aF y)).elim λdv ab=>(h.xB 2 (aF y)).elim λet ac=>(h.xB 3 (aF y)).elim λY bo=>k [(Z,nq (ae (M t) 1)),(dv,nq (ae (M t) 2)),(et,nq (ae (M t) 3)),(Y,nq (ae (M t) 4))] ⟨m_ h.J aR.1 ab.1 ac.1 bo.1,y,qW.mpr ⟨aR.2.2,qW.mpr ⟨ab.2.2,qW.mpr ⟨ac.2.2,qW.mpr ⟨bo.2.2,λx=>afk⟩⟩⟩⟩⟩
noncomputable def Rd:S:=.ea 18 (.eb (.dy (.W 0) .bE (.J 17) [] (.hS (.W 1) .bE (.J 0) [] (.di (.Y [(.bR "len" [(.Z (.fg 55 [(.J 1)]) (.X 0))]),(.J 1)]))) [aj,aj]) .bM (.X 3))
theorem abP(P:cq B)(F:z[fh]?=A (.W l)){aK:List (Nat×List T)}(h:Ph l ly aK z)(w:∀t∈[0,1,2,3].flatMap ly,t.size<=4)(H:([0,1,2,3].flatMap ly).length<=200)(I:N[17]?=A (A (.J fh)))(J:5<=n)(k:∀O q,eM B n Rd N z .X (N.set 18 (A (.J q))) O->O[q]?=A (.W ((([0,1,2,3].flatMap ly).take 3).map jE))->aM cI z O->False):False:=by
 have de:(aK.flatMap λx=>x.2.map jE)=([0,1,2,3].flatMap ly).map jE:=by
  rw[uU,←wI (f:=λx:Nat×List T=>x.2) (g:=λl:List T=>l.map jE),h.r,wI]
 have s:∀x∈aK,∀t∈x.2,t.size<=4:=λx Z t Y=>w t ((bJ.mp (h.r▸gd Z:x.2∈[0,1,2,3].map ly)).elim λG e=>gc.mpr ⟨G,e.1,e.2▸Y⟩);have Q:(([0,1,2,3].flatMap ly).map jE).length<=cZ:=gu (hg (aq H (aF y)));refine Gf (B:=B) (n:=n) (N:=N) (z:=z) (k:=.bE) (e:=.J 17) (bq:=.J 0) (bP:=.Y [(.bR "len" [(.Z (.fg 55 [(.J 1)]) (.X 0))]),(.J 1)]) (ax:=[]) (aS:=aK) (g:=λx=>V.J x.1) (bD:=λx=>x.2) (h:=T.J) (f:=λd t=>jE t)
  (ff (av I) (gD (h.e▸F))) (λd k=>k.at (h.e▸F)) (de▸Q)
  (λx Z O k d bI=>bI _ O (ff (av y) (gD (k.at (h.a x Z)))) (λaV X=>X.get _ _ (eC (fA (h.a x Z))) (k.at (h.a x Z))) .dd)
  (λx Z t Y O d bI=>?_) λah v u E=>?_
 ·have W:=s x Z t Y;refine RM (z:=O) P t n (aq t.uo (aq W (aq (aF y) J))) (aq W (aF y)) λaV a b c X C d d=>?_;have M:=km (fo (jK (B:=B) (n:=n) (aU (av (i:=1) (N:=[A (.J x.1),A t.J]) y) bc) c) (cE (i:=0)) .Y (jx y y)) C.a (gu (ei (aq W (aF y))));rw[bK]at M;exact bI aV (eL (aU M (aU (av y) bc)) hq) X
 ·rw[de]at E;have dh:=yW v.ev E (cE (i:=3)) y (aF y) Q;rw[←uW]at dh;exact k _ _ (fX dh) dt u.dS
theorem h6(Z:ck z)(aS:List V)(h:∀x∈aS,∃dx,mV z N cQ x dx/\jX N dx/\eB B n d dx z aW z):oT B n ck cQ [d] dq a N z aS z:=by
 induction aS with
 |nil=>exact⟨Z,y⟩
 |cons x r F=>exact(h x (.head _)).elim λdx j=>.mk aW Z j.1 j.2.1 (GH j.2.2) afh (λb=>y) (F λQ Y=>h Q (.tail _ Y))
end
section
variable{k:Nat} {r cK F:List T} {t:T} {az:Prop}
theorem R'(h:t.co+1<=99):V.gh 100 (jE t)=ak:=by show(ak&&(V.gh 99 t.J&&ak))=ak;rw[t.hF h];rfl
theorem R!(h:∀t∈r,t.co+1<=99):V.fu 100 (r.map jE)=ak:=jS λH Z=>(bJ.mp Z).elim λt q=>q.2▸R' (h t q.1)
noncomputable def Uw:S:=.fc (.or [(.bH .NotEq (.eb (.J 19) .bM (.bR "len" [(.J 18)])) (.J 18)),(.bH .NotEq (.dy (.Y [0,1]) .bE (.eb (.J 19) (.bR "len" [(.J 18)]) .bM) [(.bH .Lt (.J 0) (.X 5))] (.di (.J 0)) [aj,aj]) (.W []))]) [.dg (.dF aW)] []
theorem abQ(Z:z[p]?=A (.W ((F++cK).map jE)))(Y:z[q]?=A (.W (F.map jE)))(bo:(F++cK).length<=3)(J:∀t∈F++cK,t.co+1<=99)(E:∀t∈cK,5<=t.size)(e:N[18]?=A (A (.J q)))(W:N[19]?=A (A (.J p)))(k:∀O,eM B n Uw N z .X N O->aM cI z O->False):False:=by
 have c:((F++cK).map jE).length<=cZ:=gu (ei (aq bo (aF y)));have de:D F<=3:=aq (List.sublist_append_left F cK).length_le bo;have f:(F.map jE).length<2^62:=pG (er de (aF y));have h:(F.map jE).length<=cZ:=gu (ei (aq de (aF y)));have be:=R! λt m=>J t (iZ cK m);have dh:=yW (B:=B) (n:=n) (av W) Z (km (av e) Y h) y f c;have fa:=wt (B:=B) (n:=n) (av W) (km (ah:=z++[.W (F.map jE)]) (av e) (eQ Y) h) tD afh (λx=>⟨y,y⟩) (.W (eQ Z)) (Pj (eQ Z) (.X f) .bM c);rw[eI,Hj]at dh;rw[show tp ((F++cK).map jE) (A (F.map jE).length) aj=cK.map jE by rw[eI];exact List.drop_left]at fa;have X:=hz (ft:=.NotEq) dh (av e) (vc dt (eQ Y) be be);rw[V.ub]at X;generalize R:z++[cT.W (F.map jE)]=ah at X fa;have g:=dt (z:=ah) (C:=.W (cK.map jE));have w:=Cs (ff fa (gD g)) (h6 (B:=B) (n:=n) (cQ:=.Y [0,1]) (d:=.bH .Lt (.J 0) (.X 5)) (dq:=.di (.J 0)) (N:=ho N [aj,aj]) (a:=(ah++[cT.W (cK.map jE)]).length) (z:=ah++[.W (cK.map jE)]++[.W []]) (eQ g) (cK.map jE) λH U=>?_)
 ·have l:=hz (ft:=.NotEq) w (gB bc (cW _)) (vc (eQ dt) dt y y);rw[V.ub]at l;exact k _ (hQ (Au X l)) (R▸aM.cS.dS.dS.dS)
 ·refine(bJ.mp U).elim λt q=>?_;rw[←q.2];have Q:=As (av (B:=B) (n:=n) (i:=0) (N:=[A (am t.size),A t.J]) (z:=ah++[.W (cK.map jE)]++[.W []]) y) (cE (i:=5)) (j:=5) (fP.mpr (E t q.1));exact⟨_,(DW y).1,(DW (z:=z) y).2,Q⟩
end
section
variable{k:Nat} {aa:List bl} {t:T} {c:si} {az:Prop}
structure Pn(aa:List bl)(L:Nat->Nat)(U:List T)(fQ:T->Nat)(M:T->T)(ae:T->Nat->List T):Prop where
 gY:eh (cs aa L)
 hd:ik U
 pos:0<D U
 jf:D U<=14
 s1:∀t∈U,M t∈U
 t!:∀t∈U,L (fQ (M t))=L (fQ t)
 lt:∀t∈U,fQ t<D aa
 Eb:sl (cs aa L) (λt=>L (fQ t)) (U.map M) ae 4
structure ow(aa:List bl)(L:Nat->Nat)(U:List T)(fQ:T->Nat)(M:T->T)(ae:T->Nat->List T)(c:si)(aQ aO:Nat)(cm:List Int)(es aP k:Nat)(z:aA):Prop where
 p:fV cm k z
 t:z[c.bS]?=A (.W (U.map T.J))
 nm:nz U aa fQ c.dr z
 Es:hw U M c.be z
 jI:rn (U.map M) 4 ae c.cO z
 nK:hh aQ c.aH aP aO aa L z
 s:z[c.cY]?=A (.dH 2 [(15,.J 7),(28,.J es)])
 d:z[es]?=A (.Z [])
 ne:es≠aP
 jf:D aa<=14
 tP:aQ<=c.cY
 lo:c.dr<aQ/\c.be<aQ/\c.cO<aQ
theorem Bs:cT.Z ag≠.W l:=pF.symm
theorem E'{k:Nat}:cT.dH k cd≠.W l:=JX.symm
theorem ow.fl(S:ow aa L U fQ M ae c aQ aO cm es aP k z)(q:aM (λa=>a≠6/\iK c.aH aP a) z O)(p:fV cm bI O)(az:hh aQ c.aH eK aO aa L O)(w:eK=aP\/D z<=eK):ow aa L U fQ M ae c aQ aO cm es eK bI O:=by
 have Z:∀{a ag},a<aQ->z[a]?=A (.Z ag)->a≠6/\iK c.aH aP a:=λl h=>⟨S.p.ne h Bs,S.nK.low l⟩
 have J:∀{a} {ai:List T},z[a]?=A (cT.W (ai.map T.J))->O[a]?=A (cT.W (ai.map T.J)):=λh=>q.get _ _ ⟨S.p.neT h,S.nK.W h⟩ h;refine bp λP=>S.nK.kg.self.elim λcd j=>S.nK.d.elim λag h=>P {p:=p,t:=J S.t,nm:=S.nm.d.elim λag h=>S.nm.cz q (Z S.lo.1 h.1),Es:=S.Es.d.elim λag h=>S.Es.cz q (Z S.lo.2.1 h.1),jI:=⟨S.jI.d.imp λag h=>⟨q.get _ _ (Z S.lo.2.2 h.1) h.1,h.2.1,λl Y i ab ac=>(h.2.2 l Y i ab ac).imp λp q=>⟨q.1,J q.2⟩⟩⟩,nK:=az,s:=?_,d:=?_,ne:=λe=>w.elim (λq=>S.ne (e.trans q)) λq=>aG (fA S.d) (fP.mpr (e▸q)),jf:=S.jf,tP:=S.tP,lo:=S.lo}
 ·exact q.get _ _ ⟨S.p.ne S.s E',kE S.s j.1 (λe=>by cases e),kE S.s h QC.symm⟩ S.s
 ·exact q.get _ _ ⟨S.p.ne S.d Bs,kE S.d j.1 QC,S.ne⟩ S.d
theorem hh.BI(az:hh aQ c.aH aP aO aa L z)(p:fV cm k z)(q:aM (·≠6) z O):hh aQ c.aH aP aO aa L O:=⟨az.kg.BI p q,az.d.imp λag h=>q.get _ _ (p.ne (C:=.Z ag) h Bs) h⟩
theorem ow.low(S:ow aa L U fQ M ae c aQ aO cm es aP k z)(h:a<aQ):iK c.aH aP a:=S.nK.low h
theorem fV.apart(p:fV cm k z)(S:hh aQ c.aH aP aO aa L z)(q:aM (iK c.aH aP) z O):fV cm k O:=⟨q.get _ _ (S.W p.c) p.c,q.get _ _ (S.W p.p) p.p,p.pos,p.le⟩
noncomputable def Lu:List S:=[.ea 5 (.Z (.J 4) (.fg 50 [(.J 1),(.bR "len" [(.J 4)])])),.pv 17 (.dy (.W 0) .bE (.bR "range" [(.X 1),(.X 5)]) [] (.di (.uA (.Z (.J 2) (.Y [(.Z (.J 1) (.J 3)),(.J 0)])) 56)) [aj,A 8,A 10,A 5]),.eP (.W 11) .bE (.bR "range" [(.X 1),(.X 5)]) EY,Rd,.ea 19 (.bZ (.J 16) 32 [(.Z (.J 6) (.J 5)),(.X 3)]),Uw]
theorem ow.DP(S:ow aa L U fQ M ae c aQ aO cm es aP k z)(q:aM cI z O):ow aa L U fQ M ae c aQ aO cm es aP k O:=S.fl q.of (S.p.cz q.of) ⟨S.nK.kg.k q,S.nK.d.imp λx h=>q.at h⟩ (.inl y)
theorem w9(P:cq B)(bi:Pn aa L U fQ M ae)(S:ow aa L U fQ M ae c aQ aO cm es aP k z)(X:k<=900)(j:∀O eK A5 Q A2 A3 A4,gb B 50 Lu (lB c cF bt gM lX ig hU) z .X (lB c cF A5 Q A2 A3 A4) O->ow aa L U fQ M ae c aQ aO cm es eK (k+1) O->False):False:=by refine draw (B:=B) (n:=49) (i:=1) (j:=4) (N:=lB c cF bt gM lX ig hU) P S.p X S.t bi.pos bi.jf y y λt ah Z A7 dv aY=>?_;have F:=S.fl (aY.Z λa q=>q.1) dv (S.nK.BI S.p aY) (.inl y);refine w0 (B:=B) (n:=50) (N:=lB c cF (A t.J) gM lX ig hU) P bi.hd F.jI bi.Eb F.Es Z (gd Z) (bi.hd.co _ (bi.s1 _ Z)) y (aF y) λaV bG A8 dw w d=>w.aan λaK cK=>?_;have is:∀G,G<=3->IsL (cs aa L) (L (fQ t)) (G+1) (nq (ae (M t) (G+1))):=λG g=>bi.t! t Z▸(QT (bi.Eb (M t) (gd Z) (G+1) (gF 1 G) (dn g))).1;have Y:=F.DP d;refine abO (n:=50) (cF:=cF) (gM:=gM) (ig:=ig) (hU:=hU) P (λG g=>⟨bi.gY,bi.hd,Z,g,bi.lt t Z,is G g⟩) Y.nK Y.nm Y.lo.1 (λG g=>⟨dw,(w.xB G (pe g)).imp λp q=>⟨q.1,q.2.2⟩⟩) (aF y) λcD B6 Q A9 C I A6=>?_;have H:=b! is;refine abP (n:=50) (N:=lB c cF (A t.J) Q (A (.J (D ah))) ig hU) (ly:=λG=>nq (ae (M t) (G+1))) P (Y.nK.apart I dw) ⟨cK.e,cK.r,λx f=>Y.nK.apart I (cK.a x f)⟩ (λs E=>((H.mem s).mp E).2) (aq (Ba (b:=40) λG g=>(is G (vY g)).J (dn (vY g))) (aF y)) y (aF y) λB8 q B0 l A0=>?_;have h:=(Y.fl (I.Z λa q=>q.2) (Y.p.apart Y.nK I) C A6).DP A0;refine e7 P bi.gY ⟨h.nK.kg.bz,h.jf,h.tP,h.s,h.d⟩ (bi.lt t Z) λr B9 p B1 u v e B3 B4 o=>(l2 H ⟨e,B3,B4⟩).elim λB7 ba=>?_;have J:D r<=3:=bK T.Y▸e.J;rw[ba.1]at v o J;exact abQ (B:=B) (n:=50) (N:=lB c cF (A t.J) Q (A (.J (D ah))) (A (.J q)) (A (.J p))) v (u.at l) J (λs E=>aq (o s E) (aF y)) ba.2 y y λB5 B2 A1=>j B5 _ _ _ _ _ _ (bv (fX (i:=5) A7) (bv A8 (bv A9 (bv B0 (bv (fX (i:=19) (eu (nm:=32) (av (B:=B) (n:=50) (i:=16) (N:=lB c cF (A t.J) Q (A (.J (D ah))) (A (.J q)) hU) y) h.s y (P.m y) (aU (h.nm.get bi.hd Z (av (i:=6) y) (av (i:=5) y)) (aU (cE (i:=3)) bc)) B1)) (bv B2 eW)))))) ((h.DP u).DP A1)
end
section
variable{k:Nat} {aa:List bl} {t:T} {c:si} {az:Prop}
def Ay(aa:List bl)(L:Nat->Nat)(U:List T)(fQ:T->Nat)(M:T->T)(ae:T->Nat->List T)(c:si)(aQ aO:Nat)(cm:List Int)(es k:Nat)(r:List Nat)(N:bk)(z:aA):Prop:=∀{P:Prop},(∀{aP bI:Nat} {cF bt gM lX ig hU:Option V},ow aa L U fQ M ae c aQ aO cm es aP bI z->N=lB c cF bt gM lX ig hU->bI+D r=k+2->P)->P
theorem Ay.mk{aa:List bl}{L:Nat->Nat}{U:List T}{fQ:T->Nat}{M:T->T}{ae:T->Nat->List T}{c:si}{aQ aO:Nat}{cm:List Int}{es k:Nat}{r:List Nat}{z:aA}{aP bI:Nat}{cF bt gM lX ig hU:Option V}(h:ow aa L U fQ M ae c aQ aO cm es aP bI z)(Z:N=lB c cF bt gM lX ig hU)(G:bI+D r=k+2):Ay aa L U fQ M ae c aQ aO cm es k r N z:=λe=>e h Z G
theorem x_(P:cq B)(bi:Pn aa L U fQ M ae)(S:ow aa L U fQ M ae c aQ aO cm es aP k z)(X:k<=800)(j:∀bY O,eM B 50 (.eP (.W 3) .bE (.bR "range" [(.X 2)]) Lu) (lB c cF bt gM lX ig hU) z .X bY O->False):False:=vA (B:=B) (n:=50) (i:=3) (g:=am) (aS:=fz 2) (b:=Lu) (N:=lB c cF bt gM lX ig hU) (z:=z) (ao:=Ay aa L U fQ M ae c aQ aO cm es k) (xt (k:=2) (cE (i:=2)) (aF y)) (λa a a a=>trivial) (Ay.mk S y y) (λx r N ah ao bI=>ao λ{aP bI cF bt gM lX ig hU} S e l=>by obtain rfl:=e;exact w9 (cF:=A (am x)) (bt:=bt) (gM:=gM) (lX:=lX) (ig:=ig) (hU:=hU) P bi S (aq (Nat.le.intro l) (aq (iO X 2) (aF y))) λaV vX q p Y Q I b Z=>bI _ aV b (Ay.mk Z y ((mi _ (D r)).trans l))) λbY O w a=>j bY O w
end
section
variable{b:Nat}
def Mj(Y h dr dY a:Nat):Prop:=(a<7\/(Y<=a/\a<h))\/(h<=a/\a<h+1)\/a=dr\/a=dY
theorem w2(P:cq B)(v:D is<=1000):∃O,dU B 51 57 [.J 0] [.arg (is.map .X)] (.dF ak) O:=by
 refine bp λC5=>v8 (B:=B) (n:=48) P v λA7 cm D0 C6 B0=>v9 (B:=B) (n:=50) P C6 (aF y) λA8 ai U bS k D1 dv aY C2 p w cL br=>?_;have X:=w.j! p;refine w_ (B:=B) (n:=50) (aa:=[]) P X.1 X.2.1 X.2.2.1 X.2.2.2 (B0.grow (C2.Z λa h e=>h (e▸(by decide:6<7)))) (λn h=>aG h (mO n)) cL (.inr ⟨br,fA cL⟩) (aF y) λA9 aa bQ cA dr dY D2 W B1 A2 dw Z=>?_;have E:=Z.get _ _ (.inr ⟨br,fA cL⟩) cL;have et:=dv.cz (Z.Z λa h=>.inl h);refine A2.d.elim λE2 o=>?_;have W:hv (Mj (D A7) (D A8) dr dY) aa bQ A9:=W;have C1:U.map T.J≠[]:=λe=>aG (w.pos p) ((zo.mp e)▸ic 0);have az:sR U aa cA (Mj (D A7) (D A8) dr dY) bS dr dY A9:=⟨X.1,w.pos p,X.2.1,W.rI,B1,A2,E,⟨.inr (.inr (.inl y)),et.ne o.1 Bs,kE o.1 dw Bs⟩,⟨.inl (.inr ⟨br,fA cL⟩),et.neT E,kE E dw λe=>C1 (cT.W.inj e)⟩,⟨.inr (.inr (.inr y)),et.neT (ai:=[]) dw,kE dw et.c λe=>aG et.pos ((zo.mp (cT.W.inj e).symm)▸ic 0)⟩,⟨.inl (.inl (aF y)),.inl (.inl (aF y))⟩⟩
 refine w' (B:=B) (n:=43) P az W et aY dw λcn E3 L aO bg K E4 cF E6 E7 D3 D4 C8 C9 B7 C7 C0 Q B3 A4 f=>?_;have F:=f.get _ _ az.JE az.lt;refine w? (B:=B) (n:=49) P az.hd F B7 C9 (aq C8 (aF y)) λE8 be M D5 A0 s fin E5=>VD (B:=B) (n:=50) (N:=qy aj cF (A (.J bS)) (A (.J dr)) (A (.J dY)) (A (.J be))) az.hd (A0.at F) s fin.ok.mem y y (aq az.jf (aF y)) λY gT gm D6 A1 B8 A6 r=>?_;have C3:aM cI Y (Y++[cT.Z []]):=.cS;have B6:(Y++[cT.Z []])[D Y]?=A (.Z []):=dt;refine w5 (B:=B) (n:=50) (z:=Y++[.Z []]) (q:=⟨aj,A (.J 6),A (.J 7),cF,A (.J bS),aj,A (.J dr),A (.J dY),A (.J be)⟩) (gM:=aj) (it:=aj) (iu:=aj) (iv:=aj) P (w8 az Q A4 fin A6 r) (λl v=>(bJ.mp v).elim λt q=>q.2▸az.hd.co _ (fin.ok.mem t q.1)) (λx u=>((r x).mp u).elim λt q=>q.2▸⟨t.pK,(bK _).trans t.lu⟩) (aq (A6.length_le_of_subset (l₂:=U.map (uC M)) λx u=>((r x).mp u).elim λt q=>q.2▸gd q.1) (gu az.jf)) (C3.at B8) B6 (aF y) λae gM it iu iv E9 D7 A5 B5 C4=>?_;have J:=A1.dS.past C4 A1.le;have d:=A0.trans J;refine w! (B:=B) (n:=49) (N:=qE ⟨aj,A (.J 6),A (.J 7),cF,A (.J bS),aj,A (.J dr),A (.J dY),A (.J be)⟩ gT (D Y) gM it iu iv) P (Q.cz d.of).bz (aq (az.rJ.J az.gY) az.jf) (Q.qu.imp λl q=>⟨d.at q.1,q.2⟩) (aq B3 (aF y)) y λaH aP cY es F0 D8 B2 B9 H I br bG E0 bq E1 B4=>?_;have g:=d.trans I;have A3:=(az.nm.cz f az.fn).cz d trivial;refine x_ (c:=⟨bS,dr,dY,be,gT,D Y,aH,cY,it,iu,iv⟩) (cF:=cF) (bt:=aj) (gM:=gM) (lX:=aj) (ig:=aj) (hU:=aj) P ⟨Q.rI,az.hd,az.pos,az.jf,fin.ok.mem,λt m=>(Fh az Q A4 fin (fin.ok.mem t m) m).mpr (fin.ok.rG t m),λt m=>az.lt' m,B5⟩
  ⟨C7.cz g.of,g.at F,A3.cz I trivial,s.cz (J.trans I) trivial,A5.cz I,⟨B2,⟨_,B9⟩⟩,H.s,H.d,B4,H.jf,H.tP,A3.d.elim λb q=>fA q.1,(s.cz J trivial).d.elim λb q=>fA q.1,A5.d.elim λb q=>fA q.1⟩ (aq C0 (aF y)) λbY O D9=>?_
 exact C5 ⟨O,ep (P.b y) y (bv D0 (Vh (bv D1 (bv D2 (bv D3 (bv D4 (bv (fX (i:=8) (jK (aU (av (B:=B) (n:=50) (i:=4) (N:=tq bS dr dY cF) y) (aU (av (i:=7) y) bc)) D5)) (bv (rt (i:=9) (j:=10) (eL (aU D6 (aU sj bc)) hq) (eG y)) (bv D7 (bv (rt (i:=15) (j:=16) D8 (eG y)) (bv D9 (lE (AB uM λh=>afh h) nj)))))))))))) (.inl y)⟩
end
section
variable{p:Yz}
theorem acm{H:aw}{n:Int}(ab:Well p h H (.int n)):∃t,H=.int n t:=by cases ab;exact⟨_,y⟩
theorem PB{d:xl}{dp:List xl}(ab:Ab p h aX (d::dp)):∃H R,aX=H::R/\Well p h H d/\Ab p h R dp:=by
 cases ab with
 |cons a b=>exact⟨_,_,y,a,b⟩
theorem PC(ab:Ab p h aX []):aX=[]:=by cases ab;rfl
theorem u0{ns:List Int}:∀{aX:List aw},Ab p h aX (ns.map .int)->ci I h (ns.map .X) aX:=by
 induction ns with
 |nil=>exactλ{aX} q=>PC q
 |cons n ns F=>exactλ{aX} q=>(PB q).elim λH q=>q.elim λR q=>q.1▸(acm q.2.1).elim λt e=>⟨H,R,y,e▸⟨t,y⟩,F q.2.2⟩
theorem aag(P:cq az)(g:uQ az){s:aN}(aR:az.aR=s.heap)(os:az.qC=s.os)(i:s.gens=#[]){l:aZ}{aX:List aw}{ns:List Int}(B:s.heap.get? l=A {cls:=.type "list",data:=.seq aX.toArray})(Y:Ab p s.heap aX (ns.map .int))(Z:(l==vo)=aW)(f:D ns<=1000)
  {af E:aw->aN->Prop}(q:∀aJ,(∀b C,s.heap.get? b=A C->aJ.heap.get? b=A C)->aJ.gens=#[]->aJ.os=s.os->af (.bool ak) aJ):bb (ct az) callerA (ja (.ref (az.fn 57)) [.ref l]) af E s:=by
 refine(w2 (is:=ns) P f).elim λO c=>?_;have ae:bL az [(l,aj)] [.arg (ns.map .X)] s:=⟨y,λa C e=>?_,jm ..,λa G C ab ac bo=>?_,λb al=>?_,λb C e=>aR▸e,i,os.symm,g⟩
 ·exact c.wp ⟨y,by decide,by decide⟩ ae ⟨_,_,y,⟨_,y,y⟩,y⟩ λaI bF aJ hc k X=>X.sV (q aJ (λb C e=>hc.fZ b C (aR▸e)) hc.gens (hc.os.trans os))
 ·cases a with
  |zero=>cases e;exact⟨_,y,.arg (aR▸B) B (u0 Y)⟩
  |succ a=>cases e
 ·cases a with
  |zero=>cases ac;exact aG y bo
  |succ a=>cases ac
 ·obtain rfl:=cB.mp al;exact Z
theorem T_{ar:List xl}(h:(WTm.and (.not (.lt (.lit (.int 63)) (.len (.arg 0)))) (.lit (.bool ak))).holds [] {args:=[.list ar]}=ak):D ar<=63:=by
 refine bp λJ=>?_;have h:=(holds_andW h).1;have e:less? (.int 63) (.int (D ar:Int))=A ak:=by
  show A (dV ((63:Int)<(D ar:Int)))=_;rw[decide_eq_true (show(63:Int)<(D ar:Int)from lH.mpr (tR J))]
 have H:(WTm.not (.lt (.lit (.int 63)) (.len (.arg 0)))).value [] {args:=[.list ar]}=A (.bool aW):=by
  show(match(less? (.int 63) (.int (D ar:Int))).map WData.bool with|some (.bool b)=>A (WData.bool (!b))|_=>aj)=_;rw[e];rfl
 unfold WTm.holds at h;rw[H]at h;cases h
end
theorem S!:mj.row.toRowW.claim.post as (.bool ak) g=ak:=by
 refine wr.mpr ⟨(by decide+kernel:WShape.has [] (.bool true) .bool=true),?_⟩;have e:(WTm.eq .res (.lit (.bool ak))).value [] {args:=as,res:=A (.bool ak),after:=g}=A (.bool ak):=by
  show A (WData.bool (same (.bool ak) (.bool ak)))=_;rw[show same (.bool ak) (.bool ak)=ak by decide+kernel]
 show(WTm.eq .res (.lit (.bool ak))).holds [] _=ak;unfold WTm.holds;rw[e]
theorem b1(h:mj.row.toRowW.claim.pre m=ak):∃ns:List Int,m=[.list (ns.map .int)]/\D ns<=63:=by
 have p:=pre_splitW h;refine(hasAllW_cons p.1).elim λx q=>q.elim λr q=>(hasW_list q.2.1).elim λar w=>(items_int w.2).elim λns e=>?_;have tb:m=[.list (ns.map .int)]:=by rw[q.1,hasAllW_nil q.2.2,w.1,e]
 rw[tb]at p;exact⟨ns,tb,bK (as:=ns) (WData.int)▸T_ p.2⟩
theorem acn{p:Yz}{H:aw}{ar:List xl}(ab:Well p h H (.list ar)):∃a aX,H=.ref a/\h.get? a=A {cls:=.type "list",data:=.seq aX.toArray}/\Ab p h aX ar:=by
 cases ab with
 |list a b=>exact⟨_,_,y,a,b⟩
theorem W'{ae:WRecords}{c:bj->Option aZ}{l:aZ}{ar:List xl}(q:ReadsAllW ae c h [.ref l] [.list ar] as):l∈as:=by
 cases q with
 |cons N Z=>cases N;exact iZ _ (.head _)
theorem k!{d:NF}(J:d.name=("law":bj)):WalkO oO [] (XL oO []) Iu mj.row.toRowW d r λf aX=>ja f aX:=by
 intro w j e O u G sU a C M es N P L aE F s n Z Q m cH as B h X E W;clear aE F s n h;refine sU.elim λab lQ=>(b1 B).elim λns p=>?_;obtain rfl:=p.1;refine(PB E).elim λH q=>q.elim λR q=>(acn q.2.1).elim λl t=>t.elim λaX t=>?_;have dG:cH=[.ref l]:=by rw[q.1,PC q.2.2,t.1]
 rw[dG]at X⊢;have g:uQ (AR mj.row.prog w (Fw nW ab) e.heap e.os nW):=r8 lQ.1 abm lQ.2 G.T.nolimit ⟨O,G.T.g⟩ ⟨u,G.T.b,G.T.builtins⟩;have tb:=mg_of g.CG G.T.g (g.JC 57 "law" y).1;rw[J,tb]at Z;exact(Value.ref.inj (dk Z))▸aag ⟨y⟩ g y y Q t.2.1 t.2.2 (W _ (W' X)) (aq p.2 (aF y)) λaJ aY U i=>⟨.inl ⟨_,.bool ak,[],y,λx=>y,.bool ak,S!,λx=>⟨oY,λx=>afk⟩⟩,.of_keep aY,i,.of_eq U⟩
theorem QM:(HY oO mj.row.name).isSome=ak:=by decide+kernel
noncomputable def j':NF×List (bj×bU):=(HY oO mj.row.name).get QM
theorem QL:HY oO mj.row.name=A j':=(Option.some_get QM).symm
end Mine.Internal
theorem PySem.Challenge.cw_pq0088_01_holds : PySem.Challenge.rw_pq0088_01.Holds :=
 Mine.Internal.w1 Mine.Internal.QL (by kernel_rfl) (by kernel_rfl) (Mine.Internal.k! (aeP Mine.Internal.QL))
