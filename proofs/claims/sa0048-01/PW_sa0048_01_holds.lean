import PyProof.Rows.All
import Wide.All
import OpenK.AllK
import Wide.FinOn
import KE.KSortAsk
import PySem.Challenge.RW_sa0048_01
open And renaming intro->wy
open Array renaming all_toList->M0,forIn_toList->M1,getD_eq_getD_getElem?->DF,getElem?_eq_getElem->oA,getElem?_eq_none->M2,getElem?_eq_none_iff->M3,getElem?_eq_some_iff->uC,getElem?_toList->iF,isEmpty_iff_size_eq_zero->M4,length_toList->gL,mem_of_getElem?->DG,mem_toList_iff->wz,mk->wA,replicate->DJ,size_map->M5,toList_append->M6,toList_inj->DL,toList_map->M7,toList_push->uD,toList_setIfInBounds->M8
open Bool renaming and_eq_true->kK,and_false->DN,eq_false_iff->zU,eq_iff_iff->DO,false_eq_true->DQ,false_ne_true->dR,noConfusion->dK,not_eq_false'->DR,not_eq_true'->zV,or_eq_false_iff->M9,or_eq_true->M_,or_false->Na
open Classical renaming byContradiction->DS,em->iG
open Eq renaming symm->D_,trans->uK
open ForInStep renaming yield->Ae
open Int renaming add_assoc->sP,add_comm->wI,add_le_add->Ee,add_le_add_left->Ef,add_le_add_right->Nr,add_mul->Nt,add_nonneg->wJ,add_sub_cancel->Ah,add_zero->uO,ediv_one->Nu,emod_lt_of_pos->Eg,emod_nonneg->Eh,eq_ofNat_of_zero_le->Nv,le_add_of_nonneg_right->Nx,le_add_one->Ai,le_antisymm->Aj,le_max_left->Ei,le_max_right->Ny,le_min->Ej,le_of_eq->uP,le_of_lt->nC,le_refl->fy,le_trans->fK,lt_iff_le_and_ne->Nz,lt_irrefl->NA,lt_of_le_of_lt->nD,lt_of_lt_of_le->pG,lt_trans->Ak,max_eq_left->Al,max_eq_right->NB,min_eq_left->NC,min_le_left->Ek,mul_assoc->ND,mul_comm->NE,mul_le_mul_of_nonneg_left->Am,mul_le_mul_of_nonneg_right->wK,mul_one->El,natAbs_natCast->NF,natAbs_of_nonneg->NG,natCast_add->wL,natCast_nonneg->ip,natCast_one->An,natCast_pos->oJ,natCast_succ->NH,ne_of_gt->Em,not_le->Ao,not_lt->sQ,ofNat->sR,ofNat_inj->mE,ofNat_le->kP,ofNat_lt->hH,one_mul->NI,pow_add->NJ,pow_pos->wM,pow_succ->wN,sub_add_cancel->NK,sub_nonpos_of_le->NM,sub_zero->En,toNat->uQ,toNat_lt->sS,toNat_natCast->NN,toNat_of_nonneg->uR,two_mul->NO,zero_add->Eo
open Int.ofNat renaming inj->g_
open List.Nodup renaming length_le_of_subset->nF
open List.Pairwise renaming filterMap->aaP,imp->aaQ,of_map->aaR
open List renaming Perm->iq,all_cons->wP,all_eq_true->ir,any_cons->Ar,any_eq_true->wQ,any_map->NQ,append_assoc->lN,append_nil->hK,casesOn->NR,cons->wR,cons_ne_nil->Ez,dropLast->NS,dropLast_concat->EA,drop_eq_getElem_cons->EB,drop_eq_nil_of_le->EC,drop_nil->ED,ext_getElem->NT,ext_getElem?->sY,filterMap->EE,filterMap_append->NU,filterMap_cons->wS,filterMap_cons_none->As,filterMap_cons_some->At,filterMap_eq_map->EF,filterMap_eq_nil_iff->NV,filterMap_map->EG,filterMap_nil->NW,filter_cons_of_neg->NX,filter_cons_of_pos->NY,filter_eq_nil_iff->NZ,filter_eq_self->N0,findIdx?->EH,findIdx?_cons->EI,findIdx?_eq_some_iff_getElem->EJ,findIdx_getElem->N1,findIdx_lt_length_of_exists->N2,foldl_cons->N3,forIn_cons->N4,forall_mem_cons->i_,getD_eq_getElem?_getD->jy,getElem?_append_left->gM,getElem?_append_right->sZ,getElem?_cons_succ->N5,getElem?_eq_getElem->fg,getElem?_eq_none->nH,getElem?_eq_none_iff->pH,getElem?_eq_some_iff->b_,getElem?_inj->EK,getElem?_map->fT,getElem?_mapIdx->N6,getElem?_range->wT,getElem?_reverse->N7,getElem?_set_ne->kR,getElem?_set_self->mG,getElem?_take->N8,getElem?_take_of_lt->N9,getElem?_zip_eq_some->EL,getElem_map->EM,getElem_mem->s0,getElem_range->N_,idxOf?_eq_none_iff->uU,isEmpty_iff->Au,length->lO,length_append->bm,length_cons->iu,length_eq_one_iff->Av,length_eq_zero_iff->s6,length_filterMap_le->wU,length_filter_le->Oa,length_map->bq,length_mapIdx->nJ,length_nil->Ob,length_pos_of_mem->EN,length_range->f9,length_reverse->Oc,length_set->oM,length_singleton->Aw,length_take->uV,length_take_le->Od,lookup_cons->uW,lookup_cons_self->Oe,mapIdx_append->Ax,mapIdx_cons->Ay,mapIdx_nil->Az,mapM_cons->Of,map_append->ja,map_congr_left->kS,map_cons->qV,map_eq_nil_iff->Og,map_fst_zip->EO,map_id->EP,map_inj_right->EQ,map_map->fh,map_nil->Oh,map_reverse->ER,map_snd_zip->ES,map_take->ET,mem_append->fi,mem_append_left->jz,mem_append_right->jR,mem_cons->cB,mem_cons_of_mem->bR,mem_cons_self->bk,mem_filter->oN,mem_filterMap->Oi,mem_iff_getElem->uX,mem_map->cq,mem_map_of_mem->wV,mem_of_getElem?->fF,mem_of_mem_take->Oj,mem_range->fz,mem_singleton->cP,mem_singleton_self->Ok,mem_zipIdx_iff_getElem?->Ol,nil_append->uY,nodup_append->s8,nodup_cons->gD,nodup_nil->nK,nodup_range->Om,not_mem_nil->cX,of_mem_zip->AA,pairwise_append->On,pairwise_cons->wW,pairwise_lt_range->EU,pairwise_map->AB,pairwise_singleton->Oo,range->bM,range_succ->EV,rec->uZ,replicate->gO,reverse_cons->Op,set_append_left->Oq,set_cons_succ->EW,size_toArray->pI,sum_append->Os,take_left->qW,take_length->Ot,take_nil->Ou,take_sublist->Ov,toArray->s9,zip_cons_cons->qX,zip_nil_right->Ow
open List.Perm renaming refl->sX,swap->Ey
open List.Sublist renaming map->aaS,nodup->aaT
open List.cons renaming inj->qU
open Nat renaming add_add_add_comm->Ox,add_assoc->fA,add_comm->hY,add_le_add->fL,add_le_add_left->cy,add_le_add_right->dr,add_lt_add->Oy,add_lt_add_left->AC,add_lt_add_of_lt_of_le->Oz,add_lt_add_right->u3,add_right_cancel->OA,add_right_comm->dL,add_sub_cancel'->OB,add_sub_cancel_left->wX,eq_zero_of_not_pos->E2,eq_zero_or_pos->OC,exists_eq_add_of_le->OD,le_add_left->qZ,le_add_right->bB,le_antisymm->j8,le_max_left->wY,le_max_right->OE,le_mul_of_pos_left->OF,le_of_add_le_add_right->E3,le_of_ble_eq_true->wZ,le_of_eq->bf,le_of_lt->bu,le_of_lt_succ->f_,le_of_not_lt->jb,le_of_sub_eq_zero->OG,le_of_succ_le_succ->OH,le_pred_of_lt->OJ,le_refl->bb,le_succ->eC,le_succ_of_le->mH,le_total->u4,le_trans->ay,le_zero->E4,log2_lt->E5,lt_add_of_pos_right->kU,lt_irrefl->dE,lt_of_le_of_lt->aL,lt_of_le_of_ne->mI,lt_of_lt_of_eq->w0,lt_of_lt_of_le->aR,lt_of_not_le->OK,lt_of_succ_le->oO,lt_of_succ_lt->kW,lt_of_succ_lt_succ->E6,lt_or_eq_of_le->u5,lt_or_ge->w6,lt_succ_iff_lt_or_eq->OL,lt_succ_of_le->oP,lt_succ_of_lt->cY,lt_succ_self->bY,lt_trans->bj,max_eq_left->w8,max_eq_right->w9,max_le->AE,min_eq_left->AF,min_eq_right->AG,min_le_left->lQ,min_le_right->u7,mod_lt->w_,mul_add->AH,mul_le_mul->u8,mul_le_mul_left->jc,mul_le_mul_right->u9,mul_succ->OM,ne_of_gt->iJ,ne_of_lt->bZ,noConfusion->pK,not_le_of_lt->AI,not_lt->eZ,not_lt_of_le->AJ,not_lt_zero->oQ,one_pos->ON,pow_le_pow_right->OO,rec->E7,strongRecOn->AK,sub_eq_zero_of_le->OP,sub_le->E8,sub_pos_of_lt->OQ,sub_self->xa,succ->oR,succ_add->AL,succ_add_eq_add_succ->AM,succ_le_of_lt->jA,succ_le_succ->eM,succ_lt_succ->jS,succ_mul->OS,succ_ne_self->E9,succ_ne_zero->OT,succ_pos->mJ,succ_pred_eq_of_pos->OU,two_mul->E_,zero_add->j9,zero_le->da,zero_lt_one->OV
open Nat.succ renaming inj->lR
open Ne renaming symm->dM
open Option renaming bind->j_,bind_eq_some_iff->nN,casesOn->AN,elim->AO,isNone_iff_eq_none->AP,isSome_iff_exists->xb,isSome_iff_ne_none->AQ,isSome_map->OW,map->dZ,map_eq_none_iff->s_,map_eq_some_iff->fj,none->ae,some->aa
open Option.some renaming inj->bo
open Or renaming elim->db
open Prod renaming ext->q9,fst->u_
open PyProof.Rows renaming BoolOp_and->aaU,BoolOp_or->aaV,Compare_chain->aaW,FormattedValue_plain->aaX,IntsAre->va,IsTup->aaY,JoinedStr_many->aaZ,List_->aa0,Subscript_->Fb,Tuple_->aa1,add_int->aa2,args_list_sort->Fc,args_sorted1->Fd,args_tuple_getitem->aa3,chain_last->aa4,chain_link->aa5,entry_list_sort->Fe,entry_sorted->Ff,entry_tuple_getitem->aa6,get?_update_seq->AS,getItem_tuple->aa7,getItem_tuple_from->aa8,gt_int->aa9,in_str->aa_,indices_len_le->aa',isTrue_chain->aba,is_none_ne->abb,is_none_none->abc,joinParts_cons->OX,joinParts_nil->abd,kind_sorted->Fg,le_int->abe,len_list->abf,listUpdate_at->AT,list_addW->abg,list_sort_plain->OY,list_sort_tree->OZ,lt_int->abh,mem_storedH->abi,mod_int'->abj,mul_int->abk,neg_int->abl,notIn_str->abm,not_of->abn,pairsOf->pN,plain_sorted->Fh,pow_int->abo,seqEpoch_at->AU,seqObj->fV,slicePart_int->abp,slicePart_none->O0,slot_list_sort->Fi,slot_tuple_getitem->Fj,sortedHeap_at->O1,sortedHeap_old->O2,spliced_more->O3,sub_int->abq,subscriptTail->Fk,tail_any->AV,test_last->abr,test_link->abt,tupleItemsOf_->abu,tuple_addW0->abv,tuple_addW1->abw,tuple_addW2->abx,valueAt_isSome_eq_any->O4,wpAny_notIn_heap->aby
open PyProof.Rows.SortSt renaming mk'->AR
open PySem renaming Addr->ao,Around->bU,Comprehension->tc,Const->nO,Ctx->Fz,Data->nP,DictEntry->gP,Drawn->vb,Env->cZ,Expr->ax,Fin->F7,FuncData->lS,Heap->aO,HeapKind->xg,IsRangeIter->Ba,IsTupleKey->ke,KeyKind->rd,Keyword->xh,Model->pO,NameKind->mL,Obj->jf,Params->xj,Pos->bv,Program->eD,PyData->kf,Result->rf,Scope->dN,Sem->d8,SetTable->cC,Shared->az,Slot->rg,Stmt->cg,Str->ah,Tok->jV,Value->am,World->dp,argBest->ri,arm_deleteEach_cons->Py,arm_deleteEach_nil->Pz,arm_delete_Subscript->PA,assign->iN,assignAll->GF,assignEach->mN,assignInOrder->Bo,assignStores->GG,atKey->jW,atKey_none_of_get->PB,backTo->lW,backToKw->Bp,behindInMarks->GH,bindName->xt,bootBuiltins->GJ,builtinLookup_eq_fast->PC,builtinsNs->pT,cLine->k_,call->fM,callEnv->xu,callEnvC->Bq,callWith->Br,call_meets->GK,call_meetsIn->GL,carriedByValue->Bs,checkCount->GM,clipAt->rj,closureFor->GN,codeAny->oV,codeAny_builtin->ve,codeAny_call_builtin->PD,codeAny_mono->xv,codeAny_of_tree->PE,collect->xw,compEnvC->rm,compareOp->xy,concat_meets->Bt,dictSetDefault->GO,drawOrder->GP,eqBool->xz,eval->fY,evalThenUse->GQ,exec_Assign_Name_used->PG,execs->oW,getItem->th,getMethod_builtin->GR,holding->pU,importedModules->xA,intKind->mO,intKind_is->mP,intText?->vh,isSubtype_type->GS,isTrue->xB,keywordEach->Bu,ks_wpAt_execs_cons->GT,lastMarks->GU,letOwnedTupleGo->pV,lookup_relabel_local->GX,mainGlobals->lX,methodCall->GY,methodCallPos->Bv,model->aN,noFill_tuple_add->GZ,notIterableAtAll->PH,ofAClassStatement->xE,pickOrder->xF,plainId_quiet->xG,pyIter->vj,pyNext->oX,rawInt->ti,relayAll->tj,searchCouldBeSeen->PL,seqIndex?->G2,seqItems?->G3,seq_tuple_add->G4,setAddHashed->G5,setState->ro,setsByText->xH,sizeLine->cN,sizeLine_eq->bX,size_of_entries->PM,slot_dict_getitem->G6,slot_list_setitem->PN,spliced->Bw,standAt->rp,starEach->km,step->gE,storeSet->xJ,stored->xK,strKind->G7,strKind_is->G8,swappedStores->jC,swapsWith->vl,treeTable->Bx,typeIs_str->By,typeLookup_type->PO,typeOf->rq,unsupported->oY,valueAt->jX,wpAny->aE,wpAny_Call_Name_kw->Bz,wpAny_Constant_bool->PP,wpAny_Constant_str->G9,wpAny_Dict_pairs->PQ,wpAny_Slice->G_,wpAny_allTrue_And_cons->PR,wpAny_allTrue_Or_cons->PS,wpAny_askSetting->BA,wpAny_assign_Name->BB,wpAny_bind->aA,wpAny_call->BC,wpAny_callSpecial?_slot->Ha,wpAny_call_entry->mQ,wpAny_comprehension_free->Hb,wpAny_delItem_slot->Hc,wpAny_dictEntries->Hd,wpAny_dictFind_heap->PT,wpAny_eqBool_int->PU,wpAny_eqBool_str->PV,wpAny_eqIsQuiet_tuple->PW,wpAny_execs_nil->BD,wpAny_field->vm,wpAny_forIn_list->He,wpAny_getItem_list_slice->PX,wpAny_getItem_of->PY,wpAny_getItem_str_slice->PZ,wpAny_holding->dS,wpAny_isInstance->P1,wpAny_isTrue_BoolOp->P2,wpAny_ite_split->Hg,wpAny_letGo->BE,wpAny_listPart->Hh,wpAny_list_append_plain->P3,wpAny_loadName_free->P4,wpAny_loadName_local->P5,wpAny_mono->cE,wpAny_newFunctionEnv->P6,wpAny_newList->tn,wpAny_newObj_type->ru,wpAny_newTuple->BF,wpAny_notOrdered_dict->BG,wpAny_of_eq->BH,wpAny_pure->ba,wpAny_pyIter_list->vn,wpAny_pyIter_listiter->Hj,wpAny_pyIter_slot->P8,wpAny_release->BI,wpAny_rule->rz,wpAny_seqItems->BJ,wpAny_sequenceKey->P9,wpAny_setItem_pairs->P_,wpAny_setState_of->lh,wpAny_specialOf->xL,wpAny_standAt->li,wpAny_storeName_local->Qa,wpAny_truthy_bool->Qb,wpAny_typeOf->to,wpAny_updateDictKeys->Qc,wpAny_updateSeq->Hk
open PySem.Arg renaming arg->jU
open PySem.Around renaming under_plainId->xe
open PySem.Builtin.Dict renaming dictSlotArgs->abz,keyAndDefault->Fm,takeOut->xf
open PySem.Builtin.Frozenset renaming newClass->abA,sizeOf->O5,updateFrom->abB
open PySem.Builtin.Int renaming intBits->O6
open PySem.Builtin.List renaming listExtendWith->O7,listItems->O8,listLengthHint->O9,listSameRef->O_,listSubscript?->Fn,listTooLong->abC,listUpdate->O'
open PySem.Builtin.Range renaming rangeSize->Pa,small->AX
open PySem.Builtin.Slice renaming sliceAdjust->Fo,sliceApplied->Pb,sliceFields->abD,slicePlaces->AY
open PySem.Builtin.Str renaming strSliceIndices->Fp
open PySem.Builtin.Tuple renaming tupleExact->Fq,tupleIsExact->abE,tupleItemsOf->abF
open PySem.Calls renaming call_function_entry->Fs,evalArgs_plain->Ft,loadGlobal_builtin->Pc,spliced_nil->Pd
open PySem.Challenge renaming pw_sa0048_01->abG,rw_sa0048_01->Fu
open PySem.Code renaming builtin->Fv
open PySem.Const.bool renaming elim->Fw
open PySem.Const.int renaming elim->Fx
open PySem.Const.str renaming elim->Fy
open PySem.Data.cell renaming elim->FA
open PySem.Data.dict renaming elim->FC
open PySem.Data.fields renaming elim->FF
open PySem.Data.func renaming elim->FG
open PySem.Data.seq renaming elim->FH
open PySem.Env renaming blockKind->Pe,kindOf->oS
open PySem.Expr.Attribute renaming elim->FJ
open PySem.Expr.BinOp renaming elim->FK
open PySem.Expr.BoolOp renaming elim->FL
open PySem.Expr.Call renaming elim->FM
open PySem.Expr.Compare renaming elim->FN
open PySem.Expr.Constant renaming elim->FP
open PySem.Expr.Dict renaming elim->FR
open PySem.Expr.DictComp renaming elim->FS
open PySem.Expr.FormattedValue renaming elim->FT
open PySem.Expr.IfExp renaming elim->FU
open PySem.Expr.JoinedStr renaming elim->FV
open PySem.Expr.List renaming elim->FX
open PySem.Expr.ListComp renaming elim->FY
open PySem.Expr.Name renaming elim->td
open PySem.Expr.Slice renaming elim->FZ
open PySem.Expr.Subscript renaming elim->F4
open PySem.Expr.Tuple renaming elim->F5
open PySem.Expr.UnaryOp renaming elim->F6
open PySem.F renaming called_set->q_,plain_extend_loop->Pg,plain_list_iadd->Ph,plain_set_new->Pi,slot_set_iter->Pj
open PySem.FuncBody.stmts renaming elim->F8
open PySem.Heap.DictOf renaming new->F9
open PySem.Heap.DictOfH renaming new->abH
open PySem.Heap renaming SameBut->gd,get?_push_of_some->e_,get?_push_size->dF,get?_update_other->AZ,get?_update_self->oT,lt_size->cK,size_push->A_
open PySem.Heap.SameBut renaming update->ka
open PySem.NameKind renaming cell->xi,free->fX
open PySem.Obj renaming cls->F_,data_mapDictKeys->Bb,isFreed_of_dict->Pk,mapFields->Pl,mapSeq->mM,putName->Pm
open PySem.Pairs renaming nil->Pn
open PySem.PyData renaming canLay0->Ga,canLayAll0->te,depth->tg,depthAll->re,eqv->dI,eqvAll->pP,int->Gb,keyHash->Bc,list->Gc,str->Ge,strOk->dm,tuple->Gf
open PySem.SeqAt renaming eqv_refl->Po,readOf->Gg
open PySem.SetTable renaming Met->Pp,Probe->Pq,advance->Gh,below->ki,fill->Gj,fits->Pr,grown->nQ,has->Ps,insertAt->Pt,insertAt_perm->Pu,laid->xk,sizeAbove->Gk,slot->Gl
open PySem.SetTable.Slot renaming casesOn->abI,live->abJ
open PySem.SetTable.below renaming go->Gi
open PySem.SetTable.drop renaming match_1->abK
open PySem.SetTable.instReprSlot.repr renaming match_1->abL
open PySem.SetTable.probe renaming go->pQ
open PySem.Shared renaming TypeIs->Gm
open PySem.Stmt.Assign renaming elim->Gn
open PySem.Stmt.Delete renaming elim->Go
open PySem.Stmt.Expr renaming elim->Gp
open PySem.Stmt.For renaming elim->Gq
open PySem.Stmt.If renaming elim->Gs
open PySem.Stmt.Return renaming elim->Gu
open PySem.Stmt.While renaming elim->Gv
open PySem.Str renaming empty->xl,ofString->kj
open PySem.StrLaws renaming found_one->Pv,sliceText->pR
open PySem.Unicode renaming isSpace->Gw
open PySem.Value renaming casesOn->Pw,int->Bd,isInt_shape->Gy,noConfusion->lT,none->lU,ref->Bf,str->GA,type->rh
open PySem.Value.int renaming elim->Gx,inj->Be
open PySem.Value.ref renaming elim->Gz,inj->Bh
open PySem.Value.str renaming elim->GB
open PySem.W.Fast renaming te10110043849684766642->abM,te14364793385576792824->abN,te4187177175401517315->abO,tw10110043849684766642->abP,tw14364793385576792824->abQ,tw4187177175401517315->abR
open PySem.W renaming Frag->fk,boot_drawn->Bi,boot_heap->kZ,boot_toks->Bj,callWith_of->xp,dictOf->xq,emptyDict->jB,findIn->lV,getL->pS,instObj->ix,kas_ask->Bk,kas_place->Bm,keepIn->oU,ks_superIn->xr,makesIn->vc,namesBound->GC,plainGet_of->GD,staticsOk->GE,typeIn->vd
open PySem.W.KasT renaming kasWp_bind->xn
open PySem.W.Looks renaming now->Px
open PySem.Walks renaming list->Bn
open PySem.pickOrder renaming go->PJ
set_option maxRecDepth 100000
set_option linter.all false
set_option genSizeOf false
set_option bootstrap.genMatcherCode false
set_option tactic.hygienic false
set_option genInjectivity false
set_option compiler.extract_closed false
noncomputable section
namespace Mine.Lake
open PySem PySem.W
abbrev ap:=@if_neg
abbrev aq:=@if_pos
abbrev aD:=@absurd
abbrev aQ:=@congrArg
abbrev bO:=@eq_of_beq
abbrev bQ:=@decide_eq_true
abbrev cR:=@of_decide_eq_true
abbrev dz:=@decide_eq_false
abbrev lp:=@beq_eq_false_iff_ne
abbrev qh:=@decide_eq_true_iff
abbrev sj:=@of_decide_eq_false
def kA(h:c)(q:A):@ite Prop c i A B:=(aq h).symm▸q
def j4(h:¬c)(q:B):@ite Prop c i A B:=(ap h).symm▸q
@[elab_as_elim] theorem af{a b:c}{d:c->Prop}(h:a=b)(q:d b):d a:=h▸q
@[elab_as_elim] theorem fO{a b:d}{motive:d->Prop}(p:c->motive a)(q:¬c->motive b):motive (@ite d c i a b):=if h:c then(aq h).symm▸p h else(ap h).symm▸q h
def qv{p:Prop}{i:Decidable p}{j:Decidable (decide p=true)}{A B:Prop}(a:p->A)(b:¬p->B):@ite Prop (decide p=true) j A B:=if h:p then(aq<|bQ h).mpr (a h)else(ap λe=>h<|cR e).mpr (b h)
def Vf{p:Prop}{i:Decidable p}{j:Decidable ((!decide p)=true)}{A B:Prop}(a:p->B)(b:¬p->A):@ite Prop ((!decide p)=true) j A B:=if h:p then(ap<|by rw[bQ h];exact dR).mpr (a h)else(aq<|by rw[dz h];rfl).mpr (b h)
def tt:true=true:=rfl
def bl(h:Nat.ble a b=true:=by exact tt):a<=b:=wZ h
def od [Decidable p](h:decide p=true:=by exact tt):p:=cR h
def ff{P:Prop}(h:false=true):P:=dK h
@[elab_as_elim] theorem dh{a b:c}{d:c->Prop}(h:b=a)(q:d b):d a:=h▸q
def cj{a:Prop}{b:Prop}{R:Prop}(h:(a)/\(b))(q:∀c:a,∀d:b,R):R:=by obtain⟨c,d⟩:=h;exact q c d
def aV{b:Sort _}{c:b->Prop}{R:Prop}(h:∃a:b,c a)(q:∀a:b,∀d:c a,R):R:=by obtain⟨a,d⟩:=h;exact q a d
def kz(d:a)(e:b)(f:c):(a)/\((b)/\(c)):=⟨d,e,f⟩
def aC{c:b->Prop}{d:b->Prop}(a:b)(e:c a)(f:d a):∃a:b,(c a)/\(d a):=⟨a,e,f⟩
def rW{e:c->d->Prop}(a:c)(b:d)(f:e a b):∃a:c,∃b:d,e a b:=⟨a,b,f⟩
def eQ{a:Prop}{b:Prop}{c:Prop}{R:Prop}(h:(a)/\((b)/\(c)))(q:∀d:a,∀e:b,∀f:c,R):R:=by obtain⟨d,e,f⟩:=h;exact q d e f
def aB{b:Sort _}{c:b->Prop}{d:b->Prop}{R:Prop}(h:∃a:b,(c a)/\(d a))(q:∀a:b,∀e:c a,∀f:d a,R):R:=by obtain⟨a,e,f⟩:=h;exact q a e f
def po{c:Sort _}{d:Sort _}{e:c->d->Prop}{R:Prop}(h:∃a:c,∃b:d,e a b)(q:∀a:c,∀b:d,∀f:e a b,R):R:=by obtain⟨a,b,f⟩:=h;exact q a b f
def ij(e:a)(f:b)(g:c)(h:d):(a)/\((b)/\((c)/\(d))):=⟨e,f,g,h⟩
def rU{d:b->Prop}{e:b->Prop}(f:c)(a:b)(g:d a)(h:e a):(c)/\(∃a:b,(d a)/\(e a)):=⟨f,a,g,h⟩
def bV{c:b->Prop}{d:b->Prop}{e:b->Prop}(a:b)(f:c a)(g:d a)(h:e a):∃a:b,(c a)/\((d a)/\(e a)):=⟨a,f,g,h⟩
def vQ{e:b->Prop}{f:b->d->Prop}(a:b)(g:e a)(c:d)(h:f a c):∃a:b,(e a)/\(∃c:d,f a c):=⟨a,g,c,h⟩
def c_{e:c->d->Prop}{f:c->d->Prop}(a:c)(b:d)(g:e a b)(h:f a b):∃a:c,∃b:d,(e a b)/\(f a b):=⟨a,b,g,h⟩
def v7{a:Prop}{b:Prop}{c:Prop}{d:Prop}{R:Prop}(h:(a)/\((b)/\((c)/\(d))))(q:∀e:a,∀f:b,∀g:c,∀i:d,R):R:=by obtain⟨e,f,g,i⟩:=h;exact q e f g i
def W3{c:Prop}{b:Sort _}{d:b->Prop}{e:b->Prop}{R:Prop}(h:(c)/\(∃a:b,(d a)/\(e a)))(q:∀f:c,∀a:b,∀g:d a,∀i:e a,R):R:=by obtain⟨f,a,g,i⟩:=h;exact q f a g i
def cz{b:Sort _}{c:b->Prop}{d:b->Prop}{e:b->Prop}{R:Prop}(h:∃a:b,(c a)/\((d a)/\(e a)))(q:∀a:b,∀f:c a,∀g:d a,∀i:e a,R):R:=by obtain⟨a,f,g,i⟩:=h;exact q a f g i
def W4{c:Sort _}{e:c->Prop}{d:Sort _}{f:c->d->Prop}{R:Prop}(h:∃a:c,(e a)/\(∃b:d,f a b))(q:∀a:c,∀g:e a,∀b:d,∀i:f a b,R):R:=by obtain⟨a,g,b,i⟩:=h;exact q a g b i
def fq{c:Sort _}{d:Sort _}{e:c->d->Prop}{f:c->d->Prop}{R:Prop}(h:∃a:c,∃b:d,(e a b)/\(f a b))(q:∀a:c,∀b:d,∀g:e a b,∀i:f a b,R):R:=by obtain⟨a,b,g,i⟩:=h;exact q a b g i
def yY{d:Sort _}{e:Sort _}{f:Sort _}{g:d->e->f->Prop}{R:Prop}(h:∃a:d,∃b:e,∃c:f,g a b c)(q:∀a:d,∀b:e,∀c:f,∀i:g a b c,R):R:=by obtain⟨a,b,c,i⟩:=h;exact q a b c i
def tN(f:a)(g:b)(h:c)(i:d)(j:e):(a)/\((b)/\((c)/\((d)/\(e)))):=⟨f,g,h,i,j⟩
def UZ{e:b->Prop}{f:b->Prop}(g:c)(h:d)(a:b)(i:e a)(j:f a):(c)/\((d)/\(∃a:b,(e a)/\(f a))):=⟨g,h,a,i,j⟩
def Ct{d:b->Prop}{e:b->Prop}{f:b->Prop}(g:c)(a:b)(h:d a)(i:e a)(j:f a):(c)/\(∃a:b,(d a)/\((e a)/\(f a))):=⟨g,a,h,i,j⟩
def U2{f:b->Prop}{g:b->d->Prop}(h:e)(a:b)(i:f a)(c:d)(j:g a c):(e)/\(∃a:b,(f a)/\(∃c:d,g a c)):=⟨h,a,i,c,j⟩
def vP{c:b->Prop}{d:b->Prop}{e:b->Prop}{f:b->Prop}(a:b)(g:c a)(h:d a)(i:e a)(j:f a):∃a:b,(c a)/\((d a)/\((e a)/\(f a))):=⟨a,g,h,i,j⟩
def gT{e:b->Prop}{f:b->Prop}{g:b->d->Prop}(a:b)(h:e a)(i:f a)(c:d)(j:g a c):∃a:b,(e a)/\((f a)/\(∃c:d,g a c)):=⟨a,h,i,c,j⟩
def rV{e:c->Prop}{f:c->d->Prop}{g:c->d->Prop}(a:c)(h:e a)(b:d)(i:f a b)(j:g a b):∃a:c,(e a)/\(∃b:d,(f a b)/\(g a b)):=⟨a,h,b,i,j⟩
def cp{e:c->d->Prop}{f:c->d->Prop}{g:c->d->Prop}(a:c)(b:d)(h:e a b)(i:f a b)(j:g a b):∃a:c,∃b:d,(e a b)/\((f a b)/\(g a b)):=⟨a,b,h,i,j⟩
def tP{g:d->e->f->Prop}{h:d->e->f->Prop}(a:d)(b:e)(c:f)(i:g a b c)(j:h a b c):∃a:d,∃b:e,∃c:f,(g a b c)/\(h a b c):=⟨a,b,c,i,j⟩
def C4{a:Prop}{b:Prop}{c:Prop}{d:Prop}{e:Prop}{R:Prop}(h:(a)/\((b)/\((c)/\((d)/\(e)))))(q:∀f:a,∀g:b,∀i:c,∀j:d,∀k:e,R):R:=by obtain⟨f,g,i,j,k⟩:=h;exact q f g i j k
def yV{c:Prop}{b:Sort _}{d:b->Prop}{e:b->Prop}{f:b->Prop}{R:Prop}(h:(c)/\(∃a:b,(d a)/\((e a)/\(f a))))(q:∀g:c,∀a:b,∀i:d a,∀j:e a,∀k:f a,R):R:=by obtain⟨g,a,i,j,k⟩:=h;exact q g a i j k
def yW{b:Sort _}{c:b->Prop}{d:b->Prop}{e:b->Prop}{f:b->Prop}{R:Prop}(h:∃a:b,(c a)/\((d a)/\((e a)/\(f a))))(q:∀a:b,∀g:c a,∀i:d a,∀j:e a,∀k:f a,R):R:=by obtain⟨a,g,i,j,k⟩:=h;exact q a g i j k
def C5{c:Sort _}{e:c->Prop}{d:Sort _}{f:c->d->Prop}{g:c->d->Prop}{R:Prop}(h:∃a:c,(e a)/\(∃b:d,(f a b)/\(g a b)))(q:∀a:c,∀i:e a,∀b:d,∀j:f a b,∀k:g a b,R):R:=by obtain⟨a,i,b,j,k⟩:=h;exact q a i b j k
def W5{d:Sort _}{g:d->Prop}{e:Sort _}{f:Sort _}{i:d->e->f->Prop}{R:Prop}(h:∃a:d,(g a)/\(∃b:e,∃c:f,i a b c))(q:∀a:d,∀j:g a,∀b:e,∀c:f,∀k:i a b c,R):R:=by obtain⟨a,j,b,c,k⟩:=h;exact q a j b c k
def dA{c:Sort _}{d:Sort _}{e:c->d->Prop}{f:c->d->Prop}{g:c->d->Prop}{R:Prop}(h:∃a:c,∃b:d,(e a b)/\((f a b)/\(g a b)))(q:∀a:c,∀b:d,∀i:e a b,∀j:f a b,∀k:g a b,R):R:=by obtain⟨a,b,i,j,k⟩:=h;exact q a b i j k
def C6{d:Sort _}{e:Sort _}{f:Sort _}{g:d->e->f->Prop}{i:d->e->f->Prop}{R:Prop}(h:∃a:d,∃b:e,∃c:f,(g a b c)/\(i a b c))(q:∀a:d,∀b:e,∀c:f,∀j:g a b c,∀k:i a b c,R):R:=by obtain⟨a,b,c,j,k⟩:=h;exact q a b c j k
def tO(g:a)(h:b)(i:c)(j:d)(k:e)(l:f):(a)/\((b)/\((c)/\((d)/\((e)/\(f))))):=⟨g,h,i,j,k,l⟩
def Jz{c:b->Prop}{d:b->Prop}{e:b->Prop}{f:b->Prop}{g:b->Prop}(a:b)(h:c a)(i:d a)(j:e a)(k:f a)(l:g a):∃a:b,(c a)/\((d a)/\((e a)/\((f a)/\(g a)))):=⟨a,h,i,j,k,l⟩
def yA{e:c->d->Prop}{f:c->d->Prop}{g:c->d->Prop}{h:c->d->Prop}(a:c)(b:d)(i:e a b)(j:f a b)(k:g a b)(l:h a b):∃a:c,∃b:d,(e a b)/\((f a b)/\((g a b)/\(h a b))):=⟨a,b,i,j,k,l⟩
def rX{g:d->e->f->Prop}{h:d->e->f->Prop}{i:d->e->f->Prop}(a:d)(b:e)(c:f)(j:g a b c)(k:h a b c)(l:i a b c):∃a:d,∃b:e,∃c:f,(g a b c)/\((h a b c)/\(i a b c)):=⟨a,b,c,j,k,l⟩
def W0{a:Prop}{b:Prop}{c:Prop}{d:Prop}{e:Prop}{f:Prop}{R:Prop}(h:(a)/\((b)/\((c)/\((d)/\((e)/\(f))))))(q:∀g:a,∀i:b,∀j:c,∀k:d,∀l:e,∀m:f,R):R:=by obtain⟨g,i,j,k,l,m⟩:=h;exact q g i j k l m
def yX{c:Sort _}{d:Sort _}{e:c->d->Prop}{f:c->d->Prop}{g:c->d->Prop}{i:c->d->Prop}{R:Prop}(h:∃a:c,∃b:d,(e a b)/\((f a b)/\((g a b)/\(i a b))))(q:∀a:c,∀b:d,∀j:e a b,∀k:f a b,∀l:g a b,∀m:i a b,R):R:=by obtain⟨a,b,j,k,l,m⟩:=h;exact q a b j k l m
def fQ{d:Sort _}{e:Sort _}{f:Sort _}{g:d->e->f->Prop}{i:d->e->f->Prop}{j:d->e->f->Prop}{R:Prop}(h:∃a:d,∃b:e,∃c:f,(g a b c)/\((i a b c)/\(j a b c)))(q:∀a:d,∀b:e,∀c:f,∀k:g a b c,∀l:i a b c,∀m:j a b c,R):R:=by obtain⟨a,b,c,k,l,m⟩:=h;exact q a b c k l m
def W7{e:Sort _}{f:Sort _}{g:Sort _}{i:Sort _}{j:e->f->g->i->Prop}{k:e->f->g->i->Prop}{R:Prop}(h:∃a:e,∃b:f,∃c:g,∃d:i,(j a b c d)/\(k a b c d))(q:∀a:e,∀b:f,∀c:g,∀d:i,∀l:j a b c d,∀m:k a b c d,R):R:=by obtain⟨a,b,c,d,l,m⟩:=h;exact q a b c d l m
def yB{e:c->d->Prop}{f:c->d->Prop}{g:c->d->Prop}{h:c->d->Prop}{i:c->d->Prop}(a:c)(b:d)(j:e a b)(k:f a b)(l:g a b)(m:h a b)(n:i a b):∃a:c,∃b:d,(e a b)/\((f a b)/\((g a b)/\((h a b)/\(i a b)))):=⟨a,b,j,k,l,m,n⟩
def dO{g:d->e->f->Prop}{h:d->e->f->Prop}{i:d->e->f->Prop}{j:d->e->f->Prop}(a:d)(b:e)(c:f)(k:g a b c)(l:h a b c)(m:i a b c)(n:j a b c):∃a:d,∃b:e,∃c:f,(g a b c)/\((h a b c)/\((i a b c)/\(j a b c))):=⟨a,b,c,k,l,m,n⟩
def KT{a:Prop}{b:Prop}{c:Prop}{d:Prop}{e:Prop}{f:Prop}{g:Prop}{R:Prop}(h:(a)/\((b)/\((c)/\((d)/\((e)/\((f)/\(g)))))))(q:∀i:a,∀j:b,∀k:c,∀l:d,∀m:e,∀n:f,∀o:g,R):R:=by obtain⟨i,j,k,l,m,n,o⟩:=h;exact q i j k l m n o
def fJ{d:Sort _}{e:Sort _}{f:Sort _}{g:d->e->f->Prop}{i:d->e->f->Prop}{j:d->e->f->Prop}{k:d->e->f->Prop}{R:Prop}(h:∃a:d,∃b:e,∃c:f,(g a b c)/\((i a b c)/\((j a b c)/\(k a b c))))(q:∀a:d,∀b:e,∀c:f,∀l:g a b c,∀m:i a b c,∀n:j a b c,∀o:k a b c,R):R:=by obtain⟨a,b,c,l,m,n,o⟩:=h;exact q a b c l m n o
def U4{c:b->Prop}{d:b->Prop}{e:b->Prop}{f:b->Prop}{g:b->Prop}{h:b->Prop}{i:b->Prop}(a:b)(j:c a)(k:d a)(l:e a)(m:f a)(n:g a)(o:h a)(p:i a):∃a:b,(c a)/\((d a)/\((e a)/\((f a)/\((g a)/\((h a)/\(i a)))))):=⟨a,j,k,l,m,n,o,p⟩
def vR{e:c->d->Prop}{f:c->d->Prop}{g:c->d->Prop}{h:c->d->Prop}{i:c->d->Prop}{j:c->d->Prop}(a:c)(b:d)(k:e a b)(l:f a b)(m:g a b)(n:h a b)(o:i a b)(p:j a b):∃a:c,∃b:d,(e a b)/\((f a b)/\((g a b)/\((h a b)/\((i a b)/\(j a b))))):=⟨a,b,k,l,m,n,o,p⟩
def m0{g:d->e->f->Prop}{h:d->e->f->Prop}{i:d->e->f->Prop}{j:d->e->f->Prop}{k:d->e->f->Prop}(a:d)(b:e)(c:f)(l:g a b c)(m:h a b c)(n:i a b c)(o:j a b c)(p:k a b c):∃a:d,∃b:e,∃c:f,(g a b c)/\((h a b c)/\((i a b c)/\((j a b c)/\(k a b c)))):=⟨a,b,c,l,m,n,o,p⟩
def jI{i:e->f->g->h->Prop}{j:e->f->g->h->Prop}{k:e->f->g->h->Prop}{l:e->f->g->h->Prop}(a:e)(b:f)(c:g)(d:h)(m:i a b c d)(n:j a b c d)(o:k a b c d)(p:l a b c d):∃a:e,∃b:f,∃c:g,∃d:h,(i a b c d)/\((j a b c d)/\((k a b c d)/\(l a b c d))):=⟨a,b,c,d,m,n,o,p⟩
def KU{c:Sort _}{d:Sort _}{e:c->d->Prop}{f:c->d->Prop}{g:c->d->Prop}{i:c->d->Prop}{j:c->d->Prop}{k:c->d->Prop}{R:Prop}(h:∃a:c,∃b:d,(e a b)/\((f a b)/\((g a b)/\((i a b)/\((j a b)/\(k a b))))))(q:∀a:c,∀b:d,∀l:e a b,∀m:f a b,∀n:g a b,∀o:i a b,∀p:j a b,∀r:k a b,R):R:=by obtain⟨a,b,l,m,n,o,p,r⟩:=h;exact q a b l m n o p r
def se{d:Sort _}{e:Sort _}{f:Sort _}{g:d->e->f->Prop}{i:d->e->f->Prop}{j:d->e->f->Prop}{k:d->e->f->Prop}{l:d->e->f->Prop}{R:Prop}(h:∃a:d,∃b:e,∃c:f,(g a b c)/\((i a b c)/\((j a b c)/\((k a b c)/\(l a b c)))))(q:∀a:d,∀b:e,∀c:f,∀m:g a b c,∀n:i a b c,∀o:j a b c,∀p:k a b c,∀r:l a b c,R):R:=by obtain⟨a,b,c,m,n,o,p,r⟩:=h;exact q a b c m n o p r
def sf{e:Sort _}{f:Sort _}{g:Sort _}{i:Sort _}{j:e->f->g->i->Prop}{k:e->f->g->i->Prop}{l:e->f->g->i->Prop}{m:e->f->g->i->Prop}{R:Prop}(h:∃a:e,∃b:f,∃c:g,∃d:i,(j a b c d)/\((k a b c d)/\((l a b c d)/\(m a b c d))))(q:∀a:e,∀b:f,∀c:g,∀d:i,∀n:j a b c d,∀o:k a b c d,∀p:l a b c d,∀r:m a b c d,R):R:=by obtain⟨a,b,c,d,n,o,p,r⟩:=h;exact q a b c d n o p r
def Cu{g:d->e->f->Prop}{h:d->e->f->Prop}{i:d->e->f->Prop}{j:d->e->f->Prop}{k:d->e->f->Prop}{l:d->e->f->Prop}(a:d)(b:e)(c:f)(m:g a b c)(n:h a b c)(o:i a b c)(p:j a b c)(q:k a b c)(r:l a b c):∃a:d,∃b:e,∃c:f,(g a b c)/\((h a b c)/\((i a b c)/\((j a b c)/\((k a b c)/\(l a b c))))):=⟨a,b,c,m,n,o,p,q,r⟩
def U6{i:e->f->g->h->Prop}{j:e->f->g->h->Prop}{k:e->f->g->h->Prop}{l:e->f->g->h->Prop}{m:e->f->g->h->Prop}(a:e)(b:f)(c:g)(d:h)(n:i a b c d)(o:j a b c d)(p:k a b c d)(q:l a b c d)(r:m a b c d):∃a:e,∃b:f,∃c:g,∃d:h,(i a b c d)/\((j a b c d)/\((k a b c d)/\((l a b c d)/\(m a b c d)))):=⟨a,b,c,d,n,o,p,q,r⟩
def v8{d:Sort _}{e:Sort _}{f:Sort _}{g:d->e->f->Prop}{i:d->e->f->Prop}{j:d->e->f->Prop}{k:d->e->f->Prop}{l:d->e->f->Prop}{m:d->e->f->Prop}{R:Prop}(h:∃a:d,∃b:e,∃c:f,(g a b c)/\((i a b c)/\((j a b c)/\((k a b c)/\((l a b c)/\(m a b c))))))(q:∀a:d,∀b:e,∀c:f,∀n:g a b c,∀o:i a b c,∀p:j a b c,∀r:k a b c,∀s:l a b c,∀t:m a b c,R):R:=by obtain⟨a,b,c,n,o,p,r,s,t⟩:=h;exact q a b c n o p r s t
def KX{g:Sort _}{i:Sort _}{j:Sort _}{k:Sort _}{l:Sort _}{m:Sort _}{n:g->i->j->k->l->m->Prop}{o:g->i->j->k->l->m->Prop}{p:g->i->j->k->l->m->Prop}{R:Prop}(h:∃a:g,∃b:i,∃c:j,∃d:k,∃e:l,∃f:m,(n a b c d e f)/\((o a b c d e f)/\(p a b c d e f)))(q:∀a:g,∀b:i,∀c:j,∀d:k,∀e:l,∀f:m,∀r:n a b c d e f,∀s:o a b c d e f,∀t:p a b c d e f,R):R:=by obtain⟨a,b,c,d,e,f,r,s,t⟩:=h;exact q a b c d e f r s t
def U5{g:d->e->f->Prop}{h:d->e->f->Prop}{i:d->e->f->Prop}{j:d->e->f->Prop}{k:d->e->f->Prop}{l:d->e->f->Prop}{m:d->e->f->Prop}(a:d)(b:e)(c:f)(n:g a b c)(o:h a b c)(p:i a b c)(q:j a b c)(r:k a b c)(s:l a b c)(t:m a b c):∃a:d,∃b:e,∃c:f,(g a b c)/\((h a b c)/\((i a b c)/\((j a b c)/\((k a b c)/\((l a b c)/\(m a b c)))))):=⟨a,b,c,n,o,p,q,r,s,t⟩
def Cv{m:g->h->i->j->k->l->Prop}{n:g->h->i->j->k->l->Prop}{o:g->h->i->j->k->l->Prop}{p:g->h->i->j->k->l->Prop}(a:g)(b:h)(c:i)(d:j)(e:k)(f:l)(q:m a b c d e f)(r:n a b c d e f)(s:o a b c d e f)(t:p a b c d e f):∃a:g,∃b:h,∃c:i,∃d:j,∃e:k,∃f:l,(m a b c d e f)/\((n a b c d e f)/\((o a b c d e f)/\(p a b c d e f))):=⟨a,b,c,d,e,f,q,r,s,t⟩
def v9{g:Sort _}{i:Sort _}{j:Sort _}{k:Sort _}{l:Sort _}{m:Sort _}{n:g->i->j->k->l->m->Prop}{o:g->i->j->k->l->m->Prop}{p:g->i->j->k->l->m->Prop}{r:g->i->j->k->l->m->Prop}{R:Prop}(h:∃a:g,∃b:i,∃c:j,∃d:k,∃e:l,∃f:m,(n a b c d e f)/\((o a b c d e f)/\((p a b c d e f)/\(r a b c d e f))))(q:∀a:g,∀b:i,∀c:j,∀d:k,∀e:l,∀f:m,∀s:n a b c d e f,∀t:o a b c d e f,∀u:p a b c d e f,∀v:r a b c d e f,R):R:=by obtain⟨a,b,c,d,e,f,s,t,u,v⟩:=h;exact q a b c d e f s t u v
def U7{m:g->h->i->j->k->l->Prop}{n:g->h->i->j->k->l->Prop}{o:g->h->i->j->k->l->Prop}{p:g->h->i->j->k->l->Prop}{q:g->h->i->j->k->l->Prop}(a:g)(b:h)(c:i)(d:j)(e:k)(f:l)(r:m a b c d e f)(s:n a b c d e f)(t:o a b c d e f)(u:p a b c d e f)(v:q a b c d e f):∃a:g,∃b:h,∃c:i,∃d:j,∃e:k,∃f:l,(m a b c d e f)/\((n a b c d e f)/\((o a b c d e f)/\((p a b c d e f)/\(q a b c d e f)))):=⟨a,b,c,d,e,f,r,s,t,u,v⟩
def W6{c:Sort _}{d:Sort _}{e:c->d->Prop}{f:c->d->Prop}{g:c->d->Prop}{i:c->d->Prop}{j:c->d->Prop}{k:c->d->Prop}{l:c->d->Prop}{m:c->d->Prop}{n:c->d->Prop}{R:Prop}(h:∃a:c,∃b:d,(e a b)/\((f a b)/\((g a b)/\((i a b)/\((j a b)/\((k a b)/\((l a b)/\((m a b)/\(n a b)))))))))(q:∀a:c,∀b:d,∀o:e a b,∀p:f a b,∀r:g a b,∀s:i a b,∀t:j a b,∀u:k a b,∀v:l a b,∀w:m a b,∀x:n a b,R):R:=by obtain⟨a,b,o,p,r,s,t,u,v,w,x⟩:=h;exact q a b o p r s t u v w x
def JA{o:h->i->j->k->l->m->n->Prop}{p:h->i->j->k->l->m->n->Prop}{q:h->i->j->k->l->m->n->Prop}{r:h->i->j->k->l->m->n->Prop}{s:h->i->j->k->l->m->n->Prop}{t:h->i->j->k->l->m->n->Prop}{u:h->i->j->k->l->m->n->Prop}(a:h)(b:i)(c:j)(d:k)(e:l)(f:m)(g:n)(v:o a b c d e f g)(w:p a b c d e f g)(x:q a b c d e f g)(y:r a b c d e f g)(z:s a b c d e f g)(A:t a b c d e f g)(B:u a b c d e f g):∃a:h,∃b:i,∃c:j,∃d:k,∃e:l,∃f:m,∃g:n,(o a b c d e f g)/\((p a b c d e f g)/\((q a b c d e f g)/\((r a b c d e f g)/\((s a b c d e f g)/\((t a b c d e f g)/\(u a b c d e f g)))))):=⟨a,b,c,d,e,f,g,v,w,x,y,z,A,B⟩
def Di{d:c}{e:b->c}(h:∃a:b,d=e a):∀R:c->Prop,(∀(a:b),R<|e a)->R d:=by obtain⟨a,f⟩:=h;intro R q;rw[f];exact q a
def X4{d:c}{e:b->c}{f:b->Prop}(h:∃a:b,(d=e a)/\(f a)):∀R:c->Prop,(∀(a:b)(g:f a),R<|e a)->R d:=by obtain⟨a,i,g⟩:=h;intro R q;rw[i];exact q a g
def X5{d:c}{e:b->c}{f:b->Prop}{g:b->Prop}(h:∃a:b,(d=e a)/\((f a)/\(g a))):∀R:c->Prop,(∀(a:b)(i:f a)(j:g a),R<|e a)->R d:=by obtain⟨a,k,i,j⟩:=h;intro R q;rw[k];exact q a i j
section
set_option tactic.hygienic true
def pp(h:0<k):k-1<k:=Nat.sub_lt h ON
def qL(h:k+i=m+1)(a:i<m):k-1<k/\k-1+(i+1)=m+1:=by cases k with|zero=>exact aD a (eZ.mpr<|ay (eC m)<|bf<|h.symm.trans<|j9 i)|succ k=>exact⟨bY k,(dL k i 1).trans<|(dL k i 1).symm.trans<|(AM k i).symm.trans h⟩
def ZM{s:Int}{k:Nat}(h:s<=k*2^40)(a:k<=2):s<2^63:=nD (fK h<|wK (kP.mpr a)<|by decide) (by decide)
def Ki{i:Int}(h:0<=i): -2^63<=i:=fK (by decide) h
def UU{i:Int}(h:i<2^40):i<2^63:=Ak h (by decide)
def Km(m:Nat):13+m<m+15:=aL (bf<|hY 13 m)<|AC bl m
def Kx(k:Nat):max (k:Int) 0=k:=Al<|ip k
def Ky(k:Nat):max (k:Int) 0<((k+1:Nat):Int):=nD (uP<|Kx k)<|hH.mpr<|bY k
def Ws(h:t+b=s+c)(l:b<=c)(m:c<=N):t=s+(c-b)/\2*(N-c)+t<2*(N-b)+(s+1):=by obtain⟨d,rfl⟩:=OD l;obtain⟨e,rfl⟩:=OD m;have a:t=s+d:=OA<|h.trans<|Nat.add_left_comm s b d▸hY b (s+d);rw[wX,wX,fA,wX,a,AH,hY s d,<-fA,hY<|2*d];exact⟨rfl,oP<|dr (cy (OF d bl) _) _⟩
def Wt(h:t+b=s+c)(l:b<=c)(k:s<=2*b):t<=2*c:=ay (E3 (b:=b)<|h▸ay (dr k c) (bf<|E_ b▸dL b b c))<|E_ c▸dr l c
def dd(h:i+(k+1)<=N):i+1+k<=N/\i<N:=⟨ay (bf<|dL i 1 k) h,aR (oP<|bB i k) h⟩
def abU(h:k=j+1):k≠0:=h▸OT j
def KB{i:Int}{k:Nat}(h:0<=i)(g:i<k):i.natAbs<k:=hH.mp<|nD (uP<|NG h) g
def qH(h:q<=p+a):q+a*y<=p+a*(y+1):=ay (dr h _)<|bf<|(dL p a<|a*y).trans<|fA ..
def WH{S T w u:Nat}(h:T+1<=S)(a:u<=18):20*T+(w+u)+2<=20*S+w:=by rw[hY w u,<-fA,dL];exact dr (ay (cy (dr a 2) _)<|jc 20 h) w
def Xy{c S N w:Nat}(h:N<=17):c+1+3*(20*(S+N)+w)<=c+3*(20*S+w)+1021:=ay (cy (jc 3<|ay (bf<|by rw[AH,dL])<|cy (jc 20 h)<|20*S+w) _)<|bf<|(dL c 1 _).trans<|(aQ (·+1)<|(aQ (c+ ·)<|AH 3 (20*S+w)<|20*17).trans (fA ..).symm).trans<|fA ..
def Qv(h:d+j=1):N+(c+d)+(l+j)=N+1+c+l:=by rw[fA,Ox,h,dL N 1 c,dL (N+c) 1 l,fA N c l];rfl
def ci{a b:Nat}(h:a=b):(a:Int)=b:=aQ _ h
def cn{a b:Nat}(h:¬a=b):¬(a:Int)=b:=λe=>h<|g_ e
def m8(h:k=a)(g:a≠b):k≠b:=h▸g
def WA(a b:Nat):min a b=a\/min a b=b:=(u4 a b).imp AF AG
def Wr(a b:Nat):max a b=a\/max a b=b:=(u4 b a).imp w8 w9
def WE{a b:Nat}:a≠b↔min a b≠max a b:=not_congr ⟨λe=>e▸(Nat.min_self a).trans (Nat.max_self a).symm,λe=>j8 (ay (wY a b)<|ay (bf e.symm)<|u7 a b)<|ay (OE a b)<|ay (bf e.symm)<|lQ a b⟩
def Jo(h:i≠l.length):(l++[x])[i]? =l[i]? :=if a:i<l.length then gM a else(nH<|bm▸mI (jb a) (dM h)).trans (nH<|jb a).symm
def yI(h:k<3):k=0\/k=1\/k=2:=(u5<|f_ h).elim (λh=>(u5<|f_ h).elim (λh=>.inl<|Nat.lt_one_iff.mp h) λe=>.inr<|.inl e) λe=>.inr<|.inr e
def J8(h:l.length=2):∃a b,l=[a,b]:=by cases l with|nil=>exact pK h|cons a l=>exact(Av.mp<|lR h).elim λb e=>⟨a,b,e▸rfl⟩
def J4(h:l.length<=2):l=[]\/(∃a,l=[a])\/∃a b,l=[a,b]:=(yI<|oP h).imp s6.mp λh=>h.imp Av.mp J8
def Xz(h:k<3)(f:Nat->a):([f 0,f 1,f 2]:List a)[k]? =aa (f k):=by rcases yI h with rfl|rfl|rfl<;>rfl
end
section
set_option genInjectivity true in
inductive br where
 |e (n:Nat)
 |f (n:Nat)
 deriving DecidableEq
set_option genInjectivity true in
inductive cT where
 |i (n:Int)
 |s (x:ah)
 deriving DecidableEq
set_option genInjectivity true in
inductive V where
 |t
 |q
 |g (b:Bool)
 |e (i:Int)
 |p (s:ah)
 |h (l:List V)
 |y (l:List V)
 |L (a b:Int)
 |N (l:List V)
 |f (r:br)
 |F (v:am)
set_option genCtorIdx false in
inductive O where
 |e (l:List V)
 |f (m:Int->Option V)
 |h (m:ah->Option V)
 |p (m:List cT->Option V)
 |g (c:Nat) (vals:List V)
universe u
noncomputable def V.J{a:Sort u}(v:V)(d:a)(c:ah->a)(e f:List V->a)(g:br->a):a:=V.casesOn (motive_1:=λb=>a) v d d (λb=>d) (λb=>d) c e f (λb b=>d) (λb=>d) g λb=>d
noncomputable def O.q{a:Sort u}(o:Option O)(d:a)(b:List V->a)(c:(Int->Option V)->a)(e:(ah->Option V)->a)(f:(List cT->Option V)->a)(inst:Nat->List V->a):a:=AN (motive:=λg=>a) o d λo=>O.casesOn (motive:=λg=>a) o b c e f inst
def aY{b:Type}{P:Prop}{a:b}(h:ae=aa a):P:=nomatch h
noncomputable def gR(v:V):Option Int:=V.casesOn (motive_1:=λa=>Option Int) v ae ae (λa=>ae) aa (λa=>ae) (λa=>ae) (λa=>ae) (λa a=>ae) (λa=>ae) (λa=>ae) λa=>ae
noncomputable def rI(v:V):Option ah:=v.J ae aa (λa=>ae) (λa=>ae) λa=>ae
noncomputable def o6(v:V):Option (List V):=v.J ae (λa=>ae) aa (λa=>ae) λa=>ae
def gR.e{v:V}{i:Int}(h:gR v=aa i):v=.e i:=by cases v<;>first|exact aY h|exact aQ V.e<|bo h
def rI.e{v:V}{i:ah}(h:rI v=aa i):v=.p i:=by cases v<;>first|exact aY h|exact aQ V.p<|bo h
def o6.e{v:V}{i:List V}(h:o6 v=aa i):v=.h i:=by cases v<;>first|exact aY h|exact aQ V.h<|bo h
def jD(h:o.bind f=aa b):∃a,o=aa a/\f a=aa b:=nN.mp h
theorem gR.b{b:a}(h:(gR v).bind f=aa b):∃i,v=.e i/\f i=aa b:=(jD h).elim λi h=>(aC i (gR.e h.1) h.2)
theorem rI.b{b:a}(h:(rI v).bind f=aa b):∃i,v=.p i/\f i=aa b:=(jD h).elim λi h=>(aC i (rI.e h.1) h.2)
theorem o6.b{b:a}(h:(o6 v).bind f=aa b):∃i,v=.h i/\f i=aa b:=(jD h).elim λi h=>(aC i (o6.e h.1) h.2)
def qN(v:V)(f:Int->Prop):Prop:=V.casesOn (motive_1:=λa=>Prop) v False False (λa=>False) f (λa=>False) (λa=>False) (λa=>False) (λa a=>False) (λa=>False) (λa=>False) λa=>False
def zO(v:V)(f:ah->Prop):Prop:=v.J False f (λa=>False) (λa=>False) λa=>False
def qN.e(h:qN v f):∃i,v=.e i/\f i:=by cases v<;>first|exact h.elim|exact(aC _ rfl h)
def zO.e(h:zO v f):∃i,v=.p i/\f i:=by cases v<;>first|exact h.elim|exact(aC _ rfl h)
noncomputable abbrev Slot:=Option<|Option O
abbrev St:=br->Slot
noncomputable def bi(a:St)(r:br)(o:O):St:=λx=>if x=r then aa (aa o)else a x
structure lJ where
 e:ao
 f:List ah
structure Ctx where
 e:eD
 w:dp
 K:fk
 f:aO
 h:Nat->Option lJ
 q:Nat->Option ah
 p:Nat->V
 g:Nat->ah
noncomputable abbrev aX:=br->Option (ao×ao)
def lA(b:aX)(a:ao):Prop:=∃r p,b r=aa p/\(a=p.1\/a=p.2)
def aM(X:ao->Prop)(b:aX)(a:ao):Prop:=X a\/lA b a
noncomputable abbrev pw(a:Array am)(n:Nat):jf:=⟨.type "tuple",ae,.seq a n,#[]⟩
noncomputable abbrev im(a:Array am)(n:Nat):jf:=⟨.type "list",ae,.seq a n,#[]⟩
def NP(h:aO)(a:ao)(i j:Int):Prop:=AX i j 1=true/\∃t u v:jV,h.get? a=aa ⟨.type "range",ae,.fields #[.int i t,.int j u,.int 1 v],#[]⟩
mutual
noncomputable def VR(b:ao->Prop)(φ:aX)(h:aO):V->am->Prop
 |.t,v=>v=.none
 |.q,_=>False
 |.g c,v=>v=.bool c
 |.e i,v=>∃t,v=.int i t
 |.p s,v=>∃t,v=.str s t
 |.h l,v=>∃a xs n,v=.ref a/\¬b a/\h.get? a=aa (pw xs n)/\bd b φ h l xs.toList
 |.y l,v=>∃a xs n,v=.ref a/\¬b a/\h.get? a=aa (im xs n)/\bd b φ h l xs.toList
 |.L i j,v=>∃a,v=.ref a/\¬b a/\NP h a i j
 |.N l,v=>∃a es ep t,v=.ref a/\¬b a/\h.get? a=aa ⟨.type "set",ae,.set es ep t,#[]⟩/\t.fits es.size=true/\bd b φ h l (es.toList.map (·.2))
 |.f r,v=>∃p,φ r=aa p/\v=.ref p.1
 |.F w,v=>v=w
noncomputable def bd(b:ao->Prop)(φ:aX)(h:aO):List V->List am->Prop
 |[],l=>l=[]
 |v::vs,l=>∃x xs,l=x::xs/\VR b φ h v x/\bd b φ h vs xs
end
theorem o0:∀{f:List V}{a:List am},bd b k h f a↔f.length=a.length/\∀(i:Nat)(v:V)(x:am),f[i]? =aa v->a[i]? =aa x->VR b k h v x
 |[],a=>by
  constructor
  ·rintro rfl;exact⟨rfl,λi v x e=>by simp at e⟩
  ·rintro⟨e,_⟩;exact s6.mp e.symm
 |v::f,a=>by
  constructor
  ·rintro⟨x,a,rfl,g,j⟩
   obtain⟨e,j⟩:=o0.mp j
   refine⟨by simp[e],λi w y c d=>?_⟩
   cases i with
   |zero=>simp at c d;subst c;subst d;exact g
   |succ i=>simp at c d;exact j i w y c d
  ·rintro⟨e,g⟩
   cases a with
   |nil=>simp at e
   |cons x a=>
    exact(cp x a rfl (g 0 v x (by simp)<|by simp)<|o0.mpr ⟨by simpa using e,λi w y c d=>g (i+1) w y (by simpa using c)<|by simpa using d⟩)
theorem bd.h{h:aO}(x:bd b d h a c):a.length=c.length:=(o0.mp x).1
theorem bd.g{h:aO}:∀{d f:List V}{c g:List am},bd b a h d c->bd b a h f g->bd b a h (d++f) (c++g):=by intro i;cases i with|nil=>intro _ _ _ e y;subst e;exact y|cons _ _=>intro _ _ _ e y;refine dA e λx c j k l=>?_;subst j;exact(cp x _ rfl k<|l.g y)
def bd.J{h:aO}(e:VR b a h v x):bd b a h [v] [x]:=(cp x ([]) rfl e rfl)
structure dx(b:ao->Prop)(φ:aX)(h:aO)(b':ao->Prop)(φ':aX)(h':aO):Prop where
 e:∀a o,h.get? a=aa o->¬b a->h'.get? a=aa o/\¬b' a
 f:∀r p,φ r=aa p->φ' r=aa p
mutual
theorem VR.e{b b':ao->Prop}{φ φ':aX}{h h':aO}(k:dx b φ h b' φ' h'):∀(v:V)(x:am),VR b φ h v x->VR b' φ' h' v x
 |.t,_,e=>e
 |.q,_,e=>e
 |.g _,_,e=>e
 |.e _,_,e=>e
 |.p _,_,e=>e
 |.h l,x,e=>by
  obtain⟨a,xs,n,rfl,h1,h2,h3⟩:=e
  exact⟨a,xs,n,rfl,(k.e _ _ h2 h1).2,(k.e _ _ h2 h1).1,bd.e k l _ h3⟩
 |.y l,x,e=>by
  obtain⟨a,xs,n,rfl,h1,h2,h3⟩:=e
  exact⟨a,xs,n,rfl,(k.e _ _ h2 h1).2,(k.e _ _ h2 h1).1,bd.e k l _ h3⟩
 |.L i j,x,e=>by
  obtain⟨a,rfl,h1,h3,t,u,v,h2⟩:=e
  exact⟨a,rfl,(k.e _ _ h2 h1).2,h3,t,u,v,(k.e _ _ h2 h1).1⟩
 |.N l,x,e=>by
  obtain⟨a,es,ep,t,rfl,h1,h2,h3,h4⟩:=e
  exact⟨a,es,ep,t,rfl,(k.e _ _ h2 h1).2,(k.e _ _ h2 h1).1,h3,bd.e k l _ h4⟩
 |.f r,x,e=>by
  obtain⟨p,h1,h2⟩:=e
  exact⟨p,k.f _ _ h1,h2⟩
 |.F _,_,e=>e
theorem bd.e{b b':ao->Prop}{φ φ':aX}{h h':aO}(k:dx b φ h b' φ' h'):∀(vs:List V)(xs:List am),bd b φ h vs xs->bd b' φ' h' vs xs
 |[],_,e=>e
 |v::vs,xs,e=>by
  obtain⟨x,xs,rfl,h1,h2⟩:=e
  exact⟨x,xs,rfl,VR.e k v x h1,bd.e k vs xs h2⟩
end
noncomputable def vz:cT->am->Bool|.i n,v=>Value.isInt n v|.s x,v=>Value.isStrOf x v
def o7{n:Int}(h:vz (.i n) v=true):∃t,v=.int n t:=Gy h
def o8(h:vz (.s x) v=true):∃t,v=.str x t:=Value.isStrOf_shape h
def QT(v:am)(a b:cT)(c:vz a v=true)(d:vz b v=true):a=b:=by cases a with
 |i x=>cases b with|i y=>exact aQ _ (Value.isInt_inj v _ _ c d)|s y=>exact aV (o7 c) λt e=>aV (o8 d) λu f=>nomatch e.symm.trans f
 |s x=>cases b with|i y=>exact aV (o8 c) λt e=>aV (o7 d) λu f=>nomatch e.symm.trans f|s y=>exact aQ _<|Value.isStrOf_inj v _ _ c d
section
variable{E:am->az->Prop}
def IS{u v:am}{Q:Bool->az->Prop}{B:d8 Bool}(he:xz u v=pU [u,v] (if(u==v)=true then B else richCompare .Eq u v>>=truthOfDropped))(hne:u≠v)(h:aE (aN W w) A (richCompare .Eq u v) (λr s'=>r=.bool false/\Q false s') E s):aE (aN W w) A (xz u v) Q E s:=by exact af he<|dS<|af (ap λe=>hne<|bO e)<|aA<|cE h (λr s' q=>(q.1.symm▸Qb q.2)) λx_ x_ x=>x
def TP{n:Int}{x:ah}{t u:jV}{Q:Bool->az->Prop}(h:Q false s):aE (aN W w) A (xz (.int n t)<|.str x u) Q E s:=IS rfl (λe=>lT e) (show aE _ A (xy .Eq _ _) _ _ _ from EqMixed.eq_int_str ⟨rfl,h⟩)
def TR{n:Int}{x:ah}{t u:jV}{Q:Bool->az->Prop}(h:Q false s):aE (aN W w) A (xz (.str x u)<|.int n t) Q E s:=IS rfl (λe=>lT e) (show aE _ A (xy .Eq _ _) _ _ _ from EqMixed.eq_str_int ⟨rfl,h⟩)
end
noncomputable def QS(w:dp):cT->Int|.i n=>hashInt n|.s x=>hashStr w x
noncomputable def xQ(W:eD)(w:dp):rd W w cT where
 is:=vz
 hash:=QS w
 inj:=QT
 byValue:=λk v h=>by
  cases k
  ·exact aV (o7 h) λt e=>e▸rfl
  ·exact aV (o8 h) λt e=>e▸rfl
 pyHash:=@fun A E s k v Q h q=>by
  cases k
  ·exact aV (o7 h) λt e=>e▸wpAny_pyHash_int q
  ·exact aV (o8 h) λt e=>e▸wpAny_pyHash_str q
 eqBool:=@fun A E s a b u v Q hu hv q=>by
  cases a with
  |i x=>cases b with
   |i y=>exact aV (o7 hu) λt e=>aV (o7 hv) λt' e'=>e▸e'▸PU (show Q (decide<|x=y) s from(decide_eq_decide.mpr ⟨aQ cT.i,cT.i.inj⟩:decide (x=y)=_)▸q)
   |s y=>exact aV (o7 hu) λt e=>aV (o8 hv) λt' e'=>e▸e'▸TP ((dz λe=>cT.noConfusion e:decide (cT.i x=.s y)=false)▸q)
  |s x=>cases b with
   |i y=>exact aV (o8 hu) λt e=>aV (o7 hv) λt' e'=>e▸e'▸TR ((dz λe=>cT.noConfusion e:decide (cT.s x=.i y)=false)▸q)
   |s y=>exact aV (o8 hu) λt e=>aV (o8 hv) λt' e'=>e▸e'▸PV ((decide_eq_decide.mpr ⟨aQ cT.s,cT.s.inj⟩:decide (x=y)=_)▸q)
 «strs»:=λk x t v h=>by
  cases k
  ·exact aV (o7 h) λu e=>lT e
  ·exact aV (o8 h) λu e=>Value.str.inj e|>.1▸by cases v<;>rfl
noncomputable abbrev tupK(C:Ctx):xg C.e C.w (List cT):=tupleKind<|xQ C.e C.w
noncomputable def fB(b:ao->Prop)(a:aX)(h:aO):Option V->Option am->Prop|none,ae=>True|some v,aa x=>VR b a h v x|_,_=>False
noncomputable def eY(b:ao->Prop)(a:aX)(h:aO):List gP->List ah->List V->Prop|[],_,[]=>True|e::c,f::d,v::g=>(∃t,e.key=.str f t)/\VR b a h v e.val/\eY b a h c d g|_,_,_=>False
noncomputable def OR(C:Ctx)(b:ao->Prop)(φ:aX)(h:aO):O->ao×ao->Prop|.e l,p=>∃xs n,h.get? p.1=aa (im xs n)/\bd b φ h l xs.toList|.f m,p=>∃kvs,h.DictOf (mO C.e C.w) p.1 kvs/\∀k,fB b φ h (m k) (jX kvs k)|.h m,p=>∃kvs,h.DictOf (G7 C.e C.w) p.1 kvs/\∀k,fB b φ h (m k) (jX kvs k)|.p m,p=>∃xs,h.DictOfH (tupK C) p.1 xs/\(∀x∈xs,¬b x.2.1)/\∀k,fB b φ h (m k) ((jW xs k).map (·.2))|.g c vals,p=>∃k es n,C.h c=aa k/\h.get? p.1=aa (ix k.e p.2)/\h.get? p.2=aa (xq es n)/\p.1≠p.2/\eY b φ h es k.f vals
theorem fB.e(k:dx b c h a d f):∀{u:Option V}{x:Option am},fB b c h u x->fB a d f u x|none,ae,e=>e|some v,aa x,e=>VR.e k v x e|none,aa _,e=>e|some _,ae,e=>e
theorem eY.e{R:List gP->List ah->List V->Prop}(i:∀a,R [] a [])(j:∀e d f a u c t,e.key=.str f t->VR b g h u e.val->eY b g h d a c->R d a c->R (e::d) (f::a) (u::c))(d:List gP):∀{a c},eY b g h d a c->R d a c:=by induction d with
 |nil=>intro a c r;cases c with|nil=>exact i a|cons v c=>cases a<;>exact r.elim
 |cons e d l=>intro a c r;cases a with|nil=>exact r.elim|cons f a=>cases c with|nil=>exact r.elim|cons u c=>exact aV r.1 λt k=>j e d f a u c t k r.2.1 r.2.2<|l r.2.2
theorem eY.f{b d:ao->Prop}(k:dx b l h d g i)(r:eY b l h a c j):eY d g i a c j:=eY.e (R:=eY d g i) (λc=>trivial) (λe a f c u j t m n p o=>⟨⟨t,m⟩,VR.e k _ _ n,o⟩) a r
theorem OR.e{C:Ctx}{b b':ao->Prop}{φ φ':aX}{h h':aO}(k:dx b φ h b' φ' h'){o:O}{p:ao×ao}(k1:∀x,h.get? p.1=aa x->h'.get? p.1=aa x)(k2:∀x,h.get? p.2=aa x->h'.get? p.2=aa x)(e:OR C b φ h o p):OR C b' φ' h' o p:=by cases o with|e l=>exact fq e λxs n e1 e2=>(c_ xs n (k1 _ e1)<|bd.e k _ _ e2)|f m=>exact aB e λkvs e1 e2=>(aC kvs (e1.at k1) λx=>(e2 x).e k)|h m=>exact aB e λkvs e1 e2=>(aC kvs (e1.at k1) λx=>(e2 x).e k)|p m=>obtain⟨xs,⟨o,es,ep,e1,e2,e3,e4,e5,e6⟩,e7,e8⟩:=e;exact(bV xs ((Cu o es ep (k1 _ e1) e2 e3 e4 (λx hx=>(fJ (e5 x hx) λo' items n g1 g2 g3 g4=>(dO o' items n ((k.e _ _ g1<|e7 x hx).1) g2 g3 g4))) e6)) (λx hx=>(fJ (e5 x hx) λo' items n g1 g2 g3 g4=>(k.e _ _ g1<|e7 x hx).2)) λx=>(e8 x).e k)|g c vals=>exact se e λkk es n e1 e2 e3 e4 e5=>(m0 kk es n e1 (k1 _ e2) (k2 _ e3) e4<|e5.f k)
structure bA(C:Ctx)(X:ao->Prop)(φ:aX)(σ:St)(h:aO):Prop where
 g:∀a o,C.f.get? a=aa o->h.get? a=aa o
 y:C.f.objs.size<=h.objs.size
 t:∀r,σ r=ae↔φ r=ae
 inj:∀r r' p p' a,φ r=aa p->φ r'=aa p'->(a=p.1\/a=p.2)->(a=p'.1\/a=p'.2)->r=r'
 f:∀a,lA φ a->C.f.objs.size<=a/\a<h.objs.size
 e:∀a,X a->¬lA φ a/\a<h.objs.size/\C.f.objs.size<=a
 L:∀r o p,σ r=aa (aa o)->φ r=aa p->OR C (aM X φ) φ h o p
structure Step(F:ao->Prop)(φ:aX)(s:az)(φ':aX)(s':az):Prop where
 ext:∀a o,s.heap.get? a=aa o->¬lA φ a->¬F a->s'.heap.get? a=aa o
 q:∀r p,φ r=aa p->φ' r=aa p
 t:∀a,lA φ' a->lA φ a\/s.heap.objs.size<=a
 h:s.heap.objs.size<=s'.heap.objs.size
 J:s'.gens=s.gens
 N:(0:Nat)=0
 L:s'.os=s.os
def Step.T(F:ao->Prop)(φ:aX)(s:az):Step F φ s φ s:=⟨λa a e a a=>e,λa a e=>e,λa e=>.inl e,bb _,rfl,rfl,rfl⟩
theorem Step.e{F:ao->Prop}{s g h:az}(x:Step F b s c g)(y:Step F c g d h):Step F b s d h:=by
 refine⟨λa o e n f=>y.ext a o (x.ext a o e n f) (λq=>?_) f,λr p e=>y.q r p<|x.q r p e,λa e=>?_,ay x.h y.h,y.J.trans x.J,y.N.trans x.N,y.L.trans x.L⟩
 ·rcases x.t a q with q|q;·exact n q
  ·exact aD (cK e)<|eZ.mpr q
 ·rcases y.t a e with q|q;·exact x.t a q
  ·exact .inr<|ay x.h q
def Step.Z{F b:ao->Prop}(x:Step F c s d g)(h:∀a,F a->b a):Step b c s d g:=⟨λa o e n f=>x.ext a o e n λq=>f<|h a q,x.q,x.t,x.h,x.J,x.N,x.L⟩
def Step.f{F X:ao->Prop}(x:Step F b s c d)(f:∀a,F a->X a):dx (aM X b) b s.heap (aM X c) c d.heap:=by exact⟨λa o e n=>⟨x.ext a o e (λq=>n<|.inr q) λq=>n<|.inl<|f a q,λq=>(db q (λq=>(n<|.inl q)) λq=>db (x.t a q) (λq=>(n<|.inr q)) λq=>aD (cK e)<|eZ.mpr q)⟩,x.q⟩
def bA.N(R:bA C X b i h)(G:ao->Prop)(j:∀a,G a->X a)(m:∀a,G a->C.f.objs.size<=a)(k:∀a o,h.get? a=aa o->¬G a->c.get? a=aa o)(d:h.objs.size<=c.objs.size):bA C X b i c:=by have l:∀a,lA b a->¬G a:=λa q g=>(R.e a<|j a g).1 q;exact⟨λa o e=>k a o (R.g a o e) λg=>(aD (cK e)<|eZ.mpr<|m a g),ay R.y d,R.t,R.inj,λa q=>⟨(R.f a q).1,aR (R.f a q).2 d⟩,λa q=>⟨(R.e a q).1,aR (R.e a q).2.1 d,(R.e a q).2.2⟩,λr o p s f=>((R.L r o p s f).e (⟨λa o e n=>⟨k a o e λq=>n<|.inl<|j a q,n⟩,λt t e=>e⟩) (λx e=>k _ _ e<|l _<|c_ r p f<|.inl rfl) λx e=>k _ _ e<|l _<|c_ r p f<|.inr rfl)⟩
def bA.T{d:St}(R:bA C X φ d h)(k:∀a o,h.get? a=aa o->b.get? a=aa o)(f:h.objs.size<=b.objs.size):bA C X φ d b:=R.N (λc=>False) (λc e=>e.elim) (λc e=>e.elim) (λa o e c=>k a o e) f
def more(X:ao->Prop)(lo b:Nat)(a:ao):Prop:=X a\/(lo<=a/\a<b)
def bA.Y{f:St}(R:bA C X b f h)(k:∀a o,h.get? a=aa o->c.get? a=aa o)(d:h.objs.size<=c.objs.size):bA C (more X h.objs.size c.objs.size) b f c/\dx (aM X b) b h (aM (Lake.more X h.objs.size c.objs.size) b) b c:=by
 have g:dx (aM X b) b h (aM (Lake.more X h.objs.size c.objs.size) b) b c:=by
  refine⟨λa o e n=>⟨k a o e,λq=>?_⟩,λi i e=>e⟩;rcases q with(q|q)|q;·exact n<|.inl q
  ·exact aD (cK e)<|eZ.mpr q.1
  ·exact n<|.inr q
 refine⟨⟨λa o e=>k a o<|R.g a o e,ay R.y d,R.t,R.inj,λa q=>⟨(R.f a q).1,aR (R.f a q).2 d⟩,λa q=>?_,λr o p j l=>(R.L r o p j l).e g (λx e=>k _ _ e) λx e=>k _ _ e⟩,g⟩;rcases q with q|q;·exact⟨(R.e a q).1,aR (R.e a q).2.1 d,(R.e a q).2.2⟩
 ·exact⟨λw=>aD (R.f a w).2 (eZ.mpr q.1),q.2,ay R.y q.1⟩
def bA.U(R:bA C c b d h)(f:∀a,X a->c a):bA C X b d h/\dx (aM c b) b h (aM X b) b h:=by have g:dx (aM c b) b h (aM X b) b h:=⟨λa o e n=>⟨e,λq=>n<|q.imp (f a) id⟩,λi i e=>e⟩;exact⟨⟨R.g,R.y,R.t,R.inj,R.f,λa q=>R.e a<|f a q,λr o p j k=>(R.L r o p j k).e g (λx e=>e) λx e=>e⟩,g⟩
end
inductive oB|e|h|g|f|p
 deriving DecidableEq
inductive jP|t|y|h|e|f|q|p|g
 deriving DecidableEq
inductive DK|i|s|t
 deriving DecidableEq
set_option genCtorIdx false in
mutual
inductive E
 |L|U (b:Bool)|p (i:Int)|y (s:ah)
 |e (i:Nat)|Y (g:Nat)
 |k (a b:E)|c (a b:E)|l (a:E)
 |J (o:oB) (a b:E)|u (a:E)
 |Z (t a b:E)
 |t (o:jP) (a b:E)|o (o p:jP) (a b c:E)
 |F (es:Es)|N (es:Es)
 |d (k:DK)|s (ks:List ah) (es:Es)|r (k v:E)
 |T (e iter:E)|b (e iter c:E)|n (iter:E)
 |h (c pos:Nat) (e:E)
 |q (e i:E)|a (e i:E)|j (e i:E)
 |f (g:Nat) (es:Es)
 |g (m:Nat) (o:E) (es:Es)
 |m (pre:ah) (e:E)
 |i (e:E)
inductive Es
 |f
 |e (e:E) (es:Es)
end
set_option genCtorIdx false in
inductive T
 |e (i:Nat)
 |g (c pos:Nat) (o:E)
 |f (o k:E)
set_option genCtorIdx false in
mutual
inductive S
 |e (t:T) (e:E)
 |p (ts:List T) (e:E)
 |f (e:E)
 |h (e:E)
 |g (t:E) (a b:Ss)
 |t (t:E) (b:Ss)
 |q (i:Nat) (iter:E) (b:Ss)
 |L (i j:Nat) (iter:E) (b:Ss)
 |y (i j:Nat) (iter:E) (b:Ss)
 |F (o k:E)|J (o lo:E)
 |N
inductive Ss
 |f
 |e (s:S) (ss:Ss)
end
set_option genCtorIdx false in
inductive Fl
 |e
 |f (v:V)
noncomputable def aT(a:St)(r:br):Option O:=(a r).join
noncomputable def jk(b:St)(r:br):Option (List V):=O.q (aT b r) ae aa (λa=>ae) (λa=>ae) (λa=>ae) λa a=>ae
noncomputable def fP(a:St)(v:V):Option (List V):=v.J ae (λb=>ae) (λb=>ae) aa<|jk a
def pi(h:aT a r=aa (.e l)):jk a r=aa l:=by delta jk;rw[h];rfl
theorem jk.e(h:jk a r=aa l):aT a r=aa (.e l):=by delta jk at h;cases e:aT a r with|none=>rw[e]at h;exact aY h|some o=>rw[e]at h;cases o<;>first|exact aY h|exact aQ (λx=>aa<|O.e x)<|bo h
noncomputable def sC(s:ah):List V:=s.cps.toList.map λc=>.p ⟨#[c]⟩
noncomputable def iX(a b:Int):List V:=(bM (b-a).toNat).map λ(k:Nat)=>.e<|a+k
noncomputable def gK(v:V):Option (List V):=V.casesOn (motive_1:=λc=>Option<|List V) v ae ae (λc=>ae) (λc=>ae) (λs=>aa<|sC s) aa aa (λa b=>aa<|iX a b) (λc=>ae) (λc=>ae) λc=>ae
noncomputable def pY(v:V):Option cT:=V.casesOn (motive_1:=λa=>Option cT) v ae ae (λa=>ae) (λi=>aa<|.i i) (λs=>aa<|.s s) (λa=>ae) (λa=>ae) (λa a=>ae) (λa=>ae) (λa=>ae) λa=>ae
noncomputable def kB(v:V):Option (List cT):=v.J ae (λa=>ae) (λl=>l.mapM pY) (λa=>ae) λa=>ae
mutual
noncomputable def sD:V->Option kf
 |.t=>aa .none
 |.g b=>aa<|.bool b
 |.e i=>aa<|.int i
 |.p s=>aa<|.str s
 |.h l=>(lG l).map .tuple
 |.y l=>(lG l).map .list
 |_=>ae
noncomputable def lG:List V->Option (List kf)
 |[]=>aa []
 |v::vs=>(sD v).bind λd=>(lG vs).map λds=>d::ds
end
def iL(v:V)(d:kf):Prop:=sD v=aa d/\d.canLay0=true/\d.depth<=4
def q6(b:List V)(a:List kf):Prop:=lG b=aa a/\te a=true/\re a<=3
noncomputable def jm(f:Int->Int->Option V)(u v:V):Option V:=(gR u).bind λa=>(gR v).bind λb=>f a b
def y3(f:List V->List V->Option V)(u v:V):Option V:=(o6 u).bind λa=>(o6 v).bind λb=>f a b
def jm.e(h:jm f u v=aa w):∃a b,u=.e a/\v=.e b/\f a b=aa w:=(gR.b h).elim λa h=>(gR.b h.2).elim λb g=>(cp a b h.1 g.1 g.2)
def y3.e(h:y3 f u v=aa w):∃a b,u=.h a/\v=.h b/\f a b=aa w:=(o6.b h).elim λa h=>(o6.b h.2).elim λb g=>(cp a b h.1 g.1 g.2)
def rK(o:oB)(u v:V):Option V:=match o with|.e=>(jm (λa b=>aa<|.e<|a+b) u v).or (y3 (λa b=>if a.length+b.length<=1000 then aa (.h<|a++b)else ae) u v)|.h=>jm (λa b=>aa<|.e<|a-b) u v|.g=>jm (λa b=>if a.natAbs<2^64/\b.natAbs<2^64 then aa (.e<|a*b)else ae) u v|.f=>jm (λa b=>if 0<b then aa (.e<|a%b)else ae) u v|.p=>jm (λa b=>if a=10/\b=1000 then aa (.e<|10^1000)else ae) u v
noncomputable def iK(l:List V)(a:St)(Q:V->St->Prop):Prop:=Q (.y l) a\/∃r,a r=ae/\Q (.f r) (bi a r<|.e l)
noncomputable def uE(o:oB)(a b:V)(c:St)(Q:V->St->Prop):Prop:=(∃v,rK o a b=aa v/\Q v c)\/(∃l k,o=.e/\fP c a=aa l/\fP c b=aa k/\l.length+k.length<=cN/\iK (l++k) c Q)
noncomputable def eB.e(a:V)(q:Bool->Prop)(l:List V):Prop:=∃d b,iL a d/\q6 l b/\q (b.any λy=>dI y d)
def eB.f(a b:V)(e:St)(q:Bool->Prop):Prop:=b.J False (λt=>∃c,a=.p ⟨#[c]⟩/\q (decide<|c∈t.cps.toList)) (eB.e a q) (eB.e a q) λr=>O.q (aT e r) False (eB.e a q) (λm=>∃i,a=.e i/\q (m i).isSome) (λd=>False) (λm=>∃k,kB a=aa k/\q (m k).isSome) λd d=>False
noncomputable def eB(o:jP)(a b:V)(f:St)(Q:V->St->Prop):Prop:=match o with|.t=>∃i j,a=.e i/\b=.e j/\Q (.g<|decide<|i<j) f|.y=>∃i j,a=.e i/\b=.e j/\Q (.g<|decide<|i<=j) f|.h=>∃i j,a=.e i/\b=.e j/\Q (.g<|decide<|j<i) f|.e=>∃d e,iL a d/\iL b e/\Q (.g<|dI d e) f|.f=>∃d e,iL a d/\iL b e/\Q (.g<|!dI d e) f|.q=>b=.t/\((a=.t/\Q (.g true) f)\/(a≠.t/\a≠.q/\(∀v,a≠.F v)/\Q (.g false) f))|.p=>eB.f a b f (λc=>Q (.g c) f)|.g=>eB.f a b f λc=>Q (.g<|!c) f
noncomputable def itemAt(l:List V)(i:Int):Option V:=if 0<=i then l[i.toNat]? else ae
noncomputable def Va(s:ah)(i:Int):Option V:=if 0<=i then(s.cps.toList[i.toNat]?).map λc=>.p ⟨#[c]⟩else ae
def gJ(a:St)(o k:V):Option V:=o.J ae (λs=>(gR k).bind<|Va s) (λl=>(gR k).bind<|itemAt l) (λl=>(gR k).bind<|itemAt l) λr=>O.q (aT a r) ae (λl=>(gR k).bind<|itemAt l) (λm=>(gR k).bind m) (λm=>(rI k).bind m) (λm=>(kB k).bind m) λb b=>ae
noncomputable def kq(b:St)(o:V):Prop:=o.J True (λs=>s.length<2^62) (λl=>l.length<2^62) (λl=>l.length<2^62) λr=>O.q (aT b r) True (λl=>l.length<2^62) (λa=>True) (λa=>True) (λa=>True) λa a=>True
noncomputable def CZ(v:V):Prop:=V.casesOn (motive_1:=λa=>Prop) v True True (λa=>True) (λa=>True) (λa=>True) (λa=>True) (λa=>True) (λa a=>True) (λa=>True) (λa=>True) λa=>False
noncomputable def nT(a:Bool)(l:List V)(i:Int):List V:=if a then l.drop i.toNat else l.take i.toNat
def nR(b:Bool)(o k:V)(a:St)(Q:V->St->Prop):Prop:=∃i,k=.e i/\0<=i/\i<2^31/\o.J (∃l,fP a o=aa l/\l.length<2^24/\iK (nT b l i) a Q) (λs=>s.length<=2^20/\Q (.p<|pR s (if b then aa i else ae)<|if b then ae else aa i) a) (λl=>1<=i/\i.toNat<=l.length/\l.length<2^24/\Q (.h<|nT b l i) a) (λc=>∃l,fP a o=aa l/\l.length<2^24/\iK (nT b l i) a Q) λc=>∃l,fP a o=aa l/\l.length<2^24/\iK (nT b l i) a Q
noncomputable def jo(l:List V)(i:Nat)(v:V):List V:=if i<l.length then l.set i v else l++[v]
noncomputable def eW{K:Type}(m:K->Option V):Prop:=∃L:List K,L.length<cN/\∀k,m k≠ae->k∈L
noncomputable def cD{K:Type}(m:K->Option V)(k:K)(v:Option V):K->Option V:=by classical exact λx=>if x=k then v else m x
noncomputable def vu(a:St)(o k v:V)(q:St->Prop):Prop:=∃r,o=.f r/\O.q (aT a r) False (λl=>qN k λi=>0<=i/\i.toNat<l.length/\q (bi a r<|.e<|l.set i.toNat v)) (λm=>qN k λi=>eW m/\q (bi a r<|.f<|cD m i<|aa v)) (λm=>zO k λx=>eW m/\q (bi a r<|.h<|cD m x<|aa v)) (λm=>∃x,kB k=aa x/\eW m/\q (bi a r<|.p<|cD m x<|aa v)) λb b=>False
noncomputable def uF(a:St)(o k:V)(q:St->Prop):Prop:=∃r,o=.f r/\O.q (aT a r) False (λb=>False) (λm=>qN k λi=>m i≠ae/\eW m/\q (bi a r<|.f<|cD m i ae)) (λb=>False) (λm=>∃x,kB k=aa x/\m x≠ae/\eW m/\q (bi a r<|.p<|cD m x ae)) λb b=>False
structure eN(A:bU)(n:Nat):Prop where
 e:A.handled=ae
 h:A.depth+n<900
 g:A.units+8*n<9000
def eN.q(R:eN A (n+1)):eN (A.deeper a) n:=⟨R.e,aL (bf<|dL A.depth 1 n) R.h,aL (ay (bf<|dL A.units 3<|8*n)<|cy (show 3<=8 by decide) _) R.g⟩
def eN.p(R:eN A n)(h:B.handled=ae)(d:B.depth+m<=A.depth+n)(u:B.units+8*m<=A.units+8*n):eN B m:=⟨h,aL d R.h,aL u R.g⟩
def a_(C:Ctx)(X:ao->Prop)(e:aX)(s:az)(Q:V->St->Prop)(v:am)(b:az):Prop:=∃a c d,Step (λf=>False) e s a b/\bA C X a c b.heap/\VR (aM X a) a b.heap d v/\Q d c
noncomputable def aZ(C:Ctx)(n:Nat)(f:am)(c:List V)(d:St)(Q:V->St->Prop):Prop:=∀A X a s b,eN A n->bA C X a d s.heap->bd (aM X a) a s.heap c b->aE (aN C.e C.w) A (fM f b) (a_ C X a s Q) (λe e=>False) s
noncomputable def rL(K:fk)(f:am):Bool:=Pw (motive:=λb=>Bool) f true true true (λb=>true) (λb b=>true) (λb b=>true) (λb b=>true) (λb b=>true) (λb=>true) (λb=>true) λa=>oU K<|.ref a
noncomputable def MethAt(C:Ctx)(c:St)(o:V)(d:ah)(f:am):Prop:=rL C.K f=true/\∀A X a s b e Q(E:am->az->Prop),eN A 0->bA C X a c s.heap->VR (aM X a) a s.heap o b->(∀g,Q (f,[b]) {s with toks:=g})->aE (aN C.e C.w) A (getMethod b d e) Q E s
noncomputable def BU(l:List V)(q:List V->Prop):Prop:=l.length<=18/\((∃a:List Int,l=a.map .e/\∀b:List Int,b.Pairwise (·< ·)->(∀x,x∈b↔x∈a)->q (b.map .e))\/((∀x∈l,∃(t:ah)(a:List Int),x=.h (.p t::a.map .e))/\∀c:List V,(∀x,x∈c↔x∈l)->c.length<=l.length->q c))
noncomputable def h_(f:V->St->(Option V->St->Prop)->Prop):List V->List V->St->(List V->St->Prop)->Prop|[],a,b,Q=>Q a b|x::c,a,b,Q=>f x b λv d=>h_ f c (a++v.toList) d Q
noncomputable def eG(f:V->List V->St->(Fl->List V->St->Prop)->Prop)(c:St->Prop):List V->List V->St->(Fl->List V->St->Prop)->Prop|[],m,a,Q=>Q .e m a|x::e,m,a,Q=>f x m a (λg d b=>match g with|.e=>c b/\eG f c e d b Q|.f v=>Q (.f v) d b)
noncomputable def nY:List V->Option (List Int)|[]=>aa []|v::r=>(gR v).bind λi=>(nY r).map (i:: ·)
section
variable(C:Ctx)(n:Nat)
mutual
noncomputable def aF:E->List V->St->(V->St->Prop)->Prop
 |.L,_,σ,Q=>Q .t σ
 |.U b,_,σ,Q=>Q (.g b) σ
 |.p i,_,σ,Q=>Q (.e i) σ
 |.y s,_,σ,Q=>Q (.p s) σ
 |.e i,m,σ,Q=>∃v,m[i]? =aa v/\v≠.q/\Q v σ
 |.Y g,_,σ,Q=>Q (C.p g) σ
 |.k a b,m,σ,Q=>aF a m σ λv σ=>∃c,v=.g c/\if c then aF b m σ Q else Q (.g c) σ
 |.c a b,m,σ,Q=>aF a m σ λv σ=>∃c,v=.g c/\if c then Q (.g c) σ else aF b m σ Q
 |.l a,m,σ,Q=>aF a m σ λv σ=>∃c,v=.g c/\Q (.g<|!c) σ
 |.J o a b,m,σ,Q=>aF a m σ λv σ=>aF b m σ λu σ=>uE o v u σ Q
 |.u a,m,σ,Q=>aF a m σ λv σ=>∃i,v=.e i/\Q (.e<|-i) σ
 |.Z t a b,m,σ,Q=>aF t m σ λv σ=>∃c,v=.g c/\if c then aF a m σ Q else aF b m σ Q
 |.t o a b,m,σ,Q=>aF a m σ λv σ=>aF b m σ λu σ=>eB o v u σ Q
 |.o o p a b c,m,σ,Q=>aF a m σ λv σ=>aF b m σ λu σ=>eB o v u σ λr σ=>∃d,r=.g d/\if d then(aF c m σ λx σ=>eB p u x σ Q)else Q (.g d) σ
 |.F es,m,σ,Q=>eK es m σ λvs σ=>Q (.h vs) σ
 |.N es,m,σ,Q=>eK es m σ λvs σ=>iK vs σ Q
 |.d k,_,σ,Q=>∃r,σ r=ae/\Q (.f r) (bi σ r<|match k with|.i=>.f λx_=>ae|.s=>.h λx_=>ae|.t=>.p λx_=>ae)
 |.s ks es,m,σ,Q=>eK es m σ λvs σ=>∃r,σ r=ae/\Q (.f r) (bi σ r<|.h λx=>(ks.zip vs).lookup x)
 |.r k v,m,σ,Q=>aF k m σ λkv σ=>aF v m σ λvv σ=>∃r i,kv=.e i/\σ r=ae/\Q (.f r) (bi σ r<|.f<|cD (λx_=>ae) i<|aa vv)
 |.T e iter,m,σ,Q=>aF iter m σ λit σ=>∃xs,gK it=aa xs/\xs.length<=cN/\
   h_ (λx σ k=>aF e (m++[x]) σ λv σ=>k (aa v) σ) xs [] σ (λl σ=>Q (.y l) σ)
 |.b e iter c,m,σ,Q=>aF iter m σ λit σ=>∃xs,gK it=aa xs/\xs.length<=cN/\
   h_ (λx σ k=>aF c (m++[x]) σ λb σ=>∃d,b=.g d/\if d then(aF e (m++[x]) σ λv σ=>k (aa v) σ)else k ae σ) xs [] σ (λl σ=>Q (.y l) σ)
 |.n iter,m,σ,Q=>aF iter m σ λit σ=>∃xs ks r,fP σ it=aa xs/\xs.length<=cN/\nY xs=aa ks/\σ r=ae/\
   Q (.f r) (bi σ r<|.f λk=>if k∈ks then aa (.g true)else ae)
 |.h c pos e,m,σ,Q=>aF e m σ λv σ=>∃r vals x,v=.f r/\aT σ r=aa (.g c vals)/\vals[pos]? =aa x/\CZ x/\Q x σ
 |.q e i,m,σ,Q=>aF e m σ λo σ=>aF i m σ λk σ=>∃x,gJ σ o k=aa x/\kq σ o/\Q x σ
 |.a e i,m,σ,Q=>aF e m σ λo σ=>aF i m σ λk σ=>nR true o k σ Q
 |.j e i,m,σ,Q=>aF e m σ λo σ=>aF i m σ λk σ=>nR false o k σ Q
 |.f g es,m,σ,Q=>∃f,C.p g=.F f/\rL C.K f=true/\eK es m σ λvs σ=>aZ C n f vs σ Q
 |.g k o es,m,σ,Q=>aF o m σ λov σ=>∃f,MethAt C σ ov (C.g k) f/\eK es m σ λvs σ=>aZ C n f (ov::vs) σ Q
 |.i e,m,σ,Q=>aF e m σ λv σ=>∃l,fP σ v=aa l/\BU l λl'=>Q (.y l') σ
 |.m pre e,m,σ,Q=>aF e m σ λv σ=>∃i,v=.e i/\0<=i/\i<10^9/\pre.length<=100/\Q (.p<|pre++kj (toString i.toNat)) σ
noncomputable def eK:Es->List V->St->(List V->St->Prop)->Prop
 |.f,_,σ,Q=>Q [] σ
 |.e e es,m,σ,Q=>aF e m σ λv σ=>eK es m σ λvs σ=>Q (v::vs) σ
end
def mC:T->V->List V->St->(List V->St->Prop)->Prop|.e i,v,m,a,Q=>i<m.length/\v≠.q/\Q (m.set i v) a|.g c e o,v,m,a,Q=>aF C n o m a λb a=>∃r d,b=.f r/\aT a r=aa (.g c d)/\e<=d.length/\Q m (bi a r<|.g c<|jo d e v)|.f o k,v,m,a,Q=>aF C n o m a λb a=>aF C n k m a λf a=>kq a b/\vu a b f v λa=>Q m a
noncomputable def pB:List T->List V->List V->St->(List V->St->Prop)->Prop
 |[],l,m,a,Q=>match l with|[]=>Q m a|_::_=>False
 |t::ts,l,m,a,Q=>match l with|[]=>False|v::b=>mC C n t v m a λm a=>pB ts b m a Q
noncomputable def nW(c:St)(b:V):Option (List V×(St->Prop)):=b.J ((gK b).map λl=>(l,λa=>True)) (λa=>(gK b).map λl=>(l,λa=>True)) (λa=>(gK b).map λl=>(l,λa=>True)) (λa=>(gK b).map λl=>(l,λa=>True)) λr=>(jk c r).map λl=>(l,λd=>d r=c r)
mutual
noncomputable def wpS:S->List V->St->(Fl->List V->St->Prop)->Prop
 |.e t e,m,σ,Q=>aF C n e m σ λv σ=>mC C n t v m σ λm σ=>Q .e m σ
 |.p ts e,m,σ,Q=>aF C n e m σ λv σ=>∃l,(v=.h l\/v=.y l)/\l.length=ts.length/\pB C n ts l m σ λm σ=>Q .e m σ
 |.f e,m,σ,Q=>aF C n e m σ λx_ σ=>Q .e m σ
 |.h e,m,σ,Q=>aF C n e m σ λv σ=>Q (.f v) m σ
 |.g t a b,m,σ,Q=>aF C n t m σ λv σ=>∃c,v=.g c/\if c then aP a m σ Q else aP b m σ Q
 |.t t b,m,σ,Q=>∃I:Nat->List V->St->Prop,(∃k,I k m σ)/\∀k m σ,I k m σ->
   aF C n t m σ λv σ=>∃c,v=.g c/\if c then(aP b m σ λfl m σ=>match fl with
    |.e=>∃j,j<k/\I j m σ
    |.f v=>Q (.f v) m σ)else Q .e m σ
 |.q i iter b,m,σ,Q=>aF C n iter m σ λit σ=>∃l chk,nW σ it=aa (l,chk)/\
   eG (λx m σ k=>i<m.length/\x≠.q/\aP b (m.set i x) σ k) chk l m σ Q
 |.L i j iter b,m,σ,Q=>aF C n iter m σ λit σ=>∃l chk,nW σ it=aa (l,chk)/\
   eG (λx m σ k=>∃u v,(x=.h [u,v])/\i<m.length/\j<m.length/\u≠.q/\v≠.q/\aP b ((m.set i u).set j v) σ k) chk l m σ Q
 |.y i j iter b,m,σ,Q=>aF C n iter m σ λit σ=>∃l chk,nW σ it=aa (l,chk)/\(∃r,it=.f r)/\
   eG (λx m σ k=>∃u v,(x=.h [u,v])/\i<m.length/\j<m.length/\u≠.q/\v≠.q/\aP b ((m.set i u).set j v) σ k) chk (l.zipIdx.map λx=>.h [.e x.2,x.1]) m σ Q
 |.F o k,m,σ,Q=>aF C n o m σ λov σ=>aF C n k m σ λkv σ=>uF σ ov kv λσ=>Q .e m σ
 |.J o lo,m,σ,Q=>aF C n o m σ λov σ=>aF C n lo m σ λkv σ=>∃r l i,ov=.f r/\aT σ r=aa (.e l)/\kv=.e i/\0<=i/\i<2^31/\l.length<2^24/\Q .e m (bi σ r<|.e<|l.take i.toNat)
 |.N,_,_,_=>False
noncomputable def aP:Ss->List V->St->(Fl->List V->St->Prop)->Prop
 |.f,m,σ,Q=>Q .e m σ
 |.e s ss,m,σ,Q=>wpS s m σ λfl m σ=>match fl with
   |.e=>aP ss m σ Q
   |.f v=>Q (.f v) m σ
end
end
noncomputable def bS [Decidable P](f:P->Bool):Bool:=if h:P then f h else false
def bS.e [Decidable P]{f:P->Bool}(h:bS f=true):∃p,f p=true:=by cases‹Decidable P›with|isTrue p=>exact⟨p,h⟩|isFalse p=>exact ff h
def aj(h:(a&&b)=true):a=true/\b=true:=(kK a b).mp h
def gV(h:(!a)=true):a=false:=by cases a with|false=>rfl|true=>exact ff h
def jN(q:ax)(f:nO->Bool):Bool:=bS λi:q.ctorIdx=19=>FP (motive_1:=λa=>Bool) q i λb a a=>f b
def jN.e{q:ax}{R:ax->Prop}(h:jN q f=true)(k:∀a b c,f a=true->R (.Constant a b c)):R q:=(bS.e h).elim λi h=>FP (motive_1:=λq=>∀i:q.ctorIdx=19,(FP (motive_1:=λd=>Bool) q i λa d d=>f a)=true->R q) q i (λa b c d h=>k a b c h) i h
def ft(q:ax)(f:ah->Bool):Bool:=bS λi:q.ctorIdx=23=>td (motive_1:=λa=>Bool) q i λb a=>f b
def ft.e{q:ax}{R:ax->Prop}(h:ft q f=true)(k:∀a b,f a=true->R (.Name a b)):R q:=(bS.e h).elim λi h=>td (motive_1:=λq=>∀i:q.ctorIdx=23,(td (motive_1:=λc=>Bool) q i λa c=>f a)=true->R q) q i (λa b c h=>k a b h) i h
def ud(q:ax)(f:BoolOp->(List ax)->Bool):Bool:=bS λi:q.ctorIdx=0=>FL (motive_1:=λa=>Bool) q i λb c a=>f b c
def ud.e{q:ax}{R:ax->Prop}(h:ud q f=true)(k:∀a b c,f a b=true->R (.BoolOp a b c)):R q:=(bS.e h).elim λi h=>FL (motive_1:=λq=>∀i:q.ctorIdx=0,(FL (motive_1:=λd=>Bool) q i λa b d=>f a b)=true->R q) q i (λa b c d h=>k a b c h) i h
def uf(q:ax)(f:UnaryOp->ax->Bool):Bool:=bS λi:q.ctorIdx=3=>F6 (motive_1:=λa=>Bool) q i λb c a=>f b c
def uf.e{q:ax}{R:ax->Prop}(h:uf q f=true)(k:∀a b c,f a b=true->R (.UnaryOp a b c)):R q:=(bS.e h).elim λi h=>F6 (motive_1:=λq=>∀i:q.ctorIdx=3,(F6 (motive_1:=λd=>Bool) q i λa b d=>f a b)=true->R q) q i (λa b c d h=>k a b c h) i h
def zb(q:ax)(f:ax->Operator->ax->Bool):Bool:=bS λi:q.ctorIdx=2=>FK (motive_1:=λa=>Bool) q i λb c d a=>f b c d
def zb.e{q:ax}{R:ax->Prop}(h:zb q f=true)(k:∀a b c d,f a b c=true->R (.BinOp a b c d)):R q:=(bS.e h).elim λi h=>FK (motive_1:=λq=>∀i:q.ctorIdx=2,(FK (motive_1:=λe=>Bool) q i λa b c e=>f a b c)=true->R q) q i (λa b c d e h=>k a b c d h) i h
def ze(q:ax)(f:ax->ax->ax->Bool):Bool:=bS λi:q.ctorIdx=5=>FU (motive_1:=λa=>Bool) q i λb c d a=>f b c d
def ze.e{q:ax}{R:ax->Prop}(h:ze q f=true)(k:∀a b c d,f a b c=true->R (.IfExp a b c d)):R q:=(bS.e h).elim λi h=>FU (motive_1:=λq=>∀i:q.ctorIdx=5,(FU (motive_1:=λe=>Bool) q i λa b c e=>f a b c)=true->R q) q i (λa b c d e h=>k a b c d h) i h
def ue(q:ax)(f:ax->(List CmpOp)->(List ax)->Bool):Bool:=bS λi:q.ctorIdx=15=>FN (motive_1:=λa=>Bool) q i λb c d a=>f b c d
def ue.e{q:ax}{R:ax->Prop}(h:ue q f=true)(k:∀a b c d,f a b c=true->R (.Compare a b c d)):R q:=(bS.e h).elim λi h=>FN (motive_1:=λq=>∀i:q.ctorIdx=15,(FN (motive_1:=λe=>Bool) q i λa b c e=>f a b c)=true->R q) q i (λa b c d e h=>k a b c d h) i h
def oj(q:ax)(f:(List ax)->Bool):Bool:=bS λi:q.ctorIdx=25=>F5 (motive_1:=λa=>Bool) q i λb a a=>f b
def oj.e{q:ax}{R:ax->Prop}(h:oj q f=true)(k:∀a b c,f a=true->R (.Tuple a b c)):R q:=(bS.e h).elim λi h=>F5 (motive_1:=λq=>∀i:q.ctorIdx=25,(F5 (motive_1:=λd=>Bool) q i λa d d=>f a)=true->R q) q i (λa b c d h=>k a b c h) i h
def zh(q:ax)(f:(List ax)->Bool):Bool:=bS λi:q.ctorIdx=24=>FX (motive_1:=λa=>Bool) q i λb a=>f b
def zh.e{q:ax}{R:ax->Prop}(h:zh q f=true)(k:∀a b,f a=true->R (.List a b)):R q:=(bS.e h).elim λi h=>FX (motive_1:=λq=>∀i:q.ctorIdx=24,(FX (motive_1:=λc=>Bool) q i λa c=>f a)=true->R q) q i (λa b c h=>k a b h) i h
def qD(q:ax)(f:(List<|Option ax)->(List ax)->Bool):Bool:=bS λi:q.ctorIdx=6=>FR (motive_1:=λa=>Bool) q i λb c a=>f b c
def qD.e{q:ax}{R:ax->Prop}(h:qD q f=true)(k:∀a b c,f a b=true->R (.Dict a b c)):R q:=(bS.e h).elim λi h=>FR (motive_1:=λq=>∀i:q.ctorIdx=6,(FR (motive_1:=λd=>Bool) q i λa b d=>f a b)=true->R q) q i (λa b c d h=>k a b c h) i h
def oi(q:ax)(f:ax->(List tc)->dN->Bool):Bool:=bS λi:q.ctorIdx=8=>FY (motive_1:=λa=>Bool) q i λb c d a=>f b c d
def oi.e{q:ax}{R:ax->Prop}(h:oi q f=true)(k:∀a b c d,f a b c=true->R (.ListComp a b c d)):R q:=(bS.e h).elim λi h=>FY (motive_1:=λq=>∀i:q.ctorIdx=8,(FY (motive_1:=λe=>Bool) q i λa b c e=>f a b c)=true->R q) q i (λa b c d e h=>k a b c d h) i h
def ni(q:ax)(f:ax->ah->bv->Bool):Bool:=bS λi:q.ctorIdx=20=>FJ (motive_1:=λd=>Bool) q i λa b c=>f a b c
def ni.e{q:ax}{R:ax->Prop}(h:ni q f=true)(k:∀a b c,f a b c=true->R (.Attribute a b c)):R q:=(bS.e h).elim λi h=>FJ (motive_1:=λq=>∀i:q.ctorIdx=20,(FJ (motive_1:=λd=>Bool) q i λa b c=>f a b c)=true->R q) q i (λa b c d h=>k a b c h) i h
def j5(q:ax)(f:ax->ax->Bool):Bool:=bS λi:q.ctorIdx=21=>F4 (motive_1:=λa=>Bool) q i λb c a=>f b c
def j5.e{q:ax}{R:ax->Prop}(h:j5 q f=true)(k:∀a b c,f a b=true->R (.Subscript a b c)):R q:=(bS.e h).elim λi h=>F4 (motive_1:=λq=>∀i:q.ctorIdx=21,(F4 (motive_1:=λd=>Bool) q i λa b d=>f a b)=true->R q) q i (λa b c d h=>k a b c h) i h
def qE(q:ax)(f:(Option ax)->(Option ax)->(Option ax)->Bool):Bool:=bS λi:q.ctorIdx=26=>FZ (motive_1:=λa=>Bool) q i λb c d a=>f b c d
def qE.e{q:ax}{R:ax->Prop}(h:qE q f=true)(k:∀a b c d,f a b c=true->R (.Slice a b c d)):R q:=(bS.e h).elim λi h=>FZ (motive_1:=λq=>∀i:q.ctorIdx=26,(FZ (motive_1:=λe=>Bool) q i λa b c e=>f a b c)=true->R q) q i (λa b c d e h=>k a b c d h) i h
def jM(q:ax)(f:ax->(List ax)->(List xh)->bv->Bool):Bool:=bS λi:q.ctorIdx=16=>FM (motive_1:=λe=>Bool) q i λa b c d=>f a b c d
def jM.e{q:ax}{R:ax->Prop}(h:jM q f=true)(k:∀a b c d,f a b c d=true->R (.Call a b c d)):R q:=(bS.e h).elim λi h=>FM (motive_1:=λq=>∀i:q.ctorIdx=16,(FM (motive_1:=λe=>Bool) q i λa b c d=>f a b c d)=true->R q) q i (λa b c d e h=>k a b c d h) i h
def zg(q:ax)(f:(List ax)->Bool):Bool:=bS λi:q.ctorIdx=18=>FV (motive_1:=λa=>Bool) q i λb a=>f b
def zg.e{q:ax}{R:ax->Prop}(h:zg q f=true)(k:∀a b,f a=true->R (.JoinedStr a b)):R q:=(bS.e h).elim λi h=>FV (motive_1:=λq=>∀i:q.ctorIdx=18,(FV (motive_1:=λc=>Bool) q i λa c=>f a)=true->R q) q i (λa b c h=>k a b h) i h
def zd(q:ax)(f:ax->Int->(Option ax)->Bool):Bool:=bS λi:q.ctorIdx=17=>FT (motive_1:=λa=>Bool) q i λb c d a=>f b c d
def zd.e{q:ax}{R:ax->Prop}(h:zd q f=true)(k:∀a b c d,f a b c=true->R (.FormattedValue a b c d)):R q:=(bS.e h).elim λi h=>FT (motive_1:=λq=>∀i:q.ctorIdx=17,(FT (motive_1:=λe=>Bool) q i λa b c e=>f a b c)=true->R q) q i (λa b c d e h=>k a b c d h) i h
noncomputable def eR{b:Type}(f:b->Bool):List b->Bool|[]=>false|a::l=>l.isEmpty&&f a
def eR.e{R:List b->Prop}(k:∀a,f a=true->R [a]):∀{l},eR f l=true->R l|[],h=>ff h|[a],h=>k a h|_::_::_,h=>ff h
def oe{b:Type}(f:b->b->Bool):List b->Bool|[]=>false|a::l=>eR (f a) l
def oe.e{R:List c->Prop}(k:∀a b,f a b=true->R [a,b]):∀{l},oe f l=true->R l|[],h=>ff h|a::l,h=>eR.e (R:=λl=>R<|a::l) (λb h=>k a b h) h
noncomputable def f6{b:Type}(f:b->Bool):Option b->Bool|none=>false|some a=>f a
def f6.e{R:Option b->Prop}(k:∀a,f a=true->R (aa a)):∀{l},f6 f l=true->R l|none,h=>ff h|some a,h=>k a h
noncomputable def cW{a:Type}:List a->Bool|[]=>true|_::_=>false
def cW.e:∀{l:List a},cW l=true->l=[]|[],_=>rfl|_::_,h=>ff h
noncomputable def jJ{a:Type}:Option a->Bool|none=>true|some _=>false
def jJ.e:∀{l:Option a},jJ l=true->l=ae|none,_=>rfl|some _,h=>ff h
def tB(q:nO)(f:Bool->Bool):Bool:=bS λi:q.ctorIdx=1=>Fw (motive:=λa=>Bool) q i f
def tB.e{q:nO}{R:nO->Prop}(h:tB q f=true)(k:∀x,f x=true->R (.bool x)):R q:=(bS.e h).elim λi h=>Fw (motive:=λq=>∀i:q.ctorIdx=1,Fw (motive:=λa=>Bool) q i f=true->R q) q i (λx a h=>k x h) i h
def xT(q:nO)(f:Int->Bool):Bool:=bS λi:q.ctorIdx=2=>Fx (motive:=λa=>Bool) q i f
def xT.e{q:nO}{R:nO->Prop}(h:xT q f=true)(k:∀x,f x=true->R (.int x)):R q:=(bS.e h).elim λi h=>Fx (motive:=λq=>∀i:q.ctorIdx=2,Fx (motive:=λa=>Bool) q i f=true->R q) q i (λx a h=>k x h) i h
def p6(q:nO)(f:ah->Bool):Bool:=bS λi:q.ctorIdx=5=>Fy (motive:=λa=>Bool) q i f
def p6.e{q:nO}{R:nO->Prop}(h:p6 q f=true)(k:∀x,f x=true->R (.str x)):R q:=(bS.e h).elim λi h=>Fy (motive:=λq=>∀i:q.ctorIdx=5,Fy (motive:=λa=>Bool) q i f=true->R q) q i (λx a h=>k x h) i h
structure Cx where
 e:dN
 f:List (Option ah)
structure uJ(b:Nat)(X:ao->Prop)(env:cZ):Prop where
 e:env.scope.kind=.function
 h:env.globals=lX
 p:env.builtins=pT
 g:X env.locals
 f:∀n c,env.cells.lookup n=aa c->X c\/c<b
 t:∀n c,env.kindOf n=aa .cell->env.cells.lookup n=aa c->X c
 q:∀x,(env.kindOf x=aa .cell\/env.kindOf x=aa .free)->∃c,env.cells.lookup x=aa c
def sG(a:cZ)(h:aO)(x:ah)(rv:am):Prop:=(a.kindOf x=aa .local/\∃M,h.Ns a.locals M/\M x=aa rv)\/((a.kindOf x=aa .cell\/(a.kindOf x=aa .free/\(x==("__classdict__":ah))=false))/\∃c,a.cells.lookup x=aa c/\h.IsCell c (aa rv))
noncomputable def u0(b:ao->Prop)(a:aX)(h:aO)(cx:Cx)(c:cZ)(m:List V):Prop:=m.length=cx.f.length/\∀(i:Nat)(x:ah)(v:V),cx.f[i]? =aa (aa x)->m[i]? =aa v->v≠.q->∃rv,sG c h x rv/\VR b a h v rv
theorem sG.e{rv:am}(B:sG d h x rv)(j:∀o,h.get? d.locals=aa o->f.get? d.locals=aa o)(k:∀n c,d.cells.lookup n=aa c->∀o,h.get? c=aa o->f.get? c=aa o):sG d f x rv:=by
 rcases B with⟨a,M,b,c⟩|⟨a,c,e,o,g,i⟩;·exact C6 b λo l m g i=>.inl<|rU a M ((tP o l m (j _ g) i)) c
 ·exact .inr ⟨a,c,e,o,k _ _ e _ g,i⟩
def bA.J(R:bA C X c d h)(b:X a\/a<C.f.objs.size):¬lA c a/\a<h.objs.size:=by exact db b (λb=>⟨(R.e a b).1,(R.e a b).2.1⟩) λb=>⟨λq=>dE _<|aR b (R.f a q).1,aR b R.y⟩
theorem u0.e{cx:Cx}(L:u0 (aM X a) a s.heap cx f m)(R:bA C X a j s.heap)(V:uJ C.f.objs.size X f)(st:Step (λk=>False) a s d h):u0 (aM X d) d h.heap cx f m:=by exact⟨L.1,λi x v l p t=>(aB (L.2 i x v l p t) λrv b r=>(aC rv (b.e (λo e=>st.ext _ _ e (R.e _ V.g).1 (λq=>q)) λn c e o g=>st.ext _ _ g (R.J<|V.f n c e).1 (λq=>q))<|VR.e (st.f λk q=>q.elim) v rv r))⟩
structure lK(C:Ctx):Prop where
 K:C.K.In C.f
 f:C.f.NoLimit
 h:10<C.f.objs.size
 e:∀g x,C.q g=aa x->∃mg mb rv,C.f.Ns lX mg/\C.f.Ns pT mb/\(mg x=aa rv\/(mg x=ae/\mb x=aa rv))/\
  VR (λa=>C.f.objs.size<=a) (λx_=>ae) C.f (C.p g) rv/\C.p g≠.q
def VR.t(R:bA C X c d h)(e:VR (λa=>C.f.objs.size<=a) (λf=>ae) C.f v x):VR (aM X c) c h v x:=by refine VR.e (b:=λa=>C.f.objs.size<=a) ⟨λa o e n=>⟨R.g _ _ e,λq=>n ?_⟩,λr p e=>by exact aY e⟩ v x e;exact db q (λq=>((R.e a q).2.2)) λq=>(R.f a q).1
def bA.K(O:lK C)(R:bA C X a b h):C.K.In h:=O.K.keeps R.g
def a_.q(st:Step (λk=>False) e s f g)(p:a_ C X f g Q v t):a_ C X e s Q v t:=by exact fJ p λh i j a b c d=>(dO h i j (st.e a) b c d)
def a_.F(h:∀v e,Q v e->g v e)(p:a_ C X f s Q v t):a_ C X f s g v t:=by exact fJ p λi e j a b c d=>(dO i e j a b c<|h _ _ d)
theorem a_.e(R:bA C X b c s.heap)(e:VR (aM X b) b s.heap mv v)(q:Q mv c)(d:Nat):a_ C X b s Q v {s with toks:=d}:=(dO b c mv (⟨λa a e a a=>e,λa a e=>e,λa e=>.inl e,bb _,rfl,rfl,rfl⟩) R e q)
def a_.f(R:bA C X b σ s.heap)(k:∀a o,s.heap.get? a=aa o->c.get? a=aa o)(f:s.heap.objs.size<=c.objs.size)(e:VR (aM X b) b c mv v)(q:Q mv σ)(g:Nat):a_ C X b s Q v {s with heap:=c,toks:=g}:=(dO b σ mv (⟨λa o e d d=>k a o e,λd d e=>e,λd e=>.inl e,f,rfl,rfl,rfl⟩) (R.T k f) e q)
def t8(k:∀a o,h.get? a=aa o->c.get? a=aa o):dx (aM X b) b h (aM X b) b c:=⟨λa o e n=>⟨k a o e,n⟩,λd d e=>e⟩
def dB(h:aO)(o:jf):∀a x,h.get? a=aa x->(h.push o).get? a=aa x:=λb b e=>e_ o e
def eh(h:aO)(o:jf):(h.push o).objs.size=h.objs.size+1:=by cases h;simp[Heap.push]
def gn(h:aO)(o:jf):h.objs.size<=(h.push o).objs.size:=by exact af (eh ..)<|eC _
def bA.F(R:bA C X b d h)(c:h.objs.size<=a):¬aM X b a:=by
 rintro(q|q);·exact aD (R.e a q).2.1 (eZ.mpr c)
 ·exact aD (R.f a q).2 (eZ.mpr c)
noncomputable def de(a:aX)(r:br)(p:ao×ao):aX:=λx=>if x=r then aa p else a x
def og(f:b r=ae):lA (de b r p) a↔lA b a\/a=p.1\/a=p.2:=by
 constructor
 ·rintro⟨c,d,e,q⟩;delta de at e;split at e;·cases e;exact .inr q
  ·exact .inl<|c_ c d e q
 ·rintro(⟨c,d,e,q⟩|q);·refine(c_ c d ?_ q);delta de;refine af (ap λx=>by rw[x,f]at e;exact aY e) ?_;exact e
  ·exact(c_ r p (by simp[de]) q)
def bA.a0(R:bA C X b u h)(k:∀a o,h.get? a=aa o->i.get? a=aa o)(v:h.objs.size<=i.objs.size){p:ao×ao}(D:u r=ae)(m:h.objs.size<=p.1/\p.1<i.objs.size)(s:h.objs.size<=p.2/\p.2<i.objs.size)(F:dx (aM X b) b h (aM X<|de b r p) (de b r p) i->OR C (aM X<|de b r p) (de b r p) i o p):bA C X (de b r p) (bi u r o) i/\dx (aM X b) b h (aM X<|de b r p) (de b r p) i:=by
 have t:b r=ae:=(R.t r).mp D;have A:dx (aM X b) b h (aM X<|de b r p) (de b r p) i:=by
  refine⟨λa o e n=>⟨k a o e,λq=>?_⟩,λd f e=>?_⟩
  ·refine db q (λq=>?_) λq=>?_;·exact n<|.inl q
   ·rcases(og t).mp q with q|q|q;·exact n<|.inr q
    ·exact aD (cK e)<|eZ.mpr<|q▸m.1
    ·exact aD (cK e)<|eZ.mpr<|q▸s.1
  ·delta de;refine af (ap λx=>by rw[x,t]at e;exact aY e) ?_;exact e
 have B:∀d f a,b d=aa f->(a=f.1\/a=f.2)->a<h.objs.size:=λd f a e q=>(R.f a<|c_ d f e q).2;refine⟨⟨λa o e=>k a o<|R.g a o e,ay R.y v,λd=>?_,λd G f H a g c j l=>?_,λa q=>?_,λa q=>?_,λd I f g c=>?_⟩,A⟩
 ·delta bi de;split;·simp
  ·exact R.t d
 ·unfold de at g c;split at g<;>split at c;·rename_i x y;refine af x ?_;rw[y]
  ·rename_i x y;cases g;have z:=B _ _ _ c l;rcases j with j|j;·exact aD (j▸z)<|eZ.mpr m.1
   ·exact aD (j▸z)<|eZ.mpr s.1
  ·rename_i x y;cases c;have z:=B _ _ _ g j;rcases l with l|l;·exact aD (l▸z)<|eZ.mpr m.1
   ·exact aD (l▸z)<|eZ.mpr s.1
  ·exact R.inj d G f H a g c j l
 ·rcases(og t).mp q with q|q|q;·exact⟨(R.f a q).1,aR (R.f a q).2 v⟩
  ·exact af q ⟨ay R.y m.1,m.2⟩
  ·exact af q ⟨ay R.y s.1,s.2⟩
 ·refine⟨λw=>?_,aR (R.e a q).2.1 v,(R.e a q).2.2⟩;rcases(og t).mp w with w|w|w;·exact(R.e a q).1 w
  ·exact aD (R.e a q).2.1 (eZ.mpr<|w▸m.1)
  ·exact aD (R.e a q).2.1 (eZ.mpr<|w▸s.1)
 ·unfold bi at g;unfold de at c;split at g;·rename_i x;rw[aq x]at c;cases g;cases c;exact F A
  ·rename_i x;rw[ap x]at c;exact(R.L d I f g c).e A (λx e=>k _ _ e) λx e=>k _ _ e
def a_.h{X:ao->Prop}{Q:V->St->Prop}(R:bA C X b d s.heap)(k:∀a o,s.heap.get? a=aa o->c.get? a=aa o)(f:s.heap.objs.size<=c.objs.size)(g:d r=ae)(h:s.heap.objs.size<=p.1/\p.1<c.objs.size)(i:s.heap.objs.size<=p.2/\p.2<c.objs.size)(j:dx (aM X b) b s.heap (aM X<|de b r p) (de b r p) c->OR C (aM X<|de b r p) (de b r p) c o p)(q:Q (.f r) (bi d r o))(l:Nat):a_ C X b s Q (.ref p.1) {s with heap:=c,toks:=l}:=by
 refine cj (R.a0 k f g h i j) λm n=>?_;refine(dO (de b r p) (bi d r o) (.f r) (⟨λa o e t t=>k a o e,n.f,λa q=>?_,f,rfl,rfl,rfl⟩) m (⟨p,by simp[de],rfl⟩) q);rcases(og<|(R.t r).mp g).mp q with q|q|q;·exact .inl q
 ·exact .inr<|q▸h.1
 ·exact .inr<|q▸i.1
def WP(R:bA C X a d s.heap)(e:bd (aM X a) a s.heap b c)(f:c.length<=cN)(q:iK b d Q):aE (aN C.e C.w) A (newList c) (a_ C X a s Q) (λg g=>False) s:=by
 refine tn ?_ f;rcases q with q|⟨r,h,q⟩;·exact a_.f R (dB _ _) (gn _ _) (mv:=.y b) (dO _ _ _ rfl (R.F<|bb s.heap.objs.size) (dF _ rfl)<|bd.e (t8<|dB _ _) _ _ e) q s.toks
 ·refine a_.h R (dB _ _) (gn _ _) (p:=(s.heap.objs.size,s.heap.objs.size)) h ⟨bb _,by refine af (eh ..) ?_;exact bY _⟩ ⟨bb _,by refine af (eh ..) ?_;exact bY _⟩ (λi=>?_) q s.toks;exact(c_ _ _ (dF _ rfl)<|bd.e i _ _ e)
def WQ(R:bA C X a d s.heap)(e:bd (aM X a) a s.heap b c)(f:c.length<=cN)(q:Q (.h b) d):aE (aN C.e C.w) A (newTuple c) (a_ C X a s Q) (λg g=>False) s:=by exact BF (a_.f R (dB _ _) (gn _ _) (mv:=.h b) (dO _ _ _ rfl (R.F<|bb s.heap.objs.size) (dF _ rfl)<|bd.e (t8<|dB _ _) _ _ e) q s.toks) f
def bA.a1{t:St}(R:bA C X b t h){p:ao×ao}(d:b r=aa p)(k:∀a o,h.get? a=aa o->a≠p.1->a≠p.2->c.get? a=aa o)(m:h.objs.size<=c.objs.size)(w:dx (aM X b) b h (aM X b) b c->OR C (aM X b) b c o p):bA C X b (bi t r o) c/\dx (aM X b) b h (aM X b) b c:=by
 have u:lA b p.1:=(c_ r p d<|.inl rfl);have v:lA b p.2:=(c_ r p d<|.inr rfl);have s:dx (aM X b) b h (aM X b) b c:=⟨λa o e n=>⟨k a o e (λq=>n<|.inr<|q▸u) λq=>n<|.inr<|q▸v,n⟩,λA A e=>e⟩;refine⟨⟨λa o e=>k a o (R.g a o e) (λq=>?_) λq=>?_,ay R.y m,λf=>?_,R.inj,λa q=>⟨(R.f a q).1,aR (R.f a q).2 m⟩,λa q=>⟨(R.e a q).1,aR (R.e a q).2.1 m,(R.e a q).2.2⟩,λf B g j i=>?_⟩,s⟩;·exact aD (cK e)<|eZ.mpr<|q▸(R.f _ u).1
 ·exact aD (cK e)<|eZ.mpr<|q▸(R.f _ v).1
 ·delta bi;split;·rename_i x;refine af x<|af d ?_;simp
  ·exact R.t f
 ·unfold bi at j;split at j;·rename_i x;rw[x,d]at i;cases j;cases i;exact w s
  ·rename_i x;have l:∀a,(a=g.1\/a=g.2)->a≠p.1/\a≠p.2:=λa q=>⟨λz=>x<|R.inj f r g p a i d q<|.inl z,λz=>x<|R.inj f r g p a i d q<|.inr z⟩;exact(R.L f B g j i).e s (λy e=>k _ _ e (l _<|.inl rfl).1 (l _<|.inl rfl).2) λy e=>k _ _ e (l _<|.inr rfl).1 (l _<|.inr rfl).2
def a_.g{X:ao->Prop}{Q:V->St->Prop}(R:bA C X b d s.heap)(f:b r=aa p)(k:∀a o,s.heap.get? a=aa o->a≠p.1->a≠p.2->c.get? a=aa o)(h:s.heap.objs.size<=c.objs.size)(i:dx (aM X b) b s.heap (aM X b) b c->OR C (aM X b) b c o p)(e:dx (aM X b) b s.heap (aM X b) b c->VR (aM X b) b c mv v)(q:Q mv (bi d r o))(j:Nat):a_ C X b s Q v {s with heap:=c,toks:=j}:=by exact cj (R.a1 f k h i) λl m=>(dO b (bi d r o) mv (⟨λa o e n g=>k a o e (λq=>n ⟨r,p,f,.inl q⟩) λq=>n ⟨r,p,f,.inr q⟩,λg g e=>e,λg q=>.inl q,h,rfl,rfl,rfl⟩) l (e m) q)
def Wm(h:aT a r=aa o):a r=aa (aa o):=by delta aT at h;cases e:a r with|none=>replace h:=e▸h;exact aY h|some x=>replace h:=e▸h;simp at h;rw[h]
theorem bA.q{h:aO}(R:bA C X a b h)(c:aT b r=aa o):∃p,a r=aa p/\OR C (aM X a) a h o p:=by have e:=Wm c;cases q:a r with|none=>replace e:=((R.t r).mpr q)▸e;exact aY e|some p=>exact(aC p rfl<|R.L r o p e q)
section
variable{C:Ctx}
mutual
theorem VR.f{b:ao->Prop}{φ:aX}{h:aO}:∀(v:V)(x:am)(d:kf),VR b φ h v x->sD v=aa d->∃as,Reads h x d as
 |.t,x,d,e,q=>(e:x=_)▸bo q▸⟨_,.none⟩
 |.q,x,d,e,q=>e.elim
 |.g c,x,d,e,q=>(e:x=_)▸bo q▸⟨_,.bool _⟩
 |.e i,x,d,e,q=>e.elim λt e=>e▸bo q▸⟨_,.int _ _⟩
 |.p i,x,d,e,q=>e.elim λt e=>e▸bo q▸⟨_,.str _ _⟩
 |.h l,x,d,e,q=>by
  obtain⟨ds,q1,rfl⟩:=fj.mp q
  obtain⟨a,xs,k,rfl,_,e1,e2⟩:=e
  obtain⟨as,r⟩:=bd.q l _ ds e2 q1
  exact⟨_,.tuple e1 rfl rfl r⟩
 |.y l,x,d,e,q=>by
  obtain⟨ds,q1,rfl⟩:=fj.mp q
  obtain⟨a,xs,k,rfl,_,e1,e2⟩:=e
  obtain⟨as,r⟩:=bd.q l _ ds e2 q1
  exact⟨_,.list e1 rfl rfl r⟩
 |.L _ _,x,d,e,q=>aY q
 |.N _,x,d,e,q=>aY q
 |.f _,x,d,e,q=>aY q
 |.F _,x,d,e,q=>aY q
theorem bd.q{b:ao->Prop}{φ:aX}{h:aO}:∀(vs:List V)(xs:List am)(ds:List kf),bd b φ h vs xs->lG vs=aa ds->∃as,ReadsAll h xs ds as
 |[],xs,ds,e,q=>(e:xs=_)▸bo q▸⟨_,.nil⟩
 |v::vs,xs,ds,e,q=>by
  obtain⟨x,xs,rfl,e1,e2⟩:=e
  obtain⟨d,q1,q⟩:=jD q
  obtain⟨ds',q2,rfl⟩:=fj.mp q
  obtain⟨as,r⟩:=VR.f v x d e1 q1
  obtain⟨bs,r'⟩:=bd.q vs xs ds' e2 q2
  exact⟨_,.cons r r'⟩
end
theorem VR.q(e:VR b φ h a .none):a=.t\/a=.q\/∃v,a=.F v:=by cases a with|t=>exact .inl rfl|q=>exact .inr (.inl rfl)|F v=>exact .inr (.inr ⟨v,rfl⟩)|g _=>exact lT (e:lU=_)|e _=>exact e.elim λc e=>lT e|p _=>exact e.elim λc e=>lT e|h _=>exact e.elim λc e=>e.elim λc e=>e.elim λc e=>lT e.1|y _=>exact e.elim λc e=>e.elim λc e=>e.elim λc e=>lT e.1|L _ _=>exact e.elim λc e=>lT e.1|N _=>exact e.elim λc e=>e.elim λc e=>e.elim λc e=>e.elim λc e=>lT e.1|f _=>exact e.elim λc e=>lT e.2
def qA(O:lK C)(R:bA C X φ σ h)(b:φ r=aa p):(p.1==sysModules)=false:=by have a:=(R.f p.1<|c_ r p b<|.inl rfl).1;refine lp.mpr λe=>?_;rw[e]at a;exact aD (aR O.h a) (by decide)
theorem VR.h{h:aO}:∀{l:List V}{k:List cT}{c:List am},l.mapM pY=aa k->bd b φ h l c->PySem.ItemsAre (xQ C.e C.w) k c
 |[],k,c,q,e=>(e:c=_)▸bo (q:aa []=aa k)▸.nil
 |v::j,k,c,q,e=>by
  obtain⟨x,c,rfl,f,g⟩:=e;rw[Of]at q;refine aB (jD q) λa d q=>aB (jD q) λm i q=>?_;obtain rfl:=bo q;refine .cons ?_<|VR.h i g;cases v<;>first|exact aY d|skip
  ·obtain rfl:=bo d;obtain⟨t,rfl⟩:=f;exact mP C.e C.w _ t
  ·obtain rfl:=bo d;obtain⟨t,rfl⟩:=f;exact G8 C.e C.w _ t
def CL(b:pY v=aa a)(c:l.mapM pY=aa k):(v::l).mapM pY=aa (a::k):=by rw[Of,b];show(l.mapM pY).bind _=_;rw[c];rfl
def JV{f:a->V}{g:a->cT}(h:∀x,pY (f x)=aa (g x)):∀l:List a,(l.map f).mapM pY=aa (l.map g):=by intro b;induction b with|nil=>exact rfl|cons x l c=>exact CL (h x)<|c
def VR.g{h:aO}(q:kB v=aa k)(e:VR b φ h v x):∃a,x=.ref a/\¬b a/\(tupK C).is h k a:=by
 cases v<;>first|exact aY q|skip
 refine fJ e λa c m d f g i=>?_;subst d;exact⟨a,rfl,f,_,c,m,g,rfl,rfl,VR.h q i⟩
def sE(R:eN A 0):(tupK C).room A.in1:=by have:=R.g;show A.in1.units<k_;simp;have:(9900:Nat)=k_:=rfl;exact(aL (jA ‹A.units+8*0<9000›) bl)
def eN.f(R:eN A k):eN A 0:=R.p R.e (bB ..)<|bB ..
def fB.f(e:fB b φ h u x):u.isSome=x.isSome:=by cases u<;>cases x<;>first|rfl|exact e.elim
section
variable{X:ao->Prop}{Q:V->St->Prop}
def Cy(R:bA C X φ σ s.heap)(p:A.units+4<k_){a:V}{x y:am}(r:VR (aM X φ) φ s.heap a x){q:Bool->Prop}{m:Bool}{l:List V}{n:List kf->kf}(t:n=Gf\/n=Gc)(b:∀e,lG l=aa e->∃o,Reads s.heap y (n e) o)(h:eB.e a q l)(u:∀c,q c->Q (.g<|if m then !c else c) σ):aE (aN C.e C.w) A (xy (if m then .NotIn else .In) x y) (a_ C X φ s Q) (λv v=>False) s:=by
 obtain⟨d,e,⟨w,f,F⟩,⟨z,g,B⟩,D⟩:=h;obtain⟨G,i⟩:=VR.f _ _ _ r w;obtain⟨o,b⟩:=b _ z;have j:A.units+1+min (re e) d.depth<k_:=aL (cy (ay (lQ _ _) B) _) p;have k:=a_.e R (mv:=.g _) rfl (u _ D) s.toks;rcases t with rfl|rfl<;>cases m;·exact SeqAt.in_tuple_reads b i g f j k
 ·exact SeqAt.notIn_tuple_reads b i g f j k
 ·exact SeqAt.in_list_reads b i g f j k
 ·exact SeqAt.notIn_list_reads b i g f j k
def qF(a:φ r=aa p)(e:VR b φ h (.f r) y):y=.ref p.1:=e.elim λc e=>(bo (a.symm.trans e.1):p=_)▸e.2
def zJ(G:eN A n):A.units+4<k_:=by have a:k_=9900:=rfl;exact(aL (dr (bu<|aL (bB ..) G.g) _) bl)
set_option tactic.hygienic true in
theorem Iy(O:lK C)(G:eN A n)(R:bA C X φ σ s.heap){a b:V}{x y:am}(j:VR (aM X φ) φ s.heap a x)(u:VR (aM X φ) φ s.heap b y){q:Bool->Prop}{nt:Bool}
  (h:eB.f a b σ q)(v:∀c,q c->Q (.g<|if nt then !c else c) σ):
  aE (aN C.e C.w) A (xy (if nt then .NotIn else .In) x y) (a_ C X φ s Q) (λI I=>False) s:=by
 have l:∀c B,q c->a_ C X φ s Q (.bool<|if nt then !c else c) {s with toks:=B}:=λc B J=>a_.e R (mv:=.g _) rfl (v c J) B
 cases b<;>first|exact h.elim|skip
 ·obtain⟨c,rfl,d⟩:=h
  obtain⟨P,rfl⟩:=j
  obtain⟨U,rfl⟩:=u
  cases nt
  ·exact aa_ (by refine af (Pv ..) ?_;exact l _ s.toks d)
  ·exact abm (by refine af (Pv ..) ?_;exact l _ s.toks d)
 ·exact Cy R (zJ G) j (.inl rfl) (λH e=>VR.f _ _ _ u<|aQ (dZ Gf) e) h v
 ·exact Cy R (zJ G) j (.inr rfl) (λH e=>VR.f _ _ _ u<|aQ (dZ Gc) e) h v
 ·rename_i r
  delta eB.f at h
  have h:Lake.O.q (aT σ r) False _ _ _ _ _:=h
  cases D:aT σ r with
  |none=>rw[D]at h;exact h.elim
  |some o=>
   replace h:=D▸h
   refine aB (R.q D) λp m g=>?_
   obtain rfl:=qF m u
   cases o<;>first|exact h.elim|skip
   ·refine fq g λL k f w=>Cy R (zJ G) j (.inr rfl) (λH e=>?_) h v
    obtain⟨W,M⟩:=bd.q _ _ _ w e
    exact⟨_,.list f rfl rfl M⟩
   ·refine aB h λi F d=>?_;subst F
    obtain⟨Y,f,w⟩:=g
    obtain⟨t,rfl⟩:=j
    replace d:=((w i).f)▸d
    cases nt
    ·exact wpAny_in_of (mP _ _ i t) (qA O R m) f.mapOf<|l _ _ d
    ·exact wpAny_notIn_of (mP _ _ i t) (qA O R m) f.mapOf<|l _ _ d
   ·obtain⟨k,z,d⟩:=h
    refine cz g λL f w N=>cz (VR.g (C:=C) z j) λa F nb z=>?_;subst F
    rw[(N k).f,OW]at d
    cases nt
    ·exact wpAny_in_heap (sE G.f) z (qA O R m) f<|l _ _ d
    ·exact aby (sE G.f) z (qA O R m) f<|l _ _ d
def Ix(G:eN A n)(h:d<=4):A.units+min d e<k_:=aL (cy (ay (lQ _ _) h) _)<|zJ G
noncomputable def gH:jP->CmpOp|.t=>.Lt|.y=>.LtE|.h=>.Gt|.e=>.Eq|.f=>.NotEq|.q=>.Is|.p=>.In|.g=>.NotIn
def tD(O:lK C)(G:eN A n)(R:bA C X φ σ s.heap)(f:VR (aM X φ) φ s.heap a x)(g:VR (aM X φ) φ s.heap b y)(h:eB o a b σ Q):aE (aN C.e C.w) A (xy (gH o) x y) (a_ C X φ s Q) (λB B=>False) s:=by
 cases o;·obtain⟨i,j,rfl,rfl,q⟩:=h;obtain⟨t,rfl⟩:=f;obtain⟨u,rfl⟩:=g;exact abh<|a_.e R (mv:=.g _) rfl q s.toks
 ·obtain⟨i,j,rfl,rfl,q⟩:=h;obtain⟨t,rfl⟩:=f;obtain⟨u,rfl⟩:=g;exact abe<|a_.e R (mv:=.g _) rfl q s.toks
 ·obtain⟨i,j,rfl,rfl,q⟩:=h;obtain⟨t,rfl⟩:=f;obtain⟨u,rfl⟩:=g;exact aa9<|a_.e R (mv:=.g _) rfl q s.toks
 ·obtain⟨d,e,⟨k,l,m⟩,⟨p,r,D⟩,q⟩:=h;obtain⟨F,w⟩:=VR.f _ _ _ f k;obtain⟨H,z⟩:=VR.f _ _ _ g p;exact SeqAt.compareEq_reads w z l r (Ix G m)<|a_.e R (mv:=.g _) rfl q s.toks
 ·obtain⟨d,e,⟨k,l,m⟩,⟨p,r,D⟩,q⟩:=h;obtain⟨F,w⟩:=VR.f _ _ _ f k;obtain⟨H,z⟩:=VR.f _ _ _ g p;exact SeqAt.compareNe_reads w z l r (Ix G m)<|a_.e R (mv:=.g _) rfl q s.toks
 ·obtain⟨rfl,h⟩:=h;obtain rfl:y=.none:=g;rcases h with⟨rfl,q⟩|⟨k,l,m,q⟩;·obtain rfl:x=.none:=f;exact abc<|a_.e R (mv:=.g _) rfl q s.toks
  ·refine abb (λe=>?_)<|a_.e R (mv:=.g _) rfl q s.toks;subst e;rcases VR.q f with rfl|rfl|⟨v,rfl⟩;·exact k rfl
   ·exact l rfl
   ·exact m _ rfl
 ·exact Iy (nt:=false) (q:=λc=>Q (.g c) σ) O G R f g h λc q=>q
 ·exact Iy (nt:=true) (q:=λc=>Q (.g<|!c) σ) O G R f g h λc q=>q
end
end
section
variable{X:ao->Prop}{s:az}{Q:V->St->Prop}
noncomputable def xS:oB->Operator|.e=>.Add|.h=>.Sub|.g=>.Mult|.f=>.Mod|.p=>.Pow
def kC(R:bA C X φ σ s.heap)(h:fP σ v=aa l)(e:VR (aM X φ) φ s.heap v x):∃a b k,x=.ref a/\s.heap.get? a=aa (im b k)/\bd (aM X φ) φ s.heap l b.toList:=by
 cases v<;>first|exact aY h|skip
 ·obtain rfl:=bo h;exact fQ e λa b k c i d=>(tP a b k c d)
 ·exact W5 (R.q<|jk.e h) λp f b k g=>(tP p.1 b k (qF f e) g)
def Sl{a:Int}(h:a.natAbs<2^64):O6 a<=64:=by
 unfold O6;split;·exact bl
 ·rename_i b;have:a.natAbs.log2<64:=(E5<|by intro q;apply b;simp[Int.natAbs_eq_zero.mp q]).mpr h;exact(jA this)
def De(R:bA C X φ σ s.heap)(e:bd (aM X φ) φ s.heap a b.toList)(q:iK a σ Q):a_ C X φ s Q (.ref s.heap.objs.size) {s with heap:=s.heap.push {cls:=.type "list",data:=.seq b}}:=by
 rcases q with q|⟨r,c,q⟩;·exact a_.f R (dB _ _) (gn _ _) (mv:=.y a) (dO _ _ _ rfl (R.F<|bb s.heap.objs.size) (dF _ rfl)<|bd.e (t8<|dB _ _) _ _ e) q s.toks
 ·refine a_.h R (dB _ _) (gn _ _) (p:=(s.heap.objs.size,s.heap.objs.size)) c ⟨bb _,by rw[eh];exact bY _⟩ ⟨bb _,by rw[eh];exact bY _⟩ (λd=>?_) q s.toks;exact(c_ _ _ (dF _ rfl)<|bd.e d _ _ e)
def Df(R:bA C X φ σ s.heap)(e:bd (aM X φ) φ s.heap a b.toList)(q:Q (.h a) σ):a_ C X φ s Q (.ref s.heap.objs.size) {s with heap:=s.heap.push {cls:=.type "tuple",data:=.seq b}}:=by exact a_.f R (dB _ _) (gn _ _) (mv:=.h a) (dO _ _ _ rfl (R.F<|bb s.heap.objs.size) (dF _ rfl)<|bd.e (t8<|dB _ _) _ _ e) q s.toks
def bd.f{b:ao->Prop}{h:aO}{l:List V}{xs:Array am}(e:bd b φ h l xs.toList):l.length=xs.size:=e.h.trans gL
def bd.N{h:aO}{a c:Array am}(e:bd b φ h l a.toList)(f:bd b φ h k c.toList):bd b φ h (l++k) (a++c).toList:=by exact af M6<|e.g f
def Qx(R:bA C X φ σ s.heap)(n:¬aM X φ t)(c:s.heap.get? t=aa (pw a i))(f:bd (aM X φ) φ s.heap l a.toList)(o:¬aM X φ u)(d:s.heap.get? u=aa (pw b j))(g:bd (aM X φ) φ s.heap k b.toList)(p:l.length+k.length<=1000)(q:Q (.h<|l++k) σ):aE (aN C.e C.w) A (binaryOp .Add (.ref t)<|.ref u) (a_ C X φ s Q) (λr r=>False) s:=by
 by_cases h:a.isEmpty=true;·refine Bt (aC _ c rfl) (aC _ d rfl) GZ G4 F.slot_tuple_add F.entry_tuple_add (F.args_tuple_add_2 _ _) (abv t u a b i j ae ae #[] #[] h) ⟨c,d,?_⟩;have e:l=[]:=s6.mp<|f.f.trans<|M4.mp h;rw[e]at q;exact a_.e R (mv:=.h k) (dO u b j rfl o d g) q _
 by_cases m:b.isEmpty=true;·refine Bt ⟨_,c,rfl⟩ ⟨_,d,rfl⟩ GZ G4 F.slot_tuple_add F.entry_tuple_add (F.args_tuple_add_2 _ _) (abw t u a b i j ae ae #[] #[] h m) ⟨c,d,?_⟩;rw[(s6.mp<|g.f.trans<|M4.mp m),hK]at q;exact a_.e R (mv:=.h l) (dO t a i rfl n c f) q _
 exact Bt ⟨_,c,rfl⟩ ⟨_,d,rfl⟩ GZ G4 F.slot_tuple_add F.entry_tuple_add (F.args_tuple_add_2 _ _) (abx t u a b i j ae ae #[] #[] h m (dh f.f<|g.f▸ay p (show 1000<=cN by decide))) ⟨c,d,Df R (f.N g) q⟩
def Xp(h:o.or p=aa a):o=aa a\/p=aa a:=by
 cases o;·exact .inr h
 ·exact .inl h
def qr{d:Type}{c:Prop}[Decidable c]{x a:d}(h:(if c then aa x else ae)=aa a):c/\x=a:=by
 by_cases b:c;·rw[aq b]at h;exact⟨b,bo h⟩
 ·rw[ap b]at h;exact aY h
def Sk(R:bA C X φ σ s.heap)(e:VR (aM X φ) φ s.heap a x)(f:VR (aM X φ) φ s.heap b y)(h:uE o a b σ Q):aE (aN C.e C.w) A (binaryOp (xS o) x y) (a_ C X φ s Q) (λB B=>False) s:=by
 rcases h with⟨v,h,q⟩|⟨l,k,rfl,D,G,H,q⟩
 ·cases o
  ·rcases Xp h with h|h;·refine dA (jm.e h) λi j d c h=>?_;subst d;subst c;obtain rfl:=bo h;refine aV e λt I=>?_;subst I;obtain⟨u,rfl⟩:=f;exact aa2<|a_.e R (mv:=.e _) ⟨_,rfl⟩ q _
   ·refine dA (y3.e h) λi j d c h=>?_;subst d;subst c;obtain⟨J,rfl⟩:=qr h;refine fJ e λt w k c L g m=>?_;subst c;refine fJ f λu z j c M n p=>?_;subst c;exact Qx R L g m M n p J q
  all_goals refine dA (jm.e h) λi j d c h=>?_;subst d;subst c;obtain⟨t,rfl⟩:=e;obtain⟨u,rfl⟩:=f
  ·obtain rfl:=bo h;exact abq<|a_.e R (mv:=.e _) ⟨_,rfl⟩ q _
  ·obtain⟨r,rfl⟩:=qr h;exact abk (a_.e R (mv:=.e _) ⟨_,rfl⟩ q _)<|IntMulOk.of_left<|Sl r.1
  ·obtain⟨r,rfl⟩:=qr h;rw[<-Int.fmod_eq_emod_of_nonneg _ (nC r)]at q;exact abj (Em r)<|a_.e R (mv:=.e _) ⟨_,rfl⟩ q _
  ·obtain⟨⟨rfl,rfl⟩,rfl⟩:=qr h;exact abo (by decide) (by decide+kernel)<|a_.e R (mv:=.e<|10^1000) ⟨s.toks,rfl⟩ q _
 ·refine fQ (kC R D e) λt w i c g m=>?_;subst c;refine fQ (kC R G f) λu z j c n p=>?_;subst c;exact Bt (aC _ g rfl) (aC _ n rfl) noFill_list_add seq_list_add F.slot_list_add F.entry_list_add (F.args_list_add_2 _ _) (abg t u w z i j ae ae #[] #[] (m.f▸p.f▸H)) ⟨g,n,De R (m.N p) q⟩
def bd.p{b:ao->Prop}{φ:aX}{h:aO}{vs:List V}{a:List am}(e:bd b φ h vs a){i:Nat}{v:V}(c:vs[i]? =aa v):∃x,a[i]? =aa x/\VR b φ h v x:=by
 refine cj (o0.mp e) λf g=>?_;have d:i<a.length:=by exact f▸(b_.mp c).1
 exact(aC (a[i]) (by simp[d])<|g i v _ c<|by simp[d])
def JI{i:Int}(h:itemAt l i=aa v):0<=i/\l[i.toNat]? =aa v:=by
 by_cases c:0<=i;·exact⟨c,(aq c).symm.trans h⟩
 ·exact aY<|(ap c).symm.trans h
def seqIndex_of{i:Int}(a:0<=i)(b:i.toNat<n):G2 i n=aa i.toNat:=by delta G2;exact af (ap<|sQ.mpr a)<|aq (by refine af (kK ..) ?_;exact⟨bQ a,bQ<|(sS a).mp b⟩)
def Ag(s:az)(x:am):Prop:=∃T id,s.TypeIs x T/\typeLookup (.type T) "__getitem__"=pure (aa<|.builtin id)
def Jq(h:s.heap.get? a=aa (im b k)):Ag s (.ref a):=(c_ ("list") _ ((aC _ h rfl)) slot_list_getitem.lookup)
def Jr(h:s.heap.get? a=aa (pw b k)):Ag s (.ref a):=(c_ ("tuple") _ ((aC _ h rfl)) Fj.lookup)
def Cw{l:List a}{i:Int}(b:0<=i)(h:l[i.toNat]? =aa v)(c:l.length<2^62):i<2^62:=by exact(sS b).mp<|bj (b_.mp h).1 c
def yC{i:Int}(h:i<2^62):i<2^63:=Ak h (by decide)
def JB{i:Int}(h:0<=i): -2^63<=i:=fK (by decide) h
def Ep(C:Ctx)(A:bU)(X:ao->Prop)(φ:aX)(s:az)(Q:V->St->Prop)(x y:am):Prop:=Ag s x/\aE (aN C.e C.w) A (th x y) (a_ C X φ s Q) (λa a=>False) s
def JK(R:bA C X φ σ s.heap){t:ao}{xs:Array am}{k:Nat}{l:List V}(e1:s.heap.get? t=aa (im xs k))(e2:bd (aM X φ) φ s.heap l xs.toList){b v:V}{y:am}(eb:VR (aM X φ) φ s.heap b y)(h:(gR b).bind (itemAt l)=aa v)(q:Q v σ)(hb:l.length<2^62):Ep C A X φ s Q (.ref t) y:=by refine aB (gR.b h) λi hz1 h=>?_;subst hz1;obtain⟨h0,h1⟩:=JI h;exact(Di eb) _ λu=>aB (e2.p h1) λz hz ez=>⟨Jq e1,wpAny_getItem_list (gT _ e1 rfl _ rfl) h0 (yC<|Cw h0 h1 hb) (iF.symm.trans hz)<|a_.e R ez q _⟩
def wg(g:u=aa v)(e:fB b φ h u o):∃z,o=aa z/\VR b φ h v z:=by subst g;cases o with|none=>exact e.elim|some z=>exact(aC z rfl e)
set_option tactic.hygienic true in
theorem Vb(O:lK C)(G:eN A n)(R:bA C X φ σ s.heap){a b v:V}{x y:am}(ea:VR (aM X φ) φ s.heap a x)(eb:VR (aM X φ) φ s.heap b y)
  (h:gJ σ a b=aa v)(q:Q v σ)(sm:kq σ a):Ep C A X φ s Q x y:=by
 cases a<;>first|exact aY h|skip
 ·obtain⟨i,rfl,g⟩:=gR.b h
  obtain⟨t,rfl⟩:=ea
  refine(Di eb) _ λu=>?_
  by_cases h0:0<=i
  ·refine aB (fj.mp<|(aq h0).symm.trans g) λc hc hz2=>?_;subst hz2
   exact⟨(c_ ("str") _ (By _ _ _) F.slot_str_getitem.lookup),P.getItem_str (M9.mpr ⟨dz<|sQ.mpr<|JB h0,dz<|Ao.mpr<|yC<|Cw h0 hc sm⟩) (c:=c) ((show G2 i (Str.length _)=aa i.toNat from seqIndex_of h0<|w0 (b_.mp hc).1 gL).symm▸iF.symm.trans hc)<|a_.e R (mv:=.p _) ⟨_,rfl⟩ q _⟩
  ·exact aY<|(ap h0).symm.trans g
 ·obtain⟨i,rfl,g⟩:=gR.b h
  refine cj (JI g) λh0 h1=>fJ ea λt xs k hz3 nb e1 e2=>?_;subst hz3
  exact(Di eb) _ λu=>aB (e2.p h1) λz hz ez=>⟨Jr e1,aa7 (gT _ e1 rfl _ rfl) (JB h0) (yC<|Cw h0 h1 sm) (seqIndex_of h0<|e2.f▸(b_.mp h1).1) (iF.symm.trans hz)<|a_.e R ez q _⟩
 ·refine fJ ea λt xs k hz3 nb e1 e2=>?_;subst hz3
  exact JK R e1 e2 eb h q sm
 ·rename_i r
  have h:Lake.O.q (aT σ r) ae _ _ _ _ _=aa v:=h
  have sm:Lake.O.q (aT σ r) True _ _ _ _ _:=sm
  cases hl:aT σ r with
  |none=>replace h:=hl▸h;exact aY h
  |some o=>
   rw[hl]at h sm
   refine aB (R.q hl) λp hp k=>?_
   obtain rfl:=qF hp ea
   cases o<;>first|exact aY h|skip
   ·exact fq k λxs k e1 e2=>JK R e1 e2 eb h q sm
   ·obtain⟨i,rfl,g⟩:=gR.b h
    obtain⟨kvs,e1,e2⟩:=k
    obtain⟨u,rfl⟩:=eb
    obtain⟨z,hz,ek⟩:=wg g<|e2 i
    exact⟨⟨"dict",_,e1.typeIs,G6.lookup⟩,PY (mP _ _ i u) e1.mapOf hz<|a_.e R ek q _⟩
   ·obtain⟨i,rfl,g⟩:=rI.b h
    obtain⟨kvs,e1,e2⟩:=k
    obtain⟨u,rfl⟩:=eb
    obtain⟨z,hz,ek⟩:=wg g<|e2 i
    exact⟨⟨"dict",_,e1.typeIs,G6.lookup⟩,PY (G8 _ _ i u) e1.mapOf hz<|a_.e R ek q _⟩
   ·refine aB (jD h) λks hk g=>cz k λxs e1 e2 e3=>(X5<|VR.g (C:=C) hk eb) _ λa nb hk=>aB (wg g<|e3 ks) λz hz ek=>aB (fj.mp hz) λy hy hz2=>?_;subst hz2
    exact⟨(c_ ("dict") _ e1.typeIs G6.lookup),wpAny_getItem_heap (sE G.f) hk e1 hy<|a_.e R ek q _⟩
end
section
variable{E:am->az->Prop}
def Qy(b n:Nat)(a:b<=n):Fo ae (aa (b:Int)) 1 (n:Int)=(0,(b:Int)):=by
 delta Fo;have c:¬((1:Int)<0):=by decide
 simp only[c,(show¬((b:Int)<0)from sQ.mpr<|ip b),if_false];exact aQ (Prod.mk _)<|NC<|kP.mpr a
def XD(b:Nat):AY 0 (b:Int) 1=b:=by delta AY;cases b with|zero=>rfl|succ k=>rw[aq<|by decide,aq<|oJ.mpr<|mJ k,Nu,NK,En];rfl
def QK{b n:Nat}(e:s.heap.IsSliceOf d .none (.int b u) .none)(f:b<=n)(h:Q (0,1,b) s):aE (aN Y w) A (Pb (.ref d)<|pure (n:Int)) Q E s:=by refine cz (id e) λos a i c=>?_;delta Pb abD;refine aA<|aA<|vm a c (x:=.none) rfl<|aA<|vm a c (x:=.int b u) rfl<|aA<|vm a c (x:=.none) rfl<|ba ?_;refine aA<|O0 ?_;show aE _ _ (if((1:Int)==0)=true then _ else _) _ _ s;refine af (ap<|by decide) ?_;refine aA<|O0<|aA<|abp<|aA<|ba ?_;show aE _ _ (match Fo ae (aa (b:Int)) 1 (n:Int)with|(lo,g)=>pure (lo,(1:Int),AY lo g 1)) _ _ s;refine af (Qy b n f) ?_;show aE _ _ (pure ((0:Int),(1:Int),AY 0 (b:Int) 1)) _ _ s;exact(XD b).symm▸ba h
def XC(a:Array am)(b:Nat):((bM b).filterMap λ(k:Nat)=>a[((0:Int)+(k:Int)*1).toNat]?).toArray=(a.toList.take b).toArray:=by
 have e:(λ(k:Nat)=>a[((0:Int)+(k:Int)*1).toNat]?)=λk=>a[0+k]? :=by funext k;rw[El,Eo,j9];rfl
 refine af e ?_;have:=pick_run a 0 b;rw[EG]at this;rw[(show((λx=>a[x]?)∘λx=>0+x)=λk=>a[0+k]? from rfl)]at this;refine af this ?_;rw[List.drop_zero]
def Uy{b k:Nat}(g:s.heap.get? t=aa (pw a k))(f:s.heap.IsSliceOf e .none (.int b u) .none)(i:b<=a.size)(j:b=a.size->Q (.ref t) s)(h:Q (.ref s.heap.objs.size) {s with heap:=s.heap.push {cls:=.type "tuple",data:=.seq (a.toList.take b).toArray}})(l:a.size<=cN):aE (aN Y w) A (th (.ref t)<|.ref e) Q E s:=by
 have c:aaY s.heap t a:=(gT _ g rfl k rfl);have n:sizeOk (.seq (a.toList.take b).toArray):=by show(a.toList.take b).toArray.size<=cN;rw[pI,uV,gL];exact(ay (u7 ..) l)
 refine cz (id f) λos o p q=>?_;delta th;try with_reducible refine dS ?_
 refine aA<|P9 c.typeIs (by decide) ?_;refine aA<|Ha (name:=kj "__getitem__") c.typeIs Fj<|mQ Fj c.typeIs aa6 ?_<|aa3 _ _;show aE _ _ (abF (.ref t)>>=_) _ _ s;refine aA<|abu c ?_;refine aA<|to ((aC os o p)) ?_;refine af (aq<|by decide) ?_;refine aA<|QK f i ?_;show aE _ _ (if((0:Int)==0&&(1:Int)==1&&b==a.size)=true then _ else _) _ _ s;by_cases d:b=a.size;·refine af (aq<|by simp[d]) ?_;refine aA (m:=abE _)<|aA<|to c.typeIs<|ba ?_;exact af (aq od)<|aA<|rz<|aA<|ba<|ba ⟨_,rfl,ba<|j d⟩
 ·refine af (ap<|by simp[d]) ?_;refine af (XC a b) ?_;exact aA (m:=Fq _)<|ru (aA<|ba<|ba ⟨_,rfl,ba h⟩) n
end
section
variable{X:ao->Prop}{Q:V->St->Prop}
set_option tactic.hygienic true in
theorem ZL(e:∀a b p,d≠.Slice a b ae p)(o i:am):subscripted d false o i=operate [o,i] (th o i):=by
 cases d<;>first|rfl|skip
 rename_i a b c p;cases c;·exact aD rfl<|e _ _ _
 ·rfl
def Do(o i:am):subscripted (.Slice a b ae p) false o i=operate [i,o] (th o i):=rfl
def ZX(O:lK C)(G:eN A n)(R:bA C X φ σ s.heap)(e:VR (aM X φ) φ s.heap a x)(f:VR (aM X φ) φ s.heap b y)(h:gJ σ a b=aa v)(q:Q v σ)(sm:kq σ a)(g:∀a b p,c≠.Slice a b ae p):aE (aN C.e C.w) A (Fk d c x y) (a_ C X φ s Q) (λi i=>False) s:=by obtain⟨⟨T,id,j,l⟩,k⟩:=Vb O G R e f h q sm;exact AV j l k<|ZL g x y
def bd.L{h:aO}:∀{a:List am}(i:Nat),bd b φ h l a->bd b φ h (l.take i) (a.take i)/\bd b φ h (l.drop i) (a.drop i):=by induction l with|nil=>exact λi e=>(show _=[]from e)▸⟨by rw[Ou,Ou];rfl,by rw[ED,ED];rfl⟩|cons u l c=>intro a i e;cases i with|zero=>exact⟨rfl,e⟩|succ i=>exact dA e λy g h f d=>h▸⟨cp y _ rfl f (c i d).1,(c i d).2⟩
noncomputable def Tf(a:Bool)(l:List am)(i:Nat):List am:=if a then l.drop i else l.take i
def bd.t{h:aO}(a:Bool)(i:Int)(e:bd b φ h l c):bd b φ h (nT a l i) (Tf a c i.toNat).toArray.toList:=by
 cases a;·exact(bd.L _ e).1
 ·exact(bd.L _ e).2
noncomputable abbrev uq(a:Bool)(y:am):jf:=⟨.type "slice",ae,.fields<|if a then#[y,.none,.none]else#[.none,y,.none],#[]⟩
def YL(R:bA C X φ σ s.heap){f:Bool}{i:Int}{u:jV}{t m:ao}{d:Array am}{k:Nat}{l:List V}(p:0<=i)(r:¬aM X φ t)(g:s.heap.get? t=aa (pw d k))(c:bd (aM X φ) φ s.heap l d.toList)(n:s.heap.get? m=aa (uq f<|.int i u))(v:1<=i)(h:i.toNat<=l.length)(w:l.length<2^24)(q:Q (.h<|nT f l i) σ):aE (aN C.e C.w) A (th (.ref t)<|.ref m) (a_ C X φ s Q) (λx x=>False) s:=by
 have j:((i.toNat:Nat):Int)=i:=uR p;have o:d.size<=cN:=c.f▸bu w;rw[c.f]at h;cases f;·refine Uy (b:=i.toNat) (u:=u) g (bV _ n rfl<|by refine af j ?_;rfl) h (λe=>?_) (Df R (c.t false i) q) o;exact a_.e R (mv:=.h l) (dO t d k rfl r g c) ((show nT false l i=l from List.take_of_length_le<|bf<|c.f.trans e.symm)▸q) _
 ·exact aa8 (a:=i.toNat) (u:=u) (gT _ g rfl k rfl) (bV _ n rfl<|by refine af j ?_;rfl) (kP.mp<|j.symm▸v) h (Df R (c.t true i) q) o
def YJ(R:bA C X φ σ s.heap){i:Int}(m:0<=i)(f:s.heap.get? t=aa (im b k))(c:bd (aM X φ) φ s.heap l b.toList)(g:s.heap.get? d=aa (uq a<|.int i u))(n:l.length<2^24)(q:iK (nT a l i) σ Q):aE (aN C.e C.w) A (th (.ref t)<|.ref d) (a_ C X φ s Q) (λo o=>False) s:=by
 have h:((i.toNat:Nat):Int)=i:=uR m;have j:b.size<=cN:=c.f▸bu n;cases a;·exact PX ⟨_,f,rfl,k,rfl⟩ (bV _ g rfl rfl) .none (.int i u) .none (λe=>aY e) (dh h<|af (slicePick_upto' ..)<|De R (c.t false i) q) j
 ·exact PX ⟨_,f,rfl,k,rfl⟩ (bV _ g rfl rfl) (.int i u) .none .none (λe=>aY e) (dh h<|af (slicePick_from' ..)<|De R (c.t true i) q) j
def LZ(R:bA C X φ σ s.heap)(b:z.length<=2^20)(l u:Option (Int×jV))(q:Q (.p<|pR z (l.map (·.1))<|u.map (·.1)) σ):(sliceMade z t l u ae).post (a_ C X φ s Q) s:=by
 delta sliceMade slicePicked;delta pR at q;show(if((1:Int)==1&&(Fp (l.map (·.1)) (u.map (·.1)) 1 z.length).length==z.length)=true then Made.val (.str z t)else Made.str ⟨((Fp (l.map (·.1)) (u.map (·.1)) 1 z.length).filterMap (z.cps[·]?)).toArray⟩).post _ s;by_cases a:((1:Int)==1&&(Fp (l.map (·.1)) (u.map (·.1)) 1 z.length).length==z.length)=true;·rw[aq a]at q⊢;exact a_.e R (mv:=.p z) ⟨t,rfl⟩ q _
 ·rw[ap a]at q⊢;exact⟨(ay (wU (z.cps[·]?) _)<|ay (aa' (l.map (·.1)) (u.map (·.1)) z.length)<|ay b bl),a_.e R (mv:=.p _) ⟨_,rfl⟩ q _⟩
def YI{a:V}{S:ah->Prop}{T:List V->Prop}(h:a.J D S T (λb=>D) λb=>D):D\/(∃s,a=.p s/\S s)\/∃l,a=.h l/\T l:=by cases a<;>first|exact .inl h|exact .inr (.inl ⟨_,rfl,h⟩)|exact .inr<|.inr ⟨_,rfl,h⟩
def YK(G:eN A n)(R:bA C X φ σ s.heap){f:Bool}{a b:V}{x y:am}{B:ax}{lo D:Option ax}{p:bv}(g:VR (aM X φ) φ s.heap a x)(H:VR (aM X φ) φ s.heap b y)(h:nR f a b σ Q){w:ao}(e:s.heap.get? w=aa (uq f y)):aE (aN C.e C.w) A (Fk B (.Slice lo D ae p) x<|.ref w) (a_ C X φ s Q) (λI I=>False) s:=by
 obtain⟨i,rfl,z,N,h⟩:=h;obtain⟨u,rfl⟩:=H;rcases YI h with⟨l,c,j,q⟩|⟨_,rfl,c,q⟩|⟨l,rfl,c,j,J,q⟩;·refine fQ (kC R c g) λt L k m d o=>?_;subst m;exact fq (Jq d) λT id r v=>AV r v (YJ R z d o e j q)<|Do _ _
 ·obtain⟨t,rfl⟩:=g;refine AV (By _ _ _) F.slot_str_getitem.lookup ?_<|Do _ _;cases f;·exact PZ (l:=ae) (u:=aa (i,u)) (st:=ae) (bV _ e rfl rfl) rfl<|LZ R c ae (aa (i,u)) q
  ·exact PZ (l:=aa (i,u)) (u:=ae) (st:=ae) (bV _ e rfl rfl) rfl<|LZ R c (aa (i,u)) ae q
 ·refine fJ g λt L k m M d o=>?_;subst m;exact fq (Jr d) λT id r v=>AV r v (YL R z M d o e c j J q)<|Do _ _
end
section
variable{Y:eD}{w:dp}{K:Type}[DecidableEq K]{knd:xg Y w K}{A:bU}{E:am->az->Prop}{s:az}
noncomputable def lk{a:Type}(l:List (K×a))(k:K):Option a:=(l.find? λy=>decide<|y.1=k).map (·.2)
def m5(y:K×a)(l:List (K×a))(x:K):lk (y::l) x=if y.1=x then aa y.2 else lk l x:=by
 delta lk;refine af (List.find?_cons) ?_;by_cases h:y.1=x;·refine af (aq h)<|af (bQ h) ?_;rfl
 ·refine af (ap h) ?_;rw[dz h]
def Kf(k x:K):∀l:List (K×d),lk (l.filter λy=>decide<|y.1≠k) x=if x=k then ae else lk l x:=by intro e;induction e with
 |nil=>exact(ite_self _).symm
 |cons y l c=>
  refine af List.filter_cons<|af (m5 ..) ?_;by_cases b:y.1=k
  ·refine af (dz (p:=y.1≠k) λq=>q b)<|af c ?_;by_cases a:x=k;·refine af (aq a) ?_;rw[aq a]
   ·refine af (ap a)<|af (ap a) ?_;rw[ap λq=>a<|q.symm.trans b]
  ·refine af (bQ b)<|af (m5 ..) ?_;refine af c ?_;by_cases h:y.1=x;·refine af (aq h)<|af (aq h) ?_;rw[ap λq=>b<|h.trans q]
   ·refine af (ap h) ?_;rw[ap h]
def Kg(f:a->c)(g:K×a->K×a)(k:K)(v:c)(d:∀y,(g y).1=y.1)(e:∀y,y.1=k->f (g y).2=v)(i:∀y,y.1≠k->g y=y)(x:K):∀l:List (K×a),(lk (l.map g) x).map f=if x=k then(lk l x).map (λn=>v)else(lk l x).map f:=by intro j;induction j with
 |nil=>exact(ite_self _).symm
 |cons y l m=>
  refine af qV<|af (m5 ..) ?_;refine af (m5 ..)<|af (d ..) ?_;by_cases h:y.1=x
  ·refine af (aq h)<|af (aq h) ?_;by_cases b:x=k;·exact af (aq b)<|aQ aa<|e y<|h.trans b
   ·refine af (ap b) ?_;rw[i y λq=>b<|h.symm.trans q]
  ·exact af (ap h)<|af (ap h) m
def Ke{b:Type}(k:K)(u:b)(x:K):∀l:List (K×b),lk l k=ae->lk (l++[(k,u)]) x=if x=k then aa u else lk l x:=by intro d;induction d with
 |nil=>
  intro _;show lk [(k,u)] x=_;refine af (m5 ..) ?_;by_cases h:x=k;·refine af (aq h.symm) ?_;rw[aq h]
  ·refine af (ap<|dM h) ?_;rw[ap h]
 |cons y l e=>
  intro a;rw[m5]at a;have c:¬y.1=k:=λq=>by rw[aq q]at a;exact aY a.symm
  refine af List.cons_append<|af (m5 ..) ?_;refine af (m5 ..) ?_;refine af (e<|by rwa [ap c]at a) ?_;by_cases h:y.1=x;·refine af (aq h)<|af (aq h) ?_;rw[ap λq=>c<|h.trans q]
  ·refine af (ap h) ?_;rw[ap h]
def Kd(k:K):∀l:List (K×a),(l.any λy=>decide<|y.1=k)=(lk l k).isSome:=by intro b;induction b with
 |nil=>exact rfl
 |cons y l c=>
  rw[Ar,m5,c];by_cases h:y.1=k;·rw[aq h,bQ h];rfl
  ·rw[ap h,dz h];rfl
def TV{b:Type}{K:Type}[DecidableEq K](f:b->K)(k:K){l:List b}:∀{j:Nat}{x:b},(l.map f).Nodup->l[j]? =aa x->f x=k->l.eraseIdx j=l.filter λy=>decide (f y≠k):=by induction l with|nil=>exact λg h=>aY h|cons y l c=>intro j x a h e;have a:=gD.mp a;cases j with|zero=>obtain rfl:=bo h;rw[NX (p:=λy=>decide<|f y≠k) λq=>cR q e];exact(N0.mpr λz d=>bQ (p:=f z≠k) λq=>a.1<|e.trans q.symm▸wV d).symm|succ j=>rw[NY (p:=λy=>decide<|f y≠k)<|bQ λq=>a.1<|q.trans e.symm▸wV (fF h)];exact aQ (wR y)<|c a.2 h e
theorem Kp(f:a->b):∀(l:List a)(j:Nat),(l.map f).eraseIdx j=(l.eraseIdx j).map f|[],j=>by simp|x::l,0=>by simp|x::l,j+1=>by simp[Kp f l j]
noncomputable def zP(a:List (K×ao×am))(k:K):List (K×ao×am):=a.filter λy=>decide<|y.1≠k
def HX(a:List (K×ao×am))(k x:K):jW (zP a k) x=if x=k then ae else jW a x:=Kf k x a
def Mw{Q:Option gP->az->Prop}(t:knd.room A)(u:knd.is s.heap k a)(z:s.heap.DictOfH knd d f)(g:jW f k=aa p)(B:∀e m,e.val=p.2->m.DictOfH knd d (zP f k)->gd d s.heap m->Q (aa e) {s with heap:=m,toks:=s.toks+knd.draws k})(C:f.length<=cN):aE (aN Y w) A (xf d<|.ref a) Q E s:=by
 refine v8 z λo n D c F b h v i=>?_;unfold xf;try with_reducible refine dS ?_
 refine aA<|knd.pyHash t u<|aA<|PT (s:={s with toks:=s.toks+knd.draws k}) t u c b h v i ?_ ?_;·intro G;rw[PB G]at g;exact aY g
 ·intro j q r;rw[atKey_of_get i r]at g;cases g;refine aA<|Hd (s:={s with toks:=s.toks+knd.draws k}) c b ?_;refine af (entry_at h j)<|af r ?_;refine aA<|Qc (hz:=by have e:=PM h;exact(ay (bf e) C)) (s:={s with toks:=s.toks+knd.draws k}) c b<|ba<|B _ _ rfl ⟨_,_,D+1,oT _ c<|Pk<|Bb b _,F.mapDictKeys _,Bb b _,?_,?_,?_⟩<|ka ..
  ·have H:(n.eraseIdxIfInBounds j).toList=n.toList.eraseIdx j:=by obtain⟨l⟩:=n;simp
   refine af H<|af h ?_;unfold zP;refine dh (TV (λy:K×ao×am=>y.1) k i r rfl) ?_;rw[Kp]
  ·intro x I;exact knd.keeps (v x (oN.mp I).1) c b<|ka ..
  ·exact aaT (aaS _ List.filter_sublist) i
def Yv(n:knd.room A)(i:knd.is s.heap k a)(z:s.heap.DictOfH knd d g)(B:∀p,jW g k=aa p->Q p.2 {s with toks:=s.toks+knd.draws k})(C:jW g k=ae->∀l,l.DictOfH knd d (g++[(k,a,v)])->gd d s.heap l->Q v {s with heap:=l,toks:=s.toks+knd.draws k})(D:g.length<=cN):aE (aN Y w) A (GO d (.ref a) v) Q E s:=by
 refine v8 z λo H F f G c h q m=>?_;unfold GO;try with_reducible refine dS ?_
 refine aA<|knd.pyHash n i<|aA<|PT (s:={s with toks:=s.toks+knd.draws k}) n i f c h q m ?_ ?_
 ·intro r;refine aA<|rz<|aA<|Qc (hz:=by have e:=PM h;exact(ay (bf e) D)) (s:={s with toks:=s.toks+knd.draws k}) f c<|ba<|C (PB r) _ ⟨_,_,F+1,oT _ f<|Pk<|Bb c _,G.mapDictKeys _,Bb c _,?_,?_,?_⟩<|ka ..;·simp[h,entryOfKey]
  ·intro x b;refine db (fi.mp b) (λb=>?_) λb=>?_;·exact knd.keeps (q x b) f c<|ka ..
   ·simp only[cP]at b;subst b;exact knd.keeps i f c<|ka ..
  ·refine af ja ?_;rw[s8];refine⟨m,by simp,?_⟩;intro x b y t;simp only[qV,Oh,cP]at t;subst t;exact λe=>(not_mem_keys_of_get r)<|e▸b
 ·intro j p u;exact aA<|Hd (s:={s with toks:=s.toks+knd.draws k}) f c<|af (entry_at h j)<|u.symm▸aA (rz<|ba<|B p<|atKey_of_get m u)
def MQ(a:List (K×am))(k x:K):jX (without a k) x=if x=k then ae else jX a x:=Kf k x a
end
theorem yQ{K:Type}[DecidableEq K]:∀{l L:List K},l.Nodup->(∀x∈l,x∈L)->l.length<=L.length|[],_,_,_=>da _|x::l,L,a,h=>by rw[gD]at a;have b:=h x<|bk ..;have:=yQ (L:=L.erase x) a.2 λy c=>(List.mem_erase_of_ne λe:y=x=>a.1<|e▸c).mpr<|h y<|bR _ c;rw[List.length_erase_of_mem b]at this;have:0<L.length:=EN b;exact jA<|aL ‹l.length<=_› (Nat.sub_lt this ON)
def IZ{K b:Type}[DecidableEq K]{m:K->Option V}{l:List (K×b)}(F:eW m)(c:(l.map (·.1)).Nodup)(e:∀k,m k=ae->lk l k=ae):l.length<cN:=by refine aB F λL d g=>aL ?_ d;refine dh (bq (f:=λx:K×b=>x.1))<|yQ c λk h=>g k λq=>?_;refine aB (cq.mp h) λx i j=>?_;subst j;have a:=Kd x.1 l;rw[e _ q,wQ.mpr<|aC x i<|bQ rfl]at a;exact dK a
def K7(e:fB b a h u o)(c:u=ae):o=ae:=by subst c;cases o with|none=>rfl|some _=>exact e.elim
def yq{K:Type}[DecidableEq K]{b:ao->Prop}{c:aX}{h:aO}{m:K->Option V}{a:List (K×am)}(F:eW m)(d:(a.map (·.1)).Nodup)(e:∀k,fB b c h (m k)<|jX a k):a.length<cN:=IZ F d λk q=>K7 (e k) q
def yn{K:Type}[DecidableEq K]{b:ao->Prop}{c:aX}{h:aO}{m:K->Option V}{a:List (K×ao×am)}(F:eW m)(d:(a.map (·.1)).Nodup)(e:∀k,fB b c h (m k)<|(jW a k).map (·.2)):a.length<cN:=IZ F d λk q=>s_.mp<|K7 (e k) q
def qC{K:Type}[DecidableEq K](m:K->Option V)(k:K)(v:Option V)(x:K):cD m k v x=if x=k then v else m x:=by
 delta cD;by_cases h:x=k;·exact(aq h).trans (aq h).symm
 ·exact(ap h).trans (ap h).symm
def KA{K:Type}[DecidableEq K](b:List (K×am))(k:K)(v:am)(x:K):jX (xK b k v) x=if x=k then aa v else jX b x:=by
 delta xK
 have a:=Kd k b
 cases q:b.any λy=>decide (y.1=k)with
 |true=>
  rw[q]at a
  refine af (aq rfl) ?_
  have g:=Kg id (λc:K×am=>if c.1=k then(c.1,v)else c) k v (λy=>by by_cases h:y.1=k;rw[aq h];rw[ap h]) (λy h=>by refine af (aq h) ?_;rfl) (λy h=>ap h) x b
  rw[Option.map_id,id,id]at g
  apply uK g
  by_cases h:x=k
  ·refine af (aq h)<|af (aq h) ?_;refine af h ?_
   cases d:lk b k with
   |none=>rw[d]at a;exact dK a
   |some _=>rfl
  ·refine af (ap h)<|af (ap h) ?_;rfl
 |false=>
  rw[q]at a
  exact af (ap dR)<|Ke k v x b<|AP.mp (by refine dh (Option.not_isSome ..) ?_;refine dh a ?_;rfl)
def Mh{K:Type}[DecidableEq K]{b:ao->Prop}{a:aX}{h:aO}{m:K->Option V}{c:List (K×am)}{k:K}{v:V}{x:am}(e:∀k,fB b a h (m k)<|jX c k)(ev:VR b a h v x):∀y,fB b a h (cD m k (aa v) y) (jX (xK c k x) y):=by
 intro y;rw[qC,KA];by_cases h:y=k;·rw[aq h,aq h];exact ev
 ·rw[ap h,ap h];exact e y
def HV(b:List (List cT×ao×am))(k:List cT)(a:ao)(v:am)(c:jW b k=ae)(x:List cT):(jW (b++[(k,a,v)]) x).map (·.2)=if x=k then aa v else(jW b x).map (·.2):=by
 refine af (show jW (b++[(k,a,v)]) x=_ from Ke k (a,v) x b c) ?_;by_cases h:x=k;·refine af (aq h)<|af (aq h) ?_;rfl
 ·refine af (ap h)<|af (ap h) ?_;rfl
def QR(b:List (List cT×ao×am))(k:List cT)(a:ao)(v:am)(x:List cT):(jW (storedH b k a v) x).map (·.2)=if x=k then aa v else(jW b x).map (·.2):=by cases c:jW b k with
 |none=>rw[storedH_new c];exact HV b k a v c x
 |some p=>
  rw[storedH_old c];refine(Kg (λy:ao×am=>y.2) (putAt k v) k v (λy=>?_) (λy h=>?_) (λy h=>ap h) x b).trans ?_
  ·delta putAt;by_cases h:y.1=k;·rw[aq h]
   ·rw[ap h]
  ·delta putAt;rw[aq h]
  by_cases h:x=k;·rw[aq h,aq h,h,show lk b k=aa p from c];rfl
  ·rw[ap h,ap h];rfl
section
def iM(C:Ctx)(X:ao->Prop)(φ:aX)(s:az)(q:St->Prop)(a:az):Prop:=∃b c,Step (λd=>False) φ s b a/\bA C X b c a.heap/\q c
variable{X:ao->Prop}
theorem iM.e(R:bA C X φ σ s.heap)(c:φ r=aa p)(k:∀a o,s.heap.get? a=aa o->a≠p.1->a≠p.2->b.get? a=aa o)(f:s.heap.objs.size<=b.objs.size)(g:dx (aM X φ) φ s.heap (aM X φ) φ b->OR C (aM X φ) φ b o p)(h:q (bi σ r o))(i:Nat):iM C X φ s q {s with heap:=b,toks:=i}:=by exact cj (R.a1 c k f g) λj l=>(cp φ (bi σ r o) (⟨λa o e n d=>k a o e (λq=>n ⟨r,p,c,.inl q⟩) λq=>n ⟨r,p,c,.inr q⟩,λd d e=>e,λd q=>.inl q,f,rfl,rfl,rfl⟩) j h)
def tG{K:Type}[DecidableEq K]{c:eD}{w:dp}{d:rd c w K}{h:aO}{a:ao}{kvs:List (K×am)}(e:h.DictOf d a kvs):(kvs.map (·.1)).Nodup:=by exact v8 e λb b b b b b b b f=>f
def yh{K:Type}[DecidableEq K]{c:eD}{w:dp}{d:xg c w K}{h:aO}{a:ao}{xs:List (K×ao×am)}(e:h.DictOfH d a xs):(xs.map (·.1)).Nodup:=by exact v8 e λb b b b b b b b f=>f
def fB.g [Decidable c]{o e:Option am}(f:fB b φ h u o)(g:fB b φ h d e):fB b φ h (if c then u else d) (if c then o else e):=by
 by_cases a:c;·rw[aq a,aq a];exact f
 ·rw[ap a,ap a];exact g
def lF{p:ao×ao}(c:gd p.1 h b):(∀a o,h.get? a=aa o->a≠p.1->a≠p.2->b.get? a=aa o)/\h.objs.size<=b.objs.size:=⟨λa d e n d=>(c.2 a n).trans e,bf c.1.symm⟩
def CT{h:aO}{a:ao}{b:Array am}{k:Nat}(e:h.get? a=aa (im b k))(f:Array am->Array am):∃j,(h.update a<|mM f).get? a=aa (im (f b) j):=⟨_,oT _ e rfl⟩
def bd.Y{h:aO}(ev:VR b φ h v x):∀{a:List am}(i:Nat),bd b φ h l a->bd b φ h (l.set i v) (a.set i x):=by induction l with|nil=>exact λi e=>(show _=[]from e)▸rfl|cons u l d=>refine λi e=>dA e λy f h g c=>?_;cases i with|zero=>exact h▸cp x f rfl ev c|succ i=>exact h▸cp y _ rfl g (d i c)
def bd.U{b:ao->Prop}{φ:aX}{h:aO}{a:List V}{xs:Array am}(e:bd b φ h a xs.toList){v:V}{x:am}(ev:VR b φ h v x)(i:Nat):bd b φ h (a.set i v) (xs.setIfInBounds i x).toList:=by exact af M8<|bd.Y ev i e
def YC(R:bA C X φ σ s.heap)(n:φ r=aa p)(b:s.heap.get? p.1=aa (im a j))(e:bd (aM X φ) φ s.heap l a.toList){i:Int}(ev:VR (aM X φ) φ s.heap v z){q:St->Prop}
  (c:0<=i)(f:i.toNat<l.length)(u:l.length<2^62)(w:q (bi σ r<|.e<|l.set i.toNat v)):aE (aN C.e C.w) A (setItem (.ref p.1) (.int i t) z) (λg y=>iM C X φ s q y) (λg g=>False) s:=by
 have d:s.heap.IsList p.1 a:=(gT _ b rfl j rfl)
 unfold setItem
 try with_reducible refine dS ?_
 refine aA<|P9 d.typeIs (by decide) ?_
 refine aA (Ha (name:=kj "__setitem__") d.typeIs PN
  (mQ PN d.typeIs entry_list_setitem ?_<|args_list_setitem _ _ _))
 show aE _ _ (Fn (.int i t)>>=_) _ _ s
 refine aA<|wpAny_listSubscript_int (fitsIndex_of c<|yC<|(sS c).mp<|bj f u) ?_
 obtain⟨m,rfl⟩:=Nv c
 have B:m<a.size:=e.f▸f
 have D:a[m]? =aa a[m]:=oA B
 show aE _ _ ((seqItemAt p.1 m>>=λr=>pure<|r.map (m, ·))>>=_) _ _ s
 refine aA<|aA<|wpAny_seqItemAt b rfl<|ba ?_
 refine af D ?_
 show aE _ _ (setSeqItemAt p.1 m z>>=_) _ _ s
 obtain⟨F,G⟩:=CT b (·.setIfInBounds m z)
 refine aA<|wpAny_setSeqItemAt b rfl ?_
 refine cj (lF (p:=p)<|ka s.heap p.1<|mM λx=>x.setIfInBounds m z) λH I=>?_
 have h:=iM.e (o:=.e<|l.set m v) R n H I (λk=>(c_ _ F G<|bd.U (bd.e k _ _ e) (VR.e k _ _ ev) m)) w s.toks
 first
  |exact aA<|ba<|ba ⟨.none,rfl,ba h⟩
  |exact ba ⟨.none,rfl,ba h⟩
def YE(G:eN A n)(R:bA C X φ σ s.heap){x y z:am}(Q:VR (aM X φ) φ s.heap o x)(H:VR (aM X φ) φ s.heap k y)(ev:VR (aM X φ) φ s.heap v z){q:St->Prop}(h:vu σ o k v q)(sm:kq σ o):aE (aN C.e C.w) A (setItem x y z) (λM U=>iM C X φ s q U) (λM M=>False) s:=by obtain⟨r,rfl,h⟩:=h;have sm:Lake.O.q (aT σ r) True _ _ _ _ _:=sm;cases I:aT σ r with
 |none=>rw[I]at h;exact h.elim
 |some o=>
  rw[I]at h sm;refine aB (R.q I) λp l g=>?_;obtain rfl:=qF l Q;cases o<;>first|exact h.elim|skip
  ·obtain⟨i,rfl,W,Y,f⟩:=qN.e h;refine fq g λxs j b c=>?_;obtain⟨t,rfl⟩:=H;exact YC R l b c ev W Y sm f
  ·obtain⟨i,rfl,m,f⟩:=qN.e h;obtain⟨ag,b,c⟩:=g;obtain⟨t,rfl⟩:=H;have J:=tG b;refine P_ (mP _ _ i t) b (λN w B=>?_)<|bu<|yq m J c;obtain⟨D,F⟩:=lF (p:=p) B;exact iM.e (o:=.f _) R l D F (λd=>(aC _ w<|Mh (λk=>(c k).e d)<|VR.e d _ _ ev)) f _
  ·obtain⟨i,rfl,m,f⟩:=zO.e h;obtain⟨ag,b,c⟩:=g;obtain⟨t,rfl⟩:=H;have J:=tG b;refine P_ (G8 _ _ i t) b (λN w B=>?_)<|bu<|yq m J c;obtain⟨D,F⟩:=lF (p:=p) B;exact iM.e (o:=.h _) R l D F (λd=>(aC _ w<|Mh (λk=>(c k).e d)<|VR.e d _ _ ev)) f _
  ·refine cz h λks L m f=>cz g λxs b c P=>cz (VR.g (C:=C) L H) λa an nb L=>?_;subst an;refine wpAny_setItem_heap (sE G.f) L b (λN w B=>?_)<|bu<|yn m (yh b) P;refine cj (lF (p:=p) B) λD F=>iM.e (o:=.p _) R l D F (λd=>(bV _ w (λx hx=>?_) λy=>?_)) f _
   ·rcases abi hx with⟨u,hu,_,e⟩|⟨_,e⟩;·exact e.symm▸c u hu
    ·exact e.symm▸nb
   ·exact af (qC ..)<|af (QR ..)<|fB.g (VR.e d _ _ ev)<|(P y).e d
def Wu{f:eD}{w:dp}{K:Type}[DecidableEq K]{knd:xg f w K}{d a:ao}{c:List (K×ao×am)}{k:K}{p:ao×am}(i:c.length<=cN)(j:jW c k=aa p):MeetsIn f w (Builtin.«dict.__delitem__» ⟨[.ref d,.ref a],[]⟩) (λA R s=>knd.room A.in1/\knd.is s.heap k a/\s.heap.DictOfH knd d c/\∀b,b.DictOfH knd d (zP c k)->gd d s.heap b->R (.ok<|.ret .none) {s with heap:=b,toks:=s.toks+knd.draws k}):=.of_wp λA R s⟨l,m,g,h⟩=>by unfold Builtin.«dict.__delitem__»;apply aA;unfold abz;refine aA<|BG g.typeIs ?_;show aE _ _ (pure (Bf d,Bf a)) _ _ s;apply ba;show aE _ _ (xf d (.ref a)>>=_) _ _ s;exact aA<|Mw l m g j (λe b q n o=>(aA<|BE<|ba<|aC (.none) rfl<|h b n o)) i
def Ts(G:eN A n)(R:bA C X φ σ s.heap){x y:am}(Q:VR (aM X φ) φ s.heap o x)(J:VR (aM X φ) φ s.heap k y){q:St->Prop}(h:uF σ o k q):aE (aN C.e C.w) A (delItem x y) (λL U=>iM C X φ s q U) (λL L=>False) s:=by obtain⟨r,rfl,h⟩:=h;cases e:aT σ r with
 |none=>rw[e]at h;exact h.elim
 |some o=>
  rw[e]at h;refine aB (R.q e) λp f g=>?_;obtain rfl:=qF f Q;cases o<;>first|exact h.elim|skip
  ·refine yW (qN.e h) λi j l m v=>?_;subst j;refine aB g λM b c=>?_;obtain⟨t,rfl⟩:=J;have W:=tG b;have d:(jX M i).isSome=true:=(c i).f▸AQ.mpr l;refine Hc b.typeIs (by decide) F.slot_dict_delitem<|GL F.slot_dict_delitem b.typeIs F.entry_dict_delitem (F.args_dict_delitem_2 _ _) (meets_dict_delitem_pairs (mO C.e C.w) p.1<|mP _ _ i t)<|vP M b (bu<|yq m W c) d λY w d=>?_;refine cj (lF (p:=p) d) λz B=>iM.e (o:=.f _) R f z B (λD=>(aC _ w λy=>?_)) v _;exact af (qC ..)<|af (MQ ..)<|fB.g (u:=ae) (o:=ae) trivial<|(c y).e D
  ·refine yW h λN H l m v=>cz g λxs b c I=>cz (VR.g (C:=C) H J) λa j nb H=>?_;subst j;refine aV (show∃P,jW xs N=aa P from xb.mp<|OW.symm.trans<|(I N).f.symm.trans<|AQ.mpr l) λP ha=>?_;refine Hc b.typeIs (by decide) F.slot_dict_delitem<|GL F.slot_dict_delitem b.typeIs F.entry_dict_delitem (F.args_dict_delitem_2 _ _) (Wu (knd:=tupK C) (bu<|yn m (yh b) I) ha)<|ij (sE G.f) H b λY w d=>?_;refine cj (lF (p:=p) d) λz B=>iM.e (o:=.p _) R f z B (λD=>(bV _ w (λx hx=>c x (oN.mp hx).1) λy=>?_)) v _;refine af (qC ..)<|af (HX ..) ?_;rw[apply_ite (dZ λx:ao×am=>x.2)];exact fB.g (u:=ae) (o:=ae) trivial<|(I y).e D
end
section
def Vm(a m:Nat)(f:am×Nat->Option am):∀(l:List am)(j:Nat),(∀x k,k<j+l.length->f (x,k)=if k<a then aa x else ae)->(l.zipIdx j).filterMap f=l.take (a-j):=by intro d;induction d with
 |nil=>intro j _;simp
 |cons x l e=>
  intro j b;refine af List.zipIdx_cons<|af wS ?_;refine af (b x j<|by simp) ?_;have c:=e (j+1) λx k g=>b x k (by rwa [iu,<-AM]);refine db (iG<|j<a) (λh=>?_) λh=>?_;·refine af (aq h)<|af (OU<|OQ h).symm ?_;refine af List.take_succ_cons ?_;exact aQ (wR x) c
  ·refine af (ap h)<|af c ?_;refine af (aQ (λn=>l.take n)<|OP<|mH<|jb h)<|af (OP<|jb h) ?_;rfl
def Wp(e:F a=b):mM F (im a k)=im b (if b.size==a.size then k else k+1):=by subst e;rfl
section
variable{E:am->az->Prop}
def Tr{k a:Nat}{R:rf->az->Prop}(n:s.heap.get? l=aa (im b k))(C:s.heap.IsSliceOf d (.int a u) .none .none)(t:b.size<=cN)(h:∀o j,o.get? l=aa (im (b.toList.take a).toArray j)->gd l s.heap o->R (.ok<|.ret .none) {s with heap:=o}):aE (aN Y w) A (Builtin.«list.__delitem__» ⟨[.ref l,.ref d],[]⟩) (λD p=>∃v,D=.done (.ret v)/\R (.ok<|.ret v) p) (λe p=>R (.error e) p) s:=by
 refine cz (id C) λos g F r=>?_;have y:s.TypeIs (.ref d) "slice":=(aC os g F);unfold Builtin.«list.__delitem__»;show aE _ _ (Fn (.ref d)>>=_) _ _ s;refine aA ?_;unfold Fn;refine aA<|xL y slice_no_index ?_;refine ba<|aA<|to y ?_;refine af (ap<|by decide) ?_;refine af (listSliceParts_eq ..)<|aA<|aA<|vm g r (x:=.none) rfl<|aA<|Hh .none ?_;refine af (ap<|by decide) ?_;refine aA<|vm g r (x:=.int a u) rfl<|aA<|Hh (.int _ _) ?_;refine aA<|vm g r (x:=.none) rfl<|aA<|Hh .none<|ba ?_;refine aA (m:=O8<|.ref l) ?_;unfold O8;refine aA<|BJ n rfl<|ba ?_;refine aA<|BH (sliceIndices_raw (aa (a:Int)) ae ae b.size<|by decide) ?_;refine af (sliceBounds_plain ..)<|aA<|rz ?_;refine aA (m:=O' (.ref l) _) ?_;unfold O';have z:∀f:am×Nat->Option am,(∀x k,k<b.size->f (x,k)=if k<a then aa x else ae)->b.toList.zipIdx.filterMap f=b.toList.take a:=λf G=>by simpa using(Vm a 0 f b.toList 0 λx k c=>G x k<|by simpa using c)
 have B:∀(x:am)(k:Nat),k<b.size->(if(if(1:Int)>0 then decide (((((aa (a:Int)).elim 0 (rj b.size):Nat):Int))<=(k:Int))&&decide ((k:Int)<(((ae:Option Int).elim b.size (rj b.size):Nat):Int))&&(((k:Int)-(((aa (a:Int)).elim 0 (rj b.size):Nat):Int))%1==0)else decide ((((ae:Option Int).elim b.size (rj b.size):Nat):Int)<(k:Int))&&decide ((k:Int)<=(((aa (a:Int)).elim 0 (rj b.size):Nat):Int))&&(((((aa (a:Int)).elim 0 (rj b.size):Nat):Int)-(k:Int))%(-1)==0))=true then ae else aa x)=if k<a then aa x else ae:=by
  intro x k c;refine af ((show(aa (a:Int)).elim 0 (rj b.size)=min a b.size from clipAt_nat _ _))<|af ((show(ae:Option Int).elim b.size (rj b.size)=b.size from rfl)) ?_;simp only[show(1:Int)>0 from od,if_true];by_cases i:k<a;·refine af (aq i) ?_;rw[ap];intro q;simp only[kK,decide_eq_true_eq]at q;exact AI (Nat.lt_min.mpr ⟨i,c⟩)<|kP.mp q.1.1
  ·refine af (ap i) ?_;rw[aq];simp only[kK,decide_eq_true_eq,beq_iff_eq];exact⟨⟨kP.mpr<|ay (lQ ..)<|jb i,hH.mpr c⟩,Int.emod_one _⟩
 refine Hk n rfl ?_ t ?_;·refine aA<|BE<|ba<|aC (.none) rfl ?_;refine h _ _ ((oT _ n rfl).trans<|aQ aa<|Wp<|aQ s9<|z _ λx k c=>?_)<|ka ..;exact B x k c
 ·apply ay<|bf<|aQ (λl:List am=>l.toArray.size)<|z _ λx k c=>B x k c;simp only[pI,uV,gL];exact(ay (ay (u7 ..) t) bl)
end
variable{X:ao->Prop}
def Tq(R:bA C X φ σ s.heap){i:Int}(B:VR (aM X φ) φ s.heap (.f r) x)(D:aT σ r=aa (.e l))(G:VR (aM X φ) φ s.heap (.e i) y)(H:0<=i)(I:l.length<2^24)(J:s.heap.get? m=aa ⟨.type "slice",ae,.fields #[y,.none,.none],#[]⟩){q:St->Prop}(L:q (bi σ r<|.e<|l.take i.toNat)):aE (aN C.e C.w) A (delItem x<|.ref m) (λb c=>iM C X φ s q c) (λb b=>False) s:=by
 refine aB B λp n M=>?_;subst M;obtain⟨u,rfl⟩:=G;obtain⟨p',t,xs,j,e,f⟩:=R.q D;rw[n]at t;cases t;have w:=f.h;have N:=gL (xs:=xs);have sz:cN=16777216:=rfl;have P:((i.toNat:Nat):Int)=i:=uR H;have Q:bd (aM X φ) φ s.heap (l.take i.toNat) (xs.toList.take i.toNat):=by
  rw[o0]at f⊢;refine⟨by simp[w],λj v z d g=>?_⟩;rw[N8]at d g;split at d;·rename_i k;rw[aq k]at g;exact f.2 j v z d g
  ·exact aY d
 refine Hc (T:="list") ⟨_,e,rfl⟩ (rfl) F.slot_list_delitem<|mQ F.slot_list_delitem ⟨_,e,rfl⟩ F.entry_list_delitem ?_<|F.args_list_delitem_2 _ _;refine cE (Tr (a:=i.toNat) (u:=u) (R:=λr c=>match r with|.ok (.ret v)=>iM C X φ s q c|_=>False) e (bV _ J rfl<|by rw[P]) (by exact(bu<|aL (ay (bf N.symm)<|bf w.symm) I)) λh' U k W=>?_) (λaS c h=>?_) λb b h=>h;·obtain⟨k1,k2⟩:=lF (p:=p) W;exact iM.e (o:=.e _) R n k1 k2 (λov=>(c_ _ U k<|bd.e ov _ _ Q)) L _
 ·exact h
end
section
structure wB(K:fk)(k:lJ):Prop where
 e:plainGet K k.e xl=true
 h:hasDictIn K k.e=true
 t:plainOver K k.e=true
 y:lV K (.ref k.e) "__setattr__"=aa (aa<|.builtin "object.__setattr__")
 g:∀f∈k.f,lV K (.ref k.e) f=aa ae
 p:k.f.Nodup
 q:k.f.length<=100
def yD(f a:ah)(t:jV):(GA f t).isStr a=decide (f=a):=by
 show(f==a)=_;by_cases h:f=a;·subst h;simp
 ·rw[dz h];exact lp.mpr h
def Ll{e:gP}{f:ah}{t:jV}(k:e.key=.str f t):e.refKey=false:=by delta DictEntry.refKey;rw[k]
def Uz(k:e.key=.str f t):pS f (e::a)=aa (aa e.val):=by delta pS;rw[List.find?_cons_of_pos (p:=λx:gP=>x.key.isStr f)<|show e.key.isStr f=true from k▸(yD ..).trans (bQ rfl)]
def Jn{e:gP}{b:List gP}{f a:ah}{t:jV}(k:e.key=.str f t)(c:f≠a):pS a (e::b)=pS a b:=by delta pS;rw[List.find?_cons_of_neg (p:=λx:gP=>x.key.isStr a)<|show¬e.key.isStr a=true from k▸λq=>c<|cR<|(yD ..).symm.trans q,Ar,Ll k];rfl
theorem eY.h{b:ao->Prop}{φ:aX}{h:aO}{d:List gP}{c:List ah}{i:List V}{a:Nat}{l:ah}{v:V}(r:eY b φ h d c i)(m:c.Nodup)(j:c[a]? =aa l)(g:i[a]? =aa v):∃x,pS l d=aa (aa x)/\VR b φ h v x:=by refine eY.e (R:=λd c i=>∀a:Nat,c.Nodup->c[a]? =aa l->i[a]? =aa v->∃x,pS l d=aa (aa x)/\VR b φ h v x) (λc a n n g=>aY g) (λe d f c u i t k w n o a m j g=>?_) d r a m j g;cases a with|zero=>exact bo j▸bo g▸aC e.val (Uz k) w|succ a=>exact aB (o a (gD.mp m).2 j g) λx p s=>aC x ((Jn k λq=>(gD.mp m).1 (q▸fF j)).trans p) s
def eY.q{b:ao->Prop}{h:aO}(r:eY b φ h a c d):a.any (·.refKey)=false:=eY.e (R:=λa c d=>a.any (·.refKey)=false) (λc=>rfl) (λe a f c u d t k w i g=>by rw[Ar,g,Ll k];rfl) a r
def eY.g{h:aO}(r:eY b φ h a c i)(g:d∉c):pS d a=aa ae:=eY.e (R:=λa c i=>d∉c->pS d a=aa ae) (λc j=>rfl) (λe a f c u i t k w j l g=>(Jn k λq=>g<|q▸bk).trans<|l λq=>g<|bR _ q) a r g
def eY.p{h:aO}(r:eY b φ h a c vs):a.length=vs.length/\vs.length<=c.length:=eY.e (R:=λa c vs=>a.length=vs.length/\vs.length<=c.length) (λc=>⟨rfl,da _⟩) (λe a f c u vs t k w g d=>⟨aQ (·+1) d.1,eM d.2⟩) a r
theorem eY.t{h:aO}{o:Int}{t:jV}(ev:VR b φ h v x){g:List V}(r:eY b φ h i c g)(m:c.Nodup)(j:c[a]? =aa d)(l:a<=g.length):eY b φ h (putL d o (.str d t) x i) c (jo g a v):=by
 refine eY.e (R:=λi c g=>∀a:Nat,c.Nodup->c[a]? =aa d->a<=g.length->eY b φ h (putL d o (.str d t) x i) c (jo g a v)) (λc a A j l=>?_) (λe i f c u g p k w r s a m j l=>?_) i r a m j l
 ·cases c with
  |nil=>exact aY j
  |cons f c=>
   obtain rfl:a=0:=E4.mp l
   exact⟨⟨t,aQ (GA · t) (bo j).symm⟩,ev,trivial⟩
 ·show eY b φ h (if e.key.isStr d then⟨e.hash,e.key,x⟩::i else e::putL d o (.str d t) x i) _ _
  cases a with
  |zero=>
   have q:f=d:=bo j
   exact af (aq<|k▸(yD ..).trans (bQ q)) ⟨⟨p,k⟩,ev,r⟩
  |succ a=>
   have q:f≠d:=λq=>(gD.mp m).1 (q▸fF j)
   have y:jo (u::g) (a+1) v=u::jo g a v:=by
    delta jo
    by_cases n:a<g.length
    ·exact(aq<|jS n).trans<|aQ (wR u) (aq n).symm
    ·exact(ap λq=>n<|E6 q).trans<|aQ (wR u) (ap n).symm
   exact y▸af (ap<|k▸λz=>q<|cR<|(yD ..).symm.trans z) ⟨⟨p,k⟩,w,s a (gD.mp m).2 j (OH l)⟩
def XU(b:ah)(d:Int)(k v:am)(a:List gP):(putL b d k v a).length<=a.length+1:=by induction a with|nil=>exact bb _|cons e a f=>exact fO (motive:=λl:List gP=>l.length<=a.length+1+1) (λc=>eC _) λc=>eM f
def UF(e:VR b φ h v x)(k:∀w,v≠.F w):handedIn x=true:=by cases v with|t=>exact(show x=.none from e)▸rfl|q=>exact e.elim|g c=>exact(show x=.bool c from e)▸rfl|e i=>exact aV e λt h=>h▸rfl|p i=>exact aV e λt h=>h▸rfl|h l=>exact C6 e λa m n h d=>h▸rfl|y l=>exact C6 e λa m n h d=>h▸rfl|L i j=>exact aB e λa h d=>h▸rfl|N l=>exact W7 e λa o s t h d=>h▸rfl|f r=>exact aB e λp d h=>h▸rfl|F w=>exact aD rfl<|k w
variable{X:ao->Prop}
def vS{p:ao×ao}(c:h.get? p.1=aa (ix a p.2))(d:h.get? p.2=aa (xq b m)):PySem.W.InstAt h p.1 (ix a p.2) a (aa<|xq b m):=⟨c,rfl,rfl,d⟩
def QV(O:lK C)(R:bA C X φ σ s.heap){r:br}{c e:Nat}{f:List V}{v:V}{k:lJ}{b:ah}{x:am}{j:Bool}{Q:V->St->Prop}(l:C.h c=aa k)(a:wB C.K k)(g:k.f[e]? =aa b)(n:VR (aM X φ) φ s.heap (.f r) x)(o:aT σ r=aa (.g c f))(t:f[e]? =aa v)(u:∀w,v≠.F w)(q:Q v σ):aE (aN C.e C.w) A (getAttr x b j) (a_ C X φ s Q) (λz z=>False) s:=by refine aB n λp B D=>?_;subst D;obtain⟨J,h,L,M,m,d,F,G,N,H⟩:=R.q o;rw[B]at h;cases h;replace d:=l▸d;cases d;refine aB (H.h a.p g t) λy I i=>?_;refine get_value (R.K O) (vS F G) (GD a.e).1 (findObj_own a.h (a.g b<|fF g) rfl<|by refine af (lookIn_dict ..) ?_;exact I) (UF i u) ?_;exact a_.e R i q _
def YF(O:lK C)(R:bA C X φ σ s.heap)(B:C.h c=aa k)(f:wB C.K k)(D:k.f[h]? =aa d)(N:VR (aM X φ) φ s.heap (.f r) x)(P:VR (aM X φ) φ s.heap v y)(Q:aT σ r=aa (.g c i))(U:h<=i.length)(W:q (bi σ r<|.g c<|jo i h v)):aE (aN C.e C.w) A (setAttr x d y) (λl Y=>iM C X φ s q Y) (λl l=>False) s:=by
 refine aB N λp F ac=>?_;subst ac;obtain⟨p',G,k',g,m,n,t,j,H,u⟩:=R.q Q;rw[F]at G;cases G;replace n:=B▸n;cases n;have I:=vS t j;refine set_plain (R.K O) I f.y ?_;refine osa_open (s:={s with toks:=s.toks+1}) (R.K O) I f.t (by unfold takerIn;refine af ((f.g d<|fF D)) ?_;rfl) λb=>?_;refine aB (any_some f.h) λcd hc au=>?_;have LC:Looks (aN C.e C.w) ({s with toks:=s.toks+1}:az).heap (classData k.e) cd:=looks_clsIn (R.K O) hc;refine aA<|ba<|aA<|aA<|wpAny_loadPart t<|aA<|LC.here ?_;refine af au<|ba (a:=aa p.2)<|aA<|ba<|aA ?_;unfold nsSet;refine aA<|aA<|BA<|ba<|aA<|wpAny_mkText<|aA<|wpAny_loadPart j ?_;dsimp only;refine af (aRefKeyMayBeTheName_at ..) ?_;refine af ((show(!g.toArray.any (·.key.isStr d)&&g.toArray.any (·.refKey))=false from by simpa using(show(!g.any (·.key.isStr d)&&g.any (·.refKey))=false from by rw[u.q,DN]))) ?_;refine wpAny_updatePart j ?_;have J:=putName_dict d (Bc C.w.params d) (.str d<|s.toks+1) y g m;have w:=oT (Pm d (Bc C.w.params d) (.str d<|s.toks+1) y) j (by refine af J ?_;rfl);rw[J]at w;have L:=u.p;have av:=f.q;refine aA<|wpAny_lookBehind w (pastItsLine_dict ?_) ?_;·have:=XU d (Bc C.w.params d) (.str d<|s.toks+1) y g;exact af pI<|af bX<|ay this<|eM<|ay (bf L.1)<|ay L.2<|ay av bl
 ·apply ba;have z:=ka s.heap p.2<|Pm d (Bc C.w.params d) (.str d<|s.toks+1) y;exact iM.e (o:=.g c<|jo i h v) R F (λa o e l n2=>(z.2 a n2).trans e) (bf z.1.symm) (λM=>(m0 k _ _ B ((z.2 p.1 H).trans t) w H<|eY.t (VR.e M _ _ P) (u.f M) f.p D U)) W _
end
section
structure cL(C:Ctx):Prop where
 g:C.p 0=.F (.type "enumerate")
 p:C.p 1=.F (.builtin "sorted")
 h:C.p 2=.F (.type "set")
 e:lK C
 f:∀c k,C.h c=aa k->wB C.K k
structure dQ(C:Ctx)(n:Nat)(A:bU)(X:ao->Prop)(Y:cZ)(cx:Cx)(φ:aX)(σ:St)(s:az)(m:List V):Prop where
 h:eN A n
 f:uJ C.f.objs.size X Y
 p:Y.scope=cx.e
 e:bA C X φ σ s.heap
 q:u0 (aM X φ) φ s.heap cx Y m
abbrev F0:ao->Prop:=λa=>False
abbrev bx:am->az->Prop:=λa a=>False
noncomputable def q8(C:Ctx)(X:ao->Prop)(φ:aX)(s:az)(Q:Bool->St->Prop)(c:Bool)(a:az):Prop:=∃b d,Step F0 φ s b a/\bA C X b d a.heap/\Q c d
def Fa(C:Ctx)(X:ao->Prop)(φ:aX)(s:az)(k:Nat)(Q:List V->St->Prop)(c:List am)(b:az):Prop:=∃a d e,Step F0 φ s a b/\bA C X a d b.heap/\bd (aM X a) a b.heap e c/\c.length=k/\Q e d
variable{C:Ctx}{n:Nat}{A:bU}{X:ao->Prop}{Y:cZ}{cx:Cx}{φ:aX}{σ:St}{s:az}{m:List V}
def dQ.t(S:dQ C n A X Y cx φ σ s m)(st:Step F0 φ s a b)(R:bA C X a c b.heap):dQ C n A X Y cx a c b m:=⟨S.h,S.f,S.p,R,S.q.e S.e S.f st⟩
def q8.e(st:Step F0 φ s φ' s')(p:q8 C X φ' s' Q c t):q8 C X φ s Q c t:=by exact dA p λe σ a b d=>(cp e σ (st.e a) b d)
def dQ.g(S:dQ C n A X Y cx φ σ s m){t:d8 am}(h:aE (aN C.e C.w) A t (a_ C X φ s R) bx s)(k:∀f i mv v g,dQ C n A X Y cx f i g m->Step F0 φ s f g->VR (aM X f) f g.heap mv v->R mv i->P v g):aE (aN C.e C.w) A t P bx s:=cE h (λv g p=>by refine fJ p λf i mv a b c d=>?_;exact k f i mv v g (S.t a b) a c d) λj j e=>e
def dQ.y(S:dQ C n A X Y cx φ σ s m){t:d8 Bool}(h:aE (aN C.e C.w) A t (q8 C X φ s R) bx s)(k:∀f g v c,dQ C n A X Y cx f g c m->Step F0 φ s f c->R v g->P v c):aE (aN C.e C.w) A t P bx s:=cE h (λv c p=>by refine dA p λf g a b d=>?_;exact k f g v c (S.t a b) a d) λi i e=>e
def dQ.F(S:dQ C n A X Y cx φ σ s m){t:d8 (List am)}(h:aE (aN C.e C.w) A t (Fa C X φ s l R) bx s)(k:∀f i j o g,dQ C n A X Y cx f i g m->Step F0 φ s f g->bd (aM X f) f g.heap j o->o.length=l->R j i->P o g):aE (aN C.e C.w) A t P bx s:=cE h (λv g p=>by refine se p λf i j a b c e d=>?_;exact k f i j v g (S.t a b) a c e d) λq q e=>e
def jZ(st:Step F0 φ s c a)(h:aE (aN C.e C.w) A t (a_ C X c a Q) bx a):aE (aN C.e C.w) A t (a_ C X φ s Q) bx a:=cE h (λb b p=>p.q st) λb b e=>e
def HJ(st:Step F0 φ s c a)(h:aE (aN C.e C.w) A t (q8 C X c a Q) bx a):aE (aN C.e C.w) A t (q8 C X φ s Q) bx a:=cE h (λb b p=>p.e st) λb b e=>e
def bP(C:Ctx)(n:Nat)(e:E)(a:ax)(cx:Cx):Prop:=∀{A X Y φ σ s m Q},dQ C n A X Y cx φ σ s m->aF C n e m σ Q->aE (aN C.e C.w) A (fY a Y) (a_ C X φ s Q) bx s
def gG(C:Ctx)(n:Nat)(e:E)(a:ax)(cx:Cx):Prop:=∀{A X Y φ σ s m}{Q:Bool->St->Prop},dQ C n A X Y cx φ σ s m->aF C n e m σ (λv σ=>∃c,v=.g c/\Q c σ)->aE (aN C.e C.w) A (xB a Y<|fY a Y) (q8 C X φ s Q) bx s
def mU(C:Ctx)(n:Nat)(b:Es)(a:List ax)(cx:Cx):Prop:=∀{A X Y φ σ s m Q}{c:bv},dQ C n A X Y cx φ σ s m->eK C n b m σ Q->aE (aN C.e C.w) A (Bw<|lW c<|km a Y) (Fa C X φ s a.length Q) bx s
def qK{b:ao->Prop}{Q:Bool->az->Prop}(e:VR b φ h a v)(d:a=.g c)(q:Q c s):aE (aN C.e C.w) A (truthy v) Q bx s:=by subst d;subst e;exact Qb q
theorem gG.e{e:E}{a:ax}(h:bP C n e a cx)(d:∀Y b,xB a Y b=(do let v<-b;rp a.pos;pU [v]<|truthy v)):gG C n e a cx:=by
 intro A X Y φ σ s m Q S w
 exact wpAny_isTrue_value (S.g (h S w) λf g k v l i st ev q=>aB q λc j q=>qK ev j<|cp f g st i.e q)<|d _ _
def Zr:bP C n .L (.Constant .none k a) cx:=λS w=>wpAny_Constant_none<|a_.e S.e (mv:=.t) rfl w _
def Y2:bP C n (.U b) (.Constant (.bool b) k a) cx:=λS w=>PP<|a_.e S.e (mv:=.g b) rfl w _
def Zh{i:Int}:bP C n (.p i) (.Constant (.int i) k a) cx:=λS w=>wpAny_Constant_int<|a_.e S.e (mv:=.e i) ⟨_,rfl⟩ w _
def Zy:bP C n (.y x) (.Constant (.str x) k a) cx:=λS w=>G9<|a_.e S.e (mv:=.p x) ⟨_,rfl⟩ w _
def Kj{rv:am}{Q:am->az->Prop}(V:uJ C.f.objs.size X Y)(B:sG Y s.heap x rv)(q:Q rv s):aE (aN C.e C.w) A (loadName Y x) Q bx s:=by
 rcases B with⟨a,M,e,f⟩|⟨a,c,b,d⟩;·exact P5 V.e a e f q
 ·rcases a with a|⟨a,g⟩;·exact wpAny_loadName_cell V.e a b d q
  ·exact P4 V.e a b d q g
def Zn(c:cx.f[i]? =aa (aa x))(d:(x==("__debug__":ah))=false):bP C n (.e i) (.Name x a) cx:=by intro A X Y φ σ s m Q S w;exact cz w λv e f q=>aB (S.q.2 i x v c e f) λrv b r=>wpAny_Name (Kj S.f b<|a_.e S.e r q s.toks) d
def Zf(O:cL C)(h:cx.e.names.lookup x=aa .globalImplicit)(i:C.q g=aa x)(j:(x==("__debug__":ah))=false):bP C n (.Y g) (.Name x f) cx:=by
 intro A X Y φ σ s m Q S w;refine se (O.e.e g x i) λt u rv d k b r v=>?_;have c:∀{a M},C.f.Ns a M->s.heap.Ns a M:=λl=>l.at' λo e=>S.e.g _ _ e;have p:a_ C X φ s Q rv s:=a_.e S.e (VR.t S.e r) w s.toks;refine Calls.Name_function_global S.f.e (by delta oS;refine af S.p ?_;exact h) ?_ j;rcases b with b|⟨b,q⟩;·exact Calls.loadGlobal_global (by refine af S.f.h ?_;exact c d) b p
 ·exact Pc (by refine af S.f.h ?_;exact c d) b (by exact S.f.p.symm▸c k) q p
def YW{a b:E}{ea eb:ax}{pos:bv}(ha:bP C n a ea cx)(hb:bP C n b eb cx)(m_:∀Y,fY (.BoolOp .And [eb] pos) Y=fY eb Y):bP C n (.k a b) (.BoolOp .And [ea,eb] pos) cx:=by intro A X Y φ σ s m Q S w;refine aaU<|S.g (ha S w) λφ' σ' mv v s' S' st ev q=>?_;refine aB q λc hc q=>qK ev hc ?_;cases c with|true=>exact af (m_ ..) (jZ st<|hb S' q)|false=>exact(dO φ' σ' _ st S'.e (hc▸ev) q)
def Zt{a b:E}{ea eb:ax}{pos:bv}(ha:bP C n a ea cx)(hb:bP C n b eb cx)(m_:∀Y,fY (.BoolOp .Or [eb] pos) Y=fY eb Y):bP C n (.c a b) (.BoolOp .Or [ea,eb] pos) cx:=by intro A X Y φ σ s m Q S w;refine aaV<|S.g (ha S w) λφ' σ' mv v s' S' st ev q=>?_;refine aB q λc hc q=>qK ev hc ?_;cases c with|true=>exact(dO φ' σ' _ st S'.e (hc▸ev) q)|false=>exact af (m_ ..)<|jZ st<|hb S' q
def YR{a b:E}{e f:ax}{k:bv}(l:gG C n a e cx)(o:gG C n b f cx):gG C n (.k a b) (.BoolOp .And [e,f] k) cx:=by intro A X Y φ σ s m Q S w;refine P2<|PR<|S.y (l S w) λp r c u d st q=>?_;cases c with
 |true=>refine PR<|d.y (o d q) λg h c v i j q=>?_;cases c with|true=>exact ba (cp g h (st.e j) i.e q)|false=>exact(cp g h (st.e j) i.e q)
 |false=>refine aB q λc t q=>?_;cases t;exact(cp p r st d.e q)
def YV{a b:E}{e f:ax}{k:bv}(l:gG C n a e cx)(o:gG C n b f cx):gG C n (.c a b) (.BoolOp .Or [e,f] k) cx:=by intro A X Y φ σ s m Q S w;refine P2<|PS<|S.y (l S w) λp r c u d st q=>?_;cases c with|true=>refine aB q λc t q=>?_;cases t;exact(cp p r st d.e q)|false=>refine PS<|d.y (o d q) λg h c v i j q=>?_;cases c with|true=>exact(cp g h (st.e j) i.e q)|false=>exact ba<|cp g h (st.e j) i.e q
def Zs{a:E}{ea:ax}{pos:bv}(ha:bP C n a ea cx):bP C n (.l a) (.UnaryOp .Not ea pos) cx:=by intro A X Y φ σ s m Q S w;refine wpAny_UnaryOp<|S.g (ha S w) λφ' σ' mv v s' S' st ev q=>?_;refine aB q λc hc q=>abn<|qK ev hc<|dO φ' σ' (.g<|!c) st S'.e rfl q
def YU{a:E}{b:ax}{f:bv}(g:gG C n a b cx):gG C n (.l a) (.UnaryOp .Not b f) cx:=by
 intro A X Y φ σ s m Q S w;refine wpAny_isTrue_Not<|S.y (g (Q:=λc σ=>Q (!c) σ) S ?_) λh i c l j st q=>(cp h i st j.e q);refine(show(λv(σ:St)=>∃c,v=V.g c/\∃d,V.g (!c)=.g d/\Q d σ)=(λv σ=>∃c,v=V.g c/\Q (!c) σ)from ?_)▸w;funext v σ;refine propext ⟨?_,?_⟩;·rintro⟨c,e,d,k,q⟩;cases k;exact⟨c,e,q⟩
 ·rintro⟨c,e,q⟩;exact⟨c,e,_,rfl,q⟩
def Y1(h:bP C n a c cx)(i:bP C n b d cx):bP C n (.J o a b) (.BinOp c (xS o) d g) cx:=by intro A X Y φ σ s m Q S w;exact wpAny_BinOp<|S.g (h S w) λl p r v t e st ev q=>(e.g (i e q) λx y mu u z j f k q=>jZ (st.e f)<|Sk j.e (VR.e (f.f λB q=>q.elim) _ _ ev) k q)
def Zp{a:E}{b:ax}{c:bv}(d:bP C n a b cx):bP C n (.u a) (.UnaryOp .USub b c) cx:=by intro A X Y φ σ s m Q S w;refine wpAny_UnaryOp<|S.g (d S w) λf g mv v h e st ev q=>?_;obtain⟨i,rfl,q⟩:=q;obtain⟨t,rfl⟩:=ev;exact abl<|a_.q st<|a_.e e.e (mv:=.e<|-i) ⟨_,rfl⟩ q _
def Zi{t a b:E}{d e f:ax}{h:bv}(i:gG C n t d cx)(j:bP C n a e cx)(k:bP C n b f cx):bP C n (.Z t a b) (.IfExp d e f h) cx:=by intro A X Y φ σ s m Q S w;refine wpAny_IfExp<|S.y (i S w) λl o c p g st q=>?_;cases c with|true=>exact jZ st (j g q)|false=>exact jZ st<|k g q
def Y4(O:cL C)(i:bP C n a d cx)(j:bP C n b c cx)(k:GH (gH o) c=false):bP C n (.t o a b) (.Compare d [gH o] [c] h) cx:=by intro A X Y φ σ s m Q S w;exact wpAny_Compare1 (S.g (i S w) λp r t v x e st ev q=>(e.g (j e q) λy z mu u B f g l q=>jZ (st.e g)<|tD O.e f.h f.e (VR.e (g.f λD q=>q.elim) _ _ ev) l q)) k
def YS(O:cL C){o:jP}{a b:E}{f d:ax}{i:bv}(j:bP C n a f cx)(k:bP C n b d cx)(l:GH (gH o) d=false):gG C n (.t o a b) (.Compare f [gH o] [d] i) cx:=by intro A X Y φ σ s m Q S w;exact wpAny_isTrue_Compare1 (S.g (j S w) λF G H v I g st ev q=>(g.g (k g q) λJ L mu u M e h p q=>e.g (tD O.e e.h e.e (VR.e (h.f λN q=>q.elim) _ _ ev) p q) λr t P x R y z B q=>aB q λc D q=>qK B D<|cp r t ((st.e h).e z) y.e q)) l
def Y5(O:cL C){o p:jP}{a b c:E}{ea eb ec:ax}{pos:bv}(ha:bP C n a ea cx)(hb:bP C n b eb cx)(hc:bP C n c ec cx)(hm:GU [gH o,gH p] [eb,ec]=false):bP C n (.o o p a b c) (.Compare ea [gH o,gH p] [eb,ec] pos) cx:=by intro A X Y φ σ s m Q S w;refine aaW (S.g (ha S w) λφ' σ' mv v s' S' st ev q=>?_) hm;refine aa5<|S'.g (hb S' q) λφ'' σ'' mu u s'' S'' st' eu q=>?_;refine S''.g (tD O.e S''.h S''.e (VR.e (st'.f λx_ q=>q.elim) _ _ ev) eu q) λφ3 σ3 mw x s3 S3 st3 ew q=>aB q λd hd q=>qK ew hd ?_;cases d with|false=>exact(dO φ3 σ3 _ ((st.e st').e st3) S3.e (hd▸ew) q)|true=>exact aa4<|S3.g (hc S3 q) λφ4 σ4 my y s4 S4 st4 ey q=>(jZ (((st.e st').e st3).e st4)<|tD O.e S4.h S4.e (VR.e (st4.f λx_ q=>q.elim) _ _<|VR.e (st3.f λx_ q=>q.elim) _ _ eu) ey q)
def YT(O:cL C){o p:jP}{a b c:E}{ea eb ec:ax}{pos:bv}(ha:bP C n a ea cx)(hb:bP C n b eb cx)(hc:bP C n c ec cx)(hm:GU [gH o,gH p] [eb,ec]=false):gG C n (.o o p a b c) (.Compare ea [gH o,gH p] [eb,ec] pos) cx:=by intro A X Y φ σ s m Q S w;refine aba (S.g (ha S w) λφ' σ' mv v s' S' st ev q=>?_) hm;refine abt<|S'.g (hb S' q) λφ'' σ'' mu u s'' S'' st' eu q=>?_;refine S''.g (tD O.e S''.h S''.e (VR.e (st'.f λx_ q=>q.elim) _ _ ev) eu q) λφ3 σ3 mw x s3 S3 st3 ew q=>aB q λd hd q=>qK ew hd ?_;cases d with|false=>refine aB q λc hc q=>?_;cases hc;exact(cp φ3 σ3 ((st.e st').e st3) S3.e q)|true=>exact abr<|S3.g (hc S3 q) λφ4 σ4 my y s4 S4 st4 ey q=>(S4.g (tD O.e S4.h S4.e (VR.e (st4.f λx_ q=>q.elim) _ _<|VR.e (st3.f λx_ q=>q.elim) _ _ eu) ey q) λφ5 σ5 mz z s5 S5 st5 ez q=>aB q λc hc q=>qK ez hc<|cp φ5 σ5 ((((st.e st').e st3).e st4).e st5) S5.e q)
noncomputable def gi(e:ax):Bool:=e.ctorIdx !=22
def ur(h:gi e=true)(a:List ax)(Y:cZ):km (e::a) Y=(false,fY e Y)::km a Y:=by cases e<;>first|rfl|exact dK (h:false=true)
def Zq:mU C n .f [] cx:=by intro A X Y φ σ s m Q a S w;exact Pd<|m0 φ σ ([]) (Step.T _ _ _) S.e rfl rfl w
def Y6{e:E}{b:Es}{a:ax}{c:List ax}(g:gi a=true)(h:bP C n e a cx)(i:mU C n b c cx):mU C n (.e e b) (a::c) cx:=by intro A X Y φ σ s m Q u S w;exact O3 (S.g (h S w) λx y j v z d st ev q=>(d.F (i d q) λk l o p B r f d_ t q=>(m0 k l (j::o) (st.e f) r.e ((cp v p rfl (VR.e (f.f λD q=>q.elim) _ _ ev) d_)) (by simp[t]) q)))<|ur g _ _
def Cm(h:k<=100):k<=cN:=ay h (by decide+kernel)
def ZB{b:Es}{a:List ax}{k:Nat}{c:bv}(h:mU C n b a cx)(d:a.length<=100):bP C n (.F b) (.Tuple a k c) cx:=by intro A X Y φ σ s m Q S w;exact aa1<|S.F (h S w) λg i j l o e st d_ f q=>(jZ st<|WQ e.e d_ (Cm<|f▸d) q)
def Zm(h:mU C n b a cx)(d:a.length<=100):bP C n (.N b) (.List a c) cx:=by intro A X Y φ σ s m Q S w;exact aa0<|S.F (h S w) λg i j k l e st d_ f q=>(jZ st<|WP e.e d_ (Cm<|f▸d) q)
noncomputable def C0(e:ax):Bool:=e.ctorIdx !=26
def Zz(O:cL C){a b:E}{d c:ax}{j:bv}(k:bP C n a d cx)(l:bP C n b c cx)(f:C0 c=true):bP C n (.q a b) (.Subscript d c j) cx:=by intro A X Y φ σ s m Q S w;exact Fb<|S.g (k S w) λt y z v B g st ev q=>(g.g (l g q) λD F mu u G h i o q=>cz q λx r sm q=>jZ (st.e i)<|ZX O.e h.h h.e (VR.e (i.f λH q=>q.elim) _ _ ev) o r q sm λa b p e=>by rw[e]at f;exact dK f)
def evalPart_none{Q:am->az->Prop}(q:Q .none s):aE (aN C.e C.w) A (evalPart ae Y) Q bx s:=ba q
def Step.y(k:∀a o,s.heap.get? a=aa o->c.get? a=aa o)(d:s.heap.objs.size<=c.objs.size)(f:Nat):Step F0 φ s φ {s with heap:=c,toks:=f}:=⟨λa o e b b=>k a o e,λb b e=>e,λb e=>.inl e,d,rfl,rfl,rfl⟩
def LY(st:Step F0 c d φ s){lo i:Option ax}(S:dQ C n A X Y cx φ σ s m)(j:VR (aM X φ) φ s.heap a x)(k:VR (aM X φ) φ s.heap b y)(q:nR f a b σ Q):aE (aN C.e C.w) A (Fk h (.Slice lo i ae p) x<|.ref s.heap.objs.size) (a_ C X c d Q) bx {s with heap:=s.heap.push (uq f y)}:=by have e:=Step.y (φ:=φ) (s:=s) (dB s.heap<|uq f y) (gn _ _) s.toks;have g:=e.f (X:=X) λl q=>q.elim;exact jZ (st.e e)<|YK S.h (S.e.T (dB s.heap<|uq f y)<|gn _ _) (VR.e g _ _ j) (VR.e g _ _ k) q<|dF _ rfl
def Zv{a b:E}{d c:ax}{p h:bv}(i:bP C n a d cx)(j:bP C n b c cx):bP C n (.a a b) (.Subscript d (.Slice (aa c) ae ae p) h) cx:=by intro A X Y φ σ s m Q S w;exact Fb<|S.g (i S w) λo r t v x e st ev q=>(G_<|show aE _ A (fY c Y) _ _ _ from e.g (j e q) λy z mu u B k g l q=>evalPart_none<|evalPart_none<|LY (st.e g) (f:=true) k (VR.e (g.f λD q=>q.elim) _ _ ev) l q)
def Zx{a b:E}{d c:ax}{p h:bv}(i:bP C n a d cx)(j:bP C n b c cx):bP C n (.j a b) (.Subscript d (.Slice ae (aa c) ae p) h) cx:=by intro A X Y φ σ s m Q S w;exact Fb<|S.g (i S w) λo r t v x e st ev q=>(G_<|evalPart_none<|show aE _ A (fY c Y) _ _ _ from e.g (j e q) λy z mu u B k g l q=>evalPart_none<|LY (st.e g) (f:=false) k (VR.e (g.f λD q=>q.elim) _ _ ev) l q)
noncomputable def v4(e:ax):Bool:=e.ctorIdx !=16
def H6(h:v4 o=true)(b:ah)(Y:cZ)(a:d8 am):attributeBase o b Y a=a:=by cases o<;>first|rfl|exact dK (h:false=true)
def WS(h:CZ v):∀w,v≠.F w:=λw e=>by subst e;exact h
def Y0(O:cL C){c b:Nat}{e:E}{a:ax}{d:ah}{p:bv}{k:lJ}(h:bP C n e a cx)(i:v4 a=true)(f:C.h c=aa k)(j:k.f[b]? =aa d):bP C n (.h c b e) (.Attribute a d p) cx:=by intro A X Y φ σ s m Q S w;refine af (arm_eval_Attribute ..) ?_;rw[H6 i];refine aA<|S.g (h S w) λG H I v J g st ev q=>?_;obtain⟨r,L,x,rfl,l,o,t,q⟩:=q;exact aA<|li<|aA<|dS<|g.g (QV O.e g.e f (O.f c k f) j ev l o (WS t) q) λy z mu u M B D F q=>(aA<|wpAny_letTemporaryGo<|ba<|dO y z mu (st.e D) B.e F q)
def CI{K:fk}(a:rL K f=true)(h:aO)(X:K.In h)(M:pO):∃k,(k=Keeper.frame\/k=Keeper.machine\/k=Keeper.boundFrame)/\Looks M h (keeperOf f) k:=by cases f<;>first|exact keeps_K (f:=.ref _) a h X|exact(aC (.machine) (.inr<|.inl rfl) Px)
def zy:∀(b:List ax)(Y:cZ)(a:bv),b.all gi=true->(lW a<|km b Y).any (·.1)=false/\(lW a<|km b Y).all (λx=>!x.1)=true:=by intro c;induction c with|nil=>intro Y a _;exact⟨rfl,rfl⟩|cons e f d=>intro Y a h;simp only[wP,kK]at h;rw[ur h.1];have:=d Y a h.2;exact⟨(Bool.false_or _).trans this.1,(Bool.true_and _).trans this.2⟩
def Ih(O:cL C){first:List V}(S:dQ C n A X Y cx φ σ s m)(k:a.all gi=true)(h:mU C n b a cx)(t:a=[]->b=.f)
  (l:rL C.K f=true)(o:bd (aM X φ) φ s.heap first g)(w:eK C n b m σ (λd σ=>aZ C n f (first++d) σ Q)):
  aE (aN C.e C.w) A (Br c f g (lW c<|km a Y) []) (a_ C X φ s Q) bx s:=by
 have p:aE (aN C.e C.w) A (Bw<|lW c<|km a Y) (λd r=>C.K.In r.heap/\aE (aN C.e C.w) A (fM f<|g++d) (a_ C X φ s Q) bx r) bx s:=by
  exact S.F (h S w) λu x y d v i st d_ z q=>⟨i.e.K O.e,(jZ st<|q A X u v _ i.h i.e<|(bd.e (st.f λB q=>q.elim) _ _ o).g d_)⟩
 cases a with
 |nil=>
  refine xp (P:=C.K.In) rfl (λh X=>CI l h X _)<|evalArgs_none ?_
  have e:=t rfl
  subst e
  refine⟨S.e.K O.e,?_⟩
  have w:aZ C n f (first++[]) σ Q:=w
  rw[hK]at w⊢
  exact w A X φ s _ S.h S.e o
 |cons e b=>
  have j:=k
  simp only[wP,kK]at j
  rw[ur j.1]at p⊢
  refine xp (P:=C.K.In) ?_ (λh X=>CI l h X _)<|Ft p
  have:=(zy (e::b) Y c k).1
  rw[ur j.1]at this
  show(_||false)=false
  exact af (Na ..) this
def Y3(O:cL C){g:Nat}{b:Es}{x:ah}{a:List ax}{p d:bv}(i:bP C n (.Y g) (.Name x p) cx)(j:a.all gi=true)(h:mU C n b a cx)(k:a=[]->b=.f):bP C n (.f g b) (.Call (.Name x p) a [] d) cx:=by intro A X Y φ σ s m Q S w;refine cz w λf e l w=>Bz<|S.g (i (Q:=λv c=>v=.F f/\c=σ) S<|wy e rfl) λr c t v u o st ev q=>?_;obtain⟨rfl,rfl⟩:=q;subst ev;exact jZ st<|Ih O (first:=[]) o j h k l rfl w
def Zo(O:cL C){k:Nat}{o:E}{i:Es}{d:ax}{r:ah}{a:List ax}{j b:bv}(x:bP C n o d cx)(y:v4 d=true)(z:C.g k=r)(t:a.all gi=true)(B:a.length<30)(D:(j.endLine==b.line)=true)(h:mU C n i a cx)(F:a=[]->i=.f):bP C n (.g k o i) (.Call (.Attribute d r j) a [] b) cx:=by
 intro A X Y φ σ s m Q S w;subst z;refine af (arm_eval_Call ..) ?_;rw[H6 y];refine aA<|S.g (x S w) λl M G v p g st ev q=>?_;obtain⟨f,⟨H,I⟩,w⟩:=q;refine aA<|li ?_;have J:methodCallForm (a.length+([]:List xh).length) (lW b<|km a Y) (Bp b<|Bu [] Y)=true:=by show(_&&true&&decide (a.length+0+0<30))=true;refine af ((zy a Y b t).2) ?_;simpa using B
 delta GY;refine af J<|aA<|dS ?_;delta calleeOf;refine af (aq rfl)<|I A X l p v _ _ _ g.h.f g.e ev λL=>?_;refine aA<|BH (show Bv true d Y j b=pure b from by delta Bv;simp[D]) ?_;have u:Step F0 l p l {p with toks:=L}:=⟨λc c e c c=>e,λc c e=>e,λc e=>.inl e,bb _,rfl,rfl,rfl⟩;exact jZ (st.e u)<|Ih O (first:=[G]) (g.t u g.e) t h F H (bd.J ev) w
end
section
variable{X:ao->Prop}{cx:Cx}
def bA.Z{h h':aO}(R:bA C i φ σ h)(m:∀a,X a->i a)(u:i d)(B:¬X d)(k:∀a o,a≠d->h.get? a=aa o->h'.get? a=aa o)(p:h.objs.size<=h'.objs.size)(D:σ r=ae)(F:dx (aM i φ) φ h (aM X<|de φ r (d,d)) (de φ r (d,d)) h'->OR C (aM X<|de φ r (d,d)) (de φ r (d,d)) h' o (d,d)):bA C X (de φ r (d,d)) (bi σ r o) h'/\dx (aM i φ) φ h (aM X<|de φ r (d,d)) (de φ r (d,d)) h':=by
 have s:φ r=ae:=(R.t r).mp D;refine eQ (R.e d u) λG H A=>?_;have v:dx (aM i φ) φ h (aM X<|de φ r (d,d)) (de φ r (d,d)) h':=by
  refine⟨λa o e n=>⟨k a o (λq=>n<|.inl<|q▸u) e,λq=>?_⟩,λc f e=>?_⟩;·exact db q (λq=>(n<|.inl<|m a q)) λq=>db ((og s).mp q) (λq=>(n<|.inr q)) λq=>n<|.inl (show i a by rcases q with q|q<;>exact q▸u)
  ·delta de;refine af (ap λx=>by rw[x,s]at e;exact aY e) ?_;exact e
 have t:∀c f a,φ c=aa f->(a=f.1\/a=f.2)->a≠d:=λc f a e q z=>G<|c_ c f e<|z▸q;refine⟨⟨λa o e=>k a o (λq=>?_)<|R.g a o e,ay R.y p,λc=>?_,λc I f J a g b j l=>?_,λa q=>?_,λa q=>?_,λc L f g b=>?_⟩,v⟩;·exact aD (cK e)<|eZ.mpr<|q▸A
 ·delta bi de;split;·simp
  ·exact R.t c
 ·unfold de at g b;split at g<;>split at b;·rename_i x y;refine af x ?_;rw[y]
  ·cases g;exact aD (by rcases j with j|j<;>exact j)<|t _ _ _ b l
  ·cases b;exact aD (by rcases l with l|l<;>exact l)<|t _ _ _ g j
  ·exact R.inj c I f J a g b j l
 ·refine db ((og s).mp q) (λq=>?_) λq=>?_;·exact⟨(R.f a q).1,aR (R.f a q).2 p⟩
  ·have:a=d:=by rcases q with q|q<;>exact q
   exact this▸⟨A,aR H p⟩
 ·refine⟨λw=>?_,aR (R.e a<|m a q).2.1 p,(R.e a<|m a q).2.2⟩;refine db ((og s).mp w) (λw=>?_) λw=>?_;·exact(R.e a<|m a q).1 w
  ·have:a=d:=by rcases w with w|w<;>exact w
   exact B<|this▸q
 ·unfold bi at g;unfold de at b;split at g;·rename_i x;rw[aq x]at b;cases g;cases b;exact F v
  ·rename_i x;replace b:=(ap x)▸b;exact(R.L c L f g b).e v (λx e=>k _ _ (t _ _ _ b<|.inl rfl) e) λx e=>k _ _ (t _ _ _ b<|.inr rfl) e
def Y9:bP C n (.d k) (.Dict [] [] b) cx:=by
 intro A X Y φ σ s m Q S w;refine aB w λr c q=>wpAny_Dict_empty ?_;refine a_.h S.e (dB _ _) (gn _ _) (p:=(s.heap.objs.size,s.heap.objs.size)) c ⟨bb _,by refine af (eh ..) ?_;exact bY _⟩ ⟨bb _,by refine af (eh ..) ?_;exact bY _⟩ (λd=>?_) q s.toks;cases k;·exact(aC ([]) (F9 _) λa=>trivial)
 ·exact(aC ([]) (F9 _) λa=>trivial)
 ·exact(bV ([]) (abH _) (λa h=>by simp at h) λa=>trivial)
def qP(C:Ctx)(n:Nat)(cx:Cx):Es->List ax->Prop|.f,l=>l=[]|.e e a,l=>match l with|[]=>False|ex::b=>gi ex=true/\bP C n e ex cx/\qP C n cx a b
theorem qP.e:∀{b:Es}{a:List ax},qP C n cx b a->mU C n b a cx/\a.all gi=true/\(a=[]->b=.f)|.f,a,h=>by exact((h:a=[])).symm▸⟨Zq,rfl,λc=>rfl⟩|.e e b,[],h=>h.elim|.e e b,d::a,h=>⟨Y6 h.1 h.2.1 h.2.2.e.1,by refine af wP ?_;refine af h.1 ?_;refine af h.2.2.e.2.1 ?_;rfl,λe=>nomatch e⟩
def v_:List ah->List (Option ax)->Bool|[],l=>cW l|k::a,l=>match l with|[]=>false|q::b=>f6 (λq=>jN q λc=>p6 c λt=>k==t) q&&v_ a b
noncomputable def pairsOf(Y:cZ)(a:bv):List (Option ax)->List ax->List (d8 am×d8 am)
 |k::b,v::c=>(k.elim (pure .none) λk=>fY k Y,do let x<-fY v Y;rp a;pure x)::pairsOf Y a b c
 |_,_=>[]
def Xv:∀{a:List (Option ax)}{b:List ax},v_ e a=true->a.length=b.length->∀(Y:cZ)(c:bv),
  (evalEachOpt a Y).zip ((evalEach b Y).map λv=>do let x<-v;rp c;pure x)=(pairsOf Y c a b).map (λp=>(aa p.1,p.2))/\(pairsOf Y c a b).length=a.length:=by
 induction e with
 |nil=>exact λd f Y c=>(cW.e d).symm▸⟨rfl,rfl⟩
 |cons k e h=>
  intro a b d f Y c
  cases a with
  |nil=>exact ff d
  |cons g a=>cases b with
   |nil=>exact pK f
   |cons i b=>cases g with
    |none=>exact ff d
    |some g=>exact(h (aj d).2 (lR f) Y c).imp (aQ<|wR _)<|aQ oR
def Xu:∀{i:List (Option ax)}{j:Es}{l:List ax}{A:bU}{X:ao->Prop}{Y:cZ}{φ:aX}{σ:St}{s:az}{m:List V}{Q:List V->St->Prop},v_ ks i=true->qP C n cx j l->i.length=l.length->dQ C n A X Y cx φ σ s m->eK C n j m σ Q->aE (aN C.e C.w) A (evalPairs<|pairsOf Y pos i l) (λz B=>∃p G D,Step F0 φ s p B/\bA C X p G B.heap/\bd (aM X p) p B.heap D (z.map (·.2))/\Carries (G7 C.e C.w) z (ks.zip<|z.map (·.2))/\Q D G) bx s:=by induction ks with
 |nil=>intro i j l A X Y φ σ s m Q r u y S w;rw[cW.e r]at y⊢;obtain rfl:=s6.mp y.symm;cases j with|f=>exact evalPairs_nil (m0 φ σ ([]) (Step.T _ _ _) S.e rfl trivial w)|e _ _=>exact u.elim
 |cons k ks J=>intro i j l A X Y φ σ s m Q r u y S w;cases i with|nil=>exact ff r|cons L i=>cases l with|nil=>exact pK y|cons ex l=>cases j with|f=>exact aD u (Ez _ _)|e e j=>obtain⟨d,g,rfl⟩:∃d g,L=aa (.Constant (.str k) d g):=f6.e (R:=λo=>∃d g,o=aa (.Constant (.str k) d g)) (λq h=>jN.e (R:=λq=>∃d g,aa q=aa (.Constant (.str k) d g)) h λc d g h=>p6.e (R:=λc=>∃a b,aa (Expr.Constant c d g)=aa (.Constant (.str k) a b)) h λt h=>(rW d g<|by rw[bO h])) (aj r).1;refine evalPairs_cons<|G9 (x:=k) (k:=d) (pos:=g) ?_;have H:=Step.y (φ:=φ) (s:=s) (λF F e=>e) (bb _)<|s.toks+1;exact aA<|(S.t H S.e).g (u.2.1 (S.t H S.e) w) λp G M v B N st ev q=>aA<|li<|ba<|cE (J (aj r).2 u.2.2 (lR y) N q) (λz ag h=>(se h λP U D I R d_ W q=>(m0 P U (M::D) ((H.e st).e I) R ((cp v _ rfl (VR.e (I.f λF q=>q.elim) _ _ ev) d_)) (⟨beq_self_eq_true k,rfl,W⟩) q))) λF F e=>e
def Ku{K:Type}[DecidableEq K](b:List (K×am)):∀a:List (K×am),((a++b).map (·.1)).Nodup->merged a b=a++b:=by induction b with
 |nil=>exact λa f=>(hK a).symm
 |cons p b c=>
  intro a h;have:xK a p.1 p.2=a++[p]:=ap λq=>by refine aB (wQ.mp q) λx d e=>?_;rw[ja]at h;exact(s8.mp h).2.2 _ (wV d) p.1 bk (cR e)
  show merged (xK a p.1 p.2) b=_;rw[this,c _<|by rw[lN];exact h,lN];rfl
def aaN{ks:List ah}:∀{a:List V}{d:List am},bd b φ h a d->∀x:ah,fB b φ h ((ks.zip a).lookup x) (jX (ks.zip d) x):=by induction ks with
 |nil=>exact λm x=>trivial
 |cons k ks g=>intro a d e x;cases a with
  |nil=>exact(show d=[]from e)▸trivial
  |cons v a=>
   refine dA e λy f i j l=>i▸(af qX ?_);refine af qX ?_;refine af uW ?_;refine af (show jX ((k,y)::ks.zip f) x=_ from m5 (k,y) (ks.zip f) x) ?_;refine db (iG<|x=k) (λc=>?_) λc=>?_;·refine af (aq c.symm)<|af c ?_;refine af (beq_self_eq_true ..) ?_;exact j
   ·exact af (ap<|dM c)<|af (lp.mpr c)<|g l x
theorem MY:∀{a:List ah}{b:List c},a.Nodup->((a.zip b).map (·.1)).Nodup|[],_,_=>nK|_::_,[],_=>nK|k::a,x::b,h=>by rw[gD]at h;refine af qX<|af qV ?_;rw[gD];exact⟨λq=>h.1<|aB (cq.mp q) λy d e=>(show y.1=k from e)▸(AA d).1,MY h.2⟩
def dQ.J(S:dQ C n A X Y cx φ σ s m)(k:∀a o,s.heap.get? a=aa o->d.get? a=aa o)(g:s.heap.objs.size<=d.objs.size)(h:Nat):dQ C n A (more X s.heap.objs.size d.objs.size) Y cx φ σ {s with heap:=d,toks:=h} m/\dx (aM X φ) φ s.heap (aM (Lake.more X s.heap.objs.size d.objs.size) φ) φ d:=by obtain⟨j,f⟩:=S.e.Y k g;refine⟨⟨S.h,⟨S.f.e,S.f.h,S.f.p,.inl S.f.g,λn c e=>(S.f.f n c e).imp .inl id,λn c k e=>.inl<|S.f.t n c k e,S.f.q⟩,S.p,j,S.q.1,λi x v l p q=>?_⟩,f⟩;obtain⟨rv,b,r⟩:=S.q.2 i x v l p q;exact⟨rv,b.e (λo e=>k _ _ e) λn c t o e=>k _ _ e,VR.e f _ _ r⟩
def a_.t{l g:az}(R:bA C i b j g.heap)(c:Step F0 φ s φ l)(st:Step F0 φ l b g)(v:∀a,X a->i a)(w:i d)(x:¬X d)(m:s.heap.objs.size<=d){h:aO}(k:gd d g.heap h)(t:j r=ae)(y:dx (aM i b) b g.heap (aM X<|de b r (d,d)) (de b r (d,d)) h->OR C (aM X<|de b r (d,d)) (de b r (d,d)) h o (d,d))(q:Q (.f r) (bi j r o))(z:Nat):a_ C X φ s Q (.ref d) {g with heap:=h,toks:=z}:=by
 have u:g.heap.objs.size<=h.objs.size:=bf k.1.symm;refine cj (R.Z v w x (λa o A e=>k.extBut a o A e) u t y) λB D=>?_;refine(dO _ _ (.f r) (⟨λa o e n f=>?_,λF p e=>D.f _ _<|st.q _ _<|c.q _ _ e,λa q=>?_,ay (ay c.h st.h) u,st.J.trans c.J,st.N.trans c.N,st.L.trans c.L⟩) B ((aC ((d,d)) (by simp[de]) rfl)) q);·exact k.extBut a o (λq=>(aD (cK e)<|eZ.mpr<|q▸m))<|(c.e st).ext a o e n f
 ·rcases(og<|(R.t r).mp t).mp q with q|q;·exact(c.e st).t a q
  ·exact .inr (by rcases q with q|q<;>exact q▸m)
def Y'{ks:List ah}{i:Es}{f:List (Option ax)}{c:List ax}{j:bv}(h:qP C n cx i c)(k:v_ ks f=true)(v:ks.Nodup)(d:f.length=c.length)(y:c≠[])(z:c.length<=15):bP C n (.s ks i) (.Dict f c j) cx:=by
 intro A X Y φ σ s m Q S w;refine cj (Xv k d Y j) λa b=>cj (S.J (dB s.heap {cls:=.type "dict",data:=.dict #[]}) (gn _ _) s.toks) λl M=>?_;have t:Lake.more X s.heap.objs.size (s.heap.push {cls:=.type "dict",data:=.dict #[]}).objs.size s.heap.objs.size:=.inr ⟨bb _,by refine af (eh ..) ?_;exact bY _⟩;refine PQ (knd:=G7 C.e C.w) a (λe=>y ?_) (by refine af b ?_;refine af d ?_;exact z) ?_;·rw[e]at b;exact s6.mp (by refine dh d ?_;refine dh b ?_;rfl)
 refine cE (Xu (ks:=ks) k h d l w) (λN B p=>?_) λg g e=>e;obtain⟨P,U,D,st,R,d_,F,r,G,q⟩:=p;have H:B.heap.get? s.heap.objs.size=aa {cls:=.type "dict",data:=.dict #[]}:=st.ext _ _ (dF _ rfl) (l.e.e _ t).1 λq=>q;refine(bV _ F ((Cu _ (#[]) 0 H (⟨rfl,rfl,rfl⟩) rfl (λg I=>by simp at I) Pn nK)) λW u J=>?_);rw[Ku _ []<|by simpa using MY v,uY]at u;exact a_.t R (Step.y (φ:=φ) (s:=s) (dB s.heap {cls:=.type "dict",data:=.dict #[]}) (gn _ _) s.toks) st (λg q=>.inl q) t (λq=>dE _ (S.e.e _ q).2.1) (bb _) J G (o:=.h λx=>(ks.zip D).lookup x) (λL=>(aC _ u λx=>aaN (bd.e L _ _ d_) x)) q _
def Y_{a b:E}{d e:ax}{g:bv}(y:bP C n a d cx)(z:bP C n b e cx):bP C n (.r a b) (.Dict [aa d] [e] g) cx:=by
 intro A X Y φ σ s m Q S w
 refine cj (S.J (dB s.heap {cls:=.type "dict",data:=.dict #[]}) (gn _ _) s.toks) λf M=>?_
 have h:Lake.more X s.heap.objs.size (s.heap.push {cls:=.type "dict",data:=.dict #[]}).objs.size s.heap.objs.size:=.inr ⟨bb _,by refine af (eh ..) ?_;exact bY _⟩
 refine PQ (knd:=mO C.e C.w) (pairs:=[(fY d Y,do let x<-fY e Y;rp g;pure x)]) rfl (by simp) (by simp) ?_
 refine evalPairs_cons<|f.g (y f w) λN P R v U j st ev q=>?_
 refine aA<|j.g (z j q) λW ac mu u B D k F q=>aA<|li<|ba<|evalPairs_nil ?_
 obtain⟨r,i,rfl,G,q⟩:=q
 obtain⟨t,rfl⟩:=ev
 have H:B.heap.get? s.heap.objs.size=aa {cls:=.type "dict",data:=.dict #[]}:=(st.e k).ext _ _ (dF _ rfl) (f.e.e _ h).1 λq=>q
 refine(bV ([(i,u)]) (⟨show(i==i)=true by simp,rfl,trivial⟩) ((Cu _ (#[]) 0 H (⟨rfl,rfl,rfl⟩) rfl (λl I=>by simp at I) Pn nK)) λh' p J=>?_)
 rw[Ku _ []<|by simp,uY]at p
 refine a_.t D.e (Step.y (φ:=φ) (s:=s) (dB s.heap {cls:=.type "dict",data:=.dict #[]}) (gn _ _) s.toks) (st.e k) (λl q=>.inl q) h (λq=>dE _ (S.e.e _ q).2.1) (bb _) J G (o:=.f<|cD (λl=>ae) i<|aa mu) (λL=>(aC _ p λx=>?_)) q _
 refine af (qC ..)<|af (show jX [(i,u)] x=_ from m5 (i,u) [] x) ?_
 by_cases c:x=i
 ·exact af (aq c)<|af (aq c.symm)<|VR.e L _ _ F
 ·refine af (ap c)<|af (ap<|dM c) ?_;trivial
def Ze(h:b.length<=100)(x:bP C n e d cx):bP C n (.m b e) (.JoinedStr [.Constant (.str b) k r,.FormattedValue d (-1) ae g] u) cx:=by
 intro A X Y φ σ s m Q S w;refine aaZ<|OX<|G9 ?_;have f:=Step.y (φ:=φ) (s:=s) (λc c e=>e) (bb _)<|s.toks+1;have y:b.length<=100->(xl++b).length<=cN/\aE (aN C.e C.w) A (joinParts (xl++b) [fY (.FormattedValue d (-1) ae g) Y]) (a_ C X φ s Q) bx {s with toks:=s.toks+1}:=by
  intro j;refine af (PySem.Str.empty_append ..) ⟨Cm j,OX<|aaX<|(S.t f S.e).g (x (S.t f S.e) w) λB D I v J F st ev q=>?_⟩;obtain⟨i,rfl,l,G,j,q⟩:=q;obtain⟨t,rfl⟩:=ev;have o:i.natAbs.log2<1920:=by
   refine db (iG<|i.natAbs=0) (λz=>?_) λz=>?_;·refine af z ?_;decide
   ·exact aR ((E5 z).mpr<|show i.natAbs<2^64 from hH.mp<|nD (uP<|NG l)<|Ak G<|by decide) bl
  have p:(b++kj (toString i)).length<=cN:=by have e:=int_text_length_le (k:=1920) (a:=i) bl o;refine af (strLen_append ..)<|af (ofString_length ..) ?_;refine af bX ?_;exact(ay (fL h e) bl)
  have H:toString i=toString i.toNat:=by obtain⟨k,rfl⟩:=Nv l;rfl
  exact wpAny_formatField_int o ⟨p,abd (H.symm▸(dO B D (.p<|b++kj (toString i.toNat)) ((f.e st).e ⟨λc c e c c=>e,λc c e=>e,λc e=>.inl e,bb _,rfl,rfl,rfl⟩) F.e (⟨_,rfl⟩) q)) p⟩
 exact y h
end
def LV(h:aO)(a:ao)(f:jf->jf):(h.update a f).objs.size=h.objs.size:=by cases h;simp[Heap.update]
def LH(h:Runs M b p t c s e a):s.heap.objs.size<=a.heap.objs.size:=by induction h<;>(try simp only[Shared.setGen,LV,eh]at*)<;>first|assumption|exact bb _|exact ay (eC _) ‹_›|(apply ay<;>assumption)
def aaw(h:Wakes M n p g r s o b):s.heap.objs.size<=b.heap.objs.size:=by have run:∀{l m t f d a k},Runs M l m t f (s.setGen g .running) d a->b=a.setGen g k->s.heap.objs.size<=b.heap.objs.size:=λ{l m t f d a k}r e=>e▸(LH r:(s.setGen g .running).heap.objs.size<=a.heap.objs.size);delta Wakes at h;revert h;cases s.gens[g]? with
 |none=>exact False.elim
 |some G=>cases G with
  |fresh c=>cases r with|throw x=>exact λh=>h.2.symm▸bb _|send v=>cases v<;>first|exact λh=>(And.right h:b=s)▸bb _|exact λh=>yX h λd a i j j e=>run i e
  |suspended q x u w f y=>exact λh=>yX h λd a i j j e=>run i e
  |running=>exact λh=>h.2▸bb _
  |finished=>exact λh=>h.2▸bb _
def aaK(M:pO)(l:Fz)(n:Nat)(t:d8 α):∀(Q:α->bv->az->Prop)(E:am->bv->az->Prop)(p:bv)(s:az),n<=s.heap.objs.size->Sem.wp M l t Q E p s->Sem.wp M l t (λa j i=>n<=i.heap.objs.size/\Q a j i) (λe j i=>n<=i.heap.objs.size/\E e j i) p s:=by induction t with|pure a=>intro Q E p s b h;exact⟨b,h⟩|raise e=>intro Q E p s b h;exact⟨b,h⟩|unsupported _=>intro Q E p s _ h;exact h|finish _=>intro Q E p s _ h;exact h|rule _ k d=>intro Q E p s b h;exact d () Q E p s b h|«at» j k d=>intro Q E p s b h;exact d () Q E j s b h|load a _ k d=>intro Q E p s b h;exact aB h λo x h=>(aC o x<|d o Q E p s b h)|update a _ f k d=>intro Q E p s b h;exact⟨h.1,d () Q E p _ (by show n<=(s.heap.update a f).objs.size;rw[LV];exact b) h.2⟩|loadIfAlive a k d=>intro Q E p s b h;exact d _ Q E p s b h|point _ k d=>intro Q E p s b h;exact d () Q E p s b h|register _ _=>intro Q E p s _ h;exact h|alloc o k d=>intro Q E p s b h;exact d _ Q E p _ (by show n<=(s.heap.push o).objs.size;rw[eh];exact mH b) h|fresh k d=>intro Q E p s b h;exact d _ Q E p _ b h|ask k d=>intro Q E p s b h;exact d _ Q E p s b h|choose z m k d=>intro Q E p s b h;exact⟨h.1,d _ Q E p _ b h.2⟩|os q _ k d=>intro Q E p s b h;exact d _ Q E p _ b h|call c A _ _ k d=>intro Q E p s b h;exact fq h λr i u h=>(c_ r i u<|d r Q E p i (ay b<|LH u) h)|handled jL k d=>intro Q E p s b h;exact d _ Q E p s b h|genState g k d=>intro Q E p s b h;exact aB h λst y h=>(aC st y<|d _ Q E p s b h)|newGen c k d=>intro Q E p s b h;exact d _ Q E p _ b h|resume g r _ k d=>intro Q E p s b h;exact fq h λv i w h=>(c_ v i w<|d v Q E p i (ay b<|aaw w) h)|yield _ _ _ _=>intro Q E p s _ h;exact h|stack k d=>intro Q E p s b h;exact d _ Q E p s b h|fork _ _=>intro Q E p s _ h;exact h|thread k d=>intro Q E p s b h;exact d _ Q E p s b h|await _ _ _ _ _=>intro Q E p s _ h;exact h
section
variable{α:Type}
def qO{E:am->az->Prop}(h:aE M A t (λa b=>s.heap.objs.size<=b.heap.objs.size->Q a b) E s):aE M A t Q E s:=cE (λd p f=>aaK M d s.heap.objs.size t _ _ p s (bb _) (h d p f):aE M A t (λa b=>s.heap.objs.size<=b.heap.objs.size/\(s.heap.objs.size<=b.heap.objs.size->Q a b)) (λe b=>s.heap.objs.size<=b.heap.objs.size/\E e b) s) (λc c x=>x.2 x.1) λc c x=>x.2
end
section
variable{C:Ctx}{X:ao->Prop}{cx:Cx}
def me(σ:St)(v:V):Option (List V):=v.J (gK v) (λa=>gK v) (λa=>gK v) (λa=>gK v)<|jk σ
noncomputable def gB(X:ao->Prop)(φ:aX)(h:aO)(I:ao)(i:Nat)(c:V):Prop:=V.casesOn (motive_1:=λb=>Prop) c False False (λb=>False) (λb=>False) (λt=>∃u,h.IsStrIter I "str_ascii_iterator" t u i\/h.IsStrIter I "str_iterator" t u i) (λl=>∃a,VR (aM X φ) φ h (.h l) (.ref a)/\h.IsTupleIter I a i) (λl=>∃a,VR (aM X φ) φ h (.y l) (.ref a)/\h.IsListIter I a i) (λx y=>Ba h I (x+i) (((y-x).toNat:Int)-i) 1) (λb=>False) (λr=>∃p,φ r=aa p/\h.IsListIter I p.1 i) λb=>False
theorem gB.f{mv:V}{P:V->Prop}(J:gB X φ h I i mv)(b:∀t u,h.IsStrIter I "str_ascii_iterator" t u i->P (.p t))(c:∀t u,h.IsStrIter I "str_iterator" t u i->P (.p t))(t:∀l a,VR (aM X φ) φ h (.h l) (.ref a)->h.IsTupleIter I a i->P (.h l))(l:∀l a,VR (aM X φ) φ h (.y l) (.ref a)->h.IsListIter I a i->P (.y l))(r:∀x y,Ba h I (x+i) (((y-x).toNat:Int)-i) 1->P (.L x y))(f:∀r p,φ r=aa p->h.IsListIter I p.1 i->P (.f r)):P mv:=by
 cases mv<;>first|exact J.elim|skip
 ·obtain⟨u,J|J⟩:=J;·exact b _ u J
  ·exact c _ u J
 ·exact J.elim λa J=>t _ a J.1 J.2
 ·exact J.elim λa J=>l _ a J.1 J.2
 ·exact r _ _ J
 ·exact J.elim λa J=>f _ a J.1 J.2
theorem gB.e(J:gB X φ h I i mv)(f:dx (aM X φ) φ h (aM d b) b c)(k:∀o,h.get? I=aa o->c.get? I=aa o):gB d b c I i mv:=J.f (P:=λmv=>gB d b c I i mv) (λt u J=>J.elim λo J=>⟨u,.inl ⟨o,k o J.1,J.2⟩⟩) (λt u J=>J.elim λo J=>⟨u,.inr ⟨o,k o J.1,J.2⟩⟩) (λl a e J=>J.elim λo J=>⟨a,VR.e f _ _ e,o,k o J.1,J.2⟩) (λl a e J=>J.elim λo J=>⟨a,VR.e f _ _ e,o,k o J.1,J.2⟩) (λx y J=>k _ J) λr p e J=>J.elim λo J=>⟨p,f.f _ _ e,o,k o J.1,J.2⟩
def rangeSize_one(a b:Int):Pa a b 1=((b-a).toNat:Int):=by
 delta Pa;rw[aq<|show(1:Int)>0 by decide,Nu];by_cases h:a<b;·rw[aq h,NK];exact(uR<|Int.sub_nonneg_of_le<|nC h).symm
 ·rw[ap h];exact(aQ sR<|Int.toNat_of_nonpos<|NM<|sQ.mp h).symm
set_option tactic.hygienic true in
theorem CC(R:bA C X φ σ s.heap)(e:VR (aM X φ) φ s.heap h x)(j:me σ h=aa l)(f:∀o,o.isFreed=false->(∀(c:ao->Prop)(b:aO),dx (aM X φ) φ s.heap (aM c φ) φ b->b.get? s.heap.objs.size=aa o->gB c φ b s.heap.objs.size 0 h)->Q (.ref s.heap.objs.size) {s with heap:=s.heap.push o}):aE (aN C.e C.w) A (vj x) Q bx s:=by
 cases h<;>first|exact aY j|skip
 ·obtain⟨t,rfl⟩:=e;rename_i y;cases m:y.cps.all (·<128);·exact wpAny_pyIter_wide m<|f _ rfl λc b d g=>⟨t,.inr<|bV _ g rfl rfl⟩
  ·exact wpAny_pyIter_ascii m<|f _ rfl λc b d g=>⟨t,.inl<|bV _ g rfl rfl⟩
 ·obtain⟨a,i,k,rfl,e⟩:=e;exact wpAny_pyIter_tuple (gT _ e.2.1 rfl _ rfl)<|f _ rfl λc b d g=>⟨a,VR.e d (.h _) _<|tP a i k rfl e,_,g,rfl,rfl⟩
 ·obtain⟨a,i,k,rfl,e⟩:=e;exact vn (gT _ e.2.1 rfl _ rfl)<|f _ rfl λc b d g=>⟨a,VR.e d (.y _) _<|tP a i k rfl e,_,g,rfl,rfl⟩
 ·obtain⟨a,rfl,n,w,t,u,v,q⟩:=e;rename_i x y;refine wpAny_pyIter_range q w<|f _ rfl λc b d g=>?_;show Ba b _ (x+((0:Nat):Int)) (((y-x).toNat:Int)-((0:Nat):Int)) 1;exact af (show x+((0:Nat):Int)=x from uO x)<|af (show((y-x).toNat:Int)-((0:Nat):Int)=((y-x).toNat:Int)from En _)<|(rangeSize_one x y)▸g
 ·obtain⟨p,r,i,k,n,q⟩:=R.q<|jk.e j;obtain rfl:=qF r e;exact vn (gT _ n rfl _ rfl)<|f _ rfl λc b d g=>⟨p,d.f _ _ r,_,g,rfl,rfl⟩
def bd.F{h:aO}{a:Array am}(e:bd b φ h l a.toList)(i:Nat):(a[i]? =ae/\l[i]? =ae)\/∃c v,a[i]? =aa c/\l[i]? =aa v/\VR b φ h v c:=by cases d:l[i]? with|none=>exact .inl ⟨M3.mpr<|e.f▸pH.mp d,rfl⟩|some v=>exact aB (e.p d) λx f g=>.inr<|cp x v (iF.symm.trans f) rfl g
abbrev lu(I:ao)(h b:aO):Prop:=∀a o,a≠I->h.get? a=aa o->b.get? a=aa o
def jd(X:ao->Prop)(φ:aX)(s:az)(I:ao)(l:List V)(i:Nat)(T:aO->Prop)(r:Option am)(b:az):Prop:=∃a c,b={s with heap:=a,toks:=c}/\lu I s.heap a/\(∀v,l[i]? =aa v->∃x,r=aa x/\VR (aM X φ) φ s.heap v x/\T a)/\(l[i]? =ae->r=ae)
def jd.f{T:aO->Prop}(k:lu I s.heap a)(c:l[i]? =aa v)(e:VR (aM X φ) φ s.heap v x)(J:T a):jd X φ s I l i T (aa x) {s with heap:=a,toks:=b}:=(yA a b rfl k (λu d=>(bV x rfl ((bo (c.symm.trans d):v=u)▸e) J)) λh=>aY<|h.symm.trans c)
def jd.e{T:aO->Prop}(k:lu I s.heap a)(c:l[i]? =ae):jd X φ s I l i T ae {s with heap:=a,toks:=b}:=(yA a b rfl k (λu d=>aY<|c.symm.trans d) λe=>rfl)
def KH(n:A.handled=ae){a I:ao}{j:Array am}{k:Nat}{l:List V}{i:Nat}{T:aO->Prop}(m:s.heap.get? a=aa (im j k))(p:bd (aM X φ) φ s.heap l j.toList)(J:s.heap.IsListIter I a i)(q:∀b,lu I s.heap b->b.IsListIter I a (i+1)->T b):aE (aN C.e C.w) A (oX<|.ref I) (jd X φ s I l i T) bx s:=by
 rcases p.F i with⟨g,h⟩|⟨c,v,g,h,e⟩;·exact wpAny_pyNext_list_end n J (gT _ m rfl _ rfl) g λb f=>jd.e (λa o d e=>f a o d e) h
 ·exact wpAny_pyNext_list_item J (gT _ m rfl _ rfl) g λb r f=>jd.f (λa o d e=>f.extBut a o d e) h e<|q b (λa o d e=>f.extBut a o d e) r
def zC(y:ah)(i:Nat):(sC y)[i]? =(y.cps[i]?).map λc=>V.p ⟨#[c]⟩:=by delta sC;rw[fT,iF]
def yO(n:A.handled=ae)(R:bA C X φ σ s.heap)(U:X I)(J:gB X φ s.heap I i mv)(h:me σ mv=aa l){Q:Option am->az->Prop}
  (W:∀b t v x,lu I s.heap b->s.heap.objs.size<=b.objs.size->l[i]? =aa v->VR (aM X φ) φ s.heap v x->gB X φ b I (i+1) mv->Q (aa x) {s with heap:=b,toks:=t})
  (hN:∀b t,lu I s.heap b->s.heap.objs.size<=b.objs.size->l[i]? =ae->Q ae {s with heap:=b,toks:=t}):
  aE (aN C.e C.w) A (oX<|.ref I) Q bx s:=by
 refine qO<|cE (Q:=jd X φ s I l i λb=>gB X φ b I (i+1) mv) ?_ (λr s' p G=>?_) λz z e=>e
 ·have H:∀b,lu I s.heap b->dx (aM X φ) φ s.heap (aM X φ) φ b:=λb k=>⟨λa o e L=>⟨k a o (λq=>L<|.inl<|q▸U) e,L⟩,λz z e=>e⟩
  refine J.f (P:=λmv=>me σ mv=aa l->aE (aN C.e C.w) A (oX<|.ref I) (jd X φ s I l i λb=>gB X φ b I (i+1) mv) bx s) (λy u J h=>?_) (λy u J h=>?_) (λl' a e J h=>?_) (λl' a e J h=>?_) (λx y J h=>?_) (λr p M J h=>?_) h
  ·obtain rfl:=bo h
   cases d:y.cps[i]? with
   |none=>exact wpAny_pyNext_ascii_end n J d λb g=>jd.e (λa o f e=>g a o f e) (by rw[zC,d];rfl)
   |some c=>exact wpAny_pyNext_ascii_item J d λb j g=>jd.f (v:=.p ⟨#[c]⟩) (λa o f e=>g.extBut a o f e) (by rw[zC,d];rfl) ⟨_,rfl⟩ ⟨u,.inl j⟩
  ·obtain rfl:=bo h
   cases d:y.cps[i]? with
   |none=>exact wpAny_pyNext_wide_end n J d λb g=>jd.e (λa o f e=>g a o f e) (by rw[zC,d];rfl)
   |some c=>exact wpAny_pyNext_wide_item J d λb j g=>jd.f (v:=.p ⟨#[c]⟩) (λa o f e=>g.extBut a o f e) (by rw[zC,d];rfl) ⟨_,rfl⟩ ⟨u,.inr j⟩
  ·obtain rfl:=bo h
   have D:=e
   refine fJ e λz N k F h1 w B=>?_
   cases F
   rcases B.F i with⟨d,m⟩|⟨c,v,d,m,ev⟩
   ·exact wpAny_pyNext_tuple_end n J (gT _ w rfl _ rfl) d λb g=>jd.e (λa o f e=>g a o f e) m
   ·exact wpAny_pyNext_tuple_item J (gT _ w rfl _ rfl) d λb j g=>jd.f (λa o f e=>g.extBut a o f e) m ev<|aC a (VR.e (H b λa o f e=>g.extBut a o f e) _ _ D) j
  ·obtain rfl:=bo h
   have D:=e
   refine fJ e λz N k F h1 w B=>?_
   cases F
   exact KH n w B J λb k j=>(aC a (VR.e (H b k) _ _ D) j)
  ·obtain rfl:=bo h
   refine db (iG<|i<(y-x).toNat) (λd=>?_) λd=>?_
   ·refine wpAny_pyNext_range_item J (Int.sub_pos_of_lt<|hH.mpr d) λb j g=>jd.f (λa o f e=>g.extBut a o f e) (show(iX x y)[i]? =aa (.e<|x+i) by delta iX;refine af (fT) ?_;refine af (wT d) ?_;rfl) ⟨_,rfl⟩ ?_
    show Ba b I (x+((i+1:Nat):Int)) (((y-x).toNat:Int)-((i+1:Nat):Int)) 1
    refine af (NH ..)<|dh (sP ..) ?_;refine dh (Int.sub_sub ..) ?_;exact j
   ·exact wpAny_pyNext_range_end n J (NM<|kP.mpr<|jb d) λb g=>jd.e (λa o f e=>g a o f e) (by delta iX;rw[pH,bq,f9];exact eZ.mp d)
  ·obtain⟨p',au,N,k,w,B⟩:=R.q<|jk.e h
   obtain rfl:=bo<|M.symm.trans au
   exact KH n w B J λb k j=>(aC p M j)
 ·refine yX p λb t av k p1 p2=>?_;subst av
  cases m:l[i]? with
  |none=>exact p2 m▸hN b t k G m
  |some v=>refine cz (p1 v m) λx aU e J=>?_;subst aU;exact W b t v x k G m e J
end
section
variable{X:ao->Prop}{cx:Cx}
noncomputable def p_(b:List (ah×ao)):List (ah×mL)->List (ah×ao)->List (ah×ao)|[],a=>a|(x,k)::r,a=>p_ b r (if k==.free then(x,(b.lookup x).getD 0)::a else a)
def jF(a:dN)(b:List (ah×ao)):List (ah×ao):=p_ b a.names []
def SQ(h:∀x,(x,fX)∈d.names->∃c,Y.cells.lookup x=aa c):GN d Y=pure (jF d Y.cells):=by
 delta GN jF
 generalize d.names=l at h
 have j:∀(l:List (ah×mL))(a:List (ah×ao)),(∀x,(x,fX)∈l->∃c,Y.cells.lookup x=aa c)->
   (forIn l a λ(x:ah×mL)r=>(do
    let a:=r
    if(x.2==fX)=true then do
     let m<-cellOf Y x.1
     let a:List (ah×ao):=(x.1,m)::a
     pure (Ae a)
    else pure (Ae a):d8 (ForInStep<|List<|ah×ao)))=pure (p_ Y.cells l a):=by
  intro l
  induction l with
  |nil=>intro a _;rfl
  |cons y l e=>
   intro a f
   obtain⟨x,k⟩:=y
   refine af (N4 ..) ?_
   have g:∀z,(z,fX)∈l->∃c,Y.cells.lookup z=aa c:=λz n=>f z<|bR _ n
   by_cases b:(k==fX)=true
   ·refine aV (f x<|bO b▸bk) λc i=>?_
    show(((if(k==fX)=true then _ else _):d8 (ForInStep<|List<|ah×ao))>>=_)=pure (p_ Y.cells l<|if(k==fX)=true then _ else _)
    refine af (aq b)<|af (aq b) ?_;refine af (show cellOf Y x=pure c by delta cellOf;rw[i]) ?_;refine af i ?_
    exact e _ g
   ·show(((if(k==fX)=true then _ else _):d8 (ForInStep<|List<|ah×ao))>>=_)=pure (p_ Y.cells l<|if(k==fX)=true then _ else _)
    exact af (ap b)<|(ap b).symm▸e _ g
 exact(bind_pure _).trans<|j l [] h
def r6(x y:ah)(b:a)(l:List (ah×a)):((y,b)::l).lookup x=if x=y then aa b else l.lookup x:=by
 rw[uW];by_cases h:x=y;·rw[aq h,h,beq_self_eq_true]
 ·rw[ap h,lp.mpr h]
theorem Ce(x:ah):∀(l:List (ah×mL))(a:List (ah×ao)),(p_ d l a).lookup x=if(x,fX)∈l then aa ((d.lookup x).getD 0)else a.lookup x
 |[],a=>(ap λh=>aD h cX).symm
 |(y,k)::l,a=>by
  refine af (show p_ d ((y,k)::l) a=p_ d l (if(k==fX)=true then _ else a)from rfl) ?_;rw[Ce x l];by_cases b:(x,fX)∈l;·refine af (aq b) ?_;rw[aq<|bR _ b]
  ·refine af (ap b) ?_;by_cases f:k=.free
   ·refine af f<|af (aq<|beq_self_eq_true _) ?_;refine af (r6 ..) ?_;by_cases c:x=y;·refine af (aq c)<|af (aq<|c▸bk) ?_;rw[c]
    ·refine af (ap c) ?_;rw[ap λh=>(cB.mp h).elim (λe=>c<|aQ u_ e) b]
   ·refine af (ap λh=>f<|bO h) ?_;rw[ap λh=>(cB.mp h).elim (λe=>f (aQ Prod.snd e).symm) b]
noncomputable def X_(a b:dN):dN:={a with names:=a.names.map λ(n,k)=>if(k==.free&&b.kind==.function&&b.names.lookup n==aa .cell)then(n,.cell)else(n,k)}
noncomputable def rk(a:dN)(y:ah)(k:mL):mL:=if(k==fX&&a.kind==.function&&a.names.lookup y==aa .cell)=true then .cell else k
theorem Lm(a:dN)(x:ah):∀(l:List (ah×mL)),(l.map λ(n,k)=>if(k==fX&&a.kind==.function&&a.names.lookup n==aa .cell)then(n,xi)else(n,k)).lookup x=(l.lookup x).map (rk a x)
 |[]=>rfl
 |(y,k)::l=>by
  have e:(if(k==fX&&a.kind==.function&&a.names.lookup y==aa .cell)=true then(y,xi)else(y,k))=(y,rk a y k):=by
   delta rk;by_cases c:(k==fX&&a.kind==.function&&a.names.lookup y==aa .cell)=true;·refine af (aq c) ?_;rw[aq c]
   ·refine af (ap c) ?_;rw[ap c]
  refine af qV ?_;show List.lookup x ((if(k==fX&&a.kind==.function&&a.names.lookup y==aa .cell)=true then(y,xi)else(y,k))::_)=_;refine af e<|af (r6 ..) ?_;refine af (r6 ..)<|af (Lm a x l) ?_;by_cases b:x=y;·refine af (aq b)<|af (aq b) ?_;refine af b ?_;rfl
  ·refine af (ap b) ?_;rw[ap b]
def Lr(h:rk a y k=.cell)(c:k≠.cell):k=.free/\a.names.lookup y=aa .cell:=by
 delta rk at h;by_cases b:(k==fX&&a.kind==.function&&a.names.lookup y==aa .cell)=true;·exact⟨bO (aj (aj b).1).1,bO (aj b).2⟩
 ·rw[ap b]at h;exact aD h c
def Yh(h:rk a y k=.cell\/rk a y k=.free)(c:k≠.cell):k=.free:=by
 rcases h with h|h;·exact(Lr h c).1
 ·delta rk at h;by_cases b:(k==fX&&a.kind==.function&&a.names.lookup y==aa .cell)=true;·exact bO (aj (aj b).1).1
  ·rwa [ap b]at h
noncomputable def sn(cx:Cx)(a:dN)(x:ah):Bool:=a.kind==.function&&(a.names.all (λy=>y.2 !=.cell)&&(a.names.all (λy=>y.2 !=.local||a.names.lookup y.1==aa .local)&&(a.names.lookup x==aa .local&&a.names.all (λy=>y.2 !=.free||((cx.e.names.lookup y.1==aa .cell||cx.e.names.lookup y.1==aa .free)&&y.1 !=("__classdict__":ah))))))
noncomputable def jh(cx:Cx)(a:dN)(x:ah):Cx:=⟨X_ a cx.e,cx.f.map (λo=>o.bind λy=>if a.names.contains (y,.free)&&a.names.lookup y==aa .free then aa y else ae)++[aa x]⟩
def mem_of_lookup{a b:Type}[BEq a][LawfulBEq a]{l:List (a×b)}{x:a}{k:b}(h:l.lookup x=aa k):(x,k)∈l:=by induction l with|nil=>exact aY h|cons y l c=>obtain⟨y,j⟩:=y;rw[uW]at h;cases e:x==y with|true=>rw[e]at h;refine af (bO e) ?_;refine dh (bo h) ?_;exact bk|false=>rw[e]at h;exact bR _<|c h
structure sJ(cx:Cx)(scope:dN)(x:ah):Prop where
 e:scope.kind=.function
 g:∀y∈scope.names,y.2≠.cell
 p:∀y∈scope.names,y.2=.local->scope.names.lookup y.1=aa .local
 f:scope.names.lookup x=aa .local
 h:∀y,(y,fX)∈scope.names->(cx.e.names.lookup y=aa .cell\/cx.e.names.lookup y=aa .free)/\(y==("__classdict__":ah))=false
def neT{c:Type}[BEq c][LawfulBEq c]{a b:c}(h:(a !=b)=true):a≠b:=λe=>by rw[e,bne_self_eq_false]at h;exact dK h
def wh(h:(a||b)=true):a=true\/b=true:=(M_ a b).mp h
def C7(h:sn cx b x=true):sJ cx b x:=by have c:=(aj h).2;have d:=(aj c).2;have e:=(aj d).2;refine⟨bO (aj h).1,λy a=>neT<|ir.mp (aj c).1 y a,λy a f=>(wh<|ir.mp (aj d).1 y a).elim (λq=>aD f<|neT q) bO,bO (aj e).1,λy a=>?_⟩;have q:=(wh<|(ir.mp (aj e).2) _ a).resolve_left λq=>neT q rfl;exact⟨(wh (aj q).1).imp bO bO,lp.mpr<|neT (aj q).2⟩
def Iu(h:∀x,(x,fX)∈a.names->∃c,b.lookup x=aa c)(e:(jF a b).lookup y=aa c):(y,fX)∈a.names/\b.lookup y=aa c:=by
 rw[show(jF a b).lookup y=_ from Ce y a.names []]at e;by_cases q:(y,fX)∈a.names;·refine aV (h y q) λf d=>?_;rw[aq q,d]at e;exact⟨q,d.trans e⟩
 ·rw[ap q]at e;exact aY e
def Iv(q:(y,fX)∈a.names)(e:b.lookup y=aa c):(jF a b).lookup y=aa c:=by rw[show(jF a b).lookup y=_ from Ce y a.names [],aq q,e];rfl
def QJ{e f:Type}{l:List e}{k:List f}{a u:e}{b v:f}{i:Nat}(g:l.length=k.length)(c:(l++[a])[i]? =aa u)(d:(k++[b])[i]? =aa v):(l[i]? =aa u/\k[i]? =aa v)\/(u=a/\v=b):=by
 refine db (w6 i l.length) (λh=>?_) λh=>?_;·rw[gM h]at c;rw[gM<|g▸h]at d;exact .inl ⟨c,d⟩
 ·rw[sZ h]at c;rw[sZ<|g▸h]at d;exact .inr ⟨(cP.mp<|fF c),(cP.mp<|fF d)⟩
def SZ(F:sJ cx d x)(S:dQ C n A X Y cx φ σ s m)(H:X p){M:ah->Option am}(I:s.heap.Ns p M){rv:am}(J:M x=aa rv)(ev:VR (aM X φ) φ s.heap v rv):
  dQ C n A X (rm d (jF d Y.cells) p Y) (jh cx d x) φ σ s (m++[v]):=by
 have t:∀y,(y,fX)∈d.names->∃c,Y.cells.lookup y=aa c:=λy f=>S.f.q y (by delta oS;exact S.p.symm▸(F.h y f).1)
 have lk:∀y,oS (rm d (jF d Y.cells) p Y) y=(d.names.lookup y).map (rk Y.scope y):=λy=>Lm Y.scope y d.names
 refine⟨S.h,⟨F.e,S.f.h,S.f.p,H,λy c e=>S.f.f y c (Iu t e).2,λy c f e=>?_,λy f=>?_⟩,by rw[jh,<-S.p];rfl,S.e,?_,λi y u a j L=>?_⟩
 ·rw[lk]at f
  exact aB (fj.mp f) λk l g=>S.f.t y c (Lr g<|F.g _<|mem_of_lookup l).2 (Iu t e).2
 ·have D:d.names.lookup y=aa .free:=by
   rw[lk]at f
   cases l:d.names.lookup y with
   |none=>rw[l]at f;exact f.elim aY aY
   |some k=>rw[l]at f;exact aQ aa<|Yh (f.imp bo bo)<|F.g _<|mem_of_lookup l
  obtain⟨c,e⟩:=t y<|mem_of_lookup D
  exact⟨c,Iv (mem_of_lookup D) e⟩
 ·rw[jh,bm,bm,bq,S.q.1];rfl
 ·rcases QJ ((bq _).trans S.q.1.symm) a j with⟨a,j⟩|⟨a,j⟩
  ·replace a:=(fT)▸a
   refine aB (fj.mp a) λo N a=>aB (jD a) λz P a=>?_;subst P
   obtain⟨q,rfl⟩:=qr a
   have G:=bO (aj q).2
   have w:=mem_of_lookup G
   refine aB (S.q.2 i z u N j L) λQ b r=>?_
   have g:=F.h z w
   replace g:=S.p▸g
   obtain⟨c,a⟩:=t z w
   refine(aC Q (.inr ⟨?_,?_⟩) r)
   ·refine af (lk ..)<|af G ?_
    show aa (rk Y.scope z .free)=_\/_
    delta rk
    rcases g with⟨h|h,B⟩
    ·exact .inl<|aQ aa<|aq (by refine af h ?_;refine af (show Y.scope.kind=.function from S.f.e) ?_;rfl)
    ·exact .inr ⟨aQ aa<|ap<|by refine af h ?_;refine af (kK ..) ?_;exact λq=>dK q.2,B⟩
   ·rcases b with⟨h,_⟩|⟨_,R,h,B⟩
    ·delta oS at h
     replace g:=h▸g
     exact g.1.elim (λq=>nomatch q) λq=>nomatch q
    ·exact(aC R (Iv w h) B)
  ·obtain rfl:=bo a
   exact af j ⟨rv,.inl<|rU (by refine af (lk ..) ?_;refine af F.f ?_;rfl) M I J,ev⟩
end
section
variable{C:Ctx}{X:ao->Prop}{cx:Cx}
def m9{E:am->az->Prop}(h:aE M A t Q bx s):aE M A t Q E s:=cE h (λa a x=>x) λa a e=>e.elim
def Vc{E:am->az->Prop}(J:gB X φ s.heap I i b)(q:Q (.ref I) s):aE (aN C.e C.w) A (vj<|.ref I) Q E s:=J.f (P:=λa=>aE (aN C.e C.w) A (vj<|.ref I) Q E s) (λa a J=>wpAny_pyIter_striter_ascii J q) (λa a J=>wpAny_pyIter_striter_wide J q) (λa a a J=>wpAny_pyIter_tupleiter J q) (λa a a J=>Hj J q) (λa a J=>wpAny_pyIter_rangeiter J q) λa a a J=>Hj J q
def Step.U{φ H b:aX}{F:ao->Prop}(x:Step F0 φ s H Y)(y:Step F H Y b c)(g:∀a,F a->s.heap.objs.size<=a):Step F0 φ s b c:=by
 refine⟨λa o e d f=>y.ext a o (x.ext a o e d f) (λq=>?_) λq=>aD (cK e)<|eZ.mpr<|g a q,λr p e=>y.q r p<|x.q r p e,λa e=>?_,ay x.h y.h,y.J.trans x.J,y.N.trans x.N,y.L.trans x.L⟩
 ·rcases x.t a q with q|q;·exact d q
  ·exact aD (cK e)<|eZ.mpr q
 ·rcases y.t a e with q|q;·exact x.t a q
  ·exact .inr<|ay x.h q
def dQ.L(S:dQ C n A X W cx φ σ s m)(h:X a)(k:∀b o,b≠a->s.heap.get? b=aa o->d.get? b=aa o)(q:s.heap.objs.size<=d.objs.size)(l:Nat)(w:a≠W.locals)(y:∀n c,W.cells.lookup n=aa c->c≠a):dQ C n A X W cx φ σ {s with heap:=d,toks:=l} m/\Step (λb=>b=a) φ s φ {s with heap:=d,toks:=l}/\dx (aM X φ) φ s.heap (aM X φ) φ d:=by have st:Step (λb=>b=a) φ s φ {s with heap:=d,toks:=l}:=⟨λb o e p f=>k b o f e,λp p e=>e,λp e=>.inl e,q,rfl,rfl,rfl⟩;have t:dx (aM X φ) φ s.heap (aM X φ) φ d:=st.f λb e=>e▸h;exact⟨⟨S.h,S.f,S.p,(S.e.N (λb=>b=a) (λb e=>e▸h) (λb e=>e▸(S.e.e a h).2.2) (λb o e z=>k b o z e) q),S.q.1,λi x v D F G=>(aB (S.q.2 i x v D F G) λrv b r=>(aC rv (b.e (λo e=>k _ _ (dM w) e) λn c e o g=>k _ _ (y n c e) g)<|VR.e t _ _ r))⟩,st,t⟩
noncomputable abbrev Mz(a:List ax)(W:cZ):d8 Bool:=forIn a true λc r=>if r=true then do let b<-xB c W (fY c W);pure (Ae b)else pure (Ae r)
noncomputable def rH(C:Ctx)(n:Nat)(b:Cx)(c:List ax)(d:ax)(m:List V)(f:V->St->(Option V->St->Prop)->Prop):Prop:=∀{A X W φ σ s v}(k:Option V->St->Prop),dQ C n A X W b φ σ s (m++[v])->f v σ k->aE (aN C.e C.w) A (Mz c W) (λe a=>if e=true then aE (aN C.e C.w) A (fY d W) (a_ C X φ s λg σ=>k (aa g) σ) bx a else iM C X φ s (λσ=>k ae σ) a) bx s
def ME{e:E}{a:ax}{b:Cx}(c:bP C n e a b)(m:List V):rH C n b [] a m (λx σ k=>aF C n e (m++[x]) σ λv σ=>k (aa v) σ):=by intro A X W φ σ s v k S w;exact ba (by exact c S w)
def turn_if(i:bP C n e g f)(l:gG C n c a f)(m:List V):rH C n f [a] g m (λx σ k=>aF C n c (m++[x]) σ λb σ=>∃d,b=.g d/\if d then(aF C n e (m++[x]) σ λv σ=>k (aa v) σ)else k ae σ):=by intro A X W φ σ s v k S w;show aE _ A (forIn [a] true _) _ _ s;refine af (N4 ..)<|aA<|aA<|S.y (l S w) λH u d Y h st q=>ba<|ba ?_;cases d with|true=>exact jZ st (i h q)|false=>exact(cp H u st h.e q)
def yF(h:gK a=aa b)(σ:St):me σ a=aa b:=by cases a<;>first|exact h|exact aY h
structure pE(C:Ctx)(X X':ao->Prop)(s:az)(W:cZ)(I D B:ao):Prop where
 T:∀a,X a->X' a
 J:X' I
 p:X' D
 g:X' B
 q:s.heap.objs.size<=I
 f:s.heap.objs.size<=D
 e:s.heap.objs.size<=B
 N:I≠D
 L:I≠B
 h:D≠B
 F:∀a,s.heap.objs.size<=a->a≠W.locals
 t:∀a,s.heap.objs.size<=a->∀y c,W.cells.lookup y=aa c->c≠a
structure Lp(C:Ctx)(n:Nat)(A:bU)(X':ao->Prop)(W:cZ)(cx:Cx)(φ:aX)(s:az)(m:List V)(D B:ao)(H:aX)(u:St)(l:List V)(j:Array am)(m':ah->Option am)(Y:az):Prop where
 S:dQ C n A X' W cx H u Y m
 h:Step F0 φ s H Y
 g:Y.heap.PlainList D j
 e:bd (aM X' H) H Y.heap l j.toList
 f:Y.heap.Ns B m'
section
variable{X':ao->Prop}{m':ah->Option am}
abbrev CH(X':ao->Prop)(I:ao)(H:aX)(Y:az)(b:aX)(c:aO):Prop:=∀(i:Nat)(a:V),gB X' H Y.heap I i a->gB X' b c I i a
def Lp.p(G:pE C X X' s W I D B)(L:Lp C n A X' W cx φ s m D B H u l j m' Y){b:aO}(c:Nat)(k:lu I Y.heap b)(f:Y.heap.objs.size<=b.objs.size):Lp C n A X' W cx φ s m D B H u l j m' {Y with heap:=b,toks:=c}/\dx (aM X' H) H Y.heap (aM X' H) H b:=by exact eQ (L.S.L G.J k f c (G.F _ G.q)<|G.t _ G.q) λg h d=>⟨⟨g,Step.U L.h h λa e=>e▸G.q,L.g.at λi e=>k _ _ (dM G.N) e,bd.e d _ _ L.e,L.f.at' λi e=>k _ _ (dM G.L) e⟩,d⟩
def Lp.y(G:pE C X X' s W I D B)(L:Lp C n A X' W cx φ s m D B H u l j m' Y)(d:Nat)(k:lu B Y.heap b)(g:Y.heap.objs.size<=b.objs.size){f:ah->Option am}(h:b.Ns B f):Lp C n A X' W cx φ s m D B H u l j f {Y with heap:=b,toks:=d}/\dx (aM X' H) H Y.heap (aM X' H) H b/\CH X' I H Y H b:=by exact eQ (L.S.L G.g k g d (G.F _ G.e)<|G.t _ G.e) λo p c=>(kz (⟨o,Step.U L.h p λa e=>e▸G.e,L.g.at λq e=>k _ _ G.h e,bd.e c _ _ L.e,h⟩) c λi r J=>J.e c λq e=>k _ _ G.L e)
theorem Lp.q(G:pE C X X' s W I D B)(L:Lp C n A X' W cx φ s m D B H u l j m' Y){f:St}(st:Step F0 H Y c b)(R:bA C X' c f b.heap):Lp C n A X' W cx φ s m D B c f l j m' b/\CH X' I H Y c b.heap:=by have g:=st.f (X:=X') λh q=>q.elim;have d:∀a,X' a->∀o,Y.heap.get? a=aa o->b.heap.get? a=aa o:=λa x o e=>st.ext _ _ e (L.S.e.e _ x).1 λq=>q;exact⟨⟨L.S.t st R,L.h.e st,L.g.at<|d _ G.p,bd.e g _ _ L.e,L.f.at'<|d _ G.g⟩,λi k J=>J.e g<|d _ G.J⟩
def Lp.t(G:pE C X X' s W I D B)(L:Lp C n A X' W cx φ s m D B H u l j m' Y){b:aO}(k:lu D Y.heap b)(f:Y.heap.objs.size<=b.objs.size){z:am}{d:V}(g:VR (aM X' H) H Y.heap d z)(h:b.PlainList D (j.push z)):Lp C n A X' W cx φ s m D B H u (l++[d]) (j.push z) m' {Y with heap:=b}/\CH X' I H Y H b:=by exact eQ (L.S.L G.p k f Y.toks (G.F _ G.f)<|G.t _ G.f) λo p c=>⟨⟨o,Step.U L.h p λa e=>e▸G.f,h,by exact uD.symm▸(bd.e c _ _ L.e).g (bd.J<|VR.e c _ _ g),L.f.at' λq e=>k _ _ (dM G.h) e⟩,λi r J=>J.e c λq e=>k _ _ G.N e⟩
def HB(C:Ctx)(A:bU)(b:ax)(c:List ax)(d:ax)(W:cZ)(e:am)(v:am)(R:az->Prop)(s:az):Prop:=aE (aN C.e C.w) A (iN b W v) (λf g=>aE (aN C.e C.w) A (Mz c W) (λh a=>if h=true then aE (aN C.e C.w) A (fY d W) (λx i=>aE (aN C.e C.w) A (fM (.builtin "list.append") [e,x]) (λf k=>R k) bx i) bx a else R a) bx g) bx s
def SN{f b l:ax}(J:Nat->az->Prop)(qL:∀n s,J n s->aE (aN C.e C.w) A (oX c) (λr d=>AO r (k (.ok .next) d) λv=>HB C A b g f W i v (λY=>∃m,m<n/\J m Y) d) bx s)(n:Nat)(h:J n s)(q:∀v,pV b c v=pure ()):oV (aN C.e C.w) A (.compLoop (.ListComp f [⟨b,l,g,0⟩] o p) 0 c i W) k s:=by refine codeAny_compLoop_tests J (λn s t=>m9<|cE (qL n s t) (λr d h=>?_) λa a e=>e) n h q;cases r with|none=>exact h|some v=>refine m9<|cE h (λa x h=>m9<|cE h (λw y h=>?_) λa a e=>e) λa a e=>e;cases w with|false=>exact h|true=>exact m9<|cE h (λa a h=>m9 h) λa a e=>e
def S8(F:sJ cx a x){f:V->St->(Option V->St->Prop)->Prop}(ag:rH C n (jh cx a x) q p m f)(G:pE C X X' s W I D B){k:Option V->St->Prop}{R:az->Prop}(hl:l.length<=cN)(L:Lp C n A X' W cx φ s m D B H u l j m' Y)(J:gB X' H Y.heap I i r)(ey:VR (aM X' H) H Y.heap v y)(w:f v u k)(t:∀H u(o:Option V)j m' Y,Lp C n A X' W cx φ s m D B H u (l++o.toList) j m' Y->gB X' H Y.heap I i r->k o u->R Y):HB C A (.Name x px) q p (rm a (jF a W.cells) B W) (.ref D) y R Y:=by refine BB<|Qa (GX F.f) L.f (λh4 M N=>?_) (by refine af (show(rm a (jF a W.cells) B W).scope.kind=.function from F.e) ?_;rfl);refine eQ (L.y G (Y.toks+1) (λb o c e=>N.extBut b o c e) (bf N.1.symm) M) λd av P=>cE (ag _ (SZ F d.S G.g M (aq rfl)<|VR.e av _ _ ey) w) (λok dk Q=>?_) λg g e=>e;cases ok with|false=>refine dA Q λaS aU aW bw bC=>?_;obtain⟨L5,bF⟩:=d.q G aW bw;exact t aS aU ae j _ _ ((hK l).symm▸L5) (bF _ _<|P _ _ J) bC|true=>exact cE Q (λz dq bH=>(fJ bH λbI bL mz ca cw ez cM=>cj (d.q G ca cw) λh cQ=>P3 h.g (λh7 P7 U=>(cj (h.t G (λb o c e=>U.extBut b o c e) (bf U.1.symm) ez P7) λL7 dg=>t bI bL (aa mz) _ _ _ L7 (dg _ _<|cQ _ _<|P _ _ J) cM))<|h.e.f▸hl)) λg g e=>e
def S7(F:sJ cx b x){f:V->St->(Option V->St->Prop)->Prop}(M:rH C n (jh cx b x) r elt m f)(G:pE C X X' s W I D B)(N:gK d=aa a)(P:a.length<=cN){Q:List V->St->Prop}{RR:rf->az->Prop}(R:∀H u l j m' Y,Lp C n A X' W cx φ s m D B H u l j m' Y->Q l u->RR (.ok .next) Y)(L:Lp C n A X' W cx φ s m D B H u [] #[] m' Y)(J:gB X' H Y.heap I 0 d)(w:h_ f a [] u Q):oV (aN C.e C.w) A (.compLoop (.ListComp elt [⟨.Name x px,iter,r,0⟩] b pos) 0 (.ref I) (.ref D)<|rm b (jF b W.cells) B W) RR Y:=by
 refine SN (λk Y=>∃(i:Nat)(H:aX)(u:St)(l:List V)(j:Array am)(m':ah->Option am),k+i=a.length+1/\l.length<=i/\Lp C n A X' W cx φ s m D B H u l j m' Y/\gB X' H Y.heap I i d/\h_ f (a.drop i) l u Q) ?_ (a.length+1) (U7 0 _ _ ([]) (#[]) _ rfl (bb _) L J w) λx_=>rfl;rintro k Y ⟨i,H,u,l,j,m',t,z,L,J,w⟩;refine yO L.S.h.e L.S.e G.J J (yF N u) (λU g v y h p q ey J3=>?_) λU g h p q=>?_;·obtain⟨c,e⟩:=b_.mp q;rw[EB c,e]at w;obtain⟨L3,au⟩:=L.p G g h p;exact S8 F M G (ay z<|ay (bu c) P) L3 J3 (VR.e au _ _ ey) w λH u o j m' Y L J w=>⟨k-1,(qL t c).1,i+1,H,u,_,j,m',(qL t c).2,(af bm<|fL z<|by cases o with|none=>exact da _|some _=>exact bb _),L,J,w⟩
 ·replace w:=(EC<|pH.mp q)▸w;exact R H u l j m' _ (L.p G g h p).1 w
end
def IE(F:sJ cx scope x){f:V->St->(Option V->St->Prop)->Prop}(an:rH C n (jh cx scope x) p elt m f)(S:dQ C n A X W cx φ σ s m)(ev:VR (aM X φ) φ s.heap r t)(v:gK r=aa g)(au:g.length<=cN){Q:List V->St->Prop}(w:h_ f g [] σ Q){RR:am->ao->rf->az->Prop}(av:∀X' I D B H u l j m' Y,pE C X X' s W I D B->Lp C n A X' W cx φ s m D B H u l j m' Y->Q l u->RR (.ref D) B (.ok .next) Y):aE (aN C.e C.w) A (vj t) (λit aS=>aE (aN C.e C.w) A (newList []) (λz aU=>aE (aN C.e C.w) A (newFunctionEnv scope W.globals (jF scope W.cells) [] W.qual ae .none<|aa W) (λM aW=>oV (aN C.e C.w) A (.compStart (.ListComp elt [⟨.Name x px,iter,p,0⟩] scope pos) 0 it z {M with scope:=relabel scope W}) (RR z M.locals) aW) bx aU) bx aS) bx s:=by
 refine CC S.e ev (yF v σ) λo fo J=>tn ?_<|da _;refine P6 F.g (λy hy=>nomatch hy) (λd bE N=>?_) F.e;have h:(s.heap.push o).objs.size=s.heap.objs.size+1:=eh _ _;have i:=(eh (s.heap.push o)<|im #[] 0).trans<|aQ oR h;have P:=N.1.trans<|(eh _ _).trans<|aQ oR i;have R:∀a b,(s.heap.push o).get? a=aa b->((s.heap.push o).push<|im #[] 0).get? a=aa b:=dB _ _;have k:∀a b,a<s.heap.objs.size+2->((s.heap.push o).push<|im #[] 0).get? a=aa b->d.get? a=aa b:=λa b lt e=>N.extBut a b (λq=>aD lt<|eZ.mpr<|bf<|i.symm.trans q.symm)<|e_ _ e;have kk:∀a b,s.heap.get? a=aa b->d.get? a=aa b:=λa b e=>k a b (aR (cK e)<|bB _ _)<|R _ _<|dB _ _ _ _ e;have U:s.heap.objs.size<=d.objs.size:=P▸bB _ 3;obtain⟨S2,bI⟩:=S.J kk U<|s.toks+([]:List (ah×am)).length;have G:pE C X (Lake.more X s.heap.objs.size d.objs.size) s W s.heap.objs.size (s.heap.push o).objs.size ((s.heap.push o).push<|im #[] 0).objs.size:=by refine af i<|af h ?_;exact P.symm▸⟨λa q=>.inl q,.inr ⟨bb _,kU<|show 0<3 by decide⟩,.inr ⟨eC _,cY<|bY _⟩,.inr ⟨bB _ 2,bY _⟩,bb _,eC _,bB _ 2,bZ<|bY _,bZ<|cY<|bY _,bZ<|bY _,λa q e=>dE _<|aR ((λa q=>(S.e.e a q).2.1) _ S.f.g)<|e▸q,λa q y c e1 e2=>dE _<|aR (S.e.J<|S.f.f y c e1).2 (e2▸q)⟩
 have J2:=J (Lake.more X s.heap.objs.size d.objs.size) d bI<|k _ _ (kU<|show 0<2 by decide)<|R _ _<|dF _ fo;have L:Lp C n A _ W cx φ s m (s.heap.push o).objs.size ((s.heap.push o).push<|im #[] 0).objs.size φ σ [] #[] _ _:=⟨S2,(Step.y (φ:=φ) (s:=s) kk U<|s.toks+([]:List (ah×am)).length),⟨_,k _ _ (h▸bY _)<|dF _ rfl⟩,rfl,bE⟩;have ag:=S7 (elt:=elt) (iter:=iter) (px:=px) (pos:=pos) F an G v au (RR:=RR _ _) (λH u l j m' Y L q=>av _ _ _ _ H u l j m' Y G L q) L J2 w;exact codeAny_compStart_list ag<|Vc (s:={s with heap:=d,toks:=s.toks+([]:List (ah×am)).length}) J2 ag
end
section
open PyProof.Rows (IntsAre seqObj sortedHeap)
variable{X:ao->Prop}
theorem a_.p(R:bA C X φ σ s.heap)(k:∀b o,s.heap.get? b=aa o->a.get? b=aa o)(d:s.heap.objs.size<=D)(g:a.get? D=aa (im i c))(e:bd (aM X φ) φ s.heap vs i.toList)(q:iK vs σ Q)(f:Nat):a_ C X φ s Q (.ref D) {s with heap:=a,toks:=f}:=by
 have h:=cK g;have j:s.heap.objs.size<=a.objs.size:=bu<|aL d h;have l:=R.F d;rcases q with q|⟨r,m,q⟩;·exact a_.f R k j (mv:=.y vs) (dO _ _ _ rfl l g<|bd.e (t8 k) _ _ e) q f
 ·exact a_.h R k j (p:=(D,D)) m ⟨d,h⟩ ⟨d,h⟩ (o:=.e vs) (λn=>(c_ _ _ g<|bd.e n _ _ e)) q f
def a_.J{f:Array am}(R:bA C X φ σ s.heap)(k:∀b o,s.heap.get? b=aa o->d.get? b=aa o)(h:s.heap.objs.size<=D)(g:d.get? D=aa (pw f c))(e:bd (aM X φ) φ s.heap a f.toList)(q:Q (.h a) σ)(i:Nat):a_ C X φ s Q (.ref D) {s with heap:=d,toks:=i}:=by have j:=cK g;exact a_.f R k (bu<|aL h j) (mv:=.h a) (dO _ _ _ rfl (R.F h) g<|bd.e (t8 k) _ _ e) q i
theorem vT:∀{c:List Int}{a:List am},bd b φ h (c.map .e) a->va a c|[],a,e=>(show a=[]from e)▸.nil|i::c,a,e=>dA e λx g h d f=>h▸aV d λt h=>h▸.cons i t (vT f)
def HR(e:va c a):bd b φ h (a.map .e) c:=by induction e with|nil=>rfl|cons i t r d=>exact cp _ _ rfl ⟨t,rfl⟩ d
end
def Up(a:Array Nat):Prop:=∀i j(b:i<a.size)(c:j<a.size),i<j->a[i]<a[j]
theorem Up.e(b:Up a)(c:i<a.size)(d:k<a.size)(h:i<=k):a[i]<=a[k]:=(u5 h).elim (λq=>bu<|b i k c d q) λe=>by subst e;exact bb _
def Lo(a:Array Nat)(j n:Nat):Prop:=∀i(h:i<a.size),i<n->a[i]<j
def Hi(a:Array Nat)(j n:Nat):Prop:=∀i(h:i<a.size),n<=i->j<=a[i]
def Bl(a:Array Nat)(j n:Nat):Prop:=n<=a.size/\Lo a j n/\Hi a j n
def Sh(p:Up b)(j c:Nat):∀lo a:Nat,lo<=a->a<=b.size->a-lo<=c->Lo b j lo->Hi b j a->Bl b j (Gi b j c lo a):=by induction c with|zero=>exact λlo a d e f g k=>⟨ay d e,g,(j8 d<|OG<|E4.mp f).symm▸k⟩|succ c q=>intro lo a d e f g k;show Bl b j (if lo<a then(if b.getD ((lo+a)/2) j<j then Gi b j c ((lo+a)/2+1) a else Gi b j c lo ((lo+a)/2))else lo);refine fO (λh=>?_) λh=>⟨ay d e,g,(j8 d<|jb h).symm▸k⟩;have lm:lo<=(lo+a)/2:=(Nat.le_div_iff_mul_le bl).mpr<|ay (bf<|Nat.mul_two lo)<|cy d lo;have m:(lo+a)/2<a:=Nat.div_lt_of_lt_mul<|aR (u3 h a)<|bf (E_ a).symm;have l:=aR m e;refine af (show b.getD ((lo+a)/2) j=b[(lo+a)/2]from dif_pos l) ?_;exact fO (λn=>q _ _ m e (ay (Nat.sub_le_sub_left (eM lm) a)<|Nat.pred_le_pred f) (λi o r=>aL (p.e o l<|f_ r) n) k) λn=>q _ _ lm (bu l) (f_<|aR (Nat.sub_lt_sub_right lm m) f) g λi o s=>ay (jb n)<|p.e l o s
def B5(b:Up a)(j:Nat):Bl a j (ki a j):=Sh b j a.size 0 a.size (da _) (bb _) (E8 ..) (λi h q=>aD q<|oQ _) λi h q=>aD h<|AJ q
def Si(e:Up d)(i:Nat)(h:i<d.size):ki d (d[i]+1)=i+1:=by
 refine eQ (B5 e<|d[i]+1) λa b c=>?_;rcases Nat.lt_trichotomy (ki d<|d[i]+1) (i+1)with q|q|q;·have:=c i h (by exact(f_ q));exact(dE _<|oO this).elim
 ·exact q
 ·have f:i+1<d.size:=by exact(aR q a)
  exact(dE _<|aL (f_<|b (i+1) f q)<|e i (i+1) h f<|by exact(bY _)).elim
def Sj(e:Up d):ki d 0=0:=by
 refine eQ (B5 e 0) λa b c=>db (OC<|ki d 0) (λq=>?_) λq=>?_;·exact q
 ·have:=b 0 (by exact(aR q a)) q;exact(oQ _ this).elim
def LU(a:Array b)(p:Nat)(x:b):(Pt a p x).size=a.size+1:=by simpa using((Pu a p x).length_eq)
def zK:Up c↔c.toList.Pairwise (·< ·):=by rw[List.pairwise_iff_getElem];exact⟨λh i j a b q=>h i j a b q,λh i j a b q=>h i j a b q⟩
def aas(h:Up d)(r:d[ki d j]?≠aa j):Up (Pt d (ki d j) j):=by
 refine eQ (B5 h j) λa b c=>?_;generalize ki d j=p at*;have m:∀y∈d.toList.drop p,j<y:=λy g=>by
  obtain⟨i,f,rfl⟩:=uX.mp g;replace f:=List.length_drop▸f;have f:p+i<d.size:=hY i p▸Nat.add_lt_of_lt_sub f;have k:p<d.size:=aL (bB p i) f;have n:j<d[p]:=mI (c p k<|bb p) λe=>r<|e▸oA k;refine af List.getElem_drop ?_;show j<d[p+i];rcases OC i with rfl|q;·exact n
  ·exact bj n<|h p (p+i) k f<|kU q
 have o:∀y∈d.toList.take p,y<j:=λy g=>by obtain⟨i,f,rfl⟩:=uX.mp g;refine af List.getElem_take ?_;rw[uV]at f;exact b i (aR f<|u7 ..)<|aR f<|lQ ..
 rw[zK,SetTable.toList_insertAt];refine On.mpr ⟨(zK.mp h).sublist<|Ov ..,wW.mpr ⟨m,(zK.mp h).sublist<|List.drop_sublist ..⟩,λy g z l=>?_⟩;rcases cB.mp l with rfl|l;·exact o y g
 ·exact bj (o y g)<|m z l
def aat(n:Nat):Up (Array.range n):=by intro i j a b h;simpa using h
def aar(f:Nat->Option d)(n:Nat):Up (((bM n).filterMap λj=>(f j).map (j, ·)).map (·.1)).toArray:=by refine zK.mpr<|AB.mpr<|aaP _ (λa b h x e y g=>?_) EU;refine aB (fj.mp e) λu i c=>?_;subst c;refine aB (fj.mp g) λv i c=>?_;subst c;exact h
structure eE(t:cC):Prop where
 f:Up t.place
 e:t.dummies= #[]
def slot_of(T:eE t)(h:t.slot j=.empty):t.place[ki t.place j]?≠aa j:=λe=>nomatch (show abJ (ki t.place j)=.empty from(aq<|beq_iff_eq.mpr e).symm.trans h)
def has_none(T:eE t)(j:Nat):Ps t.dummies j=false:=T.e.symm▸rfl
def KL(T:eE t)(j:Nat):t.slot j≠.dummy:=by delta Gl;exact fO (λc e=>nomatch e) λc=>af (ap<|by rw[has_none T];exact dR) λe=>nomatch e
def HH{t:cC}{p:Pq}(h:p.dummy=ae):(t.advance p).dummy=ae:=by delta Gh;exact fO (λc=>h) λc=>h
def XR{t:cC}(T:eE t)(f:Nat->Int)(h:Int):∀(a:Nat)(p:Pq)(j:Nat)(d:Option Nat),p.dummy=ae->pQ t f h a p=aa (.empty j d)->d=ae/\t.slot j=.empty:=by intro l;induction l with
 |zero=>intro p j d g e;exact aY e
 |succ a m=>intro p j d g e;replace e:abL (λk=>Option Pp) (t.slot p.j) (λk=>aa<|.empty p.j p.dummy) (λk=>pQ t f h a<|t.advance {p with dummy:=aa p.j}) (λi=>if(f i==h)=true then aa (.candidate p.j i<|t.advance p)else pQ t f h a (t.advance p))=aa (.empty j d):=e;cases b:t.slot p.j with
  |dummy=>exact aD b<|KL T _
  |empty=>rw[b]at e;cases e;exact⟨g,b⟩
  |live i=>
   rw[b]at e;by_cases c:(f i==h)=true;·exact nomatch (aq c).symm.trans e
   ·exact m _ j d (HH g)<|(ap c).symm.trans e
def Uu(T:eE t){h:Int}(e:t.freeSlot h=aa (a,b)):t.place[ki t.place a]?≠aa a/\b=false:=by delta SetTable.freeSlot at e;cases q:t.probe (λg=>h+1) h (t.probeStart h)with|none=>rw[q]at e;exact aY e|some m=>rw[q]at e;cases m with|candidate=>exact aY e|empty j d=>refine cj (XR T _ _ _ _ j d rfl q) λc f=>?_;subst c;cases e;exact⟨slot_of T f,rfl⟩
def Li(T:eE t)(h:t.place[ki t.place j]?≠aa j):eE (t.put j).1/\(t.put j).1.led=t.led/\(t.put j).1.mask=t.mask/\(t.put j).1.plain=t.plain:=ij ⟨aas T.f h,(ap<|by rw[has_none T];exact dR).trans T.e⟩ rfl rfl rfl
def zx(t:cC)(n:Nat):eE (t.standIn n)/\(t.standIn n).led=t.led:=⟨⟨aat n,rfl⟩,rfl⟩
def Xo(T:eE t)(n:Nat):eE (t.orStandIn n)/\(t.orStandIn n).led=t.led:=by delta SetTable.orStandIn;exact fO (λc=>⟨T,rfl⟩) λc=>zx t n
def VX(T:eE t)(a:Array (Int×am))(h:Int)(x:am):eE (layNew t a h x).2.1/\(layNew t a h x).2.1.led=t.led:=by delta layNew;cases e:t.freeSlot h with|none=>exact zx t _|some p=>exact eQ (Li T (Uu T e).1) λb c d=>(Xo b _).imp_right λq=>q.trans c
def JZ{c plain:Bool}(e:xk b g h c plain d=aa (a,i)):eE a/\a.led=c/\a.mask=b/\a.plain=plain:=by delta xk at e;cases f:SetTable.layClean b d with|none=>rw[f]at e;exact aY e|some k=>rw[f]at e;refine cj (Prod.mk.inj<|bo e) λj l=>?_;subst j;exact(ij (⟨aar _ _,rfl⟩) rfl rfl rfl)
def Yb(T:eE t)(a:Array (Int×am))(b:Nat):eE (tj t a b).2.1/\(tj t a b).2.1.led=t.led:=by delta tj;cases e:t.relaid (a.map (·.1)) b with|none=>exact zx t _|some p=>exact eQ (JZ e) λd f g=>fO (motive:=λr:Array (Int×am)×cC×Bool=>eE r.2.1/\r.2.1.led=t.led) (λc=>⟨d,f⟩) λc=>zx t _
section
variable{Y:eD}{w:dp}{K:Type}[DecidableEq K]{knd:rd Y w K}{A:bU}{E:am->az->Prop}{s:az}
noncomputable abbrev gY(a:Array (Int×am))(b:Nat)(t:cC):jf:=⟨.type "set",ae,.set a b t,#[]⟩
def zB(e:s.heap.get? D=aa (gY f d t))(g:a.size<=cN)(q:∀c,gd D s.heap c->c.get? D=aa (gY a (d+1) b)->Q () {s with heap:=c}):aE (aN Y w) A (xJ D a b) Q E s:=by exact wpAny_storeSet_of e rfl (q _ (ka _ _ _)<|(oT (Obj.putSet a b) e<|by rfl)) g
def Yr{D:ao}{es:Array (Int×am)}{ep:Nat}{t:cC}{k:K}{x:am}{Q:Bool->az->Prop}(ho:s.heap.get? D=aa (gY es ep t))(hf:t.fits es.size=true)(T:eE t)(hel:ElemsOf knd es.toList)
  (hkey:knd.is k x=true)(hsc:x.scannable=true)(hb:es.size+1<scanBound)
  (h1:(∃e∈es.toList,knd.is k e.2=true)->Q false s)
  (h2:(∀e∈es.toList,knd.is k e.2=false)->∀h' es' ep' t',gd D s.heap h'->h'.get? D=aa (gY es' ep' t')->t'.fits es'.size=true->eE t'->t'.led=t.led->iq es'.toList (es.push (knd.hash k,x)).toList->Q true {s with heap:=h'}):
  aE (aN Y w) A (G5 D x<|knd.hash k) Q E s:=by
 unfold G5 setAddHashedIn
 refine dS<|aA<|lh ho rfl hf ?_
 dsimp only
 refine af (byScan_of hsc (by exact(bj (bY _) hb)) hel) ?_
 unfold setAddByScan
 refine aA<|aA<|rz ?_
 refine aA<|wpAny_setScan_of hkey ho rfl hf hel ?_
 cases hr:EH (λe=>knd.is k e.2) es.toList with
 |some j=>
  dsimp only
  refine aB (EJ.mp hr) λhj hpj x_=>?_
  exact ba<|ba<|h1<|aC _ (s0 hj) hpj
 |none=>
  dsimp only
  have hno:=List.findIdx?_eq_none_iff.mp hr
  have hgw:∀(b:Bool){s₁:az}{Q':Unit->az->Prop},Q' () s₁->aE (aN Y w) A (match b with|true=>rule "set.scan.the-table-gave-way"|false=>pure ()) Q' E s₁:=
   λb s₁ Q' hq=>by cases b<;>first|exact ba hq|exact rz hq
  have hperm:=layNew_perm t es (knd.hash k) x
  have hfits:=layNew_fits t es (knd.hash k) x
  have htab:=VX T es (knd.hash k) x
  generalize hL:layNew t es (knd.hash k) x=L at hperm hfits htab⊢
  obtain⟨es1,t1,wasDummy,gave⟩:=L
  dsimp only at hperm hfits htab⊢
  have hsz1:es1.size=es.size+1:=by have:=hperm.length_eq;simpa using this
  have sb:scanBound=4096:=rfl
  refine aA<|hgw _ ?_
  have tail:∀t2:cC,t2.fits es1.size=true->eE t2->t2.led=t.led->aE (aN Y w) A (do
    xJ D es1 t2
    if(!wasDummy&&t2.tooFull)=true then do
      (match(tj t2 es1<|nQ es1.size).2.2 with|true=>rule "set.scan.the-table-gave-way"|false=>pure ())
      xJ D (tj t2 es1<|nQ es1.size).1 (tj t2 es1<|nQ es1.size).2.1
      pure (aa true)
     else pure (aa true)) (λr s'=>r=aa true/\Q true s') E s:=by
   intro t2 hf2 T2 hl2
   refine aA<|zB ho (by refine af hsz1 ?_;refine af bX ?_;exact(bu<|aR hb bl)) λh' hs' ho'=>?_
   split
   ·have hp:=relayAll_perm t2 es1<|nQ es1.size
    have hfr:=relayAll_fits t2 es1<|nQ es1.size
    have htr:=Yb T2 es1<|nQ es1.size
    generalize tj t2 es1 (nQ es1.size)=Rl at hp hfr htr⊢
    obtain⟨es2,t3,gave2⟩:=Rl
    dsimp only at hp hfr htr⊢
    refine aA<|hgw _ ?_
    refine aA<|zB ho' (by refine af ((show es2.size=es1.size from by have:=hp.length_eq;simpa using this)) ?_;refine af hsz1 ?_;refine af bX ?_;exact(bu<|aR hb bl)) λh'' hs'' ho''=>?_
    exact ba ⟨rfl,h2 hno h'' es2 _ t3 (hs'.trans hs'') ho'' hfr htr.1 (htr.2.trans hl2)<|hp.trans hperm⟩
   ·exact ba ⟨rfl,h2 hno h' es1 _ t2 hs' ho' hf2 T2 hl2 hperm⟩
  have fin:∀(r:Option Bool)(s':az),(r=aa true/\Q true s')->aE (aN Y w) A (match r with|some added=>pure added|none=>setAddHashedIn D x (knd.hash k) 99999) Q E s':=by
   rintro r s' ⟨rfl,q⟩
   exact ba q
  have off:∀t2:cC,t2.fits es1.size=true->eE t2->t2.led=t.led->({t2 with plain:=false}:cC).fits es1.size=true/\eE {t2 with plain:=false}/\({t2 with plain:=false}:cC).led=t.led:=λt2 a b c=>⟨SetTable.fits_plain_off a,⟨b.f,b.e⟩,c⟩
  split
  ·exact aA<|af (hashByValue_scannable 8 hsc)<|ba<|cE (tail _ (fO (λc=>hfits) λc=>(off _ hfits htab.1 htab.2).1) (fO (λc=>htab.1) λc=>(off _ hfits htab.1 htab.2).2.1)<|fO (λc=>htab.2) λc=>(off _ hfits htab.1 htab.2).2.2) (λr s' q=>fin r s' q) λx_ x_ e=>e
  ·exact aA<|ba<|cE (tail _ hfits htab.1 htab.2) (λr s' q=>fin r s' q) λx_ x_ e=>e
end
section
open SetTable
noncomputable def o4(t:cC):Nat->Probe->Probe|0,p=>p|k+1,p=>o4 t k<|t.advance p
def Qz(t:cC):∀(a b:Nat)(p:Probe),o4 t (a+b) p=o4 t b (o4 t a p):=by intro l_;induction l_ with|zero=>intro b p;exact aQ (λk=>o4 t k p) (j9 b)|succ a ih_=>intro b p;exact af (AL a b)<|ih_ b _
noncomputable def tz(mask i pe:Nat):Probe:={j:=i,more:=runEnd mask i-i,i:=i,perturb:=pe,dummy:=ae}
def QB(t:cC):∀(m:Nat)(p:Probe),p.more=m->p.dummy=ae->o4 t (m+1) p=tz t.mask (leap t.mask p.i p.perturb).1 (leap t.mask p.i p.perturb).2:=by intro l_;induction l_ with
 |zero=>intro p h hd;show t.advance p=_;unfold Gh;refine af (ap<|by exact(AJ<|bf h)) ?_;cases p;cases hd;rfl
 |succ m ih_=>
  intro p h hd;show o4 t (m+1) (t.advance p)=_;have e:t.advance p={p with j:=p.j+1,more:=p.more-1}:=by unfold Gh;rw[aq<|h.symm▸mJ m]
  refine af e ?_;rw[ih_ {p with j:=p.j+1,more:=p.more-1} (aQ Nat.pred h) hd]
def LG(a i:Nat):i<=runEnd a i/\runEnd a i-i<=9:=by
 delta runEnd;by_cases h:i+9<=a;·rw[aq h];exact⟨bB ..,bf<|wX ..⟩
 ·rw[ap h];exact⟨bb _,ay (bf<|xa i)<|da 9⟩
noncomputable def jj(a:Nat):Nat->Nat×Nat->Nat×Nat|0,x=>x|k+1,x=>jj a k<|leap a x.1 x.2
def QA(t:cC):∀(L:Nat)(i a:Nat),∃k≤10*L,o4 t k (tz t.mask i a)=tz t.mask (jj t.mask L (i,a)).1 (jj t.mask L (i,a)).2:=by intro b;induction b with
 |zero=>intro i a;exact⟨0,bb _,rfl⟩
 |succ L c=>
  intro i a;refine aB (c (leap t.mask i a).1 (leap t.mask i a).2) λk d e=>⟨(tz t.mask i a).more+1+k,?_,?_⟩;·exact ay (fL (eM (LG t.mask i).2) d)<|bf<|hY 10 _
  ·rw[Qz,(QB t _ (tz t.mask i a) rfl rfl)];exact e
def V0(c:Nat):∀(a b:Nat)(x:Nat×Nat),jj c (a+b) x=jj c b (jj c a x):=by intro d;induction d with|zero=>intro b x;exact aQ (λk=>jj c k x) (j9 b)|succ a e=>intro b x;exact af (AL a b)<|e b _
def V4(a:Nat):∀(k:Nat)(x:Nat×Nat),(jj a k x).2=x.2/32^k:=by intro b;induction b with|zero=>intro x;exact(Nat.div_one x.2).symm|succ k c=>intro x;show(jj a k<|leap a x.1 x.2).2=_;rw[c];show x.2/32/32^k=_;rw[Nat.div_div_eq_div_mul,Nat.pow_succ,Nat.mul_comm]
def V3(a:Nat):∀(k:Nat)(x:Nat×Nat),x.1<=a->(jj a k x).1<=a:=by intro b;induction b with|zero=>intro x h;exact h|succ k c=>intro x h;exact c _ (by show(x.1*5+1+x.2/32)%(a+1)<=a;have:=w_ (x.1*5+1+x.2/32) (y:=a+1) (by exact(aL (da _)<|bY _));exact(f_ this))
noncomputable def ya(a:Nat):Nat->Nat->Nat|0,i=>i|k+1,i=>ya a k<|(i*5+1)%(a+1)
def V2(a:Nat):∀(k i:Nat),jj a k (i,0)=(ya a k i,0):=by intro b;induction b with|zero=>intro i;exact rfl|succ k c=>intro i;show jj a k (leap a i 0)=_;have:leap a i 0=((i*5+1)%(a+1),0):=rfl;exact af this<|c _
noncomputable def yb(a:Nat):Nat->Nat->Nat->Bool|0,i,j=>i==j|k+1,i,j=>i==j||yb a k ((i*5+1)%(a+1)) j
def IF(a:Nat):∀(k i j:Nat),yb a k i j=true->∃c≤k,ya a c i=j:=by intro b;induction b with
 |zero=>intro i j h;exact⟨0,bb _,bO h⟩
 |succ k d=>
  intro i j h;rcases Bool.or_eq_true_iff.mp h with h|h;·exact⟨0,da _,bO h⟩
  ·exact aB (d _ j h) λc f e=>⟨c+1,eM f,e⟩
def Ti:∀i<8,∀j<8,yb 7 7 i j=true:=by decide+kernel
def Th:∀i<32,∀j<32,yb 31 31 i j=true:=by decide+kernel
def pF(m:Nat):Prop:=m=7\/m=31
def Tj(g:pF a)(b:i<=a)(d:j<=a):∃c≤a,ya a c i=j:=by
 rcases g with rfl|rfl;·exact IF 7 7 i j<|Ti i (by exact(aL b bl)) j (by exact(aL d bl))
 ·exact IF 31 31 i j<|Th i (by exact(aL b bl)) j (by exact(aL d bl))
def J6(g:pF a)(d:i<=a)(f:j<=a)(h:b<2^64):∃L≤13+a,(jj a L (i,b)).1=j:=by refine aB (Tj g (V3 a 13 (i,b) d) f) λc k e=>?_;refine⟨13+c,by exact(fL (bb _) k),?_⟩;rw[V0];have:jj a 13 (i,b)=((jj a 13 (i,b)).1,0):=q9 rfl<|(V4 a 13 (i,b)).trans<|Nat.div_eq_of_lt (by exact(aR h bl));rw[this,V2];exact e
def pL(t:cC)(p:Probe)(k:Nat):Prop:=p.dummy=ae/\∃m≤k,t.slot (o4 t m p).j=.empty
def Ia(h:Int):bits h<2^64:=by unfold bits;have h1:=Eh h (b:=(2^64:Int)) (by decide);exact(sS h1).mpr<|pG (Eg h (b:=(2^64:Int))<|by decide) (by decide)
def WM{t:cC}(g:pF t.mask){j:Nat}(a:j<=t.mask)(b:t.slot j=.empty)(h:Int):pL t (t.probeStart h) (10*(13+t.mask)):=by refine⟨rfl,?_⟩;refine aB (J6 g (by have:=w_ (bits h) (y:=t.mask+1) (by exact(aL (da _)<|bY _));exact(f_ this)) a<|Ia h) λL c e=>?_;refine aB (QA t L (bits h%(t.mask+1))<|bits h) λk d f=>⟨k,ay d<|jc 10 c,?_⟩;have:t.probeStart h=tz t.mask (bits h%(t.mask+1)) (bits h):=rfl;rw[this,f];show t.slot (jj t.mask L _).1=_;rw[e];exact b
def WL{t:cC}{p:Probe}{k:Nat}(n:pL t p k)(h:t.slot p.j≠.empty):∃k',k=k'+1/\pL t (t.advance p) k':=by refine W3 n λhd m hm e=>?_;cases m with|zero=>exact aD e h|succ m=>exact⟨k-1,(OU<|aR (mJ m) hm).symm,HH hd,m,OJ hm,e⟩
set_option smartUnfolding false in
theorem UB{h:Int}:pQ t f h (k+1) p=abI (motive:=λb=>Option Pp) (t.slot p.j) (aa<|.empty p.j p.dummy) (pQ t f h k<|t.advance {p with dummy:=aa p.j}) λi=>if f i==h then aa (.candidate p.j i<|t.advance p)else pQ t f h k (t.advance p):=rfl
def XS{t:cC}(T:eE t)(f:Nat->Int)(h:Int):∀(fuel:Nat)(p:Probe)(k:Nat),pL t p k->k<fuel->(∃j,pQ t f h fuel p=aa (.empty j ae)/\t.slot j=.empty)\/(∃j i next k',pQ t f h fuel p=aa (.candidate j i next)/\t.slot j=.live i/\f i=h/\pL t next k'/\k'<k):=by intro l_;induction l_ with
 |zero=>intro p k n hk;exact(oQ _ hk).elim
 |succ fuel ih_=>intro p k n hk;rw[UB];cases hs:t.slot p.j with
  |empty=>exact .inl ⟨p.j,by dsimp only;rw[n.1],hs⟩
  |dummy=>exact aD hs<|KL T _
  |live i=>
   refine aB (WL n<|by refine af hs ?_;simp) λk' hz1 n'=>?_;subst hz1;dsimp only;by_cases hf:(f i==h)=true;·exact af (aq hf)<|.inr ⟨p.j,i,t.advance p,k',rfl,hs,by simpa using hf,n',by exact(bY _)⟩
   ·refine af (ap hf) ?_;rcases ih_ _ k' n' (by exact(aR (bY _)<|f_ hk))with r|⟨j,i',nx,k2,e,h1,h2,h3,h4⟩;·exact .inl r
    ·exact .inr ⟨j,i',nx,k2,e,h1,h2,h3,by exact(bj h4<|bY _)⟩
def TZ(T:eE t)(h:t.place.size<=t.mask):∃j≤t.mask,t.slot j=.empty:=by
 have:∃j,j<=t.mask/\j∉t.place.toList:=by refine DS λb=>?_;have:=yQ Om λj a=>DS λc=>b ⟨j,by have:=fz.mp a;exact(f_ this),c⟩;simp at this;exact(dE _<|aL h<|oO this)
 refine aB this λj a d=>⟨j,a,?_⟩;unfold Gl;have f:(t.place[ki t.place j]? ==aa j)=false:=by exact zU.mpr λe=>d<|wz.mpr<|DG<|bO e
 dsimp only;refine af f<|af T.e ?_;simp[Ps]
def Uv(r:b.size=a+1)(s:j<=a)(m:b[j]? =aa ae):∀(L c i d:Nat),(jj a L (i,d)).1=j->L<c->∃k,layClean.free a b c i d=aa k/\b[k]? =aa ae:=by intro L c;induction c generalizing L with
 |zero=>exact λi d e h=>aD h<|oQ _
 |succ c n=>intro i d e h;have f:layClean.free a b (c+1) i d=abK (λo=>Option Nat) ((bM<|runEnd a i+1-i).find? λk=>(b.getD (i+k)<|aa 0).isNone) (λk=>aa<|i+k) (λo=>layClean.free a b c (leap a i d).1 (leap a i d).2):=rfl;cases g:(bM<|runEnd a i+1-i).find? λk=>(b.getD (i+k)<|aa 0).isNone with
  |some k=>rw[g]at f;refine aC (i+k) f ?_;have:=List.find?_some g;rw[DF]at this;cases l:b[i+k]? with|none=>rw[l]at this;exact ff this|some v=>rw[l]at this;exact aQ aa<|AP.mp this
  |none=>rw[g]at f;cases L with|zero=>refine aD ?_<|List.find?_eq_none.mp g 0<|fz.mpr<|OQ<|oP (LG a i).1;rw[DF,show b[i+0]? =aa ae from(show i=j from e).symm▸m];rfl|succ L=>exact aB (n L _ _ e<|E6 h) λk p q=>aC k (f.trans p) q
noncomputable def jL(o:List (Option Nat)):List Nat:=o.filterMap id
def Xs(k:Nat):∀(o:List (Option Nat))(j:Nat),o[j]? =aa ae->iq (jL<|o.set j<|aa k) (k::jL o):=by intro o;induction o with|nil=>exact λj h=>aY h|cons x o a=>intro j h;cases j with|zero=>exact(bo h).symm▸sX (k::jL o)|succ j=>cases x with|none=>exact a j h|some y=>exact((a j h).cons y).trans<|Ey k y<|jL o
theorem K9:∀(o:List (Option Nat)),(jL o).length<o.length->∃j:Nat,o[j]? =aa ae|[],h=>by simp at h|none::o,h=>⟨0,rfl⟩|some y::o,h=>by exact aV (K9 o<|E6 h) λj e=>⟨j+1,e⟩
noncomputable def CO(a:Nat)(c:Option (Array (Option Nat)×Nat))(h:Int):Option (Array (Option Nat)×Nat):=do
 let(b,k)<-c
 let j<-layClean.free a b (turns a) (bits h%(a+1)) (bits h)
 pure (b.setIfInBounds j<|aa k,k+1)
def VY(g:pF b):∀(c:List Int)(a:Array (Option Nat))(n:Nat),a.size=b+1->iq (jL a.toList) (bM n)->n+c.length<=b->∃i,c.foldl (CO b) (aa (a,n))=aa (i,n+c.length)/\i.size=b+1/\iq (jL i.toList) (bM<|n+c.length):=by intro r;induction r with
 |nil=>intro a n d f l;exact(bV a rfl d f)
 |cons h c s=>
  intro a n d f l;have t:n+c.length+1<=b:=l;obtain⟨j,m⟩:=K9 a.toList (by rw[(show(jL a.toList).length=n from by rw[f.length_eq];simp),gL,d];exact(aL (ay (bB ..) l)<|bY _));rw[iF]at m;have o:j<=b:=f_<|aR (uC.mp m).1 (bf d);refine aB (J6 g (by have:=w_ (bits h) (y:=b+1) (by exact(aL (da _)<|bY _));exact(f_ this)) o<|Ia h) λL u e=>?_;refine aB (Uv d o m L (turns b) _ _ e<|aL u<|Km b) λk v p=>?_;have B:=(uC.mp p).1;have w:iq (jL (a.setIfInBounds k<|aa n).toList) (bM<|n+1):=by refine af M8 ?_;refine(Xs _ _ _<|by refine af (iF) ?_;exact p).trans ?_;exact af EV<|(f.cons n).trans<|List.perm_append_comm (l₁:=[n])
  refine cz (s (a.setIfInBounds k<|aa n) (n+1) (by simpa using d) w<|ay (bf<|dL n 1 c.length) t) λq x z A=>?_;refine(bV q ?_ z ?_)
  ·refine af N3 ?_;have:CO b (aa (a,n)) h=aa (a.setIfInBounds k<|aa n,n+1):=by unfold CO;simp only[Option.bind_eq_bind,Option.bind_some,v];rfl
   exact af this<|af x<|aQ (λk=>aa (q,k))<|dL n 1 c.length
  ·exact af (show n+(h::c).length=n+1+c.length from(dL n 1 c.length).symm) A
def VW{mask:Nat}(g:pF mask)(hs:Array Int)(h:hs.size<=mask):∃owner,layClean mask hs=aa owner/\owner.size=mask+1/\iq (jL owner.toList) (bM hs.size):=by
 have h0:iq (jL (DJ (mask+1) (ae:Option Nat)).toList) (bM 0):=by refine af (show jL (DJ (mask+1) (ae:Option Nat)).toList=[]from ?_)<|sX _;delta jL;rw[Array.toList_replicate];exact NV.mpr λx h=>(List.mem_replicate.mp h).2
 refine cz (VY g hs.toList (DJ (mask+1) ae) 0 (by simp) h0<|by simpa using h) λo e1 e2 e3=>?_;refine(bV o ?_ e2<|by simpa using e3);unfold layClean;exact dh (Array.foldl_toList ..)<|(aQ (dZ (·.1)) e1)
def Wl{owner:Array (Option Nat)}(h:owner.size=b+1):((bM<|b+1).filterMap λj=>(owner.getD j ae).map (j, ·)).map (·.2)=jL owner.toList:=by
 refine af List.map_filterMap ?_;unfold jL;have:owner.toList=(bM<|b+1).map λj=>owner.getD j ae:=by
  refine sY λi=>af (iF) ?_;refine af (fT) ?_;by_cases a:i<b+1;·refine af (wT a) ?_;refine af (oA<|by exact(aR a<|bf h.symm)) ?_;simp[h,a]
  ·refine af (nH<|by simpa using a) ?_;refine af (M2<|by exact(ay (bf h)<|jb a)) ?_;rfl
 refine af this<|af EG ?_;congr 1;funext j;show dZ _ (dZ _<|owner.getD j ae)=owner.getD j ae;cases owner.getD j ae<;>rfl
def Ub(a:List c):(bM a.length).filterMap (a[·]?)=a:=by
 refine sY λi=>?_;have:(bM a.length).filterMap (a[·]?)=(bM a.length).attach.map (λx=>a[x.1]'(fz.mp x.2)):=by
  refine dh EF ?_;conv=>lhs;rw[<-List.attach_map_subtype_val (bM a.length)]
  refine af EG ?_;congr 1;funext x;simp[fz.mp x.2]
 refine af this ?_;by_cases b:i<a.length;·simp[b]
 ·refine af (nH<|by simpa using b) ?_;rw[nH<|by exact(jb b)]
def VA{mask finger moves:Nat}{led plain:Bool}(g:pF mask)(es:Array (Int×am))(h:es.size<=mask):∃t order,xk mask finger moves led plain (es.map (·.1))=aa (t,order)/\t.mask=mask/\t.led=led/\eE t/\t.place.size=es.size/\iq (order.filterMap (es[·]?)).toList es.toList:=by
 refine cz (VW g (es.map (·.1))<|by simpa using h) λowner e1 e2 e3=>?_;rw[M5]at e3;have ho:=Wl e2;have hl:xk mask finger moves led plain (es.map (·.1))=aa (⟨mask,(((bM<|mask+1).filterMap λj=>(owner.getD j ae).map (j, ·)).map (·.1)).toArray,#[],finger,led,moves,plain⟩,(((bM<|mask+1).filterMap λj=>(owner.getD j ae).map (j, ·)).map (·.2)).toArray):=by unfold xk;refine af e1 ?_;rfl
 refine(vR _ _ hl rfl rfl ((JZ hl).1) ?_ ?_);·refine af pI ?_;refine af ((show(((bM<|mask+1).filterMap λj=>(owner.getD j ae).map (j, ·)).map (·.1)).length=(((bM<|mask+1).filterMap λj=>(owner.getD j ae).map (j, ·)).map (·.2)).length from by simp)) ?_;refine af ho ?_;refine af e3.length_eq ?_;simp
 ·refine af ho<|af Array.toList_filterMap ?_;have:((λx=>es[x]?):Nat->Option (Int×am))=λx=>es.toList[x]? :=by funext x;rw[iF]
  refine af this<|(List.Perm.filterMap _ e3).trans ?_;have:=Ub es.toList;rw[gL]at this;rw[this]
end
section
open SetTable
section
variable{X:eD}{w:dp}{K:Type}[DecidableEq K]{Y:rd X w K}{A:bU}{E:am->az->Prop}{s:az}
def W9(n:Nat)(h:Bs v=true):xE n v=pure false:=by cases v<;>first|rfl|(cases n<;>first|rfl|exact dK (h:false=true))
set_option smartUnfolding false in
theorem KY(c:ke Y s.heap f a)(h:Q false s):aE (aN X w) A (xE 8<|.ref a) Q E s:=by
 refine fJ c λo l n g p i j=>?_;delta xE xE._f;refine aA (m:=rq _)<|to c.typeIs ?_;show aE _ A (if("tuple"=="tuple")=true then _ else _) Q E s;refine af (aq<|by rfl)<|aA<|ba ?_;refine aA (m:=G3 _)<|BJ g i<|aA ?_;refine dh M1<|He _ (λd r b=>r.1=ae/\b=s/\∀v∈d,Bs v=true) _ ?_ ?_ _ _ ⟨rfl,rfl,j.byValue⟩;·rintro v d r b ⟨q,rfl,e⟩;exact aA (m:=xE 7 v)<|(W9 7<|e v bk).symm▸ba (ba ⟨rfl,rfl,λu k=>e u<|bR _ k⟩)
 ·rintro⟨t,x⟩ b ⟨rfl,rfl,_⟩;exact ba h
def wpAny_ite [Decidable c](b:aE M A f Q E s)(d:aE M A g Q E s):aE M A (if c then f else g) Q E s:=by
 by_cases h:c;·rw[aq h];exact b
 ·rw[ap h];exact d
def aaI(d:∀Q:Bool->az->Prop,Q false s->aE M A m Q E s)(b:aE M A f Q E s):aE M A (if c=true then(m>>=λr=>if r=true then g else f)else f) Q E s:=wpAny_ite (aA<|d _<|by exact b) b
abbrev tv(Y:rd X w K)(h:aO)(v:am):Prop:=∃k b,v=.ref b/\ke Y h k b
def Yt(d:ke Y s.heap i x)(j:∀v∈l,tv Y s.heap v)(h:Q false s):aE (aN X w) A (PL (.ref x) l) Q E s:=by
 delta PL;refine aA<|He _ (λc r a=>r.1=ae/\a=s/\∀v∈c,tv Y s.heap v) _ ?_ ?_ _ _ ⟨rfl,rfl,j⟩;·rintro v c r a ⟨n,rfl,e⟩;refine fq (e v bk) λo b k f=>?_;subst k;have g:∀u∈c,tv Y a.heap u:=λu m=>e u<|bR _ m;exact wpAny_ite (ba ⟨rfl,rfl,g⟩)<|aA<|PW d<|aA<|PW f<|aA<|KY d<|aA<|KY f<|ba ⟨rfl,rfl,g⟩
 ·rintro⟨p,q⟩ a ⟨rfl,rfl,_⟩;exact ba h
def same_self(t:cC):t.sameMemory t.moves t.mask=aa true:=by exact aq<|beq_self_eq_true _
def XT(T:eE t){h:Int}(n:pL t p k)(d:k<b)(e:pQ t f h b p=r):(∃j,r=aa (.empty j ae)/\t.slot j=.empty)\/(∃j i next a,r=aa (.candidate j i next)/\t.slot j=.live i/\pL t next a/\a<k):=by
 rcases XS T f h b p k n d with⟨j,c,g⟩|⟨j,i,l,a,c,m,v,o,q⟩;·exact .inl<|aC j (e.symm.trans c) g
 ·exact .inr<|jI j i l a (e.symm.trans c) m o q
def Wk{t:cC}(b:t.fits n=true)(a:t.slot j=.live i):i<n:=by delta Gl at a;revert a;exact fO (λh a=>((bO (aj b).1:t.place.size=n)▸Slot.live.inj a▸(uC.mp<|bO h).1)) λh=>fO (λc a=>nomatch a) λc a=>nomatch a
def Ys{D:ao}{es:Array (Int×am)}{ep:Nat}{t:cC}{k:List K}{x:ao}{h:Int}{Q:SetFound->az->Prop}(ho:s.heap.get? D=aa (gY es ep t))(hf:t.fits es.size=true)(T:eE t)(g:pF t.mask)(hu:A.units<k_)(hk:ke Y s.heap k x)(hel:∀e∈es.toList,tv Y s.heap e.2)(q1:(∃b,.ref b∈es.toList.map (·.2)/\ke Y s.heap k b)->Q (.there ae) s)(q2:∀j,t.slot j=.empty->Q (.free j false) s):∀(fuel:Nat)(stand:Option Probe)(kk:Nat),pL t (stand.getD<|t.probeStart h) kk->kk<fuel->kk<10*turns t.mask->aE (aN X w) A (setSearchFrom D (.ref x) h true fuel stand) Q E s:=by intro l_;induction l_ with
 |zero=>intro stand kk n h1 h2;exact aD h1<|oQ _
 |succ fuel ih_=>
  intro stand kk n h1 h2;refine aA (m:=ro D)<|lh ho rfl hf ?_;have hg:t.gaveWay=false:=by delta SetTable.gaveWay;rcases g with e|e<;>refine af e ?_<;>rfl
  show aE _ A (if t.gaveWay=true then _ else _) Q E s;refine af hg<|af (ap dR) ?_;rcases XT (h:=h) T n h2 rfl with⟨j,e,hs⟩|⟨j,i,nx,k',e,hs,n',hk'⟩;·exact(show t.probe _ h (stand.getD<|t.probeStart h)=aa (.empty j ae)from e).symm▸ba (q2 j hs)
  ·refine af (show t.probe _ h (stand.getD<|t.probeStart h)=aa (.candidate j i nx)from e) ?_;have hi:=Wk hf hs;have ei:=oA hi;have hm:es[i]∈es.toList:=wz.mpr<|Array.getElem_mem hi;refine fq (hel es[i] hm) λk2 b hy hb=>?_;generalize es[i]=ev at ei hm hy;obtain⟨hv,y⟩:=ev;obtain rfl:y=.ref b:=hy;refine aaI (λQ q=>Yt hk (λv hv'=>?_) q) ?_;·refine aB (cq.mp hv') λe he hz2=>?_;subst hz2;exact hel e<|wz.mpr (Array.mem_filter.mp<|wz.mp he).1
   refine af ei<|aA (m:=pU _ _)<|dS<|wpAny_eqBool_tuple hu hb hk<|aA<|lh ho rfl hf ?_;refine db (iG<|k2=k) (λhkk=>?_) λhkk=>?_;·exact af (bQ hkk)<|ba<|q1 ⟨b,cq.mpr ⟨_,hm,rfl⟩,hkk▸hb⟩
   ·refine af (dz hkk) ?_;dsimp only;refine af (same_self ..)<|af (DN ..) ?_;refine af (ap dR) ?_;dsimp only;refine af (aq rfl)<|af hs ?_;dsimp only;exact ei.symm▸aA (wpAny_isSame_ref_self<|aA<|ba<|ih_ (aa nx) k' n' (aR hk'<|f_ h1)<|bj hk' h2)
end
end
section
open SetTable
section
variable{Y:eD}{w:dp}{K:Type}[DecidableEq K]{knd:rd Y w K}{A:bU}{E:am->az->Prop}{s:az}
def UH(n:Nat)(a:Bs v=true):∃c,hashByValue n v=pure c:=by cases v<;>first|exact dK (a:false=true)|(cases n<;>exact⟨_,rfl⟩)
def UG(n:Nat)(b:ke knd s.heap k x)(h:∀c,Q c s):aE (aN Y w) A (hashByValue (n+1)<|.ref x) Q E s:=by
 refine fJ b λo q m f t g i=>aA (m:=specialOf _ _)<|xL b.typeIs F.slot_tuple_hash.lookup ?_;refine aA (m:=G3 _)<|BJ f g<|aA ?_;refine dh M1<|He _ (λd r a=>a=s/\∀v∈d,Bs v=true) _ ?_ ?_ _ _ ⟨rfl,i.byValue⟩
 ·rintro v d r a ⟨rfl,e⟩;obtain⟨c,j⟩:=UH n<|e v bk;refine af j<|aA<|ba ?_;cases c;·exact ba<|ba<|h _
  ·exact ba ⟨rfl,λu l=>e u<|bR _ l⟩
 ·rintro⟨p,y⟩ a ⟨rfl,_⟩;cases p<;>exact ba<|h _
def Yc(a:ao)(c:Nat):setRelay a c=(do
  let(b,_,t)<-ro a
  if Gk c>cN then oY "set:memory"
  let(b,t)<-(do
   let aa (t,e):=t.relaid (b.map (·.1)) c|unsupported "internal:set-table-without-room"
   let d:=e.filterMap (b[·]?)
   if d.size !=b.size then oY "internal:set-table-lost-an-element"
   pure (d,t):d8 (Array (Int×am)×cC))
  xJ a b t):=rfl
structure rF(es:Array (Int×am))(t:cC):Prop where
 e:eE t
 f:t.fits es.size=true
 g:t.mask=7/\es.size<=4\/t.mask=31
theorem rF.h(T:rF a t):pF t.mask:=by exact db T.g (λh=>(.inl h.1)) λh=>.inr h
def I9{t:cC}(d:t.dummies= #[])(h:t.fits n=true):t.place.size=n/\n<=t.mask:=by delta Pr Gj at h;replace h:=d▸h;have e:t.place.size=n:=bO (aj h).1;exact⟨e,e▸cR (aj h).2⟩
def I8{t:cC}(d:t.dummies= #[])(e:t.place.size=n)(h:n<=t.mask):t.fits n=true:=by delta Pr Gj;refine af d<|af e ?_;refine af (beq_self_eq_true ..) ?_;exact bQ h
def Uw{t:cC}(d:t.dummies= #[])(e:t.place.size=n):t.tooFull=decide (t.mask*3<=n*5):=by delta SetTable.tooFull Gj;refine af d<|af e ?_;rfl
def Kr(h:m=7/\n<=4\/m=31)(a:n<18):n+1<=m/\m<=31/\(m*3<=(n+1)*5->n=4)/\(¬m*3<=(n+1)*5->m=7/\n+1<=4\/m=31):=by
 rcases h with⟨rfl,h⟩|rfl;·exact⟨ay (eM h) bl,bl,λq=>j8 h<|jb λl=>aD q<|AI<|aL (u9 5 l) bl,λq=>.inl ⟨rfl,jb λl=>q<|ay bl<|u9 5 l⟩⟩
 ·exact⟨ay a bl,bb _,λq=>aD q<|AI<|aL (u9 5 a) bl,λ_=>.inr rfl⟩
def Du{Q:Bool->az->Prop}(F:s.heap.get? D=aa (gY b C t))(T:rF b t)(n:b.size<18)(c:a.size=b.size+1)(g:eE t')(h:t'.mask=t.mask)(o:t'.place.size=b.size+1)
  (p:∀d i G j,gd D s.heap d->d.get? D=aa (gY i G j)->rF i j->j.led=t'.led->iq i.toList a.toList->Q true {s with heap:=d}):
  aE (aN Y w) A (do
   xJ D a t'
   if !false&&t'.tooFull then setRelay D (nQ<|b.size+1)
   return true) Q E s:=by
 refine v7 (Kr T.g n) λH X I J=>?_
 have q:t'.fits a.size=true:=I8 g.e (o.trans c.symm)<|c▸h▸H
 have r:a.size<=cN:=c▸ay n bl
 refine aA<|zB F r λd u k=>?_
 refine af (Uw g.e o)<|af h ?_
 by_cases e:t.mask*3<=(b.size+1)*5
 ·refine af (bQ e) ?_
  have l:=I e
  refine aA<|af (Yc ..) ?_
  refine aA<|lh k rfl q ?_
  have v:Gk (nQ<|b.size+1)=32:=by refine af l ?_;decide+kernel
  show aE _ A (if Gk (nQ<|b.size+1)>cN then _ else _) _ _ _
  refine af v ?_;refine af (ap<|by decide) ?_
  refine KU (VA (finger:=t'.finger) (moves:=t'.movedTo 31) (led:=t'.led) (plain:=t'.plain) (.inr rfl) a<|c.symm▸l.symm▸(bl:4+1<=31)) λx m L y M z N B=>?_
  have P:t'.relaid (a.map (·.1)) (nQ<|b.size+1)=aa (x,m):=by
   delta SetTable.relaid
   exact v.symm▸L
  refine af P ?_
  have f:(m.filterMap (a[·]?)).size=a.size:=by
   exact dh gL<|gL▸B.length_eq
  show aE _ A ((if((m.filterMap (a[·]?)).size !=a.size)=true then _ else _)>>=_) _ _ _
  refine af (ap<|by rw[f,bne_self_eq_false];exact dR) ?_
  refine aA<|ba<|zB k (f▸r) λR U W=>ba<|p R _ _ x (u.trans U) W ⟨z,I8 z.e (N.trans f.symm) ?_,.inr y⟩ M B
  refine af f<|af y ?_;refine af c<|af l ?_;decide
 ·exact(dz e).symm▸ba (p d _ _ t' u k ⟨g,q,c▸h▸J e⟩ rfl<|sX _)
def aab{n:Int}{Q:Bool->az->Prop}(o:s.heap.get? D=aa (gY f I t))(T:rF f t)(J:A.units<k_)(G:ke knd s.heap k x)(L:∀e∈f.toList,tv knd s.heap e.2)(r:f.size<18)(M:(∃b,.ref b∈f.toList.map (·.2)/\ke knd s.heap k b)->Q false s)(v:∀g i l t',gd D s.heap g->g.get? D=aa (gY i l t')->rF i t'->t'.led=t.led->iq i.toList (f.push (n,.ref x)).toList->Q true {s with heap:=g}):aE (aN Y w) A (G5 D (.ref x) n) Q E s:=by
 refine cj (I9 T.e.e T.f) λH N=>eQ (Kr T.g r) λX P x_=>aB (TZ T.e<|H.symm▸N) λj R U=>dS<|aA (m:=ro D)<|lh o rfl T.f ?_;show aE _ A (if byScan (.ref x) f=true then _ else _) Q E s;refine af (ap<|show¬byScan (.ref x) f=true from dR) ?_;refine aA (m:=setSearch _ _ _ _)<|Ys (h:=n) o T.f T.e T.h J G L (λq=>ba<|M q) (λj W=>?_) 100000 ae _ (WM T.h R U n) (by exact(aL (u8 (bb _)<|cy P _) bl))<|Nat.mul_lt_mul_of_pos_left (Km _) bl;refine aA (m:=ro D)<|lh o rfl T.f ?_;refine v7 (Li T.e<|slot_of T.e W) λu y z h4=>?_;have B:=Pu f (t.put j).2 (n,Bf x);have C:=LU f (t.put j).2 (n,Bf x);have F:(t.put j).1.place.size=f.size+1:=(LU ..).trans<|aQ oR H;apply wpAny_ite
 ·refine aA<|UG 7 G λc=>?_;cases c;·exact Du (t':={(t.put j).1 with plain:=false}) o T r C ⟨u.f,u.e⟩ z F λg i l p a b c d e=>v g i l p a b c (d.trans y)<|e.trans B
  ·exact Du o T r C u z F λg i l p a b c d e=>v g i l p a b c (d.trans y)<|e.trans B
 ·exact aA<|ba<|Du o T r C u z F λg i l p a b c d e=>v g i l p a b c (d.trans y)<|e.trans B
end
end
section
open PyProof.Rows
open Sem (wp)
section
variable{Y:eD}{w:dp}{A:bU}{R:rf->az->Prop}{I:ao}{U X:List ao}{G:Array GenState->Array GenState->Prop}{n:Nat}{P:Nat->am->Prop}{St:Nat->az->Prop}
def codeAny_loop(W:WalksS Y w A.in1 I U X G n P St)(S:ao)(q:S∉U)(Inv:Nat->aO->Prop)(r:∀i h c,Inv i h->(∀b o,b∉X->h.get? b=aa o->c.get? b=aa o)->Inv i c)(gE:∀i v(s:az)(E:am->az->Prop)(Q:Bool->az->Prop),P i v->Inv i s.heap->(∀b c j,s.toks<=j->gd S s.heap c->Inv (i+1) c->Q b {s with heap:=c,toks:=j})->aE (aN Y w) A.in1 (setAdd S v) Q E s):∀(k i:Nat)(s:az),n-i=k->i<=n->St i s->Inv i s.heap->(∀a,Moved (S::X) G s a->Inv n a.heap->R (.ok<|.ret .none) a)->oV (aN Y w) A (.builtin "set.update.loop" ⟨[.ref S,.ref I],[]⟩) R s:=by have ac:S∉X:=λh=>q<|W.sub _ h;have t:∀b∈X,b∈S::X:=λb d=>bR _ d;intro k;induction k with
 |zero=>intro i s g u l m p;have B:i=n:=j8 u<|OG g;subst B;refine ve F.entry_set_update_loop<|af (xe F.plain_set_update_loop _) ?_;show aE _ A.in1 (oX (.ref I)>>=_) _ _ s;refine aA<|W.done s _ _ l λa f=>?_;show aE _ A.in1 (ret lU) _ _ a;exact ba<|p a (f.mono t)<|r _ _ _ m f.heap
 |succ k C=>
  intro i s g u l m p;have x:i<n:=Nat.lt_of_sub_eq_succ g;refine ve F.entry_set_update_loop<|af (xe F.plain_set_update_loop _) ?_;show aE _ A.in1 (oX (.ref I)>>=_) _ _ s;refine aA<|W.item i s _ _ x l λv a D H f=>?_;show aE _ A.in1 (pU [v] (setAdd S v)>>=_) _ _ a;refine aA<|dS<|gE i v a _ _ D (r _ _ _ m f.heap) λb c j y z J=>?_;refine ba ⟨xG F.plain_set_update_loop _,C (i+1) _ (aQ Nat.pred g) x (W.frame _ a _ _ H y λb d o e=>?_) J λL M N=>?_⟩;·refine af (z.2 b λh:b=S=>q<|by rw[<-h];exact d) ?_;exact e
  ·refine p L (Moved.trans W.gtrans ((f.mono t).then_heap y λb o d e=>?_) M) N;refine af (z.2 b λh:b=S=>d<|by rw[h];exact bk) ?_;exact e
end
section
variable{Y:eD}{w:dp}{A:bU}{E:am->az->Prop}{s:az}
def SX(a:am){Q₁:am->az->Prop}
  (h:Q₁ (.ref s.heap.objs.size) {s with heap:=s.heap.push {cls:=.type "set",dict:=ae,data:=.set #[] 0 (.fresh 0 0<|!w.params.followText "set-order")}}):
  oV (aN Y w) A (.call (.builtin "set.__new__") ⟨[.type "set",a],[]⟩) (wants Q₁ E) s:=by
 refine PE ?_
 show aE _ A.in1 (do checkBuiltinCall "set.__new__" ⟨[.type "set",a],[]⟩;again<|.builtin "set.__new__" ⟨[.type "set",a],[]⟩) _ _ s
 refine aA<|BH (PySem.F.newCall_set_1 a)<|ba ⟨xG Pi _,ve PySem.F.entry_set_new ?_⟩
 refine af (xe Pi _) ?_
 delta Builtin.«set.__new__» abA
 have b:=sub_set_self
 obtain⟨c,g,d,e,os⟩:=s
 dsimp only
 wp_walk
 refine BA<|ba ?_
 dsimp only
 simp only[newObj]
 exact aA<|wpAny_alloc<|ba<|ba h
set_option maxHeartbeats 3200000 in
theorem SF{l:ao}{g:Array am}{Q:am->az->Prop}(Inv:Nat->aO->Prop)
  (J:A.handled=ae)(L:s.heap.IsList l g)
  (M:∀a:aO,(∀b o,b<s.heap.objs.size->s.heap.get? b=aa o->a.get? b=aa o)->a.get? s.heap.objs.size=aa (gY #[] 0 (.fresh 0 0<|!w.params.followText "set-order"))->Inv 0 a)
  (N:∀i(h a:aO),Inv i h->(∀b o,b<=s.heap.objs.size->h.get? b=aa o->a.get? b=aa o)->Inv i a)
  (gE:∀i v(f:az)(x:bU)(E:am->az->Prop)(Q:Bool->az->Prop),x.units<=A.units+8->g[i]? =aa v->Inv i f.heap->(∀b a j,f.toks<=j->gd s.heap.objs.size f.heap a->Inv (i+1) a->Q b {f with heap:=a,toks:=j})->aE (aN Y w) x (setAdd s.heap.objs.size v) Q E f)
  (h:∀(a:aO)(j:Nat),Inv g.size a->
   (∀b o,b<s.heap.objs.size->s.heap.get? b=aa o->a.get? b=aa o)->Q (.ref s.heap.objs.size) {s with heap:=a,toks:=j}):
  aE (aN Y w) A (fM (.type "set") [.ref l]) Q E s:=by
 obtain⟨c,tl,dk⟩:=q_.mro
 have dq:=q_.made
 have du:=q_.sub
 refine BC<|PE ?_
 show aE _ _ (callAny (.type "set") _) _ _ _
 refine ba ⟨Code.quiet_builtin _<|by decide+kernel,ve PySem.F.entry_type_call ?_⟩
 rw[Around.under_plain (weight_type_call_type "set" [.ref l] []) rfl]
 have h1:=q_.notType
 have h2:=q_.canCreate
 have dD:=PySem.F.typeCall_set_1<|.ref l
 repeat(any_goals(first|assumption|wp_step))
 refine xv (SX (.ref l) (E:=E) (Q₁:=λy f=>∃d:Bool,d=(!w.params.followText "set-order")/\y=.ref s.heap.objs.size/\f={s with heap:=s.heap.push {cls:=.type "set",dict:=ae,data:=.set #[] 0 (.fresh 0 0 d)}}) ⟨_,rfl,rfl,rfl⟩) λr f n=>?_
 cases r with
 |error e=>exact n
 |ok P=>
  cases P with
  |ret y=>
   obtain⟨d,W,rfl,rfl⟩:=n
   have z:(s.heap.push {cls:=.type "set",dict:=ae,data:=.set #[] 0 (.fresh 0 0 d)}).get? s.heap.objs.size=aa {cls:=.type "set",dict:=ae,data:=.set #[] 0 (.fresh 0 0 d)}:=dF _ rfl
   have hT:Gm {s with heap:=s.heap.push {cls:=.type "set",dict:=ae,data:=.set #[] 0 (.fresh 0 0 d)}} (.ref s.heap.objs.size) "set":=⟨_,z,rfl⟩
   have dJ:=q_.init.lookup
   have dU:=q_.init.bind<|.ref s.heap.objs.size
   repeat(any_goals(first|assumption|wp_step))
   refine xv (PD (R:=wants (λr B=>r=.none/\∃a j,B={s with heap:=a,toks:=j}/\
     Inv g.size a/\(∀b o,b<s.heap.objs.size->s.heap.get? b=aa o->a.get? b=aa o)) E) q_.init.plain PySem.F.entry_set_init<|check_set_init_1 hT ?_) λag B p=>?_
   ·obtain⟨ol,C,D,F,G⟩:=L
    obtain⟨dX,au,dY,av⟩:=ol
    simp only at D G
    subst D;subst G
    have aK:(s.heap.push {cls:=.type "set",dict:=ae,data:=.set #[] 0 (.fresh 0 0 d)}).get? l=aa {cls:=.type "list",dict:=au,data:=.seq g F,slots:=av}:=e_ _ C
    have eH:=PySem.F.sub_list_set
    have eL:=PySem.F.sub_list_frozenset
    have hne:(rh "list"==rh "dict")=false:=by decide
    have H:(s.heap.push {cls:=.type "set",dict:=ae,data:=.set #[] 0 (.fresh 0 0 d)}).IsList l g:=⟨_,aK,rfl,F,rfl⟩
    delta Builtin.«set.__init__» noKeywords abB
    generalize aS:vj=PI
    wp_walk
    subst aS
    refine vn H<|aA<|wpAny_runValue ?_
    have I:l<s.heap.objs.size:=cK C
    have aU:A.in1.in1.in1.handled=ae:=by simp[J]
    have aW:l≠(s.heap.push {cls:=.type "set",dict:=ae,data:=.set #[] 0 (.fresh 0 0 d)}).objs.size:=by
     rw[A_];exact bZ<|cY I
    have bw:s.heap.objs.size∉[(s.heap.push {cls:=.type "set",dict:=ae,data:=.set #[] 0 (.fresh 0 0 d)}).objs.size,l]:=by
     rw[A_];simp only[cB,cP,cX,or_false,not_or]
     exact⟨bZ<|bY _,iJ I⟩
    refine codeAny_loop ((Bn aU _ l aW g).toS) s.heap.objs.size bw Inv
     (λi h a t hk=>N i h a t λb o m e=>hk b o (λk=>?hne) e) (λi v f E Q hv t q=>gE i v f _ E Q ?hun hv t q) (g.size-0) 0 _ (by exact(j8 (bb _)<|bb _)) (da _)
     ⟨⟨_,dF _ rfl,rfl,rfl⟩,(H.push _)⟩ ?hS0 ?hR
    case hne=>
     have:b=(s.heap.push {cls:=.type "set",dict:=ae,data:=.set #[] 0 (.fresh 0 0 d)}).objs.size:=by simpa using k
     rw[A_]at this
     have bF:b<=s.heap.objs.size:=m
     exact aD (this▸bF)<|Nat.not_succ_le_self _
    case hun=>simp
    case hS0=>
     have bH:((s.heap.push {cls:=.type "set",dict:=ae,data:=.set #[] 0 (.fresh 0 0 d)}).push {cls:=.type "list_iterator",data:=.fields #[.ref l,.int 0 0]}).get? s.heap.objs.size
       =aa {cls:=.type "set",dict:=ae,data:=.set #[] 0 (.fresh 0 0 d)}:=e_ _ z
     exact M _ (λb o m e=>e_ _<|e_ _ e) (by rw[bH,W])
    case hR=>
     intro s' k u
     obtain⟨a,g',d',ca,cw⟩:=s'
     have eg:g'=s.gens:=k.gens
     have ed:d'=s.drawn:=k.drawn
     have eo:cw=s.os:=k.os
     subst eg;subst ed;subst eo
     show aE _ _ _ _ _ _
     apply ba
     show aE _ _ (ret lU) _ _ _
     refine ba ⟨rfl,a,ca,rfl,u,λb o m e=>?_⟩
     have cV:b≠s.heap.objs.size:=bZ m
     have dc:b≠(s.heap.push {cls:=.type "set",dict:=ae,data:=.set #[] 0 (.fresh 0 0 d)}).objs.size:=by
      rw[A_];exact bZ<|cY m
     exact k.heap b o (by simp only[cB,cP,cX,or_false,not_or];exact⟨cV,dc⟩)<|e_ _<|e_ _ e
   ·cases ag with
    |error e=>exact p
    |ok dg=>
     cases dg with
     |ret r=>
      obtain⟨rfl,a,j,rfl,u,dj⟩:=p
      repeat(any_goals(first|assumption|wp_step))
      exact h _ _ u dj
     |_=>exact p.elim
  |_=>exact n.elim
end
end
section
open PyProof.Rows
open Sem (wp)
def K_:Manifest.owners.lookup (String.ofList ['r','o','t','a','r','e','t','i','_','t','e','s'].reverse)=aa Manifest.sig_set_iterator:=by kernel_rfl
def wj:rg "set_iterator" "__next__" "set_iterator.__next__":=.of (owner:="set_iterator") (n:="__next__") (by rw[PO,PC];kernel_rfl) (by decide+kernel) (by decide+kernel) (by decide+kernel) (by first|exact .inl (by decide+kernel)|exact .inr<|by decide+kernel) (by rw[GS];kernel_rfl)
def QP(a:am):argsOk "set_iterator.__next__" ⟨[a],[]⟩:=by unfold argsOk;rw[signature?_of (id:="set_iterator.__next__") (n:=['_','_','t','x','e','n','_','_']) (o:=['r','o','t','a','r','e','t','i','_','t','e','s']) (by kernel_rfl) K_];kernel_rfl
def TM:entryFor table "set_iterator.__next__"=aa Builtin.«set_iterator.__next__»:=entryFor_of_tree (by kernel_rfl)
def TK:entryFor table "set.__iter__"=aa Builtin.«frozenset.__iter__»:=entryFor_alias (id':="frozenset.__iter__") (by kernel_rfl) rfl (by decide+kernel) (by kernel_rfl)
end
section
open PyProof.Rows
open Sem (wp)
section
variable{E:am->az->Prop}
def aaH(a:n≠0)(h:∀(k:Nat)(d:vb),k<n->Q k {s with drawn:=d}):aE (aN Y w) A (choose b n) Q E s:=by intro c e f;unfold choose;exact af (Sem.wp_choose ..) ⟨a,(h _ _<|w_ _<|Nat.pos_of_ne_zero a)⟩
theorem Ch:∀(a:List b)(i:Nat)(x:b),a[i]? =aa x->iq (x::a.eraseIdx i) a|[],i,x,h=>by simp at h|y::a,0,x,h=>by simp at h;subst h;exact sX _|y::a,i+1,x,h=>by exact(Ey y x _).trans<|(Ch a i x<|h).cons y
theorem MU:∀(n:Nat)(a:List c){s:az}{Q:List c->az->Prop},n=a.length->(∀l(d:vb),iq l a->Q l {s with drawn:=d})->aE (aN Y w) A (GP n a) Q E s
 |0,a,s,Q,b,h=>by
  have:a=[]:=by cases a with|nil=>rfl|cons _ _=>simp at b
  subst this;delta GP;exact ba<|h [] s.drawn<|sX _
 |n+1,[],s,Q,b,h=>by simp at b
 |n+1,x::a,s,Q,b,h=>by refine aA<|aaH (by simp) λk d e=>?_;refine af (fg e) ?_;dsimp only;have f:=Ch (x::a) k _<|fg e;exact aA<|MU n ((x::a).eraseIdx k) (lR<|b.trans f.length_eq.symm) λl g i=>(ba<|h _ g<|(i.cons _).trans f)
def XA(next:Nat->Nat):∀(b k:Nat)(left:List c)(a:Array c),b=left.length->iq (PJ next b k left a).toList (a.toList++left):=by intro f;induction f with
 |zero=>
  intro k left a h;have:left=[]:=by cases left with|nil=>rfl|cons _ _=>simp at h
  subst this;exact(hK a.toList).symm▸sX _
 |succ b g=>intro k left a h;show iq (match left[next k%left.length]? with|some x=>PJ next b (k+1) (left.eraseIdx<|next k%left.length) (a.push x)|none=>a).toList _;have d:next k%left.length<left.length:=w_ _ (by exact(aR (aL (da _)<|bY _)<|bf h));refine af (fg d) ?_;dsimp only;have e:=Ch left _ _<|fg d;refine(g (k+1) (left.eraseIdx<|next k%left.length) (a.push left[next k%left.length])<|lR<|h.trans e.length_eq.symm).trans<|af uD ?_;refine af (lN ..) ?_;exact List.Perm.append_left _ e
def XB(next:Nat->Nat)(a:Array b):iq (xF next a).toList a.toList:=by exact XA next a.size 0 a.toList #[] rfl
end
end
section
open PyProof.Rows
open Sem (wp)
section
variable{E:am->az->Prop}
noncomputable abbrev pu(first:am)(i:Nat)(x:am)(n a:Nat):jf:={cls:=.type "set_iterator",data:=.fields #[first,.int i 0,x,.int n 0,.int a 0]}
noncomputable def l9(w:dp):Bool:=w.params.followText "set-order"
noncomputable def vJ(a:Array (Int×am))(t:cC):Bool:=!t.plain&&a.size>1
def DD(h:Q (l9 w) s):aE (aN Y w) A xH Q E s:=by delta xH;exact aA<|BA<|ba h
def Yw(a:ao):setDrawn a=(do
 let(b,_,t)<-ro a
 let l9<-xH
 return !l9&&vJ b t):=rfl
structure rB(w:dp)(es:Array (Int×am))(t:cC):Prop where
 e:t.fits es.size=true
 f:eE t
 h:t.led=!l9 w
 g:es.size<=64
inductive kT (w:dp) (h:aO) (D:ao) (es:Array (Int×am)) (ep:Nat) (t:cC) (i:Nat):am->List am->Prop
 |g:l9 w=true->kT w h D es ep t i (.int 0 0) ((xF (w.params.setOrder D ep) es).toList.map (·.2))
 |f (j:Nat):l9 w=false->vJ es t=false->ki t.place j=i->kT w h D es ep t i (.int j 0) (es.toList.map (·.2))
 |e (P:ao) (pl:List Nat):l9 w=false->iq pl (bM es.size)->h.get? P=aa {cls:=.type "tuple",data:=.seq (pl.map λ(i:Nat)=>ti i).toArray}->kT w h D es ep t i (.ref P) (pl.map λj=>(es[j]?.map (·.2)).getD .none)
theorem kT.h{h:aO}{f:am}(m:kT w h D a k t i f c):iq c (a.toList.map (·.2)):=by cases m with
 |g d=>exact(XB _ _).map _
 |f j d o p=>exact sX _
 |e P q d n r=>
  refine(n.map _).trans ?_;have:(bM a.size).map (λj=>(a[j]?.map (·.2)).getD .none)=a.toList.map (·.2):=by
   refine sY λi=>af (fT) ?_;refine af (fT) ?_;refine af (iF (xs:=a)) ?_;refine db (iG<|i<a.size) (λb=>?_) λb=>?_;·refine af (wT b) ?_;refine af (oA b) ?_;simp[b]
   ·refine af (nH (l:=bM a.size)<|by simpa using b) ?_;refine af (M2<|by exact(jb b)) ?_;rfl
  rw[this]
def Vd(c:s.heap.get? D=aa (gY a k t))(K:rB w a t)(q:∀(h:aO)(d:vb)(I:ao)(f:am)(p:List am),(∀b o,s.heap.get? b=aa o->h.get? b=aa o)->s.heap.objs.size<=I->h.get? I=aa (pu f 0 (.ref D) a.size k)->kT w h D a k t 0 f p->Q (.ref I) {s with heap:=h,drawn:=d}):aE (aN Y w) A (vj<|.ref D) Q E s:=by have m:s.TypeIs (.ref D) "set":=(aC _ c rfl);refine P8 m Pj<|mQ Pj m TK ?_<|PySem.F.args_set_iter_1 _;show aE _ _ (O5 D>>=_) _ _ s;delta O5 setEntries;refine aA<|aA<|aA<|lh c rfl K.e<|ba<|ba ?_;refine af (Yw ..)<|aA<|aA<|lh c rfl K.e ?_;dsimp only;refine aA<|DD<|ba ?_;cases j:(!l9 w&&vJ a t)with
 |true=>
  simp only[if_true];rw[kK]at j;have g:l9 w=false:=by simpa using j.1
  refine aA<|MU a.size (bM a.size) (by simp) λl d n=>?_;refine aA<|BF ?_ (by have:=n.length_eq;simp at this⊢;have:=K.g;refine af bX ?_;exact(ay (ay (bf ‹l.length=a.size›) this) bl));delta setEpoch;refine aA<|aA<|lh (e_ {cls:=.type "tuple",data:=.seq (l.map λ(i:Nat)=>ti i).toArray} c) rfl K.e<|ba ?_;dsimp only;refine aA<|ru ?_;refine ba ⟨_,rfl,"set_iterator",_,(aC _ (dF _ rfl) rfl),wj.lookup,?_⟩;refine q _ d _ (.ref s.heap.objs.size) _ (λb o e=>e_ _<|e_ _ e) ?_ (dF _ rfl)<|.e _ l g n<|e_ _<|dF s.heap (o:={cls:=.type "tuple",data:=.seq (l.map λ(i:Nat)=>ti i).toArray}) rfl;exact af (eh ..)<|eC _
 |false=>simp only[DQ,if_false];refine aA<|ba ?_;delta setEpoch;refine aA<|aA<|lh c rfl K.e<|ba ?_;dsimp only;refine aA<|ru ?_;refine ba ⟨_,rfl,"set_iterator",_,(aC _ (dF _ rfl) rfl),wj.lookup,?_⟩;cases g:l9 w with|true=>exact q _ s.drawn _ (ti 0) _ (λb o e=>e_ _ e) (bb _) (dF _ rfl) (.g g)|false=>rw[g]at j;refine q _ s.drawn _ (ti 0) _ (λb o e=>e_ _ e) (bb _) (dF _ rfl)<|.f 0 g (by simpa using j)<|Sj K.f.f
end
end
section
open PyProof.Rows
open Sem (wp)
section
variable{E:am->az->Prop}
def Yz(a:ao):setWalk a=(do
 let(b,c,t)<-ro a
 if<-xH then return xF ((<-ask).params.setOrder a c) b
 if vJ b t then return (<-GP b.size b.toList).toArray
 (if(!t.led&&b.size>1)=true then oY "set:maker-not-led"else pure ():d8 Unit)
 return b):=rfl
def Yx(a:ao)(b given d:Nat):setNext a b given d=(do
 let(c,f,t)<-ro a
 if<-xH then
  if f !=d then oY "set_iterator.__next__:elements-changed"
  return ((<-setWalk a)[given]?).map λe=>(e.2,b)
 if vJ c t then oY "set_iterator.__next__:the-table-is-plain-no-more"
 (if(!t.led&& !c.isEmpty)=true then oY "set:maker-not-led"else pure ():d8 Unit)
 let i:=ki t.place b
 return match c[i]?,t.place[i]? with
  |some (_,x),aa j=>aa (x,j+1)
  |_,_=>ae):=rfl
def zt(d:s.heap.get? I=aa (pu f i x n b))(h:k<5)(e:Pl (·.setIfInBounds k a) (pu f i x n b)=pu g i' x n b)(q:∀c,gd I s.heap c->c.get? I=aa (pu g i' x n b)->Q () {s with heap:=c}):aE (aN Y w) A (setField (.ref I) k a) Q E s:=by exact wpAny_setField d rfl h<|q _ (ka ..)<|dh e<|oT _ d (by refine af e ?_;rfl)
def Yy{i j:Nat}(u:s.heap.get? D=aa (gY c d t))(K:rB w c t)(m:kT w s.heap D c d t i (.int j 0) h)(q:∀r,(∀x,h[i]? =aa x->∃k:Nat,r=aa (x,k)/\∀n,kT w n D c d t (i+1) (.int k 0) h)->(h[i]? =ae->r=ae)->Q r s):aE (aN Y w) A (setNext D j i d) Q E s:=by refine af (Yx ..)<|aA<|lh u rfl K.e<|aA<|DD ?_;generalize o:Bd (j:Int) 0=f at m;cases m with
 |g b=>
  refine af b<|af (aq rfl) ?_;refine af (ap<|by rw[bne_self_eq_false];exact dR) ?_;refine af (Yz ..) ?_;refine aA<|aA<|lh u rfl K.e<|aA<|DD ?_;refine af b<|af (aq rfl) ?_;refine aA<|BA<|ba<|ba<|q _ (λx a=>(aC 0 ?_ λn=>.g b)) λa=>?_;·rw[fT,iF]at a;refine aB (fj.mp a) λe l p=>?_;subst p;refine af (show(xF ((aN Y w).w.params.setOrder D d) c)[i]? =aa e from l)<|af (g_ (Be o).1) ?_;rfl
  ·rw[fT,iF]at a;refine af (show(xF ((aN Y w).w.params.setOrder D d) c)[i]? =ae from s_.mp a) ?_;rfl
 |f k b v y=>
  refine af b<|af v ?_;refine af (show(!t.led&& !c.isEmpty)=false by rw[K.h,b];rfl) ?_;obtain rfl:j=k:=g_ (Be o).1;refine aA<|ba<|ba<|q _ (λx a=>?_) λa=>?_;·rw[fT,iF]at a;refine aB (fj.mp a) λe l p=>?_;subst p;have z:i<t.place.size:=(I9 K.f.e K.e).1.symm▸(uC.mp l).1;refine af y<|af l ?_;refine af (oA z) ?_;exact(aC _ rfl λn=>.f _ b v<|Si K.f.f i z)
  ·rw[fT,iF]at a;refine af y ?_;rw[s_.mp a]
 |e P B b C F=>exact nomatch o
end
end
section
open PyProof.Rows
open Sem (wp)
section
variable{Y:eD}{w:dp}{A:bU}{E:am->az->Prop}{s:az}
def MV [Decidable c](b:¬c)(d:aE M A g Q E s):aE M A (if c then f else g) Q E s:=by exact af (ap b) d
def LM(c:s.heap.get? I=aa (pu f i x n e))(g:k<5)(q:∀b,gd I s.heap b->(∃d,b.get? I=aa {cls:=.type "set_iterator",data:=.fields d}/\d.size=5)->Q () {s with heap:=b}):aE (aN Y w) A (setField (.ref I) k a) Q E s:=by refine wpAny_setField c rfl g<|q _ (ka ..)<|aC _ (oT (Pl (·.setIfInBounds k a)) c rfl) (by simp)
def Mg{Q:Option am->az->Prop}{h1:aO}(hh:A.handled=ae)
  (q:∀h',(∀b o,h1.get? b=aa o->h'.get? b=aa o)->h1.objs.size<=h'.objs.size->Q ae {s with heap:=h'}):
  aE (aN Y w) A.in1 (newExc (.type "StopIteration") []>>=raiseNew) (λfin s'=>∃v:am,fin=Fin.done (Flow.ret v)/\aE (aN Y w) A (pure<|aa v) Q E s')
   (λe s'=>aE (aN Y w) A (do if<-isInstance e (.type "StopIteration")then pure ae else throw e) Q E s') {s with heap:=h1}:=by
 refine aA ?_
 simp only[newExc,newTuple]
 refine aA<|ru ?_ (by size_fits)
 refine aA (m:=firstArgMember _ _)<|BH (a:=lU) (by first|rfl|(simp only[firstArgMember];rfl)) ?_
 refine ru ?_ (by size_fits)
 delta raiseNew
 dsimp only
 refine aA<|wpAny_handled ?_
 refine af (show A.in1.handled=ae from hh)<|aA<|ba<|wpAny_throw ?_
 refine aA<|P1 (T:="StopIteration") (b:=true) (aC _ (dF _ rfl) rfl) isSubtype_stop ?_
 refine ba<|q _ (λb o e=>e_ _<|e_ _ e) ?_
 exact af (eh ..)<|af (eh ..)<|(bu<|bj (bY _)<|bY _)
def kT.p{h:aO}{f:am}(m:kT w h D b k t i f d):(∃j:Nat,f=.int j 0)\/∃P a,f=.ref P/\l9 w=false/\iq a (bM b.size)/\h.get? P=aa {cls:=.type "tuple",data:=.seq (a.map λ(i:Nat)=>ti i).toArray}/\d=a.map λj=>(b[j]?.map (·.2)).getD .none:=by cases m with|g c=>exact .inl ⟨0,rfl⟩|f j c o p=>exact .inl ⟨j,rfl⟩|e P a c l n=>exact .inr<|yB P a rfl c l n rfl
def KJ{I D:ao}{f:am}{i:Nat}{c:Array (Int×am)}{d:Nat}{t:cC}{n:List am}{Q:Option am->az->Prop}(M:A.handled=ae)
  (B:s.heap.get? D=aa (gY c d t))(K:rB w c t)(h:s.heap.get? I=aa (pu f i (.ref D) c.size d))(m:kT w s.heap D c d t i f n)
  (q:∀x a C,n[i]? =aa x->gd I s.heap a->a.get? I=aa (pu C (i+1) (.ref D) c.size d)->kT w a D c d t (i+1) C n->(∀P,C=.ref P->f=.ref P)->Q (aa x) {s with heap:=a})
  (N:∀a,n[i]? =ae->(∀b o,b≠I->s.heap.get? b=aa o->a.get? b=aa o)->Q ae {s with heap:=a}):
  aE (aN Y w) A (oX<|.ref I) Q E s:=by
 have R:s.TypeIs (.ref I) "set_iterator":=(aC _ h rfl)
 unfold oX
 refine aA<|wpAny_attempt (Ha (name:=kj "__next__") R wj
  (mQ wj R TM ?_<|QP _))
 show aE _ _ (fieldsOf (.ref I)>>=_) _ _ s
 refine aA<|wpAny_fieldsOf h rfl ?_
 refine aA (m:=setEntries D)<|aA<|lh B rfl K.e<|ba ?_
 refine MV (by refine af (bne_self_eq_false ..) ?_;exact dR) ?_
 rcases m.p with⟨j,rfl⟩|⟨P,F,rfl,l,U,u,rfl⟩
 ·refine aA (m:=setNext D j i d)<|Yy B K m λr r1 r2=>?_
  cases v:n[i]? with
  |none=>
   exact af (r2 v)<|aA<|LM (k:=2) h bl λG p x_=>(Mg M λa H hz=>N a v λb o l e=>H b o<|(p.2 b l).trans e)
  |some x=>
   obtain⟨W,rfl,m'⟩:=r1 x v
   refine aA<|zt (k:=0) (g:=.int W 0) (i':=i) h bl rfl λG p e1=>?_
   exact aA<|zt (s:={s with heap:=G}) (k:=1) (g:=.int W 0) (i':=i+1) e1 bl rfl λy z J=>(ba<|aC _ rfl<|ba<|q x y _ v (p.trans z) J (m' y) λP e=>lT e)
 ·refine aA (m:=G3 _)<|BJ u rfl ?_
  show aE _ _ (match(F.map λ(i:Nat)=>ti i).toArray[i]? with|some (.int bw _)=>_|some _=>_|none=>_) _ _ s
  refine af (List.getElem?_toArray) ?_;refine af (fT) ?_
  cases L:F[i]? with
  |none=>
   refine aA<|zt (k:=0) (g:=.int 0 0) (i':=i) h bl rfl λh0 aU e0=>?_
   refine aA<|LM (s:={s with heap:=h0}) (k:=2) e0 (by decide) λG p x_=>?_
   exact Mg M λa H hz=>N a (by refine af (fT) ?_;refine af L ?_;rfl) λb o l e=>H b o<|(p.2 b l).trans<|(aU.2 b l).trans e
  |some j=>
   have X:j<c.size:=fz.mp<|U.mem_iff.mp<|fF L
   show aE _ _ (setNextDrawn D j d>>=_) _ _ s
   refine aA<|aA (m:=ro D)<|lh B rfl K.e<|MV (by refine af (bne_self_eq_false ..) ?_;exact dR) ?_
   refine af (oA X) ?_
   refine ba<|aA<|zt (k:=1) (g:=.ref P) (i':=i+1) h (by decide) rfl λy z J=>?_
   refine ba<|aC _ rfl<|ba<|q _ y _ (by refine af (fT) ?_;refine af L ?_;refine af (Option.map_some ..) ?_;refine af (oA X) ?_;rfl) z J (.e P F l U<|(z.2 P λe=>?_).trans u) λP e=>e
   rw[e,h]at u
   exact aD (aQ F_<|bo u) (show¬rh "set_iterator"=.type "tuple" by decide)
end
end
section
open PyProof.Rows
open Sem (wp)
def L0:rg "set_iterator" "__iter__" "set_iterator.__iter__":=.of (owner:="set_iterator") (n:="__iter__") (by rw[PO,PC];kernel_rfl) (by decide+kernel) (by decide+kernel) (by decide+kernel) (by first|exact .inl (by decide+kernel)|exact .inr<|by decide+kernel) (by rw[GS];kernel_rfl)
def QO(a:am):argsOk "set_iterator.__iter__" ⟨[a],[]⟩:=by unfold argsOk;rw[signature?_of (id:="set_iterator.__iter__") (n:=['_','_','r','e','t','i','_','_']) (o:=['r','o','t','a','r','e','t','i','_','t','e','s']) (by kernel_rfl) K_];kernel_rfl
def TL:entryFor table "set_iterator.__iter__"=aa Builtin.«dict_keyiterator.__iter__»:=entryFor_alias (id':="dict_keyiterator.__iter__") (by kernel_rfl) rfl (by decide+kernel) (by kernel_rfl)
section
variable{prog:eD}{w:dp}{A:bU}{E:am->az->Prop}{s:az}
def BS(w:dp)(I D P0:ao)(a:Array (Int×am))(b:Nat)(t:cC)(c:List am)(i:Nat)(h:aO):Prop:=h.get? D=aa (gY a b t)/\∃f,h.get? I=aa (pu f i (.ref D) a.size b)/\kT w h D a b t i f c/\∀P,f=.ref P->P=P0
def aax(z:A.handled=ae){I D P0:ao}{u:Array (Int×am)}{ep:Nat}{t:cC}{ord:List am}(K:rB w u t)(G:D≠I)(B:ord.length=u.size):
  Walks prog w A I [I,D,P0] [I] u.size (λi v=>ord[i]? =aa v) (BS w I D P0 u ep t ord)where
 sub:=λb a=>by simp at a;simp[a]
 frame:=λi h k st n=>by
  refine yV st λc f d l m=>?_
  refine(Ct (n D (by simp) _ c) f (n I (by simp) _ d) ?_ m)
  cases l with
  |g a=>exact .g a
  |f j a H J=>exact .f j a H J
  |e P L a M N=>exact .e P L a M<|n P (by rw[m P rfl];simp) _ N
 item:=λi s Q E R st p=>by
  refine yV st λc f d l m=>KJ z c K d l (λx k C r F e U W=>?_) λk r=>aD (pH.mp r)<|Nat.not_le.mpr<|B.symm▸R
  exact p _ k s.toks r (Ct ((F.2 D G).trans c) C e U λP e=>m P<|W P e) λb o a e=>(F.2 b λq=>a<|q▸Ok _).trans e
 done:=λs Q E st p=>by
  exact yV st λc f d l m=>KJ z c K d l (λx k C r=>aD (b_.mp r).1 (by rw[B];exact dE _)) λk X n=>p k s.toks λb o a e=>n b o (λq=>a<|q▸Ok _) e
 self:=λi s Q E st p=>by
  refine yV st λc f d l m=>?_
  have y:s.TypeIs (.ref I) "set_iterator":=(aC _ d rfl)
  refine P8 y L0<|mQ L0 y TL ?_<|QO _
  show aE _ _ (ret<|.ref I) _ _ s
  exact ba ⟨_,rfl,"set_iterator",_,y,wj.lookup,p⟩
def UV{r:ao}{Q:Bool->az->Prop}(hT:s.TypeIs (.ref r) "set")(h:Q false s):aE (aN prog w) A (O9<|.ref r) Q E s:=by unfold O9;refine aA<|xL hT PySem.F.slot_set_len.lookup ?_;generalize hid:("set.__len__":String)=id0;wp_delta;rw[show splitId id0=aa ("set","__len__")from by subst hid;decide+kernel];subst hid;refine aA<|P1 (T:="set") (b:=true) hT (by rw[GS];kernel_rfl) ?_;refine Hg (λhab=>aD hab<|by decide) λx_=>?_;refine Hg (λx_=>?_) λhab=>aD (by decide+kernel) hab;exact aA<|to hT<|ba h
end
end
section
open PyProof.Rows
open Sem (wp)
section
variable{Y:eD}{w:dp}{A:bU}{E:am->az->Prop}{s:az}
def IB{D:ao}{es:Array (Int×am)}{ep:Nat}{t:cC}{R:List am->az->Prop}(hh:A.handled=ae)(ho:s.heap.get? D=aa (gY es ep t))(K:rB w es t)
  (q:∀(h':aO)(d:vb)(tk:Nat)(acc:List am),(∀b o,s.heap.get? b=aa o->h'.get? b=aa o)->iq acc (es.toList.map (·.2))->R acc {s with heap:=h',drawn:=d,toks:=tk}):
  aE (aN Y w) A (xw<|.ref D) R E s:=by
 have hDl:=cK ho
 unfold xw
 refine aA<|wpAny_runValue<|ve entry_proto_collect' ?_
 refine af (xe PySem.F.plain_proto_collect _) ?_
 show aE _ A.in1 (newList []>>=λl=>again<|.builtin "list.__iadd__" ⟨[l,.ref D],[]⟩) _ _ s
 refine aA<|ru ?_
 refine ba ⟨xG Ph _,ve entry_list_iadd' ?_⟩
 refine af (xe Ph _) ?_
 have hS₁:(s.heap.push {cls:=.type "list",data:=.seq ([]:List am).toArray}).get? s.heap.objs.size=aa {cls:=.type "list",data:=.seq #[]}:=dF _ rfl
 have ho1:=e_ {cls:=.type "list",data:=.seq ([]:List am).toArray} ho
 have hSD:s.heap.objs.size≠D:=iJ hDl
 show aE _ A.in1 (O7 (.ref s.heap.objs.size) (.ref D)<|.ref s.heap.objs.size) _ _ _
 unfold O7
 have hT1:Gm {s with heap:=s.heap.push {cls:=.type "list",data:=.seq ([]:List am).toArray}} (.ref D) "set":=(aC _ ho1 rfl)
 refine aA<|to hT1 ?_
 have h2:(rh "set"==rh "list")=false:=by decide
 have h3:(rh "set"==rh "tuple")=false:=by decide
 rw[(show O_ (.ref s.heap.objs.size) (.ref D)=false from by simp[O_,hSD]),h2,h3]
 refine aA<|Vd ho1 K λh' d I f ord hk hIl hI hm=>?_
 have lI:s.heap.objs.size<I:=by rw[eh]at hIl;exact hIl
 have ho2:=hk _ _ ho1
 have hS2:=hk _ _ hS₁
 refine aA<|dS<|UV (aC _ ho2 rfl) ?_
 have hl:ord.length=es.size:=by refine af hm.h.length_eq ?_;refine af (bq ..) ?_;rw[gL]
 obtain⟨P0,hP0,hSP⟩:∃P0,(∀P,f=.ref P->P=P0)/\s.heap.objs.size≠P0:=by
  rcases hm.p with⟨j,rfl⟩|⟨P,pl,rfl,_,_,hP,_⟩
  ·exact(aC D ((λP e=>lT e)) hSD)
  ·refine(aC P (λP' e=>(Bh e).symm) λe=>?_)
   rw[<-e,hS2]at hP
   exact aD (aQ F_<|bo hP) (show¬rh "list"=.type "tuple" by decide)
 have W:=aax (prog:=Y) (A:=A.in1) (I:=I) (P0:=P0) (ep:=ep) (ord:=ord) hh K (bZ<|bj hDl lI) hl
 have nin:∀b,b∈[I,D,P0]->b≠s.heap.objs.size:=λb hb e=>by
  rcases cB.mp hb with e1|hb
  ·exact(bZ lI)<|e.symm.trans e1
  rcases cB.mp hb with e1|hb
  ·exact hSD<|e.symm.trans e1
  ·exact hSP<|e.symm.trans<|cP.mp hb
 have st0:BS w I D P0 es ep t ord 0 h':=(Ct ho2 f hI hm hP0)
 have k0:∀b o,s.heap.get? b=aa o->h'.get? b=aa o:=λb o e=>hk b o<|e_ _ e
 have out:∀(h₂:aO)(c₁ tk:Nat){X:az},X={s with heap:=h₂,drawn:=d,toks:=tk}->BS w I D P0 es ep t ord 0 h₂->(∀b o,s.heap.get? b=aa o->h₂.get? b=aa o)->
   h₂.get? s.heap.objs.size=aa {cls:=.type "list",data:=.seq #[] c₁}->oV (aN Y w) A (.builtin "list.extend.loop" ⟨[.ref s.heap.objs.size,.ref I,.ref s.heap.objs.size],[]⟩)
    (λr s'=>match r with
     |.ok (.ret v)=>aE (aN Y w) A (match v with
       |.ref a=>do match(<-load a).data with
        |.seq xs _=>pure xs.toList
        |_=>oY "internal:collect"
       |_=>oY "internal:collect") R E s'
     |.ok _=>False
     |.error e=>E e s') X:=by
  intro h₂ c₁ tk X eX hst hk2 hS₂
  subst eX
  refine codeAny_extend_loopS W.toS (ay K.g bl) s.heap.objs.size (λq=>nin _ q rfl) (.ref s.heap.objs.size) es.size 0 _ #[] c₁ rfl (da _) hst hS₂ (ItemsOf.nil _) λs' acc' c' hm' hS' hacc=>?_
  have e:=Moved.eq_with hm'
  have e2:acc'.toList=ord:=by
   refine sY λi=>af (iF) ?_
   cases hi:acc'[i]? with
   |some v=>exact(hacc.2 i v hi).symm
   |none=>exact(nH<|hl▸hacc.1▸M3.mp hi).symm
  refine aA (m:=load s.heap.objs.size)<|wpAny_load hS'<|ba ?_
  refine af e<|af e2 ?_
  refine q s'.heap d s'.toks ord (λb o eb=>hm'.heap b o (λhmem=>?_)<|hk2 b o eb) hm.h
  have lt:=cK eb
  rcases cB.mp hmem with e'|hmem
  ·exact dE _<|e'▸lt
  ·exact dE _<|bj (cP.mp hmem▸lt) lI
 refine Hg (λx_=>?_) λx_=>ba ⟨xG Pg _,out _ 0 _ rfl st0 k0 hS2⟩
 refine aA<|rz ?_
 apply aA
 show aE _ _ (updateSeq s.heap.objs.size (·.push .none)>>=λx_=>updateSeq s.heap.objs.size (·.pop)) _ _ _
 refine aA<|Hk hS2 rfl ?_
 have hS3:=oT (mM (·.push lU)) hS2 rfl
 apply Hk (hz:=by seq_fits) hS3 rfl
 have hS4:=oT (mM (·.pop)) hS3 rfl
 refine ba ⟨xG Pg _,out _ _ _ rfl (W.frame 0 _ _ st0 λb hb o e=>?_) (λb o e=>?_) hS4⟩
 ·have hbS:=nin b hb
  exact(AZ _ _<|dM hbS).trans<|(AZ _ _<|dM hbS).trans e
 ·have hbS:b≠s.heap.objs.size:=bZ<|cK e
  exact(AZ _ _<|dM hbS).trans<|(AZ _ _<|dM hbS).trans<|k0 b o e
end
end
section
open PyProof.Rows
open Sem (wp)
section
variable{E:am->az->Prop}{s:az}
abbrev pM(a h:aO):Prop:=∀b o,b<a.objs.size->a.get? b=aa o->h.get? b=aa o
def Mu(a:Bool):eE (.fresh 0 0 a):=⟨λi j b=>aD b<|oQ _,rfl⟩
def Xi(k:pM a h)(e:gd a.objs.size h c):pM a c:=λb o d f=>(e.2 b<|bZ d).trans<|k b o d f
structure Hy(w:dp)(TOK:Array (Int×am)->cC->Prop)(P:List (Int×am)->Prop)(Same:am->am->Prop)(items:Array am)(i:Nat)(es:Array (Int×am))(t:cC):Prop where
 h:TOK es t
 y:t.led=!l9 w
 f:es.size<=i
 g:∀e∈es.toList,e.2∈items.toList
 q:∀j v,j<i->items[j]? =aa v->∃e∈es.toList,Same v e.2
 p:P es.toList
def Io(y:A.handled=ae)(hl:s.heap.IsList l p)(same:∀v∈p.toList,Same v v)(an:∀au,TOK #[] (.fresh 0 0 au))(p0:P [])(aK:∀(v:am)(n:az)(D:bU)(E:am->az->Prop)(Q:Bool->az->Prop)(d:Array (Int×am))(k:Nat)(t:cC),D.units<=A.units+8->v∈p.toList->pM s.heap n.heap->n.heap.get? s.heap.objs.size=aa (gY d k t)->TOK d t->d.size<p.size->(∀e∈d.toList,e.2∈p.toList)->P d.toList->((∃e∈d.toList,Same v e.2)->∀g,n.toks<=g->Q false {n with toks:=g})->(∀f u G z y g,n.toks<=g->gd s.heap.objs.size n.heap f->f.get? s.heap.objs.size=aa (gY u G z)->TOK u z->z.led=t.led->iq u.toList (d.push (y,v)).toList->P u.toList->Q true {n with heap:=f,toks:=g})->aE (aN Y w) D (setAdd s.heap.objs.size v) Q E n)(h:∀(f:aO)(g:Nat)d k t,f.get? s.heap.objs.size=aa (gY d k t)->Hy w TOK P Same p p.size d t->pM s.heap f->Q (.ref s.heap.objs.size) {s with heap:=f,toks:=g}):aE (aN Y w) A (fM (.type "set") [.ref l]) Q E s:=by
 refine SF (λi f=>pM s.heap f/\∃d k t,f.get? s.heap.objs.size=aa (gY d k t)/\Hy w TOK P Same p i d t) y hl (λf N hs=>⟨N,_,_,_,hs,an _,rfl,da _,(λe H=>nomatch H),λj v r=>aD r<|oQ _,p0⟩) (λi h1 h2 B R=>?_) (λi v n D E Q hA F B q=>?_) λf g B N=>?_;·obtain⟨a,d,k,t,b,c⟩:=B;exact⟨λU o W e=>R U o (bu W)<|a U o W e,d,k,t,R _ _ (bb _) b,c⟩
 ·obtain⟨a,d,k,t,b,c⟩:=B;have I:v∈p.toList:=wz.mpr<|DG F;refine aK v n D E Q d k t hA I a b c.h (aL c.f (uC.mp F).1) c.g c.p (λH g J=>?_) λf u G z y g J X aW T' bC hp hP=>?_
  ·refine q false n.heap g J ⟨rfl,λx_ x_=>rfl⟩ ⟨a,d,k,t,b,c.h,c.y,mH c.f,c.g,λj L r C=>?_,c.p⟩;rcases OL.mp r with r|rfl;·exact c.q j L r C
   ·exact bo (F.symm.trans C)▸H
  ·have M:∀x,x∈u.toList↔x∈d.toList\/x=(y,v):=λx=>by rw[hp.mem_iff,uD,fi,cP]
   refine q true f g J X ⟨Xi a X,u,G,z,aW,T',bC.trans c.y,?_,λx bH=>?_,λj L r C=>?_,hP⟩;·refine dh gL<|af hp.length_eq ?_;refine af gL<|af (Array.size_push ..) ?_;exact eM c.f
   ·rcases(M x).mp bH with m|rfl;·exact c.g x m
    ·exact I
   ·rcases OL.mp r with r|rfl;·exact(c.q j L r C).imp λe h=>⟨(M e).mpr<|.inl h.1,h.2⟩
    ·exact(aC _ ((M _).mpr<|.inr rfl)<|bo (F.symm.trans C)▸same v I)
 ·obtain⟨a,d,k,t,b,c⟩:=B;exact h f g d k t b c a
def SH{K:Type}[DecidableEq K]{knd:rd Y w K}{l:ao}{m:Array am}{Q:am->az->Prop}(U:A.handled=ae)(W:A.units+20<k_)(X:s.heap.IsList l m)(y:∀v∈m.toList,tv knd s.heap v)(J:m.size<=18)(h:∀(d:aO)(G:Nat)i z t,d.get? s.heap.objs.size=aa (gY i z t)->rB w i t->(∀e∈i.toList,e.2∈m.toList)->i.size<=m.size->(∀v∈m.toList,∃k,(∃b,v=.ref b/\ke knd s.heap k b)/\∃g,.ref g∈i.toList.map (·.2)/\ke knd s.heap k g)->pM s.heap d->Q (.ref s.heap.objs.size) {s with heap:=d,toks:=G}):aE (aN Y w) A (fM (.type "set") [.ref l]) Q E s:=by
 have B:∀{d:aO},pM s.heap d->∀{k:List K}{b:ao},ke knd s.heap k b->ke knd d k b:=by rintro d ho k b ⟨o,ag,n,e,r⟩;exact(tP o ag n (ho b o (cK e) e) r)
 refine Io (TOK:=rF) (P:=λx_=>True) (Same:=λv v'=>∃k b g,v=.ref b/\v'=.ref g/\ke knd s.heap k b/\ke knd s.heap k g) U X (λv H=>?_) (λdk=>⟨Mu _,rfl,.inl ⟨rfl,da _⟩⟩) trivial (λv L av E Q i z t hA aS a b c aU f x_ q1 q2=>?_) λd G i z t b c a=>?_;·refine fq (y v H) λk b I p=>?_;subst I;exact(dO k b b rfl rfl p p)
 ·refine fq (y v aS) λk x I p=>?_;subst I;have M:av.units+12<k_:=aL (dr hA 12) W;refine dS<|aA<|wpAny_pyHash_tuple (aL (bB ..) M) (B a p) ?_;refine aab (s:={L with toks:=L.toks+(k.length+1)}) (knd:=knd) b c (aL (bB ..) M) (B a p) (λC D=>?_) (aR aU J) (λ⟨g,m1,m2⟩=>q1 ?_ _<|bB ..) λd bF bH t' bL bT T' cw hp=>q2 d bF bH t' _ _ (bB ..) bL bT T' cw hp trivial;·exact fq (y _<|f C D) λN g q u=>(c_ N g q<|B a u)
  ·refine aB (cq.mp m1) λC D cM=>fq (y _<|f C D) λN R q u=>?_;obtain rfl:R=g:=Bh<|q.symm.trans cM;exact⟨C,D,k,x,R,rfl,q,p,(B a u).inj m2▸u⟩
 ·refine h d G i z t b ⟨c.h.f,c.h.e,c.y,ay c.f<|ay J bl⟩ c.g c.f (λv H=>?_) a;obtain⟨j,F,rfl⟩:=uX.mp H;replace F:=gL▸F;obtain⟨e,he,k,b1,b2,q,u,k1,k2⟩:=c.q j _ F<|oA F;exact(rV k ((aC b1 q k1)) b2 (cq.mpr ⟨e,he,u⟩) k2)
end
end
section
open PyProof.Rows
open Sem (wp)
section
variable{E:am->az->Prop}
noncomputable def mc(v:am):Int:=Pw (motive:=λa=>Int) v 0 0 0 (λa=>0) (λn a=>n) (λa a=>0) (λa a=>0) (λa a=>0) (λa=>0) (λa=>0) λa=>0
def SG(N:A.handled=ae)(R:s.heap.IsList l q)(C:∀v∈q.toList,∃n t,v=.int n t)(J:q.size<=64)(h:∀(i:aO)(D:Nat)d B t,i.get? s.heap.objs.size=aa (gY d B t)->rB w d t->(∀e∈d.toList,∃n t,e.2=.int n t)->d.size<=q.size->(d.toList.map λe=>mc e.2).Nodup->(∀n,n∈(d.toList.map λe=>mc e.2)↔n∈q.toList.map mc)->pM s.heap i->Q (.ref s.heap.objs.size) {s with heap:=i,toks:=D}):aE (aN Y w) A (fM (.type "set") [.ref l]) Q E s:=by
 refine Io (TOK:=λd t=>t.fits d.size=true/\eE t) (P:=λl=>ElemsOf (mO Y w) l/\(l.map λe=>mc e.2).Nodup) (Same:=λv U=>mc v=mc U) N R (λv x_=>rfl) (λcQ=>⟨rfl,Mu _⟩) ⟨(λe o=>nomatch o),nK⟩ (λv L cV E Q d B t hA W a b c X f g q1 q2=>?_) λi D d B t b c a=>?_
 ·refine po (C v W) λn u r=>?_;subst r;refine dS<|aA<|(mO Y w).pyHash (k:=n) (mP _ _ _ _) ?_;refine Yr (s:={L with toks:=L.toks+1}) (knd:=mO Y w) b c.1 c.2 g.1 (mP _ _ _ _) rfl (aL (ay X J) bl) (λ⟨p,m1,m2⟩=>q1 (aC p m1 ?_) _<|eC _) λav i aK aS t' aW bw bC T' bF F=>q2 i aK aS t' _ _ (eC _) aW bw ⟨bC,T'⟩ bF F ⟨λp z=>?_,?_⟩;·obtain⟨u',bH⟩:=Gy m2;rw[bH];rfl
  ·rw[F.mem_iff,uD,fi,cP]at z;rcases z with m|rfl;·exact g.1 p m
   ·exact⟨(aC n (mP _ _ _ _) rfl),rfl⟩
  ·rw[(F.map λe:Int×am=>mc e.2).nodup_iff,uD,ja,s8];refine⟨g.2,Oo ..,λx hx y hy=>?_⟩;obtain rfl:y=n:=cP.mp hy;rintro rfl;refine aB (cq.mp hx) λp z M=>po (C _<|f p z) λn2 u2 ca=>?_;have G:=av p z;rw[ca]at G M;obtain rfl:n2=x:=M;rw[mP]at G;exact dK G
 ·refine h i D d B t b ⟨c.h.1,c.h.2,c.y,ay c.f J⟩ (λe o=>C _<|c.g e o) c.f c.p.2 (λn=>⟨λH=>?_,λH=>?_⟩) a;·refine aB (cq.mp H) λe o r=>?_;subst r;exact wV<|c.g e o
  ·refine aB (cq.mp H) λv hv r=>?_;subst r;obtain⟨j,I,rfl⟩:=uX.mp hv;rw[gL]at I;refine aB (c.q j _ I<|oA I) λe o e1=>?_;exact cq.mpr ⟨e,o,e1.symm⟩
end
end
section
open PyProof.Rows (IntsAre seqObj sortedHeap)
variable{X:ao->Prop}
def a_.y(p:a_ C X φ s Q v a)(d:vb):a_ C X φ s Q v {a with drawn:=d}:=by exact fJ p λb c e st f g q=>(dO b c e (⟨st.ext,st.q,st.t,st.h,st.J,rfl,st.L⟩) f g q)
def ZD(R:bA C X φ σ s.heap)(h:ns.length<64)
  (v:∀{A:bU}{P:List am->az->Prop},A.handled=ae->(∀(i:aO)(d:vb)(j:Nat)(a:List am),(∀b o,s.heap.get? b=aa o->i.get? b=aa o)->s.heap.objs.size<=i.objs.size->(∃c,c.Perm ns/\va a c)->P a {s with heap:=i,drawn:=d,toks:=j})->aE (aN C.e C.w) A (xw x) P bx {s with heap:=t,toks:=u})
  (D:A.handled=ae)(q:∀k:List Int,k.Perm ns->k.Pairwise (·<= ·)->Q (.y<|k.map .e) σ):
  aE (aN C.e C.w) A (fM (.builtin "sorted") [x]) (a_ C X φ s Q) bx {s with heap:=t,toks:=u}:=by
 refine Fs Fg Fh Ff (Fd _)<|aA (m:=GM "sorted" 1 1 _)<|ba ?_
 refine aA<|v (A:=A.in1) D λf d j a w l g=>?_
 obtain⟨c,n,g⟩:=g
 have p:=n.length_eq
 have y:a.length=c.length:=by
  clear w l v q h n p
  induction g with
  |nil=>rfl
  |cons _ _ _ F=>simp[F]
 refine aA<|tn ?_ (by rw[bX];exact(bu<|aR (aL (ay (bf y)<|bf p) h) bl))
 have r:(f.push<|fV "list" a.toArray 0).get? f.objs.size=aa (fV "list" a.toArray 0):=dF _ rfl
 refine aA<|dS<|mQ Fi (aC _ r rfl) Fe (OZ r g (by exact(aL (ay (bf y)<|bf p) h)) λout G H I J=>(aC _ rfl ?_))<|Fc _
 refine ba<|aC _ rfl ?_
 obtain⟨e,L⟩:=O1 r (out:=out)
 have M:∀b o,s.heap.get? b=aa o->(sortedHeap (f.push<|fV "list" a.toArray 0) f.objs.size a out).get? b=aa o:=by
  intro b o z
  have B:=aR (cK z) l
  rw[O2 (bZ B)<|by rw[eh];exact cY B]
  exact dB _ _ _ _<|w b o z
 exact(a_.p R M l L (HR H) (.inl<|q G (I.trans n) J) j).y d
end
section
open PyProof.Rows (IntsAre seqObj sortedHeap)
variable{X:ao->Prop}
theorem JG:∀{a:List am},(∀v∈a,∃n t,v=.int n t)->va a (a.map mc)|[],_=>.nil|x::a,h=>by refine po (h x bk) λn t b=>?_;subst b;exact .cons n t<|JG λv c=>h v<|bR _ c
def HQ(h:va a c):(∀v∈a,∃n t,v=.int n t)/\a.map mc=c:=by induction h with|nil=>exact⟨λv b=>aD b cX,rfl⟩|cons i t r d=>exact⟨λv b=>(cB.mp b).elim (λe=>rW i t e)<|d.1 v,aQ _ d.2⟩
def Mi{js:List Int}(h:js.Pairwise (·<= ·))(c:js.Nodup):js.Pairwise (·< ·):=by rw[List.Nodup]at c;exact(h.and c).imp λ{a b}q=>Nz.mpr q
def ZE(O:lK C)(G:eN A n)(R:bA C X φ σ s.heap){f:List Int}(z:VR (aM X φ) φ s.heap u x)(B:fP σ u=aa (f.map .e))(g:f.length<=18)(h:∀c:List Int,c.Pairwise (·< ·)->(∀x,x∈c↔x∈f)->Q (.y<|c.map .e) σ):aE (aN C.e C.w) A (fM (.type "set") [x]) (λv i=>C.K.In i.heap/\aE (aN C.e C.w) A (fM (.builtin "sorted") [v]) (a_ C X φ s Q) bx i) bx s:=by
 refine fQ (kC R B z) λb D F H I J=>?_;subst H;obtain⟨L,j⟩:=HQ<|vT J;have k:D.size=f.length:=by have:=aQ lO j;simpa using this
 refine SG G.e (gT _ I rfl F rfl) L (by exact(ay (ay (bf k) g) bl)) λl M N ep t m K U W Y ac ag=>?_;have p:∀b o,s.heap.get? b=aa o->l.get? b=aa o:=λb o e=>ag b o (cK e) e;refine⟨?_,?_⟩;·exact O.K.keeps λa o e=>p _ _<|R.g a o e
 ·refine ZD R (ns:=N.toList.map λe=>mc e.2) (by simp;exact(aL (ay (ay W<|bf k) g) bl)) (λ{A P}hA hP=>?_) G.e λc q hs=>h c (Mi hs<|q.nodup_iff.mpr Y) λx=>by rw[q.mem_iff,ac,j]
  refine IB (s:={s with heap:=l,toks:=M}) hA m K λh2 d aS r w y=>hP h2 d aS r (λb o e=>w b o<|p b o e) ?_<|aC (r.map mc) ?_<|JG λv hv=>?_;·exact bu<|cK<|w _ _ m
  ·have:=y.map mc;rw[fh]at this;exact this
  ·refine aB (cq.mp<|y.mem_iff.mp hv) λe he bw=>?_;subst bw;exact U e he
end
section
open PyProof.Rows
section
variable{U:Nat->Nat->(Bool->az->Prop)->az->Prop}{I:az->Prop}
abbrev fU(n:Nat)(p:Array Nat):Prop:=p.Perm (bM n).toArray
def fU.e(h:fU n p)(X:0<n)(x:Nat):p.getD x 0<n:=by refine af (DF) ?_;cases a:p[x]? with|none=>exact X|some v=>have:v∈p:=DG a;simpa using(h.mem_iff.mp this)
def fU.f(h:fU n p)(i j:Nat):fU n (kas_rev p i j):=(mirror_perm _ _ _ _).trans h
def fU.g(h:fU n p)(i j:Nat):fU n (bubble p i j):=(bubble_perm _ _ _).trans h
variable(X:0<n)(W:∀(i j:Nat)(C:Bool->az->Prop)(s:az),i<n->j<n->I s->(∀b Y,I Y->C b Y)->U i j C s)
include X W
def HL(c:fU n p):∀(f k:Nat){Q:Nat->az->Prop}{s:az},I s->(∀m Y,I Y->Q m Y)->(kas_asc p f k).kasWp U Q s:=by intro e;induction e with
 |zero=>intro k Q s a q;exact q k s a
 |succ f g=>
  intro k Q s a q;refine W _ _ _ _ (c.e X _) (c.e X _) a λb Y d=>?_;cases b;·exact g (k+1) d q
  ·exact q k Y d
def QG:∀(f:Nat){p:Array Nat}(k r:Nat){Q:Array Nat×Nat×Nat->az->Prop}{s:az},fU n p->I s->(∀i l m Y,fU n i->I Y->Q (i,l,m) Y)->(kas_desc f p k r).kasWp U Q s:=by intro o;induction o with
 |zero=>intro p k r Q s a e q;exact q p k r s a e
 |succ f g=>
  intro p k r Q s a e q;refine W _ _ _ _ (a.e X _) (a.e X _) e λb Y h=>?_;cases b
  ·refine W _ _ _ _ (a.e X _) (a.e X _) h λd t j=>?_;cases d;·exact g (k+1) (r+1) a j q
   ·exact q p k r t a j
  ·show KasT.kasWp U (if r>0 then kas_desc f (kas_rev p (k-(r+1)) k) (k+1) 0 else kas_desc f p (k+1) 0) Q Y;exact fO (λc=>g (k+1) 0 (a.f _ _) h q) λc=>g (k+1) 0 a h q
def HP(b:fU n p)(k m:Nat)(d:I s)(q:∀a c Y,fU n c->I Y->Q (a,c) Y):(kas_tail3 k m p).kasWp U Q s:=by delta kas_tail3;exact af (xn ..)<|HL X W (b.f _ _) _ _ d λa Y e=>q a _ Y (b.f _ _) e
def HO(e:fU n p)(k m:Nat)(f:I s)(q:∀g a Y,fU n a->I Y->Q (g,a) Y):(kas_descPart k m p).kasWp U Q s:=by delta kas_descPart;exact af (xn ..)<|QG X W _ _ _ e f λa h i Y b d=>fO (λc=>HP X W (b.f _ _) _ _ d q) λc=>HP X W b _ _ d q
def QF(a:fU n p)(m:Nat)(g:I s)(q:∀h e Y,fU n e->I Y->Q (h,e) Y):(kas_count m p).kasWp U Q s:=by
 delta kas_count;refine af (xn ..)<|HL X W a _ _ g λk Y d=>?_;refine fO (λc=>q _ _ _ a d) λc=>fO (λc=>?_) λc=>HO X W a _ _ d q;refine W _ _ _ _ (a.e X _) (a.e X _) d λb i f=>?_;cases b;·exact HO X W (a.f _ _) _ _ f q
 ·exact q _ _ _ a f
def QH(d:fU n p)(k:Nat):∀(f l r:Nat){Q:Nat->az->Prop}{s:az},I s->(∀m Y,I Y->Q m Y)->(Bm p k f l r).kasWp U Q s:=by intro h;induction h with
 |zero=>intro l r Q s a q;exact q l s a
 |succ f e=>
  intro l r Q s a q;show(if l≥r then KasT.ret l else .ask (p.getD k 0) (p.getD ((l+r)/2) 0) λc=>if c=true then Bm p k f l ((l+r)/2)else Bm p k f ((l+r)/2+1) r).kasWp U Q s;refine fO (λc=>q l s a) λc=>W _ _ _ _ (d.e X _) (d.e X _) a λb Y g=>?_;cases b;·exact e _ _ g q
  ·exact e _ _ g q
def QE:∀(f:Nat){p:Array Nat}(k:Nat){Q:Array Nat->az->Prop}{s:az},fU n p->I s->(∀c Y,fU n c->I Y->Q c Y)->(kas_bin f p k).kasWp U Q s:=by intro d;induction d with|zero=>intro p k Q s a b q;exact q p s a b|succ f e=>intro p k Q s a b q;show((Bm p k k 0 k).bind λl=>kas_bin f (bubble p k<|k-l)<|k+1).kasWp U Q s;exact af (xn ..)<|QH X W a k _ _ _ b λl Y g=>e (k+1) (a.g _ _) g q
def QI(d:I s)(q:∀p Y,fU n p->I Y->Q p Y):(kas_sort n).kasWp U Q s:=by delta kas_sort;exact af (xn ..)<|QF X W (Array.Perm.refl _) _ d λf e Y a b=>fO (λc=>QE X W _ _ a b q) λc=>q e Y a b
end
end
section
open PyProof.Rows
section
variable{E:am->az->Prop}
noncomputable abbrev iS(h:aO)(a:ao)(b:List am):aO:=((h.update a<|mM λc=>(#[]:Array am)).push<|fV "tuple" b.toArray 0).push<|fV "list" #[] 0
def Wg(m:s.heap.get? a=aa (fV "list" d.toArray n))(r:2<=d.length)(o:d.length<64)(F:∀Q:SortKind->az->Prop,Q h {s with heap:=iS s.heap a d}->aE (aN Y w) A (keyKind' d.toArray) Q E {s with heap:=iS s.heap a d})(G:∀(i j:Nat)(C:Bool->az->Prop)(f:Nat),i<d.length->j<d.length->(∀b t,C b {s with heap:=iS s.heap a d,toks:=t})->Bk Y w A h d i j C {s with heap:=iS s.heap a d,toks:=f})(q:∀(p:Array Nat)(u:aO)(f c:Nat),fU d.length p->gd a (iS s.heap a d) u->u.get? a=aa (fV "list" (p.toList.map λi=>d.getD i lU).toArray c)->P (.done<|.ret .none) {s with heap:=u,toks:=f}):aE (aN Y w) A (Builtin.«list.sort» ⟨[.ref a],[]⟩) P E s:=by
 have ha:a<s.heap.objs.size:=cK m;obtain⟨v,B⟩:∃v,(s.heap.update a<|mM λk=>(#[]:Array am)).get? a=aa (fV "list" #[] v):=⟨_,AS m λk=> #[]⟩;have x:(iS s.heap a d).get? a=aa (fV "list" #[] v):=e_ _<|e_ _ B;refine af (OY ..)<|aA<|listItems_at m rfl ?_;refine aA<|AT m rfl ?_ (by refine af pI ?_;rw[bX];exact(bu<|aR o bl))<|da _;refine aA<|AU B rfl ?_;refine aA<|BF ?_ (by show d.length<=_;rw[bX];exact(bu<|aR o bl));refine aA<|tn ?_<|da _;refine dS ?_;show aE (aN Y w) A _ P E {s with heap:=iS s.heap a d};dsimp only;have D:¬d.toArray.size<2:=by exact af pI<|(AJ r)
 refine af (ap D)<|af (ap D) ?_;refine aA<|F _ ?_;have ask:(kas_sort d.length).kasWp (Bk Y w A h d) (λp g=>fU d.length p/\∃f,g={s with heap:=iS s.heap a d,toks:=f}) {s with heap:=iS s.heap a d}:=QI (I:=λg=>∃f,g={s with heap:=iS s.heap a d,toks:=f}) (by exact(aR bl r)) (λi j C g H J⟨f,e⟩c=>by subst e;exact G i j C f H J λb t=>c b _ ⟨t,rfl⟩) ⟨s.toks,rfl⟩ λp g y L=>⟨y,L⟩;rw[kas_ask_eq]at ask;have M:AR h (d.toArray.zip d.toArray) #[] 7 ae=kas_st h (pN d) (s9<|bM d.length):=by have e:=kas_range<|pN d;rw[pairsOf_size]at e;show AR h (pN d) #[] 7 ae=AR h ((s9<|bM d.length).map<|kas_item<|pN d) #[] 7 ae;rw[e]
 have run:=kas_runs (E:=E) (Q:=λk l g=>∃p:Array Nat,p.size=d.length/\arrOf l=p.map (kas_item<|pN d)/\failedOf l=ae/\fU d.length p/\∃f,g={s with heap:=iS s.heap a d,toks:=f}) r o (λN l g R U W X=>(vP N R U W X)) ask;rw[<-M]at run;refine aA<|cE run ?_ λk k e=>e;rintro⟨⟨⟩,l⟩ g ⟨p,y,ac,hf,an,f,rfl⟩;dsimp only;have au:(arrOf l).map (·.2)=s9 (p.toList.map λi=>d.getD i lU):=by apply DL.mp;refine af ac<|af Array.map_map ?_;refine af M7 ?_;exact kS λi k=>by show(kas_item (pN d) i).2=_;rw[kas_item_eq]
 refine af au ?_;obtain⟨z,av⟩:∃z,((iS s.heap a d).update a<|mM λk=>s9<|p.toList.map λi=>d.getD i lU).get? a=aa (fV "list" (s9<|p.toList.map λi=>d.getD i lU) z):=⟨_,AS x λk=>s9<|p.toList.map λi=>d.getD i lU⟩;refine aA<|AU x rfl ?_;refine aA<|AT x rfl ?_ (da _)<|ay (bf<|by refine af pI ?_;refine af (bq ..) ?_;refine af gL ?_;rw[y]) (by refine af bX ?_;exact(bu<|aR o bl));refine af hf ?_;simp only[bne_self_eq_false,DQ,if_false];exact ba<|q p _ f z an (ka ..) av
end
end
section
open PyProof.Rows
section
variable{E:am->az->Prop}
def AllInt(a:List am):Prop:=∀v∈a,∃n t,v=.int n t
theorem Ka(f:∀b,Q b s):∀(c d:List am)(i:Nat),AllInt c->AllInt d->KatLex Y w A true g Q (c.zip d) (i+1) s
 |[],d,i,_,_=>by exact af List.zip_nil_left<|kat_nil<|f g
 |x::c,[],i,_,_=>by exact af Ow<|kat_nil<|f g
 |x::c,y::d,i,k,l=>by
  refine po (k x bk) λa t h=>?_;subst h;refine po (l y bk) λb u h=>?_;subst h;refine af qX<|kat_cons<|PU<|kat_go (λe=>?_) λe=>?_;·exact kat_yes<|Ka f c d (i+1) (λv j=>k v<|bR _ j) λv j=>l v<|bR _ j
  ·refine kat_no ?_;have:(true&&(i+1==0))=false:=rfl;exact this.symm▸kat_one _ _ (wpAny_lt_int<|f _)
noncomputable def IsTup(h:aO)(v:am):Prop:=∃a b n x t r,v=.ref a/\h.get? a=aa (pw b n)/\b.toList=.str x t::r/\AllInt r
def QQ(d:i<c.length)(k:j<c.length)(f:∀v∈c,IsTup s.heap v)(h:∀b,C b s):Bk Y w A (tuples' true) c i j C s:=by
 unfold Bk;have g:∀{i:Nat},i<c.length->c.getD i lU∈c:=λ{i}d=>by rw[jy,fg d];exact s0 d
 refine v9 (f _<|g d) λa H n x t r l o p z=>v9 (f _<|g k) λb I m y u q B D F G=>af l<|af B ?_;refine kat_lt o rfl D rfl<|af p ?_;refine af F<|af qX ?_;exact kat_cons<|PV<|kat_go (λe=>(kat_yes<|Ka h _ _ _ z G)) λe=>(kat_no<|oneLt_str<|h _)
theorem MD:∀{d:List am},(∀v∈d,IsTup h v)->∃c,c.length=d.length/\KatTups h d c/\∀v∈c,∃x t,v=.str x t
 |[],_=>(bV ([]) rfl (.nil) λv b=>aD b cX)
 |v::d,b=>by
  refine v9 (b v bk) λa l n x t r e f g m=>?_;subst e;refine cz (MD λv h=>b v<|bR _ h) λc i j k=>?_;refine(bV (.str x t::c) (by simp[i]) (.cons f rfl rfl ?_ j) λv b=>?_);·refine dh (iF) ?_;refine af g ?_;rfl
  ·exact db (cB.mp b) (λrfl=>((rW x t rfl))) λb=>k v b
def Vw{a:List am}(c:0<a.length)(b:∀v∈a,IsTup s.heap v)(q:Q (tuples' true) s):aE (aN Y w) A (keyKind' a.toArray) Q E s:=by refine cz (MD b) λh d e f=>?_;refine kat_kind (T:=.type "str") e (by exact(aR c<|bf d.symm)) (λv b=>?_) (rfl) (by exact q);refine po (f v b) λx t g=>?_;subst g;exact Px
def Wh(d:s.heap.get? a=aa (fV "list" b.toArray n))(e:b.length<2)(q:∀(f:aO)(c:Nat),gd a (iS s.heap a b) f->f.get? a=aa (fV "list" b.toArray c)->P (.done<|.ret .none) {s with heap:=f}):aE (aN Y w) A (Builtin.«list.sort» ⟨[.ref a],[]⟩) P E s:=by
 have r:a<s.heap.objs.size:=cK d;obtain⟨g,k⟩:∃g,(s.heap.update a<|mM λh=>(#[]:Array am)).get? a=aa (fV "list" #[] g):=⟨_,AS d λh=> #[]⟩;have i:(iS s.heap a b).get? a=aa (fV "list" #[] g):=e_ _<|e_ _ k;refine af (OY ..)<|aA<|listItems_at d rfl ?_;refine aA<|AT d rfl ?_ (by refine af pI ?_;rw[bX];exact(bu<|aR e bl))<|da _;refine aA<|AU k rfl ?_;refine aA<|BF ?_ (by show b.length<=_;rw[bX];exact(bu<|aR e bl));refine aA<|tn ?_<|da _;apply dS;show aE (aN Y w) A _ P E {s with heap:=iS s.heap a b};dsimp only;have l:b.toArray.size<2:=by exact af pI e
 refine af (aq l)<|af (aq l) ?_;refine aA<|ba ?_;refine af (StateT.run_pure ..)<|aA<|ba ?_;dsimp only;have p:(pN b).map (·.2)=b.toArray:=by apply DL.mp;unfold pN;exact af M7<|af Array.toList_zip<|ES<|bb _
 obtain⟨j,m⟩:∃j,((iS s.heap a b).update a<|mM λh=>b.toArray).get? a=aa (fV "list" b.toArray j):=⟨_,AS i λh=>b.toArray⟩;refine aA<|AU i rfl ?_;refine aA<|AT i rfl ?_ (hsz2:=by refine af M5 ?_;show(pN b).size<=_;refine af (pairsOf_size ..) ?_;refine af bX ?_;exact(bu<|aR e bl));simp only[bne_self_eq_false,DQ,if_false];refine ba ?_;have o:(arrOf<|AR general' (b.toArray.zip b.toArray) #[] 7 ae).map (·.2)=b.toArray:=p;rw[<-o]at m;have:=q _ j (ka ..) (by refine dh o ?_;exact m);exact this
def Wi{P:F7->az->Prop}(m:s.heap.get? a=aa (fV "list" d.toArray n))(G:d.length<64)(H:∀v∈d,IsTup s.heap v)(q:∀(B:List am)(f:aO)(k c:Nat),B.Perm d->(∀b o,s.heap.get? b=aa o->b≠a->f.get? b=aa o)->f.get? a=aa (fV "list" B.toArray c)->P (.done<|.ret .none) {s with heap:=f,toks:=k}):aE (aN Y w) A (Builtin.«list.sort» ⟨[.ref a],[]⟩) P E s:=by
 have u:∀b o,s.heap.get? b=aa o->b≠a->(iS s.heap a d).get? b=aa o:=λb o e g=>e_ _<|e_ _ (by refine af (Heap.get?_update_ne _ _ _ _ g) ?_;exact e);by_cases l:d.length<2;·exact Wh m l λf c y e=>q d f s.toks c (.refl _) (λb o e g=>(y.2 b g).trans<|u b o e g) e
 ·have D:∀v∈d,IsTup (iS s.heap a d) v:=λv h=>by refine v9 (H v h) λb I J x t r L z M N=>(Cv b I J x t r L (u b _ z λe=>?_) M N);rw[e,m]at z;exact aD (aQ F_<|bo z) (by simp[fV])
  refine Wg m (by exact(jb l)) G (λQ R=>Vw (by exact(aR bl<|jb l)) D R) (λi j C k U W X=>QQ U W D λb=>X b k) λp f k c hp y e=>?_;refine q _ f k c ?_ (λb o e g=>(y.2 b g).trans<|u b o e g) e;have e':(bM d.length).map (λi=>d.getD i lU)=d:=by refine NT (by simp) λi F l=>?_;simp at F;simp[jy,F]
  have:=(Array.perm_iff_toList_perm.mp hp).map λi=>d.getD i lU;rw[List.toList_toArray,e']at this;exact this
end
end
section
open PyProof.Rows (seqObj)
variable{X:ao->Prop}
def Tp(x:V):Prop:=∃(t:ah)(a:List Int),x=.h (.p t::a.map .e)
noncomputable def vV(t:ah)(a:List Int):List cT:=.s t::a.map .i
def Vv(t:ah)(a:List Int):kB (.h<|.p t::a.map .e)=aa (vV t a):=CL rfl<|JV (λb=>rfl) a
def Vj(h:vV t a=vV u b):t=u/\a=b:=by unfold vV at h;exact cj (qU h) λc d=>⟨cT.s.inj c,(EQ λf f e=>cT.i.inj e).mp d⟩
theorem bd.y{h:aO}:∀{l:List V}{d:List am},bd b φ h l d->(∀x∈d,∃v∈l,VR b φ h v x)/\∀v∈l,∃x∈d,VR b φ h v x
 |[],d,e=>by exact⟨λx h=>aD ((show d=[]from e)▸h) cX,λx h=>(nomatch h)⟩
 |v::l,d,e=>by
  refine dA e λx j g f i=>?_;subst g;obtain⟨a,b⟩:=bd.y i;refine⟨λy c=>?_,λy c=>?_⟩
  ·rcases cB.mp c with rfl|c;·exact⟨v,bk,f⟩
   ·exact aB (a y c) λw p q=>⟨w,bR _ p,q⟩
  ·rcases cB.mp c with rfl|c;·exact⟨x,bk,f⟩
   ·exact aB (b y c) λw p q=>⟨w,bR _ p,q⟩
theorem bd.T{h:aO}{l:List V}:∀{xs:List am},(∀x∈xs,∃v∈l,VR b φ h v x)->∃c,bd b φ h c xs/\∀v∈c,v∈l
 |[],_=>(aC ([]) rfl λv h=>aD h cX)
 |x::xs,d=>by
  refine aB (d x bk) λv f e=>aB (bd.T λy g=>d y<|bR _ g) λc a b=>(aC (v::c) ((cp x xs rfl e a)) λw hw=>?_);rcases cB.mp hw with rfl|hw;·exact f
  ·exact b w hw
def VR.p{h:aO}(c:Tp v)(e:VR b φ h v x):IsTup h x:=by refine po c λt m d=>?_;subst d;obtain⟨a,f,n,rfl,_,g,y,i,j,⟨k,rfl⟩,l⟩:=e;exact(Cv a f n t k i rfl g j<|(HQ<|vT l).1)
def ZG(O:lK C)(G:eN A n)(R:bA C X φ σ s.heap)(ex:VR (aM X φ) φ s.heap u x)(hu:fP σ u=aa l)(U:l.length<=18)(B:∀x∈l,Tp x)(h:∀p:List V,(∀x,x∈p↔x∈l)->p.length<=l.length->Q (.y p) σ):aE (aN C.e C.w) A (fM (.type "set") [x]) (λv W=>C.K.In W.heap/\aE (aN C.e C.w) A (fM (.builtin "sorted") [v]) (a_ C X φ s Q) bx W) bx s:=by
 refine fQ (kC R hu ex) λb Y k2 z e3 e4=>?_;subst z;have F:l.length=Y.size:=e4.f;refine cj (bd.y e4) λH m2=>?_;have I:∀{v:V}{x:am},Tp v->VR (aM X φ) φ s.heap v x->∃t i a,v=.h (.p t::i.map .e)/\x=.ref a/\ke (xQ C.e C.w) s.heap (vV t i) a:=by rintro v x ⟨t,i,rfl⟩ e;exact cz (VR.g (C:=C) (Vv t i) e) λa J x_ f=>(rX t i a rfl J f)
 have cJ:A.units+20<k_:=by have:=G.g;unfold k_;exact(aL (dr (bu<|aL (bB ..) this) _) bl)
 refine SH (knd:=xQ C.e C.w) G.e cJ (gT _ e3 rfl k2 rfl) (λv g=>?_) (F▸U) λh' tk es ep t ho K cQ au cV dc=>?_;·exact aB (H v g) λw L e=>fQ (I (B w L) e) λt i a x_ J f=>(c_ _ a J f)
 have av:∀b o,s.heap.get? b=aa o->h'.get? b=aa o:=λb o e=>dc b o (cK e) e;refine⟨O.K.keeps λa o e=>av _ _<|R.g a o e,?_⟩;refine Fs Fg Fh Ff (Fd _)<|aA (m:=GM "sorted" 1 1 _)<|ba ?_;refine aA<|IB (s:={s with heap:=h',toks:=tk}) G.e ho K λf d dg j k3 D=>?_;have aS:∀b o,s.heap.get? b=aa o->f.get? b=aa o:=λb o e=>k3 b o<|av b o e;have aU:j.length<=18:=by rw[D.length_eq,bq,gL];exact ay au<|F▸U
 have hz:s.heap.objs.size<=f.objs.size:=bu<|cK<|k3 _ _ ho;refine aA<|tn ?_<|ay aU bl;have bw:(f.push<|fV "list" j.toArray 0).get? f.objs.size=aa (fV "list" j.toArray 0):=dF _ rfl;have bC:∀v∈j,v∈Y.toList:=λv g=>by refine aB (cq.mp<|D.mem_iff.mp g) λe M dj=>?_;subst dj;exact cQ e M
 have dk:∀v∈j,IsTup (f.push<|fV "list" j.toArray 0) v:=λv g=>by exact aB (H v<|bC v g) λw L e=>v9 (VR.p (B w L) e) λa xs n x t r f1 f2 f3 f4=>(Cv a xs n x t r f1 (dB _ _ _ _<|aS _ _ f2) f3 f4)
 refine aA<|dS<|mQ Fi (aC _ bw rfl) Fe (Wi (s:={s with heap:=f.push<|fV "list" j.toArray 0,drawn:=d,toks:=dg}) bw (aL aU bl) dk λus h5 dU c N hk M=>(aC _ rfl ?_))<|Fc _;refine ba<|aC _ rfl ?_;have kk:∀b o,s.heap.get? b=aa o->h5.get? b=aa o:=λb o e=>hk b o (dB _ _ _ _<|aS b o e)<|bZ<|aR (cK e) hz;refine aB (bd.T (l:=l) (b:=aM X φ) (φ:=φ) (h:=s.heap) (xs:=us) λx hx=>H x<|bC x<|N.mem_iff.mp hx) λp P sub=>?_;have q:=h p (λv=>⟨sub v,λg=>?_⟩) (by refine af P.h ?_;refine af N.length_eq ?_;refine af F ?_;exact(by refine af D.length_eq ?_;refine af (bq ..) ?_;refine af gL ?_;exact au));·exact(a_.p (c:=c) R kk hz M (vs:=p) P (.inl q) dU).y d
 ·refine aB (m2 v g) λy hy ey=>fQ (I (B v g) ey) λt i a z eP ik=>?_;subst z;subst eP;obtain⟨k,⟨b1,eU,fb⟩,b2,fw,fI⟩:=cV _ hy;cases eU;refine aB ((bd.y P).1 _ (N.mem_iff.mpr<|D.mem_iff.mpr fw)) λv' bF fZ=>fQ (I (B v'<|sub v' bF) fZ) λt' i6 a' z ea gC=>?_;subst z;cases ea;obtain rfl:=ik.inj fb;obtain⟨rfl,rfl⟩:=Vj<|gC.inj fI;exact bF
def ZF(O:lK C)(G:eN A n)(R:bA C X φ σ s.heap)(a:VR (aM X φ) φ s.heap u x)(b:fP σ u=aa l)(h:BU l λe=>Q (.y e) σ):aE (aN C.e C.w) A (fM (.type "set") [x]) (λv c=>C.K.In c.heap/\aE (aN C.e C.w) A (fM (.builtin "sorted") [v]) (a_ C X φ s Q) bx c) bx s:=by
 obtain⟨d,⟨g,rfl,h⟩|⟨f,h⟩⟩:=h;·exact ZE O G R a b (by simpa using d) h
 ·exact ZG O G R a b d f h
end
section
variable{C:Ctx}{X:ao->Prop}{cx:Cx}
def SY(v:∀a,X a->a<s.heap.objs.size)(w:∀a,X a->h a)(st:Step F0 φ s d c)(R:bA C h d m c.heap)(P:c.heap.PlainList D n)(x:bd (aM h d) d c.heap l n.toList)(y:h D)(p:h g)(z:D≠g)(A:s.heap.objs.size<=D)(B:s.heap.objs.size<=g)(j:gd g c.heap i)(q:Q (.y l) m):a_ C X φ s Q (.ref D) {c with heap:=i}:=by
 have t:c.heap.objs.size<=i.objs.size:=bf j.1.symm;have u:Step (λb=>b=g) d c d {c with heap:=i}:=⟨λb o e r f=>j.extBut b o f e,λr r e=>e,λr e=>.inl e,t,rfl,rfl,rfl⟩;refine cj ((R.N (λb=>b=g) (λb e=>e▸p) (λb e=>e▸(R.e _ p).2.2) (λb o e F=>j.extBut b o F e) t).U w) λG H=>aV (P.extBut j.extBut z) λk I=>(dO d m (.y l) (Step.U st u λb e=>e▸B) G ((dO D n k rfl ?_ I<|bd.e H _ _<|bd.e (u.f λb e=>e▸p) _ _ x)) q);rintro(q|q);·exact dE _<|aR (v _ q) A
 ·exact(R.e _ y).1 q
def Co(F:sJ cx a x)(S:dQ C n A X W cx φ σ s m):GN a W=pure (jF a W.cells):=SQ λy b=>S.f.q y (by unfold oS;refine af S.p ?_;exact(F.h y b).1)
noncomputable def mn(e:ax):Bool:=e.ctorIdx !=7
def yr(h:mn a=true)(W:cZ)(x:am):foldedSetIterable a W x=pure x:=by cases a<;>first|rfl|exact dK (h:false=true)
def L_(f:List V->V->St->(Option V->St->Prop)->Prop)(i:E)(r:bP C n e b cx)(t:mn b=true)(u:sn cx d x=true)(y:∀m σ Q,aF C n i m σ Q->aF C n e m σ λz σ=>∃c,gK z=aa c/\c.length<=cN/\h_ (f m) c [] σ (λl σ=>Q (.y l) σ))(B:∀m,rH C n (jh cx d x) h g m<|f m):bP C n i (.ListComp g [⟨.Name x o,b,h,0⟩] d p) cx:=by intro A X W φ σ s m Q S w;have F:=C7 u;refine af (eval_ListComp ..)<|Hb (use:=ae) rfl (yr t W) (Co F S) F.e F.p (show aE _ A (fY b W) _ _ _ from S.g (r S<|y _ _ _ w) λR U Y v s' j st ev q=>?_);refine cz q λc H J w=>IE (RR:=λM k=>compPost (aN C.e C.w) A bx ae (a_ C X φ s Q) M k) F (B m) j ev H J w ?_;intro X' I D k an au l ys N aK G L q;exact(aC N L.f λh' P=>(SY (λa q=>(j.e.e a q).2.1) G.T L.h L.S.e L.g L.e G.p G.g G.h G.f G.e P q).q st)
def Zk(h:bP C n a b cx)(i:mn b=true)(j:sn cx c x=true)(l:bP C n e d (jh cx c x)):bP C n (.T e a) (.ListComp d [⟨.Name x f,b,[],0⟩] c g) cx:=L_ (λm x σ k=>aF C n e (m++[x]) σ λv σ=>k (aa v) σ) (.T e a) h i j (λm σ Q w=>w) λm=>ME l m
def Zl(o:bP C n f g cx)(p:mn g=true)(q:sn cx a x=true)(r:bP C n e h (jh cx a x))(s:gG C n c i (jh cx a x)):bP C n (.b e f c) (.ListComp h [⟨.Name x j,g,[i],0⟩] a l) cx:=L_ (λm x σ k=>aF C n c (m++[x]) σ λb σ=>∃d,b=.g d/\if d then(aF C n e (m++[x]) σ λv σ=>k (aa v) σ)else k ae σ) (.b e f c) o p q (λm σ Q w=>w) λm=>turn_if r s m
def B8(g:rL C.K f=true)(i:gi q=true)(h:aE (aN C.e C.w) A (fY q W) (λv a=>C.K.In a.heap/\aE (aN C.e C.w) A (fM f [v]) Q bx a) bx s):aE (aN C.e C.w) A (Br b f [] (lW b<|km [q] W)<|Bp b<|Bu [] W) Q bx s:=by have c:=ur i [] W;have d:aE (aN C.e C.w) A (Bw<|lW b<|km [q] W) (λj a=>C.K.In a.heap/\aE (aN C.e C.w) A (fM f<|[]++j) Q bx a) bx s:=O3 (cE h (λv a h=>Pd h) λk k e=>e) c;rw[c]at d⊢;exact xp (P:=C.K.In) rfl (λh X=>CI g h X _)<|Ft d
def Zw(O:cL C)(u:bP C n (.Y 1) (.Name f i) cx)(x:bP C n (.Y 2) (.Name g j) cx)(y:gi b=true)(z:bP C n e b cx):bP C n (.i e) (.Call (.Name f i) [.Call (.Name g j) [b] [] r] [] t) cx:=by intro A X W φ σ s m Q S w;refine Bz<|S.g (u (Q:=λv c=>v=.F (.builtin "sorted")/\c=σ) S<|wy O.p rfl) λM B N f P k D F q=>?_;obtain⟨rfl,rfl⟩:=q;obtain rfl:f=_:=F;refine B8 rfl rfl<|Bz<|k.g (x (Q:=λv c=>v=.F (.type "set")/\c=B) k<|wy O.h rfl) λR U Y G ac o H I q=>?_;obtain⟨rfl,rfl⟩:=q;obtain rfl:G=_:=I;exact B8 rfl y<|o.g (z o w) λag an mv v av d J ev q=>⟨d.e.K O.e,(aB q λl L q=>cE (ZF O.e d.h d.e ev L q) (λv aK h=>⟨h.1,cE h.2 (λa a p=>p.q<|(D.e H).e J) λa a e=>e⟩) λa a e=>e)⟩
noncomputable def CY(x:ah):Bool:=!(x==("__debug__":ah))
noncomputable def boolOp(a:BoolOp)(o:Bool):Bool:=match a with|.And=>o|.Or=>!o
noncomputable def MJ(a:UnaryOp)(o:Bool):Bool:=match a with|.Not=>o|.USub=>!o|_=>false
def mZ(C:Ctx)(cx:Cx)(g:Nat)(x:ah):Bool:=cx.e.names.lookup x==aa .globalImplicit&&(C.q g==aa x&&CY x)
def mZ.e(O:cL C)(h:mZ C cx g x=true):bP C n (.Y g) (.Name x p) cx:=Zf O (bO (aj h).1) (bO (aj (aj h).2).1)<|gV (aj (aj h).2).2
def mq(f:ah->ax->List ax->Bool)(g:List tc):Bool:=eR (λc=>ft c.target λx=>c.is_async==0&&f x c.iter c.ifs) g
def mq.e{g:List tc}{R:List tc->Prop}(h:mq f g=true)(k:∀x e b d,f x b d=true->R [⟨.Name x e,b,d,0⟩]):R g:=eR.e (λc h=>by obtain⟨t,b,d,a⟩:=c;refine ft.e (R:=λt=>R [⟨t,b,d,a⟩]) h λx e h=>?_;exact((show a=0 from bO (aj h).1)).symm▸k x e b d (aj h).2) h
def vI(C:Ctx)(cx:Cx)(a:dN)(x:ah)(b:ax):Bool:=mn b&&sn cx a x
def Wj(s:ah)(q:ax):Bool:=jN q λc=>p6 c λt=>s==t
mutual
noncomputable def bW(C:Ctx):E->Cx->ax->Bool
 |.L,_,q=>jN q λc=>c.ctorIdx==0
 |.U b,_,q=>jN q λc=>tB c λd=>b==d
 |.p b,_,q=>jN q λc=>xT c λd=>b==d
 |.y b,_,q=>jN q λc=>p6 c λd=>b==d
 |.e i,cx,q=>ft q λx=>cx.f[i]? ==aa (aa x)&&CY x
 |.Y g,cx,q=>ft q λx=>mZ C cx g x
 |.k a b,cx,q=>ud q λo l=>boolOp o true&&oe (λx y=>bW C a cx x&&bW C b cx y) l
 |.c a b,cx,q=>ud q λo l=>boolOp o false&&oe (λx y=>bW C a cx x&&bW C b cx y) l
 |.l a,cx,q=>uf q λo x=>MJ o true&&bW C a cx x
 |.J o a b,cx,q=>zb q λx o' y=>xS o==o'&&(bW C a cx x&&bW C b cx y)
 |.u a,cx,q=>uf q λo x=>MJ o false&&bW C a cx x
 |.Z t a b,cx,q=>ze q λx y z=>bW C t cx x&&(bW C a cx y&&bW C b cx z)
 |.t o a b,cx,q=>ue q λx os l=>bW C a cx x&&(os==[gH o]&&eR (λy=>bW C b cx y&& !GH (gH o) y) l)
 |.o o p a b c,cx,q=>ue q λx os l=>bW C a cx x&&(os==[gH o,gH p]&&oe (λy z=>bW C b cx y&&(bW C c cx z&& !GU [gH o,gH p] [y,z])) l)
 |.F es,cx,q=>oj q λl=>oa C es cx l&&decide (l.length<=100)
 |.N es,cx,q=>zh q λl=>oa C es cx l&&decide (l.length<=100)
 |.d _,_,q=>qD q λk l=>cW k&&cW l
 |.s ks es,cx,q=>qD q λkeys l=>oa C es cx l&&(v_ ks keys&&(decide ks.Nodup&&(decide (keys.length=l.length)&&(decide (l.length<=15)&& !cW l))))
 |.r a b,cx,q=>qD q λkeys l=>eR (f6 λx=>bW C a cx x) keys&&eR (λy=>bW C b cx y) l
 |.T e iter,cx,q=>oi q λelt g scope=>mq (λx it ifs=>cW ifs&&(vI C cx scope x it&&(bW C iter cx it&&bW C e (jh cx scope x) elt))) g
 |.b e iter c,cx,q=>oi q λelt g scope=>mq (λx it ifs=>eR (λec=>bW C c (jh cx scope x) ec) ifs&&(vI C cx scope x it&&(bW C iter cx it&&bW C e (jh cx scope x) elt))) g
 |.h c pos e,cx,q=>ni q λx name x_=>bW C e cx x&&(v4 x&&f6 (λk=>k.f[pos]? ==aa name) (C.h c))
 |.q a b,cx,q=>j5 q λx y=>bW C a cx x&&(bW C b cx y&&C0 y)
 |.a a b,cx,q=>j5 q λx y=>bW C a cx x&&qE y λlo hi st=>f6 (λz=>bW C b cx z) lo&&(jJ hi&&jJ st)
 |.j a b,cx,q=>j5 q λx y=>bW C a cx x&&qE y λlo hi st=>jJ lo&&(f6 (λz=>bW C b cx z) hi&&jJ st)
 |.f g es,cx,q=>jM q λfx l kw x_=>ft fx λx=>mZ C cx g x&&(cW kw&&oa C es cx l)
 |.g k o es,cx,q=>jM q λfx l kw pos=>ni fx λx name apos=>bW C o cx x&&(v4 x&&(C.g k==name&&(cW kw&&(oa C es cx l&&(decide (l.length<30)&&apos.endLine==pos.line)))))
 |.n _,_,_=>false
 |.i e,cx,q=>jM q λfx l kw x_=>ft fx λf=>mZ C cx 1 f&&(cW kw&&eR (λy=>jM y λgx k kv x_=>ft gx λg=>mZ C cx 2 g&&(cW kv&&eR (λx=>gi x&&bW C e cx x) k)) l)
 |.m pre e,cx,q=>zg q λl=>oe (λx y=>Wj pre x&&(decide (pre.length<=100)&&zd y λz c sp=>c== -1&&(jJ sp&&bW C e cx z))) l
noncomputable def oa(C:Ctx):Es->Cx->List ax->Bool
 |.f,_,q=>cW q
 |.e e es,cx,q=>match q with
  |[]=>false
  |x::xs=>gi x&&(bW C e cx x&&oa C es cx xs)
end
def ct(C:Ctx)(n:Nat)(e:E)(q:ax)(cx:Cx):Prop:=bP C n e q cx/\gG C n e q cx
def gq(h:bP C n e q cx)(b:∀W a,xB q W a=(do let v<-a;rp q.pos;pU [v]<|truthy v)):ct C n e q cx:=⟨h,gG.e h b⟩
def Zj(e:gG C n t x cx)(f:gG C n a y cx)(g:gG C n b z cx):gG C n (.Z t a b) (.IfExp x y z p) cx:=by intro A X W φ σ s m Q S w;refine af (arm_isTrue_IfExp ..)<|aA<|S.y (e S w) λh i c j d st q=>?_;cases c with|true=>exact HJ st (f d q)|false=>exact HJ st<|g d q
def K0(O:cL C)(e:E):∀cx q,bW C e cx q=true->ct C n e q cx:=by
 refine @E.rec (λe=>∀cx q,bW C e cx q=true->ct C n e q cx) (λA=>∀cx l,oa C A cx l=true->qP C n cx A l)
  ?none ?bool ?int ?str ?loc ?glob ?and ?or ?not ?bin ?neg ?ite ?cmp ?cmp2 ?tup ?list ?dict0 ?dictS ?dict1 ?lcomp ?lcompIf ?dsetT ?attr ?sub ?sfrom ?sto ?call ?meth ?fstr ?sset ?nil ?cons e
 case none=>
  exact λcx q h=>jN.e (R:=λq=>ct C n .L q cx) h λc k p h=>by
   cases c<;>first|exact gq Zr λm m=>rfl|exact ff h
 case bool=>
  exact λb cx q h=>jN.e (R:=λq=>ct C n (.U b) q cx) h λc k p h=>tB.e (R:=λc=>ct C n (.U b) (.Constant c k p) cx) h λd h=>bO h▸gq Y2 λm m=>rfl
 case int=>
  exact λb cx q h=>jN.e (R:=λq=>ct C n (.p b) q cx) h λc k p h=>xT.e (R:=λc=>ct C n (.p b) (.Constant c k p) cx) h λd h=>bO h▸gq Zh λm m=>rfl
 case str=>
  exact λb cx q h=>jN.e (R:=λq=>ct C n (.y b) q cx) h λc k p h=>p6.e (R:=λc=>ct C n (.y b) (.Constant c k p) cx) h λd h=>bO h▸gq Zy λm m=>rfl
 case loc=>
  exact λi cx q h=>ft.e (R:=λq=>ct C n (.e i) q cx) h λx p h=>gq (Zn (bO (aj h).1)<|gV (aj h).2) λm m=>rfl
 case glob=>
  exact λg cx q h=>ft.e (R:=λq=>ct C n (.Y g) q cx) h λx p h=>gq (mZ.e O h) λm m=>rfl
 case and=>
  exact λa b r s cx q h=>ud.e (R:=λq=>ct C n (.k a b) q cx) h λo l p h=>oe.e (R:=λl=>ct C n (.k a b) (.BoolOp o l p) cx) (λx y k=>by
   cases o with
   |Or=>exact ff h
   |And=>exact⟨YW (r cx x (aj k).1).1 (s cx y (aj k).2).1 λm=>rfl,YR (r cx x (aj k).1).2 (s cx y (aj k).2).2⟩) (aj h).2
 case or=>
  exact λa b r s cx q h=>ud.e (R:=λq=>ct C n (.c a b) q cx) h λo l p h=>oe.e (R:=λl=>ct C n (.c a b) (.BoolOp o l p) cx) (λx y k=>by
   cases o with
   |And=>exact ff h
   |Or=>exact⟨Zt (r cx x (aj k).1).1 (s cx y (aj k).2).1 λm=>rfl,YV (r cx x (aj k).1).2 (s cx y (aj k).2).2⟩) (aj h).2
 case not=>
  exact λa r cx q h=>uf.e (R:=λq=>ct C n (.l a) q cx) h λo x p h=>by
   cases o<;>first|exact⟨Zs (r cx x (aj h).2).1,YU (r cx x (aj h).2).2⟩|exact ff h
 case neg=>
  exact λa r cx q h=>uf.e (R:=λq=>ct C n (.u a) q cx) h λo x p h=>by
   cases o<;>first|exact gq (Zp (r cx x (aj h).2).1) λm m=>rfl|exact ff h
 case bin=>
  exact λo a b r s cx q h=>zb.e (R:=λq=>ct C n (.J o a b) q cx) h λx o' y p h=>by
   have e:xS o=o':=bO (aj h).1
   exact e▸gq (Y1 (r cx x (aj (aj h).2).1).1 (s cx y (aj (aj h).2).2).1) λm m=>rfl
 case ite=>
  exact λt a b H r s cx q h=>ze.e (R:=λq=>ct C n (.Z t a b) q cx) h λx y z p h=>
   have X:=H cx x (aj h).1
   have Y:=r cx y (aj (aj h).2).1
   have Z:=s cx z (aj (aj h).2).2
   ⟨Zi X.2 Y.1 Z.1,Zj X.2 Y.2 Z.2⟩
 case cmp=>
  exact λo a b r s cx q h=>ue.e (R:=λq=>ct C n (.t o a b) q cx) h λx os l p h=>eR.e (R:=λl=>ct C n (.t o a b) (.Compare x os l p) cx) (λy k=>by
   have e:os=[gH o]:=bO (aj (aj h).2).1
   have X:=r cx x (aj h).1
   have Y:=s cx y (aj k).1
   exact e▸⟨Y4 O X.1 Y.1<|gV (aj k).2,YS O X.1 Y.1<|gV (aj k).2⟩) (aj (aj h).2).2
 case cmp2=>
  exact λo o2 a b c r s ic cx q h=>ue.e (R:=λq=>ct C n (.o o o2 a b c) q cx) h λx os l p h=>oe.e (R:=λl=>ct C n (.o o o2 a b c) (.Compare x os l p) cx) (λy z k=>by
   have e:os=[gH o,gH o2]:=bO (aj (aj h).2).1
   have X:=r cx x (aj h).1
   have Y:=s cx y (aj k).1
   have Z:=ic cx z (aj (aj k).2).1
   exact e▸⟨Y5 O X.1 Y.1 Z.1<|gV (aj (aj k).2).2,YT O X.1 Y.1 Z.1<|gV (aj (aj k).2).2⟩) (aj (aj h).2).2
 case tup=>
  exact λA v cx q h=>oj.e (R:=λq=>ct C n (.F A) q cx) h λl k p h=>gq (ZB (v cx l (aj h).1).e.1<|cR (aj h).2) λm m=>rfl
 case list=>
  exact λA v cx q h=>zh.e (R:=λq=>ct C n (.N A) q cx) h λl p h=>gq (Zm (v cx l (aj h).1).e.1<|cR (aj h).2) λm m=>rfl
 case dict0=>
  exact λk cx q h=>qD.e (R:=λq=>ct C n (.d k) q cx) h λI l p h=>by
   exact af (cW.e (aj h).1)<|(cW.e (aj h).2).symm▸gq Y9 λm m=>rfl
 case dictS=>
  exact λI A v cx q h=>qD.e (R:=λq=>ct C n (.s I A) q cx) h λcM l p h=>
   have w:=(aj h).2
   have B:=(aj w).2
   have N:=(aj B).2
   have P:=(aj N).2
   gq (Y' (v cx l (aj h).1) (aj w).1 (cR (aj B).1) (cR (aj N).1) (λe=>dK<|(gV (aj P).2).symm.trans<|aQ cW e) (cR (aj P).1)) λm m=>rfl
 case dict1=>
  exact λa b r s cx q h=>qD.e (R:=λq=>ct C n (.r a b) q cx) h λI l p h=>
   eR.e (R:=λl=>ct C n (.r a b) (.Dict I l p) cx) (λy k=>eR.e (R:=λI=>ct C n (.r a b) (.Dict I [y] p) cx) (λu g=>f6.e (R:=λu=>ct C n (.r a b) (.Dict [u] [y] p) cx) (λx g=>
    gq (Y_ (r cx x g).1 (s cx y k).1) λm m=>rfl) g) (aj h).1) (aj h).2
 case lcomp=>
  exact λe J v ii cx q h=>oi.e (R:=λq=>ct C n (.T e J) q cx) h λL g Q p h=>mq.e (R:=λg=>ct C n (.T e J) (.ListComp L g Q p) cx) h λx px H aK h=>by
   have w:=(aj h).2
   have B:=(aj w).2
   exact(cW.e (aj h).1).symm▸gq (Zk (ii cx H (aj B).1).1 (aj (aj w).1).1 (aj (aj w).1).2 (v _ L (aj B).2).1) λm m=>rfl
 case lcompIf=>
  exact λe J c v ii ic cx q h=>oi.e (R:=λq=>ct C n (.b e J c) q cx) h λL g Q p h=>mq.e (R:=λg=>ct C n (.b e J c) (.ListComp L g Q p) cx) h λx px H aK h=>
   eR.e (R:=λaK=>ct C n (.b e J c) (.ListComp L [⟨.Name x px,H,aK,0⟩] Q p) cx) (λec k=>
    have w:=(aj h).2
    have B:=(aj w).2
    gq (Zl (ii cx H (aj B).1).1 (aj (aj w).1).1 (aj (aj w).1).2 (v _ L (aj B).2).1 (ic _ ec k).2) λm m=>rfl) (aj h).1
 case dsetT=>
  exact λH m cx q h=>ff h
 case attr=>
  exact λc U e v cx q h=>ni.e (R:=λq=>ct C n (.h c U e) q cx) h λx ac p h=>by
   have w:=(aj h).2
   obtain⟨k,hk,B⟩:∃k,C.h c=aa k/\k.f[U]? =aa ac:=f6.e (f:=λk:lJ=>k.f[U]? ==aa ac) (R:=λo=>∃k,o=aa k/\k.f[U]? =aa ac) (λk h=>(aC k rfl<|bO h)) (aj w).2
   exact gq (Y0 O (v cx x (aj h).1).1 (aj w).1 hk B) λm m=>rfl
 case sub=>
  exact λa b r s cx q h=>j5.e (R:=λq=>ct C n (.q a b) q cx) h λx y p h=>
   gq (Zz O (r cx x (aj h).1).1 (s cx y (aj (aj h).2).1).1 (aj (aj h).2).2) λm m=>rfl
 case sfrom=>
  exact λa b r s cx q h=>j5.e (R:=λq=>ct C n (.a a b) q cx) h λx y p h=>qE.e (R:=λy=>ct C n (.a a b) (.Subscript x y p) cx) (aj h).2 λlo hi st D k=>
   f6.e (R:=λlo=>ct C n (.a a b) (.Subscript x (.Slice lo hi st D) p) cx) (λz g=>by
    refine af (jJ.e (aj (aj k).2).1) ?_;exact(jJ.e (aj (aj k).2).2).symm▸gq (Zv (r cx x (aj h).1).1 (s cx z g).1) λm m=>rfl) (aj k).1
 case sto=>
  exact λa b r s cx q h=>j5.e (R:=λq=>ct C n (.j a b) q cx) h λx y p h=>qE.e (R:=λy=>ct C n (.j a b) (.Subscript x y p) cx) (aj h).2 λlo hi st D k=>
   f6.e (R:=λhi=>ct C n (.j a b) (.Subscript x (.Slice lo hi st D) p) cx) (λz g=>by
    refine af (jJ.e (aj k).1) ?_;exact(jJ.e (aj (aj k).2).2).symm▸gq (Zx (r cx x (aj h).1).1 (s cx z g).1) λm m=>rfl) (aj (aj k).2).1
 case call=>
  exact λg A v cx q h=>jM.e (R:=λq=>ct C n (.f g A) q cx) h λG l F p h=>ft.e (R:=λG=>ct C n (.f g A) (.Call G l F p) cx) h λx D h=>by
   have w:=(aj h).2
   have R:=(v cx l (aj w).2).e
   exact(cW.e (aj w).1).symm▸gq (Y3 O (mZ.e O (aj h).1) R.2.1 R.1 R.2.2) λm m=>rfl
 case meth=>
  exact λk o A io v cx q h=>jM.e (R:=λq=>ct C n (.g k o A) q cx) h λG l F p h=>ni.e (R:=λG=>ct C n (.g k o A) (.Call G l F p) cx) h λx ac D h=>by
   have w:=(aj h).2
   have B:=(aj w).2
   have N:=(aj B).2
   have P:=(aj N).2
   have h6:=(aj P).2
   have R:=(v cx l (aj P).1).e
   exact(cW.e (aj N).1).symm▸gq (Zo O (io cx x (aj h).1).1 (aj w).1 (bO (aj B).1) R.2.1 (cR (aj h6).1) (aj h6).2 R.1 R.2.2) λm m=>rfl
 case fstr=>
  exact λM e v cx q h=>zg.e (R:=λq=>ct C n (.m M e) q cx) h λl p h=>oe.e (R:=λl=>ct C n (.m M e) (.JoinedStr l p) cx) (λx y h=>
   jN.e (R:=λx=>ct C n (.m M e) (.JoinedStr [x,y] p) cx) (aj h).1 λc k1 p1 g=>p6.e (R:=λc=>ct C n (.m M e) (.JoinedStr [.Constant c k1 p1,y] p) cx) g λt g=>zd.e (R:=λy=>ct C n (.m M e) (.JoinedStr [.Constant (.str t) k1 p1,y] p) cx) (aj (aj h).2).2 λz c sp D k=>by
    have e1:M=t:=bO g
    refine af ((bO (aj k).1))<|dh e1 ?_;exact(jJ.e (aj (aj k).2).1).symm▸gq (Ze (cR (aj (aj h).2).1) (v cx z (aj (aj k).2).2).1) λm m=>rfl) h
 case sset=>
  exact λe v cx q h=>jM.e (R:=λq=>ct C n (.i e) q cx) h λG l F p h=>ft.e (R:=λG=>ct C n (.i e) (.Call G l F p) cx) h λf D h=>
   eR.e (R:=λl=>ct C n (.i e) (.Call (.Name f D) l F p) cx) (λy k=>jM.e (R:=λy=>ct C n (.i e) (.Call (.Name f D) [y] F p) cx) k λgx l kv p3 k=>ft.e (R:=λgx=>ct C n (.i e) (.Call (.Name f D) [.Call gx l kv p3] F p) cx) k λg p4 k=>
    eR.e (R:=λl=>ct C n (.i e) (.Call (.Name f D) [.Call (.Name g p4) l kv p3] F p) cx) (λx j=>by
     refine af (cW.e (aj (aj h).2).1) ?_;exact(cW.e (aj (aj k).2).1).symm▸gq (Zw O (mZ.e O (aj h).1) (mZ.e O (aj k).1) (aj j).1 (v cx x (aj j).2).1) λm m=>rfl) (aj (aj k).2).2) (aj (aj h).2).2
 case nil=>
  exact λcx l h=>cW.e h
 case cons=>
  exact λe A v is cx l h=>by
   cases l with
   |nil=>exact ff h
   |cons x l=>exact⟨(aj h).1,(v cx x (aj (aj h).2).1).1,is cx l (aj (aj h).2).2⟩
def gj(O:cL C)(e:E)(cx:Cx)(a:ax)(h:bW C e cx a=true):bP C n e a cx/\gG C n e a cx:=K0 O e cx a h
theorem C9(O:cL C):∀(a:Es)(cx:Cx)(l:List ax),oa C a cx l=true->qP C n cx a l|.f,cx,l,h=>cW.e h|.e e a,cx,[],h=>ff h|.e e a,cx,x::b,h=>⟨(aj h).1,(K0 O e cx x (aj (aj h).2).1).1,C9 O a cx b (aj (aj h).2).2⟩
end
section
structure Nq(Y:cZ):Prop where
 inj:∀x y c,Y.cells.lookup x=aa c->Y.cells.lookup y=aa c->x=y
 e:∀x c,Y.cells.lookup x=aa c->c≠Y.locals
structure uN(Y:cZ)(h:aO):Prop where
 g:∃M,h.Ns Y.locals M
 f:∀x c,Y.cells.lookup x=aa c->∃v,h.IsCell c v
def fr(Y:cZ)(a:ao):Prop:=a=Y.locals\/∃x,Y.kindOf x=aa .cell/\Y.cells.lookup x=aa a
structure cO(C:Ctx)(n:Nat)(A:bU)(X:ao->Prop)(Y:cZ)(cx:Cx)(φ:aX)(σ:St)(s:az)(m:List V):Prop where
 e:dQ C n A X Y cx φ σ s m
 g:Nq Y
 h:uN Y s.heap
 p:∀(i j:Nat)(x:ah),cx.f[i]? =aa (aa x)->cx.f[j]? =aa (aa x)->i=j
noncomputable def Eb(b:ao->Prop)(φ:aX)(h:aO):Fl->Flow->Prop|.e,.next=>True|.f a,.ret v=>VR b φ h a v|_,_=>False
variable{X:ao->Prop}{cx:Cx}
def cO.t(S:cO C n A X Y cx φ σ s m):∀a,fr Y a->X a:=by
 rintro a (rfl|⟨x,b,e⟩);·exact S.e.f.g
 ·exact S.e.f.t x a b e
noncomputable def je(C:Ctx)(n:Nat)(A:bU)(X:ao->Prop)(Y:cZ)(cx:Cx)(φ:aX)(s:az)(q:List V->St->Prop)(a:az):Prop:=∃b c d,Step (fr Y) φ s b a/\cO C n A X Y cx b c a d/\q d c
def fC(C:Ctx)(n:Nat)(A:bU)(X:ao->Prop)(Y:cZ)(cx:Cx)(φ:aX)(s:az)(Q:Fl->List V->St->Prop)(f:Flow)(b:az):Prop:=∃a c d e,Step (fr Y) φ s a b/\cO C n A X Y cx a c b d/\Eb (aM X a) a b.heap e f/\Q e d c
def je.f(st:Step (fr Y) φ s d e)(p:je C n A X Y cx d e q t):je C n A X Y cx φ s q t:=by exact fQ p λf σ m a b c=>(rX f σ m (st.e a) b c)
def fC.e(st:Step (fr Y) φ s φ' s')(p:fC C n A X Y cx φ' s' Q fl t):fC C n A X Y cx φ s Q fl t:=by exact sf p λe σ m f a b c d=>(jI e σ m f (st.e a) b c d)
theorem uN.e(F:uN Y h)(b:∀o,h.get? Y.locals=aa o->a.get? Y.locals=aa o)(d:∀x c,Y.cells.lookup x=aa c->∀o,h.get? c=aa o->a.get? c=aa o):uN Y a:=by
 refine⟨?_,λx c e=>?_⟩;·obtain⟨M,f⟩:=F.g;exact⟨M,f.at' b⟩
 ·exact fq (F.f x c e) λv o g r=>(c_ v o (d x c e o g) r)
theorem cO.q(S:cO C n A X Y cx φ σ s m)(st:Step F0 φ s a b)(f:dQ C n A X Y cx a d b m):cO C n A X Y cx a d b m:=⟨f,S.g,S.h.e (λo e=>st.ext _ _ e (S.e.e.e _ S.e.f.g).1 λq=>q) λx c e o g=>st.ext _ _ g (S.e.e.J<|S.e.f.f x c e).1 λq=>q,S.p⟩
def Step.g(st:Step F0 φ s a b):Step (fr Y) φ s a b:=st.Z λc q=>q.elim
def cO.f(S:cO C n A X Y cx φ σ s m){t:d8 am}(h:aE (aN C.e C.w) A t (a_ C X φ s R) bx s)(k:∀a c mv v b,cO C n A X Y cx a c b m->Step F0 φ s a b->VR (aM X a) a b.heap mv v->R mv c->P v b):aE (aN C.e C.w) A t P bx s:=S.e.g h λa c mv v b d st ev q=>k a c mv v b (S.q st d) st ev q
def HK(st:Step (fr Y) φ s c b)(h:aE (aN C.e C.w) A t (λa s=>je C n A X Y cx c b q s) bx b):aE (aN C.e C.w) A t (λa t=>je C n A X Y cx φ s q t) bx b:=cE h (λa a p=>p.f st) λa a e=>e
def vy(st:Step (fr Y) φ s c a)(h:aE (aN C.e C.w) A t (fC C n A X Y cx c a Q) bx a):aE (aN C.e C.w) A t (fC C n A X Y cx φ s Q) bx a:=cE h (λb b p=>p.e st) λb b e=>e
def cO.J(S:cO C n A X Y cx φ σ s m)(d:fr Y a)(g:gd a s.heap c)(h:Nat)(l:u0 (aM X φ) φ c cx Y j)(p:uN Y c):cO C n A X Y cx φ σ {s with heap:=c,toks:=h} j/\Step (fr Y) φ s φ {s with heap:=c,toks:=h}:=by have k:=bf g.1.symm;have st:Step (λb=>b=a) φ s φ {s with heap:=c,toks:=h}:=⟨λb o e i f=>g.extBut b o f e,λi i e=>e,λi e=>.inl e,k,rfl,rfl,rfl⟩;exact⟨⟨⟨S.e.h,S.e.f,S.e.p,(S.e.e.N (λb=>b=a) (λb e=>e▸S.t a d) (λb e=>e▸(S.e.e.e a<|S.t a d).2.2) (λb o e q=>g.extBut b o q e) k),l⟩,S.g,p,S.p⟩,st.Z λb e=>e▸d⟩
noncomputable def jq(cx:Cx)(x:ah):Bool:=cx.e.names.lookup x==aa .local||cx.e.names.lookup x==aa .cell
def zA(S:cO C n A X Y cx φ σ s m)(F:cx.f[i]? =aa (aa x))(R:jq cx x=true)(U:i<m.length)(ev:VR (aM X φ) φ s.heap W v):aE (aN C.e C.w) A (storeName Y x v) (λx_ s'=>Step (fr Y) φ s φ s'/\cO C n A X Y cx φ σ s' (m.set i W)) bx s:=by
 have L:=S.e.q;have up:∀{a:ao}{G:aO},fr Y a->gd a s.heap G->dx (aM X φ) φ s.heap (aM X φ) φ G:=λl d=>⟨λb o e nb=>⟨d.extBut b o (λq=>nb<|.inl<|q▸S.t _ l) e,nb⟩,λx_ x_ e=>e⟩;have g:Y.kindOf x=aa .local\/Y.kindOf x=aa .cell:=by unfold jq at R;unfold oS;refine af S.e.p ?_;simpa using R
 rcases g with g|g
 ·obtain⟨M,H⟩:=S.h.g;refine Qa g H (λG J d=>?_) (by refine af S.e.f.e ?_;rfl);have l:fr Y Y.locals:=.inl rfl;have D:=up l d;refine(S.J l d _ ⟨by simp[L.1],λj y u h f N=>?_⟩ ?_).symm
  ·by_cases p:i=j;·subst p;rw[F]at h;cases h;rw[mG<|by exact U]at f;cases f;exact(aC v (.inl<|rU g _ J<|by simp)<|VR.e D _ _ ev)
   ·rw[kR p]at f;have P:y≠x:=λe=>p<|S.p i j x F<|e▸h;obtain⟨rv,b,r⟩:=L.2 j y u h f N;refine(aC rv ?_<|VR.e D _ _ r);rcases b with⟨t,M',k,w⟩|⟨t,c,k,w⟩;·exact .inl ⟨t,_,J,(af (ap P)<|(H.eq_nsMap.trans k.eq_nsMap.symm).symm▸w)⟩
    ·refine .inr<|rU t c k ?_;obtain⟨o,z,r⟩:=w;exact⟨o,d.extBut _ _ (S.g.e y c k) z,r⟩
  ·exact⟨⟨_,J⟩,λy c e=>(fq (S.h.f y c e) λQ o z r=>(c_ Q o (d.extBut _ _ (S.g.e y c e) z) r))⟩
 ·obtain⟨c,B⟩:=S.e.f.q x<|.inl g;refine aV (S.h.f x c B) λaU hv=>wpAny_storeName_cell S.e.f.e g B hv λG aK d=>?_;have l:fr Y c:=.inr<|aC x g B;have D:=up l d;refine(S.J l d s.toks ⟨by simp[L.1],λj y u h f N=>?_⟩ ?_).symm
  ·by_cases p:i=j;·subst p;rw[F]at h;cases h;replace f:=(mG<|by exact U)▸f;cases f;exact(aC v (.inr<|rU (.inl g) c B aK)<|VR.e D _ _ ev)
   ·rw[kR p]at f;have P:y≠x:=λe=>p<|S.p i j x F<|e▸h;obtain⟨rv,b,r⟩:=L.2 j y u h f N;refine⟨rv,?_,VR.e D _ _ r⟩;rcases b with⟨t,M',k,w⟩|⟨t,I,k,w⟩;·refine .inl ⟨t,M',k.at' λo e=>d.extBut _ _ (dM<|S.g.e x c B) e,w⟩
    ·refine .inr ⟨t,I,k,?_⟩;obtain⟨o,z,r⟩:=w;exact⟨o,d.extBut _ _ (λq=>P<|S.g.inj y x c (q▸k) B) z,r⟩
  ·refine⟨?_,λy I e=>?_⟩;·exact aV S.h.g λM H=>⟨M,H.at' λo e=>d.extBut _ _ (dM<|S.g.e x c B) e⟩
   ·by_cases q:I=c;·subst q;exact⟨_,aK⟩
    ·exact fq (S.h.f y I e) λQ o z r=>⟨Q,o,d.extBut _ _ q z,r⟩
end
section
variable{C:Ctx}{X:ao->Prop}{cx:Cx}
def t7(C:Ctx)(t:T)(cx:Cx)(q:ax):Bool:=match t with|.e i=>ft q λx=>cx.f[i]? ==aa (aa x)&&jq cx x|.g c a o=>ni q λx b d=>bW C o cx x&&f6 (λk=>k.f[a]? ==aa b) (C.h c)|.f o k=>j5 q λx y=>bW C o cx x&&(bW C k cx y&&C0 y)
def iT(C:Ctx)(cx:Cx):List T->List ax->Bool|[],q=>cW q|t::ts,q=>match q with|[]=>false|q::qs=>gi q&&(t7 C t cx q&&iT C cx ts qs)
def zF(S:cO C n A X Y cx φ σ s m)(p:iM C X φ s (λσ=>q m σ) a):je C n A X Y cx φ s q a:=by exact dA p λb c st R w=>(rX b c m st.g (S.q st<|S.e.t st R) w)
def L2(O:cL C)(j:t7 C t cx q=true)(S:cO C n A X Y cx φ σ s m)(ev:VR (aM X φ) φ s.heap F v)(w:mC C n t F m σ Q):aE (aN C.e C.w) A (iN q Y v) (λa b=>je C n A X Y cx φ s Q b) bx s:=by cases t with|e i=>exact ft.e (R:=λq=>aE (aN C.e C.w) A (iN q Y v) (λa b=>je C n A X Y cx φ s Q b) bx s) j λx p h=>BB (cE (zA S (bO (aj h).1) (aj h).2 w.1 ev) (λa b h=>(rX φ σ _ h.1 h.2 w.2.2)) λa a e=>e)|g c l o=>refine ni.e (R:=λq=>aE (aN C.e C.w) A (iN q Y v) (λa b=>je C n A X Y cx φ s Q b) bx s) j λx u p h=>?_;obtain⟨k,G,H⟩:∃k,C.h c=aa k/\k.f[l]? =aa u:=f6.e (f:=λk:lJ=>k.f[l]? ==aa u) (R:=λo=>∃k,o=aa k/\k.f[l]? =aa u) (λk h=>⟨k,rfl,bO h⟩) (aj h).2;refine af (arm_assign_Attribute ..)<|aA<|dS<|S.f ((gj O o cx _ (aj h).1).1 S.e w) λI J L M b d st z q=>aA<|li<|aA<|dS ?_;obtain⟨r,ac,rfl,N,P,q⟩:=q;exact cE (YF O.e d.e.e G (O.f c k G) H z (VR.e (st.f λa q=>q.elim) _ _ ev) N P (q:=λσ=>Q m σ) q) (λa U p=>BI<|(zF d p).f st.g) λa a e=>e|f o k=>exact j5.e (R:=λq=>aE (aN C.e C.w) A (iN q Y v) (λa b=>je C n A X Y cx φ s Q b) bx s) j λx y p h=>af (arm_assign_Subscript ..)<|aA<|dS<|S.f ((gj O o cx _ (aj h).1).1 S.e w) λI J L M b d st z q=>aA<|dS<|d.f ((gj O k cx _ (aj (aj h).2).1).1 d.e q) λag an mk vk U B D W q=>aA<|li<|aA<|dS<|cE (YE B.e.h B.e.e (VR.e (D.f λa q=>q.elim) _ _ z) W (VR.e (D.f λa q=>q.elim) _ _<|VR.e (st.f λa q=>q.elim) _ _ ev) q.2 q.1) (λa s3 p=>BI<|(zF B p).f (st.e D).g) λa a e=>e
def CJ(d:X I)(k:lu I h b):dx (aM X φ) φ h (aM X φ) φ b:=⟨λa o e c=>⟨k a o (λq=>c<|.inl<|q▸d) e,c⟩,λf f e=>e⟩
def yH(c:X I)(R:bA C X φ σ h)(k:lu I h a)(d:h.objs.size<=a.objs.size):bA C X φ σ a:=R.N (λb=>b=I) (λb e=>e▸c) (λb e=>e▸(R.e _ c).2.2) (λb o e f=>k b o f e) d
def Tz(y:A.handled=ae)(c:X I)(z:me σ j=aa l):∀(k i:Nat){s:az}{Q:List am->az->Prop},i+k=l.length->bA C X φ σ s.heap->gB X φ s.heap I i j->(∀d b f,lu I s.heap b->s.heap.objs.size<=b.objs.size->gB X φ b I l.length j->bd (aM X φ) φ b (l.drop i) d->Q d {s with heap:=b,toks:=f})->aE (aN C.e C.w) A (draw (.ref I) k) Q bx s:=by intro B;induction B with|zero=>intro i s Q g R J q;obtain rfl:i=l.length:=g;exact ba (q [] s.heap s.toks (λr r r e=>e) (bb _) J<|by refine af List.drop_length ?_;rfl)|succ k D=>intro i s Q g R J q;have t:i<l.length:=g▸kU (mJ k);refine aA (m:=oX<|.ref I)<|yO y R c J z (λb f v x h n p F G=>?_) λb f h n p=>aD t<|eZ.mpr<|pH.mp p;exact aA<|dS<|D (i+1) (s:={s with heap:=b,toks:=f}) (AM i k▸g) (yH c R h n) G λd H L u M N P=>ba<|q _ H L (λa o w e=>u a o w<|h a o w e) (ay n M) N<|af (EB t)<|((b_.mp p).2).symm▸(cp x d rfl (VR.e (CJ c u) _ _<|VR.e (CJ c h) _ _ F) P)
def Ve(d:b=.h l\/b=.y l)(ev:VR (aM X φ) φ s.heap b v)(q:Q false s):aE (aN C.e C.w) A (PH v) Q bx s:=by
 rcases d with rfl|rfl;·obtain⟨a,e,k,rfl,f,c,g⟩:=ev;exact aA<|xL (T:="tuple") ⟨_,c,rfl⟩ F.slot_tuple_iter.lookup<|ba q
 ·obtain⟨a,e,k,rfl,f,c,g⟩:=ev;exact aA<|xL (T:="list") ⟨_,c,rfl⟩ F.slot_list_iter.lookup<|ba q
def MN(t:A.handled=ae)(R:bA C X φ σ s.heap)(u:f=.h l\/f=.y l)(ev:VR (aM X φ) φ s.heap f v){Q:List am->az->Prop}(D:∀c d g,Step F0 φ s φ {s with heap:=d,toks:=g}->bA C X φ σ d->bd (aM X φ) φ d l c->Q c {s with heap:=d,toks:=g}):aE (aN C.e C.w) A (unpackItems v l.length ae) Q bx s:=by
 have h:me σ f=aa l:=by rcases u with rfl|rfl<;>rfl
 refine aA (m:=PH v)<|Ve u ev ?_;refine aA (m:=pU _ _)<|dS<|CC R ev h λo F J=>?_;refine cj (R.Y (dB s.heap o)<|gn _ _) λi G=>?_;have b:more X s.heap.objs.size (s.heap.push o).objs.size s.heap.objs.size:=.inr ⟨bb _,by refine af (eh ..) ?_;exact bY _⟩;refine aA<|dS<|Tz t b h l.length 0 (s:={s with heap:=s.heap.push o}) (j9 _) i (J _ _ G<|dF _ F) λc d g j k H w=>?_;refine af (ap<|show¬c.length<l.length from eZ.mpr<|bf w.h)<|aA<|dS<|yO t (yH b i j k) b H h (λy n v x z z I=>aY<|(nH<|bb _).symm.trans I) λy n p B z=>?_;exact cj ((yH b (yH b i j k) p B).U λa q=>(.inl q:more X s.heap.objs.size (s.heap.push o).objs.size a)) λL M=>ba<|D c y n (Step.y (λa r e=>p a r (bZ<|cK e)<|j a r (bZ<|cK e)<|dB _ _ a r e) (ay (gn s.heap o)<|ay k B) n) L<|bd.e M _ _<|bd.e (CJ b p) _ _ w
def B3(h:gi q=true)(qs:List ax)(Y:cZ):mN (q::qs) Y=(false,iN q Y)::mN qs Y:=by cases q<;>first|rfl|exact dK (h:false=true)
theorem L8(O:cL C):∀{ts:List T}{qs:List ax}{l:List V}{b:List am}{A:bU}{X:ao->Prop}{Y:cZ}{φ:aX}{σ:St}{s:az}{m:List V}{Q:List V->St->Prop},iT C cx ts qs=true->cO C n A X Y cx φ σ s m->bd (aM X φ) φ s.heap l b->pB C n ts l m σ Q->aE (aN C.e C.w) A (Bo ((mN qs Y).map (·.2)) b) (λc d=>je C n A X Y cx φ s Q d) bx s
 |[],qs,l,b,A,X,Y,φ,σ,s,m,Q,a,S,e,w=>by cases qs with|cons _ _=>exact dK a|nil=>cases l with|cons _ _=>exact w.elim|nil=>show aE _ _ (pure ()) _ _ s;exact ba<|rX φ σ m (Step.T _ _ _) S w
 |t::ts,qs,l,b,A,X,Y,φ,σ,s,m,Q,a,S,e,w=>by cases qs with|nil=>exact dK a|cons q qs=>cases l with|nil=>exact w.elim|cons v o=>refine dA e λx f g h i=>?_;subst g;rw[B3 (aj a).1];show aE _ _ (pU f (iN q Y x)>>=λc=>Bo ((mN qs Y).map (·.2)) f) _ _ s;exact aA<|dS<|cE (L2 O (aj (aj a).2).1 S h w) (λc d p=>(fQ p λr u y st j k=>HK st<|L8 O (aj (aj a).2).2 j (bd.e (st.f S.t) _ _ i) k)) λc c e=>e
theorem K3:∀{ts:List T}{qs:List ax},iT C cx ts qs=true->qs.length=ts.length|[],[],_=>rfl|[],_::_,h=>by exact dK h|_::_,[],h=>by exact dK h|t::ts,q::qs,h=>aQ oR<|K3 (aj (aj h).2).2
theorem I6:∀{qs:List ax},qs.all gi=true->∀Y,(mN qs Y).findIdx? (·.1)=ae/\(mN qs Y).length=qs.length|[],_,_=>⟨rfl,rfl⟩|q::qs,h,Y=>by obtain⟨a,b⟩:=I6 (aj h).2 Y;rw[B3 (aj h).1];exact⟨by simp[EI,a],aQ oR b⟩
theorem K4:∀{ts:List T}{qs:List ax},iT C cx ts qs=true->qs.all gi=true|[],[],_=>rfl|[],_::_,h=>by exact dK h|_::_,[],h=>by exact dK h|t::ts,q::qs,h=>(kK _ _).mpr ⟨(aj h).1,K4 (aj (aj h).2).2⟩
def Md(O:cL C){ts:List T}{qs:List ax}(a:iT C cx ts qs=true)(S:cO C n A X Y cx φ σ s m)(d:b=.h l\/b=.y l)(ev:VR (aM X φ) φ s.heap b v)(f:l.length=ts.length)(w:pB C n ts l m σ Q):aE (aN C.e C.w) A (iN (.Tuple qs k c) Y v) (λj g=>je C n A X Y cx φ s Q g) bx s:=by refine af (arm_assign_Tuple ..)<|aA<|li ?_;unfold unpack;refine cj (I6 (K4 a) Y) λh i=>af h<|af i ?_;refine af (K3 a) ?_;refine dh f ?_;exact aA<|dS<|MN S.e.h.e S.e.e d ev λo p q st R e=>(HK st.g<|L8 O a (S.q st<|S.e.t st R) e w)
end
section
variable{X:ao->Prop}{cx:Cx}
def cu(C:Ctx)(n:Nat)(st:S)(q:cg)(cx:Cx):Prop:=∀⦃A X Y φ σ s m Q⦄,cO C n A X Y cx φ σ s m->wpS C n st m σ Q->aE (aN C.e C.w) A (exec q Y) (fC C n A X Y cx φ s Q) bx s
def lY(C:Ctx)(n:Nat)(st:Ss)(q:List cg)(cx:Cx):Prop:=∀⦃A X Y φ σ s m Q⦄,cO C n A X Y cx φ σ s m->aP C n st m σ Q->aE (aN C.e C.w) A (oW q Y) (fC C n A X Y cx φ s Q) bx s
noncomputable def qu(e:ax):Bool:=e.ctorIdx==8||(e.ctorIdx==9||e.ctorIdx==10)
def yS(h:qu a=false)(t:Option ax)(l:Nat)(Y:cZ):vl a t l Y=pure false:=by cases a<;>first|rfl|exact ff h.symm
def je.e(p:je C n A X Y cx φ s (λm σ=>Q .e m σ) d):fC C n A X Y cx φ s Q .next d:=by exact fQ p λe f g a b c=>(jI e f g (.e) a b trivial c)
def fC.f(st:Step (fr Y) φ s a b)(S:cO C n A X Y cx a c b m)(ev:VR (aM X a) a b.heap mv v)(q:Q (.f mv) m c):fC C n A X Y cx φ s Q (.ret v) b:=(jI a c m (.f mv) st S ev q)
def KN(S:cO C n A X Y cx φ σ s m):interactive Y=false:=by delta interactive;refine af S.e.f.e ?_;rfl
def Zb(O:cL C)(b:bW C e cx q=true)(c:qu q=false):cu C n (.f e) (.Expr q a) cx:=by intro A X Y φ σ s m Q S w;exact wpAny_Expr_any (S.f ((gj O e cx q b).1 S.e w) λd f i v g h st ev q=>(je.e (rX d f m st.g h q):fC C n A X Y cx φ s Q .next g)) (KN S)<|yS c _ _ _
def Zu(O:cL C)(b:bW C e cx q=true):cu C n (.h e) (.Return (aa q) a) cx:=by intro A X Y φ σ s m Q S w;exact wpAny_Return_some<|S.f ((gj O e cx q b).1 S.e w) λd f g v h c st ev q=>fC.f st.g c ev q
def YX(O:cL C)(d:t7 C t cx a=true)(f:bW C e cx q=true)(g:qu q=false)(h:∀Y,jC [a] q Y=pure ae)(i:gi a=true):cu C n (.e t e) (.Assign [a] q b) cx:=by
 intro A X Y φ σ s m Q S w
 show aE _ A (do
  rp b
  if<-vl q (aa a) b.line Y then do
   GQ q Y λv=>GF v<|(mN [a] Y).map (·.2)
   pure .next
  else do
   let v<-fY q Y
   GG Y v (<-jC [a] q Y) ((mN [a] Y).map (·.2))) _ _ s
 rw[yS g]
 refine aA<|li<|aA<|ba ?_
 refine aA<|S.f ((gj O e cx q f).1 S.e w) λl o r v j k st ev q=>?_
 refine af (h ..) ?_;rw[B3 i]
 refine aA<|ba ?_
 show aE _ A (do iN a Y v;pure Flow.next) _ _ j
 exact aA<|cE (L2 O d k ev q) (λc u p=>ba<|(je.e p).e st.g) λc c e=>e
def YY(O:cL C){ts:List T}{qs:List ax}(c:iT C cx ts qs=true)(d:bW C e cx q=true)(f:qu q=false)(g:∀Y,Y.scope=cx.e->jC [.Tuple qs k p] q Y=pure ae):
  cu C n (.p ts e) (.Assign [.Tuple qs k p] q a) cx:=by
 intro A X Y φ σ s m Q S w
 show aE _ A (do
  rp a
  if<-vl q (aa<|.Tuple qs k p) a.line Y then do
   GQ q Y λv=>GF v<|(mN [.Tuple qs k p] Y).map (·.2)
   pure .next
  else do
   let v<-fY q Y
   GG Y v (<-jC [.Tuple qs k p] q Y) ((mN [.Tuple qs k p] Y).map (·.2))) _ _ s
 rw[yS f]
 refine aA<|li<|aA<|ba ?_
 refine aA<|S.f ((gj O e cx q d).1 S.e w) λr t u v h i st ev q=>?_
 refine cz q λl j o q=>af (g Y S.e.p)<|aA<|ba ?_
 show aE _ A (do iN (.Tuple qs k p) Y v;pure Flow.next) _ _ h
 exact aA<|cE (Md O c i j ev o q) (λb x p=>ba<|(je.e p).e st.g) λb b e=>e
noncomputable def oq:List V->List Nat->List V->List V|m,i::a,v::b=>oq (m.set i v) a b|m,_,_=>m
def WI{f:List (Nat×ah)}:∀{l:List V}{g:List am}{σ:St}{s:az}{m:List V},(∀p∈f,cx.f[p.1]? =aa (aa p.2)/\jq cx p.2=true/\p.1<m.length)->f.length=l.length->cO C n A X Y cx φ σ s m->bd (aM X φ) φ s.heap l g->aE (aN C.e C.w) A (Bo (f.map λp=>xt Y p.2) g) (λd i=>Step (fr Y) φ s φ i/\cO C n A X Y cx φ σ i (oq m (f.map (·.1)) l)) bx s:=by induction f with
 |nil=>intro l g σ s m d h S e;cases l with|nil=>exact ba ⟨Step.T _ _ _,S⟩|cons _ _=>exact pK h
 |cons p f o=>intro l g σ s m j h S e;cases l with|nil=>exact pK h|cons v G=>refine dA e λx k t u w=>t▸(eQ (j p bk) λy z B=>?_);show aE _ _ (pU k (xt Y p.2 x)>>=λd=>Bo (f.map λp=>xt Y p.2) k) _ _ s;refine aA<|dS<|wpAny_bindName<|cE (zA S y z B u) (λd i q=>?_) λd d e=>e;refine cE (o (λD F=>eQ (j D<|bR _ F) λa b c=>⟨a,b,oM.symm▸c⟩) (lR h) q.2<|bd.e (q.1.f S.t) _ _ w) (λd H r=>⟨q.1.e r.1,r.2⟩) λd d e=>e
noncomputable def pv(t:T):Option Nat:=T.casesOn (motive:=λa=>Option Nat) t aa (λa a a=>ae) λa a=>ae
noncomputable def vZ(q:ax):Option ah:=if i:q.ctorIdx=23 then td (motive_1:=λa=>Option ah) q i λx a=>aa x else ae
def aaJ{ts:List T}:∀{d:List Nat}{l m:List V}{σ:St}{Q:List V->St->Prop},ts.map pv=d.map aa->pB C n ts l m σ Q->(∀i∈d,i<m.length)/\d.length=l.length/\Q (oq m d l) σ:=by induction ts with
 |nil=>intro d l m σ Q h w;cases d with|cons _ _=>exact aD h.symm (Ez _ _)|nil=>cases l with|cons _ _=>exact w.elim|nil=>exact⟨λi h=>aD h cX,rfl,w⟩
 |cons t ts p=>intro d l m σ Q h w;cases d with|nil=>exact aD h (Ez _ _)|cons i d=>cases l with|nil=>exact w.elim|cons v q=>have h:=qU h;cases t with|g _ _ _=>exact aY h.1|f _ _=>exact aY h.1|e j=>obtain rfl:j=i:=bo h.1;exact eQ (p h.2 w.2.2) λa b c=>⟨λk o=>((cB.mp o).elim (λe=>e▸w.1) λo=>oM▸a k o),aQ oR b,c⟩
def YA(i:Nat)(u:V)(a:List Nat):∀l m:List V,i∉a->oq (m.set i u) a l=(oq m a l).set i u:=by induction a with|nil=>intro l m c;cases l<;>rfl|cons j a b=>intro l m h;cases l with|nil=>rfl|cons v l=>exact(aQ (oq · a l)<|List.set_comm u v λq=>h<|cB.mpr<|.inl q).trans<|b l (m.set j v) λq=>h<|bR _ q
def QD(i:Nat)(u:V)(a:List Nat):∀l m:List V,a.length=l.length->oq m (a++[i]) (l++[u])=(oq m a l).set i u:=by induction a with
 |nil=>intro l m h;cases l with|nil=>rfl|cons v l=>exact pK h
 |cons j a b=>intro l m h;cases l with|nil=>exact pK h|cons v l=>exact b l (m.set j v)<|lR h
def Yu(a:List Nat):∀{l m:List V},a.length=l.length->a.Nodup->oq m a.reverse l.reverse=oq m a l:=by induction a with
 |nil=>intro l m h d;cases l with|nil=>rfl|cons v l=>exact pK h
 |cons i a c=>intro l m h b;cases l with|nil=>exact pK h|cons v l=>have h:=lR h;rw[Op,Op,QD _ _ _ _ _<|by rw[Oc,Oc];exact h,c h (gD.mp b).2];exact(YA i v a l m (gD.mp b).1).symm
end
section
variable{X:ao->Prop}{cx:Cx}
noncomputable def pureOf{a:Type}(m:d8 a):Option a:=if h:m.ctorIdx=0 then Sem.pure.elim (motive:=λb=>Option a) m h aa else ae
def pureOf.e(h:pureOf m=aa a):m=pure a:=by cases m<;>first|exact aY h|exact aQ Sem.pure<|bo h
def Dq(scope:dN)(qs:List ax)(a:ax):Option (Option<|List ah):=pureOf<|jC [.Tuple qs 0 ⟨0,0,0,0⟩] a {scope:=scope,locals:=0,globals:=0,cells:=[]}
def ZW(qs:List ax)(k b:Nat)(p c:bv)(a:ax)(Y:cZ):jC [.Tuple qs k p] a Y=jC [.Tuple qs b c] a Y:=by cases a<;>rfl
def ZV(ts:List ax)(a:ax)(h:Y.scope=b.scope):jC ts a Y=jC ts a b:=by delta jC Pe oS;rw[h]
def Mo{qs:List ax}(h:Dq b qs a=aa r)(c:Y.scope=b):jC [.Tuple qs k p] a Y=pure r:=(ZW qs k 0 p ⟨0,0,0,0⟩ a Y).trans<|(ZV _ a c).trans<|pureOf.e h
def Xf(h:t7 C t cx q=true)(a:pv t=aa i)(b:vZ q=aa x):cx.f[i]? =aa (aa x)/\jq cx x=true:=by cases t with|e j=>exact(bo a)▸ft.e (R:=λq=>vZ q=aa x->cx.f[j]? =aa (aa x)/\jq cx x=true) h (λy p h b=>bo b▸⟨bO (aj h).1,(aj h).2⟩) b|g _ _ _=>exact aY a|f _ _=>exact aY a
theorem MZ{cx:Cx}:∀{ts:List T}{qs:List ax}{c:List Nat}{d:List ah},iT C cx ts qs=true->ts.map pv=c.map aa->qs.map vZ=d.map aa->c.length=d.length/\∀p∈c.zip d,cx.f[p.1]? =aa (aa p.2)/\jq cx p.2=true
 |[],qs,c,d,h,f,g=>by cases qs with|cons _ _=>exact dK h|nil=>cases c with|cons _ _=>cases f|nil=>cases d with|cons _ _=>cases g|nil=>exact⟨rfl,by simp⟩
 |t::ts,qs,c,d,h,f,g=>by cases qs with|nil=>exact dK h|cons q qs=>cases c with|nil=>cases f|cons i c=>cases d with|nil=>cases g|cons x d=>have j:=qU f;have k:=qU g;have o:=aj (aj h).2;exact cj (MZ o.2 j.2 k.2) λa b=>⟨aQ oR a,λp e=>(db (cB.mp e) (λe=>(e.symm▸Xf o.1 j.1 k.1)) λe=>b p e)⟩
def ZA(O:cL C){ts:List T}{qs:List ax}{is:List Nat}(F:iT C cx ts qs=true)(G:bW C e cx q=true)(H:qu q=false)(I:∀Y,Y.scope=cx.e->jC [.Tuple qs k p] q Y=pure (aa c))
  (f:ts.map pv=is.map aa)(g:qs.map vZ=c.map aa)(h3:is.length=2\/is.length=3)(J:is.Nodup):
  cu C n (.p ts e) (.Assign [.Tuple qs k p] q o) cx:=by
 intro A X Y φ σ s m Q S w
 show aE _ A (do
  rp o
  if<-vl q (aa<|.Tuple qs k p) o.line Y then do
   GQ q Y λv=>GF v<|(mN [.Tuple qs k p] Y).map (·.2)
   pure .next
  else do
   let v<-fY q Y
   GG Y v (<-jC [.Tuple qs k p] q Y) ((mN [.Tuple qs k p] Y).map (·.2))) _ _ s
 rw[yS H]
 refine aA<|li<|aA<|ba ?_
 refine aA<|S.f ((gj O e cx q G).1 S.e w) λt L mv v s' h st ev q=>?_
 refine cz q λl M hl q=>af (I Y S.e.p)<|aA<|ba ?_
 refine eQ (aaJ f q) λN j P=>cj (MZ F f g) λd U=>aA<|rz<|aA ?_
 refine dh d<|af j ?_
 refine MN h.e.h.e h.e.e M ev λW h' tk u R e=>?_
 have e1:(c.reverse.map λn=>xt Y n)=((is.zip c).reverse.map λp=>xt Y p.2):=by
  refine dh (ES (l₁:=is) (l₂:=c)<|by exact(bf d.symm)) ?_;refine dh ER ?_;refine af fh ?_
  refine af (ES (l₁:=is) (l₂:=c)<|by exact(bf d.symm)) ?_
  rfl
 have e2:(is.zip c).reverse.map (·.1)=is.reverse:=by
  refine af ER ?_;rw[EO<|by exact(bf d)]
 refine af e1 ?_
 have er:bd (aM X t) t h' l.reverse W.reverse:=by
  rw[o0]at e⊢
  obtain⟨y,e⟩:=e
  refine⟨by simp[y],λi v x f g=>?_⟩
  have z:i<l.length:=by have:=(b_.mp f).1;simpa using this
  rw[N7 z]at f
  rw[N7<|by exact(aR z<|bf y)]at g
  exact e _ v x f (by refine af y ?_;exact g)
 refine aA<|cE (WI (λp hp=>?_) (by simp[d];exact(j8 (ay (bf d.symm)<|bf j)<|ay (bf j.symm)<|bf d)) (h.q u<|h.e.t u R) er) (λB bC r=>ba ?_) λB B e=>e
 ·have D:p∈is.zip c:=by simpa using hp
  exact cj (U p D) λa b=>⟨a,b,N p.1 (AA D).1⟩
 ·rw[e2,Yu _ j J]at r
  exact(jI t L _ (.e) ((st.g.e u.g).e r.1) r.2 trivial P)
def Zg(O:cL C)(i:bW C t cx d=true)(j:lY C n a e cx)(k:lY C n b f cx):cu C n (.g t a b) (.If d e f h) cx:=by intro A X Y φ σ s m Q S w;refine wpAny_If<|S.e.y ((gj O t cx d i).2 S.e w) λo p c r l st q=>?_;have g:=S.q st l;cases c with|true=>exact vy st.g (j g q)|false=>exact vy st.g<|k g q
def Mc:lY C n .f [] cx:=by intro A X Y φ σ s m Q S w;exact BD<|jI φ σ m (.e) (Step.T _ _ _) S trivial w
def Mb{st:S}{qs:List cg}(g:cu C n st q cx)(h:lY C n b qs cx):lY C n (.e st b) (q::qs) cx:=by intro A X Y φ σ s m Q S w;refine wpAny_execs_cons<|cE (g S w) (λc r p=>?_) λi i e=>e;refine sf p λj k l o st d a q=>?_;cases o with
 |e=>
  cases c<;>first|exact a.elim|skip
  exact vy st<|h d q
 |f v=>
  cases c<;>first|exact a.elim|skip
  exact(jI j k l (.f v) st d a q)
def ZC(O:cL C)(M:bW C t cx g=true)(N:lY C n b x cx):cu C n (.t t b) (.While g x [] L) cx:=by intro A X Y φ σ s m Q S w;obtain⟨I,⟨k,P⟩,gE⟩:=w;refine wpAny_While<|codeAny_whileLoop (λk h=>∃i d a,Step (fr Y) φ s i h/\cO C n A X Y cx i d h a/\I k a d) ?_ k<|rX φ σ m (Step.T _ _ _) S P;refine λk h R=>fQ R λi d a st l o=>m9<|l.e.y ((gj O t cx g M).2 l.e (gE k a d o)) λU W c av ac y q=>?_;have z:=l.q y ac;have r:=st.e y.g;cases c with
 |false=>exact BD<|jI U W a (.e) r z trivial q
 |true=>refine m9<|cE (N z q) (λB aK p=>?_) λx_ x_ e=>e;refine sf p λD F G mf H J u q=>?_;cases mf with
  |e=>
   cases B<;>first|exact u.elim|skip
   exact aB q λj hj o=>⟨j,hj,D,F,G,r.e H,J,o⟩
  |f v=>
   cases B<;>first|exact u.elim|skip
   exact(jI D F G (.f v) (r.e H) J u q)
def Y7(O:cL C)(i:bW C o cx c=true)(j:bW C k cx d=true):cu C n (.F o k) (.Delete [.Subscript c d p] h) cx:=by intro A X Y φ σ s m Q S w;refine wpAny_Delete<|af (Py ..) ?_;refine af (PA ..) ?_;exact aA<|aA<|S.f ((gj O o cx _ i).1 S.e w) λt u v x y f st l q=>aA<|dS<|f.f ((gj O k cx _ j).1 f.e q) λz B D F G a g r q=>aA<|li<|aA<|dS<|cE (Ts a.e.h a.e.e (VR.e (g.f λb q=>q.elim) _ _ l) r q) (λb H p=>BI<|af (Pz ..)<|ba<|((zF (q:=λm σ=>Q .e m σ) a p).e).e (st.e g).g) λb b e=>e
def Y8(O:cL C)(y:bW C o cx g=true)(z:bW C k cx d=true):cu C n (.J o k) (.Delete [.Subscript g (.Slice (aa d) ae ae v) p] x) cx:=by intro A X Y φ σ s m Q S w;refine wpAny_Delete<|af (Py ..) ?_;refine af (PA ..) ?_;refine aA<|aA<|S.f ((gj O o cx _ y).1 S.e w) λJ L M N P h st B q=>aA<|dS<|G_ (show aE _ A (fY d Y) _ _ _ from h.f ((gj O k cx _ z).1 h.e q) λD R U j c f t F q=>evalPart_none<|evalPart_none<|aA<|li<|aA<|dS ?_);obtain⟨r,l,i,rfl,G,rfl,H,W,I,q⟩:=q;have a:=Step.y (φ:=D) (s:=c) (dB c.heap {cls:=.type "slice",data:=.fields #[j,.none,.none]}) (gn _ _) c.toks;have u:=f.e.e.T (dB c.heap {cls:=.type "slice",data:=.fields #[j,.none,.none]})<|gn _ _;refine cE (Tq u (VR.e (a.f λb q=>q.elim) _ _<|VR.e (t.f λb q=>q.elim) _ _ B) G (VR.e (a.f λb q=>q.elim) _ _ F) H I (dF _ rfl) (q:=λσ=>Q .e m σ) q) (λb s3 p=>BI ?_) λb b e=>e;exact af (Pz ..)<|ba<|((zF (q:=λm σ=>Q .e m σ) (f.q a<|f.e.t a u) p).e).e ((st.e t).e a).g
end
section
variable{C:Ctx}{X:ao->Prop}{cx:Cx}
def cO.y(c:cO C n A d W cx φ σ s m)(f:∀a,X a->d a)(V:uJ C.f.objs.size X W):cO C n A X W cx φ σ s m/\dx (aM d φ) φ s.heap (aM X φ) φ s.heap:=by exact cj (c.e.e.U f) λR e=>⟨⟨⟨c.e.h,V,c.e.p,R,c.e.q.1,λi x v g h j=>(aB (c.e.q.2 i x v g h j) λrv b r=>(aC rv b<|VR.e e _ _ r))⟩,c.g,c.h,c.p⟩,e⟩
def Step.Y{s d g:az}{F G:ao->Prop}(x:Step F φ s b d)(y:Step G b d c g)(i:∀a,G a->F a\/s.heap.objs.size<=a):Step F φ s c g:=by
 refine⟨λa o e h f=>y.ext a o (x.ext a o e h f) (λq=>?_) λq=>?_,λr p e=>y.q r p<|x.q r p e,λa e=>?_,ay x.h y.h,y.J.trans x.J,y.N.trans x.N,y.L.trans x.L⟩
 ·rcases x.t a q with q|q;·exact h q
  ·exact aD (cK e)<|eZ.mpr q
 ·rcases i a q with q|q;·exact f q
  ·exact aD (cK e)<|eZ.mpr q
 ·rcases y.t a e with q|q;·exact x.t a q
  ·exact .inr<|ay x.h q
def cO.F(S:cO C n A X W cx φ σ s m)(j:X a)(k:∀b o,b≠a->s.heap.get? b=aa o->d.get? b=aa o)(l:s.heap.objs.size<=d.objs.size)(f:Nat)(h:a≠W.locals)(i:∀n c,W.cells.lookup n=aa c->c≠a):cO C n A X W cx φ σ {s with heap:=d,toks:=f} m/\Step (λb=>b=a) φ s φ {s with heap:=d,toks:=f}/\dx (aM X φ) φ s.heap (aM X φ) φ d:=by exact eQ (S.e.L j k l f h i) λp st q=>(kz (⟨p,S.g,S.h.e (λo e=>k _ _ (dM h) e) λx c e o g=>k _ _ (i x c e) g,S.p⟩) st q)
noncomputable def CQ(T:String):Bool:=["enumerate","zip","dict_itemiterator","dict_reverseitemiterator","odict_iterator","itertools.zip_longest","itertools.pairwise"].contains T
def V9{T:String}{E:am->az->Prop}(d:s.heap.get? I=aa o)(f:o.cls=.type T)(g:o.data=.fields c)(h:CQ T=false)(q:Q () s):aE (aN C.e C.w) A (pV b (.ref I) v) Q E s:=by
 have i:pV b (.ref I) v=pure ()\/∃a,pV b (.ref I) v=pV (.List [] ⟨0,0,0,0⟩) (.ref I) (.ref a):=by
  cases b<;>first|exact .inl rfl|skip
  all_goals cases v<;>first|exact .inl rfl|exact .inr ⟨_,rfl⟩
 rcases i with e|⟨a,e⟩;·exact af e<|ba q
 ·refine af e<|aA<|wpAny_load d ?_;refine af f<|af g ?_;show aE _ A (if(CQ T&&_)=true then _ else _) Q E s;refine af (ap<|by rw[h,Bool.false_and];exact dR) ?_;exact ba q
def V_{E:am->az->Prop}(J:gB X φ s.heap I i c){Q:Unit->az->Prop}(q:Q () s):aE (aN C.e C.w) A (pV b (.ref I) v) Q E s:=by have g:∀{T:String}{d:Array am},CQ T=false->(∃o,s.heap.get? I=aa o/\o.cls=.type T/\o.data=.fields d)->aE (aN C.e C.w) A (pV b (.ref I) v) Q E s:=λh⟨o,e,f,j⟩=>V9 e f j h q;exact J.f (P:=λa=>aE (aN C.e C.w) A (pV b (.ref I) v) Q E s) (λa a J=>g (by decide+kernel) J) (λa a J=>g (by decide+kernel) J) (λa a a J=>g (by decide+kernel) J) (λa a a J=>g (by decide+kernel) J) (λa a J=>g (by decide+kernel)<|bV _ J rfl rfl) λa a a J=>g (by decide+kernel) J
def Jf(h:nW σ b=aa (l,d)):me σ b=aa l/\∀a,d a->me a b=aa l:=by
 have g:(gK b).map (λl=>(l,λk=>True))=aa (l,d)->me σ b=aa l/\∀a,d a->me a b=aa l:=λh=>by refine aB (fj.mp h) λf i e=>?_;obtain rfl:f=l:=aQ u_ e;exact⟨yF i _,λa k=>yF i _⟩
 cases b<;>first|exact g h|skip
 refine aB (fj.mp h) λf j e=>?_;obtain rfl:f=l:=aQ u_ e;refine⟨j,λa c=>?_⟩;show jk a _=_;delta jk aT;exact(((aQ (λx=>x.2 a) e).mpr c))▸j
def zT(C:Ctx)(n:Nat)(cx:Cx)(a:ax)(b:List cg)(f:V->List V->St->(Fl->List V->St->Prop)->Prop):Prop:=∀{A X W φ σ s m x v}{k:Fl->List V->St->Prop},cO C n A X W cx φ σ s m->VR (aM X φ) φ s.heap x v->f x m σ k->aE (aN C.e C.w) A (iN a W v) (λd c=>aE (aN C.e C.w) A (oW b W) (fC C n A X W cx φ s k) bx c) bx s
noncomputable def zY(C:Ctx)(A:bU)(c:ax)(a:am)(P:Option am->az->Prop)(s:az):Prop:=aE (aN C.e C.w) A (oX a) (λr b=>AO r (P ae b) λx=>aE (aN C.e C.w) A (pV c a x) (λe d=>P (aa x) d) bx b) bx s
def Np(R:az->Prop)(a:rf->az->Prop)(f:Flow)(s:az):Prop:=match f with|.next=>R s|.ret v=>a (.ok<|.ret v) s|_=>False
def Uh(J:Nat->az->Prop)(qL:∀n s,J n s->zY C A b g (λr d=>AO r (c (.ok .next) d) λv=>aE (aN C.e C.w) A (iN b W v) (λa j=>aE (aN C.e C.w) A (oW i W) (Np (λk=>∃m,m<n/\J m k) c) bx j) bx d) s)(n:Nat)(h:J n s):oV (aN C.e C.w) A (.forLoop b g i [] W) c s:=by refine codeAny_forLoop_any J (λn s l=>m9<|cE (qL n s l) (λr d h=>?_) λa a e=>e) n h;cases r with|none=>exact BD h|some v=>refine m9<|cE h (λa o h=>m9<|cE h (λa j h=>m9<|cE h (λf p h=>?_) λa a e=>e) λa a e=>e) λa a e=>e;cases f<;>first|exact h|exact h.elim
def Jh(hb:zT C n cx o B f)
  {J:aX->St->az->Nat->Prop}
  (draw:∀b c s' d i P,cO C n A X' W cx b c s' d->J b c s' i->(∀g,cO C n A X' W cx b c g d->Step G b s' b g->items[i]? =ae->P ae g)->
   (∀g v x,cO C n A X' W cx b c g d->Step G b s' b g->items[i]? =aa v->VR (aM X' b) b g.heap v x->J b c g (i+1)->P (aa x) g)->zY C A o D P s')
  (aS:∀b c s' d H I g i,cO C n A X' W cx b c s' d->Step (fr W) b s' H g->chk I->J b c s' i->J H I g i)
  (L:∀a,G a->s.heap.objs.size<=a)(M:∀a,X a->X' a)(N:uJ C.f.objs.size X W)(R:∀h s',fC C n A X W cx φ s Q h s'->F (.ok h) s')
  {b:aX}(S:cO C n A X' W cx b c s' d)(st:Step (fr W) φ s b s')(j:J b c s' 0)(w:eG f chk items d c Q):oV (aN C.e C.w) A (.forLoop o D B [] W) F s':=by
 refine Uh (λk s'=>∃(i:Nat)(b:aX)(c:St)(d:List V),k+i=items.length+1/\Step (fr W) φ s b s'/\cO C n A X' W cx b c s' d/\J b c s' i/\eG f chk (items.drop i) d c Q) ?_ (items.length+1)<|U6 0 b c d rfl st S j w
 rintro k s' ⟨i,b,c,d,U,st,S,j,w⟩
 refine draw b c s' d i _ S j (λg l r t=>?_) λg v x l r t ev j3=>?_
 ·rw[EC<|pH.mp t]at w
  exact R .next _<|jI b c d (.e) (st.Y r λa e=>.inr<|L a e) ((l.y M N).1) trivial w
 ·obtain⟨y,e⟩:=b_.mp t
  rw[EB y,e]at w
  refine cE (hb l ev w) (λm bF aW=>cE aW (λh bH p=>?_) λm m e=>e) λm m e=>e
  refine sf p λY ac ag mf an au z q=>?_
  have av:=(st.Y r λa e=>.inr<|L a e).e an
  cases mf with
  |e=>
   cases h<;>first|exact z.elim|skip
   exact⟨k-1,(qL U y).1,i+1,Y,ac,ag,(qL U y).2,av,au,aS _ _ _ _ _ _ _ _ l an q.1 j3,q.2⟩
  |f u=>
   cases h<;>first|exact z.elim|skip
   exact cj (au.y M N) λS6 bE=>R (.ret _) _<|jI Y ac ag (.f u) av S6 (VR.e bE _ _ z) q
def Ma(O:cL C){f:V->List V->St->(Fl->List V->St->Prop)->Prop}(st:S)(ok:bW C u cx k=true)(bw:mn k=true)(hb:zT C n cx Y qb f)(hw:∀m σ Q,wpS C n st m σ Q->aF C n u m σ λit σ=>∃l chk,nW σ it=aa (l,chk)/\eG f chk l m σ Q):cu C n st (.For Y k qb [] aU) cx:=by
 intro A X W φ σ s m Q S w;refine wpAny_For (S.f ((gj O u cx k ok).1 S.e (hw _ _ _ w)) λdg dj mv v b d an ev q=>?_)<|yr bw W;refine fq q λl chk hf w=>?_;obtain⟨i1,i2⟩:=Jf hf;refine CC d.e.e ev i1 λo fo J=>?_;have r:=dB b.heap o;refine cj (d.e.J r (gn _ _) b.toks) λT2 ca=>?_;have t:Lake.more X b.heap.objs.size (b.heap.push o).objs.size b.heap.objs.size:=.inr ⟨bb _,by refine af (eh ..) ?_;exact bY _⟩;have B:b.heap.objs.size≠W.locals:=λe=>dE _<|e▸(d.e.e.e _ d.e.f.g).2.1;have D:∀y c,W.cells.lookup y=aa c->c≠b.heap.objs.size:=λy c e1 e2=>dE _<|e2▸(d.e.e.J<|d.e.f.f y c e1).2;refine Jh (X':=Lake.more X b.heap.objs.size (b.heap.push o).objs.size) (items:=l) (chk:=chk) (Q:=Q) hb (J:=λF H s' i=>gB (Lake.more X b.heap.objs.size (b.heap.push o).objs.size) F s'.heap b.heap.objs.size i mv/\me H mv=aa l) (G:=λa=>a=b.heap.objs.size) (λF H s' m' i P h j hN hS=>?_) (λF H s' m' dk dq du i h av c j=>?_) (λa e=>e▸an.h) (λa q=>.inl q) S.e.f (λfl s' p=>p) (s':={b with heap:=b.heap.push o}) ⟨T2,d.g,d.h.e (λo e=>r _ _ e) λx c e o g=>r _ _ g,d.p⟩ (an.e<|Step.y r (gn _ _) b.toks).g ⟨J _ _ ca<|dF _ fo,i1⟩ w;·exact yO h.e.h.e h.e.e t j.1 j.2 (λh' I v x L M N ev J3=>(eQ (h.F t L M I B D) λR U aS=>V_ J3<|hS _ v x R U N (VR.e aS _ _ ev) ⟨J3,j.2⟩)) λh' I L M N=>eQ (h.F t L M I B D) λR U aS=>hN _ R U N
 ·refine⟨j.1.e (av.f h.t) λob e=>av.ext _ _ e (h.e.e.e _ t).1 λq=>?_,i2 _ c⟩;rcases q with q|⟨z,_,q⟩;·exact B q
  ·exact D z _ q rfl
def TN(C:Ctx)(n:Nat)(b:Ss)(i j:Nat):V->List V->St->(Fl->List V->St->Prop)->Prop:=λx m σ k=>∃u v,(x=.h [u,v])/\i<m.length/\j<m.length/\u≠.q/\v≠.q/\aP C n b ((m.set i u).set j v) σ k
def Ib(O:cL C)(l:iT C cx [.e i,.e j] [.Name x a,.Name y c]=true)(o:lY C n b d cx):zT C n cx (.Tuple [.Name x a,.Name y c] h g) d (TN C n b i j):=by intro A X W φ σ s m z v k S ev w;refine KU w λH I r t u B D F=>?_;subst r;refine cE (Md O l S (.inl rfl) ev rfl (Q:=λm σ=>aP C n b m σ k)<|tN t B (by refine af oM ?_;exact u) D F) (λf J p=>?_) λf f e=>e;exact fQ p λL M N st G q=>vy st<|o G q
def Zc(O:cL C)(o:cx.f[i]? =aa (aa x))(p:jq cx x=true)(q:bW C a cx c=true)(r:mn c=true)(t:lY C n b d cx):cu C n (.q i a b) (.For (.Name x j) c d [] l) cx:=by refine Ma O (.q i a b) (f:=λx m σ k=>i<m.length/\x≠.q/\aP C n b (m.set i x) σ k) q r ?_ λm σ Q w=>w;intro A X W φ σ s m u v k S ev w;exact eQ w λy B z=>BB<|cE (zA S o p y ev) (λg D h=>vy h.1<|t h.2 z) λg g e=>e
def Zd(O:cL C)(l:iT C cx [.e i,.e j] [.Name x d,.Name y e]=true)(o:bW C a cx c=true)(p:mn c=true)(q:lY C n b f cx):cu C n (.L i j a b) (.For (.Tuple [.Name x d,.Name y e] h g) c f [] k) cx:=Ma O (.L i j a b) o p (Ib O l q) λm σ Q w=>w
end
section
variable{C:Ctx}{n:Nat}{A:bU}{X:ao->Prop}{Y:cZ}{cx:Cx}{φ:aX}{σ:St}{s:az}{m:List V}
def HT(S:cO C n A X Y cx φ σ s m)(st:Step F0 φ s f h)(w:s.heap.objs.size<=d)(G:bA C (λa=>X a\/a=d) f u h.heap)(ev:VR (aM (λa=>X a\/a=d) f) f h.heap mv (.ref D))(N:h.heap.Ns d M)(R:cx.f[i]? =aa (aa y))(U:jq cx y=true)(W:i<m.length)(q:Q .e (m.set i mv) u):aE (aN C.e C.w) A (iN (.Name y P) Y<|.ref D) (λl t=>∃m',t.heap.Ns d m'/\∀B,gd d t.heap B->fC C n A X Y cx φ s Q .next {t with heap:=B}) bx h:=by
 have H:(λa=>X a\/a=d) d:=.inr rfl;have I:∀a,fr Y a->a≠d:=λa q e=>dE _<|aR ((λa q=>(S.e.e.e a q).2.1) a<|S.t a q)<|e▸w;have ov:dx (aM X φ) φ s.heap (aM (λa=>X a\/a=d) f) f h.heap:=by
  have z:=st.f (X:=X) λl q=>q.elim;refine⟨λa o e F=>⟨(z.e a o e F).1,λq=>?_⟩,z.f⟩;rcases q with(q|q)|q;·exact(z.e a o e F).2 (.inl q)
  ·exact dE _<|aR (q▸(cK e)) w
  ·exact(z.e a o e F).2 (.inr q)
 have S1:cO C n A (λa=>X a\/a=d) Y cx f u h m:=by refine⟨⟨S.e.h,⟨S.e.f.e,S.e.f.h,S.e.f.p,.inl S.e.f.g,λx c e=>(S.e.f.f x c e).imp .inl id,λx c k e=>.inl<|S.e.f.t x c k e,S.e.f.q⟩,S.e.p,G,S.e.q.1,λj x v e1 e2 e3=>?_⟩,S.g,S.h.e (λo e=>st.ext _ _ e (S.e.e.e _ S.e.f.g).1 λq=>q) λx c e o g=>st.ext _ _ g (S.e.e.J<|S.e.f.f x c e).1 λq=>q,S.p⟩;obtain⟨rv,b,r⟩:=S.e.q.2 j x v e1 e2 e3;exact(aC rv (b.e (λo e=>st.ext _ _ e (S.e.e.e _ S.e.f.g).1 λq=>q) λx c e o g=>st.ext _ _ g (S.e.e.J<|S.e.f.f x c e).1 λq=>q)<|VR.e ov _ _ r)
 refine BB<|cE (zA S1 R U W ev) (λl t p=>?_) λl l e=>e;obtain⟨J,S3⟩:=p;refine(aC M (N.at' λo e=>J.ext _ _ e (G.e _ H).1 λq=>I _ q rfl) λB L=>?_);obtain⟨S4,aW,_⟩:=S3.F H (λb o ne e=>L.extBut b o ne e) (bf L.1.symm) t.toks (λe=>I Y.locals (.inl rfl) e.symm) λx c e q=>dE _<|aR (S.e.e.J<|S.e.f.f x c e).2 (q▸w);exact cj (S4.y (λa q=>.inl q) S.e.f) λS5 l=>(jI f u _ (.e) ((st.g.e J).Y aW λa e=>.inr<|e▸w) S5 trivial q)
noncomputable def uv(a b:dN)(y:ah)(c:bv)(d:Nat):Bool:=a.kind==.function&&(a.names.lookup y==aa .local&&(c.line==d&& !(b.names.any λ(n,k)=>n==y&&(k==.local||k==.cell))))
def Mn(h:uv a b y c d=true)(e:Y.scope=a):(pure (Y.blockKind==.function&&Y.kindOf y==aa .local&&c.line==d&& !(b.names.any λ(n,k)=>n==y&&(k==.local||k==.cell))):d8 Bool)=pure true:=by have f:=(aj h).2;have g:=(aj f).2;refine af ((show Y.blockKind=.function from by delta Pe;rw[e,bO (aj h).1];rfl)) ?_;refine af ((show(Y.kindOf y==aa .local)=true from by delta oS;rw[e];exact(aj f).1)) ?_;refine af ((aj g).1) ?_;refine af ((aj g).2) ?_;rfl
def L9(f:List V->V->St->(Option V->St->Prop)->Prop)(J:E)(M:bP C n e h cx)(N:mn h=true)(P:sn cx d x=true)(R:cx.f[i]? =aa (aa y))(U:jq cx y=true)(W:uv cx.e d y c r.line=true)(hw:∀m σ Q,aF C n J m σ Q->aF C n e m σ λit σ=>∃j,gK it=aa j/\j.length<=cN/\h_ (f m) j [] σ (λl σ=>Q (.y l) σ))(ht:∀m,rH C n (jh cx d x) t o m<|f m):cu C n (.e (.e i) J) (.Assign [.Name y c] (.ListComp o [⟨.Name x B,h,t,0⟩] d r) H) cx:=by
 intro A X Y φ σ s m Q S w;have F:=C7 P;refine af (PG _ _ _ _<|show vl (.ListComp o [⟨.Name x B,h,t,0⟩] d r) (aa<|.Name y c) H.line Y=pure true from Mn W S.e.p)<|aA<|li<|aA ?_;refine aA<|cE (Hb (use:=aa<|iN (.Name y c) Y) (Q:=λb g=>fC C n A X Y cx φ s Q .next g) rfl (yr N Y) (Co F S.e) F.e F.p<|S.f (M S.e<|hw _ _ _ w) λbI bL mv v g u st ev q=>?_) (λb g hq=>ba<|ba hq) λb b e=>e;refine cz q λj av aK w=>IE (RR:=λaS z=>compPost (aN C.e C.w) A bx (aa<|iN (.Name y c) Y) (λb g=>fC C n A X Y cx φ s Q .next g) aS z) F (ht m) u.e ev av aK w ?_;intro X' I D z ca cw l ys m' cM G L q;refine cj (L.S.e.U (X:=λa=>X a\/a=z) λa q=>q.elim (G.T a) λe=>e▸G.g) λR1 bw=>aV L.g λk bC=>cE (HT u L.h G.e R1 (mv:=.y l) (dO D ys k rfl ?_ bC<|bd.e bw _ _ L.e) L.f R U q.1 q.2.2) (λb cQ p=>p.elim λbE p=>(aC bE p.1 λh' hs=>(p.2 h' hs).e st.g)) λb b e=>e;rintro((q|q)|q);·exact dE _<|aR (u.e.e.e _ q).2.1 G.f
 ·exact G.h q
 ·exact(L.S.e.e _ G.p).1 q
def JE(f:nY (x::a)=aa i)(e:bd b φ h (x::a) k):∃j c t d,i=j::c/\k=.int j t::d/\nY a=aa c/\bd b φ h a d:=by refine dA e λy d g l m=>?_;subst g;refine aB (gR.b f) λj n f=>?_;subst n;refine aB (fj.mp f) λc o g=>?_;subst g;obtain⟨t,rfl⟩:=l;exact(jI j c t d rfl rfl o m)
theorem Cz:∀{f:List V}{a:List Int}{c:List am},nY f=aa a->bd b φ h f c->∀k:Int,(∃v∈c,∃t,v=.int k t)↔k∈a
 |[],a,c,g,e,k=>by exact af ((e:c=[]))<|((bo g:[]=a))▸⟨λ⟨v,h,_⟩=>(nomatch h),λh=>(nomatch h)⟩
 |x::f,a,c,g,e,k=>by
  refine sf (JE g e) λj q t r i l m n=>?_;subst i;subst l;rw[cB,<-Cz m n k];constructor
  ·refine λo=>W4 o λv d u p=>?_;subst p;rcases cB.mp d with e|d;·exact .inl (Be e).1
   ·exact .inr<|vQ _ d u rfl
  ·rintro(rfl|⟨v,d,u,e⟩);·exact(vQ _ (bk ..) t rfl)
   ·exact(vQ v (bR _ d) u e)
theorem JC:∀{d:List V}{f:List Int}{c:List am},nY d=aa f->bd b φ h d c->∀v∈c,∃k t,v=.int k t|[],f,c,g,e,v,a=>by rw[(e:c=[])]at a;exact nomatch a|x::d,f,c,g,e,v,a=>by refine sf (JE g e) λj o t p i l m n=>?_;subst i;subst l;exact db (cB.mp a) (λrfl=>((rW j t rfl))) λa=>JC m n v a
def ZJ(h:StoredAll (λv k=>∃t,v=.int k t) (λn y=>y=.bool true) l d):∀k:Int,(jX d k=aa (Value.bool true)/\∃v∈l,∃t,v=Bd k t)\/(jX d k=ae/\¬∃v∈l,∃t,v=Bd k t):=by induction h with
 |nil=>intro k;exact .inr ⟨rfl,λ⟨v,h,_⟩=>(aD h cX)⟩
 | @snoc l d v k y o g i m=>
  intro j;obtain⟨t,rfl⟩:=g;refine af (KA ..) ?_;by_cases f:j=k;·subst f;exact af (aq rfl)<|af i<|.inl<|U2 rfl _ (jR _<|bk ..) t rfl
  ·refine af (ap f) ?_;rcases m j with⟨a,v,c,r⟩|⟨a,b⟩;·exact .inl<|rU a v (jz _ c) r
   ·refine .inr ⟨a,λ⟨v,c,u,e⟩=>?_⟩;rcases fi.mp c with c|c;·exact b<|vQ v c u e
    ·rw[cP]at c;rw[c]at e;exact f (Be e).1.symm
def TC{i:Nat}{y:ah}{w:bv}{D a:ao}{h':aO}{l:Nat}{r:br}{ks:List Int}{d:List (Int×am)}{M:ah->Option am}{Q:Fl->List V->St->Prop}(S:cO C n A X Y cx φ σ s m)(p:σ r=ae)(c:s.heap.objs.size<=D)(t:s.heap.objs.size<=a)(x:D≠a)(k:∀b o,s.heap.get? b=aa o->h'.get? b=aa o)(u:D<h'.objs.size)(z:a<h'.objs.size)(B:h'.DictOf (mO C.e C.w) D d)(F:h'.Ns a M)(G:∀b φ h j,fB b φ h (if j∈ks then aa (.g true)else ae)<|jX d j)(H:cx.f[i]? =aa (aa y))(I:jq cx y=true)(J:i<m.length)(q:Q .e (m.set i<|.f r) (bi σ r<|.f λk=>if k∈ks then aa (.g true)else ae)):aE (aN C.e C.w) A (iN (.Name y w) Y<|.ref D) (λf g=>∃L,g.heap.Ns a L/\∀h',gd a g.heap h'->fC C n A X Y cx φ s Q .next {g with heap:=h'}) bx {s with heap:=h',toks:=l}:=by
 have v:=bu<|aL c u;refine cj (S.e.e.Y k v) λN W=>cj (N.Z (X:=λb=>X b\/b=a) (h':=h') (λb q=>q.elim .inl λe=>.inr<|e▸⟨t,z⟩) (.inr ⟨c,u⟩) (λq=>q.elim (λq=>dE _<|aR (S.e.e.e _ q).2.1 c) x) (λb o f e=>e) (bb _) p (o:=.f λk=>if k∈ks then aa (.g true)else ae) λov=>(aC d B λj=>G _ _ _ j)) λP R=>?_;have U:Step F0 φ s (de φ r (D,D)) {s with heap:=h',toks:=l}:=by exact⟨λb o e f f=>k b o e,R.f,λb e=>(db ((og<|(S.e.e.t r).mp p).mp e) (λe=>(.inl e)) λe=>.inr<|e.elim (λe=>e▸c) λe=>e▸c),v,rfl,rfl,rfl⟩
 exact HT S U t P (mv:=.f r) (aC ((D,D)) (aq rfl) rfl) F H I J q
def YZ{e:E}{iter:ax}{x y:ah}{px px' pt py pos spos:bv}{kt:Nat}{scope:dN}{i:Nat}(hi:bP C n e iter cx)(hset:mn iter=true)(ok:sn cx scope x=true)(hx:(x==("__debug__":ah))=false)
  (hy:cx.f[i]? =aa (aa y))(hk:jq cx y=true)(hsw:uv cx.e scope y py pos.line=true):
  cu C n (.e (.e i) (.n e)) (.Assign [.Name y py] (.DictComp (.Name x px') (.Constant (.bool true) kt pt) [⟨.Name x px,iter,[],0⟩] scope pos) spos) cx:=by
 intro A X Y φ σ s m Q S w
 have F:=C7 ok
 refine af (PG _ _ _ _ (show vl (.DictComp (.Name x px') (.Constant (.bool true) kt pt) [⟨.Name x px,iter,[],0⟩] scope pos) (aa (.Name y py)) spos.line Y=pure true from Mn hsw S.e.p)) (aA (li (aA ?_)))
 show aE _ A (do let _<-comprehension (.DictComp (.Name x px') (.Constant (.bool true) kt pt) [⟨.Name x px,iter,[],0⟩] scope pos) scope Y _ newDict false (fY iter Y) (aa (iN (.Name y py) Y))) _ _ s
 refine aA (cE (Hb (use:=aa (iN (.Name y py) Y)) (Q:=λx_ s'=>fC C n A X Y cx φ s Q .next s') rfl (yr hset Y) (Co F S.e) F.e F.p
  (S.f (hi S.e w) λφ' σ' mv v s' S' st ev q=>?_)) (λx_ s' hq=>ba (ba hq)) λx_ x_ e=>e)
 refine se q λxs ks r hl hsz hks hr q=>fQ (kC S'.e.e hl ev) λa items k hz3 h1 h2=>?_;subst hz3
 refine vn (gT _ h1 rfl _ rfl) (ru (P6 F.g (λy hy=>nomatch hy) (λh₂ hns₂ hsb₂=>?_) F.e))
 generalize hHi:(s'.heap.push {cls:=.type "list_iterator",data:=.fields #[.ref a,.int 0 0]}:aO)=Hi at hsb₂ hns₂
 have z1:Hi.objs.size=s'.heap.objs.size+1:=by refine dh hHi ?_;rw[eh]
 have z2:=(eh Hi {cls:=.type "dict",dict:=ae,data:=.dict #[]}).trans (aQ oR z1)
 have lai:=cK h1
 have k1:∀b ob,Hi.get? b=aa ob->h₂.get? b=aa ob:=λb ob e=>hsb₂.extBut b ob (bZ (z2.symm▸cY (z1▸cK e))) (e_ _ (dB _ _ _ _ e))
 have gI:h₂.get? s'.heap.objs.size=aa {cls:=.type "list_iterator",data:=.fields #[.ref a,.int 0 0]}:=k1 _ _ (hHi▸dF _ rfl)
 have kk:∀b ob,s'.heap.get? b=aa ob->h₂.get? b=aa ob:=λb ob e=>k1 _ _ (hHi▸dB _ _ _ _ e)
 have dD2:h₂.DictOf (mO C.e C.w) Hi.objs.size []:=(F9 Hi).at λo e=>hsb₂.extBut _ _ (bZ (z2.symm▸z1.symm▸bY _)) (e_ _ e)
 generalize (Hi.push {cls:=.type "dict",dict:=ae,data:=.dict #[]}:aO).objs.size=Cc at z2 hns₂⊢
 generalize Hi.objs.size=D at z1 dD2⊢
 have nDC:D≠Cc:=by exact af z1 (z2.symm▸bZ (bY _))
 have nI:∀b,b<=s'.heap.objs.size->D≠b/\Cc≠b:=λb h=>⟨dM (bZ (z1.symm▸oP h)),dM (bZ (z2.symm▸cY (oP h)))⟩
 have nin:∀b,b≠s'.heap.objs.size->b≠a->¬b∈[s'.heap.objs.size,a]:=λb h1 h2 h=>(cB.mp h).elim h1 λh=>h2 (cP.mp h)
 have loop:oV (aN C.e C.w) A (.compLoop (.DictComp (.Name x px') (.Constant (.bool true) kt pt) [⟨.Name x px,iter,[],0⟩] scope pos) 0 (.ref s'.heap.objs.size) (.ref D) (rm scope (jF scope Y.cells) Cc Y))
   (compPost (aN C.e C.w) A bx (aa (iN (.Name y py) Y)) (λx_ s'=>fC C n A X Y cx φ s Q .next s') (.ref D) Cc) {s' with heap:=h₂,toks:=s'.toks+([]:List (ah×am)).length}:=by
  refine codeAny_compLoop_walkD (knd:=mO C.e C.w) (cenv:=rm scope (jF scope Y.cells) Cc Y) (Bn S.e.h.e s'.heap.objs.size a (bZ lai) items) (λx_=>true) (λv k=>∃t,v=.int k t) (λx_ y=>y=.bool true)
   (GX F.f) (by refine af (show(rm scope (jF scope Y.cells) Cc Y).scope.kind=.function from F.e) ?_;rfl) nDC (nin _ (nI _ (bb _)).1 (nI _ (bu lai)).1) (nin _ (nI _ (bb _)).2 (nI _ (bu lai)).2) ⟨(bV _ gI rfl rfl),(gT _ (kk _ _ h1) rfl _ rfl)⟩ dD2 hns₂
   (λj v s₃ m₃ hp hn hm hkp=>ba ⟨rfl,(c_ _ _ rfl (λx_ x_ e=>e))⟩) (λj v s₃ m₃ hp hpv hn hm hkp=>?_) (λj v s₃ m₃ hp hpv hn hm hkp=>PP ⟨rfl,(c_ _ _ rfl (λx_ x_ e=>e))⟩) (λh' tk m' kvs vs hn hd hlen hP hF hkp=>?_) (h2.f▸hsz)
  ·refine po (JC hks h2 v (fF (iF.trans hp))) λkk t hz2=>?_;subst hz2
   exact wpAny_Name (P5 F.e (GX F.f) hn hm ⟨(vQ kk (beq_self_eq_true kk) t rfl),(c_ _ _ rfl (λx_ x_ e=>e))⟩) hx
  ·obtain rfl:vs=items.toList:=sY λj=>by
    cases hj:vs[j]? with
    |none=>exact(nH (by refine af gL ?_;exact hlen▸pH.mp hj)).symm
    |some v=>exact(iF.trans (hP j v hj)).symm
   rw[N0.mpr λx_ x_=>rfl]at hF
   refine cE (TC (s:=s') S' hr (z1.symm▸eC _) (z2.symm▸bB _ 2) nDC (ks:=ks) (λb o e=>hkp b o (dM (nI b (bu (cK e))).2) (λq=>?_) (dM (nI b (bu (cK e))).1) (kk _ _ e)) (hd.elim λo h=>h.elim λx_ h=>h.elim λx_ h=>cK h.1) (hn.elim λo h=>h.elim λx_ h=>h.elim λx_ h=>cK h.1) hd hn (λb φ h j=>?_) hy hk q.1 q.2.2)
    (λx_ s₃ p=>p.elim λm'' p=>(aC m'' p.1 (λh' hs=>(p.2 h' hs).e st.g))) λx_ x_ e=>e
   ·exact bZ (cK e) (cP.mp q)
   ·rcases ZJ hF j with⟨e1,e2⟩|⟨e1,e2⟩
    ·exact af (aq ((Cz hks h2 j).mp e2)) (af e1 rfl)
    ·refine af (ap λq=>e2 ((Cz hks h2 j).mpr q)) (af e1 ?_);trivial
 exact codeAny_compStart_dict loop (Hj (s:={s' with heap:=h₂,toks:=s'.toks+([]:List (ah×am)).length}) (l:=a) (i:=0) (bV _ gI rfl rfl) loop)
end
section
variable{X:ao->Prop}{cx:Cx}
def cO.L(S:cO C n A X Y cx φ σ s m)(G:ao->Prop)(h:∀a,G a->X a)(k:∀b o,¬G b->s.heap.get? b=aa o->d.get? b=aa o)(p:s.heap.objs.size<=d.objs.size)(j:Nat)(q:¬G Y.locals)(t:∀n c,Y.cells.lookup n=aa c->¬G c):cO C n A X Y cx φ σ {s with heap:=d,toks:=j} m/\Step G φ s φ {s with heap:=d,toks:=j}/\dx (aM X φ) φ s.heap (aM X φ) φ d:=by have st:Step G φ s φ {s with heap:=d,toks:=j}:=⟨λb o e l f=>k b o f e,λl l e=>e,λl e=>.inl e,p,rfl,rfl,rfl⟩;have u:dx (aM X φ) φ s.heap (aM X φ) φ d:=st.f h;exact⟨⟨⟨S.e.h,S.e.f,S.e.p,(S.e.e.N G h (λb e=>(S.e.e.e b<|h b e).2.2) (λb o e w=>k b o w e) p),S.e.q.1,λi x v y z B=>(aB (S.e.q.2 i x v y z B) λrv b r=>(aC rv (b.e (λo e=>k _ _ q e) λn c e o g=>k _ _ (t n c e) g)<|VR.e u _ _ r))⟩,S.g,S.h.e (λo e=>k _ _ q e) λx c e o g=>k _ _ (t x c e) g,S.p⟩,st,u⟩
def IR(l:List V)(i:Nat):(l.zipIdx.map λx=>V.h [.e x.2,x.1])[i]? =l[i]?.map λv=>V.h [.e i,v]:=by refine af (fT) ?_;refine af (List.getElem?_zipIdx) ?_;cases l[i]? with|none=>rfl|some v=>show aa _=aa _;rw[j9]
structure Aa(r:br)(p:ao×ao)(Ie I:ao)(l:List V)(φ:aX)(σ:St)(s:az)(i:Nat):Prop where
 e:φ r=aa p
 f:∃old,IsEnum s.heap Ie I (i:Int) old
 g:s.heap.IsListIter I p.1 i
 h:me σ (.f r)=aa l
def TO{X:List ax}(J:f≠I)(z:∀a,(a=f\/a=I)->s a)(L:¬(Y.locals=f\/Y.locals=I))(M:∀n c,Y.cells.lookup n=aa c->¬(c=f\/c=I))(S:cO C n A s Y cx d t m y)(j:Aa r p f I l d t m i)(hN:∀g,cO C n A s Y cx d t g y->Step (λa=>a=f\/a=I) d m d g->(l.zipIdx.map λx=>V.h [.e x.2,x.1])[i]? =ae->P ae g)(hS:∀g v x,cO C n A s Y cx d t g y->Step (λa=>a=f\/a=I) d m d g->(l.zipIdx.map λx=>V.h [.e x.2,x.1])[i]? =aa v->VR (aM s d) d g.heap v x->Aa r p f I l d t g (i+1)->P (aa x) g):zY C A (.Tuple X kt pt) (.ref f) P m:=by
 obtain⟨N,⟨bL,Q⟩,R,U⟩:=j;obtain⟨p',av,xs,k,W,g2⟩:=S.e.e.q<|jk.e U;obtain rfl:=bo<|N.symm.trans av;rcases g2.F i with⟨B,D⟩|⟨c,v,B,D,ec⟩;·exact qO<|wpAny_pyNext_enum_end S.e.h.e Q R (gT _ W rfl _ rfl) B λh' he F=>(eQ (S.L _ z (λb o u e=>he b o (λq=>u<|.inr q) e) F m.toks L M) λG H x_=>hN _ G H<|by refine af (IR ..) ?_;refine af D ?_;rfl)
 ·refine wpAny_pyNext_enum_item Q R (gT _ W rfl _ rfl) B J λh' hO bC hT F kp=>wpAny_letOwnedTupleGo_enum hO λh3 bH w=>eQ (S.L _ z (λb o u e=>w.extBut b o (λq=>u<|.inl q)<|kp b o (λq=>u<|.inl q) (λq=>u<|.inr q) e) (w.1.symm▸F.symm▸eC _) (m.toks+1) L M) λG H bI=>?_;exact hS _ (.h [.e i,v]) _ G H (by refine af (IR ..) ?_;refine af D ?_;rfl) (dO _ _ _ rfl (S.e.e.F<|bb _) (w.extBut _ _ (λq=>dE _<|q▸(S.e.e.e _<|z _<|.inl rfl).2.1) hT)<|⟨_,_,rfl,⟨_,rfl⟩,_,_,rfl,VR.e bI _ _ ec,rfl⟩) ⟨N,⟨c,bH⟩,bC.elim λo h=>⟨o,w.extBut _ _ (dM J) h.1,h.2⟩,U⟩
def Za(O:cL C){L M pt N pc:bv}{kt:Nat}(ht:iT C cx [.e I,.e j] [.Name x L,.Name y M]=true)(ok:bW C B cx t=true)(bT:gi t=true)(he:bW C (.Y 0) cx (.Name ("enumerate":ah) N)=true)(hb:lY C n b R cx):cu C n (.y I j B b) (.For (.Tuple [.Name x L,.Name y M] kt pt) (.Call (.Name ("enumerate":ah) N) [t] [] pc) R [] bH) cx:=by
 intro A X Y φ σ s m Q S w;refine wpAny_For ?_ λx_=>rfl;refine Bz<|S.f ((gj O (.Y 0) cx _ he).1 (Q:=λv D=>v=.F (.type "enumerate")/\D=σ) S.e (wy O.g rfl)) λdU dX fv f eH U W ef q=>?_;obtain⟨rfl,rfl⟩:=q;obtain rfl:f=_:=ef;refine B8 rfl bT<|U.f ((gj O B cx t ok).1 U.e w) λeL eP mv v d k ac ev q=>⟨k.e.e.K O.e,?_⟩;obtain⟨l,chk,hf,⟨r,rfl⟩,w⟩:=q;obtain⟨i1,i2⟩:=Jf hf;obtain⟨p,hp,xs,k0,e1,e2⟩:=k.e.e.q<|jk.e i1;obtain rfl:=qF hp ev;refine call_enumerate_list (gT _ e1 rfl _ rfl) λu au dc av z=>wpAny_pyIter_enum au ?_;have zz:d.heap.objs.size<=u.objs.size:=av.symm▸bB _ 2;obtain⟨T2,fI⟩:=k.e.J z zz d.toks;have gX:∀a,(a=d.heap.objs.size+1\/a=d.heap.objs.size)->Lake.more X d.heap.objs.size u.objs.size a:=by
  refine af av ?_;rintro a (rfl|rfl);·exact .inr ⟨eC _,bY _⟩
  ·exact .inr ⟨bb _,cY<|bY _⟩
 have F:∀a,a<d.heap.objs.size->¬(a=d.heap.objs.size+1\/a=d.heap.objs.size):=λa q e=>e.elim (λe=>aD (e▸q)<|eZ.mpr<|eC _) λe=>dE _<|e▸q;have aS:∀a,X a->a<d.heap.objs.size:=λa q=>(k.e.e.e a q).2.1;have sI:s.heap.objs.size<=d.heap.objs.size:=ay W.h ac.h;refine Jh (X':=Lake.more X d.heap.objs.size u.objs.size) (chk:=chk) (Q:=Q) (Ib O ht hb) (J:=Aa r p (d.heap.objs.size+1) d.heap.objs.size l) (G:=λa=>a=d.heap.objs.size+1\/a=d.heap.objs.size) (λdj D s' m' i P H j hN hS=>TO (E9 _) gX (F _<|aS _ S.e.f.g) (λx c e=>F _ (k.e.e.J<|k.e.f.f x c e).2) H j hN hS) (λdj D s' m' fZ gy dv i H aW c j=>?_) (λa e=>e.elim (λe=>e▸mH sI) λe=>e▸sI) (λa q=>.inl q) S.e.f (λfl s' p=>p) (s':={d with heap:=u}) ⟨T2,k.g,k.h.e (λo e=>z _ _ e) λx c e o g=>z _ _ g,k.p⟩ ((W.e ac).e<|Step.y z zz d.toks).g ⟨hp,⟨_,au⟩,dc,i1⟩ w;have kp:∀a,(a=d.heap.objs.size+1\/a=d.heap.objs.size)->∀o,s'.heap.get? a=aa o->dv.heap.get? a=aa o:=λa g o e=>aW.ext _ _ e (H.e.e.e _<|gX a g).1 λq=>F a (aS a<|S.t a q) g;obtain⟨dw,hE⟩:=j.f;exact⟨aW.q _ _ j.e,⟨dw,kp _ (.inl rfl) _ hE⟩,j.g.elim λo h=>(aC o (kp _ (.inr rfl) _ h.1) h.2),i2 _ c⟩
end
section
variable{C:Ctx}{n:Nat}{A:bU}{X:ao->Prop}{cx:Cx}{s:az}{m:List V}
def um(q:cg)(f:(Option ax)->Bool):Bool:=bS λi:q.ctorIdx=3=>Gu (motive_2:=λa=>Bool) q i λb a=>f b
def um.e{q:cg}{R:cg->Prop}(h:um q f=true)(k:∀a b,f a=true->R (.Return a b)):R q:=(bS.e h).elim λi h=>Gu (motive_2:=λq=>∀i:q.ctorIdx=3,(Gu (motive_2:=λc=>Bool) q i λa c=>f a)=true->R q) q i (λa b c h=>k a b h) i h
def ui(q:cg)(f:(List ax)->Bool):Bool:=bS λi:q.ctorIdx=4=>Go (motive_2:=λa=>Bool) q i λb a=>f b
def ui.e{q:cg}{R:cg->Prop}(h:ui q f=true)(k:∀a b,f a=true->R (.Delete a b)):R q:=(bS.e h).elim λi h=>Go (motive_2:=λq=>∀i:q.ctorIdx=4,(Go (motive_2:=λc=>Bool) q i λa c=>f a)=true->R q) q i (λa b c h=>k a b h) i h
def uh(q:cg)(f:(List ax)->ax->Bool):Bool:=bS λi:q.ctorIdx=5=>Gn (motive_2:=λa=>Bool) q i λb c a=>f b c
def uh.e{q:cg}{R:cg->Prop}(h:uh q f=true)(k:∀a b c,f a b=true->R (.Assign a b c)):R q:=(bS.e h).elim λi h=>Gn (motive_2:=λq=>∀i:q.ctorIdx=5,(Gn (motive_2:=λd=>Bool) q i λa b d=>f a b)=true->R q) q i (λa b c d h=>k a b c h) i h
def qG(q:cg)(f:ax->ax->(List cg)->(List cg)->Bool):Bool:=bS λi:q.ctorIdx=9=>Gq (motive_2:=λa=>Bool) q i λb c d e a=>f b c d e
def qG.e{q:cg}{R:cg->Prop}(h:qG q f=true)(k:∀a b c d e,f a b c d=true->R (.For a b c d e)):R q:=(bS.e h).elim λi h=>Gq (motive_2:=λq=>∀i:q.ctorIdx=9,(Gq (motive_2:=λg=>Bool) q i λa b c d g=>f a b c d)=true->R q) q i (λa b c d e g h=>k a b c d e h) i h
def zs(q:cg)(f:ax->(List cg)->(List cg)->Bool):Bool:=bS λi:q.ctorIdx=11=>Gv (motive_2:=λa=>Bool) q i λb c d a=>f b c d
def zs.e{q:cg}{R:cg->Prop}(h:zs q f=true)(k:∀a b c d,f a b c=true->R (.While a b c d)):R q:=(bS.e h).elim λi h=>Gv (motive_2:=λq=>∀i:q.ctorIdx=11,(Gv (motive_2:=λe=>Bool) q i λa b c e=>f a b c)=true->R q) q i (λa b c d e h=>k a b c d h) i h
def zp(q:cg)(f:ax->(List cg)->(List cg)->Bool):Bool:=bS λi:q.ctorIdx=12=>Gs (motive_2:=λa=>Bool) q i λb c d a=>f b c d
def zp.e{q:cg}{R:cg->Prop}(h:zp q f=true)(k:∀a b c d,f a b c=true->R (.If a b c d)):R q:=(bS.e h).elim λi h=>Gs (motive_2:=λq=>∀i:q.ctorIdx=12,(Gs (motive_2:=λe=>Bool) q i λa b c e=>f a b c)=true->R q) q i (λa b c d e h=>k a b c d h) i h
def uj(q:cg)(f:ax->Bool):Bool:=bS λi:q.ctorIdx=24=>Gp (motive_2:=λa=>Bool) q i λb a=>f b
def uj.e{q:cg}{R:cg->Prop}(h:uj q f=true)(k:∀a b,f a=true->R (.Expr a b)):R q:=(bS.e h).elim λi h=>Gp (motive_2:=λq=>∀i:q.ctorIdx=24,(Gp (motive_2:=λc=>Bool) q i λa c=>f a)=true->R q) q i (λa b c h=>k a b h) i h
def zi(q:ax)(f:ah->bv->Bool):Bool:=bS λi:q.ctorIdx=23=>td (motive_1:=λc=>Bool) q i λa b=>f a b
def zi.e{q:ax}{R:ax->Prop}(h:zi q f=true)(k:∀a b,f a b=true->R (.Name a b)):R q:=(bS.e h).elim λi h=>td (motive_1:=λq=>∀i:q.ctorIdx=23,(td (motive_1:=λc=>Bool) q i λa b=>f a b)=true->R q) q i (λa b c h=>k a b h) i h
def zc(q:ax)(f:ax->ax->(List tc)->dN->Bool):Bool:=bS λi:q.ctorIdx=10=>FS (motive_1:=λa=>Bool) q i λb c d e a=>f b c d e
def zc.e{q:ax}{R:ax->Prop}(h:zc q f=true)(k:∀a b c d e,f a b c d=true->R (.DictComp a b c d e)):R q:=(bS.e h).elim λi h=>FS (motive_1:=λq=>∀i:q.ctorIdx=10,(FS (motive_1:=λg=>Bool) q i λa b c d g=>f a b c d)=true->R q) q i (λa b c d e g h=>k a b c d e h) i h
def Xb(C:Ctx)(e:E)(cx:Cx)(y:ah)(j:bv)(q:ax):Bool:=E.casesOn (motive_1:=λa=>Bool) e false (λa=>false) (λa=>false) (λa=>false) (λa=>false) (λa=>false) (λa a=>false) (λa a=>false) (λa=>false) (λa a a=>false) (λa=>false) (λa a a=>false) (λa a a=>false) (λa a a a a=>false) (λa=>false) (λa=>false) (λa=>false) (λa a=>false) (λa a=>false) (λe h=>oi q λk g d=>uv cx.e d y j q.pos.line&&mq (λx f i=>cW i&&(vI C cx d x f&&(bW C h cx f&&bW C e (jh cx d x) k))) g) (λe h c=>oi q λk g d=>uv cx.e d y j q.pos.line&&mq (λx f i=>eR (λl=>bW C c (jh cx d x) l) i&&(vI C cx d x f&&(bW C h cx f&&bW C e (jh cx d x) k))) g) (λh=>zc q λm n g d=>ft m λo=>jN n λc=>tB c λb=>b&&(uv cx.e d y j q.pos.line&&mq (λx f i=>o==x&&(CY x&&(cW i&&(vI C cx d x f&&bW C h cx f)))) g)) (λa a a=>false) (λa a=>false) (λa a=>false) (λa a=>false) (λa a=>false) (λa a a=>false) (λa a=>false) λa=>false
def KZ(C:Ctx)(t:T)(e:E)(cx:Cx)(b q:ax):Bool:=T.casesOn (motive:=λa=>Bool) t (λi=>zi b λy c=>cx.f[i]? ==aa (aa y)&&(jq cx y&&Xb C e cx y c q)) (λa a a=>false) λa a=>false
noncomputable def C_(cx:Cx)(ts:List T)(qs:List ax)(q:ax):Bool:=match Dq cx.e qs q with|none=>false|some ae=>true|some (aa a)=>decide (ts.map pv=(ts.filterMap pv).map aa)&&(decide (qs.map vZ=a.map aa)&&(decide ((ts.filterMap pv).length=2\/(ts.filterMap pv).length=3)&&decide (ts.filterMap pv).Nodup))
mutual
noncomputable def wa(C:Ctx):S->Cx->cg->Bool
 |.e t e,cx,q=>uh q λl v=>eR (λqt=>(t7 C t cx qt&&(bW C e cx v&&(!qu v&&gi qt)))||KZ C t e cx qt v) l
 |.p ts e,cx,q=>uh q λl v=>eR (λqt=>oj qt λqs=>iT C cx ts qs&&(bW C e cx v&&(!qu v&&(cx.e.kind==.function&&C_ cx ts qs v)))) l
 |.f e,cx,q=>uj q λv=>bW C e cx v&& !qu v
 |.h e,cx,q=>um q λv=>f6 (λv=>bW C e cx v) v
 |.g t a b,cx,q=>zp q λqt qa qb=>bW C t cx qt&&(lz C a cx qa&&lz C b cx qb)
 |.t t b,cx,q=>zs q λqt qb qe=>bW C t cx qt&&(cW qe&&lz C b cx qb)
 |.q i iter b,cx,q=>qG q λx qi qb qe=>ft x λx=>cx.f[i]? ==aa (aa x)&&(jq cx x&&(bW C iter cx qi&&(mn qi&&(cW qe&&lz C b cx qb))))
 |.L i j iter b,cx,q=>qG q λx qi qb qe=>oj x λl=>iT C cx [.e i,.e j] l&&(bW C iter cx qi&&(mn qi&&(cW qe&&lz C b cx qb)))
 |.y i j iter b,cx,q=>qG q λx qi qb qe=>oj x λl=>iT C cx [.e i,.e j] l&&(cW qe&&(lz C b cx qb&&jM qi λfx l kw x_=>ft fx λz=>z==("enumerate":ah)&&(mZ C cx 0 z&&(cW kw&&eR (λqi=>bW C iter cx qi&&gi qi) l))))
 |.F o k,cx,q=>ui q λl=>eR (λx=>j5 x λqo qk=>bW C o cx qo&&bW C k cx qk) l
 |.J o k,cx,q=>ui q λl=>eR (λx=>j5 x λqo qs=>bW C o cx qo&&qE qs λlo hi st=>f6 (λz=>bW C k cx z) lo&&(jJ hi&&jJ st)) l
 |.N,_,_=>true
noncomputable def lz(C:Ctx):Ss->Cx->List cg->Bool
 |.f,_,q=>cW q
 |.e st ss,cx,q=>match q with
  |[]=>false
  |p::ps=>wa C st cx p&&lz C ss cx ps
end
def Xc(O:cL C){A q:ax}(h:KZ C t e cx A q=true):cu C n (.e t e) (.Assign [A] q j) cx:=by cases t with|g _ _ _=>exact ff h|f _ _=>exact ff h|e i=>refine zi.e (R:=λA=>cu C n (.e (.e i) e) (.Assign [A] q j) cx) h λy l h=>?_;have F:=bO (aj h).1;have G:=(aj (aj h).2).1;have h:=(aj (aj h).2).2;cases e with|T e a=>refine oi.e (R:=λz=>z.pos.line=q.pos.line->cu C n (.e (.e i)<|.T e a) (.Assign [.Name y l] z j) cx) h (λB g r p h=>mq.e (R:=λg=>p.line=q.pos.line->cu C n (.e (.e i)<|.T e a) (.Assign [.Name y l] (.ListComp B g r p) j) cx) (aj h).2 λx H I D k=>?_) rfl;refine af (cW.e (aj k).1) ?_;intro u;have o:=(aj k).2;have s:=(aj o).2;exact L9 (λm x σ k=>aF C n e (m++[x]) σ λv σ=>k (aa v) σ) (.T e a) (gj O a cx _ (aj s).1).1 (aj (aj o).1).1 (aj (aj o).1).2 F G (u▸(aj h).1) (λm σ Q w=>w) (λm=>ME (gj O e _ _ (aj s).2).1 m)|b e a c=>refine oi.e (R:=λz=>z.pos.line=q.pos.line->cu C n (.e (.e i)<|.b e a c) (.Assign [.Name y l] z j) cx) h (λB g r p h=>mq.e (R:=λg=>p.line=q.pos.line->cu C n (.e (.e i)<|.b e a c) (.Assign [.Name y l] (.ListComp B g r p) j) cx) (aj h).2 λx H I D k=>eR.e (R:=λD=>p.line=q.pos.line->cu C n (.e (.e i)<|.b e a c) (.Assign [.Name y l] (.ListComp B [⟨.Name x H,I,D,0⟩] r p) j) cx) (λec X u=>?_) (aj k).1) rfl;have o:=(aj k).2;have s:=(aj o).2;exact L9 (λm x σ k=>aF C n c (m++[x]) σ λb σ=>∃d,b=.g d/\if d then(aF C n e (m++[x]) σ λv σ=>k (aa v) σ)else k ae σ) (.b e a c) (gj O a cx _ (aj s).1).1 (aj (aj o).1).1 (aj (aj o).1).2 F G (u▸(aj h).1) (λm σ Q w=>w) (λm=>turn_if (gj O e _ _ (aj s).2).1 (gj O c _ _ X).2 m)|n a=>refine zc.e (R:=λz=>z.pos.line=q.pos.line->cu C n (.e (.e i)<|.n a) (.Assign [.Name y l] z j) cx) h (λP J g r p h=>ft.e (R:=λP=>p.line=q.pos.line->cu C n (.e (.e i)<|.n a) (.Assign [.Name y l] (.DictComp P J g r p) j) cx) h λL M h=>jN.e (R:=λJ=>p.line=q.pos.line->cu C n (.e (.e i)<|.n a) (.Assign [.Name y l] (.DictComp (.Name L M) J g r p) j) cx) h λc U W h=>tB.e (R:=λc=>p.line=q.pos.line->cu C n (.e (.e i)<|.n a) (.Assign [.Name y l] (.DictComp (.Name L M) (.Constant c U W) g r p) j) cx) h λb h=>mq.e (R:=λg=>p.line=q.pos.line->cu C n (.e (.e i)<|.n a) (.Assign [.Name y l] (.DictComp (.Name L M) (.Constant (.bool b) U W) g r p) j) cx) (aj (aj h).2).2 λx H I D k=>?_) rfl;have o:=(aj k).2;have s:=(aj o).2;have N:=(aj s).2;refine af (cW.e (aj s).1)<|af ((aj h).1) ?_;refine af (bO (aj k).1) ?_;intro u;exact YZ (gj O _ cx _ (aj N).2).1 (aj (aj N).1).1 (aj (aj N).1).2 (gV (aj o).1) F G (u▸(aj (aj h).2).1)|_=>exact ff h
def Xg(h:t7 C t cx b=true)(Y:cZ):jC [b] v Y=pure ae:=by cases t with|e i=>exact ft.e (R:=λb=>jC [b] v Y=pure ae) h λa a a=>rfl|g c p o=>exact ni.e (R:=λb=>jC [b] v Y=pure ae) h λa a a a=>rfl|f o k=>exact j5.e (R:=λb=>jC [b] v Y=pure ae) h λa a a a=>rfl
def K5{l:List ax}{R:List ax->Prop}(h:iT C cx [.e i,.e j] l=true)(k:∀x d y e,iT C cx [.e i,.e j] [.Name x d,.Name y e]=true->R [.Name x d,.Name y e]):R l:=by match l with|[]=>exact ff h|[a]=>exact nomatch (aj (aj h).2).2|a::b::c::l=>exact nomatch (aj (aj (aj (aj h).2).2).2).2|[a,b]=>have f:=(aj (aj (aj (aj h).2).2).2).1;exact ft.e (R:=λa=>iT C cx [.e i,.e j] [a,b]=true->R [a,b]) ((aj (aj h).2).1) (λx d g=>(ft.e (R:=λb=>iT C cx [.e i,.e j] [.Name x d,b]=true->R [.Name x d,b]) f λy e g=>k x d y e)) h
def K1(O:cL C)(st:S):∀cx q,wa C st cx q=true->cu C n st q cx:=by
 refine @S.rec (λst=>∀cx q,wa C st cx q=true->cu C n st q cx) (λM=>∀cx l,lz C M cx l=true->lY C n M l cx)
  ?asg ?asgT ?expr ?ret ?ite ?whl ?for_ ?for2 ?forEnum ?del ?delFrom ?bad ?nil ?cons st
 case asg=>
  exact λt e cx q h=>uh.e (R:=λq=>cu C n (.e t e) q cx) h λl v p h=>eR.e (R:=λl=>cu C n (.e t e) (.Assign l v p) cx) (λI h=>((M_ _ _).mp h).elim
   (λh=>YX O (aj h).1 (aj (aj h).2).1 (gV (aj (aj (aj h).2).2).1) (Xg (aj h).1) (aj (aj (aj h).2).2).2) (Xc O)) h
 case asgT=>
  refine λts e cx q h=>uh.e (R:=λq=>cu C n (.p ts e) q cx) h λl v p h=>eR.e (R:=λl=>cu C n (.p ts e) (.Assign l v p) cx) (λI h=>oj.e (R:=λI=>cu C n (.p ts e) (.Assign [I] v p) cx) h λqs k A h=>?_) h
  have r:=(aj h).2
  have s:=(aj r).2
  have F:=(aj s).2
  have d:=bO (aj F).1
  have f:C_ cx ts qs v=true:=(aj F).2
  delta C_ at f
  cases g:Dq cx.e qs v with
  |none=>rw[g]at f;exact ff f
  |some o=>
   rw[g]at f
   cases o with
   |none=>exact YY O (aj h).1 (aj r).1 (gV (aj s).1) λY N=>Mo g N
   |some xs=>exact ZA O (aj h).1 (aj r).1 (gV (aj s).1) (λY N=>Mo g N) (cR (aj f).1) (cR (aj (aj f).2).1) (cR (aj (aj (aj f).2).2).1) (cR (aj (aj (aj f).2).2).2)
 case expr=>
  exact λe cx q h=>uj.e (R:=λq=>cu C n (.f e) q cx) h λv p h=>Zb O (aj h).1 (gV (aj h).2)
 case ret=>
  exact λe cx q h=>um.e (R:=λq=>cu C n (.h e) q cx) h λv p h=>f6.e (R:=λv=>cu C n (.h e) (.Return v p) cx) (λv h=>Zu O h) h
 case ite=>
  exact λt a b ia D cx q h=>zp.e (R:=λq=>cu C n (.g t a b) q cx) h λI qa c p h=>Zg O (aj h).1 (ia cx qa (aj (aj h).2).1) (D cx c (aj (aj h).2).2)
 case whl=>
  exact λt b D cx q h=>zs.e (R:=λq=>cu C n (.t t b) q cx) h λI c G p h=>(cW.e (aj (aj h).2).1).symm▸ZC O (aj h).1 (D cx c (aj (aj h).2).2)
 case for_=>
  refine λi m b D cx q h=>qG.e (R:=λq=>cu C n (.q i m b) q cx) h λx B c G p h=>ft.e (R:=λx=>cu C n (.q i m b) (.For x B c G p) cx) h λx J h=>?_
  have r:=(aj h).2
  have s:=(aj r).2
  have F:=(aj s).2
  have Q:=(aj F).2
  exact(cW.e (aj Q).1).symm▸Zc O (bO (aj h).1) (aj r).1 (aj s).1 (aj F).1 (D cx c (aj Q).2)
 case for2=>
  refine λi j m b D cx q h=>qG.e (R:=λq=>cu C n (.L i j m b) q cx) h λx B c G p h=>oj.e (R:=λx=>cu C n (.L i j m b) (.For x B c G p) cx) h λl k A h=>K5 (R:=λl=>cu C n (.L i j m b) (.For (.Tuple l k A) B c G p) cx) (aj h).1 λx J y L o=>?_
  have r:=(aj h).2
  have s:=(aj r).2
  have F:=(aj s).2
  exact(cW.e (aj F).1).symm▸Zd O o (aj r).1 (aj s).1 (D cx c (aj F).2)
 case forEnum=>
  refine λi j m b D cx q h=>qG.e (R:=λq=>cu C n (.y i j m b) q cx) h λx B c G p h=>oj.e (R:=λx=>cu C n (.y i j m b) (.For x B c G p) cx) h λl k A h=>K5 (R:=λl=>cu C n (.y i j m b) (.For (.Tuple l k A) B c G p) cx) (aj h).1 λx J y L o=>?_
  have r:=(aj h).2
  have s:=(aj r).2
  refine af (cW.e (aj r).1)<|jM.e (R:=λB=>cu C n (.y i j m b) (.For (.Tuple [.Name x J,.Name y L] k A) B c [] p) cx) (aj s).2 λU l kw W g=>ft.e (R:=λU=>cu C n (.y i j m b) (.For (.Tuple [.Name x J,.Name y L] k A) (.Call U l kw W) c [] p) cx) g λz pe g=>?_
  have X:=(aj g).2
  have g3:=(aj X).2
  refine af (cW.e (aj g3).1)<|eR.e (R:=λl=>cu C n (.y i j m b) (.For (.Tuple [.Name x J,.Name y L] k A) (.Call (.Name z pe) l [] W) c [] p) cx) (λB u=>?_) (aj g3).2
  have g1:=(aj X).1
  rw[(bO (aj g).1)]at g1⊢
  exact Za O o (aj u).1 (aj u).2 g1 (D cx c (aj s).1)
 case del=>
  exact λo k cx q h=>ui.e (R:=λq=>cu C n (.F o k) q cx) h λl p h=>eR.e (R:=λl=>cu C n (.F o k) (.Delete l p) cx) (λx h=>j5.e (R:=λx=>cu C n (.F o k) (.Delete [x] p) cx) h λP qk A h=>Y7 O (aj h).1 (aj h).2) h
 case delFrom=>
  refine λo k cx q h=>ui.e (R:=λq=>cu C n (.J o k) q cx) h λl p h=>eR.e (R:=λl=>cu C n (.J o k) (.Delete l p) cx) (λx h=>j5.e (R:=λx=>cu C n (.J o k) (.Delete [x] p) cx) h λP qs A h=>qE.e (R:=λqs=>cu C n (.J o k) (.Delete [.Subscript P qs A] p) cx) (aj h).2 λlo hi st p3 g=>?_) h
  exact af (jJ.e (aj (aj g).2).1)<|(jJ.e (aj (aj g).2).2).symm▸f6.e (R:=λlo=>cu C n (.J o k) (.Delete [.Subscript P (.Slice lo ae ae p3) A] p) cx) (λz g=>Y8 O (aj h).1 g) (aj g).1
 case bad=>exact λcx q h H H H H H H H H H w=>w.elim
 case nil=>exact λcx l h=>cW.e h▸Mc
 case cons=>
  refine λst M i1 i2 cx l h=>?_
  cases l with
  |nil=>exact ff h
  |cons p ps=>exact Mb (i1 cx p (aj h).1)<|i2 cx ps (aj h).2
def Xe(O:cL C)(st:S)(cx:Cx)(q:cg)(h:wa C st cx q=true):cu C n st q cx:=K1 O st cx q h
theorem K2(O:cL C):∀(a:Ss)(cx:Cx)(q:List cg),lz C a cx q=true->lY C n a q cx|.f,cx,q,h=>cW.e h▸Mc|.e st a,cx,[],h=>ff h|.e st a,cx,p::b,h=>Mb (K1 O st cx p (aj h).1)<|K2 O a cx b (aj h).2
end
section
variable{X:ao->Prop}{cx:Cx}{s:az}
def C8(cx:Cx)(a:List ah):Bool:=cx.e.kind==.function&&(!cx.e.isCoroutine&&(!cx.e.isGenerator&&(cx.e.names.all (λy=>y.2 !=.free)&&(decide (cx.f.Nodup)&&(cx.f.all (f6<|jq cx)&&a.map aa==cx.f.take a.length)))))
structure Ad(C:Ctx)(fa:ao)(cx:Cx)(ps:List ah)(body:List cg):Prop where
 f:∃fo fd,C.f.get? fa=aa fo/\fo.data=.func fd/\C.f.CodeRec fd.code fd.qualname/\fd.body=.stmts body/\fd.closure=[]/\fd.scope=cx.e/\fd.globals=lX/\fd.builtins=pT/\
  ∀vals:List am,vals.length=ps.length->bindArgs fd ⟨vals,[]⟩=pure (ps.zip vals)
 e:C8 cx ps=true
def H7(a:List (ah×am)):∀(M:ah->Option am)(x:ah),x∉a.map (·.1)->bindL k a M x=M x/\bindC k a M x=M x:=by induction a with|nil=>exact λM x h=>⟨rfl,rfl⟩|cons p r b=>intro M x h;have d:x≠p.1:=λe=>h<|cB.mpr<|.inl e;have b:=λM=>b M x λq=>h<|bR _ q;exact⟨(b _).1.trans (fO (motive:=λf:ah->Option am=>f x=M x) (λc=>ap d) λc=>rfl),(b _).2.trans (fO (motive:=λf:ah->Option am=>f x=M x) (λc=>rfl) λc=>ap d)⟩
def H8(b:List (ah×am)):∀(M:ah->Option am)(x:ah)(v:am),(b.map (·.1)).Nodup->(x,v)∈b->(k x=aa .local->bindL k b M x=aa v)/\(k x≠aa .local->bindC k b M x=aa v):=by induction b with|nil=>exact λM x v f h=>aD h cX|cons p r d=>intro M x v a h;have a:=gD.mp a;refine db (cB.mp h) (λe=>?_) λh=>⟨(d (if k p.1=aa .local then λy=>if y=p.1 then aa p.2 else M y else M) x v a.2 h).1,(d (if k p.1=aa .local then M else λy=>if y=p.1 then aa p.2 else M y) x v a.2 h).2⟩;subst e;exact⟨λc=>(H7 r _ _ a.1).1.trans ((congrFun (aq c) x).trans<|aq rfl),λc=>(H7 r _ _ a.1).2.trans ((congrFun (ap c) x).trans<|aq rfl)⟩
def SM(b:List (ah×mL)):∀(i:Nat)(a:List (ah×ao)),((x,xi)∈b\/(a.lookup x).isSome=true)->((cellsFrom i b a).lookup x).isSome=true:=by induction b with
 |nil=>exact λi a h=>h.elim (λh=>aD h cX) id
 |cons p r f=>
  intro i a h;by_cases d:(p.2==xi)=true
  ·refine fO (motive:=λl:List (ah×ao)=>(l.lookup x).isSome=true) (λg=>f _ _ ?_) λc=>aD d c;refine af (r6 ..) ?_;by_cases e:x=p.1;·exact af (aq e)<|.inr rfl
   ·exact af (ap e)<|h.imp (λh=>(cB.mp h).elim (λq=>aD (aQ u_ q) e) id) id
  ·exact fO (motive:=λl:List (ah×ao)=>(l.lookup x).isSome=true) (λc=>aD c d) λg=>f _ _<|h.imp (λh=>(cB.mp h).elim (λq=>aD (q▸rfl) d) id) id
structure mT(cx:Cx)(ps:List ah):Prop where
 f:cx.e.kind=.function
 p:cx.f.Nodup
 e:ps.map aa=cx.f.take ps.length
def mT.g(K:mT cx c):c.Nodup:=aaR aa (λa b e q=>e<|aQ aa q) (show(c.map aa).Nodup by refine af K.e ?_;exact K.p.sublist<|Ov _ _)
def mT.t(K:mT cx a):a.length<=cx.f.length:=by have:=aQ lO K.e;rw[bq,uV]at this;exact this▸u7 ..
def mT.q(K:mT cx a)(b:i<a.length)(h:cx.f[i]? =aa (aa x)):a[i]? =aa x:=by
 have e:(a.map aa)[i]? =aa (aa x):=by exact af K.e<|(N9 b).symm▸h
 rw[fT]at e;exact aB (fj.mp e) λy c e=>bo e▸c
def mT.h(K:mT cx a)(b:x∈a):aa x∈cx.f:=Oj<|K.e▸wV b
noncomputable abbrev QN(cx:Cx)(a:List V):List V:=a++gO (cx.f.length-a.length) .q
def Jb(K:mT cx l)(w:eN A (n+1))(R:bA C X φ σ s.heap)(ev:bd (aM X φ) φ s.heap f p)(q:f.length=l.length)(m:env.locals=s.heap.objs.size)(r:env.scope=cx.e)(z:env.globals=lX)(B:env.builtins=pT)(D:∀b o,s.heap.get? b=aa o->a.get? b=aa o)(t:a.Ns s.heap.objs.size M)(F:∀x c,env.cells.lookup x=aa c->more X s.heap.objs.size a.objs.size c\/c<C.f.objs.size)(G:∀x c,env.kindOf x=aa .cell->env.cells.lookup x=aa c->more X s.heap.objs.size a.objs.size c)(H:∀x,(env.kindOf x=aa .cell\/env.kindOf x=aa .free)->∃c,env.cells.lookup x=aa c)(I:∀x y c,env.cells.lookup x=aa c->env.cells.lookup y=aa c->x=y)(J:∀x c,env.cells.lookup x=aa c->c≠s.heap.objs.size)(L:∀x c,env.cells.lookup x=aa c->∃v,a.IsCell c v)(N:∀x rv,(x,rv)∈l.zip p->sG env a x rv):cO C n (A.deeper env) (more X s.heap.objs.size a.objs.size) env cx φ σ {s with heap:=a,toks:=tk} (QN cx f):=by
 have u:s.heap.objs.size<a.objs.size:=t.elim λo h=>h.elim λP h=>h.elim λP h=>cK h.1;refine cj (R.Y D<|bu u) λQ U=>?_;refine⟨⟨w.q,⟨r▸K.f,z,B,by exact m.symm▸.inr ⟨bb _,u⟩,F,G,H⟩,r,Q,?_,λi x v g d W=>?_⟩,⟨I,λx c e=>m▸J x c e⟩,⟨⟨_,m▸t⟩,L⟩,λi j x g d=>(EK (b_.mp g).1 K.p).mp<|g.trans d.symm⟩;·exact af bm<|List.length_replicate.symm▸OB (q▸K.t)
 ·refine db (w6 i f.length) (λk=>?_) λk=>?_;·rw[gM k]at d;exact aB (ev.p d) λrv Y er=>(aC rv (N x rv<|fF<|EL.mpr ⟨K.q (q▸k) g,Y⟩)<|VR.e U _ _ er)
  ·rw[sZ k]at d;exact aD (List.eq_of_mem_replicate<|fF d) W
def Ja(S:cO C n r (more X s.heap.objs.size h.objs.size) env cx c d g t)(u:∀b o,s.heap.get? b=aa o->h.get? b=aa o)(w:s.heap.objs.size<=h.objs.size)(st:Step (fr env) φ {s with heap:=h,toks:=l} c g)(x:∀a,fr env a->s.heap.objs.size<=a)(k:Eb (aM (more X s.heap.objs.size h.objs.size) c) c g.heap j i)(q:match(generalizing:=false) j with|.e=>Q .t d|.f v=>Q v d):(i=.next/\a_ C X φ s Q .none g)\/∃v,i=.ret v/\a_ C X φ s Q v g:=by refine cj (S.e.e.U (X:=X) λa q=>.inl q) λm y=>?_;have p:=Step.U (Step.y (φ:=φ) (s:=s) u w l) st x;cases j with
 |e=>
  cases i<;>first|exact k.elim|skip
  exact .inl ⟨rfl,c,d,.t,p,m,rfl,q⟩
 |f v=>
  cases i<;>first|exact k.elim|skip
  exact .inr ⟨_,rfl,c,d,v,p,m,VR.e y _ _ k,q⟩
def Xd(h:C8 cx a=true):mT cx a/\cx.e.isCoroutine=false/\cx.e.isGenerator=false/\(∀y∈cx.e.names,y.2≠.free)/\(∀x,aa x∈cx.f->jq cx x=true):=by have b:=(aj h).2;have c:=(aj b).2;have d:=(aj c).2;have e:=(aj d).2;have f:=(aj e).2;exact(tN (⟨bO (aj h).1,cR (aj e).1,bO (aj f).2⟩) (gV (aj b).1) (gV (aj c).1) (λy g=>neT<|ir.mp (aj d).1 y g) λx i=>ir.mp (aj f).1 _ i)
def ZI(h:jq cx x=true):cx.e.names.lookup x=aa .local\/cx.e.names.lookup x=aa .cell:=(wh h).imp bO bO
def gw(C:Ctx)(n:Nat)(f:am)(b:List V)(σ:St)(Q:V->St->Prop):Prop:=∀A X φ s a,eN A n->bA C X φ σ s.heap->bd (aM X φ) φ s.heap b a->oV (aN C.e C.w) A (.call f ⟨a,[]⟩) (λr c=>match r with|.ok (.ret v)=>a_ C X φ s Q v c|.ok _=>False|.error _=>False) s
theorem gw.e(h:gw C n f a σ Q):aZ C n f a σ Q:=by intro A X φ s b c R ev;exact BC (xv (h A X φ s b c R ev) λr d p=>by rcases r with e|(v|_|_|_)<;>exact p)
def I_(O:cL C){fa:ao}(F:Ad C fa cx g t)(ok:lz C u cx t=true){Q:V->St->Prop}(I:l.length=g.length)(w:aP C n u (l++gO (cx.f.length-l.length) .q) σ (λJ j z=>match J with|.e=>Q .t z|.f v=>Q v z)):gw C (n+1) (.ref fa) l σ Q:=by
 intro A X φ s m L R ev;refine W6 F.f λfo fd h1 h2 h3 h4 h5 b h7 h8 h9=>C4 (Xd F.e) λK k2 k3 k4 k6=>?_;have M:m.length=g.length:=ev.h.symm.trans I;have N:(g.zip m).map (·.1)=g:=EO<|bf M.symm;have P:∀x rv,(x,rv)∈g.zip m->cx.e.names.lookup x=aa .local\/cx.e.names.lookup x=aa .cell:=λx rv h=>ZI<|k6 x<|K.h (AA h).1;have B:∀x,cx.e.names.lookup x=aa .cell->((cellsFrom (s.heap.objs.size+1) fd.scope.names []).lookup x).isSome=true:=λx e=>SM _ _ _<|.inl<|mem_of_lookup<|b▸e;refine codeAny_call_cells (aL (bB ..)<|bj L.h bl) (R.g _ _ h1) h2 (O.e.f.keeps R.g) (h3.keeps R.g) h4 (h9 m M) h5 (λx d=>?_) (λcV f=>?_) (by refine af b ?_;exact k2) (by refine af b ?_;exact k3) (by exact b.symm▸K.f);·exact b.symm▸(P x.1 x.2 d).imp id λe=>⟨e,b▸B _ e⟩
 ·refine po f.toInCall.same λD tk bH=>?_;subst bH;have U:=f.toInCall.keep;have G:=f.toInCall.ns;have lt:s.heap.objs.size<D.objs.size:=G.elim λo h=>h.elim λj h=>h.elim λj h=>cK h.1;have r:∀x c,(Bq fd s.heap.objs.size fa).cells.lookup x=aa c->s.heap.objs.size<c/\c<D.objs.size:=λx c e=>⟨f.above x c<|mem_of_lookup e,(f.cell x c e).elim λo h=>cK h.1⟩;have W:∀x c,(Bq fd s.heap.objs.size fa).cells.lookup x=aa c->more X s.heap.objs.size D.objs.size c:=λx c e=>.inr ⟨bu (r x c e).1,(r x c e).2⟩;have k:∀x,(Bq fd s.heap.objs.size fa).kindOf x=cx.e.names.lookup x:=λx=>aQ (λsc:dN=>sc.names.lookup x) b;have S1:=Jb (C:=C) (env:=Bq fd s.heap.objs.size fa) (tk:=tk) K L R ev I rfl b h7 h8 U G (λx c e=>.inl<|W x c e) (λx c j e=>W x c e) (λx d=>?_) (λx y c e1 e2=>name_of_addr f.apart (mem_of_lookup e1)<|mem_of_lookup e2) (λx c e=>dM<|bZ (r x c e).1) (λx c e=>⟨_,f.cell x c e⟩) λx rv H=>?_;·refine cE (K2 O u cx t ok S1 w) (λJ s' p=>?_) λj j e=>e.elim;obtain⟨dg,z,m',mf,st,S',ef,q⟩:=p;rcases Ja S' U (bu lt) st (λa q=>q.elim (λq=>bf q.symm) λ⟨x,_,q⟩=>bu (r x a q).1) ef q with⟨rfl,p⟩|⟨v,rfl,p⟩<;>exact p
  ·rw[k]at d;exact d.elim (λd=>xb.mp<|B x d) λd=>aD rfl<|k4 _<|mem_of_lookup d
  ·rcases P x rv H with i|i;·exact .inl ⟨(k x).trans i,_,G,(H8 _ _ _ _ (N.symm▸K.g) H).1 ((k x).trans i)⟩
   ·refine aV (xb.mp<|B x i) λc Y=>?_;have:=f.cell x c Y;rw[(H8 _ _ _ _ (N.symm▸K.g) H).2 (by rw[k,i];exact λe=>nomatch e)]at this;exact .inr ⟨.inl<|(k x).trans i,c,Y,this⟩
def Un(O:cL C){fa:ao}(F:Ad C fa cx b c)(f:lz C d cx c=true)(g:a.length=b.length)(w:aP C n d (a++gO (cx.f.length-a.length) .q) σ (λh i e=>match h with|.e=>Q .t e|.f v=>Q v e)):aZ C (n+1) (.ref fa) a σ Q:=(I_ O F f g w).e
def eN.t(R:eN A (n+1))(a:c.weight<=1)(b:c.cUnits<=8):eN (A.under c) n:=by exact R.p R.e (ay (bf<|dL ..)<|cy a _)<|ay (bf<|dL ..)<|cy b _
def aaf(a:ao)(b:List am):(Fv "type.__call__" ⟨.ref a::b,[]⟩).weight<=1:=bf (by rfl)
def aae(a:ao)(b:List am):(Fv "type.__call__" ⟨.ref a::b,[]⟩).cUnits<=8:=by
 have:(Fv "type.__call__" ⟨.ref a::b,[]⟩).cUnits=1:=by rfl
 exact(ay (bf this) bl)
def KF(O:cL C)(F:C.h c=aa k)(G:vc C.K k.e=true)(H:lV C.K (.ref k.e) "__init__"=aa (aa<|.ref f))(I:vd C.K (.ref f)=aa (.type "function"))(x:σ r=ae)(h:gw C n (.ref f) (.f r::w) (bi σ r<|.g c []) (λv j=>v=.t/\Q (.f r) j)):gw C (n+1) (.ref k.e) w σ Q:=by
 intro A X φ s y J R ev;have l:=R.K O.e;obtain⟨i,g,d,t,os⟩:=s;refine make_core (makes_of l G) (looks_findIn l H) (λL=>bind_fn l L I) (.inl rfl) ?_;have B:∀b o,i.get? b=aa o->((i.push jB).push<|ix k.e i.objs.size).get? b=aa o:=λb o e=>dB _ _ _ _<|dB _ _ _ _ e;have m:((i.push jB).push<|ix k.e i.objs.size).objs.size=i.objs.size+2:=by refine af (eh ..) ?_;rw[eh]
 have D:i.objs.size<=((i.push jB).push<|ix k.e i.objs.size).objs.size:=by exact af m<|mH<|eC _
 have M:((i.push jB).push<|ix k.e i.objs.size).get? (i.objs.size+1)=aa (ix k.e i.objs.size):=by have:=dF (i.push jB) (o:=ix k.e i.objs.size) rfl;rwa [eh]at this
 obtain⟨N,u⟩:=R.a0 B D (r:=r) (p:=(i.objs.size+1,i.objs.size)) x ⟨eC _,by refine af m ?_;exact bY _⟩ ⟨bb _,by refine af m ?_;exact cY<|bY _⟩ (o:=.g c []) λu=>(m0 k ([]) 0 F M (dB _ _ _ _<|dF i (o:=jB) rfl) (E9 _) trivial);have P:Step F0 φ ⟨i,g,d,t,os⟩ (de φ r (i.objs.size+1,i.objs.size)) ⟨(i.push jB).push<|ix k.e i.objs.size,g,d,t,os⟩:=by
  refine⟨λa o e U U=>B a o e,u.f,λa q=>?_,D,rfl,rfl,rfl⟩;rcases(og<|(R.t r).mp x).mp q with q|q|q;·exact .inl q
  ·exact .inr<|q▸eC _
  ·exact .inr<|q▸bb _
 refine xv (h (A.under<|.builtin "type.__call__" ⟨.ref k.e::y,[]⟩) X _ ⟨(i.push jB).push<|ix k.e i.objs.size,g,d,t,os⟩ (.ref (i.objs.size+1)::y) (J.t (aaf _ _)<|aae _ _) N<|cp _ _ rfl ((aC ((i.objs.size+1,i.objs.size)) (by simp[de]) rfl))<|bd.e u _ _ ev) λq s' z=>?_;rcases q with e|(v|_|_|_)<;>first|exact z.elim|skip;refine se z λW j mv st Y ac hv q=>?_;subst hv;exact⟨ac,W,j,.f r,P.e st,Y,(aC _ (st.q _ _ (by simp[de]:de φ r (i.objs.size+1,i.objs.size) r=aa (i.objs.size+1,i.objs.size))) rfl),q⟩
end
def WN(O:cL C)(l:C.h c=aa k)(m:vc C.K k.e=true)(u:lV C.K (.ref k.e) "__init__"=aa (aa<|.builtin "object.__init__"))(v:σ r=ae)(q:Q (.f r) (bi σ r<|.g c [])):aZ C n (.ref k.e) [] σ Q:=by
 intro A X F s G H R ev;subst ev;have h:=R.K O.e;obtain⟨a,g,d,t,os⟩:=s;have Y:=makes_of (M:=aN C.e C.w) h m;have i:∀b o,a.get? b=aa o->((a.push jB).push<|ix k.e a.objs.size).get? b=aa o:=λb o e=>dB _ _ _ _<|dB _ _ _ _ e;have f:((a.push jB).push<|ix k.e a.objs.size).objs.size=a.objs.size+2:=by rw[eh,eh]
 have w:a.objs.size<=((a.push jB).push<|ix k.e a.objs.size).objs.size:=by rw[f];exact mH<|eC _
 have j:((a.push jB).push<|ix k.e a.objs.size).get? (a.objs.size+1)=aa (ix k.e a.objs.size):=by have:=dF (a.push jB) (o:=ix k.e a.objs.size) rfl;rwa [eh]at this
 have x:((a.push jB).push<|ix k.e a.objs.size).get? a.objs.size=aa (xq [] 0):=dB _ _ _ _<|dF a (o:=jB) rfl;have z:=a_.h R i w (r:=r) (p:=(a.objs.size+1,a.objs.size)) v ⟨eC _,by rw[f];exact bY _⟩ ⟨bb _,by rw[f];exact cY<|bY _⟩ (o:=.g c []) (λI=>(m0 k ([]) 0 l j x (E9 _) trivial)) q t;have y:Looks (aN C.e C.w) ((a.push jB).push<|ix k.e a.objs.size) (rq<|.ref<|a.objs.size+1) (.ref k.e):=(Looks.ld j).andThen .now;have B:Looks (aN C.e C.w) ((a.push jB).push<|ix k.e a.objs.size) (isInstance (.ref<|a.objs.size+1)<|.type "object") true:=y.andThen<|Y.top.keeps i;refine BC<|make_core Y (looks_findIn h u) (λD=>Looks.of_pure<|oi_bind D) (.inr ⟨rfl,rfl⟩) ?_;refine PD oi_plain entry_oi<|@check_slot (aN C.e C.w) _ _ _ "object.__init__" "object" "__init__" (.ref<|a.objs.size+1) [] [] _ oi_kind oi_split B (oi_args<|.ref<|a.objs.size+1) ?_;rw[oi_run];exact ba<|wy rfl z
section
variable{C:Ctx}{n:Nat}{X:ao->Prop}{cx:Cx}{m:List V}
structure rE(C:Ctx)(fa D cc cda:ao)(fd:lS)(cx:Cx)(ps:List ah)(body:List cg):Prop where
 f:∃oc od osl,C.K.lookup fa=aa ⟨oc,od,.func fd,osl⟩
 T:C.f.CodeRec fd.code fd.qualname
 F:fd.body=.stmts body
 J:fd.closure=[(("__class__":ah),cc)]
 e:fd.scope=cx.e
 Y:fd.globals=lX
 t:fd.builtins=pT
 q:∀vals:List am,vals.length=ps.length->bindArgs fd ⟨vals,[]⟩=pure (ps.zip vals)
 a:∃ar,(fd.params.posonlyargs++fd.params.args).head? =aa ar/\ps.head? =aa ar.arg
 N:fd.code=.ref cda
 U:∃ccl cdd vs ccs file tf,C.K.lookup cda=aa ⟨ccl,cdd,.fields vs,ccs⟩/\vs[2]? =aa (.str file tf)/\((C.e.main.file:ah)==file)=true
 g:∃cl cld csl,C.K.lookup cc=aa ⟨cl,cld,.cell<|aa<|.ref D,csl⟩
 L:∃cd,clsIn C.K D=aa cd
 c:(C.e.main.scope.names.lookup ("super":ah)).isSome=false
 b:∃mg mb,C.f.Ns lX mg/\C.f.Ns pT mb/\mg "super"=ae/\mb "super"=aa (.type "super")
 p:nsIn C.K cStatics "thirdparty.any"=aa ae
 Z:(cx.e.kind==.function&&(!cx.e.isCoroutine&&(!cx.e.isGenerator&&(cx.e.names.all (λy=>y.2 !=.cell&&(y.2 !=.free||y.1==("__class__":ah)))&&
  (decide (cx.f.Nodup)&&(cx.f.all (f6 λx=>cx.e.names.lookup x==aa .local)&&(ps.map aa==cx.f.take ps.length&&
  (cx.e.names.lookup ("super":ah)==aa .globalImplicit&&cx.e.names.lookup ("__class__":ah)==aa .free))))))))=true
structure xN(W:cZ)(fa cc cda:ao):Prop where
 g:W.func=aa fa
 f:W.code=.ref cda
 e:W.cells=[(("__class__":ah),cc)]
theorem rE.h{fa D cc cda:ao}{fd:lS}{ps:List ah}{body:List cg}(F:rE C fa D cc cda fd cx ps body):mT cx ps/\cx.e.isCoroutine=false/\cx.e.isGenerator=false/\(∀y∈cx.e.names,y.2≠.cell/\(y.2=.free->y.1=("__class__":ah)))/\(∀x,aa x∈cx.f->cx.e.names.lookup x=aa .local)/\cx.e.names.lookup ("super":ah)=aa .globalImplicit/\cx.e.names.lookup ("__class__":ah)=aa .free:=by have h:=F.Z;have h2:=(aj h).2;have h3:=(aj h2).2;have h4:=(aj h3).2;have h5:=(aj h4).2;have h6:=(aj h5).2;have h7:=(aj h6).2;have h8:=(aj h7).2;exact⟨⟨bO (aj h).1,cR (aj h5).1,bO (aj h7).1⟩,gV (aj h2).1,gV (aj h3).1,λy hy=>⟨neT (aj<|ir.mp (aj h4).1 y hy).1,λq=>(wh (aj<|ir.mp (aj h4).1 y hy).2).elim (λz=>aD q<|neT z) bO⟩,λx hx=>bO (ir.mp (aj h6).1 _ hx:f6 _ (aa x)=true),bO (aj h8).1,bO (aj h8).2⟩
set_option tactic.hygienic true in
theorem SS{K:fk}(X:K.In h)(e:clsIn K D=aa b):∃o,h.get? D=aa o/\o.data=.cls b:=by delta clsIn at e;cases a:K.lookup D with|none=>rw[a]at e;exact aY e|some o=>rw[a]at e;obtain⟨c,l,d,f⟩:=o;cases d<;>first|exact aY e|exact aC _ (X _ _ a)<|aQ Data.cls<|bo e
def ZT(O:cL C)(S:dQ C n A X W cx φ σ s m)(H:Step F0 j k φ s)(I:φ r=aa p)(J:s.heap.get? a=aa (methodObj (.ref b)<|.ref p.1))(L:¬lA φ a)(t:fnIn C.K b=true)
  (u:d.all gi=true)(M:d=[]->l=.f)(N:mU C n l d cx)(w:eK C n l m σ (λvs σ=>gw C n (.ref b) (.f r::vs) σ Q)):
  aE (aN C.e C.w) A (Br i (.ref a) [] (lW i<|km d W) []) (a_ C X j k Q) bx s:=by
 have x:∀{f o ms vs c},Step F0 φ s f c->dQ C n A X W cx f o c m->bd (aM X f) f c.heap ms vs->gw C n (.ref b) (.f r::ms) o Q->
   MethP C.K a b (.ref p.1) c.heap/\aE (aN C.e C.w) A (fM (.ref a) vs) (a_ C X j k Q) bx c:=λst g d_ q=>by
  have y:=st.ext _ _ J L λq=>q
  refine⟨⟨y,g.e.K O.e⟩,BC<|ks_codeAny_call_bound y<|xv (q _ _ _ _ _ g.h g.e<|cp _ _ rfl ((aC p (st.q _ _ I) rfl)) d_) λR U z=>?_⟩
  rcases R with e|(v|_|_|_)<;>first|exact z.elim|exact z.q<|H.e st
 cases d with
 |nil=>
  replace w:=(M rfl)▸w
  exact xp (P:=MethP C.K a b<|.ref p.1) rfl (λh X=>keeps_M t h X)<|evalArgs_none<|x (ms:=[]) (vs:=[]) (Step.T _ _ _) S rfl w
 |cons e B=>
  have D:aE (aN C.e C.w) A (Bw<|lW i<|km (e::B) W) (λvs F=>MethP C.K a b (.ref p.1) F.heap/\aE (aN C.e C.w) A (fM (.ref a)<|[]++vs) (a_ C X j k Q) bx F) bx s:=
   S.F (N S w) λf o ms vs c g st d_ Y q=>x st g d_ q
  have G:=(zy (e::B) W i u).1
  rw[ur (aj u).1]at D G⊢
  exact xp (P:=MethP C.K a b<|.ref p.1) ((Na _).trans G) (λh X=>keeps_M t h X)<|Ft D
def ZU(g:b.all gi=true)(h:b.length<30)(i:Bv true x W e a=pure a)(c:am):
  GY x d e a W c (b.length+([]:List xh).length) (lW a<|km b W) (Bp a<|Bu [] W)=(do
   let(f,first)<-pU [c] (getMethod c d<|do return (<-importBound x W).getD true)
   Br a f first (lW a<|km b W) []):=by
 have j:methodCallForm (b.length+([]:List xh).length) (lW a<|km b W) (Bp a<|Bu [] W)=true:=by
  show(_&&true&&decide (b.length+0+0<30))=true
  exact((zy b W a g).2).symm▸bQ h
 delta GY
 refine af j ?_
 delta calleeOf
 refine af i ?_
 rfl
def Mm(O:cL C){fa D H ac f:ao}{fd:lS}(F:rE C fa D H ac fd cx v cV)(J:xN W fa H ac)(S:dQ C n A X W cx φ σ s m)
  (hk:C.h c=aa k)(dj:m[0]? =aa (.f r))(P:aT σ r=aa (.g c dc))
  (dk:mroIn C.K k.e (.ref D)=aa true)(hm:xr C.K k.e D L=aa (aa<|.ref f))(ht:vd C.K (.ref f)=aa (.type "function"))(dv:fnIn C.K f=true)(x:(L==("__class__":ah))=false)
  (hs:j.all gi=true)(dw:j=[]->N=.f)(dD:j.length<30)(dJ:(apos.endLine==pos.line)=true)(dU:mU C n N j cx)(w:eK C n N m σ (λvs σ=>gw C n (.ref f) (.f r::vs) σ Q)):
  _root_.PySem.wpAt (aN C.e C.w) A (.func cQ W) (fY (.Call (.Attribute (.Call (.Name "super" p0) [] [] p1) L apos) j [] pos) W) (a_ C X φ s Q) bx s:=by
 refine KT F.h λK R R R R k8 k9=>yY F.f λoc od i9 hf=>aB F.a λar hp aS=>KX F.U λjn jv vs jx jH tf eP eT eU=>yY F.g λcl jT kL fb=>aV F.L λkQ hD=>yX F.b λmg mb g1 g2 g3 g4=>?_
 have l:=S.e.K O.e
 have aU:W.kindOf "super"=aa .globalImplicit:=by unfold oS;exact af S.p k8
 have aW:W.kindOf "__class__"=aa .free:=by unfold oS;exact af S.p k9
 have ns:∀{a M},C.f.Ns a M->s.heap.Ns a M:=λx=>x.at' λo e=>S.e.g _ _ e
 have gQ:cx.f[0]? =aa (aa ar.arg):=by
  have P:0<v.length:=by
   cases v with
   |nil=>exact aY aS
   |cons p v=>exact mJ _
  refine dh (N9 P) ?_;refine dh K.e ?_;refine af (fT) ?_;refine dh (List.head?_eq_getElem?) ?_;refine af aS ?_;rfl
 refine aB (S.q.2 0 ar.arg _ gQ dj λe=>V.noConfusion e) λrv hb er=>?_
 obtain⟨p,bC,rfl⟩:=er
 obtain⟨lq,bE,k',lP,mm,U,e2,e3,e4,e5⟩:=S.e.q P
 rw[bC]at bE;cases bE
 replace U:=hk▸U;cases U
 have I:=vS e2 e3
 refine ks_wpAt_MethodCall (pl:=(do return (<-importBound (.Call (.Name "super" p0) [] [] p1) W).getD true)) ?_ ?_
 ·refine aB (SS l hD) λoD bI bL=>ks_wpAt_super_base aU aW x J.g (l _ _ hf) rfl hp J.f (l _ _ eP) rfl eT eU F.c ?_
  refine ks_loadName_global S.f.e aU<|Pc (by refine af S.f.h ?_;exact ns g1) g3 (by refine af S.f.p ?_;exact ns g2) g4 ⟨rfl,?_⟩
  refine P4 S.f.e aW (c:=H) (by refine af J.e ?_;rfl) (aC _ (l _ _ fb) rfl) ?_
  refine Kj S.f hb<|ks_wpAny_isType_cls bI bL ⟨rfl,?_⟩
  obtain⟨Y,g,d,t,os⟩:=s
  refine ks_wpAny_call_super bI bL I.at_ I.cls (λc e=>by cases e) (looks_mroIn l dk) λh bT y=>?_
  have z1:Y.objs.size<=h.objs.size:=bu<|cK bT
  have cw:=Step.y (φ:=φ) (s:=⟨Y,g,d,t,os⟩) y z1 t
  have B:=S.t cw<|S.e.T y z1
  have u:C.K.In h:=B.e.K O.e
  have i:=hm
  cases G:clsIn C.K k.e with
  |none=>unfold xr at i;rw[G]at i;exact aY i
  |some cd=>
   unfold xr at i
   rw[G]at i
   refine aB (fj.mp<|show(C.K.lookup f).map (·.cls)=aa (.type "function")from ht) λof z iD=>ks_wpAny_getMethod_super bT (looks_opaque u F.p) (l₀:=cd.mro) ?_ rfl u i (u _ _ z) iD (ks_ne u (vS (y _ _ e2)<|y _ _ e3) G) x ?_
   ·exact λA Q E s k q=>aA<|(looks_clsIn u G) A _ E s k<|ba q
   ·have cJ:∀b o,h.get? b=aa o->(h.push {cls:=.type "method",data:=.fields #[.ref f,.ref p.1]}).get? b=aa o:=dB _ _
    have cM:=Step.y (φ:=φ) (s:={(⟨Y,g,d,t,os⟩:az)with heap:=h,toks:=t}) cJ (gn _ _)<|t+1
    have i6:(h.push {cls:=.type "method",data:=.fields #[.ref f,.ref p.1]}).get? h.objs.size=aa (methodObj (.ref f)<|.ref p.1):=dF _ rfl
    exact ZT O (B.t cM<|B.e.T cJ<|gn _ _) (cw.e cM) bC i6 (λq=>dE _ (B.e.f _ q).2) dv hs dw dU w
 ·refine af (arm_eval_Call ..) ?_
  simp only[ZU hs dD<|by unfold Bv;refine af dJ ?_;rfl]
theorem Kl:∀{l:List (ah×b)}{x:ah}{v:b},(l.map (·.1)).Nodup->(x,v)∈l->l.lookup x=aa v|[],_,_,_,h=>aD h cX|(y,u)::r,x,v,a,h=>by have a:=gD.mp a;exact af (r6 ..)<|db (cB.mp h) (λe=>(af (aq<|aQ u_ e)<|aQ aa (aQ Prod.snd e).symm)) λh=>af (ap λe:x=y=>a.1<|e▸cq.mpr (aC _ h rfl))<|Kl a.2 h
def Ul(O:cL C){fa D d m:ao}{fd:lS}(F:rE C fa D d m fd cx f r)(H:j.length=f.length)(ag:∀{A X W φ s},cO C n A X W cx φ σ s (j++gO (cx.f.length-j.length) .q)->xN W fa d m->_root_.PySem.wpAt (aN C.e C.w) A (.func r W) (oW r W) (fC C n A X W cx φ s λI g t=>match I with|.e=>Q .t t|.f v=>Q v t) bx s):gw C (n+1) (.ref fa) j σ Q:=by
 intro A X φ s k J R ev;refine KT F.h λK k2 k3 l k6 k8 k9=>yY F.f λoc od ca hf=>yY F.g λcl cJ cM L=>?_;have M:=R.K O.e;have N:k.length=f.length:=ev.h.symm.trans H;have P:∀x rv,(x,rv)∈f.zip k->cx.e.names.lookup x=aa .local:=λx rv h=>k6 x<|K.h (AA h).1;have U:d<C.f.objs.size:=cK<|O.e.K _ _ L;refine ks_codeAny_call_defAt (aL (bB ..)<|bj J.h bl) (M _ _ hf) rfl (O.e.f.keeps R.g) (F.T.keeps R.g) F.F (BindsTo.of_eq<|F.q k N) (λx b=>(l x<|F.e▸b).1) (λx b=>by refine af F.e ?_;exact P x.1 x.2 b) (λh' u w=>?_) (by refine af F.e ?_;exact k2) (by refine af F.e ?_;exact k3) (by exact F.e.symm▸K.f);have z:xN (xu fd s.heap.objs.size fa) fa d m:=⟨rfl,F.N,F.J⟩;have B:∀x,(xu fd s.heap.objs.size fa).kindOf x=cx.e.names.lookup x:=λx=>aQ (λsc:dN=>sc.names.lookup x) F.e;have lt:s.heap.objs.size<h'.objs.size:=u.elim λo h=>h.elim λg h=>h.elim λg h=>cK h.1;have i:∀x c,(xu fd s.heap.objs.size fa).cells.lookup x=aa c->x=("__class__":ah)/\c=d:=λx c e=>by
  rw[z.e,r6]at e;refine db (iG<|x=("__class__":ah)) (λq=>?_) λq=>?_;·rw[aq q]at e;exact⟨q,(bo e).symm⟩
  ·rw[ap q]at e;exact aY e
 have Y:∀x,(xu fd s.heap.objs.size fa).kindOf x≠aa .cell:=λx b=>(l _<|mem_of_lookup<|(B x).symm.trans b).1 rfl;have S1:=Jb (C:=C) (env:=xu fd s.heap.objs.size fa) (tk:=s.toks+(f.zip k).length) K J R ev H rfl F.e F.Y F.t w u (λx c e=>.inr<|(i x c e).2▸U) (λx c G g=>aD G<|Y x) (λx b=>?_) (λx y c e1 e2=>(i x c e1).1.trans (i y c e2).1.symm) (λx c e=>(i x c e).2▸bZ (aR U R.y)) (λx c e=>(i x c e).2▸(c_ _ _ (w _ _<|M _ _ L) rfl)) λx rv hm=>.inl<|rU ((B x).trans<|P x rv hm) _ u<|Kl ?_<|List.mem_reverse.mpr hm;·refine _root_.PySem.wpAt_mono (ag S1 z) (λI s' p=>?_) λg g e=>e.elim;obtain⟨cV,t,m',mf,st,S',ef,q⟩:=p;rcases Ja S' w (bu lt) st (λa q=>q.elim (λq=>bf q.symm) λ⟨x,G,_⟩=>aD G<|Y x) ef q with⟨rfl,p⟩|⟨v,rfl,p⟩<;>exact p
 ·rw[B]at b;exact⟨d,by refine af z.e ?_;refine af (r6 ..) ?_;rw[aq<|(l _<|mem_of_lookup<|b.resolve_left λb=>(l _<|mem_of_lookup b).1 rfl).2 rfl]⟩
 ·exact af ER<|af ((EO<|bf N.symm))<|List.pairwise_reverse.mpr<|aaQ (λh=>dM h) K.g
end
section
variable{X:ao->Prop}{cx:Cx}
set_option genCtorIdx false in
inductive Top
 |e (s:S)
 |f (ret:Bool) (name:ah) (f:ao) (es:Es)
def kI(C:Ctx)(n:Nat):List Top->List V->St->(Fl->List V->St->Prop)->Prop
 |[],m,σ,Q=>Q .e m σ
 |.e s::r,m,σ,Q=>wpS C n s m σ λb m σ=>match b with|.e=>kI C n r m σ Q|.f v=>Q (.f v) m σ
 |.f ret _ f c::r,m,σ,Q=>∃a d,m[0]? =aa (.f a)/\aT σ a=aa (.g 0 d)/\eK C n c m σ λe σ=>gw C n (.ref f) (.f a::e) σ λv σ=>if ret then Q (.f v) m σ else kI C n r m σ Q
structure BV(C:Ctx)(D:ao)(name:ah)(f2:ao):Prop where
 k:∃k,C.h 0=aa k/\mroIn C.K k.e (.ref D)=aa true/\xr C.K k.e D name=aa (aa<|.ref f2)
 g:vd C.K (.ref f2)=aa (.type "function")
 e:fnIn C.K f2=true
 f:(name==("__class__":ah))=false
noncomputable def t6(C:Ctx)(cx:Cx)(b:ah)(c:Es)(q:ax):Bool:=jM q λd a e f=>cW e&&ni d λg h i=>(h==b&&(oa C c cx a&&(decide (a.length<30)&&i.endLine==f.line)))&&jM g λj l k m=>cW l&&(cW k&&ft j λx=>x==("super":ah))
def t6.e{q:ax}{R:ax->Prop}(h:t6 C cx d j q=true)(k:∀f e c b a,oa C j cx a=true->a.length<30->(c.endLine==b.line)=true->R (.Call (.Attribute (.Call (.Name "super" f) [] [] e) d c) a [] b)):R q:=jM.e (R:=R) h λm a p b h=>by refine af (cW.e (aj h).1) ?_;exact ni.e (R:=λm=>R<|.Call m a [] b) (aj h).2 λn r c h=>by have g:=(aj h).1;refine af (bO (aj g).1) ?_;have i:=(aj (aj g).2);exact jM.e (R:=λn=>R<|.Call (.Attribute n d c) a [] b) (aj h).2 λo l p e h=>by exact af (cW.e (aj h).1)<|(cW.e (aj (aj h).2).1).symm▸ft.e (R:=λo=>R<|.Call (.Attribute (.Call o [] [] e) d c) a [] b) (aj (aj h).2).2 λx f h=>(bO h:x=_)▸k f e c b a i.1 (cR (aj i.2).1) (aj i.2).2
def Xh(C:Ctx)(cx:Cx)(t:Top)(q:cg):Bool:=match t with|.e s=>wa C s cx q|.f true a _ b=>um q (f6<|t6 C cx a b)|.f false a _ b=>uj q<|t6 C cx a b
def wc(C:Ctx)(cx:Cx):List Top->List cg->Bool|[],l=>cW l|t::ts,l=>match l with|[]=>false|q::qs=>Xh C cx t q&&wc C cx ts qs
noncomputable def uu:List Top->List (ah×ao)|[]=>[]|.e _::r=>uu r|.f _ a f _::r=>(a,f)::uu r
theorem Dt(O:cL C){fa D B G:ao}{fd:lS}{ps:List ah}{d an:List cg}(F:rE C fa D B G fd cx ps an):∀{ts:List Top}{qs:List cg}{A:bU}{X:ao->Prop}{Y:cZ}{φ:aX}{σ:St}{s:az}{m:List V}{Q:Fl->List V->St->Prop},(∀p∈uu ts,BV C D p.1 p.2)->wc C cx ts qs=true->xN Y fa B G->cO C n A X Y cx φ σ s m->kI C n ts m σ Q->_root_.PySem.wpAt (aN C.e C.w) A (.func d Y) (oW qs Y) (fC C n A X Y cx φ s Q) bx s
 |[],qs,A,X,Y,φ,σ,s,m,Q,i,b,g,S,w=>by exact(cW.e b).symm▸wpAt_of_wpAny (BD<|jI φ σ m (.e) (Step.T _ _ _) S trivial w)
 |.e st::ts,qs,A,X,Y,φ,σ,s,m,Q,i,b,g,S,w=>by cases qs with
  |nil=>exact dK b
  |cons q qs=>refine GT<|wpAt_of_wpAny<|cE (Xe O st cx q (aj b).1 S w) (λH I p=>?_) λa a e=>e;refine sf p λj l m' mf c J o q=>?_;cases mf with
   |e=>
    cases H<;>first|exact o.elim|skip
    exact _root_.PySem.wpAt_mono (Dt O F (ts:=ts) i (aj b).2 g J q) (λa a p=>p.e c) λa a e=>e
   |f v=>
    cases H<;>first|exact o.elim|skip
    exact(jI j l m' (.f v) c J o q)
 |.f ret aK f L::ts,qs,A,X,Y,φ,σ,s,m,Q,i,b,g,S,w=>by cases qs with|nil=>exact dK b|cons q qs=>refine dA w λr0 bH M N w=>?_;have T:=i (aK,f)<|bk ..;refine cz T.k λk P U W=>?_;cases ret with|false=>refine uj.e (R:=λq=>_root_.PySem.wpAt (aN C.e C.w) A (.func d Y) (oW (q::qs) Y) (fC C n A X Y cx φ s Q) bx s) (aj b).1 λv p h=>t6.e (R:=λv=>_root_.PySem.wpAt (aN C.e C.w) A (.func d Y) (oW (.Expr v p::qs) Y) (fC C n A X Y cx φ s Q) bx s) h λp0 p1 aW bw bC r t u=>?_;obtain⟨x,y,z⟩:=(C9 O L cx _ r).e (C:=C) (n:=n);exact GT (ks_wpAt_Expr_any (_root_.PySem.wpAt_mono (Mm O F g S.e P M N U W T.g T.e T.f y z t u x w) (λv I p=>(fJ p λj l mv c R ev q=>_root_.PySem.wpAt_mono (Dt O F (λp hp=>i p<|bR _ hp) (aj b).2 g (S.q c<|S.e.t c R) q) (λa a p=>p.e c.g) λa a e=>e)) λa a e=>e) (KN S) rfl)|true=>exact um.e (R:=λq=>_root_.PySem.wpAt (aN C.e C.w) A (.func d Y) (oW (q::qs) Y) (fC C n A X Y cx φ s Q) bx s) (aj b).1 λv p h=>f6.e (R:=λv=>_root_.PySem.wpAt (aN C.e C.w) A (.func d Y) (oW (.Return v p::qs) Y) (fC C n A X Y cx φ s Q) bx s) (λv h=>t6.e (R:=λv=>_root_.PySem.wpAt (aN C.e C.w) A (.func d Y) (oW (.Return (aa v) p::qs) Y) (fC C n A X Y cx φ s Q) bx s) h λp0 p1 aW bw bC r t u=>(eQ ((C9 O L cx _ r).e (C:=C) (n:=n)) λx y z=>GT<|ks_wpAt_Return_some<|_root_.PySem.wpAt_mono (Mm O F g S.e P M N U W T.g T.e T.f y z t u x w) (λv I p=>(fJ p λj l mv c R ev q=>(jI j l m (.f mv) c.g (S.q c<|S.e.t c R) ev q))) λa a e=>e)) h
def Um(O:cL C){fa D e f:ao}{fd:lS}{ts:List Top}(F:rE C fa D e f fd cx b c)(g:∀p∈uu ts,BV C D p.1 p.2)(h:wc C cx ts c=true)(i:a.length=b.length)(w:kI C n ts (a++gO (cx.f.length-a.length) .q) σ (λj l d=>match j with|.e=>Q .t d|.f v=>Q v d)):gw C (n+1) (.ref fa) a σ Q:=Ul O F i λS k=>Dt O F g h k S w
end
section
variable{X:ao->Prop}{s:az}
def np{xs:Array am}(e:bd b φ h l xs.toList):xs.size=l.length:=e.f.symm
def mA(R:bA C X φ σ s.heap)(a:aT σ r=aa o)(e:VR (aM X φ) φ s.heap (.f r) x):∃p,φ r=aa p/\x=.ref p.1/\OR C (aM X φ) φ s.heap o p:=(R.q a).elim λp h=>(bV p h.1 (qF h.1 e) h.2)
def Ww(O:cL C)(h:aT σ r=aa (.g c g))(d:C.h c=aa k)(i:lV C.K (.ref k.e) a=aa (aa<|.ref f))(j:isFn C.K (.ref f)=true)(l:a∉k.f)(n:oU C.K (.ref f)=true):MethAt C σ (.f r) a (.ref f):=by refine⟨n,λA X φ s w x Q E G R ev q=>?_⟩;obtain⟨p,y,rfl,z,o,m,b,t,u,B,v⟩:=mA R h ev;replace b:=d▸b;cases b;have e:=O.f c k d;refine method_fn (R.K O.e) (vS t u) (GD e.e).1 (GD e.e).2 i (beq_iff_eq.mp j) ?_ (q s.toks);show(lookIn a<|xq o m).map _=_;refine af (lookIn_dict ..)<|af (v.g l) ?_;rfl
def Kv{id:String}(d:aT σ r=aa (.e l))(f:rg "list" b id)(g:rq (.builtin id)=pure (.type "method_descriptor")):MethAt C σ (.f r) b (.builtin id):=by refine⟨rfl,λA X φ s h i Q E G R ev q=>?_⟩;obtain⟨p,j,rfl,k,m,c,n⟩:=mA R d ev;exact GR (aC _ c rfl) F.plainAttrs_list f g (λa e=>by cases e;exact(aC _ c rfl))<|q s.toks
noncomputable def CA(o:O):Bool:=O.casesOn (motive:=λa=>Bool) o (λa=>false) (λa=>true) (λa=>true) (λa=>true) λa a=>false
def IJ{K:Type}[DecidableEq K]{c:eD}{w:dp}{d:rd c w K}{a:ao}{f:List (K×am)}(e:s.heap.DictOf d a f):s.TypeIs (.ref a) "dict"/\∃o,s.heap.get? a=aa o/\o.dict=ae:=by exact⟨e.typeIs,(fQ e λo b b g h b=>(aC o g h.2.1))⟩
def Tu{K:Type}[DecidableEq K]{c:eD}{w:dp}{d:xg c w K}{a:ao}{f:List (K×ao×am)}(e:s.heap.DictOfH d a f):s.TypeIs (.ref a) "dict"/\∃o,s.heap.get? a=aa o/\o.dict=ae:=by exact⟨e.typeIs,(fQ e λo b b g h b=>(aC o g h.2.1))⟩
def Tv(R:bA C X φ σ s.heap){o:O}(i:aT σ r=aa o)(b:CA o=true)(j:VR (aM X φ) φ s.heap (.f r) x):∃a,x=.ref a/\s.TypeIs (.ref a) "dict"/\∃o,s.heap.get? a=aa o/\o.dict=ae:=by refine cz (mA R i j) λp n k e=>?_;subst k;cases o with|e l=>exact dK (b:false=true)|g c v=>exact dK (b:false=true)|f m=>exact e.elim λd e=>⟨_,rfl,IJ e.1⟩|h m=>exact e.elim λd e=>⟨_,rfl,IJ e.1⟩|p m=>exact e.elim λd e=>⟨_,rfl,Tu e.1⟩
def vX{r:br}{o:O}{c:ah}{id:String}(d:aT σ r=aa o)(f:CA o=true)(g:rg "dict" c id)(h:rq (.builtin id)=pure (.type "method_descriptor")):MethAt C σ (.f r) c (.builtin id):=by refine⟨rfl,λA X φ s j k Q E G R ev q=>?_⟩;refine cz (Tv R d f ev) λp i a b=>?_;subst i;exact GR a F.plainAttrs_dict g h (λa e=>Bh e▸b)<|q s.toks
def iE(e:bd b φ h [u] a):∃x,a=[x]/\VR b φ h u x:=by refine dA e λx g c d f=>?_;subst c;subst f;exact(aC x rfl d)
def oy(e:bd b φ h [u,w] a):∃x y,a=[x,y]/\VR b φ h u x/\VR b φ h w y:=by obtain⟨x,f,rfl,c,y,g,rfl,d,rfl⟩:=e;exact(cp x y rfl c d)
def aav(e:bd b φ h [u,w,z] a):∃x y t,a=[x,y,t]/\VR b φ h u x/\VR b φ h w y/\VR b φ h z t:=by obtain⟨x,g,rfl,c,y,i,rfl,d,t,ts,rfl,f,rfl⟩:=e;exact(dO x y t rfl c d f)
def o9(c:aT σ r=aa (.e l))(d:l.length<=cN)(q:Q .t (bi σ r<|.e<|l++[v])):aZ C n (.builtin "list.append") [.f r,v] σ Q:=by intro A X φ s z G R ev;refine dA (oy ev) λx y e f g=>?_;subst e;obtain⟨p,h,rfl,B,k,i,a⟩:=mA R c f;refine P3 ⟨k,i⟩ (λD P j=>?_) (by refine af (np a) ?_;exact d);exact cj (lF (p:=p) j) λm t=>aV P λu w=>a_.g R h m t (o:=.e<|l++[v]) (λb=>(c_ _ u w<|uD.symm▸(bd.e b _ _ a).g (bd.J<|VR.e b _ _ g))) (mv:=.t) (λF=>rfl) q s.toks
def Ij(i:aT σ r=aa (.e l))(j:fP σ u=aa l2)(m:l.length+l2.length<=2^24)(q:Q .t (bi σ r<|.e<|l++l2)):aZ C n (.builtin "list.extend") [.f r,u] σ Q:=by
 intro A X φ s N G R ev;refine dA (oy ev) λx y t v w=>?_;subst t;obtain⟨p,z,rfl,e,k,c,f⟩:=mA R i v;refine fQ (kC R j w) λb a B D H g=>?_;subst D;have d:e.size+a.size<=cN:=np f▸np g▸m;refine GK F.slot_list_extend (aC _ c rfl) F.entry_list_extend (F.args_list_extend_2 _ _) (AutoSeq1.list_extend_list_list_0 p.1 e k b a B ?_ (ay (bB ..) d)<|mH d) ⟨c,H,?_⟩;·delta abC;exact af (dz<|eZ.mpr d)<|af (DN ..) dR
 ·exact aV (CT c λx=>x++a) λI J=>cj (lF (p:=p)<|ka s.heap p.1<|mM λx=>x++a) λL M=>a_.g R z L M (o:=.e<|l++l2) (λh=>(c_ _ I J<|M6.symm▸(bd.e h _ _ f).g (bd.e h _ _ g))) (mv:=.t) (λP=>rfl) q s.toks
def p7(j:aT σ r=aa (.e<|l++[v]))(m:l.length<cN)(q:Q v (bi σ r<|.e l)):aZ C n (.builtin "list.pop") [.f r] σ Q:=by
 intro A X φ s L G R ev;refine aB (iE ev) λx t u=>?_;subst t;obtain⟨p,w,rfl,a,k,b,c⟩:=mA R j u;have d:a.size=l.length+1:=(np c).trans bm;have f:a.size-1=l.length:=by refine af d ?_;rfl
 refine aB (c.p (i:=l.length) (v:=v)<|by refine af (sZ<|bb _) ?_;refine af (xa ..) ?_;rfl) λy g z=>?_;rw[iF,<-f]at g;refine GK F.slot_list_pop (aC _ b rfl) F.entry_list_pop (F.args_list_pop_1 _) (MeetsSeq.list_pop_last p.1 a k y g<|d▸m) ⟨b,?_⟩;refine aV (CT b λx=>x.eraseIdxIfInBounds<|a.size-1) λB D=>?_;obtain⟨H,I⟩:=lF (p:=p)<|ka s.heap p.1<|mM λx=>x.eraseIdxIfInBounds<|a.size-1;refine a_.g R w H I (o:=.e l) (λe=>(c_ _ B D ?_)) (mv:=v) (λe=>VR.e e _ _ z) q s.toks;have J:(a.eraseIdxIfInBounds<|a.size-1).toList=a.toList.take l.length:=by refine af Array.toList_eraseIdxIfInBounds<|af (List.eraseIdx_eq_take_drop_succ ..) ?_;refine af f ?_;refine af (EC<|by rw[gL,d];exact bb _) ?_;rw[hK]
 have h:=(bd.L l.length<|bd.e e _ _ c).1;rw[List.take_left' rfl]at h;exact af J h
def Xn(e:fB b φ h u x)(a:VR b φ h d y):VR b φ h (u.getD d) (x.getD y):=by cases u<;>cases x<;>first|exact a|exact e|exact e.elim
def o_(O:cL C){i:Int}(b:aT σ r=aa (.f m))(q:Q ((m i).getD .t) σ):aZ C n (.builtin "dict.get") [.f r,.e i] σ Q:=by intro A X φ s j G R ev;refine dA (oy ev) λx y c e f=>?_;subst c;obtain⟨p,g,rfl,k,a,h⟩:=mA R b e;obtain⟨t,rfl⟩:=f;exact GL F.slot_dict_get a.typeIs F.entry_dict_get (F.args_dict_get_2 _ _) (meets_dict_get (mO C.e C.w) p.1 (mP _ _ i t)<|qA O.e R g)<|aC _ a.mapOf<|a_.e R (Xn (h i) (d:=.t) (y:=.none) rfl) q _
def Ip(O:cL C)(u:aT σ r=aa (.p m))(w:kB (.h l)=aa k)(B:eW m)
  (q:match m k with|some v=>Q v σ|none=>Q d<|bi σ r<|.p<|cD m k<|aa d):aZ C n (.builtin "dict.setdefault") [.f r,.h l,d] σ Q:=by
 intro A X φ s vs G R ev
 refine fJ (aav ev) λx y z D H I i=>?_;subst D
 obtain⟨p,j,rfl,xs,f,J,h⟩:=mA R u H
 refine cz (VR.g (C:=C) w I) λa L M N=>?_;subst L
 refine mQ F.slot_dict_setdefault f.typeIs F.entry_dict_setdefault ?_<|F.args_dict_setdefault_3 _ _ _
 refine aA (m:=Fm _ _)<|aA<|BG f.typeIs<|ba ?_
 show aE _ _ (if(p.1==sysModules)=true then _ else(GO p.1 (.ref a) z>>=_)) _ _ s
 refine af (ap<|by rw[qA O.e R j];exact dR) ?_
 have P:=bu<|yn B (yh f) h
 have b:=h k
 refine aA<|Yv (knd:=tupK C) (sE G.f) N f (λU W=>ba<|aC U.2 rfl ?_) (λt h' Y ac=>ba<|aC z rfl ?_) P
 ·replace b:=W▸b
  cases c:m k with
  |none=>rw[c]at b;exact b.elim
  |some v=>rw[c]at q b;exact a_.e R b q _
 ·rw[t]at b
  cases c:m k with
  |some v=>rw[c]at b;exact b.elim
  |none=>
   rw[c]at q
   refine cj (lF (p:=p) ac) λk1 k2=>a_.g (o:=.p _) R j k1 k2 (λg=>(bV _ Y (λx e=>?_) λy=>?_)) (mv:=d) (λg=>VR.e g _ _ i) q _
   ·exact db (fi.mp e) (λe=>(J x e)) λe=>(cP.mp e).symm▸M
   ·refine af (qC ..) ?_;rw[HV _ _ _ _ t]
    exact fB.g (VR.e g _ _ i)<|(h y).e g
def Ii(O:cL C){i:Int}(f:aT σ r=aa (.f m))(g:m i=aa v)(h:eW m)(q:Q v (bi σ r<|.f<|cD m i ae)):aZ C n (.builtin "dict.pop") [.f r,.e i] σ Q:=by intro A X φ s N G R ev;refine dA (oy ev) λx y j k l=>?_;subst j;obtain⟨p,w,rfl,P,a,b⟩:=mA R f k;obtain⟨t,rfl⟩:=l;refine aB (wg g<|b i) λz d B=>mQ F.slot_dict_pop a.typeIs F.entry_dict_pop ?_<|F.args_dict_pop_2 _ _;refine aA (m:=Fm _ _)<|aA<|BG a.typeIs<|ba ?_;refine aA (m:=xf p.1<|.int i t)<|wpAny_takeOut_pairs (knd:=mO C.e C.w) (mP _ _ i t) a (λD=>aY<|D.symm.trans d) (λe U H W I J=>?_)<|bu<|yq h (tG a) b;obtain rfl:=bo<|H.symm.trans d;refine aA (m:=letGo [e.key] [e.val])<|BE<|ba<|aC e.val rfl ?_;refine cj (lF (p:=p) J) λL M=>a_.g (o:=.f _) R w L M (λc=>(aC _ I λy=>?_)) (mv:=v) (λc=>VR.e c _ _ B) q _;exact af (qC ..)<|af (MQ ..)<|fB.g (u:=ae) (o:=ae) trivial<|(b y).e c
def Su(O:cL C)(t:aT σ r=aa (.p m))(w:kB (.h l)=aa k)(B:m k=aa v)(D:eW m)(q:Q v (bi σ r<|.p<|cD m k ae)):
  aZ C n (.builtin "dict.pop") [.f r,.h l] σ Q:=by
 intro A X φ s vs G R ev
 refine dA (oy ev) λx y c H I=>?_;subst c
 obtain⟨p,J,rfl,L,b,M,d⟩:=mA R t H
 refine cz (VR.g (C:=C) w I) λa N nb P=>?_;subst N
 refine aB (wg B<|d k) λz U W=>aB (fj.mp U) λpr f c=>?_;subst c
 refine mQ F.slot_dict_pop b.typeIs F.entry_dict_pop ?_<|F.args_dict_pop_2 _ _
 refine aA (m:=Fm _ _)<|aA<|BG b.typeIs<|ba ?_
 refine v8 (id b) λo h ep Y i hd j x_ x_=>?_
 have an:h.isEmpty=false:=by
  cases au:h.isEmpty with
  |false=>rfl
  |true=>
   rw[Array.isEmpty_iff.mp au]at j
   rw[(Og.mp j.symm:L=[])]at f
   exact aY f
 refine aA (m:=dictEntries p.1)<|Hd Y hd ?_
 refine af an<|aA (m:=xf p.1<|.ref a)<|Mw (knd:=tupK C) (sE G.f) P b f (λe h' hv e' aS=>?_)<|bu<|yn D (yh b) d
 refine aA (m:=letGo [e.key] [e.val])<|BE<|ba<|aC e.val rfl ?_
 refine af hv<|cj (lF (p:=p) aS) λk1 k2=>?_
 refine a_.g (o:=.p _) R J k1 k2 (λg=>(bV _ e' (λx i=>M x (oN.mp i).1) λy=>?_)) (mv:=v) (λg=>VR.e g _ _ W) q _
 refine af (qC ..)<|af (HX ..) ?_;rw[apply_ite (dZ λx:ao×am=>x.2)]
 exact fB.g (u:=ae) (o:=ae) trivial<|(d y).e g
def Il{u:V}{l:List V}{Q:V->St->Prop}(c:fP σ u=aa l)(d:l.length<2^62)(q:Q (.e l.length) σ):aZ C n (.builtin "len") [u] σ Q:=by intro A X φ s i G R ev;refine aB (iE ev) λx e f=>?_;subst e;refine fQ (kC R c f) λb j k g h a=>?_;subst g;refine abf (gT _ h rfl _ rfl) (by rw[np a];exact(nD (kP.mpr<|bu d)<|by decide)) ?_;exact af (np a)<|a_.e R (mv:=.e l.length) ⟨_,rfl⟩ q _
def SA(a:x.length<2^62)(q:Q (.e x.length) σ):aZ C n (.builtin "len") [.p x] σ Q:=by intro A X φ s d G R ev;refine aB (iE ev) λy b c=>?_;subst b;obtain⟨t,rfl⟩:=c;exact P.len_str (Ao.mpr<|pG (hH.mpr a)<|by decide)<|a_.e R (mv:=.e x.length) ⟨_,rfl⟩ q _
def Sz(O:cL C){L:List ah}(d:aT σ r=aa (.h m))(e:L.Nodup)(f:∀x,m x≠ae↔x∈L)(g:L.length<2^62)(q:Q (.e L.length) σ):aZ C n (.builtin "len") [.f r] σ Q:=by
 intro A X φ s t G R ev;refine aB (iE ev) λx h i=>?_;subst h;obtain⟨p,j,rfl,a,b,k⟩:=mA R d i;have l:=tG b;have c:a.length=L.length:=by
  have o:(a.map (·.1)).Perm L:=by rw[List.perm_ext_iff_of_nodup l e];intro x;rw[<-f x];have:=(k x).f;rw[O4]at this;rw[<-AQ,this,wQ];simp
  simpa using o.length_eq
 refine call_len_dict (qA O.e R j) b (by refine af c ?_;exact(nD (kP.mpr<|bu g)<|by decide)) ?_;exact c.symm▸a_.e R (mv:=.e L.length) ⟨_,rfl⟩ q _
end
section
variable{C:Ctx}{n:Nat}{A:bU}{X:ao->Prop}{φ:aX}{σ:St}{s:az}
def Sx(c:(∃i,v=.e i/\b=true)\/((v=.t\/∃x,v=.p x)/\b=false))(q:Q (.g b) σ):aZ C n (.builtin "isinstance") [v,.F<|.type "int"] σ Q:=by
 intro A X φ s f G R ev;refine dA (oy ev) λx y d a e=>?_;subst d;subst e;rcases c with⟨i,rfl,rfl⟩|⟨rfl|⟨t,rfl⟩,rfl⟩;·obtain⟨t,rfl⟩:=a;exact IsiPair.int_int<|a_.e R (mv:=.g true) rfl q s.toks
 ·obtain rfl:=a;exact IsiPair.NoneType_int<|a_.e R (mv:=.g false) rfl q _
 ·obtain⟨u,rfl⟩:=a;exact IsiPair.str_int<|a_.e R (mv:=.g false) rfl q _
def SJ(q:Q (.p x) σ):aZ C n (.type "str") [.p x] σ Q:=by intro A X φ s c G R ev;refine aB (iE ev) λy a b=>?_;subst a;obtain⟨t,rfl⟩:=b;exact P.str_of_str<|a_.e R (mv:=.p x) ⟨_,rfl⟩ q s.toks
def SI(q:Q (.p "None") σ):aZ C n (.type "str") [.t] σ Q:=by intro A X φ s c G R ev;refine aB (iE ev) λy a b=>?_;subst a;subst b;exact P.str_of_none<|a_.e R (mv:=.p "None") ⟨_,rfl⟩ q _
def Ca{i:Int}{Q:V->St->Prop}(hi:i.natAbs<2^64)(q:Q (.p<|toString i) σ):aZ C n (.type "str") [.e i] σ Q:=by
 intro A X φ s vs G R ev;refine aB (iE ev) λy hz1 ex=>?_;subst hz1;obtain⟨t,rfl⟩:=ex;refine P.str_of_int ?_<|a_.e R (mv:=.p<|toString i) ⟨_,rfl⟩ q _;refine db (iG<|i.natAbs=0) (λz=>?_) λz=>?_;·refine af z ?_;decide
 ·exact aR ((E5 z).mpr hi) bl
def Sw{i:Int}(q:Q (.e i) σ):aZ C n (.type "int") [.e i] σ Q:=by intro A X φ s c G R ev;refine aB (iE ev) λy a b=>?_;subst a;obtain⟨t,rfl⟩:=b;exact call_int_int<|a_.e R (mv:=.e i) ⟨_,rfl⟩ q s.toks
def vC(c:fP σ u=aa l)(d:l.length<=cN)(q:iK l σ Q):aZ C n (.type "list") [u] σ Q:=by intro A X φ s k G R ev;refine aB (iE ev) λy e f=>?_;subst e;refine fQ (kC R c f) λb m o g h a=>?_;subst g;exact call_list_seq b (.inl rfl) h rfl rfl (λp r i j=>a_.p R i (bb _) j a q s.toks) (by refine af (np a) ?_;exact d)
def SB{a b:Int}(e:(b-a).toNat<=2^24)(q:iK (iX a b) σ Q):aZ C n (.type "list") [.L a b] σ Q:=by intro A X φ s z G R ev;refine aB (iE ev) λy c f=>?_;subst c;obtain⟨r,rfl,B,sm,t,u,v,g⟩:=f;refine call_list_range G.e g sm (rangeSize_one a b) e λD h F H j k l=>a_.p R j (bb _) k ?_ q h;rw[o0];refine cj l λm o=>?_;refine⟨by simp[iX,gL,m],λi v x d p=>?_⟩;refine aV (o i x<|by simpa using p) λw c=>?_;subst c;simp[iX,(by have:=(b_.mp d).1;simpa [iX]using this)]at d;subst d;exact⟨w,by simp⟩
def IC{E:am->az->Prop}(c:ao){T:String}(g:T="list"\/T="tuple")(h:s.heap.get? c=aa o)(i:o.cls=.type T)(j:o.data=.seq d n)(k:∀a,(∀b e,s.heap.get? b=aa e->a.get? b=aa e)->s.heap.objs.size<=a.objs.size->Q d.toList {s with heap:=a})(hsz:d.size<=cN):aE (aN f w) A (xw<|.ref c) Q E s:=qO<|wpAny_collect_seq (hsz:=hsz) c g h i j λa l m=>k a l m
def Wv(l:ao)(o:jf)(a:Array am)(n:Nat)(f:o.cls=.type "list")(j:o.data=.seq a n)(hsz:a.size<=cN):Meets (Builtin.«tuple.__new__» ⟨[.type "tuple",.ref l],[]⟩) (λt R s=>s.heap.get? l=aa o/\∀c:aO,(∀b i,s.heap.get? b=aa i->c.get? b=aa i)->s.heap.objs.size<=c.objs.size->R (.ok<|.ret<|.ref c.objs.size) {s with heap:=c.push {cls:=.type "tuple",data:=.seq a}}):=.of_wp λu w A R s h=>by obtain⟨k,g,d,m,os⟩:=s;refine cj h λe h=>?_;have x:=sub_tuple_self;have y:=init_tuple_lookup;have z:=madeHere_tuple;have p:Gm ⟨k,g,d,m,os⟩ (.ref l) "list":=(aC o e f);wp_walk using B.wpAny_loadPart' e,to p,IC (hsz:=hsz) l (.inl rfl) e f j;intro c q r;show aE _ _ (Fq a.toList.toArray>>=λv=>ret v) _ _ _;unfold Fq;refine aA<|ru ?_ (by show a.toList.toArray.size<=cN;simpa using hsz);exact ba<|aC _ rfl<|af ((show a.toList.toArray=a from rfl))<|h c q r
def vE(c:fP σ u=aa l)(d:l.length<=cN)(q:Q (.h l) σ):aZ C n (.type "tuple") [u] σ Q:=by intro A X φ s t G R ev;refine aB (iE ev) λy f g=>?_;subst f;refine fQ (kC R c g) λb h i j k a=>?_;subst j;refine callType_new F.called_tuple (rfl) (F.typeCall_tuple_1 _) (F.newCall_tuple_1 _) (λm=>F.args_object_init_2 m _) F.entry_tuple_new (Wv b _ h i rfl rfl<|by refine af (np a) ?_;exact d) ⟨k,λv p r=>⟨(aC _ (dF _ rfl) rfl),?_⟩⟩;exact a_.J R (λb o e=>dB _ _ _ _<|p b o e) r (dF _ rfl) a q s.toks
def SL(q:Q (.h l) σ):aZ C n (.type "tuple") [.h l] σ Q:=by intro A X φ s g G R ev;refine aB (iE ev) λy c b=>?_;subst c;have d:=b;refine fJ b λa h k e i f j=>?_;subst e;exact call_tuple_same (gT _ f rfl _ rfl)<|a_.e R d q s.toks
def tC{b:Int}(a:AX 0 b 1=true)(q:Q (.L 0 b) σ):aZ C n (.type "range") [.e b] σ Q:=by intro A X φ s e G R ev;refine aB (iE ev) λy c d=>?_;subst c;obtain⟨t,rfl⟩:=d;exact call_range_1<|a_.f R (dB _ _) (gn _ _) (mv:=.L 0 b) ⟨_,rfl,R.F<|bb _,a,_,_,_,dF _ rfl⟩ q _
def SE{a b:Int}(c:AX a b 1=true)(q:Q (.L a b) σ):aZ C n (.type "range") [.e a,.e b] σ Q:=by intro A X φ s g G R ev;refine dA (oy ev) λy z d e f=>?_;subst d;obtain⟨t,rfl⟩:=e;obtain⟨u,rfl⟩:=f;exact call_range_2<|a_.f R (dB _ _) (gn _ _) (mv:=.L a b) ⟨_,rfl,R.F<|bb _,c,_,_,_,dF _ rfl⟩ q _
end
section
variable{X:ao->Prop}
def JF{is:List Int}{a:Array am}(e:bd b φ h (is.map .e) a.toList):a.size=is.length/\∀(i:Nat)(v:am),a[i]? =aa v->∃t,v=.int (is.getD i 0) t:=by
 refine⟨by rw[np e];simp,λi v c=>?_⟩;have f:i<is.length:=by have d:=np e;simp at d;exact(aR ((uC.mp c).1)<|bf d)
 exact(o0.mp e).2 i (.e<|is.getD i 0) v (by simp[f]) (by simpa using c)
def Mk(is:List Int):∀k,k<=is.length->preSum (λi=>is.getD i 0) k=(is.take k).sum:=by intro k;induction k with
 |zero=>intro _;simp[preSum]
 |succ k ih=>
  intro hk;rw[preSum,ih<|by exact(bu<|oO hk),List.take_add_one,Os];have hk':k<is.length:=by assumption
  simp[hk']
def SK{a:List Int}{Q:V->St->Prop}(l:fP σ u=aa (a.map .e))(m:∀i∈a,InLong i)(p:∀k,k<=a.length->InLong (a.take k).sum)(q:Q (.e a.sum) σ):aZ C n (.builtin "sum") [u] σ Q:=by
 intro A X φ s H G R ev;refine aB (iE ev) λy r t=>?_;subst r;refine fQ (kC R l t) λb v I w d x=>?_;subst w;obtain⟨f,z⟩:=JF x;refine qO<|call_sum_walk<|vn ⟨_,d,rfl,_,rfl⟩<|JA _ _ _ _ _ _ (λi=>a.getD i 0) rfl (Bn (A:=A.in1) G.e s.heap.objs.size b (bZ<|cK d) v) (⟨(bV _ (dF _ rfl) rfl rfl),⟨_,e_ _ d,rfl,_,rfl⟩⟩) (λc h=>?_) z (λj g=>⟨?_,?_⟩) λJ B L D F=>?_
 ·dsimp only;rw[eh];simp only[cB,cX,or_false]at h;rcases h with rfl|rfl;·exact bY _
  ·exact cY<|cK d
 ·have:j<a.length:=by exact(aR g<|bf f)
  simp[this];exact m _<|s0 _
 ·rw[Mk a _<|by exact(ay (jA g)<|bf f)];exact p _ (by exact(ay (jA g)<|bf f))
 ·refine af f<|af (Mk a _<|bb _) ?_;refine af Ot ?_;exact a_.f R (λc o e=>D c o (by simp;exact bZ<|cK e)<|e_ _ e) F (mv:=.e a.sum) ⟨_,rfl⟩ q B
def QM(c:Nat->Int):∀k,ri (λi j=>decide<|c i>c j) k<=k/\∀j,j<=k->c j<=c (ri (λi j=>decide<|c i>c j) k):=by intro f;induction f with
 |zero=>exact⟨bb _,λj d=>by rw[E4.mp d];exact fy _⟩
 |succ k l=>
  obtain⟨a,b⟩:=l;show(if decide (c (k+1)>c (ri (λi j=>decide<|c i>c j) k))=true then k+1 else ri (λi j=>decide<|c i>c j) k)<=k+1/\∀j,j<=k+1->c j<=c (if decide (c (k+1)>c (ri (λi j=>decide<|c i>c j) k))=true then k+1 else ri (λi j=>decide<|c i>c j) k);by_cases h:c (k+1)>c (ri (λi j=>decide<|c i>c j) k);·rw[aq<|bQ h];exact⟨bb _,λj d=>((u5 d).elim (λg=>fK (b j<|f_ g)<|nC h) λe=>e▸fy _)⟩
  ·rw[ap<|by simpa using h];refine⟨by exact(bu<|aL a<|bY _),λj d=>?_⟩;exact(u5 d).elim (λg=>b j<|f_ g) λe=>e▸sQ.mp h
def B9{is:List Int}{x:Int}{Q:V->St->Prop}(D:fP σ u=aa (is.map .e))(h:x∈is)(F:∀y∈is,y<=x)(q:Q (.e x) σ):aZ C n (.builtin "max") [u] σ Q:=by
 intro A X φ s P G R ev;refine aB (iE ev) λy g H=>?_;subst g;refine fQ (kC R D H) λb a U I d J=>?_;subst I;obtain⟨f,k⟩:=JF J;have l:0<is.length:=EN h;refine qO<|call_max_walk<|vn ⟨_,d,rfl,_,rfl⟩<|JA _ _ _ _ _ _ _ rfl (Bn (A:=A.in1) G.e s.heap.objs.size b (bZ<|cK d) a) (⟨(bV _ (dF _ rfl) rfl rfl),⟨_,e_ _ d,rfl,_,rfl⟩⟩) (λc m=>?_) ((by rw[f];exact l:0<a.size)) (CmpOf.ints_gt (λi=>is.getD i 0) k) λv W L p M N=>?_
 ·dsimp only;rw[eh];simp only[cB,cX,or_false]at m;rcases m with rfl|rfl;·exact bY _
  ·exact cY<|cK d
 ·refine aV (k _ v p) λt g=>?_;subst g;refine cj (QM (λi=>is.getD i 0)<|a.size-1) λr w=>?_;generalize ri (λi j=>decide<|is.getD i 0>is.getD j 0) (a.size-1)=z at r w p;have e:is.getD z 0=x:=by
   apply Aj;·simp[(aL r (aR (pp<|f.symm▸l)<|bf f):z<is.length)];exact F _<|s0 _
   ·obtain⟨j,B,rfl⟩:=uX.mp h;simpa [B]using(w j<|OJ<|f.symm▸B)
  exact a_.f R (λc o e=>M c o (by simp;exact bZ<|cK e)<|e_ _ e) N (mv:=.e x) ⟨t,by rw[e]⟩ q L
def SC{a b:Int}(q:Q (.e<|max a b) σ):aZ C n (.builtin "max") [.e a,.e b] σ Q:=by
 intro A X φ s j G R ev;refine dA (oy ev) λy z f g i=>?_;subst f;obtain⟨t,rfl⟩:=g;obtain⟨u,rfl⟩:=i;refine qO<|max_two_ints G.e λk c d e=>?_;by_cases h:b>a;·rw[aq h];rw[NB<|nC h]at q;exact a_.f R d e (mv:=.e b) ⟨_,rfl⟩ q c
 ·rw[ap h];rw[Al<|sQ.mp h]at q;exact a_.f R d e (mv:=.e a) ⟨_,rfl⟩ q c
def Im{a b:Int}(q:Q (.e<|min a b) σ):aZ C n (.builtin "min") [.e a,.e b] σ Q:=by
 intro A X φ s j G R ev;refine dA (oy ev) λy z f g i=>?_;subst f;obtain⟨t,rfl⟩:=g;obtain⟨u,rfl⟩:=i;refine qO<|min_two_ints G.e λk c d e=>?_;by_cases h:b<a;·rw[aq h];rw[Int.min_eq_right<|nC h]at q;exact a_.f R d e (mv:=.e b) ⟨_,rfl⟩ q c
 ·rw[ap h];rw[NC<|sQ.mp h]at q;exact a_.f R d e (mv:=.e a) ⟨_,rfl⟩ q c
end
section
open PyProof.Rows (IntsAre seqObj sortedHeap)
variable{X:ao->Prop}
def Me(R:bA C X φ σ s.heap)(d:ns.length<64)
  (k:∀{A:bU}{P:List am->az->Prop},A.handled=ae->(∀(f:aO)(g:Nat)(a:List am),(∀b o,s.heap.get? b=aa o->f.get? b=aa o)->s.heap.objs.size<=f.objs.size->va a ns->P a {s with heap:=f,toks:=g})->aE (aN C.e C.w) A (xw x) P bx s)
  (u:A.handled=ae)(q:∀h:List Int,h.Perm ns->h.Pairwise (·<= ·)->Q (.y<|h.map .e) σ):
  aE (aN C.e C.w) A (fM (.builtin "sorted") [x]) (a_ C X φ s Q) bx s:=by
 apply Fs Fg Fh Ff<|Fd _
 unfold Builtin.«sorted»
 refine aA (m:=GM "sorted" 1 1 _)<|ba ?_
 refine aA<|k (A:=A.in1) u λc g a l i n=>?_
 have p:a.length=ns.length:=by
  clear l i k q d
  induction n with
  |nil=>rfl
  |cons _ _ _ v=>simp[v]
 refine aA<|tn ?_ (by rw[bX];exact(bu<|aR (aL (bf p) d) bl))
 have j:(c.push<|fV "list" a.toArray 0).get? c.objs.size=aa (fV "list" a.toArray 0):=dF _ rfl
 refine aA<|dS<|mQ Fi (aC _ j rfl) Fe (OZ j n (by exact(aL (bf p) d)) λout w y z B=>(aC _ rfl ?_))<|Fc _
 refine ba ⟨_,rfl,?_⟩
 refine aV (O1 j (out:=out)) λe D=>?_
 have F:∀b o,s.heap.get? b=aa o->(sortedHeap (c.push<|fV "list" a.toArray 0) c.objs.size a out).get? b=aa o:=by
  intro b o r
  have t:=aR (cK r) i
  refine af (O2 (bZ t)<|by rw[eh];exact cY t) ?_
  exact dB _ _ _ _<|l b o r
 exact a_.p R F i D (HR y) (.inl<|q w z B) g
def Iq(e:fP σ u=aa (is.map .e))(c:is.length<64)(q:∀a:List Int,a.Perm is->a.Pairwise (·<= ·)->Q (.y<|a.map .e) σ):aZ C n (.builtin "sorted") [u] σ Q:=by intro A X φ s p G R ev;refine aB (iE ev) λy f g=>?_;subst f;refine fQ (kC R e g) λb h r i j d=>?_;subst i;refine Me R c (λt k=>IC b (.inl rfl) j rfl rfl (λl m o=>k l s.toks h.toList m o<|vT d)<|by rw[np d,bX];simp;exact(bu<|aR c bl)) G.e q
def B'(O:cL C){L:List Int}(B:aT σ r=aa (.f m))(D:L.length<64)(F:∀k,m k≠ae->k∈L)(q:∀a:List Int,a.Pairwise (·< ·)->(∀x,x∈a↔m x≠ae)->Q (.y<|a.map .e) σ):aZ C n (.builtin "sorted") [.f r] σ Q:=by
 intro A X φ s vs G R ev;refine aB (iE ev) λx e H=>?_;subst e;obtain⟨p,c,rfl,d,g,I⟩:=mA R B H;have j:=tG g;have l:∀k,k∈d.map (·.1)↔m k≠ae:=by intro k;have:=(I k).f;rw[O4]at this;rw[<-AQ,this,wQ];simp
 have o:d.length<64:=by have:(d.map (·.1)).length<=L.length:=yQ j λk f=>F k<|(l k).mp f;simp at this;exact(aL this D)
 obtain⟨ep,J⟩:=g.dictAt;refine Me (ns:=d.map (·.1)) R (by simpa using o) (λ{A P}M N=>?_) G.e λa c U=>q a (Mi U<|c.nodup_iff.mpr j) λx=>by rw[<-l x];exact c.mem_iff
 refine qO<|kdu_collect (kdl_dict (knd:=mO C.e C.w)<|qA O.e R c) M J (by refine af bX ?_;exact(bu<|aR o bl)) λu W Y f hi hz=>N u W Y.toList f hz ?_;refine cj hi λi1 i2=>vT (b:=λx_=>False) (φ:=φ) (h:=u) ?_;rw[o0];refine⟨by simp[i1],λi v y w h2=>?_⟩;refine fq (i2 i y<|by simpa using h2) λk z aK aS=>?_;refine aV (Gy aS) λt e=>?_;subst e;simp[aK]at w;subst w;exact⟨t,rfl⟩
end
section
variable{X:ao->Prop}
def Wx{id:String}(c:rg "str" b id)(d:rq (.builtin id)=pure (.type "method_descriptor")):MethAt C σ (.p x) b (.builtin id):=by refine⟨rfl,λA X φ s f g Q E G R ev q=>?_⟩;obtain⟨t,rfl⟩:=ev;exact GR (By _ _ _) F.plainAttrs_str c d (λa e=>by cases e)<|q s.toks
def Sy(q:Q (.g<|x.length>0&&x.cps.all Gw) σ):aZ C n (.builtin "str.isspace") [.p x] σ Q:=by intro A X φ s c G R ev;refine aB (iE ev) λy a b=>?_;subst a;obtain⟨t,rfl⟩:=b;exact call_gives F.slot_str_isspace (By _ _ _) F.entry_str_isspace (F.args_str_isspace_1 _) (gives_str_isspace x t)<|a_.e R (mv:=.g<|x.length>0&&x.cps.all Gw) rfl q s.toks
def Ik{i:Int}(a:vh x=aa i)(b:x.length<=640)(q:Q (.e i) σ):aZ C n (.type "int") [.p x] σ Q:=by intro A X φ s e G R ev;refine aB (iE ev) λy c d=>?_;subst c;obtain⟨t,rfl⟩:=d;exact KIN.call_text a b<|a_.e R (mv:=.e i) ⟨_,rfl⟩ q _
theorem MB:∀{b:List V}{a:List kf},lG b=aa a->b.length=a.length|[],a,h=>aQ lO (bo h:[]=a)|v::b,a,h=>by refine aB (jD h) λd f h=>aB (fj.mp h) λg c e=>?_;subst e;exact aQ oR<|MB c
def Sv(O:cL C)(B:fP σ u=aa l)(h:iL v d)(c:q6 l ds)(f:j<ds.length)(D:dI ds[j] d=true)(H:∀m(a:m<ds.length),m<j->dI ds[m] d=false)(I:l.length<2^62)(q:Q (.e j) σ):aZ C n (.builtin "list.index") [u,v] σ Q:=by
 intro A X φ s vs G R ev;refine dA (oy ev) λx y J L M=>?_;subst J;refine fQ (kC R B L) λb e k N i P=>?_;subst N;obtain⟨as,o⟩:=bd.q _ _ _ P c.1;obtain⟨bs,U⟩:=VR.f _ _ _ M h.1;have W:=G.g;have hc:k_=9900:=rfl;have p:=SeqAt.readsAll_map ds _ _ c.2.1 o;have g:e.size=ds.length:=by have:=aQ lO p;simpa using this
 have r:∀m(a:m<ds.length),Gg s.heap (e[m]'(by exact(aR a<|bf g.symm)))=ds[m]:=by
  intro m a;have:(e.toList.map<|Gg s.heap)[m]? =ds[m]? :=by rw[p]
  simp[a,(by exact(aR a<|bf g.symm):m<e.size)]at this;exact this
 have Y:l.length=ds.length:=MB c.1;refine GK F.slot_list_index (aC _ i rfl) F.entry_list_index (F.args_list_index_2 _ _) (SeqAt.list_indexAt b e k ae #[] y (λz=>dI (Gg s.heap z) d) j (by exact(aR f<|bf g.symm)) (by exact(nD (kP.mpr<|bu<|bj (aR f<|bf Y.symm) I)<|by decide)) (by refine af (r j f) ?_;exact D) (λm a t=>by refine af (r m<|by exact(bj t f)) ?_;exact H m _ t)) ⟨i,λz hz prog w E Q hq=>SeqAt.items_eqAt (prog:=prog) (w:=w) o U c.2.1 h.2.1 (by have:=c.2.2;exact(aL (fL (dr (bu<|aL (bB ..) W) _)<|ay (lQ ..) this) bl)) z hz E Q hq,?_⟩;exact a_.e R (mv:=.e j) ⟨_,rfl⟩ q _
end
noncomputable def R6:Ss:=(.e (.e (.e 1)<|.Z (.t .e (.j (.e 0)<|.p 1)<|.y "-") (.a (.e 0)<|.p 1)<|.e 0)<|.e (.g (.c (.l<|.o .t .y (.p 0) (.f 3<|.e (.e 1) .f)<|.Y 13)<|.t .f (.b (.e 2) (.e 1)<|.t .g (.e 2)<|.y "0123456789")<|.N .f) (.e (.h .L) .f) .f)<|.e (.h<|.f 8<|.e (.e 0) .f) .f)
noncomputable def Q_:Ss:=(.e (.e (.g 4 0<|.e 0)<|.e 1) .f)
noncomputable def Rb:Ss:=(.e (.g (.t .e (.f 3<|.e (.e 2) .f)<|.p 0) (.e (.e (.e 3)<|.f 14<|.e (.e 1) .f)<|.e (.h<|.Z (.t .q (.e 3) .L) .L<|.J .f (.e 3)<|.h 4 0<|.e 0) .f) .f)<|.e (.g (.c (.t .p .L<|.e 2)<|.t .g (.F<|.e (.e 1)<|.e (.f 3<|.e (.e 2) .f) .f)<|.F<|.e (.F<|.e (.y "add")<|.e (.p 2) .f)<|.e (.F<|.e (.y "mul")<|.e (.p 2) .f)<|.e (.F<|.e (.y "neg")<|.e (.p 1) .f) .f) (.e (.h .L) .f) .f)<|.e (.g (.t .p (.y "clash")<|.e 2) (.e (.h<|.y "clash") .f) .f)<|.e (.g (.t .e (.e 1)<|.y "neg") (.e (.h<|.J .f (.u<|.q (.e 2)<|.p 0)<|.h 4 0<|.e 0) .f) .f)<|.e (.h<|.J .f (.Z (.t .e (.e 1)<|.y "add") (.J .e (.q (.e 2)<|.p 0)<|.q (.e 2)<|.p 1)<|.J .g (.q (.e 2)<|.p 0)<|.q (.e 2)<|.p 1)<|.h 4 0<|.e 0) .f)
noncomputable def Ra:Ss:=(.e (.g (.c (.t .q (.e 1) .L)<|.t .e (.e 1)<|.e 2) (.e (.h<|.e 2) .f) .f)<|.e (.h<|.Z (.t .q (.e 2) .L) (.e 1)<|.y "clash") .f)
noncomputable def RC:Ss:=(.e (.h<|.Z (.t .p .L<|.e 2) .L<|.J .e (.p 1)<|.f 10<|.e (.J .e (.e 2)<|.N<|.e (.p 0) .f) .f) .f)
noncomputable def RB:Ss:=(.e (.g (.c (.t .q (.e 1) .L)<|.t .q (.e 2) .L) (.e (.h<|.Z (.t .q (.e 1) .L) (.e 2)<|.e 1) .f) .f)<|.e (.h<|.f 11<|.e (.e 1)<|.e (.e 2) .f) .f)
noncomputable def RD:Ss:=(.e (.h<|.Z (.t .p .L<|.e 2) .L<|.J .e (.p 1)<|.f 12<|.e (.e 2) .f) .f)
noncomputable def Rw:Ss:=(.e (.e (.g 3 0<|.e 0)<|.e 1)<|.e (.e (.g 3 1<|.e 0)<|.e 2)<|.e (.e (.g 3 2<|.e 0)<|.d .i)<|.e (.e (.g 3 3<|.e 0)<|.d .s)<|.e (.e (.g 3 4<|.e 0)<|.h 0 7<|.e 1) .f)
noncomputable def Ry:Ss:=(.e (.g (.t .f (.h 3 4<|.e 0)<|.h 0 7<|.h 3 0<|.e 0) (.e (.p [(.g 3 2<|.e 0),(.g 3 4<|.e 0)]<|.F<|.e (.d .i)<|.e (.h 0 7<|.h 3 0<|.e 0) .f) .f) .f) .f)
noncomputable def RA:Ss:=(.e (.f<|.g 9 (.e 0) .f)<|.e (.h<|.g 4 (.h 3 2<|.e 0)<|.e (.g 24 (.h 3 0<|.e 0)<|.e (.e 1) .f) .f) .f)
noncomputable def Rs:Ss:=(.e (.f<|.g 9 (.e 0) .f)<|.e (.e (.e 1)<|.d .i)<|.e (.q 2 (.f 1<|.e (.h 3 2<|.e 0) .f)<|.e (.e (.e 3)<|.g 24 (.h 3 0<|.e 0)<|.e (.e 2) .f)<|.e (.e (.f (.e 1)<|.e 3)<|.g 8 (.h 3 1<|.e 0)<|.e (.g 4 (.e 1)<|.e (.e 3) .f)<|.e (.q (.h 3 2<|.e 0)<|.e 2) .f) .f)<|.e (.e (.g 3 2<|.e 0)<|.e 1) .f)
noncomputable def Rx:Ss:=(.e (.e (.e 2)<|.g 4 (.h 3 2<|.e 0)<|.e (.e 1) .f)<|.e (.q 3 (.g 35 (.h 3 0<|.e 0)<|.e (.e 1) .f)<|.e (.e (.e 4)<|.T (.g 4 (.h 3 2<|.e 0)<|.e (.e 5) .f)<|.a (.e 3)<|.p 1)<|.e (.e (.e 2)<|.g 8 (.h 3 1<|.e 0)<|.e (.e 2)<|.e (.g 7 (.h 3 1<|.e 0)<|.e (.q (.e 3)<|.p 0)<|.e (.e 4) .f) .f) .f)<|.e (.h<|.e 2) .f)
noncomputable def Rz:Ss:=(.e (.f<|.g 11 (.e 0) .f)<|.e (.e (.e 1)<|.f 4<|.e (.g 27 (.h 3 0<|.e 0) .f) .f)<|.e (.e (.e 2)<|.n<|.e 1)<|.e (.e (.e 3)<|.p 0)<|.e (.t (.t .t (.e 3)<|.f 3<|.e (.e 1) .f)<|.e (.p [(.e 4),(.e 3)]<|.F<|.e (.q (.e 1)<|.e 3)<|.e (.J .e (.e 3)<|.p 1) .f)<|.e (.f<|.g 2 (.e 2)<|.e (.e 4) .f)<|.e (.e (.e 5)<|.g 12 (.e 0)<|.e (.e 4) .f)<|.e (.g (.t .f (.e 5)<|.g 4 (.h 3 2<|.e 0)<|.e (.e 4) .f) (.e (.e (.f (.h 3 2<|.e 0)<|.e 4)<|.e 5)<|.e (.q 6 (.g 36 (.h 3 0<|.e 0)<|.e (.e 4) .f)<|.e (.e (.e 7)<|.g 24 (.h 3 0<|.e 0)<|.e (.e 6) .f)<|.e (.g (.t .g (.e 7)<|.e 2) (.e (.e (.f (.e 2)<|.e 7)<|.U true)<|.e (.f<|.g 0 (.e 1)<|.e (.e 7) .f) .f) .f) .f) .f) .f) .f) .f)
noncomputable def Rt:Ss:=(.e (.f<|.g 9 (.e 0) .f)<|.e (.h<|.b (.e 1) (.g 27 (.h 3 0<|.e 0) .f)<|.t .e (.g 4 (.h 3 2<|.e 0)<|.e (.e 1) .f)<|.y "clash") .f)
noncomputable def Ru:Ss:=(.e (.e (.e 1)<|.p 0)<|.e (.q 2 (.g 27 (.h 3 0<|.e 0) .f)<|.e (.e (.e 3)<|.g 10 (.e 0)<|.e (.e 2) .f)<|.e (.g (.k (.f 7<|.e (.e 3)<|.e (.Y 8) .f)<|.t .t (.e 3)<|.J .p (.p 10)<|.Y 13) (.e (.e (.e 4)<|.g 31 (.h 3 0<|.e 0)<|.e (.F<|.e (.f 9<|.e (.e 3) .f) .f) .f)<|.e (.g (.l<|.g 33 (.h 3 0<|.e 0)<|.e (.e 2)<|.e (.e 4) .f) (.e (.e (.e 5)<|.m "fold"<|.f 3<|.e (.h 3 3<|.e 0) .f)<|.e (.e (.f (.h 3 3<|.e 0)<|.e 5)<|.F<|.e (.g 22 (.h 0 0<|.h 3 0<|.e 0)<|.e (.e 2) .f)<|.e (.F<|.e (.f 9<|.e (.e 3) .f) .f) .f)<|.e (.f<|.g 25 (.h 3 0<|.e 0)<|.e (.e 2)<|.e (.e 4)<|.e (.F<|.e (.y "told")<|.e (.e 5) .f) .f)<|.e (.e (.e 1)<|.J .e (.e 1)<|.p 1) .f) .f) .f) .f) .f)<|.e (.f<|.g 13 (.h 3 0<|.e 0) .f)<|.e (.f<|.g 13 (.e 0) .f)<|.e (.h<|.e 1) .f)
noncomputable def RT:Ss:=(.e (.h<|.k (.t .f (.e 0)<|.y "")<|.t .e (.b (.e 1) (.e 0)<|.c (.g 6 (.e 1) .f)<|.t .p (.e 1)<|.y "()[]{},:")<|.N .f) .f)
noncomputable def Q2:Ss:=(.e (.e (.g 1 0<|.e 0)<|.N .f)<|.e (.e (.g 1 1<|.e 0)<|.d .t)<|.e (.e (.g 1 2<|.e 0)<|.N .f)<|.e (.e (.g 1 3<|.e 0)<|.N .f) .f)
noncomputable def Q6:Ss:=(.e (.h<|.f 3<|.e (.h 1 0<|.e 0) .f) .f)
noncomputable def Q8:Ss:=(.e (.e (.e 3)<|.J .e (.F<|.e (.e 1) .f)<|.f 5<|.e (.e 2) .f)<|.e (.g (.t .p (.e 3)<|.h 1 1<|.e 0) (.e (.h<|.q (.h 1 1<|.e 0)<|.e 3) .f) .f)<|.e (.f<|.g 18 (.e 0)<|.e (.e 1) .f)<|.e (.q 4 (.a (.e 3)<|.p 1)<|.e (.g (.l<|.o .y .t (.p 0) (.e 4)<|.f 3<|.e (.h 1 0<|.e 0) .f) (.e .N .f) .f) .f)<|.e (.e (.f (.h 1 1<|.e 0)<|.e 3)<|.f 3<|.e (.h 1 0<|.e 0) .f)<|.e (.f<|.g 0 (.h 1 0<|.e 0)<|.e (.e 3) .f)<|.e (.f<|.g 0 (.h 1 2<|.e 0)<|.e (.J .e (.p 1)<|.f 12<|.e (.T (.q (.h 1 2<|.e 0)<|.e 5)<|.a (.e 3)<|.p 1) .f) .f)<|.e (.f<|.g 0 (.h 1 3<|.e 0)<|.e (.J .e (.p 1)<|.f 10<|.e (.J .e (.T (.q (.h 1 3<|.e 0)<|.e 5)<|.a (.e 3)<|.p 1)<|.N<|.e (.p 0) .f) .f) .f)<|.e (.h<|.J .h (.f 3<|.e (.h 1 0<|.e 0) .f)<|.p 1) .f)
noncomputable def Q5:Ss:=(.e (.g (.c (.l<|.f 15<|.e (.e 1) .f)<|.t .e (.q (.e 1)<|.p 0)<|.y "?") (.e .N .f) .f) .f)
noncomputable def Q1:Ss:=(.e (.t (.t .h (.f 3<|.e (.h 1 0<|.e 0) .f)<|.f 10<|.e (.e 1)<|.e (.p 0) .f)<|.e (.f<|.g 2 (.h 1 1<|.e 0)<|.e (.g 2 (.h 1 0<|.e 0) .f) .f)<|.e (.f<|.g 2 (.h 1 2<|.e 0) .f)<|.e (.f<|.g 2 (.h 1 3<|.e 0) .f) .f) .f)
noncomputable def Q4:Ss:=(.e (.h<|.q (.q (.h 1 0<|.e 0)<|.e 1)<|.p 0) .f)
noncomputable def Q3:Ss:=(.e (.h<|.a (.q (.h 1 0<|.e 0)<|.e 1)<|.p 1) .f)
noncomputable def Q9:Ss:=(.e (.p [(.e 2),(.e 3)]<|.F<|.e (.r (.e 1)<|.U true)<|.e (.N<|.e (.e 1) .f) .f)<|.e (.t (.t .h (.f 3<|.e (.e 3) .f)<|.p 0)<|.e (.q 4 (.g 21 (.e 0)<|.e (.g 2 (.e 3) .f) .f)<|.e (.g (.t .g (.e 4)<|.e 2) (.e (.e (.f (.e 2)<|.e 4)<|.U true)<|.e (.f<|.g 0 (.e 3)<|.e (.e 4) .f) .f) .f) .f) .f)<|.e (.e (.e 5)<|.d .i)<|.e (.q 6 (.f 1<|.e (.e 2) .f)<|.e (.e (.f (.e 5)<|.e 6)<|.J .e (.F<|.e (.g 20 (.e 0)<|.e (.e 6) .f) .f)<|.f 5<|.e (.T (.q (.e 5)<|.e 7)<|.g 21 (.e 0)<|.e (.e 6) .f) .f) .f)<|.e (.h<|.q (.e 5)<|.e 1) .f)
noncomputable def RM:Ss:=(.e (.e (.g 2 0<|.e 0)<|.N .f)<|.e (.e (.g 2 1<|.e 0)<|.N .f)<|.e (.e (.g 2 2<|.e 0)<|.N .f) .f)
noncomputable def RN:Ss:=(.e (.f<|.g 0 (.h 2 0<|.e 0)<|.e (.f 3<|.e (.h 2 0<|.e 0) .f) .f)<|.e (.f<|.g 0 (.h 2 1<|.e 0)<|.e (.N<|.e (.f 3<|.e (.h 2 1<|.e 0) .f) .f) .f)<|.e (.h<|.J .h (.f 3<|.e (.h 2 0<|.e 0) .f)<|.p 1) .f)
noncomputable def RS:Ss:=(.e (.h<|.f 3<|.e (.h 2 0<|.e 0) .f) .f)
noncomputable def RL:Ss:=(.e (.t (.t .f (.q (.h 2 0<|.e 0)<|.e 1)<|.e 1)<|.e (.e (.e 1)<|.q (.h 2 0<|.e 0)<|.e 1) .f)<|.e (.h<|.e 1) .f)
noncomputable def RQ:Ss:=(.e (.p [(.e 3),(.e 4)]<|.f 1<|.e (.N<|.e (.g 24 (.e 0)<|.e (.e 1) .f)<|.e (.g 24 (.e 0)<|.e (.e 2) .f) .f) .f)<|.e (.g (.t .e (.e 3)<|.e 4) (.e (.h .L) .f) .f)<|.e (.e (.f (.h 2 0<|.e 0)<|.e 4)<|.e 3)<|.e (.f<|.g 1 (.q (.h 2 1<|.e 0)<|.e 3)<|.e (.q (.h 2 1<|.e 0)<|.e 4) .f)<|.e (.f<|.g 0 (.h 2 2<|.e 0)<|.e (.F<|.e (.e 3)<|.e (.e 4) .f) .f)<|.e (.h<|.F<|.e (.e 3)<|.e (.e 4) .f) .f)
noncomputable def RO:Ss:=(.e (.h<|.f 1<|.e (.q (.h 2 1<|.e 0)<|.g 24 (.e 0)<|.e (.e 1) .f) .f) .f)
noncomputable def RJ:Ss:=(.e (.h<|.b (.e 1) (.f 6<|.e (.f 3<|.e (.h 2 0<|.e 0) .f) .f)<|.t .e (.q (.h 2 0<|.e 0)<|.e 1)<|.e 1) .f)
noncomputable def RI:Ss:=(.e (.t (.t .h (.f 3<|.e (.h 2 2<|.e 0) .f)<|.f 10<|.e (.e 1)<|.e (.p 0) .f)<|.e (.p [(.e 2),(.e 3)]<|.g 2 (.h 2 2<|.e 0) .f)<|.e (.e (.f (.h 2 0<|.e 0)<|.e 3)<|.e 3)<|.e (.J (.q (.h 2 1<|.e 0)<|.e 2)<|.J .h (.f 3<|.e (.q (.h 2 1<|.e 0)<|.e 2) .f)<|.f 3<|.e (.q (.h 2 1<|.e 0)<|.e 3) .f) .f) .f)
noncomputable def RK:Ss:=(.e (.e (.e 1)<|.f 10<|.e (.e 1)<|.e (.p 0) .f)<|.e (.q 2 (.f 6<|.e (.e 1)<|.e (.f 3<|.e (.h 2 0<|.e 0) .f) .f)<|.e (.g (.t .f (.g 26 (.e 0)<|.e (.e 2) .f)<|.N<|.e (.e 2) .f) (.e .N .f) .f) .f)<|.e (.J (.h 2 0<|.e 0)<|.e 1)<|.e (.J (.h 2 1<|.e 0)<|.e 1) .f)
noncomputable def Rg:Ss:=(.e (.e (.g 0 0<|.e 0)<|.f 16 .f)<|.e (.e (.g 0 1<|.e 0)<|.f 17 .f)<|.e (.e (.g 0 2<|.e 0)<|.N .f)<|.e (.e (.g 0 3<|.e 0)<|.N .f)<|.e (.e (.g 0 4<|.e 0)<|.d .t)<|.e (.e (.g 0 5<|.e 0)<|.d .i)<|.e (.e (.g 0 6<|.e 0)<|.N .f)<|.e (.e (.g 0 7<|.e 0)<|.p 0) .f)
noncomputable def Rq:Ss:=(.e (.h<|.g 16 (.h 0 0<|.e 0) .f) .f)
noncomputable def Rm:Ss:=(.e (.h<|.J .e (.F<|.e (.g 20 (.h 0 0<|.e 0)<|.e (.e 1) .f) .f)<|.f 5<|.e (.T (.g 24 (.e 0)<|.e (.e 2) .f)<|.g 21 (.h 0 0<|.e 0)<|.e (.e 1) .f) .f) .f)
noncomputable def Rc:Ss:=(.e (.e (.e 3)<|.g 17 (.h 0 0<|.e 0)<|.e (.e 1)<|.e (.e 2) .f)<|.e (.g (.t .t (.e 3)<|.g 16 (.h 0 1<|.e 0) .f) (.e (.h<|.e 3) .f) .f)<|.e (.f<|.g 23 (.h 0 1<|.e 0) .f)<|.e (.e (.f (.h 0 5<|.e 0)<|.e 3)<|.N .f)<|.e (.q 4 (.i<|.T (.g 24 (.e 0)<|.e (.e 5) .f)<|.e 2)<|.e (.f<|.g 0 (.q (.h 0 5<|.e 0)<|.e 4)<|.e (.e 3) .f) .f)<|.e (.f<|.g 32 (.e 0)<|.e (.e 3) .f)<|.e (.h<|.e 3) .f)
noncomputable def Ro:Ss:=(.e (.h<|.g 30 (.e 0)<|.e (.q (.e 1)<|.p 0)<|.e (.f 5<|.e (.T (.g 31 (.e 0)<|.e (.e 2) .f)<|.a (.e 1)<|.p 1) .f) .f) .f)
noncomputable def Ri:Ss:=(.e (.e (.e 2)<|.g 5 (.h 0 4<|.e 0)<|.e (.g 29 (.e 0)<|.e (.e 1) .f)<|.e (.e 1) .f)<|.e (.g (.t .f (.g 24 (.e 0)<|.e (.e 2) .f)<|.g 24 (.e 0)<|.e (.e 1) .f) (.e (.f<|.g 34 (.e 0)<|.e (.e 2)<|.e (.e 1)<|.e (.F<|.e (.y "like") .f) .f) .f) .f) .f)
noncomputable def Rf:Ss:=(.e (.h<|.g 24 (.h 0 1<|.e 0)<|.e (.e 1) .f) .f)
noncomputable def Rd:Ss:=(.e (.h<|.t .e (.g 24 (.e 0)<|.e (.e 1) .f)<|.g 24 (.e 0)<|.e (.e 2) .f) .f)
noncomputable def Rk:Ss:=(.e (.h<|.g 34 (.e 0)<|.e (.e 1)<|.e (.e 2)<|.e (.e 3) .f) .f)
noncomputable def Rh:Ss:=(.e (.f<|.g 0 (.h 0 2<|.e 0)<|.e (.F<|.e (.e 1)<|.e (.e 2)<|.e (.e 3) .f) .f)<|.e (.e (.e 4)<|.g 25 (.h 0 1<|.e 0)<|.e (.e 1)<|.e (.e 2) .f)<|.e (.g (.t .q (.e 4) .L) (.e (.h<|.U false) .f) .f)<|.e (.p [(.e 5),(.e 6)]<|.e 4)<|.e (.f<|.g 0 (.h 0 3<|.e 0)<|.e (.J .h (.f 3<|.e (.h 0 2<|.e 0) .f)<|.p 1) .f)<|.e (.f<|.g 1 (.h 0 6<|.e 0)<|.e (.q (.h 0 5<|.e 0)<|.e 6) .f)<|.e (.e (.f (.h 0 5<|.e 0)<|.e 5)<|.J .e (.q (.h 0 5<|.e 0)<|.e 5)<|.g 2 (.h 0 5<|.e 0)<|.e (.e 6) .f)<|.e (.h<|.U true) .f)
noncomputable def Rp:Ss:=(.e (.t (.t .h (.f 3<|.e (.h 0 6<|.e 0) .f)<|.p 0)<|.e (.f<|.g 32 (.e 0)<|.e (.g 2 (.h 0 6<|.e 0) .f) .f) .f) .f)
noncomputable def Re:Ss:=(.e (.h<|.g 27 (.h 0 1<|.e 0) .f) .f)
noncomputable def Rj:Ss:=(.e (.h<|.g 26 (.h 0 1<|.e 0)<|.e (.e 1) .f) .f)
noncomputable def Rn:Ss:=(.e (.h<|.i<|.T (.g 29 (.e 0)<|.e (.e 2) .f)<|.g 26 (.e 0)<|.e (.e 1) .f) .f)
noncomputable def Rr:Ss:=(.e (.h<|.i<|.q (.h 0 5<|.e 0)<|.g 24 (.e 0)<|.e (.e 1) .f) .f)
noncomputable def RF:Ss:=(.e (.f<|.g 0 (.h 0 9<|.e 0)<|.e (.F<|.e (.f 3<|.e (.h 0 8<|.e 0) .f)<|.e (.f 4<|.e (.h 0 6<|.e 0) .f) .f) .f) .f)
noncomputable def RE:Ss:=(.e (.g (.t .e (.f 3<|.e (.h 0 9<|.e 0) .f)<|.p 0) (.e .N .f) .f)<|.e (.p [(.e 1),(.e 2)]<|.g 2 (.h 0 9<|.e 0) .f)<|.e (.e (.g 0 7<|.e 0)<|.J .e (.h 0 7<|.e 0)<|.p 1)<|.e (.t (.t .h (.f 3<|.e (.h 0 8<|.e 0) .f)<|.e 1)<|.e (.e (.e 3)<|.g 2 (.h 0 8<|.e 0) .f)<|.e (.g (.t .e (.q (.e 3)<|.p 0)<|.y "made") (.e (.f<|.g 38 (.e 0)<|.e (.q (.e 3)<|.p 1) .f) .f)<|.e (.g (.t .e (.q (.e 3)<|.p 0)<|.y "known") (.e (.F (.h 0 4<|.e 0)<|.q (.e 3)<|.p 1) .f)<|.e (.f<|.g 39 (.e 0)<|.e (.e 3) .f) .f) .f) .f)<|.e (.e (.g 0 6<|.e 0)<|.e 2) .f)
noncomputable def RH:Ss:=(.e (.q 2 (.i<|.T (.g 24 (.e 0)<|.e (.e 3) .f)<|.g 21 (.h 0 0<|.e 0)<|.e (.e 1) .f)<|.e (.f<|.g 2 (.q (.h 0 5<|.e 0)<|.e 2) .f) .f)<|.e (.F (.h 0 5<|.e 0)<|.e 1)<|.e (.f<|.g 19 (.h 0 1<|.e 0)<|.e (.e 1) .f)<|.e (.f<|.g 19 (.h 0 0<|.e 0)<|.e (.e 1) .f)<|.e (.e (.g 0 10<|.e 0)<|.e 1) .f)
noncomputable def RG:Ss:=(.e (.p [(.e 2),(.e 3),(.e 4),(.e 5),(.e 6)]<|.e 1)<|.e (.f<|.g 2 (.h 0 2<|.e 0) .f)<|.e (.g (.t .f (.e 3)<|.e 5) (.e (.f<|.g 2 (.h 0 3<|.e 0) .f)<|.e (.f<|.g 28 (.h 0 1<|.e 0)<|.e (.J .h (.f 3<|.e (.h 2 2<|.h 0 1<|.e 0) .f)<|.p 1) .f)<|.e (.e (.f (.h 0 5<|.e 0)<|.e 3)<|.j (.q (.h 0 5<|.e 0)<|.e 3)<|.e 4)<|.e (.e (.f (.h 0 5<|.e 0)<|.e 5)<|.e 6) .f) .f) .f)
noncomputable def RY:Ss:=(.e (.e (.e 2)<|.q (.e 0)<|.y "k")<|.e (.e (.f (.e 0)<|.y "k")<|.J .e (.e 2)<|.p 1)<|.e (.g (.t .t (.e 2)<|.f 3<|.e (.q (.e 0)<|.y "cells") .f) (.e (.h<|.J .f (.q (.q (.e 0)<|.y "cells")<|.e 2)<|.e 1) .f) .f)<|.e (.h<|.J .f (.J .f (.J .e (.J .e (.J .g (.J .g (.p 3)<|.e 2)<|.e 2)<|.J .g (.p 8)<|.e 2)<|.J .g (.p 2)<|.f 3<|.e (.q (.e 0)<|.y "cells") .f)<|.p 67)<|.e 1) .f)
noncomputable def R0:Ss:=(.e (.p [(.e 2),(.e 3)]<|.F<|.e (.f 4<|.e (.f 6<|.e (.f 3<|.e (.e 0) .f) .f) .f)<|.e (.U true) .f)<|.e (.t (.e 3)<|.e (.p [(.e 3),(.e 4),(.e 5)]<|.F<|.e (.U false)<|.e (.d .t)<|.e (.f 4<|.e (.e 1) .f) .f)<|.e (.y 6 7 (.e 0)<|.e (.f<|.g 0 (.e 5)<|.e (.F<|.e (.g 5 (.e 4)<|.e (.J .e (.j (.e 7)<|.p 1)<|.f 5<|.e (.T (.q (.e 2)<|.e 12)<|.a (.e 7)<|.p 1) .f)<|.e (.e 6) .f)<|.e (.e 6) .f) .f) .f)<|.e (.L 8 9 (.e 5)<|.e (.p [(.e 10),(.e 11)]<|.f 1<|.e (.N<|.e (.q (.e 2)<|.e 8)<|.e (.q (.e 2)<|.e 9) .f) .f)<|.e (.g (.t .f (.e 10)<|.e 11) (.e (.p [(.e 2),(.e 3)]<|.F<|.e (.T (.Z (.t .e (.e 12)<|.e 11) (.e 10)<|.e 12)<|.e 2)<|.e (.U true) .f) .f) .f) .f) .f)<|.e (.h<|.e 2) .f)
noncomputable def RW:Ss:=(.e (.g (.t .h (.e 0)<|.p 0) (.e (.h<|.Z (.t .p .L<|.e 3) .L<|.J .e (.p 1)<|.Z (.t .e (.e 0)<|.p 1) (.f 12<|.e (.e 3) .f)<|.f 10<|.e (.J .e (.e 3)<|.N<|.e (.p 0) .f) .f) .f) .f)<|.e (.g (.t .e (.e 3)<|.N .f) (.e (.h<|.Z (.t .e (.e 2)<|.y "x") .L<|.J .f (.f 8<|.e (.e 2) .f)<|.e 1) .f) .f)<|.e (.g (.c (.t .p .L<|.e 3)<|.t .e (.e 2)<|.y "f") (.e (.h .L) .f) .f)<|.e (.g (.t .p (.y "clash")<|.e 3) (.e (.h<|.y "clash") .f) .f)<|.e (.g (.t .e (.e 2)<|.y "neg") (.e (.h<|.J .f (.J .h (.e 1)<|.q (.e 3)<|.p 0)<|.e 1) .f) .f)<|.e (.h<|.J .f (.Z (.t .e (.e 2)<|.y "add") (.J .e (.q (.e 3)<|.p 0)<|.q (.e 3)<|.p 1)<|.J .g (.q (.e 3)<|.p 0)<|.q (.e 3)<|.p 1)<|.e 1) .f)
noncomputable def RV:Ss:=(.e (.g (.c (.t .q (.e 1) .L)<|.t .q (.e 2) .L) (.e (.h<|.Z (.t .q (.e 1) .L) (.e 2)<|.e 1) .f) .f)<|.e (.g (.t .h (.e 0)<|.p 0) (.e (.h<|.f 11<|.e (.e 1)<|.e (.e 2) .f) .f) .f)<|.e (.h<|.Z (.t .e (.e 1)<|.e 2) (.e 1)<|.y "clash") .f)
noncomputable def R5:Ss:=(.e (.p [(.e 2),(.e 3),(.e 4)]<|.F<|.e (.d .i)<|.e (.U true)<|.e (.q (.e 0)<|.y "kind") .f)<|.e (.t (.e 3)<|.e (.e (.e 3)<|.U false)<|.e (.y 5 6 (.q (.e 0)<|.y "rows")<|.e (.e (.e 7)<|.f 26<|.e (.e 4)<|.e (.q (.e 0)<|.y "n")<|.e (.q (.e 6)<|.p 0)<|.e (.T (.g 4 (.e 2)<|.e (.q (.e 1)<|.e 8) .f)<|.a (.e 6)<|.p 1) .f)<|.e (.e (.e 7)<|.f 27<|.e (.e 4)<|.e (.g 4 (.e 2)<|.e (.q (.e 1)<|.e 5) .f)<|.e (.e 7) .f)<|.e (.g (.t .f (.e 7)<|.g 4 (.e 2)<|.e (.q (.e 1)<|.e 5) .f) (.e (.p [(.f (.e 2)<|.q (.e 1)<|.e 5),(.e 3)]<|.F<|.e (.e 7)<|.e (.U true) .f) .f) .f) .f) .f)<|.e (.h<|.e 2) .f)
noncomputable def R3:Ss:=(.e (.p [(.e 1),(.e 2),(.e 3)]<|.F<|.e (.q (.e 0)<|.y "heap")<|.e (.q (.e 0)<|.y "keeper")<|.e (.f 25<|.e (.q (.e 0)<|.y "rows")<|.e (.q (.e 0)<|.y "pairs") .f) .f)<|.e (.g (.c (.t .f (.g 16 (.e 1) .f)<|.f 3<|.e (.e 3) .f)<|.t .f (.T (.g 24 (.e 1)<|.e (.e 5) .f)<|.f 6<|.e (.f 3<|.e (.e 3) .f) .f)<|.e 3) (.e (.h<|.U false) .f) .f)<|.e (.e (.e 4)<|.f 28<|.e (.e 0)<|.e (.e 3) .f)<|.e (.g (.t .f (.T (.g 10 (.e 2)<|.e (.e 5) .f)<|.f 6<|.e (.f 3<|.e (.e 3) .f) .f)<|.T (.g 4 (.e 4)<|.e (.e 5) .f)<|.e 3) (.e (.h<|.U false) .f) .f)<|.e (.h<|.t .e (.g 14 (.e 2) .f)<|.b (.e 5) (.f 1<|.e (.e 4) .f)<|.t .e (.q (.e 4)<|.e 5)<|.y "clash") .f)
noncomputable def RX:Ss:=(.e (.p [(.e 2),(.e 3)]<|.F<|.e (.q (.e 1)<|.y "heap")<|.e (.q (.e 1)<|.y "rows") .f)<|.e (.g (.t .e (.f 24<|.e (.e 0)<|.e (.p 2) .f)<|.p 0) (.e (.p [(.e 4),(.e 5)]<|.q (.Y 23)<|.f 24<|.e (.e 0)<|.e (.p 4) .f)<|.e (.e (.e 6)<|.J .e (.F<|.e (.e 4) .f)<|.f 5<|.e (.T (.f 24<|.e (.e 0)<|.e (.f 3<|.e (.e 3) .f) .f)<|.f 6<|.e (.e 5) .f) .f)<|.e (.g (.t .e (.g 30 (.e 2)<|.e (.e 4)<|.e (.a (.e 6)<|.p 1) .f)<|.f 3<|.e (.e 3) .f) (.e (.f<|.g 0 (.e 3)<|.e (.e 6) .f) .f) .f) .f)<|.e (.e (.e 7)<|.f 24<|.e (.e 0)<|.e (.f 3<|.e (.e 3) .f) .f)<|.e (.e (.e 8)<|.f 24<|.e (.e 0)<|.e (.f 3<|.e (.e 3) .f) .f)<|.e (.f<|.g 0 (.q (.e 1)<|.y "pairs")<|.e (.F<|.e (.e 7)<|.e (.e 8) .f) .f)<|.e (.f<|.g 25 (.e 2)<|.e (.e 7)<|.e (.e 8)<|.e (.F<|.e (.y "told")<|.e (.y "t") .f) .f) .f) .f)
noncomputable def RZ:Ss:=(.e (.p [(.e 1),(.e 2)]<|.F<|.e (.f 25<|.e (.q (.e 0)<|.y "rows")<|.e (.q (.e 0)<|.y "pairs") .f)<|.e (.q (.e 0)<|.y "rows") .f)<|.e (.p [(.e 3),(.e 4)]<|.F<|.e (.f 28<|.e (.e 0)<|.e (.e 1) .f)<|.e (.N .f) .f)<|.e (.q 5 (.i<|.e 1)<|.e (.e (.e 6)<|.f 9<|.e (.g 4 (.e 3)<|.e (.e 5) .f) .f)<|.e (.g (.k (.f 7<|.e (.g 4 (.e 3)<|.e (.e 5) .f)<|.e (.Y 8) .f)<|.t .g (.F<|.e (.e 6) .f)<|.b (.q (.e 2)<|.e 8) (.f 6<|.e (.f 3<|.e (.e 2) .f) .f)<|.t .e (.q (.e 1)<|.e 8)<|.e 5) (.e (.f<|.g 0 (.e 4)<|.e (.F<|.e (.e 5)<|.e (.F<|.e (.e 6) .f) .f) .f) .f) .f) .f)<|.e (.g (.t .f (.g 15 (.q (.e 0)<|.y "keeper") .f)<|.f 3<|.e (.e 4) .f) (.e (.h<|.U false) .f) .f)<|.e (.L 5 7 (.e 4)<|.e (.g (.t .g (.e 7)<|.e 2) (.e (.f<|.g 0 (.e 2)<|.e (.e 7) .f) .f) .f)<|.e (.f<|.g 0 (.q (.e 0)<|.y "pairs")<|.e (.F<|.e (.e 5)<|.e (.g 3 (.e 2)<|.e (.e 7) .f) .f) .f) .f)<|.e (.h<|.f 29<|.e (.e 0) .f) .f)
noncomputable def RU:Ss:=(.e (.e (.e 1)<|.s ["cells","k"]<|.e (.T (.J .f (.f 8<|.e (.e 11) .f)<|.p 1000003)<|.j (.e 0)<|.p 50)<|.e (.p 0) .f)<|.e (.p [(.e 2),(.e 3),(.e 4)]<|.F<|.e (.f 18 .f)<|.e (.f 24<|.e (.e 1)<|.e (.p 3) .f)<|.e (.J .e (.p 2)<|.f 24<|.e (.e 1)<|.e (.p 6) .f) .f)<|.e (.e (.e 5)<|.s ["heap","rows","pairs","kind","n"]<|.e (.e 2)<|.e (.N .f)<|.e (.N .f)<|.e (.e 3)<|.e (.e 4) .f)<|.e (.q 6 (.F<|.e (.y "x")<|.e (.y "1")<|.e (.y "12") .f)<|.e (.f<|.g 30 (.e 2)<|.e (.e 6)<|.e (.F .f) .f)<|.e (.f<|.g 0 (.q (.e 5)<|.y "rows")<|.e (.F<|.e (.e 6) .f) .f) .f)<|.e (.q 7 (.f 6<|.e (.J .e (.p 1)<|.f 24<|.e (.e 1)<|.e (.p 2) .f) .f)<|.e (.f<|.f 30<|.e (.e 1)<|.e (.e 5) .f) .f)<|.e (.f<|.g 13 (.e 2) .f)<|.e (.p [(.e 8),(.e 9)]<|.F<|.e (.f 19<|.e (.e 2)<|.e (.q (.F<|.e (.f 20<|.e (.e 4) .f)<|.e (.f 21 .f)<|.e (.f 22 .f) .f)<|.e 3) .f)<|.e (.N .f) .f)<|.e (.e (.f (.e 5)<|.y "keeper")<|.e 8)<|.e (.g (.t .e (.f 24<|.e (.e 1)<|.e (.p 2) .f)<|.p 0) (.e (.f<|.g 13 (.e 8) .f) .f) .f)<|.e (.q 7 (.f 6<|.e (.J .e (.p 1)<|.f 24<|.e (.e 1)<|.e (.p 2) .f) .f)<|.e (.f<|.g 0 (.e 9)<|.e (.F<|.e (.f 4<|.e (.q (.e 5)<|.y "rows") .f)<|.e (.f 4<|.e (.q (.e 5)<|.y "pairs") .f) .f) .f)<|.e (.f<|.g 37 (.e 2) .f)<|.e (.q 10 (.f 6<|.e (.J .e (.p 1)<|.f 24<|.e (.e 1)<|.e (.p 2) .f) .f)<|.e (.f<|.f 30<|.e (.e 1)<|.e (.e 5) .f) .f)<|.e (.f<|.g 13 (.e 2) .f)<|.e (.g (.t .h (.f 24<|.e (.e 1)<|.e (.p 3) .f)<|.p 0) (.e (.f<|.g 13 (.e 8) .f)<|.e (.g (.l<|.f 29<|.e (.e 5) .f) (.e (.h<|.U false) .f) .f) .f) .f) .f)<|.e (.q 7 (.f 6<|.e (.J .e (.p 1)<|.f 24<|.e (.e 1)<|.e (.f 3<|.e (.e 9) .f) .f) .f)<|.e (.p [(.f (.e 5)<|.y "rows"),(.f (.e 5)<|.y "pairs")]<|.g 2 (.e 9) .f)<|.e (.f<|.g 2 (.e 2) .f) .f)<|.e (.g (.t .e (.f 24<|.e (.e 1)<|.e (.p 2) .f)<|.p 0) (.e (.f<|.f 30<|.e (.e 1)<|.e (.e 5) .f) .f) .f)<|.e (.f<|.g 13 (.e 2) .f)<|.e (.f<|.g 13 (.e 8) .f)<|.e (.h<|.k (.f 29<|.e (.e 5) .f)<|.c (.t .h (.e 3)<|.p 0)<|.f 31<|.e (.e 5) .f) .f)
noncomputable def vL:List ah:=[("enumerate":ah),("sorted":ah),("set":ah),("len":ah),("list":ah),("tuple":ah),("range":ah),("isinstance":ah),("int":ah),("str":ah),("max":ah),("min":ah),("sum":ah),("MOST_FIGURES":ah),("whole_of":ah),("is_op":ah),("Bank":ah),("Unions":ah),("Levels":ah),("Keeper":ah),("Consts":ah),("LeastSize":ah),("LeastDepth":ah),("_law_ops":ah),("_law_dip":ah),("_law_homes":ah),("_law_comes":ah),("_law_both":ah),("_law_worths":ah),("_law_is_kept":ah),("_law_deed":ah),("_law_folded_right":ah),("law":ah)]
noncomputable def Wy:List ah:=[("append":ah),("extend":ah),("pop":ah),("index":ah),("get":ah),("setdefault":ah),("isspace":ah),("of_node":ah),("joined":ah),("renewed":ah),("value":ah),("begun":ah),("reckoned":ah),("settle":ah),("clashes":ah),("fold":ah),("size":ah),("take":ah),("require":ah),("cut":ah),("op":ah),("kids":ah),("term":ah),("make":ah),("find":ah),("merge":ah),("members":ah),("classes":ah),("back":ah),("node":ah),("add":ah),("put":ah),("look_at":ah),("are_like":ah),("join":ah),("nodes_of":ah),("users":ah),("push":ah),("unmake":ah),("unjoin":ah),("__init__":ah)]
noncomputable def T0:List ah:=["bank","unions","edges","forest","known","above","waiting","backs","changes","marks","made"]
noncomputable def T1:List ah:=["nodes","numbers","weights","depths"]
noncomputable def T4:List ah:=["above","lots","merged"]
noncomputable def T6:List ah:=["heap","analysis","values","told","backs"]
noncomputable def T7:List ah:=["n"]
noncomputable def T8:List ah:=[]
noncomputable def T9:List ah:=[]
def jE:Nat->Option (List ah)|0=>aa T0|1=>aa T1|2=>aa T4|3=>aa T6|4=>aa T7|5=>aa T8|6=>aa T9|_=>ae
def Te(a:eD)(w:dp)(K:fk)(b:aO)(addrs:Nat->ao)(d:Nat->V):Ctx where
 e:=a
 w:=w
 K:=K
 f:=b
 h:=λc=>(jE c).map λf=>⟨addrs c,f⟩
 q:=λg=>vL[g]?
 p:=d
 g:=λk=>(Wy[k]?).getD xl
section
noncomputable abbrev Nd:=ah×List Nat
set_option genCtorIdx false in
inductive dH
 |g (n:Nat)
 |f (k:Nd)
 |e (kept many gone:Nat) (us:Option (List Nat))
structure Hp where
 f:List Nd
 T:List Int
 Y:List Int
 e:List Nat
 q:List (List Nat)
 Z:List (Nat×Nat)
 U:List V
 a:List V
 t:Nd->Option Nat
 g:Nat->Option (List Nat)
 F:List Nat
 h:Nat
 N:Nat
 p:List dH
 J:List (Nat×List Nat)
noncomputable abbrev Hp.a'(H:Hp)(x:List Nd):Hp:={H with f:=x}
noncomputable abbrev Hp.b1(H:Hp)(x:List Int):Hp:={H with T:=x}
noncomputable abbrev Hp.b0(H:Hp)(x:List Int):Hp:={H with Y:=x}
noncomputable abbrev Hp.a2(H:Hp)(x:List Nat):Hp:={H with e:=x}
noncomputable abbrev Hp.a5(H:Hp)(x:List (List Nat)):Hp:={H with q:=x}
noncomputable abbrev Hp.a6(H:Hp)(x:List (Nat×Nat)):Hp:={H with Z:=x}
noncomputable abbrev Hp.a4(H:Hp)(x:List V):Hp:={H with U:=x}
noncomputable abbrev Hp.a9(H:Hp)(x:List V):Hp:={H with a:=x}
noncomputable abbrev Hp.a7(H:Hp)(x:Nd->Option Nat):Hp:={H with t:=x}
noncomputable abbrev Hp.a0(H:Hp)(x:Nat->Option (List Nat)):Hp:={H with g:=x}
noncomputable abbrev Hp.L(H:Hp)(x:List Nat):Hp:={H with F:=x}
noncomputable abbrev Hp.a3(H:Hp)(x:Nat):Hp:={H with h:=x}
noncomputable abbrev Hp.a8(H:Hp)(x:Nat):Hp:={H with N:=x}
noncomputable abbrev Hp.y(H:Hp)(x:List dH):Hp:={H with p:=x}
noncomputable abbrev Hp.a1(H:Hp)(x:List (Nat×List Nat)):Hp:={H with J:=x}
set_option genInjectivity true in
inductive be
 |p (i:Nat)|e (i:Nat)|h|g (i:Nat)|f (i:Nat)|w (i:Nat)
 deriving DecidableEq
noncomputable def ai{c d:Type}[DecidableEq c](f:c->d)(a:c)(b:d):c->d:=λx=>if x=a then b else f x
def bg [DecidableEq c](f:c->d)(a:c)(b:d):ai f a b a=b:=aq rfl
def aI [DecidableEq c]{a x:c}(h:x≠a):ai f a b x=f x:=ap h
abbrev cU:=Nat->Slot
noncomputable def Sg(f:List (Option O))(d:cU):St|.e n=>(f[n]?).join.map aa|.f k=>d k
def pz(h:n<f.length):bi (Sg f d) (.e n) o=Sg (f.set n<|aa o) d:=by funext r;cases r with
 |e m=>
  delta bi Sg;by_cases e:m=n;·subst e;simp[h]
  ·have:¬(br.e m=br.e n):=λq=>e<|br.e.inj q;simp[this,dM e]
 |f k=>rfl
def i4:bi (Sg f d) (.f k) o=Sg f (ai d k<|aa<|aa o):=by funext r;cases r with
 |e m=>rfl
 |f j=>
  delta bi Sg ai;by_cases e:j=k;·subst e;simp
  ·have:¬(br.f j=br.f k):=λq=>e<|br.f.inj q;simp[this,e]
structure DP(cont:be->Option O)(r:Nat->Nat)(X:be->Nat)(R:Nat)(d:cU):Prop where
 e:∀i,X (.w i)=r i
 f:∀t o,cont t=aa o->d (X t)=aa (aa o)/\X t<R
 inj:∀t u o p,cont t=aa o->cont u=aa p->X t=X u->t=u
 h:∀k,R<=k->d k=ae
variable{cont cont':be->Option O}{r:Nat->Nat}{X:be->Nat}
def DP.q(D:DP cont r X R d){f:List (Option O)}(h:cont t=aa o):aT (Sg f d) (.f<|X t)=aa o:=by show(d<|X t).join=_;rw[(D.f t o h).1];rfl
def DP.g(D:DP cont r X R d)(f:List (Option O)):Sg f d (.f R)=ae:=D.h R<|bb _
def DP.y(D:DP cont r X R d)(h:∀t o,cont' t=aa o->cont t=aa o):DP cont' r X R d:=⟨D.e,λt o e=>D.f t o<|h t o e,λt u o p a b=>D.inj t u o p (h _ _ a)<|h _ _ b,D.h⟩
def DP.N(D:DP cont r X R d){t:be}{o o':O}(h:cont t=aa o)(c:∀u p,cont' u=aa p->(u=t/\p=o')\/(u≠t/\cont u=aa p)):DP cont' r X R (ai d (X t)<|aa<|aa o'):=by
 have f:∀u p,cont' u=aa p->∃q,cont u=aa q:=λu p e=>by
  rcases c u p e with⟨rfl,_⟩|⟨_,e⟩;·exact⟨o,h⟩
  ·exact⟨p,e⟩
 refine⟨D.e,λu p e=>?_,λu v p q a b r=>?_,λk g=>?_⟩
 ·rcases c u p e with⟨rfl,rfl⟩|⟨i,e⟩;·exact⟨bg ..,(D.f u o h).2⟩
  ·rw[aI λq=>i<|D.inj u t p o e h q];exact D.f u p e
 ·obtain⟨j,a⟩:=f u p a;obtain⟨l,b⟩:=f v q b;exact D.inj u v j l a b r
 ·rw[aI λq=>?_];·exact D.h k g
  ·have:=(D.f t o h).2;exact(dE _<|aL (ay g<|bf q) this)
def DP.a6(D:DP cont r X R d){t:be}{j:O}(m:∀i,t≠.w i)(g:∀u p,cont' u=aa p->(u=t/\p=j)\/(u≠t/\cont u=aa p)):DP cont' r (ai X t R) (R+1) (ai d R<|aa<|aa j):=by
 have h:∀u p,cont u=aa p->X u≠R:=λu p e=>bZ (D.f u p e).2;refine⟨λi=>(aI (m i).symm).trans<|D.e i,λu p e=>?_,λu v p q c f r=>?_,λk l=>?_⟩
 ·rcases g u p e with⟨rfl,rfl⟩|⟨n,e⟩;·rw[bg];exact⟨bg ..,bY _⟩
  ·rw[aI n,aI<|h u p e];exact⟨(D.f u p e).1,cY (D.f u p e).2⟩
 ·rcases g u p c with⟨a,_⟩|⟨a,c⟩<;>rcases g v q f with⟨b,_⟩|⟨b,f⟩;·exact a.trans b.symm
  ·rw[a,bg,aI b]at r;exact aD r.symm<|h v q f
  ·rw[b,bg,aI a]at r;exact aD r<|h u p c
  ·rw[aI a,aI b]at r;exact D.inj u v p q c f r
 ·rw[aI<|by exact(iJ<|oO l)];exact D.h k (by exact(bu<|oO l))
def DP.U(D:DP cont r X R d){t v:be}{o:O}(h:cont t=aa o)(n:v≠t)(j:∀i,v≠.w i)(g:∀u p,cont' u=aa p->(u=v/\p=o)\/(u≠v/\u≠t/\cont u=aa p)):DP cont' r (ai X v<|X t) R d:=by
 refine⟨λi=>(aI (j i).symm).trans<|D.e i,λu p e=>?_,λu x p q c f r=>?_,D.h⟩
 ·rcases g u p e with⟨rfl,rfl⟩|⟨k,_,e⟩;·rw[bg];exact D.f t p h
  ·rw[aI k];exact D.f u p e
 ·rcases g u p c with⟨a,_⟩|⟨a,l,c⟩<;>rcases g x q f with⟨b,_⟩|⟨b,m,f⟩;·exact a.trans b.symm
  ·rw[a,bg,aI b]at r;exact aD (D.inj t x o q h f r).symm m
  ·rw[b,bg,aI a]at r;exact aD (D.inj u t p o c h r) l
  ·rw[aI a,aI b]at r;exact D.inj u x p q c f r
def DP.Y(D:DP cont r X R d){t:be}{j:Nat}{o:O}(h:cont t=aa o)(n:be.w j≠t)(g:∀u p,cont' u=aa p->(u=.w j/\p=o)\/(u≠.w j/\u≠t/\cont u=aa p)):DP cont' (ai r j<|X t) (ai X (.w j)<|X t) R d:=by
 refine⟨λi=>?_,λu p e=>?_,λu x p q c f r=>?_,D.h⟩
 ·by_cases e:i=j;·subst e;rw[bg,bg]
  ·rw[aI e,aI λq=>e<|be.w.inj q];exact D.e i
 ·rcases g u p e with⟨rfl,rfl⟩|⟨k,_,e⟩;·rw[bg];exact D.f t p h
  ·rw[aI k];exact D.f u p e
 ·rcases g u p c with⟨a,_⟩|⟨a,l,c⟩<;>rcases g x q f with⟨b,_⟩|⟨b,m,f⟩;·exact a.trans b.symm
  ·rw[a,bg,aI b]at r;exact aD (D.inj t x o q h f r).symm m
  ·rw[b,bg,aI a]at r;exact aD (D.inj u t p o c h r) l
  ·rw[aI a,aI b]at r;exact D.inj u x p q c f r
def DP.F{j x:Nat}(D:DP cont (ai r j x) X R d)(h:cont (.w j)=ae):DP cont r (ai X (.w j)<|r j) R d:=by
 have a:∀u o,cont u=aa o->u≠.w j:=λu o e q=>by rw[q,h]at e;cases e
 refine⟨λi=>?_,λu o e=>by rw[aI<|a u o e];exact D.f u o e,λu v o p b c q=>by rw[aI<|a u o b,aI<|a v p c]at q;exact D.inj u v o p b c q,D.h⟩;by_cases e:i=j;·subst e;rw[bg]
 ·rw[aI λq=>e<|be.w.inj q,D.e i,aI e]
noncomputable def aH(l:List Nat):List V:=l.map λ(n:Nat)=>V.e n
def f5(k:Nd):List V:=.p k.1::aH k.2
def bp(k:Nd):V:=.h<|f5 k
noncomputable def gh(k:Nd):List cT:=.s k.1::k.2.map λ(n:Nat)=>cT.i n
def qg(l:List cT):Option Nd:=@dite _ (∃k,gh k=l) (Classical.propDecidable _) (λh=>aa h.choose) λa=>ae
def kV(f:Nd->Option Nat):List cT->Option V:=λk=>(qg k).bind λk=>(f k).map λ(n:Nat)=>V.e n
noncomputable def iV{a:Type}(f:Nat->Option a)(g:Nat->V):Int->Option V|.ofNat n=>(f n).map λb=>g n|.negSucc _=>ae
noncomputable def cH(X:be->Nat)(t:be):V:=.f<|.f<|X t
noncomputable def numOf(a:List Nd):Nd->Option Nat:=λk=>a.idxOf? k
def iy(X:be->Nat)(i:Nat):dH->V|.g n=>.h [.p "made",.e n]|.f k=>.h [.p "known",bp k]|.e a m b _=>.h [.p "edge",.e a,.e m,.e b,cH X<|.f i]
def cv(l:List Nat):O:=.e<|aH l
def il(X:be->Nat)(n:Nat):List V:=(bM n).map λi=>cH X<|.p i
noncomputable def c9(H:Hp)(X:be->Nat):List (Option O):=[aa<|.g 0 [.f<|.e 2,.f<|.e 7,.f<|.e 11,.f<|.e 12,.f<|.e 13,.f<|.e 14,cH X .h,.e H.h,.f<|.e 15,.f<|.e 16,.e H.N],aa<|.g 1 [.f<|.e 3,.f<|.e 4,.f<|.e 5,.f<|.e 6],aa<|.e<|H.f.map bp,aa<|.p<|kV<|numOf H.f,aa<|.e<|H.T.map .e,aa<|.e<|H.Y.map .e,aa<|.g 2 [.f<|.e 8,.f<|.e 9,.f<|.e 10],aa<|.e<|aH H.e,aa<|.e<|il X H.q.length,aa<|.e<|H.Z.map λp=>.h [.e p.1,.e p.2],aa<|.e H.U,aa<|.e H.a,aa<|.p<|kV H.t,aa<|.f<|iV H.g λi=>cH X<|.e i,aa<|.e<|H.p.mapIdx<|iy X,aa<|.e<|H.J.mapIdx λi m=>.h [.e m.1,cH X<|.g i]]
noncomputable def fc(H:Hp)(W:Nat->Option O):be->Option O
 |.p i=>(H.q[i]?).map cv
 |.e i=>(H.g i).map cv
 |.h=>aa<|cv H.F
 |.g i=>(H.J[i]?).map λm=>cv m.2
 |.f i=>(H.p[i]?).bind λc=>match c with|.e _ _ _ a=>a.map cv|_=>ae
 |.w i=>W i
structure bh where
 q:Option O
 f:List (Option O)
 w:Nat->Option O
 r:Nat->Nat
noncomputable def Is(H:Hp)(W:bh)(X:be->Nat)(R:Nat)(d:cU):Prop:=DP (fc H W.w) W.r X R d
abbrev sg(H:Hp)(W:bh)(X:be->Nat)(d:cU):St:=Sg (W.q::(c9 H X++W.f)) d
def WJ(h:gh k=gh a):k=a:=q9 (cT.s.inj (qU h).1)<|(EQ λb b e=>g_<|cT.i.inj e).mp (qU h).2
def Tn(k:Nd):qg (gh k)=aa k:=(dif_pos ⟨k,rfl⟩).trans<|aQ aa<|WJ<|Exists.choose_spec (p:=λj=>gh j=gh k) ⟨k,rfl⟩
def pb(f:Nd->Option Nat)(k:Nd):kV f (gh k)=(f k).map λ(n:Nat)=>V.e n:=by unfold kV;rw[Tn];rfl
def IG(h:qg l=aa k):l=gh k:=by
 by_cases e:∃k,gh k=l;·exact bo ((dif_pos e).symm.trans h)▸e.choose_spec.symm
 ·exact aY<|(dif_neg e).symm.trans h
def JR(f:Nd->Option Nat)(k:Nd)(v:Option Nat):cD (kV f) (gh k) (v.map λ(n:Nat)=>V.e n)=kV (ai f k v):=by
 funext x
 unfold cD
 by_cases e:x=gh k
 ·rw[aq e,e,pb,bg]
 ·rw[ap e]
  unfold kV
  cases hd:qg x with
  |none=>rfl
  |some k'=>
   have:k'≠k:=λq=>e (by rw[IG hd,q])
   show(f k').map _=(ai f k v k').map _
   rw[aI this]
def CG(f:Nd->Option Nat)(k:Nd)(v:Nat):cD (kV f) (gh k) (aa<|.e v)=kV (ai f k<|aa v):=JR f k<|aa v
def JS(f:Nd->Option Nat)(k:Nd):cD (kV f) (gh k) ae=kV (ai f k ae):=JR f k ae
def tU(k:Nd):kB (bp k)=aa (gh k):=CL rfl<|JV (λa=>rfl) k.2
def yz(f:Nat->Option a)(g:Nat->V)(n:Nat):iV f g (n:Int)=(f n).map λb=>g n:=rfl
def tM(f:Nat->Option d)(a:Nat->Option h)(g b:Nat->V)(n:Nat)(v:Option V)(j:(a n).map (λc=>b n)=v)(k:∀i,i≠n->(a i).map (λc=>b i)=(f i).map λc=>g i):cD (iV f g) (n:Int) v=iV a b:=by
 funext x
 unfold cD
 by_cases e:x=(n:Int)
 ·rw[aq e,e,yz,j]
 ·rw[ap e]
  cases x with
  |ofNat i=>exact(k i λq=>e<|by rw[q];rfl).symm
  |negSucc i=>rfl
def yo(c:N<2^20)(h:∀i,f i≠ae->i<N):eW (iV f g):=by refine(aC ((bM N).map λ(i:Nat)=>(i:Int)) (by simp[bX];exact(aR c bl)) λk a=>?_);cases k with|ofNat i=>have:f i≠ae:=λq=>a (by show(f i).map _=_;rw[q];rfl);exact cq.mpr ⟨i,fz.mpr<|h i this,rfl⟩|negSucc i=>exact aD rfl a
def sT(f:Nd->Option Nat):Prop:=∃L:List Nd,L.length<2^20/\∀k,f k≠ae->k∈L
def yp(h:sT f):eW (kV f):=by refine aB h λL d e=>?_;refine(aC (L.map gh) (by simp[bX];exact(aR d bl)) λk a=>?_);unfold kV at a;cases b:qg k with|none=>rw[b]at a;exact aD rfl a|some c=>rw[b]at a;have:f c≠ae:=λq=>a (by show(f c).map _=_;rw[q];rfl);exact cq.mpr ⟨c,e _ this,(IG b).symm⟩
def jO:bi (sg H W X d) (.f k) o=sg H W X (ai d k<|aa<|aa o):=i4
def pa(H:Hp)(X:be->Nat):(c9 H X).length=16:=rfl
def wv(k:Nat)(c:k<16)(h:(c9 H X).set k (aa o)=c9 a b)(_:0=0):bi (sg H W X d) (.e<|k+1) o=sg a W b d:=by rw[pz<|by simp[pa];exact(aR c<|bB ..),EW,Oq _ _<|by rw[pa];exact c,h]
def kH(k:Nat)(b:k<16)(h:(c9 H X).set k (aa o)=c9 a X):bi (sg H W X d) (.e<|k+1) o=sg a W X d:=wv k b h rfl
def sa(l:List Nat)(a:Nat):aH l++[.e a]=aH (l++[a]):=by simp[aH]
def CW(l k:List Nat):aH l++aH k=aH (l++k):=by simp[aH]
def KC(l:List Nat)(i a:Nat):(aH l).set i (.e a)=aH (l.set i a):=by simp[aH,List.map_set]
def CX(l:List Nat)(i:Nat):(aH l).take i=aH (l.take i):=by simp[aH,ET]
def bK(l:List Nat):(aH l).length=l.length:=bq ..
def Wo(X:be->Nat)(n k:Nat):il X n++[.f<|.f k]=il (ai X (.p n) k) (n+1):=by
 unfold il;rw[EV,ja];congr 1;·refine kS λi hi=>?_;have:=fz.mp hi;unfold cH;rw[aI λe=>by cases e;exact(dE _ this)]
 ·show _=[cH _ _];unfold cH;rw[bg]
def tQ{a b:Nat}(h:l[a]? =aa b):itemAt (aH l) (a:Int)=aa (.e b):=by delta itemAt aH;rw[aq<|ip a];show(l.map _)[a]? =_;rw[fT,h];rfl
def JJ(h:i<n):itemAt (il X n) (i:Int)=aa (cH X<|.p i):=by delta itemAt il;rw[aq<|ip i];show(List.map _ _)[i]? =_;simp[h]
def Xx{js:List Int}(h:js.Perm (l.map λ(n:Nat)=>(n:Int))):∃a:List Nat,a.Perm l/\js.map V.e=aH a:=by
 refine(aC (js.map uQ) ?_ ?_);·have:=h.map uQ;have e:(uQ∘λ(n:Nat)=>(n:Int))=id:=funext λn=>NN n;rw[fh,e,EP]at this;exact this
 ·unfold aH;rw[fh];refine kS λx b=>aB (cq.mp<|h.mem_iff.mp b) λn d c=>?_;subst c;rfl
def pn(l:List Nat):aH l=(l.map λ(n:Nat)=>(n:Int)).map V.e:=by simp[aH]
end
structure bn where
 p:eD
 w:dp
 K:fk
 h:aO
 f:Nat->ao
 g:Nat->V
 e:Nat->ao
abbrev cx(P:bn):Ctx:=Te P.p P.w P.K P.h P.f P.g
noncomputable def c8(v:V):Option V:=V.casesOn (motive_1:=λa=>Option V) v (aa v) ae (λa=>aa v) (λa=>aa v) (λa=>aa v) (λa=>aa v) (λa=>aa v) (λa a=>aa v) (λa=>aa v) (λa=>aa v) λa=>aa v
noncomputable def Dj(v:V):Option V:=V.casesOn (motive_1:=λa=>Option V) v (aa v) (aa v) (λa=>aa v) (λa=>aa v) (λa=>aa v) (λa=>aa v) (λa=>aa v) (λa a=>aa v) (λa=>aa v) (λa=>aa v) λa=>ae
noncomputable def nS(o:jP)(u v:V):Option V:=match o with|.t=>jm (λi j=>aa<|.g<|decide<|i<j) u v|.y=>jm (λi j=>aa<|.g<|decide<|i<=j) u v|.h=>jm (λi j=>aa<|.g<|decide<|j<i) u v|.e=>jm (λi j=>aa<|.g<|decide<|i=j) u v|.f=>jm (λi j=>aa<|.g<|!decide (i=j)) u v|.q=>ae|.p=>ae|.g=>ae
noncomputable def rZ(l:List V):Option V:=if l.length<2^62 then aa (.e l.length)else ae
def CP(σ:St)(u:V):Option V:=u.J ae (λs=>if s.length<2^62 then aa (.e s.length)else ae) (λa=>ae) rZ λr=>(jk σ r).bind rZ
def i3(σ:St)(o:V):Bool:=o.J true (λs=>decide<|s.length<2^62) (λl=>decide<|l.length<2^62) (λl=>decide<|l.length<2^62) λr=>O.q (aT σ r) true (λl=>decide<|l.length<2^62) (λa=>true) (λa=>true) (λa=>true) λa a=>true
def pZ(σ:St)(c b:Nat)(v:V):Option V:=v.J ae (λa=>ae) (λa=>ae) (λa=>ae) λr=>O.q (aT σ r) ae (λa=>ae) (λa=>ae) (λa=>ae) (λa=>ae) λd e=>if d=c then(e[b]?).bind Dj else ae
noncomputable def Ks(u v:V):Option V:=jm (λi j=>aa<|.e<|max i j) u v
noncomputable def B2(f:V->Option V):List V->Option V|[]=>ae|u::l=>match l with|[]=>f u|_::_=>ae
def QL(f:V->V->Option V):List V->Option V|[]=>ae|u::l=>B2 (f u) l
mutual
noncomputable def ev(P:bn)(m:List V)(σ:St):E->Option V
 |.L=>aa .t
 |.U b=>aa<|.g b
 |.p i=>aa<|.e i
 |.y s=>aa<|.p s
 |.e i=>(m[i]?).bind c8
 |.Y g=>aa<|P.g g
 |.k _ _=>ae
 |.c _ _=>ae
 |.l _=>ae
 |.J o a b=>(ev P m σ a).bind λu=>(ev P m σ b).bind λv=>rK o u v
 |.u _=>ae
 |.Z _ _ _=>ae
 |.t o a b=>(ev P m σ a).bind λu=>(ev P m σ b).bind λv=>nS o u v
 |.o _ _ _ _ _=>ae
 |.F es=>(d_ P m σ es).map .h
 |.N _=>ae
 |.d _=>ae
 |.s _ _=>ae
 |.r _ _=>ae
 |.T _ _=>ae
 |.b _ _ _=>ae
 |.n _=>ae
 |.h c pos e=>(ev P m σ e).bind λv=>pZ σ c pos v
 |.q e i=>(ev P m σ e).bind λo=>(ev P m σ i).bind λk=>if i3 σ o then gJ σ o k else ae
 |.a _ _=>ae
 |.j _ _=>ae
 |.f g es=>(d_ P m σ es).bind λvs=>if g=3 then B2 (CP σ) vs else if g=10 then QL Ks vs else ae
 |.g _ _ _=>ae
 |.m _ _=>ae
 |.i _=>ae
noncomputable def d_(P:bn)(m:List V)(σ:St):Es->Option (List V)
 |.f=>aa []
 |.e e es=>(ev P m σ e).bind λv=>(d_ P m σ es).map λvs=>v::vs
end
structure GV(P:bn):Prop where
 J:P.g 3=.F (.builtin "len")
 h:P.g 4=.F (.type "list")
 p:P.g 5=.F (.type "tuple")
 e:P.g 6=.F (.type "range")
 T:P.g 7=.F (.builtin "isinstance")
 q:P.g 8=.F (.type "int")
 y:P.g 9=.F (.type "str")
 t:P.g 10=.F (.builtin "max")
 L:P.g 11=.F (.builtin "min")
 F:P.g 12=.F (.builtin "sum")
 N:P.g 13=.e 1000
 U:P.g 23=.h [.h [.p "add",.e 2],.h [.p "mul",.e 2],.h [.p "neg",.e 1],.h [.p "f",.e 1]]
 g:P.g 1=.F (.builtin "sorted")
def yi(i j:Int):dI (.int i) (.int j)=decide (i=j):=by unfold dI;rfl
def ub(i:Int):iL (.e i) (.int i):=(kz rfl (by unfold Ga;rfl)<|by unfold tg;exact da 4)
def jG(h:nS o a b=aa v)(q:Q v σ):eB o a b σ Q:=by
 cases o<;>first|exact aY h|refine dA (jm.e h) λi j c d h=>?_;subst c;subst d
 all_goals obtain rfl:=bo h
 ·exact(cp _ _ rfl rfl q)
 ·exact(cp _ _ rfl rfl q)
 ·exact(cp _ _ rfl rfl q)
 ·exact(cp _ _ (ub _) (ub _)<|by rw[yi];exact q)
 ·exact(cp _ _ (ub _) (ub _)<|by rw[yi];exact q)
def YQ(h:i3 σ o=true):kq σ o:=by cases o with
 |p s=>exact(cR h:s.length<2^62)
 |h l=>exact(cR h:l.length<2^62)
 |y l=>exact(cR h:l.length<2^62)
 |f r=>show Lake.O.q (aT σ r) True _ _ _ _ _;have h:Lake.O.q (aT σ r) true _ _ _ _ _=true:=h;cases a:aT σ r with|none=>trivial|some o=>rw[a]at h;cases o with|e l=>exact(cR h:l.length<2^62)|_=>trivial
 |_=>trivial
set_option tactic.hygienic true in
theorem QU{u v:V}{Q:V->St->Prop}(h:pZ σ c d u=aa v)(q:Q v σ):∃r a x,u=.f r/\aT σ r=aa (.g c a)/\a[d]? =aa x/\CZ x/\Q x σ:=by
 cases u<;>first|exact aY h|skip
 rename_i r
 have h:Lake.O.q (aT σ r) ae _ _ _ _ _=aa v:=h
 cases b:aT σ r with
 |none=>rw[b]at h;exact aY h
 |some o=>
  rw[b]at h
  cases o<;>first|exact aY h|skip
  rename_i f a
  by_cases e:f=c
  ·refine aB (jD<|(aq e).symm.trans h) λx g h=>(dO r a x rfl (e▸b) g ?_)
   cases x<;>first|exact aY h|exact⟨trivial,(bo h)▸q⟩
  ·exact aY<|(ap e).symm.trans h
def qj(h:c8 u=aa v):u=v/\v≠.q:=by cases u<;>first|exact aY h|(obtain rfl:=bo h;exact⟨rfl,V.noConfusion⟩)
def nu(h:c8 v=aa v:=by rfl):v≠.q:=(qj h).2
def V8(h:CP σ u=aa v)(q:Q v σ):aZ (cx P) n (.builtin "len") [u] σ Q:=by
 cases u<;>first|exact aY h|skip
 ·obtain⟨a,rfl⟩:=qr h;exact SA a q
 ·obtain⟨a,rfl⟩:=qr h;exact Il rfl a q
 ·refine aB (jD h) λl b c=>?_;obtain⟨a,rfl⟩:=qr c;exact Il b a q
def HS(h:B2 f a=aa v):∃u,a=[u]/\f u=aa v:=match a,h with|[],h=>aY h|[u],h=>(aC u rfl h)|_::_::_,h=>aY h
def rR{W:(a->St->Prop)->Prop}(w:∀{x Q},o=aa x->Q x σ->W Q)(h:o.bind f=aa v){Q:a->St->Prop}(q:∀x,f x=aa v->Q x σ):W Q:=(jD h).elim λx g=>w g.1<|q x g.2
def rY{Q:a->St->Prop}{x y:a}(h:aa x=aa y)(q:Q y σ):Q x σ:=(bo h).symm▸q
def iA(G:GV P){e:E}:∀{v:V}{Q:V->St->Prop},ev P m σ e=aa v->Q v σ->aF (cx P) n e m σ Q:=by
 refine @E.rec (λe=>∀{v:V}{Q:V->St->Prop},ev P m σ e=aa v->Q v σ->aF (cx P) n e m σ Q) (λr=>∀{y:List V}{Q:List V->St->Prop},d_ P m σ r=aa y->Q y σ->eK (cx P) n r m σ Q)
  ?none ?bool ?int ?str ?loc ?glob ?and ?or ?not ?bin ?neg ?ite ?cmp ?cmp2 ?tup ?list ?dict0 ?dictS ?dict1 ?lcomp ?lcompIf ?dsetT ?attr ?sub ?sfrom ?sto ?call ?meth ?fstr ?sset ?nil ?cons e
 case none=>exact λ{v Q}h q=>rY (Q:=Q) h q
 case bool=>exact λb{v Q}h q=>rY (Q:=Q) h q
 case int=>exact λb{v Q}h q=>rY (Q:=Q) h q
 case str=>exact λb{v Q}h q=>rY (Q:=Q) h q
 case glob=>exact λb{v Q}h q=>rY (Q:=Q) h q
 case nil=>exact λ{v Q}h q=>rY (Q:=Q) h q
 case loc=>
  exact λi{v Q}h q=>by
   refine aB (jD h) λu d f=>?_
   obtain⟨rfl,z⟩:=qj f
   exact(bV _ d z q)
 case bin=>exact λo a b s t{v Q}h q=>rR s h λu h=>rR t h λw h=>.inl ⟨v,h,q⟩
 case cmp=>exact λo a b s t{v Q}h q=>rR s h λu h=>rR t h λw h=>jG h q
 case tup=>
  exact λr p{v Q}h q=>by
   refine aB (fj.mp h) λu d A=>?_;subst A
   exact p d q
 case attr=>exact λc I e B{v Q}h q=>rR B h λu h=>QU h q
 case sub=>
  exact λa b s t{v Q}h q=>rR s h λu h=>rR t h λw h=>by
   by_cases C:i3 σ u=true
   ·exact(bV v ((aq C).symm.trans h) (YQ C) q)
   ·exact aY<|(ap C).symm.trans h
 case call=>
  exact λg r p{v Q}h q=>by
   refine aB (jD h) λy d f=>?_
   by_cases z:g=3
   ·subst z
    refine aB (HS f) λu D h=>?_;subst D
    exact(bV _ G.J rfl<|p d<|V8 h q)
   by_cases F:g=10
   ·subst F
    cases y with
    |nil=>exact aY f
    |cons u l=>
     refine aB (HS f) λw D h=>?_;subst D
     refine dA (jm.e h) λi j A H h=>?_;subst A;subst H
     obtain rfl:=bo h
     exact(bV _ G.t rfl<|p d<|SC q)
   ·exact aY<|((ap z).trans<|ap F).symm.trans f
 case cons=>
  exact λe r B p{v Q}h q=>(jD h).elim λx g=>B g.1<|(fj.mp g.2).elim λJ k=>p k.1<|k.2▸q
 all_goals intros;first|exact aY ‹_›
theorem ky(G:GV P):∀{es:Es}{vs:List V}{Q:List V->St->Prop},d_ P m σ es=aa vs->Q vs σ->eK (cx P) n es m σ Q|.f,vs,Q,h,q=>rY (Q:=Q) h q|.e e es,vs,Q,h,q=>(jD h).elim λx g=>iA G g.1<|(fj.mp g.2).elim λa k=>ky G k.1<|k.2▸q
def tJ(h:ev P m σ e=aa u)(a:CP σ u=aa x):ev P m σ (.f 3<|.e e .f)=aa x:=by show((ev P m σ e).bind λv=>aa [v]).bind _=_;rw[h];exact a
def TW(h:ev P m σ e=aa u)(a:ev P m σ f=aa v)(b:Ks u v=aa x):ev P m σ (.f 10<|.e e<|.e f .f)=aa x:=by show((ev P m σ e).bind λv=>((ev P m σ f).bind λv=>aa [v]).map λc=>v::c).bind _=_;rw[h,a];exact b
structure FD where
 e:List (Option ah)
 f:List ah
 b:Ss
noncomputable def fd(k:Nat)(l:List ah)(b:Ss):FD:=⟨l.map aa,l.take k,b⟩
def qn:List FD:=[fd 1 ["op","digits"] R6,fd 2 ["self","n"] Q_,fd 3 ["self","op","values","number"] Rb,fd 3 ["self","one","other"] Ra,fd 3 ["self","op","values"] RC,fd 3 ["self","one","other"] RB,fd 3 ["self","op","values"] RD,fd 3 ["self","heap","analysis"] Rw,fd 1 ["self"] Ry,fd 2 ["self","c"] RA,fd 1 ["self","found","c","kept"] Rs,fd 2 ["self","c","found","node","kids"] Rx,fd 1 ["self","row","waiting","spot","c","found","user","late"] Rz,fd 1 ["self"] Rt,fd 1 ["self","many","c","value","number","label"] Ru,fd 1 ["text"] RT,fd 1 ["self"] Q2,fd 1 ["self"] Q6,fd 3 ["self","op","kids","node","kid"] Q8,fd 2 ["self","op"] Q5,fd 2 ["self","many"] Q1,fd 2 ["self","n"] Q4,fd 2 ["self","n"] Q3,fd 2 ["self","n","below","stack","kid","made","k"] Q9,fd 1 ["self"] RM,fd 1 ["self"] RN,fd 1 ["self"] RS,fd 2 ["self","a"] RL,fd 3 ["self","a","b","kept","gone"] RQ,fd 2 ["self","a"] RO,fd 1 ["self"] RJ,fd 2 ["self","many","kept","gone"] RI,fd 2 ["self","many","a"] RK,fd 1 ["self"] Rg,fd 1 ["self"] Rq,fd 2 ["self","n"] Rm,fd 3 ["self","op","numbers","n","c"] Rc,fd 2 ["self","term"] Ro,fd 2 ["self","n","other"] Ri,fd 2 ["self","n"] Rf,fd 3 ["self","a","b"] Rd,fd 4 ["self","a","b","reason"] Rk,fd 4 ["self","a","b","reason","merged","kept","gone"] Rh,fd 1 ["self"] Rp,fd 1 ["self"] Re,fd 2 ["self","c"] Rj,fd 2 ["self","c"] Rn,fd 2 ["self","c"] Rr,fd 1 ["self"] RF,fd 1 ["self","many","waiting","change"] RE,fd 2 ["self","n","c"] RH,fd 2 ["self","change","kind","kept","many","gone","users"] RG,fd 2 ["well","many","k"] RY,fd 2 ["rows","pairs","homes","is_open","firsts","wish","n","row","one","other","low","high"] R0,fd 4 ["kind","n","op","values"] RW,fd 3 ["kind","one","other"] RV,fd 2 ["world","homes","found","is_open","kind","n","row","late"] R5,fd 1 ["world","heap","keeper","homes","worths"] R3,fd 2 ["well","world","heap","rows","op","wide","row","one","other"] RX,fd 1 ["world","homes","rows","worths","due","home","text","row"] RZ,fd 1 ["script","well","heap","kind","n","world","op","lap","keeper","kept","turn"] RU]
noncomputable def vY:List (Nat×Nat×Nat):=[(0,2,49),(0,13,43),(0,16,34),(0,24,39),(0,25,41),(0,26,45),(0,27,44),(0,29,35),(0,30,36),(0,31,37),(0,32,63),(0,33,40),(0,34,62),(0,35,46),(0,36,47),(0,37,48),(0,38,50),(0,39,51),(0,40,61),(1,16,17),(1,17,18),(1,18,19),(1,19,20),(1,20,21),(1,21,22),(1,22,23),(1,40,16),(2,16,26),(2,19,32),(2,23,25),(2,24,27),(2,25,28),(2,26,29),(2,27,30),(2,28,31),(2,40,24),(3,9,8),(3,10,9),(3,11,10),(3,12,11),(3,13,12),(3,14,13),(3,15,14),(3,40,7),(4,7,2),(4,8,3),(4,40,1),(5,7,6),(5,8,5),(6,7,4),(6,8,5)]
noncomputable def vM:List (Nat×Nat):=[(14,0),(15,15),(24,52),(25,53),(26,54),(27,55),(28,56),(29,57),(30,58),(31,59),(32,60)]
noncomputable def Ec(C:Ctx)(fa:ao)(F:FD):Prop:=∃a b,Ad C fa ⟨a,F.e⟩ F.f b/\lz C F.b ⟨a,F.e⟩ b=true
def E0(P:bn)(c k i:Nat):Prop:=lV P.K (.ref<|P.f c) ((cx P).g k)=aa (aa<|.ref<|P.e i)/\isFn P.K (.ref<|P.e i)=true/\(cx P).g k∉(jE c).getD []/\oU P.K (.ref<|P.e i)=true
def tu(P:bn)(fa:ao)(a:List (Option ah))(d:List ah)(ts:List Top):Prop:=∃D e f fd b c,rE (cx P) fa D e f fd ⟨b,a⟩ d c/\(∀p∈uu ts,BV (cx P) D p.1 p.2)/\wc (cx P) ⟨b,a⟩ ts c=true
noncomputable def Dr(P:bn):List Top:=[.f false "__init__" (P.e 33) .f,.e<|.e (.g 0 8<|.e 0)<|.N .f,.e<|.e (.g 0 9<|.e 0)<|.N .f,.e<|.e (.g 0 10<|.e 0)<|.p 0]
noncomputable def Mt(P:bn):List Top:=[.e<|.g (.t .e (.e 1)<|.h 0 10<|.e 0) (.e (.f<|.g 0 (.h 0 8<|.e 0)<|.e (.F<|.e (.y "made")<|.e (.e 1) .f) .f)<|.e (.e (.g 0 10<|.e 0)<|.J .e (.e 1)<|.p 1) .f) .f,.e<|.e (.e 2)<|.g 29 (.e 0)<|.e (.e 1) .f,.e<|.g (.t .g (.e 2)<|.h 0 4<|.e 0) (.e (.f<|.g 0 (.h 0 8<|.e 0)<|.e (.F<|.e (.y "known")<|.e (.e 2) .f) .f) .f) .f,.f false "look_at" (P.e 38)<|.e (.e 1) .f]
noncomputable def Ms(P:bn):List Top:=[.e<|.p [(.e 4),(.e 5)]<|.f 1<|.e (.N<|.e (.g 24 (.e 0)<|.e (.e 1) .f)<|.e (.g 24 (.e 0)<|.e (.e 2) .f) .f) .f,.e<|.f<|.g 0 (.h 0 8<|.e 0)<|.e (.F<|.e (.y "edge")<|.e (.e 4)<|.e (.f 3<|.e (.q (.h 0 5<|.e 0)<|.e 4) .f)<|.e (.e 5)<|.e (.q (.h 0 5<|.e 0)<|.e 5) .f) .f,.f true "join" (P.e 42)<|.e (.e 1)<|.e (.e 2)<|.e (.e 3) .f]
noncomputable def tE:List (Nat×Nat×Nat):=[(18,0,61),(16,1,16),(17,2,24),(19,3,7),(20,4,1)]
noncomputable def xY:List (Nat×Nat):=[(21,5),(22,6)]
structure aG(P:bn):Prop where
 q:∀(j g c i:Nat),tE[j]? =aa (g,c,i)->P.g g=.F (.ref<|P.f c)/\oU P.K (.ref<|P.f c)=true/\vc P.K (P.f c)=true/\lV P.K (.ref<|P.f c) "__init__"=aa (aa<|.ref<|P.e i)/\vd P.K (.ref<|P.e i)=aa (.type "function")
 T:∀(j g c:Nat),xY[j]? =aa (g,c)->P.g g=.F (.ref<|P.f c)/\oU P.K (.ref<|P.f c)=true/\vc P.K (P.f c)=true/\lV P.K (.ref<|P.f c) "__init__"=aa (aa<|.builtin "object.__init__")
 Y:tu P (P.e 61) [aa "self"] ["self"] (Dr P)
 Z:tu P (P.e 62) [aa "self",aa "a",aa "b",aa "reason",aa "kept",aa "gone"] ["self","a","b","reason"] (Ms P)
 d:tu P (P.e 63) [aa "self",aa "n",aa "node"] ["self","n"] (Mt P)
 O:cL (cx P)
 G:GV P
 L:∀(i:Nat)(F:FD),qn[i]? =aa F->Ec (cx P) (P.e i) F
 U:∀(j c k i:Nat),vY[j]? =aa (c,k,i)->E0 P c k i
 h:∀(j g i:Nat),vM[j]? =aa (g,i)->P.g g=.F (.ref<|P.e i)/\oU P.K (.ref<|P.e i)=true
def aG.y(H:aG P){c k i j:Nat}{r:br}{vals:List V}(h:vY[j]? =aa (c,k,i))(l:aT σ r=aa (.g c vals)){f:List ah}(g:jE c=aa f):MethAt (cx P) σ (.f r) ((cx P).g k) (.ref<|P.e i):=by
 refine v7 (H.U j c k i h) λa b d e=>?_;have m:(cx P).h c=aa ⟨P.f c,f⟩:=by show(jE c).map _=_;rw[g];rfl
 exact Ww H.O l m a b (by rw[g]at d;exact d) e
def aG.e(H:aG P)(i:Nat){F:FD}(h:qn[i]? =aa F)(e:c.length=F.f.length)(w:aP (cx P) n F.b (c++gO (F.e.length-c.length) .q) σ (λf g d=>match f with|.e=>Q .t d|.f v=>Q v d)):aZ (cx P) (n+1) (.ref<|P.e i) c σ Q:=by exact fq (H.L i F h) λj k a b=>Un H.O a b e w
def aG.p(H:aG P)(i:Nat){F:FD}(h:qn[i]? =aa F)(e:c.length=F.f.length)(w:aP (cx P) n F.b (c++gO (F.e.length-c.length) .q) σ (λf g d=>match f with|.e=>Q .t d|.f v=>Q v d)):gw (cx P) (n+1) (.ref<|P.e i) c σ Q:=by exact fq (H.L i F h) λj k a b=>I_ H.O a b e w
def aG.N(H:aG P){fa:ao}{e:List (Option ah)}{ts:List Top}(S:tu P fa e f ts){d:List V}(h:d.length=f.length)(w:kI (cx P) n ts (d++gO (e.length-d.length) .q) σ (λi j g=>match i with|.e=>Q .t g|.f v=>Q v g)):gw (cx P) (n+1) (.ref fa) d σ Q:=by exact KX S λD k l fd m o a b c=>Um H.O a b c h w
section
variable{P:bn}{n:Nat}{m:List V}{σ:St}{Y:Ss}{Q:Fl->List V->St->Prop}
def jY(h:σ=a)(q:aP (cx P) n Y m a Q):aP (cx P) n Y m σ Q:=h▸q
def Qd{R:List V->St->Prop}(h:σ=a)(q:R m a):R m σ:=h▸q
def BQ(K:aG P)(h:ev P m σ e=aa v)(a:i<m.length)(b:c8 v=aa v)(q:aP (cx P) n Y (m.set i v) σ Q):aP (cx P) n (.e (.e (.e i) e) Y) m σ Q:=iA (n:=n) K.G (Q:=λv σ=>mC (cx P) n (.e i) v m σ λm σ=>aP (cx P) n Y m σ Q) h<|kz a ((qj b).2) q
def eO(K:aG P)(h:ev P m σ e=aa v)(q:Q (.f v) m σ):aP (cx P) n (.e (.h e) Y) m σ Q:=iA (n:=n) K.G (Q:=λv σ=>Q (.f v) m σ) h q
def dy(q:aF (cx P) n e m σ λv σ=>Q (.f v) m σ):aP (cx P) n (.e (.h e) Y) m σ Q:=q
def d9(q:aF (cx P) n e m σ λa σ=>aP (cx P) n Y m σ Q):aP (cx P) n (.e (.f e) Y) m σ Q:=q
def f7(P:bn)(n:Nat)(Y:Ss)(Q:Fl->List V->St->Prop):Fl->List V->St->Prop:=λa m σ=>match a with|.e=>aP (cx P) n Y m σ Q|.f v=>Q (.f v) m σ
def rA(K:aG P)(h:ev P m σ t=aa (.g c))(d:c=true->aP (cx P) n a m σ (f7 P n Y Q))(e:c=false->aP (cx P) n b m σ (f7 P n Y Q)):aP (cx P) n (.e (.g t a b) Y) m σ Q:=by
 refine iA (n:=n) K.G (Q:=λv σ=>∃c,v=.g c/\if c then aP (cx P) n a m σ (f7 P n Y Q)else aP (cx P) n b m σ (f7 P n Y Q)) h<|aC c rfl ?_;cases c;·exact e rfl
 ·exact d rfl
def fm(h:aF (cx P) n t m σ λv σ=>∃c,v=.g c/\if c then aP (cx P) n a m σ (f7 P n Y Q)else aP (cx P) n b m σ (f7 P n Y Q)):aP (cx P) n (.e (.g t a b) Y) m σ Q:=h
def tr(K:aG P)(I:Nat->List V->St->Prop)(d:I k₀ m σ)(h:∀k m σ,I k m σ->∃c,ev P m σ t=aa (.g c)/\if c then aP (cx P) n b m σ (λa m σ=>match a with|.e=>∃j,j<k/\I j m σ|.f v=>Q (.f v) m σ)else aP (cx P) n Y m σ Q):aP (cx P) n (.e (.t t b) Y) m σ Q:=by exact(aC I (⟨k₀,d⟩) λk m σ e=>(aB (h k m σ e) λc f g=>iA (n:=n) K.G (Q:=λv σ=>∃c,v=.g c/\if c then(aP (cx P) n b m σ λa m σ=>match a with|.e=>∃j,j<k/\I j m σ|.f v=>Q (.f v) m σ)else aP (cx P) n Y m σ Q) f<|aC c rfl g))
def bN(q:Q .e m σ):aP (cx P) n .f m σ Q:=q
def ck(K:aG P)(j:Nat)(g:vY[j]? =aa (c,k,i))(h:ev P m σ o=aa (.f r))(l:aT σ r=aa (.g c d))(p:jE c=aa e)(s:d_ P m σ a=aa vs)(q:aZ (cx P) n (.ref<|P.e i) (.f r::vs) σ R):aF (cx P) n (.g k o a) m σ R:=iA (n:=n) K.G (Q:=λb σ=>∃f,MethAt (cx P) σ b ((cx P).g k) f/\eK (cx P) n a m σ λvs σ=>aZ (cx P) n f (b::vs) σ R) h<|aC _ (K.y g l p)<|ky (n:=n) K.G (Q:=λvs σ=>aZ (cx P) n _ (.f r::vs) σ R) s q
def ny(K:aG P){id:String}(c:ev P m σ o=aa (.f r))(d:aT σ r=aa (.e l))(e:rg "list" ((cx P).g k) id)(g:rq (.builtin id)=pure (.type "method_descriptor"))(h:d_ P m σ a=aa vs)(q:aZ (cx P) n (.builtin id) (.f r::vs) σ R):aF (cx P) n (.g k o a) m σ R:=iA (n:=n) K.G (Q:=λb σ=>∃f,MethAt (cx P) σ b ((cx P).g k) f/\eK (cx P) n a m σ λvs σ=>aZ (cx P) n f (b::vs) σ R) c<|aC _ (Kv d e g)<|ky (n:=n) K.G (Q:=λvs σ=>aZ (cx P) n _ (.f r::vs) σ R) h q
def nq(K:aG P){id:String}(c:ev P m σ o=aa (.f r))(d:aT σ r=aa ob)(e:CA ob=true)(g:rg "dict" ((cx P).g k) id)(h:rq (.builtin id)=pure (.type "method_descriptor"))(i:d_ P m σ a=aa vs)(q:aZ (cx P) n (.builtin id) (.f r::vs) σ R):aF (cx P) n (.g k o a) m σ R:=iA (n:=n) K.G (Q:=λb σ=>∃f,MethAt (cx P) σ b ((cx P).g k) f/\eK (cx P) n a m σ λvs σ=>aZ (cx P) n f (b::vs) σ R) c<|aC _ (vX d e g h)<|ky (n:=n) K.G (Q:=λvs σ=>aZ (cx P) n _ (.f r::vs) σ R) i q
def aJ(K:aG P)(h:ev P m σ e=aa v)(q:R v σ):aF (cx P) n e m σ R:=iA K.G h q
def oF(K:aG P){id:String}(d:ev P m σ o=aa (.f r))(e:aT σ r=aa (.e l))(g:rg "list" ((cx P).g k) id)(h:rq (.builtin id)=pure (.type "method_descriptor"))(q:eK (cx P) n a m σ λb i=>aZ (cx P) n (.builtin id) (.f r::b) i R):aF (cx P) n (.g k o a) m σ R:=iA (n:=n) K.G (Q:=λc σ=>∃f,MethAt (cx P) σ c ((cx P).g k) f/\eK (cx P) n a m σ λb σ=>aZ (cx P) n f (c::b) σ R) d<|aC _ (Kv e g h) q
def mR(K:aG P)(b:ev P m σ o=aa (.f r))(a:aT σ r=aa (.e l))(c:ev P m σ e=aa v)(d:l.length<=cN)(q:aP (cx P) n Y m (bi σ r<|.e<|l++[v]) Q):aP (cx P) n (.e (.f<|.g 0 o<|.e e .f) Y) m σ Q:=d9<|oF K b a F.slot_list_append rfl<|iA (n:=n) K.G (e:=e) (Q:=λv f=>aZ (cx P) n (.builtin "list.append") [.f r,v] f λg σ=>aP (cx P) n Y m σ Q) c<|o9 a d q
def co(q:aF (cx P) n e m σ λv σ=>mC (cx P) n t v m σ λm σ=>aP (cx P) n Y m σ Q):aP (cx P) n (.e (.e t e) Y) m σ Q:=q
def iO(K:aG P)(a:ev P m σ o=aa (.f r))(b:aT σ r=aa (.g c vals))(d:pos<=vals.length)(q:R m (bi σ r<|.g c<|jo vals pos v)):mC (cx P) n (.g c pos o) v m σ R:=iA (n:=n) K.G (e:=o) (Q:=λf σ=>∃r vals,f=.f r/\aT σ r=aa (.g c vals)/\pos<=vals.length/\R m (bi σ r<|.g c<|jo vals pos v)) a<|yA _ _ rfl b d q
def xO(K:aG P)(c:ev P m σ o=aa u)(d:ev P m σ k=aa a)(f:kq σ u)(q:vu σ u a v λσ=>R m σ):mC (cx P) n (.f o k) v m σ R:=iA (n:=n) K.G (e:=o) (Q:=λb σ=>aF (cx P) n k m σ λa σ=>kq σ b/\vu σ b a v λσ=>R m σ) c<|iA (n:=n) K.G (e:=k) (Q:=λa σ=>kq σ u/\vu σ u a v λσ=>R m σ) d ⟨f,q⟩
def HA(K:aG P){i:Nat}(c:ev P m σ o=aa (.f r))(d:ev P m σ k=aa (.e i))(b:aT σ r=aa (.e l))(e:i<l.length)(f:l.length<2^62)(q:R m (bi σ r<|.e<|l.set i v)):mC (cx P) n (.f o k) v m σ R:=by
 refine xO K c d ?_<|aC r rfl ?_;·show Lake.O.q (aT σ r) True (λl=>l.length<2^62) (λa=>True) (λa=>True) (λa=>True) λa a=>True;rw[b];exact f
 ·rw[b];exact⟨ip i,e,q⟩
def pW(K:aG P){i:Int}(c:ev P m σ o=aa (.f r))(d:ev P m σ k=aa (.e i))(b:aT σ r=aa (.f f))(e:eW f)(q:R m (bi σ r<|.f<|cD f i<|aa v)):mC (cx P) n (.f o k) v m σ R:=by
 refine xO K c d ?_<|aC r rfl ?_;·show Lake.O.q (aT σ r) True (λl=>l.length<2^62) (λa=>True) (λa=>True) (λa=>True) λa a=>True;rw[b];trivial
 ·rw[b];exact⟨e,q⟩
def BL(K:aG P){o k:E}{r:br}{l:List V}{i:Nat}(ho:ev P m σ o=aa (.f r))(hk:ev P m σ k=aa (.e i))(hl:aT σ r=aa (.e l))(hi:i<2^31)(hs:l.length<2^24)(q:aP (cx P) n Y m (bi σ r<|.e<|l.take i) Q):aP (cx P) n (.e (.J o k) Y) m σ Q:=iA (n:=n) K.G (e:=o) (Q:=λov σ=>aF (cx P) n k m σ λkv σ=>∃r l i,ov=.f r/\aT σ r=aa (.e l)/\kv=.e i/\0<=i/\i<2^31/\l.length<2^24/\aP (cx P) n Y m (bi σ r<|.e<|l.take i.toNat) Q) ho<|iA (n:=n) K.G (e:=k) (Q:=λkv σ=>∃r' l i,V.f r=.f r'/\aT σ r'=aa (.e l)/\kv=.e i/\0<=i/\i<2^31/\l.length<2^24/\aP (cx P) n Y m (bi σ r'<|.e<|l.take i.toNat) Q) hk<|U5 r l i rfl hl rfl (ip i) (by exact_mod_cast hi) hs q
def oH(K:aG P)(b:d_ P m σ a=aa vs)(c:σ r=ae)(q:R (.f r) (bi σ r<|.e vs)):aF (cx P) n (.N a) m σ R:=ky (n:=n) K.G (Q:=λvs σ=>iK vs σ R) b<|.inr<|aC r c q
def oz(h:aF (cx P) n e m σ λv σ=>R [v] σ):eK (cx P) n (.e e .f) m σ R:=h
def gF{ts:List T}(q:aF (cx P) n e m σ λv σ=>∃l,(v=.h l\/v=.y l)/\l.length=ts.length/\pB (cx P) n ts l m σ λm σ=>aP (cx P) n Y m σ Q):aP (cx P) n (.e (.p ts e) Y) m σ Q:=q
section
variable{R:V->St->Prop}
def sK(q:aF (cx P) n a m σ λv σ=>∃c,v=.g c/\if c then aF (cx P) n b m σ R else R (.g c) σ):aF (cx P) n (.k a b) m σ R:=q
def nz(q:aF (cx P) n a m σ λv σ=>∃c,v=.g c/\if c then R (.g c) σ else aF (cx P) n b m σ R):aF (cx P) n (.c a b) m σ R:=q
def wF(q:aF (cx P) n a m σ λv σ=>∃c,v=.g c/\R (.g<|!c) σ):aF (cx P) n (.l a) m σ R:=q
def pD(K:aG P)(h:ev P m σ a=aa u)(q:aF (cx P) n b m σ λv σ=>eB o u v σ R):aF (cx P) n (.t o a b) m σ R:=aJ (n:=n) K (e:=a) (R:=λu σ=>aF (cx P) n b m σ λv σ=>eB o u v σ R) h q
def ju(q:aF (cx P) n a m σ λu σ=>aF (cx P) n b m σ λv σ=>eB o u v σ R):aF (cx P) n (.t o a b) m σ R:=q
def gz(K:aG P)(h:ev P m σ a=aa u)(c:ev P m σ b=aa v)(q:eB o u v σ R):aF (cx P) n (.t o a b) m σ R:=pD K h<|aJ (n:=n) K (e:=b) (R:=λv σ=>eB o u v σ R) c q
def oC(q:aF (cx P) n a m σ λu σ=>aF (cx P) n b m σ λv σ=>uE o u v σ R):aF (cx P) n (.J o a b) m σ R:=q
def kM(K:aG P)(h:ev P m σ a=aa u)(q:aF (cx P) n b m σ λv σ=>uE o u v σ R):aF (cx P) n (.J o a b) m σ R:=aJ (n:=n) K (e:=a) (R:=λu σ=>aF (cx P) n b m σ λv σ=>uE o u v σ R) h q
def sM(K:aG P)(h:ev P m σ a=aa u)(q:aF (cx P) n b m σ λk σ=>∃x,gJ σ u k=aa x/\kq σ u/\R x σ):aF (cx P) n (.q a b) m σ R:=aJ (n:=n) K (e:=a) (R:=λu σ=>aF (cx P) n b m σ λk σ=>∃x,gJ σ u k=aa x/\kq σ u/\R x σ) h q
def qQ(K:aG P)(h:ev P m σ a=aa u)(c:ev P m σ b=aa v)(q:nR true u v σ R):aF (cx P) n (.a a b) m σ R:=aJ (n:=n) K (e:=a) (R:=λu σ=>aF (cx P) n b m σ λk σ=>nR true u k σ R) h<|aJ (n:=n) K (e:=b) (R:=λk σ=>nR true u k σ R) c q
def DX(K:aG P)(h:ev P m σ a=aa u)(b:gK u=aa xs)(c:xs.length<=cN)(q:h_ (λx σ k=>aF (cx P) n e (m++[x]) σ λv σ=>k (aa v) σ) xs [] σ (λl σ=>R (.y l) σ)):aF (cx P) n (.T e a) m σ R:=aJ (n:=n) K (e:=a) (R:=λa σ=>∃xs,gK a=aa xs/\xs.length<=cN/\h_ (λx σ k=>aF (cx P) n e (m++[x]) σ λv σ=>k (aa v) σ) xs [] σ (λl σ=>R (.y l) σ)) h<|bV xs b c q
def DY(K:aG P)(h:ev P m σ a=aa u)(f:gK u=aa xs)(g:xs.length<=cN)(q:h_ (λx σ k=>aF (cx P) n c (m++[x]) σ λb σ=>∃d,b=.g d/\if d then(aF (cx P) n e (m++[x]) σ λv σ=>k (aa v) σ)else k ae σ) xs [] σ (λl σ=>R (.y l) σ)):aF (cx P) n (.b e a c) m σ R:=aJ (n:=n) K (e:=a) (R:=λa σ=>∃xs,gK a=aa xs/\xs.length<=cN/\h_ (λx σ k=>aF (cx P) n c (m++[x]) σ λb σ=>∃d,b=.g d/\if d then(aF (cx P) n e (m++[x]) σ λv σ=>k (aa v) σ)else k ae σ) xs [] σ (λl σ=>R (.y l) σ)) h<|bV xs f g q
def dW(K:aG P)(b:P.g g=.F f)(c:rL P.K f=true)(q:aF (cx P) n a m σ λv σ=>aZ (cx P) n f [v] σ R):aF (cx P) n (.f g<|.e a .f) m σ R:=(bV f b c q)
def uG(K:aG P)(b:P.g g=.F f)(c:rL P.K f=true)(h:d_ P m σ a=aa vs)(q:aZ (cx P) n f vs σ R):aF (cx P) n (.f g a) m σ R:=(bV f b c<|ky (n:=n) K.G (Q:=λvs σ=>aZ (cx P) n f vs σ R) h q)
def Nf(K:aG P)(j:Nat)(b:vM[j]? =aa (g,i))(h:d_ P m σ a=aa vs)(q:aZ (cx P) n (.ref<|P.e i) vs σ R):aF (cx P) n (.f g a) m σ R:=uG K (K.h j g i b).1 (K.h j g i b).2 h q
end
section
variable{R:V->St->Prop}
def kO(q:aF (cx P) n a m σ λa σ=>∃b,gK a=aa b/\b.length<=cN/\h_ (λx σ k=>aF (cx P) n e (m++[x]) σ λv σ=>k (aa v) σ) b [] σ (λl σ=>R (.y l) σ)):aF (cx P) n (.T e a) m σ R:=q
def DT(K:aG P)(f:ev P m σ a=aa u)(g:ev P m σ b=aa v)(h:ev P m σ c=aa x)(i:nS o u v=aa (.g true))(j:nS p v x=aa (.g r))(q:R (.g r) σ):aF (cx P) n (.o o p a b c) m σ R:=by refine aJ (n:=n) K (e:=a) (R:=λv σ=>aF (cx P) n b m σ λu σ=>eB o v u σ λr σ=>∃d,r=.g d/\if d then(aF (cx P) n c m σ λx σ=>eB p u x σ R)else R (.g d) σ) f<|aJ (n:=n) K (e:=b) (R:=λv σ=>eB o u v σ λr σ=>∃d,r=.g d/\if d then(aF (cx P) n c m σ λx σ=>eB p v x σ R)else R (.g d) σ) g<|jG i<|aC true rfl ?_;exact aJ (n:=n) K (e:=c) (R:=λx σ=>eB p v x σ R) h<|jG j q
def mS(q:aF (cx P) n a m σ λu σ=>∃l c,nW σ u=aa (l,c)/\eG (λx m σ k=>i<m.length/\x≠.q/\aP (cx P) n b (m.set i x) σ k) c l m σ (f7 P n Y Q)):aP (cx P) n (.e (.q i a b) Y) m σ Q:=q
def Qu(K:aG P){R:List V->St->Prop}(c:ev P m σ o=aa (.f r))(d:ev P m σ k=aa (.h l))(e:kB (.h l)=aa at_)(b:aT σ r=aa (.p f))(g:eW f)(q:R m (bi σ r<|.p<|cD f at_<|aa v)):mC (cx P) n (.f o k) v m σ R:=by
 refine xO K c d ?_<|aC r rfl ?_;·show Lake.O.q (aT σ r) True (λl=>l.length<2^62) (λa=>True) (λa=>True) (λa=>True) λa a=>True;rw[b];trivial
 ·rw[b];exact(bV at_ e g q)
end
def Iz{i:Int}(a:aT σ r=aa (.f f))(q:R (.g<|!(f i).isSome) σ):eB .g (.e i) (.f r) σ R:=by show Lake.O.q (aT σ r) False _ _ _ _ _;rw[a];exact(aC i rfl q)
def SV(a:kB u=aa k)(b:aT σ r=aa (.p f))(q:R (.g<|!(f k).isSome) σ):eB .g u (.f r) σ R:=by show Lake.O.q (aT σ r) False _ _ _ _ _;rw[b];exact(aC k a q)
section
variable{R:V->St->Prop}
def Nb(K:aG P){i:Int}(g:ev P m σ a=aa (.e i))(h:ev P m σ b=aa v)(j:σ r=ae)(q:R (.f r) (bi σ r<|.f<|cD (λd=>ae) i<|aa v)):aF (cx P) n (.r a b) m σ R:=aJ (n:=n) K (e:=a) (R:=λk σ=>aF (cx P) n b m σ λc σ=>∃r i,k=.e i/\σ r=ae/\R (.f r) (bi σ r<|.f<|cD (λd=>ae) i<|aa c)) g<|aJ (n:=n) K (e:=b) (R:=λc σ=>∃r f,V.e i=.e f/\σ r=ae/\R (.f r) (bi σ r<|.f<|cD (λd=>ae) f<|aa c)) h<|cp r i rfl j q
def j7(q:aF (cx P) n a m σ λu σ=>aF (cx P) n b m σ λv σ=>R (.h [u,v]) σ):aF (cx P) n (.F<|.e a<|.e b .f) m σ R:=q
def uH(q:aF (cx P) n a m σ λu σ=>aF (cx P) n b m σ λv σ=>aF (cx P) n c m σ λw σ=>R (.h [u,v,w]) σ):aF (cx P) n (.F<|.e a<|.e b<|.e c .f) m σ R:=q
def oE(b:σ r=ae)(q:R (.f r) (bi σ r<|match k with|.i=>.f λa=>ae|.s=>.h λa=>ae|.t=>.p λa=>ae)):aF (cx P) n (.d k) m σ R:=(aC r b q)
end
def wG(q:aF (cx P) n a m σ λv σ=>∃l,fP σ v=aa l/\BU l λb=>R (.y b) σ):aF (cx P) n (.i a) m σ R:=q
def Hn(K:aG P)(b:ev P m σ o=aa u)(c:ev P m σ k=aa a)(q:uF σ u a λσ=>aP (cx P) n Y m σ Q):aP (cx P) n (.e (.F o k) Y) m σ Q:=iA (n:=n) K.G (e:=o) (Q:=λd σ=>aF (cx P) n k m σ λa σ=>uF σ d a λσ=>aP (cx P) n Y m σ Q) b<|iA (n:=n) K.G (e:=k) (Q:=λa σ=>uF σ u a λσ=>aP (cx P) n Y m σ Q) c q
def Qe(K:aG P){i:Int}(a:ev P m σ o=aa (.f r))(b:ev P m σ k=aa (.e i))(c:aT σ r=aa (.f f))(d:f i≠ae)(e:eW f)(q:aP (cx P) n Y m (bi σ r<|.f<|cD f i ae) Q):aP (cx P) n (.e (.F o k) Y) m σ Q:=by refine Hn K a b<|aC r rfl ?_;rw[c];exact⟨d,e,q⟩
def Qf(K:aG P)(a:ev P m σ o=aa (.f r))(b:ev P m σ k=aa (.h l))(c:kB (.h l)=aa at_)(d:aT σ r=aa (.p f))(e:f at_≠ae)(g:eW f)(q:aP (cx P) n Y m (bi σ r<|.p<|cD f at_ ae) Q):aP (cx P) n (.e (.F o k) Y) m σ Q:=by refine Hn K a b<|aC r rfl ?_;rw[d];exact(vP at_ c e g q)
def vt(K:aG P)(b:ev P m σ o=aa (.f r))(a:aT σ r=aa (.e<|l++[v]))(c:l.length<2^20)(q:aP (cx P) n Y m (bi σ r<|.e l) Q):aP (cx P) n (.e (.f<|.g 2 o .f) Y) m σ Q:=d9<|ny K (vs:=[]) b a F.slot_list_pop rfl rfl<|p7 a (by rw[bX];exact(aR c bl)) q
def wH(K:aG P)(h:ev P m σ a=aa u)(c:ev P m σ b=aa v)(q:nR false u v σ R):aF (cx P) n (.j a b) m σ R:=aJ (n:=n) K (e:=a) (R:=λu σ=>aF (cx P) n b m σ λk σ=>nR false u k σ R) h<|aJ (n:=n) K (e:=b) (R:=λk σ=>nR false u k σ R) c q
def wE(K:aG P)(j:Nat)(o:tE[j]? =aa (g,c,i))(p:jE c=aa l)(h:d_ P m σ f=aa vs)(s:σ r=ae)(q:gw (cx P) n (.ref<|P.e i) (.f r::vs) (bi σ r<|.g c []) (λv t=>v=.t/\R (.f r) t)):aF (cx P) (n+1) (.f g f) m σ R:=by exact C4 (K.q j g c i o) λa b u d e=>uG K a b h (KF K.O (k:=⟨P.f c,l⟩) (by show(jE c).map _=_;rw[p];rfl) u d e s q).e
def DZ(K:aG P)(j:Nat)(f:xY[j]? =aa (g,c))(h:jE c=aa e)(i:σ r=ae)(q:R (.f r) (bi σ r<|.g c [])):aF (cx P) n (.f g .f) m σ R:=by exact v7 (K.T j g c f) λa b l d=>uG K a b rfl<|WN K.O (k:=⟨P.f c,e⟩) (by show(jE c).map _=_;rw[h];rfl) l d i q
def iI(q:aF (cx P) n t m σ λv σ=>∃c,v=.g c/\if c then aF (cx P) n a m σ R else aF (cx P) n b m σ R):aF (cx P) n (.Z t a b) m σ R:=q
def Ni(K:aG P){i:Int}(h:ev P m σ a=aa (.e i))(q:R (.e<|-i) σ):aF (cx P) n (.u a) m σ R:=aJ (n:=n) K (e:=a) (R:=λv σ=>∃i,v=.e i/\R (.e<|-i) σ) h<|aC i rfl q
def Qg(c:Bool)(h:∀R:V->St->Prop,R (.g c) σ->aF (cx P) n t m σ R)(q:if c then aP (cx P) n a m σ (f7 P n Y Q)else aP (cx P) n b m σ (f7 P n Y Q)):aP (cx P) n (.e (.g t a b) Y) m σ Q:=h (λv σ=>∃c,v=.g c/\if c then aP (cx P) n a m σ (f7 P n Y Q)else aP (cx P) n b m σ (f7 P n Y Q))<|aC c rfl q
def z_(q:aF (cx P) n a m σ λa σ=>∃f,gK a=aa f/\f.length<=cN/\h_ (λx σ k=>aF (cx P) n c (m++[x]) σ λb σ=>∃d,b=.g d/\if d then(aF (cx P) n e (m++[x]) σ λv σ=>k (aa v) σ)else k ae σ) f [] σ (λl σ=>R (.y l) σ)):aF (cx P) n (.b e a c) m σ R:=q
def Nc(K:aG P)(h:ev P m σ e=aa u)(c:fP σ u=aa a)(d:a.length<=cN)(f:nY a=aa b)(g:σ r=ae)(q:R (.f r) (bi σ r<|.f λk=>if k∈b then aa (.g true)else ae)):aF (cx P) n (.n e) m σ R:=aJ (n:=n) K (e:=e) (R:=λi σ=>∃a b r,fP σ i=aa a/\a.length<=cN/\nY a=aa b/\σ r=ae/\R (.f r) (bi σ r<|.f λk=>if k∈b then aa (.g true)else ae)) h<|m0 a b r c d f g q
def vw(K:aG P)(c:ev P m σ o=aa (.f r))(d:ev P m σ k=aa (.p x))(b:aT σ r=aa (.h f))(e:eW f)(q:R m (bi σ r<|.h<|cD f x<|aa v)):mC (cx P) n (.f o k) v m σ R:=by
 refine xO K c d ?_<|aC r rfl ?_;·show Lake.O.q (aT σ r) True (λl=>l.length<2^62) (λa=>True) (λa=>True) (λa=>True) λa a=>True;rw[b];trivial
 ·rw[b];exact⟨e,q⟩
def Hr(q:aF (cx P) n a m σ λa σ=>∃l c,nW σ a=aa (l,c)/\(∃r,a=.f r)/\eG (λx m σ k=>∃u v,(x=.h [u,v])/\i<m.length/\j<m.length/\u≠.q/\v≠.q/\aP (cx P) n b ((m.set i u).set j v) σ k) c (l.zipIdx.map λx=>.h [.e x.2,x.1]) m σ (f7 P n Y Q)):aP (cx P) n (.e (.y i j a b) Y) m σ Q:=q
def Hq(q:aF (cx P) n a m σ λa σ=>∃l c,nW σ a=aa (l,c)/\eG (λx m σ k=>∃u v,(x=.h [u,v])/\i<m.length/\j<m.length/\u≠.q/\v≠.q/\aP (cx P) n b ((m.set i u).set j v) σ k) c l m σ (f7 P n Y Q)):aP (cx P) n (.e (.L i j a b) Y) m σ Q:=q
def yw{i:Int}(a:aT σ r=aa (.f f)):gJ σ (.f r) (.e i)=f i:=by show Lake.O.q (aT σ r) ae _ _ _ _ _=_;rw[a];rfl
def Jm{i:Int}(a:aT σ r=aa (.e l)):gJ σ (.f r) (.e i)=itemAt l i:=by show Lake.O.q (aT σ r) ae _ _ _ _ _=_;rw[a];rfl
def UA(a:aT σ r=aa (.h f)):gJ σ (.f r) (.p x)=f x:=by show Lake.O.q (aT σ r) ae _ _ _ _ _=_;rw[a];rfl
def Dn(a:aT σ r=aa (.f f)):kq σ (.f r):=by show Lake.O.q (aT σ r) True _ _ _ _ _;rw[a];trivial
def YN(a:aT σ r=aa (.e l))(h:l.length<2^62):i3 σ (.f r)=true:=by show Lake.O.q (aT σ r) true _ _ _ _ _=_;rw[a];exact bQ h
def YO(a:aT σ r=aa (.h f)):i3 σ (.f r)=true:=by show Lake.O.q (aT σ r) true _ _ _ _ _=_;rw[a];rfl
def CB(h:aT σ r=aa (.e l)):nW σ (.f r)=aa (l,λa=>a r=σ r):=by show(Lake.O.q (aT σ r) ae _ _ _ _ _).map _=_;rw[h];rfl
def zW(h:σ=a)(q:aZ (cx P) n f b a R):aZ (cx P) n f b σ R:=h▸q
end
section
variable{Y:be->Nat}{Q:V->St->Prop}
noncomputable def ak(b:List Nat)(a:Nat):Nat:=WellFounded.fix (C:=λd=>Nat) Nat.lt_wfRel.wf (λa c=>if h:b.getD a a<a then c _ h else a) a
def zl(b:List Nat)(a:Nat):ak b a=if b.getD a a<a then ak b (b.getD a a)else a:=WellFounded.fix_eq ..
def sy(h:c[a]? =aa b)(d:b<a):ak c a=ak c b:=by
 have e:c.getD a a=b:=by rw[jy,h];rfl
 rw[zl,e,aq d]
def iY(h:b[a]? =aa a):ak b a=a:=by
 have e:b.getD a a=a:=by rw[jy,h];rfl
 rw[zl,e,ap<|dE _]
def kr(c:List Nat):Prop:=∀(a b:Nat),c[a]? =aa b->b<=a
def zI(K:aG P)(o:kr H.e)(p:H.e.length<2^20)(r:a<H.e.length)(q:Q (.e<|ak H.e a) (sg H W Y d)):aZ (cx P) (n+1) (.ref<|P.e 27) [.f<|.e 7,.e a] (sg H W Y d) Q:=by
 refine K.e 27 rfl rfl<|tr K (λk m i=>∃b:Nat,b=k/\m=[.f<|.e 7,.e b]/\i=sg H W Y d/\b<H.e.length/\ak H.e a=ak H.e b) (Jz a rfl rfl rfl r rfl) ?_;rintro k m i ⟨b,s,rfl,rfl,j,l⟩;subst s;obtain⟨c,f⟩:∃c,H.e[b]? =aa c:=⟨_,fg j⟩;have e:ev P [.f<|.e 7,.e b] (sg H W Y d) (.q (.h 2 0<|.e 0)<|.e 1)=aa (.e c):=by show(if decide ((aH H.e).length<2^62)=true then itemAt (aH H.e) b else ae)=_;rw[aq<|bQ<|by rw[bK];exact(aR p bl),tQ f]
 refine⟨!decide ((c:Int)=b),?_,?_⟩;·show((ev P _ _<|.q (.h 2 0<|.e 0)<|.e 1).bind λu=>(ev P _ _<|.e 1).bind λv=>nS .f u v)=_;rw[e];rfl
 by_cases h:c=b;·subst h;rw[ap<|by simp];rw[l,iY f]at q;exact eO K (e:=.e 1) rfl q
 ·rw[aq<|by rw[dz<|cn h];rfl];have g:=o b c f;exact BQ K e (Nat.lt_add_one 1) rfl ⟨c,mI g h,c,rfl,rfl,rfl,aL g j,l.trans<|sy f<|mI g h⟩
def jp(h:k<2^20):k<=cN:=by rw[bX];exact(bu<|aR h bl)
def gp(h:k<1001):k<2^20:=by exact(aR h bl)
def qx(h:k<2^20):k<2^62:=by exact(aR h bl)
def fD(b:ev P m a e=aa (.f r))(c:aT a r=aa (.e l))(h:l.length<2^20)(d:v=.e l.length):ev P m a (.f 3<|.e e .f)=aa v:=by apply tJ b;show(jk a r).bind rZ=_;rw[pi c,d];exact aq<|qx h
def y_:bi (sg H W Y d) (.e 8) (.e<|aH l)=sg (H.a2 l) W Y d:=kH 7 bl rfl
def XY:bi (sg H W Y d) (.e 9) (.e<|il (ai Y (.p i) k) l.length)=sg (H.a5 l) W (ai Y (.p i) k) d:=wv 8 bl rfl rfl
def Tg:bi (sg H W Y d) (.e 9) (.e<|il Y l.length)=sg (H.a5 l) W Y d:=kH 8 bl rfl
def Lh:bi (sg H W Y d) (.e 10) (.e<|l.map λp=>V.h [.e p.1,.e p.2])=sg (H.a6 l) W Y d:=kH 9 bl rfl
def Lc:bi (sg H W Y d) (.e 11) (.e l)=sg (H.a4 l) W Y d:=kH 10 bl rfl
def Ld:bi (sg H W Y d) (.e 12) (.e l)=sg (H.a9 l) W Y d:=kH 11 bl rfl
def X1:bi (bi (sg H W Y d) (.e 4)<|.p<|kV<|numOf l) (.e 3) (.e<|l.map bp)=sg (H.a' l) W Y d:=by rw[pz<|by simp[pa];exact(aL (ay bl<|bB ..)<|bY _),pz<|by simp[pa];exact(aL (ay bl<|bB ..)<|bY _)];rfl
def X2:bi (bi (sg H W Y d) (.e 3)<|.e<|l.map bp) (.e 4) (.p<|kV<|numOf l)=sg (H.a' l) W Y d:=by rw[pz<|by simp[pa];exact(aL (ay bl<|bB ..)<|bY _),pz<|by simp[pa];exact(aL (ay bl<|bB ..)<|bY _)];rfl
def Lk:bi (sg H W Y d) (.e 5) (.e<|l.map .e)=sg (H.b1 l) W Y d:=kH 4 bl rfl
def Lb:bi (sg H W Y d) (.e 6) (.e<|l.map .e)=sg (H.b0 l) W Y d:=kH 5 bl rfl
def Lg:bi (sg H W Y d) (.e 13) (.p<|kV f)=sg (H.a7 f) W Y d:=kH 12 bl rfl
def tV(Y:be->Nat)(k:Nat):(il Y k).length=k:=by simp[il]
def Is.T(D:Is H W Y X d)(h:fc H W.w t=aa o)(a:fc H' W.w t=aa o')(b:∀u,u≠t->fc H' W.w u=fc H W.w u):Is H' W Y X (ai d (Y t)<|aa<|aa o'):=DP.N D h λu p e=>by
 by_cases q:u=t;·subst q;rw[a]at e;exact .inl ⟨rfl,(bo e).symm⟩
 ·exact .inr ⟨q,(b u q)▸e⟩
def Is.a0(D:Is H W Y X d)(a:fc H' W.w t=aa o')(b:∀u,u≠t->fc H' W.w u=fc H W.w u)(ht:∀i,t≠.w i):Is H' W (ai Y t X) (X+1) (ai d X<|aa<|aa o'):=DP.a6 D ht λu p e=>by
 by_cases q:u=t;·subst q;rw[a]at e;exact .inl ⟨rfl,(bo e).symm⟩
 ·exact .inr ⟨q,(b u q)▸e⟩
set_option tactic.hygienic true in
theorem CS(a:u≠.p n)(h:∀i,i≠n->l[i]? =H.q[i]?):fc (H.a5 l) W u=fc H W u:=by
 cases u<;>first|rfl|skip
 rename_i i;show(l[i]?).map cv=(H.q[i]?).map cv;rw[h i λe=>a<|by rw[e]]
noncomputable abbrev r_(H:Hp):Hp:=((H.a2<|H.e++[H.e.length]).a5<|H.q++[[H.e.length]])
def aam(K:aG P)(D:Is H W Y X d)(a:H.e.length<1000)(b:H.q.length=H.e.length)(q:∀c h f,Is (r_ H) W c h f->Q (.e H.e.length) (sg (r_ H) W c f)):aZ (cx P) (n+1) (.ref<|P.e 25) [.f<|.e 7] (sg H W Y d) Q:=by
 refine K.e 25 rfl rfl<|mR K (l:=aH H.e) rfl rfl (fD (r:=.e 8) (l:=aH H.e) rfl rfl (by rw[bK];exact gp<|cY a) rfl) (by rw[bK];exact jp<|gp<|cY a) ?_;rw[bK,sa,y_];refine d9<|oF (r:=.e 9) (l:=il Y H.q.length) K rfl rfl F.slot_list_append rfl ?_;have g:Is (H.a2<|H.e++[H.e.length]) W Y X d:=D;refine oz<|oH K (vs:=[.e H.e.length]) (r:=.f X) ?_ (g.g _) ?_;·show(ev _ _ _<|.f 3<|.e (.h 2 1<|.e 0) .f).bind _=_;rw[fD (r:=.e 9) (l:=il Y H.q.length) rfl rfl (by rw[tV,b];exact gp<|cY a) rfl,tV,b];rfl
 rw[i4];refine o9 (l:=il Y H.q.length) rfl (by rw[tV,b];exact jp<|gp<|cY a) ?_;have e:H.q.length+1=(r_ H).q.length:=by simp
 rw[Wo,e,XY];refine eO K (v:=.e H.e.length) ?_<|q _ _ _<|Is.a0 g (ht:=λi e=>be.noConfusion e) (H':=r_ H) (t:=.p H.q.length) (o':=cv [H.e.length]) ?_ λu j=>CS (H:=(H.a2<|H.e++[H.e.length])) j λi k=>?_;·show(ev _ _ _<|.f 3<|.e (.h 2 0<|.e 0) .f).bind _=_;rw[fD (r:=.e 8) (l:=aH<|H.e++[H.e.length]) rfl rfl (by rw[bK,bm];exact gp<|jS a) rfl,bK,bm];show aa (V.e<|((H.e.length+1:Nat):Int)-1)=_;rw[wL,An,Ah]
 ·show((H.q++[_])[H.q.length]?).map cv=_;simp
 ·show(H.q++[_])[i]? =H.q[i]?;exact Jo k
end
section
variable{P:bn}{n:Nat}{H:Hp}{W:bh}{Y:be->Nat}{d:cU}{Q:V->St->Prop}
def ML(K:aG P)(a:H.e.length<1000)(q:Q (.e H.e.length) (sg H W Y d)):aZ (cx P) (n+1) (.ref<|P.e 26) [.f<|.e 7] (sg H W Y d) Q:=K.e 26 rfl rfl<|eO K (fD (r:=.e 8) (l:=aH H.e) rfl rfl (by rw[bK];exact gp<|cY a) rfl) (by rw[bK];exact q)
def yk{i:Nat}(a:m[0]? =aa (.f<|.e 7))(b:ev P m (sg H W Y d) e=aa (.e i))(c:i<H.q.length)(f:H.q.length<1000):ev P m (sg H W Y d) (.q (.h 2 1<|.e 0) e)=aa (cH Y<|.p i):=by show((((m[0]?).bind c8).bind λv=>pZ _ 2 1 v).bind λo=>(ev P m (sg H W Y d) e).bind λk=>if i3 (sg H W Y d) o then gJ (sg H W Y d) o k else ae)=_;rw[a,b];show(if decide ((il Y H.q.length).length<2^62)=true then itemAt (il Y H.q.length) i else ae)=_;rw[aq<|bQ<|by rw[tV];exact qx<|gp<|cY f,JJ c]
def tX(D:Is H W Y X d)(h:H.q[i]? =aa l):aT (sg H W Y d) (.f<|Y<|.p i)=aa (cv l):=DP.q D (by show(H.q[i]?).map cv=_;rw[h];rfl)
def MK(K:aG P)(D:Is H W Y X d)(h:kr H.e)(f:H.e.length<1000)(i:H.q.length=H.e.length)(j:a<H.e.length)(g:H.q[ak H.e a]? =aa l)(m:l.length<64)(q:∀c:List Nat,c.Perm l->Q (.y<|aH c) (sg H W Y d)):aZ (cx P) (n+2) (.ref<|P.e 29) [.f<|.e 7,.e a] (sg H W Y d) Q:=by
 refine K.e 29 rfl rfl<|dy<|bV _ K.G.g rfl ?_;refine oz<|aJ (n:=n+1) K (e:=.h 2 1<|.e 0) (v:=.f<|.e 9) (R:=λo b=>aF (cx P) (n+1) (.g 24 (.e 0)<|.e (.e 1) .f) _ b λk b=>∃x,gJ b o k=aa x/\kq b o/\aZ (cx P) (n+1) (.builtin "sorted") [x] b Q) rfl<|ck K 30 rfl rfl rfl rfl (vs:=[.e a]) rfl<|zI K h (gp<|cY f) j<|bV _ (JJ (b_.mp g).1) ?_ ?_;·show(il Y H.q.length).length<2^62;rw[tV,i];exact qx<|gp<|cY f
 ·refine Iq (is:=l.map λ(n:Nat)=>(n:Int)) ?_ (by rw[bq];exact m) λt p u=>?_;·exact pi<|(tX D g).trans<|aQ (λl=>aa<|O.e l)<|pn _
  ·refine aB (Xx p) λc r s=>?_;rw[s];exact q c r
def xW{e:c->V}{g:c->Option V}{l:List c}:∀{b:List V},(∀x∈l,∀k:Option V->St->Prop,k (g x) a->f (e x) a k)->k (b++l.filterMap g) a->h_ f (l.map e) b a k:=by induction l with|nil=>intro b m q;rw[NW,hK]at q;exact q|cons x l i=>intro b d q;refine d x bk _<|i (λy j=>d y<|bR _ j) ?_;rw[lN];cases h:g x with|none=>rw[As h]at q;exact q|some v=>rw[At h]at q;exact q
def Uj{p:a->Bool}{g:a->V}(l:List a):l.filterMap (λx=>if p x then aa (g x)else ae)=(l.filter p).map g:=by induction l with|nil=>rfl|cons x l b=>cases h:p x with|true=>rw[At (f:=λx=>if p x then aa (g x)else ae)<|aq h,NY h,b];rfl|false=>rw[As (f:=λx=>if p x then aa (g x)else ae)<|ap<|h▸dR,NX<|h▸dR,b]
def ID{e g:b->V}{p:b->Bool}{l:List b}(h:∀x∈l,∀k:Option V->St->Prop,k (if p x then aa (g x)else ae) a->f (e x) a k)(q:k (c++(l.filter p).map g) a):h_ f (l.map e) c a k:=xW h<|Uj l▸q
def xV{f:V->St->(Option V->St->Prop)->Prop}{k:List V->St->Prop}{g:Nat->V}{p:Nat->Bool}(h:∀x∈l,∀k:Option V->St->Prop,k (if p x then aa (g x)else ae) a->f (.e x) a k)(q:k (b++(l.filter p).map g) a):h_ f (aH l) b a k:=ID h q
def vH{f:V->St->(Option V->St->Prop)->Prop}{k:List V->St->Prop}{g:Nat->V}(h:∀x∈l,∀k:Option V->St->Prop,k (aa<|g x) a->f (.e x) a k)(q:k (b++l.map g) a):h_ f (aH l) b a k:=xW (g:=aa∘g) h<|congrFun EF l▸q
def Yi(a b:Nat):iX a b=aH ((bM<|b-a).map λk=>a+k):=by delta iX aH;rw[fh,Int.toNat_sub];exact kS λk c=>by congr 1
def su(b:Nat):iX 0 b=aH (bM b):=by have:=Yi 0 b;simpa using this
def Kh(a:Nat): -2^62<=(a:Int):=fK (by decide)<|ip a
def Ju{a:Nat}(h:a<1000):(a:Int)<2^62:=nD (kP.mpr<|bu h) (by decide)
def sA{a b:Nat}(c:a<1000)(h:b<1000):AX a b 1=true:=small_one (Kh a) (Ju c) (Kh b)<|Ju h
noncomputable def dT(b:List Nat):List Nat:=(bM b.length).filter λa=>decide<|b[a]? =aa a
def aaj(K:aG P)(f:H.e.length<1000)(q:Q (.y<|aH<|dT H.e) (sg H W Y d)):aZ (cx P) (n+1) (.ref<|P.e 30) [.f<|.e 7] (sg H W Y d) Q:=by
 refine K.e 30 rfl rfl<|dy<|bV _ K.G.e rfl<|oz<|aJ K (fD (e:=.h 2 0<|.e 0) (r:=.e 8) (l:=aH H.e) rfl rfl (by rw[bK];exact gp<|cY f) rfl) ?_;rw[bK];refine tC (sA (a:=0) bl f)<|bV _ rfl (by rw[su,bK,f9,bX];exact(bu<|aR f bl)) ?_;rw[su];refine xV (g:=λx=>.e x) (p:=λa=>decide<|H.e[a]? =aa a) (λx i k q=>?_) q;have i:=fz.mp i;obtain⟨c,j⟩:∃c,H.e[x]? =aa c:=⟨_,fg i⟩;have e:ev P [.f<|.e 7,.e x] (sg H W Y d) (.t .e (.q (.h 2 0<|.e 0)<|.e 1)<|.e 1)=aa (.g<|decide<|H.e[x]? =aa x):=by show((if decide ((aH H.e).length<2^62)=true then itemAt (aH H.e) x else ae).bind λu=>nS .e u<|.e x)=_;rw[aq<|bQ<|by rw[bK];exact(aR f bl),tQ j,j];show aa (V.g<|decide<|(c:Int)=x)=_;exact aQ (λb=>aa<|V.g b)<|decide_eq_decide.mpr ⟨λe=>aQ aa<|g_ e,λe=>aQ sR<|bo e⟩
 refine aJ (n:=n) K e ⟨_,rfl,?_⟩;by_cases h:H.e[x]? =aa x;·rw[aq<|bQ h]at q⊢;exact aJ K (e:=.e 1) rfl q
 ·rw[ap<|by simpa using h]at q⊢;exact q
end
section
variable{Y:be->Nat}{Q:V->St->Prop}
def B_(q:Q (.y [.e (min a b:Nat),.e (max a b:Nat)]) c):aZ (cx P) n (.builtin "sorted") [.y [.e a,.e b]] c Q:=by
 refine Iq (is:=[(a:Int),b]) rfl bl λg d e=>?_;have f8:∀{x y:Nat},x<=y->List.Pairwise (·<= ·) [(x:Int),y]:=λh=>wW.mpr ⟨λz f=>cP.mp f▸kP.mpr h,Oo ..⟩;rcases u4 a b with h|h;·rw[AF h,w9 h]at q;rw[d.eq_of_pairwise (λ_ _ _ _=>Aj) e<|f8 h];exact q
 ·rw[AG h,w8 h]at q;rw[(d.trans<|Ey ..).eq_of_pairwise (λ_ _ _ _=>Aj) e<|f8 h];exact q
def iZ(g:kr b)(h:a<b.length):ak b a<b.length/\b[ak b a]? =aa (ak b a):=by induction a using AK with
 |ind a i=>
  obtain⟨c,d⟩:∃c,b[a]? =aa c:=⟨_,fg h⟩;by_cases e:c=a;·subst e;rw[iY d];exact⟨h,d⟩
  ·have f:=mI (g a c d) e;rw[sy d f];exact i c f<|bj f h
def Js(h:l.length=H.q.length):c9 (H.a5 l) Y=c9 H Y:=by unfold c9;simp only[h]
noncomputable abbrev yM(H:Hp)(k g:Nat):Hp:=(((H.a2<|H.e.set g k).a5<|H.q.set k<|H.q.getD k []++H.q.getD g []).a6<|H.Z++[(k,g)])
def gS{l:List a}(x:a)(h:i<l.length):l[i]? =aa (l.getD i x):=by rw[jy,fg h];rfl
def aan(K:aG P)(D:Is H W Y X d)(f:kr H.e)(w:H.e.length<1000)(h:H.q.length=H.e.length){a b:Nat}(x:a<H.e.length)(y:b<H.e.length){k g:Nat}(z:k=min (ak H.e a) (ak H.e b))(A:g=max (ak H.e a) (ak H.e b))(I:(H.q.getD k []).length+(H.q.getD g []).length<2^20)(J:H.Z.length<2^20)(L:k=g->Q .t (sg H W Y d))(M:k≠g->∀B,Is (yM H k g) W Y X B->Q (.h [.e k,.e g]) (sg (yM H k g) W Y B)):aZ (cx P) (n+2) (.ref<|P.e 28) [.f<|.e 7,.e a,.e b] (sg H W Y d) Q:=by
 have C:=iZ f x;have N:=iZ f y;have lk:k<H.q.length:=by exact(aR (aL (ay (bf z)<|lQ ..) C.1)<|bf h.symm)
 have m:g<H.q.length:=aR (aL (bf A)<|Nat.max_lt.mpr ⟨C.1,N.1⟩)<|bf h.symm;have G:H.q.length<1000:=by exact(aL (bf h) w)
 have o:=gp<|cY w;refine K.e 28 rfl rfl<|bV _ K.G.g rfl<|oz (e:=.N _) ?_;refine ck K 30 rfl rfl rfl rfl (vs:=[.e a]) rfl<|zI K f o x<|ck K 30 rfl rfl rfl rfl (vs:=[.e b]) rfl<|zI K f o y<|.inl<|B_ ?_;rw[<-z,<-A];refine⟨_,.inr rfl,rfl,bl,nu,bl,nu,?_⟩;refine rA K (c:=decide<|(k:Int)=g) rfl (λe=>eO K (e:=.L) rfl<|L<|g_<|cR e) λe=>?_;have R:k≠g:=λq=>sj e<|aQ sR q;have s:=gS [] lk;have U:=gS [] m;refine co<|aJ (n:=n+1) K (e:=.e 3) rfl<|HA (l:=aH H.e) K (r:=.e 8) rfl rfl rfl (by rw[bK];exact(aR m<|bf h)) (by rw[bK];exact qx o) ?_;rw[KC,y_];have j:Is (H.a2<|H.e.set g k) W Y X d:=D;refine d9<|ny K (k:=1) (r:=.f<|Y<|.p k) (vs:=[cH Y<|.p g]) (yk (H:=(H.a2<|H.e.set g k)) rfl rfl lk G) (tX j s) F.slot_list_extend rfl ?_<|Ij (tX j s) (l2:=aH<|H.q.getD g []) ?_ (by rw[bK,bK];exact(bu<|aR I bl)) ?_;·show(ev P _ _<|.q (.h 2 1<|.e 0)<|.e 4).bind _=_;rw[yk (H:=(H.a2<|H.e.set g k)) (i:=g) rfl rfl m G];rfl
 ·exact pi<|tX j U
 rw[CW,i4];have D2:Is ((H.a2<|H.e.set g k).a5<|H.q.set k<|H.q.getD k []++H.q.getD g []) W Y X _:=Is.T j (t:=.p k) (by show(H.q[k]?).map cv=_;rw[s];rfl) (o':=cv<|H.q.getD k []++H.q.getD g []) (by show((H.q.set k _)[k]?).map cv=_;rw[mG lk];rfl) λu hu=>CS (H:=(H.a2<|H.e.set g k)) hu λi hi=>kR<|dM hi;rw[<-Js (H:=(H.a2<|H.e.set g k)) (l:=H.q.set k<|H.q.getD k []++H.q.getD g []) oM];refine mR K (r:=.e 10) (l:=H.Z.map λp=>.h [.e p.1,.e p.2]) (v:=.h [.e k,.e g]) rfl rfl rfl (by rw[bq];exact jp J) ?_;rw[show(H.Z.map λp=>V.h [.e p.1,.e p.2])++[V.h [.e k,.e g]]=(H.Z++[(k,g)]).map λp=>V.h [.e p.1,.e p.2] by simp,Lh];exact eO K (v:=.h [.e k,.e g]) rfl<|M R _ D2
end
section
variable{Y:be->Nat}{Q:V->St->Prop}
def vK{i j:Int}(b:ev P m a e=aa (.e i))(c:ev P m a f=aa (.e j)):ev P m a (.t .h e f)=aa (.g<|decide<|j<i):=by show((ev P m a e).bind λu=>(ev P m a f).bind λv=>nS .h u v)=_;rw[b,c];rfl
def ig(b:ev P m a e=aa u)(c:ev P m a f=aa v)(h:rK o u v=aa x):ev P m a (.J o e f)=aa x:=by show((ev P m a e).bind λu=>(ev P m a f).bind λv=>rK o u v)=_;rw[b,c];exact h
noncomputable def mV(p:Nat×Nat):V:=.h [.e p.1,.e p.2]
noncomputable abbrev p5(H:Hp)(a:List (Nat×Nat))(k g:Nat):Hp:=(((H.a2<|H.e.set g g).a5<|H.q.set k<|(H.q.getD k []).take<|(H.q.getD k []).length-(H.q.getD g []).length).a6 a)
def IU{i:Nat}(D:Is H W Y X d)(b:m[0]? =aa (.f<|.e 7))(c:ev P m (sg H W Y d) e=aa (.e i))(a:i<H.q.length)(f:H.q.length<1000)(g:(H.q.getD i []).length<2^20):ev P m (sg H W Y d) (.f 3<|.e (.q (.h 2 1<|.e 0) e) .f)=aa (.e (H.q.getD i []).length):=fD (r:=.f<|Y<|.p i) (yk b c a f) (tX D<|gS [] a) (by rw[bK];exact g) (by rw[bK])
def aai(K:aG P)(D:Is H W Y X d)(B:H.e.length<1000)(o:H.q.length=H.e.length){a:List (Nat×Nat)}{k g:Nat}(s:H.Z=a++[(k,g)])(w:a.length<2^19)(J:k<H.e.length)(C:g<H.e.length)(G:(H.q.getD g []).length<=(H.q.getD k []).length)(f:(H.q.getD k []).length<2^20)(q:∀c,Is (p5 H a k g) W Y X c->Q .t (sg (p5 H a k g) W Y c)):aZ (cx P) (n+1) (.ref<|P.e 31) [.f<|.e 7,.e a.length] (sg H W Y d) Q:=by
 have x:H.q.length<1000:=o▸B;have lk:k<H.q.length:=o▸J;have L:g<H.q.length:=o▸C;have I:∀(H':Hp)(c:cU)(m:List V),m[0]? =aa (.f<|.e 7)->m[1]? =aa (.e a.length)->H'.Z.length<2^20->ev P m (sg H' W Y c) (.t .h (.f 3<|.e (.h 2 2<|.e 0) .f)<|.f 10<|.e (.e 1)<|.e (.p 0) .f)=aa (.g<|decide<|max (a.length:Int) 0<H'.Z.length):=λH' c m y z M=>by
  refine vK (fD (r:=.e 10) (l:=H'.Z.map mV) ?_ rfl (by rw[bq];exact M)<|by rw[bq]) ?_;·show((m[0]?).bind c8).bind _=_;rw[y];rfl
  ·exact TW (u:=.e a.length) (v:=.e 0) (by show(m[1]?).bind c8=_;rw[z];rfl) rfl rfl
 refine K.e 31 rfl rfl<|tr K (λj m A=>(j=1/\m=[.f<|.e 7,.e a.length,.q,.q]/\A=sg H W Y d)\/(m[0]? =aa (.f<|.e 7)/\m[1]? =aa (.e a.length)/\∃c,Is (p5 H a k g) W Y X c/\A=sg (p5 H a k g) W Y c)) (.inl ⟨rfl,rfl,rfl⟩) ?_;rintro j m A (⟨rfl,rfl,rfl⟩|⟨y,z,c,N,rfl⟩)
 ·refine⟨true,?_,?_⟩;·rw[I H d _ rfl rfl<|by rw[s,bm];exact aR (jS w) bl,s,bm];exact aQ (λb=>aa<|V.g b)<|bQ<|Ky _
  ·refine gF<|ny K (r:=.e 10) (l:=H.Z.map mV) (vs:=[]) rfl rfl F.slot_list_pop rfl rfl<|p7 (l:=a.map mV) (v:=mV (k,g)) (by rw[<-List.map_singleton,<-ja,<-s];rfl) (by rw[bq,bX];exact(aR w bl)) ⟨_,.inl rfl,rfl,bl,nu,bl,nu,?_⟩
   ·rw[show(a.map mV)=a.map λp=>V.h [.e p.1,.e p.2]from rfl,Lh];have D1:Is (H.a6 a) W Y X d:=D;refine co<|aJ (n:=n) K (e:=.e 3) rfl<|HA (l:=aH H.e) K (r:=.e 8) (i:=g) rfl rfl rfl (by rw[bK];exact C) (by rw[bK];exact qx<|gp<|cY B) ?_;rw[KC,y_];have h:Is ((H.a6 a).a2<|H.e.set g g) W Y X d:=D;refine BL K (r:=.f<|Y<|.p k) (l:=aH<|H.q.getD k []) (i:=(H.q.getD k []).length-(H.q.getD g []).length) (yk (H:=((H.a6 a).a2<|H.e.set g g)) rfl rfl lk x) (ig (IU h rfl rfl lk x f) (IU h rfl rfl L x<|aL G f) ?_) (tX h<|gS [] lk) (by exact(aR (aL (E8 ..) f) bl)) (by rw[bK];exact(aR f bl)) ?_;·show aa (V.e<|_-_)=_;rw[Int.natCast_sub G]
    ·rw[CX,i4];refine(aC 0 OV<|.inr<|UZ rfl rfl _ (Is.T h (t:=.p k) (H':=p5 H a k g) (by show(H.q[k]?).map cv=_;rw[gS [] lk];rfl) (by show((H.q.set k _)[k]?).map cv=_;rw[mG lk];rfl) λu R=>CS (H:=((H.a6 a).a2<|H.e.set g g)) R λi U=>kR<|dM U) ?_);show Sg (_::(c9 ((H.a6 a).a2<|H.e.set g g) Y++_)) _=Sg (_::(c9 (p5 H a k g) Y++_)) _;rw[Js (H:=((H.a6 a).a2<|H.e.set g g)) (l:=H.q.set k _) oM];rfl
 ·refine⟨false,?_,?_⟩;·rw[I _ c m y z<|aR w bl,dz<|by simp]
  ·rw[ap<|by decide];exact bN<|q c N
noncomputable abbrev xX(H:Hp)(k:Nat):Hp:=((H.a2<|H.e.take k).a5<|H.q.take k)
def TS(i:Int):dI (.list [.int i]) (.list [.int i])=true:=by simp[dI,pP]
set_option tactic.hygienic true in
theorem aak(K:aG P)(D:Is H W Y X d)(p:kr H.e)(b:H.e.length<1000)(h:H.q.length=H.e.length)(c:H.e.length=k+1)(s:H.e[k]? =aa k)(w:H.q[k]? =aa [k])(q:Is (xX H k) W Y X d->Q .t (sg (xX H k) W Y d)):aZ (cx P) (n+3) (.ref<|P.e 32) [.f<|.e 7,.e k] (sg H W Y d) Q:=by
 have x:=gp<|cY b;refine K.e 32 rfl rfl<|BQ K (v:=.e k) ?_ bl rfl ?_;·show aa (V.e<|max (k:Int) 0)=_;exact aQ (λi=>aa<|V.e i)<|Kx k
 refine(bV _ K.G.e rfl ?_);refine aJ (n:=n+2) K (e:=.e 1) (v:=.e k) (R:=λu f=>aF (cx P) (n+2) (.f 3<|.e (.h 2 0<|.e 0) .f) _ f λv f=>aZ (cx P) (n+2) (.type "range") [u,v] f _) rfl<|aJ (n:=n+2) K (fD (e:=.h 2 0<|.e 0) (r:=.e 8) (l:=aH H.e) rfl rfl (by rw[bK];exact x) rfl) ?_;rw[bK];refine SE (sA (by exact(bj (aR (bY _)<|bf c.symm) b)) b)<|c_ _ _ rfl ?_;have e:iX (k:Int) (H.e.length:Int)=[V.e k]:=by rw[c];simp[iX]
 rw[e];refine⟨bl,nu,?_⟩;refine fm<|ck K 32 rfl rfl rfl rfl (vs:=[.e k]) rfl<|MK K D p b h (a:=k) (by exact(aR (bY _)<|bf c.symm)) (l:=[k]) (by rw[iY s];exact w) bl λB y=>?_;obtain rfl:=List.perm_singleton.mp y;have j:iL (.y [.e k]) (.list [.int k]):=⟨rfl,rfl,wZ rfl⟩;refine ky (n:=n+2) K.G (es:=.e (.e 2) .f) (vs:=[.e k]) (Q:=λvs f=>iK vs f _) rfl<|.inl ⟨_,_,j,j,false,by rw[TS];rfl,?_⟩;refine⟨trivial,BL K (r:=.e 8) (l:=aH H.e) (i:=k) rfl rfl rfl (by exact(aR (bj (aR (bY _)<|bf c.symm) b) bl)) (by rw[bK];exact(aR b bl)) ?_⟩;rw[CX,y_];refine BL K (r:=.e 9) (l:=il Y H.q.length) (i:=k) rfl rfl rfl (by exact(aR (bj (aR (bY _)<|bf c.symm) b) bl)) (by rw[tV];exact(aR (aL (bf h) b) bl)) ?_;have z:(il Y H.q.length).take k=il Y (H.q.take k).length:=by unfold il;rw[<-ET,List.take_range,uV]
 rw[z,Tg];refine bN<|q<|DP.y D λt o m=>?_;cases t<;>first|exact m|skip
 rename_i i;refine aB (fj.mp<|show((H.q.take k)[i]?).map cv=aa o from m) λl g A=>?_;subst A;show(H.q[i]?).map cv=_;rw[N8]at g;split at g;·rw[g];rfl
 ·cases g
end
section
variable{Y:be->Nat}{Q:V->St->Prop}
noncomputable def R7(c:Nat):Bool:=((⟨#[c]⟩:ah).length>0&&(⟨#[c]⟩:ah).cps.all Gw)||decide (c∈("()[]{},:":ah).cps.toList)
def j0(x:ah):Bool:=dm x&& !(x==("":ah))&&x.cps.toList.all (λc=>!R7 c)&&decide (x.length<1000)&&decide (0<x.cps.toList.length)&& !((x.cps.toList.take 1)==("?":ah).cps.toList)
def lB(h:dm x=true):iL (.p x) (.str x):=(kz rfl h<|wZ rfl)
def uc:iL (.y []) (.list []):=(kz rfl rfl<|wZ rfl)
def tI(x y:ah):dI (.str x) (.str y)=(x==y):=rfl
def IT:dI (.list []) (.list [])=true:=rfl
def U'(K:aG P){x:ah}(h:j0 x=true)(q:Q (.g true) σ):aZ (cx P) (n+1) (.ref<|P.e 15) [.p x] σ Q:=by
 have h:=(aj (aj h).1).1;have i:=cR (aj h).2;have h:=aj (aj h).1;have j:=(aj h.1).1;have m:=gV (aj h.1).2;refine K.e 15 rfl rfl<|dy ?_;refine sK<|gz K (u:=.p x) (v:=.p "") rfl rfl ⟨_,_,lB j,lB<|by decide+kernel,true,by rw[tI,m];rfl,?_⟩;refine ju<|DY K (u:=.p x) (xs:=sC x) rfl rfl ?_ ?_;·have:(sC x).length=x.cps.toList.length:=bq ..;have o:x.cps.toList.length=x.length:=gL;rw[this,bX];exact(bu<|aR (aL (bf o) i) bl)
 refine xW (l:=x.cps.toList) (e:=λc=>.p ⟨#[c]⟩) (g:=λa=>ae) (λc p k q=>?_) ?_;·have b:=M9.mp<|gV<|ir.mp h.2 c p;refine nz<|aJ (n:=n) K (e:=.e 1) (v:=.p ⟨#[c]⟩) (R:=λd σ=>∃f,MethAt (cx P) σ d ((cx P).g 6) f/\aZ (cx P) n f [d] σ _) rfl<|aC _ (Wx F.slot_str_isspace rfl)<|Sy ⟨false,by rw[<-b.1],?_⟩;refine gz K (u:=.p ⟨#[c]⟩) (v:=.p "()[]{},:") rfl rfl<|rV c rfl false (by rw[b.2]) ?_;exact q
 ·rw[NV.mpr λa a=>rfl];exact .inl<|cp _ _ uc uc q
def Yg(K:aG P)(h:j0 x=true)(q:Q .t σ):aZ (cx P) (n+2) (.ref<|P.e 19) [.f r,.p x] σ Q:=by
 have b:=h
 unfold j0 at b
 simp only[kK,zV,decide_eq_true_eq,ir]at b
 obtain⟨⟨⟨⟨⟨d,m⟩,o⟩,j⟩,g⟩,i⟩:=b
 obtain⟨c,a,f⟩:∃c a,x.cps.toList=c::a:=by
  cases e:x.cps.toList with
  |nil=>rw[e]at g;exact aD g (by decide)
  |cons c a=>exact(rW c a rfl)
 refine cj (K.h 1 15 15 rfl) λk l=>K.e 19 rfl rfl<|fm<|bV _ k l<|aJ (n:=n+1) K (e:=.e 1) (v:=.p x) (R:=λv σ=>aZ (cx P) (n+1) (.ref<|P.e 15) [v] σ _) rfl<|U' K h<|rV true rfl false rfl ?_
 refine gz K (u:=.p ⟨#[c]⟩) (v:=.p "?") ?_ rfl ⟨_,_,lB ?_,lB<|by decide+kernel,false,?_,?_⟩
 ·show(if decide (x.length<2^62)=true then(if 0<=(0:Int)then(x.cps.toList[0]?).map λc=>V.p ⟨#[c]⟩else ae)else ae)=_
  rw[aq<|bQ<|by exact(aR j bl),f];rfl
 ·unfold dm at d⊢
  rw[<-M0,f,wP,kK]at d
  rw[<-M0,wP,d.1];rfl
 ·rw[tI]
  rw[f]at i
  exact aQ V.g<|lp.mpr λe=>lp.mp i<|aQ (λs:ah=>s.cps.toList) e
 ·rw[ap<|by decide]
  exact bN q
end
section
variable{Y:be->Nat}{Q:V->St->Prop}
def r8(f:b->c)(l:List b)(a:b):l.map f++[f a]=(l++[a]).map f:=by rw[ja];rfl
def R_(K:aG P)(a:H.f.length<1000)(q:Q (.e H.f.length) (sg H W Y d)):aZ (cx P) (n+1) (.ref<|P.e 17) [.f<|.e 2] (sg H W Y d) Q:=K.e 17 rfl rfl<|eO K (fD (r:=.e 3) (l:=H.f.map bp) rfl rfl (by rw[bq];exact gp<|cY a) rfl) (by rw[bq];exact q)
def IV{m:List V}{e:E}{i:Nat}{k:Nd}(a:m[0]? =aa (.f<|.e 2))(b:ev P m (sg H W Y d) e=aa (.e i))(c:H.f[i]? =aa k)(f:H.f.length<1000):ev P m (sg H W Y d) (.q (.h 1 0<|.e 0) e)=aa (bp k):=by show((((m[0]?).bind c8).bind λv=>pZ _ 1 0 v).bind λo=>(ev P m (sg H W Y d) e).bind λk=>if i3 (sg H W Y d) o then gJ (sg H W Y d) o k else ae)=_;rw[a,b];show(if decide ((H.f.map bp).length<2^62)=true then(if 0<=(i:Int)then(H.f.map bp)[i]? else ae)else ae)=_;rw[aq<|bQ<|by rw[bq];exact qx<|gp<|cY f,aq<|ip i,fT,c];rfl
def H5(K:aG P)(a:H.f.length<1000){i:Nat}{k:Nd}(b:H.f[i]? =aa k)(c:k.2.length<1000)(q:Q (.p k.1) (sg H W Y d)):aZ (cx P) (n+1) (.ref<|P.e 21) [.f<|.e 2,.e i] (sg H W Y d) Q:=by refine K.e 21 rfl rfl<|eO K (v:=.p k.1) ?_ q;show(ev P _ _<|.q (.h 1 0<|.e 0)<|.e 1).bind _=_;rw[IV (k:=k) rfl rfl b a];show(if decide ((f5 k).length<2^62)=true then _ else ae)=_;rw[aq<|bQ<|by unfold f5;rw[iu,bK];exact(aL (jA c) bl)];rfl
def xR(K:aG P)(a:H.f.length<1000){i:Nat}{k:Nd}(b:H.f[i]? =aa k)(c:k.2.length<1000)(q:Q (.h<|aH k.2) (sg H W Y d)):aZ (cx P) (n+1) (.ref<|P.e 22) [.f<|.e 2,.e i] (sg H W Y d) Q:=by
 refine K.e 22 rfl rfl<|dy<|qQ K (u:=bp k) (v:=.e 1) (IV rfl rfl b a) rfl ⟨1,rfl,by decide,by decide,fy _,?_,?_,q⟩;·show 1<=(f5 k).length;exact eM<|da _
 ·show(f5 k).length<2^24;unfold f5;rw[iu,bK];exact(aL (jA c) bl)
def C3(h:numOf a k=ae):numOf (a++[k])=ai (numOf a) k (aa a.length):=by
 funext x;delta numOf List.idxOf? at*;rw[List.findIdx?_append];by_cases e:x=k;·subst e;rw[h,bg];simp[EI]
 ·rw[aI e];simp[EI,dM e]
def KR(h:a.length<1000):eW (kV<|numOf a):=by
 refine yp ⟨a,by exact(aR h bl),λk b=>?_⟩;by_cases e:k∈a;·exact e
 ·exact aD (uU.mpr e) b
theorem Mj:∀{l:List Int},(∀w∈l,0<=w/\w<2^40)->0<=l.sum/\l.sum<=l.length*2^40|[],_=>by simp|a::l,h=>by have b:=h a bk;have c:=Mj λw d=>h w<|bR _ d;rw[List.sum_cons,iu,NH,Nt,NI,wI];exact⟨wJ c.1 b.1,Ee c.2<|nC b.2⟩
def Cb{is:List Int}(c:fP σ u=aa (is.map .e))(d:is.length<=2)(a:∀w∈is,0<=w/\w<2^40)(q:Q (.e is.sum) σ):aZ (cx P) n (.builtin "sum") [u] σ Q:=SK c (λi b=>⟨Ki (a i b).1,UU (a i b).2⟩) (λk f=>(λh=>⟨Ki h.1,ZM h.2<|ay (List.length_take_le' ..) d⟩)<|Mj λw e=>a w<|Oj e) q
theorem Jg{Q:Fl->List V->St->Prop}(I:List V->Prop)(d:c σ):∀{l:List V}{m:List V},(∀x∈l,∀m,I m->∀k:Fl->List V->St->Prop,(∀a,I a->k .e a σ)->f x m σ k)->I m->(∀a,I a->Q .e a σ)->eG f c l m σ Q|[],m,_,b,q=>q m b|x::l,m,e,b,q=>e x bk m b _ λa g=>⟨d,Jg I d (λy h=>e y<|bR _ h) g q⟩
def Wq:∀(l:List Int)(x:Int),∃y∈x::l,∀z∈x::l,z<=y:=by intro d;induction d with
 |nil=>intro x;exact⟨x,bk,λz b=>by rw[cP.mp b];exact fy _⟩
 |cons a l e=>
  intro x;refine aB (e a) λy f h=>?_;by_cases c:x<=y
  ·refine⟨y,bR _ f,λz b=>?_⟩;rcases cB.mp b with rfl|b;·exact c
   ·exact h z b
  ·refine⟨x,bk,λz b=>?_⟩;rcases cB.mp b with rfl|b;·exact fy _
   ·exact fK (h z b)<|nC<|Ao.mp c
noncomputable abbrev uw(H:Hp)(k:Nd)(e:Int):Hp:=(((H.a'<|H.f++[k]).b1<|H.T++[1+(k.2.map λi=>H.T.getD i 0).sum]).b0<|H.Y++[e])
def Sa(K:aG P)(D:Is H W Y X d)(A:H.f.length<999)(p:H.T.length=H.f.length)(B:H.Y.length=H.f.length)(N:j0 x=true)(o:a.length<=2)(s:∀k∈a,k<H.f.length)(U:∀w∈H.T,0<=w/\w<2^40)
  (q1:∀i,numOf H.f (x,a)=aa i->Q (.e i) (sg H W Y d))(q2:numOf H.f (x,a)=ae->∀e,Is (uw H (x,a) e) W Y X d->Q (.e H.f.length) (sg (uw H (x,a) e) W Y d)):
  aZ (cx P) (n+3) (.ref<|P.e 18) [.f<|.e 2,.p x,.h<|aH a] (sg H W Y d) Q:=by
 have c:=gp<|cY<|cY A
 refine K.e 18 rfl rfl<|co<|kM K (u:=.h [.p x]) rfl<|dW K K.G.p rfl<|aJ K (e:=.e 2) rfl<|SL<|.inl ⟨bp (x,a),aq ?_,bl,nu,?_⟩
 ·show 1+(aH a).length<=1000
  rw[bK];exact(ay (cy o _) bl)
 refine fm<|gz K (u:=bp (x,a)) (v:=.f<|.e 4) rfl rfl ⟨gh (x,a),tU _,_,rfl,?_⟩
 rw[pb]
 cases t:numOf H.f (x,a)with
 |some i=>
  refine dy<|sM K (u:=.f<|.e 4) rfl<|aJ K (e:=.e 3) (v:=bp (x,a)) rfl ⟨.e i,?_,trivial,q1 i t⟩
  show(kB<|bp (x,a)).bind (kV<|numOf H.f)=_
  rw[tU]
  show kV _ _=_
  rw[pb,t];rfl
 |none=>
  rw[ap<|by exact dR]
  refine d9<|ck K 21 rfl rfl rfl rfl (vs:=[.p x]) rfl<|Yg K N ?_
  have L:∀(l:List Int)(i:Nat),i<l.length->itemAt (l.map V.e) (i:Int)=aa (.e<|l.getD i 0):=λl i h=>by
   unfold itemAt
   rw[aq<|ip i]
   show(l.map _)[i]? =_
   rw[fT,gS 0 h];rfl
  have wb:∀w∈a.map λi=>H.T.getD i 0,0<=w/\w<2^40:=λw hw=>by
   refine aB (cq.mp hw) λi j C=>?_;subst C
   apply U _
   rw[jy,fg<|by rw[p];exact s i j]
   exact s0 _
  have G:∀{m:List V}{σ:St}{R:V->St->Prop}{n:Nat},m[3]? =aa (bp (x,a))->R (.h<|aH a) σ->aF (cx P) n (.a (.e 3)<|.p 1) m σ R:=λ{m σ R n}h3 q=>by
   refine qQ K (u:=bp (x,a)) (v:=.e 1) ?_ rfl ⟨1,rfl,by decide,by decide,fy _,?_,?_,q⟩
   ·show(m[3]?).bind c8=_
    rw[h3];rfl
   ·exact eM<|da _
   ·show(f5 (x,a)).length<2^24
    unfold f5;rw[iu,bK];show a.length+1<_;exact(aL (dr o _) bl)
  refine mS<|G rfl ⟨aH a,_,rfl,Jg (λm=>∃z,m=[.f<|.e 2,.p x,.h<|aH a,bp (x,a),z]) trivial (λy I m J k q=>?_) ⟨_,rfl⟩ λm J=>?_⟩
  ·obtain⟨z,rfl⟩:=J
   refine aB (cq.mp I) λi j C=>?_;subst C
   refine⟨bl,nu,fm<|wF<|DT K (u:=.e 0) (v:=.e i) (r:=true) rfl rfl (fD (r:=.e 3) (l:=H.f.map bp) rfl rfl (by rw[bq];exact c) rfl) ?_ ?_ ⟨true,rfl,false,rfl,?_⟩⟩
   ·exact aQ (λb=>aa<|V.g b)<|bQ<|ip i
   ·exact aQ (λb=>aa<|V.g b)<|bQ (by rw[bq];exact hH.mpr<|s i j)
   ·rw[ap<|by decide]
    exact bN<|q _ ⟨_,rfl⟩
  ·obtain⟨z,rfl⟩:=J
   refine co<|aJ K (fD (e:=.h 1 0<|.e 0) (r:=.e 3) (l:=H.f.map bp) rfl rfl (by rw[bq];exact c) rfl)<|Qu K (r:=.e 4) (f:=kV<|numOf H.f) (l:=f5 (x,a)) (at_:=gh (x,a)) rfl rfl (tU _) rfl (KR<|by exact(aR A bl)) ?_
   rw[bq,CG,<-C3 t]
   refine mR K (r:=.e 3) (l:=H.f.map bp) (v:=bp (x,a)) rfl rfl rfl (by rw[bq];exact jp c) ?_
   rw[r8 bp,X1]
   refine d9<|oF (r:=.e 5) (l:=H.T.map .e) K rfl rfl F.slot_list_append rfl<|oz<|kM K (u:=.e 1) rfl<|dW K K.G.F rfl<|kO<|G rfl ⟨aH a,rfl,by rw[bK,bX];exact(ay o bl),vH (g:=λi=>.e<|H.T.getD i 0) (λi j k q=>?_) ?_⟩
   ·refine aJ K (e:=.q (.h 1 2<|.e 0)<|.e 5) ?_ q
    show(if decide ((H.T.map V.e).length<2^62)=true then itemAt (H.T.map V.e) (i:Int)else ae)=_
    rw[aq<|bQ<|by rw[bq,p];exact qx c,L _ _<|by rw[p];exact s i j]
   refine Cb (is:=a.map λi=>H.T.getD i 0) (by rw[fh];rfl) (by rw[bq];exact o) wb<|.inl ⟨_,rfl,?_⟩
   refine o9 (l:=H.T.map .e) rfl (by rw[bq,p];exact jp c) ?_
   rw[r8 V.e,Lk]
   refine d9<|oF (r:=.e 6) (l:=H.Y.map .e) K rfl rfl F.slot_list_append rfl<|oz<|kM K (u:=.e 1) rfl<|dW K K.G.t rfl ?_
   refine oC<|kO<|G rfl ⟨aH a,rfl,by rw[bK,bX];exact(ay o bl),vH (g:=λi=>.e<|H.Y.getD i 0) (λi j k q=>?_) ?_⟩
   ·refine aJ K (e:=.q (.h 1 3<|.e 0)<|.e 5) ?_ q
    show(if decide ((H.Y.map V.e).length<2^62)=true then itemAt (H.Y.map V.e) (i:Int)else ae)=_
    rw[aq<|bQ<|by rw[bq,B];exact qx c,L _ _<|by rw[B];exact s i j]
   refine ky K.G (es:=.e (.p 0) .f) (vs:=[.e 0]) (Q:=λvs σ=>iK vs σ _) rfl<|.inl<|.inr ⟨_,_,rfl,rfl,rfl,?_,.inl ?_⟩
   ·rw[bm,bq,bX]
    show 0+a.length+1<=_
    exact(ay (dr (cy o _) _) bl)
   refine aB (Wq (a.map λi=>H.Y.getD i 0) 0) λy I aK=>B9 (is:=(a.map λi=>H.Y.getD i 0)++[0]) (x:=y) ?_ ?_ ?_<|.inl ⟨_,rfl,?_⟩
   ·rw[ja,fh];rfl
   ·rw[fi,cP];exact(cB.mp I).symm
   ·intro z M
    rw[fi,cP]at M
    exact aK z<|cB.mpr M.symm
   refine o9 (l:=H.Y.map .e) rfl (by rw[bq,B];exact jp c) ?_
   rw[r8 V.e,Lb]
   refine eO K (v:=.e H.f.length) ?_<|q2 t _ D
   refine ig (fD (e:=.h 1 0<|.e 0) (r:=.e 3) (l:=(H.f++[(x,a)]).map bp) rfl rfl (by rw[bq,bm];exact gp<|cY<|jS A) rfl) rfl ?_
   rw[bq,bm]
   show aa (V.e<|((H.f.length+1:Nat):Int)-1)=_
   rw[wL,An,Ah]
end
section
variable{Y:be->Nat}{Q:V->St->Prop}
def WY(h:k∉a):ai (numOf<|a++[k]) k ae=numOf a:=by
 have b:numOf a k=ae:=uU.mpr h;rw[C3 b];funext x;by_cases e:x=k;·subst e;rw[bg,b]
 ·rw[aI e,aI e]
def WX(h:k∉a):numOf (a++[k]) k=aa a.length:=by rw[C3<|uU.mpr h,bg]
noncomputable abbrev xZ(H:Hp)(l:List Nd)(w e:List Int):Hp:=(((H.a' l).b1 w).b0 e)
def R8(K:aG P)(D:Is H W Y X d){w e:Int}(a:H.f=l++[k])(u:H.T=c++[w])(x:H.Y=g++[e])(p:k∉l)(i:l.length<900)(y:c.length<900)(z:g.length<900)(q:Is (xZ H l c g) W Y X d->Q .t (sg (xZ H l c g) W Y d)):aZ (cx P) (n+1) (.ref<|P.e 20) [.f<|.e 2,.e l.length] (sg H W Y d) Q:=by
 have s:∀(h:Hp),h.f.length<1000->ev P [.f<|.e 2,.e l.length] (sg h W Y d) (.t .h (.f 3<|.e (.h 1 0<|.e 0) .f)<|.f 10<|.e (.e 1)<|.e (.p 0) .f)=aa (.g<|decide<|max (l.length:Int) 0<h.f.length):=λh A=>vK (fD (r:=.e 3) (l:=h.f.map bp) rfl rfl (by rw[bq];exact gp<|cY A)<|by rw[bq]) rfl;refine K.e 20 rfl rfl<|tr K (λj m σ=>m=[.f<|.e 2,.e l.length]/\((j=1/\σ=sg H W Y d)\/σ=sg (xZ H l c g) W Y d)) (k₀:=1) ⟨rfl,.inl ⟨rfl,rfl⟩⟩ ?_;rintro j m σ ⟨rfl,⟨rfl,rfl⟩|rfl⟩
 ·refine⟨true,?_,?_⟩;·rw[s H<|by rw[a,bm];exact jS<|bj i bl,a,bm];exact aQ (λb=>aa<|V.g b)<|bQ<|Ky _
  ·refine d9<|aJ (n:=n) K (e:=.h 1 1<|.e 0) (v:=.f<|.e 4) (R:=λt σ=>∃f,MethAt (cx P) σ t ((cx P).g 2) f/\aF (cx P) n (.g 2 (.h 1 0<|.e 0) .f) _ σ λv σ=>aZ (cx P) n f [t,v] σ _) rfl<|aC _ (vX (o:=.p<|kV<|numOf H.f) rfl rfl F.slot_dict_pop rfl)<|ny K (r:=.e 3) (l:=l.map bp++[bp k]) (vs:=[]) rfl (by rw[r8,<-a];rfl) F.slot_list_pop rfl rfl<|p7 (by rw[r8,<-a];rfl) (by rw[bq,bX];exact(aR i bl)) ?_;refine Su K.O (m:=kV<|numOf H.f) (k:=gh k) rfl (tU k) (by rw[pb,a,WX p];rfl) (KR<|by rw[a,bm];exact jS<|bj i bl) ?_;rw[JS,a,WY p,X2];refine vt K (r:=.e 5) (l:=c.map .e) (v:=.e w) rfl (by rw[r8,<-u];rfl) (by rw[bq];exact(aR y bl)) ?_;rw[Lk];refine vt K (r:=.e 6) (l:=g.map .e) (v:=.e e) rfl (by rw[r8,<-x];rfl) (by rw[bq];exact(aR z bl)) ?_;rw[Lb];exact(bV 0 OV rfl<|.inr rfl)
 ·refine⟨false,?_,?_⟩;·rw[s _<|bj i bl,dz<|by simp]
  ·rw[ap<|by decide];exact bN<|q D
end
section
variable{X:be->Nat}{Q:V->St->Prop}
def bD(l:List Nat):Int->Option V:=iV (λn=>if n∈l then aa ()else ae) λa=>.g true
def QY(n:Nat):cD (λa=>ae) (n:Int) (aa<|.g true)=bD [n]:=by
 have e:(λa=>ae:Int->Option V)=iV (λa=>(ae:Option Unit)) λa=>.g true:=by funext x;cases x<;>rfl
 rw[e];exact tM _ _ _ _ n _ (by simp) λi b=>by simp[b]
def Q0(l:List Nat)(n:Nat):cD (bD l) (n:Int) (aa<|.g true)=bD (n::l):=tM _ _ _ _ n _ (by simp) λi a=>by simp[a]
def HZ(l:List Nat)(n:Nat):(bD l (n:Int)).isSome=decide (n∈l):=by
 show((if n∈l then aa ()else ae).map _).isSome=_;by_cases h:n∈l;·rw[aq h,bQ h];rfl
 ·rw[ap h,dz h];rfl
def H4(l:List Nat)(k:Int):bD l k≠ae↔∃n:Nat,k=n/\n∈l:=by cases k with
 |ofNat i=>
  show((if i∈l then aa ()else ae).map _)≠ae↔_;by_cases h:i∈l;·rw[aq h];exact⟨λa=>⟨i,rfl,h⟩,λa e=>aY e.symm⟩
  ·rw[ap h];exact⟨λe=>aD rfl e,λ⟨n,e,b⟩=>aD (g_ e▸b) h⟩
 |negSucc i=>exact⟨λe=>aD rfl e,λ⟨n,e,_⟩=>nomatch e⟩
def B4(a:N<2^20)(h:∀x∈l,x<N):eW (bD l):=yo a λi b=>h i (by
 by_cases e:i∈l;·exact e
 ·exact aD (ap e) b)
def QX{k:Int}(h:bD l k≠ae):k∈l.map λ(n:Nat)=>(n:Int):=by refine aB ((H4 l k).mp h) λn a b=>?_;subst a;exact cq.mpr<|aC n b rfl
noncomputable def f8(d:cU)(Y:Nat)(a b:O):cU:=ai (ai d Y<|aa<|aa a) (Y+1)<|aa<|aa b
def MF:aT (sg H W X<|f8 d Y a b) (.f Y)=aa a:=by show(f8 d Y a b Y).join=_;unfold f8;rw[aI<|bZ<|bY Y,bg];rfl
def zH:aT (sg H W X<|f8 d Y a b) (.f<|Y+1)=aa b:=by show(f8 d Y a b<|Y+1).join=_;unfold f8;rw[bg];rfl
def aad:ai (f8 d Y a b) Y (aa<|aa c)=f8 d Y c b:=by
 funext x;delta f8 ai;by_cases e:x=Y;·subst e;simp
 ·simp[e]
def MH:ai (f8 d Y a b) (Y+1) (aa<|aa c)=f8 d Y a c:=by
 funext x;delta f8 ai;by_cases e:x=Y+1;·subst e;simp
 ·simp[e]
def MG(D:DP f r X Y d):DP f r X (Y+2) (f8 d Y a b):=by
 refine⟨D.e,λt o e=>⟨?_,aR (D.f t o e).2 (bB _ _)⟩,D.inj,λk c=>?_⟩;·have g:=(D.f t o e).2;unfold f8;rw[aI<|by exact(bZ<|bj g<|bY _),aI<|by exact(bZ g)];exact(D.f t o e).1
 ·unfold f8;rw[aI<|iJ c,aI<|by exact(iJ<|aR (kU bl) c)];exact D.h k (by exact(bu<|aR (kU bl) c))
def l6(a:List Nd):Prop:=∀(i:Nat)(k:Nd),a[i]? =aa k->k.2.length<=2/\∀x∈k.2,x<i
noncomputable def vW(H:Hp)(x:Nat):List Nat:=(H.f[x]?.map (·.2)).getD []
structure TI(H:Hp)(n:Nat)(bl st:List Nat):Prop where
 p:n∈bl
 e:∀x∈bl,x<H.f.length
 f:bl.Nodup
 g:∀x∈st,x∈bl
 h:∀x∈bl,x∈st\/∀k∈vW H x,k∈bl
noncomputable abbrev tm(Y:Nat)(v:Nat)(z:V):List V:=[.f<|.e 2,.e v,.f<|.f Y,.f<|.f<|Y+1,z,.q,.q]
abbrev ts(H:Hp)(W:bh)(X:be->Nat)(d:cU)(Y:Nat)(bl st:List Nat):St:=sg H W X<|f8 d Y (.f<|bD bl)<|.e<|aH st
def Z3(K:aG P)(M:H.f.length<60){Q:Fl->List V->St->Prop}:∀(t:List Nat)(bl st:List Nat)(z:V),(∀k∈t,k<H.f.length)->(∀x∈bl,x<H.f.length)->bl.Nodup->(∀x∈st,x∈bl)->st.length<=60+2*bl.length->(∀b g o,(∀x∈b,x<H.f.length)->b.Nodup->(∀x∈g,x∈b)->(∀x∈bl,x∈b)->(∀k∈t,k∈b)->(∀x∈st,x∈g)->(∀x∈b,x∈bl\/x∈g)->g.length+bl.length=st.length+b.length->Q .e (tm Y v o) (ts H W X d Y b g))->eG (λx m σ k=>4<m.length/\x≠.q/\aP (cx P) n (.e (.g (.t .g (.e 4)<|.e 2) (.e (.e (.f (.e 2)<|.e 4)<|.U true)<|.e (.f<|.g 0 (.e 3)<|.e (.e 4) .f) .f) .f) .f) (m.set 4 x) σ k) (λw=>True) (aH t) (tm Y v z) (ts H W X d Y bl st) Q:=by intro R;induction R with
 |nil=>intro bl st z A j p sub B q;exact q bl st z j p sub (λw h=>h) (λw h=>aD h cX) (λw h=>h) (λw h=>.inl h) rfl
 |cons x t N=>
  intro bl st z A j p sub B q;have U:bl.length<=H.f.length:=by have:=nF p λy a=>fz.mpr<|j y a;rwa [f9]at this
  refine⟨(show 4<7 by decide),nu,fm<|gz K (u:=.e x) (v:=.f<|.f Y) rfl rfl<|Iz MF<|aC _ rfl ?_⟩;rw[HZ];by_cases h:x∈bl
  ·rw[bQ h,ap<|by exact dR];refine⟨trivial,N bl st (.e x) (λk c=>A k<|bR _ c) j p sub B λb g o D F G s I C J L=>q b g o D F G s (λk c=>?_) C J L⟩;rcases cB.mp c with rfl|c;·exact s _ h
   ·exact I k c
  ·rw[dz h,aq<|by rfl];refine co<|aJ K (e:=.U true) (v:=.g true) rfl<|pW K (r:=.f Y) (f:=bD bl) (i:=x) rfl rfl MF (B4 (by exact(aR M od)) j) ?_;rw[Q0,i4,aad];refine mR K (r:=.f<|Y+1) (l:=aH st) (v:=.e x) rfl zH rfl (by rw[bK,bX];exact ay B<|ay (cy (jc 2<|bu<|aL U M) 60) od) ?_;rw[sa,i4,MH];refine⟨trivial,N (x::bl) (st++[x]) (.e x) (λk c=>A k<|bR _ c) (λy a=>?_) (gD.mpr ⟨h,p⟩) (λy a=>?_) (by rw[bm];exact ay (eM B)<|eC _) λb g o D F G s I C J L=>q b g o D F G (λy a=>s y<|bR _ a) (λk c=>?_) (λy a=>C y<|jz _ a) (λy a=>?_)<|lR<|L.trans<|by rw[bm];exact dL ..⟩
   ·rcases cB.mp a with rfl|a;·exact A _ bk
    ·exact j y a
   ·rcases fi.mp a with a|a;·exact bR _<|sub y a
    ·rw[cP.mp a];exact bk
   ·rcases cB.mp c with rfl|c;·exact s _ bk
    ·exact I k c
   ·rcases J y a with e|e
    ·rcases cB.mp e with rfl|e;·exact .inr<|C _<|jR _ bk
     ·exact .inl e
    ·exact .inr e
end
section
variable{X:be->Nat}{Q:V->St->Prop}
def kG(d:cU)(Y:Nat)(a b c:O):cU:=ai (f8 d Y a b) (Y+2)<|aa<|aa c
def Z5:aT (sg H W X<|kG d Y a b c) (.f Y)=aa a:=by show(kG d Y a b c Y).join=_;delta kG f8;rw[aI<|by exact(bZ<|kU bl),aI<|by exact(bZ<|bY _),bg];rfl
def wn:aT (sg H W X<|kG d Y a b c) (.f<|Y+2)=aa c:=by show(kG d Y a b c<|Y+2).join=_;unfold kG;rw[bg];rfl
def Z7:ai (kG d Y a b c) (Y+2) (aa<|aa e)=kG d Y a b e:=by
 funext x;delta kG ai;by_cases f:x=Y+2;·subst f;simp
 ·simp[f]
def Z6(D:DP f r X Y d):DP f r X (Y+3) (kG d Y a b c):=by
 have g:=MG D (a:=a) (b:=b);refine⟨D.e,λt o e=>⟨?_,aR (D.f t o e).2 (bB _ _)⟩,D.inj,λk h=>?_⟩;·have i:=(D.f t o e).2;unfold kG;rw[aI<|by exact(bZ<|bj i<|kU bl)];exact(g.f t o e).1
 ·unfold kG;rw[aI<|iJ h];exact g.h k<|bu h
structure MI(f:Int->Option V)(pl:List Int):Prop where
 e:∀x∈pl,∃v,f x=aa v/\v≠.q
 g:∀k,f k≠ae->k∈pl
def JX(c:l6 b)(e:H.f=b)(a:x<H.f.length):∃k,H.f[x]? =aa k/\vW H x=k.2/\k.2.length<=2/\∀y∈k.2,y<x:=by subst e;refine(vP _ (fg a) ?_ ((c x _<|fg a).1)<|(c x _<|fg a).2);unfold vW;rw[fg a];rfl
def Z4(K:aG P)(R:H.f.length<60)(U:l6 H.f){bl:List Nat}(hb:∀x∈bl,x<H.f.length)(ag:∀x∈bl,∀k∈vW H x,k∈bl){Q:Fl->List V->St->Prop}:∀(p h:List Int)(f:Int->Option V)(t:V),(h++p).Pairwise (·< ·)->(h++p).length<1000->(∀x,x∈h++p↔∃n:Nat,x=n/\n∈bl)->MI f h->(∀z C,MI z (h++p)->Q .e [.f<|.e 2,.e v,.f<|.f Y,.f<|.f<|Y+1,F,.f<|.f<|Y+2,C] (sg H W X<|kG d Y a b<|.f z))->eG (λx m σ k=>6<m.length/\x≠.q/\aP (cx P) (n+1) (.e (.e (.f (.e 5)<|.e 6)<|.J .e (.F<|.e (.g 20 (.e 0)<|.e (.e 6) .f) .f)<|.f 5<|.e (.T (.q (.e 5)<|.e 7)<|.g 21 (.e 0)<|.e (.e 6) .f) .f) .f) (m.set 6 x) σ k) (λx_=>True) (p.map .e) [.f<|.e 2,.e v,.f<|.f Y,.f<|.f<|Y+1,F,.f<|.f<|Y+2,t] (sg H W X<|kG d Y a b<|.f f) Q:=by intro l_;induction l_ with
 |nil=>intro h f t D A B M q;rw[hK]at q;exact q f t M
 |cons j p au=>
  intro h f t D A B M q;refine aB ((B j).mp<|jR _ bk) λx av G=>?_;subst av;refine yW (JX U rfl<|hb x G) λk I aK s aS=>?_;have J:H.f.length<1000:=by exact(aR R od)
  refine⟨(show 6<7 by decide),nu,co<|oC<|ck K 23 rfl rfl rfl rfl (vs:=[.e x]) rfl<|H5 K J I (by exact(aL s od)) ?_⟩;refine dW K K.G.p rfl<|kO<|ck K 24 rfl rfl rfl rfl (vs:=[.e x]) rfl<|xR K J I (by exact(aL s od))<|bV (aH k.2) rfl (by rw[bK,bX];exact(ay s od)) ?_;have aU:∀y∈k.2,∃v,f (y:Int)=aa v/\v≠.q:=λy c=>by
   apply M.e y;have o:(y:Int)∈h++(x:Int)::p:=(B y).mpr<|aC y rfl<|ag x G y<|aK▸c;rcases fi.mp o with o|o;·exact o
   ·exfalso;have L:=aS y c;rcases cB.mp o with e|o;·exact(dE _<|aR L<|bf (g_ e).symm)
    ·have:=(wW.mp (On.mp D).2.1).1 _ o;exact(dE _<|bj L<|hH.mp this)
  refine vH (g:=λ(y:Nat)=>(f (y:Int)).getD .t) (λy c k' q=>?_) ?_
  ·refine aB (aU y c) λw N hu=>?_;refine sM K (u:=.f<|.f<|Y+2) rfl<|aJ K (e:=.e 7) (v:=.e y) rfl<|bV w ?_ ?_ (by rw[N]at q;exact q);·exact(yw wn).trans N
   ·exact Dn wn
  refine vE (l:=[]++k.2.map λ(y:Nat)=>(f (y:Int)).getD .t) rfl (by simp[bX];exact(ay s od))<|.inl<|aC (.h<|V.p k.1::k.2.map λ(y:Nat)=>(f (y:Int)).getD .t) (aq<|by simp;exact(ay (cy s _) od))<|pW K (r:=.f<|Y+2) (f:=f) (i:=x) rfl rfl wn ?_ ?_;·exact(aC h (by rw[bX];rw[bm]at A;exact(aR (aL (bB ..) A) od)) M.g)
  ·rw[i4,Z7];refine⟨trivial,au (h++[(x:Int)]) _ (.e x) (by simpa using D) (by simpa using A) (by simpa using B) ⟨λy c=>?_,λy c=>?_⟩ λz C M'=>q z C<|by simpa using M'⟩
   ·by_cases e:y=x;·exact⟨.h _,by unfold cD;rw[aq e],λe=>V.noConfusion e⟩
    ·rcases fi.mp c with c|c;·exact aB (M.e y c) λw o h2=>⟨w,by unfold cD;rw[ap e];exact o,h2⟩
     ·exact aD (cP.mp c) e
   ·unfold cD at c;by_cases e:y=x;·exact jR _ (by rw[e];exact bk)
    ·rw[ap e]at c;exact jz _<|M.g y c
def yP(l:List a):l=[]\/∃k x,l=k++[x]:=by
 rcases List.eq_nil_or_concat l with h|⟨k,x,h⟩;·exact .inl h
 ·exact .inr<|rW k x<|h.trans List.concat_eq_append
def Sb(K:aG P)(D:Is H W X Y d)(b:H.f.length<60)(N:l6 H.f)(hv:v<H.f.length)(q:∀u bE U,Is H W X bE U->u≠.q->Q u (sg H W X U)):aZ (cx P) (n+2) (.ref<|P.e 23) [.f<|.e 2,.e v] (sg H W X d) Q:=by
 have ac:H.f.length<1000:=by exact(aR b bl)
 have ag:∀{bl:List Nat},bl.Nodup->(∀x∈bl,x<H.f.length)->bl.length<=H.f.length:=λnd hb=>by have:=nF nd λy a=>fz.mpr<|hb y a;rwa [f9]at this
 refine K.e 23 rfl rfl<|gF<|j7<|Nb K (i:=v) (v:=.g true) (r:=.f Y) rfl rfl (D.g _) ?_;rw[i4,QY];refine(oH K (vs:=[.e v]) (r:=.f<|Y+1) rfl ?_ ⟨_,.inl rfl,rfl,bl,(λe=>nomatch e),bl,(λe=>nomatch e),?_⟩);·show ai d Y _ (Y+1)=ae;rw[aI<|by exact(iJ<|bY _)];exact D.h _ (by exact(bu<|bY _))
 rw[i4];refine tr K (λj m σ=>∃bl st z,TI H v bl st/\m=tm Y v z/\σ=ts H W X d Y bl st/\j=2*(H.f.length-bl.length)+st.length/\st.length<=2*bl.length) (k₀:=2*(H.f.length-1)+1) (m0 ([v]) ([v]) (.q) (⟨cP.mpr rfl,λx g=>by rw[cP.mp g];exact hv,gD.mpr ⟨(λh=>nomatch h),nK⟩,λx h=>h,λx h=>.inl h⟩) rfl rfl rfl<|by simp) ?_;rintro j m σ ⟨bl,st,z,I,rfl,rfl,rfl,s⟩;have A:=ag I.f I.e;have B:st.length<2^20:=aL (ay s<|jc 2<|ay A<|bu b) od;refine(aC (decide<|(0:Int)<st.length) (vK (fD (e:=.e 3) (r:=.f<|Y+1) (l:=aH st) rfl zH (by rw[bK];exact B)<|by rw[bK]) rfl) ?_);rcases yP st with rfl|⟨st,x,rfl⟩
 ·have bI:∀x∈bl,∀k∈vW H x,k∈bl:=λx g=>(I.h x g).resolve_left λh=>aD h cX;refine co<|vP (.f<|Y+2) ?_ ((show 5<7 by decide)) ((λe=>V.noConfusion e)) ?_;·show f8 d Y _ _ (Y+2)=ae;exact(MG D).h _<|bb _
  rw[i4];refine mS<|dW K K.G.g rfl<|aJ K (e:=.e 2) (v:=.f<|.f Y) rfl<|B' K.O (m:=bD bl) (L:=bl.map λ(n:Nat)=>(n:Int)) (Z5 (c:=.f λC=>ae)) (by rw[bq];exact(aR (aL A b) od)) (λk o=>QX o) λt hp hm=>(c_ (t.map .e) (λC=>True) rfl ?_);have G:∀x:Int,x∈[]++t↔∃n:Nat,x=n/\n∈bl:=λx=>by rw[uY,hm,H4]
  refine Z4 K b N I.e bI t [] (λC=>ae) .q hp ?_ G ⟨(λx h=>aD h cX),λk h=>aD rfl h⟩ λf' z' M=>?_
  ·have:=nF (hp.imp λh=>Int.ne_of_lt h) (l₂:=bl.map λ(n:Nat)=>(n:Int)) λx g=>by exact(X4<|(G x).mp g) _ λn hn=>cq.mpr<|aC n hn rfl
   rw[bq]at this;show t.length<1000;exact(aL (ay this A) ac)
  ·exact aB (M.e v<|(G v).mpr<|aC v rfl I.p) λu h1 p=>dy<|sM K (u:=.f<|.f<|Y+2) rfl<|aJ K (e:=.e 1) (v:=.e v) rfl<|bV u ((yw wn).trans h1) (Dn wn)<|q u _ _ (Z6 D) p
 ·rw[aq<|by simp];rw[bm,Aw]at s B;refine yW (JX N rfl<|I.e x<|I.g x<|jR _ bk) λk o cw cJ cM=>?_;have cQ:=I.e x<|I.g x<|jR _ bk;refine mS<|aJ (n:=n+1) K (e:=.e 0) (v:=.f<|.e 2) (R:=λov σ=>∃f,MethAt (cx P) σ ov ((cx P).g 21) f/\aF (cx P) (n+1) (.g 2 (.e 3) .f) _ σ λv σ=>aZ (cx P) (n+1) f [ov,v] σ _) rfl<|aC _ (K.y (j:=24) rfl rfl rfl)<|ny K (r:=.f<|Y+1) (l:=aH<|st++[x]) (vs:=[]) rfl zH F.slot_list_pop rfl rfl<|p7 (l:=aH st) (v:=.e x) (by rw[sa];exact zH) (by rw[bK,bX];exact(aR (bj (bY _) B) od)) ?_;rw[i4,MH];refine xR K ac o (by exact(aL cJ od))<|c_ (aH k.2) (λC=>True) rfl<|Z3 K b k.2 bl st z (λy a=>bj (cM y a) cQ) I.e I.f (λy a=>I.g y<|jz _ a) (by exact(bu<|aR (oO s)<|qZ ..)) λaK aS z' a1 a2 a3 w a5 a6 a7 a8=>?_;have dk:=ag a2 a1;refine⟨2*(H.f.length-aK.length)+aS.length,?_,aK,aS,z',⟨w _ I.p,a1,a2,a3,λy a=>?_⟩,rfl,rfl,rfl,?_⟩;·rw[bm,Aw];exact(Ws a8 (nF I.f w) dk).2
  ·rcases a7 y a with h|h
   ·rcases I.h y h with p|p
    ·rcases fi.mp p with J|J;·exact .inl<|a6 y J
     ·rw[cP.mp J,cw];exact .inr a5
    ·exact .inr λk o=>w k<|p k o
   ·exact .inl h
  ·exact Wt a8 (nF I.f w)<|Nat.le_of_succ_le s
end
section
variable{Y:be->Nat}{Q:V->St->Prop}
structure HW(H:Hp):Prop where
 n:H.f.length<60
 g:H.e.length=H.f.length
 q:H.q.length=H.e.length
 h:kr H.e
 y:l6 H.f
 F:∀(i:Nat)(l:List Nat),H.q[i]? =aa l->l.length<=18
 t:∀(i:Nat)(l:List Nat),H.g i=aa l->l.length<=18
 p:H.e.length<1000
def US(K:aG P)(a:H.f.length<1000)(q:Q (.e H.f.length) (sg H W Y d)):aZ (cx P) (n+2) (.ref<|P.e 34) [.f<|.e 1] (sg H W Y d) Q:=K.e 34 rfl rfl<|dy<|ck K 19 rfl rfl rfl rfl (vs:=[]) rfl<|R_ K a q
def rT(K:aG P)(I:HW H)(b:a<H.e.length)(q:Q (.e<|ak H.e a) (sg H W Y d)):aZ (cx P) (n+2) (.ref<|P.e 39) [.f<|.e 1,.e a] (sg H W Y d) Q:=K.e 39 rfl rfl<|dy<|ck K 30 rfl rfl rfl rfl (vs:=[.e a]) rfl<|zI K I.h (gp<|cY I.p) b q
def Cq(K:aG P)(I:HW H)(q:Q (.y<|aH<|dT H.e) (sg H W Y d)):aZ (cx P) (n+2) (.ref<|P.e 44) [.f<|.e 1] (sg H W Y d) Q:=K.e 44 rfl rfl<|dy<|ck K 33 rfl rfl rfl rfl (vs:=[]) rfl<|aaj K I.p q
def UO(K:aG P)(D:Is H W Y X d)(I:HW H)(e:a<H.e.length)(b:H.q[ak H.e a]? =aa l)(q:∀c:List Nat,c.Perm l->Q (.y<|aH c) (sg H W Y d)):aZ (cx P) (n+3) (.ref<|P.e 45) [.f<|.e 1,.e a] (sg H W Y d) Q:=K.e 45 rfl rfl<|dy<|ck K 32 rfl rfl rfl rfl (vs:=[.e a]) rfl<|MK K D I.h I.p I.q e b (aL (I.F _ _ b) bl) q
def UM(K:aG P)(I:HW H)(c:a<H.e.length)(e:b<H.e.length)(q:Q (.g<|decide<|ak H.e a=ak H.e b) (sg H W Y d)):aZ (cx P) (n+3) (.ref<|P.e 40) [.f<|.e 1,.e a,.e b] (sg H W Y d) Q:=by refine K.e 40 rfl rfl<|dy<|ju<|ck K 3 rfl rfl rfl rfl (vs:=[.e a]) rfl<|rT K I c<|ck K 3 rfl rfl rfl rfl (vs:=[.e b]) rfl<|rT K I e<|jG (v:=.g<|decide<|(ak H.e a:Int)=ak H.e b) rfl ?_;rw[show decide ((ak H.e a:Int)=ak H.e b)=decide (ak H.e a=ak H.e b)from decide_eq_decide.mpr mE];exact q
def bG(H:Hp)(k:Nd):Nd:=(k.1,k.2.map<|ak H.e)
def Cs(K:aG P)(I:HW H){i:Nat}(a:H.f[i]? =aa k)(q:Q (bp<|bG H k) (sg H W Y d)):aZ (cx P) (n+3) (.ref<|P.e 35) [.f<|.e 1,.e i] (sg H W Y d) Q:=by
 have c:=I.y i k a;have h:i<H.e.length:=by rw[I.g];exact(b_.mp a).1
 have f:=I.g▸I.p;have b:k.2.length<1000:=aL c.1 bl;refine K.e 35 rfl rfl<|dy<|oC<|ck K 23 rfl rfl rfl rfl (vs:=[.e i]) rfl<|H5 K f a b<|dW K K.G.p rfl<|kO<|ck K 24 rfl rfl rfl rfl (vs:=[.e i]) rfl<|xR K f a b<|bV (aH k.2) rfl ?_ ?_;·rw[bK];exact jp<|gp<|cY b
 refine vH (g:=λx=>.e<|ak H.e x) (λx j m q=>ck K 3 rfl rfl rfl rfl (vs:=[.e x]) rfl<|rT K I (bj (c.2 x j) h) q) ?_;have e:[]++k.2.map (λ(x:Nat)=>V.e<|ak H.e x)=aH (bG H k).2:=by delta aH bG;rw[fh];rfl
 rw[e];refine vE (l:=aH (bG H k).2) rfl ?_<|.inl<|aC (bp<|bG H k) (aq ?_) q;·rw[bK];show(k.2.map _).length<=_;rw[bq];exact jp<|gp<|cY b
 ·rw[bK];show 1+(k.2.map _).length<=1000;rw[bq];exact(ay (cy c.1 _) bl)
def WK(h:bp a=bp b):a=b:=by have c:=V.h.inj h;unfold f5 at c;exact cj (qU c) λd f=>q9 (V.p.inj d)<|(EQ λa b e=>g_<|V.e.inj e).mp f
def Kt{l:List Nd}:bp s∈l.map bp↔s∈l:=by rw[cq];exact⟨λ⟨t,a,b⟩=>WK b▸a,λh=>⟨s,h,rfl⟩⟩
theorem KE:∀{l:List V},(∀x∈l,∃s,bp s=x)->∃a:List Nd,l=a.map bp|[],_=>⟨[],rfl⟩|x::l,h=>by obtain⟨s,rfl⟩:=h x bk;obtain⟨a,rfl⟩:=KE λy b=>h y<|bR _ b;exact⟨s::a,rfl⟩
def qf(a:∀x∈l,∀k:Option V->St->Prop,k (aa<|g x) σ->f (.e x) σ k)(q:k (l.map g) σ):h_ f (aH l) [] σ k:=vH a q
def UP(K:aG P)(D:Is H W Y X d)(I:HW H)(v:a<H.e.length)(p:H.q[ak H.e a]? =aa l)(w:∀x∈l,x<H.f.length)(q:∀vs:List Nd,(∀s,s∈vs↔∃x∈l,∃k,H.f[x]? =aa k/\s=bG H k)->vs.length<=18->Q (.y<|vs.map bp) (sg H W Y d)):aZ (cx P) (n+4) (.ref<|P.e 46) [.f<|.e 1,.e a] (sg H W Y d) Q:=by
 have i:=I.F _ _ p;refine K.e 46 rfl rfl<|dy<|wG<|kO<|ck K 5 rfl rfl rfl rfl (vs:=[.e a]) rfl<|UO K D I v p λf c=>(bV (aH f) rfl ?_ ?_);·rw[bK,c.length_eq];exact jp<|gp (by exact(aL i bl))
 have j:∀x∈f,x<H.f.length:=λx b=>w x<|c.mem_iff.mp b;have m:∀x,x<H.f.length->H.f[x]? =aa (H.f.getD x default):=λx b=>gS default b;refine qf (g:=λx=>bp<|bG H<|H.f.getD x default) (λx b C q=>ck K 7 rfl rfl rfl rfl (vs:=[.e x]) rfl<|Cs K I (m x<|j x b) q) ?_;have e:(f.map λx=>bp<|bG H<|H.f.getD x default)=(f.map λx=>bG H<|H.f.getD x default).map bp:=by rw[fh];rfl
 rw[e];refine⟨_,rfl,by rw[bq,bq,c.length_eq];exact i,.inr ⟨λx b=>?_,λF r t=>?_⟩⟩;·refine aB (cq.mp b) λs y h=>?_;subst h;exact(rW s.1 (s.2.map λ(n:Nat)=>(n:Int))<|by delta bp f5;rw[pn])
 ·obtain⟨vs,rfl⟩:=KE λx b=>by refine aB (cq.mp<|(r x).mp b) λs y h=>?_;subst h;exact⟨s,rfl⟩
  refine q vs (λs=>?_) (by rw[bq,bq,bq,c.length_eq]at t;exact(ay t i));have z:s∈vs↔s∈f.map λx=>bG H (H.f.getD x default):=by have:=r<|bp s;rwa [Kt,Kt]at this
  rw[z,cq];constructor;·refine λo=>aB o λx b h=>?_;subst h;exact(rV x (c.mem_iff.mp b) _ (m x<|j x b) rfl)
  ·refine λo=>C5 o λx b k A B=>?_;subst B;have u:=c.mem_iff.mpr b;refine⟨x,u,?_⟩;rw[bo<|(m x<|j x u).symm.trans A]
def yN{a:List Int}(h:∀x∈a,∃n:Nat,x=n):∃b:List Nat,a=b.map λ(n:Nat)=>(n:Int):=by refine⟨a.map uQ,?_⟩;rw[fh];refine(EP a).symm.trans<|kS λx c=>?_;refine aV (h x c) λn d=>?_;subst d;rfl
def KM{ks:List Nat}(h:(ks.map λ(n:Nat)=>(n:Int)).Pairwise (·< ·)):ks.Nodup:=(AB.mp h).imp λh e=>by subst e;exact aD h<|NA _
def UT(K:aG P)(D:Is H W Y X d)(I:HW H)(k:a<H.e.length)(f:H.g (ak H.e a)=aa l)(q:∀g:List Nat,(∀x,x∈g↔x∈l)->g.Nodup->Q (.y<|aH g) (sg H W Y d)):aZ (cx P) (n+3) (.ref<|P.e 47) [.f<|.e 1,.e a] (sg H W Y d) Q:=by
 refine K.e 47 rfl rfl<|dy<|wG<|sM K (u:=.f<|.e 14) rfl<|ck K 3 rfl rfl rfl rfl (vs:=[.e a]) rfl<|rT K I k ⟨cH Y<|.e<|ak H.e a,?_,trivial,aH l,?_,by rw[bK];exact I.t _ _ f,.inl<|aC (l.map λ(n:Nat)=>(n:Int)) (pn l) λb m h=>?_⟩;·show iV H.g (λi=>cH Y<|.e i) (ak H.e a:Int)=_;rw[yz,f];rfl
 ·exact pi<|DP.q D (t:=.e<|ak H.e a) (o:=cv l) (by show(H.g _).map cv=_;rw[f];rfl)
 ·have:∀x∈b,∃n:Nat,x=n:=λx c=>by refine aB (cq.mp<|(h x).mp c) λn s j=>?_;subst j;exact⟨n,rfl⟩
  have e:b=(b.map uQ).map λ(n:Nat)=>(n:Int):=by rw[fh];refine(EP b).symm.trans<|kS λx c=>?_;obtain⟨n,rfl⟩:=this x c;rfl
  have:=q (b.map uQ) (λx=>?_)<|KM (by rw[<-e];exact m);·rw[pn,<-e]at this;exact this
  ·rw[cq];constructor;·rintro⟨y,p,rfl⟩;refine aB (cq.mp<|(h y).mp p) λn r j=>?_;subst j;exact r
   ·intro c;exact⟨x,(h x).mpr<|cq.mpr ⟨x,c,rfl⟩,rfl⟩
end
section
structure Z(H:Hp)(W:bh)where
 f:be->Nat
 h:Nat
 d:cU
 g:Is H W f h d
abbrev Z.e(z:Z H W):St:=sg H W z.f z.d
def FQ(Q:V->St->Prop):Fl->List V->St->Prop:=λa b σ=>match a with|.e=>Q .t σ|.f v=>Q v σ
def LQ(R:List V->St->Prop)(Q:Fl->List V->St->Prop):Fl->List V->St->Prop:=λa m σ=>match a with|.e=>R m σ|.f v=>Q (.f v) m σ
def TQ(P:bn)(n:Nat)(r:List Top)(Q:Fl->List V->St->Prop):Fl->List V->St->Prop:=λa m σ=>match a with|.e=>kI (cx P) n r m σ Q|.f v=>Q (.f v) m σ
variable{H H':Hp}{Y:be->Nat}{L:Nat}
def aG.f(K:aG P)(i:Nat){F:FD}(h:qn[i]? =aa F)(b:a.length=F.f.length)(w:aP (cx P) n F.b (a++gO (F.e.length-a.length) .q) σ (FQ Q)):aZ (cx P) (n+1) (.ref<|P.e i) a σ Q:=K.e i h b w
def aG.t(K:aG P)(i:Nat){F:FD}(h:qn[i]? =aa F)(b:a.length=F.f.length)(w:aP (cx P) n F.b (a++gO (F.e.length-a.length) .q) σ (FQ Q)):gw (cx P) (n+1) (.ref<|P.e i) a σ Q:=K.p i h b w
def aG.J(K:aG P){fa:ao}{ts:List Top}(S:tu P fa b c ts)(d:a.length=c.length)(w:kI (cx P) n ts (a++gO (b.length-a.length) .q) σ (FQ Q)):aZ (cx P) (n+1) (.ref fa) a σ Q:=(K.N S d w).e
section
variable{Q:Fl->List V->St->Prop}
def ko(c:Bool)(h:∀R:V->St->Prop,R (.g c) σ->aF (cx P) n t m σ R)(d:c=true->aP (cx P) n a m σ (f7 P n X Q))(e:c=false->aP (cx P) n b m σ (f7 P n X Q)):aP (cx P) n (.e (.g t a b) X) m σ Q:=Qg c h (by cases c with|true=>exact d rfl|false=>exact e rfl)
def oZ(h:∀R:V->St->Prop,R (.g false) σ->aF (cx P) n t m σ R)(q:aP (cx P) n X m σ Q):aP (cx P) n (.e (.g t a .f) X) m σ Q:=ko false h (λe=>ff e) λb=>q
def Qh(c:Bool)(h:∀R:V->St->Prop,R (.g c) σ->aF (cx P) n t m σ R)(d:c=true->∀R:Fl->List V->St->Prop,(∀z:Z H' W',R .e m' z.e)->aP (cx P) n a m σ R)(f:c=false->∀R:Fl->List V->St->Prop,(∀z:Z H' W',R .e m' z.e)->aP (cx P) n b m σ R)(q:∀z:Z H' W',aP (cx P) n X m' z.e Q):aP (cx P) n (.e (.g t a b) X) m σ Q:=ko c h (λe=>d e _ q) λe=>f e _ q
def Hv(h:∀R:V->St->Prop,R v G->aF (cx P) n e m σ R)(a:i<m.length)(b:v≠.q)(q:aP (cx P) n X (m.set i v) G Q):aP (cx P) n (.e (.e (.e i) e) X) m σ Q:=co<|h _ ⟨a,b,q⟩
def Ho(h:∀R:V->St->Prop,R v G->aF (cx P) n e m σ R)(q:aP (cx P) n X m G Q):aP (cx P) n (.e (.f e) X) m σ Q:=d9<|h _ q
def tq(h:∀R:V->St->Prop,(∀z:Z H' W',R v z.e)->aF (cx P) n e m σ R)(q:∀z:Z H' W',aP (cx P) n X m z.e Q):aP (cx P) n (.e (.f e) X) m σ Q:=d9<|h _ q
def Ht(K:aG P)(M:d->e->f->List V)(p:d->e->f->Hp)(q:d->e->f->bh)(Inv:d->e->f->Prop)(r:d->e->f->Nat)(g:d)(h:e)(i:f)(s:Z (p g h i) (q g h i))(u:Inv g h i)(gE:∀x y w(z:Z (p x y w) (q x y w)),Inv x y w->∀R:List V->St->Prop,(∀j l o(z:Z (p j l o) (q j l o)),Inv j l o->r j l o<r x y w->R (M j l o) z.e)->∃c,ev P (M x y w) z.e t=aa (.g c)/\if c then aP (cx P) n b (M x y w) z.e (LQ R Q)else aP (cx P) n X (M x y w) z.e Q):aP (cx P) n (.e (.t t b) X) (M g h i) s.e Q:=by apply tr K (λk m σ=>∃a b c,∃z:Z (p a b c) (q a b c),m=M a b c/\σ=z.e/\Inv a b c/\r a b c=k) (k₀:=r g h i) ⟨g,h,i,s,rfl,rfl,u,rfl⟩;rintro k m σ ⟨a,b,c,z,rfl,rfl,v,rfl⟩;exact gE a b c z v _ λx y w A B D=>⟨_,D,x,y,w,A,rfl,rfl,B,rfl⟩
end
section
variable{Q:Fl->List V->St->Prop}
def rG(q:aP (cx P) n (.e s .f) m σ (TQ P n r Q)):kI (cx P) n (.e s::r) m σ Q:=q
def Hz(c:Bool)(h:∀R:V->St->Prop,R (.g c) σ->aF (cx P) n t m σ R)(d:c=true->∀R:Fl->List V->St->Prop,(∀z:Z H' W',R .e m' z.e)->aP (cx P) n a m σ R)(e:c=false->∀R:Fl->List V->St->Prop,(∀z:Z H' W',R .e m' z.e)->aP (cx P) n b m σ R)(q:∀z:Z H' W',kI (cx P) n C m' z.e Q):kI (cx P) n (.e (.g t a b)::C) m σ Q:=rG<|Qh c h d e q
def Qr(h:∀R:V->St->Prop,R v σ->aF (cx P) n e m σ R)(a:i<m.length)(b:v≠.q)(q:kI (cx P) n C (m.set i v) σ Q):kI (cx P) n (.e (.e (.e i) e)::C) m σ Q:=rG<|Hv h a b q
def Qs(K:aG P)(d:m[0]? =aa (.f a))(e:aT σ a=aa (.g 0 c))(g:d_ P m σ b=aa vs)(q:gw (cx P) n (.ref f) (.f a::vs) σ λh σ=>Q .e m σ):kI (cx P) n [.f false name f b] m σ Q:=cp a c d e<|ky K.G g q
def Qt(K:aG P)(d:m[0]? =aa (.f a))(e:aT σ a=aa (.g 0 c))(g:d_ P m σ b=aa vs)(q:gw (cx P) n (.ref f) (.f a::vs) σ λv σ=>Q (.f v) m σ):kI (cx P) n [.f true name f b] m σ Q:=cp a c d e<|ky K.G g q
end
section
variable{Q:V->St->Prop}{R:V->St->Prop}
def qY(K:aG P)(z:Z H W)(I:HW H){a:Nat}(b:ev P m z.e o=aa (.f<|.e 1))(c:ev P m z.e e=aa (.e a))(d:a<H.e.length)(q:R (.e<|ak H.e a) z.e):aF (cx P) (n+2) (.g 24 o<|.e e .f) m z.e R:=ck K 3 rfl b rfl rfl (vs:=[.e a]) (by show(ev P m z.e e).bind _=_;rw[c];rfl)<|rT K I d q
end
def nV(h:ev P m σ e=aa v):d_ P m σ (.e e .f)=aa [v]:=by show(ev P m σ e).bind _=_;rw[h];rfl
def Lj:bi (sg H W Y d) (.e 14) (.f<|iV f λi=>cH Y<|.e i)=sg (H.a0 f) W Y d:=kH 13 bl rfl
def KG:bi (sg H W Y d) (.e 14) (.f<|iV f λi=>cH (ai Y (.e k) x)<|.e i)=sg (H.a0 f) W (ai Y (.e k) x) d:=wv 13 bl rfl rfl
def MP(a:H.f.length<60)(b:∀i,H.g i≠ae->i<H.f.length):eW (iV H.g g):=yo (N:=60) bl λi c=>bj (b i c) a
def uy(D:Is H W Y L d)(h:H.g i=aa l):aT (sg H W Y d) (.f<|Y<|.e i)=aa (cv l):=DP.q D (by show(H.g i).map cv=_;rw[h];rfl)
def rS{i:Nat}(a:m[0]? =aa (.f<|.e 1))(b:ev P m (sg H W Y d) e=aa (.e i))(c:H.g i=aa l):ev P m (sg H W Y d) (.q (.h 0 5<|.e 0) e)=aa (cH Y<|.e i):=by show((((m[0]?).bind c8).bind λv=>pZ _ 0 5 v).bind λo=>(ev P m (sg H W Y d) e).bind λk=>if i3 (sg H W Y d) o then gJ (sg H W Y d) o k else ae)=_;rw[a,b];show iV H.g (λi=>cH Y<|.e i) (i:Int)=_;rw[yz,c];rfl
def Jy{i x:Nat}:cD (iV f λj=>cH Y<|.e j) (i:Int) (aa<|.f<|.f x)=iV (ai f i<|aa l) λj=>cH (ai Y (.e i) x) (.e j):=tM _ _ _ _ i _ (by rw[bg];show aa (cH _ _)=_;unfold cH;rw[bg]) λj a=>by rw[aI a];unfold cH;rw[aI λe=>a<|be.e.inj e]
def Jx{i:Nat}:cD (iV f λj=>cH Y<|.e j) (i:Int) ae=iV (ai f i ae) λj=>cH Y (.e j):=tM _ _ _ _ i _ (by rw[bg];rfl) λj a=>by rw[aI a]
set_option tactic.hygienic true in
theorem Is.b7(D:Is H W Y L d):Is (H.a0<|ai H.g i<|aa l) W (ai Y (.e i) L) (L+1) (ai d L<|aa<|aa<|cv l):=Is.a0 D (ht:=λi e=>be.noConfusion e) (t:=.e i) (by show((ai H.g i _) i).map cv=_;rw[bg];rfl) λu a=>by
 cases u<;>first|rfl|skip
 rename_i j;show((ai H.g i _) j).map cv=_;rw[aI λe=>a<|by rw[e]];rfl
def BZ{Q:Fl->List V->St->Prop}(K:aG P)(z:Z H W){i:Nat}(a:H.f.length<60)(b:∀i,H.g i≠ae->i<H.f.length)(c:∀R:V->St->Prop,R (.f<|.f z.h) (bi z.e (.f z.h)<|cv l)->aF (cx P) n e m σ R)(d:ev P m (sg H W z.f<|ai z.d z.h<|aa<|aa<|cv l) o=aa (.f<|.e 14))(g:ev P m (sg H W z.f<|ai z.d z.h<|aa<|aa<|cv l) k=aa (.e i))(q:∀z:Z (H.a0<|ai H.g i<|aa l) W,aP (cx P) n X m z.e Q):aP (cx P) n (.e (.e (.f o k) e) X) m σ Q:=by refine co<|c _ ?_;rw[jO];apply pW K (r:=.e 14) (f:=iV H.g λj=>cH z.f<|.e j) d g rfl<|MP a b;rw[Jy,KG];exact q ⟨_,_,_,z.g.b7⟩
def UY(b:U c=aa l):iV (ai U c<|aa a) g=iV U g:=by funext i;cases i with
 |negSucc i=>rfl
 |ofNat i=>
  show((ai U c _) i).map _=(U i).map _;by_cases h:i=c;·subst h;rw[bg,b];rfl
  ·rw[aI h]
def LR(h:c9 H Y=c9 H' Y):sg H W Y d=sg H' W Y d:=aQ (λf=>Sg (W.q::(f++W.f)) d) h
set_option tactic.hygienic true in
theorem HE(z:Z H W)(b:H.g c=aa l):∃d:Z (H.a0<|ai H.g c<|aa a) W,bi z.e (.f<|z.f<|.e c) (cv a)=d.e:=by
 refine⟨⟨z.f,z.h,_,Is.T z.g (t:=.e c) (o:=cv l) (o':=cv a) (by show(H.g c).map cv=_;rw[b];rfl) (by show((ai H.g c _) c).map cv=_;rw[bg];rfl) λu f=>?_⟩,jO.trans<|LR ?_⟩
 ·cases u<;>first|rfl|skip
  rename_i i;show((ai H.g c _) i).map cv=(H.g i).map cv;rw[aI λe=>f<|by rw[e]]
 ·unfold c9;rw[UY b]
end
section
variable{P:bn}{n:Nat}{H:Hp}{W:bh}{X:be->Nat}{d:cU}{Q:V->St->Prop}{σ:St}{m:List V}
def DP.a7(D:DP a r X M d){t:be}(h:a t=ae)(x:Nat)(g:∀i,t≠.w i):DP a r (ai X t x) M d:=by
 have b:∀u o,a u=aa o->u≠t:=λu o e q=>by rw[q,h]at e;exact aY e
 exact⟨λi=>(aI (g i).symm).trans<|D.e i,λu o e=>by rw[aI<|b u o e];exact D.f u o e,λu v o p c f r=>by rw[aI<|b u o c,aI<|b v p f]at r;exact D.inj u v o p c f r,D.h⟩
def La:bi (sg H W X d) (.e 15) (.e<|H.p.mapIdx (iy X)++[iy X H.p.length c])=sg (H.y<|H.p++[c]) W X d:=kH 14 bl (by show _=c9 (H.y<|H.p++[c]) X;unfold c9;simp only[Ax,Ay,Az,j9];rfl)
def Kn{f g:Nat->b->c}{l:List b}(h:∀i a,l[i]? =aa a->f i a=g i a):l.mapIdx f=l.mapIdx g:=by refine sY λi=>?_;rw[N6,N6];cases e:l[i]? with|none=>rfl|some a=>exact aQ aa<|h i a e
def Ir{l:List dH}:l.mapIdx (iy<|ai X (.f l.length) x)=l.mapIdx (iy X):=by
 refine Kn λi c a=>?_;have b:=(b_.mp a).1;cases c<;>first|rfl|skip
 show V.h [_,_,_,_,cH _ _]=_;unfold cH;rw[aI λe=>bZ b<|be.f.inj e];rfl
def UI:c9 H (ai X (.f H.p.length) x)=c9 H X:=by show _=c9 H X;unfold c9;rw[Ir];rfl
def uB(D:Is H W X M d):aT (sg H W X d) (.f<|X .h)=aa (cv H.F):=DP.q D rfl
def tW(h:aT σ r=aa (cv l)):fP σ (.f r)=aa (aH l):=by exact pi h
def mY(h:(l++[x])[i]? =aa y):l[i]? =aa y\/(i=l.length/\y=x):=by
 by_cases b:i<l.length;·exact .inl<|(gM b).symm.trans h
 ·have:=(b_.mp h).1;rw[bm]at this;have e:i=l.length:=j8 (f_ this)<|jb b;subst e;rw[sZ<|bb _,xa]at h;exact .inr ⟨rfl,(bo h).symm⟩
def lr:(l++[x])[l.length]? =aa x:=by rw[sZ<|bb _,xa];rfl
def Is.a3(D:Is H W X M d)(h:∀a k m g,c≠.e k m g (aa a)):Is (H.y<|H.p++[c]) W X M d:=by
 refine DP.y D λt o e=>?_
 cases t<;>first|exact e|skip
 refine aB (nN.mp e) λj b i=>?_
 rcases mY b with b|⟨_,b⟩
 ·exact nN.mpr ⟨j,b,i⟩
 ·cases j with
  |e k m g a=>cases a with
   |none=>exact aY i
   |some a=>exact aD b.symm<|h a k m g
  |g n=>exact aY i
  |f n=>exact aY i
def HF{Q:Fl->List V->St->Prop}(K:aG P)(z:Z H W)(b:H.p.length<2^20)(d:∀a k m g,c≠.e k m g a)(e:ev P m z.e o=aa (.f<|.e 15))(f:ev P m z.e v=aa (iy z.f H.p.length c))(q:∀z:Z (H.y<|H.p++[c]) W,aP (cx P) n G m z.e Q):aP (cx P) n (.e (.f<|.g 0 o<|.e v .f) G) m z.e Q:=mR K (r:=.e 15) (l:=H.p.mapIdx<|iy z.f) e rfl f (by rw[nJ];exact jp b)<|jY La<|q ⟨z.f,z.h,z.d,Is.a3 z.g λa k m g=>d (aa a) k m g⟩
noncomputable def qw(H:Hp)(k g:Nat)(a b:List Nat):Nat->Option (List Nat):=ai (ai H.g g ae) k<|aa<|a++b
abbrev CD(H:Hp)(b:List dH)(m k g:Nat)(c a:List Nat)(x:V):Hp:=(((((yM (H.a4<|H.U++[x]) k g).a9<|H.a++[.e H.U.length]).L<|H.F++a).a0<|qw H k g c a).y<|b++[.e k m g<|aa a])
def UJ{k m g:Nat}(h:H.p=a++[.e k m g b]):c9 (H.a0 f) X=c9 ((H.a0 f).y<|a++[.e k m g us]) X:=by unfold c9;simp only[h,Ax,Ay,Az];rfl
set_option tactic.hygienic true in
theorem Is.b8(D:Is H W X M d){k m g:Nat}(l:H.p=a++[.e k m g ae])(n:X (.f a.length)=X (.e g))(r:H.g g=aa c):Is ((H.a0<|ai H.g g ae).y<|a++[.e k m g<|aa c]) W X M d:=by
 have s:ai X (.f a.length) (X<|.e g)=X:=by
  funext x;by_cases e:x=.f a.length;·rw[e,bg,n]
  ·rw[aI e]
 have:=DP.U D (t:=.e g) (v:=.f a.length) (o:=cv c) (cont':=fc ((H.a0<|ai H.g g ae).y<|a++[.e k m g<|aa c]) W.w) (by show(H.g g).map cv=_;rw[r];rfl) (λe=>nomatch e) (λi e=>be.noConfusion e) λt p e=>?_;·rw[s]at this;exact this
 ·cases t<;>first|exact .inr ⟨(λq=>be.noConfusion q),(λq=>be.noConfusion q),e⟩|skip
  ·rename_i i;have f:((ai H.g g ae) i).map cv=aa p:=e;by_cases h:i=g;·rw[h,bg]at f;exact aY f
   ·rw[aI h]at f;exact .inr ⟨(λq=>be.noConfusion q),(λq=>h<|be.e.inj q),f⟩
  ·refine aB (nN.mp e) λu b j=>?_;rcases mY b with b|⟨w,b⟩;·refine .inr ⟨(λq=>?_),(λq=>be.noConfusion q),nN.mpr ⟨u,by rw[l,gM (b_.mp b).1];exact b,j⟩⟩;exact bZ (b_.mp b).1 (be.f.inj q)
   ·rw[b]at j;exact .inl ⟨aQ be.f w,(bo j).symm⟩
def Is.a4(D:Is H W X M d)(w:List Nat):Is (H.L w) W X M (ai d (X .h)<|aa<|aa<|cv w):=Is.T D (t:=.h) rfl rfl λu a=>by cases u<;>first|rfl|exact aD rfl a
def UL(K:aG P)(z:Z H W){d:List dH}(s:H.f.length<60)(w:∀i,H.g i≠ae->i<H.f.length)(f:H.g g=aa c)(y:H.g k=aa uk)(A:H.p=d++[.e k p g ae])(B:z.f (.f d.length)=z.f (.e g))(D:k≠g)(C:c.length<=18)(I:uk.length<=18)(J:H.F.length<2^20)(q:∀z:Z ((H.L<|H.F++c).a0 (qw H k g uk c)|>.y (d++[.e k p g<|aa c])) W,Q (.g true) z.e):aP (cx P) (n+2) (.e (.f<|.g 1 (.h 0 6<|.e 0)<|.e (.q (.h 0 5<|.e 0)<|.e 6) .f)<|.e (.e (.f (.h 0 5<|.e 0)<|.e 5)<|.J .e (.q (.h 0 5<|.e 0)<|.e 5)<|.g 2 (.h 0 5<|.e 0)<|.e (.e 6) .f)<|.e (.h<|.U true) .f) [.f<|.e 1,.e a,.e b,x,.h [.e k,.e g],.e k,.e g] z.e (FQ Q):=by
 refine d9<|ny K (k:=1) (r:=.f<|z.f .h) (vs:=[cH z.f<|.e g]) rfl (uB z.g) F.slot_list_extend rfl (nV<|rS rfl rfl f)<|Ij (uB z.g) (l2:=aH c) (tW<|uy z.g f) (by rw[bK,bK];exact(ay (fL (bu J) C) bl)) ?_;rw[CW,i4];have L:=Is.a4 z.g<|H.F++c;have j:=Is.b8 L A B f;have N:ai H.g g ae k=aa uk:=(aI D).trans y;refine BZ (σ:=sg (H.L<|H.F++c) W z.f<|ai z.d (z.f .h)<|aa<|aa<|cv<|H.F++c) (Q:=FQ Q) K ⟨_,_,_,j⟩ (i:=k) (l:=uk++c) s (λi U=>w i λe=>U ?_) (λR r=>kM K (u:=cH z.f<|.e k) (rS (i:=k) (l:=uk) rfl rfl y)<|nq K (k:=2) (r:=.e 14) (ob:=.f<|iV H.g λi=>cH z.f<|.e i) (vs:=[.e g]) rfl rfl rfl F.slot_dict_pop rfl rfl<|Ii K.O (m:=iV H.g λi=>cH z.f<|.e i) (v:=cH z.f<|.e g) rfl (by rw[yz,f];rfl) (MP s w) ?_) rfl rfl λY=>eO K (v:=.g true) rfl<|q Y
 ·show ai H.g g ae i=ae;by_cases h:i=g;·rw[h,bg]
  ·rw[aI h];exact e
 rw[Jx,Lj,LR<|UJ (H:=H.L<|H.F++c) (us:=aa c) A];refine .inr<|yB (aH uk) (aH c) rfl (tW<|uy j N) (tW (r:=.f<|z.f<|.e g) ?_) (by rw[bK,bK,bX];exact(ay (fL I C) bl))<|.inr ⟨.f z.h,j.g _,?_⟩;·rw[<-B];exact DP.q j (t:=.f d.length) (o:=cv c) (by show((d++[_])[d.length]?).bind _=_;rw[lr];rfl)
 ·rw[CW];exact r
def UK(K:aG P)(z:Z H W)(I:HW H){a b k g d:Nat}(C:c8 x=aa x)(f:a<H.e.length)(h:b<H.e.length)(j:k=min (ak H.e a) (ak H.e b))(m:g=max (ak H.e a) (ak H.e b))(q:H.g k=aa o)(s:H.g g=aa p)(D:∀i,H.g i≠ae->i<H.f.length)(F:H.p=c++[.e k d g ae])(J:z.f (.f c.length)=z.f (.e g))(L:H.Z.length<2^20)(t:H.U.length<2^19)(N:H.a.length<2^20)(U:H.F.length<2^20)(Y:k=g->∀z:Z (H.a4<|H.U++[.h [.e a,.e b,x]]) W,Q (.g false) z.e)(q2:k≠g->∀z:Z (CD H c d k g o p<|.h [.e a,.e b,x]) W,Q (.g true) z.e):gw (cx P) (n+3) (.ref<|P.e 42) [.f<|.e 1,.e a,.e b,x] z.e Q:=by
 have w:=iZ I.h f;have lb:=iZ I.h h;have y:∀i,i<H.q.length->(H.q.getD i []).length<=18:=λi hi=>I.F _ _<|gS [] hi;have kl:k<H.q.length:=by rw[I.q,j];exact aL (lQ _ _) w.1
 have gl:g<H.q.length:=by rw[I.q,m];exact Nat.max_lt.mpr ⟨w.1,lb.1⟩
 have e0:ev P [.f<|.e 1,.e a,.e b,x,.q,.q,.q] z.e (.F<|.e (.e 1)<|.e (.e 2)<|.e (.e 3) .f)=aa (.h [.e a,.e b,x]):=by show dZ V.h (j_ (aa<|V.e a) λv=>dZ (λvs=>v::vs)<|j_ (aa<|V.e b) λv=>dZ (λvs=>v::vs)<|j_ (c8 x) λv=>dZ (λvs=>v::vs)<|aa [])=_;rw[C];rfl
 refine K.t 42 rfl rfl<|mR K (r:=.e 11) (l:=H.U) (v:=.h [.e a,.e b,x]) rfl rfl e0 (jp<|bj t bl) ?_;rw[Lc];have A:Is (H.a4<|H.U++[.h [.e a,.e b,x]]) W z.f z.h z.d:=z.g;refine co<|ck K 31 rfl rfl rfl rfl (vs:=[.e a,.e b]) rfl<|aan K A I.h I.p I.q f h j m (aL (fL (y k kl)<|y g gl) bl) L (λe=>?_) λB d2 D2=>?_;·exact⟨bl,nu,ko true (λR r=>gz K (u:=.t) (v:=.t) rfl rfl ⟨rfl,.inl ⟨rfl,r⟩⟩) (λx_=>eO K (v:=.g false) rfl<|Y e ⟨_,_,_,A⟩) λe=>nomatch e⟩
 refine⟨bl,nu,oZ (λR r=>gz K (u:=.h [.e k,.e g]) (v:=.t) rfl rfl ⟨rfl,.inr ⟨(λe=>nomatch e),(λe=>nomatch e),(λv e=>nomatch e),r⟩⟩) ?_⟩;refine gF<|aJ (n:=n+2) K (e:=.e 4) (v:=.h [.e k,.e g]) rfl ⟨_,.inl rfl,rfl,bl,nu,bl,nu,?_⟩;refine mR K (r:=.e 12) (l:=H.a) (v:=.e H.U.length) rfl rfl ?_ (jp N) ?_;·refine ig (fD (e:=.h 0 2<|.e 0) (r:=.e 11) (l:=H.U++[.h [.e a,.e b,x]]) rfl rfl (by rw[bm];exact aL (jA t) bl) rfl) rfl ?_;rw[bm];show aa (V.e<|((H.U.length+1:Nat):Int)-1)=_;rw[wL,An,Ah]
 rw[Ld];have D3:Is ((yM (H.a4<|H.U++[.h [.e a,.e b,x]]) k g).a9<|H.a++[.e H.U.length]) W z.f z.h d2:=D2;exact UL K ⟨_,_,_,D3⟩ I.n D s q F J B (I.t _ _ s) (I.t _ _ q) U λz=>q2 B z
def XW{k m g:Nat}:bi (sg H W X d) (.e 15) (.e<|H.p.mapIdx (iy X)++[V.h [.p "edge",.e k,.e m,.e g,cH X<|.e g]])=sg (H.y<|H.p++[.e k m g ae]) W (ai X (.f H.p.length)<|X<|.e g) d:=by
 have a:sg H W X d=sg H W (ai X (.f H.p.length)<|X<|.e g) d:=aQ (λf=>Sg (W.q::(f++W.f)) d) UI.symm;have b:V.h [.p "edge",.e k,.e m,.e g,cH X<|.e g]=iy (ai X (.f H.p.length)<|X<|.e g) H.p.length (.e k m g ae):=by show _=V.h [_,_,_,_,cH _<|.f _];unfold cH;rw[bg]
 rw[a,b,<-Ir (x:=X<|.e g),La]
def Is.b5(D:Is H W X M d){k m g x:Nat}:Is (H.y<|H.p++[.e k m g ae]) W (ai X (.f H.p.length) x) M d:=Is.a3 (DP.a7 D (t:=.f H.p.length) (by show(H.p[H.p.length]?).bind _=_;rw[nH<|bb _];rfl) x λi e=>be.noConfusion e) λa k m g e=>nomatch e
noncomputable abbrev CF(H:Hp)(k m:Nat)(x:V):Hp:=(H.y<|H.p++[.e k m k ae]).a4<|H.U++[x]
def TY{i:Nat}(D:Is H W X M d)(b:m[0]? =aa (.f<|.e 1))(c:ev P m (sg H W X d) e=aa (.e i))(a:H.g i=aa l)(f:l.length<=18):ev P m (sg H W X d) (.f 3<|.e (.q (.h 0 5<|.e 0) e) .f)=aa (.e l.length):=fD (r:=.f<|X<|.e i) (rS b c a) (uy D a) (by rw[bK];exact aL f bl) (by rw[bK])
structure GW(H:Hp):Prop extends HW H where
 Y:∀a:Nat,H.e[a]? =aa a->∃l,H.g a=aa l
 J:∀i,H.g i≠ae->i<H.f.length
 U:∀(s:Nd)(o:Nat),H.t s=aa o->o<H.f.length
 T:sT H.t
 c:H.p.length<2^19
 m:H.Z.length<2^19
 e:H.U.length<2^18
 f:H.a.length<2^19
 w:H.F.length<2^19
structure JW(H:Hp):Prop extends HW H where
 N:∀a:Nat,H.e[a]? =aa a->∃l,H.g a=aa l
 L:∀i,H.g i≠ae->i<H.f.length
 z:∀(s:Nd)(o:Nat),H.t s=aa o->o<H.f.length
 v:sT H.t
 c:H.p.length<2^20
 m:H.Z.length<2^20
 e:H.U.length<2^19
 f:H.a.length<2^20
 w:H.F.length<2^20
def vU(H:Hp)(k g:Nat)(a b:List Nat)(x:V):Hp:=if k=g then CF H k a.length x else CD (H.y<|H.p++[.e k a.length g ae]) H.p a.length k g a b x
def fE(H:Hp)(a b:Nat)(x:V):Hp:=vU H (min (ak H.e a)<|ak H.e b) (max (ak H.e a)<|ak H.e b) ((H.g<|min (ak H.e a)<|ak H.e b).getD []) ((H.g<|max (ak H.e a)<|ak H.e b).getD [])<|.h [.e a,.e b,x]
def J9(K:aG P)(z:Z H W)(I:JW H)(u:c8 x=aa x)(s:a<H.e.length)(t:b<H.e.length)(q:∀z:Z (fE H a b x) W,Q (.g<|decide<|ak H.e a≠ak H.e b) z.e):aZ (cx P) (n+4) (.ref<|P.e 62) [.f<|.e 1,.e a,.e b,x] z.e Q:=by
 have C:=iZ I.h s;have D:=iZ I.h t;have w:∀c,c=ak H.e a\/c=ak H.e b->H.g c=aa ((H.g c).getD []):=λc F=>by refine aV (show∃l,H.g c=aa l from I.N c<|F.elim (λe=>e▸C.2) λe=>e▸D.2) λl J=>?_;rw[J];rfl
 have d:=w _<|WA ..;have j:=w _<|Wr ..;have o:∀k g,k=min (ak H.e a) (ak H.e b)->g=max (ak H.e a) (ak H.e b)->decide (ak H.e a≠ak H.e b)=decide (k≠g):=λk g L N=>by subst L N;exact decide_eq_decide.mpr WE
 unfold fE at q;refine K.J K.Z rfl<|rG<|gF<|bV _ K.G.g rfl<|qY K z I.toHW rfl rfl s<|qY K z I.toHW rfl rfl t<|.inl<|B_ ?_;generalize y:min (ak H.e a) (ak H.e b)=k at q d;generalize A:max (ak H.e a) (ak H.e b)=g at q j;have o:=o k g y.symm A.symm;generalize (H.g k).getD []=p at q d;generalize (H.g g).getD []=R at q j;refine⟨_,.inr rfl,rfl,bl,nu,bl,nu,rG<|mR K (r:=.e 15) (l:=H.p.mapIdx<|iy z.f) (v:=.h [.p "edge",.e k,.e p.length,.e g,cH z.f<|.e g]) rfl rfl ?_ (by rw[nJ];exact jp I.c) ?_⟩;·show dZ V.h (dZ _<|j_ (aa<|V.e k) λv=>dZ (λvs=>v::vs)<|j_ (ev P _ _<|.f 3<|.e (.q (.h 0 5<|.e 0)<|.e 4) .f) λv=>dZ (λvs=>v::vs)<|j_ (aa<|V.e g) λv=>dZ (λvs=>v::vs)<|j_ (ev P _ _<|.q (.h 0 5<|.e 0)<|.e 5) λv=>dZ (λvs=>v::vs)<|aa [])=_;rw[TY z.g (i:=k) rfl rfl d<|I.t _ _ d,rS (i:=g) (l:=R) rfl rfl j];rfl
 rw[XW];have U:Is (H.y<|H.p++[.e k p.length g ae]) W _ z.h z.d:=z.g.b5 (k:=k) (m:=p.length) (g:=g) (x:=z.f<|.e g);have Y:HW (H.y<|H.p++[.e k p.length g ae]):=⟨I.n,I.g,I.q,I.h,I.y,I.F,I.t,I.p⟩;refine Qt (name:="join") K (vs:=[.e a,.e b,x]) rfl rfl ?_<|UK K ⟨_,_,_,U⟩ Y u s t y.symm A.symm d j I.L rfl ((bg ..).trans (aI (f:=z.f) (a:=.f H.p.length) (b:=z.f<|.e g) (x:=.e g) λe=>nomatch e).symm) I.m I.e I.f I.w (λe z=>?_) λB z=>?_;·show j_ (aa<|V.e a) (λv=>dZ (λvs=>v::vs)<|j_ (aa<|V.e b) λv=>dZ (λvs=>v::vs)<|j_ (c8 x) λv=>dZ (λvs=>v::vs)<|aa [])=_;rw[u];rfl
 ·subst e;unfold vU at q;rw[o,dz λh=>h rfl,aq rfl]at q;exact q z
 ·unfold vU at q;rw[o,bQ B,ap B]at q;exact q z
end
section
variable{Y:be->Nat}{Q:V->St->Prop}
def CK(k:Nd):kB (.h<|f5 k)=aa (gh k):=tU k
noncomputable def iB(H:Hp)(n:Nat):Hp:=if n=H.N then(H.y<|H.p++[.g n]).a8 (n+1)else H
noncomputable def kD(H:Hp)(s:Nd):Option Nat->Hp:=λo=>AN o (H.y<|H.p++[.f s]) λa=>H
def n8(H:Hp)(i:Nat)(s:Nd):Option Nat->Hp:=λo=>AN o (H.a7<|ai H.t s<|aa i) λo=>if ak H.e o=ak H.e i then H else fE H o i (.h [.p "like"])
def r5(H:Hp)(i:Nat)(k:Nd):Hp:=n8 (kD (iB H i) (bG H k)<|H.t<|bG H k) i (bG H k)<|H.t<|bG H k
def UN(K:aG P)(z:Z H W)(I:JW H)(p:H.f[i]? =aa k)(q:∀z:Z (n8 H i (bG H k)<|H.t<|bG H k) W,Q .t z.e):
  gw (cx P) (n+5) (.ref<|P.e 38) [.f<|.e 1,.e i] z.e Q:=by
 have d:i<H.e.length:=by rw[I.g];exact(b_.mp p).1
 refine K.t 38 rfl rfl<|co (aJ (n:=n+4) K (e:=.h 0 4<|.e 0) (v:=.f<|.e 13) (R:=λs σ=>∃f,MethAt (cx P) σ s ((cx P).g 5) f/\aF (cx P) (n+4) (.g 29 (.e 0)<|.e (.e 1) .f) _ σ λv σ=>aF (cx P) (n+4) (.e 1) _ σ λu σ=>aZ (cx P) (n+4) f [s,v,u] σ _) rfl
  (aC _ (vX (o:=.p<|kV H.t) rfl rfl F.slot_dict_setdefault rfl)<|ck K 7 rfl rfl rfl rfl (vs:=[.e i]) rfl<|Cs K I.toHW p<|aJ K (e:=.e 1) (v:=.e i) rfl<|Ip K.O (m:=kV H.t) (k:=gh<|bG H k) rfl (CK _) (yp I.v) ?_))
 rw[pb]
 have t:∀{g:Hp}(z:Z g W)(j:HW g)(o:Nat)(c:Bool),g.e=H.e->o<H.e.length->(!decide ((ak H.e o:Int)=ak H.e i))=c->∀R:V->St->Prop,R (.g c) z.e->aF (cx P) (n+4) (.t .f (.g 24 (.e 0)<|.e (.e 2) .f)<|.g 24 (.e 0)<|.e (.e 1) .f) [.f<|.e 1,.e i,.e o] z.e R:=λz j o c e b x R r=>
  ju (qY K z j rfl rfl (e▸b)<|qY K z j rfl rfl (e▸d)<|jG (v:=.g c) (by show aa (V.g _)=_;rw[e,x]) r)
 cases l:H.t (bG H k)with
 |none=>
  rw[l]at q
  refine⟨(show 2<3 by decide),nu,?_⟩
  rw[CG,Lg]
  have w:Is (H.a7<|ai H.t (bG H k)<|aa i) W z.f z.h z.d:=z.g
  exact oZ (t ⟨_,_,_,w⟩ ⟨I.n,I.g,I.q,I.h,I.y,I.F,I.t,I.p⟩ i false rfl d<|by rw[bQ rfl];rfl)<|bN<|q ⟨_,_,_,w⟩
 |some o=>
  rw[l]at q
  have b:o<H.e.length:=by rw[I.g];exact I.z _ _ l
  unfold n8 at q
  refine⟨(show 2<3 by decide),nu,ko _ (t z I.toHW o _ rfl b rfl) (λh=>?_) λh=>?_⟩
  ·have y:ak H.e o≠ak H.e i:=λe=>by rw[e,bQ rfl]at h;cases h
   have a:∀z:Z (if ak H.e o=ak H.e i then H else fE H o i (.h [.p "like"])) W,Q .t z.e:=q
   rw[ap y]at a
   exact tq (λR r=>ck K 12 rfl rfl rfl rfl (vs:=[.e o,.e i,.h [.p "like"]]) rfl<|J9 K z I rfl b d r) λz=>bN<|a z
  ·have e:ak H.e o=ak H.e i:=mE.mp<|cR (by cases A:decide ((ak H.e o:Int)=ak H.e i)with|true=>rfl|false=>rw[A]at h;exact dK h)
   have a:∀z:Z (if ak H.e o=ak H.e i then H else fE H o i (.h [.p "like"])) W,Q .t z.e:=q
   rw[aq e]at a
   exact bN<|a z
def XZ{x:Nat}:bi (sg H W Y d) (.e 1) (.g 0<|jo [.f<|.e 2,.f<|.e 7,.f<|.e 11,.f<|.e 12,.f<|.e 13,.f<|.e 14,cH Y .h,.e H.h,.f<|.e 15,.f<|.e 16,.e H.N] 10<|.e x)=sg (H.a8 x) W Y d:=kH 0 bl rfl
def HG{Q:Fl->List V->St->Prop}{x:Nat}(K:aG P)(z:Z H W)(a:ev P m z.e o=aa (.f<|.e 1))(b:ev P m z.e v=aa (.e x))(q:∀z:Z (H.a8 x) W,aP (cx P) n X m z.e Q):aP (cx P) n (.e (.e (.g 0 10 o) v) X) m z.e Q:=co<|aJ K b<|iO K (c:=0) (pos:=10) (r:=.e 1) a rfl (eC 10)<|Qd (R:=λm σ=>aP (cx P) n X m σ Q) XZ<|q ⟨z.f,z.h,z.d,z.g⟩
def CR(H:Hp)(i:Nat)(f:Hp->a)(b:∀H c x,f ((H.y c).a8 x)=f H):f (iB H i)=f H:=by
 unfold iB;by_cases h:i=H.N;·rw[aq h];exact b _ _ _
 ·rw[ap h]
def GW.a1(G:GW H)(i:Nat):JW (iB H i)/\(iB H i).p.length<2^20-1:=by
 unfold Lake.iB;by_cases h:i=H.N
 ·rw[aq h];have c:(H.p++[dH.g i]).length<2^19+1:=by rw[bm];exact jS G.c
  exact⟨⟨⟨G.n,G.g,G.q,G.h,G.y,G.F,G.t,G.p⟩,G.Y,G.J,G.U,G.T,aR c bl,bj G.m bl,bj G.e bl,bj G.f bl,bj G.w bl⟩,aR c bl⟩
 ·rw[ap h];exact⟨⟨G.toHW,G.Y,G.J,G.U,G.T,bj G.c bl,bj G.m bl,bj G.e bl,bj G.f bl,bj G.w bl⟩,bj G.c bl⟩
def JW.a3(G:JW H)(s:Nd)(h:H.p.length<2^20-1)(o:Option Nat):JW (kD H s o):=by cases o with|none=>exact⟨⟨G.n,G.g,G.q,G.h,G.y,G.F,G.t,G.p⟩,G.N,G.L,G.z,G.v,by show(H.p++_).length<_;rw[bm];exact jS h,G.m,G.e,G.f,G.w⟩|some o=>exact G
def J_(K:aG P)(z:Z H W)(G:GW H)(A:H.f[i]? =aa k)(q:∀z:Z (r5 H i k) W,Q .t z.e):
  aZ (cx P) (n+6) (.ref<|P.e 63) [.f<|.e 1,.e i] z.e Q:=by
 refine K.J K.d rfl<|Hz (H':=iB H i) (W':=W) (m':=[.f<|.e 1,.e i,.q]) (decide<|(i:Int)=H.N) (λR r=>aJ K rfl r) (λe R r=>?_) (λe R r=>?_) λg=>?_
 ·have m:=mE.mp<|cR e
  refine HF K z (c:=.g i) (bj G.c bl) (λb b b b e=>dH.noConfusion e) rfl rfl λg=>HG K g (x:=i+1) rfl rfl λd=>?_
  unfold iB at r
  rw[aq m]at r
  exact bN<|r d
 ·have m:i≠H.N:=λh=>sj e<|aQ sR h
  unfold iB at r
  rw[ap m]at r
  exact bN<|r z
 ·refine cj (G.a1 i) λp s=>?_
  have t:(iB H i).f[i]? =aa k:=(CR H i Hp.f λb b b=>rfl).symm▸A
  have w:bG (iB H i) k=bG H k:=by unfold bG;rw[CR H i Hp.e λb b b=>rfl]
  have y:(iB H i).t=H.t:=CR H i Hp.t λb b b=>rfl
  unfold r5 at q
  generalize iB H i=a at p s t w y g q
  rw[<-y,<-w]at q
  refine Qr (v:=bp<|bG a k) (λR r=>ck K 7 rfl rfl rfl rfl (vs:=[.e i]) rfl<|Cs K p.toHW t r) (show 2<3 by decide) nu ?_
  refine Hz (H':=kD a (bG a k)<|a.t<|bG a k) (W':=W) (m':=[.f<|.e 1,.e i,bp<|bG a k]) (!(kV a.t<|gh<|bG a k).isSome) (λR r=>gz K (u:=bp<|bG a k) (v:=.f<|.e 13) rfl rfl<|SV (tU _) (f:=kV a.t) rfl r) (λe R r=>?_) (λe R r=>?_) λd=>?_
  ·rw[pb]at e
   refine HF K g (c:=.f<|bG a k) (aR s bl) (λb b b b e=>dH.noConfusion e) rfl rfl λd=>bN ?_
   cases j:a.t (bG a k)with
   |none=>rw[j]at r;exact r d
   |some o=>rw[j]at e;exact dK e
  ·rw[pb]at e
   cases j:a.t (bG a k)with
   |none=>rw[j]at e;exact dK e
   |some o=>rw[j]at r;exact bN<|r g
  ·have J:=JW.a3 p (bG a k) s<|a.t<|bG a k
   have l:(kD a (bG a k)<|a.t<|bG a k).f=a.f/\bG (kD a (bG a k)<|a.t<|bG a k) k=bG a k/\(kD a (bG a k)<|a.t<|bG a k).t=a.t:=by
    cases a.t (bG a k)<;>exact⟨rfl,rfl,rfl⟩
   generalize kD a (bG a k) (a.t<|bG a k)=B at d J l q
   rw[<-l.2.1,<-l.2.2]at q
   exact Qs (name:="look_at") K (vs:=[.e i]) rfl rfl rfl<|UN K d J (l.1▸t) q
end
section
variable{Y:be->Nat}{Q:V->St->Prop}
def GW.a2(G:GW H){w:List Nat}(h:w.length<2^19):GW (H.L w):=⟨⟨G.n,G.g,G.q,G.h,G.y,G.F,G.t,G.p⟩,G.Y,G.J,G.U,G.T,G.c,G.m,G.e,G.f,h⟩
def UR(K:aG P)(Inv:Hp->Prop)(c:Hp->Nat)(p:∀H,Inv H->GW H/\∀x∈H.F,x<H.f.length)(gE:∀(H:Hp)(w:List Nat)(i:Nat)(k:Nd),Inv H->H.F=w++[i]->H.f[i]? =aa k->Inv (r5 (H.L w) i k)/\c (r5 (H.L w) i k)<c H)(z:Z H W)(h:Inv H)(q:∀a(z:Z a W),Inv a->a.F=[]->Q .t z.e):aZ (cx P) (n+7) (.ref<|P.e 43) [.f<|.e 1] z.e Q:=by
 refine K.f 43 rfl rfl<|Ht K (λ_(_ _:Unit)=>[.f<|.e 1]) (λH b b=>H) (λb b b=>W) (λH b b=>Inv H) (λH b b=>c H) H () () z h λa b b z d R r=>?_;refine cj (p a d) λG s=>?_;refine(aC (decide<|(0:Int)<a.F.length) (vK (fD (e:=.h 0 6<|.e 0) (r:=.f<|z.f .h) (l:=aH a.F) rfl (uB z.g) (by rw[bK];exact bj G.w bl)<|by rw[bK]) rfl) ?_);rcases yP a.F with e|⟨w,i,e⟩;·rw[e,ap<|by decide];exact bN<|q _ z d e
 ·have t:=s i (by rw[e];exact jR _ bk);have g:a.f[i]? =aa a.f[i]:=fg t;have m:w.length<2^19:=by have:=G.w;rw[e,bm]at this;exact kW this
  rw[aq<|by rw[e,bm];exact bQ<|oJ.mpr<|mJ _];have u:=Is.a4 z.g w;have st:=gE a w i _ d e g;refine d9<|aJ (n:=n+6) K (e:=.e 0) (v:=.f<|.e 1) (R:=λo σ=>∃f,MethAt (cx P) σ o ((cx P).g 32) f/\aF (cx P) (n+6) (.g 2 (.h 0 6<|.e 0) .f) _ σ λv σ=>aZ (cx P) (n+6) f [o,v] σ _) rfl<|aC _ (K.y (j:=10) rfl rfl rfl)<|ny K (r:=.f<|z.f .h) (l:=aH a.F) (vs:=[]) rfl (uB z.g) F.slot_list_pop rfl rfl<|p7 (l:=aH w) (v:=.e i) (by rw[sa,<-e];exact uB z.g) (by rw[bK,bX];exact(aR m bl)) ?_;rw[i4];exact J_ K (H:=a.L w) ⟨_,_,_,u⟩ (G.a2 m) g λz=>r _ () () z st.1 st.2
def X0:bi (sg H W Y d) (.e 16) (.e<|H.J.mapIdx (λi(m:Nat×List Nat)=>V.h [.e m.1,cH Y<|.g i])++[V.h [.e p.1,.f<|.f x]])=sg (H.a1<|H.J++[p]) W (ai Y (.g H.J.length) x) d:=by
 have e:H.J.mapIdx (λi(m:Nat×List Nat)=>V.h [.e m.1,cH (ai Y (.g H.J.length) x)<|.g i])=H.J.mapIdx (λi(m:Nat×List Nat)=>V.h [.e m.1,cH Y<|.g i]):=by refine Kn λi c a=>?_;unfold cH;rw[aI λe=>bZ (b_.mp a).1 (be.g.inj e)]
 refine wv 15 bl ?_ rfl;show _=c9 (H.a1<|H.J++[p]) _;unfold c9;simp only[Ax,Ay,Az,j9];rw[e];show _=[_,_,_,_,_,_,_,_,_,_,_,_,_,_,_,aa<|O.e<|_++[V.h [_,cH (ai Y (.g H.J.length) x)<|.g H.J.length]]];unfold cH;rw[bg];rfl
set_option tactic.hygienic true in
theorem Wb(K:aG P)(z:Z H W)(a:H.p.length<2^20)(b:H.F.length<2^20)(c:H.J.length<2^20)(q:∀z:Z (H.a1<|H.J++[(H.p.length,H.F)]) W,Q .t z.e):aZ (cx P) (n+1) (.ref<|P.e 48) [.f<|.e 1] z.e Q:=by
 refine K.f 48 rfl rfl<|d9<|oF K (r:=.e 16) (l:=H.J.mapIdx λi(m:Nat×List Nat)=>V.h [.e m.1,cH z.f<|.g i]) rfl rfl F.slot_list_append rfl<|oz<|j7<|aJ K (fD (e:=.h 0 8<|.e 0) (r:=.e 15) (l:=H.p.mapIdx<|iy z.f) rfl rfl (by rw[nJ];exact a) rfl)<|dW K K.G.h rfl<|aJ K (e:=.h 0 6<|.e 0) (v:=.f<|.f<|z.f .h) rfl<|vC (tW<|uB z.g) (by rw[bK];exact jp b)<|.inr<|aC (.f z.h) (z.g.g _) ?_;rw[i4,nJ];refine o9 (l:=H.J.mapIdx λi(m:Nat×List Nat)=>V.h [.e m.1,cH z.f<|.g i]) rfl (by rw[nJ];exact jp c) ?_;rw[X0 (p:=(H.p.length,H.F))];refine bN<|q ⟨_,_,_,Is.a0 z.g (ht:=λi e=>be.noConfusion e) (t:=.g H.J.length) (o':=cv H.F) ?_ λu d=>?_⟩;·show((H.J++[_])[H.J.length]?).map _=_;rw[lr];rfl
 ·cases u<;>first|rfl|skip
  rename_i i;show((H.J++[_])[i]?).map _=(H.J[i]?).map _;rw[Jo λe=>d<|by rw[e]]
end
section
variable{X:be->Nat}{Q:V->St->Prop}
noncomputable def ly(f:List Nat->List Nat)(U:Nat->Option (List Nat))(a:List Nat):Nat->Option (List Nat):=λc=>if c∈a then(U c).map f else U c
def qy(h:c∈a):ly f U a c=(U c).map f:=aq h
def mj(h:c∉a):ly f U a c=U c:=ap h
def CU(h:∀x,x∈a↔x∈b):ly f U a=ly f U b:=by
 funext c;by_cases e:c∈a;·rw[qy e,qy<|(h c).mp e]
 ·rw[mj e,mj λq=>e<|(h c).mpr q]
def Ko(d:U c=aa l)(g:c∉a):ly f (ai U c<|aa<|f l) a=ly f U (c::a):=by
 funext i;by_cases h:i=c;·rw[h,mj g,qy bk,bg,d];rfl
 ·by_cases b:i∈a;·rw[qy b,qy<|bR _ b,aI h]
  ·rw[mj b,mj λe=>(cB.mp e).elim h b,aI h]
abbrev jr(U:Nat->Option (List Nat))(a:List Nat)(N:Nat):Nat->Option (List Nat):=ly (·++[N]) U a
abbrev lE(U:Nat->Option (List Nat))(a:List Nat):Nat->Option (List Nat):=ly NS U a
def MO{M:V->List V}{Q:Fl->List V->St->Prop}(cond:List Nat->Prop)(gE:∀(H:Hp)(z:Z H W)(c:Nat)(l:List Nat)(y:V)(k:Fl->List V->St->Prop),H.g c=aa l->cond l->(∀z:Z (H.a0<|ai H.g c<|aa<|f l) W,k .e (M<|.e c) z.e)->F (.e c) (M y) z.e k)(a:List Nat):∀(H:Hp)(z:Z H W)(y:V),(∀c∈a,∃l,H.g c=aa l/\cond l)->a.Nodup->(∀(z:Z (H.a0<|ly f H.g a) W)(y:V),Q .e (M y) z.e)->eG F (λu=>True) (aH a) (M y) z.e Q:=by induction a with
 |nil=>intro H z y _ _ q;have e:ly f H.g []=H.g:=funext λc=>mj cX;rw[e]at q;exact q z y
 |cons c a m=>
  intro H z y d n q;have b:=gD.mp n;refine aB (d c bk) λl g o=>gE H z c l y _ g o λp=>⟨trivial,m _ p (.e c) (λi j=>?_) b.2 λr y=>?_⟩;·exact aB (d i<|bR _ j) λs h t=>aC s ((aI λ(e:i=c)=>b.1<|e▸j).trans h) t
  ·rw[<-Ko g b.1]at q;exact q r y
def Hu{Q:Fl->List V->St->Prop}(K:aG P)(z:Z H W)(I:HW H)(p:a.length<=2)(t:∀k∈a,k<H.e.length)(u:∀R:V->St->Prop,R (.h<|aH a) z.e->aF (cx P) (n+2) o m z.e R)(v:∀x:V,ev P (m++[x]) z.e (.e 0)=aa (.f<|.e 1))(j:∀x:Nat,ev P (m++[.e x]) z.e (.e M)=aa (.e x))(q:∀f:List Nat,f.Nodup->(∀c,c∈f↔c∈a.map (ak H.e))->eG (λx m σ k=>i<m.length/\x≠.q/\aP (cx P) (n+2) b (m.set i x) σ k) (λr=>True) (aH f) m z.e (f7 P (n+2) Y Q)):aP (cx P) (n+2) (.e (.q i (.i<|.T (.g 24 (.e 0)<|.e (.e M) .f) o) b) Y) m z.e Q:=by refine mS<|wG<|kO<|u _<|bV (aH a) rfl (by rw[bK,bX];exact(ay p bl))<|qf (g:=λi=>.e<|ak H.e i) (λi d k q=>qY K z I (v _) (j i) (t i d) q) ?_;refine⟨_,rfl,by rw[bq];exact(ay p bl),.inl<|aC (a.map λi=>(ak H.e i:Int)) (by rw[fh];rfl) λf w l=>?_⟩;refine aV (yN λx y=>aB (cq.mp<|(l x).mp y) λi r e=>⟨_,e.symm⟩) λs e=>?_;subst e;rw[<-pn];exact(c_ (aH s) (λr=>True) rfl<|q s (KM w) λc=>⟨λh=>(aB (cq.mp<|(l c).mp<|cq.mpr ⟨c,h,rfl⟩) λi d e=>cq.mpr<|aC i d<|g_ e),λh=>(aB (cq.mp h) λi d e=>aB (cq.mp<|(l c).mpr<|cq.mpr<|aC i d<|aQ sR e) λB j A=>g_ A▸j)⟩)
abbrev o3(H:Hp)(k:Nd)(e:Int):Hp:=(r_<|uw H k e).a0<|jr (ai H.g H.f.length<|aa []) (k.2.map<|ak<|H.e++[H.e.length]) H.f.length
def HW.a0(I:HW H){e:Int}(c:H.f.length<59)(d:k.2.length<=2)(f:∀x∈k.2,x<H.f.length)(g:∀(i:Nat)(l:List Nat),U i=aa l->l.length<=18):HW ((r_<|uw H k e).a0 U):=by
 refine⟨?_,?_,?_,λa b h=>?_,λi j h=>?_,λi l h=>?_,g,?_⟩;·show(H.f++[k]).length<60;rw[bm];exact jS c
 ·show(H.e++[_]).length=(H.f++[k]).length;rw[bm,bm,I.g];rfl
 ·show(H.q++[_]).length=(H.e++[_]).length;rw[bm,bm,I.q];rfl
 ·exact(mY h).elim (I.h a b) λh=>bf<|h.2.trans h.1.symm
 ·refine(mY h).elim (I.y i j) λh=>?_;rw[h.1,h.2];exact⟨d,f⟩
 ·refine(mY h).elim (I.F i l) λh=>?_;rw[h.2];show 1<=18;decide
 ·show(H.e++[_]).length<1000;rw[bm,I.g];show H.f.length+1<1000;exact(aL (jA c) bl)
def hZ(H:Hp)(k:Nd)(e:Int):Hp:=r5 (o3 H k e) H.f.length k
def Lw(h:kr b)(f:a<b.length):ak (b++[N]) a=ak b a:=by induction a using AK with
 |ind a i=>
  have g:(b++[N])[a]? =b[a]? :=gM f;have c:b[a]? =aa b[a]:=fg f;by_cases e:b[a]=a;·rw[e]at c;rw[iY c,iY<|g.trans c]
  ·have d:=mI (h a _ c) e;rw[sy c d,sy (g.trans c) d];exact i _ d<|bj d f
def Cp(K:aG P)(z:Z H W)(I:HW H)(j:H.f.length<59)(J:H.T.length=H.f.length)(N:H.Y.length=H.f.length){x:ah}{ks:List Nat}(U:j0 x=true)(m:ks.length<=2)(g:∀k∈ks,k<H.f.length)(hb:∀w∈H.T,0<=w/\w<2^40)(us:∀a:Nat,H.e[a]? =aa a->∃l,H.g a=aa l)(up:∀i,H.g i≠ae->i<H.f.length)(au:∀(c:Nat)(l:List Nat),H.g c=aa l->l.length<=17)(hG:∀e,GW<|o3 H (x,ks) e)(q1:∀i,numOf H.f (x,ks)=aa i->i<H.f.length->Q (.e i) z.e)(q2:numOf H.f (x,ks)=ae->∀e(z:Z (hZ H (x,ks) e) W),Q (.e H.f.length) z.e):aZ (cx P) (n+7) (.ref<|P.e 36) [.f<|.e 1,.p x,.h<|aH ks] z.e Q:=by
 have o:H.e.length<1000:=I.p;refine K.f 36 rfl rfl<|co<|ck K 20 rfl rfl rfl rfl (vs:=[.p x,.h<|aH ks]) rfl<|Sa K z.g (by exact(aR j bl)) J N U m g hb (λi b=>?_) λaU e D1=>?_;·have q:i<H.f.length:=(EJ.mp (b:EH _ _=aa i)).1;exact⟨bl,nu,ko (decide<|(i:Int)<H.e.length) (λR r=>pD K (u:=.e i) rfl<|ck K 27 rfl rfl rfl rfl (vs:=[]) rfl<|ML K o<|jG rfl r) (λx_=>eO K (e:=.e 3) rfl<|q1 i b q) λh=>aD (hH.mpr<|I.g.symm▸q)<|sj h⟩
 refine⟨bl,nu,oZ (λR r=>pD K (u:=.e H.f.length) rfl<|ck K 27 rfl rfl rfl rfl (vs:=[]) rfl<|ML K (H:=uw H (x,ks) e) o<|jG (v:=.g false) (by show aa (V.g<|decide _)=_;rw[dz];rw[I.g];exact NA _) r) ?_⟩;refine d9<|ck K 29 rfl rfl rfl rfl (vs:=[]) rfl<|aam K D1 o I.q λbw s d2 t=>?_;have A:(H.f++[(x,ks)]).length=H.f.length+1:=bm;refine BZ (Q:=FQ Q) K ⟨bw,s,d2,t⟩ (i:=H.f.length) (l:=[]) (by show(H.f++[(x,ks)]).length<60;rw[A];exact jS j) (λi b=>by show i<(H.f++[(x,ks)]).length;rw[A];exact cY<|up i b) (λR r=>oH K (vs:=[]) (r:=.f s) rfl (t.g _) r) rfl rfl λB=>?_;have I3:HW ((r_<|uw H (x,ks) e).a0<|ai H.g H.f.length<|aa []):=I.a0 j m g λi l h=>by
  by_cases C:i=H.f.length;·rw[C,bg]at h;cases h;exact da _
  ·rw[aI C]at h;exact I.t i l h
 have l3:(H.e++[H.e.length]).length=H.f.length+1:=by rw[bm,I.g];rfl
 refine Hu K B I3 m (λi b=>by show i<(H.e++[_]).length;rw[l3];exact cY<|g i b) (λR r=>aJ K (e:=.e 2) rfl r) (λx=>rfl) (λx=>rfl) λjs nd D=>?_;refine MO (f:=(·++[H.f.length])) (M:=λy=>[.f<|.e 1,.p x,.h<|aH ks,.e H.f.length,y]) (Q:=f7 P (n+6) _<|FQ Q) (λl=>l.length<=18) (λH2 z c l y k d bI r=>?_) js _ B .q (λc hc=>?_) nd λp y=>?_;·refine⟨bl,nu,mR K (r:=.f<|z.f<|.e c) (l:=aH l) (v:=.e H.f.length) (rS (i:=c) rfl rfl d) (uy z.g d) rfl (by rw[bK,bX];exact(ay bI bl)) ?_⟩;rw[sa];exact aV (HE z d) λz' e=>bN<|e▸r z'
 ·refine aB (cq.mp<|(D c).mp hc) λi b e=>?_;have F:i<H.e.length:=I.g.symm▸g i b;have G:=iZ I.h F;rw[show ak _ i=_ from Lw I.h F]at e;subst e;refine aV (show∃l,H.g _=aa l from us _ G.2) λl d=>⟨l,(aI<|bZ<|I.g▸G.1).trans d,mH<|au _ l d⟩
 ·revert p;rw[CU D];intro p;exact tq (λR r=>ck K 10 rfl rfl rfl rfl (vs:=[.e H.f.length]) rfl<|J_ K (H:=o3 H (x,ks) e) p (hG e) (k:=(x,ks)) lr r) λz5=>eO K (e:=.e 3) rfl<|q2 aU e z5
end
section
variable{P:bn}{n:Nat}{H:Hp}{W:bh}{X:be->Nat}{G:Nat}{d:cU}{Q:V->St->Prop}{m:List V}
def Dx(H:Hp)(l:List Nd)(k:Nd):Hp:=(xZ (xX (H.a0<|ai (lE H.g<|k.2.map<|ak H.e) l.length ae) l.length) l (H.T.take l.length)<|H.Y.take l.length).a8 l.length
def Mx(h:l.length=n+1):∃x,l=l.take n++[x]:=by
 rcases yP l with rfl|⟨k,x,rfl⟩;·cases h
 ·rw[bm]at h;have:k.length=n:=lR h;exact⟨x,by rw[<-this,qW]⟩
set_option tactic.hygienic true in
theorem Is.b4(D:Is H W X G d):Is (H.a0<|ai H.g i ae) W X G d:=DP.y D λt o e=>by
 cases t<;>first|exact e|skip
 rename_i j;have a:((ai H.g i ae) j).map cv=aa o:=e;by_cases h:j=i;·rw[h,bg]at a;exact aY a
 ·rw[aI h]at a;exact a
def Wd(K:aG P)(z:Z H W)(I:HW H)(d:H.f=l++[k])(A:H.T.length=l.length+1)(B:H.Y.length=l.length+1)(D:k∉l)(F:H.e[l.length]? =aa l.length)(J:H.q[l.length]? =aa [l.length])(L:∀c∈k.2.map (ak H.e),∃l,H.g c=aa l/\∃a x,l=a++[x]/\a.length<=18)(N:∃o,H.g l.length=aa o)(U:∀c∈k.2.map (ak H.e),c≠l.length)(Y:∀i,H.g i≠ae->i<H.f.length)(q:∀z:Z (Dx H l k) W,Q .t z.e):aZ (cx P) (n+4) (.ref<|P.e 50) [.f<|.e 1,.e l.length] z.e Q:=by
 have g:H.f[l.length]? =aa k:=by rw[d];exact lr
 have j:=I.y _ _ g;have hs:H.f.length<1000:=bj I.n bl;have p:l.length<60:=by have:=I.n;rw[d,bm]at this;exact kW this
 have s:H.e.length=l.length+1:=by rw[I.g,d,bm];rfl
 refine K.f 50 rfl rfl<|Hu K z I j.1 (λi g=>by rw[s];exact cY<|j.2 i g) (λR r=>ck K 24 rfl rfl rfl rfl (vs:=[.e l.length]) rfl<|xR K hs g (aL j.1 bl) r) (λx=>rfl) (λx=>rfl) λjs nd t=>?_;refine MO (f:=NS) (M:=λy=>[.f<|.e 1,.e l.length,y]) (Q:=f7 P (n+3) _<|FQ Q) (λl=>∃a x,l=a++[x]/\a.length<=18) (λH2 z c l y k m au r=>?_) js _ z .q (λc hc=>L c<|(t c).mp hc) nd λb y=>?_;·refine fq au λa x e aK=>?_;subst e;rw[EA]at r;refine⟨bl,nu,vt K (r:=.f<|z.f<|.e c) (l:=aH a) (v:=.e x) (rS (i:=c) rfl rfl m) (by rw[sa];exact uy z.g m) (by rw[bK];exact aL aK bl) ?_⟩;exact aV (HE z m) λz' e=>bN<|e▸r z'
 revert b;rw[CU t];intro b;have aU:lE H.g (k.2.map<|ak H.e) l.length≠ae:=by rw[show lE H.g _ l.length=H.g l.length from mj λh=>U _ h rfl];exact aV N λo e1 e2=>aY<|e2.symm.trans e1
 have bC:∀i,lE H.g (k.2.map<|ak H.e) i≠ae->i<60:=λi h=>bj (Y i λe=>h<|by delta lE ly;split<;>rw[e];rfl) I.n;refine Qe K (r:=.e 14) (f:=iV (lE H.g<|k.2.map<|ak H.e) λi=>cH b.f<|.e i) (i:=l.length) rfl rfl rfl (λe=>aU<|s_.mp e) (yo bl bC) ?_;rw[Jx,Lj];have D5:Is (H.a0<|ai (lE H.g<|k.2.map<|ak H.e) l.length ae) W b.f b.h b.d:=b.g.b4 (i:=l.length);refine d9<|ck K 28 rfl rfl rfl rfl (vs:=[.e l.length]) rfl<|aak K D5 I.h I.p I.q s F J λD6=>?_;refine aV (Mx A) λw bH=>aV (Mx B) λe bI=>?_;have u:∀{a:List Int},(a.take l.length).length<900:=λ{a}=>by rw[uV];exact bj (aL (lQ ..) p) bl
 exact d9<|ck K 22 rfl rfl rfl rfl (vs:=[.e l.length]) rfl<|R8 K (H:=xX (H.a0<|ai (lE H.g<|k.2.map<|ak H.e) l.length ae) l.length) D6 d bH bI D (bj p bl) u u λD7=>(HG K ⟨_,_,_,D7⟩ (x:=l.length) rfl rfl λz=>bN<|q z)
def ou(H:Hp)(a b:List V)(c:List (Nat×Nat))(k m g:Nat)(d:Option (List Nat)):Hp:=if k=g then H.a4 a else((p5 ((H.a4 a).a9 b) c k g).a0<|ai (ai H.g k<|aa<|((H.g k).getD []).take m) g d)
noncomputable abbrev bh.g(W:bh)(j x:Nat)(o:O):bh:={W with w:=ai W.w j<|aa o,r:=ai W.r j x}
set_option tactic.hygienic true in
theorem DP.a8{us:List Nat}{k m g:Nat}(D:DP (fc (H.y<|H.p++[.e k m g<|aa us]) W.w) W.r X G d):Is ((H.a4 es).a9 fs) (W.g 0 (X<|.f H.p.length)<|cv us) (ai X (.w 0)<|X<|.f H.p.length) G d:=by
 refine DP.Y D (t:=.f H.p.length) (j:=0) (o:=cv us) ?_ (λe=>be.noConfusion e) λt p e=>?_;·show((H.p++[_])[H.p.length]?).bind _=_;rw[lr];rfl
 ·cases t<;>first|exact .inr ⟨(λq=>be.noConfusion q),(λq=>be.noConfusion q),e⟩|skip
  ·refine aB (nN.mp e) λc a l=>?_;have a:H.p[_]? =aa c:=a;have f:=(b_.mp a).1;exact .inr ⟨(λq=>be.noConfusion q),(λq=>bZ f<|be.f.inj q),nN.mpr ⟨c,(gM f).trans a,l⟩⟩
  ·rename_i i;have b:ai W.w 0 (aa<|cv us) i=aa p:=e;by_cases h:i=0;·rw[h,bg]at b;rw[h];exact .inl ⟨rfl,(bo b).symm⟩
   ·rw[aI h]at b;exact .inr ⟨(λq=>h<|be.w.inj q),(λq=>nomatch q),b⟩
set_option tactic.hygienic true in
theorem DP.a5{g:Nat}(D:Is H (W.g 0 x<|cv b) X G d)(c:W.w 0=ae):Is (H.a0<|ai H.g g<|aa b) W (ai (ai X (.e g)<|X<|.w 0) (.w 0)<|W.r 0) G d:=by
 refine DP.F (x:=x) (DP.U D (t:=.w 0) (v:=.e g) (o:=cv b) (show ai W.w 0 _ 0=_ from bg ..) (λe=>nomatch e) (λi e=>nomatch e) λt p e=>?_) c;cases t<;>first|exact .inr ⟨(λq=>be.noConfusion q),(λq=>be.noConfusion q),e⟩|skip
 ·rename_i i;have a:(ai H.g g (aa b) i).map cv=aa p:=e;by_cases h:i=g;·rw[h,bg]at a;rw[h];exact .inl ⟨rfl,(bo a).symm⟩
  ·rw[aI h]at a;exact .inr ⟨(λq=>h<|be.e.inj q),(λq=>nomatch q),a⟩
 ·rename_i i;have a:W.w i=aa p:=e;have h:i≠0:=λh=>by rw[h,c]at a;exact aY a
  exact .inr ⟨(λq=>nomatch q),(λq=>h<|be.w.inj q),(aI h).trans a⟩
structure HC(H:Hp)(es fs:List V)(ms:List (Nat×Nat))(k m g:Nat)(us:Option (List Nat))(uk:List Nat):Prop where
 y:∃e,H.U=es++[e]
 F:es.length<2^20
 J:k≠g->∃f,H.a=fs++[f]
 L:fs.length<2^20
 h:k≠g->H.Z=ms++[(k,g)]
 t:ms.length<2^19
 q:k<H.e.length
 N:g<H.e.length
 T:k≠g->(H.q.getD g []).length<=(H.q.getD k []).length
 p:H.g k=aa uk
 U:m<2^20
 Y:k≠g->∃ug,us=aa ug
def aaq(K:aG P){k g a:Nat}{b o:List Nat}{x:Nat}(z:Z H (W.g 0 x<|cv o))(p:H.f.length<60)(s:∀i,H.g i≠ae->i<H.f.length)(F:b.length<=18)(t:H.g k=aa b)(I:a<2^20)(J:W.w 0=ae)(w:m[0]? =aa (.f<|.e 1))(y:m[3]? =aa (.e k))(L:m[4]? =aa (.e a))(M:m[5]? =aa (.e g))(U:m[6]? =aa (.f<|.f x))(q:∀z:Z (H.a0<|ai (ai H.g k<|aa<|b.take a) g<|aa o) W,Q .t z.e):aP (cx P) n (.e (.e (.f (.h 0 5<|.e 0)<|.e 3)<|.j (.q (.h 0 5<|.e 0)<|.e 3)<|.e 4)<|.e (.e (.f (.h 0 5<|.e 0)<|.e 5)<|.e 6) .f) m z.e (FQ Q):=by
 have c:∀{i:Nat}{v:V}{σ:St},m[i]? =aa v->c8 v=aa v->ev P m σ (.e i)=aa v:=λ{i v σ}h Y=>by show(m[i]?).bind c8=_;rw[h];exact Y
 have A:∀{H:Hp}{W:bh}{X:be->Nat}{d:cU},ev P m (sg H W X d) (.h 0 5<|.e 0)=aa (.f<|.e 14):=λ{H W X d}=>by show((m[0]?).bind c8).bind _=_;rw[w];rfl
 refine BZ (Q:=FQ Q) K z (i:=k) (l:=b.take a) p s (λR r=>wH K (u:=cH z.f<|.e k) (v:=.e a) (rS (i:=k) (l:=b) w (c y rfl) t) (c L rfl) ⟨a,rfl,ip a,(nD (kP.mpr<|bu I)<|by decide),aH b,tW<|uy z.g t,by rw[bK];exact aL F bl,.inr ⟨.f z.h,z.g.g _,by rw[show nT false (aH b) (a:Int)=aH (b.take a)from CX b a];exact r⟩⟩) A (c y rfl) λj=>?_;have ac:eW (iV (ai H.g k<|aa<|b.take a) λi=>cH j.f<|.e i):=yo (N:=60) bl λi B=>by
  by_cases e:i=k;·rw[e];exact bj (s k<|by rw[t];exact λe=>aY e.symm) p
  ·rw[aI e]at B;exact bj (s i B) p
 refine co<|aJ K (v:=.f<|.f x) (c U rfl)<|pW K (r:=.e 14) (f:=iV (ai H.g k<|aa<|b.take a) λi=>cH j.f<|.e i) (i:=g) A (c M rfl) rfl ac ?_;rw[Jy (l:=o),KG];have er:j.f (.w 0)=x:=j.g.e 0;have D:=DP.a5 (g:=g) j.g J;rw[er]at D;exact bN<|q ⟨_,_,_,D⟩
def Wc(K:aG P){k b g:Nat}{j:Option (List Nat)}(X:be->Nat)(G:Nat)(d:cU)(D:DP (fc (H.y<|H.p++[.e k b g j]) W.w) W.r X G d)(I:HW H){es fs:List V}{m:List (Nat×Nat)}{w:List Nat}(u:HC H es fs m k b g j w)(x:∀i,H.g i≠ae->i<H.f.length)(y:W.w 0=ae)
  (q:∀z:Z (ou H es fs m k b g j) W,Q .t z.e):aZ (cx P) (n+2) (.ref<|P.e 51) [.f<|.e 1,iy X H.p.length<|.e k b g j] (sg H W X d) Q:=by
 have A:Is H W X G d:=DP.y D λt o e=>by
  cases t<;>first|exact e|skip
  exact aB (nN.mp e) λc p B=>nN.mpr ⟨c,((gM (b_.mp<|show H.p[_]? =aa c from p).1).trans p),B⟩
 delta ou at q
 refine K.f 51 rfl rfl<|gF<|aJ (n:=n+1) K (e:=.e 1) (v:=iy X H.p.length<|.e k b g j) rfl ⟨_,.inl rfl,rfl,bl,nu,bl,nu,bl,nu,bl,nu,bl,nu,?_⟩
 refine aV u.y λe F=>vt K (r:=.e 11) (l:=es) (v:=e) rfl (by rw[<-F];rfl) u.F ?_
 rw[Lc]
 refine ko (!decide ((k:Int)=g)) (λR r=>aJ K rfl r) (λh=>?_) λh=>?_
 ·have a:k≠g:=λe=>by rw[e,bQ rfl]at h;exact dK h
  rw[ap a,u.p]at q
  refine aV (u.Y a) λU J=>?_
  subst J
  refine aV (u.J a) λf L=>vt K (r:=.e 12) (l:=fs) (v:=f) rfl (by rw[<-L];rfl) u.L ?_
  rw[Ld]
  have M:=D.a8 (es:=es) (fs:=fs)
  refine d9<|ck K 34 rfl rfl rfl rfl (vs:=[.e m.length]) (nV<|ig (fD (e:=.h 2 2<|.h 0 1<|.e 0) (r:=.e 10) (l:=H.Z.map mV) rfl rfl (by rw[bq,u.h a,bm];exact aL (jA u.t) bl) rfl) (v:=.e 1) rfl ?_)<|aai K M I.p I.q (u.h a) u.t u.q u.N (u.T a) (aL (I.F k _<|gS []<|by rw[I.q];exact u.q) bl) λd2 N=>?_
  ·rw[bq,u.h a,bm]
   show aa (V.e<|((m.length+1:Nat):Int)-1)=_
   rw[wL,An,Ah]
  exact aaq K (H:=p5 ((H.a4 es).a9 fs) m k g) ⟨_,_,_,N⟩ I.n x (I.t _ _ u.p) u.p u.U y rfl rfl rfl rfl rfl q
 ·have e:k=g:=by
   cases s:decide ((k:Int)=g)with
   |true=>exact mE.mp<|cR s
   |false=>rw[s]at h;exact dK h
  rw[aq e]at q
  exact bN<|q ⟨X,G,d,A⟩
end
section
variable{P:bn}{n:Nat}{H:Hp}{W:bh}{Y:be->Nat}{d:cU}{Q:V->St->Prop}{m:List V}
def Hw{Q:Fl->List V->St->Prop}(h:∀R:V->St->Prop,R (.g true) σ->aF (cx P) n t m σ R)(q:aP (cx P) n a m σ (f7 P n U Q)):aP (cx P) n (.e (.g t a b) U) m σ Q:=ko true h (λc=>q) λe=>ff e.symm
def BM{Q:Fl->List V->St->Prop}(h:∀R:V->St->Prop,R (.g false) σ->aF (cx P) n t m σ R)(q:aP (cx P) n b m σ (f7 P n U Q)):aP (cx P) n (.e (.g t a b) U) m σ Q:=ko false h (λe=>ff e) λc=>q
def YB:bi (sg H W Y d) (.e 15) (.e<|a.mapIdx<|iy Y)=sg (H.y a) W Y d:=kH 14 bl rfl
def tZ(Y:be->Nat)(i:Nat)(m:Nat×List Nat):V:=.h [.e m.1,cH Y<|.g i]
def YD:bi (sg H W Y d) (.e 16) (.e<|a.mapIdx<|tZ Y)=sg (H.a1 a) W Y d:=kH 15 bl rfl
def XV{x:Nat}:bi (sg H W Y d) (.e 1) (.g 0<|jo [.f<|.e 2,.f<|.e 7,.f<|.e 11,.f<|.e 12,.f<|.e 13,.f<|.e 14,cH Y .h,.e H.h,.f<|.e 15,.f<|.e 16,.e H.N] 7<|.e x)=sg (H.a3 x) W Y d:=kH 0 bl rfl
def X3:bi (sg H W Y d) (.e 1) (.g 0<|jo [.f<|.e 2,.f<|.e 7,.f<|.e 11,.f<|.e 12,.f<|.e 13,.f<|.e 14,cH Y .h,.e H.h,.f<|.e 15,.f<|.e 16,.e H.N] 6<|.f<|.f x)=sg (H.L w) W (ai Y .h x) d:=wv 0 bl rfl rfl
def last_push:(l++[x]).mapIdx f=l.mapIdx f++[f l.length x]:=by rw[Ax];simp only[Ay,Az,j9]
structure HD(H:Hp)(l:List Nd)(k:Nd):Prop where
 q:H.f=l++[k]
 F:H.T.length=l.length+1
 h:H.Y.length=l.length+1
 p:k∉l
 e:H.e[l.length]? =aa l.length
 f:H.q[l.length]? =aa [l.length]
 y:∀c∈k.2.map (ak H.e),∃l,H.g c=aa l/\∃l' x,l=l'++[x]/\l'.length<=18
 g:∃ul,H.g l.length=aa ul
 t:∀c∈k.2.map (ak H.e),c≠l.length
def pX(H:Hp)(c:dH):Prop:=dH.casesOn c (λn=>(H.f.take n).length=n/\HD H (H.f.take n) (H.f.getD n default)) (λs=>H.t s≠ae/\sT H.t) λk m g a=>∃b,HC H H.U.dropLast H.a.dropLast H.Z.dropLast k m g a b
def ot(H:Hp)(c:dH):Hp:=dH.casesOn c (λn=>Dx H (H.f.take n)<|H.f.getD n default) (λs=>H.a7<|ai H.t s ae) λk m g a=>ou H H.U.dropLast H.a.dropLast H.Z.dropLast k m g a
def Dv(H:Hp)(c:dH):(ot H c).p=H.p:=by cases c with
 |g n=>rfl
 |f s=>rfl
 |e k m g a=>
  show(ou _ _ _ _ _ _ _ _).p=_;unfold ou;by_cases h:k=g;·rw[aq h]
  ·rw[ap h]
def iQ(K:aG P)(c:ev P m σ a=aa (.p x))(d:dm x=true)(e:dm y=true)(f:(x==y)=b)(q:R (.g b) σ):aF (cx P) n (.t .e a<|.y y) m σ R:=gz K (u:=.p x) (v:=.p y) c rfl<|cp _ _ (lB d) (lB e) (by rw[tI,f];exact q)
set_option tactic.hygienic true in
theorem Is.b9(D:Is H W Y X d){a:List (Nat×List Nat)}{m b:Nat}{w:List Nat}(k:H.J=a++[(m,w)]):Is ((H.a1 a).a3 b) (W.g 1 (Y<|.g a.length)<|cv w) (ai Y (.w 1)<|Y<|.g a.length) X d:=by
 refine DP.Y D (t:=.g a.length) (j:=1) (o:=cv w) ?_ (λe=>be.noConfusion e) λt p e=>?_;·show(H.J[a.length]?).map _=_;rw[k,lr];rfl
 ·cases t<;>first|exact .inr ⟨(λq=>be.noConfusion q),(λq=>be.noConfusion q),e⟩|skip
  ·refine aB (fj.mp e) λc f n=>?_;have f:a[_]? =aa c:=f;have l:=(b_.mp f).1;exact .inr ⟨(λq=>be.noConfusion q),(λq=>bZ l<|be.g.inj q),fj.mpr ⟨c,by rw[k];exact(gM l).trans f,n⟩⟩
  ·rename_i i;have g:ai W.w 1 (aa<|cv w) i=aa p:=e;by_cases h:i=1;·rw[h,bg]at g;rw[h];exact .inl ⟨rfl,(bo g).symm⟩
   ·rw[aI h]at g;exact .inr ⟨(λq=>h<|be.w.inj q),(λq=>nomatch q),g⟩
set_option tactic.hygienic true in
theorem Is.b6(D:Is H (W.g 1 x<|cv w) Y X d)(b:W.w 1=ae):Is (H.L w) W (ai (ai Y .h<|Y<|.w 1) (.w 1)<|W.r 1) X d:=by
 refine DP.F (x:=x) (DP.U D (t:=.w 1) (v:=.h) (o:=cv w) (show ai W.w 1 _ 1=_ from bg ..) (λe=>nomatch e) (λi e=>nomatch e) λt p e=>?_) b;cases t<;>first|exact .inr ⟨(λq=>be.noConfusion q),(λq=>be.noConfusion q),e⟩|skip
 ·exact .inl ⟨rfl,(bo<|show aa (cv w)=aa p from e).symm⟩
 ·rename_i i;have a:W.w i=aa p:=e;have h:i≠1:=λh=>by rw[h,b]at a;exact aY a
  exact .inr ⟨(λq=>nomatch q),(λq=>h<|be.w.inj q),(aI h).trans a⟩
def n_:dm "made"=true/\dm "known"=true/\dm "edge"=true:=by decide+kernel
def aah(K:aG P){cs:List dH}{c:dH}{x:V}{y:V}{R:List V->St->Prop}{Q:Fl->List V->St->Prop}(z:Z H W)(hc:H.p=cs++[c])(hl:cs.length<2^19)(I:HW H)(up:∀i,H.g i≠ae->i<H.f.length)(u:pX (H.y cs) c)(hw0:W.w 0=ae)
  {zv:V}(q:∀(z:Z (ot (H.y cs) c) W)(v:V),R [.f (.e 1),x,y,v] z.e):
  aP (cx P) (n+4) (.e (.e (.e 3) (.g 2 (.h 0 8 (.e 0)) .f)) (.e (.g (.t .e (.q (.e 3) (.p 0)) (.y "made")) (.e (.f (.g 38 (.e 0) (.e (.q (.e 3) (.p 1)) .f))) .f) (.e (.g (.t .e (.q (.e 3) (.p 0)) (.y "known")) (.e (.F (.h 0 4 (.e 0)) (.q (.e 3) (.p 1))) .f) (.e (.f (.g 39 (.e 0) (.e (.e 3) .f))) .f)) .f)) .f)) [.f (.e 1),x,y,zv] z.e (LQ R Q):=by
 refine co (ny K (r:=.e 15) (l:=H.p.mapIdx (iy z.f)) (vs:=[]) rfl rfl F.slot_list_pop rfl rfl (p7 (l:=cs.mapIdx (iy z.f)) (v:=iy z.f cs.length c) (by rw[<-last_push,<-hc];rfl) (by rw[nJ,bX];exact aR hl bl) ⟨bl,?_,?_⟩))
 ·cases c<;>exact λe=>nomatch e
 rw[YB]
 have I2:HW (H.y cs):=⟨I.n,I.g,I.q,I.h,I.y,I.F,I.t,I.p⟩
 have D2:Is (H.y cs) W z.f z.h z.d:=DP.y z.g λt o e=>by
  cases t<;>first|exact e|skip
  refine aB (nN.mp e) λc' h1 h2=>nN.mpr ⟨c',?_,h2⟩
  rw[hc]
  exact(gM (b_.mp (show cs[_]? =aa c' from h1)).1).trans h1
 cases c with
 |g v=>
  refine cj u λe uo=>?_
  refine Hw (λR r=>iQ K (x:="made") (a:=.q (.e 3) (.p 0)) rfl n_.1 n_.1 (b:=true) (by decide+kernel) r) (tq (v:=.t) (H':=ot (H.y cs) (.g v)) (W':=W) (λR r=>ck K 16 rfl rfl rfl rfl (vs:=[.e v]) rfl ?_) λz=>bN (q z _))
  have:=Wd (n:=n) (Q:=R) K (H:=H.y cs) ⟨_,_,_,D2⟩ I2 uo.q uo.F uo.h uo.p uo.e uo.f uo.y uo.g uo.t up r
  rw[show((H.y cs).f.take v).length=v from e]at this
  exact this
 |f s=>
  refine BM (λR r=>iQ K (x:="known") (a:=.q (.e 3) (.p 0)) rfl n_.2.1 n_.1 (b:=false) (by decide+kernel) r) (Hw (λR r=>iQ K (x:="known") (a:=.q (.e 3) (.p 0)) rfl n_.2.1 n_.2.1 (b:=true) (by decide+kernel) r) (Qf K (r:=.e 13) (f:=kV H.t) (l:=f5 s) (at_:=gh s) rfl rfl (CK s) rfl (by rw[pb];exact λe=>u.1 (s_.mp e)) (yp u.2) ?_))
  rw[JS,Lg]
  exact bN (q ⟨_,_,_,D2⟩ _)
 |e k m g us=>
  refine aV u λuk u=>?_
  have D3:DP (fc ((H.y cs).y (cs++[.e k m g us])) W.w) W.r z.f z.h z.d:=by rw[<-hc];exact z.g
  exact BM (λR r=>iQ K (x:="edge") (a:=.q (.e 3) (.p 0)) rfl n_.2.2 n_.1 (b:=false) (by decide+kernel) r) (BM (λR r=>iQ K (x:="edge") (a:=.q (.e 3) (.p 0)) rfl n_.2.2 n_.2.1 (b:=false) (by decide+kernel) r)
   (tq (λR r=>ck K 17 rfl rfl rfl rfl (vs:=[iy z.f cs.length (.e k m g us)]) rfl (Wc (n:=n+2) K (H:=H.y cs) _ _ _ D3 I2 u up hw0 r)) λz=>bN (q z _)))
def Wa(K:aG P)(z:Z H W)(C:W.w 0=ae)(D:W.w 1=ae)(p:H.J=g++[(j,w)])(x:g.length<2^19)(Inv:Hp->Prop)(G:Inv ((H.a1 g).a3<|H.h+1))(J:j<=H.p.length)(L:∀H,Inv H->HW H/\H.p.length<2^19/\(∀i,H.g i≠ae->i<H.f.length))(gE:∀(H:Hp)(d:List dH)(c:dH),Inv H->H.p=d++[c]->j<=d.length->pX (H.y d) c/\Inv (ot (H.y d) c))(q:∀a(z:Z (a.L w) W),Inv a->a.p.length=j->Q .t z.e):aZ (cx P) (n+5) (.ref<|P.e 49) [.f<|.e 1] z.e Q:=by
 have lm:H.J.length<2^20:=by rw[p,bm];exact aL (jA x) bl
 have M:(H.J.mapIdx<|tZ z.f).length≠0:=by rw[nJ,p,bm];exact OT _
 refine K.f 49 rfl rfl<|oZ (λR r=>aJ K (v:=.g false) ?_ r) ?_;·show(ev P _ _<|.f 3<|.e (.h 0 9<|.e 0) .f).bind _=_;rw[fD (e:=.h 0 9<|.e 0) (r:=.e 16) (l:=H.J.mapIdx<|tZ z.f) rfl rfl (by rw[nJ];exact lm) rfl];exact aQ (λb=>aa<|V.g b)<|dz λe=>M<|g_ e
 refine gF<|ny K (r:=.e 16) (l:=H.J.mapIdx<|tZ z.f) (vs:=[]) rfl rfl F.slot_list_pop rfl rfl<|p7 (l:=g.mapIdx<|tZ z.f) (v:=tZ z.f g.length (j,w)) (by rw[<-last_push,<-p];rfl) (by rw[nJ,bX];exact aR x bl) ⟨_,.inl rfl,rfl,bl,nu,bl,nu,?_⟩;rw[YD];refine co<|aJ K (e:=.J .e (.h 0 7<|.e 0)<|.p 1) (v:=.e ((H.h+1:Nat):Int)) rfl<|iO K (c:=0) (pos:=7) (r:=.e 1) rfl rfl bl ?_;rw[XV];have N:=Is.b9 z.g p (b:=H.h+1);refine Ht K (λ_(v:V)(_:Unit)=>[.f<|.e 1,.e j,.f<|.f<|z.f<|.g g.length,v]) (λH k k=>H) (λk k k=>W.g 1 (z.f<|.g g.length)<|cv w) (λH k k=>Inv H/\j<=H.p.length) (λH k k=>H.p.length) ((H.a1 g).a3<|H.h+1) .q () ⟨_,_,_,N⟩ ⟨G,J⟩ λa v k o s R r=>eQ (L a s.1) λI y up=>?_;refine⟨decide<|(j:Int)<a.p.length,vK (fD (e:=.h 0 8<|.e 0) (r:=.e 15) (l:=a.p.mapIdx<|iy o.f) rfl rfl (by rw[nJ];exact bj y bl)<|by rw[nJ]) rfl,?_⟩;by_cases m:j<a.p.length
 ·rw[aq<|bQ<|hH.mpr m];refine fq (show∃(d:List dH)(c:dH),a.p=d++[c]/\True from ?_) λd c t k=>?_
  ·rcases yP a.p with e|⟨d,c,e⟩;·rw[e]at m;exact aD m<|oQ _
   ·exact⟨d,c,e,trivial⟩
  have u:a.p.length=d.length+1:=by rw[t,bm];rfl
  have A:j<=d.length:=f_<|w0 m u;exact cj (gE a d c s.1 t A) λuo an=>aah K o t (kW<|aL (bf u.symm) y) I up uo ((aI (f:=W.w) (b:=aa<|cv w)<|show(0:Nat)≠1 by decide).trans C) λz v=>r _ v () z ⟨an,by rw[Dv];exact A⟩ (by rw[Dv,u];exact bY _)
 ·rw[ap λh=>m<|hH.mp<|cR h];refine co<|aJ K (e:=.e 2) (v:=.f<|.f<|z.f<|.g g.length) rfl<|iO K (c:=0) (pos:=6) (r:=.e 1) rfl rfl bl ?_;rw[X3 (w:=w)];have B:=Is.b6 o.g D;rw[show o.f (.w 1)=z.f (.g g.length)from o.g.e 1]at B;exact bN<|q a ⟨_,_,_,B⟩ s.1<|j8 (jb m) s.2
end
section
variable{Y:be->Nat}{Q:V->St->Prop}
noncomputable abbrev j6(l:List (Option O))(W:bh)(d:cU):St:=Sg (W.q::(l++W.f)) d
def ox(a:l.length=16)(b:k<16):bi (j6 l W d) (.e<|k+1) o=j6 (l.set k<|aa o) W d:=by rw[pz<|by simp;exact(aR (aR b<|bf a.symm)<|bB ..),EW,Oq _ _<|by rw[a];exact b]
def lj(K:aG P){Q:Fl->List V->St->Prop}(a:l.length=16)(g:k<16)(h:r<16)(j:m[0]? =aa (.f<|.e<|r+1))(o:l[r]? =aa (aa<|.g c vals))(i:b=vals.length)(p:∀{σ:St}{R:V->St->Prop},σ (.e<|k+1)=ae->R (.f<|.e<|k+1) (bi σ (.e<|k+1) ob)->aF (cx P) n e m σ R)(s:l[k]? =aa ae)(t:k≠r)(q:aP (cx P) n f m (j6 ((l.set k<|aa ob).set r<|aa<|.g c<|vals++[.f<|.e<|k+1]) W d) Q):aP (cx P) n (.e (.e (.g c b<|.e 0) e) f) m (j6 l W d) Q:=by
 refine co<|p ?_ ?_;·show((W.q::(l++W.f))[k+1]?).join.map aa=ae;rw[N5,gM<|by exact(aR g<|bf a.symm),s];rfl
 rw[ox a g];refine iO K (r:=.e<|r+1) (vals:=vals) (by show(m[0]?).bind c8=_;rw[j];rfl) ?_ (bf i) ?_;·show(((W.q::(l.set k (aa ob)++W.f))[r+1]?).join.map aa).join=_;rw[N5,gM<|by rw[oM];exact(aR h<|bf a.symm),kR t,o];rfl
 rw[ox (by rw[oM];exact a) h];have:jo vals b (.f<|.e<|k+1)=vals++[.f<|.e<|k+1]:=by unfold jo;rw[ap<|by exact(AJ<|bf i.symm)]
 rw[this];exact q
def nX(K:aG P):∀{σ:St}{R:V->St->Prop},σ (.e<|k+1)=ae->R (.f<|.e<|k+1) (bi σ (.e<|k+1)<|.e [])->aF (cx P) n (.N .f) m σ R:=λh q=>oH K (vs:=[]) rfl h q
def R9(K:aG P)(e:t.length=10)(q:Q .t (j6 (a::aa (.g 1 [.f<|.e 3,.f<|.e 4,.f<|.e 5,.f<|.e 6])::aa (.e [])::aa (.p λb=>ae)::aa (.e [])::aa (.e [])::t) W d)):gw (cx P) (n+1) (.ref<|P.e 16) [.f<|.e 2] (j6 (a::aa (.g 1 [])::ae::ae::ae::ae::t) W d) Q:=by have c:∀f g i j l,(a::f::g::i::j::l::t).length=16:=λb b b b b=>aQ (·+6) e;apply K.p 16 rfl rfl;apply lj K (k:=2) (r:=1) (vals:=[]) (c _ _ _ _ _) bl bl rfl rfl rfl (nX K) rfl (by decide);apply lj K (k:=3) (r:=1) (vals:=[.f<|.e 3]) (ob:=.p λb=>ae) (c _ _ _ _ _) bl bl rfl rfl rfl (λh q=>oE (k:=.t) h q) rfl (by decide);apply lj K (k:=4) (r:=1) (vals:=[.f<|.e 3,.f<|.e 4]) (c _ _ _ _ _) bl bl rfl rfl rfl (nX K) rfl (by decide);apply lj K (k:=5) (r:=1) (vals:=[.f<|.e 3,.f<|.e 4,.f<|.e 5]) (c _ _ _ _ _) bl bl rfl rfl rfl (nX K) rfl (by decide);exact bN q
def aal(K:aG P)(j:t.length=6)(q:Q .t (j6 (a::b::c::e::f::g::aa (.g 2 [.f<|.e 8,.f<|.e 9,.f<|.e 10])::aa (.e [])::aa (.e [])::aa (.e [])::t) W d)):gw (cx P) (n+1) (.ref<|P.e 24) [.f<|.e 7] (j6 (a::b::c::e::f::g::aa (.g 2 [])::ae::ae::ae::t) W d) Q:=by have h:∀l m o p,(a::b::c::e::f::g::l::m::o::p::t).length=16:=λi i i i=>aQ (·+10) j;apply K.p 24 rfl rfl;apply lj K (k:=7) (r:=6) (vals:=[]) (h _ _ _ _) bl bl rfl rfl rfl (nX K) rfl (by decide);apply lj K (k:=8) (r:=6) (vals:=[.f<|.e 8]) (h _ _ _ _) bl bl rfl rfl rfl (nX K) rfl (by decide);apply lj K (k:=9) (r:=6) (vals:=[.f<|.e 8,.f<|.e 9]) (h _ _ _ _) bl bl rfl rfl rfl (nX K) rfl (by decide);exact bN q
noncomputable def H0:Hp:=⟨[],[],[],[],[],[],[],[],λa=>ae,λa=>ae,[],0,0,[],[]⟩
noncomputable def sr(W:bh)(nx:Nat):be->Nat|.w i=>W.r i|_=>nx
def U_(n:∀k,nx<=k->d k=ae)(c:∀i o,W.w i=aa o->d (W.r i)=aa (aa o)/\W.r i<nx)(q:∀i j o p,W.w i=aa o->W.w j=aa p->W.r i=W.r j->i=j):Is H0 W (sr W nx) (nx+1) (ai d nx<|aa<|aa<|.e []):=by
 have l:∀t o,fc H0 W.w t=aa o->(t=.h/\o=.e [])\/∃i,t=.w i/\W.w i=aa o:=λt o e=>by
  cases t with
  |h=>exact .inl ⟨rfl,(bo<|show aa (O.e [])=aa o from e).symm⟩
  |w i=>exact .inr ⟨i,rfl,e⟩
  |p i=>cases(show ae=aa o from e)
  |e i=>cases(show ae=aa o from e)
  |f i=>cases(show ae=aa o from e)
  |g i=>cases(show ae=aa o from e)
 refine⟨λs=>rfl,λt o e=>?_,λt u o p a b r=>?_,λk m=>?_⟩
 ·rcases l t o e with⟨rfl,rfl⟩|⟨i,rfl,e⟩
  ·exact⟨bg ..,bY _⟩
  ·have:=c i o e
   exact⟨(aI<|bZ this.2).trans this.1,cY this.2⟩
 ·rcases l t o a with⟨rfl,rfl⟩|⟨i,rfl,a⟩<;>rcases l u p b with⟨rfl,rfl⟩|⟨j,rfl,b⟩
  ·rfl
  ·exact aD (show nx=W.r j from r).symm<|bZ (c j p b).2
  ·exact aD (show W.r i=nx from r)<|bZ (c i o a).2
  ·rw[q i j o p a b r]
 ·exact(aI<|by exact(iJ<|oO m)).trans<|n k (by exact(bu<|oO m))
def V'(K:aG P)(f:d nx=ae)(q:R (.f<|.e 1) (sg H0 W (sr W nx)<|ai d nx<|aa<|aa<|.e [])):aF (cx P) (n+5) (.f 18 .f) m (j6 (gO 16 ae) W d) R:=by
 apply wE K 0 rfl rfl (vs:=[]) (r:=.e 1) rfl rfl;rw[ox (k:=0) rfl bl];apply K.N K.Y rfl;unfold Dr;refine(cp (.e 1) ([]) rfl rfl<|K.p 33 rfl rfl ?_);refine co<|wE K 1 rfl rfl (vs:=[]) (r:=.e 2) rfl rfl ?_;rw[ox (k:=1) rfl bl];refine R9 (W:=W) K (a:=aa<|.g 0 []) (t:=gO 10 ae) rfl ⟨rfl,iO K (r:=.e 1) (vals:=[]) rfl rfl (da _) ?_⟩;rw[ox (k:=0) rfl bl];refine co<|wE K 2 rfl rfl (vs:=[]) (r:=.e 7) rfl rfl ?_;rw[ox (k:=6) rfl bl];refine aal (W:=W) K (t:=gO 6 ae) rfl ⟨rfl,iO K (r:=.e 1) (vals:=[.f<|.e 2]) rfl rfl (bb 1) ?_⟩;rw[ox (k:=0) rfl bl];apply lj K (k:=10) (r:=0) (vals:=[.f<|.e 2,.f<|.e 7]) rfl bl bl rfl rfl rfl (nX K) rfl (by decide);apply lj K (k:=11) (r:=0) (vals:=[.f<|.e 2,.f<|.e 7,.f<|.e 11]) rfl bl bl rfl rfl rfl (nX K) rfl (by decide);apply lj K (k:=12) (r:=0) (vals:=[.f<|.e 2,.f<|.e 7,.f<|.e 11,.f<|.e 12]) (ob:=.p λb=>ae) rfl bl bl rfl rfl rfl (λh q=>oE (k:=.t) h q) rfl (by decide);apply lj K (k:=13) (r:=0) (vals:=[.f<|.e 2,.f<|.e 7,.f<|.e 11,.f<|.e 12,.f<|.e 13]) (ob:=.f λb=>ae) rfl bl bl rfl rfl rfl (λh q=>oE (k:=.i) h q) rfl (by decide);refine co<|oH K (vs:=[]) (r:=.f nx) rfl f ?_;rw[i4];apply iO K (r:=.e 1) (vals:=[.f<|.e 2,.f<|.e 7,.f<|.e 11,.f<|.e 12,.f<|.e 13,.f<|.e 14]) rfl rfl<|bb 6;rw[ox (k:=0) rfl bl];refine co<|aJ K (e:=.p 0) rfl<|iO K (r:=.e 1) (vals:=[.f<|.e 2,.f<|.e 7,.f<|.e 11,.f<|.e 12,.f<|.e 13,.f<|.e 14,.f<|.f nx]) rfl rfl (bb 7) ?_;rw[ox (k:=0) rfl bl];apply bN;refine rG<|lj K (k:=14) (r:=0) (vals:=[.f<|.e 2,.f<|.e 7,.f<|.e 11,.f<|.e 12,.f<|.e 13,.f<|.e 14,.f<|.f nx,.e 0]) rfl bl bl rfl rfl rfl (nX K) rfl (by decide)<|bN ?_;refine rG<|lj K (k:=15) (r:=0) (vals:=[.f<|.e 2,.f<|.e 7,.f<|.e 11,.f<|.e 12,.f<|.e 13,.f<|.e 14,.f<|.f nx,.e 0,.f<|.e 15]) rfl bl bl rfl rfl rfl (nX K) rfl (by decide)<|bN ?_;refine rG<|co<|aJ K (e:=.p 0) rfl<|iO K (r:=.e 1) (vals:=[.f<|.e 2,.f<|.e 7,.f<|.e 11,.f<|.e 12,.f<|.e 13,.f<|.e 14,.f<|.f nx,.e 0,.f<|.e 15,.f<|.e 16]) rfl rfl (bb 10) ?_;rw[ox (k:=0) rfl bl];have e:c9 H0 (sr W nx)=[aa<|.g 0 [.f<|.e 2,.f<|.e 7,.f<|.e 11,.f<|.e 12,.f<|.e 13,.f<|.e 14,.f<|.f nx,.e 0,.f<|.e 15,.f<|.e 16,.e 0],aa<|.g 1 [.f<|.e 3,.f<|.e 4,.f<|.e 5,.f<|.e 6],aa<|.e [],aa<|.p λb=>ae,aa<|.e [],aa<|.e [],aa<|.g 2 [.f<|.e 8,.f<|.e 9,.f<|.e 10],aa<|.e [],aa<|.e [],aa<|.e [],aa<|.e [],aa<|.e [],aa<|.p λb=>ae,aa<|.f λb=>ae,aa<|.e [],aa<|.e []]:=by
  have g:kV (numOf [])=λb=>ae:=by funext k;unfold kV;cases qg k<;>rfl
  have j:kV (λb=>ae)=λb=>ae:=by funext k;unfold kV;cases qg k<;>rfl
  have l:iV (λb=>(ae:Option (List Nat))) (λi=>cH (sr W nx)<|.e i)=λb=>ae:=by funext k;cases k<;>rfl
  show [_,_,_,aa<|O.p<|kV<|numOf [],_,_,_,_,_,_,_,_,aa<|O.p<|kV λb=>ae,aa<|O.f<|iV (λb=>ae) λi=>cH (sr W nx)<|.e i,_,_]=_;rw[g,j,l];rfl
 refine bN ⟨rfl,?_⟩;have c:R (.f<|.e 1) (Sg (W.q::(c9 H0 (sr W nx)++W.f))<|ai d nx<|aa<|aa<|.e []):=q;rw[e]at c;exact c
end
section
variable{Q:V->St->Prop}
set_option genInjectivity true in
inductive Vl|e (i:Int)|f
 deriving DecidableEq
noncomputable def jt:Vl->V|.e i=>.e i|.f=>.p "clash"
def bz:Option Vl->V|none=>.t|some v=>jt v
noncomputable def gt:Option Vl->kf|none=>.none|some (.e i)=>.int i|some .f=>.str "clash"
def y0:dm "clash"=true:=by decide+kernel
def K':iL .t .none:=(kz rfl rfl bl)
def nh(v:Option Vl):iL (bz v) (gt v):=by cases v with|none=>exact K'|some v=>cases v with|e i=>exact ub i|f=>exact lB y0
def rQ(a b:Option Vl):dI (gt a) (gt b)=decide (a=b):=by cases a with
 |none=>cases b with|none=>delta gt dI;rfl|some b=>cases b<;>(delta gt dI;rfl)
 |some a=>cases a with
  |e i=>cases b with|none=>delta gt dI;rfl|some b=>cases b with|e j=>show dI (.int i) (.int j)=_;rw[yi];simp|f=>delta gt dI;simp
  |f=>cases b with|none=>unfold gt dI;rfl|some b=>cases b with|e j=>delta gt dI;simp|f=>show dI (.str "clash") (.str "clash")=_;rw[tI];simp
def Db(e:List (Option Vl)):q6 (e.map bz) (e.map gt):=by
 induction e with
 |nil=>exact⟨rfl,rfl,bl⟩
 |cons v e f=>
  refine eQ f λa b c=>?_
  have p:=nh v
  refine⟨?_,?_,?_⟩
  ·show(sD<|bz v).bind (λd=>(lG<|e.map bz).map λg=>d::g)=_
   rw[p.1,a];rfl
  ·rw[qV];unfold te;rw[p.2.1,b];rfl
  ·rw[qV];unfold re
   have:(gt v).depth<=0+1:=by cases v with
    |none=>unfold gt tg;exact bl
    |some v=>cases v<;>(unfold gt tg;exact bl)
   exact AE.mpr ⟨ay this bl,c⟩
def HN(b:List (Option Vl))(a:Option Vl):((b.map gt).any λy=>dI y<|gt a)=decide (a∈b):=by rw[NQ];induction b with|nil=>simp|cons v b c=>rw[Ar,c];show(dI (gt v) (gt a)||_)=_;rw[rQ,<-Bool.decide_or];exact decide_eq_decide.mpr (by rw[cB];exact or_congr_left eq_comm)
noncomputable def tH:List Nat:=("0123456789":ah).cps.toList
def nf(x:ah)(w:Option Int):Bool:=dm x&&decide (0<x.length)&&decide (x.length<=640)&& !(pR x ae (aa 1)==("-":ah))&&dm (pR x ae<|aa 1)&&w.elim (x==("x":ah)) λi=>(x.cps.toList.all λc=>decide<|c∈tH)&&vh x==aa i
noncomputable def Xa(o:Option Int):V:=o.elim .t .e
def we(h:nf x w=true):((((dm x=true/\0<x.length)/\x.length<=640)/\(pR x ae (aa 1)==("-":ah))=false)/\dm (pR x ae<|aa 1)=true)/\w.elim (x==("x":ah)) (λi=>(x.cps.toList.all λc=>decide<|c∈tH)&&vh x==aa i)=true:=(aj h).imp_left λh=>(aj h).imp_left λh=>(aj h).imp (λh=>(aj h).imp (λh=>(aj h).imp_right cR) cR) gV
def aaD(K:aG P)(h:nf x w=true)(q:Q (Xa w) σ):aZ (cx P) (n+1) (.ref<|P.e 0) [.p x] σ Q:=by
 obtain⟨⟨⟨⟨⟨D,o⟩,a⟩,s⟩,t⟩,d⟩:=we h
 have F:pR x ae (aa 1)=pR x ae (aa 1):=rfl
 have y:x.cps.toList.length=x.length:=gL
 refine K.e 0 rfl rfl<|co<|iI<|ju<|wH K (u:=.p x) (v:=.e 1) rfl rfl<|Jz 1 rfl (by decide) (by decide) (by exact(ay a bl))<|⟨_,_,lB t,lB<|by decide+kernel,false,by rw[tI];exact aQ V.g s,?_⟩
 rw[ap<|by decide]
 refine aJ K (e:=.e 0) (v:=.p x) rfl ⟨bl,nu,?_⟩
 have z:∀m:List V,m[1]? =aa (.p x)->ev P m σ (.f 3<|.e (.e 1) .f)=aa (.e x.length):=λm A=>by
  exact tJ (u:=.p x) (by show(m[1]?).bind c8=_;rw[A];rfl)<|aq (show x.length<2^62 by exact(aL a bl))
 refine fm<|nz<|wF<|DT K (u:=.e 0) (v:=.e x.length) (x:=.e 1000) (r:=true) rfl (z _ rfl) (aQ aa K.G.N) ?_ ?_<|rV true rfl false rfl ?_
 ·exact aQ (λb=>aa<|V.g b)<|bQ<|hH.mpr o
 ·exact aQ (λb=>aa<|V.g b)<|bQ (by exact(fK (kP.mpr a)<|by decide))
 refine ju<|DY K (u:=.p x) (xs:=sC x) rfl rfl (by delta sC;rw[bq,y,bX];exact(ay a bl))<|ID (e:=λc=>.p ⟨#[c]⟩) (g:=λc=>.p ⟨#[c]⟩) (p:=λc=>!decide (c∈tH)) (λc l k q=>gz K (u:=.p ⟨#[c]⟩) (v:=.p "0123456789") rfl rfl<|rV c rfl _ rfl ?_) ?_
 ·by_cases e:c∈tH
  ·have f:decide (c∈("0123456789":ah).cps.toList)=true:=bQ e
   rw[f]
   rw[ap<|by simp[e]]at q
   exact q
  ·have f:decide (c∈("0123456789":ah).cps.toList)=false:=dz e
   rw[f,aq<|by rfl]
   rw[aq<|by simp[e]]at q
   exact aJ K (e:=.e 2) rfl q
 cases w with
 |none=>
  have B:x="x":=beq_iff_eq.mp d
  have j:(x.cps.toList.filter λc=>!decide (c∈tH))=[120]:=by rw[B];decide+kernel
  rw[j]
  have C:iL (.y [.p ⟨#[120]⟩]) (.list [.str ⟨#[120]⟩]):=⟨rfl,by decide+kernel,by decide+kernel⟩
  refine .inl ⟨_,_,C,uc,true,by simp[dI,pP],?_⟩
  exact eO K (e:=.L) rfl q
 |some i=>
  replace d:=aj d
  have j:(x.cps.toList.filter λc=>!decide (c∈tH))=[]:=NZ.mpr λc l=>by
   have:=ir.mp d.1 c l
   simp at this⊢;exact this
  rw[j]
  refine .inl ⟨_,_,uc,uc,false,by rw[IT];rfl,?_⟩
  rw[ap<|by decide]
  exact bN<|dy<|dW K K.G.q rfl<|aJ K (e:=.e 0) (v:=.p x) rfl<|Ik (bO d.2) a q
end
section
variable{P:bn}{n:Nat}{Q:V->St->Prop}{σ:St}
noncomputable def gU(x:ah):Option Int:=if x="x"then ae else vh x
noncomputable def jg(n:Int)(x:ah):Option Vl->Option Vl->Option Vl|none,_=>ae|_,ae=>ae|some (.e i),aa (.e j)=>aa (.e<|(if x="add"then i+j else i*j)%n)|_,_=>aa .f
noncomputable def v3(n:Int):Option Vl->Option Vl|none=>ae|some .f=>aa .f|some (.e i)=>aa<|.e<|-i%n
def yZ(n:Int)(x:ah):List (Option Vl)->Option Vl|[]=>(gU x).map λi=>.e (i%n)|[a]=>if x="neg"then v3 n a else ae|[a,b]=>jg n x a b|_=>ae
noncomputable def ls(a b:Option Vl):Option Vl:=if a=ae\/a=b then b else if b=ae then a else aa .f
def kY(x:ah)(vs:List (Option Vl)):Prop:=(vs=[]/\nf x (gU x)=true)\/(∃a,vs=[a]/\(x="neg"\/x="f"))\/∃a b,vs=[a,b]/\(x="add"\/x="mul")
def rC(v:Option Vl):Prop:=match v with|some (.e i)=>i.natAbs<2^60|_=>True
noncomputable abbrev fu(vs:List (Option Vl)):V:=.y<|vs.map bz
def sL(K:aG P)(a:ev P m σ e=aa (fu vs))(q:R (.g<|decide<|ae∈vs) σ):aF (cx P) n (.t .p .L e) m σ R:=gz K (u:=.t) (v:=fu vs) rfl a<|cp _ _ K' (Db vs) (by rw[show PyData.none=gt ae from rfl,HN];exact q)
def zZ(K:aG P)(a:ev P m σ e=aa (fu vs))(q:R (.g<|decide<|aa .f∈vs) σ):aF (cx P) n (.t .p (.y "clash") e) m σ R:=gz K (u:=.p "clash") (v:=fu vs) rfl a<|cp _ _ (lB y0) (Db vs) (by rw[show Ge "clash"=gt (aa .f)from rfl,HN];exact q)
noncomputable def My:List V:=[.h [.p "add",.e 2],.h [.p "mul",.e 2],.h [.p "neg",.e 1]]
noncomputable def qI:List kf:=[.tuple [.str "add",.int 2],.tuple [.str "mul",.int 2],.tuple [.str "neg",.int 1]]
def XG:q6 My qI:=(kz rfl (by decide+kernel)<|by decide+kernel)
def XE{i:Int}(h:dm x=true):iL (.h [.p x,.e i]) (.tuple [.str x,.int i]):=kz rfl (show(dm x&&(true&&true))=true from h.symm▸rfl)<|wZ rfl
def Nn(K:aG P)(a:m[1]? =aa (.p x))(c:ev P m σ (.f 3<|.e (.e 2) .f)=aa (.e k))(d:dm x=true)(e:(qI.any λy=>dI y<|.tuple [.str x,.int k])=b)(q:R (.g<|!b) σ):aF (cx P) n (.t .g (.F<|.e (.e 1)<|.e (.f 3<|.e (.e 2) .f) .f)<|.F<|.e (.F<|.e (.y "add")<|.e (.p 2) .f)<|.e (.F<|.e (.y "mul")<|.e (.p 2) .f)<|.e (.F<|.e (.y "neg")<|.e (.p 1) .f) .f) m σ R:=by refine gz K (u:=.h [.p x,.e k]) (v:=.h My) ?_ rfl<|cp _ _ (XE d) XG (by rw[e];exact q);show dZ V.h (((m[1]?).bind c8).bind λv=>dZ (λvs=>v::vs)<|(ev P m σ<|.f 3<|.e (.e 2) .f).bind λv=>dZ (λvs=>v::vs)<|aa [])=_;rw[a,c];rfl
def Z1:(qI.any λy=>dI y<|.tuple [.str "neg",.int ((1:Nat):Int)])=true:=by decide+kernel
def ZZ:(qI.any λy=>dI y<|.tuple [.str "f",.int ((1:Nat):Int)])=false:=by decide+kernel
def ZY:(qI.any λy=>dI y<|.tuple [.str "add",.int ((2:Nat):Int)])=true:=by decide+kernel
def Z0:(qI.any λy=>dI y<|.tuple [.str "mul",.int ((2:Nat):Int)])=true:=by decide+kernel
def nr(K:aG P)(b:ev P m σ e=aa (bz a))(q:R (.g<|decide<|a=ae) σ):aF (cx P) n (.t .q e .L) m σ R:=by refine gz K (u:=bz a) (v:=.t) b rfl ⟨rfl,?_⟩;cases a with|none=>exact .inl ⟨rfl,q⟩|some v=>exact .inr ⟨by cases v<;>exact(λe=>nomatch e),by cases v<;>exact(λe=>nomatch e),λw=>by cases v<;>exact(λe=>nomatch e),q⟩
section
variable{r:br}{nn:Int}{x:ah}{vs:List (Option Vl)}{z:V}
def yl(a:aT σ r=aa (.g 4 [.e nn]))(b:m[0]? =aa (.f r)):ev P m σ (.h 4 0<|.e 0)=aa (.e nn):=by show(((m[0]?).bind c8).bind λv=>pZ σ 4 0 v)=_;rw[b];show Lake.O.q (aT σ r) ae _ _ _ _ _=_;rw[a];rfl
def IY(a:m[2]? =aa (fu vs))(h:vs.length<10):ev P m σ (.f 3<|.e (.e 2) .f)=aa (.e vs.length):=by refine tJ (u:=fu vs) (by show(m[2]?).bind c8=_;rw[a];rfl) ?_;show rZ (vs.map bz)=_;delta rZ;rw[bq,aq<|by exact(aR h bl)]
def m6{i:Int}(a:0<nn):rK .f (.e i) (.e nn)=aa (.e<|i%nn):=aq a
noncomputable def Ic:Ss:=.e (.g (.c (.t .p .L<|.e 2)<|.t .g (.F<|.e (.e 1)<|.e (.f 3<|.e (.e 2) .f) .f)<|.F<|.e (.F<|.e (.y "add")<|.e (.p 2) .f)<|.e (.F<|.e (.y "mul")<|.e (.p 2) .f)<|.e (.F<|.e (.y "neg")<|.e (.p 1) .f) .f) (.e (.h .L) .f) .f)<|.e (.g (.t .p (.y "clash")<|.e 2) (.e (.h<|.y "clash") .f) .f)<|.e (.g (.t .e (.e 1)<|.y "neg") (.e (.h<|.J .f (.u<|.q (.e 2)<|.p 0)<|.h 4 0<|.e 0) .f) .f)<|.e (.h<|.J .f (.Z (.t .e (.e 1)<|.y "add") (.J .e (.q (.e 2)<|.p 0)<|.q (.e 2)<|.p 1)<|.J .g (.q (.e 2)<|.p 0)<|.q (.e 2)<|.p 1)<|.h 4 0<|.e 0) .f
noncomputable abbrev cm(r:br)(x:ah)(vs:List (Option Vl)):List V:=[.f r,.p x,fu vs,.q]
abbrev qs(Q:V->St->Prop):Fl->List V->St->Prop:=λb c a=>match b with|.e=>Q .t a|.f v=>Q v a
def B7(K:aG P)(d:vs.length<10)(f:dm x=true)(g:(qI.any λy=>dI y<|.tuple [.str x,.int vs.length])=b)(c:ae∈vs\/b=false->Q .t σ)(i:ae∉vs->b=true->aP (cx P) n a (cm r x vs) σ (qs Q)):
  aP (cx P) n (.e (.g (.c (.t .p .L<|.e 2)<|.t .g (.F<|.e (.e 1)<|.e (.f 3<|.e (.e 2) .f) .f)<|.F<|.e (.F<|.e (.y "add")<|.e (.p 2) .f)<|.e (.F<|.e (.y "mul")<|.e (.p 2) .f)<|.e (.F<|.e (.y "neg")<|.e (.p 1) .f) .f) (.e (.h .L) .f) .f) a) (cm r x vs) σ (qs Q):=by
 refine fm<|nz<|sL K (vs:=vs) rfl<|aC _ rfl ?_
 by_cases h:ae∈vs
 ·rw[bQ h]
  exact⟨true,rfl,(eO K (e:=.L) rfl<|c<|.inl h)⟩
 ·rw[dz h]
  refine Nn K (k:=vs.length) (b:=b) rfl (IY rfl d) f g<|aC _ rfl ?_
  cases b with
  |true=>rw[ap<|by decide];exact bN<|i h rfl
  |false=>exact eO K (e:=.L) rfl<|c<|.inr rfl
def Ig(K:aG P)(b:aa .f∈vs->Q (.p "clash") σ)(c:aa .f∉vs->aP (cx P) n a (cm r x vs) σ (qs Q)):aP (cx P) n (.e (.g (.t .p (.y "clash")<|.e 2) (.e (.h<|.y "clash") .f) .f) a) (cm r x vs) σ (qs Q):=by exact fm<|zZ K (vs:=vs) rfl<|aC _ rfl<|qv (λh=>(eO K (e:=.y "clash") rfl<|b h)) λh=>bN<|c h
def Ci{m:List V}{i:Nat}{v:V}(a:m[2]? =aa (fu vs))(b:vs.length<10)(c:(vs.map bz)[i]? =aa v):ev P m σ (.q (.e 2)<|.p i)=aa v:=by show(((m[2]?).bind c8).bind λo=>(aa<|V.e i).bind λk=>if i3 σ o then gJ σ o k else ae)=_;rw[a];show(if decide ((vs.map bz).length<2^62)=true then(if 0<=(i:Int)then(vs.map bz)[i]? else ae)else ae)=_;rw[aq<|bQ<|by rw[bq];exact(aR b bl),aq<|ip i,c]
def Sr(K:aG P)(o:aT σ r=aa (.g 4 [.e nn]))(p:0<nn)(c:kY x vs)(z:vs≠[])(t:∀v∈vs,rC v)(q:Q (bz<|yZ nn x vs) σ):aP (cx P) n Ic (cm r x vs) σ (qs Q):=by
 unfold Ic
 rcases c with⟨h,_⟩|⟨a,rfl,c⟩|⟨a,b,rfl,c⟩
 ·exact aD h z
 ·have d:[a].length<10:=(bl:1<10)
  rcases c with rfl|rfl
  ·refine B7 K d (by decide+kernel) (b:=true) Z1 (λh=>?_) λh s=>?_
   ·have h:a=ae:=by rcases h with h|h;exact(cP.mp h).symm;cases h
    subst h;exact q
   refine Ig K (λh=>?_) λk=>?_
   ·have h:a=aa .f:=(cP.mp h).symm
    subst h;exact q
   cases a with
   |none=>exact aD bk h
   |some v=>cases v with
    |f=>exact aD bk k
    |e i=>
     refine fm<|iQ K (x:="neg") (a:=.e 1) rfl (by decide+kernel) (by decide+kernel) (b:=true) (by decide+kernel) ⟨true,rfl,?_⟩
     exact dy<|oC<|Ni K (Ci (i:=0) (v:=.e i) (vs:=[aa<|.e i]) rfl d rfl)<|aJ K (yl o rfl)<|.inl<|aC _ (m6 p) q
  ·refine B7 K d (by decide+kernel) (b:=false) ZZ (λs=>?_) λs h=>by cases h
   exact q
 ·have d:[a,b].length<10:=(bl:2<10)
  have A:(qI.any λy=>dI y<|.tuple [.str x,.int (([a,b]:List (Option Vl)).length:Nat)])=true:=by
   rcases c with rfl|rfl
   ·exact ZY
   ·exact Z0
  have l:dm x=true:=by rcases c with rfl|rfl<;>decide+kernel
  refine B7 K d l (b:=true) A (λh=>?_) λh s=>?_
  ·have h:a=ae\/b=ae:=by
    rcases h with h|h
    ·rcases cB.mp h with h|h
     ·exact .inl h.symm
     ·exact .inr (cP.mp h).symm
    ·cases h
   have e:jg nn x a b=ae:=by
    rcases h with rfl|rfl
    ·unfold jg;rfl
    ·unfold jg;cases a<;>rfl
   have g:Q (bz<|jg nn x a b) σ:=q
   rw[e]at g;exact g
  refine Ig K (λh=>?_) λk=>?_
  ·have g:Q (bz<|jg nn x a b) σ:=q
   have e:jg nn x a b=aa .f:=by
    cases a with
    |none=>exact aD bk ‹ae∉_›
    |some a=>cases b with
     |none=>exact aD (bR _ bk) ‹ae∉_›
     |some b=>cases a with
      |f=>cases b<;>rfl
      |e i=>cases b with
       |f=>rfl
       |e j=>simp at h
   rw[e]at g;exact g
  cases a with
  |none=>exact aD bk h
  |some a=>cases b with
   |none=>exact aD (bR _ bk) h
   |some b=>cases a with
    |f=>exact aD bk k
    |e i=>cases b with
     |f=>exact aD (bR _ bk) k
     |e j=>
      have B:i.natAbs<2^60:=t _ bk
      have C:j.natAbs<2^60:=t _<|bR _ bk
      have u:=Ci (P:=P) (σ:=σ) (m:=cm r x [aa<|.e i,aa<|.e j]) (i:=0) (v:=.e i) rfl d rfl
      have w:=Ci (P:=P) (σ:=σ) (m:=cm r x [aa<|.e i,aa<|.e j]) (i:=1) (v:=.e j) rfl d rfl
      refine fm<|iQ K (x:=x) (a:=.e 1) rfl l (by decide+kernel) (b:=false) (by rcases c with rfl|rfl<;>decide+kernel) ⟨false,rfl,?_⟩
      rw[ap<|by decide]
      refine bN<|dy<|oC<|iI ?_
      rcases c with rfl|rfl
      ·refine iQ K (x:="add") (a:=.e 1) rfl l (by decide+kernel) (b:=true) (by decide+kernel) ⟨true,rfl,?_⟩
       rw[aq rfl]
       exact aJ K (ig u w rfl)<|aJ K (yl o rfl)<|.inl<|aC _ (m6 p) q
      ·refine iQ K (x:="mul") (a:=.e 1) rfl l (by decide+kernel) (b:=false) (by decide+kernel) ⟨false,rfl,?_⟩
       rw[ap<|by decide]
       exact aJ K (ig u w<|aq ⟨bj B bl,bj C bl⟩)<|aJ K (yl o rfl)<|.inl<|aC _ (m6 p) q
def S_(K:aG P)(f:aT σ r=aa (.g 4 [.e nn]))(g:0<nn)(d:kY x vs)(k:∀v∈vs,rC v)(q:Q (bz<|yZ nn x vs) σ):aZ (cx P) (n+2) (.ref<|P.e 2) [.f r,.p x,fu vs] σ Q:=by
 have l:vs.length<10:=by
  rcases d with⟨rfl,_⟩|⟨a,rfl,_⟩|⟨a,b,rfl,_⟩
  ·exact(bl:0<10)
  ·exact(bl:1<10)
  ·exact(bl:2<10)
 have m:ev P (cm r x vs) σ (.t .e (.f 3<|.e (.e 2) .f)<|.p 0)=aa (.g<|decide<|(vs.length:Int)=0):=by
  show(ev P _ σ<|.f 3<|.e (.e 2) .f).bind _=_
  rw[IY rfl l];rfl
 refine K.e 2 rfl rfl<|rA K m (λh=>?_) λh=>?_
 ·have o:vs=[]:=List.eq_nil_of_length_eq_zero<|Int.natCast_eq_zero.mp<|cR h
  subst o
  have p:nf x (gU x)=true:=by
   rcases d with⟨_,h⟩|⟨a,h,_⟩|⟨a,b,h,_⟩
   ·exact h
   ·cases h
   ·cases h
  have c:Q (bz<|(gU x).map λi=>.e<|i%nn) σ:=q
  refine co<|Nf K 0 rfl (vs:=[.p x]) rfl<|aaD K p ?_
  cases j:gU x with
  |none=>
   rw[j]at c
   refine⟨(show 3<4 by decide),nu,dy<|iI<|gz K (u:=.t) (v:=.t) rfl rfl ⟨rfl,.inl ⟨rfl,true,rfl,?_⟩⟩⟩
   rw[aq rfl];exact aJ K (e:=.L) rfl c
  |some i=>
   rw[j]at c
   refine⟨(show 3<4 by decide),nu,dy<|iI<|gz K (u:=.e i) (v:=.t) rfl rfl ⟨rfl,.inr ⟨(λe=>nomatch e),(λe=>nomatch e),(λv e=>nomatch e),false,rfl,?_⟩⟩⟩
   exact aJ K (ig (e:=.e 3) rfl (yl f rfl)<|m6 g) c
 ·have s:vs≠[]:=λe=>by subst e;cases h
  exact bN<|Sr K f g d s k q
def S9(K:aG P)(q:Q (bz<|ls a b) σ):aZ (cx P) (n+1) (.ref<|P.e 3) [.f r,bz a,bz b] σ Q:=by
 have d:c8 (bz a)=aa (bz a):=by cases a with|none=>rfl|some v=>cases v<;>rfl
 have c:c8 (bz b)=aa (bz b):=by cases b with|none=>rfl|some v=>cases v<;>rfl
 refine K.e 3 rfl rfl<|fm<|nz<|nr K (a:=a) d ⟨_,rfl,?_⟩;unfold ls at q;by_cases h:a=ae;·rw[bQ h];rw[aq<|.inl h]at q;exact⟨true,rfl,(eO K (e:=.e 2) c q)⟩
 ·rw[dz h];refine gz K (u:=bz a) (v:=bz b) d c ⟨_,_,nh a,nh b,_,by rw[rQ],?_⟩;refine qv (λf=>?_) λf=>?_;·rw[aq<|.inr f]at q;exact eO K (e:=.e 2) c q
  ·rw[ap λe=>e.elim h f]at q;refine bN<|dy<|iI<|nr K (a:=b) c ⟨_,rfl,?_⟩;refine qv (λg=>?_) λg=>?_;·rw[aq g]at q;exact aJ K (e:=.e 1) d q
   ·rw[ap g]at q;exact aJ K (e:=.y "clash") rfl q
end
noncomputable def nv:Option Vl->Int|some (.e i)=>i|_=>0
def si(vs:List (Option Vl)):Option Vl:=if ae∈vs then ae else aa (.e<|1+(vs.map nv).sum)
noncomputable def m7:List Int->Int|[]=>0|x::l=>max x<|m7 l
def sh(vs:List (Option Vl)):Option Vl:=if ae∈vs then ae else aa (.e<|1+m7 (vs.map nv))
def mi(a b:Option Vl):Option Vl:=if a=ae then b else if b=ae then a else aa (.e<|min (nv a)<|nv b)
def Nm(v:Option Vl):Prop:=v=ae\/∃i:Int,v=aa (.e i)/\0<=i/\i<2^40
def zM{vs:List (Option Vl)}(h:ae∉vs)(b:∀v∈vs,Nm v):vs.map bz=(vs.map nv).map V.e:=by
 rw[fh];refine kS λv a=>?_;rcases b v a with rfl|⟨i,rfl,_⟩;·exact aD a h
 ·rfl
def Kz:∀(l:List Int),(∀x∈l,0<=x)->m7 l∈l++[0]/\∀y∈l++[0],y<=m7 l:=by intro d;induction d with
 |nil=>intro _;exact⟨cP.mpr rfl,λy c=>by rw[cP.mp c];exact fy _⟩
 |cons x l f=>
  intro h;obtain⟨a,b⟩:=f λy c=>h y<|bR _ c;show max x (m7 l)∈x::(l++[0])/\∀y∈x::(l++[0]),y<=max x (m7 l);refine⟨?_,λy c=>?_⟩
  ·by_cases e:x<=m7 l;·rw[NB e];exact bR _ a
   ·rw[Al<|nC<|Ao.mp e];exact bk
  ·rcases cB.mp c with rfl|c;·exact Ei _ _
   ·exact fK (b y c)<|Ny _ _
section
variable{r:br}{x:ah}{vs:List (Option Vl)}
def YH(K:aG P)(c:vs.length<=2)(a:∀v∈vs,Nm v)(q:Q (bz<|si vs) σ):aZ (cx P) (n+1) (.ref<|P.e 6) [.f r,.p x,fu vs] σ Q:=by
 refine K.e 6 rfl rfl<|dy<|iI<|sL K (vs:=vs) rfl ⟨_,rfl,?_⟩;unfold si at q;refine qv (λh=>?_) λh=>?_;·rw[aq h]at q;exact aJ K (e:=.L) rfl q
 ·rw[ap h]at q;have d:∀w∈vs.map nv,0<=w/\w<2^40:=λw f=>by
   refine aB (cq.mp f) λv b g=>?_;subst g;rcases a v b with rfl|⟨i,rfl,j,k⟩;·exact aD b h
   ·exact⟨j,k⟩
  exact kM K (u:=.e 1) rfl<|dW K K.G.F rfl<|aJ K (e:=.e 2) (v:=fu vs) rfl<|Cb (is:=vs.map nv) (aQ aa<|zM h a) (by rw[bq];exact c) d<|.inl ⟨_,rfl,q⟩
def Tt(K:aG P)(h3:vs.length<=2)(hs:∀v∈vs,Nm v)(q:Q (bz<|sh vs) σ):aZ (cx P) (n+1) (.ref<|P.e 4) [.f r,.p x,fu vs] σ Q:=by
 refine K.e 4 rfl rfl<|dy<|iI<|sL K (vs:=vs) rfl ⟨_,rfl,?_⟩;unfold sh at q;refine qv (λh=>?_) λh=>?_;·rw[aq h]at q;exact aJ K (e:=.L) rfl q
 ·rw[ap h]at q;obtain⟨m1,m2⟩:=Kz (vs.map nv) λw hw=>by
   refine aB (cq.mp hw) λv hv hz2=>?_;subst hz2;rcases hs v hv with rfl|⟨i,rfl,h1,h2⟩;·exact aD hv h
   ·exact h1
  refine kM K (u:=.e 1) rfl<|dW K K.G.t rfl<|kM K (u:=fu vs) rfl<|ky K.G (es:=.e (.p 0) .f) (vs:=[.e 0]) (Q:=λvs' σ=>iK vs' σ _) rfl<|.inl<|.inr<|yB (vs.map bz) ([.e 0]) rfl rfl rfl ?_<|.inl<|B9 (is:=vs.map nv++[0]) ?_ m1 m2<|.inl ⟨_,rfl,q⟩;·rw[bq,bX];show vs.length+1<=_;exact(ay (dr h3 _) bl)
  ·rw[zM h hs,ja];rfl
def J7(K:aG P)(k:Nm a)(l:Nm b)(q:Q (bz<|mi a b) σ):aZ (cx P) (n+1) (.ref<|P.e 5) [.f r,bz a,bz b] σ Q:=by
 have c:c8 (bz a)=aa (bz a):=by cases a with|none=>rfl|some v=>cases v<;>rfl
 have g:c8 (bz b)=aa (bz b):=by cases b with|none=>rfl|some v=>cases v<;>rfl
 unfold mi at q;refine K.e 5 rfl rfl<|fm<|nz<|nr K (a:=a) c ⟨_,rfl,?_⟩;by_cases h:a=ae;·rw[bQ h];rw[aq h]at q;refine⟨true,rfl,?_⟩;refine dy<|iI<|nr K (a:=a) c ⟨_,rfl,?_⟩;rw[bQ h,aq rfl];exact aJ K (e:=.e 2) g q
 ·rw[dz h];rw[ap h]at q;refine nr K (a:=b) g ⟨_,rfl,?_⟩;refine qv (λd=>?_) λd=>?_;·rw[aq d]at q;refine dy<|iI<|nr K (a:=a) c ⟨_,rfl,?_⟩;rw[dz h,ap<|by decide];exact aJ K (e:=.e 1) c q
  ·rw[ap d]at q;refine aB (k.resolve_left h) λi f m=>?_;subst f;refine aB (l.resolve_left d) λj f m=>?_;subst f;exact bN<|dy<|uG K K.G.L rfl (vs:=[.e i,.e j]) rfl<|Im q
end
end
section
variable{P:bn}{n:Nat}{H:Hp}{rl:be->Nat}{M:Nat}{d:cU}{Q:V->St->Prop}
def vD(f:Nat->Option Vl):Int->Option V|.ofNat n=>(f n).map jt|.negSucc _=>ae
def BW{m:List V}{Q:List V->St->Prop}(h:Q m σ):pB C n [] [] m σ Q:=h
def tw{ts:List T}{Q:List V->St->Prop}(h:mC C n t v m σ λm σ=>pB C n ts a m σ Q):pB C n (t::ts) (v::a) m σ Q:=h
def pA(f:Nat->Option Vl)(n:Nat):(vD f (n:Int)).getD .t=bz (f n):=by show((f n).map jt).getD .t=_;cases f n<;>rfl
def DA(f:Nat->Option Vl)(n:Nat)(v:Vl):cD (vD f) (n:Int) (aa<|jt v)=vD (ai f n<|aa v):=by
 funext x
 unfold cD
 by_cases e:x=(n:Int)
 ·rw[aq e,e];show _=(ai f n (aa v) n).map jt;rw[bg];rfl
 ·rw[ap e]
  cases x with
  |ofNat i=>show(f i).map jt=(ai f n (aa v) i).map jt;rw[aI λq=>e<|by rw[q];rfl]
  |negSucc i=>rfl
def Dz(b:N<2^20)(h:∀i,f i≠ae->i<N):eW (vD f):=by refine(aC ((bM N).map λ(i:Nat)=>(i:Int)) (by simp[bX];exact(aR b bl)) λk a=>?_);cases k with|ofNat i=>have:f i≠ae:=λq=>a (by show(f i).map jt=_;rw[q];rfl);exact cq.mpr ⟨i,fz.mpr<|h i this,rfl⟩|negSucc i=>exact aD rfl a
structure KW where
 c:Option O
 Z:Option O
 b:Option O
 p:Int
 g:Nat
 f:Nat->Option Vl
 y:Nat
 a:ah->Option V
 w:Nat->Option O
 r:Nat->Nat
noncomputable abbrev KW.T(X:KW)(f:Nat->Option Vl):KW:={X with f:=f}
noncomputable abbrev KW.Y(X:KW)(b:Nat):KW:={X with y:=b}
noncomputable abbrev KW.U(X:KW)(w:Nat->Option O):KW:={X with w:=w}
noncomputable abbrev KW.J(X:KW)(r:Nat->Nat):KW:={X with r:=r}
noncomputable abbrev nZ(a b c:Nat):O:=.g 3 [.f<|.e 1,.f<|.e<|20+a,.f<|.f b,.f<|.e 19,.e c]
abbrev KW.e(X:KW):bh:=⟨X.c,[X.Z,aa<|nZ X.g (X.r 2) X.y,aa<|.h X.a,aa<|.g 4 [.e X.p],aa<|.g 5 [],aa<|.g 6 [],X.b],ai X.w 2<|aa<|.f<|vD X.f,X.r⟩
abbrev sk(H:Hp)(X:KW)(rl:be->Nat)(d:cU):St:=sg H X.e rl d
abbrev IK(H:Hp)(X:KW)(rl:be->Nat)(M:Nat)(d:cU):Prop:=Is H X.e rl M d
def Dy(a:i<W.f.length)(b:W'.q=W.q)(c:W'.f=W.f.set i (aa o)):bi (sg H W rl d) (.e<|17+i) o=sg H W' rl d:=by rw[pz<|by rw[iu,bm,pa];exact aR (AC a 17)<|bf<|AL 16 _,show 17+i=(16+i)+1 from AL 16 i,EW,List.set_append_right _ _<|by rw[pa];exact(bB ..)];show Sg (W.q::(c9 H rl++W.f.set (16+i-(c9 H rl).length) (aa o))) d=_;rw[pa,wX];show _=Sg (W'.q::(c9 H rl++W'.f)) d;rw[b,c]
def DP.a1{g cont':be->Option O}(D:DP g r rl M d)(h:∀u p,cont' u=aa p->(u=.w j/\p=o')\/(u≠.w j/\g u=aa p)):DP cont' (ai r j M) (ai rl (.w j) M) (M+1) (ai d M<|aa<|aa o'):=by
 have l:∀u p,g u=aa p->rl u≠M:=λu p e=>bZ (D.f u p e).2;refine⟨λi=>?_,λu p e=>?_,λu v p q c f r=>?_,λk m=>?_⟩
 ·by_cases e:i=j;·subst e;rw[bg,bg]
  ·rw[aI e,aI λq=>e<|be.w.inj q];exact D.e i
 ·rcases h u p e with⟨rfl,rfl⟩|⟨n,e⟩;·rw[bg];exact⟨bg ..,bY _⟩
  ·rw[aI n,aI<|l u p e];exact⟨(D.f u p e).1,cY (D.f u p e).2⟩
 ·rcases h u p c with⟨a,_⟩|⟨a,c⟩<;>rcases h v q f with⟨b,_⟩|⟨b,f⟩;·exact a.trans b.symm
  ·rw[a,bg,aI b]at r;exact aD r.symm<|l v q f
  ·rw[b,bg,aI a]at r;exact aD r<|l u p c
  ·rw[aI a,aI b]at r;exact D.inj u v p q c f r
 ·rw[aI<|by exact(iJ<|oO m)];exact D.h k (by exact(bu<|oO m))
set_option tactic.hygienic true in
theorem IK.J(D:IK H X rl M d)(a:X'.r=ai X.r j M)(b:X'.e.w j=aa o)(c:∀i,i≠j->X'.e.w i=X.e.w i):IK H X' (ai rl (.w j) M) (M+1) (ai d M<|aa<|aa o):=by
 have:=DP.a1 D (j:=j) (o':=o) (cont':=fc H X'.e.w) λu p e=>by
  by_cases h:u=.w j;·subst h;exact .inl ⟨rfl,bo<|e.symm.trans b⟩
  ·refine .inr ⟨h,?_⟩;cases u<;>first|exact e|skip
   rename_i i;exact(c i λq=>h<|by rw[q]).symm.trans e
 rw[show X.e.r=X.r from rfl,<-a]at this;exact this
noncomputable abbrev KW.q(X:KW)(f:Nat->Option Vl)(b y:Nat):KW:=((X.T f).Y b).J (ai X.r 2 y)
noncomputable def KW.h(X:KW)(b:Nat):Nat->Option Vl:=if X.y=b then X.f else λa=>ae
def yu [DecidableEq b](f:b->c)(a:b):ai f a (f a)=f:=by
 funext x;unfold ai;split;·rename_i e;rw[e]
 ·rfl
def yt{d e:Type}[DecidableEq d](f:d->e)(a:d)(b c:e):ai (ai f a b) a c=ai f a c:=by funext x;unfold ai;split<;>rfl
def Dh(h:X'.c=X.c/\X'.Z=X.Z/\X'.b=X.b/\X'.p=X.p/\X'.g=X.g/\X'.a=X.a):bi (sk H X rl d) (.e 18) (nZ X.g (X'.r 2) X'.y)=sk H X' rl d:=by refine W0 h λa b c e f g=>Dy (W':=X'.e) (i:=1) bl a ?_;show [X'.Z,aa<|nZ X'.g _ _,aa<|.h X'.a,aa<|.g 4 [.e X'.p],_,_,X'.b]=[X.Z,_,_,_,_,_,_];rw[b,c,e,f,g]
def Vt(K:aG P){X:KW}(D:IK H X rl M d)(q:∀y rl' nx' d',IK H (X.q (X.h H.h) H.h y) rl' nx' d'->Q .t (sk H (X.q (X.h H.h) H.h y) rl' d')):aZ (cx P) (n+1) (.ref (P.e 8)) [.f (.e 18)] (sk H X rl d) Q:=by
 refine K.e 8 rfl rfl (rA K (c:=!decide ((X.y:Int)=H.h)) rfl (λh=>?_) λh=>?_)
 ·have ne:X.y≠H.h:=λe=>by rw[e]at h;simp at h
  unfold KW.h at q
  rw[ap ne]at q
  refine gF (j7 (oE (r:=.f M) (D.g _) ?_))
  rw[jO]
  refine aJ K (e:=.h 0 7 (.h 3 0 (.e 0))) (v:=.e H.h) rfl (bV _ (.inl rfl) rfl ?_)
  have D2:IK H (((X.T λx_=>ae).Y X.y).J (ai X.r 2 M)) (ai rl (.w 2) M) (M+1) _:=IK.J D (X':=((X.T λx_=>ae).Y X.y).J (ai X.r 2 M)) (j:=2) (o:=.f λx_=>ae) rfl (by
   show ai X.w 2 (aa (.f (vD λx_=>ae))) 2=_
   rw[bg]
   exact aQ (λf=>aa (O.f f)) (by funext x;cases x<;>rfl)) λi hi=>by
   show ai X.w 2 _ i=ai X.w 2 _ i
   rw[aI hi,aI hi]
  refine tw (iO K (c:=3) (pos:=2) (r:=.e 18) (vals:=[.f (.e 1),.f (.e (20+X.g)),.f (.f (X.r 2)),.f (.e 19),.e X.y]) rfl rfl bl ?_)
  have e1:=Dh (H:=H) (rl:=rl) (d:=ai d M (aa (aa (.f λx_=>ae)))) (X:=X) (X':=((X.T λx_=>ae).Y X.y).J (ai X.r 2 M)) (tO rfl rfl rfl rfl rfl rfl)
  have e2:=Dh (H:=H) (rl:=rl) (d:=ai d M (aa (aa (.f λx_=>ae)))) (X:=((X.T λx_=>ae).Y X.y).J (ai X.r 2 M)) (X':=((X.T λx_=>ae).Y H.h).J (ai X.r 2 M)) (tO rfl rfl rfl rfl rfl rfl)
  have e1':bi (sk H X rl (ai d M (aa (aa (.f λx_=>ae))))) (.e 18) (.g 3 (jo [.f (.e 1),.f (.e (20+X.g)),.f (.f (X.r 2)),.f (.e 19),.e X.y] 2 (.f (.f M))))=_:=e1
  have hq:=q M _ _ _ (show IK H (((X.T λx_=>ae).Y H.h).J (ai X.r 2 M)) _ _ _ from D2)
  rw[e1']
  refine tw (iO K (c:=3) (pos:=4) (r:=.e 18) (vals:=[.f (.e 1),.f (.e (20+X.g)),.f (.f (ai X.r 2 M 2)),.f (.e 19),.e X.y]) rfl rfl bl ?_)
  have e2':bi (sk H (((X.T λx_=>ae).Y X.y).J (ai X.r 2 M)) rl (ai d M (aa (aa (.f λx_=>ae))))) (.e 18) (.g 3 (jo [.f (.e 1),.f (.e (20+X.g)),.f (.f (ai X.r 2 M 2)),.f (.e 19),.e X.y] 4 (.e H.h)))=_:=e2
  rw[e2']
  exact BW (bN (P:=P) (n:=n) hq)
 ·have e:X.y=H.h:=by
   have h':decide ((X.y:Int)=H.h)=true:=by simpa using h
   have:=cR h';exact(j8 (bf (g_ this)) (bf (g_ this).symm))
  unfold KW.h at q
  rw[aq e]at q
  have e3:X.q X.f H.h (X.r 2)=X:=by
   show KW.mk _ _ _ _ _ _ H.h _ _ (ai X.r 2 (X.r 2))=_
   rw[yu,<-e]
  have hq:=q (X.r 2) rl M d
  rw[e3]at hq
  exact bN (hq D)
def uA(D:IK H X rl M d):aT (sk H X rl d) (.f<|X.r 2)=aa (.f<|vD X.f):=by have:=DP.q D (f:=X.e.q::(c9 H rl++X.e.f)) (t:=.w 2) (o:=.f<|vD X.f)<|bg X.w 2<|aa<|.f<|vD X.f;rw[D.e 2]at this;exact this
def uI(K:aG P){X:KW}{c:Nat}{R:V->St->Prop}(b:ev P m σ o=aa (.f r))(a:aT σ r=aa (.f<|vD f))(d:ev P m σ e=aa (.e c))(q:R (bz<|f c) σ):aF (cx P) n (.g 4 o<|.e e .f) m σ R:=nq K (ob:=.f<|vD f) (vs:=[.e c]) b a rfl F.slot_dict_get rfl (nV d)<|o_ K.O a (by rw[pA];exact q)
def xU(a:List Nat)(f:Nat->Option Vl):List Nat:=(dT a).filter λc=>decide<|f c=aa .f
end
section
variable{rl:be->Nat}{Q:V->St->Prop}
def eJ(c:Nat)(a b:Option Vl):Option Vl:=if c=0 then ls a b else mi a b
def fR(b:Nat)(c:Int)(x:ah)(a:List (Option Vl)):Option Vl:=if b=0 then yZ c x a else if b=1 then si a else sh a
def Gd(a:Nat)(v:Option Vl):Prop:=(a=0->rC v)/\(a≠0->Nm v)
def oG(K:aG P)(j:Nat)(g:vY[j]? =aa (c,k,i))(h:ev P m σ o=aa (.f r))(l:aT σ r=aa (.g c d))(p:jE c=aa e)(s:∀S:List V->St->Prop,S vs σ->eK (cx P) n a m σ S)(q:aZ (cx P) n (.ref<|P.e i) (.f r::vs) σ R):aF (cx P) n (.g k o a) m σ R:=iA (n:=n) K.G (Q:=λb σ=>∃f,MethAt (cx P) σ b ((cx P).g k) f/\eK (cx P) n a m σ λvs σ=>aZ (cx P) n f (b::vs) σ R) h<|aC _ (K.y g l p)<|s _ q
def DV(K:aG P)(j:X.g<3)(c:ev P m (sk H X rl d) o=aa (.f<|.e<|20+X.g))(g:Gd X.g a)(i:Gd X.g b)(e:∀S:List V->St->Prop,S [bz a,bz b] (sk H X rl d)->eK (cx P) (n+1) f m (sk H X rl d) S)(q:R (bz<|eJ X.g a b) (sk H X rl d)):aF (cx P) (n+1) (.g 8 o f) m (sk H X rl d) R:=by
 have k:aT (sk H X rl d) (.e 20)=aa (.g 4 [.e X.p]):=rfl;have l:aT (sk H X rl d) (.e 21)=aa (.g 5 []):=rfl;have p:aT (sk H X rl d) (.e 22)=aa (.g 6 []):=rfl;generalize sk H X rl d=σ at*;unfold eJ at q;rcases yI j with h|h|h;·rw[aq h]at q;rw[h]at c;exact oG K 45 rfl c k rfl e<|S9 K q
 ·rw[ap<|m8 h<|by decide]at q;rw[h]at c;exact oG K 48 rfl c l rfl e<|J7 K (g.2<|m8 h<|by decide) (i.2<|m8 h<|by decide) q
 ·rw[ap<|m8 h<|by decide]at q;rw[h]at c;exact oG K 50 rfl c p rfl e<|J7 K (g.2<|m8 h<|by decide) (i.2<|m8 h<|by decide) q
def Nk(K:aG P)(p:X.g<3)(r:0<X.p)(c:ev P m (sk H X rl d) o=aa (.f<|.e<|20+X.g))(j:kY x vs)(f:∀v∈vs,Gd X.g v)(g:∀S:List V->St->Prop,S [.p x,fu vs] (sk H X rl d)->eK (cx P) (n+2) i m (sk H X rl d) S)(q:R (bz<|fR X.g X.p x vs) (sk H X rl d)):aF (cx P) (n+2) (.g 7 o i) m (sk H X rl d) R:=by
 have k:aT (sk H X rl d) (.e 20)=aa (.g 4 [.e X.p]):=rfl;have s:aT (sk H X rl d) (.e 21)=aa (.g 5 []):=rfl;have t:aT (sk H X rl d) (.e 22)=aa (.g 6 []):=rfl;generalize sk H X rl d=σ at*;have l:vs.length<=2:=by
  rcases j with⟨rfl,_⟩|⟨a,rfl,_⟩|⟨a,b,rfl,_⟩;·exact bl
  ·exact bl
  ·exact bl
 unfold fR at q;rcases yI p with h|h|h;·rw[aq h]at q;rw[h]at c;exact oG K 44 rfl c k rfl g<|S_ K k r j (λv e=>(f v e).1 h) q
 ·rw[ap<|m8 h<|by decide,aq h]at q;rw[h]at c;exact oG K 47 rfl c s rfl g<|YH K l (λv e=>(f v e).2 (m8 h<|by decide)) q
 ·rw[ap<|m8 h<|by decide,ap<|m8 h<|by decide]at q;rw[h]at c;exact oG K 49 rfl c t rfl g<|Tt K l (λv e=>(f v e).2 (m8 h<|by decide)) q
set_option tactic.hygienic true in
theorem IK.L(D:IK H X rl Y d)(a:X'.r=X.r)(b:X.e.w j=aa o)(c:X'.e.w j=aa o')(f:∀i,i≠j->X'.e.w i=X.e.w i):IK H X' rl Y (ai d (X.r j)<|aa<|aa o'):=by
 have:=DP.N D (t:=.w j) (o':=o') (cont':=fc H X'.e.w) b λu p e=>by
  by_cases h:u=.w j;·subst h;exact .inl ⟨rfl,bo<|e.symm.trans c⟩
  ·refine .inr ⟨h,?_⟩;cases u<;>first|exact e|skip
   rename_i i;exact(f i λq=>h<|by rw[q]).symm.trans e
 rw[D.e j]at this;have e:X'.e.r=X.e.r:=a;show DP (fc H X'.e.w) X'.e.r rl Y (ai d (X.r j) _);rw[e];exact this
def fG(a:Nat)(h:Nat->Nat)(A:Nat->Option Vl)(b:List Nat)(f:Nat->Option Vl):Nat->Option Vl:=b.foldl (λf c=>ai f (h c)<|eJ a (f<|h c)<|A c) f
def Vh:∃u,eJ k a (aa v)=aa u:=by
 delta eJ ls mi;split
 ·split;·exact⟨v,rfl⟩
  ·exact⟨.f,rfl⟩
 ·split;·exact⟨v,rfl⟩
  ·exact⟨_,rfl⟩
def Vi(d:Nm a)(e:Nm b):Nm (mi a b):=by
 unfold mi;split;·exact e
 ·split;·exact d
  ·rename_i f g;refine cz (d.resolve_left f) λi c h k=>?_;subst c;refine cz (e.resolve_left g) λj c l m=>?_;subst c;exact .inr<|bV _ rfl (Ej.mpr ⟨h,l⟩)<|nD (Ek ..) k
def Vg(c:rC a)(d:rC b):rC (ls a b):=by
 unfold ls;split;·exact d
 ·split;·exact c
  ·trivial
def JM(c:Gd k a)(d:Gd k b):Gd k (eJ k a b):=by
 unfold eJ;refine⟨λh=>?_,λh=>?_⟩;·rw[aq h];exact Vg (c.1 h)<|d.1 h
 ·rw[ap h];exact Vi (c.2 h)<|d.2 h
def Jl:Gd k ae:=⟨λa=>trivial,λa=>.inl rfl⟩
abbrev KW.F(X:KW)(f:Nat->Option Vl)(z:Nat):KW:=(X.U<|ai X.w 5<|aa<|.f<|vD f).J<|ai X.r 5 z
def Se(K:aG P){X:KW}(R:X.g<3)(I:HW H)(U:∀c,X.f c≠ae->c<H.e.length)(B:∀c,Gd X.g<|X.f c){Q:Fl->List V->St->Prop}:∀(g:List Nat)(f:Nat->Option Vl)(d:cU)(p s:V),(∀c∈g,X.f c≠ae)->(∀c,Gd X.g<|f c)->(∀i,f i≠ae->i<H.e.length)->IK H (X.F f z) rl Y d->(∀C W ac,(∀i,fG X.g (ak H.e) X.f g f i≠ae->i<H.e.length)->(∀c,Gd X.g<|fG X.g (ak H.e) X.f g f c)->IK H (X.F (fG X.g (ak H.e) X.f g f) z) rl Y C->Q .e [.f<|.e 18,.f<|.f z,W,ac] (sk H (X.F (fG X.g (ak H.e) X.f g f) z) rl C))->eG (λx m σ k=>2<m.length/\x≠.q/\aP (cx P) (n+2) (.e (.e (.e 3)<|.g 24 (.h 3 0<|.e 0)<|.e (.e 2) .f)<|.e (.e (.f (.e 1)<|.e 3)<|.g 8 (.h 3 1<|.e 0)<|.e (.g 4 (.e 1)<|.e (.e 3) .f)<|.e (.q (.h 3 2<|.e 0)<|.e 2) .f) .f) (m.set 2 x) σ k) (λx_=>True) (aH g) [.f<|.e 18,.f<|.f z,p,s] (sk H (X.F f z) rl d) Q:=by intro l_;induction l_ with
 |nil=>intro f d p s w h y D q;exact q d p s y h D
 |cons c g an=>
  intro f d p s w h y D q;have F:=U c<|w c bk;obtain⟨v,G⟩:∃v,X.f c=aa v:=Option.ne_none_iff_exists'.mp<|w c bk;refine aV (Vh (k:=X.g) (a:=f<|ak H.e c) (v:=v)) λu hu=>?_;have J:aT (sk H (X.F f z) rl d) (.f z)=aa (.f<|vD f):=by have:=DP.q D (f:=(X.F f z).e.q::(c9 H rl++(X.F f z).e.f)) (t:=.w 5) (o:=.f<|vD f)<|bg X.w 5<|aa<|.f<|vD f;rw[D.e 5]at this;rw[show(X.F f z).e.r 5=z from bg X.r 5 z]at this;exact this
  have L:aT (sk H (X.F f z) rl d) (.f<|(X.F f z).r 2)=aa (.f<|vD X.f):=uA D;refine⟨bl,nu,co<|ck K 3 rfl rfl rfl rfl (vs:=[.e c]) rfl<|rT K I F ⟨bl,nu,co<|DV K (X:=X.F f z) (a:=f<|ak H.e c) (b:=X.f c) R rfl (h _) (B _) (λS hS=>?_) ?_⟩⟩
  ·refine uI K (X:=X) (c:=ak H.e c) (f:=f) rfl J rfl<|sM K (u:=.f<|.f<|(X.F f z).r 2) rfl<|aJ K (e:=.e 2) (v:=.e c) rfl<|bV (bz<|X.f c) ?_ ?_ hS;·refine(yw L).trans ?_;show(X.f c).map jt=aa (bz<|X.f c);rw[G];rfl
   ·exact Dn L
  ·have A:eJ (X.F f z).g (f<|ak H.e c) (X.f c)=aa u:=by rw[G];exact hu
   rw[A];apply pW K (r:=.f z) (f:=vD f) (i:=ak H.e c) rfl rfl J<|Dz (N:=1000) bl λi l=>bj (y i l) I.p;rw[show bz (aa u)=jt u from rfl,DA,jO];have M:IK H (X.F (ai f (ak H.e c)<|aa u) z) rl Y (ai d ((X.F f z).r 5)<|aa<|aa<|.f<|vD<|ai f (ak H.e c)<|aa u):=IK.L D (X':=X.F (ai f (ak H.e c)<|aa u) z) (j:=5) (o:=.f<|vD f) rfl (bg X.w 5 _) (bg X.w 5 _) λi l=>by
    show ai (ai X.w 5 _) 2 _ i=ai (ai X.w 5 _) 2 _ i;unfold ai;split;·rfl
    ·rfl
   rw[show(X.F f z).r 5=z from bg X.r 5 z]at M;have eq:fG X.g (ak H.e) X.f (c::g) f=fG X.g (ak H.e) X.f g (ai f (ak H.e c)<|aa u):=by show fG _ _ _ g (ai f (ak H.e c)<|eJ X.g (f<|ak H.e c)<|X.f c)=_;rw[show eJ X.g (f<|ak H.e c) (X.f c)=aa u from A]
   rw[eq]at q;refine⟨trivial,an (ai f (ak H.e c)<|aa u) _ _ _ (λc' aU=>w c'<|bR _ aU) (λi=>?_) (λi l=>?_) M q⟩
   ·by_cases e:i=ak H.e c;·rw[e,bg,<-A];exact JM (h _)<|B _
    ·rw[aI e];exact h i
   ·by_cases e:i=ak H.e c;·rw[e];exact(iZ I.h F).1
    ·rw[aI e]at l;exact y i l
def ww:(λa=>ae:Int->Option V)=vD λa=>ae:=by funext x;cases x<;>rfl
def IK.a9{X:KW}{f:Nat->Option Vl}(D:IK H ((X.q (X.h b) b y).F f z) rl Y d)(c:X.w 5=ae):∃l,IK H (X.q f b z) l Y d/\c9 H l=c9 H rl:=by
 have o:fc H ((X.q (X.h b) b y).F f z).e.w (.w 5)=aa (.f<|vD f):=bg X.w 5 _
 have k:=DP.Y D (t:=.w 5) (j:=2) (cont':=fc H (X.q f b z).e.w) o (λe=>nomatch e) λu p e=>?_
 ·have r:rl (.w 5)=z:=(D.e 5).trans<|bg (ai X.r 2 y) 5 z
  rw[r]at k
  have s:ai ((X.q (X.h b) b y).F f z).e.r 2 z=ai (ai X.r 2 z) 5 z:=by
   funext i
   show ai (ai (ai X.r 2 y) 5 z) 2 z i=_
   unfold ai
   by_cases m:i=2
   ·subst m;rfl
   ·by_cases c:i=5
    ·subst c;rfl
    ·simp only[ap m,ap c]
  rw[s]at k
  exact(aC _ (DP.F k<|show ai X.w 2 _ 5=ae from(aI (b:=aa<|.f<|vD f)<|by decide).trans c) rfl)
 ·cases u with
  |w i=>
   have a:ai X.w 2 (aa<|.f<|vD f) i=aa p:=e
   by_cases h:i=2
   ·subst h;rw[bg]at a;exact .inl ⟨rfl,(bo a).symm⟩
   ·rw[aI h]at a
    have n:i≠5:=λq=>by rw[q,c]at a;cases a
    refine .inr ⟨(λq=>h<|be.w.inj q),(λq=>n<|be.w.inj q),?_⟩
    show ai (ai X.w 5 _) 2 _ i=aa p
    rw[aI h,aI n];exact a
  |e i=>exact .inr ⟨(λq=>be.noConfusion q),(λq=>be.noConfusion q),e⟩
  |p i=>exact .inr ⟨(λq=>be.noConfusion q),(λq=>be.noConfusion q),e⟩
  |f i=>exact .inr ⟨(λq=>be.noConfusion q),(λq=>be.noConfusion q),e⟩
  |g i=>exact .inr ⟨(λq=>be.noConfusion q),(λq=>be.noConfusion q),e⟩
  |h=>exact .inr ⟨(λq=>be.noConfusion q),(λq=>be.noConfusion q),e⟩
def Vo(K:aG P){X:KW}(D:IK H X rl Y d)(I:HW H)(s:X.g<3)(G:X.w 5=ae)(u:∀c,X.h H.h c≠ae->c<H.e.length)(J:∀c,Gd X.g<|X.h H.h c)
  (q:∀a y w M f,(∀c,c∈a↔X.h H.h c≠ae)->(∀i,fG X.g (ak H.e) (X.h H.h) a (λb=>ae) i≠ae->i<H.e.length)->(∀c,Gd X.g<|fG X.g (ak H.e) (X.h H.h) a (λb=>ae) c)->
   IK H (X.q (fG X.g (ak H.e) (X.h H.h) a λb=>ae) H.h y) w M f->Q .t (sk H (X.q (fG X.g (ak H.e) (X.h H.h) a λb=>ae) H.h y) w f)):
  aZ (cx P) (n+3) (.ref<|P.e 10) [.f<|.e 18] (sk H X rl d) Q:=by
 refine K.e 10 rfl rfl<|d9<|ck K 36 rfl rfl rfl rfl (vs:=[]) rfl<|Vt K D λy l dd d1 z=>?_
 refine co<|oE (r:=.f dd) (z.g _) ⟨bl,nu,?_⟩
 rw[jO,ww]
 have A:IK H ((X.q (X.h H.h) H.h y).F (λb=>ae) dd) (ai l (.w 5) dd) (dd+1) _:=IK.J z (X':=(X.q (X.h H.h) H.h y).F (λb=>ae) dd) (j:=5) (o:=.f<|vD λb=>ae) rfl (bg X.w 5 _) λi p=>by
  show ai (ai X.w 5 _) 2 _ i=ai X.w 2 _ i
  unfold ai
  by_cases g:i=2
  ·rw[aq g,aq g]
  ·rw[ap g,ap g,ap p]
 have N:H.e.length<60:=by rw[I.g];exact I.n
 have R:aT (sk H (X.q (X.h H.h) H.h y) l<|ai d1 dd<|aa<|aa<|.f<|vD λb=>ae) (.f<|(X.q (X.h H.h) H.h y).r 2)=aa (.f<|vD<|X.h H.h):=by
  have U:=uA A
  exact U
 refine mS<|dW K K.G.g rfl<|aJ K (e:=.h 3 2<|.e 0) (v:=.f<|.f<|(X.q (X.h H.h) H.h y).r 2) rfl<|B' K.O (m:=vD<|X.h H.h) (L:=(bM H.e.length).map λ(i:Nat)=>(i:Int)) R (by rw[bq,f9];exact(aR N bl)) (λk s=>?_) λa hp B=>?_
 ·cases k with
  |ofNat i=>
   have:X.h H.h i≠ae:=λe=>s (by show(X.h H.h i).map jt=_;rw[e];rfl)
   exact cq.mpr ⟨i,fz.mpr<|u i this,rfl⟩
  |negSucc i=>exact aD rfl s
 have W:∀x∈a,∃n:Nat,x=n:=λx hx=>by
  cases x with
  |ofNat i=>exact⟨i,rfl⟩
  |negSucc i=>exact aD rfl<|(B _).mp hx
 refine aV (yN W) λa ag=>?_;subst ag
 have C:∀c,c∈a↔X.h H.h c≠ae:=λc=>by
  have h1:=B (c:Int)
  have g:((c:Int)∈a.map λ(n:Nat)=>(n:Int))↔c∈a:=by
   rw[cq];exact⟨λ⟨i,p,e⟩=>g_ e▸p,λh=>⟨c,h,rfl⟩⟩
  have h3:vD (X.h H.h) (c:Int)≠ae↔X.h H.h c≠ae:=by
   show(X.h H.h c).map jt≠ae↔_
   rw[Ne,s_]
  exact g.symm.trans<|h1.trans h3
 rw[<-pn]
 refine(c_ (aH a) (λb=>True) rfl<|Se K (rl:=ai l (.w 5) dd) (X:=X.q (X.h H.h) H.h y) s I u J a (λb=>ae) _ .q .q (λc hc=>(C c).mp hc) (λb=>Jl) (λi p=>aD rfl p) A λf z2 z3 aK hg D3=>?_)
 refine aB (IK.a9 D3 G) λt D4 e4=>?_
 have F:=q a dd t _ f C aK hg D4
 refine co<|aJ K (e:=.e 1) (v:=.f<|.f dd) rfl<|iO K (c:=3) (pos:=2) (r:=.e 18) (vals:=[.f<|.e 1,.f<|.e<|20+X.g,.f<|.f<|ai (ai X.r 2 y) 5 dd 2,.f<|.e 19,.e H.h]) rfl rfl bl ?_
 have e1:=Dh (H:=H) (rl:=ai l (.w 5) dd) (d:=f) (X:=(X.q (X.h H.h) H.h y).F (fG X.g (ak H.e) (X.h H.h) a λb=>ae) dd) (X':=X.q (fG X.g (ak H.e) (X.h H.h) a λb=>ae) H.h dd)<|tO rfl rfl rfl rfl rfl rfl
 have e5:sk H (X.q (fG X.g (ak H.e) (X.h H.h) a λb=>ae) H.h dd) t f=sk H (X.q (fG X.g (ak H.e) (X.h H.h) a λb=>ae) H.h dd) (ai l (.w 5) dd) f:=by
  show Sg (_::(c9 H t++_)) _=_
  rw[e4]
 rw[e5,<-e1]at F
 exact bN (P:=P) (n:=n+2) F
end
section
variable{Y:be->Nat}{Q:V->St->Prop}
def iU(a:Nat)(b:Int)(A:Nat->Option Vl)(c:List Nd)(f:Option Vl):Option Vl:=c.foldl (λf s=>eJ a f<|fR a b s.1<|s.2.map A) f
def ku(v:Option Vl):c8 (bz v)=aa (bz v):=by cases v with|none=>rfl|some v=>cases v<;>rfl
def X8(K:aG P)(D:IK H X Y W d)(p:X.g<3)(t:0<X.p){Q:Fl->List V->St->Prop}:∀(vs:List Nd)(f:Option Vl)(h i:V),(∀s∈vs,s.2.length<=2/\kY s.1 (s.2.map X.f)/\(∀v∈s.2.map X.f,Gd X.g v)/\Gd X.g (fR X.g X.p s.1<|s.2.map X.f))->Gd X.g f->(∀w y,Q .e [.f<|.e 18,c,bz<|iU X.g X.p X.f vs f,w,y]<|sk H X Y d)->eG (λx m σ k=>3<m.length/\x≠.q/\aP (cx P) (n+3) (.e (.e (.e 4)<|.T (.g 4 (.h 3 2<|.e 0)<|.e (.e 5) .f)<|.a (.e 3)<|.p 1)<|.e (.e (.e 2)<|.g 8 (.h 3 1<|.e 0)<|.e (.e 2)<|.e (.g 7 (.h 3 1<|.e 0)<|.e (.q (.e 3)<|.p 0)<|.e (.e 4) .f) .f) .f) (m.set 3 x) σ k) (λL=>True) (vs.map bp) [.f<|.e 18,c,bz f,h,i] (sk H X Y d) Q:=by intro z;induction z with
 |nil=>intro f h i j l q;exact q h i
 |cons s vs A=>
  intro f h i j l q;refine v7 (j s bk) λo B sg r=>?_;have C:(s.2.map λ(k:Nat)=>bz<|X.f k)=(s.2.map X.f).map bz:=by rw[fh];rfl
  refine⟨bl,nu,co<|kO<|qQ K (u:=bp s) (v:=.e 1) rfl rfl ⟨1,rfl,by decide,by decide,fy _,eM<|da _,?_,aH s.2,rfl,?_,qf (g:=λk=>bz<|X.f k) (λk M N q=>uI K (X:=X) (c:=k) (f:=X.f) rfl (uA D) rfl q) ?_⟩⟩;·show(f5 s).length<2^24;unfold f5;rw[iu,bK];exact(aL (dr o _) bl)
  ·rw[bK,bX];exact(ay o bl)
  rw[C];refine⟨bl,nu,co<|DV K (X:=X) (n:=n+2) (a:=f) (b:=fR X.g X.p s.1<|s.2.map X.f) p rfl l r (λS F=>?_) ?_⟩;·refine aJ K (e:=.e 2) (v:=bz f) (ku f)<|Nk K (X:=X) (n:=n+1) (x:=s.1) (vs:=s.2.map X.f) p t rfl B sg (λR G=>?_) F;refine aJ K (e:=.q (.e 3)<|.p 0) (v:=.p s.1) ?_<|aJ K (e:=.e 4) (v:=fu<|s.2.map X.f) rfl G;show(if decide ((f5 s).length<2^62)=true then _ else ae)=_;rw[aq<|bQ<|by unfold f5;rw[iu,bK];exact(aL (dr o _) bl)];rfl
  ·exact(ij bl ((qj<|ku _).2) trivial<|A _ _ _ (λI J=>j I<|bR _ J) (JM l r) q)
def Vs(K:aG P){X:KW}(D:IK H X Y W d)(I:HW H)(i:X.g<3)(j:0<X.p){c:Nat}(m:c<H.e.length){l:List Nat}(o:H.q[ak H.e c]? =aa l)(p:∀x∈l,x<H.f.length)(r:Gd X.g (X.f c))(t:∀x∈l,∀k,H.f[x]? =aa k->kY k.1 ((bG H k).2.map X.f)/\(∀v∈(bG H k).2.map X.f,Gd X.g v)/\Gd X.g (fR X.g X.p k.1<|(bG H k).2.map X.f))(q:∀vs:List Nd,(∀s,s∈vs↔∃x∈l,∃k,H.f[x]? =aa k/\s=bG H k)->Q (bz<|iU X.g X.p X.f vs<|X.f c) (sk H X Y d)):aZ (cx P) (n+5) (.ref<|P.e 11) [.f<|.e 18,.e c] (sk H X Y d) Q:=by refine K.e 11 rfl rfl<|co<|uI K (X:=X) (c:=c) (f:=X.f) rfl (uA D) rfl<|kz bl ((qj<|ku _).2)<|mS<|ck K 13 rfl rfl rfl rfl (vs:=[.e c]) rfl<|UP K D I m o p λvs g z=>(c_ (vs.map bp) (λA=>True) rfl ?_);refine X8 K (n:=n+1) D i j vs (X.f c) .q .q (λs u=>?_) r λB C=>eO K (e:=.e 2) (v:=bz<|iU X.g X.p X.f vs<|X.f c) (ku _)<|q vs g;refine C5 ((g s).mp u) λx w k h y=>?_;subst y;refine eQ (t x w k h) λa b e=>(ij ?_ a b e);show(k.2.map _).length<=2;rw[bq];exact(I.y x k h).1
end
section
variable{Y:be->Nat}{Q:V->St->Prop}
def U8(l:List Nat):nY (aH l)=aa (l.map λ(n:Nat)=>(n:Int)):=by induction l with|nil=>rfl|cons x l a=>show(nY<|aH l).map _=_;rw[a];rfl
def TB(l:List Nat):(λk:Int=>if k∈l.map (λ(n:Nat)=>(n:Int))then aa (V.g true)else ae)=bD l:=by funext k;cases k with
 |ofNat i=>
  show _=(if i∈l then aa ()else ae).map λc=>V.g true;by_cases h:i∈l;·have a:sR i∈l.map λ(n:Nat)=>(n:Int):=cq.mpr<|aC i h rfl;rw[aq a,aq h];rfl
  ·have a:sR i∉l.map λ(n:Nat)=>(n:Int):=λq=>by exact aB (cq.mp q) λj b e=>h<|g_ e▸b
   rw[ap a,ap h];rfl
 |negSucc i=>
  have a:Int.negSucc i∉l.map λ(n:Nat)=>(n:Int):=λq=>by refine aB (cq.mp q) λj b e=>?_;cases e
  rw[ap a];rfl
def QZ(h:c∉l):cD (bD<|c::l) (c:Int) ae=bD l:=tM _ _ _ _ c _ (by rw[ap h];rfl) λi a=>by simp[a]
def QW(l:List Nat)(c:Nat):cD (bD l) (c:Int) (aa<|.g true)=bD (l++[c]):=tM _ _ _ _ c _ (by simp) λi a=>by simp[a]
abbrev KW.t(X:KW)(a b:List Nat)(c d:Nat):KW:=(X.U<|ai (ai X.w 5<|aa<|.e<|aH a) 6<|aa<|.f<|bD b).J<|ai (ai X.r 5 c) 6 d
def zo(D:IK H (X.t a c b e) Y W d):aT (sk H X Y d) (.f b)=aa (.e<|aH a):=by have:=DP.q D (f:=X.e.q::(c9 H Y++X.e.f)) (t:=.w 5) (o:=.e<|aH a) rfl;rw[D.e 5]at this;rw[show(X.t a c b e).e.r 5=b from rfl]at this;exact this
def zR(D:IK H (X.t c a e b) Y W d):aT (sk H X Y d) (.f b)=aa (.f<|bD a):=by have:=DP.q D (f:=X.e.q::(c9 H Y++X.e.f)) (t:=.w 6) (o:=.f<|bD a) rfl;rw[D.e 6]at this;rw[show(X.t c a e b).e.r 6=b from rfl]at this;exact this
def IK.b2{X:KW}{row row' b:List Nat}(D:IK H (X.t row b a c) Y W d):IK H (X.t row' b a c) Y W (ai d a<|aa<|aa<|.e<|aH row'):=by
 have:=IK.L D (X':=X.t row' b a c) (j:=5) (o:=.e<|aH row) (o':=.e<|aH row') rfl rfl rfl λi e=>by show ai (ai (ai X.w 5 _) 6 _) 2 _ i=ai (ai (ai X.w 5 _) 6 _) 2 _ i;unfold ai;simp only[ap e]
 exact this
def IK.wt{X:KW}{b pd pd':List Nat}(D:IK H (X.t b pd c a) Y W d):IK H (X.t b pd' c a) Y W (ai d a<|aa<|aa<|.f<|bD pd'):=by
 have:=IK.L D (X':=X.t b pd' c a) (j:=6) (o:=.f<|bD pd) (o':=.f<|bD pd') rfl rfl rfl λi e=>by show ai (ai (ai X.w 5 _) 6 _) 2 _ i=ai (ai (ai X.w 5 _) 6 _) 2 _ i;unfold ai;simp only[ap e]
 exact this
def IK.b3{X:KW}(D:IK H (X.t a b c e) Y W d):IK H ((X.T f).t a b c e) Y W (ai d (X.r 2)<|aa<|aa<|.f<|vD f):=by
 have:=IK.L D (X':=(X.T f).t a b c e) (j:=2) (o:=.f<|vD X.f) (o':=.f<|vD f) rfl rfl rfl λi g=>by show ai (ai (ai X.w 5 _) 6 _) 2 _ i=ai (ai (ai X.w 5 _) 6 _) 2 _ i;unfold ai;simp only[ap g]
 exact this
noncomputable def f0(h:Nat->Nat)(a b:List Nat):List Nat:=a.foldl (λp u=>if h u∈p then p else p++[h u]) b
def VF(K:aG P)(I:HW H){Q:Fl->List V->St->Prop}:∀(b a g:List Nat)(d:cU)(w y:V),(∀u∈b,u<H.e.length)->(∀c∈a,c<H.e.length)->g.length+a.length+b.length<2^20->IK H (X.t (g++a) a p o) Y W d->(∀J ac ag,(∀c∈f0 (ak H.e) b a,c<H.e.length)->IK H (X.t (g++f0 (ak H.e) b a) (f0 (ak H.e) b a) p o) Y W J->Q .e [.f<|.e 18,.f<|.f p,.f<|.f o,C,F,G,ac,ag] (sk H X Y J))->eG (λx m σ k=>6<m.length/\x≠.q/\aP (cx P) (n+2) (.e (.e (.e 7)<|.g 24 (.h 3 0<|.e 0)<|.e (.e 6) .f)<|.e (.g (.t .g (.e 7)<|.e 2) (.e (.e (.f (.e 2)<|.e 7)<|.U true)<|.e (.f<|.g 0 (.e 1)<|.e (.e 7) .f) .f) .f) .f) (m.set 6 x) σ k) (λx_=>True) (aH b) [.f<|.e 18,.f<|.f p,.f<|.f o,C,F,G,w,y] (sk H X Y d) Q:=by intro l_;induction l_ with
 |nil=>intro a g d w y z s t D q;exact q d w y s D
 |cons u b L=>
  intro a g d w y z s t D q;have M:=z u bk;rw[iu]at t;refine⟨bl,nu,co<|ck K 3 rfl rfl rfl rfl (vs:=[.e u]) rfl<|rT K I M ⟨bl,nu,fm<|gz K (u:=.e<|ak H.e u) (v:=.f<|.f o) rfl rfl<|Iz (zR D)<|aC _ rfl ?_⟩⟩;rw[HZ];refine Vf (λh=>?_) λh=>?_
  ·have e:f0 (ak H.e) (u::b) a=f0 (ak H.e) b a:=by show f0 _ b (if _ then _ else _)=_;rw[aq h]
   rw[e]at q;exact⟨trivial,L a g d _ _ (λA B=>z A<|bR _ B) s (kW t) D q⟩
  ·have e:f0 (ak H.e) (u::b) a=f0 (ak H.e) b (a++[ak H.e u]):=by show f0 _ b (if _ then _ else _)=_;rw[ap h]
   rw[e]at q;refine co<|aJ K (e:=.U true) (v:=.g true) rfl<|pW K (r:=.f o) (f:=bD a) (i:=ak H.e u) rfl rfl (zR D) (B4 (N:=1000) bl λc j=>bj (s c j) I.p) ?_;rw[QW,jO];have R:=IK.wt D (pd':=a++[ak H.e u]);refine mR K (r:=.f p) (l:=aH<|g++a) (v:=.e<|ak H.e u) rfl (zo R) rfl (by rw[bK,bm];exact jp<|by exact(aL (bB ..) t)) ?_;rw[sa,jO];have U:=IK.b2 R (row':=(g++a)++[ak H.e u]);rw[lN]at U;rw[lN];exact⟨trivial,L (a++[ak H.e u]) g _ _ _ (λA B=>z A<|bR _ B) (λc j=>by
    rcases fi.mp j with j|j;·exact s c j
    ·rw[cP.mp j];exact(iZ I.h M).1) (by rw[bm];exact aL (bf<|dL (g.length+a.length) 1 b.length) t) U q⟩
end
section
variable{Y:be->Nat}{Q:V->St->Prop}
structure KS(H:Hp)(kind:Nat)(cn:Int)(A:Nat->Option Vl):Prop where
 f:∀c,A c≠ae->c<H.e.length
 e:∀c,Gd kind<|A c
 g:∀(i:Nat)(k:Nd),H.f[i]? =aa k->kY k.1 ((bG H k).2.map A)/\(∀v∈(bG H k).2.map A,Gd kind v)/\Gd kind (fR kind cn k.1<|(bG H k).2.map A)
def JN(h:a≠ae):eJ k a b≠ae:=by delta eJ ls mi;cases a with|none=>exact aD rfl h|some v=>cases b with|none=>split<;>simp|some u=>split<;>(try split)<;>simp
def X6{b:Int}:∀(a:List Nd)(f:Option Vl),f≠ae->iU k b A a f≠ae:=by intro c;induction c with|nil=>intro f h;exact h|cons s a d=>intro f h;exact d _<|JN h
set_option tactic.hygienic true in
theorem IK.a'(D:IK H (X.t m n c f) Y U d)(g:X.w 5=ae)(h:X.w 6=ae):∃j,IK H X j U d/\c9 H j=c9 H Y:=by
 have p:DP (fc H X.e.w) (ai (ai X.e.r 5 c) 6 f) Y U d:=DP.y D λt o e=>by
  cases t<;>first|exact e|skip
  rename_i i;have a:ai X.w 2 (aa<|.f<|vD X.f) i=aa o:=e;show ai (ai (ai X.w 5 _) 6 _) 2 _ i=aa o;by_cases k:i=2;·subst k;exact a
  ·rw[aI k]at a⊢;have r:i≠6:=λq=>by rw[q,h]at a;cases a
   have s:i≠5:=λq=>by rw[q,g]at a;cases a
   rw[aI r,aI s];exact a
 have l:=DP.F p (show ai X.w 2 _ 6=ae from(aI (b:=aa<|.f<|vD X.f)<|by decide).trans h);rw[show ai X.e.r 5 c 6=X.r 6 from aI<|by decide]at l;exact(aC _ (DP.F l<|show ai X.w 2 _ 5=ae from(aI (b:=aa<|.f<|vD X.f)<|by decide).trans g) rfl)
def gr{Q:Fl->List V->St->Prop}(q:Q .e m σ):f7 P n .f Q .e m σ:=q
def BP(K:aG P)(M:e->f->γ->δ->List V)(j:e->f->γ->bh)(Inv:e->f->γ->δ->Prop)(l:e->f->γ->Nat){Q:Fl->List V->St->Prop}(g:e)(h:f)(i:γ)(d0:δ)(s:Z H (j g h i))(A:Inv g h i d0)(gE:∀x y w u(z:Z H (j x y w)),Inv x y w u->∀R:List V->St->Prop,(∀o p q v(z:Z H (j o p q)),Inv o p q v->l o p q<l x y w->R (M o p q v) z.e)->∃c,ev P (M x y w u) z.e t=aa (.g c)/\if c then aP (cx P) n b (M x y w u) z.e (LQ R Q)else aP (cx P) n r (M x y w u) z.e Q):aP (cx P) n (.e (.t t b) r) (M g h i d0) s.e Q:=by apply tr K (λk m σ=>∃a b c d,∃z:Z H (j a b c),m=M a b c d/\σ=z.e/\Inv a b c d/\l a b c=k) (k₀:=l g h i) ⟨g,h,i,d0,s,rfl,rfl,A,rfl⟩;rintro k m σ ⟨a,b,c,d,z,rfl,rfl,B,rfl⟩;exact gE a b c d z B _ λx y w u C D F=>⟨_,F,x,y,w,u,C,rfl,rfl,D,rfl⟩
def TX{i j:Int}(c:ev P m σ a=aa (.e i))(d:ev P m σ b=aa (.e j)):ev P m σ (.t .t a b)=aa (.g<|decide<|i<j):=by show(ev P m σ a).bind (λu=>(ev P m σ b).bind λv=>nS .t u v)=_;rw[c,d];rfl
noncomputable abbrev Yk:Ss:=(.e (.p [(.e 4),(.e 3)]<|.F<|.e (.q (.e 1)<|.e 3)<|.e (.J .e (.e 3)<|.p 1) .f)<|.e (.f<|.g 2 (.e 2)<|.e (.e 4) .f)<|.e (.e (.e 5)<|.g 12 (.e 0)<|.e (.e 4) .f)<|.e (.g (.t .f (.e 5)<|.g 4 (.h 3 2<|.e 0)<|.e (.e 4) .f) (.e (.e (.f (.h 3 2<|.e 0)<|.e 4)<|.e 5)<|.e (.q 6 (.g 36 (.h 3 0<|.e 0)<|.e (.e 4) .f)<|.e (.e (.e 7)<|.g 24 (.h 3 0<|.e 0)<|.e (.e 6) .f)<|.e (.g (.t .g (.e 7)<|.e 2) (.e (.e (.f (.e 2)<|.e 7)<|.U true)<|.e (.f<|.g 0 (.e 1)<|.e (.e 7) .f) .f) .f) .f) .f) .f) .f)
def YG(K:aG P)(D:IK H (X.t (j++c::g) (c::g) x y) Y U d)(I:HW H)(hk:X.g<3)(hn:0<X.p)(t:c<H.e.length/\H.e[c]? =aa c)(ag:∀x∈g,x<H.e.length)(J:c∉g)(an:g.length<60)(au:j.length<2^19)
  (L:KS H X.g X.p X.f)(bT:H.q[c]? =aa l)(ca:∀x∈l,x<H.f.length)(av:H.g c=aa A)(cw:∀x∈A,x<H.e.length){Q:Fl->List V->St->Prop}
  (B:∀vs:List Nd,(∀s,s∈vs↔∃x∈l,∃k,H.f[x]? =aa k/\s=bG H k)->iU X.g X.p X.f vs (X.f c)=X.f c->∀(z:Z H (X.t ((j++[c])++g) g x y).e)(a b e:V),R [.f<|.e 18,.f<|.f x,.f<|.f y,.e (j.length+1:Nat),.e c,a,b,e] z.e)
  (C:∀(vs:List Nd)(o:List Nat)(v:Vl),(∀s,s∈vs↔∃x∈l,∃k,H.f[x]? =aa k/\s=bG H k)->(∀x,x∈o↔x∈A)->iU X.g X.p X.f vs (X.f c)=aa v->aa v≠X.f c->
   ∀(z:Z H ((X.T<|ai X.f c<|aa v).t ((j++[c])++f0 (ak H.e) o g) (f0 (ak H.e) o g) x y).e)(a b e:V),R [.f<|.e 18,.f<|.f x,.f<|.f y,.e (j.length+1:Nat),.e c,a,b,e] z.e):
  aP (cx P) (n+5) Yk [.f<|.e 18,.f<|.f x,.f<|.f y,.e j.length,z4,z5,z6,z7] (sk H X Y d) (LQ R Q):=by
 have cQ:(aH<|j++c::g).length<2^20:=by rw[bK,bm];exact bj (Oy au<|jS an) bl
 have cV:(j++c::g)[j.length]? =aa c:=by rw[sZ<|bb _,xa];rfl
 refine gF<|aJ (n:=n+5) K (e:=.F<|.e (.q (.e 1)<|.e 3)<|.e (.J .e (.e 3)<|.p 1) .f) (v:=.h [.e c,.e (j.length+1:Nat)]) ?_ ⟨_,.inl rfl,rfl,bl,nu,bl,nu,?_⟩
 ·show dZ V.h ((if i3 _ (.f<|.f x)then gJ _ (.f<|.f x) (.e j.length)else ae).bind λv=>dZ (λvs=>v::vs)<|(aa<|V.e<|(j.length:Int)+1).bind λv=>dZ (λvs=>v::vs)<|aa [])=_
  rw[YN (zo (X:=X) D)<|bj cQ bl,aq rfl,(Jm<|zo (X:=X) D).trans<|tQ cV];rfl
 refine d9<|nq K (k:=2) (r:=.f y) (vs:=[.e c]) rfl (zR (X:=X) D) rfl F.slot_dict_pop rfl rfl<|Ii K.O (m:=bD<|c::g) (v:=.g true) (zR (X:=X) D) ?_ (B4 (N:=1000) bl λi M=>(cB.mp M).elim (λe=>e▸bj t.1 I.p) λh=>bj (ag i h) I.p) ?_
 ·show(if c∈c::g then aa ()else ae).map _=_
  rw[aq bk];rfl
 rw[QZ J,jO]
 have p:=IK.wt (X:=X) D (pd':=g)
 have aU:ak H.e c=c:=iY t.2
 refine co<|ck K 39 rfl rfl rfl rfl (vs:=[.e c]) rfl<|Vs (n:=n) K (X:=X.t (j++c::g) g x y) p I hk hn t.1 (l:=l) (by rw[aU];exact bT) ca (L.e c) (λx x_ k dg=>L.g x k dg) λvs aW=>⟨bl,(qj<|ku _).2,?_⟩
 have dj:j++c::g=(j++[c])++g:=by rw[lN];rfl
 rw[dj]at p
 have B:=B vs aW
 have C:=λo v=>C vs o v aW
 have eF:iU (X.t (j++c::g) g x y).g (X.t (j++c::g) g x y).p (X.t (j++c::g) g x y).f vs ((X.t (j++c::g) g x y).f c)=iU X.g X.p X.f vs (X.f c):=rfl
 have bw:∀w,X.f c=aa w->iU X.g X.p X.f vs (X.f c)≠ae:=λw hw=>X6 vs _ (by rw[hw];exact λe=>aY e.symm)
 rw[eF]
 generalize iU X.g X.p X.f vs (X.f c)=F at B C bw
 refine ko (!decide (F=X.f c)) (λR r=>pD K (a:=.e 5) (u:=bz F) (ku F)<|uI K (X:=X) (c:=c) (f:=X.f) rfl (uA (X:=X.t ((j++[c])++g) g x y) p) rfl ⟨_,_,nh F,nh<|X.f c,by rw[rQ];exact r⟩) (λq=>?_) λq=>?_
 ·have G:F≠X.f c:=λe=>by rw[bQ e]at q;exact dK q
  refine aV (show∃v,F=aa v from ?_) λv hv=>?_
  ·cases bC:F with
   |some v=>exact⟨v,rfl⟩
   |none=>cases bE:X.f c with
    |none=>exact aD (bC.trans bE.symm) G
    |some w=>exact aD bC<|bw w bE
  subst hv
  refine co<|aJ K (e:=.e 5) (v:=jt v) (ku<|aa v)<|pW K (r:=.f<|X.r 2) (f:=vD X.f) (i:=c) rfl rfl (uA (X:=X.t ((j++[c])++g) g x y) p) (Dz (N:=1000) bl λi M=>bj (L.f i M) I.p) ?_
  rw[DA,jO]
  have D6:=IK.b3 p (f:=ai X.f c<|aa v)
  refine mS<|ck K 14 rfl rfl rfl rfl (vs:=[.e c]) rfl<|UT K (W:=((X.T<|ai X.f c<|aa v).t ((j++[c])++g) g x y).e) D6 I t.1 (l:=A) (by rw[aU];exact av) λo ac J=>(c_ (aH o) (λx_=>True) rfl ?_)
  have h1:o.length<=18:=ay (nF J λx hx=>(ac x).mp hx)<|I.t _ _ av
  refine VF K (n:=n+3) (X:=X.T<|ai X.f c<|aa v) I o g (j++[c]) _ z6 z7 (λu hu=>cw u<|(ac u).mp hu) ag ?_ D6 λd7 dX dY eH D7=>bN (P:=P) (n:=n+5)<|gr<|gr<|C o v ac rfl G ⟨_,_,_,D7⟩ _ _ _
  rw[bm]
  exact aL (fL (fL (jA au)<|bu an) h1) bl
 ·have G:F=X.f c:=by
   cases hd:decide (F=X.f c)with
   |true=>exact cR hd
   |false=>rw[hd]at q;exact dK q
  exact bN<|gr<|B G ⟨_,_,_,p⟩ _ _ _
def Vu(K:aG P){X:KW}(z:Z H X.e)(I:HW H)(hk:X.g<3)(hn:0<X.p)(h5:X.w 5=ae)(h6:X.w 6=ae)(cJ:∀c:Nat,H.e[c]? =aa c->∃l,H.q[c]? =aa l/\∀x∈l,x<H.f.length)(cM:∀c:Nat,H.e[c]? =aa c->∃l,H.g c=aa l/\∀x∈l,x<H.e.length)
  (hA:∀c,X.h H.h c≠ae->c<H.e.length)(gA:∀c,Gd X.g<|X.h H.h c)(Inv:(Nat->Option Vl)->List Nat->Prop)(p:(Nat->Option Vl)->List Nat->Nat)(M:Nat)(hM:M<2^19)
  (dg:∀A d,Inv A d->KS H X.g X.p A/\d.Nodup/\∀c∈d,c<H.e.length/\H.e[c]? =aa c)
  (dj:∀C,(∀c,c∈C↔X.h H.h c≠ae)->Inv (fG X.g (ak H.e) (X.h H.h) C λw=>ae) (dT H.e)/\p (fG X.g (ak H.e) (X.h H.h) C λw=>ae) (dT H.e)<=M)
  (gE:∀A c d vs F l D,Inv A (c::d)->H.q[c]? =aa l->H.g c=aa D->(∀s,s∈vs↔∃x∈l,∃k,H.f[x]? =aa k/\s=bG H k)->(∀x,x∈F↔x∈D)->
   (iU X.g X.p A vs (A c)=A c->Inv A d/\p A d<p A (c::d))/\∀v,iU X.g X.p A vs (A c)=aa v->aa v≠A c->Inv (ai A c<|aa v) (f0 (ak H.e) F d)/\p (ai A c<|aa v) (f0 (ak H.e) F d)<p A (c::d))
  (q:∀A y(z:Z H (X.q A H.h y).e),Inv A []->Q .t z.e):aZ (cx P) (n+6) (.ref<|P.e 12) [.f<|.e 18] z.e Q:=by
 have hN:H.e.length<60:=by rw[I.g];exact I.n
 have aW:(dT H.e).length<60:=aL (Oa _ _) (by rw[f9];exact hN)
 refine K.f 12 rfl rfl<|d9<|ck K 38 rfl rfl rfl rfl (vs:=[]) rfl<|Vo (n:=n+2) K z.g I hk h5 hA gA λC y G dd d1 dk w w L=>?_
 refine cj (dj C dk) λi1 i2=>?_
 generalize fG X.g (ak H.e) (X.h H.h) C (λw=>ae)=B at L i1 i2
 refine co<|dW K K.G.h rfl<|ck K 6 rfl rfl rfl rfl (vs:=[]) rfl<|Cq K I<|vC (l:=aH<|dT H.e) rfl (by rw[bK,bX];exact ay (bu aW) bl)<|.inr ⟨.f dd,L.g _,bl,nu,?_⟩
 rw[jO]
 have J:IK H (((X.q B H.h y).U<|ai X.w 5<|aa<|.e<|aH<|dT H.e).J<|ai (ai X.r 2 y) 5 dd) (ai G (.w 5) dd) (dd+1) _:=IK.J L (X':=((X.q B H.h y).U<|ai X.w 5<|aa<|.e<|aH<|dT H.e).J<|ai (ai X.r 2 y) 5 dd) (j:=5) (o:=.e<|aH<|dT H.e) rfl rfl λi m=>by
  show ai (ai X.w 5 _) 2 _ i=ai X.w 2 _ i
  unfold ai
  simp only[ap m]
 have l5:aT (sk H (X.q B H.h y) G<|ai d1 dd<|aa<|aa<|.e<|aH<|dT H.e) (.f dd)=aa (.e<|aH<|dT H.e):=by
  have:=DP.q J (f:=(X.q B H.h y).e.q::(c9 H G++(X.q B H.h y).e.f)) (t:=.w 5) (o:=.e<|aH<|dT H.e) rfl
  rw[J.e 5]at this
  exact this
 refine co<|Nc K (e:=.e 1) (u:=.f<|.f dd) (r:=.f<|dd+1) rfl (tW l5) (by rw[bK,bX];exact ay (bu aW) bl) (U8 _) (J.g _) ⟨bl,nu,?_⟩
 rw[TB,jO]
 have D3:IK H ((X.q B H.h y).t ([]++dT H.e) (dT H.e) dd<|dd+1) (ai (ai G (.w 5) dd) (.w 6)<|dd+1) (dd+2) _:=IK.J J (X':=(X.q B H.h y).t (dT H.e) (dT H.e) dd<|dd+1) (j:=6) (o:=.f<|bD<|dT H.e) rfl rfl λi m=>by
  show ai (ai (ai X.w 5 _) 6 _) 2 _ i=ai (ai X.w 5 _) 2 _ i
  unfold ai
  simp only[ap m]
 refine co<|aJ K (e:=.p 0) rfl ⟨bl,nu,?_⟩
 refine BP K (δ:=V×V×V×V) (λw g w t=>[.f<|.e 18,.f<|.f dd,.f<|.f<|dd+1,.e (g.length:Nat),t.1,t.2.1,t.2.2.1,t.2.2.2]) (λA g d=>((X.q A H.h y).t (g++d) d dd<|dd+1).e) (λA g d w=>Inv A d/\g.length+p A d<=M) (λA w d=>p A d) B [] (dT H.e) (.q,.q,.q,.q) ⟨_,_,_,D3⟩ ⟨i1,by rw[Ob,j9];exact i2⟩ λA g d t z m R r=>?_
 refine cj m λm bE=>eQ (dg A d m) λks nd N=>?_
 have bH:d.length<60:=by
  have:=nF nd λy hy=>fz.mpr (N y hy).1
  rw[f9]at this
  exact aL this hN
 have bI:g.length<2^19:=aL (ay (bB ..) bE) hM
 refine(aC (decide<|(g.length:Int)<(g++d).length) ?_ ?_)
 ·exact TX rfl<|fD (e:=.e 1) (r:=.f dd) (l:=aH<|g++d) rfl (zo (X:=X.q A H.h y) z.g) (by rw[bK,bm];exact bj (Oy bI bH) bl) (by rw[bK])
 cases d with
 |nil=>
  rw[ap λh=>dE _ (by have:=hH.mp<|cR h;rw[hK]at this;exact this)]
  refine aB (IK.a' (X:=X.q A H.h y) z.g h5 h6) λW D5 e5=>bN ?_
  have hq:=q A y ⟨W,_,_,D5⟩ m
  have e6:sk H (X.q A H.h y) W z.d=z.e:=by
   show Sg (_::(c9 H W++_)) _=_
   rw[e5];rfl
  exact e6▸hq
 |cons c d=>
  rw[aq<|bQ<|hH.mpr<|by rw[bm,iu];exact kU<|mJ _]
  have dY:=gD.mp nd
  have ac:=N c bk
  refine aB (cJ c ac.2) λl ag eH=>aB (cM c ac.2) λD an eL=>?_
  have st:=gE A c d
  have bL:∀{k},k<p A (c::d)->(g++[c]).length+k<=M:=λ{k}h=>by rw[bm];exact ay (by rw[fA];exact cy (by rw[hY];exact h) _) bE
  have el:(g++[c]).length=g.length+1:=bm
  refine YG K (X:=X.q A H.h y) z.g I hk hn ac (λx hx=>(N x<|bR _ hx).1) dY.1 (kW bH) bI ks ag eH an eL (λvs au hF z a b e=>?_) λvs F v au eT hF ne z a b e=>?_
  ·have s:=(st vs D l D m ag an au λx=>Iff.rfl).1 hF
   rw[<-el]
   exact r A (g++[c]) d (.e c,a,b,e) z ⟨s.1,bL s.2⟩ s.2
  ·have s:=(st vs F l D m ag an au eT).2 v hF ne
   rw[<-el]
   exact r _ (g++[c]) _ (.e c,a,b,e) z ⟨s.1,bL s.2⟩ s.2
end
section
variable{Y:be->Nat}{Q:V->St->Prop}
noncomputable def gu(a:List Int)(k:Nat):ah->Option V:=λx=>if x="cells"then aa (.y<|a.map .e)else if x="k"then aa (.e k)else ae
def aaA(b:List Int)(k:Nat):cD (gu b k) "k" (aa<|.e (k+1:Nat))=gu b (k+1):=by
 funext x;delta cD gu;by_cases h:x="k";·rw[aq h,ap<|by rw[h];decide,aq h]
 ·rw[ap h];by_cases a:x="cells";·rw[aq a,aq a]
  ·rw[ap a,ap a,ap h,ap h]
def aay(c:List Int)(k:Nat):eW (gu c k):=⟨["cells","k"],by rw[bX];decide,λx a=>by
 unfold gu at a;by_cases h:x="cells";·rw[h];exact bk
 ·rw[ap h]at a;by_cases b:x="k";·rw[b];exact bR _ bk
  ·exact aD (ap b) a⟩
def aaz(a:List Int)(k:Nat):gu a k "k"=aa (.e k):=by unfold gu;rw[ap<|by decide,aq rfl]
def MS(a:List Int)(k:Nat):gu a k "cells"=aa (.y<|a.map .e):=by unfold gu;rw[aq rfl]
def ym(b:ev P m σ e=aa (.f r))(a:aT σ r=aa (.h f))(c:f x=aa v):ev P m σ (.q e<|.y x)=aa v:=by show(ev P m σ e).bind (λo=>(aa<|V.p x).bind λk=>if i3 σ o then gJ σ o k else ae)=_;rw[b];exact(aq<|YO a).trans<|(UA a).trans c
abbrev bh.e(W:bh)(a:List Int)(k:Nat):bh:={W with q:=aa (.h<|gu a k)}
def Tw(K:aG P)(C:W.q=aa (.h<|gu g k))(p:g.length<1000)(l:k<2^20)(j:0<i)(q:∀v:Nat,v<i->Q (.e v) (sg H (W.e g<|k+1) Y d)):aZ (cx P) (n+1) (.ref<|P.e 52) [.f<|.e 0,.e i] (sg H W Y d) Q:=by
 have s:∀x:Int,Q (.e<|x%i) (sg H (W.e g<|k+1) Y d):=λx=>by
  have t:(0:Int)<i:=by exact(oJ.mpr j)
  have w:=Eh x<|Em t;have D:=Eg x t;have:=q (x%i).toNat<|(sS w).mpr D;rwa [uR w]at this
 have y:aT (sg H W Y d) (.e 0)=aa (.h<|gu g k):=by show((aa W.q).join.map aa).join=_;rw[C];rfl
 have z:aT (sg H (W.e g<|k+1) Y d) (.e 0)=aa (.h<|gu g<|k+1):=rfl;have A:∀m:List V,m[0]? =aa (.f<|.e 0)->ev P m (sg H (W.e g<|k+1) Y d) (.f 3<|.e (.q (.e 0)<|.y "cells") .f)=aa (.e g.length):=λm j=>by refine tJ (ym (e:=.e 0) (by show(m[0]?).bind c8=_;rw[j];rfl) z<|MS g<|k+1) ?_;show rZ (g.map V.e)=_;delta rZ;rw[bq,aq<|by exact(aR p bl)]
 refine K.e 52 rfl rfl<|BQ K (v:=.e k) (ym rfl y<|aaz g k) (show 2<3 by decide) rfl ?_;refine co<|aJ K (e:=.J .e (.e 2)<|.p 1) (v:=.e (k+1:Nat)) rfl<|vw K (r:=.e 0) (f:=gu g k) (x:="k") rfl rfl y (aay g k) ?_;rw[aaA,show bi (sg H W Y d) (.e 0) (.h<|gu g<|k+1)=sg H (W.e g<|k+1) Y d from by rw[pz<|by simp];rfl];refine rA K (c:=decide<|(k:Int)<g.length) ?_ (λh=>?_) λh=>?_;·show(aa<|V.e k).bind (λu=>(ev P _ _<|.f 3<|.e (.q (.e 0)<|.y "cells") .f).bind λv=>nS .t u v)=_;rw[A _ rfl];rfl
 ·have F:k<g.length:=by have:=cR h;exact(hH.mp this)
  refine eO K (v:=.e<|g[k]%i) ?_<|s _;refine ig (e:=.q (.q (.e 0)<|.y "cells")<|.e 2) (u:=.e g[k]) (v:=.e i) ?_ rfl<|m6 (by exact(oJ.mpr j));show(ev P _ _<|.q (.e 0)<|.y "cells").bind _=_;rw[ym (e:=.e 0) rfl z<|MS g<|k+1];show(if decide ((g.map V.e).length<2^62)=true then(if 0<=(k:Int)then(g.map V.e)[k]? else ae)else ae)=_;rw[aq<|bQ<|by rw[bq];exact(aR p bl),aq<|ip k,fT,fg F];rfl
 ·refine bN<|eO K (v:=.e<|(((3*k*k+8*k+2*g.length:Nat):Int)%67)%i) ?_<|s _;have o:∀a b:Nat,a<2^62->b<2^62->rK .g (.e a) (.e b)=aa (.e ((a*b:Nat):Int)):=λa b G I=>by
   refine(aq ⟨?_,?_⟩).trans ?_;·rw[Int.natCast_mul]
   ·rw[NF];exact(aR G bl)
   ·rw[NF];exact(aR I bl)
  have B:∀a b:Nat,rK .e (.e a) (.e b)=aa (.e ((a+b:Nat):Int)):=λa b=>by show aa (V.e<|(a:Int)+b)=_;rw[wL]
  have J:3*k<2^62:=by exact(aL (u8 (bb _)<|bu l) bl)
  refine ig (ig (ig (ig (ig (ig (e:=.p 3) (f:=.e 2) (u:=.e (3:Nat)) (v:=.e k) rfl rfl<|o 3 k bl<|by exact(aR l bl)) rfl<|o (3*k) k J<|by exact(aR l bl)) (ig (e:=.p 8) (f:=.e 2) (u:=.e (8:Nat)) (v:=.e k) rfl rfl<|o 8 k bl<|by exact(aR l bl))<|B _ _) (ig (e:=.p 2) (u:=.e (2:Nat)) rfl (A _ rfl)<|o 2 g.length bl<|by exact(aR p bl))<|B _ _) (f:=.p 67) (v:=.e 67) rfl<|m6 (nn:=67)<|by decide) (f:=.e 1) (v:=.e i) rfl<|m6 (by exact(oJ.mpr j))
end
section
variable{P:bn}{n:Nat}{Q:V->St->Prop}{σ:St}
def VL(K:aG P)(r:Gd d a)(s:Gd d b)(q:Q (bz<|eJ d a b) σ):aZ (cx P) (n+1) (.ref<|P.e 55) [.e d,bz a,bz b] σ Q:=by
 have g:=ku a;have o:=ku b;unfold eJ at q;refine K.e 55 rfl rfl<|fm<|nz<|nr K (a:=a) g ⟨_,rfl,?_⟩;by_cases h:a=ae
 ·rw[bQ h];refine⟨true,rfl,?_⟩;rw[aq rfl];refine dy<|iI<|nr K (a:=a) g ⟨_,rfl,?_⟩;rw[bQ h,aq rfl];have e:(if d=0 then ls a b else mi a b)=b:=by subst h;delta ls mi;split<;>simp
  rw[e]at q;exact aJ K (e:=.e 2) o q
 ·rw[dz h,ap<|by decide];refine nr K (a:=b) o ⟨_,rfl,?_⟩;refine qv (λl=>?_) λl=>?_
  ·refine dy<|iI<|nr K (a:=a) g ⟨_,rfl,?_⟩;rw[dz h,ap<|by decide];have e:(if d=0 then ls a b else mi a b)=a:=by subst l;delta ls mi;split<;>simp[h]
   rw[e]at q;exact aJ K (e:=.e 1) g q
  ·refine bN<|rA K (c:=decide<|(0:Int)<d) rfl (λf=>?_) λf=>?_;·have f:=cR f;have k:d≠0:=iJ<|oJ.mp f;refine aB ((r.2 k).resolve_left h) λi p t=>?_;subst p;refine aB ((s.2 k).resolve_left l) λj p t=>?_;subst p;rw[ap k]at q;exact dy<|uG K K.G.L rfl (vs:=[.e i,.e j]) rfl<|Im q
   ·have f:=sj f;have k:d=0:=E2 λh=>f<|oJ.mpr h;rw[aq k]at q;refine bN<|dy<|iI<|gz K (u:=bz a) (v:=bz b) g o ⟨_,_,nh a,nh b,_,by rw[rQ],?_⟩;unfold ls at q;refine qv (λm=>?_) λm=>?_;·rw[aq<|.inr m,<-m]at q;exact aJ K (e:=.e 1) g q
    ·rw[ap λe=>e.elim h m,ap l]at q;exact aJ K (e:=.y "clash") rfl q
def sq(d:List (Option Vl)):iL (fu d) (.list<|d.map gt):=by
 refine eQ (Db d) λa b c=>(kz ?_ ?_ ?_);·show(lG<|d.map bz).map Gc=_;rw[a];rfl
 ·unfold Ga;exact b
 ·unfold tg;exact(ay (dr c _) bl)
def TU(a:List (Option Vl)):dI (.list<|a.map gt) (.list [])=decide (a=[]):=by cases a with|nil=>exact IT|cons v a=>delta dI pP;rfl
def Cj{m:List V}{vs:List (Option Vl)}{i:Nat}{v:V}(a:m[3]? =aa (fu vs))(b:vs.length<10)(c:(vs.map bz)[i]? =aa v):ev P m σ (.q (.e 3)<|.p i)=aa v:=by show(((m[3]?).bind c8).bind λo=>(aa<|V.e i).bind λk=>if i3 σ o then gJ σ o k else ae)=_;rw[a];show(if decide ((vs.map bz).length<2^62)=true then(if 0<=(i:Int)then(vs.map bz)[i]? else ae)else ae)=_;rw[aq<|bQ<|by rw[bq];exact(aR b bl),aq<|ip i,c]
def VN(K:aG P){kind:Nat}{nn:Int}{x:ah}{vs:List (Option Vl)}(hn:0<nn)(hk3:kind<3)(hx:kY x vs)(hs:∀v∈vs,Gd kind v)(q:Q (bz (fR kind nn x vs)) σ):
  aZ (cx P) (n+1) (.ref (P.e 54)) [.e kind,.e nn,.p x,fu vs] σ Q:=by
 have h2:vs.length<=2:=by
  rcases hx with⟨rfl,_⟩|⟨a,rfl,_⟩|⟨a,b,rfl,_⟩
  ·exact bl
  ·exact bl
  ·exact bl
 unfold fR at q
 refine K.e 54 rfl rfl (rA K (c:=decide ((0:Int)<kind)) rfl (λhk=>?_) λhk=>?_)
 ·have hk:=cR hk
  have hk0:kind≠0:=iJ (oJ.mp hk)
  rw[ap hk0]at q
  have hs':∀v∈vs,Nm v:=λv hv=>(hs v hv).2 hk0
  refine dy (iI (sL K (vs:=vs) rfl (aC _ rfl ?_)))
  unfold si sh at q
  by_cases h:ae∈vs
  ·rw[bQ h,aq rfl]
   rw[aq h,aq h]at q
   have:(if kind=1 then(ae:Option Vl)else ae)=ae:=by split<;>rfl
   rw[this]at q
   exact aJ K (e:=.L) rfl q
  ·rw[dz h]
   rw[ap h,ap h]at q
   have hb:∀w∈vs.map nv,0<=w/\w<2^40:=λw hw=>by
    refine aB (cq.mp hw) λv hv hz2=>?_;subst hz2
    rcases hs' v hv with rfl|⟨i,rfl,h1,h2⟩
    ·exact aD hv h
    ·exact⟨h1,h2⟩
   refine kM K (u:=.e 1) rfl (iI (aJ K (e:=.t .e (.e 0) (.p 1)) (v:=.g (decide ((kind:Int)=1))) rfl (aC _ rfl ?_)))
   by_cases h1:kind=1
   ·rw[bQ (show(kind:Int)=1 from ci h1)]
    rw[aq h1]at q
    exact dW K K.G.F rfl (aJ K (e:=.e 3) (v:=fu vs) rfl (Cb (is:=vs.map nv) (aQ aa (zM h hs')) (by rw[bq];exact h2) hb (.inl (aC _ rfl q))))
   ·rw[dz (show¬((kind:Int)=1)from cn h1)]
    rw[ap h1]at q
    refine cj (Kz (vs.map nv) λw hw=>(hb w hw).1) λm1 m2=>dW K K.G.t rfl (kM K (u:=fu vs) rfl (ky K.G (es:=.e (.p 0) .f) (vs:=[.e 0]) (Q:=λvs' σ=>iK vs' σ _) rfl (.inl (.inr (yB (vs.map bz) ([.e 0]) rfl rfl rfl ?_ (.inl (B9 (is:=vs.map nv++[0]) ?_ m1 m2 (.inl (aC _ rfl q)))))))))
    ·rw[bq,bX];show vs.length+1<=_;exact(ay (dr h2 _) bl)
    ·rw[zM h hs',ja];rfl
 ·have hk:=sj hk
  have hk0:kind=0:=E2 λh=>hk (oJ.mpr h)
  rw[aq hk0]at q
  have hs':∀v∈vs,rC v:=λv hv=>(hs v hv).1 hk0
  refine bN (fm (pD K (u:=fu vs) rfl (ky K.G (es:=.f) (vs:=[]) (Q:=λvs' σ=>iK vs' σ _) rfl (.inl ⟨_,_,sq vs,uc,_,by rw[TU],?_⟩))))
  rcases hx with⟨rfl,ho⟩|⟨a,rfl,hx⟩|⟨a,b,rfl,hx⟩
  ·rw[bQ rfl]
   have q':Q (bz ((gU x).map λi=>.e (i%nn))) σ:=q
   have hok:dm x=true:=by
    exact(we ho).1.1.1.1.1
   have hlen:x.length<=640:=by
    exact(we ho).1.1.1.2
   by_cases hxx:x="x"
   ·have hl:gU x=ae:=by unfold gU;rw[aq hxx]
    rw[hl]at q'
    refine dy (iI (iQ K (x:=x) (a:=.e 2) rfl hok (by decide+kernel) (b:=true) (by rw[hxx];decide+kernel) ⟨true,rfl,?_⟩))
    rw[aq rfl];exact aJ K (e:=.L) rfl q'
   ·have hl:gU x=vh x:=by unfold gU;rw[ap hxx]
    refine dy (iI (iQ K (x:=x) (a:=.e 2) rfl hok (by decide+kernel) (b:=false) (lp.mpr hxx) ⟨false,rfl,?_⟩))
    cases hi:vh x with
    |none=>
     exfalso
     rw[hl,hi]at ho
     exact hxx (bO (we ho).2)
    |some i=>
     rw[hl,hi]at q'
     exact oC (dW K K.G.q rfl (aJ K (e:=.e 2) (v:=.p x) rfl (Ik hi hlen (aJ K (e:=.e 1) (v:=.e nn) rfl (.inl (aC _ (m6 hn) q'))))))
  ·have q':Q (bz (if x="neg"then v3 nn a else ae)) σ:=q
   rw[dz (λe=>nomatch e),ap (by decide)]
   refine bN (fm (nz (sL K (vs:=[a]) rfl (aC _ rfl ?_))))
   by_cases h:ae∈[a]
   ·have ha:a=ae:=(cP.mp h).symm
    subst ha
    rw[bQ h]
    refine⟨true,rfl,?_⟩
    have e:(if x="neg"then v3 nn ae else ae)=ae:=by split<;>rfl
    rw[e]at q'
    exact eO K (e:=.L) rfl q'
   ·rw[dz h]
    rcases hx with rfl|rfl
    ·rw[aq rfl]at q'
     refine iQ K (x:="neg") (a:=.e 2) rfl (by decide+kernel) (by decide+kernel) (b:=false) (by decide+kernel) ⟨false,rfl,?_⟩
     rw[ap (by decide)]
     refine bN (fm (zZ K (vs:=[a]) rfl (aC _ rfl ?_)))
     cases a with
     |none=>exact aD bk h
     |some v=>cases v with
      |f=>
       rw[bQ bk,aq rfl]
       exact eO K (e:=.y "clash") rfl q'
      |e i=>
       rw[dz (by simp),ap (by decide)]
       refine bN (fm (iQ K (x:="neg") (a:=.e 2) rfl (by decide+kernel) (by decide+kernel) (b:=true) (by decide+kernel) ⟨true,rfl,?_⟩))
       have e:(nn-i)%nn= -i%nn:=by rw[Int.sub_eq_add_neg,Int.add_emod_left]
       have q2:Q (.e (-i%nn)) σ:=q'
       rw[<-e]at q2
       exact eO K (ig (ig (e:=.e 1) (u:=.e nn) (x:=.e (nn-i)) rfl (Cj (i:=0) (vs:=[aa (.e i)]) rfl bl rfl) rfl) (f:=.e 1) (v:=.e nn) rfl (m6 hn)) q2
    ·rw[ap (by decide)]at q'
     refine iQ K (x:="f") (a:=.e 2) rfl (by decide+kernel) (by decide+kernel) (b:=true) (by decide+kernel) ⟨true,rfl,?_⟩
     exact eO K (e:=.L) rfl q'
  ·have q':Q (bz (jg nn x a b)) σ:=q
   have hok:dm x=true:=by rcases hx with rfl|rfl<;>decide+kernel
   rw[dz (λe=>nomatch e),ap (by decide)]
   refine bN (fm (nz (sL K (vs:=[a,b]) rfl (aC _ rfl ?_))))
   by_cases h:ae∈[a,b]
   ·have e:jg nn x a b=ae:=by
     rcases cB.mp h with h|h
     ·subst h;unfold jg;rfl
     ·have:=cP.mp h;subst this;unfold jg;cases a<;>rfl
    rw[bQ h]
    refine⟨true,rfl,?_⟩
    rw[e]at q'
    exact eO K (e:=.L) rfl q'
   ·rw[dz h,ap (by decide)]
    refine iQ K (x:=x) (a:=.e 2) rfl hok (by decide+kernel) (b:=false) (by rcases hx with rfl|rfl<;>decide+kernel) ⟨false,rfl,?_⟩
    rw[ap (by decide)]
    refine bN (fm (zZ K (vs:=[a,b]) rfl (aC _ rfl ?_)))
    cases a with
    |none=>exact aD bk h
    |some a=>cases b with
     |none=>exact aD (bR _ bk) h
     |some b=>
      by_cases hc:aa Vl.f∈[aa a,aa b]
      ·have e:jg nn x (aa a) (aa b)=aa .f:=by
        cases a with
        |f=>cases b<;>rfl
        |e i=>cases b with
         |f=>rfl
         |e j=>simp at hc
       rw[bQ hc,aq rfl]
       rw[e]at q'
       exact eO K (e:=.y "clash") rfl q'
      ·rw[dz hc,ap (by decide)]
       cases a with
       |f=>exact aD bk hc
       |e i=>cases b with
        |f=>exact aD (bR _ bk) hc
        |e j=>
         have hi:i.natAbs<2^60:=hs' _ bk
         have hj:j.natAbs<2^60:=hs' _ (bR _ bk)
         have v0:∀m:List V,m[3]? =aa (fu [aa (.e i),aa (.e j)])->ev P m σ (.q (.e 3) (.p 0))=aa (.e i):=λm hm=>Cj (i:=0) hm bl rfl
         have v1:∀m:List V,m[3]? =aa (fu [aa (.e i),aa (.e j)])->ev P m σ (.q (.e 3) (.p 1))=aa (.e j):=λm hm=>Cj (i:=1) hm bl rfl
         refine bN (fm (iQ K (x:=x) (a:=.e 2) rfl hok (by decide+kernel) (b:=false) (by rcases hx with rfl|rfl<;>decide+kernel) ⟨false,rfl,?_⟩))
         rw[ap (by decide)]
         refine bN (dy (oC (iI ?_)))
         rcases hx with rfl|rfl
         ·refine iQ K (x:="add") (a:=.e 2) rfl hok (by decide+kernel) (b:=true) (by decide+kernel) ⟨true,rfl,?_⟩
          exact aJ K (ig (v0 _ rfl) (v1 _ rfl) rfl) (aJ K (e:=.e 1) (v:=.e nn) rfl (.inl ⟨_,m6 hn,q'⟩))
         ·refine iQ K (x:="mul") (a:=.e 2) rfl hok (by decide+kernel) (b:=false) (by decide+kernel) ⟨false,rfl,?_⟩
          exact aJ K (ig (v0 _ rfl) (v1 _ rfl) (aq ⟨bj hi bl,bj hj bl⟩)) (aJ K (e:=.e 1) (v:=.e nn) rfl (.inl ⟨_,m6 hn,q'⟩))
end
section
variable{rl:be->Nat}{Q:V->St->Prop}
noncomputable def dG(a:List Nat)(k:Nd):Nd:=(k.1,k.2.map λi=>a.getD i 0)
def ji(b:List Nat):List Nd->Nat->(Nd->Option Nat)->List (Nat×Nat)->(Nd->Option Nat)×List (Nat×Nat)|[],_,a,c=>(a,c)|k::d,i,a,c=>(a<|dG b k).elim (ji b d (i+1) (ai a (dG b k)<|aa i)<|c++[(i,i)]) λv=>ji b d (i+1) a<|c++[(v,i)]
def tL(h:b (dG a k)=o):ji a (k::c) i b d=o.elim (ji a c (i+1) (ai b (dG a k)<|aa i)<|d++[(i,i)]) λv=>ji a c (i+1) b (d++[(v,i)]):=aQ (λo=>AO o _ _) h
noncomputable def qM(a:List Nat)(b c:Nat):List Nat:=a.map λx=>if x=c then b else x
noncomputable abbrev KW.L(X:KW)(a:Nd->Option Nat)(b:List (Nat×Nat))(zf c:Nat):KW:=(X.U<|ai (ai X.w 5<|aa<|.p<|kV a) 6<|aa<|.e<|b.map mV).J<|ai (ai X.r 5 zf) 6 c
def Jk(D:IK H (X.L a c b e) rl Y d):aT (sk H X rl d) (.f b)=aa (.p<|kV a):=by have:=DP.q D (f:=X.e.q::(c9 H rl++X.e.f)) (t:=.w 5) (o:=.p<|kV a) rfl;rw[D.e 5]at this;rw[show(X.L a c b e).e.r 5=b from rfl]at this;exact this
def zQ(D:IK H (X.L c a e b) rl Y d):aT (sk H X rl d) (.f b)=aa (.e<|a.map mV):=by have:=DP.q D (f:=X.e.q::(c9 H rl++X.e.f)) (t:=.w 6) (o:=.e<|a.map mV) rfl;rw[D.e 6]at this;rw[show(X.L c a e b).e.r 6=b from rfl]at this;exact this
def IK.b1{X:KW}{fs fs':Nd->Option Nat}(D:IK H (X.L fs b a c) rl Y d):IK H (X.L fs' b a c) rl Y (ai d a<|aa<|aa<|.p<|kV fs'):=by
 have:=IK.L D (X':=X.L fs' b a c) (j:=5) (o:=.p<|kV fs) (o':=.p<|kV fs') rfl rfl rfl λi e=>by show ai (ai (ai X.w 5 _) 6 _) 2 _ i=ai (ai (ai X.w 5 _) 6 _) 2 _ i;unfold ai;simp only[ap e]
 exact this
def IK.a2{X:KW}{ws ws':List (Nat×Nat)}(D:IK H (X.L b ws c a) rl Y d):IK H (X.L b ws' c a) rl Y (ai d a<|aa<|aa<|.e<|ws'.map mV):=by
 have:=IK.L D (X':=X.L b ws' c a) (j:=6) (o:=.e<|ws.map mV) (o':=.e<|ws'.map mV) rfl rfl rfl λi e=>by show ai (ai (ai X.w 5 _) 6 _) 2 _ i=ai (ai (ai X.w 5 _) 6 _) 2 _ i;unfold ai;simp only[ap e]
 exact this
def cI(a:List Nd):O:=.e<|a.map bp
def Ue(K:aG P){X:KW}{p:List Nd}{c:List Nat}{zf y:Nat}{a1:V}{op:V}{e8 e9 av aK:V}(hX:X.w 3=aa (cI p))(hn:c.length=p.length)(hN:p.length<60)(dv:l6 p){d0:cU}(dw:d0 (X.r 3)=aa (aa<|cI p)){Q:Fl->List V->St->Prop}:∀(o:List Nd)(i:Nat)(j:Nd->Option Nat)(h:List (Nat×Nat))(d:cU)(B C:V)(L:List Nd),(∀k∈o,k.2.length<=2/\∀x∈k.2,x<c.length)->L.length<=i->(∀k,j k≠ae->k∈L)->i+o.length<=60->h.length<2^19+i->IK H (X.L j h zf y) rl Y d->
  (∀t cJ cM,IK H (X.L (ji c o i j h).1 (ji c o i j h).2 zf y) rl Y t->Q .e [.f<|.f<|X.r 3,a1,.y<|aH c,op,.f<|.f zf,.f<|.f y,cJ,cM,e8,e9,av,aK] (sk H X rl t))->
  eG (λx m σ k=>∃u v,(x=.h [u,v])/\6<m.length/\7<m.length/\u≠.q/\v≠.q/\aP (cx P) n (.e (.f<|.g 0 (.e 5)<|.e (.F<|.e (.g 5 (.e 4)<|.e (.J .e (.j (.e 7)<|.p 1)<|.f 5<|.e (.T (.q (.e 2)<|.e 12)<|.a (.e 7)<|.p 1) .f)<|.e (.e 6) .f)<|.e (.e 6) .f) .f) .f) ((m.set 6 u).set 7 v) σ k) (λcQ=>cQ (.f<|X.r 3)=aa (aa<|cI p))
   ((o.map bp).zipIdx i|>.map λx=>.h [.e x.2,x.1]) [.f<|.f<|X.r 3,a1,.y<|aH c,op,.f<|.f zf,.f<|.f y,B,C,e8,e9,av,aK] (sk H X rl d) Q:=by
 intro l_
 induction l_ with
 |nil=>
  intro i j h d B C L G I J z M D q
  exact q d B C D
 |cons k o aS=>
  intro i j h d B C L G I J z M D q
  refine cj (G k bk) λU dc=>?_
  have dg:sT j:=(aC L (by exact(aL (ay (ay I<|bB ..) z) bl)) J)
  have kl:(f5 k).length<=3:=by unfold f5;rw[iu,bK];exact(ay (dr U _) bl)
  have aW:(dG c k).2.length<=2:=by show(k.2.map _).length<=2;rw[bq];exact U
  have he:∀(V1:Nat),sk H X rl d=sk H X rl d:=λx_=>rfl
  have st:∀{N:KW}{bw bC t},IK H N bw bC t->N.e.w 3=X.e.w 3->N.r 3=X.r 3->t (X.r 3)=aa (aa<|cI p):=λ{N bw bC t}D' h1 h2=>by
   have:=(D'.f (.w 3) (cI p)<|h1.trans<|(aI (f:=X.w) (a:=2) (x:=3) (b:=aa<|.f<|vD X.f)<|by decide).trans hX).1
   rw[D'.e 3]at this
   rw[<-h2];exact this
  refine(vR (.e i) (bp k) rfl bl bl (nu) (nu)<|d9<|oF K (r:=.f y) (l:=h.map mV) rfl (zQ D) F.slot_list_append rfl<|oz<|j7 ?_)
  refine aJ (n:=n) K (e:=.e 4) (v:=.f<|.f zf) (R:=λov σ=>∃f,MethAt (cx P) σ ov ((cx P).g 5) f/\aF (cx P) n (.J .e (.j (.e 7)<|.p 1)<|.f 5<|.e (.T (.q (.e 2)<|.e 12)<|.a (.e 7)<|.p 1) .f) _ σ λv σ=>aF (cx P) n (.e 6) _ σ λu σ=>aZ (cx P) n f [ov,v,u] σ _) rfl
   (aC _ (vX (Jk D) rfl F.slot_dict_setdefault rfl)<|oC<|wH K (u:=bp k) (v:=.e 1) rfl rfl<|U4 1 rfl (by decide) (by decide) (fy _) (eM<|da _) ?_ ?_)
  ·exact aL kl bl
  refine dW K K.G.p rfl<|kO<|qQ K (u:=bp k) (v:=.e 1) rfl rfl ⟨1,rfl,by decide,by decide,fy _,eM<|da _,aL kl bl,aH k.2,rfl,?_,qf (g:=λx=>.e<|c.getD x 0) (λx hx s q=>?_) ?_⟩
  ·rw[bK,bX];exact(ay U bl)
  ·refine aJ K (e:=.q (.e 2)<|.e 12) (v:=.e<|c.getD x 0) ?_ q
   show(if decide ((aH c).length<2^62)=true then itemAt (aH c) (x:Int)else ae)=_
   rw[aq<|bQ<|by rw[bK,hn];exact(aR hN bl),tQ<|gS 0<|dc x hx]
  have e4:k.2.map (λ(x:Nat)=>V.e (c.getD x 0:Nat))=aH (dG c k).2:=by delta aH dG;rw[fh];rfl
  rw[e4]
  refine vE (l:=aH (dG c k).2) rfl (by rw[bK,bX];exact(ay aW bl))<|.inl<|aC (bp<|dG c k) (aq<|by show 1+(aH _).length<=1000;rw[bK];exact(ay (cy aW _) bl))<|aJ K (e:=.e 6) (v:=.e i) rfl<|Ip K.O (m:=kV j) (k:=gh<|dG c k) (Jk D) (CK _) (yp dg) ?_
  rw[pb]
  have wl:(h.map mV).length<=cN:=by rw[bq,bX];exact ay (bu M)<|ay (cy (ay (bB ..) z) _) bl
  cases bI:j (dG c k)with
  |some v=>
   have W:ji c (k::o) i j h=ji c o (i+1) j (h++[(v,i)]):=tL bI
   rw[W]at q
   refine aJ K (e:=.e 6) (v:=.e i) rfl<|o9 (l:=h.map mV) (zQ D) wl ?_
   rw[show(h.map mV)++[V.h [.e (v:Nat),.e (i:Nat)]]=(h++[(v,i)]).map mV by rw[ja];rfl,jO]
   have A:=IK.a2 D (ws':=h++[(v,i)])
   exact⟨st A rfl rfl,aS (i+1) j _ _ _ _ L (λs w=>G s<|bR _ w) (by exact(bu<|aL I<|bY _)) J (dd z).1 (by rw[bm];exact jS M) A q⟩
  |none=>
   have W:ji c (k::o) i j h=ji c o (i+1) (ai j (dG c k)<|aa i) (h++[(i,i)]):=tL bI
   rw[W]at q
   apply aJ K (e:=.e 6) (v:=.e i) rfl
   rw[CG,jO]
   have D1:=IK.b1 D (fs':=ai j (dG c k)<|aa i)
   apply o9 (l:=h.map mV) (zQ D1) wl
   rw[show(h.map mV)++[V.h [.e (i:Nat),.e (i:Nat)]]=(h++[(i,i)]).map mV by rw[ja];rfl,jO]
   have A:=IK.a2 D1 (ws':=h++[(i,i)])
   refine⟨st A rfl rfl,aS (i+1) _ _ _ _ _ (dG c k::L) (λs w=>G s<|bR _ w) (by rw[iu];exact(jA<|aL I<|bY _)) (λs w=>?_) (dd z).1 (by rw[bm];exact jS M) A q⟩
   by_cases e:s=dG c k
   ·rw[e];exact bk
   ·rw[aI e]at w;exact bR _<|J s w
end
section
variable{Y:be->Nat}{Q:V->St->Prop}
noncomputable def gZ:List (Nat×Nat)->List Nat->Bool->List Nat×Bool|[],c,d=>(c,d)|(a,b)::e,c,d=>if min (c.getD a 0) (c.getD b 0)=max (c.getD a 0) (c.getD b 0)then gZ e c d else gZ e (qM c (min (c.getD a 0)<|c.getD b 0)<|max (c.getD a 0)<|c.getD b 0) true
def MM(b:List (Nat×Nat)):∀a:List Nat,(gZ b a true).2=true:=by induction b with|nil=>exact λa=>rfl|cons p b d=>exact λa=>fO (motive:=λr:List Nat×Bool=>r.2=true) (λc=>d a) λc=>d _
def aao(b:List (Nat×Nat)):∀a:List Nat,(gZ b a false).2=false->(gZ b a false).1=a:=by induction b with|nil=>exact λa h=>rfl|cons p b d=>exact λa=>fO (motive:=λr:List Nat×Bool=>r.2=false->r.1=a) (λc=>d a) λc h=>nomatch (MM b _).symm.trans h
def gW(b:List Nd)(c:List (Nat×Nat))(a:List Nat):List Nat×Bool:=gZ (ji a b 0 (λd=>ae) c).2 a false
def Uf:∀(l:List Nd)(i:Nat)(b:Nd->Option Nat)(d:List (Nat×Nat)),i+l.length<=N->(∀k v,b k=aa v->v<N)->(∀p∈d,p.1<N/\p.2<N)->∀p∈(ji j l i b d).2,p.1<N/\p.2<N:=by intro q;induction q with
 |nil=>intro i b d _ _ f;exact f
 |cons k l n=>intro i b d c m f;cases h:b (dG j k)with
  |some v=>
   rw[tL h];refine n (i+1) b _ (dd c).1 m λp a=>?_;rcases fi.mp a with a|a;·exact f p a
   ·rw[cP.mp a];exact⟨m _ v h,(dd c).2⟩
  |none=>
   rw[tL h];refine n (i+1) _ _ (dd c).1 (λo v g=>?_) λp a=>?_
   ·by_cases e:o=dG j k;·rw[e,bg]at g;exact bo g▸(dd c).2
    ·rw[aI e]at g;exact m o v g
   ·rcases fi.mp a with a|a;·exact f p a
    ·rw[cP.mp a];exact⟨(dd c).2,(dd c).2⟩
theorem Dw(K:aG P){Q:Fl->List V->St->Prop}(o:N<60)(r:chk σ):∀(f:List (Nat×Nat))(d:List Nat)(i:Bool)(s t w y z A:V),d.length=N->(∀p∈f,p.1<N/\p.2<N)->(∀R U W ac,Q .e [G,H,.y<|aH (gZ f d i).1,.g (gZ f d i).2,I,J,s,t,R,U,W,ac] σ)->eG (λx m σ k=>∃u v,(x=.h [u,v])/\8<m.length/\9<m.length/\u≠.q/\v≠.q/\aP (cx P) n (.e (.p [(.e 10),(.e 11)]<|.f 1<|.e (.N<|.e (.q (.e 2)<|.e 8)<|.e (.q (.e 2)<|.e 9) .f) .f)<|.e (.g (.t .f (.e 10)<|.e 11) (.e (.p [(.e 2),(.e 3)]<|.F<|.e (.T (.Z (.t .e (.e 12)<|.e 11) (.e 10)<|.e 12)<|.e 2)<|.e (.U true) .f) .f) .f) .f) ((m.set 8 u).set 9 v) σ k) chk (f.map mV) [G,H,.y<|aH d,.g i,I,J,s,t,w,y,z,A] σ Q
 |[],d,i,s,t,w,y,z,A,j,B,q=>q w y z A
 |(a,b)::f,d,i,s,t,w,y,z,A,j,B,q=>by
  refine cj (B (a,b) bk) λha hb=>?_;have L:∀(x:Nat),x<N->(if decide ((aH d).length<2^62)=true then itemAt (aH d) (x:Int)else ae)=aa (.e (d.getD x 0:Nat)):=λx M=>by rw[aq<|bQ<|by rw[bK,j];exact(aR o bl),tQ<|gS 0<|by rw[j];exact M]
  refine(vR (.e a) (.e b) rfl bl bl (nu) (nu)<|gF<|bV _ K.G.g rfl<|ky K.G (es:=.e (.q (.e 2)<|.e 8)<|.e (.q (.e 2)<|.e 9) .f) (vs:=[.e (d.getD a 0:Nat),.e (d.getD b 0:Nat)]) (Q:=λvs σ=>iK vs σ _) ?_<|.inl<|B_ ⟨_,.inr rfl,rfl,bl,nu,bl,nu,?_⟩);·show j_ (if decide ((aH d).length<2^62)=true then itemAt (aH d) (a:Int)else ae) (λv=>dZ (λvs=>v::vs)<|j_ (if decide ((aH d).length<2^62)=true then itemAt (aH d) (b:Int)else ae) λv=>dZ (λvs=>v::vs)<|aa [])=_;rw[L a ha,L b hb];rfl
  refine rA K (c:=!decide (((min (d.getD a 0) (d.getD b 0):Nat):Int)=(max (d.getD a 0) (d.getD b 0):Nat))) rfl (λh=>?_) λh=>?_
  ·have ne:min (d.getD a 0) (d.getD b 0)≠max (d.getD a 0) (d.getD b 0):=λe=>by rw[e]at h;simp at h
   have D:gZ ((a,b)::f) d i=gZ f (qM d (min (d.getD a 0)<|d.getD b 0)<|max (d.getD a 0)<|d.getD b 0) true:=by show(if _ then _ else _)=_;rw[ap ne]
   rw[D]at q;generalize min (d.getD a 0) (d.getD b 0)=C at*;generalize max (d.getD a 0) (d.getD b 0)=l at*;refine gF<|j7<|DX K (u:=.y<|aH d) (xs:=aH d) rfl rfl (by rw[bK,j,bX];exact(bu<|aR o bl))<|qf (g:=λx=>.e<|(if x=l then C else x:Nat)) (λx M k q=>?_) ?_
   ·refine iI<|aJ K (e:=.t .e (.e 12)<|.e 11) (v:=.g<|decide<|(x:Int)=l) rfl ⟨_,rfl,?_⟩;by_cases e:x=l;·rw[bQ<|ci e,aq rfl];rw[aq e]at q;exact aJ K (e:=.e 10) rfl q
    ·rw[dz<|cn e,ap<|by decide];rw[ap e]at q;exact aJ K (e:=.e 12) rfl q
   have e2:d.map (λ(x:Nat)=>V.e<|(if x=l then C else x:Nat))=aH (qM d C l):=by delta aH qM;rw[fh];rfl
   rw[e2];exact aJ K (e:=.U true) rfl ⟨_,.inl rfl,rfl,bl,nu,bl,nu,(bN (P:=P) (n:=n)<|gr ⟨r,Dw K o r f (qM d C l) true _ _ _ _ _ _ (by rw[<-j];exact bq ..) (λp F=>B p<|bR _ F) q⟩)⟩
  ·have e:min (d.getD a 0) (d.getD b 0)=max (d.getD a 0) (d.getD b 0):=by
    have h':decide (((min (d.getD a 0) (d.getD b 0):Nat):Int)=(max (d.getD a 0) (d.getD b 0):Nat))=true:=by simpa using h
    exact g_<|cR h'
   have D:gZ ((a,b)::f) d i=gZ f d i:=by show(if _ then _ else _)=_;rw[aq e]
   rw[D]at q;exact bN (P:=P) (n:=n)<|gr ⟨r,Dw K o r f d i _ _ _ _ _ _ j (λp F=>B p<|bR _ F) q⟩
end
section
variable{W:be->Nat}{Q:V->St->Prop}
set_option tactic.hygienic true in
theorem IK.b0(D:IK H (X.L m n c f) W Y d)(g:X.w 5=ae)(h:X.w 6=ae):∃j,IK H X j Y d/\c9 H j=c9 H W:=by
 have p:DP (fc H X.e.w) (ai (ai X.e.r 5 c) 6 f) W Y d:=DP.y D λt o e=>by
  cases t<;>first|exact e|skip
  rename_i i;have a:ai X.w 2 (aa<|.f<|vD X.f) i=aa o:=e;show ai (ai (ai X.w 5 _) 6 _) 2 _ i=aa o;by_cases k:i=2;·subst k;exact a
  ·rw[aI k]at a⊢;have r:i≠6:=λq=>by rw[q,h]at a;cases a
   have s:i≠5:=λq=>by rw[q,g]at a;cases a
   rw[aI r,aI s];exact a
 have l:=DP.F p (show ai X.w 2 _ 6=ae from(aI (b:=aa<|.f<|vD X.f)<|by decide).trans h);rw[show ai X.e.r 5 c 6=X.r 6 from aI<|by decide]at l;exact(aC _ (DP.F l<|show ai X.w 2 _ 5=ae from(aI (b:=aa<|.f<|vD X.f)<|by decide).trans g) rfl)
def IK.Z(D:IK H X W Y d)(h:X.w j=aa o)(a:j≠2):d (X.r j)=aa (aa o)/\aT (sk H X W d) (.f<|X.r j)=aa o:=by have b:X.e.w j=aa o:=(aI a).trans h;have e:=(D.f (.w j) o b).1;rw[D.e j]at e;exact⟨e,by show(d<|X.r j).join=_;rw[show d (X.r j)=aa (aa o)from e];rfl⟩
def JL(h:aT σ r=aa (.e l))(a:σ r=x):nW σ (.f r)=aa (l,λb=>b r=x):=a▸CB h
noncomputable abbrev UW:Ss:=(.e (.p [(.e 3),(.e 4),(.e 5)]<|.F<|.e (.U false)<|.e (.d .t)<|.e (.f 4<|.e (.e 1) .f) .f)<|.e (.y 6 7 (.e 0)<|.e (.f<|.g 0 (.e 5)<|.e (.F<|.e (.g 5 (.e 4)<|.e (.J .e (.j (.e 7)<|.p 1)<|.f 5<|.e (.T (.q (.e 2)<|.e 12)<|.a (.e 7)<|.p 1) .f)<|.e (.e 6) .f)<|.e (.e 6) .f) .f) .f)<|.e (.L 8 9 (.e 5)<|.e (.p [(.e 10),(.e 11)]<|.f 1<|.e (.N<|.e (.q (.e 2)<|.e 8)<|.e (.q (.e 2)<|.e 9) .f) .f)<|.e (.g (.t .f (.e 10)<|.e 11) (.e (.p [(.e 2),(.e 3)]<|.F<|.e (.T (.Z (.t .e (.e 12)<|.e 11) (.e 10)<|.e 12)<|.e 2)<|.e (.U true) .f) .f) .f) .f) .f)
def UX(K:aG P)(u:IK H X W Y d)(w:X.w 3=aa (cI a))(L:X.w 4=aa (.e<|b.map mV))(M:X.w 5=ae)(N:X.w 6=ae)(l:a.length<60)(y:l6 a)(U:∀p∈b,p.1<a.length/\p.2<a.length)(A:b.length<2^19)(m:h.length=a.length){Q:Fl->List V->St->Prop}(r:∀(z:Z H X.e)(f:Nat->V),R [.f<|.f<|X.r 3,.f<|.f<|X.r 4,.y<|aH (gW a b h).1,.g (gW a b h).2,f 0,f 1,f 2,f 3,f 4,f 5,f 6,f 7] z.e):aP (cx P) n UW [.f<|.f<|X.r 3,.f<|.f<|X.r 4,.y<|aH h,.g true,z4,z5,B,C,z8,z9,av,aK] (sk H X W d) (LQ R Q):=by
 refine gF<|uH<|aJ K (e:=.U false) rfl<|oE (k:=.t) (r:=.f Y) (u.g _) ?_;rw[jO];have ek:(λc=>ae:List cT->Option V)=kV (λc=>ae):=by funext k;unfold kV;cases qg k<;>rfl
 rw[ek];have q:IK H ((X.U<|ai X.w 5<|aa<|.p<|kV λc=>ae).J<|ai X.r 5 Y) (ai W (.w 5) Y) (Y+1) _:=IK.J u (X':=(X.U<|ai X.w 5<|aa<|.p<|kV λc=>ae).J<|ai X.r 5 Y) (j:=5) (o:=.p<|kV λc=>ae) rfl rfl λi s=>by show ai (ai X.w 5 _) 2 _ i=ai X.w 2 _ i;unfold ai;simp only[ap s]
 have aU:fP (sg H X.e W<|ai d Y<|aa<|aa<|.p<|kV λc=>ae) (.f<|.f<|X.r 4)=aa (b.map mV):=pi (IK.Z q (j:=4) (o:=.e<|b.map mV) L<|by decide).2;refine dW K K.G.h rfl<|aJ K (e:=.e 1) (v:=.f<|.f<|X.r 4) rfl<|vC aU (by rw[bq,bX];exact(bu<|aR A bl))<|.inr ⟨.f<|Y+1,q.g _,_,.inl rfl,rfl,bl,nu,bl,nu,bl,nu,?_⟩;rw[jO];have D:IK H (X.L (λc=>ae) b Y<|Y+1) (ai (ai W (.w 5) Y) (.w 6)<|Y+1) (Y+2) _:=IK.J q (X':=X.L (λc=>ae) b Y<|Y+1) (j:=6) (o:=.e<|b.map mV) rfl rfl λi s=>by show ai (ai (ai X.w 5 _) 6 _) 2 _ i=ai (ai X.w 5 _) 2 _ i;unfold ai;simp only[ap s]
 refine cj (IK.Z D (j:=3) (o:=cI a) w<|by decide) λF l3=>?_;refine Hr<|aJ K (e:=.e 0) (v:=.f<|.f<|X.r 3) rfl<|cp _ _ (JL (x:=aa<|aa<|cI a) l3 F) (⟨_,rfl⟩) ?_;refine Ue K (rl:=ai (ai W (.w 5) Y) (.w 6)<|Y+1) w m l y F a 0 (λc=>ae) b _ B C [] (λk t=>?_) (bb _) (λk t=>aD rfl t) (by exact(ay (cy (bu l) _) bl)) (by exact A) D λd4 bw bC G=>?_;·refine aV (uX.mp t) λi g=>aV g λI e=>?_;have:=y i k<|e▸fg I;exact⟨this.1,λx hx=>by rw[m];exact bj (this.2 x hx) I⟩
 refine Hq<|aJ K (e:=.e 5) (v:=.f<|.f<|Y+1) rfl<|c_ _ _ (CB<|zQ G) ?_;refine Dw K l (chk:=λbF=>bF (.f<|Y+1)=_) rfl _ h false _ _ _ _ _ _ m (Uf a 0 (λc=>ae) b (by rw[j9];exact bb _) (λk v hv=>aY hv) U) λbI bL bT ca=>?_;refine aB (IK.b0 G M N) λJ D5 e5=>gr ?_;have e6:sk H X J d4=sk H X (ai (ai W (.w 5) Y) (.w 6)<|Y+1) d4:=by show Sg (_::(c9 H J++_)) _=Sg (_::(c9 H _++_)) _;rw[e5]
 exact e6▸r ⟨_,_,_,D5⟩ λi=>[V.f<|.f Y,V.f<|.f<|Y+1,bw,bC,bI,bL,bT,ca].getD i .t
def J0(K:aG P){X:KW}(z:Z H X.e)(s:X.w 3=aa (cI c))(t:X.w 4=aa (.e<|d.map mV))(u:X.w 5=ae)(v:X.w 6=ae)(j:c.length<60)(w:l6 c)(x:∀p∈d,p.1<c.length/\p.2<c.length)(y:d.length<2^19)(Inv:List Nat->Prop)(m:List Nat->Nat)(A:∀b,Inv b->b.length=c.length)(B:Inv (bM c.length))(gE:∀b,Inv b->Inv (gW c d b).1/\((gW c d b).2=true->m (gW c d b).1<m b))(q:∀b(z:Z H X.e),Inv b->(gW c d b).2=false->Q (.y<|aH b) z.e):aZ (cx P) (n+1) (.ref<|P.e 53) [.f<|.f<|X.r 3,.f<|.f<|X.r 4] z.e Q:=by refine K.f 53 rfl rfl<|gF<|j7<|dW K K.G.h rfl<|dW K K.G.e rfl<|aJ K (fD (e:=.e 0) (r:=.f<|X.r 3) (l:=c.map bp) rfl (IK.Z (X:=X) z.g s<|by decide).2 (by rw[bq];exact(aR j bl)) rfl) ?_;rw[bq];refine tC (sA (a:=0) bl<|by exact(aR j bl))<|SB (by rw[En,NN];exact ay (bu j) bl)<|.inl ?_;rw[su];refine aJ K (e:=.U true) rfl ⟨_,.inl rfl,rfl,bl,nu,bl,nu,?_⟩;refine BP K (γ:=Unit) (λb i _(f:Nat->V)=>[.f<|.f<|X.r 3,.f<|.f<|X.r 4,.y<|aH b,.g i,f 0,f 1,f 2,f 3,f 4,f 5,f 6,f 7]) (λg g g=>X.e) (λb i g g=>Inv b/\(i=false->(gW c d b).2=false)) (λb i g=>if i then m b+1 else 0) (bM c.length) true () (λg=>.q) z ⟨B,λh=>ff h.symm⟩ λb i g f z C R r=>cj C λk D=>aC i rfl ?_;cases i with|false=>exact j4 dR (eO K (e:=.e 2) rfl<|q b z k<|D rfl)|true=>refine kA rfl<|UX K (X:=X) z.g s t u v j w x y (A b k) λz f=>?_;refine cj (gE b k) λF G=>?_;have I:=aao (ji b c 0 (λg=>ae) d).2 b;cases o:(gW c d b).2 with|true=>exact r _ true () f z ⟨F,λh=>ff h.symm⟩ (jS<|G o)|false=>have J:(gW c d b).1=b:=I o;rw[J];exact r b false () f z ⟨k,λg=>o⟩<|mJ _
end
section
variable{Q:Fl->List V->St->Prop}
noncomputable abbrev bh.p(W:bh)(j:Nat)(o:O):bh:={W with w:=ai W.w j (aa o)}
def Z.q(z:Z H W)(h:W.w j=aa o):Lake.aT z.e (.f<|W.r j)=aa o:=by have:=DP.q z.g (f:=W.q::(c9 H z.f++W.f)) (t:=.w j) (o:=o) h;rw[z.g.e j]at this;exact this
set_option tactic.hygienic true in
theorem Z.t(z:Z H W)(j:Nat)(o:O):∃b:Z H (W.g j z.h o),bi z.e (.f z.h) o=b.e:=⟨⟨_,_,_,DP.a1 z.g (j:=j) (o':=o) (cont':=fc H<|ai W.w j<|aa o) λu p e=>by
 cases u<;>first|exact .inr ⟨(λq=>be.noConfusion q),e⟩|skip
 rename_i i;have a:ai W.w j (aa o) i=aa p:=e;by_cases h:i=j;·rw[h,bg]at a;exact .inl ⟨aQ be.w h,(bo a).symm⟩
 ·rw[aI h]at a;exact .inr ⟨(λq=>h<|be.w.inj q),a⟩⟩,i4⟩
set_option tactic.hygienic true in
theorem Z.y(z:Z H W)(o':O)(h:W.w j=aa o):∃b:Z H (W.p j o'),bi z.e (.f<|W.r j) o'=b.e:=by
 have D:=DP.N z.g (t:=.w j) (o':=o') (cont':=fc H<|ai W.w j<|aa o') h λu p e=>by
  cases u<;>first|exact .inr ⟨(λq=>be.noConfusion q),e⟩|skip
  rename_i i;have a:ai W.w j (aa o') i=aa p:=e;by_cases h:i=j;·rw[h,bg]at a;exact .inl ⟨aQ be.w h,(bo a).symm⟩
  ·rw[aI h]at a;exact .inr ⟨(λq=>h<|be.w.inj q),a⟩
 rw[z.g.e j]at D;exact⟨⟨_,_,_,D⟩,i4⟩
set_option tactic.hygienic true in
theorem Z.J(z:Z H (W.g j x o))(h:W.w j=ae):∃a:Z H W,z.e=a.e:=⟨⟨_,_,_,DP.F (x:=x) (j:=j) (r:=W.r) (cont:=fc H W.w) (DP.y z.g λt p e=>by
 cases t<;>first|exact e|skip
 rename_i i;exact(aI (f:=W.w) λq=>aY ((show W.w i=aa p from e).symm.trans<|q▸h).symm).trans e) h⟩,rfl⟩
def vq(K:aG P)(z:Z H W)(a:W.w j=aa (.e l))(b:ev P m z.e o=aa (.f<|.f<|W.r j))(c:ev P m z.e e=aa v)(d:l.length<=cN)(q:∀z:Z H (W.p j<|.e<|l++[v]),aP (cx P) n Y m z.e Q):aP (cx P) n (.e (.f<|.g 0 o<|.e e .f) Y) m z.e Q:=aV (z.y (.e<|l++[v]) a) λf g=>mR K b (z.q a) c d<|g▸q f
end
section
variable{W:bh}{Q:V->St->Prop}
def aaE(z:Z H W)(h:W.f[0]? =aa (aa<|.h f)):aT z.e (.e 17)=aa (.h f):=by show(((W.f[0]?).join.map aa).join:Option O)=_;rw[h];rfl
def iP(z:Z H W)(h:W.f[0]? =aa (aa<|.h f))(a:ev P m z.e e=aa (.f<|.e 17))(b:f k=aa v):ev P m z.e (.q e<|.y k)=aa v:=ym a (aaE z h) b
def lL(K:aG P)(j:Nat)(b:vM[j]? =aa (g,i))(q:eK (cx P) n a m σ λc σ=>aZ (cx P) n (.ref<|P.e i) c σ R):aF (cx P) n (.f g a) m σ R:=bV _ (K.h j g i b).1 (K.h j g i b).2 q
def dC{S:List V->St->Prop}(q:aF (cx P) n e m σ λv σ=>eK (cx P) n a m σ λb σ=>S (v::b) σ):eK (cx P) n (.e e a) m σ S:=q
set_option tactic.hygienic true in
theorem Qo(K:aG P){x j:Nat}{o:O}(z:Z H (W.g j x o))(o':O):∃b:Z H (W.g j x o'),bi z.e (.f x) o'=b.e:=by
 have D:=DP.N z.g (t:=.w j) (o:=o) (o':=o') (cont':=fc H<|ai W.w j<|aa o') (bg ..) λu p e=>by
  cases u<;>first|exact .inr ⟨(λq=>be.noConfusion q),e⟩|skip
  rename_i i;have a:ai W.w j (aa o') i=aa p:=e;by_cases h:i=j;·rw[h,bg]at a;exact .inl ⟨aQ be.w h,(bo a).symm⟩
  ·refine .inr ⟨(λq=>h<|be.w.inj q),?_⟩;show ai W.w j (aa o) i=aa p;rw[aI h]at a⊢;exact a
 rw[(z.g.e j).trans<|show(W.g j x o).r j=x from bg ..]at D;exact⟨⟨_,_,_,D⟩,i4⟩
def qJ{x j:Nat}(z:Z H (W.g j x o)):aT z.e (.f x)=aa o:=by have:=Z.q z (j:=j) (o:=o)<|bg ..;rw[show(W.g j x o).r j=x from bg ..]at this;exact this
def sB(b:Nat)(d:Int)(c:List Nat)(A:Nat->Option Vl)(a:Nd×Nat):Option Vl:=eJ b (A<|c.getD a.2 0)<|fR b d a.1.1<|(dG c a.1).2.map A
def fe(c:Nat)(d:Int)(b:List Nat)(s:(Nat->Option Vl)×Bool)(a:Nd×Nat):(Nat->Option Vl)×Bool:=if sB c d b s.1 a=s.1 (b.getD a.2 0)then s else(ai s.1 (b.getD a.2 0)<|sB c d b s.1 a,true)
def kE(a:Nat)(b:Int)(c:List Nat)(d:List Nd)(A:Nat->Option Vl):(Nat->Option Vl)×Bool:=d.zipIdx.foldl (fe a b c) (A,false)
structure ty(kind:Nat)(nn:Int)(hs:List Nat)(A:Nat->Option Vl)(a:Nd×Nat):Prop where
 i:a.2<hs.length
 e:a.1.2.length<=2
 k:∀x∈a.1.2,x<hs.length
 h:kY a.1.1 ((dG hs a.1).2.map A)
 g:∀c,Gd kind<|A c
 r:Gd kind (fR kind nn a.1.1<|(dG hs a.1).2.map A)
 f:eW (vD A)
noncomputable abbrev MT:Ss:=(.e (.e (.e 7)<|.f 26<|.e (.e 4)<|.e (.q (.e 0)<|.y "n")<|.e (.q (.e 6)<|.p 0)<|.e (.T (.g 4 (.e 2)<|.e (.q (.e 1)<|.e 8) .f)<|.a (.e 6)<|.p 1) .f)<|.e (.e (.e 7)<|.f 27<|.e (.e 4)<|.e (.g 4 (.e 2)<|.e (.q (.e 1)<|.e 5) .f)<|.e (.e 7) .f)<|.e (.g (.t .f (.e 7)<|.g 4 (.e 2)<|.e (.q (.e 1)<|.e 5) .f) (.e (.p [(.f (.e 2)<|.q (.e 1)<|.e 5),(.e 3)]<|.F<|.e (.e 7)<|.e (.U true) .f) .f) .f) .f)
def yx{i c:Nat}(b:m[1]? =aa (.y<|aH a))(d:ev P m σ e=aa (.e i))(f:i<a.length)(g:a.length<60)(h:a.getD i 0=c):ev P m σ (.q (.e 1) e)=aa (.e c):=by show((m[1]?).bind c8).bind (λo=>(ev P m σ e).bind λk=>if i3 σ o then gJ σ o k else ae)=_;rw[b,d];show(if decide ((aH a).length<2^62)=true then itemAt (aH a) (i:Int)else ae)=_;rw[aq<|bQ<|by rw[bK];exact bj g bl,tQ<|gS 0 f,h]
def aaG(K:aG P){j:Int}(z:Z H (W.g 5 x<|.f<|vD A)){f:ah->Option V}(I:W.f[0]? =aa (aa<|.h f))(J:f "n"=aa (.e j))(L:0<j)(M:d<3)(m:b.length<60)(h:ty d j b A a){Q:Fl->List V->St->Prop}
  (q:∀(z:Z H (W.g 5 x<|.f<|vD (fe d j b (A,o) a).1))(y:V),Q .e [.f<|.e 17,.y<|aH b,.f<|.f x,.g (fe d j b (A,o) a).2,.e d,.e a.2,bp a.1,y] z.e):
  aP (cx P) (n+1) MT [.f<|.e 17,.y<|aH b,.f<|.f x,.g o,.e d,.e a.2,bp a.1,y] z.e Q:=by
 have s:(f5 a.1).length<=3:=by unfold f5;rw[iu,bK];exact(ay (dr h.e _) bl)
 have N:a.1.2.map (λk=>bz<|A<|b.getD k 0)=((dG b a.1).2.map A).map bz:=by unfold dG;rw[fh,fh];rfl
 unfold fe at q
 refine co<|lL K 4 rfl<|dC<|aJ K (e:=.e 4) rfl<|dC<|aJ K (iP z I rfl J)<|dC<|aJ K (e:=.q (.e 6)<|.p 0) (v:=.p a.1.1) ?_<|dC<|kO<|qQ K (u:=bp a.1) (v:=.e 1) rfl rfl ⟨1,rfl,by decide,by decide,fy _,eM<|da _,aL s bl,aH a.1.2,rfl,?_,qf (g:=λk=>bz<|A<|b.getD k 0) (λk U k' q=>nq K (k:=4) (ob:=.f<|vD A) (vs:=[.e (b.getD k 0:Nat)]) rfl (qJ z) rfl F.slot_dict_get rfl (nV<|yx rfl rfl (h.k k U) m rfl)<|o_ K.O (qJ z)<|by rw[pA];exact q) ?_⟩
 ·show(if decide ((f5 a.1).length<2^62)=true then _ else ae)=_
  rw[aq<|bQ<|aL s bl];rfl
 ·rw[bK,bX];exact(ay h.e bl)
 rw[N]
 refine VN K L M h.h (λv p=>aB (cq.mp p) λc x_ e=>e▸h.g c) ⟨(show 7<8 by decide),(qj<|ku _).2,?_⟩
 refine co<|lL K 5 rfl<|dC<|aJ K (e:=.e 4) rfl<|dC<|nq K (k:=4) (ob:=.f<|vD A) (vs:=[.e (b.getD a.2 0:Nat)]) rfl (qJ z) rfl F.slot_dict_get rfl (nV<|yx rfl rfl h.i m rfl)<|o_ K.O (qJ z)<|(pA A _).symm▸dC (aJ K (e:=.e 7) (ku _)<|VL K (h.g _) h.r ⟨(show 7<8 by decide),(qj<|ku _).2,?_⟩)
 have t:eJ d (A<|b.getD a.2 0) (fR d j a.1.1<|(dG b a.1).2.map A)=sB d j b A a:=rfl
 rw[t]
 generalize X:sB d j b A a=S at q
 refine ko (!decide (S=A (b.getD a.2 0))) (λR r=>pD K (a:=.e 7) (u:=bz S) (ku S)<|nq K (k:=4) (ob:=.f<|vD A) (vs:=[.e (b.getD a.2 0:Nat)]) rfl (qJ z) rfl F.slot_dict_get rfl (nV<|yx rfl rfl h.i m rfl)<|o_ K.O (qJ z)<|by rw[pA];exact⟨_,_,nh S,nh _,by rw[rQ];exact r⟩) (λl=>?_) λl=>?_
 ·have B:S≠A (b.getD a.2 0):=λe=>by rw[bQ e]at l;exact dK l
  rw[ap B]at q
  refine aV (show∃v,S=aa v from ?_) λv p=>?_
  ·cases C:S with
   |some v=>exact⟨v,rfl⟩
   |none=>cases D:A (b.getD a.2 0)with
    |none=>exact aD (C.trans D.symm) B
    |some w=>exact aD (X.trans C) (by rw[<-t,D];exact JN λe=>aY e.symm)
  rw[p]at q⊢
  refine gF<|j7<|aJ K (e:=.e 7) (v:=jt v) (ku<|aa v)<|aJ K (e:=.U true) rfl ⟨_,.inl rfl,rfl,tw<|pW K (r:=.f x) (f:=vD A) (i:=b.getD a.2 0) rfl (yx rfl rfl h.i m rfl) (qJ z) h.f ?_⟩
  rw[DA]
  exact aV (Qo K z<|.f<|vD<|ai A (b.getD a.2 0)<|aa v) λz' e=>e▸tw ⟨(show 3<8 by decide),nu,BW<|bN<|q z' _⟩
 ·have e:S=A (b.getD a.2 0):=by
   cases G:decide (S=A (b.getD a.2 0))with
   |true=>exact cR G
   |false=>rw[G]at l;exact dK l
  rw[aq e]at q
  exact bN<|q z _
end
section
variable{W:bh}{Q:V->St->Prop}
def Z.F(z:Z H W)(h:W.w j=aa o):z.e (.f<|W.r j)=aa (aa o):=by have:=(z.g.f (.w j) o h).1;rw[z.g.e j]at this;exact this
def aaL(b:List Nd):∀i,((b.map bp).zipIdx i).map (λx=>V.h [.e x.2,x.1])=(b.zipIdx i).map λa=>.h [.e a.2,bp a.1]:=by induction b with|nil=>exact λi=>rfl|cons k b c=>exact λi=>aQ (_:: ·)<|c<|i+1
def aac{nn:Int}(b:List (Nd×Nat)):∀(s:(Nat->Option Vl)×Bool),(b.foldl (fe kind nn hs) s).2=false->b.foldl (fe kind nn hs) s=s:=by induction b with
 |nil=>exact λs i=>rfl
 |cons a b f=>
  intro s h;have e:=f _ h;have d:(fe kind nn hs s a).2=false:=e▸h;have g:fe kind nn hs s a=s:=by
   unfold fe at d⊢;by_cases c:sB kind nn hs s.1 a=s.1 (hs.getD a.2 0);·rw[aq c]
   ·rw[ap c]at d;exact dK d
  exact e.trans g
def aaF(K:aG P){g:Int}{f:ah->Option V}(s:W.f[0]? =aa (aa<|.h f))(t:f "n"=aa (.e g))(B:0<g)(C:d<3)(D:e.length<60){rows:List Nd}(Inv:(Nat->Option Vl)->Prop)(F:∀A a,Inv A->a∈rows.zipIdx->ty d g e A a/\∀c,Inv (fe d g e (A,c) a).1)(G:∀A(z:Z H (W.g 5 x<|.f<|vD A)),p z.e){Q:Fl->List V->St->Prop}(h:List (Nd×Nat)):∀(A:Nat->Option Vl)(c:Bool)(z:Z H (W.g 5 x<|.f<|vD A))(i j l:V),(∀a∈h,a∈rows.zipIdx)->Inv A->(∀(z:Z H (W.g 5 x<|.f<|vD (h.foldl (fe d g e) (A,c)).1))(i j l:V),Inv (h.foldl (fe d g e) (A,c)).1->Q .e [.f<|.e 17,.y<|aH e,.f<|.f x,.g (h.foldl (fe d g e) (A,c)).2,.e d,i,j,l] z.e)->eG (λx m σ k=>∃u v,(x=.h [u,v])/\5<m.length/\6<m.length/\u≠.q/\v≠.q/\aP (cx P) (n+1) MT ((m.set 5 u).set 6 v) σ k) p (h.map λa=>.h [.e a.2,bp a.1]) [.f<|.e 17,.y<|aH e,.f<|.f x,.g c,.e d,i,j,l] z.e Q:=by induction h with|nil=>exact λA c z i j l M o q=>q z i j l o|cons a h I=>intro A c z i j l r o q;exact cj (F A a o<|r a bk) λw J=>⟨_,_,rfl,bl,bl,nu,nu,aaG K z s t B C D w λz y=>⟨G _ z,(I _ _ z _ _ _ (λb L=>r b<|bR _ L) (J c) q)⟩⟩
def J1(K:aG P){kind:Nat}{nn:Int}{hs:List Nat}(z:Z H W){f:ah->Option V}(p:W.f[0]? =aa (aa<|.h f))(D:f "n"=aa (.e nn))(F:f "kind"=aa (.e kind)){b:List Nd}(G:f "rows"=aa (.f<|.f<|W.r 3))(s:W.w 3=aa (cI b))(I:0<nn)(J:kind<3)(L:hs.length<60)
  (Inv:(Nat->Option Vl)->Prop)(t:(Nat->Option Vl)->Nat)(M:∀A a,Inv A->a∈b.zipIdx->ty kind nn hs A a/\∀d,Inv (fe kind nn hs (A,d) a).1)(N:Inv λc=>ae)(U:∀A,Inv A->(kE kind nn hs b A).2=true->t (kE kind nn hs b A).1<t A)
  (q:∀A x(z:Z H (W.g 5 x<|.f<|vD A)),Inv A->(kE kind nn hs b A).2=false->Q (.f<|.f x) z.e):aZ (cx P) (n+2) (.ref<|P.e 56) [.f<|.e 17,.y<|aH hs] z.e Q:=by
 refine K.f 56 rfl rfl<|gF<|uH<|oE (k:=.i) (r:=.f z.h) (z.g.g _) ?_
 have ww:(λc=>ae:Int->Option V)=vD λc=>ae:=by funext x;cases x<;>rfl
 rw[ww]
 refine aV (z.t 5<|.f<|vD λc=>ae) λu X=>?_
 rw[show bi z.e (.f z.h) _=_ from X]
 generalize z.h=x at u
 refine aJ K (e:=.U true) rfl<|aJ K (iP u p rfl F) ⟨_,.inl rfl,rfl,bl,nu,bl,nu,bl,nu,?_⟩
 refine BP K (γ:=Unit) (λA d _(g:Nat->V)=>[.f<|.e 17,.y<|aH hs,.f<|.f x,.g d,.e kind,g 0,g 1,g 2]) (λA c c=>W.g 5 x<|.f<|vD A) (λA d c c=>Inv A/\(d=false->(kE kind nn hs b A).2=false)) (λA d c=>if d then t A+1 else 0) (λc=>ae) true () (λc=>.q) u ⟨N,λh=>ff h.symm⟩ λA d c g z hi R r=>cj hi λl h2=>aC d rfl ?_
 cases d with
 |false=>exact j4 dR<|eO K (e:=.e 2) rfl<|q A x z l<|h2 rfl
 |true=>
  refine kA rfl<|Hv (v:=.g false) (λR r=>aJ K rfl r) bl (λe=>nomatch e) ?_
  have l3:=Z.q z (j:=3) (o:=cI b) s
  refine Hr<|aJ K (iP z p rfl G)<|cp _ _ (JL (x:=aa<|aa<|cI b) l3<|Z.F z (j:=3) s) (⟨_,rfl⟩) ?_
  rw[aaL]
  refine aaF K p D I J L Inv M (λA z=>Z.F z (j:=3) s) b.zipIdx A false z _ _ _ (λa h=>h) l λz y B C au=>?_
  have eq:=aac (kind:=kind) (nn:=nn) (hs:=hs) b.zipIdx (A,false)
  cases m:(kE kind nn hs b A).2 with
  |true=>
   have w:(b.zipIdx.foldl (fe kind nn hs) (A,false)).2=true:=m
   rw[w]
   exact gr<|r _ true () (λi=>[y,B,C].getD i .t) z ⟨au,λh=>ff h.symm⟩<|jS<|U A l m
  |false=>
   have w:(b.zipIdx.foldl (fe kind nn hs) (A,false)).2=false:=m
   revert z
   rw[eq w]
   exact λz=>gr<|r A false () (λi=>[y,B,C].getD i .t) z ⟨l,λc=>m⟩<|mJ _
end
section
variable{Q:V->St->Prop}
structure qR(H:Hp)(W:bh)(A:Nat->Option Vl):Prop where
 k:∃kind,W.f[1]? =aa (aa<|nZ kind (W.r 2) H.h)
 v:W.w 2=aa (.f<|vD A)
def tK(z:Z H W)(h:qR H W A)(c:m[0]? =aa (.f<|.e 18)):ev P m z.e (.h 3 0<|.e 0)=aa (.f<|.e 1)/\ev P m z.e (.h 3 2<|.e 0)=aa (.f<|.f<|W.r 2)/\ev P m z.e (.h 3 4<|.e 0)=aa (.e H.h):=by
 refine aV h.k λb d=>?_;have l:aT z.e (.e 18)=aa (nZ b (W.r 2) H.h):=by show(((W.f[1]?).join.map aa).join:Option O)=_;rw[d];rfl
 have g:∀a v,([.f<|.e 1,.f<|.e<|20+b,.f<|.f<|W.r 2,.f<|.e 19,.e H.h]:List V)[a]? =aa v->Dj v=aa v->ev P m z.e (.h 3 a<|.e 0)=aa v:=λa v e f=>by show((m[0]?).bind c8).bind (λv=>pZ z.e 3 a v)=_;rw[c];show Lake.O.q (aT z.e<|.e 18) ae _ _ _ _ _=_;rw[l];show(if 3=3 then(([_,_,_,_,_]:List V)[a]?).bind Dj else ae)=_;rw[aq rfl,e];exact f
 exact⟨g 0 _ rfl rfl,g 2 _ rfl rfl,g 4 _ rfl rfl⟩
def JT(K:aG P)(z:Z H W)(h:qR H W A)(q:Q .t z.e):aZ (cx P) (n+1) (.ref<|P.e 8) [.f<|.e 18] z.e Q:=K.f 8 rfl rfl<|oZ (λR r=>aJ K (by show(ev P _ _<|.h 3 4<|.e 0).bind (λu=>((ev P _ _<|.h 3 0<|.e 0).bind λv=>pZ z.e 0 7 v).bind λv=>nS .f u v)=aa (V.g false);rw[(tK z h rfl).1,(tK z h rfl).2.2];show aa (V.g<|!decide ((H.h:Int)=H.h))=_;rw[bQ rfl];rfl) r)<|bN q
def yK(z:Z H W)(h:qR H W A):∃a,aT z.e (.e 18)=aa (.g 3 a):=aV h.k λc b=>⟨_,by show(((W.f[1]?).join.map aa).join:Option O)=_;rw[b];rfl⟩
def MR(K:aG P)(z:Z H W)(I:HW H)(h:qR H W A)(b:c<H.e.length)(q:Q (bz<|A<|ak H.e c) z.e):aZ (cx P) (n+3) (.ref<|P.e 9) [.f<|.e 18,.e c] z.e Q:=by refine aV (yK z h) λg d=>K.f 9 rfl rfl<|Ho (v:=.t) (λR r=>ck K 36 rfl rfl d rfl (vs:=[]) rfl<|JT K z h r) ?_;exact dy<|aJ (n:=n+2) K (e:=.h 3 2<|.e 0) (v:=.f<|.f<|W.r 2) (R:=λa σ=>∃f,MethAt (cx P) σ a ((cx P).g 4) f/\aF (cx P) (n+2) (.g 24 (.h 3 0<|.e 0)<|.e (.e 1) .f) _ σ λv σ=>aZ (cx P) (n+2) f [a,v] σ _) (tK z h rfl).2.1 (aC _ (vX (z.q h.v) rfl F.slot_dict_get rfl)<|qY K z I (tK z h rfl).1 rfl b (o_ K.O (z.q h.v)<|by rw[pA];exact q))
def SO(K:aG P)(z:Z H W)(I:HW H)(h:qR H W A)(q:Q (.y<|aH<|xU H.e A) z.e):aZ (cx P) (n+3) (.ref<|P.e 13) [.f<|.e 18] z.e Q:=by
 refine aV (yK z h) λd b=>K.f 13 rfl rfl<|Ho (v:=.t) (λR r=>ck K 36 rfl rfl b rfl (vs:=[]) rfl<|JT K z h r) ?_;refine dy<|z_<|ck K 6 rfl (tK z h rfl).1 rfl rfl (vs:=[]) rfl (Cq K I<|bV (aH<|dT H.e) rfl ?_<|xV (g:=λx=>.e x) (p:=λc=>decide<|A c=aa .f) (λc i k q=>?_) q);·rw[bK];exact jp<|gp<|cY<|aL (Oa _ _) (by rw[f9];exact I.p)
 ·refine ju<|uI K (X:=⟨ae,ae,ae,0,0,A,0,λa=>ae,λa=>ae,λa=>0⟩) (c:=c) (f:=A) (tK z h rfl).2.1 (z.q h.v) rfl ⟨_,_,nh _,lB y0,_,by rw[show Ge "clash"=gt (aa .f)from rfl,rQ],?_⟩;by_cases h:A c=aa .f;·rw[bQ h,aq rfl]at q⊢;exact aJ K (e:=.e 1) rfl q
  ·rw[dz h]at q⊢;exact q
def Lq:∀{a b:List Nat},a.Pairwise (·< ·)->b.Pairwise (·< ·)->(∀x,x∈a↔x∈b)->a=b:=by intro a;induction a with
 |nil=>intro b _ _ h;cases b with|nil=>rfl|cons y b=>exact aD ((h y).mpr bk) cX
 |cons x a g=>intro b i j h;cases b with
  |nil=>exact aD ((h x).mp bk) cX
  |cons y b=>
   have d:=wW.mp i;have f:=wW.mp j;have e:x=y:=by
    rcases cB.mp ((h x).mp bk)with e|k;·exact e
    ·rcases cB.mp ((h y).mpr bk)with e|l;·exact e.symm
     ·exact aD (bj (f.1 x k)<|d.1 y l)<|dE _
   subst e;exact aQ (x:: ·)<|g d.2 f.2 λz=>⟨λc=>(cB.mp<|(h z).mp<|bR _ c).resolve_left λe=>dE _<|e▸d.1 z c,λc=>(cB.mp<|(h z).mpr<|bR _ c).resolve_left λe=>dE _<|e▸f.1 z c⟩
end
section
variable{Q:V->St->Prop}
def KD(l:List Nat):V.y (aH l)=fu (l.map λ(n:Nat)=>aa<|.e n):=by show _=V.y ((l.map _).map bz);rw[fh];rfl
def IA(q:R (.g false) σ):eB .f (fu a) (fu a) σ R:=⟨_,_,sq a,sq a,by rw[Po _ (sq a).2.1];exact q⟩
def SW(q:R (.g true) σ):eB .e (fu a) (fu a) σ R:=⟨_,_,sq a,sq a,by rw[Po _ (sq a).2.1];exact q⟩
def D9(K:aG P)(d:ev P m σ e=aa (.y l))(f:l.length=N)(c:N<60)(h:∀x,x<N->∀R:V->St->Prop,R (g x) σ->aF (cx P) n b (m++[.e x]) σ R)(q:R (.y<|(bM N).map g) σ):aF (cx P) n (.T b<|.f 6<|.e (.f 3<|.e e .f) .f) m σ R:=by refine kO<|dW K K.G.e rfl<|aJ K (v:=.e N) (tJ d ?_)<|tC (sA (a:=0) bl<|bj c bl)<|bV (aH<|bM N) (aQ aa<|su N) (by rw[bK,f9,bX];exact ay (bu c) bl)<|qf (g:=g) (λx i k q=>h x (fz.mp i) _ q) q;show(if l.length<2^62 then aa (V.e l.length)else ae)=_;rw[f,aq<|bj c bl]
structure WD(f:ah->Option V)(W:bh)(kind:Nat)(nn:Int)(rows:List Nd)(pairs:List (Nat×Nat)):Prop where
 w:W.f[0]? =aa (aa<|.h f)
 y:f "heap"=aa (.f<|.e 1)
 g:f "rows"=aa (.f<|.f<|W.r 3)
 h:f "pairs"=aa (.f<|.f<|W.r 4)
 F:f "kind"=aa (.e kind)
 J:f "n"=aa (.e nn)
 L:kind<3
 T:0<nn
 e:W.w 3=aa (cI rows)
 t:W.w 4=aa (.e<|pairs.map mV)
 N:rows.length<60
 U:l6 rows
 p:∀p∈pairs,p.1<rows.length/\p.2<rows.length
 q:pairs.length<2^19
def VQ(K:aG P){X:KW}{t:Int}(z:Z H X.e)(I:HW H)(w:WD f X.e s t d D)(cw:f "keeper"=aa (.f<|.e 18))(cJ:X.y=H.h)(h5:X.w 5=ae)(h6:X.w 6=ae)(bC:H.f.length=d.length)
  (B:List Nat->Prop)(an:List Nat->Nat)(lH:∀j,B j->j.length=d.length)(iH:B (bM d.length))(sH:∀j,B j->B (gW d D j).1/\((gW d D j).2=true->an (gW d D j).1<an j))(fH:∀j,B j->(gW d D j).2=false->j=(bM d.length).map (ak H.e))
  (C:(Nat->Option Vl)->Prop)(au:(Nat->Option Vl)->Nat)(sW:∀A a,C A->a∈d.zipIdx->ty s t ((bM d.length).map<|ak H.e) A a/\∀op,C (fe s t ((bM d.length).map<|ak H.e) (A,op) a).1)(iW:C λx_=>ae)(mW:∀A,C A->(kE s t ((bM d.length).map<|ak H.e) d A).2=true->au (kE s t ((bM d.length).map<|ak H.e) d A).1<au A)
  (fW:∀A,C A->(kE s t ((bM d.length).map<|ak H.e) d A).2=false->(∀c,A c≠ae->H.e[c]? =aa c)/\∀c,H.e[c]? =aa c->X.f c=A c)
  (q:∀z:Z H X.e,Q (.g true) z.e):aZ (cx P) (n+5) (.ref<|P.e 57) [.f<|.e 17] z.e Q:=by
 have G:H.e.length=d.length:=I.g.trans bC
 refine K.f 57 rfl rfl<|gF<|uH<|aJ K (iP z w.w rfl w.y)<|aJ K (iP z w.w rfl cw)<|lL K 3 rfl<|dC<|aJ K (iP z w.w rfl w.g)<|dC<|aJ K (iP z w.w rfl w.h)<|J0 (n:=n+3) K z ((aI (f:=X.w) (a:=2) (x:=3) (b:=aa<|.f<|vD X.f)<|by decide).symm.trans w.e) ((aI (f:=X.w) (a:=2) (x:=4) (b:=aa<|.f<|vD X.f)<|by decide).symm.trans w.t) h5 h6 w.N w.U w.p w.q B an lH iH sH λj z hi hf=>?_
 refine⟨_,.inl rfl,rfl,bl,nu,bl,nu,bl,nu,?_⟩
 rw[fH j hi hf]
 have aS:((bM d.length).map<|ak H.e).length=d.length:=by rw[bq,f9]
 have J:(aH<|(bM d.length).map<|ak H.e).length=d.length:=(bK _).trans aS
 have r0:∀x,x<d.length->ak H.e x<H.e.length/\H.e[ak H.e x]? =aa (ak H.e x):=λx M=>iZ I.h<|G.symm▸M
 generalize hh:(bM d.length).map (ak H.e)=l at aS J sW mW fW
 have kp:qR H X.e X.f:=⟨⟨X.g,by rw[<-cJ];rfl⟩,bg X.w 2<|aa<|.f<|vD X.f⟩
 refine oZ (λR r=>nz<|ju<|ck K 2 rfl rfl rfl rfl (vs:=[]) rfl<|US K (bj I.n bl)<|aJ K (tJ (e:=.e 3) (u:=.y<|aH l) rfl<|show(if(aH l).length<2^62 then aa (V.e (aH l).length)else ae)=aa (.e d.length) by rw[J,aq<|bj w.N bl])<|jG (v:=.g false) (by show aa (V.g<|!decide _)=_;rw[bC,bQ rfl];rfl)<|aC false rfl<|j4 dR ?_) ?_
 ·refine ju<|D9 K (e:=.e 3) (g:=λx=>.e<|ak H.e x) rfl J w.N (λx M R r=>qY K z I rfl rfl (G.symm▸M) r)<|aJ K (e:=.e 3) (v:=.y<|aH l) rfl ?_
  have e:(bM d.length).map (λx=>V.e<|ak H.e x)=aH l:=by rw[<-hh];delta aH;rw[fh];rfl
  rw[e,KD]
  exact IA r
 refine co<|lL K 6 rfl<|dC<|aJ K (e:=.e 0) rfl<|dC<|aJ K (e:=.e 3) rfl<|J1 (n:=n+2) K z w.w w.J w.F w.g w.e w.T w.L (aS.symm▸w.N) C au sW iW mW λA x z hA hf=>⟨bl,nu,?_⟩
 refine cj (fW A hA hf) λN a2=>?_
 have ag:qR H (X.e.g 5 x<|.f<|vD A) X.f:=⟨kp.k,kp.v⟩
 have U:aT z.e (.f x)=aa (.f<|vD A):=qJ z
 have dv:(bM d.length).map (λc=>bz<|X.f<|ak H.e c)=(l.map A).map bz:=by
  rw[<-hh,fh,fh]
  exact kS λc W=>aQ bz<|a2 _ (r0 c<|fz.mp W).2
 refine oZ (λR r=>ju<|D9 K (e:=.e 3) (g:=λc=>bz<|X.f<|ak H.e c) rfl J w.N (λc W R r=>aV (yK z ag) λdw h=>ck K 37 rfl rfl h rfl (vs:=[.e c]) rfl<|MR K z I ag (G.symm▸W) r) ?_) ?_
 ·refine DX K (u:=.y<|aH l) (xs:=aH l) rfl rfl (by rw[J,bX];exact ay (bu w.N) bl)<|qf (g:=λh=>bz<|A h) (λh hh k q=>nq K (k:=4) (ob:=.f<|vD A) (vs:=[.e h]) rfl U rfl F.slot_dict_get rfl (nV rfl)<|o_ K.O U<|(pA A h).symm▸q) ?_
  have e2:l.map (λh=>bz<|A h)=(l.map A).map bz:=by rw[fh];rfl
  rw[dv,e2]
  exact IA r
 refine dy<|ju<|aV (yK z ag) λdw h=>ck K 41 rfl rfl h rfl (vs:=[]) rfl<|SO K z I ag<|z_<|dW K K.G.g rfl<|aJ K (e:=.e 4) (v:=.f<|.f x) rfl<|B' K.O (m:=vD A) (L:=(bM H.e.length).map λ(i:Nat)=>(i:Int)) U (by rw[bq,f9,G];exact bj w.N bl) (λk hk=>?_) λjs hp hm=>?_
 ·cases k with
  |ofNat i=>exact cq.mpr ⟨i,fz.mpr (b_.mp<|N i λe=>hk<|by show(A i).map jt=_;rw[e];rfl).1,rfl⟩
  |negSucc i=>exact aD rfl hk
 have dX:∀x∈js,∃n:Nat,x=n:=λx M=>by
  cases x with
  |ofNat i=>exact⟨i,rfl⟩
  |negSucc i=>exact aD rfl<|(hm _).mp M
 refine aV (yN dX) λo e=>?_
 subst e
 have aW:∀c,c∈o↔A c≠ae:=λc=>by
  have h2:((c:Int)∈o.map λ(n:Nat)=>(n:Int))↔c∈o:=by
   rw[cq];exact⟨λ⟨i,hi,e⟩=>g_ e▸hi,λh=>⟨c,h,rfl⟩⟩
  have h3:vD A (c:Int)≠ae↔A c≠ae:=by
   show(A c).map jt≠ae↔_
   rw[Ne,s_]
  exact h2.symm.trans<|(hm (c:Int)).trans h3
 have ca:o.Pairwise (·< ·):=(AB.mp hp).imp λh=>hH.mp h
 rw[<-pn]
 have eL:(aH o).length<=cN:=by
  rw[bK,bX]
  have:=nF (ca.imp λh=>bZ h) λy hy=>fz.mpr (b_.mp<|N y<|(aW y).mp hy).1
  rw[f9,G]at this
  exact ay (ay this<|bu w.N) bl
 refine bV (aH o) rfl eL<|xV (g:=λx=>.e x) (p:=λc=>decide<|A c=aa .f) (λc W k q=>?_) ?_
 ·refine gz K (u:=bz<|A c) (v:=.p "clash") ?_ rfl ⟨_,_,nh _,lB y0,_,by rw[show Ge "clash"=gt (aa .f)from rfl,rQ],?_⟩
  ·show(if i3 _ (.f<|.f x)then gJ _ (.f<|.f x) (.e c)else ae)=_
   rw[show i3 z.e (.f<|.f x)=true from by show Lake.O.q (aT z.e<|.f x) true _ _ _ _ _=_;rw[U];rfl,aq rfl,yw U]
   show(A c).map jt=_
   cases h:A c with
   |none=>exact aD h<|(aW c).mp W
   |some v=>rfl
  ·by_cases h:A c=aa .f
   ·rw[bQ h,aq rfl]at q⊢
    exact aJ K (e:=.e 5) rfl q
   ·rw[dz h]at q⊢
    exact q
 ·have ef:o.filter (λc=>decide<|A c=aa .f)=xU H.e X.f:=by
   refine Lq (ca.filter _) (((EU).filter _).filter _) λc=>?_
   rw[show c∈xU H.e X.f↔c∈List.filter (λc=>decide<|X.f c=aa .f) ((bM H.e.length).filter λa=>decide<|H.e[a]? =aa a)from Iff.rfl,oN,oN,oN,fz,decide_eq_true_eq,decide_eq_true_eq,decide_eq_true_eq,aW]
   exact⟨λg=>⟨⟨(b_.mp<|N c g.1).1,N c g.1⟩,(a2 c<|N c g.1).trans g.2⟩,λg=>⟨(λe=>aY<|e.symm.trans<|(a2 c g.1.2).symm.trans g.2),(a2 c g.1.2).symm.trans g.2⟩⟩
  rw[uY,show(o.filter _).map (λ(x:Nat)=>V.e x)=aH (xU H.e X.f)from aQ aH ef,KD]
  exact SW<|aV (Z.J z h5) λz' e=>e▸q z'
end
section
variable{P:bn}{n:Nat}{H:Hp}{W:bh}{Q:V->St->Prop}{m:List V}{Y:List Int}{k:Nat}
def mD(K:aG P)(z:Z H (W.e Y k))(b:Y.length<1000)(c:k<2^20){many:Nat}(d:0<many){a e:E}{R:V->St->Prop}(f:ev P m z.e a=aa (.f<|.e 0))(g:ev P m z.e e=aa (.e many))(q:∀v:Nat,v<many->∀z:Z H (W.e Y<|k+1),R (.e v) z.e):aF (cx P) (n+1) (.f 24<|.e a<|.e e .f) m z.e R:=lL K 2 rfl<|dC<|aJ K f<|dC<|aJ K g<|Tw K (W:=W.e Y k) rfl b c d λv h=>q v h ⟨z.f,z.h,z.d,z.g⟩
def Tx(K:aG P)(o:Y.length<1000){c:Nat}(p:0<c){g e:E}{i:List V->St->Prop}(l:List V):∀(a:List V)(k:Nat)(z:Z H (W.e Y k)),k+l.length<2^20->(∀x(k:Nat)(z:Z H (W.e Y k)),ev P (m++[x]) z.e g=aa (.f<|.e 0)/\ev P (m++[x]) z.e e=aa (.e c))->(∀b:List Nat,b.length=l.length->(∀v∈b,v<c)->∀z:Z H (W.e Y<|k+l.length),i (a++aH b) z.e)->h_ (λx σ k=>aF (cx P) (n+1) (.f 24<|.e g<|.e e .f) (m++[x]) σ λv σ=>k (aa v) σ) l a z.e i:=by induction l with
 |nil=>intro a k z _ _ q;have:=q [] rfl (λv d=>aD d cX) z;rw[show a++aH []=a from hK _]at this;exact this
 |cons x l r=>
  intro a k z f h q;rw[iu]at f;refine mD K z o (aL (bB ..) f) p (h x k z).1 (h x k z).2 λv d s=>?_;have j:k+(x::l).length=k+1+l.length:=by rw[iu,fA,hY 1]
  refine r _ (k+1) s (j▸f) h λb t u y=>?_;have:=q (v::b) (aQ (·+1) t) λw A=>(cB.mp A).elim (λe=>e▸d)<|u w;rw[j]at this;have B:(a++(aa<|V.e v).toList)++aH b=a++aH (v::b):=lN ..;exact B▸this y
structure AW(H:Hp):Prop extends JW H where
 d:H.f.length<59
 u:H.T.length=H.f.length
 Z:H.Y.length=H.f.length
 r:∀w∈H.T,0<=w/\w<2^40
 j:∀(c:Nat)(l:List Nat),H.g c=aa l->l.length<=17
 b:∀(k:Nd)(e:Int),k.2.length<=2->(∀x∈k.2,x<H.f.length)->GW (o3 H k e)
noncomputable def ng:List (ah×Nat):=[("add",2),("mul",2),("neg",1),("f",1)]
def K6:∀x∈ng,j0 x.1=true/\x.2<=2:=by
 have h:(∀x∈([("add",2),("mul",2),("neg",1),("f",1)]:List (ah×Nat)),j0 x.1=true/\x.2<=2):=by decide+kernel
 exact h
noncomputable abbrev ux:V:=.h [.p "told",.p "t"]
def Jt(K:aG P)(z:Z H W)(I:JW H)(c:c8 x=aa x)(d:a<H.e.length)(f:b<H.e.length)(q:∀z:Z (fE H a b x) W,Q (.g<|decide<|ak H.e a≠ak H.e b) z.e):aZ (cx P) (n+5) (.ref<|P.e 41) [.f<|.e 1,.e a,.e b,x] z.e Q:=by
 have e:d_ P [.f<|.e 1,.e a,.e b,x] z.e (.e (.e 1)<|.e (.e 2)<|.e (.e 3) .f)=aa [.e a,.e b,x]:=by show j_ (aa<|V.e a) (λv=>dZ (λvs=>v::vs)<|j_ (aa<|V.e b) λv=>dZ (λvs=>v::vs)<|j_ (c8 x) λv=>dZ (λvs=>v::vs)<|aa [])=_;rw[c];rfl
 exact K.f 41 rfl rfl<|dy<|ck K 12 rfl rfl rfl rfl (vs:=[.e a,.e b,x]) e<|J9 K z I c d f q
def VO(K:aG P){f:ah->Option V}{kind:Nat}{nn:Int}{rows:List Nd}{pairs:List (Nat×Nat)}(z:Z H (W.e Y k))(w:WD f W kind nn rows pairs)(A:AW H)(hr:H.f=rows)(r0:0<rows.length)(hc:Y.length<1000)(hk:k+5<2^20)
  (q0:∀k'(z:Z H (W.e Y k')),k'<=k+4->Q .t z.e)
  (q1:∀k'(row:Nd)(e:Int)(z:Z (hZ H row e) ((W.e Y k').p 3 (cI (rows++[row])))),k'<=k+4->(∃x∈ng,row.1=x.1/\row.2.length=x.2)->(∀y∈row.2,y<rows.length)->numOf H.f row=ae->Q .t z.e)
  (q2:∀k' a b(z:Z (fE H a b ux) ((W.e Y k').p 4 (.e ((pairs++[(a,b)]).map mV)))),k'<=k+4->a<rows.length->b<rows.length->Q .t z.e):aZ (cx P) (n+8) (.ref (P.e 58)) [.f (.e 0),.f (.e 17)] z.e Q:=by
 have rl62:(rows.map bp).length<2^20:=by rw[bq];exact bj w.N bl
 have ln:∀{H':Hp}{W':bh}{m:List V}(z:Z H' W'),W'.w 3=W.w 3->W'.r 3=W.r 3->m[3]? =aa (.f (.f (W.r 3)))->ev P m z.e (.f 3 (.e (.e 3) .f))=aa (.e rows.length):=λ{_ W' m}z h1 h2 h3=>
  fD (e:=.e 3) (r:=.f (W.r 3)) (l:=rows.map bp) (by show(m[3]?).bind c8=_;rw[h3];rfl) (h2▸z.q (h1.trans w.e)) rl62 (by rw[bq])
 refine K.f 58 rfl rfl (gF (j7 (aJ K (iP z w.w rfl w.y) (aJ K (iP z w.w rfl w.g) ⟨_,.inl rfl,rfl,bl,nu,bl,nu,?_⟩))))
 refine fm (ju (mD K z hc (aL (bB ..) hk) (many:=2) bl rfl rfl λv hv z1=>aJ K (e:=.p 0) rfl (jG (v:=.g (decide ((v:Int)=0))) rfl (aC _ rfl ?_))))
 by_cases hv0:(v:Int)=0
 ·rw[bQ hv0]
  refine kA rfl (gF (sM K (aQ aa K.G.U) (mD K z1 hc (aL (cy (n:=1) (m:=5) bl k) hk) (many:=4) bl rfl rfl λb hb z2=>?_)))
  have ha:ng[b]'hb∈ng:=s0 _
  have hit:([.h [.p "add",.e 2],.h [.p "mul",.e 2],.h [.p "neg",.e 1],.h [.p "f",.e 1]]:List V)[b]? =aa (.h [.p (ng[b]'hb).1,.e (ng[b]'hb).2]):=by
   show(ng.map λx=>V.h [.p x.1,.e x.2])[b]? =_
   rw[fT,fg hb];rfl
  generalize ng[b]'hb=a at ha hit
  refine cj (K6 a ha) λhx h2=>⟨V.h [.p a.1,.e a.2],hit,bl,[.p a.1,.e a.2],.inl rfl,rfl,bl,nu,bl,nu,?_⟩
  have hrl:(iX 0 a.2).length=a.2:=by rw[su,bK,f9]
  refine co (kM K (u:=.h [.p a.1]) rfl (dW K K.G.p rfl (kO (dW K K.G.e rfl (aJ K (e:=.e 5) (v:=.e a.2) rfl (tC (sA (a:=0) bl (aL h2 bl)) (bV (iX 0 a.2) rfl (by rw[hrl,bX];exact ay h2 bl) (Tx K hc r0 (iX 0 a.2) [] (k+1+1) z2 (by rw[hrl];exact aL (ay (cy h2 _) (cy (n:=1+1+2) (m:=5) bl k)) hk) (λx k z=>⟨rfl,ln z rfl rfl rfl⟩) λks hl hks z3=>?_))))))))
  rw[hrl]at hl
  have hk2:ks.length<=2:=hl▸h2
  have hkn:∀y∈ks,y<H.f.length:=λy hy=>hr▸hks y hy
  have kl:(f5 (a.1,ks)).length<=3:=by unfold f5;rw[iu,bK];exact(ay (dr hk2 _) bl)
  refine vE (l:=aH ks) rfl (by rw[bK,bX];exact ay hk2 bl) (.inl (aC (bp (a.1,ks)) (aq (by show 1+(aH ks).length<=1000;rw[bK];exact ay (cy hk2 _) bl)) ⟨bl,nu,?_⟩))
  have hk4:k+1+1+(iX 0 a.2).length<=k+4:=hrl.symm▸ay (cy h2 _) (bb _)
  refine fm (ju (oG K 8 rfl rfl rfl rfl (vs:=[.p a.1,.h (aH ks)]) (λS hS=>dC (aJ K (e:=.e 4) rfl (dC (qQ K (u:=bp (a.1,ks)) (v:=.e 1) rfl rfl ⟨1,rfl,by decide,by decide,fy _,eM (da _),aL kl bl,hS⟩)))) (Cp (n:=n) K z3 A.toHW A.d A.u A.Z hx hk2 hkn A.r A.N A.L A.j (λe=>A.b (a.1,ks) e hk2 hkn) (λi hi hlt=>?_) λhnone e z4=>?_)))
  ·exact aJ K (ln z3 rfl rfl rfl) (jG (v:=.g (decide ((i:Int)=rows.length))) rfl ⟨_,rfl,j4 (λh=>bZ (hr▸hlt) (mE.mp (cR h))) (bN (gr (q0 _ z3 hk4)))⟩)
  ·refine aJ K (ln z4 rfl rfl rfl) (jG (v:=.g (decide ((H.f.length:Int)=rows.length))) rfl ⟨_,rfl,kA (bQ (by rw[hr])) ?_⟩)
   have q1:=q1 (k+1+1+(iX 0 a.2).length) (a.1,ks) e
   unfold cI at q1
   rw[ja]at q1
   exact vq K z4 (j:=3) (l:=rows.map bp) w.e rfl (v:=bp (a.1,ks)) rfl (by rw[bq,bX];exact ay (bu w.N) bl) λz5=>bN (gr (bN (P:=P) (n:=n+7) (gr (q1 z5 hk4 ⟨a,ha,rfl,hl⟩ hks hnone))))
 ·rw[dz hv0]
  apply j4 dR
  refine co (mD K z1 hc (aL (cy (n:=1) (m:=5) bl k) hk) r0 rfl (ln z1 rfl rfl rfl) λa ha z2=>⟨bl,nu,?_⟩)
  refine co (mD K z2 hc (aL (cy (n:=2) (m:=5) bl k) hk) r0 rfl (ln z2 rfl rfl rfl) λb hb z3=>⟨bl,nu,?_⟩)
  refine vq K z3 (j:=4) (l:=pairs.map mV) w.t (iP z3 w.w rfl w.h) (v:=mV (a,b)) rfl (by rw[bq,bX];exact bu (bj w.q bl)) λz4=>?_
  have hab:H.e.length=rows.length:=A.g.trans (hr▸rfl)
  have q2:=q2 (k+1+1+1) a b
  rw[ja]at q2
  exact tq (λR r=>ck K 4 rfl rfl rfl rfl (vs:=[.e a,.e b,ux]) rfl (Jt K z4 A.toJW rfl (hab.symm▸ha) (hab.symm▸hb) r)) λz5=>bN (gr (q2 z5 (eC _) ha hb))
end
section
variable{P:bn}{n:Nat}{H:Hp}{Q:V->St->Prop}{σ:St}{m:List V}
def UQ(K:aG P)(z:Z H W)(A:AW H)(b:j0 x=true)(c:∀i,numOf H.f (x,[])=aa i->i<H.f.length->Q (.e i) z.e)(d:numOf H.f (x,[])=ae->∀e(z:Z (hZ H (x,[]) e) W),Q (.e H.f.length) z.e):aZ (cx P) (n+8) (.ref<|P.e 37) [.f<|.e 1,.h [.p x]] z.e Q:=K.f 37 rfl rfl<|dy<|oG K 8 rfl rfl rfl rfl (vs:=[.p x,.h []]) (λS f=>dC<|aJ K (e:=.q (.e 1)<|.p 0) (v:=.p x) rfl<|dC<|dW K K.G.p rfl<|kO<|qQ K (u:=.h [.p x]) (v:=.e 1) rfl rfl ⟨1,rfl,by decide,by decide,fy _,bb _,bl,(bV [] rfl bl<|vE (l:=[]) rfl bl f)⟩)<|Cp (n:=n) K z A.toHW A.d A.u A.Z b (da _) (λk a=>aD a cX) A.r A.N A.L A.j (λe=>A.b (x,[]) e (da _) λk a=>aD a cX) c d
noncomputable def iR(i:Nat):ah:="fold"++kj (toString i)
def Vz:((bM 60).map iR).Nodup:=by
 have h:((bM 60).map λi=>((kj "fold")++kj (toString i):ah)).Nodup:=by decide+kernel
 exact h
noncomputable def bJ(i:Nat):ah:=kj<|toString (i:Int)
def I0:∀i,i<7->j0 (bJ i)=true:=by
 have h:∀i:Nat,i<7->j0 (kj<|toString (i:Int))=true:=by decide+kernel
 exact h
noncomputable abbrev KW.N(X:KW)(t:ah->Option V):KW:={X with a:=t}
structure sV(t:ah->Option V)(many:Nat):Prop where
 k:∀x,t x≠ae↔x∈(bM many).map iR
 n:many<59
def sV.e(h:sV t a):((bM a).map iR).Nodup:=((List.range_sublist.mpr<|ay (bu h.n) bl).map iR).nodup Vz
def sV.f(h:sV t a)(v:V)(x:ah):Lake.cD t (iR a) (aa v) x≠ae↔x∈(bM<|a+1).map iR:=by
 rw[EV,ja,fi,<-h.k];unfold Lake.cD;by_cases e:x=iR a;·rw[aq e];exact⟨λb=>.inr<|e▸cP.mpr rfl,λb q=>aY q.symm⟩
 ·rw[ap e];exact⟨.inl,λq=>q.elim id λq=>aD (cP.mp q) e⟩
def Ng{pre:ah}{e:E}{R:V->St->Prop}(q:aF (cx P) n e m σ λv σ=>∃i:Int,v=.e i/\0<=i/\i<10^9/\pre.length<=100/\R (.p<|pre++kj (toString i.toNat)) σ):aF (cx P) n (.m pre e) m σ R:=q
def D8(q:aF (cx P) n a m σ λv σ=>R (.h [v]) σ):aF (cx P) n (.F<|.e a .f) m σ R:=q
noncomputable abbrev Jd:Ss:=(.e (.g (.l<|.g 33 (.h 3 0<|.e 0)<|.e (.e 2)<|.e (.e 4) .f) (.e (.e (.e 5)<|.m "fold"<|.f 3<|.e (.h 3 3<|.e 0) .f)<|.e (.e (.f (.h 3 3<|.e 0)<|.e 5)<|.F<|.e (.g 22 (.h 0 0<|.h 3 0<|.e 0)<|.e (.e 2) .f)<|.e (.F<|.e (.f 9<|.e (.e 3) .f) .f) .f)<|.e (.f<|.g 25 (.h 3 0<|.e 0)<|.e (.e 2)<|.e (.e 4)<|.e (.F<|.e (.y "told")<|.e (.e 5) .f) .f)<|.e (.e (.e 1)<|.J .e (.e 1)<|.p 1) .f) .f) .f)
def Je(K:aG P){X:KW}{t:ah->Option V}{a c i j:Nat}(z:Z H (X.N t).e)(I:JW H)(b:c<H.e.length)(h:j<H.e.length)(p:i<7)(L:sV t a){l:V}{R:Fl->List V->St->Prop}(q:ak H.e c=ak H.e j->∀g:Nat->V,R .e [.f<|.e 18,.e a,.e c,g 0,g 1,g 2] z.e)(s:ak H.e c≠ak H.e j->∀x o(z:Z (fE H c j x) (X.N o).e),(∀x,o x≠ae↔x∈(bM<|a+1).map iR)->∀g:Nat->V,R .e [.f<|.e 18,.e (a+1:Nat),.e c,g 0,g 1,g 2] z.e):aP (cx P) (n+8) Jd [.f<|.e 18,.e a,.e c,.e i,.e j,l] z.e R:=by refine ko (!decide (ak H.e c=ak H.e j)) (λR r=>wF<|ck K 11 rfl rfl rfl rfl (vs:=[.e c,.e j]) rfl<|UM K I.toHW b h ⟨_,rfl,r⟩) (λe=>?_) λe=>bN<|gr<|q (by rw[DR]at e;exact cR e) λk=>[V.e i,V.e j,l].getD k .t;rw[zV]at e;refine co<|Ng<|dW K K.G.J rfl<|aJ K (e:=.h 3 3<|.e 0) (v:=.f<|.e 19) rfl<|Sz K.O (m:=t) (L:=(bM a).map iR) rfl L.e L.k (by rw[bq,f9];exact bj L.n bl) ?_;rw[bq,f9];refine⟨_,rfl,ip _,hH.mpr<|bj L.n bl,bl,bl,nu,?_⟩;refine co<|j7<|ck K 25 rfl rfl rfl rfl (vs:=[.e c]) rfl<|Sb K z.g I.n I.y (I.g▸b) λu w d D C=>?_;refine D8<|dW K K.G.y rfl<|aJ K (e:=.e 3) (v:=.e i) rfl<|Ca (bj p bl)<|vw K (x:=iR a) (f:=t) rfl rfl rfl ⟨(bM a).map iR,(by rw[bq,f9,bX];exact bj L.n bl),λk y=>(L.k k).mp y⟩ ?_;have A:bi (sg H (X.N t).e z.f d) (.e 19) (.h<|cD t (iR a)<|aa<|.h [u,.h [.p<|kj<|toString (i:Int)]])=sg H (X.N<|cD t (iR a)<|aa<|.h [u,.h [.p<|kj<|toString (i:Int)]]).e z.f d:=Dy (i:=2) bl rfl rfl;rw[A];exact tq (λR r=>ck K 4 rfl rfl rfl rfl (vs:=[.e c,.e j,.h [.p "told",.p<|iR a]]) rfl<|Jt K (⟨z.f,w,d,D⟩:Z H (X.N<|cD t (iR a)<|aa<|.h [u,.h [.p<|kj<|toString (i:Int)]]).e) I rfl b h r) λB=>co<|aJ K (e:=.J .e (.e 1)<|.p 1) (v:=.e (a+1:Nat)) rfl ⟨bl,nu,bN<|gr<|s (sj e) _ _ B (λx=>L.f _ x) λk=>[V.e i,V.e j,.p<|iR a].getD k .t⟩
def yE(K:aG P)(a:(∃i,v=.e i/\b=true)\/((v=.t\/∃x,v=.p x)/\b=false))(q:R (.g b) σ):eK (cx P) n (.e (.Y 8) .f) m σ λc σ=>aZ (cx P) n (.builtin "isinstance") (v::c) σ R:=dC<|aJ K (e:=.Y 8) (v:=.F<|.type "int") (aQ aa K.G.q)<|Sx a q
def wD(K:aG P)(q:aF (cx P) n e m σ λv σ=>eK (cx P) n (.e (.Y 8) .f) m σ λa σ=>aZ (cx P) n (.builtin "isinstance") (v::a) σ R):aF (cx P) n (.f 7<|.e e<|.e (.Y 8) .f) m σ R:=⟨_,K.G.T,rfl,q⟩
noncomputable def v5:Option Vl->Bool|some (.e _)=>true|_=>false
def C2(o:Option Vl):(∃i,bz o=.e i/\v5 o=true)\/((bz o=.t\/∃x,bz o=.p x)/\v5 o=false):=by cases o with|none=>exact .inr ⟨.inl rfl,rfl⟩|some v=>cases v with|e i=>exact .inl ⟨i,rfl,rfl⟩|f=>exact .inr ⟨.inr ⟨_,rfl⟩,rfl⟩
def KP(h:v5 o=true):∃i,o=aa (.e i):=by cases o with|none=>exact aD h dR|some v=>cases v with|e i=>exact⟨i,rfl⟩|f=>exact aD h dR
def mK(H:Hp)(x:ah)(a:Hp)(j:Nat):Prop:=(a=H/\numOf H.f (x,[])=aa j)\/(∃e,a=hZ H (x,[]) e/\numOf H.f (x,[])=ae/\j=H.f.length)
abbrev Jc:Ss:=(.e (.e (.e 3)<|.g 10 (.e 0)<|.e (.e 2) .f)<|.e (.g (.k (.f 7<|.e (.e 3)<|.e (.Y 8) .f)<|.t .t (.e 3)<|.J .p (.p 10)<|.Y 13) (.e (.e (.e 4)<|.g 31 (.h 3 0<|.e 0)<|.e (.F<|.e (.f 9<|.e (.e 3) .f) .f) .f) Jd) .f) .f)
def Z2{i:Nat}(b:i<7):(i:Int)<10^1000:=by have h:(0:Int)<10^999:=wM (by decide);have e:(10:Int)^1000=10^999*10:=wN ..;rw[e];generalize (10:Int)^999=a at h;have:(1:Int)*10<=a*10:=wK h (by decide);exact pG (Ak (hH.mpr b)<|by decide) this
def Xr(o:Option Vl):bz o≠.q:=by cases o with|none=>exact λe=>V.noConfusion e|some v=>cases v<;>exact λe=>nomatch e
def Xq(o:Option Vl):c8 (bz o)=aa (bz o):=by cases o with|none=>rfl|some v=>cases v<;>rfl
def Ur(K:aG P){X:KW}{t:ah->Option V}{d c:Nat}(z:Z H (X.N t).e)(A:AW H)(B:X.y=H.h)(C:c<H.e.length)(L:sV t d)(D:∀v,X.f (ak H.e c)=aa (.e v)->∃i:Nat,v=i/\i<7)(J:∀i a j,i<7->mK H (bJ i) a j->JW a/\c<a.e.length/\j<a.e.length){f:Nat->V}{R:Fl->List V->St->Prop}(F:(∀i:Nat,X.f (ak H.e c)≠aa (.e i))->∀g:Nat->V,R .e [.f<|.e 18,.e d,.e c,g 0,g 1,g 2] z.e)(q:∀(i:Nat)a j,X.f (ak H.e c)=aa (.e i)->mK H (bJ i) a j->ak a.e c=ak a.e j->∀(z:Z a (X.N t).e)(g:Nat->V),R .e [.f<|.e 18,.e d,.e c,g 0,g 1,g 2] z.e)(s:∀(i:Nat)a j,X.f (ak H.e c)=aa (.e i)->mK H (bJ i) a j->ak a.e c≠ak a.e j->∀x h(z:Z (fE a c j x) (X.N h).e),(∀x,h x≠ae↔x∈(bM<|d+1).map iR)->∀g:Nat->V,R .e [.f<|.e 18,.e (d+1:Nat),.e c,g 0,g 1,g 2] z.e):aP (cx P) (n+9) Jc [.f<|.e 18,.e d,.e c,f 0,f 1,f 2] z.e R:=by
 refine co<|ck K 37 rfl rfl rfl rfl (vs:=[.e c]) rfl<|MR (n:=n+6) K z A.toHW (A:=X.f) ⟨⟨X.g,by rw[<-B];rfl⟩,rfl⟩ C ⟨bl,Xr _,?_⟩;by_cases m:v5 (X.f<|ak H.e c)=true
 ·refine aV (KP m) λv e=>aB (D v e) λi G b=>?_;subst G;have l:=C2<|X.f<|ak H.e c;rw[m,e]at l;rw[e];refine ko true (λR r=>sK<|wD K<|aJ K (e:=.e 3) (v:=.e i) rfl<|yE K l ⟨_,rfl,kA rfl<|pD K (u:=.e i) rfl<|kM K (u:=.e 10) rfl<|aJ K (e:=.Y 13) (v:=.e 1000) (aQ aa K.G.N)<|Or.inl ⟨.e<|10^1000,(by show(if(10:Int)=10/\(1000:Int)=1000 then aa (V.e<|10^1000)else ae)=_;rw[aq ⟨rfl,rfl⟩]),⟨_,_,rfl,rfl,bQ (Z2 b)▸r⟩⟩⟩) (λI=>?_) λe=>ff e.symm;refine co<|oG K 9 rfl rfl rfl rfl (vs:=[.h [.p<|bJ i]]) (λS M=>dC<|D8<|dW K K.G.y rfl<|aJ K (e:=.e 3) (v:=.e i) rfl<|Ca (bj b bl) M)<|UQ (n:=n+1) K z A (I0 i b) (λj o I=>⟨bl,nu,?_⟩) λo w y=>⟨bl,nu,?_⟩;·have p:mK H (bJ i) H j:=.inl ⟨rfl,o⟩;have J:=J i H j b p;exact Je (n:=n+1) K z J.1 J.2.1 J.2.2 b L (λr g=>gr<|q i H j e p r z g) λr x h z k g=>gr<|s i H j e p r x h z k g
  ·have p:mK H (bJ i) (hZ H (bJ i,[]) w) H.f.length:=.inr ⟨w,rfl,o,rfl⟩;have J:=J i _ _ b p;exact Je (n:=n+1) K y J.1 J.2.1 J.2.2 b L (λr g=>gr<|q i _ _ e p r y g) λr x h z k g=>gr<|s i _ _ e p r x h z k g
 ·have l:=C2<|X.f<|ak H.e c;rw[zU.mpr m]at l;exact oZ (λR r=>sK<|wD K<|aJ K (e:=.e 3) (v:=bz<|X.f<|ak H.e c) (Xq _)<|yE K l ⟨_,rfl,j4 dR r⟩)<|bN<|F (λi e=>m<|e▸rfl) λk=>[bz<|X.f<|ak H.e c,f 1,f 2].getD k .t
end
section
variable{Q:V->St->Prop}
theorem aZ.e(h:aZ C n f b σ Q)(q:∀v σ,Q v σ->c v σ):aZ C n f b σ c:=λA X d s g i R ev=>cE (h A X d s g i R ev) (λa a p=>p.F q) λa a e=>e
structure FW(X:KW)(Inv:Hp->List Nat->Nat->Prop):Prop where
 w:∀{H c cs many},Inv H (c::cs) many->AW H/\X.y=H.h/\c<H.e.length/\many<59/\(∀v,X.f (ak H.e c)=aa (.e v)->∃i:Nat,v=i/\i<7)/\∀i H' j,i<7->mK H (bJ i) H' j->JW H'/\c<H'.e.length/\j<H'.e.length
 e:∀{H c cs many},Inv H (c::cs) many->(∀i:Nat,X.f (ak H.e c)≠aa (.e i))->Inv H cs many
 f:∀{H c cs many}{i:Nat}{H' j},Inv H (c::cs) many->X.f (ak H.e c)=aa (.e i)->mK H (bJ i) H' j->ak H'.e c=ak H'.e j->Inv H' cs many
 g:∀{H c cs many}{i:Nat}{H' j x},Inv H (c::cs) many->X.f (ak H.e c)=aa (.e i)->mK H (bJ i) H' j->ak H'.e c≠ak H'.e j->Inv (fE H' c j x) cs (many+1)
def Uq(K:aG P){Inv:Hp->List Nat->Nat->Prop}(w:FW X Inv){Q:Fl->List V->St->Prop}(q:∀{H a t}(z:Z H (X.N t).e)(g:Nat->V),Inv H [] a->Q .e [.f<|.e 18,.e (a:Nat),g 0,g 1,g 2,g 3] z.e)(b:List Nat):∀{H:Hp}{t:ah->Option V}{a:Nat}(z:Z H (X.N t).e)(g:Nat->V),Inv H b a->(∀x,t x≠ae↔x∈(bM a).map iR)->eG (λx m σ k=>2<m.length/\x≠.q/\aP (cx P) (n+9) Jc (m.set 2 x) σ k) (λl=>True) (aH b) [.f<|.e 18,.e a,g 0,g 1,g 2,g 3] z.e Q:=by induction b with|nil=>exact λz g h l=>q z g h|cons c b d=>intro H t a z g h L;have s:=w.w h;exact⟨bl,nu,Ur K z s.1 s.2.1 s.2.2.1 ⟨L,s.2.2.2.1⟩ s.2.2.2.2.1 s.2.2.2.2.2 (f:=λk=>g<|k+1) (λo f=>⟨trivial,d z (λk=>[V.e c,f 0,f 1,f 2].getD k .t) (w.e h o) L⟩) (λi u j e p r z f=>⟨trivial,d z (λk=>[V.e c,f 0,f 1,f 2].getD k .t) (w.f h e p r) L⟩) λi u j e p r x y z v f=>⟨trivial,d z (λk=>[V.e c,f 0,f 1,f 2].getD k .t) (w.g h e p r) v⟩⟩
def Vp(K:aG P){X:KW}{Inv:Hp->List Nat->Nat->Prop}(w:FW X Inv)(z:Z H (X.N λa=>ae).e)(I:HW H)(h:Inv H (dT H.e) 0)(q:∀{H b t}(z:Z H (X.N t).e),Inv H [] b->aZ (cx P) (n+9) (.ref<|P.e 43) [.f<|.e 1] z.e λa σ=>(∃c,aT σ (.e 18)=aa (.g 3 c))/\aZ (cx P) (n+9) (.ref<|P.e 12) [.f<|.e 18] σ λa σ=>Q (.e (b:Nat)) σ):aZ (cx P) (n+10) (.ref<|P.e 14) [.f<|.e 18] z.e Q:=by exact K.f 14 rfl rfl<|co<|aJ K (e:=.p 0) rfl ⟨bl,nu,(mS<|ck K 6 rfl rfl rfl rfl (vs:=[]) rfl<|Cq K I ⟨aH<|dT H.e,_,rfl,(Uq (n:=n) K w (λ{m b t}f g i=>(d9<|ck K 1 rfl rfl rfl rfl (vs:=[]) rfl<|(q f i).e λa σ d=>aV d.1 λc j=>d9<|ck K 40 rfl rfl j rfl (vs:=[]) rfl<|d.2.e λa σ l=>eO K (e:=.e 1) rfl l)) (dT H.e) z (λk=>[V.q,.q,.q,.q].getD k .t) h λx=>⟨λe=>aD rfl e,λe=>aD e cX⟩)⟩)⟩
end
section
variable{Q:V->St->Prop}
noncomputable def ml(l:List Nat):List kf:=l.map λ(n:Nat)=>.int n
def jl(k:Nd):kf:=.tuple<|.str k.1::ml k.2
def XF(l:List Nat):lG (aH l)=aa (ml l)/\te (ml l)=true/\re (ml l)<=0:=by induction l with
 |nil=>exact⟨rfl,rfl,bl⟩
 |cons x l e=>
  refine eQ e λa b c=>⟨?_,?_,?_⟩;·show(sD<|.e x).bind (λd=>(lG<|aH l).map λf=>d::f)=_;rw[a];rfl
  ·show te (.int x::ml l)=true;unfold te;rw[b,(ub x).2.1];rfl
  ·show re (.int x::ml l)<=0;unfold re;unfold tg;exact AE.mpr ⟨bb _,c⟩
def y8(h:dm k.1=true):iL (bp k) (jl k)/\(jl k).depth<=1:=by
 refine eQ (XF k.2) λa b c=>?_;have d1:(jl k).depth<=1:=by unfold jl tg re;unfold tg;exact eM<|AE.mpr ⟨bb _,c⟩
 refine⟨⟨?_,?_,ay d1 bl⟩,d1⟩;·show((sD<|.p k.1).bind λd=>(lG<|aH k.2).map λe=>d::e).map Gf=_;rw[a];rfl
 ·unfold jl Ga te;rw[b,(lB h).2.1];rfl
def Da:∀l:List Nd,(∀k∈l,dm k.1=true)->q6 (l.map bp) (l.map jl):=by intro l;induction l with
 |nil=>exact λi=>⟨rfl,rfl,bl⟩
 |cons k l e=>
  intro h;have p:=y8<|h k bk;refine eQ (e λx f=>h x<|bR _ f) λa b c=>⟨?_,?_,?_⟩;·show(sD<|bp k).bind (λd=>(lG<|l.map bp).map λg=>d::g)=_;rw[p.1.1,a];rfl
  ·rw[qV];unfold te;rw[p.1.2.1,b];rfl
  ·rw[qV];unfold re;exact AE.mpr ⟨ay p.2 bl,c⟩
def TT(a:List Nat):∀b:List Nat,pP (ml a) (ml b)=decide (a=b):=by induction a with|nil=>intro b;cases b<;>(unfold ml;simp[pP])|cons x a c=>intro b;cases b with|nil=>simp[ml,pP]|cons y b=>show pP (.int x::ml a) (.int y::ml b)=_;unfold pP;rw[c b,yi,DO,kK,qh,qh,qh,List.cons.injEq,mE]
def yj(a b:Nd):dI (jl a) (jl b)=decide (a=b):=by unfold jl dI pP;rw[TT,tI,DO,kK,qh,qh,beq_iff_eq,Prod.ext_iff]
def HM(s:Nd)(l:List Nd):((l.map jl).any λy=>dI y<|jl s)=decide (s∈l):=by rw[NQ,DO,wQ,qh];exact⟨λ⟨x,h,e⟩=>(cR<|(yj x s).symm.trans e)▸h,λh=>⟨s,h,(yj s s).trans<|bQ rfl⟩⟩
end
section
variable{W:bh}
def IX{i:Nat}(c:ev P m σ e=aa u)(d:ev P m σ f=aa (.e i))(j:u=.y l\/∃r,u=.f r/\aT σ r=aa (.e l))(n:l[i]? =aa v)(a:l.length<2^62):ev P m σ (.q e f)=aa v:=by
 show((ev P m σ e).bind λo=>(ev P m σ f).bind λk=>if i3 σ o then gJ σ o k else ae)=_;rw[c,d];have b:(if 0<=(i:Int)then l[i]? else ae)=aa v:=(aq<|ip i).trans n;refine j.elim (λe=>?_) λh=>aB h λr e g=>?_<;>subst e;·show(if decide (l.length<2^62)=true then _ else ae)=_;rw[aq<|bQ a];exact b
 ·have s:i3 σ (.f r)=true:=by show Lake.O.q (aT σ r) true _ _ _ _ _=_;rw[g];exact bQ a
  show(if i3 σ (.f r)=true then gJ σ (.f r) (.e i)else ae)=_;rw[aq s,Jm g];exact b
def ZK{Q:V->St->Prop}{o:Option Vl}(h:∀v,o=aa (.e v)->∃i:Nat,v=i/\i<7)(q:∀s,(∀i:Nat,o=aa (.e i)->s=bJ i)->Q (.p s) σ):aZ (cx P) n (.type "str") [bz o] σ Q:=by cases o with|none=>exact SI (q _ λi e=>aY e)|some v=>cases v with|f=>exact SJ (q _ λi e=>nomatch e)|e v=>refine aB (h v rfl) λi e a=>?_;subst e;refine Ca (bj a bl)<|q _ λj e=>?_;rw[<-g_ (Vl.e.inj<|bo e)];rfl
def WT{l:List Nd}(b:dm s.1=true)(c:∀k∈l,dm k.1=true)(q:R (.g<|!decide (s∈l)) σ):eB .g (bp s) (.y<|l.map bp) σ R:=by show∃d a,iL (bp s) d/\q6 (l.map bp) a/\R (.g<|!(a.any λy=>dI y d)) σ;exact⟨jl s,l.map jl,(y8 b).1,Da l c,by rw[HM];exact q⟩
def WU{l:List Nd}(b:aT σ r=aa (.e<|l.map bp))(c:dm s.1=true)(e:∀k∈l,dm k.1=true)(q:R (.g<|!decide (s∈l)) σ):eB .g (bp s) (.f r) σ R:=by show Lake.O.q (aT σ r) False _ _ _ _ _;rw[b];show∃d a,iL (bp s) d/\q6 (l.map bp) a/\R (.g<|!(a.any λy=>dI y d)) σ;exact⟨jl s,l.map jl,(y8 c).1,Da l e,by rw[HM];exact q⟩
noncomputable def mr(a:List Nd)(b:List Nat)(h:Nat):List Nd:=((bM a.length).filter λn=>decide<|b.getD n 0=h).map λn=>a.getD n default
def fN(p:Nat×Nat):V:=.h [.e p.1,bp (bJ p.2,[])]
noncomputable abbrev IM:Ss:=(.e (.e (.e 6)<|.f 9<|.e (.g 4 (.e 3)<|.e (.e 5) .f) .f)<|.e (.g (.k (.f 7<|.e (.g 4 (.e 3)<|.e (.e 5) .f)<|.e (.Y 8) .f)<|.t .g (.F<|.e (.e 6) .f)<|.b (.q (.e 2)<|.e 8) (.f 6<|.e (.f 3<|.e (.e 2) .f) .f)<|.t .e (.q (.e 1)<|.e 8)<|.e 5) (.e (.f<|.g 0 (.e 4)<|.e (.F<|.e (.e 5)<|.e (.F<|.e (.e 6) .f) .f) .f) .f) .f) .f)
def TE(K:aG P){A:Nat->Option Vl}{D:List (Nat×Nat)}{h:Nat}(z:Z H (W.p 7<|.e<|D.map fN))(w3:W.w 3=aa (cI c))(w5:W.w 5=aa (.f<|vD A))(t:c.length<60)(L:d.length=c.length)(au:∀k∈c,dm k.1=true)(hf:∀i,i<7->dm (bJ i)=true)(M:∀v,A h=aa (.e v)->∃i:Nat,v=i/\i<7)(hD:D.length<60){g:Nat->V}(N:(∀i:Nat,A h=aa (.e i)->(bJ i,[])∈mr c d h)->∀g:Nat->V,R .e [.f<|.e 17,.y<|aH d,.f<|.f<|W.r 3,.f<|.f<|W.r 5,.f<|.f<|W.r 7,.e h,g 0,g 1] z.e)(B:∀i:Nat,A h=aa (.e i)->(bJ i,[])∉mr c d h->∀(z:Z H (W.p 7<|.e<|(D++[(h,i)]).map fN))(g:Nat->V),R .e [.f<|.e 17,.y<|aH d,.f<|.f<|W.r 3,.f<|.f<|W.r 5,.f<|.f<|W.r 7,.e h,g 0,g 1] z.e):aP (cx P) (n+1) IM [.f<|.e 17,.y<|aH d,.f<|.f<|W.r 3,.f<|.f<|W.r 5,.f<|.f<|W.r 7,.e h,g 0,g 1] z.e R:=by
 have m:aT z.e (.f<|W.r 5)=aa (.f<|vD A):=z.q<|(aI (f:=W.w) (a:=7) (x:=5) (b:=aa<|.e<|D.map fN)<|by decide).trans w5;have Q:aT z.e (.f<|W.r 3)=aa (cI c):=z.q<|(aI (f:=W.w) (a:=7) (x:=3) (b:=aa<|.e<|D.map fN)<|by decide).trans w3;refine co<|dW K K.G.y rfl<|nq K (k:=4) (ob:=.f<|vD A) (vs:=[.e h]) rfl m rfl F.slot_dict_get rfl (nV rfl)<|o_ K.O m<|(pA A h).symm▸ZK M λs J=>⟨(show 6<8 by decide),nu,?_⟩;have C:=C2<|A h;by_cases G:v5 (A h)=true
 ·refine aV (KP G) λv e=>aB (M v e) λi ei hi=>?_;subst ei;have J:=J i e;subst J;rw[G]at C;have aW:∀x∈mr c d h,x∈c:=λx I=>aB (cq.mp I) λy hy e=>by have:=fz.mp (oN.mp hy).1;rw[<-e,jy,fg this];exact s0 _
  refine ko (!decide ((bJ i,[])∈mr c d h)) (λR r=>sK<|wD K<|nq K (k:=4) (ob:=.f<|vD A) (vs:=[.e h]) rfl m rfl F.slot_dict_get rfl (nV rfl)<|o_ K.O m<|(pA A h).symm▸yE K C ⟨_,rfl,kA rfl<|pD K (u:=bp (bJ i,[])) rfl<|z_<|dW K K.G.e rfl<|aJ K (e:=.f 3<|.e (.e 2) .f) (v:=.e c.length) (fD (e:=.e 2) (r:=.f<|W.r 3) (l:=c.map bp) rfl Q (by rw[bq];exact bj t bl)<|by rw[bq])<|tC (sA (a:=0) bl<|bj t bl)<|bV (aH<|bM c.length) (aQ aa<|su _) (by rw[bK,f9,bX];exact ay (bu t) bl)<|xV (g:=λx=>bp<|c.getD x default) (p:=λn=>decide<|d.getD n 0=h) (λx I k q=>?_) ?_⟩) (λw=>?_) λw=>?_
  ·have U:x<d.length:=L.symm▸fz.mp I;refine gz K (u:=.e (d.getD x 0:Nat)) (v:=.e h) (IX (e:=.e 1) (f:=.e 8) (l:=aH d) rfl rfl (.inl rfl) (by delta aH;rw[fT,fg U,jy,fg U];rfl)<|by rw[bK,L];exact bj t bl) rfl<|jG (v:=.g<|decide<|d.getD x 0=h) (by show aa (V.g<|decide<|(d.getD x 0:Int)=h)=_;rw[decide_eq_decide.mpr mE]) ⟨_,rfl,?_⟩;by_cases X:d.getD x 0=h;·rw[bQ X]at q⊢;exact aJ K (IX (e:=.e 2) (f:=.e 8) (l:=c.map bp) rfl rfl (.inr ⟨_,rfl,Q⟩) (by rw[fT,jy,fg<|fz.mp I];rfl)<|by rw[bq];exact bj t bl) q
   ·rw[dz X]at q⊢;exact q
  ·have eo:((bM c.length).filter λn=>decide<|d.getD n 0=h).map (λx=>bp<|c.getD x default)=(mr c d h).map bp:=by unfold mr;rw[fh];rfl
   rw[uY,eo];exact WT (s:=(bJ i,[])) (hf i hi) (λk hk=>au k<|aW k hk) r
  ·have B:=B i e (by rw[zV]at w;exact sj w);have ew:∀o,(W.p 7<|.e<|D.map fN).p 7 o=W.p 7 o:=λo=>by unfold bh.p;rw[yt]
   rw[show W.p 7 (.e<|(D++[(h,i)]).map fN)=(W.p 7<|.e<|D.map fN).p 7 (.e<|D.map fN++[fN (h,i)])from by rw[ew,ja];rfl]at B;exact vq K z (j:=7) (l:=D.map fN) (bg W.w 7<|aa<|.e<|D.map fN) rfl (v:=fN (h,i)) rfl (by rw[bq,bX];exact ay (bu hD) bl) λz2=>bN<|gr<|B z2 λk=>[V.p<|bJ i,g 1].getD k .t
  ·exact bN<|gr<|N (λj ej=>by rw[DR]at w;rw[e]at ej;rw[<-g_ (Vl.e.inj<|bo ej)];exact cR w) λk=>[V.p<|bJ i,g 1].getD k .t
 ·rw[zU.mpr G]at C;exact oZ (λR r=>sK<|wD K<|nq K (k:=4) (ob:=.f<|vD A) (vs:=[.e h]) rfl m rfl F.slot_dict_get rfl (nV rfl)<|o_ K.O m<|(pA A h).symm▸yE K C ⟨_,rfl,j4 dR r⟩)<|bN<|N (λi e=>aD (e▸rfl) G) λk=>[V.p s,g 1].getD k .t
end
section
variable{W:bh}
noncomputable def WW(o:Option Vl):Option Nat:=o.bind λv=>Vl.casesOn v (λi=>aa i.toNat) ae
def fn(A:Nat->Option Vl)(a:List Nd)(b:List Nat)(h:Nat):Option (Nat×Nat):=(WW<|A h).bind λi=>if(bJ i,[])∈mr a b h then ae else aa (h,i)
def TD(K:aG P){A:Nat->Option Vl}(p:W.w 3=aa (cI a))(r:W.w 5=aa (.f<|vD A))(s:a.length<60)(t:b.length=a.length)(u:∀k∈a,dm k.1=true)(w:∀i,i<7->dm (bJ i)=true)(l:∀h v,A h=aa (.e v)->∃i:Nat,v=i/\i<7)(c:List Nat):
  ∀{D:List (Nat×Nat)}(z:Z H (W.p 7<|.e<|D.map fN))(g:Nat->V),D.length+c.length<60->(∀(z:Z H (W.p 7<|.e<|(D++c.filterMap (fn A a b)).map fN))(g:Nat->V),Q .e [.f<|.e 17,.y<|aH b,.f<|.f<|W.r 3,.f<|.f<|W.r 5,.f<|.f<|W.r 7,g 0,g 1,g 2] z.e)->
   eG (λx m σ k=>5<m.length/\x≠.q/\aP (cx P) (n+1) IM (m.set 5 x) σ k) (λB=>True) (aH c) [.f<|.e 17,.y<|aH b,.f<|.f<|W.r 3,.f<|.f<|W.r 5,.f<|.f<|W.r 7,g 0,g 1,g 2] z.e Q:=by
 induction c with
 |nil=>
  intro D z g _ q
  rw[NW,hK]at q
  exact q z g
 |cons h c o=>
  intro D z g d q
  rw[iu]at d
  refine⟨bl,nu,TE K z p r s t u w (l h) (aL (bB ..) d) (g:=λk=>g<|k+1) (λj f=>⟨trivial,o z (λk=>[V.e h,f 0,f 1].getD k .t) (kW d) ?_⟩) λi e j z f=>⟨trivial,o z (λk=>[V.e h,f 0,f 1].getD k .t) (by rw[bm,Aw,fA,hY 1];exact d) ?_⟩⟩
  ·have:fn A a b h=ae:=by
    unfold fn
    cases e:A h with
    |none=>rfl
    |some v=>cases v with
     |f=>rfl
     |e v=>exact aB (l h v e) λi y C=>by subst y;exact aq<|j i e
   rw[As this]at q
   exact q
  ·have:fn A a b h=aa (h,i):=by unfold fn;rw[e];exact ap j
   rw[At this]at q
   rw[lN]
   exact q
def kF(a:List Nd)(p:Nat×Nat):List Nd:=if(bJ p.2,[])∈a then a else a++[(bJ p.2,[])]
def t_(a:List Nd)(p:Nat×Nat):Nat×Nat:=(p.1,(kF a p).findIdx λk=>decide<|k=(bJ p.2,[]))
def Nh(K:aG P){l:List Nd}(g:ev P m σ o=aa (.f r))(a:aT σ r=aa (.e<|l.map bp))(h:ev P m σ e=aa (bp s))(b:s∈l)(c:∀k∈l,dm k.1=true)(i:l.length<60)(q:R (.e (l.findIdx λk=>decide (k=s):Nat)) σ):aF (cx P) n (.g 3 o<|.e e .f) m σ R:=by
 have f:l.findIdx (λk=>decide<|k=s)<l.length:=N2 ⟨s,b,bQ rfl⟩;refine oF K g a F.slot_list_index rfl<|aJ K h<|Sv K.O (l:=l.map bp) (ds:=l.map jl) (d:=jl s) (j:=l.findIdx λk=>decide<|k=s) (pi a) (y8<|c s b).1 (Da l c) (by rw[bq];exact f) ?_ (λm t p=>?_) (by rw[bq];exact bj i bl) q;·rw[EM,yj];exact N1 (w:=f)
 ·rw[EM,yj];exact List.not_of_lt_findIdx p
abbrev bh.h(W:bh)(a:List Nd)(b:List (Nat×Nat)):bh:=(W.p 3<|cI a).p 4<|.e<|b.map mV
noncomputable abbrev IP:Ss:=(.e (.g (.t .g (.e 7)<|.e 2) (.e (.f<|.g 0 (.e 2)<|.e (.e 7) .f) .f) .f)<|.e (.f<|.g 0 (.q (.e 0)<|.y "pairs")<|.e (.F<|.e (.e 5)<|.e (.g 3 (.e 2)<|.e (.e 7) .f) .f) .f) .f)
def Dl(W:bh)(c a:List Nd)(b:List (Nat×Nat)):(W.h c b).p 3 (cI a)=W.h a b:=by
 show bh.mk _ _ (ai (ai (ai W.w 3 _) 4 _) 3 _) _=bh.mk _ _ (ai (ai W.w 3 _) 4 _) _;congr 1;funext i;unfold ai;by_cases h:i=3;·rw[aq h,ap λe=>aD (h.symm.trans e)<|by decide,aq h]
 ·rw[ap h,ap h,ap h]
def LF(W:bh)(a:List Nd)(c b:List (Nat×Nat)):(W.h a c).p 4 (.e<|b.map mV)=W.h a b:=by show bh.mk _ _ (ai (ai (ai W.w 3 _) 4 _) 4 _) _=bh.mk _ _ (ai (ai W.w 3 _) 4 _) _;rw[yt]
def IQ(K:aG P){f:ah->Option V}{c:List Nd}{pairs:List (Nat×Nat)}{p:Nat×Nat}(z:Z H (W.h c pairs))(h:W.f[0]? =aa (aa<|.h f))(i:f "pairs"=aa (.f<|.f<|W.r 4))(l:(bJ p.2,[])∈c)(m:c.length<60)(o:∀k∈c,dm k.1=true)(r:pairs.length<2^20){Q:Fl->List V->St->Prop}{g:Nat->V}(q:∀z:Z H (W.h c<|pairs++[(p.1,c.findIdx λk=>decide<|k=(bJ p.2,[]))]),Q .e [.f<|.e 17,g 0,.f<|.f<|W.r 3,g 1,g 2,.e p.1,g 3,bp (bJ p.2,[])] z.e):aP (cx P) (n+1) (.e (.f<|.g 0 (.q (.e 0)<|.y "pairs")<|.e (.F<|.e (.e 5)<|.e (.g 3 (.e 2)<|.e (.e 7) .f) .f) .f) .f) [.f<|.e 17,g 0,.f<|.f<|W.r 3,g 1,g 2,.e p.1,g 3,bp (bJ p.2,[])] z.e Q:=by have s:aT z.e (.f<|W.r 3)=aa (cI c):=z.q<|(aI (f:=ai W.w 3<|aa<|cI c) (a:=4) (x:=3) (b:=aa<|.e<|pairs.map mV)<|by decide).trans<|bg W.w 3 _;have d:aT z.e (.f<|W.r 4)=aa (.e<|pairs.map mV):=z.q<|bg (ai W.w 3<|aa<|cI c) 4 _;refine d9<|oF K (iP z h rfl i) d F.slot_list_append rfl<|j7<|aJ K (e:=.e 5) rfl<|Nh K (e:=.e 7) rfl s rfl l o m<|o9 d (by rw[bq,bX];exact bu<|bj r bl) ?_;rw[<-LF W c pairs,ja]at q;exact aV (z.y (j:=4) (.e<|pairs.map mV++[mV (p.1,c.findIdx λk=>decide<|k=(bJ p.2,[]))])<|bg (ai W.w 3<|aa<|cI c) 4 _) λt e=>jY e<|bN<|q t
end
section
variable{W:bh}
def Ym(c:∀k∈a,dm k.1=true)(d:dm (bJ p.2)=true):∀k∈kF a p,dm k.1=true:=by
 unfold kF;by_cases h:(bJ p.2,[])∈a;·rw[aq h];exact c
 ·rw[ap h];exact λk b=>(fi.mp b).elim (c k) λb=>(cP.mp b).symm▸d
def Yl(a:List Nd)(p:Nat×Nat):(kF a p).length<=a.length+1:=by
 unfold kF;by_cases h:(bJ p.2,[])∈a;·rw[aq h];exact eC _
 ·rw[ap h,bm];exact bb _
def Yn(z:Z H (W.h c pairs)):aT z.e (.f<|W.r 3)=aa (cI c):=z.q<|(aI (f:=ai W.w 3<|aa<|cI c) (a:=4) (x:=3) (b:=aa<|.e<|pairs.map mV)<|by decide).trans<|bg W.w 3 _
def TH(K:aG P)(z:Z H (W.h c pairs))(m:W.f[0]? =aa (aa<|.h f))(o:f "pairs"=aa (.f<|.f<|W.r 4))(s:dm (bJ p.2)=true)(d:c.length+1<60)(h:∀k∈c,dm k.1=true)(t:pairs.length<2^20){g:Nat->V}(q:∀z:Z H (W.h (kF c p)<|pairs++[t_ c p]),Q .e [.f<|.e 17,g 0,.f<|.f<|W.r 3,g 1,g 2,.e p.1,g 3,bp (bJ p.2,[])] z.e):aP (cx P) (n+1) IP [.f<|.e 17,g 0,.f<|.f<|W.r 3,g 1,g 2,.e p.1,g 3,bp (bJ p.2,[])] z.e Q:=by
 unfold t_ kF at q;refine ko (!decide ((bJ p.2,[])∈c)) (λR r=>gz K (u:=bp (bJ p.2,[])) (v:=.f<|.f<|W.r 3) rfl rfl<|WU (Yn z) s h r) (λe=>?_) λe=>?_;·rw[zV]at e;rw[ap<|sj e]at q;refine vq K z (j:=3) (l:=c.map bp) ((aI (f:=ai W.w 3<|aa<|cI c) (a:=4) (x:=3) (b:=aa<|.e<|pairs.map mV)<|by decide).trans<|bg W.w 3 _) rfl (v:=bp (bJ p.2,[])) rfl (by rw[bq,bX];exact bu<|bj (kW d) bl) ?_;rw[show O.e (c.map bp++[bp (bJ p.2,[])])=cI (c++[(bJ p.2,[])])from by unfold cI;rw[ja];rfl,Dl];exact λw=>bN<|IQ K w m o (jR _<|cP.mpr rfl) (by rw[bm];exact d) (λk i=>(fi.mp i).elim (h k) λi=>(cP.mp i).symm▸s) t q
 ·rw[DR]at e;rw[aq<|cR e]at q;exact bN<|IQ K z m o (cR e) (kW d) h t q
def nU(s:List Nd×List (Nat×Nat))(p:Nat×Nat):List Nd×List (Nat×Nat):=(kF s.1 p,s.2++[t_ s.1 p])
def Kb(h:aT σ r=aa o):σ r=aa (aa o):=by unfold aT at h;exact Option.join_eq_some_iff.mp h
def TG(K:aG P){f:ah->Option V}{D0:List (Nat×Nat)}(y:W.f[0]? =aa (aa<|.h f))(A:f "pairs"=aa (.f<|.f<|W.r 4))(B:W.w 7=aa (.e<|D0.map fN))(o:∀i,i<7->dm (bJ i)=true){Q:Fl->List V->St->Prop}(C:aT r (.f<|W.r 7)=aa (.e<|D0.map fN))(D:List (Nat×Nat)):∀{c:List Nd}{d:List (Nat×Nat)}(z:Z H (W.h c d))(g:Nat->V),(∀p∈D,p.2<7)->c.length+D.length<60->d.length+D.length<2^20->(∀k∈c,dm k.1=true)->(∀(z:Z H (W.h (D.foldl nU (c,d)).1 (D.foldl nU (c,d)).2))(g:Nat->V),Q .e [.f<|.e 17,g 0,.f<|.f<|W.r 3,g 1,g 2,g 3,g 4,g 5] z.e)->eG (λx m σ k=>∃u v,(x=.h [u,v])/\5<m.length/\7<m.length/\u≠.q/\v≠.q/\aP (cx P) (n+1) IP ((m.set 5 u).set 7 v) σ k) (λF=>F (.f<|W.r 7)=r (.f<|W.r 7)) (D.map fN) [.f<|.e 17,g 0,.f<|.f<|W.r 3,g 1,g 2,g 3,g 4,g 5] z.e Q:=by induction D with
 |nil=>exact λz g e e e e q=>q z g
 |cons p D G=>
  intro c d z g s h j t q;rw[iu]at h j;have w:=s p bk;refine⟨.e p.1,bp (bJ p.2,[]),rfl,bl,bl,nu,nu,TH K z y A (o _ w) (aL (cy (eM<|da _) _) h) t (aL (bB ..) j) (g:=λk=>[g 0,g 1,g 2,g 4].getD k .t) λl=>⟨?_,G l (λk=>[g 0,g 1,g 2,V.e p.1,g 4,bp (bJ p.2,[])].getD k .t) (λx I=>s x<|bR _ I) ?_ ?_ (Ym t<|o _ w) q⟩⟩;·have:aT l.e (.f<|W.r 7)=aa (.e<|D0.map fN):=l.q<|((aI (f:=ai W.w 3<|aa<|cI<|kF c p) (a:=4) (x:=7) (b:=aa<|.e<|(d++[t_ c p]).map mV)<|by decide).trans<|aI (f:=W.w) (a:=3) (x:=7) (b:=aa<|cI<|kF c p)<|by decide).trans B;exact(Kb this).trans (Kb C).symm
  ·exact aL (dr (Yl c p) _) (by rw[fA,hY 1];exact h)
  ·rw[bm,Aw,fA,hY 1];exact j
end
section
variable{H:Hp}{W:bh}{Q:V->St->Prop}
def Z_{a b x y:Nat}(h:a≠b):(W.g a x o).g b y p=(W.g b y p).g a x o:=by
 have c:∀{d:Type}(f:Nat->d)(u v:d),ai (ai f a u) b v=ai (ai f b v) a u:=λf u v=>by
  funext i;unfold ai;by_cases e:i=b;·rw[aq e,ap λq=>h<|q.symm.trans e,aq e]
  ·rw[ap e,ap e]
 show bh.mk _ _ _ _=bh.mk _ _ _ _;rw[c,c]
def MA{a x:Nat}:(W.g a x o).p a p=W.g a x p:=by show bh.mk _ _ (ai (ai W.w a _) a _) _=bh.mk _ _ (ai W.w a _) _;rw[yt]
def Yo{a:List Nd}{b:List (Nat×Nat)}(c:W.w 3=aa (cI a))(d:W.w 4=aa (.e<|b.map mV)):W.h a b=W:=by show bh.mk _ _ (ai (ai W.w 3 _) 4 _) _=bh.mk _ _ W.w _;rw[<-c,yu,<-d,yu]
def TA{x y:Nat}{o p q:O}:∀z:Z H (((W.g 5 x o).g 7 y p).p 7 q),W.w 5=ae->∃c:Z H (W.g 7 y q),z.e=c.e:=by rw[MA,Z_<|by decide];exact λz h=>z.J<|(aI (f:=W.w) (a:=7) (x:=5) (b:=aa q)<|by decide).trans h
def WO(z:Z H W):∃a:Z H ((W.g 7 z.h<|.e []).p 7<|.e<|([]:List (Nat×Nat)).map fN),bi z.e (.f z.h) (.e [])=a.e:=by rw[MA];exact z.t 7<|.e []
def VP(K:aG P){X:KW}{nn:Int}(z:Z H X.e)(w:WD f X.e kind nn rows pairs)(ca:f "keeper"=aa (.f<|.e 18))(h5:X.w 5=ae)(h6:X.w 6=ae)(h7:X.w 7=ae)
  (d m:List Nat)(q:Nat->Option Vl)(B:d.length=rows.length)(I:rows.length<=18)(J:m.Pairwise (·< ·))(L:∀x,x∈m↔x∈d)
  (aS:∀k∈rows,dm k.1=true)(hf:∀i,i<7->dm (bJ i)=true)(hv:∀h v,q h=aa (.e v)->∃i:Nat,v=i/\i<7)
  (t:List Nat->Prop)(M:List Nat->Nat)(lH:∀o,t o->o.length=rows.length)(iH:t (bM rows.length))(sH:∀o,t o->t (gW rows pairs o).1/\((gW rows pairs o).2=true->M (gW rows pairs o).1<M o))(fH:∀o,t o->(gW rows pairs o).2=false->o=d)
  (u:(Nat->Option Vl)->Prop)(N:(Nat->Option Vl)->Nat)(sW:∀A a,u A->a∈rows.zipIdx->ty kind nn d A a/\∀op,u (fe kind nn d (A,op) a).1)(iW:u λx_=>ae)(mW:∀A,u A->(kE kind nn d rows A).2=true->N (kE kind nn d rows A).1<N A)
  (fW:∀A,u A->(kE kind nn d rows A).2=false->A=q)
  (Fin:Hp->bh->Prop)
  (du:∀y(z:Z H (X.e.g 7 y<|.e<|(m.filterMap<|fn q rows d).map fN)){Q:V->St->Prop},(∀{s j}(z:Z s j),j.f[0]? =X.e.f[0]? ->j.w 3=X.e.w 3->j.w 4=X.e.w 4->j.r 3=X.e.r 3->j.r 4=X.e.r 4->j.w 7=aa (.e<|(m.filterMap<|fn q rows d).map fN)->j.r 7=y->Fin s j->Q (.e (m.filterMap<|fn q rows d).length) z.e)->aZ (cx P) (n+10) (.ref<|P.e 14) [.f<|.e 18] z.e Q)
  (dv:∀{s j}(z:Z s (j.h ((m.filterMap<|fn q rows d).foldl nU (rows,pairs)).1 ((m.filterMap<|fn q rows d).foldl nU (rows,pairs)).2)),Fin s j->aZ (cx P) (n+10) (.ref<|P.e 57) [.f<|.e 17] z.e Q):
  aZ (cx P) (n+11) (.ref<|P.e 59) [.f<|.e 17] z.e Q:=by
 refine K.f 59 rfl rfl<|gF<|j7<|lL K 3 rfl<|dC<|aJ K (iP z w.w rfl w.g)<|dC<|aJ K (iP z w.w rfl w.h)<|J0 (n:=n+9) K z ((aI (f:=X.w) (a:=2) (x:=3) (b:=aa<|.f<|vD X.f)<|by decide).symm.trans w.e) ((aI (f:=X.w) (a:=2) (x:=4) (b:=aa<|.f<|vD X.f)<|by decide).symm.trans w.t) h5 h6 w.N w.U w.p w.q t M lH iH sH λo z C R=>?_
 rw[fH o C R]
 refine aJ K (iP z w.w rfl w.g) ⟨_,.inl rfl,rfl,bl,nu,bl,nu,?_⟩
 refine gF<|j7<|lL K 6 rfl<|dC<|aJ K (e:=.e 0) rfl<|dC<|aJ K (e:=.e 1) rfl<|J1 (n:=n+8) K z w.w w.J w.F w.g w.e w.T w.L (B.symm▸w.N) u N sW iW mW λA x z hA R=>?_
 have eA:=fW A hA R
 subst eA
 refine oH K (vs:=[]) rfl (z.g.g _)<|aV (WO z) λz1 e1=>?_
 rw[show bi z.e (.f z.h) _=_ from e1]
 generalize z.h=y at z1
 refine⟨_,.inl rfl,rfl,bl,nu,bl,nu,?_⟩
 refine mS<|wG<|aJ K (e:=.e 1) (v:=.y<|aH d) rfl ⟨aH d,rfl,by rw[bK,B];exact I,.inl ⟨d.map λ(n:Nat)=>(n:Int),pn _,λjs U hm=>?_⟩⟩
 refine aV (yN λx hx=>aB (cq.mp<|(hm x).mp hx) λi x_ e=>⟨i,e.symm⟩) λbF e=>?_
 subst e
 have dX:∀c,c∈bF↔c∈d:=λc=>by
  have h2:∀l:List Nat,((c:Int)∈l.map λ(n:Nat)=>(n:Int))↔c∈l:=λl=>by
   rw[cq];exact⟨λ⟨i,C,e⟩=>g_ e▸C,λh=>⟨c,h,rfl⟩⟩
  exact(h2 bF).symm.trans<|(hm c).trans<|h2 d
 rw[<-pn,Lq ((AB.mp U).imp λh=>hH.mp h) J λc=>(dX c).trans (L c).symm]
 have dY:m.length<60:=by
  have:=nF (J.imp λh=>bZ h) λy hy=>(L y).mp hy
  rw[B]at this
  exact aL this w.N
 refine⟨aH m,_,rfl,TD (W:=(X.e.g 5 x<|.f<|vD A).g 7 y<|.e []) K w.e rfl w.N B aS hf hv m z1 (λk=>[V.q,V.q,V.q].getD k .t) (by rw[Ob,j9];exact dY) λz2 g=>?_⟩
 refine aV (TA z2 h5) λz3 e3=>?_
 have eL:z2.e=z3.e:=e3
 rw[eL]
 have eP:∀p∈m.filterMap (fn A rows d),p.2<7:=λp U=>aB (Oi.mp U) λh x_ e=>by
  unfold fn at e
  cases F:A h with
  |none=>rw[F]at e;exact aY e
  |some v=>cases v with
   |f=>rw[F]at e;exact aY e
   |e v=>
    refine aB (hv h v F) λi ei C=>?_
    subst ei
    rw[F]at e
    have e:(if(bJ i,[])∈mr rows d h then ae else aa (h,i))=aa p:=e
    by_cases c:(bJ i,[])∈mr rows d h
    ·rw[aq c]at e;exact aY e
    ·rw[ap c]at e;rw[<-bo e];exact C
 have an:(m.filterMap<|fn A rows d).length<=18:=ay (wU _ _) (by
  have:=nF (J.imp λh=>bZ h) λy hy=>(L y).mp hy
  rw[B]at this
  exact ay this I)
 refine fm<|ju<|ck K 42 rfl (iP z3 w.w rfl ca) rfl rfl (vs:=[]) rfl<|du y z3 λ{s j}D t0 w3 w4 r3 r4 w7 r7 hF=>?_
 have G:aT D.e (.f y)=aa (.e<|(m.filterMap<|fn A rows d).map fN):=r7▸D.q w7
 refine aJ K (e:=.f 3<|.e (.e 4) .f) (fD (e:=.e 4) (r:=.f y) (l:=(m.filterMap<|fn A rows d).map fN) (v:=.e (m.filterMap<|fn A rows d).length) rfl G (by rw[bq];exact aL an bl)<|by rw[bq])<|jG (v:=.g false) (by show aa (V.g<|!decide _)=_;rw[bQ rfl];rfl) ⟨_,rfl,j4 dR<|bN ?_⟩
 show f7 P (n+10) _ (FQ Q) .e [.f<|.e 17,.y<|aH d,.f<|.f<|X.e.r 3,.f<|.f x,.f<|.f y,g 0,g 1,g 2] D.e
 rw[<-r3,<-r7]
 rw[<-r7]at G
 have hz:∃z5:Z s (j.h rows pairs),D.e=z5.e:=by
  rw[Yo (w3.trans w.e)<|w4.trans w.t];exact⟨D,rfl⟩
 refine aV hz λz5 e5=>Hq<|aJ K (e:=.e 4) (v:=.f<|.f<|j.r 7) rfl ⟨_,_,CB G,?_⟩
 have el:=TG (n:=n+9) (W:=j) (Q:=f7 P (n+10) (.e (.h<|.f 29<|.e (.e 0) .f) .f)<|FQ Q) K (t0.trans w.w) (r4.symm▸w.h) w7 hf G (m.filterMap<|fn A rows d) z5 (λk=>[V.y<|aH d,.f<|.f x,.f<|.f<|j.r 7,g 0,g 1,g 2].getD k .t) eP (aL (fL I an) bl) (bj (Oz w.q an) bl) aS λz6 g6=>dy<|lL K 7 rfl<|dC<|aJ K (e:=.e 0) rfl<|dv z6 hF
 rw[<-e5]at el
 exact el
end
section
variable{W:bh}{Q:V->St->Prop}
def Nj(K:aG P)(j:Nat)(b:tE[j]? =aa (g,c,i))(q:eK (cx P) n a m σ λd σ=>aZ (cx P) n (.ref<|P.f c) d σ R):aF (cx P) n (.f g a) m σ R:=⟨_,(K.q j g c i b).1,(K.q j g c i b).2.1,q⟩
def Nl(q:aF (cx P) n a m σ λu σ=>aF (cx P) n b m σ λk σ=>∃x,gJ σ u k=aa x/\kq σ u/\R x σ):aF (cx P) n (.q a b) m σ R:=q
def WR(K:aG P)(j:Nat)(l:tE[j]? =aa (g,c,i))(m:jE c=aa h)(o:σ r=ae)(q:gw (cx P) n (.ref<|P.e i) (.f r::f) (bi σ r<|.g c []) (λv p=>v=.t/\R (.f r) p)):aZ (cx P) (n+1) (.ref<|P.f c) f σ R:=by exact C4 (K.q j g c i l) λa b s d e=>(KF K.O (k:=⟨P.f c,h⟩) (by show(jE c).map _=_;rw[m];rfl) s d e o q).e
noncomputable abbrev bh.t(W:bh)(l:List (Option O)):bh:={W with f:=l}
def Z.p(z:Z H W)(o:O)(a:i<W.f.length):∃b:Z H (W.t<|W.f.set i<|aa o),bi z.e (.e<|17+i) o=b.e:=⟨⟨_,_,_,z.g⟩,Dy a rfl rfl⟩
def Vq(K:aG P){b:Int}(z:Z H (W.t [wd,ae,ae,ae,ae,ae,kp]))(s:a<3)(t:m[2]? =aa (.f<|.e 1))(u:m[3]? =aa (.e a))(w:m[4]? =aa (.e b))(q:∀y(z:Z H (KW.e ⟨W.q,wd,kp,b,a,λd=>ae,H.h,λd=>ae,W.w,ai W.r 2 y⟩)),R (.f<|.e 18) z.e):aF (cx P) (n+2) (.f 19<|.e (.e 2)<|.e (.q (.F<|.e (.f 20<|.e (.e 4) .f)<|.e (.f 21 .f)<|.e (.f 22 .f) .f)<|.e 3) .f) m z.e R:=by
 have A:∀σ,ev P m σ (.e 2)=aa (.f<|.e 1):=λσ=>by show(m[2]?).bind c8=_;rw[t];rfl
 have B:∀σ,ev P m σ (.e 3)=aa (.e a):=λσ=>by show(m[3]?).bind c8=_;rw[u];rfl
 have C:∀σ,ev P m σ (.e 4)=aa (.e b):=λσ=>by show(m[4]?).bind c8=_;rw[w];rfl
 refine Nj K 3 rfl<|dC<|aJ K (A _)<|dC ?_;refine Nl<|uH<|wE K 4 rfl rfl (vs:=[.e b]) (r:=.e 20) (by show(ev P m z.e<|.e 4).bind _=_;rw[C];rfl) rfl ?_;refine aV (z.p (i:=3) (.g 4 []) bl) λh D=>?_;rw[show bi z.e (.e 20) (.g 4 [])=h.e from D];refine K.t 1 rfl rfl<|co<|aJ K (e:=.e 1) (v:=.e b) rfl<|iO K (r:=.e 20) (vals:=[]) rfl rfl (bb 0) ?_;refine aV (h.p (i:=3) (.g 4 [.e b]) bl) λj F=>jY F<|bN ⟨rfl,DZ K 0 rfl rfl (r:=.e 21) rfl ?_⟩;refine aV (j.p (i:=4) (.g 5 []) bl) λf G=>?_;rw[show bi j.e (.e 21) (.g 5 [])=f.e from G];refine DZ K 1 rfl rfl (r:=.e 22) rfl<|aV (f.p (i:=5) (.g 6 []) bl) λg I=>?_;rw[show bi f.e (.e 22) (.g 6 [])=g.e from I];refine aJ K (B _) ⟨.f<|.e<|20+a,?_,bl,WR (n:=n+1) K 3 rfl rfl (r:=.e 18) rfl ?_⟩;·show(if 0<=(a:Int)then [V.f<|.e 20,.f<|.e 21,.f<|.e 22][a]? else ae)=_;rw[aq<|ip a];exact Xz s λk=>V.f<|.e<|20+k
 refine aV (g.p (i:=1) (.g 3 []) bl) λl J=>?_;rw[show bi g.e (.e 18) (.g 3 [])=l.e from J];refine K.t 7 rfl rfl<|co<|aJ K (e:=.e 1) (v:=.f<|.e 1) rfl<|iO K (r:=.e 18) (vals:=[]) rfl rfl (bb 0) ?_;refine aV (l.p (i:=1) (.g 3 [.f<|.e 1]) bl) λL M=>jY M<|co<|aJ K (e:=.e 2) (v:=.f<|.e<|20+a) rfl<|iO K (r:=.e 18) (vals:=[.f<|.e 1]) rfl rfl (bb 1) ?_;refine aV (L.p (i:=1) (.g 3 [.f<|.e 1,.f<|.e<|20+a]) bl) λc N=>jY N<|co<|oE (k:=.i) (r:=.f c.h) (c.g.g _) ?_;have ww:(λd=>ae:Int->Option V)=vD λd=>ae:=by funext x;cases x<;>rfl
 rw[ww];refine aV (c.t 2<|.f<|vD λd=>ae) λo Q=>?_;rw[show bi c.e (.f c.h) _=_ from Q];generalize c.h=y at o;refine iO K (r:=.e 18) (vals:=[.f<|.e 1,.f<|.e<|20+a]) rfl rfl (bb 2)<|aV (o.p (i:=1) (.g 3 [.f<|.e 1,.f<|.e<|20+a,.f<|.f y]) bl) λp U=>jY U<|co<|oE (k:=.s) (r:=.e 19) rfl ?_;refine aV (p.p (i:=2) (.h λd=>ae) bl) λX ac=>?_;rw[show bi p.e (.e 19) _=_ from ac];exact iO K (r:=.e 18) (vals:=[.f<|.e 1,.f<|.e<|20+a,.f<|.f y]) rfl rfl (bb 3)<|aV (X.p (i:=1) (.g 3 [.f<|.e 1,.f<|.e<|20+a,.f<|.f y,.f<|.e 19]) bl) λag an=>jY an<|co<|aJ K (e:=.h 0 7<|.e 1) (v:=.e H.h) rfl<|iO K (r:=.e 18) (vals:=[.f<|.e 1,.f<|.e<|20+a,.f<|.f y,.f<|.e 19]) rfl rfl (bb 4)<|aV (ag.p (i:=1) (nZ a y H.h) bl) λau av=>jY av<|bN ⟨rfl,q y au⟩
end
structure LB(f:ah->Option V)(W:bh)(kind:Nat)(nn:Int):Prop where
 w:W.f[0]? =aa (aa<|.h f)
 p:f "heap"=aa (.f<|.e 1)
 e:f "rows"=aa (.f<|.f<|W.r 3)
 g:f "pairs"=aa (.f<|.f<|W.r 4)
 q:f "kind"=aa (.e kind)
 t:f "n"=aa (.e nn)
 y:kind<3
 F:0<nn
structure RP(rows:List Nd)(pairs:List (Nat×Nat)):Prop where
 N:rows.length<60
 g:0<rows.length
 f:l6 rows
 p:∀p∈pairs,p.1<rows.length/\p.2<rows.length
 e:pairs.length<2^19
def LB.h{e:Nat}{g:Int}(b:LB f W e g)(r:RP c d):WD f (W.h c d) e g c d:=⟨b.w,b.p,b.e,b.g,b.q,b.t,b.y,b.F,(aI (f:=ai W.w 3<|aa<|cI c) (a:=4) (x:=3) (b:=aa<|.e<|d.map mV)<|by decide).trans<|bg W.w 3 _,bg (ai W.w 3<|aa<|cI c) 4 _,r.N,r.f,r.p,r.e⟩
structure DI(Inv:Nat->Hp->List Nd->List (Nat×Nat)->Prop):Prop where
 w:∀{j H rows pairs},Inv (j+1) H rows pairs->AW H/\H.f=rows/\RP rows pairs
 f:∀{j H rows pairs},Inv (j+1) H rows pairs->Inv j H rows pairs
 g:∀{j H rows pairs}{row:Nd}{e:Int},Inv (j+1) H rows pairs->(∃x∈ng,row.1=x.1/\row.2.length=x.2)->(∀y∈row.2,y<rows.length)->numOf H.f row=ae->Inv j (hZ H row e) (rows++[row]) pairs
 h:∀{j H rows pairs a b},Inv (j+1) H rows pairs->a<rows.length->b<rows.length->Inv j (fE H a b ux) rows (pairs++[(a,b)])
def II(K:aG P){p:Int}(b:LB f W o p)(r:c.length<1000){Inv:Nat->Hp->List Nd->List (Nat×Nat)->Prop}(D:DI Inv)(z:Z H ((W.h rows pairs).e c k))(h:Inv (j+1) H rows pairs)(t:k+5<2^20)(q:∀{H:Hp}{rows:List Nd}{pairs:List (Nat×Nat)}{k':Nat}(z:Z H ((W.h rows pairs).e c k')),k'<=k+4->Inv j H rows pairs->Q .t z.e):aZ (cx P) (n+8) (.ref<|P.e 58) [.f<|.e 0,.f<|.e 17] z.e Q:=by
 have s:=D.w h;refine VO (n:=n) K z (b.h s.2.2) s.1 s.2.1 s.2.2.g r t (λk' z d=>q z d<|D.f h) (λk' g e z d l m u=>?_) λk' a i z d l m=>?_;·have st:=q (H:=hZ H g e) (rows:=rows++[g]) (pairs:=pairs) (k':=k');rw[show(W.h (rows++[g]) pairs).e c k'=((W.h rows pairs).e c k').p 3 (cI<|rows++[g])from(aQ (λW=>bh.e W c k')<|Dl W rows (rows++[g]) pairs).symm]at st;exact st z d<|D.g h l m u
 ·have st:=q (H:=fE H a i ux) (rows:=rows) (pairs:=pairs++[(a,i)]) (k':=k');rw[show(W.h rows<|pairs++[(a,i)]).e c k'=((W.h rows pairs).e c k').p 4 (.e<|(pairs++[(a,i)]).map mV)from(aQ (λW=>bh.e W c k')<|LF W rows pairs<|pairs++[(a,i)]).symm]at st;exact st z d<|D.h h l m
def To(K:aG P){w:Int}(b:LB f W u w)(A:e.length<1000){Inv:Nat->Hp->List Nd->List (Nat×Nat)->Prop}(D:DI Inv){M:V->List V}(g:∀v x,i<(M v).length/\(M v).set i x=M x/\(M v)[1]? =aa (.f<|.e 0)/\(M v)[5]? =aa (.f<|.e 17))(l:List V):∀{H:Hp}{a:List Nd}{c:List (Nat×Nat)}{k:Nat}(z:Z H ((W.h a c).e e k))(v:V),Inv l.length H a c->(∀x∈l,x≠.q)->k+5*l.length+5<2^20->(∀{H:Hp}{a:List Nd}{c:List (Nat×Nat)}{d:Nat}(z:Z H ((W.h a c).e e d))(v:V),d<=k+5*l.length->Inv 0 H a c->Q .e (M v) z.e)->eG (λx m σ k=>i<m.length/\x≠.q/\aP (cx P) (n+8) (.e (.f<|.f 30<|.e (.e 1)<|.e (.e 5) .f) .f) (m.set i x) σ k) (λo=>True) l (M v) z.e Q:=by induction l with
 |nil=>exact λz v h o o q=>q z v (bb _) h
 |cons x l B=>
  intro H a c k z v h s p q;have t:∀{d},d<=k+4->d+5*l.length<=k+5*(l.length+1):=λ{d}h=>by rw[OM,hY<|5*l.length,<-fA];exact dr (ay h<|cy bl _) _
  rw[iu]at p;have gE:∀{H:Hp}{a:List Nd}{c:List (Nat×Nat)}{d:Nat}(z:Z H ((W.h a c).e e d)),d<=k+4->Inv l.length H a c->eG (λx m σ k=>i<m.length/\x≠.q/\aP (cx P) (n+8) (.e (.f<|.f 30<|.e (.e 1)<|.e (.e 5) .f) .f) (m.set i x) σ k) (λo=>True) l (M x) z.e Q:=λz j r=>B z x r (λy C=>s y<|bR _ C) (aL (dr (t j) _) p) λz v F G=>q z v (ay F<|t j) G;refine⟨(g v x).1,s x bk,?_⟩;rw[(g v x).2.1];have I:ev P (M x) z.e (.e 1)=aa (.f<|.e 0):=by show((M x)[1]?).bind c8=_;rw[(g x x).2.2.1];rfl
  have J:ev P (M x) z.e (.e 5)=aa (.f<|.e 17):=by show((M x)[5]?).bind c8=_;rw[(g x x).2.2.2];rfl
  exact d9<|lL K 8 rfl<|dC<|aJ K I<|dC<|aJ K J<|II K b A D z h (aL (dr (bB ..) _) p) λz j r=>bN ⟨trivial,gE z j r⟩
section
variable{Q:Fl->List V->St->Prop}
noncomputable abbrev l8(o:Option O):bh:=⟨o,gO 7 ae,λa=>ae,λa=>0⟩
noncomputable def rM(a:List Int):List Int:=(a.take 50).map λx=>x%1000003
def DU(q:eK (cx P) n b m σ λc σ=>∃r,σ r=ae/\R (.f r) (bi σ r<|.h λx=>(a.zip c).lookup x)):aF (cx P) n (.s a b) m σ R:=q
def aaB(b:List Int)(k:Nat):(λx:ah=>((["cells","k"]:List ah).zip [.y<|b.map .e,.e k]).lookup x)=gu b k:=by
 funext x;show(match x=="cells"with|true=>aa _|false=>match x=="k"with|true=>aa _|false=>ae)=_;unfold gu;by_cases h:x="cells";·rw[aq h,beq_iff_eq.mpr h]
 ·rw[ap h,lp.mpr h];by_cases a:x="k";·rw[aq a,beq_iff_eq.mpr a]
  ·rw[ap a,lp.mpr a]
def VT(K:aG P)(c:a.length<=63){g:Nat->V}(q:aP (cx P) n Y [.y<|a.map .e,.f<|.e 0,g 1,g 2,g 3,g 4,g 5,g 6,g 7,g 8,g 9] (j6 (gO 16 ae) (l8<|aa<|.h<|gu (rM a) 0) λb=>ae) Q):aP (cx P) n (.e (.e (.e 1)<|.s ["cells","k"]<|.e (.T (.J .f (.f 8<|.e (.e 11) .f)<|.p 1000003)<|.j (.e 0)<|.p 50)<|.e (.p 0) .f) Y) [.y<|a.map .e,g 0,g 1,g 2,g 3,g 4,g 5,g 6,g 7,g 8,g 9] (j6 (gO 16 ae) (l8 ae) λb=>ae) Q:=by
 have d:nT false (a.map V.e) 50=(a.take 50).map .e:=by rw[ET];rfl
 refine co<|DU<|dC<|kO<|wH K (u:=.y<|a.map .e) (v:=.e 50) rfl rfl ⟨50,rfl,by decide,by decide,a.map .e,rfl,by rw[bq];exact aL c bl,.inl ?_⟩;rw[d];refine⟨(a.take 50).map .e,rfl,by rw[bq,bX];exact ay (Od _ _) bl,xW (e:=V.e) (g:=λx=>aa<|.e<|x%1000003) (l:=a.take 50) (λx b k q=>oC<|dW K K.G.q rfl<|aJ K (e:=.e 11) (v:=.e x) rfl<|Sw<|aJ K (e:=.p 1000003) rfl<|.inl ⟨.e<|x%1000003,rfl,q⟩) ?_⟩;refine dC<|aJ K (e:=.p 0) rfl ⟨.e 0,rfl,?_⟩;rw[uY,show((a.take 50).filterMap λx=>aa<|V.e<|x%1000003)=(rM a).map .e from(congrFun EF _).trans (fh ..).symm,show(λx:ah=>((["cells","k"]:List ah).zip [V.y<|(rM a).map .e,.e 0]).lookup x)=gu (rM a) 0 from aaB (rM a) 0,pz bl];exact⟨(show 1<11 by decide),nu,q⟩
end
section
variable{Q:Fl->List V->St->Prop}
noncomputable def i5(x y:Nat)(a:Nat)(b:Int):ah->Option V:=λk=>((["heap","rows","pairs","kind","n"]:List ah).zip [.f<|.e 1,.f<|.f x,.f<|.f y,.e a,.e b]).lookup k
abbrev VK(x y:Nat)(a:Nat)(b:Int):bh:=⟨ae,[aa<|.h<|i5 x y a b,ae,ae,ae,ae,ae,ae],ai (ai (λc=>ae) 3<|aa<|.e []) 4<|aa<|.e [],ai (ai (λc=>0) 3 x) 4 y⟩
def VU(K:aG P)(l:a.length<1000){g:Nat->V}(q:∀x y b(v:Nat)(z:Z H0 ((VK x y b<|2+v).e a 2)),b<3->v<6->aP (cx P) (n+5) Y [k,.f<|.e 0,.f<|.e 1,.e b,.e<|2+v,.f<|.e 17,g 4,g 5,g 6,g 7,g 8] z.e Q):aP (cx P) (n+5) (.e (.p [(.e 2),(.e 3),(.e 4)]<|.F<|.e (.f 18 .f)<|.e (.f 24<|.e (.e 1)<|.e (.p 3) .f)<|.e (.J .e (.p 2)<|.f 24<|.e (.e 1)<|.e (.p 6) .f) .f)<|.e (.e (.e 5)<|.s ["heap","rows","pairs","kind","n"]<|.e (.e 2)<|.e (.N .f)<|.e (.N .f)<|.e (.e 3)<|.e (.e 4) .f) Y) [k,.f<|.e 0,g 0,g 1,g 2,g 3,g 4,g 5,g 6,g 7,g 8] (j6 (gO 16 ae) (l8<|aa<|.h<|gu a 0) λh=>ae) Q:=by refine gF<|uH<|V' (n:=n) (nx:=0) K rfl ?_;have r:∃z:Z H0 ((l8 ae).e a 0),sg H0 (l8<|aa<|.h<|gu a 0) (sr (l8<|aa<|.h<|gu a 0) 0) (ai (λh=>ae) 0<|aa<|aa<|.e [])=z.e:=⟨⟨_,_,_,U_ (W:=(l8 ae).e a 0) (nx:=0) (d:=λh=>ae) (λh h=>rfl) (λi o(e:ae=aa o)=>aY e) λi j o p(e:ae=aa o)=>aY e⟩,rfl⟩;refine aV r λz s=>?_;rw[s];refine mD (n:=n+4) K (W:=l8 ae) z l bl (many:=3) bl rfl rfl λb t w=>kM K (u:=.e 2) rfl<|mD (n:=n+4) K (W:=l8 ae) w l bl (many:=6) bl rfl rfl λv A f=>.inl ⟨.e<|2+v,rfl,_,.inl rfl,rfl,bl,nu,bl,nu,bl,nu,?_⟩;refine co<|DU<|dC<|aJ K (e:=.e 2) rfl<|dC<|oH K (vs:=[]) rfl (f.g.g _) ?_;refine aV (f.t 3<|.e []) λc B=>?_;rw[show bi f.e (.f f.h) _=_ from B];generalize f.h=x at c;refine dC<|oH K (vs:=[]) rfl (c.g.g _) ?_;refine aV (c.t 4<|.e []) λm C=>?_;rw[show bi c.e (.f c.h) _=_ from C];generalize c.h=y at m;refine dC<|aJ K (e:=.e 3) rfl<|dC<|aJ K (e:=.e 4) rfl ⟨.e 17,rfl,?_⟩;refine aV (m.p (i:=0) (.h<|i5 x y b<|2+v) bl) λD F=>⟨bl,nu,jY F<|q x y b v D t A⟩
end
structure OI(Inv:List ah->Hp->List Nd->Prop):Prop where
 w:∀{o os H rows},Inv (o::os) H rows->AW H/\rows.length<60/\j0 o=true/\numOf H.f (o,[])=ae
 s:∀{o os H rows}(e:Int),Inv (o::os) H rows->Inv os (hZ H (o,[]) e) (rows++[(o,[])])
def Qw(K:aG P){A:Int}(b:LB f W y A){Inv:List ah->Hp->List Nd->Prop}(I:OI Inv){g:Nat->V}(os:List ah):∀{H:Hp}{rows:List Nd}(z:Z H ((W.h rows []).e c k))(v:V),Inv os H rows->(∀{H:Hp}{rows:List Nd}(z:Z H ((W.h rows []).e c k))(v:V),Inv [] H rows->Q .e [p,.f<|.e 0,.f<|.e 1,r,t,.f<|.e 17,v,g 0,g 1,g 2,g 3] z.e)->eG (λx m σ k=>6<m.length/\x≠.q/\aP (cx P) (n+7) (.e (.f<|.g 30 (.e 2)<|.e (.e 6)<|.e (.F .f) .f)<|.e (.f<|.g 0 (.q (.e 5)<|.y "rows")<|.e (.F<|.e (.e 6) .f) .f) .f) (m.set 6 x) σ k) (λB=>True) (os.map .p) [p,.f<|.e 0,.f<|.e 1,r,t,.f<|.e 17,v,g 0,g 1,g 2,g 3] z.e Q:=by induction os with|nil=>exact λz v h q=>q z v h|cons o os C=>intro H rows z v h q;have s:=I.w h;refine⟨(show 6<11 by decide),nu,d9<|ck K 8 rfl rfl rfl rfl (vs:=[.p o,.h []]) rfl<|Cp (n:=n) K z s.1.toHW s.1.d s.1.u s.1.Z s.2.2.1 (da _) (ks:=[]) (λk u=>aD u cX) s.1.r s.1.N s.1.L s.1.j (λe=>s.1.b (o,[]) e (da _) λk u=>aD u cX) (λi D B=>aY<|s.2.2.2.symm.trans D) λG e w=>?_⟩;have d:∀z:Z (hZ H (o,[]) e) ((W.h (rows++[(o,[])]) []).e c k),eG _ _ (os.map .p) [p,.f<|.e 0,.f<|.e 1,r,t,.f<|.e 17,.p o,g 0,g 1,g 2,g 3] z.e Q:=λz=>C z (.p o) (I.s e h) q;rw[show(W.h (rows++[(o,[])]) []).e c k=((W.h rows []).e c k).p 3 (cI<|rows++[(o,[])])from(aQ (λW=>bh.e W c k)<|Dl W rows (rows++[(o,[])]) []).symm]at d;unfold cI at d;rw[ja]at d;exact vq K w (j:=3) (l:=rows.map bp) ((aI (f:=ai W.w 3<|aa<|cI rows) (a:=4) (x:=3) (b:=aa<|.e<|[].map mV)<|by decide).trans<|bg W.w 3 _) (iP w b.w rfl b.e) (v:=bp (o,[])) rfl (by rw[bq,bX];exact bu<|bj s.2.1 bl) λF=>bN ⟨trivial,d F⟩
noncomputable def Ln(a:be->Nat)(r:Nat->Nat)(t:be):Nat:=be.casesOn t (λi=>a<|.p i) (λi=>a<|.e i) (a .h) (λi=>a<|.g i) (λi=>a<|.f i) r
def Z.L(z:Z H W)(s:Nat->Nat)(a:Nat->Option O)(h:∀i o,a i=aa o->W.w (s i)=aa o)(C:∀i j o p,a i=aa o->a j=aa p->s i=s j->i=j):
  ∃F:Z H {W with w:=a,r:=λi=>W.r (s i)},z.e=F.e:=by
 have D:DP (fc H W.w) W.r z.f z.h z.d:=z.g
 have d:∀t o,fc H a t=aa o->∃u,fc H W.w u=aa o/\Ln z.f (λi=>W.r<|s i) t=z.f u/\(t=u/\(∀i,t≠.w i)\/∃i,t=.w i/\u=.w (s i)):=λt o e=>by
  cases t with
  |w i=>exact⟨.w<|s i,h i o e,(D.e<|s i).symm,.inr ⟨i,rfl,rfl⟩⟩
  |p i=>exact⟨.p i,e,rfl,.inl ⟨rfl,λi q=>be.noConfusion q⟩⟩
  |e i=>exact⟨.e i,e,rfl,.inl ⟨rfl,λi q=>be.noConfusion q⟩⟩
  |h=>exact⟨.h,e,rfl,.inl ⟨rfl,λi q=>be.noConfusion q⟩⟩
  |g i=>exact⟨.g i,e,rfl,.inl ⟨rfl,λi q=>be.noConfusion q⟩⟩
  |f i=>exact⟨.f i,e,rfl,.inl ⟨rfl,λi q=>be.noConfusion q⟩⟩
 refine⟨⟨Ln z.f λi=>W.r<|s i,z.h,z.d,⟨λi=>rfl,λt o e=>?_,λt u o p m n g=>?_,D.h⟩⟩,rfl⟩
 ·refine aV (d t o e) λv b=>?_
  rw[b.2.1];exact D.f v o b.1
 ·refine aV (d t o m) λv b=>aV (d u p n) λw c=>?_
  have q:=D.inj v w o p b.1 c.1<|b.2.1.symm.trans<|g.trans c.2.1
  refine b.2.2.elim (λx=>c.2.2.elim (λy=>x.1.trans<|q.trans y.1.symm) λy=>?_) λx=>c.2.2.elim (λy=>?_) λy=>?_
  ·exact aB y λj A k=>aD (x.1.trans<|q.trans k)<|x.2 _
  ·exact aB x λi B l=>aD (y.1.trans<|q.symm.trans l)<|y.2 _
  ·refine aB x λi B l=>aB y λj A k=>?_
   subst B A
   exact aQ be.w<|C i j o p m n<|be.w.inj<|l.symm.trans<|q.trans k
section
variable{W:bh}{Y:List Int}
def BN(K:aG P)(z:Z H (W.e Y k))(f:Y.length<1000)(g:k<2^20){many:Nat}(h:0<many)(j:many<60){i:Nat}{e:E}{b:Ss}{Q:Fl->List V->St->Prop}(p:ev P m z.e (.e 1)=aa (.f<|.e 0))(r:ev P m z.e e=aa (.e many))(q:∀v:Nat,v<many->∀z:Z H (W.e Y<|k+1),eG (λx m σ k=>i<m.length/\x≠.q/\aP (cx P) (n+1) b (m.set i x) σ k) (λc=>True) (aH<|bM<|v+1) m z.e<|f7 P (n+1) X Q):aP (cx P) (n+1) (.e (.q i (.f 6<|.e (.J .e (.p 1)<|.f 24<|.e (.e 1)<|.e e .f) .f) b) X) m z.e Q:=by
 refine mS<|dW K K.G.e rfl<|kM K (u:=.e 1) rfl<|mD (n:=n) K z f g h p r λv d s=>.inl ⟨.e (v+1:Nat),?_,tC (sA (a:=0) bl<|bj (aL d j) bl) ⟨aH<|bM<|v+1,λc=>True,?_,q v d s⟩⟩;·show aa (V.e<|1+(v:Int))=_;rw[wI];rfl
 ·exact aQ (λo=>dZ (λl=>(l,λc=>True)) o)<|aQ aa<|su<|v+1
end
def Hm(K:aG P){s:Int}(b:LB f W r s)(d:Y.length<1000){Inv:Nat->Hp->List Nd->List (Nat×Nat)->Prop}(D:DI Inv){M:V->List V}(g:∀v x,i<(M v).length/\(M v).set i x=M x/\(M v)[1]? =aa (.f<|.e 0)/\(M v)[5]? =aa (.f<|.e 17))(z:Z H ((W.h a c).e Y k))(v:V)(h:Inv 1 H a c/\Inv 2 H a c)(j:k+16<2^20)(q:∀{H:Hp}{a:List Nd}{c:List (Nat×Nat)}{l:Nat}(z:Z H ((W.h a c).e Y l))(v:V),l<=k+11->Inv 0 H a c->aP (cx P) (n+8) X (M v) z.e Q):aP (cx P) (n+8) (.e (.q i (.f 6<|.e (.J .e (.p 1)<|.f 24<|.e (.e 1)<|.e (.p 2) .f) .f)<|.e (.f<|.f 30<|.e (.e 1)<|.e (.e 5) .f) .f) X) (M v) z.e Q:=by
 refine BN (n:=n+7) K z d (aL (bB ..) j) (many:=2) bl bl (by show((M v)[1]?).bind c8=_;rw[(g v v).2.2.1];rfl) rfl λw m t=>?_;have o:(aH<|bM<|w+1).length=w+1:=by rw[bK,f9]
 have p:5*(aH<|bM<|w+1).length<=10:=by rw[o];exact jc 5<|jA m
 refine To (n:=n) K b d D g (aH<|bM<|w+1) t v ?_ (λx u=>?_) (aL (dr (cy p _) 5) j) λz v A B=>q z v (ay A<|by rw[fA,hY 1];exact cy (eM p) k) B
 ·rw[o];rcases Nat.le_one_iff_eq_zero_or_eq_one.mp (f_ m)with e|e;·rw[e];exact h.1
  ·rw[e];exact h.2
 ·exact aB (cq.mp u) λy C e=>e▸λe=>V.noConfusion e
def Qi(K:aG P){s:Int}(b:LB f W r s){pairs:List (Nat×Nat)}(t:W.w 3=aa (cI rows))(u:W.w 4=aa (.e<|pairs.map mV))(v:rows.length<60)(w:pairs.length<2^19)(z:Z H W)(d g:Nat)(h:d≠4)(k:aT z.e (.e 23)=aa (.e l))(A:l.length<60)(B:6<W.f.length)(C:m[9]? =aa (.f<|.e 23))(D:m[5]? =aa (.f<|.e 17))(q:∀x y(z:Z H (((W.g d x<|cI rows).g g y<|.e<|pairs.map mV).t<|W.f.set 6<|aa<|.e<|l++[.h [.f<|.f x,.f<|.f y]])),aP (cx P) n Y m z.e Q):aP (cx P) n (.e (.f<|.g 0 (.e 9)<|.e (.F<|.e (.f 4<|.e (.q (.e 5)<|.y "rows") .f)<|.e (.f 4<|.e (.q (.e 5)<|.y "pairs") .f) .f) .f) Y) m z.e Q:=by
 have p:∀σ,ev P m σ (.e 5)=aa (.f<|.e 17):=λσ=>by show(m[5]?).bind c8=_;rw[D];rfl
 refine d9<|oF K (o:=.e 9) (by show(m[9]?).bind c8=_;rw[C];rfl) k F.slot_list_append rfl<|oz<|j7<|dW K K.G.h rfl<|aJ K (iP z b.w (p _) b.e)<|vC (l:=rows.map bp) (pi<|z.q t) (by rw[bq,bX];exact bu<|bj v bl)<|.inr ⟨.f z.h,z.g.g _,?_⟩;refine aV (z.t d<|cI rows) λc G=>?_;rw[show bi z.e (.f z.h) (.e<|rows.map bp)=_ from G];generalize z.h=x at c;have I:aT c.e (.e 23)=aa (.e l):=k;have J:aT c.e (.f<|W.r 4)=aa (.e<|pairs.map mV):=by have:=c.q (j:=4)<|(aI (f:=W.w) (a:=d) (x:=4) (b:=aa<|cI rows) h.symm).trans u;rw[show(W.g d x<|cI rows).r 4=W.r 4 from aI h.symm]at this;exact this
 refine dW K K.G.h rfl<|aJ K (iP c (W:=W.g d x<|cI rows) b.w (p _) b.g)<|vC (l:=pairs.map mV) (pi J) (by rw[bq,bX];exact bu<|bj w bl)<|.inr ⟨.f c.h,c.g.g _,?_⟩;refine aV (c.t g<|.e<|pairs.map mV) λe L=>?_;rw[show bi c.e (.f c.h) (.e<|pairs.map mV)=_ from L];generalize c.h=y at e;have M:aT e.e (.e 23)=aa (.e l):=I;refine o9 M (by rw[bX];exact bu<|bj A bl) ?_;exact aV (e.p (i:=6) (.e<|l++[.h [.f<|.f x,.f<|.f y]]) B) λN R=>jY R<|q x y N
section
variable{W:bh}
noncomputable abbrev vA(f:ah->Option V)(x y:Nat):ah->Option V:=cD (cD f "rows"<|aa<|.f<|.f x) "pairs"<|aa<|.f<|.f y
def Qn(K:aG P){tl:List (Option O)}(z:Z H (W.t<|aa (.h f)::tl))(e:∀u,eW<|cD f "rows" u)(g:eW f)(b:aT z.e (.e 23)=aa (.e<|l++[.h [.f<|.f x,.f<|.f y]]))(h:l.length<60)(j:5<tl.length)(k:m[9]? =aa (.f<|.e 23))(p:m[5]? =aa (.f<|.e 17))(q:∀z:Z H (W.t<|aa (.h<|vA f x y)::tl.set 5 (aa<|.e l)),aP (cx P) n Y m z.e Q):aP (cx P) n (.e (.p [(.f (.e 5)<|.y "rows"),(.f (.e 5)<|.y "pairs")]<|.g 2 (.e 9) .f) Y) m z.e Q:=by
 have c:∀σ,ev P m σ (.e 5)=aa (.f<|.e 17):=λσ=>by show(m[5]?).bind c8=_;rw[p];rfl
 refine gF<|ny K (o:=.e 9) (vs:=[]) (by show(m[9]?).bind c8=_;rw[k];rfl) b F.slot_list_pop rfl rfl<|p7 (l:=l) (v:=.h [.f<|.f x,.f<|.f y]) b (by rw[bX];exact bj h bl) ⟨_,.inl rfl,rfl,?_⟩;refine aV (z.p (i:=6) (.e l)<|jS j) λa r=>?_;rw[show bi z.e (.e 23) (.e l)=a.e from r];refine tw<|vw K (x:="rows") (f:=f) (c _) rfl rfl g ?_;refine aV (a.p (i:=0) (.h<|cD f "rows"<|aa<|.f<|.f x)<|mJ _) λd s=>?_;rw[show bi a.e (.e 17) _=d.e from s];exact tw<|vw K (x:="pairs") (f:=cD f "rows"<|aa<|.f<|.f x) (c _) rfl rfl (e _)<|aV (d.p (i:=0) (.h<|vA f x y)<|mJ _) λt w=>BW<|jY w<|q t
end
def Cl(a:List Nd)(b:List (Nat×Nat))(r:Nat->Nat):Prop:=(∀p∈b,r p.1=r p.2)/\∀(i j:Nat)(k l:Nd),a[i]? =aa k->a[j]? =aa l->k.1=l.1->k.2.map r=l.2.map r->r i=r j
def Sd(b:List Nd)(c:List (Nat×Nat))(h:Nat->Nat):Prop:=∀r,Cl b c r->∀a,r (h a)=r a
def Cl.f(c:Cl (a++[k]) b r):Cl a b r:=⟨c.1,λi j k l d e=>c.2 i j k l ((gM (b_.mp d).1).trans d)<|(gM (b_.mp e).1).trans e⟩
def Cl.e{b qs:List (Nat×Nat)}(h:∀p∈b,p∈qs)(c:Cl a qs r):Cl a b r:=⟨λp d=>c.1 p<|h p d,c.2⟩
def Kq(e:∀a,r (h a)=r a)(l:List Nat):(l.map h).map r=l.map r:=fh.trans<|kS λa b=>e a
def sw(b:List Nat)(a:Nat):ak b a<=a:=by induction a using AK with
 |ind a c=>
  rw[zl];by_cases h:b.getD a a<a;·rw[aq h];exact ay (c _ h)<|bu h
  ·rw[ap h];exact bb a
def mB(h:b.length<=a):ak b a=a:=by rw[zl,jy,nH h];exact ap<|dE a
def Ly(j:kr a)(f:k<g)(i:a[g]? =aa g)(l:a[k]? =aa k)(x:Nat):ak (a.set g k) x=if ak a x=g then k else ak a x:=by
 induction x using AK with
 |ind x m=>
  by_cases e:x=g
  ·subst e
   have s:(a.set x k)[x]? =aa k:=mG (b_.mp i).1
   refine af (sy s f)<|af (iY i) ?_;refine af (aq rfl) ?_;rw[iY<|(kR<|iJ f).trans l]
  ·have s:(a.set g k)[x]? =a[x]? :=kR<|dM e
   cases b:a[x]? with
   |none=>
    refine af (mB<|pH.mp<|s.trans b) ?_;refine af (mB<|pH.mp b) ?_;rw[ap e]
   |some c=>
    by_cases h:c=x
    ·subst h
     refine af (iY<|s.trans b)<|af (iY b) ?_;rw[ap e]
    ·have d:=mI (j x c b) h
     exact af (sy (s.trans b) d)<|(sy b d).symm▸m c d
def FO(a:List Nat)(b d:List Nd)(i:Nat)(e:Nd->Option Nat)(c:List (Nat×Nat))(R:(Nd->Option Nat)×List (Nat×Nat)):Prop:=(∀s v,e s=aa v->R.1 s=aa v)/\(∀p∈c,p∈R.2)/\(∀(n:Nat)(k:Nd),d[n]? =aa k->∃v,R.1 (dG a k)=aa v/\(v,i+n)∈R.2)/\∀p∈R.2,p∈c\/∃k l,b[p.1]? =aa l/\b[p.2]? =aa k/\dG a l=dG a k
def FO.e(e:b[i]? =aa k)(f:∀s v,fs s=aa v->c s=aa v)(g:c (dG a k)=aa v)(j:∃l,b[v]? =aa l/\dG a l=dG a k)(s:FO a b d (i+1) c (ws++[(v,i)]) R):FO a b (k::d) i fs ws R:=by
 refine(ij (λt w h=>s.1 t w<|f t w h) (λp h=>s.2.1 p<|jz _ h) (λn l h=>?_) λp h=>?_)
 ·cases n with
  |zero=>obtain rfl:=bo h;exact(aC v (s.1 _ _ g)<|s.2.1 _<|jR _ bk)
  |succ n=>
   have:=s.2.2.1 n l h
   rw[fA,hY 1]at this
   exact this
 ·refine(s.2.2.2 p h).elim (λh=>(fi.mp h).elim .inl λh=>?_) .inr
  obtain rfl:=cP.mp h
  exact aB j λl m o=>.inr<|cp k l m e o
def Ug{hs:List Nat}{ns:List Nd}(d:List Nd):∀(i:Nat)(b:Nd->Option Nat)(f:List (Nat×Nat)),(∀(n:Nat)(k:Nd),d[n]? =aa k->ns[i+n]? =aa k)->(∀s v,b s=aa v->∃l,ns[v]? =aa l/\dG hs l=s)->FO hs ns d i b f (ji hs d i b f):=by
 induction d with
 |nil=>exact λi b f c c=>(ij (λc c h=>h) (λc h=>h) (λn k h=>aY h) λc h=>.inl h)
 |cons k d m=>
  intro i b f o j
  have p:∀(n:Nat)(k:Nd),d[n]? =aa k->ns[i+1+n]? =aa k:=λn l h=>by refine af (fA ..) ?_;rw[hY 1];exact o (n+1) l h
  have g:ns[i]? =aa k:=o 0 k rfl
  cases h:b (dG hs k)with
  |some v=>rw[tL h];exact FO.e g (λc c h=>h) h (j _ v h)<|m (i+1) b _ p j
  |none=>
   rw[tL h]
   refine FO.e g (λs v a=>(aI λe=>by rw[e,h]at a;exact aY a).trans a) (bg ..) (aC k g rfl)<|m (i+1) _ _ p λs v a=>?_
   by_cases e:s=dG hs k
   ·rw[e,bg]at a;obtain rfl:=bo a;exact(aC k g e.symm)
   ·rw[aI e]at a;exact j s v a
structure HI(ns:List Nd)(ps:List (Nat×Nat))(hs:List Nat):Prop where
 n:hs.length=ns.length
 g:∀a c:Nat,hs[a]? =aa c->c<=a
 e:∀r,Cl ns ps r->∀a c:Nat,hs[a]? =aa c->r c=r a
def ZN(h:∀x,f x<=x)(l:List Nat):(l.map f).sum<=l.sum/\∀x∈l,f x<x->(l.map f).sum<l.sum:=by induction l with|nil=>exact⟨bb _,λx a=>aD a cX⟩|cons y l b=>exact⟨fL (h y) b.1,λx a c=>(db (cB.mp a) (λe=>(Oz (e▸c) b.1)) λa=>Nat.add_lt_add_of_le_of_lt (h y)<|b.2 x a c)⟩
def xP(a:List Nd)(b:List (Nat×Nat))(p:Nat×Nat):Prop:=p.1<a.length/\p.2<a.length/\∀r,Cl a b r->r p.1=r p.2
theorem HI.h(I:HI f i b)(w:xP f i p)(z:min (b.getD p.1 0) (b.getD p.2 0)≠max (b.getD p.1 0) (b.getD p.2 0)):HI f i (qM b (min (b.getD p.1 0)<|b.getD p.2 0)<|max (b.getD p.1 0)<|b.getD p.2 0)/\(qM b (min (b.getD p.1 0)<|b.getD p.2 0)<|max (b.getD p.1 0)<|b.getD p.2 0).sum<b.sum:=by
 have q:=gS (l:=b) 0<|I.n.symm▸w.1;have s:=gS (l:=b) 0<|I.n.symm▸w.2.1;have t:∀r,Cl f i r->r (b.getD p.1 0)=r (b.getD p.2 0):=λr c=>(I.e r c _ _ q).trans<|(w.2.2 r c).trans (I.e r c _ _ s).symm;have u:max (b.getD p.1 0) (b.getD p.2 0)∈b:=(u4 (b.getD p.1 0)<|b.getD p.2 0).elim (λh=>by rw[w9 h];exact fF s) λh=>by rw[w8 h];exact fF q
 have j:min (b.getD p.1 0) (b.getD p.2 0)<max (b.getD p.1 0) (b.getD p.2 0):=mI (ay (lQ ..)<|wY ..) z;have m:∀r,Cl f i r->r (min (b.getD p.1 0)<|b.getD p.2 0)=r (max (b.getD p.1 0)<|b.getD p.2 0):=λr c=>(u4 (b.getD p.1 0)<|b.getD p.2 0).elim (λh=>by rw[w9 h,AF h];exact t r c) λh=>by rw[w8 h,AG h];exact(t r c).symm
 generalize min (b.getD p.1 0) (b.getD p.2 0)=k at j m;generalize max (b.getD p.1 0) (b.getD p.2 0)=g at j m u;have v:∀x,(if x=g then k else x)<=x:=λx=>by
  by_cases e:x=g;·rw[aq e,e];exact bu j
  ·rw[ap e];exact bb x
 have y:∀a c:Nat,(qM b k g)[a]? =aa c->∃x,b[a]? =aa x/\(if x=g then k else x)=c:=λa c h=>fj.mp<|fT.symm.trans h;refine⟨⟨(bq ..).trans I.n,λa c h=>aB (y a c h) λx n o=>o▸ay (v x) (I.g a x n),λr c a d h=>aB (y a d h) λx n o=>o▸(uK ?_<|I.e r c a x n)⟩,(ZN v b).2 g u (by exact(aq rfl).symm▸j)⟩;by_cases e:x=g;·rw[aq e,e];exact m r c
 ·rw[ap e]
def aap(b:List (Nat×Nat)):∀(a:List Nat)(c:Bool),HI d f a->(∀p∈b,xP d f p)->HI d f (gZ b a c).1/\(gZ b a c).1.sum<=a.sum/\((gZ b a c).2=true->c=true\/(gZ b a c).1.sum<a.sum)/\((gZ b a c).2=false->∀p∈b,a.getD p.1 0=a.getD p.2 0):=by induction b with
 |nil=>exact λa c I i=>(ij I (bb _) (.inl) λi p n=>aD n cX)
 |cons p b j=>
  intro a c I k;have l:∀q∈b,xP d f q:=λq g=>k q<|bR _ g;by_cases e:min (a.getD p.1 0) (a.getD p.2 0)=max (a.getD p.1 0) (a.getD p.2 0);·refine af (show gZ (p::b) a c=gZ b a c from aq e) ?_;have s:=j a c I l;refine(ij s.1 s.2.1 s.2.2.1 λh q g=>(cB.mp g).elim (λo=>?_)<|s.2.2.2 h q);subst o;exact j8 (ay (wY ..)<|e▸u7 ..)<|ay (OE ..)<|e▸lQ ..
  ·refine af (show gZ (p::b) a c=gZ b _ true from ap e) ?_;have u:=I.h (k p bk) e;have s:=j _ true u.1 l;have m:=aL s.2.1 u.2;exact(ij s.1 (bu m) (λi=>.inr m) λh=>by rw[MM]at h;exact dK h)
def HY{n a c:Nat}(h:(bM n)[a]? =aa c):a=c:=aV (b_.mp h) λl e=>(N_ ..).symm.trans e
def HI.f(ns:List Nd)(ps:List (Nat×Nat)):HI ns ps (bM ns.length):=⟨f9,λa c h=>bf (HY h).symm,λr x_ a c h=>aQ r (HY h).symm⟩
def Lz(I:HI b d e)(c:Cl b d r)(f:∀x∈k.2,x<b.length):(dG e k).2.map r=k.2.map r:=fh.trans<|kS λa g=>I.e r c _ _<|gS 0<|I.n.symm▸f a g
def Jw(A:l6 ns)(o:∀p∈d,p.1<ns.length/\p.2<ns.length)(I:HI ns d hs):HI ns d (gW ns d hs).1/\((gW ns d hs).2=true->(gW ns d hs).1.sum<hs.sum)/\((gW ns d hs).2=false->Cl ns d λa=>hs.getD a 0):=by have f:=Ug (hs:=hs) (ns:=ns) ns 0 (λt=>ae) d (λn k h=>by refine af (j9 ..) ?_;exact h) λs v h=>aY h;have q:∀(i:Nat)(k:Nd),ns[i]? =aa k->i<ns.length/\∀x∈k.2,x<ns.length:=λi k h=>⟨(b_.mp h).1,λx B=>bj ((A i k h).2 x B) (b_.mp h).1⟩;have C:∀p∈(ji hs ns 0 (λt=>ae) d).2,xP ns d p:=λp h=>(f.2.2.2 p h).elim (λh=>⟨(o p h).1,(o p h).2,λr c=>c.1 p h⟩) λh=>dA h λk l g m y=>⟨(q _ _ g).1,(q _ _ m).1,λr c=>c.2 _ _ l k g m (aQ (λs:Nd=>s.1) y:(dG hs l).1=(dG hs k).1)<|(Lz I c (q _ _ g).2).symm.trans<|(aQ (λs:Nd=>s.2.map r) y).trans<|Lz I c (q _ _ m).2⟩;have u:=aap (ji hs ns 0 (λt=>ae) d).2 hs false I C;refine⟨u.1,λh=>(u.2.2.1 h).resolve_left λe=>ff e,λh=>⟨λp o=>u.2.2.2 h p<|f.2.1 p o,λi j k l g m D F=>?_⟩⟩;refine aB (f.2.2.1 i k g) λv z G=>aB (f.2.2.1 j l m) λw H J=>?_;rw[(show dG hs k=dG hs l from q9 D F),H]at z;have a:=u.2.2.2 h _ G;have b:=u.2.2.2 h _ J;rw[j9]at a b;rw[<-bo z]at a;exact a.symm.trans b
def Jv(I:HI d f e)(c:Cl d f λa=>e.getD a 0)(i:Sd d f (ak b))(j:Cl d f (ak b)):e=(bM d.length).map (ak b):=by refine NT (I.n.trans ((bq ..).trans f9).symm) λa h k=>?_;have g:=fg h;exact af (EM ..)<|af (N_ ..)<|j8 ((show e.getD (ak b a) 0=e[a]from(i _ c a).trans<|(jy ..).trans<|aQ (Option.getD · 0) g)▸I.g _ _ (gS 0<|aL (sw b a) h))<|I.e _ j a _ g▸sw b _
section
variable{X qs:List (Nat×Nat)}
noncomputable def sm(f:Nat->Nat)(n:Nat):Nat:=E7 0 (λi s=>s+f i) n
def zu(f:Nat->Nat)(c v n:Nat):(n<=c->sm (ai f c v) n=sm f n)/\(c<n->sm (ai f c v) n+f c=sm f n+v):=by induction n with
 |zero=>exact⟨λb=>rfl,λh=>aD h<|oQ _⟩
 |succ n a=>
  refine⟨λh=>?_,λh=>?_⟩;·show sm (ai f c v) n+ai f c v n=sm f n+f n;refine af (a.1<|bu h) ?_;rw[aI<|bZ h]
  ·show sm (ai f c v) n+ai f c v n+f c=sm f n+f n+v;by_cases e:n=c;·subst e;refine af (a.1<|bb n)<|af (bg ..) ?_;rw[dL]
   ·refine af (aI e)<|af (dL ..) ?_;refine af (a.2<|mI (f_ h)<|dM e) ?_;rw[dL]
def wm(h:∀i,i<n->f i<=g i):sm f n<=sm g n:=by induction n with|zero=>exact bb 0|succ n a=>exact fL (a λi b=>h i<|cY b)<|h n<|bY n
def L1(k n:Nat):sm (λb=>k) n=n*k:=by induction n with|zero=>exact(Nat.zero_mul k).symm|succ n a=>exact(aQ (·+k) a).trans (OS ..).symm
def tl(U:Nat->Option (List Nat))(n:Nat):Nat:=sm (λi=>((U i).getD []).length) n
def wq(U:Nat->Option (List Nat))(c:Nat)(v:Option (List Nat))(n:Nat):(n<=c->tl (ai U c v) n=tl U n)/\(c<n->tl (ai U c v) n+((U c).getD []).length=tl U n+(v.getD []).length):=by
 have e:(λi=>((ai U c v i).getD []).length)=ai (λi=>((U i).getD []).length) c (v.getD []).length:=by
  funext i;by_cases h:i=c;·rw[h,bg,bg]
  ·rw[aI h,aI h]
 unfold tl;exact e.symm▸zu _ c _ n
def wo(h:U c=aa l)(a:c<n):l.length<=tl U n:=by have e:=(wq U c ae n).2 a;rw[h]at e;exact ay (qZ ..)<|bf e
def sum_set{l:List Nat}:∀{i:Nat},l[i]? =aa a->(l.set i b).sum+a=l.sum+b:=by induction l with|nil=>exact λh=>aY h|cons x l c=>intro i h;cases i with|zero=>obtain rfl:=bo h;show b+l.sum+x=x+l.sum+b;rw[dL,hY b x,dL]|succ i=>show x+(l.set i b).sum+a=x+l.sum+b;rw[fA,c h,fA]
noncomputable def mu(H:Hp):Nat:=20*H.e.sum+H.F.length
def ph(H:Hp):Nat:=H.p.length+3*mu H
structure GI(H:Hp)(X:List (Nat×Nat)):Prop where
 n:H.f.length<=18
 g:H.e.length=H.f.length
 q:H.q.length=H.e.length
 h:kr H.e
 d:l6 H.f
 Y:∀(c:Nat)(l:List Nat),H.e[c]? =aa c->H.q[c]? =aa l->l.Nodup/\∀x,x∈l↔x<H.e.length/\ak H.e x=c
 z:∀(i:Nat)(l:List Nat),H.q[i]? =aa l->l.length<=18
 F:∀a:Nat,H.e[a]? =aa a->∃l,H.g a=aa l
 y:∀i,H.g i≠ae->i<H.f.length
 U:∀(c:Nat)(l:List Nat),H.g c=aa l->∀x∈l,x<H.f.length
 b:tl H.g H.f.length<=18
 u:∀(i:Nat)(k:Nd),H.f[i]? =aa k->∀x∈k.2,∃l,H.g (ak H.e x)=aa l/\i∈l
 N:∀(s:Nd)(o:Nat),H.t s=aa o->∃k,H.f[o]? =aa k/\k.1=s.1/\∀r,Cl H.f X r->k.2.map r=s.2.map r
 j:∀s,H.t s≠ae->dH.f s∈H.p
 t:Sd H.f X (ak H.e)
 T:∀p∈X,p.1<H.f.length/\p.2<H.f.length/\ak H.e p.1=ak H.e p.2
 A:∀x∈H.F,x<H.f.length
 J:H.T.length=H.f.length
 Z:H.Y.length=H.f.length
 v:∀(i:Nat)(w:Int),H.T[i]? =aa w->0<=w/\w<2^(i+1)
 e:H.U.length<=H.p.length
 f:H.a.length<=H.p.length
 m:H.Z.length<=H.p.length
 p:ph H<2^17
structure Gr(H H':Hp):Prop where
 n:∃t,H'.f=H.f++t
 r:∀y z,ak H.e y=ak H.e z->ak H'.e y=ak H'.e z
 m:H'.J=H.J
 b:H'.h=H.h
def Gr.e:Gr A A:=⟨⟨[],(hK _).symm⟩,λa a h=>h,rfl,rfl⟩
theorem Gr.g(g:Gr A B)(h:k∈A.f):k∈B.f:=aV g.n λt e=>e▸jz _ h
def Gr.f(g:Gr A B)(h:Gr B C):Gr A C:=⟨aV g.n λt e=>aV h.n λu a=>⟨t++u,by rw[a,e,lN]⟩,λy z q=>h.r y z<|g.r y z q,h.m.trans g.m,h.b.trans g.b⟩
def Kc(H:Hp)(j:Nat):Prop:=j∈H.F\/∃k o,H.f[j]? =aa k/\H.t (bG H k)=aa o/\ak H.e o=ak H.e j
abbrev JH(H:Hp)(m k g:Nat)(a b:List Nat)(x:V):Hp:=CD (H.y<|H.p++[.e k m g ae]) H.p m k g a b x
def y9(h:l.length<=c.length):(l++[x]).length<=(c++[y]).length:=by rw[bm,bm];exact eM h
def qB{l:List b}(h:l.length<=c.length):l.length<=(c++[y]).length:=by exact af bm<|mH h
def vB{l:List Nat}(a:l.Nodup)(h:∀x∈l,x<N):l.length<=N:=by have:=nF a λx b=>fz.mpr<|h x b;rwa [f9]at this
def GI.a5(I:GI H X){k g m:Nat}{f d:List Nat}(A:k<g)(B:H.e[k]? =aa k)(C:H.e[g]? =aa g)(J:H.g k=aa f)(z:H.g g=aa d)(L:∀p∈X,p∈qs)(hr:∀r,Cl H.f qs r->r k=r g)(hq:∀p∈qs,p∈X\/p.1<H.f.length/\p.2<H.f.length/\ak (H.e.set g k) p.1=ak (H.e.set g k) p.2):GI (JH H m k g f d x) qs/\ph (JH H m k g f d x)+5<=ph H/\mu (JH H m k g f d x)<mu H/\tl (JH H m k g f d x).g H.f.length<=tl H.g H.f.length:=by
 have R:=Ly I.h A C B;have D:=(b_.mp C).1;have lk:=(b_.mp B).1;have M:g<H.f.length:=I.g▸D;have W:k<H.f.length:=I.g▸lk;have w:k≠g:=bZ A;have bw:d.length<=18:=ay (wo z M) I.b;have hs:(H.e.set g k).sum+g=H.e.sum+k:=sum_set C;have Y:mu (JH H m k g f d x)+2<=mu H:=by show 20*(H.e.set g k).sum+(H.F++d).length+2<=20*H.e.sum+H.F.length;exact af bm<|WH (E3 (b:=k)<|ay (bf<|AM ..)<|ay (cy A _)<|bf hs) bw
 have ac:ph (JH H m k g f d x)+5<=ph H:=by show(H.p++[_]).length+3*mu (JH H m k g f d x)+5<=H.p.length+3*mu H;exact af bm<|ay (bf<|aQ (·+5)<|dL H.p.length 1 _)<|cy (jc 3 Y) _
 have N:(H.e.set g k).length=H.e.length:=oM ..;have P:=I.Y k _ B<|gS []<|I.q▸lk;have Q:=I.Y g _ C<|gS []<|I.q▸D;have rt:∀c:Nat,(H.e.set g k)[c]? =aa c->c≠g/\H.e[c]? =aa c:=λc h=>by
  by_cases e:c=g;·rw[e,mG D]at h;exact aD (bo h) w
  ·exact⟨e,(kR<|dM e).symm.trans h⟩
 have F:qw (H.y<|H.p++[.e k m g ae]) k g f d k=aa (f++d):=bg ..;have G:∀c,c≠k->c≠g->qw (H.y<|H.p++[.e k m g ae]) k g f d c=H.g c:=λc u j=>(aI u).trans<|aI j;have ht:tl (ai (ai H.g g ae) k<|aa<|f++d) H.f.length<=tl H.g H.f.length:=by have a:=(wq H.g g ae H.f.length).2 M;have b:=(wq (ai H.g g ae) k (aa<|f++d) H.f.length).2 W;rw[aI w,J]at b;rw[z]at a;have a:tl (ai H.g g ae) H.f.length+d.length=tl H.g H.f.length:=a;have b:tl (ai (ai H.g g ae) k<|aa<|f++d) H.f.length+f.length=tl (ai H.g g ae) H.f.length+(f++d).length:=b;rw[bm,<-fA,dL]at b;exact bf<|(OA b).trans a
 have au:∀(c:Nat)(l:List Nat),(H.e.set g k)[c]? =aa c->(H.q.set k<|H.q.getD k []++H.q.getD g [])[c]? =aa l->l.Nodup/\∀x,x∈l↔x<H.e.length/\ak (H.e.set g k) x=c:=λc l u j=>by
  have rc:=rt c u;by_cases e:c=k
  ·subst e;rw[mG<|I.q▸lk]at j;obtain rfl:=bo j;refine⟨s8.mpr ⟨P.1,Q.1,λa ha b hb e=>?_⟩,λx=>?_⟩;·exact w<|((P.2 a).mp ha).2.symm.trans (e▸((Q.2 b).mp hb).2)
   ·rw[fi,P.2,Q.2,R];refine⟨λh=>h.elim (λh=>⟨h.1,(ap λe=>w<|h.2.symm.trans e).trans h.2⟩) λh=>⟨h.1,aq h.2⟩,λh=>?_⟩;by_cases e:ak H.e x=g;·exact .inr ⟨h.1,e⟩
    ·exact .inl ⟨h.1,(ap e).symm.trans h.2⟩
  ·rw[kR<|dM e]at j;have s:=I.Y c l rc.2 j;refine⟨s.1,λx=>?_⟩;rw[s.2,R];refine⟨λh=>⟨h.1,(ap λe=>rc.1<|h.2.symm.trans e).trans h.2⟩,λh=>⟨h.1,?_⟩⟩;by_cases e':ak H.e x=g;·rw[aq e']at h;exact aD h.2.symm e
   ·exact(ap e').symm.trans h.2
 refine(ij (⟨I.n,N.trans I.g,(oM ..).trans<|I.q.trans N.symm,λa b h=>?_,I.d,λc l u j=>N.symm▸au c l u j,λi l h=>?_,λa h=>?_,λi h=>?_,λc l h y n=>?_,ay ht I.b,λi s hi y n=>?_,λs o h=>?_,λs h=>jz _<|I.j s h,λr c y=>?_,λp h=>?_,λy n=>?_,I.J,I.Z,I.v,y9 I.e,y9 I.f,y9 I.m,?_⟩) ac (aR (kU bl) Y) ht)
 ·by_cases e:a=g;·rw[e,mG D]at h;exact af e<|(bo h)▸bu A
  ·exact I.h a b<|(kR<|dM e).symm.trans h
 ·by_cases e:i=k;·subst e;rw[mG<|I.q▸lk]at h;obtain rfl:=bo h;have s:=au i _ ((kR<|dM w).trans B)<|mG<|I.q▸lk;exact ay (vB s.1 λy n=>((s.2 y).mp n).1)<|I.g▸I.n
  ·exact I.z i l<|(kR<|dM e).symm.trans h
 ·have ra:=rt a h;by_cases e:a=k;·subst e;exact⟨_,F⟩
  ·exact aV (I.F a ra.2) λl v=>⟨l,(G a e ra.1).trans v⟩
 ·by_cases e:i=k;·exact e▸W
  ·by_cases t:i=g;·exact t▸M
   ·exact I.y i λq=>h<|(G i e t).trans q
 ·by_cases e:c=k;·rw[e,show(JH H m k g f d x).g k=_ from F]at h;replace n:=(bo h)▸n;exact(fi.mp n).elim (I.U k f J y)<|I.U g d z y
  ·by_cases t:c=g;·rw[t,show(JH H m k g f d x).g g=_ from((aI<|dM w).trans<|bg ..)]at h;exact aY h
   ·exact I.U c l ((G c e t).symm.trans h) y n
 ·refine aB (I.u i s hi y n) λl v U=>af (R ..) ?_;by_cases e:ak H.e y=g;·rw[e,z]at v;exact af (aq e) ⟨_,F,jR _<|bo v▸U⟩
  ·refine af (ap e) ?_;by_cases t:ak H.e y=k;·rw[t,J]at v;exact af t ⟨_,F,jz _<|bo v▸U⟩
   ·exact⟨l,(G _ t e).trans v,U⟩
 ·exact cz (I.N s o h) λl u j h3=>(bV l u j λr c=>h3 r<|c.e L)
 ·show r (ak (H.e.set g k) y)=r y;refine af (R ..) ?_;by_cases e:ak H.e y=g;·refine af (aq e)<|af (hr r c) ?_;refine dh e ?_;exact I.t r (c.e L) y
  ·exact af (ap e)<|I.t r (c.e L) y
 ·refine(hq p h).elim (λh=>?_) id;have s:=I.T p h;exact⟨s.1,s.2.1,by refine af (R ..) ?_;refine af (R ..) ?_;rw[s.2.2]⟩
 ·exact(fi.mp n).elim (I.A y)<|I.U g d z y
 ·exact aL (ay (bB ..) ac) I.p
end
section
variable{H:Hp}{Y qs:List (Nat×Nat)}
def JQ{R:Hp->Prop}(d:ak H.e a=ak H.e b->R (CF H (ak H.e a) ((H.g<|ak H.e a).getD []).length<|.h [.e a,.e b,x]))(f:∀k g,k<g->(ak H.e a=k/\ak H.e b=g\/ak H.e a=g/\ak H.e b=k)->R (JH H ((H.g k).getD []).length k g ((H.g k).getD []) ((H.g g).getD [])<|.h [.e a,.e b,x])):R (fE H a b x):=by
 have c:∀k g,(ak H.e a=k/\ak H.e b=g\/ak H.e a=g/\ak H.e b=k)->k<=g->R (vU H k g ((H.g k).getD []) ((H.g g).getD [])<|.h [.e a,.e b,x]):=λk g e i=>by
  unfold vU;by_cases h:k=g;·subst h;rw[aq rfl];have e:ak H.e a=k/\ak H.e b=k:=e.elim id id;have q:=d<|e.1.trans e.2.symm;rw[e.1]at q;exact q
  ·rw[ap h];exact f k g (mI i h) e
 exact(u4 (ak H.e a)<|ak H.e b).elim (λh=>(c _ _ (.inl ⟨(AF h).symm,(w9 h).symm⟩)<|ay (lQ ..)<|wY ..)) λh=>c _ _ (.inr ⟨(w8 h).symm,(AG h).symm⟩)<|ay (lQ ..)<|wY ..
structure JD(H:Hp)(qs:List (Nat×Nat))(a b:Nat)(H':Hp):Prop where
 I:GI H' qs
 p:ph H'<=ph H+1
 F:ak H.e a≠ak H.e b->mu H'<mu H
 e:H'.f=H.f
 h:H'.N=H.N
 f:∀j,(j∈H.F\/∃k o,H.f[j]? =aa k/\H.t (bG H k)=aa o/\(ak H.e o=ak H.e j\/o=a/\j=b))->Kc H' j
 r:ak H'.e a=ak H'.e b
 g:Gr H H'
 t:tl H'.g H.f.length<=tl H.g H.f.length
 J:∀y,ak H'.e y=ak H.e y\/((ak H.e y=ak H.e a\/ak H.e y=ak H.e b)/\(ak H'.e y=ak H.e a\/ak H'.e y=ak H.e b))
 q:∀y z,ak H'.e y=ak H'.e z->ak H.e y=ak H.e z\/((ak H.e y=ak H.e a\/ak H.e y=ak H.e b)/\(ak H.e z=ak H.e a\/ak H.e z=ak H.e b))
def GI.a2(I:GI H Y){a b:Nat}(C:a<H.f.length)(D:b<H.f.length)(w:∀p∈Y,p∈qs)(P:∀p∈qs,p∈Y\/p=(a,b))(Q:∀r,Cl H.f qs r->r a=r b)(hx:ph H+1<2^17):JD H qs a b (fE H a b x):=by
 have U:∀{c},c<H.f.length->ak H.e c<H.e.length/\H.e[ak H.e c]? =aa (ak H.e c):=λh=>iZ I.h<|I.g.symm▸h;refine JQ (λe=>?_) λk g F e=>?_
 ·have W:ph (CF H (ak H.e a) ((H.g<|ak H.e a).getD []).length<|.h [.e a,.e b,x])=ph H+1:=by show(H.p++[_]).length+3*mu H=H.p.length+3*mu H+1;refine af bm<|af (dL ..) ?_;rfl
  refine⟨⟨I.n,I.g,I.q,I.h,I.d,I.Y,I.z,I.F,I.y,I.U,I.b,I.u,λs o h=>?_,λs h=>jz _<|I.j s h,λr c y=>I.t r (c.e w) y,λp h=>(P p h).elim (I.T p) λq=>?_,I.A,I.J,I.Z,I.v,y9 I.e,qB I.f,qB I.m,W▸hx⟩,bf W,λn=>aD e n,rfl,rfl,λj h=>h.elim .inl λh=>dA h λk o d t u=>?_,e,⟨⟨[],(hK _).symm⟩,λv v h=>h,rfl,rfl⟩,bb _,λv=>.inl rfl,λv v h=>.inl h⟩;·exact cz (I.N s o h) λl d t u=>(bV l d t λr c=>u r<|c.e w)
  ·subst q;exact⟨C,D,e⟩
  ·exact .inr<|cp k o d t (u.elim id λh=>by refine af h.1 ?_;refine af h.2 ?_;exact e)
 ·have X:=U C;have lb:=U D;have G:H.e[k]? =aa k:=e.elim (λe=>e.1▸X.2) λe=>e.2▸lb.2;have L:H.e[g]? =aa g:=e.elim (λe=>e.2▸lb.2) λe=>e.1▸X.2;have R:=Ly I.h F L G;have us:∀c:Nat,H.e[c]? =aa c->H.g c=aa ((H.g c).getD []):=λc h=>aV (I.F c h) λl A=>by refine af A ?_;rfl
  have ne:=bZ F;have M:ak (H.e.set g k) a=ak (H.e.set g k) b:=by
   refine af (R ..)<|af (R ..) ?_;refine e.elim (λe=>?_) λe=>?_;·refine af e.1<|af e.2 ?_;refine af (ap ne) ?_;rw[aq rfl]
   ·refine af e.1<|af e.2 ?_;refine af (ap ne) ?_;rw[aq rfl]
  have up:∀y z,ak H.e y=ak H.e z->ak (H.e.set g k) y=ak (H.e.set g k) z:=λy z h=>by refine af (R ..) ?_;refine af (R ..) ?_;rw[h]
  have f:∀{c},c=k\/c=g->c=ak H.e a\/c=ak H.e b:=λh=>e.elim (λe=>h.imp (·.trans e.1.symm) (·.trans e.2.symm)) λe=>h.symm.imp (·.trans e.1.symm) (·.trans e.2.symm);have rt:∀y,ak (H.e.set g k) y=ak H.e y\/((ak H.e y=ak H.e a\/ak H.e y=ak H.e b)/\(ak (H.e.set g k) y=ak H.e a\/ak (H.e.set g k) y=ak H.e b)):=λy=>by
   refine af (R ..) ?_;by_cases q:ak H.e y=g;·exact af (aq q)<|.inr ⟨f<|.inr q,f<|.inl rfl⟩
   ·exact af (ap q)<|.inl rfl
  have J:=I.a5 (qs:=qs) (m:=((H.g k).getD []).length) (x:=.h [.e a,.e b,x]) F G L (us k G) (us g L) w (λr c=>by
   have B:=I.t r<|c.e w;refine e.elim (λe=>?_) λe=>?_;·refine dh e.1<|dh e.2 ?_;refine af (B ..)<|af (B ..) ?_;exact Q r c
   ·refine dh e.1<|dh e.2 ?_;refine af (B ..)<|af (B ..) ?_;exact(Q r c).symm) λp h=>(P p h).imp_right λq=>by subst q;exact⟨C,D,M⟩
  refine⟨J.1,mH<|ay (bB ..) J.2.1,λv=>J.2.2.1,rfl,rfl,λj h=>h.elim (λh=>.inl<|jz _ h) λh=>dA h λs o d t u=>?_,M,⟨⟨[],(hK _).symm⟩,up,rfl,rfl⟩,J.2.2.2,λy=>rt y,λy z h=>?_⟩;rotate_left
  ·have h:ak (H.e.set g k) y=ak (H.e.set g k) z:=h;rw[R,R]at h;by_cases q:ak H.e y=g
   ·by_cases i:ak H.e z=g;·exact .inl<|q.trans i.symm
    ·rw[aq q,ap i]at h;exact .inr ⟨f<|.inr q,f<|.inl h.symm⟩
   ·by_cases i:ak H.e z=g;·rw[ap q,aq i]at h;exact .inr ⟨f<|.inl h,f<|.inr i⟩
    ·rw[ap q,ap i]at h;exact .inl h
  refine db (iG (∃y∈s.2,ak H.e y=g)) (λc=>?_) λc=>?_;·refine aB c λy N e=>aB (I.u j s d y N) λl A hj=>.inl<|jR _ ?_;rw[e]at A;show j∈(H.g g).getD [];exact A.symm▸hj
  ·have es:bG (JH H ((H.g k).getD []).length k g ((H.g k).getD []) ((H.g g).getD [])<|.h [.e a,.e b,x]) s=bG H s:=q9 rfl (kS λy N=>by refine af (R ..) ?_;rw[ap λq=>c<|aC y N q])
   refine .inr<|cp s o d ?_ (u.elim (up o j) λh=>by refine af h.1 ?_;refine af h.2 ?_;exact M);exact es.symm▸t
def GI.a6(I:GI H Y)(a:H.f[i]? =aa k)(b:H.t (bG H k)=aa o)(r:Nat->Nat)(c:Cl H.f Y r):r o=r i:=cz (I.N _ o b) λl d e f=>c.2 o i l k d a e<|(f r c).trans<|Kq (I.t r c) k.2
structure LD(H:Hp)(Y:List (Nat×Nat))(i:Nat)(H':Hp):Prop where
 I:GI H' Y
 p:ph H'<=ph H+1
 q:mu H'<=mu H
 e:H'.f=H.f
 h:H'.N=H.N
 f:∀j,j=i\/Kc H j->j<H.f.length->Kc H' j
 g:Gr H H'
 t:tl H'.g H.f.length<=tl H.g H.f.length
def GI.a1(I:GI H Y){i:Nat}{k:Nd}(b:H.f[i]? =aa k)(t:ph H+1<2^17):LD H Y i (n8 (kD H (bG H k)<|H.t<|bG H k) i (bG H k)<|H.t<|bG H k):=by cases h:H.t (bG H k)with
 |none=>
  have u:ph ((H.y<|H.p++[.f<|bG H k]).a7<|ai H.t (bG H k)<|aa i)=ph H+1:=by show(H.p++[_]).length+3*mu H=H.p.length+3*mu H+1;refine af bm<|af (dL ..) ?_;rfl
  refine⟨⟨I.n,I.g,I.q,I.h,I.d,I.Y,I.z,I.F,I.y,I.U,I.b,I.u,λs o d=>?_,λs w=>?_,I.t,I.T,I.A,I.J,I.Z,I.v,qB I.e,qB I.f,qB I.m,u▸t⟩,bf u,bb _,rfl,rfl,λj f z=>?_,⟨⟨[],(hK _).symm⟩,λa a h=>h,rfl,rfl⟩,bb _⟩
  ·by_cases e:s=bG H k;·subst e;have d:ai H.t _ (aa i) _=aa o:=d;rw[bg]at d;obtain rfl:=bo d;exact(bV k b rfl λr c=>(Kq (I.t r c) k.2).symm)
   ·exact I.N s o<|(aI e).symm.trans d
  ·by_cases e:s=bG H k;·exact e▸jR _ bk
   ·exact jz _<|I.j s λq=>w<|(aI e).trans q
  ·refine f.elim (λe=>by subst e;exact .inr<|cp k j b (bg ..) rfl) λg=>g.elim .inl λg=>dA g λl o m v y=>.inr<|cp l o m ((aI λe=>?_).trans v) y;exact aY<|(h.symm.trans<|aQ H.t e.symm).trans v
 |some o=>
  show LD H Y i (if ak H.e o=ak H.e i then H else fE H o i (.h [.p "like"]));by_cases e:ak H.e o=ak H.e i;·exact af (aq e)<|⟨I,eC _,bb _,rfl,rfl,λj f a=>f.elim (λq=>q▸.inr (cp k o b h e)) id,⟨⟨[],(hK _).symm⟩,λa a h=>h,rfl,rfl⟩,bb _⟩
  ·refine af (ap e) ?_;have J:=I.a2 (qs:=Y) (x:=.h [.p "like"]) (cz (I.N _ o h) λl n a a=>(b_.mp n).1) (b_.mp b).1 (λp h=>h) (λp h=>.inl h) (λr c=>(I.a6 b h) r c) t;exact⟨J.I,J.p,bu<|J.F e,J.e,J.h,λj f a=>J.f j<|f.elim (λq=>.inr<|cp k o (q▸b) h<|.inr ⟨rfl,q⟩) λh=>h.imp_right λh=>dA h λl p n g m=>(cp l p n g<|.inl m),J.g,J.t⟩
end
section
variable{Y qs:List (Nat×Nat)}
def JY{c:List dH}(h:∀s,f s≠ae->dH.f s∈c)(b:c.length<2^20):sT f:=(aC (c.filterMap λx=>dH.casesOn x (λa=>ae) aa λa a a a=>ae) (aL (wU _ _) b) λs d=>Oi.mpr ⟨_,h s d,rfl⟩)
def GI.L{m:Nat}(I:GI ((H.y c).a8 m) Y)(h:H.p.length<=c.length):GW H:=by have p:c.length<2^17:=aL (bB ..) I.p;have w:H.F.length<2^17:=aL (ay (qZ _<|20*H.e.sum)<|ay (OF _ bl)<|qZ ..) (I.p:c.length+3*(20*H.e.sum+H.F.length)<2^17);have a:∀{n:Nat},n<2^17->n<2^19:=λh=>bj h bl;exact⟨⟨aL I.n bl,I.g,I.q,I.h,I.d,I.z,λi l h=>ay (wo h<|I.y i λq=>aY<|q.symm.trans h) I.b,I.g▸aL I.n bl⟩,I.F,I.y,λs o h=>cz (I.N s o h) λl b d d=>(b_.mp b).1,JY I.j<|bj p bl,a<|aL h p,a<|aL I.m p,(λh=>bj h bl)<|aL I.e p,a<|aL I.f p,a w⟩
def zn(b:kr a):ak (a++[a.length])=ak a:=by
 funext x;rcases w6 x a.length with h|h;·exact Lw b h
 ·rw[mB h];refine db (Nat.eq_or_lt_of_le h) (λe=>?_) λh=>?_;·subst e;exact iY lr
  ·exact mB (by rw[bm];exact h)
def Z9(p:∀l,(f l).length<=l.length+1)(n:Nat)(i:List Nat):∀U:Nat->Option (List Nat),(∀c∈i,∃l,U c=aa l)->tl (ly f U i) n<=tl U n+i.length:=by induction i with
 |nil=>exact λU u=>bf<|aQ (tl · n)<|funext λc=>mj cX
 |cons c d k=>
  intro U h;have m:∀x∈d,∃l,U x=aa l:=λx g=>h x<|bR _ g;refine db (iG<|c∈d) (λe=>?_) λe=>?_
  ·have g:∀x,x=c->x∈d:=λx q=>by exact af q e
   exact(CU (a:=c::d) (b:=d) λx=>⟨λq=>(cB.mp q).elim (g x) id,bR _⟩).symm▸ay (k U m) (eC _)
  ·refine aV (h c bk) λl o=>dh (Ko o e)<|ay (k _ λx g=>aV (m x g) λr s=>⟨r,(aI λ(q:x=c)=>e<|q▸g).trans s⟩) ?_;have t:=wq U c (aa<|f l) n;rw[o]at t;exact ay (dr (db (w6 c n) (λj=>(E3<|ay (bf<|t.2 j)<|ay (cy (p l) _)<|bf<|(fA ..).symm.trans<|dL ..)) λj=>ay (bf<|t.1 j)<|eC _) _)<|bf (dL (tl U n) 1 d.length|>.trans (fA ..))
def qz(h:U c=aa l):ly f U a c=aa (if c∈a then f l else l):=by
 by_cases e:c∈a;·rw[qy e,aq e,h];rfl
 ·rw[mj e,ap e,h]
def pq{a b:Nat}(h:a<=b):(2:Int)^a<=2^b:=by exact_mod_cast OO bl h
def Dd{a b n:Int}(c:0<=a/\a<n)(d:0<=b/\b<n):0<=1+(a+(b+0))/\1+(a+(b+0))<n*2:=by rw[uO,NE n 2,NO,<-sP,wI 1 a];exact⟨wJ (wJ c.1<|by decide) d.1,Int.add_lt_add_of_le_of_lt (Int.add_one_le_of_lt c.2) d.2⟩
abbrev B1(H:Hp)(k:Nd)(e:Int):Hp:=((o3 H k e).y<|H.p++[.g H.f.length]).a8<|H.f.length+1
def GI.a0(I:GI H Y){k:Nd}{e:Int}(F:H.f.length<18)(J:k.2.length<=2)(v:∀x∈k.2,x<H.f.length)(ht:tl H.g H.f.length+k.2.length<=18)(f:ph H+1021<2^17):GI (B1 H k e) Y/\ph (Lake.B1 H k e)<=ph H+1021/\(∀j,Kc H j->Kc (Lake.B1 H k e) j)/\tl (Lake.B1 H k e).g (H.f++[k]).length<=tl H.g H.f.length+k.2.length:=by
 have R:ak (H.e++[H.e.length])=ak H.e:=zn I.h
 have W:=(GI.L (m:=H.N) I<|bb _).toHW
 have A:=W.a0 (k:=k) (e:=e) (bj F bl) J v (U:=λx_=>ae) λi l h=>aY h
 have u:(H.f++[k]).length=H.f.length+1:=bm
 have la:(H.e++[H.e.length]).length=H.e.length+1:=bm
 have rN:ak H.e H.f.length=H.f.length:=mB<|bf I.g
 have L:∀c∈k.2.map (ak H.e),c<H.f.length/\∃l,H.g c=aa l:=λc h=>aB (cq.mp h) λx f e=>by
  have:=iZ I.h<|I.g.symm▸v x f
  exact e▸⟨I.g▸this.1,I.F _ this.2⟩
 have U0:ai H.g H.f.length (aa []) H.f.length=aa []:=bg ..
 have B:∀{c l},H.g c=aa l->ai H.g H.f.length (aa []) c=aa l:=λ{c l}h=>(aI λq=>dE _<|q▸I.y c λq=>aY<|q.symm.trans h).trans h
 have M:∀c l,jr (ai H.g H.f.length<|aa []) (k.2.map<|ak H.e) H.f.length c=aa l->(∀x∈l,x<H.f.length+1)/\c<H.f.length+1:=λc l h=>by
  cases t:ai H.g H.f.length (aa []) c with
  |none=>
   by_cases q:c∈k.2.map (ak H.e)
   ·exact aY<|(aQ (dZ _) t).symm.trans<|(qy q).symm.trans h
   ·exact aY<|t.symm.trans<|(mj q).symm.trans h
  |some N=>
   have d:=bo<|(qz t).symm.trans h
   have g:(∀x∈N,x<H.f.length)/\c<H.f.length+1:=by
    by_cases q:c=H.f.length
    ·rw[q,bg]at t;rw[<-bo t];exact⟨λx f=>aD f cX,q▸bY _⟩
    ·rw[aI q]at t;exact⟨I.U c N t,cY<|I.y c λq=>aY<|q.symm.trans t⟩
   refine⟨λx f=>?_,g.2⟩
   by_cases q:c∈k.2.map (ak H.e)
   ·rw[aq q]at d
    subst d
    exact(fi.mp f).elim (λh=>cY<|g.1 x h) λh=>cP.mp h▸bY _
   ·rw[ap q]at d
    exact cY<|g.1 x<|d▸f
 have ut:tl (jr (ai H.g H.f.length<|aa []) (k.2.map<|ak H.e) H.f.length) (H.f.length+1)<=tl H.g H.f.length+k.2.length:=by
  refine ay (Z9 (λl=>bf bm) _ _ _ λc C=>aV (L c C).2 λl d=>⟨l,B d⟩) ?_
  rw[bq]
  show tl _ H.f.length+(((ai H.g H.f.length<|aa []) H.f.length).getD []).length+_<=_
  rw[bg,(wq H.g H.f.length (aa []) H.f.length).1 (bb _)]
  exact bb _
 have P:ph (Lake.B1 H k e)<=ph H+1021:=by
  show(H.p++[_]).length+3*(20*(H.e++[H.e.length]).sum+H.F.length)<=H.p.length+3*(20*H.e.sum+H.F.length)+1021
  rw[bm,Os,I.g]
  exact Xy<|f_ F
 have Q:tl (Lake.B1 H k e).g (H.f++[k]).length<=tl H.g H.f.length+k.2.length:=by
  show tl (jr _ (k.2.map<|ak<|H.e++[H.e.length]) _) (H.f++[k]).length<=_
  rw[R,u];exact ut
 refine⟨⟨u▸F,A.g,A.q,A.h,A.y,λc l g n=>?_,λi l h=>(mY h).elim (I.z i l) λh=>h.2▸bl,λa h=>?_,λi h=>?_,λc l h=>u▸(M c l<|R▸h).1,ay Q ht,λi s h y D=>?_,λs o h=>?_,λs h=>jz _<|I.j s h,λr c y=>?_,λp h=>?_,λy D=>u▸cY (I.A y D),?_,?_,λi w h=>?_,qB I.e,qB I.f,qB I.m,aL P f⟩,P,λj h=>h.elim .inl λh=>dA h λs o g n G=>.inr ⟨s,o,?_,?_,?_⟩,Q⟩
 ·show l.Nodup/\∀x,x∈l↔x<(H.e++[H.e.length]).length/\ak (H.e++[H.e.length]) x=c
  rw[R,la]
  rcases mY n with n|n
  ·have C:c<H.e.length:=I.q▸(b_.mp n).1
   have s:=I.Y c l ((gM C).symm.trans g) n
   refine⟨s.1,λx=>(s.2 x).trans ⟨λh=>⟨cY h.1,h.2⟩,λh=>⟨mI (f_ h.1) λq=>?_,h.2⟩⟩⟩
   rw[q,mB<|bb _]at h
   exact dE _<|h.2▸C
  ·rw[n.1,n.2,I.q]
   refine⟨gD.mpr ⟨cX,nK⟩,λx=>cP.trans ⟨λq=>by subst q;exact⟨bY _,mB<|bb _⟩,λh=>?_⟩⟩
   exact j8 (f_ h.1)<|h.2▸sw H.e x
 ·show∃l,jr _ (k.2.map<|ak<|H.e++[H.e.length]) _ a=aa l
  rw[R]
  rcases mY h with h|h
  ·exact aV (I.F a h) λl d=>⟨_,qz<|B d⟩
  ·exact⟨_,qz (l:=[])<|by rw[h.1,I.g];exact U0⟩
 ·have h:jr (ai H.g H.f.length<|aa []) (k.2.map<|ak<|H.e++[H.e.length]) H.f.length i≠ae:=h
  rw[R]at h
  show i<(H.f++[k]).length
  rw[u]
  cases q:jr (ai H.g H.f.length<|aa []) (k.2.map<|ak H.e) H.f.length i with
  |none=>exact aD q h
  |some l=>exact(M i l q).2
 ·show∃l,jr _ (k.2.map<|ak<|H.e++[H.e.length]) _ (ak (H.e++[H.e.length]) y)=aa l/\i∈l
  rw[R]
  rcases mY h with h|h
  ·refine aB (I.u i s h y D) λl d X=>⟨_,qz<|B d,?_⟩
   by_cases q:ak H.e y∈k.2.map (ak H.e)
   ·rw[aq q];exact jz _ X
   ·rw[ap q];exact X
  ·have hm:ak H.e y∈k.2.map (ak H.e):=cq.mpr ⟨y,h.2▸D,rfl⟩
   refine aV (L _ hm).2 λl d=>⟨_,qz<|B d,?_⟩
   rw[aq hm,h.1];exact jR _ bk
 ·exact cz (I.N s o h) λl g n G=>⟨l,(gM (b_.mp g).1).trans g,n,λr c=>G r c.f⟩
 ·show r (ak (H.e++[H.e.length]) y)=r y
  rw[R];exact I.t r c.f y
 ·have s:=I.T p h
  exact⟨u▸cY s.1,u▸cY s.2.1,by show ak (H.e++[H.e.length]) _=ak (H.e++[H.e.length]) _;rw[R];exact s.2.2⟩
 ·show(H.T++[_]).length=(H.f++[k]).length
  rw[bm,bm,I.J];rfl
 ·show(H.Y++[_]).length=(H.f++[k]).length
  rw[bm,bm,I.Z];rfl
 ·refine(mY h).elim (I.v i w) λh=>?_
  have b:∀x∈k.2,0<=H.T.getD x 0/\H.T.getD x 0<2^H.f.length:=λx f=>by
   have s:=I.v x _<|gS 0<|I.J.symm▸v x f
   exact⟨s.1,pG s.2<|pq<|v x f⟩
  have z:(0:Int)<=0/\(0:Int)<2^H.f.length:=⟨fy _,wM<|by decide⟩
  rw[h.1,h.2,I.J,wN]
  have d:=J4 J
  generalize k.2=l at d b⊢
  rcases d with rfl|⟨x,rfl⟩|⟨x,y,rfl⟩
  ·exact Dd z z
  ·have:=Dd z<|b x bk;rw[Eo]at this;exact this
  ·exact Dd (b x bk)<|b y<|bR _ bk
 ·exact(gM (b_.mp g).1).trans g
 ·show H.t (s.1,s.2.map<|ak<|H.e++[H.e.length])=aa o
  rw[R];exact n
 ·show ak (H.e++[H.e.length]) o=ak (H.e++[H.e.length]) j
  rw[R];exact G
structure AD(H:Hp)(Y:List (Nat×Nat))(k:Nd)(H':Hp):Prop where
 I:GI H' Y
 p:ph H'<=ph H+1022
 e:H'.f=H.f++[k]
 h:H'.N=H.f.length+1
 f:(∀j,j<H.f.length->Kc H j)->∀j,j<H'.f.length->Kc H' j
 g:Gr H H'
 t:tl H'.g H'.f.length<=tl H.g H.f.length+k.2.length
def GI.a3(I:GI H Y)(d:H.N=H.f.length){e:Int}(f:H.f.length<18)(g:k.2.length<=2)(l:∀x∈k.2,x<H.f.length)(m:tl H.g H.f.length+k.2.length<=18)(b:ph H+1022<2^17):AD H Y k (hZ H k e):=by
 have A:=I.a0 (e:=e) f g l m<|kW b;have L:=A.1.a1 (i:=H.f.length) (k:=k) lr<|aL (eM A.2.1) b;have n:hZ H k e=n8 (kD (Lake.B1 H k e) (bG (Lake.B1 H k e) k)<|(Lake.B1 H k e).t<|bG (Lake.B1 H k e) k) H.f.length (bG (Lake.B1 H k e) k) ((Lake.B1 H k e).t<|bG (Lake.B1 H k e) k):=by show n8 (kD (iB (o3 H k e) H.f.length) _ _) _ _ _=_;unfold iB;refine af (aq d.symm) ?_;rfl
 refine af n ?_;refine⟨L.I,ay L.p<|eM A.2.1,L.e,L.h,λh j a=>?_,Gr.f (B:=Lake.B1 H k e) ⟨⟨[k],rfl⟩,λy z q=>by exact(zn I.h).symm▸q,rfl,rfl⟩ L.g,L.e▸ay L.t A.2.2.2⟩;replace a:=L.e▸a;have c:j<(H.f++[k]).length:=a;rw[bm]at c;refine L.f j ((u5<|f_ c).elim (λo=>.inr<|A.2.2.1 j<|h j o) .inl) a
end
section
variable{H S:Hp}{Q:V->St->Prop}{Y qs:List (Nat×Nat)}
noncomputable abbrev nw(H:Hp):Hp:=((H.L []).a1 []).a3 0
structure HU(H:Hp):Prop where
 h:HW H
 c:H.p.length<2^19
 e:∀i,H.g i≠ae->i<H.f.length
def Rv(S:Hp)(d:Nat):Hp->Prop:=E7 (λH=>H=S) (λe b H=>HU H/\∃a c,H.p=a++[c]/\pX (H.y a) c/\b (ot (H.y a) c)) d
def Hs(S H:Hp):Prop:=∃d,H.p.length=S.p.length+d/\Rv (nw S) d (nw H)
theorem HW.nw(I:HW H):HW (nw H):=⟨I.n,I.g,I.q,I.h,I.y,I.F,I.t,I.p⟩
def HW.un(I:HW (Lake.nw H)):HW H:=⟨I.n,I.g,I.q,I.h,I.y,I.F,I.t,I.p⟩
def GI.hu(I:GI H Y):HU (nw H):=have G:=GI.L (m:=H.N) I<|bb _;⟨G.toHW.nw,G.c,G.J⟩
def Hs.h:Hs S S:=(aC 0 rfl rfl)
theorem Hs.e(h:Hs S H)(b:HU (nw a))(e:a.p=H.p++[c])(u:pX ((nw a).y H.p) c)(q:ot ((nw a).y H.p) c=nw H):Hs S a:=aB h λd f g=>⟨d+1,by rw[e,bm,f];rfl,b,H.p,c,e,u,by rw[q];exact g⟩
def XH(h:U c=ae->c∉a):lE (jr U a N) a c=U c:=by
 by_cases e:c∈a
 ·cases b:U c with
  |none=>exact aD e<|h b
  |some l=>rw[show lE (jr U a N) a c=(jr U a N c).map _ from qy e,show jr U a N c=_ from qz b,aq e];exact aQ aa EA
 ·rw[show lE (jr U a N) a c=jr U a N c from mj e];exact mj e
theorem Hs.q(h:Hs S H)(I:GI H Y)(j:H.N=H.f.length){e:Int}(A:GI (B1 H k e) Y)(m:∀x∈k.2,x<H.f.length)(n:k∉H.f):Hs S (B1 H k e):=by
 have R:ak (H.e++[H.e.length])=ak H.e:=zn I.h
 have d:∀c∈k.2.map (ak H.e),c<H.f.length/\∃l,H.g c=aa l:=λc h=>aB (cq.mp h) λx o e=>by
  have:=iZ I.h<|I.g.symm▸m x o
  exact e▸⟨I.g▸this.1,I.F _ this.2⟩
 have f:(H.f++[k]).take H.f.length=H.f:=qW
 have g:(H.f++[k]).getD H.f.length default=k:=by rw[jy,lr];rfl
 apply h.e A.hu rfl (c:=.g H.f.length)
 ·refine⟨aQ lO f,?_⟩
  show HD _ ((H.f++[k]).take H.f.length) ((H.f++[k]).getD H.f.length default)
  rw[f,g]
  refine⟨rfl,?_,?_,n,?_,?_,λc a=>?_,?_,λc a=>bZ (d c<|R▸a).1⟩
  ·show(H.T++[_]).length=_;rw[bm,I.J];rfl
  ·show(H.Y++[_]).length=_;rw[bm,I.Z];rfl
  ·show(H.e++[H.e.length])[H.f.length]? =_;rw[<-I.g];exact lr
  ·show(H.q++[[H.e.length]])[H.f.length]? =_;rw[<-I.g,<-I.q];exact lr
  ·show∃l,jr _ (k.2.map<|ak<|H.e++[H.e.length]) _ c=aa l/\_
   have a:c∈k.2.map (ak<|H.e++[H.e.length]):=a
   rw[R]at a⊢
   refine cj (d c a) λi b=>aV b λl b=>⟨_,qz<|(aI<|bZ i).trans b,l,H.f.length,aq a,ay (wo b i) I.b⟩
  ·exact⟨_,qz<|bg ..⟩
 ·show Dx _ ((H.f++[k]).take H.f.length) ((H.f++[k]).getD H.f.length default)=_
  rw[f,g]
  show Hp.mk H.f ((H.T++[_]).take H.f.length) ((H.Y++[_]).take H.f.length) ((H.e++[_]).take H.f.length) ((H.q++[_]).take H.f.length) H.Z H.U H.a H.t (ai (lE (jr (ai H.g H.f.length<|aa []) (k.2.map<|ak<|H.e++[H.e.length]) H.f.length)<|k.2.map<|ak<|H.e++[H.e.length]) H.f.length ae) [] 0 H.f.length H.p []=Hp.mk _ _ _ _ _ _ _ _ _ H.g _ _ H.N _ _
  have p:∀{x},(H.T++[x]).take H.f.length=H.T:=I.J▸qW
  have s:∀{x},(H.Y++[x]).take H.f.length=H.Y:=I.Z▸qW
  have t:∀{x},(H.e++[x]).take H.f.length=H.e:=I.g▸qW
  have u:∀{x},(H.q++[x]).take H.f.length=H.q:=I.g▸I.q▸qW
  have v:ai (lE (jr (ai H.g H.f.length<|aa []) (k.2.map<|ak H.e) H.f.length)<|k.2.map<|ak H.e) H.f.length ae=H.g:=by
   funext c
   by_cases e:c=H.f.length
   ·rw[e,bg]
    cases q:H.g H.f.length with
    |none=>rfl
    |some l=>exact aD (I.y _ λr=>aY<|r.symm.trans q)<|dE _
   ·rw[aI e,XH λq a=>?_,aI e]
    exact aV (d c a).2 λl b=>aY ((aI e).symm.trans q|>.symm.trans b)
  rw[R,p,s,t,u,v,j]
def Hs.p(h:Hs S H)(I:GI ((H.y<|H.p++[.f s]).a7<|ai H.t s<|aa i) Y)(a:H.t s=ae):Hs S ((H.y<|H.p++[.f s]).a7<|ai H.t s<|aa i):=by refine h.e I.hu rfl (c:=.f s) ⟨λe=>aY<|e.symm.trans<|bg ..,JY I.j<|bj (aL (bB ..) I.p) bl⟩ ?_;show Hp.mk _ _ _ _ _ _ _ _ (ai (ai H.t s<|aa i) s ae) _ _ _ _ _ _=Hp.mk _ _ _ _ _ _ _ _ H.t _ _ _ _ _ _;rw[yt,<-a,yu]
def LN{l:List c}(h:l[i]? =aa a):(l.set i b).set i a=l:=by
 rw[List.set_set];refine sY λj=>?_;by_cases e:i=j;·subst e;rw[mG (b_.mp h).1,h]
 ·rw[kR e]
def IL{l:List a}(h:l.length<b):l.dropLast.length<b:=by rw[List.length_dropLast];exact aL (E8 ..) h
def Hs.f(h:Hs S H)(I:GI H Y){a b:Nat}{x:V}(j:a<H.f.length)(U:b<H.f.length)(J:GI (fE H a b x) qs):Hs S (fE H a b x):=by
 have i:∀{c},c<H.f.length->ak H.e c<H.e.length/\H.e[ak H.e c]? =aa (ak H.e c):=λh=>iZ I.h<|I.g.symm▸h;have n:∀c:Nat,H.e[c]? =aa c->H.g c=aa ((H.g c).getD [])/\((H.g c).getD []).length<2^20:=λc h=>aV (I.F c h) λl o=>by rw[o];exact⟨rfl,aL (ay (wo o<|I.y c λq=>aY<|q.symm.trans o) I.b) bl⟩
 have G:=GI.L (m:=H.N) I<|bb _;have v:H.a.length<2^20:=bj G.f bl;have w:H.U.length<2^20:=bj G.e bl;have dl:∀{y:Type}{l:List y}{x:y},(l++[x]).dropLast=l:=EA;revert J;refine JQ (R:=λz=>GI z qs->Hs S z) (λe J=>?_) λk g W e J=>?_;·have A:=n _ (i j).2;refine h.e J.hu rfl (c:=.e (ak H.e a) ((H.g<|ak H.e a).getD []).length (ak H.e a) ae) ⟨_,⟨_,by rw[dl]⟩,by rw[dl];exact w,λq=>aD rfl q,IL v,λq=>aD rfl q,IL G.m,(i j).1,(i j).1,λq=>aD rfl q,A.1,A.2,λq=>aD rfl q⟩ ?_;show(if ak H.e a=ak H.e a then _ else _:Hp)=_;rw[aq rfl];show Hp.mk _ _ _ _ _ _ (H.U++[_]).dropLast _ _ _ _ _ _ _ _=_;rw[dl]
 ·have B:=i j;have C:=i U;have D:H.e[k]? =aa k:=e.elim (λe=>e.1▸B.2) λe=>e.2▸C.2;have p:H.e[g]? =aa g:=e.elim (λe=>e.2▸C.2) λe=>e.1▸B.2;have F:=bZ W;have lk:=(b_.mp D).1;have X:=(b_.mp p).1;have L:(H.e.set g k).length=H.e.length:=oM ..;have r:=n k D;have M:=n g p;have N:(H.q.set k<|H.q.getD k []++H.q.getD g []).getD k []=H.q.getD k []++H.q.getD g []:=by rw[jy,mG<|I.q▸lk];rfl
  have P:(H.q.set k<|H.q.getD k []++H.q.getD g []).getD g []=H.q.getD g []:=by rw[jy,kR F,<-jy]
  generalize (H.g k).getD []=d at r J⊢;generalize (H.g g).getD []=f at M J⊢;have Q:qw (H.y<|H.p++[.e k d.length g ae]) k g d f k=aa (d++f):=bg ..;refine h.e J.hu rfl (c:=.e k d.length g<|aa f) ⟨_,⟨_,by rw[dl]⟩,by rw[dl];exact w,λs=>⟨_,by rw[dl]⟩,by rw[dl];exact v,λs=>by rw[dl],by rw[dl];exact G.m,L▸lk,L▸X,λs=>?_,Q,r.2,λs=>⟨_,rfl⟩⟩ ?_;·show((H.q.set k _).getD g []).length<=((H.q.set k _).getD k []).length;rw[N,P,bm];exact qZ ..
  show(if k=g then _ else _:Hp)=_;rw[ap F];show Hp.mk _ _ _ ((H.e.set g k).set g g) ((H.q.set k _).set k<|((H.q.set k _).getD k []).take<|((H.q.set k _).getD k []).length-((H.q.set k _).getD g []).length) (H.Z++[_]).dropLast (H.U++[_]).dropLast (H.a++[_]).dropLast _ (ai (ai (qw _ k g d f) k<|aa<|((qw (H.y<|H.p++[.e k d.length g ae]) k g d f k).getD []).take d.length) g<|aa f) _ _ _ _ _=Hp.mk _ _ _ H.e H.q H.Z H.U H.a _ H.g _ _ _ _ _;have t5:ai (ai (qw (H.y<|H.p++[.e k d.length g ae]) k g d f) k<|aa d) g (aa f)=H.g:=by
   funext c;by_cases t:c=g;·rw[t,bg];exact M.1.symm
   ·rw[aI t];by_cases u:c=k;·rw[u,bg];exact r.1.symm
    ·rw[aI u];exact(aI u).trans<|aI t
  rw[Q,N,P,LN p,dl,dl,dl,bm,Nat.add_sub_cancel,qW,LN<|gS []<|I.q▸lk];show Hp.mk _ _ _ _ _ _ _ _ _ (ai (ai _ k<|aa<|(d++f).take d.length) g<|aa f) _ _ _ _ _=_;rw[qW,t5]
def Hs.g(h:Hs S H)(I:GI H Y)(a:H.f[i]? =aa k)(d:ph H+1<2^17):Hs S (n8 (kD H (bG H k)<|H.t<|bG H k) i (bG H k)<|H.t<|bG H k):=by have L:=(I.a1 a d).I;revert L;cases b:H.t (bG H k)with
 |none=>exact λL=>h.p L b
 |some o=>
  show GI (if ak H.e o=ak H.e i then H else fE H o i (.h [.p "like"])) Y->Hs S (if ak H.e o=ak H.e i then H else fE H o i (.h [.p "like"]));by_cases e:ak H.e o=ak H.e i;·rw[aq e];exact λc=>h
  ·rw[ap e];exact λL=>h.f I (cz (I.N _ o b) λl f c c=>(b_.mp f).1) (b_.mp a).1 L
end
section
variable{H S:Hp}{Q:V->St->Prop}{Y qs:List (Nat×Nat)}
theorem pX.e(u:pX ((nw H).y a) c):pX (H.y a) c:=by cases c with|g n=>exact⟨u.1,u.2.q,u.2.F,u.2.h,u.2.p,u.2.e,u.2.f,u.2.y,u.2.g,u.2.t⟩|f s=>exact u|e k m g d=>exact aV u λb u=>⟨b,u.y,u.F,u.J,u.L,u.h,u.t,u.q,u.N,u.T,u.p,u.U,u.Y⟩
def aag(c:dH)(a:List dH):nw (ot (H.y a) c)=ot ((nw H).y a) c/\(ot (H.y a) c).J=H.J/\(ot (H.y a) c).h=H.h:=by cases c with
 |g n=>exact⟨rfl,rfl,rfl⟩
 |f s=>exact⟨rfl,rfl,rfl⟩
 |e k m g b=>
  show nw (ou _ _ _ _ _ _ _ _)=ou _ _ _ _ _ _ _ _/\(ou _ _ _ _ _ _ _ _).J=_/\(ou _ _ _ _ _ _ _ _).h=_;unfold ou;by_cases e:k=g;·rw[aq e,aq e];exact⟨rfl,rfl,rfl⟩
  ·rw[ap e,ap e];exact⟨rfl,rfl,rfl⟩
def Rv.e(a:HU S)(h:Rv S d H):HU H:=by cases d with|zero=>exact(show H=S from h)▸a|succ d=>exact h.1
def WZ(e:nw H=nw S)(c:H.J=a)(d:H.h=b):H.L S.F=(S.a1 a).a3 b:=by subst c d;exact aQ (a₁:=nw H) (a₂:=nw S) (λX:Hp=>((X.L S.F).a1 H.J).a3 H.h) e
def XM(K:aG P)(z:Z H W)(m:W.w 0=ae)(o:W.w 1=ae)(p:H.J=g++[(S.p.length,S.F)])(s:g.length<2^19)(t:HU (nw S))(h:Hs S H)(q:∀z:Z ((S.a1 g).a3<|H.h+1) W,Q .t z.e):
  aZ (cx P) (n+5) (.ref<|P.e 49) [.f<|.e 1] z.e Q:=by
 refine Wa K z m o p s (λX=>(∃d,X.p.length=S.p.length+d/\Rv (nw S) d (nw X))/\X.J=g/\X.h=H.h+1) ⟨h,rfl,rfl⟩ (aB h λd b v=>b▸bB ..) (λX a=>aB a.1 λd v f=>?_) (λX k c a i j=>aB a.1 λd b f=>?_) λX z a j=>aB a.1 λd b f=>?_
 ·have u:=Rv.e t f
  exact⟨u.h.un,u.c,u.e⟩
 ·cases d with
  |zero=>rw[i,bm]at b;exact aD b<|iJ<|oP j
  |succ d=>
   refine dA f.2 λx y e u r=>?_
   have e:k++[c]=x++[y]:=i.symm.trans e
   have l:=List.append_inj e (by have:=aQ lO e;rw[bm,bm]at this;exact lR this)
   obtain rfl:=l.1
   obtain rfl:=(qU l.2).1
   have w:=aag (H:=X) c k
   refine⟨pX.e u,⟨d,?_,w.1▸r⟩,w.2.1.trans a.2.1,w.2.2.trans a.2.2⟩
   refine af (Dv ..) ?_
   rw[i,bm]at b
   exact lR b
 ·obtain rfl:d=0:=Nat.add_left_cancel<|b.symm.trans j
  revert z
  exact(WZ f a.2.1 a.2.2).symm▸q
end
section
variable{H S G:Hp}{Q:V->St->Prop}{Y qs:List (Nat×Nat)}
def q5(k:Nd):Prop:=∀a:List (Option Vl),a.length=k.2.length->kY k.1 a
theorem kY.e{x:ah}{c:List (Option Vl)}(d:c.length=2)(h:x="add"\/x="mul"):kY x c:=aV (J8 d) λa k=>aV k λb e=>.inr<|.inr<|c_ a b e h
def Xl(h:∃x∈ng,k.1=x.1/\k.2.length=x.2):q5 k:=λd c=>by
 refine cz h λx b f g=>af f ?_;have c:d.length=x.2:=c.trans g;rcases cB.mp b with e|b;·subst e;exact kY.e c<|.inl rfl
 refine db (cB.mp b) (λe=>?_) λb=>?_;·subst e;exact kY.e c<|.inr rfl
 refine db (cB.mp b) (λe=>?_) λb=>?_;·subst e;exact aV (Av.mp c) λa h=>.inr<|.inl ⟨a,h,.inl rfl⟩
 ·obtain rfl:=cP.mp b;exact aV (Av.mp c) λa h=>.inr<|.inl ⟨a,h,.inr rfl⟩
def J5(h:nf x (gU x)=true):q5 (x,[]):=λb a=>.inl ⟨s6.mp a,h⟩
structure Cr(S G H:Hp)(rows:List Nd)(Y:List (Nat×Nat)):Prop where
 e:H.f=rows
 I:GI H Y
 f:H.N=H.f.length
 L:∀j,j<H.f.length->Kc H j
 y:∀k∈H.f,q5 k
 q:H.f.Nodup
 J:Hs S H
 g:Gr G H
def Lf(k:Nd):Prop:=∀i,i<7->k=(bJ i,[])->i<2
structure dP(S G:Hp)(c l:Nat)(H:Hp)(rows:List Nd)(Y:List (Nat×Nat)):Prop extends Cr S G H rows Y where
 F:∀k∈H.f,Lf k
 n:H.f.length+c+l<=11
 t:tl H.g H.f.length+2*c<=16
 p:ph H+1100*(c+l+20)<2^17
 h:Y.length+c<=30
def yT(h:numOf a k=ae):k∉a:=uU.mp h
def GW.jw(W:GW H):JW H:=⟨W.toHW,W.Y,W.J,W.U,W.T,bj W.c bl,bj W.m bl,bj W.e bl,bj W.f bl,bj W.w bl⟩
def Cr.aw{g:List Nd}(F:Cr S G H g Y)(a:H.f.length<18)(c:tl H.g H.f.length<=16)(j:ph H+1021<2^17):AW H:=by
 refine⟨(GI.L (m:=H.N) F.I<|bb _).jw,bj a bl,F.I.J,F.I.Z,λw n=>?_,λi l h=>mH<|ay (wo h<|F.I.y i λq=>aY<|q.symm.trans h) c,λk e d o=>?_⟩;·refine aV (List.getElem?_of_mem n) λi f=>?_;have b:=F.I.v i w f;exact⟨b.1,pG b.2<|pq<|ay (jA<|F.I.J▸(b_.mp f).1)<|ay F.I.n bl⟩
 ·exact GI.L (H:=o3 H k e) (F.I.a0 a d o (fL c d) j).1 (by exact bm.symm▸eC _)
def Cr.a1(F:Cr S G H c Y){e:Int}(j:H.f.length<18)(l:tl H.g H.f.length+k.2.length<=18)(d:ph H+1022<2^17)(p:q5 k)(m:k.2.length<=2)(r:∀x∈k.2,x<c.length)(s:numOf H.f k=ae):Cr S G (hZ H k e) (c++[k]) Y/\AD H Y k (hZ H k e):=by
 have f:∀x∈k.2,x<H.f.length:=F.e.symm▸r;have A:=F.I.a3 F.f (e:=e) j m f l d;have g:=F.I.a0 (e:=e) j m f l<|kW d;have n:=yT s;have t:Hs S (hZ H k e):=by show Hs S (n8 (kD (iB (o3 H k e) H.f.length) _ _) _ _ _);unfold iB;exact(aq F.f.symm).symm▸((F.J.q F.I F.f g.1 f n).g g.1 (i:=H.f.length) (k:=k) lr<|aL (eM g.2.1) d)
 refine⟨⟨A.e.trans<|F.e▸rfl,A.I,A.h.trans (show(hZ H k e).f.length=H.f.length+1 from by exact A.e.symm▸bm).symm,A.f F.L,λx o=>?_,A.e▸s8.mpr ⟨F.q,gD.mpr ⟨cX,nK⟩,λa u b v q=>n<|cP.mp v▸q▸u⟩,t,F.g.f A.g⟩,A⟩;rw[A.e]at o;exact(fi.mp o).elim (F.y x) λh=>cP.mp h▸p
def Cr.a2(F:Cr S G H d Y)(e:a<d.length)(f:b<d.length)(g:ph H+1<2^17):Cr S G (fE H a b x) d (Y++[(a,b)])/\JD H (Y++[(a,b)]) a b (fE H a b x):=by have e:=F.e.symm▸e;have f:=F.e.symm▸f;have J:=F.I.a2 (qs:=Y++[(a,b)]) (x:=x) e f (λp h=>jz _ h) (λp h=>(fi.mp h).imp_right λh=>cP.mp h) (λr c=>c.1 (a,b)<|jR _ bk) g;exact⟨⟨J.e.trans F.e,J.I,J.h.trans<|F.f.trans (aQ lO J.e).symm,λj i=>J.f j<|(F.L j<|J.e▸i).imp_right λh=>dA h λk o l m n=>(cp k o l m<|.inl n),J.e.symm▸F.y,J.e.symm▸F.q,F.J.f F.I e f J.I,F.g.f J.g⟩,J⟩
def dP.T(F:dP S G c l H a Y):H.f.length<18/\tl H.g H.f.length<=16/\ph H+1022<2^17:=(kz (aL (ay (ay (bB ..)<|bB ..) F.n) bl) (ay (bB ..) F.t)<|aL (cy (ay (bl:1022<=1100*20)<|jc _<|qZ ..) _) F.p)
def dP.aw(F:dP S G c l H a Y):AW H:=F.toCr.aw F.T.1 F.T.2.1<|kW F.T.2.2
def dP.a3(F:dP S G (c+d) (l+j) H a Y)(b:d+j=1){e:Int}(m:q5 k)(n:Lf k)(f:k.2.length<=2*d)(o:∀x∈k.2,x<a.length)(p:numOf H.f k=ae):dP S G c l (hZ H k e) (a++[k]) Y/\tl (hZ H k e).g (hZ H k e).f.length<=tl H.g H.f.length+k.2.length:=by
 have B:=F.T;have g:k.2.length<=2:=ay f<|jc 2<|b▸bB d j;have A:=F.toCr.a1 (e:=e) B.1 (fL B.2.1 g) B.2.2 m g o p;have q:(hZ H k e).f.length=H.f.length+1:=by exact af A.2.e bm
 refine⟨⟨A.1,λx i=>?_,by rw[q,<-Qv b];exact F.n,ay (dr (ay A.2.t<|cy f _) _)<|ay (bf<|by rw[dL,fA,<-AH]) F.t,aL (qH<|ay A.2.p<|cy bl _) (by have:=F.p;rwa [Ox,b]at this),ay (cy (bB c d) _) F.h⟩,A.2.t⟩;rw[A.2.e]at i;exact(fi.mp i).elim (F.F x) λh=>cP.mp h▸n
def dP.a0(F:dP S G c l H d Y)(h:a<=c)(e:b<=l):dP S G a b H d Y:=⟨F.toCr,F.F,ay (fL (cy h _) e) F.n,ay (cy (jc 2 h) _) F.t,aL (cy (jc 1100<|dr (fL h e) 20) _) F.p,ay (cy h _) F.h⟩
def dP.N(F:dP S G (c+1) l H a Y):dP S G c l H a Y:=F.a0 (eC c)<|bb l
def dP.a5(F:dP S G (c+1) l H d Y)(e:a<d.length)(f:b<d.length):dP S G c l (fE H a b ux) d (Y++[(a,b)]):=by have M:=F.toCr.a2 (x:=ux) e f<|aL (cy bl _) F.T.2.2;exact⟨M.1,M.2.e.symm▸F.F,by refine af M.2.e ?_;exact F.N.n,by refine af M.2.e ?_;exact ay (dr M.2.t _) F.N.t,aL (qH<|ay M.2.p<|cy bl _) (by have:=F.p;rwa [dL c 1 l]at this),by refine af bm ?_;exact ay (bf<|dL Y.length 1 c) F.h⟩
def dP.U(F:dP S G c l H a Y)(b:0<a.length):RP a Y:=⟨F.e▸aL F.I.n bl,b,F.e▸F.I.d,λp h=>F.e▸⟨(F.I.T p h).1,(F.I.T p h).2.1⟩,aL (ay (bB ..) F.h) bl⟩
def Xm:∀x∈ng,x.2≠0:=by exact(by decide+kernel)
def Cg(c:Nat):DI λj H b Y=>0<b.length/\dP S G (c+j) 0 H b Y:=⟨λ{j H b Y}h=>⟨h.2.aw,h.2.e,h.2.U h.1⟩,λh=>⟨h.1,h.2.N⟩,λ{j H b Y p e}h a f o=>⟨by exact bm.symm▸mJ _,(h.2.a3 (c:=c+j) (l:=0) (d:=1) (j:=0) rfl (Xl a) (λi n q=>cz a λx m n g=>aD (g.symm.trans<|aQ (λk:Nd=>k.2.length) q)<|Xm x m) (cz a λx m n e=>e▸(K6 x m).2) f o).1⟩,λh a f=>⟨h.1,h.2.a5 a f⟩⟩
def V5(c:Nat)(m:List Nd):OI λos H a=>dP S G c os.length H a []/\a++os.map (λo=>(o,[]))=m/\∀o∈os,j0 o=true/\nf o (gU o)=true/\Lf (o,[])/\os.Nodup/\(o,[])∉H.f:=⟨λ{o os H a}h=>(ij h.1.aw (h.1.e▸aL h.1.I.n bl) ((h.2.2 o bk).1)<|uU.mpr (h.2.2 o bk).2.2.2.2),λ{o os H a}e h=>by have s:=h.2.2 o bk;have F:=h.1.a3 (c:=c) (l:=os.length) (d:=0) (j:=1) rfl (k:=(o,[])) (e:=e) (J5 s.2.1) s.2.2.1 (bb 0) (λx b=>aD b cX)<|uU.mpr s.2.2.2.2;have f:=gD.mp s.2.2.2.1;refine⟨F.1,(lN ..).trans h.2.1,λx b=>?_⟩;have t:=h.2.2 x<|bR _ b;refine(tN t.1 t.2.1 t.2.2.1 f.2 λq=>?_);rw[F.1.e,<-h.1.e]at q;exact(fi.mp q).elim t.2.2.2.2 λq=>f.1<|(show x=o from aQ (λk:Nd=>k.1)<|cP.mp q)▸b⟩
end
section
variable{H S G:Hp}{Q:V->St->Prop}{Y qs:List (Nat×Nat)}
def GI.a7(I:GI H Y)(e:H.F=w++[i]):GI (H.L w) Y/\mu (H.L w)+1=mu H/\ph (H.L w)+3=ph H:=by
 have m:mu (H.L w)+1=mu H:=by show 20*H.e.sum+w.length+1=20*H.e.sum+H.F.length;refine af e<|af bm ?_;rfl
 have p:ph (H.L w)+3=ph H:=by show H.p.length+3*mu (H.L w)+3=H.p.length+3*mu H;refine dh m<|af (OM ..) ?_;rfl
 exact(kz (⟨I.n,I.g,I.q,I.h,I.d,I.Y,I.z,I.F,I.y,I.U,I.b,I.u,I.N,I.j,I.t,I.T,λx a=>I.A x<|e▸jz _ a,I.J,I.Z,I.v,I.e,I.f,I.m,aL (p▸bB ..) I.p⟩) m p)
def SP(I:GI H Y)(e:∀j,j<H.f.length->Kc H j)(f:H.F=[]):Cl H.f Y (ak H.e):=by
 have c:∀(i:Nat)(k:Nd),H.f[i]? =aa k->∃o,H.t (bG H k)=aa o/\ak H.e o=ak H.e i:=λi k h=>by refine(e i (b_.mp h).1).elim (λq=>aD (f▸q) cX) λq=>dA q λl o a b g=>(aC o ?_ g);obtain rfl:=bo<|a.symm.trans h;exact b
 refine⟨λp h=>(I.T p h).2.2,λi j k l a b m n=>?_⟩;refine aB (c i k a) λo d r=>aB (c j l b) λu s t=>?_;rw[show bG H k=bG H l from q9 m n,s]at d;refine dh r<|dh t ?_;rw[bo d]
structure rD(H:Hp)(Y:List (Nat×Nat)):Prop where
 e:Cl H.f Y (ak H.e)
 w:H.F=[]
def LP(K:aG P)(z:Z H W)(F:Cr S G H b Y)(q:∀a(z:Z a W),Cr S G a b Y->ph a<=ph H->tl a.g a.f.length<=tl H.g H.f.length->rD a Y->Q .t z.e):aZ (cx P) (n+7) (.ref<|P.e 43) [.f<|.e 1] z.e Q:=by
 refine UR K (λX=>Cr S G X b Y/\ph X<=ph H/\tl X.g X.f.length<=tl H.g H.f.length) mu (λX h=>⟨GI.L (m:=X.N) h.1.I<|bb _,h.1.I.A⟩) (λX w i k h e c=>?_) z ⟨F,bb _,bb _⟩ λX z h e=>q X z h.1 h.2.1 h.2.2 ⟨SP h.1.I h.1.L e,e⟩;have B:=h.1.I.a7 e;have d:ph (X.L w)+1<2^17:=aL (ay (cy bl _)<|bf B.2.2) h.1.I.p;have L:=B.1.a1 (i:=i) (k:=k) c d;have g:r5 (X.L w) i k=n8 (kD (X.L w) (bG (X.L w) k)<|(X.L w).t<|bG (X.L w) k) i (bG (X.L w) k) ((X.L w).t<|bG (X.L w) k):=by delta r5 iB;rw[ap λq:i=(X.L w).N=>bZ ((b_.mp c).1)<|q.trans h.1.f]
 refine af g<|⟨⟨⟨L.e.trans h.1.e,L.I,L.h.trans<|h.1.f.trans (aQ lO L.e).symm,λj l=>?_,L.e.symm▸h.1.y,L.e.symm▸h.1.q,(Hs.g (S:=S) (H:=X.L w) h.1.J B.1 (i:=i) (k:=k) c d),h.1.g.f<|Gr.f (B:=X.L w) ⟨⟨[],(hK _).symm⟩,λo o h=>h,rfl,rfl⟩ L.g⟩,ay L.p<|ay (cy bl _)<|ay (bf B.2.2) h.2.1,ay (L.e.symm▸L.t) h.2.2⟩,aL L.q<|B.2.1▸bY _⟩;have f:j<X.f.length:=L.e▸l;refine L.f j ?_ f;refine(h.1.L j f).elim (λm=>?_) λm=>.inr<|.inr m;rw[e]at m;exact(fi.mp m).elim (λm=>.inr<|.inl m) λm=>.inl<|cP.mp m
end
def Le(c:Nat)(a b:Option Vl):Prop:=a=ae\/if c=0 then a=b\/b=aa .f else b≠ae/\nv b<=nv a
theorem Le.h(a:Option Vl):Le k a a:=by
 by_cases e:a=ae;·exact .inl e
 ·by_cases h:k=0;·exact .inr<|kA h<|.inl rfl
  ·exact .inr<|j4 h ⟨e,fy _⟩
def Le.e(h:Le 0 a b):a=ae\/a=b\/b=aa .f:=h
def Le.g(c:k≠0)(h:Le k a b):a=ae\/b≠ae/\nv b<=nv a:=h.imp_right λh=>by rwa [ap c]at h
def Le.mk(c:k≠0)(d:b≠ae)(e:nv b<=nv a):Le k a b:=.inr<|j4 c ⟨d,e⟩
def Le.f(h:Le k a b)(c:a≠ae):b≠ae:=by
 by_cases e:k=0;·subst e;exact(h.e.resolve_left c).elim (λq=>q▸c) λq r=>aY<|r.symm.trans q
 ·exact((h.g e).resolve_left c).1
def Le.p(h:Le k a b)(g:Le k b c):Le k a c:=by
 by_cases d:a=ae;·exact .inl d
 ·have f:=h.f d;by_cases e:k=0;·subst e;exact .inr<|(h.e.resolve_left d).elim (λq=>(g.e.resolve_left f).imp (q.trans ·) id) λq=>.inr<|(g.e.resolve_left f).elim (λr=>r▸q) id
  ·exact Le.mk e (g.f f)<|fK ((g.g e).resolve_left f).2 ((h.g e).resolve_left d).2
theorem Le.q(h:Le k a b)(g:Le k b a)(f:Gd k a)(l:Gd k b):a=b:=by
 by_cases d:a=ae
 ·rw[d]at g⊢;by_cases c:b=ae;·exact c.symm
  ·exact aD rfl<|g.f c
 ·have c:=h.f d;by_cases e:k=0;·subst e;exact(h.e.resolve_left d).elim id λq=>(g.e.resolve_left c).elim D_ λr=>r.trans q.symm
  ·refine aB ((f.2 e).resolve_left d) λi m n=>aB ((l.2 e).resolve_left c) λj o n=>?_;subst m o;have x:j<=i:=((h.g e).resolve_left d).2;have y:i<=j:=((g.g e).resolve_left c).2;rw[Aj x y]
def yG{a b:Option Vl}{R:Option Vl->Prop}(f:a=ae->R b)(g:b=ae->R a)(h:a≠ae->b≠ae->k=0->a=b->R b)(i:a≠ae->b≠ae->k=0->a≠b->R (aa .f))(j:a≠ae->b≠ae->k≠0->R (aa<|.e<|min (nv a)<|nv b)):R (eJ k a b):=by
 delta eJ;by_cases e:k=0
 ·rw[aq e];delta ls;by_cases c:a=ae;·rw[aq<|.inl c];exact f c
  ·by_cases q:a=b;·rw[aq<|.inr q];exact h c (λr=>c<|q.trans r) e q
   ·rw[ap λr=>r.elim c q];by_cases d:b=ae;·rw[aq d];exact g d
    ·rw[ap d];exact i c d e q
 ·rw[ap e];delta mi;by_cases c:a=ae;·rw[aq c];exact f c
  ·by_cases d:b=ae;·rw[ap c,aq d];exact g d
   ·rw[ap c,ap d];exact j c d e
def yL(a b:Option Vl):Le k a (eJ k a b)/\Le k b (eJ k a b):=yG (R:=λc=>Le k a c/\Le k b c) (λh=>⟨.inl h,.h b⟩) (λh=>⟨.h a,.inl h⟩) (λd d d h=>⟨h▸.h a,.h b⟩) (λd d e d=>⟨.inr<|kA e<|.inr rfl,.inr<|kA e<|.inr rfl⟩) λd d e=>⟨Le.mk e (λq=>aY q.symm)<|Ek ..,Le.mk e (λq=>aY q.symm)<|Int.min_le_right ..⟩
def JP{k:Nat}{a b c:Option Vl}(h:Le k a c)(g:Le k b c):Le k (eJ k a b) c:=yG (R:=λd=>Le k d c) (λf=>g) (λf=>h) (λf f f f=>g) (λi j e n=>by subst e;exact .inr<|.inl<|(h.e.resolve_left i).elim (λq=>(g.e.resolve_left j).elim (λr=>aD (q.trans r.symm) n) D_) D_) λi j e=>Le.mk e (h.f i)<|Ej.mpr ⟨((h.g e).resolve_left i).2,((g.g e).resolve_left j).2⟩
def ZO{l:List Nat}{A B:Nat->Option Vl}(h:∀x∈l,nv (B x)<=nv (A x)):((l.map B).map nv).sum<=((l.map A).map nv).sum/\m7 ((l.map B).map nv)<=m7 ((l.map A).map nv):=by induction l with|nil=>exact⟨fy _,fy _⟩|cons x l a=>have s:=a λy b=>h y<|bR _ b;have t:=h x bk;exact⟨Ee t s.1,Int.max_le.mpr ⟨fK t<|Ei ..,fK s.2<|Ny ..⟩⟩
def yR{l:List Nat}{A:Nat->Option Vl}:ae∈l.map A↔∃x∈l,A x=ae:=cq
def W_{b:Int}{l:List Nat}{A B:Nat->Option Vl}(h:∀y∈l,Le k (A y)<|B y):Le k (fR k b x<|l.map A) (fR k b x<|l.map B):=by
 delta fR
 by_cases e:k=0
 ·subst e
  rw[aq rfl,aq rfl]
  match l,h with
  |[],_=>exact .h _
  |[y],h=>
   show Le 0 (if x="neg"then v3 b (A y)else ae) (if x="neg"then v3 b (B y)else ae)
   by_cases g:x="neg"
   ·rw[aq g,aq g]
    refine(h y bk).e.elim (λq=>?_) λq=>q.elim (λq=>?_) λq=>?_
    ·rw[q];exact .inl rfl
    ·rw[q];exact .h _
    ·rw[q];exact .inr<|.inr rfl
   ·rw[ap g];exact .inl rfl
  |[y,z],h=>
   show Le 0 (jg b x (A y)<|A z) (jg b x (B y)<|B z)
   have p:∀a,jg b x a ae=ae:=λa=>by cases a<;>rfl
   have t:∀a,a≠ae->jg b x a (aa .f)=aa .f:=λa h=>by
    cases a with
    |none=>exact aD rfl h
    |some a=>cases a<;>rfl
   have u:∀a,a≠ae->jg b x (aa .f) a=aa .f:=λa h=>by
    cases a with
    |none=>exact aD rfl h
    |some a=>cases a<;>rfl
   have m:=h y bk
   have n:=h z<|bR _ bk
   by_cases i:A y=ae
   ·rw[i];exact .inl rfl
   by_cases j:A z=ae
   ·rw[j,p];exact .inl rfl
   refine(m.e.resolve_left i).elim (λq=>(n.e.resolve_left j).elim (λr=>?_) λr=>?_) λq=>?_
   ·rw[q,r];exact .h _
   ·rw[r,t _<|m.f i];exact .inr<|.inr rfl
   ·rw[q,u _<|n.f j];exact .inr<|.inr rfl
  |_::_::_::_,_=>exact .inl rfl
 ·rw[ap e,ap e]
  delta si sh
  by_cases c:ae∈l.map A
  ·rw[aq c,aq c,ite_self];exact .inl rfl
  ·have o:ae∉l.map B:=λq=>aB (yR.mp q) λy d q=>(h y d).f (λr=>c<|yR.mpr ⟨y,d,r⟩) q
   rw[ap c,ap c,ap o,ap o]
   have s:=ZO λy d=>(((h y d).g e).resolve_left λr=>c<|yR.mpr ⟨y,d,r⟩).2
   by_cases f:k=1
   ·rw[aq f,aq f];exact Le.mk e (λq=>aY q.symm)<|Ef s.1 1
   ·rw[ap f,ap f];exact Le.mk e (λq=>aY q.symm)<|Ef s.2 1
section
variable{kind:Nat}{A B:Nat->Option Vl}
def rv(kind:Nat)(W:Int)(X:List Nat)(A:Nat->Option Vl)(k:Nd):Option Vl:=fR kind W k.1<|k.2.map λx=>A<|ak X x
def Pf(kind:Nat)(W:Int)(Y:List Nd)(X:List Nat)(B:Nat->Option Vl):Prop:=∀(i:Nat)(k:Nd),Y[i]? =aa k->Le kind (rv kind W X B k) (B<|ak X i)
structure VC(kind:Nat)(W:Int)(Y:List Nd)(X:List Nat):Prop where
 p:0<W
 h:W<=7
 t:kind<3
 g:l6 Y
 e:X.length=Y.length
 f:kr X
 q:∀k∈Y,q5 k
 n:Y.length<=18
noncomputable def zf(X:List Nat)(A:Nat->Option Vl)(c:Nat):Nat:=if X[c]? =aa c/\A c=ae then 1 else 0
def zz(Y:List Nd)(X:List Nat)(A:Nat->Option Vl):Nat:=sm (zf X A) Y.length
def oI(W:Int)(a:Option Vl):Prop:=∀v,a=aa (.e v)->0<=v/\v<W
def fS(z n:Nat)(a:Option Vl):Prop:=∀x,a=aa x->∃v:Int,x=.e v/\0<=v/\(v+1)*2^z<=2^n
structure VI(kind:Nat)(W:Int)(Y:List Nd)(X:List Nat)(A:Nat->Option Vl):Prop where
 g:∀c,A c≠ae->X[c]? =aa c
 p:kind=0->∀c,oI W<|A c
 e:kind≠0->∀c,fS (zz Y X A) Y.length<|A c
 h:∀B,Pf kind W Y X B->∀c,Le kind (A c)<|B c
def zL:VI kind W Y X λa=>ae:=⟨λc h=>aD rfl h,λa c v h=>aY h,λa c x h=>aY h,λB a c=>.inl rfl⟩
def Yq(h:∀c,Le kind (A c)<|B c):Le kind (rv kind W X A k) (rv kind W X B k):=W_ λx a=>h _
def MW:zf X A c<=1:=by
 unfold zf;by_cases h:X[c]? =aa c/\A c=ae;·rw[aq h];exact bb 1
 ·rw[ap h];exact da 1
def aaO:zz Y X A<=Y.length:=ay (wm λi a=>MW)<|bf<|(L1 1 _).trans<|Nat.mul_one _
def W8(h:0<W):oI W (yZ W x l):=by have d:∀i:Int,0<=i%W/\i%W<W:=λi=>⟨Eh i<|Em h,Eg i h⟩;intro v e;cases l with
 |nil=>exact aB (fj.mp<|show(gU x).map _=_ from e) λi g e=>Vl.e.inj e▸d i
 |cons a l=>cases l with
  |nil=>revert e;refine fO (motive:=λo:Option Vl=>o=aa (.e v)->0<=v/\v<W) (λc e=>?_) λc e=>aY e;cases a with|none=>exact aY e|some a=>cases a with|e i=>exact Vl.e.inj (bo e)▸d _|f=>exact Vl.noConfusion<|bo e
  |cons b l=>cases l with|cons c l=>exact aY e|nil=>cases a with|none=>exact aY e|some a=>cases b with|none=>cases a<;>exact aY e|some b=>cases a<;>cases b<;>first|exact Vl.e.inj (bo e)▸d _|exact Vl.noConfusion<|bo e
def yU(h:fS z n a)(b:a≠ae):0<=nv a/\(nv a+1)*2^z<=2^n:=by cases a with|none=>exact aD rfl b|some x=>exact cz (h x rfl) λv e c d=>e▸⟨c,d⟩
def fS.f{v:Int}(a:0<=v)(b:(v+1)*2^z<=2^n):fS z n (aa<|.e v):=λx e=>(bV v ((bo e).symm) a b)
theorem fS.e(h:fS z n a)(d:b<=z):fS b n a:=λx e=>cz (h x e) λv e c f=>(bV v e c<|fK (Am (pq d)<|Ai c) f)
def Tm{p q a b c:Int}(d:0<p)(i:0<=a)(j:0<=b)(e:(a+1)*p<=q)(f:(b+1)*p<=q)(g:c<=a+b):(1+c+1)*p<=2*q:=by have:(1+c+1)*p<=((a+1)+(b+1))*p:=wK (by rw[wI 1 c,sP,sP a,<-sP 1,wI 1 b,sP b,<-sP a];exact Nr g _)<|nC d;have h:((a+1)+(b+1))*p=(a+1)*p+(b+1)*p:=Nt ..;exact fK this<|fK (uP h)<|fK (Ee e f)<|uP (NO q).symm
def LK(V:VC kind W Y X)(I:VI kind W Y X A){i:Nat}{k:Nd}(r:Y[i]? =aa k):(kind=0->oI W (rv kind W X A k))/\(kind≠0->fS (zz Y X A) (Y.length+1) (rv kind W X A k)):=by
 delta rv fR;refine⟨λe=>by refine af (aq e) ?_;exact W8 V.p,λe=>?_⟩;refine af (ap e) ?_;have t:(0:Int)<2^zz Y X A:=wM (by decide);have j:(0+1:Int)*2^zz Y X A<=2^Y.length:=by refine af (Eo ..) ?_;refine af (NI ..) ?_;exact pq aaO
 refine db (iG<|ae∈k.2.map λx=>A<|ak X x) (λd=>?_) λd=>?_;·delta si sh;refine af (aq d)<|af (aq d) ?_;refine af (ite_self ..) ?_;exact λx h=>aY h
 have b:∀x∈k.2,0<=nv (A<|ak X x)/\(nv (A<|ak X x)+1)*2^zz Y X A<=2^Y.length:=λx v=>yU (I.e e _) λq=>d<|yR.mpr<|aC x v q;have f8:∃u w:Int,0<=u/\0<=w/\(u+1)*2^zz Y X A<=2^Y.length/\(w+1)*2^zz Y X A<=2^Y.length/\(0<=((k.2.map λx=>A<|ak X x).map nv).sum/\((k.2.map λx=>A<|ak X x).map nv).sum<=u+w)/\0<=m7 ((k.2.map λx=>A<|ak X x).map nv)/\m7 ((k.2.map λx=>A<|ak X x).map nv)<=u+w:=by
  have m:∀{a b:Int},0<=a->0<=b->0<=max a b/\max a b<=a+b:=λg z=>⟨fK g<|Ei ..,Int.max_le.mpr ⟨Nx z,Int.le_add_of_nonneg_left g⟩⟩;have o:=J4 (V.g i k r).1;generalize k.2=l at o b⊢;rcases o with rfl|⟨x,rfl⟩|⟨x,y,rfl⟩;·exact⟨0,0,fy _,fy _,j,j,⟨fy _,fy _⟩,fy _,fy _⟩
  ·have c:=b x bk;refine(vR (nv<|A<|ak X x) 0 c.1 (fy _) c.2 j (⟨?_,fy _⟩)<|m c.1<|fy _);show 0<=nv _+0;exact af (uO ..) c.1
  ·have c:=b x bk;have f:=b y<|bR _ bk;refine(vR _ _ c.1 f.1 c.2 f.2 (⟨?_,?_⟩) ?_);·show 0<=nv _+(nv _+0);exact af (uO ..)<|wJ c.1 f.1
   ·show nv _+(nv _+0)<=_;exact af (uO ..)<|fy _
   ·have B:=m f.1<|fy 0;rw[uO]at B;show 0<=max _ (max _ 0)/\max _ (max _ 0)<=_;exact(Al f.1).symm▸m c.1 f.1
 refine aV f8 λu h=>aV h λw h=>?_;have p:∀s:Int,0<=s->s<=u+w->fS (zz Y X A) (Y.length+1) (aa<|.e<|1+s):=λs C g=>fS.f (wJ (by decide) C) (by refine af (wN ..) ?_;rw[NE<|2^Y.length];exact Tm t h.1 h.2.1 h.2.2.1 h.2.2.2.1 g);delta si sh;exact af (ap d)<|af (ap d)<|db (iG<|kind=1) (λn=>(af (aq n)<|p _ h.2.2.2.2.1.1 h.2.2.2.2.1.2)) λn=>af (ap n)<|p _ h.2.2.2.2.2.1 h.2.2.2.2.2.2
structure Nw(kind:Nat)(W:Int)(Y:List Nd)(X:List Nat)(A:Nat->Option Vl)(c:Nat)(f:Option Vl):Prop where
 e:Le kind (A c) f
 y:∀B,Pf kind W Y X B->Le kind f (B c)
 g:kind=0->oI W f
 h:kind≠0->A c≠ae->fS (zz Y X A) Y.length f
 p:kind≠0->fS (zz Y X A) (Y.length+1) f
def fS.g(h:fS z n a):fS z (n+1) a:=λx e=>cz (h x e) λv e b c=>(bV v e b<|fK c<|pq<|eC n)
def Nw.t(I:VI kind W Y X A)(c:Nat):Nw kind W Y X A c (A c):=⟨.h _,λB h=>I.h B h c,λe=>I.p e c,λe a=>I.e e c,λe=>(I.e e c).g⟩
def JO(f:oI W a)(d:oI W b):oI W (eJ 0 a b):=yG (R:=oI W) (λc=>d) (λc=>f) (λc c c c=>d) (λc c c c v e=>nomatch e) λc c e=>aD rfl e
def CE(e:kind≠0)(d:fS z n a)(g:a=ae\/(∀v,b=aa (.e v)->0<=v)->fS z n b\/a≠ae)(i:∀x,b=aa x->∃v:Int,x=.e v/\0<=v):fS z n (eJ kind a b):=by
 refine yG (R:=fS z n) (λh=>(g<|.inl h).resolve_right λq=>q h) (λc=>d) (λc c q c=>aD q e) (λc c q c=>aD q e) λj k c=>?_
 have f:=yU d j
 have l:0<=nv b:=by
  cases b with
  |none=>exact aD rfl k
  |some x=>exact aB (i x rfl) λv e h=>e▸h
 refine fS.f (Ej.mpr ⟨f.1,l⟩)<|fK (wK (Nr (Ek ..) 1)<|nC<|wM<|by decide) f.2
def Nw.q(V:VC kind W Y X)(I:VI kind W Y X A){c i:Nat}{k:Nd}{f:Option Vl}(N:Nw kind W Y X A c f)(g:Y[i]? =aa k)(l:ak X i=c):Nw kind W Y X A c (eJ kind f<|rv kind W X A k):=by
 have r:=LK V I g;refine⟨N.e.p (yL _ _).1,λB h=>JP (N.y B h)<|(Yq<|I.h B h).p<|l▸h i k g,λe=>?_,λe j=>?_,λe=>?_⟩;·subst e;exact JO (N.g rfl)<|r.1 rfl
 ·exact CE e (N.h e j) (λa=>.inr<|N.e.f j) λx h=>cz (r.2 e x h) λv b d a=>⟨v,b,d⟩
 ·exact CE e (N.p e) (λa=>.inl<|r.2 e) λx h=>cz (r.2 e x h) λv b d a=>⟨v,b,d⟩
noncomputable def kk(kind n:Nat):Nat:=if kind=0 then 2 else 2^n
def nk(kind n:Nat)(a:Option Vl):Nat:=if a=ae then kk kind n else if kind=0 then(if a=aa .f then 0 else 1)else(nv a).toNat
def rs(kind:Nat)(Y:List Nd)(A:Nat->Option Vl):Nat:=sm (λc=>nk kind Y.length<|A c) Y.length
def Lv{n z:Nat}{a b:Option Vl}(h:Le kind a b)(ne:b≠a)(hb:b≠ae)(m:kind≠0->fS z n b)(ma:kind≠0->fS z n a):nk kind n b<nk kind n a:=by
 delta nk kk
 refine af (ap hb) ?_
 by_cases e:kind=0
 ·subst e
  refine af (aq rfl)<|af (aq rfl) ?_;refine af (aq rfl) ?_
  by_cases ha:a=ae
  ·refine af (aq ha) ?_
   by_cases q:b=aa .f
   ·refine af (aq q) ?_;decide
   ·refine af (ap q) ?_;decide
  ·have hb:=(h.e.resolve_left ha).resolve_left<|dM ne
   refine af (ap ha)<|af (aq hb) ?_;refine af (ap λq=>ne<|hb.trans q.symm) ?_;decide
 ·refine af (ap e)<|af (ap e) ?_;refine af (ap e) ?_
  have b1:=yU (m e) hb
  by_cases ha:a=ae
  ·refine af (aq ha) ?_
   have h1:(nv b+1)*1<=(nv b+1)*2^z:=Am (pq<|da _)<|Ai b1.1
   have h2:=fK h1 b1.2
   rw[El]at h2
   exact(sS b1.1).mpr (by exact_mod_cast h2)
  ·refine af (ap ha) ?_
   have a1:=yU (ma e) ha
   refine(Int.toNat_lt_toNat<|nD b1.1 ?_).mpr ?_<;>refine Nz.mpr ⟨(((h.g e).resolve_left ha).2),λq=>ne ?_⟩
   all_goals
    cases a with
    |none=>exact aD rfl ha
    |some x=>cases b with
     |none=>exact aD rfl hb
     |some y=>exact aB (ma e x rfl) λv h1 x_=>aB (m e y rfl) λw h2 x_=>by subst h1 h2;exact aQ (λv=>aa<|Vl.e v) q
def Yp(V:VC kind W Y X)(I:VI kind W Y X A):rs kind Y A<=Y.length*kk kind Y.length:=by
 refine ay (wm λi c=>?_)<|bf<|L1 (kk kind Y.length) Y.length;by_cases h:A i=ae;·unfold nk;exact af (aq h)<|bb _
 ·exact bu<|aR (Lv (kind:=kind) (n:=Y.length) (z:=zz Y X A) (a:=ae) (b:=A i) (.inl rfl) h h (λe=>I.e e i) λe x q=>aY q) (by unfold nk;exact bb _)
theorem VI.q(I:VI kind W Y X A)(f:X[c]? =aa c)(g:c<Y.length)(N:Nw kind W Y X A c (aa v))(l:aa v≠A c):VI kind W Y X (ai A c<|aa v)/\rs kind Y (ai A c<|aa v)<rs kind Y A:=by
 have m:zf X (ai A c<|aa v)=ai (zf X A) c 0:=by
  funext i;unfold zf;by_cases e:i=c;·rw[e,bg,bg];exact ap λq=>aY q.2.symm
  ·rw[aI e,aI e]
 have a:zz Y X (ai A c<|aa v)+zf X A c=zz Y X A:=by unfold zz;exact m.symm▸(zu (zf X A) c 0 Y.length).2 g
 have b:zz Y X (ai A c<|aa v)<=zz Y X A:=a▸bB ..;have j:kind≠0->fS (zz Y X<|ai A c<|aa v) Y.length (aa v):=λe=>by
  by_cases h:A c=ae;·rw[(show zf X A c=1 from aq ⟨f,h⟩)]at a;refine λx q=>cz (N.p e x q) λw o p k=>(bV w o p ?_);rw[<-a,wN,wN,<-ND]at k;exact Int.le_of_mul_le_mul_right k (by decide)
  ·exact(N.h e h).e b
 refine⟨⟨λd h=>?_,λe d=>?_,λe d=>?_,λB h d=>?_⟩,?_⟩
 ·by_cases q:d=c;·exact q▸f
  ·rw[aI q]at h;exact I.g d h
 ·by_cases q:d=c;·rw[q,bg];exact N.g e
  ·rw[aI q];exact I.p e d
 ·by_cases q:d=c;·rw[q,bg];exact j e
  ·rw[aI q];exact(I.e e d).e b
 ·by_cases q:d=c;·rw[q,bg];exact N.y B h
  ·exact af (aI q)<|I.h B h d
 ·have r:(λd=>nk kind Y.length<|ai A c (aa v) d)=ai (λd=>nk kind Y.length<|A d) c (nk kind Y.length<|aa v):=by
   funext d;by_cases q:d=c;·refine af q<|af (bg ..) ?_;rw[bg]
   ·refine af (aI q) ?_;rw[aI q]
  unfold rs;exact r.symm▸Nat.lt_of_add_lt_add_right (aL (bf<|(zu (λd=>nk kind Y.length<|A d) c (nk kind Y.length<|aa v) Y.length).2 g)<|AC (Lv (n:=Y.length) (z:=zz Y X<|ai A c<|aa v) N.e l (λq=>aY q.symm) j λe=>(I.e e c).e b) _)
end
section
variable{W:Nat}{U:Int}{X:List Nd}{Y:List Nat}{A B:Nat->Option Vl}
theorem VI.f(V:VC W U X Y)(I:VI W U X Y A)(c:Nat):Gd W (A c):=by
 refine⟨λe=>?_,λe=>?_⟩
 ·cases h:A c with
  |none=>exact trivial
  |some x=>cases x with
   |f=>exact trivial
   |e v=>
    have b:=I.p e c v h
    exact KB (k:=2^60) b.1<|pG b.2<|fK V.h (by decide)
 ·cases h:A c with
  |none=>exact .inl rfl
  |some x=>exact cz (I.e e c x h) λv d a g=>.inr<|bV v (aQ aa d) a<|wide a g<|ay V.n bl
where
 wide {v:Int} {z n:Nat} (a:0<=v) (g:(v+1)*2^z<=2^n) (h:n<=39):v<2^40:=by
  have d:(v+1)*1<=(v+1)*2^z:=Am (pq<|da _)<|Ai a
  have i:(2:Int)^n<=2^39:=pq h
  exact Int.lt_of_add_one_le<|fK (uP (El _).symm)<|fK d<|fK g<|fK i (by decide)
def LJ(V:VC W U X Y)(I:VI W U X Y A){i:Nat}{k:Nd}(c:X[i]? =aa k):Gd W (rv W U Y A k):=by
 have r:=LK V I c
 refine⟨λe=>?_,λe=>?_⟩
 ·cases h:rv W U Y A k with
  |none=>exact trivial
  |some x=>cases x with
   |f=>exact trivial
   |e v=>
    have b:=r.1 e v h
    exact KB (k:=2^60) b.1<|pG b.2<|fK V.h (by decide)
 ·cases h:rv W U Y A k with
  |none=>exact .inl rfl
  |some x=>exact cz (r.2 e x h) λv d a g=>.inr<|bV v (aQ aa d) a<|VI.f.wide a g<|ay (eM V.n) bl
def VI.t(V:VC W U X Y)(I:VI W U X Y A):eW (vD A):=Dz (N:=1000) bl λi a=>aR (b_.mp<|I.g i a).1 (V.e▸ay V.n bl)
abbrev eI(X:List Nd)(Y:List Nat):List Nat:=(bM X.length).map<|ak Y
def yy(h:i<X.length):(eI X Y).getD i 0=ak Y i:=by rw[jy,fT,wT h];rfl
def LA(V:VC W U X Y){i:Nat}{k:Nd}(a:X[i]? =aa k):(dG (eI X Y) k).2.map A=k.2.map λx=>A (ak Y x):=fh.trans<|kS λx b=>aQ A<|yy<|bj ((V.g i k a).2 x b) (b_.mp a).1
def MX{l:List b}{a:b×Nat}(h:a∈l.zipIdx):l[a.2]? =aa a.1:=Ol.mp h
def ZH(V:VC W U X Y){a:Nd×Nat}(h:a∈X.zipIdx):sB W U (eI X Y) A a=eJ W (A<|ak Y a.2) (rv W U Y A a.1)/\(eI X Y).getD a.2 0=ak Y a.2:=by have e:=MX h;delta sB rv;rw[(yy (b_.mp e).1),LA V e];exact⟨rfl,rfl⟩
def zm(V:VC W U X Y)(h:i<X.length):ak Y i<X.length/\Y[ak Y i]? =aa (ak Y i):=V.e▸iZ V.f (V.e▸h)
def wu(V:VC W U X Y)(I:VI W U X Y A){a:Nd×Nat}(h:a∈X.zipIdx):ty W U (eI X Y) A a/\∀op,VI W U X Y (fe W U (eI X Y) (A,op) a).1/\((fe W U (eI X Y) (A,op) a=(A,op)/\Le W (rv W U Y A a.1) (A<|ak Y a.2))\/((fe W U (eI X Y) (A,op) a).2=true/\rs W X (fe W U (eI X Y) (A,op) a).1<rs W X A)):=by
 have e:=MX h
 have lt:=(b_.mp e).1
 have s:=ZH (A:=A) V h
 have wk:=V.g _ _ e
 have hl:(eI X Y).length=X.length:=(bq ..).trans f9
 have r:=zm V lt
 refine⟨⟨hl▸lt,wk.1,λx hx=>hl▸bj (wk.2 x hx) lt,?_,I.f V,?_,I.t V⟩,λop=>?_⟩
 ·exact V.q _ (fF e) _ (by refine af (bq ..) ?_;exact bq ..)
 ·exact(LA V e).symm▸LJ V I e
 unfold fe
 refine af s.1<|af s.2 ?_
 by_cases q:eJ W (A<|ak Y a.2) (rv W U Y A a.1)=A (ak Y a.2)
 ·refine af (aq q) ?_;exact⟨I,.inl ⟨rfl,by have l:=(yL (k:=W) (A<|ak Y a.2)<|rv W U Y A a.1).2;rw[q]at l;exact l⟩⟩
 ·refine af (ap q) ?_
  have N:=(Nw.t I<|ak Y a.2).q V I e rfl
  cases hv:eJ W (A<|ak Y a.2) (rv W U Y A a.1)with
  |none=>
   rw[hv]at N q
   by_cases ha:A (ak Y a.2)=ae
   ·exact aD ha.symm q
   ·exact aD rfl<|N.e.f ha
  |some v=>
   rw[hv]at N q
   have p:=I.q r.2 r.1 N q
   exact⟨p.1,.inr ⟨rfl,p.2⟩⟩
def Xw(V:VC W U X Y)(d:List (Nd×Nat)):∀(A:Nat->Option Vl)(c:Bool),VI W U X Y A->(∀a∈d,a∈X.zipIdx)->rs W X (d.foldl (fe W U<|eI X Y) (A,c)).1<=rs W X A/\(c=true->(d.foldl (fe W U<|eI X Y) (A,c)).2=true)/\((d.foldl (fe W U<|eI X Y) (A,c)).2=true->c=true\/rs W X (d.foldl (fe W U<|eI X Y) (A,c)).1<rs W X A)/\((d.foldl (fe W U<|eI X Y) (A,c)).2=false->∀a∈d,Le W (rv W U Y A a.1)<|A<|ak Y a.2):=by induction d with
 |nil=>exact λA c f f=>(ij (bb _) id (.inl) λf a h=>aD h cX)
 |cons a d j=>
  intro A c I h;have t:=(wu V I<|h a bk).2 c;have k:∀b∈d,b∈X.zipIdx:=λb i=>h b<|bR _ i;refine af N3 ?_;rcases t.2 with⟨e,l⟩|⟨e,g⟩;·refine af e ?_;have s:=j A c I k;exact(ij s.1 s.2.1 s.2.2.1 λq b i=>(cB.mp i).elim (λr=>r▸l)<|s.2.2.2 q b)
  ·have s:=j _ (fe W U (eI X Y) (A,c) a).2 t.1 k;have g:=aL s.1 g;exact(ij (bu g) (λf=>s.2.1 e) (λf=>.inr g) λq=>nomatch (s.2.1 e).symm.trans q)
def y4(V:VC W U X Y)(I:VI W U X Y A):((kE W U (eI X Y) X A).2=true->rs W X (kE W U (eI X Y) X A).1<rs W X A)/\((kE W U (eI X Y) X A).2=false->Pf W U X Y A):=by have s:=Xw V X.zipIdx A false I λa h=>h;exact⟨λh=>(s.2.2.1 h).resolve_left λq=>ff q,λh i k b=>s.2.2.2 h (k,i)<|Ol.mpr b⟩
def LL(V:VC W U X Y)(I:VI W U X Y A)(J:VI W U X Y B)(p:Pf W U X Y A)(q:Pf W U X Y B)(c:Nat):A c=B c:=(I.h B q c).q (J.h A p c) (I.f V c)<|J.f V c
end
section
variable{H S G:Hp}{Q:V->St->Prop}{U qs:List (Nat×Nat)}{A B:Nat->Option Vl}
def Lx(b:kr a)(x:Nat):ak a (ak a x)=ak a x:=by
 refine db (w6 x a.length) (λh=>?_) λh=>?_;·exact iY (iZ b h).2
 ·rw[mB h,mB h]
def Gr.h(g:Gr G H)(a:kr G.e)(x:Nat):ak H.e (ak G.e x)=ak H.e x:=g.r _ _<|Lx a x
def Gr.q(g:Gr G H)(V:VC Y X G.f G.e)(a:i<G.f.length)(h:H.e[i]? =aa i):G.e[i]? =aa i:=by have e:=g.h V.f i;replace e:=(iY h)▸e;exact(j8 (sw G.e i)<|ay (bf e.symm)<|sw H.e _)▸(zm V a).2
def YM(h:∀i,f i<=1)(n t:Nat):sm f (n+t)<=sm f n+t:=by induction t with|zero=>exact bb _|succ t a=>exact(fL a (h _):sm f (n+t)+f (n+t)<=sm f n+t+1)
structure Bg(Y:Nat)(X:Int)(z0 n0:Nat)(H:Hp)(f:Nat->Option Vl):Prop where
 p:∀c,f c≠ae->H.e[c]? =aa c
 e:Y=0->∀c,oI X<|f c
 g:Y≠0->∀c,fS z0 n0<|f c
 h:∀B,Pf Y X H.f H.e B->∀c,Le Y (f c)<|B c
def Gr.p(g:Gr G H)(V:VC Y X G.f G.e)(h:Pf Y X H.f H.e B):Pf Y X G.f G.e λc=>B (Lake.ak H.e c):=λi k a=>by refine aV g.n λt e=>?_;have l:=h i k (by refine af e ?_;exact(gM (b_.mp a).1).trans a);unfold rv at l⊢;show Le Y (fR Y X k.1<|k.2.map λx=>B<|Lake.ak H.e<|Lake.ak G.e x) (B<|Lake.ak H.e<|Lake.ak G.e i);exact af (g.h V.f i)<|af (show(k.2.map λx=>B<|Lake.ak H.e<|Lake.ak G.e x)=k.2.map λx=>B (Lake.ak H.e x)from kS λx b=>aQ B<|g.h V.f x) l
def Sc(g:Gr G H)(l:VC Y X G.f G.e)(o:VC Y X H.f H.e)(I:VI Y X G.f G.e A)(i:List Nat):∀f,Bg Y X (zz G.f G.e A) G.f.length H f->(∀c∈i,A c≠ae)->Bg Y X (zz G.f G.e A) G.f.length H (fG Y (ak H.e) A i f)/\(∀c,f c≠ae->fG Y (ak H.e) A i f c≠ae)/\∀c∈i,fG Y (ak H.e) A i f (ak H.e c)≠ae:=by induction i with
 |nil=>exact λf b j=>⟨b,λj h=>h,λc h=>aD h cX⟩
 |cons d i p=>
  intro f b h;have m:=h d bk;have n:eJ Y (f<|ak H.e d) (A d)≠ae:=((yL (f<|ak H.e d)<|A d).2).f m;have s:=p (ai f (ak H.e d)<|eJ Y (f<|ak H.e d)<|A d) ⟨λc a=>?_,λe c=>?_,λe c=>?_,λB k c=>?_⟩ λc a=>h c<|bR _ a
  ·refine⟨s.1,λc a=>s.2.1 c ?_,λc a=>(cB.mp a).elim (λe=>?_)<|s.2.2 c⟩
   ·by_cases q:c=ak H.e d;·rw[q,bg];exact n
    ·rw[aI q];exact a
   ·refine af e ?_;exact s.2.1 _ (by rw[bg];exact n)
  ·by_cases q:c=ak H.e d;·exact q▸(zm o<|aV g.n λt e=>by refine af e ?_;refine af bm ?_;exact aR (l.e▸(b_.mp<|I.g d m).1)<|bB ..).2
   ·rw[aI q]at a;exact b.p c a
  ·by_cases q:c=ak H.e d;·refine af q<|af (bg ..) ?_;subst e;exact JO (b.e rfl _)<|I.p rfl d
   ·exact af (aI q)<|b.e e c
  ·by_cases q:c=ak H.e d;·exact af q<|af (bg ..)<|CE e (b.g e _) (λj=>.inl<|I.e e d) λx r=>cz (I.e e d x r) λv u w j=>(aC v u w)
   ·exact af (aI q)<|b.g e c
  ·by_cases q:c=ak H.e d;·exact af q<|af (bg ..)<|JP (b.h B k _)<|I.h _ (g.p l k) d
   ·exact af (aI q)<|b.h B k c
def Sf(g:Gr G H)(d:VC Y X G.f G.e)(l:VC Y X H.f H.e)(I:VI Y X G.f G.e A)(f:∀c,c∈b↔A c≠ae):VI Y X H.f H.e (fG Y (ak H.e) A b λa=>ae):=by
 have s:=Sc g d l I b (λa=>ae) ⟨λc h=>aD rfl h,λa c v h=>aY h,λa c x h=>aY h,λB a c=>.inl rfl⟩ λc h=>(f c).mp h
 refine⟨s.1.p,s.1.e,λe c x m=>cz (s.1.g e c x m) λv n j o=>(bV v n j ?_),s.1.h⟩
 refine aV g.n λt k=>?_
 have p:zz H.f H.e (fG Y (ak H.e) A b λa=>ae)<=zz G.f G.e A+t.length:=by
  unfold zz
  refine af k<|af bm ?_
  refine ay (YM (λi=>MW) _ _)<|dr (wm λi u=>?_) _
  unfold zf
  by_cases q:H.e[i]? =aa i/\fG Y (ak H.e) A b (λa=>ae) i=ae
  ·have w:G.e[i]? =aa i/\A i=ae:=⟨g.q d u q.1,by
    cases y:A i with
    |none=>rfl
    |some x=>
     have:=s.2.2 i<|(f i).mpr λr=>aY<|r.symm.trans y
     rw[iY q.1]at this
     exact aD q.2 this⟩
   exact af (aq q)<|af (aq w)<|bb 1
  ·exact(ap q).symm▸da _
 refine af ((show H.f.length=G.f.length+t.length from by rw[k,bm])) ?_;refine af (NJ ..) ?_
 refine fK (Am (pq p)<|Ai j)<|af (NJ ..) ?_;refine dh (ND ..) ?_
 exact wK o<|nC<|wM (by decide)
def X9(V:VC Y X d b)(I:VI Y X d b A)(a:List Nd):∀f,Nw Y X d b A c f->(∀s∈a,∃(i:Nat)(k:Nd),d[i]? =aa k/\ak b i=c/\fR Y X s.1 (s.2.map A)=rv Y X b A k)->Nw Y X d b A c (iU Y X A a f)/\Le Y f (iU Y X A a f)/\∀s∈a,Le Y (fR Y X s.1<|s.2.map A) (iU Y X A a f):=by induction a with|nil=>exact λf N p=>⟨N,.h f,λs h=>aD h cX⟩|cons s a l=>intro f N h;have r:=l (eJ Y f<|fR Y X s.1<|s.2.map A) (dA (h s bk) λi k m n o=>o▸N.q V I m n) λt g=>h t<|bR _ g;have j:=yL (k:=Y) f<|fR Y X s.1<|s.2.map A;exact⟨r.1,j.1.p r.2.1,λt g=>(cB.mp g).elim (λe=>e▸j.2.p r.2.1)<|r.2.2 t⟩
def VJ(f:List Nat):∀d:List Nat,d.Nodup->(f0 h f d).Nodup/\∀c,c∈f0 h f d↔c∈d\/∃u∈f,h u=c:=by induction f with
 |nil=>exact λd j=>⟨j,λc=>⟨.inl,λq=>q.elim id λq=>aB q λu k p=>aD k cX⟩⟩
 |cons u f l=>
  intro d j;have st:∀g:List Nat,g.Nodup->(∀c,c∈g↔c∈d\/h u=c)->(f0 h f g).Nodup/\∀c,c∈f0 h f g↔c∈d\/∃v∈u::f,h v=c:=λg m e=>by have s:=l g m;exact⟨s.1,λc=>(s.2 c).trans ⟨λq=>q.elim (λq=>((e c).mp q).imp_right λq=>(aC u bk q)) λq=>aB q λv i q=>.inr ⟨v,bR _ i,q⟩,λq=>q.elim (λq=>.inl<|(e c).mpr<|.inl q) λq=>aB q λv i q=>((cB.mp i).elim (λr=>.inl<|(e c).mpr<|.inr<|r▸q) λi=>.inr ⟨v,i,q⟩)⟩⟩
  by_cases e:h u∈d;·have r:=st d j λc=>⟨.inl,λq=>q.elim id λq=>q▸e⟩;show(f0 h f<|if _ then _ else _).Nodup/\∀c,c∈f0 h f (if h u∈d then d else d++[h u])↔_;exact af (aq e) r
  ·have r:=st (d++[h u]) (s8.mpr ⟨j,gD.mpr ⟨cX,nK⟩,λa n b o q=>e<|cP.mp o▸q▸n⟩) λc=>⟨λq=>(fi.mp q).imp_right λq=>(cP.mp q).symm,λq=>fi.mpr<|q.imp_right λq=>cP.mpr q.symm⟩;show(f0 h f<|if _ then _ else _).Nodup/\∀c,c∈f0 h f (if h u∈d then d else d++[h u])↔_;exact(ap e).symm▸r
end
section
variable{H S G:Hp}{Q:V->St->Prop}{U qs:List (Nat×Nat)}{A B:Nat->Option Vl}
def Cr.Y(F:Cr S G H a U)(b:0<nn)(c:nn<=7)(d:kind<3):VC kind nn H.f H.e:=⟨b,c,d,F.I.d,F.I.g,F.I.h,F.y,F.I.n⟩
structure KI(kind:Nat)(nn:Int)(H:Hp)(A:Nat->Option Vl)(pd:List Nat):Prop where
 I:VI kind nn H.f H.e A
 g:pd.Nodup
 e:∀c∈pd,c<H.e.length/\H.e[c]? =aa c
 f:∀(i:Nat)(k:Nd),H.f[i]? =aa k->ak H.e i∈pd\/Le kind (rv kind nn H.e A k) (A<|ak H.e i)
def Dm:fR kind nn (bG H k).1 ((bG H k).2.map A)=rv kind nn H.e A k:=aQ (fR kind nn k.1) fh
theorem KI.h(V:VC kind nn H.f H.e)(g:GI H U){b f l y:List Nat}(I:KI kind nn H A (c::b))(M:H.q[c]? =aa l)(z:H.g c=aa y)(C:∀s,s∈j↔∃x∈l,∃k,H.f[x]? =aa k/\s=bG H k)(D:∀x,x∈f↔x∈y):(iU kind nn A j (A c)=A c->KI kind nn H A b)/\∀v,iU kind nn A j (A c)=aa v->aa v≠A c->KI kind nn H (ai A c<|aa v) (f0 (ak H.e) f b)/\rs kind H.f (ai A c<|aa v)<rs kind H.f A/\(f0 (ak H.e) f b).length<=H.f.length:=by
 have B:=I.e c bk;have F:=gD.mp I.g;have lo:=g.Y c l B.2 M;have r:=X9 V I.I j (A c) (Nw.t I.I c) λs h=>C5 ((C s).mp h) λx n k a o=>(cp x k a (((lo.2 x).mp n).2)<|by exact o.symm▸Dm);have G:∀(i:Nat)(k:Nd),H.f[i]? =aa k->ak H.e i=c->Le kind (rv kind nn H.e A k) (iU kind nn A j<|A c):=λi k a o=>Dm (A:=A)▸r.2.2 (bG H k) ((C _).mpr<|rV i ((lo.2 i).mpr ⟨V.e▸(b_.mp a).1,o⟩) k a rfl);refine⟨λe=>⟨I.I,F.2,λd t=>I.e d<|bR _ t,λi k h=>?_⟩,λv e P=>?_⟩
 ·refine db (I.f i k h) (λq=>?_) λq=>?_
  ·refine db (cB.mp q) (λq=>?_) λq=>?_;·have:=G i k h q;rw[e]at this;exact af q<|.inr this
   ·exact .inl q
  ·exact .inr q
 ·have N:=r.1;rw[e]at N;have p:=I.I.q B.2 (V.e▸B.1) N P;have L:=VJ (h:=ak H.e) f b F.2;have J:∀d∈f0 (ak H.e) f b,d<H.e.length/\H.e[d]? =aa d:=λd t=>((L.2 d).mp t).elim (λq=>I.e d<|bR _ q) λq=>aB q λu z e=>e▸iZ V.f (V.e.symm▸g.U c y ‹_› u ((D u).mp z));refine⟨⟨p.1,L.1,J,λi k h=>?_⟩,p.2,vB L.1 λd t=>V.e▸(J d t).1⟩;refine db (iG (∃x∈k.2,ak H.e x=c)) (λq=>?_) λq=>?_;·refine aB q λx n q=>aB (g.u i k h x n) λQ a o=>.inl<|(L.2 _).mpr<|.inr<|aC i ((D i).mpr ?_) rfl;rw[q,z]at a;exact bo a▸o
  ·refine af ((show rv kind nn H.e (ai A c<|aa v) k=rv kind nn H.e A k from aQ (fR kind nn k.1)<|kS λx n=>aI λr=>q<|aC x n r))<|db (iG<|ak H.e i=c) (λw=>?_) λw=>?_;·refine af w<|af (bg ..) ?_;refine dh e ?_;exact .inr<|G i k h w
   ·exact(aI w).symm▸(I.f i k h).imp_left λm=>(L.2 _).mpr<|.inl<|(cB.mp m).resolve_left w
def vF(a:List Nat):(dT a).Nodup:=Om.filter _
def p8:c∈dT a↔c<a.length/\a[c]? =aa c:=by unfold dT;rw[oN,fz,qh]
def Vr(K:aG P){X:KW}(z:Z H X.e)(g:GI H U)(V:VC X.g X.p H.f H.e)(u:X.g≠0->H.f.length<=11)(w:X.w 5=ae)(B:X.w 6=ae)(C:∀c,X.h H.h c≠ae->c<H.e.length)(D:∀c,Gd X.g<|X.h H.h c)(F:∀a,(∀c,c∈a↔X.h H.h c≠ae)->VI X.g X.p H.f H.e (fG X.g (ak H.e) (X.h H.h) a λG=>ae))(q:∀A y(z:Z H (X.q A H.h y).e),VI X.g X.p H.f H.e A->Pf X.g X.p H.f H.e A->Q .t z.e):aZ (cx P) (n+6) (.ref<|P.e 12) [.f<|.e 18] z.e Q:=by
 have J:H.f.length*kk X.g H.f.length*(H.f.length+1)+H.f.length<2^19:=by
  unfold kk;by_cases e:X.g=0;·rw[aq e];exact aL (fL (u8 (u9 2 V.n)<|eM V.n) V.n) bl
  ·refine af (ap e) ?_;have d:=u e;exact aL (fL (u8 (u8 d<|OO (bl:0<2) d)<|eM d) d) bl
 refine Vu K z (GI.L (m:=H.N) g<|bb _).toHW V.t V.p w B (λc h=>?_) (λc h=>aV (g.F c h) λl f=>(aC l f λx j=>V.e▸g.U c l f x j)) C D (KI X.g X.p H) (λA o=>rs X.g H.f A*(H.f.length+1)+o.length) _ J (λA o I=>⟨⟨λc h=>(b_.mp<|I.I.g c h).1,I.I.f V,λi k h=>⟨?_,λv p=>?_,?_⟩⟩,I.g,I.e⟩) (λa L=>?_) (λA c o W Y l ul I f M p N=>?_) λA y z I=>q A y z I.I λi k h=>(I.f i k h).resolve_left cX;·have r:c<H.q.length:=g.q▸(b_.mp h).1;exact(aC _ (fg r) λx j=>V.e▸(((g.Y c _ h<|fg r).2 x).mp j).1)
 ·exact V.q k (fF h) _ (by refine af (bq ..) ?_;exact bq ..)
 ·exact aB (cq.mp p) λc G e=>e▸I.I.f V c
 ·exact(Dm (kind:=X.g) (nn:=X.p) (H:=H) (A:=A) (k:=k)).symm▸LJ V I.I h
 ·have b:=F a L;exact⟨⟨b,vF _,λc h=>p8.mp h,λi k h=>.inl<|p8.mpr<|iZ V.f<|V.e▸(b_.mp h).1⟩,fL (u9 _<|Yp V b)<|vB (vF _) λc h=>V.e▸(p8.mp h).1⟩
 ·have t:=I.h V g f M p N;refine⟨λe=>⟨t.1 e,bY _⟩,λv e R=>?_⟩;have s:=t.2 v e R;exact⟨s.1,aR (aR (AC (oP s.2.2) _)<|bf (OS ..).symm)<|ay (u9 _ s.2.1)<|bB ..⟩
end
section
variable{P:bn}{n:Nat}{H S G:Hp}{Q:V->St->Prop}{U:List (Nat×Nat)}{R:Nat}{N:Int}{Y:List Nd}
def JU(K:aG P){X:KW}{f:ah->Option V}(z:Z H X.e)(F:Cr S G H Y U)(cl:Cl Y U (ak H.e))(V:VC R N Y H.e)(w:WD f X.e R N Y U)(hkp:f "keeper"=aa (.f (.e 18)))(hkb:X.y=H.h)(h5:X.w 5=ae)(h6:X.w 6=ae)(I:VI R N Y H.e X.f)(p:Pf R N Y H.e X.f)
  (q:∀z:Z H X.e,Q (.g true) z.e):aZ (cx P) (n+5) (.ref (P.e 57)) [.f (.e 17)] z.e Q:=
 have st:=λhs(I:HI Y U hs)=>Jw V.g w.p I
 VQ K z (GI.L (m:=H.N) F.I (bb _)).toHW w hkp hkb h5 h6 (aQ lO F.e) (HI Y U) List.sum (λhs I=>I.n) (HI.f Y U) (λhs I=>⟨(st hs I).1,(st hs I).2.1⟩) (λhs I h=>Jv I ((st hs I).2.2 h) (F.e▸F.I.t) cl)
  (VI R N Y H.e) (rs R Y) (λA a J h=>⟨(wu V J h).1,λop=>((wu V J h).2 op).1⟩) zL (λA J h=>(y4 V J).1 h) (λA J h=>⟨J.g,λc x_=>LL V I J p ((y4 V J).2 h) c⟩) q
end
section
variable{H S G:Hp}{Q:V->St->Prop}
def KV(X:KW)(H G:Hp):Prop:=X.y<=H.h/\(X.y=H.h->VC X.g X.p G.f G.e/\VI X.g X.p G.f G.e X.f)
def LO(K:aG P)(z:Z H X.e)(F:Cr S G H L M)(V:VC X.g X.p H.f H.e)(f:X.g≠0->H.f.length<=11)(g:X.w 5=ae)(i:X.w 6=ae)(j:KV X H G)(q:∀A y(z:Z H (X.q A H.h y).e),VI X.g X.p H.f H.e A->Pf X.g X.p H.f H.e A->Q .t z.e):aZ (cx P) (n+6) (.ref<|P.e 12) [.f<|.e 18] z.e Q:=by
 have k:=j.2;have b:(∀c,X.h H.h c≠ae->c<H.e.length)/\(∀c,Gd X.g<|X.h H.h c)/\∀a,(∀c,c∈a↔X.h H.h c≠ae)->VI X.g X.p H.f H.e (fG X.g (ak H.e) (X.h H.h) a λm=>ae):=by
  unfold KW.h;by_cases e:X.y=H.h;·refine af (aq e) ?_;have k:=k e;refine⟨λc h=>?_,k.2.f k.1,λa d=>Sf F.g k.1 V k.2 d⟩;refine aR (b_.mp<|k.2.g c h).1 ?_;exact af k.1.e<|af V.e (aV F.g.n λt e=>by refine af e ?_;refine af bm ?_;exact bB ..)
  ·exact af (ap e) ⟨λc h=>aD rfl h,λc=>Jl,λa d=>(af (List.eq_nil_iff_forall_not_mem.mpr λc l=>(d c).mp l rfl) zL)⟩
 exact Vr K z F.I V f g i b.1 b.2.1 b.2.2 q
abbrev LX(N:List Int)(k:Nat)(f:ah->Option V)(a:List V)(Y:Int)(U:Nat)(b:Nat->Option Vl)(c:Nat)(d:ah->Option V)(e:Nat->Option O)(L:List Nd)(M:List (Nat×Nat))(r:Nat->Nat):KW:=⟨aa<|.h<|gu N k,aa<|.h f,aa<|.e a,Y,U,b,c,d,ai (ai e 3<|aa<|cI L) 4<|aa<|.e<|M.map mV,r⟩
abbrev LW(f:ah->Option V)(a:List V)(Y:Int)(U:Nat)(b:Nat->Option Vl)(c:Nat)(d:ah->Option V)(e:Nat->Option O)(r:Nat->Nat):bh:=⟨ae,[aa<|.h f,aa<|nZ U (r 2) c,aa<|.h d,aa<|.g 4 [.e Y],aa<|.g 5 [],aa<|.g 6 [],aa<|.e a],ai e 2<|aa<|.f<|vD b,r⟩
def qm(f:Nat->d)(x y:d)(h:a≠b):ai (ai f a x) b y=ai (ai f b y) a x:=by
 funext i;by_cases e:i=b;·rw[e,bg,aI<|dM h,bg]
 ·by_cases c:i=a;·rw[c,bg,aI h,bg]
  ·rw[aI e,aI c,aI c,aI e]
def Aq:(LX N k f b Y U c d e a L M r).e=((LW f b Y U c d e a r).h L M).e N k:=by show bh.mk _ _ (ai (ai (ai a 3 _) 4 _) 2 _) _=bh.mk _ _ (ai (ai (ai a 2 _) 3 _) 4 _) _;rw[qm _ _ _ (by decide:4≠2),qm _ _ _ (by decide:3≠2)]
def Ew(z:Z H (LX N k f a Y U b c d e L M r).e):∃g:Z H (((LW f a Y U b c d e r).h L M).e N k),z.e=g.e:=by exact Aq▸⟨z,rfl⟩
def Ev(z:Z H (((LW f a Y U b c d e r).h L M).e N k)):∃g:Z H (LX N k f a Y U b c d e L M r).e,z.e=g.e:=by exact af Aq ⟨z,rfl⟩
noncomputable def wx:List ah:=["heap","rows","pairs","kind","n","keeper"]
structure WF(f:ah->Option V)(U:Nat)(Y:Int)(r:Nat->Nat):Prop where
 g:f "heap"=aa (.f<|.e 1)
 t:f "rows"=aa (.f<|.f<|r 3)
 q:f "pairs"=aa (.f<|.f<|r 4)
 h:f "kind"=aa (.e U)
 p:f "n"=aa (.e Y)
 e:f "keeper"=aa (.f<|.e 18)
 k:∀x,f x≠ae->x∈wx
structure LC(N:List Int)(U:Nat)(Y:Int):Prop where
 c:N.length<1000
 e:U<3
 f:0<Y
 g:Y<=7
 h:2<=Y
def WF.y(w:WF f U Y r)(C:LC N U Y):LB f (LW f kl Y U vals kb told ex r) U Y:=⟨rfl,w.g,w.t,w.q,w.h,w.p,C.e,C.f⟩
def Ex(w:WF f U Y r)(C:LC N U Y)(R:RP L M):WD f (LX N k f kl Y U vals kb told ex L M r).e U Y L M:=by have:=(w.y (kl:=kl) (vals:=vals) (kb:=kb) (told:=told) (ex:=ex) C).h R;exact af Aq ⟨this.w,this.y,this.g,this.h,this.F,this.J,this.L,this.T,this.e,this.t,this.N,this.U,this.p,this.q⟩
noncomputable abbrev lm(d:V)(U:Nat)(Y:Int)(a b c:V):List V:=[d,.f<|.e 0,.f<|.e 1,.e U,.e Y,.f<|.e 17,a,b,.f<|.e 18,.f<|.e 23,c]
def No(a:Nat->Option O):Prop:=∀j,j<8->a j=ae
end
section
variable{H S G:Hp}{Q:Fl->List V->St->Prop}
def pj(h:m[i]? =aa v)(a:c8 v=aa v):ev P m σ (.e i)=aa v:=by show(m[i]?).bind c8=_;exact af h a
def BR(K:aG P)(z:Z H W)(F:dP S G c l H B M)(b:m[2]? =aa (.f<|.e 1))(q:∀a(z:Z a W),dP S G c l a B M->rD a M->aP (cx P) (n+7) R m z.e Q):aP (cx P) (n+7) (.e (.f<|.g 13 (.e 2) .f) R) m z.e Q:=d9<|ck K 1 rfl (pj b rfl) rfl rfl (vs:=[]) rfl<|LP K z F.toCr λa z D p t s=>q a z ⟨D,(D.e.trans F.e.symm).symm▸F.F,(aQ lO<|D.e.trans F.e.symm).symm▸F.n,ay (dr t _) F.t,aL (dr p _) F.p,F.h⟩ s
def Qj(K:aG P)(z:Z H X.e)(F:dP S G c l H B M)(V:VC X.g X.p H.f H.e)(a:X.w 5=ae)(b:X.w 6=ae)(d:KV X H G)(e:m[8]? =aa (.f<|.e 18))(q:∀A y(z:Z H (X.q A H.h y).e),VI X.g X.p H.f H.e A->Pf X.g X.p H.f H.e A->aP (cx P) (n+6) R m z.e Q):aP (cx P) (n+6) (.e (.f<|.g 13 (.e 8) .f) R) m z.e Q:=d9<|ck K 40 rfl (pj e rfl) rfl rfl (vs:=[]) rfl<|LO K z F.toCr V (λf=>ay (ay (bB ..)<|bB ..) F.n) a b d q
def m_:Nd:=(bJ 1,[])
structure Cf where
 g:List Int
 e:Nat
 f:Int
noncomputable abbrev Ls:=List<|Hp×List (Nat×Nat)
def rJ(L:Ls):Hp:=NR L H0 λp a=>p.1
noncomputable def r9(L:Ls):List (Nat×List Nat):=uZ [] (λp b a=>a++[(p.1.p.length,p.1.F)]) L
def EY(L:Ls):Prop:=uZ True (λp L a=>(∃G,dP (rJ L) G 1 0 p.1 p.1.f p.2)/\0<p.1.f.length/\m_∈p.1.f/\p.1.J=r9 L/\a) L
noncomputable def lw(r:Nat->Nat)(L:Ls):List V:=uZ [] (λb L a=>a++[.h [.f<|.f<|r<|8+2*L.length,.f<|.f<|r<|9+2*L.length]]) L
def uL(a:Nat->Option O)(L:Ls):Prop:=uZ True (λp L b=>a (8+2*L.length)=aa (cI p.1.f)/\a (9+2*L.length)=aa (.e<|p.2.map mV)/\b) L
def yJ(r:Nat->Nat)(L:Ls):(lw r L).length=L.length:=by induction L with|nil=>rfl|cons p L a=>exact bm.trans<|aQ (·+1) a
def CM(L:Ls)(h:∀j,8<=j->j<8+2*L.length->a j=r j):lw a L=lw r L:=by induction L with|nil=>rfl|cons p L b=>replace h:=((show 8+2*(p::L).length=8+2*L.length+2 from rfl))▸h;show lw a L++[V.h [.f<|.f<|a _,.f<|.f<|a _]]=lw r L++[V.h [.f<|.f<|r _,.f<|.f<|r _]];refine af (b λj c d=>h j c<|bj d<|kU bl)<|af (h (8+2*L.length) (bB ..)<|kU bl) ?_;rw[h (9+2*L.length) (ay bl<|bB ..)<|w0 (u3 (bl:9<8+2) _)<|dL ..]
def Ea(L:Ls)(h:∀j,j<8+2*L.length->b j=a j)(e:uL a L):uL b L:=by induction L with|nil=>trivial|cons p L c=>replace h:=((show 8+2*(p::L).length=8+2*L.length+2 from rfl))▸h;exact(kz ((h (8+2*L.length)<|kU bl).trans e.1) ((h (9+2*L.length)<|w0 (u3 (bl:9<8+2) _)<|dL ..).trans e.2.1)<|c (λj d=>h j<|bj d<|kU bl) e.2.2)
structure LS where
 L:Ls
 H:Hp
 G:Hp
 k:Nat
 f:ah->Option V
 q:Nat->Option Vl
 y:Nat
 F:ah->Option V
 p:Nat->Option O
 e:List Nd
 g:List (Nat×Nat)
 r:Nat->Nat
 t:List V
abbrev LS.X(C:Cf)(s:LS):KW:=LX C.g s.k s.f s.t C.f C.e s.q s.y s.F s.p s.e s.g s.r
structure LI(C:Cf)(c:Nat)(s:LS):Prop where
 e:LC C.g C.e C.f
 F:dP (rJ s.L) s.G c 0 s.H s.e s.g
 f:0<s.e.length
 y:KV (s.X C) s.H s.G
 w:WF s.f C.e C.f s.r
 g:No s.p
 N:uL s.p s.L
 q:s.t=lw s.r s.L
 t:s.H.J=r9 s.L
 T:EY s.L
 h:s.k+50*c<=1000
 J:m_∈s.G.f
 L:s.F=λx_=>ae
def LI.U(I:LI C c s):VC C.e C.f s.H.f s.H.e:=I.F.toCr.Y I.e.f I.e.g I.e.e
def LI.Y(I:LI C c s):(s.X C).w 5=ae:=I.g 5 bl
def LI.Z(I:LI C c s):(s.X C).w 6=ae:=I.g 6 bl
def WF.J{b:Int}(w:WF f a b r)(y:Nat):WF f a b (ai r 2 y):=⟨w.g,w.t.trans<|aQ (λx=>aa<|V.f<|.f x) (aI<|by decide).symm,w.q.trans<|aQ (λx=>aa<|V.f<|.f x) (aI<|by decide).symm,w.h,w.p,w.e,w.k⟩
def Vx(L:Ls):lw (ai r 2 y) L=lw r L:=CM L λj h a=>aI<|iJ<|aR bl h
structure LT(C:Cf)(s:LS):Prop where
 h:rD s.H s.g
 e:s.y=s.H.h
 f:VI C.e C.f s.H.f s.H.e s.q
 g:Pf C.e C.f s.H.f s.H.e s.q
def BO(K:aG P)(z:Z s.H (s.X C).e)(I:LI C c s)(st:rD s.H s.g)(d:m[8]? =aa (.f<|.e 18))(q:∀b(z:Z b.H (b.X C).e),LI C c b->LT C b->b.L=s.L->b.k=s.k->aP (cx P) (n+6) R m z.e Q):aP (cx P) (n+6) (.e (.f<|.g 13 (.e 8) .f) R) m z.e Q:=by exact Qj K z I.F I.U I.Y I.Z I.y d λA y z a p=>q ⟨s.L,s.H,s.H,s.k,s.f,A,s.H.h,s.F,s.p,s.e,s.g,ai s.r 2 y,s.t⟩ z ⟨I.e,⟨⟨I.F.e,I.F.I,I.F.f,I.F.L,I.F.y,I.F.q,I.F.J,Gr.e⟩,I.F.F,I.F.n,I.F.t,I.F.p,I.F.h⟩,I.f,⟨bb _,λe=>⟨I.U,a⟩⟩,I.w.J y,I.g,I.N,I.q.trans (Vx _).symm,I.t,I.T,I.h,I.F.g.g I.J,I.L⟩ ⟨st,rfl,a,p⟩ rfl rfl
end
section
variable{H S G:Hp}{U:List (Nat×Nat)}{Y:List Nd}{Q:Fl->List V->St->Prop}{C:Cf}{c:Nat}{s:LS}
noncomputable abbrev LS.h(s:LS)(H:Hp)(k:Nat)(Y:List Nd)(U:List (Nat×Nat)):LS:=⟨s.L,H,s.G,k,s.f,s.q,s.y,s.F,s.p,Y,U,s.r,s.t⟩
def LI.p{d k:Nat}(I:LI C c s)(r0:0<Y.length)(F:dP (rJ s.L) s.G d 0 H Y U)(hk:k+50*d<=1000):LI C d (s.h H k Y U):=
 have e:H.h=s.H.h:=F.g.b.trans I.F.g.b.symm
 ⟨I.e,F,r0,⟨e▸I.y.1,λq=>I.y.2 (q.trans e)⟩,I.w,I.g,I.N,I.q,F.g.m.trans (I.F.g.m.symm.trans I.t),I.T,hk,I.J,I.L⟩
def LI.a1(I:LI C c s):s.k+16<2^20:=aL (dr (ay (bB ..) I.h) 16) bl
def Ql(K:aG P)(z:Z s.H (s.X C).e)(I:LI C (c+2) s){M:V->List V}(g:∀v x,i<(M v).length/\(M v).set i x=M x/\(M v)[1]? =aa (.f<|.e 0)/\(M v)[5]? =aa (.f<|.e 17))(v:V)(q:∀b(z:Z b.H (b.X C).e)(v:V),LI C c b->b.L=s.L->b.k<=s.k+11->aP (cx P) (n+8) X (M v) z.e Q):aP (cx P) (n+8) (.e (.q i (.f 6<|.e (.J .e (.p 1)<|.f 24<|.e (.e 1)<|.e (.p 2) .f) .f)<|.e (.f<|.f 30<|.e (.e 1)<|.e (.e 5) .f) .f) X) (M v) z.e Q:=by exact aV (Ew z) λz e=>jY e<|Hm K (I.w.y I.e) I.e.c (Cg c) g z v ⟨⟨I.f,I.F.N⟩,I.f,I.F⟩ I.a1 λ{h j k l}m o d f=>aV (Ev m) λp r=>r▸q (s.h h l j k) p o (I.p f.1 f.2<|ay (qH (a:=50)<|ay d<|cy bl _)<|ay (cy (jc 50<|eC _) _) I.h) rfl d
def Qk(K:aG P)(z:Z s.H (s.X C).e)(I:LI C (c+1) s)(d:m[1]? =aa (.f<|.e 0))(i:m[5]? =aa (.f<|.e 17))(q:∀b(z:Z b.H (b.X C).e),LI C c b->b.L=s.L->aP (cx P) (n+9) X m z.e Q):aP (cx P) (n+9) (.e (.g (.t .e (.f 24<|.e (.e 1)<|.e (.p 2) .f)<|.p 0) (.e (.f<|.f 30<|.e (.e 1)<|.e (.e 5) .f) .f) .f) X) m z.e Q:=by
 have kk:=I.h;refine fm<|ju<|mD (n:=n+8) K (W:=(s.X C).e) (k:=s.k) z I.e.c (by exact(aL (ay (bB ..) kk) bl)) (many:=2) bl (pj d rfl) rfl λv y f=>aJ K (e:=.p 0) rfl<|jG (v:=.g<|decide<|(v:Int)=0) rfl<|aC _ rfl ?_;by_cases h:decide ((v:Int)=0)=true;·exact kA h<|aV (Ew (k:=s.k+1) f) λz e=>d9<|lL K 8 rfl<|dC<|aJ K (pj d rfl)<|dC<|aJ K (pj i rfl)<|zW e<|II K (I.w.y I.e) I.e.c (Cg c) (j:=0) z ⟨I.f,I.F⟩ (by exact(aL (dr (dr (ay (bB ..) kk) _) _) bl)) λ{l o p r}t u g=>aV (Ev t) λw x=>bN<|x▸q (s.h l r o p) w (I.p g.1 g.2<|ay (qH (a:=50)<|ay u<|cy (bl:5<=50) s.k) kk) rfl
 ·exact j4 h<|bN<|q (s.h s.H (s.k+1) s.e s.g) f (I.p I.f I.F.N<|ay (qH (a:=50)<|cy (bl:1<=50) s.k) kk) rfl
end
section
variable{H S G:Hp}{Y:List (Nat×Nat)}{Q:Fl->List V->St->Prop}
def GI.a4(I:GI H Y)(m:List (Nat×List Nat))(b:Nat):GI ((H.a1 m).a3 b) Y:=⟨I.n,I.g,I.q,I.h,I.d,I.Y,I.z,I.F,I.y,I.U,I.b,I.u,I.N,I.j,I.t,I.T,I.A,I.J,I.Z,I.v,I.e,I.f,I.m,I.p⟩
def dP.a4(F:dP S G d l H X Y)(m:List (Nat×List Nat))(b:Nat)(h:Hs S' H)(g:Gr G' ((H.a1 m).a3 b)):dP S' G' d l ((H.a1 m).a3 b) X Y:=⟨⟨F.e,F.I.a4 m b,F.f,F.L,F.y,F.q,h,g⟩,F.F,F.n,F.t,F.p,F.h⟩
def Ji(h:8<=c):ai (ai (ai (ai f 3 a) 4 b) 2 d) c e=ai (ai (ai (ai f c e) 3 a) 4 b) 2 d:=by have g:∀j,j<8->j≠c:=λj i=>bZ<|aR i h;rw[qm _ d e<|g 2 bl,qm _ b e<|g 4 bl,qm _ a e<|g 3 bl]
def Hl(K:aG P)(z:Z s.H (s.X C).e)(I:LI C (c+1) s)(i:s.L.length<50)(w:m[2]? =aa (.f<|.e 1))(A:m[5]? =aa (.f<|.e 17))(B:m[9]? =aa (.f<|.e 23))
  (q:∀b(z:Z b.H (b.X C).e),LI C (c+1) b->b.L.length=s.L.length+1->aP (cx P) (n+1) U m z.e Q):
  aP (cx P) (n+1) (.e (.f<|.g 0 (.e 9)<|.e (.F<|.e (.f 4<|.e (.q (.e 5)<|.y "rows") .f)<|.e (.f 4<|.e (.q (.e 5)<|.y "pairs") .f) .f) .f)<|.e (.f<|.g 37 (.e 2) .f) U) m z.e Q:=by
 have k:=GI.L (m:=s.H.N) I.F.I<|bb _
 have o:8<=8+2*s.L.length:=bB ..
 have t:8<=9+2*s.L.length:=ay bl<|bB ..
 have f:8+2*s.L.length≠9+2*s.L.length:=bZ<|u3 bl _
 have a:∀{j},j<8->j≠8+2*s.L.length/\j≠9+2*s.L.length:=λh=>⟨bZ<|aR h o,bZ<|aR h t⟩
 have u:∀{j},j<8+2*s.L.length->j≠8+2*s.L.length/\j≠9+2*s.L.length:=λh=>⟨bZ h,bZ<|bj h<|mI (dr bl _) f⟩
 refine Qi K (W:=(s.X C).e) (rows:=s.e) (pairs:=s.g) ⟨rfl,I.w.g,I.w.t,I.w.q,I.w.h,I.w.p,I.e.e,I.e.f⟩ rfl rfl (I.F.U I.f).N (I.F.U I.f).e z (8+2*s.L.length) (9+2*s.L.length) (dM (a (j:=4) bl).1) (l:=s.t) rfl (by refine af I.q ?_;refine af (yJ ..) ?_;exact bj i bl) (show 6<7 by decide) B A λx y z=>?_
 refine d9<|ck K 15 rfl (pj w rfl) rfl rfl (vs:=[]) rfl<|Wb K z (bj k.c bl) (bj k.w bl) (by exact I.t.symm▸aL (bf<|mlen s.L) (bj i bl)) λz=>?_
 have d:∀{j},j≠8+2*s.L.length/\j≠9+2*s.L.length->ai (ai s.r (8+2*s.L.length) x) (9+2*s.L.length) y j=s.r j:=λh=>(aI h.2).trans<|aI h.1
 have v:∀{j},j≠8+2*s.L.length/\j≠9+2*s.L.length->ai (ai s.p (8+2*s.L.length)<|aa<|cI s.e) (9+2*s.L.length) (aa<|.e<|s.g.map mV) j=s.p j:=λh=>(aI h.2).trans<|aI h.1
 have D:=q ⟨(s.H,s.g)::s.L,s.H.a1<|s.H.J++[(s.H.p.length,s.H.F)],s.G.a1<|s.H.J++[(s.H.p.length,s.H.F)],s.k,s.f,s.q,s.y,s.F,ai (ai s.p (8+2*s.L.length)<|aa<|cI s.e) (9+2*s.L.length)<|aa<|.e<|s.g.map mV,s.e,s.g,ai (ai s.r (8+2*s.L.length) x) (9+2*s.L.length) y,s.t++[.h [.f<|.f x,.f<|.f y]]⟩
 have F:((((s.X C).e.g (8+2*s.L.length) x<|cI s.e).g (9+2*s.L.length) y<|.e<|s.g.map mV).t<|(s.X C).e.f.set 6<|aa<|.e<|s.t++[.h [.f<|.f x,.f<|.f y]])=(LX C.g s.k s.f (s.t++[.h [.f<|.f x,.f<|.f y]]) C.f C.e s.q s.y s.F (ai (ai s.p (8+2*s.L.length)<|aa<|cI s.e) (9+2*s.L.length)<|aa<|.e<|s.g.map mV) s.e s.g<|ai (ai s.r (8+2*s.L.length) x) (9+2*s.L.length) y).e:=by
  show bh.mk _ [_,aa<|nZ C.e (s.r 2) s.y,_,_,_,_,_] (ai (ai _ _ _) _ _) _=bh.mk _ [_,aa<|nZ C.e (ai (ai s.r _ x) _ y 2) s.y,_,_,_,_,_] _ _
  refine af (Ji o)<|af (Ji t) ?_;rw[d<|a bl]
 have zz:∃g:Z (s.H.a1<|s.H.J++[(s.H.p.length,s.H.F)]) (LX C.g s.k s.f (s.t++[.h [.f<|.f x,.f<|.f y]]) C.f C.e s.q s.y s.F (ai (ai s.p (8+2*s.L.length)<|aa<|cI s.e) (9+2*s.L.length)<|aa<|.e<|s.g.map mV) s.e s.g<|ai (ai s.r (8+2*s.L.length) x) (9+2*s.L.length) y).e,z.e=g.e:=by
  exact F▸⟨z,rfl⟩
 have G:s.t++[.h [.f<|.f x,.f<|.f y]]=lw (ai (ai s.r (8+2*s.L.length) x) (9+2*s.L.length) y) ((s.H,s.g)::s.L):=by
  show _=lw _ s.L++[V.h [.f<|.f<|ai (ai s.r _ x) _ y<|8+2*s.L.length,.f<|.f<|ai (ai s.r _ x) _ y<|9+2*s.L.length]]
  refine af (CM (r:=s.r) s.L λj M h=>d<|u h)<|af (bg ..) ?_;refine af (aI f) ?_;refine af (bg ..) ?_;rw[<-I.q]
 have H:uL (ai (ai s.p (8+2*s.L.length)<|aa<|cI s.e) (9+2*s.L.length)<|aa<|.e<|s.g.map mV) ((s.H,s.g)::s.L):=by
  refine⟨?_,bg ..,Ea s.L (λj h=>v<|u h) I.N⟩
  refine af (aI f)<|af (bg ..) ?_;rw[I.F.e]
 refine aV zz λg e=>e▸D g ⟨I.e,I.F.a4 (S':=s.H) (G':=s.G.a1<|s.H.J++[(s.H.p.length,s.H.F)]) (s.H.J++[(s.H.p.length,s.H.F)]) s.H.h Hs.h ⟨I.F.g.n,I.F.g.r,rfl,I.F.g.b⟩,I.f,I.y,(show WF s.f C.e C.f (ai (ai s.r (8+2*s.L.length) x) (9+2*s.L.length) y)from⟨I.w.g,by refine af (d<|a bl) ?_;exact I.w.t,by refine af (d<|a bl) ?_;exact I.w.q,I.w.h,I.w.p,I.w.e,I.w.k⟩),λj h=>(v<|a h).trans<|I.g j h,H,G,aQ (·++[(s.H.p.length,s.H.F)]) I.t,(tN (⟨s.G,(I.F.e.symm▸I.F.a0 (eM<|da c) (bb 0))⟩) (I.F.e.symm▸I.f) (I.F.g.g I.J) I.t I.T),I.h,I.J,I.L⟩ rfl
where
 mlen (L:Ls):(r9 L).length=L.length:=by
  induction L with
  |nil=>rfl
  |cons p L J=>exact bm.trans<|aQ (·+1) J
end
section
variable{H S G:Hp}{Q:Fl->List V->St->Prop}
def DW(K:aG P)(z:Z s.H (s.X C).e)(I:LI C c s)(T:LT C s)(a:m[5]? =aa (.f<|.e 17))(q:∀z:Z s.H (s.X C).e,R (.g true) z.e):aF (cx P) (n+5) (.f 29<|.e (.e 5) .f) m z.e R:=lL K 7 rfl<|dC<|aJ K (pj a rfl)<|JU K z I.F.toCr (I.F.e▸T.h.e) (I.F.e▸I.U) (Ex I.w I.e<|I.F.U I.f) I.w.e T.e I.Y I.Z (I.F.e▸T.f) (I.F.e▸T.g) q
noncomputable abbrev CN:Ss:=(.e (.f<|.g 0 (.e 9)<|.e (.F<|.e (.f 4<|.e (.q (.e 5)<|.y "rows") .f)<|.e (.f 4<|.e (.q (.e 5)<|.y "pairs") .f) .f) .f)<|.e (.f<|.g 37 (.e 2) .f)<|.e (.q 10 (.f 6<|.e (.J .e (.p 1)<|.f 24<|.e (.e 1)<|.e (.p 2) .f) .f)<|.e (.f<|.f 30<|.e (.e 1)<|.e (.e 5) .f) .f)<|.e (.f<|.g 13 (.e 2) .f)<|.e (.g (.t .h (.f 24<|.e (.e 1)<|.e (.p 3) .f)<|.p 0) (.e (.f<|.g 13 (.e 8) .f)<|.e (.g (.l<|.f 29<|.e (.e 5) .f) (.e (.h<|.U false) .f) .f) .f) .f) .f)
def LI.a0(I:LI C c s)(F:dP (rJ s.L) s.G c 0 H' s.e s.g):LI C c (s.h H' s.k s.e s.g):=I.p I.f F I.h
def VB(K:aG P)(z:Z s.H (s.X C).e)(I:LI C (c+3) s)(y:s.L.length<50)(r:∀g(z:Z g.H (g.X C).e)(d:V),LI C (c+1) g->g.L.length=s.L.length+1->R (lm l C.e C.f a b d) z.e):aP (cx P) (n+9) CN (lm l C.e C.f a b d) z.e (LQ R Q):=by
 refine Hl (n:=n+8) (c:=c+2) K z I y rfl rfl rfl λA B m D=>Ql (n:=n+1) (c:=c+1) K B m (M:=lm l C.e C.f a b) (λv x=>(ij ((show 10<11 by decide)) rfl rfl rfl)) d λf F d2 i G H=>BR (n:=n+2) K F i.F rfl λj J o L=>?_;have p:=i.a0 o;have q:f.L.length=s.L.length+1:=(aQ lO G).trans D;refine fm<|ju<|mD (n:=n+8) K (W:=((f.h j f.k f.e f.g).X C).e) (k:=f.k) J p.e.c (aL (ay (bB ..) p.h) bl) (many:=3) bl rfl rfl λv hv t=>aJ K (e:=.p 0) rfl<|jG (v:=.g<|decide<|(0:Int)<v) rfl<|aC _ rfl ?_;have u:LI C (c+1) (f.h j (f.k+1) f.e f.g):=i.p i.f o<|ay (qH (a:=50)<|ay (eM H)<|cy (bl:12<=50) A.k)<|ay (cy (jc 50<|eC _) _) m.h;by_cases h:decide ((0:Int)<v)=true;·refine kA h<|BO (n:=n+3) K (s:=f.h j (f.k+1) f.e f.g) t u L rfl λN z5 w T5 l5 k5=>?_;refine fm<|wF<|DW (n:=n+4) K z5 w T5 rfl λz6=>⟨true,rfl,⟨false,rfl,j4 dR<|bN<|gr<|bN (P:=P) (n:=n+9)<|gr<|r N z6 d2 w<|(aQ lO l5).trans q⟩⟩
 ·exact j4 h<|bN<|gr<|r (f.h j (f.k+1) f.e f.g) t d2 u q
def VD(K:aG P)(l:List V):∀{s:LS}(z:Z s.H (s.X C).e)(b d:V),LI C (c+1+2*l.length) s->s.L.length+l.length<50->(∀x∈l,x≠.q)->(∀e(z:Z e.H (e.X C).e)(b d:V),LI C (c+1) e->e.L.length=s.L.length+l.length->Q .e (lm g C.e C.f a b d) z.e)->eG (λx m σ k=>7<m.length/\x≠.q/\aP (cx P) (n+9) CN (m.set 7 x) σ k) (λh=>True) l (lm g C.e C.f a b d) z.e Q:=by induction l with|nil=>exact λz b d I h h q=>q _ z b d I rfl|cons x l o=>intro s z b d I f i q;rw[(show c+1+2*(x::l).length=c+2*l.length+3 from dL c 1 _)]at I;rw[iu]at f q;refine⟨(show 7<11 by decide),i x bk,VB (c:=c+2*l.length) K z I (aL (bB ..) f) λe p r t j=>⟨trivial,o p x r (dL c 1 (2*l.length)▸t) (by refine af j ?_;refine af (fA ..) ?_;rw[hY 1];exact f) (λy u=>i y<|bR _ u) λv w A d2 B D=>q v w A d2 B<|by refine af D ?_;refine af j ?_;refine af (fA ..) ?_;rw[hY 1]⟩⟩
end
section
variable{P:bn}{n:Nat}{H S G:Hp}{W:bh}{m:List V}{Q:Fl->List V->St->Prop}{C:Cf}{c:Nat}{s:LS}
def Dg:cD f k v k=v:=aq rfl
def wi(h:x≠k):cD f k v x=f x:=ap h
def za{f:ah->Option V}{k:ah}{v:Option V}{L:List ah}(h:∀x,f x≠ae->x∈L)(b:k∈L)(x:ah)(a:cD f k v x≠ae):x∈L:=by
 refine db (iG<|x=k) (λe=>?_) λe=>?_;·exact e▸b
 ·replace a:=(wi e)▸a;exact h x a
def DB(h:∀x,f x≠ae->x∈wx):eW f:=(aC wx (by refine af bX ?_;decide) h)
def wk(k:ah)(h:k="rows"\/k="pairs"\/k="keeper"):k∈wx:=by
 have g:(("rows":ah)∈(["heap","rows","pairs","kind","n","keeper"]:List ah))/\(("pairs":ah)∈(["heap","rows","pairs","kind","n","keeper"]:List ah))/\(("keeper":ah)∈(["heap","rows","pairs","kind","n","keeper"]:List ah)):=by decide+kernel
 rcases h with rfl|rfl|rfl;·exact g.1
 ·exact g.2.1
 ·exact g.2.2
def WF.F{f:ah->Option V}{b:Nat}{c:Int}{r r':Nat->Nat}(w:WF f b c r):WF (vA f (r' 3)<|r' 4) b c r':=by have a:∀{k:ah},k≠"pairs"->k≠"rows"->vA f (r' 3) (r' 4) k=f k:=λd e=>(wi d).trans<|wi e;exact⟨(a (by decide+kernel)<|by decide+kernel).trans w.g,(wi<|by decide+kernel).trans Dg,Dg,(a (by decide+kernel)<|by decide+kernel).trans w.h,(a (by decide+kernel)<|by decide+kernel).trans w.p,(a (by decide+kernel)<|by decide+kernel).trans w.e,za (za w.k<|wk _<|.inl rfl)<|wk _<|.inr<|.inl rfl⟩
noncomputable abbrev Dc:Ss:=(.e (.p [(.f (.e 5)<|.y "rows"),(.f (.e 5)<|.y "pairs")]<|.g 2 (.e 9) .f)<|.e (.f<|.g 2 (.e 2) .f) .f)
noncomputable def om(n j:Nat):Nat:=if j=3 then 8+2*n else if j=4 then 9+2*n else j
def Yd(h:8<=j):om n j=j:=(ap<|iJ<|aR bl h).trans<|ap<|iJ<|aR bl h
def Dk(h:ai (ai (ai (ai (ai k (8+2*n) ae) (9+2*n) ae) 3 A) 4 B) 2 d i=aa o):(i=3/\A=aa o)\/(i=4/\B=aa o)\/(om n i=i/\i≠8+2*n/\i≠9+2*n)/\ai (ai (ai k 3 a) 4 b) 2 d i=aa o:=by
 by_cases f:i=2;·subst f;rw[bg]at h;exact .inr<|.inr ⟨⟨rfl,by exact(bZ<|aR bl<|bB ..),by exact(bZ<|aR bl<|bB ..)⟩,(bg ..).trans h⟩
 replace h:=(aI f)▸h;by_cases c:i=4;·subst c;rw[bg]at h;exact .inr<|.inl ⟨rfl,h⟩
 rw[aI c]at h;by_cases e:i=3;·subst e;rw[bg]at h;exact .inl ⟨rfl,h⟩
 replace h:=(aI e)▸h;by_cases g:i=9+2*n;·rw[g,bg]at h;exact aY h
 rw[aI g]at h;by_cases j:i=8+2*n;·rw[j,bg]at h;exact aY h
 rw[aI j]at h;exact .inr<|.inr ⟨⟨(ap e).trans<|ap c,j,g⟩,(aI f).trans<|(aI c).trans<|(aI e).trans h⟩
def Ye(t:f (8+2*n)=aa A)(u:f (9+2*n)=aa B):(∀i o,ai (ai (ai (ai (ai f (8+2*n) ae) (9+2*n) ae) 3<|aa A) 4<|aa B) 2 d i=aa o->ai (ai (ai f 3 a) 4 b) 2 d (om n i)=aa o)/\∀i j o p,ai (ai (ai (ai (ai f (8+2*n) ae) (9+2*n) ae) 3<|aa A) 4<|aa B) 2 d i=aa o->ai (ai (ai (ai (ai f (8+2*n) ae) (9+2*n) ae) 3<|aa A) 4<|aa B) 2 d j=aa p->om n i=om n j->i=j:=by
 have r:∀{c},8<=c->ai (ai (ai f 3 a) 4 b) 2 d c=f c:=λh=>(aI<|iJ<|aR bl h).trans<|(aI<|iJ<|aR bl h).trans<|aI<|iJ<|aR bl h;have s:8+2*n≠9+2*n:=bZ<|u3 bl _;have m:om n 3=8+2*n:=rfl;have q:om n 4=9+2*n:=rfl;refine⟨λi o h=>?_,λi j o p h g e=>?_⟩
 ·rcases Dk (a:=a) (b:=b) h with⟨rfl,h⟩|⟨rfl,h⟩|⟨k,h⟩;·rw[m,r<|bB ..,t];exact h
  ·rw[q,r<|ay bl<|bB ..,u];exact h
  ·rw[k.1];exact h
 ·rcases Dk (a:=a) (b:=b) h with⟨rfl,_⟩|⟨rfl,_⟩|⟨k,_⟩<;>rcases Dk (a:=a) (b:=b) g with⟨rfl,_⟩|⟨rfl,_⟩|⟨l,_⟩;·rfl
  ·exact aD e s
  ·rw[m,l.1]at e;exact aD e.symm l.2.1
  ·exact aD e.symm s
  ·rfl
  ·rw[q,l.1]at e;exact aD e.symm l.2.2
  ·rw[m,k.1]at e;exact aD e k.2.1
  ·rw[q,k.1]at e;exact aD e k.2.2
  ·rw[k.1,l.1]at e;exact e
def XJ(K:aG P)(z:Z s.H (s.X C).e)(I:LI C 1 s)(c:s.L=p::L)(t:L.length<60)(D:m[2]? =aa (.f<|.e 1))(H:m[5]? =aa (.f<|.e 17))(J:m[9]? =aa (.f<|.e 23))(q:∀g(z:Z g.H (g.X C).e),LI C 1 g->g.L=L->Q .e m z.e):aP (cx P) (n+6) Dc m z.e Q:=by have k:EY (p::L):=c▸I.T;have r:uL s.p (p::L):=c▸I.N;refine Qn K (W:=(s.X C).e) (f:=s.f) (tl:=[aa<|nZ C.e (s.r 2) s.y,aa<|.h s.F,aa<|.g 4 [.e C.f],aa<|.g 5 [],aa<|.g 6 [],aa<|.e s.t]) (l:=lw s.r L) (x:=s.r<|8+2*L.length) (y:=s.r<|9+2*L.length) z (λu=>DB<|za I.w.k<|wk _<|.inl rfl) (DB I.w.k) (aQ (λl=>aa<|O.e l)<|I.q.trans<|aQ (lw s.r) c) ((yJ _ _).symm▸t) (show 5<6 by decide) J H λz=>?_;have v:=Ye (a:=aa<|cI s.e) (b:=aa<|.e<|s.g.map mV) (d:=aa<|.f<|vD s.q) r.1 r.2.1;have w:∀{j},j<8+2*L.length->j≠8+2*L.length/\j≠9+2*L.length:=λh=>⟨bZ h,bZ<|bj h<|u3 bl _⟩;have o:∀{j},j<8+2*L.length->ai (ai s.p (8+2*L.length) ae) (9+2*L.length) ae j=s.p j:=λh=>(aI (w h).2).trans<|aI (w h).1;refine aV (z.L (om L.length) _ v.1 v.2) λM N=>jY N ?_;have A:=k.1;have B:=I.y.1;refine d9<|ck K 0 rfl (pj D rfl) rfl rfl (vs:=[]) rfl<|XM (n:=n+1) (S:=p.1) K M ((o<|aR (bl:0<8)<|bB ..).trans<|I.g 0 bl) ((o<|aR (bl:1<8)<|bB ..).trans<|I.g 1 bl) (show s.H.J=r9 L++[(p.1.p.length,p.1.F)]from I.t.trans<|aQ r9 c) (Hl.mlen L▸bj t bl) (aV A λG F=>F.I.hu) (by have:=I.F.J;replace this:=c▸this;exact this) λR=>bN ?_;refine q ⟨L,(p.1.a1<|r9 L).a3<|s.H.h+1,(p.1.a1<|r9 L).a3<|s.H.h+1,s.k,vA s.f (s.r<|8+2*L.length)<|s.r<|9+2*L.length,s.q,s.y,s.F,ai (ai s.p (8+2*L.length) ae) (9+2*L.length) ae,p.1.f,p.2,λi=>s.r<|om L.length i,lw s.r L⟩ R ⟨I.e,aV A λG F=>F.a4 _ _ F.J Gr.e,k.2.1,⟨mH B,λe=>aD e<|bZ<|oP B⟩,I.w.F (r':=λi=>s.r<|om L.length i),λj h=>(o<|aR h<|bB ..).trans<|I.g j h,Ea L (λj h=>o h) r.2.2,(CM L λj h8 hj=>aQ s.r<|Yd h8).symm,rfl,k.2.2.2.2,I.h,k.2.2.1,I.L⟩ rfl
end
section
variable{H S G:Hp}{Q:Fl->List V->St->Prop}
def XN(K:aG P)(l:List V):∀{s:LS}(z:Z s.H (s.X C).e)(b:V),LI C 1 s->l.length<=s.L.length->s.L.length<50->(∀x∈l,x≠.q)->(∀c(z:Z c.H (c.X C).e)(b:V),LI C 1 c->Q .e (lm i C.e C.f a b d) z.e)->eG (λx m σ k=>7<m.length/\x≠.q/\aP (cx P) (n+6) Dc (m.set 7 x) σ k) (λf=>True) l (lm i C.e C.f a b d) z.e Q:=by induction l with|nil=>exact λz b I f f f q=>q _ z b I|cons x l r=>intro s z b I e g j q;cases h:s.L with|nil=>rw[h]at e;exact aD e (Nat.not_succ_le_zero _)|cons p L=>rw[h]at e g;exact⟨(show 7<11 by decide),j x bk,XJ K z I h (bj (kW g) bl) rfl rfl rfl λc t u o=>⟨trivial,r t x u (o▸OH e) (o▸kW g) (λy v=>j y<|bR _ v) q⟩⟩
noncomputable abbrev Mv:Ss:=(.e (.g (.t .e (.f 24<|.e (.e 1)<|.e (.p 2) .f)<|.p 0) (.e (.f<|.f 30<|.e (.e 1)<|.e (.e 5) .f) .f) .f)<|.e (.f<|.g 13 (.e 2) .f)<|.e (.f<|.g 13 (.e 8) .f)<|.e (.h<|.k (.f 29<|.e (.e 5) .f)<|.c (.t .h (.e 3)<|.p 0)<|.f 31<|.e (.e 5) .f) .f)
def uM(P:bn)(n:Nat):Prop:=∀{C:Cf}{s:LS}(z:Z s.H (s.X C).e){Q:V->St->Prop},LI C 0 s->LT C s->C.e=0->(∀σ,Q (.g true) σ)->aZ (cx P) n (.ref<|P.e 59) [.f<|.e 17] z.e Q
def VV(K:aG P)(fr:uM P (n+11))(z:Z s.H (s.X C).e)(I:LI C 1 s){Q:V->St->Prop}(q:∀σ,Q (.g true) σ):aP (cx P) (n+11) Mv (lm l C.e C.f a b d) z.e (FQ Q):=by
 refine Qk (n:=n+2) (c:=0) K z I rfl rfl λf m g i=>BR (n:=n+4) K m g.F rfl λo p r t=>BO (n:=n+5) K (s:=f.h o f.k f.e f.g) p (g.a0 r) t rfl λy u j k i i=>dy<|sK<|DW (n:=n+6) K u j k rfl λw=>⟨true,rfl,kA rfl<|nz<|aJ K (e:=.t .h (.e 3)<|.p 0) (v:=.g<|decide<|(0:Int)<C.e) rfl ⟨_,rfl,?_⟩⟩;by_cases h:decide ((0:Int)<C.e)=true;·rw[h];exact kA rfl<|q _
 ·exact af (zU.mpr h)<|j4 dR<|lL K 9 rfl<|dC<|aJ K (e:=.e 5) rfl<|fr w j k (E2 λx=>h<|bQ<|oJ.mpr x) q
end
section
variable{H S G:Hp}{Q:Fl->List V->St->Prop}
def LI.a2(I:LI C c s)(h:d<=c):LI C d s:=⟨I.e,I.F.a0 h<|bb 0,I.f,I.y,I.w,I.g,I.N,I.q,I.t,I.T,ay (cy (jc 50 h) _) I.h,I.J,I.L⟩
def Qm(K:aG P)(z:Z s.H (s.X C).e)(I:LI C c s)(st:rD s.H s.g)(f:s.k+1+50*c<=1000)(g:m[1]? =aa (.f<|.e 0))(i:m[8]? =aa (.f<|.e 18))(q:∀a(z:Z a.H (a.X C).e),LI C c a->a.L=s.L->a.k=s.k+1->aP (cx P) (n+6) ss m z.e Q):aP (cx P) (n+6) (.e (.g (.t .e (.f 24<|.e (.e 1)<|.e (.p 2) .f)<|.p 0) (.e (.f<|.g 13 (.e 8) .f) .f) .f) ss) m z.e Q:=by
 refine fm<|ju<|mD (n:=n+5) K (W:=(s.X C).e) (k:=s.k) z I.e.c (aL (ay (bB ..) I.h) bl) (many:=2) bl (pj g rfl) rfl λv t b=>aJ K (e:=.p 0) rfl<|jG (v:=.g<|decide<|(v:Int)=0) rfl<|aC _ rfl ?_;have d:LI C c (s.h s.H (s.k+1) s.e s.g):=I.p I.f I.F f;by_cases h:decide ((v:Int)=0)=true;·exact kA h<|BO K (s:=s.h s.H (s.k+1) s.e s.g) b d st i λj l o u p r=>bN<|q j l o p r
 ·exact j4 h<|bN<|q (s.h s.H (s.k+1) s.e s.g) b d rfl rfl
def Lu:∀x∈aH (bM k),x≠V.q:=λx a=>aB (cq.mp a) λy b e=>e▸λe=>V.noConfusion e
def zj:(aH<|bM k).length=k:=by rw[bK,f9]
abbrev CV:Ss:=(.e (.q 7 (.f 6<|.e (.J .e (.p 1)<|.f 24<|.e (.e 1)<|.e (.p 2) .f) .f) CN)<|.e (.q 7 (.f 6<|.e (.J .e (.p 1)<|.f 24<|.e (.e 1)<|.e (.f 3<|.e (.e 9) .f) .f) .f) Dc) Mv)
def Wz(K:aG P)(fr:uM P (n+11))(z:Z s.H (s.X C).e)(I:LI C 6 s)(t:s.L=[])(u:s.k+1+50*6<=1000){Q:V->St->Prop}(q:∀σ,Q (.g true) σ):aP (cx P) (n+11) CV (lm p C.e C.f a b d) z.e (FQ Q):=by have m:∀{k:Nat},k<=1000->k<2^20:=λh=>aL h bl;refine BN (n:=n+10) K (W:=(s.X C).e) z I.e.c (m<|ay (bB ..) I.h) (many:=2) bl bl rfl rfl λv g x=>?_;have o:s.L.length=0:=aQ lO t;refine VD (n:=n+2) (c:=1) K (aH<|bM<|v+1) (s:=s.h s.H (s.k+1) s.e s.g) x b d ((I.p I.f I.F u).a2<|by rw[zj];exact(ay (cy (u8 (bb _)<|jA g) _) bl)) (by rw[zj];exact(aL (fL (bf o)<|jA g) bl)) Lu λe y A d2 f i=>?_;replace i:=zj▸i;have j:v+1<50->e.L.length<50:=λh=>aL (bf<|(i:e.L.length=s.L.length+(v+1)).trans<|(aQ (·+(v+1)) o).trans<|j9 _) h;refine BN (n:=n+10) K (W:=(e.X C).e) y f.e.c (m<|ay (bB ..) f.h) (many:=e.L.length) (by exact(aR (aR (aL (da _)<|bY _)<|qZ ..)<|bf i.symm)) (bj (j<|aL g bl) bl) rfl (fD (r:=.e 23) (l:=e.t) rfl rfl (by refine af f.q ?_;refine af (yJ ..) ?_;exact bj (j<|aL g bl) bl)<|by refine af f.q ?_;rw[yJ]) λw B D=>?_;exact XN (n:=n+5) K (aH<|bM<|w+1) (s:=e.h e.H (e.k+1) e.e e.g) D A (f.p f.f f.F.N<|ay (qH (a:=50)<|cy (bl:1<=50) e.k) f.h) (by refine af zj ?_;exact B) (j<|aL g bl) Lu λH F J G=>VV K fr F G q
end
section
variable{H S G:Hp}{Q:Fl->List V->St->Prop}
def Yj(x:Nat):ak [] x=x:=mB<|da x
def Ud:dP H0 H0 8 3 H0 [] []:=⟨⟨rfl,⟨da _,rfl,rfl,λa b h=>aY h,λi k h=>aY h,λc l h=>aY h,λi l h=>aY h,λa h=>aY h,λi h=>aD rfl h,λc l h=>aY h,da _,λi k h=>aY h,λs o h=>aY h,λs h=>aD rfl h,λr d a=>aQ r<|Yj a,λp h=>aD h cX,λx h=>aD h cX,rfl,rfl,λi w h=>aY h,bb _,bb _,bb _,bl⟩,rfl,λj h=>aD h<|oQ _,λk h=>aD h cX,nK,Hs.h,Gr.e⟩,λk h=>aD h cX,bl,bb 16,bl,bl⟩
def V6:∀o∈(["x","1","12"]:List ah),j0 o=true/\nf o (gU o)=true/\Lf (o,[])/\(["x","1","12"]:List ah).Nodup/\(o,[])∉([]:List Nd):=by
 have g:∀o∈(["x","1","12"]:List ah),j0 o=true:=by decide+kernel
 have w:∀o∈(["x","1","12"]:List ah),nf o (gU o)=true:=by delta gU nf;decide+kernel
 exact λo h=>(tN (g o h) (w o h) (λi a e=>(show∀o∈(["x","1","12"]:List ah),∀i,i<7->o=bJ i->i<2 from by unfold bJ;decide+kernel) o h i a<|aQ u_ e) (by decide+kernel) cX)
def Xj:m_∈([]:List Nd)++(["x","1","12"]:List ah).map (λo=>(o,[])):=by exact cq.mpr<|aC _ (by unfold bJ;decide+kernel) rfl
def dP.Z(F:dP S G c l H Y X):dP S H c l H Y X:=⟨⟨F.e,F.I,F.f,F.L,F.y,F.q,F.J,Gr.e⟩,F.F,F.n,F.t,F.p,F.h⟩
def Wn(b:List ah):∀(a:List V)(k:ah),(b.zip a).lookup k≠ae->k∈b:=by induction b with
 |nil=>exact λa k h=>aD rfl h
 |cons x b c=>intro a k h;cases a with
  |nil=>exact aD rfl h
  |cons v a=>
   by_cases e:k=x;·exact e▸bk
   ·rw[qX,uW,lp.mpr e]at h;exact bR _<|c a k h
def DC(x y:Nat)(a:Nat)(b:Int):i5 x y a b "heap"=aa (.f<|.e 1)/\i5 x y a b "rows"=aa (.f<|.f x)/\i5 x y a b "pairs"=aa (.f<|.f y)/\i5 x y a b "kind"=aa (.e a)/\i5 x y a b "n"=aa (.e b)/\∀k,i5 x y a b k≠ae->k∈wx:=by refine(tO (by kernel_rfl) (by kernel_rfl) (by kernel_rfl) (by kernel_rfl) (by kernel_rfl) λk h=>(jz (["keeper"]:List ah) (Wn ["heap","rows","pairs","kind","n"] _ k h):k∈(["heap","rows","pairs","kind","n"]:List ah)++(["keeper"]:List ah)))
def aaC{c:Int}(d:r 3=x)(e:r 4=y):WF (cD (i5 x y b c) "keeper"<|aa<|.f<|.e 18) b c r:=by have w:=DC x y b c;have a:∀{k:ah},k≠"keeper"->cD (i5 x y b c) "keeper" (aa<|.f<|.e 18) k=i5 x y b c k:=λh=>wi h;exact⟨(a<|by decide+kernel).trans w.1,(a<|by decide+kernel).trans<|d▸w.2.1,(a<|by decide+kernel).trans<|e▸w.2.2.1,(a<|by decide+kernel).trans w.2.2.2.1,(a<|by decide+kernel).trans w.2.2.2.2.1,Dg,za w.2.2.2.2.2<|wk _<|.inr<|.inr rfl⟩
abbrev Vk:Ss:=(.e (.p [(.e 8),(.e 9)]<|.F<|.e (.f 19<|.e (.e 2)<|.e (.q (.F<|.e (.f 20<|.e (.e 4) .f)<|.e (.f 21 .f)<|.e (.f 22 .f) .f)<|.e 3) .f)<|.e (.N .f) .f)<|.e (.e (.f (.e 5)<|.y "keeper")<|.e 8)<|.e (.g (.t .e (.f 24<|.e (.e 1)<|.e (.p 2) .f)<|.p 0) (.e (.f<|.g 13 (.e 8) .f) .f) .f) CV)
abbrev W1(x y a:Nat)(b:Int):bh:=⟨ae,[aa<|.h<|i5 x y a b,ae,ae,ae,ae,ae,ae],λc=>ae,ai (ai (λc=>0) 3 x) 4 y⟩
def Vn(K:aG P)(fr:uM P (n+11)){g:Int}(l:LC j c g)(z:Z H (((W1 x y c g).h Y X).e j k))(F:dP H0 G 6 0 H Y X)(B:G.J=[])(D:m_∈G.f)(t:rD H X)(J:0<Y.length)(o:k+2+50*6<=1000){Q:V->St->Prop}(q:∀σ,Q (.g true) σ):aP (cx P) (n+11) Vk [p,.f<|.e 0,.f<|.e 1,.e c,.e g,.f<|.e 17,a,b,d,e,f] z.e (FQ Q):=by refine gF<|j7<|Vq (n:=n+9) (W:=((W1 x y c g).h Y X).e j k) (wd:=aa<|.h<|i5 x y c g) (kp:=ae) K z l.e rfl rfl rfl λu w=>oH K (vs:=[]) (r:=.e 23) rfl rfl ?_;refine aV (w.p (i:=6) (.e []) bl) λA L=>⟨_,.inl rfl,rfl,bl,nu,bl,nu,?_⟩;refine jY (show bi w.e (.e 23) (.e [])=A.e from L)<|co<|aJ K (e:=.e 8) (v:=.f<|.e 18) rfl<|vw K (r:=.e 17) (x:="keeper") (f:=i5 x y c g) rfl rfl rfl (DB (DC x y c g).2.2.2.2.2) ?_;refine aV (A.p (i:=0) (.h<|cD (i5 x y c g) "keeper"<|aa<|.f<|.e 18) bl) λM N=>?_;have I:LI ⟨j,c,g⟩ 6 ⟨[],H,H,k,cD (i5 x y c g) "keeper"<|aa<|.f<|.e 18,λh=>ae,H.h,λh=>ae,λh=>ae,Y,X,ai (ai (ai (λh=>0) 3 x) 4 y) 2 u,[]⟩:=⟨l,F.Z,J,⟨bb _,λh=>⟨(F.toCr.Y l.f l.g l.e),zL⟩⟩,aaC rfl rfl,λh h=>rfl,trivial,rfl,F.g.m.trans B,trivial,ay (dr (bB ..) _) o,F.g.g D,rfl⟩;exact jY N<|(λz=>Qm (ss:=CV) (Q:=FQ Q) (m:=lm p c g a b f) (n:=n+5) (C:=⟨j,c,g⟩) K (s:=(⟨[],H,H,k,cD (i5 x y c g) "keeper"<|aa<|.f<|.e 18,λh=>ae,H.h,λh=>ae,λh=>ae,Y,X,ai (ai (ai (λh=>0) 3 x) 4 y) 2 u,[]⟩:LS)) z I t (ay (dr (eC _) _) o) rfl rfl λs7 R I7 l7 k7=>Wz K fr R I7 l7 (by refine af k7 ?_;exact o) q) M
def VS(K:aG P)(fr:uM P (n+11)){cs:List Int}(s:cs.length<=63){Q:V->St->Prop}(q:∀σ,Q (.g true) σ):aZ (cx P) (n+12) (.ref<|P.e 60) [.y<|cs.map .e] (j6 (gO 16 ae) (l8 ae) λc=>ae) Q:=by
 have d:(rM cs).length<1000:=by unfold rM;exact af (bq ..)<|aL (Od _ _) bl
 refine K.f 60 rfl rfl<|VT (g:=λc=>.q) K s<|VU (n:=n+6) (g:=λc=>.q) K d λx y a v z k t=>?_;have w:=DC x y a<|2+v;have l:(0:Int)<2+v:=Int.add_pos_of_pos_of_nonneg (by decide)<|ip v;have b:LB (i5 x y a<|2+v) (W1 x y a<|2+v) a (2+v):=⟨rfl,w.1,w.2.1,w.2.2.1,w.2.2.2.1,w.2.2.2.2.1,k,l⟩;refine mS<|aJ K (e:=.F<|.e (.y "x")<|.e (.y "1")<|.e (.y "12") .f) rfl<|c_ _ _ rfl<|Qw (n:=n+4) K b (V5 (S:=H0) (G:=H0) 8 _) (g:=λc=>.q) ["x","1","12"] (H:=H0) (rows:=[]) z .q ⟨Ud,rfl,V6⟩ λ{A m}B C f=>?_;have o:m_∈m:=by have h:=f.2.1;rw[Oh,hK]at h;exact h.symm▸Xj
 have j:=f.1.Z;have p:0<m.length:=EN o;exact Hm (n:=n+3) K b d (Cg (S:=H0) (G:=A) 6) (i:=7) (M:=λu=>[.y<|cs.map .e,.f<|.e 0,.f<|.e 1,.e a,.e<|2+v,.f<|.e 17,C,u,.q,.q,.q]) (λu x=>(ij bl rfl rfl rfl)) B .q ⟨⟨p,j.N⟩,p,j⟩ bl λ{N R W k2}D v2 F r=>BR (n:=n+4) K D r.2 rfl λH3 I J L=>Vn K fr ⟨d,k,l,Ef (kP.mpr<|f_ t) 2,Nx<|ip v⟩ I J f.1.g.m (j.e.symm▸o) L r.1 (by exact(ay (dr (dr F _) _) bl)) q
end
section
variable{H S G:Hp}
def KQ(h:numOf a k=aa j):a[j]? =aa k:=aB (EJ.mp (h:EH _ _=aa j)) λb e c=>(fg b).trans<|aQ aa<|beq_iff_eq.mp e
def Vy(I:GI H Y)(h:(x,[])∉H.f):H.t (x,[])=ae:=by cases e:H.t (x,[])with|none=>rfl|some o=>refine cz (I.N _ o e) λk b c d=>aD ?_ h;have:k=(x,[]):=q9 c<|Og.mp<|d (λa=>0) ⟨λa a=>rfl,λa a a a a a a a=>rfl⟩;exact this▸fF b
def VZ(I:GI H Y)(a:H.N=H.f.length){e:Int}(h:(x,[])∉H.f):ak (hZ H (x,[]) e).e=ak H.e:=by show ak (n8 (kD (iB (o3 H (x,[]) e) H.f.length) (x,[])<|H.t (x,[])) H.f.length (x,[])<|H.t (x,[])).e=_;delta iB;exact af (aq a.symm)<|((Vy I h)).symm▸zn I.h
def tY(a:List Nd):Nat:=sm (λi=>if(bJ i,[])∈a then 0 else 1) 7
def WB(c:i<7)(h:(bJ i,[])∉a):tY (a++[(bJ i,[])])+1<=tY a:=by
 have s:=(zu (λi=>if(bJ i,[])∈a then 0 else 1) i 0 7).2 c;replace s:=(ap h)▸s;refine ay (eM<|wm λj d=>?_)<|bf s;by_cases e:j=i;·subst e;exact af (bg ..)<|(aq<|jR _ bk).symm▸bb 0
 ·refine af (aI e) ?_;by_cases q:(bJ j,[])∈a;·exact af (aq<|jz _ q)<|da _
  ·refine af (ap q) ?_;by_cases b:(bJ j,[])∈a++[(bJ i,[])];·exact af (aq b)<|da 1
   ·exact(ap b).symm▸bb 1
def WC(h:m_∈a):tY a<=6:=by
 refine ay (wm (g:=ai (λb=>1) 1 0) λj b=>?_) (bl:sm (ai (λb=>1) 1 0) 7<=6);by_cases e:j=1;·subst e;exact af (bg ..)<|af (aq<|show(bJ 1,[])∈a from h)<|bb 0
 ·exact af (aI e)<|db (iG<|(bJ j,[])∈a) (λq=>(af (aq q)<|da 1)) λq=>(ap q).symm▸bb 1
def Ua(h:i<7):q5 (bJ i,[]):=by exact J5<|(show∀i,i<7->nf (bJ i) (gU<|bJ i)=true from by delta bJ gU nf;decide+kernel) i h
structure PF(S G H:Hp)(X:List Nd)(Y:List (Nat×Nat))(i:Nat)(H':Hp)(j:Nat):Prop where
 e:Cr S G H' (kF X (0,i)) Y
 j:H'.f[j]? =aa (bJ i,[])
 r:ak H'.e=ak H.e
 m:H'.f.length+tY H'.f<=H.f.length+tY H.f
 t:tl H'.g H'.f.length<=tl H.g H.f.length
 p:ph H'<=ph H+1022
 o:∀(n:Nat)(k:Nd),H'.f[n]? =aa k->H.f[n]? =aa k\/n=H.f.length
 g:Gr H H'
def PF.f(F:Cr S G H X Y)(l:H.f.length<18)(m:tl H.g H.f.length<=16)(o:ph H+1022<2^17)(d:i<7){j:Nat}(h:mK H (bJ i) H' j):PF S G H X Y i H' j:=by
 rcases h with⟨e,a⟩|⟨x,e,f,a⟩;·subst e;have g:=KQ a;have b:(bJ i,[])∈X:=F.e▸fF g;exact⟨by delta kF;refine af (aq b) ?_;exact F,g,rfl,bb _,bb _,bB ..,λn k h=>.inl h,Gr.e⟩
 ·subst e a;have c:=yT f;have A:=F.a1 (e:=x) l (ay m bl) o (Ua d) (da 2) (λy p=>aD p cX) f;have b:(bJ i,[])∉X:=F.e▸c;refine⟨by delta kF;refine af (ap b) ?_;exact A.1,A.2.e▸lr,VZ F.I F.f c,?_,A.2.t,A.2.p,λn k h=>?_,A.2.g⟩;·refine af A.2.e<|af bm ?_;show H.f.length+1+_<=_;refine af (fA ..) ?_;rw[hY 1];exact cy (WB d c) _
  ·rw[A.2.e]at h;exact(mY h).imp_right λh=>h.1
def Uc{l:List Nd}(b:l.Nodup)(h:l[j]? =aa k):l.findIdx (λx=>decide<|x=k)=j:=by have a:l.findIdx (λx=>decide<|x=k)<l.length:=N2<|aC k (fF h)<|bQ rfl;exact(EK a b).mp<|(fg a).trans<|(aQ aa<|cR<|N1 (w:=a)).trans h.symm
end
section
variable{H S B:Hp}{A:Nat->Option Vl}
structure FB(Y:Int)(S B:Hp)(rows:List Nd)(X:List (Nat×Nat))(A:Nat->Option Vl):Prop where
 e:Cr S B B rows X
 V:VC 0 Y rows B.e
 I:VI 0 Y rows B.e A
 p:Pf 0 Y rows B.e A
 t:2<=Y
 q:∀k∈rows,Lf k
theorem FB.h(b:FB Y S B rows X A)(a:i<7)(h:rows[n]? =aa (bJ i,[])){v:Int}(c:A (ak B.e n)=aa (.e v)):v=i:=by
 have e:rv 0 Y B.e A (bJ i,[])=aa (.e i):=by show(gU<|bJ i).map (λi=>Vl.e<|i%Y)=_;exact((show∀i:Nat,i<7->gU (bJ i)=aa (i:Int)from by delta bJ gU;decide+kernel) i a).symm▸aQ (λx=>aa<|Vl.e x) (Int.emod_eq_of_lt (ip i)<|pG (hH.mpr<|b.q _ (fF h) i a rfl) b.t)
 have p:=(b.p n _ h).e;rw[e,c]at p;exact(p.resolve_left λq=>nomatch q).elim (λq=>(Vl.e.inj<|bo q).symm) λq=>nomatch q
def FB.f(b:FB Y S B rows X A){v:Int}(h:A c=aa (.e v)):∃i:Nat,v=i/\i<7:=cj (b.I.p rfl c v h) λa d=>(aC v.toNat ((uR a).symm)<|(sS a).mpr<|pG d b.V.h)
def NL(B:Hp)(rows:List Nd)(c:Nat):Prop:=∀(i n:Nat),i<7->rows[n]? =aa (bJ i,[])->ak B.e n≠c
def K8:(bJ i,[])∈mr rows (eI rows B.e) c↔∃n:Nat,rows[n]? =aa (bJ i,[])/\ak B.e n=c:=by
 delta mr;rw[cq];refine⟨λh=>aB h λn a e=>?_,λh=>aB h λn d f=>⟨n,?_,?_⟩⟩;·rw[oN,fz,qh]at a;rw[yy a.1]at a;exact⟨n,(λb e=>(gS default b).trans<|aQ aa e) a.1 e,a.2⟩
 ·have b:=(b_.mp d).1;rw[oN,fz,qh,yy b];exact⟨b,f⟩
 ·rw[jy,d];rfl
def TF{c i:Nat}(a:i<7)(b:NL B rows c)(h:A c=aa (.e i)):fn A rows (eI rows B.e) c=aa (c,i):=by delta fn;exact h.symm▸ap λq=>aB (K8.mp q) λn d e=>b i n a d e
def IN(b:FB Y S B rows X A)(h:∀i:Nat,A c=aa (.e i)->(bJ i,[])∈mr rows (eI rows B.e) c):fn A rows (eI rows B.e) c=ae:=by delta fn;cases e:A c with|none=>rfl|some v=>cases v with|f=>rfl|e v=>refine aB (b.f e) λi a d=>?_;subst a;exact aq<|h i e
end
section
variable{n:Nat}{H S B:Hp}{X:List (Nat×Nat)}{rows:List Nd}{G:Int}{A:Nat->Option Vl}
abbrev ql(B:Hp)(rows:List Nd)(A:Nat->Option Vl)(a:List Nat):List (Nat×Nat):=a.filterMap<|fn A rows<|eI rows B.e
structure FI(S B:Hp)(rows:List Nd)(X:List (Nat×Nat))(A:Nat->Option Vl)(H:Hp)(R:List Nat)(Q:Nat):Prop where
 e:∃dn,dn++R=dT B.e/\Q=(ql B rows A dn).length/\Cr S B H ((ql B rows A dn).foldl nU (rows,X)).1 ((ql B rows A dn).foldl nU (rows,X)).2
 n:H.f.length+tY H.f<=17
 t:tl H.g H.f.length<=16
 p:ph H+1100*R.length+1100<2^17
 h:∀c∈R,NL B rows c->∀x,ak H.e x=ak H.e c->x<B.f.length/\ak B.e x=c
 y:∀i n:Nat,i<7->H.f[n]? =aa (bJ i,[])->∀v:Nat,A (ak H.e n)=aa (.e v)->∃m:Nat,H.f[m]? =aa (bJ v,[])/\ak H.e m=ak H.e n
section
variable{c:Nat}{R:List Nat}{Q:Nat}
def FI.F(I:FI S B rows X A H (c::R) Q):(c<B.e.length/\B.e[c]? =aa c)/\c∉R:=aB I.e λb e d=>by have a:=vF B.e;rw[<-e]at a;exact⟨p8.mp<|e▸jR _ bk,(gD.mp (s8.mp a).2.1).1⟩
def FI.g(I:FI S B rows X A H R Q):Gr B H:=aV I.e λa h=>h.2.2.g
def FI.q(I:FI S B rows X A H R Q):B.f.length<=H.f.length:=aV I.g.n λt e=>by rw[e,bm];exact bB ..
def FI.Z(I:FI S B rows X A H R Q)(b:FB G S B rows X A)(a:j<B.f.length)(h:H.f[j]? =aa k):rows[j]? =aa k:=aV I.g.n λt e=>by rw[e,gM a,b.e.e]at h;exact h
def FI.N(I:FI S B rows X A H (c::R) Q)(a:kr H.e)(b:NL B rows c):ak H.e c=c:=by exact j8 (sw H.e c)<|ay (bf (I.h c bk b _<|Lx a c).2.symm)<|sw B.e _
def FI.J(I:FI S B rows X A H (c::R) Q)(b:FB G S B rows X A)(nl:¬NL B rows c):fn A rows (eI rows B.e) c=ae/\∀v:Nat,A (ak H.e c)=aa (.e v)->∃m:Nat,H.f[m]? =aa (bJ v,[])/\ak H.e m=ak H.e c:=by
 refine aV (show∃i,∃n:Nat,i<7/\rows[n]? =aa (bJ i,[])/\ak B.e n=c from ?_) λi h=>cz h λn hi h1 h2=>?_;·exact DS λq=>nl λi n h1 h2 h3=>q<|cp i n h1 h2 h3
 refine⟨IN b λj hj=>?_,λv hv=>?_⟩;·have e:=b.h hi h1<|h2.symm▸hj;exact(mE.mp e).symm▸K8.mpr ⟨n,h1,h2⟩
 ·have e:ak H.e n=ak H.e c:=I.g.r n c<|h2.trans (iY I.F.1.2).symm;rw[<-e]at hv⊢;exact I.y i n hi (aV I.g.n λt e=>by refine af e ?_;exact b.e.e.symm▸(gM (b_.mp h1).1).trans h1) v hv
def FI.L(I:FI S B rows X A H (c::R) Q)(h:fn A rows (eI rows B.e) c=ae):FI S B rows X A H R Q:=by
 refine⟨cz I.e λa b f g=>(aC (a++[c]) ((lN ..).trans b) ?_),I.n,I.t,aL (dr (cy (jc _<|eC _) _) _) I.p,λd i=>I.h d<|bR _ i,I.y⟩;have e:ql B rows A (a++[c])=ql B rows A a:=by show EE _ _=_;rw[NU,As h];exact hK _
 exact af e ⟨f,g⟩
def FI.f(I:FI S B rows X A H R Q):H.f.length<18/\ph H+1022<2^17:=⟨oP<|ay (bB ..) I.n,aL (fL (bB ..) bl) I.p⟩
def FI.Y(I:FI S B rows X A H R Q)(b:FB G S B rows X A):A (ak H.e H.f.length)≠aa (.e v):=λq=>by rw[(aV I.e λc h=>mB<|bf h.2.2.I.g)]at q;have a:=(b_.mp<|b.I.g _ λr=>aY<|r.symm.trans q).1;rw[b.V.e,<-b.e.e]at a;exact dE _<|aR a I.q
def FI.T(I:FI S B rows X A H (c::R) Q)(b:FB G S B rows X A){f:List Nd}{g:List (Nat×Nat)}(F:PF S B H f g i H' j)(l:i<7):(∀d,NL B rows d->∀(a:d∈c::R),ak H.e j≠ak H.e d)/\∀(n:Nat)(k:Nd),H'.f[n]? =aa k->∀v:Nat,A (ak H.e n)=aa (.e v)->H.f[n]? =aa k:=by refine⟨λd e a q=>?_,(λn k h v m=>(F.o n k h).resolve_right λq=>I.Y b<|q▸m)⟩;have u:=I.h d a e j q;exact e i j l (I.Z b u.1<|(F.o j _ F.j).resolve_right λq=>dE _<|aR (q▸u.1) I.q) u.2
def FI.a0(I:FI S B rows X A H (c::R) Q)(b:FB G S B rows X A){i:Nat}(f:A (ak H.e c)=aa (.e i))(h:mK H (bJ i) H' j)(e:ak H'.e c=ak H'.e j):FI S B rows X A H' R Q:=by
 have g:i<7:=aB (b.f f) λk a n=>mE.mp a▸n;refine cz I.e λp d1 d2 d3=>?_;have F:=PF.f d3 I.f.1 I.t I.f.2 g h;rw[F.r]at e;refine db (iG<|NL B rows c) (λd=>?_) λd=>?_;·exact aD e.symm<|(I.T b F g).1 c d bk
 ·have l:=I.J b d;rcases h with⟨q,_⟩|⟨_,_,o,_⟩;·exact q.symm▸I.L l.1
  ·exact aB (l.2 i f) λm a r=>aD (fF a)<|yT o
def FI.U(I:FI S B rows X A H (c::R) Q)(b:FB G S B rows X A){i:Nat}{f:Hp}(s:A (ak H.e c)=aa (.e i))(h:mK H (bJ i) f j)(Y:ak f.e c≠ak f.e j):FI S B rows X A (fE f c j x) R (Q+1):=by
 have w:i<7:=aB (b.f s) λk g r=>mE.mp g▸r;refine cz I.e λz d1 d2 d3=>?_;have F:=PF.f d3 I.f.1 I.t I.f.2 w h;have p:=I.T b F w;refine db (iG<|NL B rows c) (λC=>?_) λC=>?_
 ·have D:=I.F;have ac:ph f+1<2^17:=aL (ay (eM F.p)<|fL (bB (ph H)<|1100*(R.length+1)) (bl:1023<=1100)) I.p;have M:=F.e.a2 (x:=x) (F.e.e▸(show c<f.f.length from aV (F.g.n) λt e=>by refine af e ?_;refine af bm ?_;exact aR (aR (b.e.I.g▸D.1.1) I.q)<|bB ..)) (F.e.e▸((b_.mp F.j).1)) ac;have J:=M.2;have u:=TF (rows:=rows) (B:=B) w C (show A c=aa (.e i)from by rw[(I.N d3.I.h C)]at s;exact s);refine⟨(aC (z++[c]) ((lN ..).trans d1) ?_),J.e▸ay F.m I.n,ay (J.e.symm▸J.t)<|ay F.t I.t,?_,λd u L y hy=>?_,λi0 n h0 N v o=>?_⟩
  ·have e:ql B rows A (z++[c])=ql B rows A z++[(c,i)]:=by show EE _ _=_;refine af NU<|af (At u) ?_;rfl
   refine af e<|af bm ?_;refine dh d2<|af List.foldl_append ?_;refine⟨rfl,?_⟩;show Cr S B _ (kF _ (c,i)) (_++[t_ _ (c,i)]);exact((show t_ ((ql B rows A z).foldl nU (rows,X)).1 (c,i)=(c,j)from aQ (Prod.mk c)<|Uc (F.e.e▸F.e.q)<|F.e.e▸F.j)).symm▸M.1
  ·exact aL (dr (qH (a:=1100)<|ay J.p<|ay (eM F.p)<|cy (bl:1023<=1100) _) _) I.p
  ·refine(J.q y d hy).elim (λq=>?_) λq=>?_;·replace q:=F.r▸q;exact I.h d (bR _ u) L y q
   ·replace q:=F.r▸q;exact q.2.elim (λq=>(aD ((iY D.1.2).symm.trans (I.h d (bR _ u) L c q.symm).2▸u) D.2)) λq=>aD q.symm<|p.1 d L<|bR _ u
  ·rw[J.e]at N⊢;have P:∀(m:Nat)(k:Nd),H.f[m]? =aa k->f.f[m]? =aa k:=λm k U=>aV F.g.n λt e=>by exact af e<|(gM (b_.mp U).1).trans U
   refine(J.J n).elim (λq=>?_) λq=>?_;·rw[q,F.r]at o;exact aB (I.y i0 n h0 (p.2 n _ N v o) v o) λm g r=>(aC m (P m _ g)<|(show∀m:Nat,ak H.e m=ak H.e n->ak (fE f c j x).e m=ak (fE f c j x).e n from λm q=>J.g.r m n<|by exact F.r.symm▸q) m r)
   ·have W:ak (fE f c j x).e j=ak (fE f c j x).e n:=q.1.elim (λq=>J.r.symm.trans<|J.g.r c n q.symm) λq=>J.g.r j n q.symm;refine q.2.elim (λq=>?_) λq=>?_;·rw[q,F.r,s]at o;have:i=v:=mE.mp<|Vl.e.inj<|bo o;exact(aC j (this▸F.j) W)
    ·rw[q,F.r]at o;exact aB (I.y i j w (p.2 j _ F.j v o) v o) λm g r=>(aC m (P m _ g)<|(J.g.r m j<|by exact F.r.symm▸r).trans W)
 ·have l:=I.J b C;rcases h with⟨q,hj⟩|⟨_,_,aK,_⟩;·subst q;exact aB (l.2 i s) λm g r=>aD ((((EK (b_.mp g).1 d3.q).mp<|g.trans (KQ hj).symm)▸r).symm) Y
  ·exact aB (l.2 i s) λm g x_=>aD (fF g)<|yT aK
end
end
section
variable{P:bn}{n:Nat}{H S B:Hp}{W:bh}{Y:Int}{A:Nat->Option Vl}
def FB.g(b:FB Y S B M u A):(dT B.e).length<=18:=ay (vB (N:=B.f.length) (vF _) λc h=>b.e.I.g▸(p8.mp h).1) b.e.I.n
def Ux(b:FB Y S B M u A)(k:X.f=A)(l:X.y=B.h):FW X (FI S B M u A):=by
 subst k;refine⟨λ{H c n o}I=>?_,λ{H c n o}I h=>?_,λI a h e=>I.a0 b a h e,λI a h p=>I.U b a h p⟩
 ·refine cz I.e λq d1 d2 d3=>?_;have g:c<H.f.length:=aR (b.e.I.g▸I.F.1.1) I.q;refine(tO (d3.aw I.f.1 I.t<|kW I.f.2) (l.trans I.g.b.symm) (d3.I.g.symm▸g) ?_ (λv a=>b.f a) λi r j s h=>?_);·refine af d2<|aL (ay (wU _ _)<|ay ?_ b.g) bl;exact dh d1<|af bm<|bB ..
  ·have F:=PF.f d3 I.f.1 I.t I.f.2 s h;exact⟨(GI.L (m:=r.N) F.e.I<|bb _).jw,F.e.I.g.symm▸aV F.g.n λt e=>by refine af e ?_;refine af bm ?_;exact aR g<|bB ..,F.e.I.g.symm▸(b_.mp F.j).1⟩
 ·exact db (iG<|NL B M c) (λf=>(I.L<|IN b λi w=>aD ((I.N (aV I.e λq d=>d.2.2.I.h) f).symm▸w)<|h i)) λf=>I.L (I.J b f).1
def T_(b:FB Y S B M u A)(f:m_∈M)(a:B.f.length<=11)(t:tl B.g B.f.length<=16)(p:ph B+1100*20<2^17):FI S B M u A B (dT B.e) 0:=by
 refine⟨(bV ([]) rfl rfl b.e),fL a<|WC<|b.e.e.symm▸f,t,?_,λc g m x h=>?_,λi n j h v k=>(aC n ?_ rfl)⟩;·exact aL (by refine af (fA ..) ?_;exact cy (ay (dr (jc _<|ay (vB (N:=B.f.length) (vF B.e) λc h=>b.e.I.g▸(p8.mp h).1) a) _) bl) _) p
 ·have d:=p8.mp g;have e:=h.trans<|iY d.2;refine⟨?_,e⟩;refine dh b.e.I.g<|OK λq=>?_;rw[mB q]at e;exact dE _<|aR d.1<|e▸q
 ·have l:M[n]? =aa (bJ i,[]):=b.e.e▸h;rw[<-mE.mp (b.h j l k)]at h;exact h
def TJ(D:List (Nat×Nat)):∀s:List Nd×List (Nat×Nat),(D.foldl nU s).2.length=s.2.length+D.length:=by induction D with|nil=>exact λs=>rfl|cons p D a=>exact λs=>(a _).trans (by show(s.2++[_]).length+D.length=_;rw[bm,fA,hY _ D.length];rfl)
structure FE(f:ah->Option V)(S B:Hp)(Y:Int)(r:Nat->Nat)(M:List Nd)(u:List (Nat×Nat))(H:Hp)(X:KW):Prop where
 e:Cr S B H M u
 F:rD H u
 g:X.y=H.h
 k:X.g=0
 n:X.p=Y
 J:VI 0 Y H.f H.e X.f
 p:Pf 0 Y H.f H.e X.f
 L:X.w 5=ae
 N:X.w 6=ae
 T:X.Z=aa (.h f)
 t:X.r 3=r 3
 y:X.r 4=r 4
 U:0<M.length
 q:u.length<2^19
theorem FE.h(K:aG P)(E:FE f S B Y r M u H X)(w:WF f 0 Y r)(a:LC c 0 Y)(q:∀d,Q (.g true) d)(z:Z H (X.e.h M u)):aZ (cx P) (n+5) (.ref<|P.e 57) [.f<|.e 17] z.e Q:=by
 have zz:∃b:Z H (X.U<|ai (ai X.w 3<|aa<|cI M) 4<|aa<|.e<|u.map mV).e,z.e=b.e:=by
  have e:(X.U<|ai (ai X.w 3<|aa<|cI M) 4<|aa<|.e<|u.map mV).e=X.e.h M u:=by show bh.mk _ _ (ai (ai (ai X.w 3 _) 4 _) 2 _) _=bh.mk _ _ (ai (ai (ai X.w 2 _) 3 _) 4 _) _;refine af (qm _ _ _ (by decide:4≠2)) ?_;rw[qm _ _ _ (by decide:3≠2)]
  exact e.symm▸⟨z,rfl⟩
 exact aV zz λb e=>zW e<|JU (f:=f) K b E.e (E.e.e▸E.F.e) (E.e.e▸(E.e.Y a.f a.g a.e)) ⟨(aQ aa E.T),w.g,(w.t.trans<|aQ (λx=>aa<|Lake.V.f<|.f x) E.t.symm),(w.q.trans<|aQ (λx=>aa<|Lake.V.f<|.f x) E.y.symm),w.h,w.p,a.e,a.f,rfl,rfl,(E.e.e▸aL E.e.I.n bl),(E.e.e▸E.e.I.d),(λp h=>E.e.e▸⟨(E.e.I.T p h).1,(E.e.I.T p h).2.1⟩),E.q⟩ w.e E.g E.L E.N (E.e.e▸E.J) (E.e.e▸E.p) λz=>q _
def Uo(K:aG P):uM P (n+11):=by
 intro C s z Q I T F q;obtain⟨d,kind,Y⟩:=C;subst F;have b:FB Y (rJ s.L) s.H s.e s.g s.q:=⟨I.F.Z.toCr,I.F.e▸I.U,I.F.e▸T.f,I.F.e▸T.g,I.e.h,I.F.e▸I.F.F⟩;have R:=I.F.U I.f;have B:s.H.f.length<=11:=ay (ay (bB ..)<|bB ..) I.F.n;have st:=λj(J:HI s.e s.g j)=>Jw R.f R.p J;have L:∀y o,((s.X ⟨d,0,Y⟩).e.g 7 y o)=((((s.X ⟨d,0,Y⟩).U<|ai (s.X ⟨d,0,Y⟩).w 7<|aa o).J<|ai s.r 7 y).N λp=>ae).e:=λy o=>by show bh.mk _ [_,_,aa<|.h s.F,_,_,_,_] (ai (ai _ 2 _) 7 _) _=bh.mk _ [_,_,aa<|.h λp=>ae,_,_,_,_] (ai (ai _ 7 _) 2 _) _;refine af I.L ?_;refine af (qm _ _ _ (by decide:2≠7)) ?_;rfl
 refine VP (n:=n) K (X:=s.X ⟨d,0,Y⟩) (f:=s.f) (kind:=0) (nn:=Y) (rows:=s.e) (pairs:=s.g) z (Ex I.w I.e R) I.w.e I.Y I.Z (I.g 7 bl) (eI s.e s.H.e) (dT s.H.e) s.q ((bq ..).trans f9) (I.F.e▸ay B bl) (EU.filter _) (λx=>?_) (λk N=>?_) (λi w=>?_) (λh v U=>b.f U) (HI s.e s.g) List.sum (λj J=>J.n) (HI.f s.e s.g) (λj J=>⟨(st j J).1,(st j J).2.1⟩) (λj J h=>Jv J ((st j J).2.2 h) (I.F.e▸I.F.I.t)<|I.F.e▸T.h.e) (VI 0 Y s.e s.H.e) (rs 0 s.e) (λA a J h=>⟨(wu b.V J h).1,λop=>((wu b.V J h).2 op).1⟩) zL (λA J h=>(y4 b.V J).1 h) (λA J h=>funext λc=>LL b.V J b.I ((y4 b.V J).2 h) b.p c) (λH W=>∃X:KW,W=X.e/\FE s.f (rJ s.L) s.H Y s.r (((dT s.H.e).filterMap<|fn s.q s.e<|eI s.e s.H.e).foldl nU (s.e,s.g)).1 (((dT s.H.e).filterMap<|fn s.q s.e<|eI s.e s.H.e).foldl nU (s.e,s.g)).2 H X) (λy D{Q7}q7=>?_) λ{H2 W2}z2 h2=>aB h2 λX e E=>?_;·rw[p8,cq];refine⟨λh=>(aC x (fz.mpr<|b.V.e▸h.1)<|iY h.2),λh=>aB h λi w e=>e▸b.V.e▸?_⟩;have r:=zm b.V<|fz.mp w;exact⟨b.V.e.symm▸r.1,r.2⟩
 ·have o:=I.F.y k (I.F.e.symm▸N) (k.2.map λp=>ae)<|bq ..;have g:dm "neg"=true/\dm "f"=true/\dm "add"=true/\dm "mul"=true:=by decide+kernel
  rcases o with⟨_,o⟩|⟨_,_,o|o⟩|⟨_,_,_,o|o⟩;·exact(we o).1.1.1.1.1
  ·exact o▸g.1
  ·exact o▸g.2.1
  ·exact o▸g.2.2.1
  ·exact o▸g.2.2.2
 ·have o:=I0 i w;unfold j0 at o;simp only[kK]at o;exact o.1.1.1.1.1
 ·have zz:∃z':Z s.H ((((s.X ⟨d,0,Y⟩).U<|ai (s.X ⟨d,0,Y⟩).w 7<|aa<|.e<|((dT s.H.e).filterMap<|fn s.q s.e<|eI s.e s.H.e).map fN).J<|ai s.r 7 y).N λp=>ae).e,D.e=z'.e:=by exact dh (L ..) ⟨D,rfl⟩
  refine aV zz λz8 e8=>zW e8<|Vp (n:=n) K (X:=((s.X ⟨d,0,Y⟩).U<|ai (s.X ⟨d,0,Y⟩).w 7<|aa<|.e<|((dT s.H.e).filterMap<|fn s.q s.e<|eI s.e s.H.e).map fN).J<|ai s.r 7 y) (Ux b rfl T.e) z8 (GI.L (m:=s.H.N) I.F.I<|bb _).toHW (T_ b (I.F.e▸I.F.g.g I.J) B I.F.T.2.1<|aL (cy (jc 1100<|qZ 20<|0+0) _) I.F.p) λ{H9 cw t}z9 h9=>cz h9.e λdn d1 d2 d3=>?_;rw[hK]at d1;subst d1;refine LP (n:=n+2) K z9 d3 λcM bw l cQ cV bC=>⟨⟨_,rfl⟩,?_⟩;refine LO (n:=n+3) (S:=rJ s.L) (G:=s.H) K bw l (l.Y I.e.f I.e.g I.e.e) (λe=>aD rfl e) (I.g 5 bl) (I.g 6 bl) ⟨bf<|T.e.trans l.g.b.symm,λp=>⟨I.U,T.f⟩⟩ λA' y' bE vi pf=>af d2 ?_;refine q7 bE rfl rfl rfl rfl rfl rfl rfl ⟨_,rfl,l,bC,rfl,rfl,rfl,vi,pf,I.g 5 bl,I.g 6 bl,rfl,rfl,rfl,?_,?_⟩;·exact l.e▸(aV l.g.n λt e=>by refine af e ?_;refine af bm ?_;exact aR (I.F.e▸I.f)<|bB ..)
  ·exact af (TJ ..)<|aL (fL (ay (bB ..) I.F.h)<|ay (wU _ _) b.g) bl
 ·subst e;exact E.h (n:=n+5) K I.w I.e q z2
end
section
open PyProof.Rows
noncomputable abbrev P0:=abG
noncomputable def B0:List Nat:=[609,325,407,168,57,106,85]
noncomputable def Ck:List Nat:=[26,40,47,54,75,82,103,122,129,136,143,148,153,158,165,218,237,244,249,256,275,282,289,301,343,350,357,364,371,378,383,397,404,425,432,437,442,447,454,461,468,475,482,489,503,510,515,534,571,578,599,606,623,628,635,642,647,652,657,662,667,557,594,586]
def ad(c:Nat):ao:=(B0[c]?).getD 0
def fa(i:Nat):ao:=(Ck[i]?).getD 0
def mX(i:Nat):V:=.F<|.ref<|fa i
def rO(i:Nat):V:=.F<|.ref<|ad i
noncomputable def Xk:List (ah×Int):=[("add",2),("mul",2),("neg",1),("f",1)]
def vN:List V:=[.F<|.type "enumerate",.F<|.builtin "sorted",.F<|.type "set",.F<|.builtin "len",.F<|.type "list",.F<|.type "tuple",.F<|.type "range",.F<|.builtin "isinstance",.F<|.type "int",.F<|.type "str",.F<|.builtin "max",.F<|.builtin "min",.F<|.builtin "sum",.e 1000,mX 0,mX 15,rO 1,rO 2,rO 0,rO 3,rO 4,rO 5,rO 6,.h<|Xk.map λx=>.h [.p x.1,.e x.2],mX 52,mX 53,mX 54,mX 55,mX 56,mX 57,mX 58,mX 59,mX 60]
def qp(g:Nat):V:=(vN[g]?).getD .t
def oh(K:fk)(w:dp)(h:aO):bn:=⟨P0,w,K,h,ad,qp,fa⟩
noncomputable def tF(d:nP)(f:lS->Bool):Bool:=bS λi:d.ctorIdx=7=>FG (motive:=λa=>Bool) d i f
def tF.e(h:tF d f=true):∃x,d=.func x/\f x=true:=(bS.e h).elim λi h=>FG (motive:=λd=>∀i:d.ctorIdx=7,(FG (motive:=λa=>Bool) d i f)=true->∃x,d=.func x/\f x=true) d i (λx a h=>aC x rfl h) i h
def yd(d:nP)(f:Option am->Bool):Bool:=bS λi:d.ctorIdx=6=>FA (motive:=λa=>Bool) d i f
def yd.e(h:yd d f=true):∃x,d=.cell x/\f x=true:=(bS.e h).elim λi h=>FA (motive:=λd=>∀i:d.ctorIdx=6,(FA (motive:=λa=>Bool) d i f)=true->∃x,d=.cell x/\f x=true) d i (λx a h=>aC x rfl h) i h
def yf(d:nP)(f:Array am->Bool):Bool:=bS λi:d.ctorIdx=9=>FF (motive:=λa=>Bool) d i f
def yf.e(h:yf d f=true):∃x,d=.fields x/\f x=true:=(bS.e h).elim λi h=>FF (motive:=λd=>∀i:d.ctorIdx=9,(FF (motive:=λa=>Bool) d i f)=true->∃x,d=.fields x/\f x=true) d i (λx a h=>aC x rfl h) i h
def yg(d:nP)(f:Array am->Bool):Bool:=bS λi:d.ctorIdx=2=>FH (motive:=λa=>Bool) d i λx a=>f x
def yg.e(h:yg d f=true):∃x n,d=.seq x n/\f x=true:=(bS.e h).elim λi h=>FH (motive:=λd=>∀i:d.ctorIdx=2,(FH (motive:=λa=>Bool) d i λx a=>f x)=true->∃x n,d=.seq x n/\f x=true) d i (λx n a h=>c_ x n rfl h) i h
def ye(d:nP)(f:Array gP->Bool):Bool:=bS λi:d.ctorIdx=3=>FC (motive:=λa=>Bool) d i λx a=>f x
def ye.e(h:ye d f=true):∃x n,d=.dict x n/\f x=true:=(bS.e h).elim λi h=>FC (motive:=λd=>∀i:d.ctorIdx=3,(FC (motive:=λa=>Bool) d i λx a=>f x)=true->∃x n,d=.dict x n/\f x=true) d i (λx n a h=>c_ x n rfl h) i h
def vInt(d:am)(f:Int->Bool):Bool:=bS λi:d.ctorIdx=4=>Gx (motive:=λa=>Bool) d i λx a=>f x
def vInt.e(h:vInt d f=true):∃x n,d=.int x n/\f x=true:=(bS.e h).elim λi h=>Gx (motive:=λd=>∀i:d.ctorIdx=4,(Gx (motive:=λa=>Bool) d i λx a=>f x)=true->∃x n,d=.int x n/\f x=true) d i (λx n a h=>c_ x n rfl h) i h
def vStr(d:am)(f:ah->Bool):Bool:=bS λi:d.ctorIdx=6=>GB (motive:=λa=>Bool) d i λx a=>f x
def vStr.e(h:vStr d f=true):∃x n,d=.str x n/\f x=true:=(bS.e h).elim λi h=>GB (motive:=λd=>∀i:d.ctorIdx=6,(GB (motive:=λa=>Bool) d i λx a=>f x)=true->∃x n,d=.str x n/\f x=true) d i (λx n a h=>c_ x n rfl h) i h
def uz(d:am)(f:ao->Bool):Bool:=bS λi:d.ctorIdx=10=>Gz (motive:=λa=>Bool) d i f
def uz.e(h:uz d f=true):∃x,d=.ref x/\f x=true:=(bS.e h).elim λi h=>Gz (motive:=λd=>∀i:d.ctorIdx=10,(Gz (motive:=λa=>Bool) d i f)=true->∃x,d=.ref x/\f x=true) d i (λx a h=>aC x rfl h) i h
def tA(d:FuncBody)(f:List cg->Bool):Bool:=bS λi:d.ctorIdx=0=>F8 (motive:=λa=>Bool) d i f
def tA.e(h:tA d f=true):∃x,d=.stmts x/\f x=true:=(bS.e h).elim λi h=>F8 (motive:=λd=>∀i:d.ctorIdx=0,(F8 (motive:=λa=>Bool) d i f)=true->∃x,d=.stmts x/\f x=true) d i (λx a h=>aC x rfl h) i h
def o5(h:o.any p=true):∃x,o=aa x/\p x=true:=by cases o with|none=>exact ff h|some x=>exact aC x rfl h
noncomputable def C'(fd:lS)(a:List ah):Bool:=fd.params.posonlyargs.isEmpty&&(fd.params.args.map jU==a&&(fd.params.vararg.isNone&&(fd.params.kwonlyargs.isEmpty&&(fd.params.kwarg.isNone&&(fd.defaults==.none&&decide a.Nodup)))))
def Ui:∀{l:List a},(∀x∈l,f x=g x)->l.filterMap f=l.filterMap g:=by intro l;induction l with|nil=>intro _;rfl|cons x l c=>intro h;rw[wS,wS,h x<|bk ..,c λy d=>h y<|bR _ d]
def aaM:∀{a:List ah}{vs:List am},a.Nodup->vs.length=a.length->a.filterMap (λn=>((a.zip vs).lookup n).map (n, ·))=a.zip vs/\∀n∈a,((a.zip vs).lookup n).isNone=false:=by
 intro a
 induction a with
 |nil=>intro vs _ _;exact⟨rfl,λn h=>aD h cX⟩
 |cons p a i=>
  intro vs j c
  cases vs with
  |nil=>exact nomatch c
  |cons v vs=>
   have d:=gD.mp j
   have I:=i (vs:=vs) d.2<|lR c
   have f:∀n∈a,((p::a).zip<|v::vs).lookup n=(a.zip vs).lookup n:=λn b=>by
    rw[qX,uW,show(n==p)=false from lp.mpr λe=>d.1<|e▸b]
   have g:((p::a).zip<|v::vs).lookup p=aa v:=by rw[qX,Oe]
   refine⟨?_,λn b=>?_⟩
   ·rw[wS,g]
    refine aQ ((p,v):: ·)<|uK (Ui λn b=>?_) I.1
    rw[f n b]
   ·cases b with
    |head=>rw[g];rfl
    |tail _ b=>rw[f n b];exact I.2 n b
def Us{α β γ:Type}{l:List α}{b:β}{F:α->β->d8 (ForInStep β)}{G:β->d8 γ}{r:d8 γ}(h:l=[])(k:G b=r):(forIn l b F>>=G)=r:=by subst h;exact k
def H_{fd:lS}{f:List ah}(h:C' fd f=true)(e:List am)(p:e.length=f.length):bindArgs fd ⟨e,[]⟩=pure (f.zip e):=by
 have g:=aj h;have i:=aj g.2;have j:=aj i.2;have l:=aj j.2;have m:=aj l.2;have o:=aj m.2
 have Z:=aaM (cR o.2) p;have q:=Au.mp g.1;have r:=bO i.1;have s:=AP.mp j.1;have t:=Au.mp l.1;have u:=AP.mp m.1;have v:=bO o.1;have w:(f.filter λn=>((f.zip e).lookup n).isNone)=[]:=NZ.mpr λn x=>by rw[Z.2 n x];exact dR
 clear h g i j l m o;cases fd with|mk A B y C D F G H I J L M N P Q=>
 cases y with|mk R a U W X Y c7=>
 cases q;cases r;cases s;cases t;cases u;cases v;refine uK (ap (c:=(decide (e.length>(a.map jU).length)&&true)=true) ?_) ?_;·rw[p,dz<|dE _];exact dR
 have d:∀k,([]:List am).drop k=[]:=λk=>ED;refine uK (ap (c:=(!(((a.map jU).take<|(a.map jU).length-(([]:List am).drop<|0-(a.map jU).length).length).filter λn=>(((a.map jU).zip e).lookup n).isNone).isEmpty)=true) ?_) ?_;·rw[d];show¬(!(((a.map jU).take (a.map jU).length).filter λn=>(((a.map jU).zip e).lookup n).isNone).isEmpty)=true;rw[Ot,w];exact dR
 refine uK (b:=pure<|(a.map jU++[]).filterMap λn=>(((a.map jU).zip e).lookup n).map (n, ·)) ?_<|aQ pure<|(aQ (EE _)<|hK<|a.map jU).trans Z.1;have z:(((a.map jU).drop<|(a.map jU).length-(([]:List am).drop<|0-(a.map jU).length).length).zip<|([]:List am).drop<|0-(a.map jU).length)=[]:=by rw[d,Ow]
 apply Us z;rfl
end
section
open PyProof.Rows
set_option tactic.hygienic true
def zG(K:fk)(v:am)(f:List am->Bool):Bool:=uz v λa=>(K.lookup a).any λo=>o.cls==.type "tuple"&&(o.dict==ae&&(o.slots.toList==[]&&yg o.data λb=>f b.toList))
theorem zG.e{K:fk}(X:K.In h)(e:zG K v f=true):∃a b n,v=.ref a/\¬h.objs.size<=a/\h.get? a=aa (pw b n)/\f b.toList=true:=aB (uz.e e) λa l e=>aB (o5 e) λo g e=>by
 have i:=aj e;have j:=aj i.2;have k:=aj j.2
 refine fq (yg.e k.2) λb n m p=>dO a b n l (AI<|cK<|X _ _ g) ((X _ _ g).trans ?_) p;obtain⟨c,d,q,r⟩:=o;rw[show c=.type "tuple"from bO i.1,show d=ae from bO j.1,show r= #[]from DL.mp<|bO k.1,show q=_ from m]
noncomputable def all2(f:V->am->Bool):List V->List am->Bool:=λa=>uZ (λl=>l.isEmpty) (λv d b l=>NR l false λx c=>f v x&&b c) a
def zN(K:fk):Nat->V->am->Bool:=λn=>E7 (λa a=>false) (λa b v r=>V.casesOn (motive_1:=λa=>Bool) v false false (λa=>false) (λi=>vInt r λj=>j==i) (λs=>vStr r λt=>t==s) (λl=>zG K r λc=>all2 b l c) (λa=>false) (λa a=>false) (λa=>false) (λa=>false) λw=>r==w) n
def QC(g:∀v r,f v r=true->VR b d h v r):∀{c:List V}{a:List am},all2 f c a=true->bd b d h c a:=by intro c;induction c with|nil=>intro a e;exact Au.mp e|cons v c i=>intro a e;cases a with|nil=>exact ff e|cons x a=>exact cp x a rfl (g _ _ (aj e).1)<|i (aj e).2
def aau{K:fk}(X:K.In h):∀(n:Nat)(v:V)(r:am),zN K n v r=true->VR (λa=>h.objs.size<=a) d h v r:=by intro n;induction n with
 |zero=>intro v r e;exact ff e
 |succ n f=>
  intro v r e;cases v<;>first|exact aD e dR|skip
  ·exact fq (vInt.e e) λj t c b=>⟨t,c.trans<|aQ (Bd · t)<|bO b⟩
  ·exact fq (vStr.e e) λj t c b=>⟨t,c.trans<|aQ (GA · t)<|bO b⟩
  ·exact fJ (zG.e X e) λa g n i k l b=>dO a g n i k l<|QC f b
  ·exact bO e
def C1(K:fk)(a:ao)(x:ah)(f:Option am->Bool):Bool:=(K.lookup a).any λo=>ye o.data λb=>f<|nsFind b x
def KO{K:fk}(X:K.In h)(N:h.Ns a m)(e:C1 K a x f=true):f (m x)=true:=by refine fJ N λo j k b c _ d=>aB (o5 e) λp g e=>fq (ye.e e) λl n i e=>?_;have:=(b.symm.trans<|X _ _ g);cases this;have:=c.symm.trans i;cases this;exact dh (d ..) e
def Jp(K:fk)(x:ah)(v:V):Bool:=C1 K lX x λr=>AN r (x !="__name__"&&(GJ x).any (zN K 3 v)) λr=>zN K 3 v r
noncomputable def Iw(K:fk)(a:ao)(b:List ah):Bool:=plainGet K a xl&&(hasDictIn K a&&(plainOver K a&&(lV K (.ref a) "__setattr__"==aa (aa<|.builtin "object.__setattr__")&&(b.all (λf=>lV K (.ref a) f==aa ae)&&(decide b.Nodup&&decide (b.length<=100))))))
def SR{K:fk}{a:ao}{fs:List ah}(h:Iw K a fs=true):wB K ⟨a,fs⟩:=
 have h1:=aj h;have h2:=aj h1.2;have h3:=aj h2.2;have h4:=aj h3.2;have h5:=aj h4.2;have h6:=aj h5.2
 ⟨h1.1,h2.1,h3.1,bO h4.1,λf hf=>bO (ir.mp h5.1 f hf),cR h6.1,cR h6.2⟩
def Cn(P:bn)(a:ao)(F:FD):Bool:=(P.K.lookup a).any λo=>tF o.data λfd=>tA fd.body λb=>codeIn P.K fd.code fd.qualname&&(fd.closure==[]&&(fd.globals==lX&&(fd.builtins==pT&&(C' fd F.f&&(C8 ⟨fd.scope,F.e⟩ F.f&&lz (cx P) F.b ⟨fd.scope,F.e⟩ b)))))
def Uk{P:bn}(X:P.K.In P.h){a:ao}{F:FD}(h:Cn P a F=true):Ec (cx P) a F:=
 aB (o5 h) λo ho h=>aB (tF.e h) λfd hd h=>aB (tA.e h) λb hb h=>
 have h1:=aj h;have h2:=aj h1.2;have h3:=aj h2.2;have h4:=aj h3.2;have h5:=aj h4.2;have h6:=aj h5.2
 (c_ fd.scope b (⟨⟨o,fd,X _ _ ho,hd,codeRec_of X h1.1,hb,bO h2.1,rfl,bO h3.1,bO h4.1,λv l=>H_ h5.1 v l⟩,h6.1⟩) h6.2)
def Kw(P:bn)(x:Nat×Nat×Nat):Bool:=lV P.K (.ref<|P.f x.1) ((cx P).g x.2.1)==aa (aa<|.ref<|P.e x.2.2)&&(isFn P.K (.ref<|P.e x.2.2)&&(!((jE x.1).getD []).contains ((cx P).g x.2.1)&&oU P.K (.ref<|P.e x.2.2)))
def WG{P:bn}{c k i:Nat}(h:Kw P (c,k,i)=true):E0 P c k i:=
 have h1:=aj h;have h2:=aj h1.2;have h3:=aj h2.2
 (ij (bO h1.1) h2.1 (λq=>dR ((gV h3.1).symm.trans (List.contains_iff_mem.mpr q))) h3.2)
noncomputable def Tb(P:bn)(x:Nat×Nat×Nat):Bool:=oU P.K (.ref<|P.f x.2.1)&&(vc P.K (P.f x.2.1)&&(lV P.K (.ref<|P.f x.2.1) "__init__"==aa (aa<|.ref<|P.e x.2.2)&&vd P.K (.ref<|P.e x.2.2)==aa (.type "function")))
noncomputable def Ta(P:bn)(x:Nat×Nat):Bool:=oU P.K (.ref<|P.f x.2)&&(vc P.K (P.f x.2)&&lV P.K (.ref<|P.f x.2) "__init__"==aa (aa<|.builtin "object.__init__"))
def ZS(K:fk)(D:ao)(x:ah×ao):Bool:=mroIn K (ad 0) (.ref D)==aa true&&(xr K (ad 0) D x.1==aa (aa<|.ref x.2)&&(vd K (.ref x.2)==aa (.type "function")&&(fnIn K x.2&&x.1 !=("__class__":ah))))
def ZR(cx:Cx)(a:List ah):Bool:=(cx.e.kind==.function&&(!cx.e.isCoroutine&&(!cx.e.isGenerator&&(cx.e.names.all (λy=>y.2 !=.cell&&(y.2 !=.free||y.1==("__class__":ah)))&&(decide (cx.f.Nodup)&&(cx.f.all (f6 λx=>cx.e.names.lookup x==aa .local)&&(a.map aa==cx.f.take a.length&&(cx.e.names.lookup ("super":ah)==aa .globalImplicit&&cx.e.names.lookup ("__class__":ah)==aa .free))))))))
def ZP(K:fk):Bool:=C1 K lX "super" (·==ae)&&nsIn K cStatics "thirdparty.any"==aa ae
def ZQ(P:bn)(c:List (Option ah))(a:List ah)(ts:List Top)(fd:lS)(b:List cg)(q:ah×ao)(d:jf)(e:ah):Bool:=codeIn P.K fd.code fd.qualname&&(fd.closure==[(("__class__":ah),q.2)]&&(fd.globals==lX&&(fd.builtins==pT&&(C' fd a&&(!a.isEmpty&&((P0.main.file:ah)==e&&((clsIn P.K<|ad 0).isSome&&((uu ts).all (ZS P.K<|ad 0)&&(ZR ⟨fd.scope,c⟩ a&&(wc (cx P) ⟨fd.scope,c⟩ ts b&&yd d.data (·==aa (.ref<|ad 0))))))))))))
def zE(K:fk)(fd:lS)(f:(ah×ao)->jf->ah->Bool):Bool:=uz fd.code λa=>fd.closure.head?.any λq=>(K.lookup q.2).any λb=>(K.lookup a).any λc=>yf c.data λd=>(d[2]?).any λe=>vStr e λg=>f q b g
theorem zE.e{K:fk}{fd:lS}{f:(ah×ao)->jf->ah->Bool}{R:Prop}(h:zE K fd f=true)(k:∀a q b c,fd.code=.ref a->K.lookup q.2=aa b->(∃j l d m g,K.lookup a=aa ⟨j,l,.fields d,m⟩/\d[2]? =aa (.str c g))->f q b c=true->R):R:=aB (uz.e h) λa n e=>aB (o5 e) λq u e=>aB (o5 e) λb o e=>aB (o5 e) λi p e=>aB (yf.e e) λd r e=>aB (o5 e) λv s e=>fq (vStr.e e) λc g t e=>k a q b c n o ⟨i.cls,i.dict,d,i.slots,g,r▸p,s.trans<|aQ aa t⟩ e
def zD(P:bn)(a:ao)(c:List (Option ah))(d:List ah)(ts:List Top):Bool:=(P.K.lookup a).any λo=>tF o.data λfd=>tA fd.body λb=>zE P.K fd<|ZQ P c d ts fd b
structure Ed(K:fk)(h:aO):Prop where
 X:K.In h
 f:∃mg,h.Ns lX mg
 e:∃mb,h.Ns pT mb/\∀x:ah,x≠"__name__"->mb x=GJ x
 g:h.NoLimit
def Ml(K:fk):Bool:=ZP K&&(GJ "super"==aa (.type "super")&& !(P0.main.scope.names.lookup ("super":ah)).isSome)
def Kk{K:fk}(h:K.lookup a=aa o)(e:o.data=d):K.lookup a=aa ⟨o.cls,o.dict,d,o.slots⟩:=e▸h
def Dp{K:fk}(T:Ed K h){ts:List Top}(g:Ml K=true)(e:zD (oh K w h) a m n ts=true):tu (oh K w h) a m n ts:=
 aB (o5 e) λo N e=>aB (tF.e e) λfd P e=>aB (tA.e e) λb Q e=>zE.e e λR q oc U j W X e=>by
 have s:=aj e;have t:=aj s.2;have u:=aj t.2;have x:=aj u.2;have k:=aj x.2;have d:=aj k.2
 have y:=aj d.2;have z:=aj y.2;have A:=aj z.2;have B:=aj A.2;have C:=aj B.2
 have D:=aj g;have F:=aj D.1;have G:=aj D.2
 refine aV T.f λY H=>aB T.e λmb ag an=>?_
 have i:=aj k.1
 have f:=bO (aj i.2).1
 refine⟨ad 0,q.2,R,fd,fd.scope,b,⟨⟨_,_,_,Kk N P⟩,codeRec_of T.X s.1,Q,bO t.1,rfl,bO u.1,bO x.1,λv l=>H_ k.1 v l,?_,j,(match X with|⟨a1,a2,vs,a3,tf,l1,l2⟩=>⟨a1,a2,vs,a3,U,tf,l1,l2,y.1⟩),
  aB (yd.e C.2) λc j e=>⟨_,_,_,Kk W<|j.trans<|aQ Data.cell<|bO e⟩,xb.mp z.1,gV G.2,
  (yA Y mb H ag (bO<|KO T.X H F.1)<|(an _<|by decide+kernel).trans<|bO G.1),bO F.2,B.1⟩,λp i=>?_,C.1⟩
 ·refine af (Au.mp i.1) ?_
  revert f d
  cases fd.params.args with
  |nil=>intro d f;cases f;exact aD d.1 dR
  |cons ar r=>intro d f;cases f;exact aC ar rfl rfl
 ·have I:=aj<|ir.mp A.1 p i;have J:=aj I.2;have L:=aj J.2;have M:=aj L.2
  exact⟨(bV _ rfl (bO I.1)<|bO J.1),bO L.1,M.1,lp.mpr<|neT M.2⟩
def Td:∀x∈tE,qp x.1=.F (.ref<|ad x.2.1):=i_.mpr ⟨rfl,i_.mpr ⟨rfl,i_.mpr ⟨rfl,i_.mpr ⟨rfl,i_.mpr ⟨rfl,λx h=>aD h cX⟩⟩⟩⟩⟩
def Tc:∀x∈xY,qp x.1=.F (.ref<|ad x.2):=i_.mpr ⟨rfl,i_.mpr ⟨rfl,λx h=>aD h cX⟩⟩
def cA(P:bn):Bool:=tE.all (Tb P)&&(xY.all (Ta P)&&(vY.all (Kw P)&&vM.all λx=>oU P.K<|.ref<|P.e x.2))
def cF(P:bn):Bool:=(qn.zip<|bM 61).all λx=>Cn P (P.e x.2) x.1
def cS(P:bn):Bool:=Ml P.K&&(zD P (P.e 61) [aa "self"] ["self"] (Dr P)&&(zD P (P.e 62) [aa "self",aa "a",aa "b",aa "reason",aa "kept",aa "gone"] ["self","a","b","reason"] (Ms P)&&zD P (P.e 63) [aa "self",aa "n",aa "node"] ["self","n"] (Mt P)))
def cG(P:bn):Bool:=(vL.zip vN).all (λx=>Jp P.K x.1 x.2)&&((bM 7).all (λc=>Iw P.K (ad c)<|(jE c).getD [])&&(P.K.lookup 667).isSome)
def Cd(P:bn):Bool:=cA P&&(cF P&&(cS P&&cG P))
def SU(h:jE c=aa f):c∈bM 7:=fz.mpr (OK λq=>by refine aV (Nat.exists_eq_add_of_le' q) λk a=>?_;subst a;exact aY h)
def UC:∀x∈vM,qp x.1=.F (.ref<|fa x.2):=i_.mpr ⟨rfl,i_.mpr ⟨rfl,i_.mpr ⟨rfl,i_.mpr ⟨rfl,i_.mpr ⟨rfl,i_.mpr ⟨rfl,i_.mpr ⟨rfl,i_.mpr ⟨rfl,i_.mpr ⟨rfl,i_.mpr ⟨rfl,i_.mpr ⟨rfl,λx h=>aD h cX⟩⟩⟩⟩⟩⟩⟩⟩⟩⟩⟩
def XQ{K:fk}(T:Ed K h)(c:Cd (oh K w h)=true):aG (oh K w h):=by
 have y:=aj c;have A:=aj y.2;have B:=aj A.2
 have C:=aj y.1;have D:=aj C.2;have G:=aj D.2
 have l:=aj B.1;have H:=aj l.2;have I:=aj H.2
 have J:=aj B.2;have L:=aj J.2
 refine aV T.f λn t=>aB T.e λu M U=>?_
 obtain⟨o,W⟩:=xb.mp L.2
 refine⟨λj g c i e=>?_,λj g c e=>?_,Dp T l.1 H.1,Dp T l.1 I.1,Dp T l.1 I.2,⟨rfl,rfl,rfl,⟨T.X,T.g,bj bl<|cK<|T.X _ _ W,λg x e=>?_⟩,λc k e=>?_⟩,
  ⟨rfl,rfl,rfl,rfl,rfl,rfl,rfl,rfl,rfl,rfl,rfl,rfl,rfl⟩,λi F e=>?_,λj c k i e=>?_,λj g i e=>?_⟩
 ·have m:=fF e
  have q:=ir.mp C.1 _ m
  have d:=aj q;have b:=aj d.2;have N:=aj b.2
  exact(tN (Td _ m) d.1 b.1 (bO N.1)<|bO N.2)
 ·have m:=fF e
  have q:=ir.mp D.1 _ m
  have d:=aj q;have b:=aj d.2
  exact(ij (Tc _ m) d.1 b.1<|bO b.2)
 ·have e:vL[g]? =aa x:=e
  have p:∃v,vN[g]? =aa v:=⟨_,fg<|w0 (b_.mp e).1 (show vL.length=vN.length from rfl)⟩
  refine aV p λv p=>?_
  have m:(x,v)∈vL.zip vN:=fF (i:=g) (by rw[EL];exact⟨e,p⟩)
  have q:Jp K x v=true:=ir.mp J.1 _ m
  show∃n u rv,_/\_/\_/\VR _ _ _ (qp g) rv/\qp g≠.q
  refine af ((show qp g=v from by unfold qp;rw[p];rfl)) ?_
  have Q:∀rv,zN K 3 v rv=true->VR (λa=>h.objs.size<=a) (λx_=>ae) h v rv/\v≠.q:=λrv e=>⟨aau T.X 3 v rv e,λz=>by rw[z]at e;exact ff e⟩
  have q:=KO T.X t q
  cases s:n x with
  |none=>
   replace q:=s▸q
   exact aB (o5 (aj q).2) λr X b=>dO n u r t M (.inr ⟨s,(U _<|neT (aj q).1).trans X⟩)<|Q r b
  |some r=>
   rw[s]at q
   exact dO n u r t M (.inl s)<|Q r q
 ·have e:(jE c).map (λf=>(⟨ad c,f⟩:lJ))=aa k:=e
  refine aB (fj.mp e) λf R Y=>?_;subst Y
  have q:=ir.mp L.1 c<|SU R
  rw[R]at q
  exact SR q
 ·have m:(F,i)∈qn.zip (bM 61):=fF (i:=i) (by rw[EL];exact⟨e,by rw[wT<|show i<61 from(b_.mp e).1]⟩)
  have ac:(qn.zip<|bM 61).all (λx=>Cn (oh K w h) (fa x.2) x.1)=true:=A.1
  exact Uk (P:=oh K w h) T.X<|ir.mp ac (F,i) m
 ·exact WG<|ir.mp G.1 _<|fF e
 ·have m:=fF e
  exact⟨UC _ m,ir.mp G.2 _ m⟩
end
section
open PyProof.Rows
set_option maxHeartbeats 0
set_option tactic.hygienic true
noncomputable def aaa:List jf->Nat->BT->BT:=λl=>uZ (λ_ t=>t) (λo _ a n t=>a (n+1)<|t.ins n o) l
def bt(P:xj):BT:=aaa (kZ P).objs.toList 0 .nil
def Sm(P:xj):absHeap (bt P) 11 {}=kZ P:=by kernel_rfl
def S0(w:dp)(os:OsState):SharedT:=⟨bt w.params,11,{},wA [],Bi,Bj,os⟩
noncomputable abbrev tR:=abP
noncomputable abbrev tT:=abQ
def Z8(t:Thread):through t=(endAt 0 t).isSome:=by obtain⟨a,c,p,st⟩:=t;cases st with
 |nil=>cases a with|pure f=>cases f<;>rfl|_=>rfl
 |cons f r=>cases a with|pure f=>cases f<;>rfl|_=>rfl
def Z':∀(n:Nat){s a:az}{t:Thread}{f:Flow}{c:Code}{q:bv},segRun b p w d e 0 n s t=aa (f,a,c,q)->topRun b p w d e n s t=aa a:=by intro n;induction n with|zero=>intro s a t f c q h;cases h|succ n k=>intro s a t f c q h;unfold segRun at h;unfold topRun;rw[Z8];cases g:endAt 0 t with|some x=>rw[g]at h;cases h;rfl|none=>rw[g]at h;cases i:stepOk d e t with|false=>rw[i]at h;cases h|true=>rw[i]at h;cases j:gE (denote b) p w s t with|halt o l=>rw[j]at h;cases h|go l m=>rw[j]at h;exact k h
def V7{Yf:az->i}(m:5000<=N)(h:∀w os,(segRunT Bx P0 w 11 (aa<|.ref 6) 0 5000 (S0 w os)<|topStub P0).map (λr=>(GE (xA P0.main.body) (kZ w.params) r.2.1.abs.heap&&GC P0 r.2.1.abs.heap&&gensDone r.2.1.abs&&laidKept (kZ w.params) r.2.1.abs.heap,openSeen q b (xA P0.main.body) g l r.2.1.abs,Yf r.2.1.abs))=aa (true,openGood q b,j w)):LeftO P0 q b g Yf j N l:=λw=>by
 have e:=boot_open (p:=P0) (N:=N) rfl (Nat.ble_eq_true_of_le<|ay bl m) (λs=>rfl) w;obtain⟨⟨o,u,d,k,os⟩,e,v⟩:=fj.mp e;obtain⟨rfl,rfl,rfl,rfl⟩:o=kZ w.params/\u=wA []/\d=Bi/\k=Bj:=by simpa using v
 obtain⟨⟨f,a,c,q⟩,r,n⟩:=fj.mp<|h w os;have t:=topRun_mono (N-5000) _ _ _ _<|Z' 5000<|segRun_of r;rw[OB m]at t;have z:(S0 w os).abs=⟨kZ w.params,wA [],Bi,Bj,os⟩:=by show Shared.mk (absHeap (bt w.params) 11 {}) _ _ _ _=_;rw[Sm];rfl
 rw[z]at t;simp only[Prod.mk.injEq]at n;obtain⟨x,y,A⟩:=n;unfold openEnds;rw[e];show(topFrom Bx P0 w N _).map _=_;have B:topFrom Bx P0 w N ⟨kZ w.params,wA [],Bi,Bj,os⟩=aa a.abs:=by unfold topFrom;dsimp only;rw[show((kZ w.params).isNs lX&&(wA []:Array GenState).size==0)=true by kernel_rfl,show(kZ w.params).objs.size=11 by kernel_rfl,show(kZ w.params).nsMap lX "__annotations__"=aa (.ref 6) by kernel_rfl,t];show(match GE (xA P0.main.body) (kZ w.params) a.abs.heap&&GC P0 a.abs.heap&&gensDone a.abs&&laidKept (kZ w.params) a.abs.heap with|true=>_|false=>_)=_;rw[x]
 rw[B];exact aQ aa<|q9 y A
def qq:eD:=view P0 [31]
def vO:List ah:=P0.boundNames.filter λn=>n !=("law":ah)
def Jj:List Nat:=B0++B0.map (·-1)++[537,536,0,1,2,3,545,612,613,614,615,616]++Ck++Ck.map (·-1)
def yv(h:aO):fk:=Jj.filterMap λa=>(h.get? a).map λo=>(a,o)
def Ut(h:aO):(yv h).In h:=by
 unfold yv
 have:∀c:List Nat,Frag.In (c.filterMap λa=>(h.get? a).map λo=>(a,o)) h:=by
  intro c
  induction c with
  |nil=>intro a o e;exact aY e
  |cons b c f=>
   intro a o e
   rw[wS]at e
   cases d:h.get? b with
   |none=>rw[d]at e;exact f a o e
   |some p=>
    rw[d]at e
    by_cases q:a=b
    ·subst q
     exact d.trans<|(Oe (k:=a) (b:=p)).symm.trans e
    ·exact f a o<|(uW.trans<|by rw[lp.mpr q]).symm.trans e
 exact this Jj
noncomputable abbrev tS:=@abR
abbrev Yf(s:az)(w:dp)(h:aO):Bool:=Cd<|oh (yv s.heap) w h
def UD(w:dp)(os:OsState):(tR tT P0 w 11 (aa<|.ref 6) 0 5000 (S0 w os)<|topStub P0).map (λr=>(GE (xA P0.main.body) (kZ w.params) r.2.1.abs.heap&&GC P0 r.2.1.abs.heap&&gensDone r.2.1.abs&&laidKept (kZ w.params) r.2.1.abs.heap,tS qq vO (xA P0.main.body) (λ_=>true) true r.2.1.abs,Yf r.2.1.abs))=aa (true,openGood qq vO,λ_ _=>true):=by kernel_rfl
def UE:LeftO P0 qq vO (λ_=>true) Yf (λ_ _ _=>true) 5000:=V7 (bb _) (by rw[show @segRunT=tR from abM,show Bx=tT from abN,show @openSeen=tS from abO];exact UD)
def abT:Fu.wellSaid=true:=by kernel_rfl
noncomputable abbrev tp:=Fu
def D0:DefRec:=((defOf qq "law").get<|by kernel_rfl).1
def d0:defOf qq "law"=aa (D0,[]):=by kernel_rfl
def d1:P0.theDef "law"=aa (D0.params,D0.body,D0.scope):=by kernel_rfl
def d2:kwWritten? D0.params.kwonlyargs D0.params.kw_defaults=aa []:=by kernel_rfl
def d3:D0.name="law":=by kernel_rfl
def d4:(chainsOk qq&&opensWell P0&&(frees tp.row.toRowW&&tp.row.toRowW.within.isEmpty))=true:=by kernel_rfl
def d5:P0.bare:=(tO rfl rfl rfl rfl rfl<|by decide+kernel)
def d6:tp.row.toRowW.promised:=(aC ([.list []]) (by decide+kernel)<|by decide+kernel)
def YP(_:dp)(h:aO):Prop:=∃K:fk,K.In h/\∀w a,Cd (oh K w a)=true
def Mf(r:br):j6 (gO 16 ae) (l8 ae) (λ_=>ae) r=ae:=by cases r with
 |f k=>rfl
 |e n=>
  show((gO 24 (ae:Option O))[n]?).join.map aa=ae;refine af (List.getElem?_replicate) ?_;by_cases h:n<24;·refine af (aq h) ?_;rfl
  ·refine af (ap h) ?_;rfl
def WV{h:aO}{m b:ah->Option am}(N:h.Ns a m)(e:h.Ns a b)(x:ah):m x=b x:=by refine fJ N λo k l f g _ i=>fJ e λn p q c d _ j=>?_;rw[f]at c;cases c;rw[g]at d;cases d;exact(i x).symm.trans<|j x
def U9:∀{a:List Int}{c:List am},WellAll P h c (ofPys<|a.map Gb)->bd b d h (a.map V.e) c:=by intro a;induction a with|nil=>intro c W;cases W;rfl|cons i a e=>intro c W;cases W with|cons x r=>refine(cp _ _ rfl ?_<|e r);cases x with|int i t=>exact⟨t,rfl⟩
def We{is:List Int}(d:∀a o,h.get? a=aa o->¬b a)(W:Well P h v (ofPy<|.list<|is.map Gb)):VR b c h (.y<|is.map V.e) v:=by cases W with|list e r=>exact(dO _ _ _ rfl (d _ _ e) e<|U9 r)
def VM{K:fk}(d:aG (oh K w s.heap)){is:List Int}(f:is.length<=63)(W:Well P s.heap v (ofPy<|.list<|is.map Gb)){Q E:am->az->Prop}(q:∀c:az,(∀b o,s.heap.get? b=aa o->c.heap.get? b=aa o)->c.os=s.os->c.gens=s.gens->Q (.bool true) c):aE (aN P0 w) callerA (fM (.ref 667) [v]) Q E s:=by have R:bA (cx<|oh K w s.heap) (λ_=>False) (λ_=>ae) (j6 (gO 16 ae) (l8 ae) λ_=>ae) s.heap:=⟨λ_ _ e=>e,bb _,λr=>⟨λ_=>rfl,λ_=>Mf r⟩,λr j p k a e=>(aY e),λa⟨r,p,e,_⟩=>((aY e)),λa q=>q.elim,λr o p e=>by rw[Mf]at e;exact(aY e)⟩;refine cE (VS (n:=0) d (Uo d) f (Q:=λv _=>v=.g true) (λ_=>rfl) callerA (λ_=>False) (λ_=>ae) s [v] ⟨rfl,bl,bl⟩ R<|cp v ([]) rfl (We (λa o _=>(λa q=>q.elim id λ⟨r,p,e,_⟩=>(aY e)) a) W) rfl) (λr c p=>?_) λ_ _ e=>e.elim;refine fJ p λl m t st _ h i=>?_;subst i;have e:r=.bool true:=h;exact e.symm▸q c (λb o g=>st.ext b o g (λ⟨r,p,e,_⟩=>(aY e)) λq=>q) st.L st.J
def SD:WalkO qq vO (λ_ _=>True) YP tp.row.toRowW D0 [] (λf vs=>fM f vs):=by
 intro w s₀ s₁ mg mb G Y a o pm cd doc dV kV ho hd hcd hD hmg hg args vals as hpre hlay hrd hwl hlo;refine aB Y λK X c=>?_;have PK:=XQ (K:=K) (w:=w) (h:=s₁.heap) ⟨X,⟨mg,G.T.g⟩,(aC mb G.T.b G.T.builtins),G.T.nolimit⟩<|c w s₁.heap;have ha:a=667:=by
  refine se (PK.O.e.e 32 "law" rfl) λmg' mb' rv n1 n2 e vr _=>?_;rw[WV n1 G.T.g,<-d3,hmg]at e;rcases e with e|e;·cases e;exact Bh vr
  ·exact(nomatch e.1)
 subst ha;clear ho hd hcd hD hmg c X;wrow_args hpre hlay hrd hwl hlo;rename_i is _ _ _ _ _ _ _ _ _ _ _ W _ _ _ hc _;exact VM PK (jb λh=>hc<|hH.mpr h) W λs' kp ho hg'=>GoodW.toG<|ij (.inl<|m0 _ (.bool true) ([]) rfl (λ_=>rfl) (.bool true) (by kernel_rfl) λ_=>⟨nK,λa h=>(nomatch h)⟩) kp ho<|hg'.trans hg
def abV(a:tp.row.wellSaid=true):tp.row.Holds:=holds_open (q:=qq) (loose:=vO) (Xt:=λ_=>true) (XP:=λ_ _=>True) (Yf:=Yf) (Ya:=λ_ _ _=>true) (YP:=YP) (d:=D0) (kwd:=[]) (N:=5000) UE (λw s e=>(aC (yv s.heap) (Ut _) λw h=>congrFun (congrFun e w) h)) (λw h b⟨K,X,c⟩k=>⟨K,X.keeps k,c⟩) (λ_ _=>trivial) (λ_ _ _ _ _=>trivial) d0 d1 d2 (λs _=>recFacts_of (R:=[]) (s:=s) rfl) rfl a d4 d5 d6 SD
theorem XX:Fu.Holds:=PySem.W.holds_law Lake.abT Lake.abV
end
end Mine.Lake
end
set_option maxRecDepth 100000 in
theorem PySem.Challenge.cw_sa0048_01_holds : PySem.Challenge.rw_sa0048_01.Holds :=
  Mine.Lake.XX
