import PyProof.Rows.All
import Wide.All
import OpenK.AllK
import Wide.FinOn
import Lean
import PySem.Challenge.RW_on0174_01
open List renaming range->aj,length_map->ak,getElem?_eq_getElem->aH,length_range->aN,mem_map->aQ,map_append->aV,mem_cons_self->aZ,map_cons->bq,mem_of_getElem?->bC,getElem?_map->bH,getD_eq_getElem?_getD->bM,mem_append->bN,mem_singleton->bQ,getElem?_eq_some_iff->bU,mem_cons->b8,mem_cons_of_mem->b9,length_append->cQ,size_toArray->cV,getElem_mem->cW,map_map->dS,take_length->dW,map_congr_left->fD,mem_filter->fE,length_cons->fM,all_eq_true->gp,append_assoc->gX,lookup_cons->iO,replicate->iP,foldl_append->jh,length->ji,getElem?_eq_none->jC,range_succ->jD,getElem?_append_left->jT,filter_append->jU,mem_range->jV,length_filter_le->kD,nodup_append->lG,map->lO,mem_of_mem_take->mJ,mem_flatMap->nQ,length_take->nR,not_mem_nil->nS,nodup_cons->nU,foldl_cons->nV,append_nil->nW,getElem?_append_right->oQ,mem_append_right->oR,filter_cons->oX,sum_cons->o8,mem_take_iff_getElem->qv,pairwise_iff_getElem->qw,idxOf_lt_length_iff->qx,length_drop->qy,getElem?_cons_succ->rI,length_take_le'->rK,find?_cons->rP,mem_append_left->tU,take_succ_cons->tW,filter_eq_self->tX,getElem?_drop->t8,map_nil->ue,filter_eq_nil_iff->vP,mem_iff_getElem?->vQ,getElem?_range->vW,flatMap_append->vX,ext_getElem?->vZ,getElem?_eq_none_iff->yw,length_replicate->yz,mem_of_mem_drop->yD,getElem_idxOf->yF,map_singleton->yG,pairwise_map->yH,length_nil->yO,nodup_nil->yP,getElem?_cons_zero->BN,length_eq_zero_iff->BO,getElem_of_mem->BW,prefix_refl->Ca,map_take->Cf,drop_eq_getElem_cons->EZ,take_of_length_le->E6,mem_map_of_mem->E8,length_take_le->E9,length_reverse->Fb,count_append->Fd,getElem_drop->Fe,drop_length->Fg,idxOf_cons->Fw,take_zero->FH,map_drop->FO,any_map->F2,getElem?_take_of_lt->LM,drop_of_length_le->LO,flatMap_cons->Mb,reverse_cons->Mc,any_eq_true->Mh,nodup_range->Mi,range_add->Mv,any_cons->Mz,lookup->MY,foldl->Nf,Nodup->Nh,perm_ext_iff_of_nodup->UO,pairwise_mergeSort->UR,length_pos_of_mem->UW,pairwise_flatMap->UX,count_le_length->U7,count_singleton->U8,mem_iff_getElem->U9,mem_erase_of_ne->U',mergeSort_perm->Vf,replicate_succ->Vg,filter_sublist->Vi,getD_cons_succ->Vj,prefix_append->Vq,mem_replicate->Vr,count_pos_iff->Vs,take_sublist->VE,map_fst_zip->VQ,cons_append->VV,nil_append->V8,drop_take->Wn,foldl_nil->Wv,map_set->Xf,toArray->Xg,take->Zq
open PySem renaming wpAny_bind->az,wpAny_pure->bh,sizeLine_eq->dZ,wpAny_mono->kF,wpAny_newObj_type->rL,wpAny_call_entry->t9,wpAny_holding->ud,wpAny_of_eq->uh,call_meets->wk,strKind_is->zq,wpAny_allTrue_Or_cons->BR,wpAny_specialOf->Cc,wpAny_setField->Ce,wpAny_standAt->Cg,wpAny_attempt->Ci,wpAny_field->Cr,intKind_is->Cw,wpAny_typeNameOfWhole_keyiter->EX,wpAny_typeNameOf_keyiter->E2,wpAny_callSpecial?_slot->E4,builtinLookup_eq_fast->E7,wpAny_Call_ofName->Fc,typeLookup_type->Fx,isSubtype_type->FF,wpAny_pyIter_keyiter->LS,wpAny_isTrue_BoolOp->LV,pairTrees_cons_walk->LW,tupleKind_room_in1->L1,wpAny_isNot_other->L7,slot_dict_getitem->L8,wpAny_dictEntries->Me,wpAny_isInstance->Mj,wpAny_execs_nil->Mp,wpAny_dictEpoch->Mr,call_list_seq->MB,wpAny_newList->MC,intBits_le_64->MD,wpAny_Name->Nd,wpAny_Subscript_list_slice->UM,wpAny_allTrue_And_cons->US,meets_dict_get_default->UT,wpAny_isOneOf_keyiter->UZ,wpAny_allTrue_Or_nil->U3,wpAny_truthy_bool->Vx,wpAny_assign_Name->Vy,slot_list_getitem->VA,wpAny_pyIter_slot->VF,wpAny_Call_NameR->VP,wpAny_getItem_of->VS,wpAny_eqBool_int->VX,wpAny_loadPart->Wk,wpAny_notIn_of->Wm,isSubtype_stop->Wt,wpAny_fieldsOf->Wu,evalPart_none->WQ,wpAny_handled->WU
open Nat renaming le_refl->aL,le_trans->aO,zero_le->bk,testBit_or->eV,lt_of_lt_of_le->eZ,add_le_add->fc,le_of_lt->fy,succ_pos->fF,zero_add->fG,beq->fH,ne_of_lt->gq,mul_le_mul_right->gE,lt_of_le_of_lt->gW,ble->iQ,not_lt->jF,lor->mT,add_le_add_left->nN,eq_zero_or_pos->nO,le_of_lt_succ->oU,le_add_right->oV,succ_le_succ->oW,add_assoc->oZ,land->pC,add_comm->qC,add_le_add_right->rJ,or_lt_two_pow->rM,min_eq_left->rO,shiftLeft->rS,lt_of_le_of_ne->tY,add_sub_cancel->tZ,lt_irrefl->uc,add_sub_cancel_left->vO,pow_le_pow_right->vS,mul_le_mul_left->vU,le_of_not_lt->v7,add->wL,le_of_ble_eq_true->yy,le_sub_one_of_lt->yC,sub_add_cancel->yE,min_le_right->yJ,min_eq_right->yK,le_antisymm->yL,mul_succ->yT,pow_pos->yX,lt_of_succ_lt_succ->BP,eq_of_beq_eq_true->BU,lt_succ_of_le->BZ,lt_succ_of_lt->B3,one_shiftLeft->B7,lt_succ_self->B9,testBit_succ->Cb,shiftRight_eq_div_pow->EY,lt_succ_iff_lt_or_eq->E0,succ_ne_zero->Ff,testBit_zero->Fo,le_add_left->Fp,not_lt_zero->Fq,testBit_and->FA,lt_trans->FY,le_of_eq->FZ,ne_of_gt->F0,beq_refl->F3,not_le->Gm,beq_eq->Gq,testBit_eq_decide_div_mod_eq->LA,lt_of_add_lt_add_left->LI,testBit_lt_two_pow->LP,eq_of_testBit_eq->LU,lt_or_eq_of_le->LX,eq_or_lt_of_le->LY,zero_lt_of_lt->L5,lt_trichotomy->Ma,min_le_left->Ml,mul_add_div->Mm,zero_lt_one->Mn,succ_mul->MK,le_total->MM,sub_self->MO,sub_sub->MW,sub_lt->Nb,sub_le->Nc,max_le->Ng,lt_pow_two_of_testBit->UP,lt_add_of_pos_right->UQ,add_lt_add_right->U0,le_sub_of_add_le->U6,add_lt_add_left->Vc,add_right_comm->Vl,and_one_is_mod->Vp,sub_pos_of_lt->Vu,add_sub_of_le->Vv,le_of_pred_lt->Vw,succ_lt_succ->VJ,lt_of_not_le->VK,not_lt_of_le->VL,div_eq_of_lt->VM,mul_add_mod->V1,lt_one_iff->Wj,left_le_or->Ws,mul_comm->Xe,sub_zero->Xh,pow_succ->Xj,le_succ->XG,lt_min->Yw,mod_lt->Yx
open PySem.Str renaming ofString->cg,length_append->nJ,append_assoc->VY
open Bool renaming false_eq_true->cP,or_eq_true->eU,and_eq_true->lH,noConfusion->mK,not_true->qB,and_eq_true_iff->vR,eq_iff_iff->yM,false_ne_true->L4,not_eq_true->Mg,or_eq_true_iff->Vd,not_eq_true'->VC,not_false->Ww,true_and->WN,false_or->WO
open Option.some renaming inj->c8,injEq->VG
open Option renaming some_ne_none->gm,isSome_iff_exists->yx,map_eq_some_iff->BQ,map_some->Ft,bind_eq_some_iff->LN,bind_some->VR
open PySem.F renaming plainAttrs_list->gn,slot_list_append->lE,type_list_append->lF,slot_dict_keyiterator_next->BL,slot_list_index->B5,type_list_index->B6,plainAttrs_str->Fi,slot_dict_get->Fv,slot_str_join->Fy,type_str_join->Fz,slot_list_pop->Mq,args_dict_keyiterator_next_1->UH,entry_dict_keyiterator_next->UI,slot_tuple_getitem->UN,slot_dict_iter->UU,slot_list_extend->Vn,slot_list_insert->Vo,args_dict_get_3->VB,plainAttrs_dict->VH,entry_dict_get->VT,slot_int_rmul->V4,type_list_pop->V6,type_dict_get->V7
open PySem.Heap renaming get?_push_of_some->gC,get?_push_size->gF,lt_size->lI,size_push->qz,get?_update_self->BS,get?_push_ne->B8,ExtBut->Cq,size_update->Fj,SameBut->F1,get?_update_ne->Vk
open PySem.W renaming boot_heap->lK,kas_rev->zW,putL->Cm,boot_drawn->Gn,boot_toks->GG,plainGet_of->MX
open Classical renaming byContradiction->nI,epsilon_spec->nM,epsilon->nP
open PySem.PyData renaming eqvAll->nX,eqv->pg,depthAll->yN,depth->yU,canLayAll0->B4,keyHash->Cd,layable0->V3,strOk->Xi
open PySem.Txt renaming join->nY
open Int renaming natCast_nonneg->oS,ofNat_le->wg,toNat_natCast->yI,ofNat_lt->yS,lt_of_lt_of_le->BX,sub_sub->Cp,not_lt->Cv,fdiv_eq_ediv_of_nonneg->LG,max_eq_right->Mf,add_comm->ML,le_of_lt->MN,add_sub_cancel->Vm,max_eq_left->V2,sub_self->Xb,le_trans->Xc
open PySem.Obj renaming mapSeq->o9,data_mapFields->BY,mapFields->Cj,isFreed_of_fields->LR
open List.cons renaming inj->qA,injEq->ag2
open Prod.mk renaming injEq->rQ,inj->ug
open Ne renaming symm->r7
open Decidable renaming of_not_not->tV,byContradiction->agO
open PySem.Heap.SameBut renaming update->vV,extBut->agU
open Function renaming comp_def->vY,comp->MA
open Array renaming length_toList->BV,perm_iff_toList_perm->LH,getElem?_eq_getElem->LJ,getElem?_toList->LQ,getD_eq_getD_getElem?->UK,toArray_toList->U5,any_toList->VN,toList_inj->VU
open PyProof.Rows renaming tail_any->CL,size_push'->Gp,callWith_type->LF,assignInOrder_cons->L3,listUpdate_at->ME,seqEpoch_at->MZ,lookup_of_mem_nodup->Ve,assignInOrder_nil->VD,entry_list_sort->V5,slot_list_sort->Wo,args_list_sort->Wq,sortedHeap_old->Wr,sortedHeap_at->WR,getItem_tuple->agM,add_str->agS
open BEq renaming rfl->CW
open Int.ofNat renaming inj->FN
open Prod renaming ext->G6
open Or renaming imp->HP
open PySem.Builtin renaming divisionGoesByPylong->LC,bitAnd->Mu,bitOr->WM
open PySem.Challenge renaming rw_on0174_01->LD,pw_on0174_01->agK
open PySem.Builtin.List renaming listTooLong->LK,listFitsIndex->UL
open PySem.Calls renaming spliced_cons->LZ,spliced_nil->L6,Name_function_global->U1,evalArgs_plain->U4,call_function_entry->Vh,callWith_builtin->VO
open PySem.Builtin.Dict_items renaming ownsTuple->UJ
open PySem.Builtin.Dict renaming showsAll->UY,dictSlotNone->agN
open PySem.Value renaming isInt_shape->Vz
open PySem.IntMulOk renaming of_left->VW
open PySem.P renaming lt_int->Wl
open Nat.succ renaming inj->Xd
open PySem.W.WTm renaming holds->Zp
open PySem.W.Fast renaming te10156331382660048174->agD,te11892475500146522536->agE,te14364793385576792824->agF,te6613529449190102663->agG,te4187177175401517315->agH
open PySem.AutoListH renaming list___mul___list_int_3->agI,list_append_list_val_0->agJ
open PySem.MeetsSeq renaming list_pop_last->agL
open List.Pairwise renaming imp_of_mem->agP
open PySem.Builtin.Range renaming rangeSize->agQ
open PySem.Stmt.FunctionDef renaming elim->agR
open PySem.Builtin.Int renaming intBits->agT
open PySem.Stmt.ClassDef renaming elim->agV
open PySem.Expr.Constant renaming elim->agW
open PySem.Heap.IsSliceOf renaming new->agX
open PySem.DictEntry renaming refKey->agY
open List.Sublist renaming map->agZ
open PySem.Const.bool renaming elim->ag0
open PySem.Const.none renaming elim->ag1
open Array.Perm renaming refl->ag3
open List.Perm renaming of_eq->ag4
open PySem.Data.func renaming elim->ag5
open PySem.Value.ref renaming elim->ag6,inj->aha
open PySem.Expr.Name renaming elim->ag7
open PySem.Const.int renaming elim->ag8
open PySem.Const.str renaming elim->ag9
open PySem PySem.W PySem.Calls PyProof.Rows
set_option Elab.async false
set_option maxHeartbeats 1000000
set_option maxRecDepth 8000
set_option compiler.extract_closed false
noncomputable section
namespace M174
section
structure A3 (p1 p2 p3:Prop):Prop where
 h1:p1
 h2:p2
 h3:p3
structure A4 (p1 p2 p3 p4:Prop):Prop where
 h1:p1
 h2:p2
 h3:p3
 h4:p4
structure A5 (p1 p2 p3 p4 p5:Prop):Prop where
 h1:p1
 h2:p2
 h3:p3
 h4:p4
 h5:p5
structure A6 (p1 p2 p3 p4 p5 p6:Prop):Prop where
 h1:p1
 h2:p2
 h3:p3
 h4:p4
 h5:p5
 h6:p6
structure A7 (p1 p2 p3 p4 p5 p6 p7:Prop):Prop where
 h1:p1
 h2:p2
 h3:p3
 h4:p4
 h5:p5
 h6:p6
 h7:p7
structure A8 (p1 p2 p3 p4 p5 p6 p7 p8:Prop):Prop where
 h1:p1
 h2:p2
 h3:p3
 h4:p4
 h5:p5
 h6:p6
 h7:p7
 h8:p8
structure A9 (p1 p2 p3 p4 p5 p6 p7 p8 p9:Prop):Prop where
 h1:p1
 h2:p2
 h3:p3
 h4:p4
 h5:p5
 h6:p6
 h7:p7
 h8:p8
 h9:p9
structure A10 (p1 p2 p3 p4 p5 p6 p7 p8 p9 pU:Prop):Prop where
 h1:p1
 h2:p2
 h3:p3
 h4:p4
 h5:p5
 h6:p6
 h7:p7
 h8:p8
 h9:p9
 h10:pU
theorem A3.elim {p1 p2 p3 b:Prop} (h:A3 p1 p2 p3) (f:p1->p2->p3->b):b:=f h.1 h.2 h.3
theorem A4.elim {p1 p2 p3 p4 b:Prop} (h:A4 p1 p2 p3 p4) (f:p1->p2->p3->p4->b):b:=f h.1 h.2 h.3 h.4
theorem A5.elim {p1 p2 p3 p4 p5 b:Prop} (h:A5 p1 p2 p3 p4 p5) (f:p1->p2->p3->p4->p5->b):b:=f h.1 h.2 h.3 h.4 h.5
theorem A6.elim {p1 p2 p3 p4 p5 p6 b:Prop} (h:A6 p1 p2 p3 p4 p5 p6) (f:p1->p2->p3->p4->p5->p6->b):b:=f h.1 h.2 h.3 h.4 h.5 h.6
theorem A7.elim {p1 p2 p3 p4 p5 p6 p7 b:Prop} (h:A7 p1 p2 p3 p4 p5 p6 p7) (f:p1->p2->p3->p4->p5->p6->p7->b):b:=f h.1 h.2 h.3 h.4 h.5 h.6 h.7
theorem A8.elim {p1 p2 p3 p4 p5 p6 p7 p8 b:Prop} (h:A8 p1 p2 p3 p4 p5 p6 p7 p8) (f:p1->p2->p3->p4->p5->p6->p7->p8->b):b:=f h.1 h.2 h.3 h.4 h.5 h.6 h.7 h.8
theorem A9.elim {p1 p2 p3 p4 p5 p6 p7 p8 p9 b:Prop} (h:A9 p1 p2 p3 p4 p5 p6 p7 p8 p9) (f:p1->p2->p3->p4->p5->p6->p7->p8->p9->b):b:=f h.1 h.2 h.3 h.4 h.5 h.6 h.7 h.8 h.9
theorem A10.elim {p1 p2 p3 p4 p5 p6 p7 p8 p9 pU b:Prop} (h:A10 p1 p2 p3 p4 p5 p6 p7 p8 p9 pU) (f:p1->p2->p3->p4->p5->p6->p7->p8->p9->pU->b):b:=f h.1 h.2 h.3 h.4 h.5 h.6 h.7 h.8 h.9 h.10
inductive X13.{u0} {α:Sort u0} (p1 p2 p3:α->Prop):Prop | mk (x1:α) (h1:p1 x1) (h2:p2 x1) (h3:p3 x1):X13 p1 p2 p3
inductive X14.{u0} {α:Sort u0} (p1 p2 p3 p4:α->Prop):Prop | mk (x1:α) (h1:p1 x1) (h2:p2 x1) (h3:p3 x1) (h4:p4 x1):X14 p1 p2 p3 p4
inductive X15.{u0} {α:Sort u0} (p1 p2 p3 p4 p5:α->Prop):Prop | mk (x1:α) (h1:p1 x1) (h2:p2 x1) (h3:p3 x1) (h4:p4 x1) (h5:p5 x1):X15 p1 p2 p3 p4 p5
inductive X16.{u0} {α:Sort u0} (p1 p2 p3 p4 p5 p6:α->Prop):Prop | mk (x1:α) (h1:p1 x1) (h2:p2 x1) (h3:p3 x1) (h4:p4 x1) (h5:p5 x1) (h6:p6 x1):X16 p1 p2 p3 p4 p5 p6
inductive X22.{u0,u1} {α:Sort u0} {β:Sort u1} (p1 p2:α->β->Prop):Prop | mk (x1:α) (x2:β) (h1:p1 x1 x2) (h2:p2 x1 x2):X22 p1 p2
inductive X23.{u0,u1} {α:Sort u0} {β:Sort u1} (p1 p2 p3:α->β->Prop):Prop | mk (x1:α) (x2:β) (h1:p1 x1 x2) (h2:p2 x1 x2) (h3:p3 x1 x2):X23 p1 p2 p3
inductive X24.{u0,u1} {α:Sort u0} {β:Sort u1} (p1 p2 p3 p4:α->β->Prop):Prop | mk (x1:α) (x2:β) (h1:p1 x1 x2) (h2:p2 x1 x2) (h3:p3 x1 x2) (h4:p4 x1 x2):X24 p1 p2 p3 p4
inductive X25.{u0,u1} {α:Sort u0} {β:Sort u1} (p1 p2 p3 p4 p5:α->β->Prop):Prop | mk (x1:α) (x2:β) (h1:p1 x1 x2) (h2:p2 x1 x2) (h3:p3 x1 x2) (h4:p4 x1 x2) (h5:p5 x1 x2):X25 p1 p2 p3 p4 p5
inductive X26.{u0,u1} {α:Sort u0} {β:Sort u1} (p1 p2 p3 p4 p5 p6:α->β->Prop):Prop | mk (x1:α) (x2:β) (h1:p1 x1 x2) (h2:p2 x1 x2) (h3:p3 x1 x2) (h4:p4 x1 x2) (h5:p5 x1 x2) (h6:p6 x1 x2):X26 p1 p2 p3 p4 p5 p6
inductive X27.{u0,u1} {α:Sort u0} {β:Sort u1} (p1 p2 p3 p4 p5 p6 p7:α->β->Prop):Prop | mk (x1:α) (x2:β) (h1:p1 x1 x2) (h2:p2 x1 x2) (h3:p3 x1 x2) (h4:p4 x1 x2) (h5:p5 x1 x2) (h6:p6 x1 x2) (h7:p7 x1 x2):X27 p1 p2 p3 p4 p5 p6 p7
inductive X28.{u0,u1} {α:Sort u0} {β:Sort u1} (p1 p2 p3 p4 p5 p6 p7 p8:α->β->Prop):Prop | mk (x1:α) (x2:β) (h1:p1 x1 x2) (h2:p2 x1 x2) (h3:p3 x1 x2) (h4:p4 x1 x2) (h5:p5 x1 x2) (h6:p6 x1 x2) (h7:p7 x1 x2) (h8:p8 x1 x2):X28 p1 p2 p3 p4 p5 p6 p7 p8
inductive X32.{u0,u1,u2} {α:Sort u0} {β:Sort u1} {γ:Sort u2} (p1 p2:α->β->γ->Prop):Prop | mk (x1:α) (x2:β) (x3:γ) (h1:p1 x1 x2 x3) (h2:p2 x1 x2 x3):X32 p1 p2
inductive X33.{u0,u1,u2} {α:Sort u0} {β:Sort u1} {γ:Sort u2} (p1 p2 p3:α->β->γ->Prop):Prop | mk (x1:α) (x2:β) (x3:γ) (h1:p1 x1 x2 x3) (h2:p2 x1 x2 x3) (h3:p3 x1 x2 x3):X33 p1 p2 p3
inductive X34.{u0,u1,u2} {α:Sort u0} {β:Sort u1} {γ:Sort u2} (p1 p2 p3 p4:α->β->γ->Prop):Prop | mk (x1:α) (x2:β) (x3:γ) (h1:p1 x1 x2 x3) (h2:p2 x1 x2 x3) (h3:p3 x1 x2 x3) (h4:p4 x1 x2 x3):X34 p1 p2 p3 p4
inductive X35.{u0,u1,u2} {α:Sort u0} {β:Sort u1} {γ:Sort u2} (p1 p2 p3 p4 p5:α->β->γ->Prop):Prop | mk (x1:α) (x2:β) (x3:γ) (h1:p1 x1 x2 x3) (h2:p2 x1 x2 x3) (h3:p3 x1 x2 x3) (h4:p4 x1 x2 x3) (h5:p5 x1 x2 x3):X35 p1 p2 p3 p4 p5
inductive X44.{u0,u1,u2,u3} {α:Sort u0} {β:Sort u1} {γ:Sort u2} {δ:Sort u3} (p1 p2 p3 p4:α->β->γ->δ->Prop):Prop | mk (x1:α) (x2:β) (x3:γ) (x4:δ) (h1:p1 x1 x2 x3 x4) (h2:p2 x1 x2 x3 x4) (h3:p3 x1 x2 x3 x4) (h4:p4 x1 x2 x3 x4):X44 p1 p2 p3 p4
inductive X45.{u0,u1,u2,u3} {α:Sort u0} {β:Sort u1} {γ:Sort u2} {δ:Sort u3} (p1 p2 p3 p4 p5:α->β->γ->δ->Prop):Prop | mk (x1:α) (x2:β) (x3:γ) (x4:δ) (h1:p1 x1 x2 x3 x4) (h2:p2 x1 x2 x3 x4) (h3:p3 x1 x2 x3 x4) (h4:p4 x1 x2 x3 x4) (h5:p5 x1 x2 x3 x4):X45 p1 p2 p3 p4 p5
inductive X46.{u0,u1,u2,u3} {α:Sort u0} {β:Sort u1} {γ:Sort u2} {δ:Sort u3} (p1 p2 p3 p4 p5 p6:α->β->γ->δ->Prop):Prop | mk (x1:α) (x2:β) (x3:γ) (x4:δ) (h1:p1 x1 x2 x3 x4) (h2:p2 x1 x2 x3 x4) (h3:p3 x1 x2 x3 x4) (h4:p4 x1 x2 x3 x4) (h5:p5 x1 x2 x3 x4) (h6:p6 x1 x2 x3 x4):X46 p1 p2 p3 p4 p5 p6
inductive X47.{u0,u1,u2,u3} {α:Sort u0} {β:Sort u1} {γ:Sort u2} {δ:Sort u3} (p1 p2 p3 p4 p5 p6 p7:α->β->γ->δ->Prop):Prop | mk (x1:α) (x2:β) (x3:γ) (x4:δ) (h1:p1 x1 x2 x3 x4) (h2:p2 x1 x2 x3 x4) (h3:p3 x1 x2 x3 x4) (h4:p4 x1 x2 x3 x4) (h5:p5 x1 x2 x3 x4) (h6:p6 x1 x2 x3 x4) (h7:p7 x1 x2 x3 x4):X47 p1 p2 p3 p4 p5 p6 p7
inductive X57.{u0,u1,u2,u3,u4} {α:Sort u0} {β:Sort u1} {γ:Sort u2} {δ:Sort u3} {ε:Sort u4} (p1 p2 p3 p4 p5 p6 p7:α->β->γ->δ->ε->Prop):Prop | mk (x1:α) (x2:β) (x3:γ) (x4:δ) (x5:ε) (h1:p1 x1 x2 x3 x4 x5) (h2:p2 x1 x2 x3 x4 x5) (h3:p3 x1 x2 x3 x4 x5) (h4:p4 x1 x2 x3 x4 x5) (h5:p5 x1 x2 x3 x4 x5) (h6:p6 x1 x2 x3 x4 x5) (h7:p7 x1 x2 x3 x4 x5):X57 p1 p2 p3 p4 p5 p6 p7
inductive X711.{u0,u1,u2,u3,u4,u5,u6} {α:Sort u0} {β:Sort u1} {γ:Sort u2} {δ:Sort u3} {ε:Sort u4} {ζ:Sort u5} {η:Sort u6} (p1 p2 p3 p4 p5 p6 p7 p8 p9 pU AO:α->β->γ->δ->ε->ζ->η->Prop):Prop | mk (x1:α) (x2:β) (x3:γ) (x4:δ) (x5:ε) (x6:ζ) (x7:η) (h1:p1 x1 x2 x3 x4 x5 x6 x7) (h2:p2 x1 x2 x3 x4 x5 x6 x7) (h3:p3 x1 x2 x3 x4 x5 x6 x7) (h4:p4 x1 x2 x3 x4 x5 x6 x7) (h5:p5 x1 x2 x3 x4 x5 x6 x7) (h6:p6 x1 x2 x3 x4 x5 x6 x7) (h7:p7 x1 x2 x3 x4 x5 x6 x7) (h8:p8 x1 x2 x3 x4 x5 x6 x7) (h9:p9 x1 x2 x3 x4 x5 x6 x7) (h10:pU x1 x2 x3 x4 x5 x6 x7) (h11:AO x1 x2 x3 x4 x5 x6 x7):X711 p1 p2 p3 p4 p5 p6 p7 p8 p9 pU AO
theorem X13.elim.{u0} {α:Sort u0} {p1 p2 p3:α->Prop} {b:Prop} (h:X13 p1 p2 p3) (f:∀ x1,p1 x1->p2 x1->p3 x1->b):b:=h.casesOn f
theorem X14.elim.{u0} {α:Sort u0} {p1 p2 p3 p4:α->Prop} {b:Prop} (h:X14 p1 p2 p3 p4) (f:∀ x1,p1 x1->p2 x1->p3 x1->p4 x1->b):b:=h.casesOn f
theorem X15.elim.{u0} {α:Sort u0} {p1 p2 p3 p4 p5:α->Prop} {b:Prop} (h:X15 p1 p2 p3 p4 p5) (f:∀ x1,p1 x1->p2 x1->p3 x1->p4 x1->p5 x1->b):b:=h.casesOn f
theorem X16.elim.{u0} {α:Sort u0} {p1 p2 p3 p4 p5 p6:α->Prop} {b:Prop} (h:X16 p1 p2 p3 p4 p5 p6) (f:∀ x1,p1 x1->p2 x1->p3 x1->p4 x1->p5 x1->p6 x1->b):b:=h.casesOn f
theorem X22.elim.{u0,u1} {α:Sort u0} {β:Sort u1} {p1 p2:α->β->Prop} {b:Prop} (h:X22 p1 p2) (f:∀ x1 x2,p1 x1 x2->p2 x1 x2->b):b:=h.casesOn f
theorem X23.elim.{u0,u1} {α:Sort u0} {β:Sort u1} {p1 p2 p3:α->β->Prop} {b:Prop} (h:X23 p1 p2 p3) (f:∀ x1 x2,p1 x1 x2->p2 x1 x2->p3 x1 x2->b):b:=h.casesOn f
theorem X24.elim.{u0,u1} {α:Sort u0} {β:Sort u1} {p1 p2 p3 p4:α->β->Prop} {b:Prop} (h:X24 p1 p2 p3 p4) (f:∀ x1 x2,p1 x1 x2->p2 x1 x2->p3 x1 x2->p4 x1 x2->b):b:=h.casesOn f
theorem X25.elim.{u0,u1} {α:Sort u0} {β:Sort u1} {p1 p2 p3 p4 p5:α->β->Prop} {b:Prop} (h:X25 p1 p2 p3 p4 p5) (f:∀ x1 x2,p1 x1 x2->p2 x1 x2->p3 x1 x2->p4 x1 x2->p5 x1 x2->b):b:=h.casesOn f
theorem X26.elim.{u0,u1} {α:Sort u0} {β:Sort u1} {p1 p2 p3 p4 p5 p6:α->β->Prop} {b:Prop} (h:X26 p1 p2 p3 p4 p5 p6) (f:∀ x1 x2,p1 x1 x2->p2 x1 x2->p3 x1 x2->p4 x1 x2->p5 x1 x2->p6 x1 x2->b):b:=h.casesOn f
theorem X27.elim.{u0,u1} {α:Sort u0} {β:Sort u1} {p1 p2 p3 p4 p5 p6 p7:α->β->Prop} {b:Prop} (h:X27 p1 p2 p3 p4 p5 p6 p7) (f:∀ x1 x2,p1 x1 x2->p2 x1 x2->p3 x1 x2->p4 x1 x2->p5 x1 x2->p6 x1 x2->p7 x1 x2->b):b:=h.casesOn f
theorem X28.elim.{u0,u1} {α:Sort u0} {β:Sort u1} {p1 p2 p3 p4 p5 p6 p7 p8:α->β->Prop} {b:Prop} (h:X28 p1 p2 p3 p4 p5 p6 p7 p8) (f:∀ x1 x2,p1 x1 x2->p2 x1 x2->p3 x1 x2->p4 x1 x2->p5 x1 x2->p6 x1 x2->p7 x1 x2->p8 x1 x2->b):b:=h.casesOn f
theorem X32.elim.{u0,u1,u2} {α:Sort u0} {β:Sort u1} {γ:Sort u2} {p1 p2:α->β->γ->Prop} {b:Prop} (h:X32 p1 p2) (f:∀ x1 x2 x3,p1 x1 x2 x3->p2 x1 x2 x3->b):b:=h.casesOn f
theorem X33.elim.{u0,u1,u2} {α:Sort u0} {β:Sort u1} {γ:Sort u2} {p1 p2 p3:α->β->γ->Prop} {b:Prop} (h:X33 p1 p2 p3) (f:∀ x1 x2 x3,p1 x1 x2 x3->p2 x1 x2 x3->p3 x1 x2 x3->b):b:=h.casesOn f
theorem X34.elim.{u0,u1,u2} {α:Sort u0} {β:Sort u1} {γ:Sort u2} {p1 p2 p3 p4:α->β->γ->Prop} {b:Prop} (h:X34 p1 p2 p3 p4) (f:∀ x1 x2 x3,p1 x1 x2 x3->p2 x1 x2 x3->p3 x1 x2 x3->p4 x1 x2 x3->b):b:=h.casesOn f
theorem X35.elim.{u0,u1,u2} {α:Sort u0} {β:Sort u1} {γ:Sort u2} {p1 p2 p3 p4 p5:α->β->γ->Prop} {b:Prop} (h:X35 p1 p2 p3 p4 p5) (f:∀ x1 x2 x3,p1 x1 x2 x3->p2 x1 x2 x3->p3 x1 x2 x3->p4 x1 x2 x3->p5 x1 x2 x3->b):b:=h.casesOn f
theorem X44.elim.{u0,u1,u2,u3} {α:Sort u0} {β:Sort u1} {γ:Sort u2} {δ:Sort u3} {p1 p2 p3 p4:α->β->γ->δ->Prop} {b:Prop} (h:X44 p1 p2 p3 p4) (f:∀ x1 x2 x3 x4,p1 x1 x2 x3 x4->p2 x1 x2 x3 x4->p3 x1 x2 x3 x4->p4 x1 x2 x3 x4->b):b:=h.casesOn f
theorem X45.elim.{u0,u1,u2,u3} {α:Sort u0} {β:Sort u1} {γ:Sort u2} {δ:Sort u3} {p1 p2 p3 p4 p5:α->β->γ->δ->Prop} {b:Prop} (h:X45 p1 p2 p3 p4 p5) (f:∀ x1 x2 x3 x4,p1 x1 x2 x3 x4->p2 x1 x2 x3 x4->p3 x1 x2 x3 x4->p4 x1 x2 x3 x4->p5 x1 x2 x3 x4->b):b:=h.casesOn f
theorem X46.elim.{u0,u1,u2,u3} {α:Sort u0} {β:Sort u1} {γ:Sort u2} {δ:Sort u3} {p1 p2 p3 p4 p5 p6:α->β->γ->δ->Prop} {b:Prop} (h:X46 p1 p2 p3 p4 p5 p6) (f:∀ x1 x2 x3 x4,p1 x1 x2 x3 x4->p2 x1 x2 x3 x4->p3 x1 x2 x3 x4->p4 x1 x2 x3 x4->p5 x1 x2 x3 x4->p6 x1 x2 x3 x4->b):b:=h.casesOn f
theorem X47.elim.{u0,u1,u2,u3} {α:Sort u0} {β:Sort u1} {γ:Sort u2} {δ:Sort u3} {p1 p2 p3 p4 p5 p6 p7:α->β->γ->δ->Prop} {b:Prop} (h:X47 p1 p2 p3 p4 p5 p6 p7) (f:∀ x1 x2 x3 x4,p1 x1 x2 x3 x4->p2 x1 x2 x3 x4->p3 x1 x2 x3 x4->p4 x1 x2 x3 x4->p5 x1 x2 x3 x4->p6 x1 x2 x3 x4->p7 x1 x2 x3 x4->b):b:=h.casesOn f
theorem X57.elim.{u0,u1,u2,u3,u4} {α:Sort u0} {β:Sort u1} {γ:Sort u2} {δ:Sort u3} {ε:Sort u4} {p1 p2 p3 p4 p5 p6 p7:α->β->γ->δ->ε->Prop} {b:Prop} (h:X57 p1 p2 p3 p4 p5 p6 p7) (f:∀ x1 x2 x3 x4 x5,p1 x1 x2 x3 x4 x5->p2 x1 x2 x3 x4 x5->p3 x1 x2 x3 x4 x5->p4 x1 x2 x3 x4 x5->p5 x1 x2 x3 x4 x5->p6 x1 x2 x3 x4 x5->p7 x1 x2 x3 x4 x5->b):b:=h.casesOn f
theorem X711.elim.{u0,u1,u2,u3,u4,u5,u6} {α:Sort u0} {β:Sort u1} {γ:Sort u2} {δ:Sort u3} {ε:Sort u4} {ζ:Sort u5} {η:Sort u6} {p1 p2 p3 p4 p5 p6 p7 p8 p9 pU AO:α->β->γ->δ->ε->ζ->η->Prop} {b:Prop} (h:X711 p1 p2 p3 p4 p5 p6 p7 p8 p9 pU AO) (f:∀ x1 x2 x3 x4 x5 x6 x7,p1 x1 x2 x3 x4 x5 x6 x7->p2 x1 x2 x3 x4 x5 x6 x7->p3 x1 x2 x3 x4 x5 x6 x7->p4 x1 x2 x3 x4 x5 x6 x7->p5 x1 x2 x3 x4 x5 x6 x7->p6 x1 x2 x3 x4 x5 x6 x7->p7 x1 x2 x3 x4 x5 x6 x7->p8 x1 x2 x3 x4 x5 x6 x7->p9 x1 x2 x3 x4 x5 x6 x7->pU x1 x2 x3 x4 x5 x6 x7->AO x1 x2 x3 x4 x5 x6 x7->b):b:=h.casesOn f
theorem pJ {a b:Nat} (e:iQ a b=true):a<=b:=yy e
theorem Zr {a b n:Nat} (h:b<=n) (e:iQ (a+2) b=true):a < n - 1:=yC (eZ (pJ e) h)
theorem ahm {a b n:Nat} (h:b<=n) (e:iQ (a+1) b=true):a<=n - 1:=yC (eZ (pJ e) h)
theorem ahM {a b n:Nat} (h:b<=n) (e:iQ (a+2) b=true):a<=n - 1 - 1:=yC (Zr h e)
theorem acQ {a b c:Nat} (h:a<=b) (e:iQ b c=true):a<=c:=aO h (pJ e)
theorem acR {a b c:Nat} (h:a<=b) (e:iQ (b+1) c=true):a < c:=gW h (pJ e)
theorem ab3 {a b c:Nat} (h:a < b) (e:iQ b c=true):a < c:=eZ h (pJ e)
theorem ahD {a b c:Nat} (h:a < b) (e:iQ b (c+1)=true):a<=c:=oU (eZ h (pJ e))
theorem ahN {a b c:Nat} (h:b<=a) (e:iQ c b=true):c<=a:=aO (pJ e) h
theorem ahO {a b c:Nat} (h:b<=a) (e:iQ (c+1) b=true):c < a:=eZ (pJ e) h
theorem ahE {a k c:Nat} (h:a<=OfNat.ofNat k) (e:iQ k c=true):a<=c:=acQ h e
theorem ahF {a k c:Nat} (h:a<=OfNat.ofNat k) (e:iQ (k+1) c=true):a < c:=acR h e
theorem ahn {a k c:Nat} (h:a < OfNat.ofNat k) (e:iQ k c=true):a < c:=ab3 h e
theorem ahP {a b:Nat} (h:a < b+1) (e:¬ a=b):a < b:=tY (oU h) e
theorem aho {a b c:Nat} (h:a < min b c):a < b:=eZ h (Ml _ _)
theorem ahp {a b c:Nat} (h:a < min b c):a < c:=eZ h (yJ _ _)
theorem ahG {a b k:Nat} (h:a=b+OfNat.ofNat k) (e:iQ 1 k=true):b < a:=h▸UQ (pJ e)
theorem ahH {a b k c:Nat} (h:a=b+OfNat.ofNat k) (e:iQ (c+1) k=true):b+c < a:=h▸Vc (pJ e) b
theorem ahQ {a b:Nat} (h:a < b):a<=b - 1:=yC h
section
variable {a b c d:Nat}
theorem zl (h:a < b) (k:b<=c):a < c:=eZ h k
theorem zm (h:a<=b) (k:b < c):a < c:=gW h k
theorem zn (h:a < b) (k:b < c):a < c:=FY h k
theorem pV (h:a < b) (k:b=c):a < c:=k▸h
theorem fK (h:a=b) (k:b < c):a < c:=h▸k
theorem zqr (h:b=a) (k:b < c):a < c:=h▸k
theorem dN (h:a < b) (k:c=b):a < c:=k▸h
theorem zs (h:a<=b):a < b+1:=BZ h
theorem zt (h:a < b):a < b+1:=B3 h
theorem zu (h:a < b):a+1 < b+1:=VJ h
theorem zv (h:a+1 < b+1):a < b:=BP h
theorem zp (h:¬ b<=a):a < b:=VK h
theorem zd (h:a<=b) (k:¬ a=b):a < b:=tY h k
theorem xy (h:a<=b) (k:¬ b=a):a < b:=tY h λe=>k e.symm
theorem cY (h:a < b+1) (k:¬ a=b):a < b:=tY (oU h) k
theorem Rz (h:a < b+1) (k:¬ b=a):a < b:=tY (oU h) λe=>k e.symm
theorem z0 (h:¬ a=0):0 < a:=Nat.pos_of_ne_zero h
theorem lV (h:b < a):0 < a:=L5 h
theorem j8:0 < a+1:=fF a
theorem zx:a < a+1:=B9 a
theorem xA:a < a+1+b:=eZ (B9 a) (oV _ _)
theorem jP:a < a+(b+1):=UQ (fF b)
theorem jQ (h:a < b):a < b+c:=Nat.lt_add_right c h
theorem zal (h:a < c):a < b+c:=Nat.lt_add_left b h
theorem DP (h:a < b):a+c < b+c:=U0 h c
theorem i6 (h:a < b):c+a < c+b:=Vc h c
theorem zll (h:a < b) (k:c<=d):a+c < b+d:=Nat.add_lt_add_of_lt_of_le h k
theorem RA (h:a<=b) (k:c < d):a+c < b+d:=Nat.add_lt_add_of_le_of_lt h k
theorem xB (h:0 < a):a - (b+1) < a:=Nb h (fF b)
theorem RB (h:b < a):a - (c+1) < a:=Nb (L5 h) (fF c)
theorem Jl (h:c<=a) (k:a < b):a - c < b - c:=Nat.sub_lt_sub_right h k
theorem mw (h:0 < a) (k:a<=b):a - 1 < b:=eZ (Nb h (fF 0)) k
theorem RC (h:a < b):a - c < b:=gW (Nc a c) h
theorem zsp (h:a < b):0 < b - a:=Vu h
theorem sR (h:a < b):b - (a+1) < b - a:=Nat.sub_succ_lt_self _ _ h
theorem eg (h:a+c < b):a < b - c:=Nat.lt_sub_of_add_lt h
theorem j9 (h:a < b+c) (k:b<=a):a - b < c:=(Nat.sub_lt_iff_lt_add' k).mpr h
theorem zz (h:a<=b) (k:b<=c):a<=c:=aO h k
theorem zf (h:a < b):a<=b:=fy h
theorem zg (h:¬ b < a):a<=b:=v7 h
theorem ze (h:a=b):a<=b:=FZ h
theorem pW (h:b=a):a<=b:=FZ h.symm
theorem kL (h:a<=b) (k:b=c):a<=c:=k▸h
theorem dm (h:a=b) (k:b<=c):a<=c:=h▸k
theorem zo (h:a<=b):a<=b+1:=Nat.le_succ_of_le h
theorem zh (h:a < b+1):a<=b:=oU h
theorem DQ (h:a<=b+1) (k:¬ a=b+1):a<=b:=oU (tY h k)
theorem uZ (h:a<=b):a+1<=b+1:=oW h
theorem eF:a<=a+b:=oV a b
theorem aI:b<=a+b:=Fp b a
theorem DR (h:a<=b):a<=b+c:=Nat.le_add_right_of_le h
theorem zca (h:a<=c):a<=b+c:=Nat.le_add_left_of_le h
theorem zla (h:a+b<=c):a<=c:=aO (oV a b) h
theorem eW (h:a+b<=c):b<=c:=aO (Fp b a) h
theorem sS (h:a+b < c):a < c:=gW (oV a b) h
theorem bK (h:a+b < c):b < c:=gW (Fp b a) h
theorem Jm (h:a+b=c):a<=c:=aO (oV a b) (FZ h)
theorem dO (h:a<=b) (k:c<=d):a+c<=b+d:=fc h k
theorem gQ (h:a<=b):a+c<=b+c:=rJ h c
theorem iH (h:a<=b):c+a<=c+b:=nN h c
theorem Jo:a - b<=a:=Nc a b
theorem sU (h:a<=c):a - b<=c:=aO (Nc a b) h
theorem aK (h:a < b):a<=b - 1:=yC h
theorem zpe (h:b < a):a=a - 1+1:=(yE (L5 h)).symm
theorem Jp (h:a<=b):a - c<=b - c:=Nat.sub_le_sub_right h c
theorem RD (h:a<=b):c - b<=c - a:=Nat.sub_le_sub_left h c
theorem zsy (h:a<=b+c):a - b<=c:=Nat.sub_le_of_le_add (qC b c▸h)
theorem u7:min a b<=b:=yJ a b
theorem zmk (h:a<=c):min a b<=c:=aO (Ml a b) h
theorem Jq (h:b<=c):min a b<=c:=aO (yJ a b) h
theorem nq (h:a < min b c):a < b:=eZ h (Ml b c)
theorem u9 (h:a < min b c):a < c:=eZ h (yJ b c)
theorem pX (h:a<=b):c*a<=c*b:=vU c h
theorem Jr (h:a<=b):a*c<=b*c:=gE c h
theorem zb (e:iQ a b=true):a<=b:=yy e
theorem ao (e:iQ (a+1) b=true):a < b:=yy e
theorem kT (h:a<=b) (k:b<=a):a=b:=yL h k
theorem ow (h:a < b+1) (k:¬ a < b):a=b:=yL (oU h) (v7 k)
theorem sV (h:a<=b) (k:¬ a < b):a=b:=yL h (v7 k)
theorem zap (h:¬ a < b) (k:¬ b < a):a=b:=yL (v7 k) (v7 h)
theorem zc (h:b<=a):a - b+b=a:=yE h
theorem pY (h:b<=a):a=a - b+b:=(yE h).symm
theorem fT (h:b<=a):b+(a - b)=a:=Vv h
theorem AQ (h:b<=a):a=b+(a - b):=(Vv h).symm
theorem RE:a+b - b=a:=tZ a b
theorem Js:a+b - a=b:=vO a b
theorem Jt (h:a+b=c):a=c - b:=h▸(tZ a b).symm
theorem AR (h:a<=0):a=0:=Nat.le_zero.mp h
theorem Ju (h:a < 1):a=0:=Wj.mp h
theorem pZ:a+b=b+a:=qC a b
theorem qV:a+b+c=a+(b+c):=oZ a b c
theorem DS:a+(b+c)=a+b+c:=(oZ a b c).symm
theorem DT:a+b+c=a+c+b:=Vl a b c
theorem Jv (h:a<=b):min a b=a:=rO h
theorem zdp (h:b<=a):max a b=a:=Nat.max_eq_left h
theorem qb (h:a=b):b=a:=h.symm
theorem zdt (h:a=b) (k:b=c):a=c:=h.trans k
theorem DV (h:a=b) (k:c=b):a=c:=h.trans k.symm
theorem RG (h:b=a) (k:b=c):a=c:=h.symm.trans k
theorem RH (h:a=b):a+c=b+c:=congrArg (·+ c) h
theorem RI (h:a+c=b+c):a=b:=Nat.add_right_cancel h
theorem oz {a b:Nat} (h:(a:Int)=(b:Int)):a=b:=FN h
theorem RJ {a b:Nat} (h:a=b):(a:Int)=(b:Int):=congrArg Nat.cast h
theorem kU (h:a < b):¬ a=b:=gq h
theorem nu (h:b < a):¬ a=b:=F0 h
theorem ie (h:b<=a):¬ a < b:=VL h
theorem znd (h:b < a):¬ a<=b:=Nat.not_le_of_lt h
theorem qc:¬ a < 0:=Fq a
theorem DW:¬ a < a:=uc a
theorem zni:¬ 0=a+1:=λe=>Ff a e.symm
theorem xC (h:¬ a=b):¬ b=a:=λe=>h e.symm
theorem ig (h:a < b) (k:b<=a):False:=VL k h
theorem RL (h:a < a):False:=uc a h
theorem kc (h:a < 0):False:=Fq a h
theorem mz (h:a < b) (k:a=b):False:=gq h k
theorem sW (h:a < b) (k:b=a):False:=gq h k.symm
theorem RM (h:a+1=0):False:=Ff a h
theorem vc (h:a < b) (k:b < a):False:=Nat.lt_asymm h k
theorem vd:¬ (a:Int) < 0:=Cv.mpr (oS a)
theorem ve:(0:Int)<=(a:Int):=oS a
theorem Jw (h:a < b):(a:Int) < (b:Int):=yS.mpr h
theorem zid (h:a<=b):(a:Int)<=(b:Int):=wg.mpr h
theorem RN (h:(a:Int) < (b:Int)):a < b:=yS.mp h
theorem ir:a+1+b=a+(b+1):=Nat.succ_add_eq_add_succ a b
theorem PD (h:a < 3):a=0\/a=1\/a=2:=(E0.mp h).elim (λh=>(E0.mp h).elim (λh=>.inl (Wj.mp h)) λe=>.inr (.inl e)) λe=>.inr (.inr e)
theorem Aq (h:a < 4):a=0\/a=1\/a=2\/a=3:=(LX (oU h)).elim (λh=>(PD h).imp_right (.imp_right .inl)) (λh=>.inr (.inr (.inr h)))
theorem uK (h:a < 5):a=0\/a=1\/a=2\/a=3\/a=4:=(LX (oU h)).elim (λh=>(Aq h).imp_right (.imp_right (.imp_right .inl))) (λh=>.inr (.inr (.inr (.inr h))))
theorem zpp (h:2+b<=a):b < a - 1:=yC (by rw[qC] at h;exact h)
theorem xD:a+0=a:=rfl
theorem zmt (h:a < b):b - a=b - (a+1)+1:=(yE (Vu h)).symm
end
theorem RO {y T:Nat} (h:y < T+3) (k:T<=y):y=T\/y=T+1\/y=T+2:=by obtain ⟨j,rfl⟩:=Nat.le.dest k;exact (PD (LI h)).imp (congrArg (T+·)) (HP (congrArg (T+·)) (congrArg (T+·)))
theorem qP {y T N:Nat} (nT:N=T+3) (h:y < N) (k:¬ y < T) (q:y≠T):y=T+1\/y=T+2:=(RO (nT▸h) (zg k)).resolve_left q
theorem PE {a j:Nat} (h:j < a):a - 1 - j+1=a - j:=by rw[Nat.sub_right_comm];exact zc (zsp h)
theorem PG {a j:Nat}:a - 1 - j=a - (j+1):=by rw[MW,qC]
theorem PI {K a b:Nat} (h:b < a) (k:a<=K):2*(K - a)+1 < 2*(K - b)+1:=VJ (Nat.mul_lt_mul_of_pos_left (Nat.sub_lt_sub_left (zl h k) h) (fF 1))
theorem AS {b j:Nat}:b+4+4*j=b+4*(j+1):=(oZ b 4 (4*j)).trans (congrArg (b+·) (qC 4 (4*j)))
theorem uG {l T:Nat} (h:l=T+1\/l=T+2):T < l:=h.elim (λe=>e▸zx) (λe=>e▸jP)
theorem Pe {a b c:Nat} (h:b < c - a):a+b < c:=Nat.add_lt_of_lt_sub' h
theorem PK {a c:Nat} (h:1<=a):a - 1+(c+1)=a+c:=by rw[<-oZ,Vl,zc h]
theorem PL {a b c p q:Nat} (ha:a=p\/a=q) (hb:b=p\/b=q) (hc:c=p\/c=q) (h1:¬ a=b) (h2:¬ c=b):c=a:=
 hb.elim (λe=>(hc.resolve_left λf=>h2 (f.trans e.symm)).trans (ha.resolve_left λf=>h1 (f.trans e.symm)).symm) λe=>(hc.resolve_right λf=>h2 (f.trans e.symm)).trans (ha.resolve_right λf=>h1 (f.trans e.symm)).symm
theorem C8 {x T N:Nat} (nT:N=T+3) (h:x=T+1\/x=T+2):x < N:=dN (h.elim (λe=>fK e (i6 (ao rfl))) λe=>fK e (i6 (ao rfl))) nT
theorem sA {k:Nat} (h:k < 2 ^ 40):((k:Nat):Int) < 2 ^ 63:=by omega
theorem ahU {k:Nat} (h:k < 2 ^ 40):((k:Nat):Int) < 2 ^ 62:=by omega
theorem Ar {a b c d:Nat} (h:a < c) (hb:b < 1000):a*1000+b < c*1000+d:=zl (i6 hb) (zz (ze (MK a 1000).symm) (DR (Jr h)))
theorem PM {a b c d:Nat} (hb:b < 1000) (hd:d < 1000) (h:a*1000+b=c*1000+d):a=c:=yL (v7 λk=>mz (Ar k hd) h.symm) (v7 λk=>mz (Ar k hb) h)
noncomputable def q1 {a1 a2:Type} (p:a1×a2):a1:=p.1
noncomputable def q2 {a1 a2 a3:Type} (p:a1×a2×a3):a2:=p.2.1
noncomputable def q3 {a1 a2 a3 a4:Type} (p:a1×a2×a3×a4):a3:=p.2.2.1
noncomputable def q4 {a1 a2 a3 a4 a5:Type} (p:a1×a2×a3×a4×a5):a4:=p.2.2.2.1
noncomputable def q5 {a1 a2 a3 a4 a5 a6:Type} (p:a1×a2×a3×a4×a5×a6):a5:=p.2.2.2.2.1
noncomputable def q6 {a1 a2 a3 a4 a5 a6 a7:Type} (p:a1×a2×a3×a4×a5×a6×a7):a6:=p.2.2.2.2.2.1
noncomputable def q7 {a1 a2 a3 a4 a5 a6 a7 a8:Type} (p:a1×a2×a3×a4×a5×a6×a7×a8):a7:=p.2.2.2.2.2.2.1
noncomputable def q8 {a1 a2 a3 a4 a5 a6 a7 a8 a9:Type} (p:a1×a2×a3×a4×a5×a6×a7×a8×a9):a8:=p.2.2.2.2.2.2.2.1
noncomputable def q9 {a1 a2 a3 a4 a5 a6 a7 a8 a9 dz:Type} (p:a1×a2×a3×a4×a5×a6×a7×a8×a9×dz):a9:=p.2.2.2.2.2.2.2.2.1
noncomputable def q10 {a1 a2 a3 a4 a5 a6 a7 a8 a9 dz fU:Type} (p:a1×a2×a3×a4×a5×a6×a7×a8×a9×dz×fU):dz:=p.2.2.2.2.2.2.2.2.2.1
noncomputable def q11 {a1 a2 a3 a4 a5 a6 a7 a8 a9 dz fU mC:Type} (p:a1×a2×a3×a4×a5×a6×a7×a8×a9×dz×fU×mC):fU:=p.2.2.2.2.2.2.2.2.2.2.1
noncomputable def q12 {a1 a2 a3 a4 a5 a6 a7 a8 a9 dz fU mC a13:Type} (p:a1×a2×a3×a4×a5×a6×a7×a8×a9×dz×fU×mC×a13):mC:=p.2.2.2.2.2.2.2.2.2.2.2.1
noncomputable def pk1 {a1:Type} (i:Nonempty (a1×Unit)) (P:a1->Prop):a1×Unit:=@nP _ i λp=>¬ P (q1 p)
@[elab_as_elim] theorem al1 {a1:Type} [i:Nonempty (a1×Unit)] {P:a1->Prop} (x1:a1) (h:P (q1 (pk1 i P))):P x1:=nI λhn=>nM (p:=λp:a1×Unit=>¬ P (q1 p)) ⟨(x1,()),hn⟩ h
noncomputable def pk2 {a1 a2:Type} (i:Nonempty (a1×a2×Unit)) (P:a1->a2->Prop):a1×a2×Unit:=@nP _ i λp=>¬ P (q1 p) (q2 p)
@[elab_as_elim] theorem al2 {a1 a2:Type} [i:Nonempty (a1×a2×Unit)] {P:a1->a2->Prop} (x1:a1) (x2:a2) (h:P (q1 (pk2 i P)) (q2 (pk2 i P))):P x1 x2:=nI λhn=>nM (p:=λp:a1×a2×Unit=>¬ P (q1 p) (q2 p)) ⟨(x1,x2,()),hn⟩ h
noncomputable def pk3 {a1 a2 a3:Type} (i:Nonempty (a1×a2×a3×Unit)) (P:a1->a2->a3->Prop):a1×a2×a3×Unit:=@nP _ i λp=>¬ P (q1 p) (q2 p) (q3 p)
@[elab_as_elim] theorem al3 {a1 a2 a3:Type} [i:Nonempty (a1×a2×a3×Unit)] {P:a1->a2->a3->Prop} (x1:a1) (x2:a2) (x3:a3) (h:P (q1 (pk3 i P)) (q2 (pk3 i P)) (q3 (pk3 i P))):P x1 x2 x3:=nI λhn=>nM (p:=λp:a1×a2×a3×Unit=>¬ P (q1 p) (q2 p) (q3 p)) ⟨(x1,x2,x3,()),hn⟩ h
noncomputable def pk4 {a1 a2 a3 a4:Type} (i:Nonempty (a1×a2×a3×a4×Unit)) (P:a1->a2->a3->a4->Prop):a1×a2×a3×a4×Unit:=@nP _ i λp=>¬ P (q1 p) (q2 p) (q3 p) (q4 p)
@[elab_as_elim] theorem al4 {a1 a2 a3 a4:Type} [i:Nonempty (a1×a2×a3×a4×Unit)] {P:a1->a2->a3->a4->Prop} (x1:a1) (x2:a2) (x3:a3) (x4:a4) (h:P (q1 (pk4 i P)) (q2 (pk4 i P)) (q3 (pk4 i P)) (q4 (pk4 i P))):P x1 x2 x3 x4:=nI λhn=>nM (p:=λp:a1×a2×a3×a4×Unit=>¬ P (q1 p) (q2 p) (q3 p) (q4 p)) ⟨(x1,x2,x3,x4,()),hn⟩ h
noncomputable def pk5 {a1 a2 a3 a4 a5:Type} (i:Nonempty (a1×a2×a3×a4×a5×Unit)) (P:a1->a2->a3->a4->a5->Prop):a1×a2×a3×a4×a5×Unit:=@nP _ i λp=>¬ P (q1 p) (q2 p) (q3 p) (q4 p) (q5 p)
@[elab_as_elim] theorem al5 {a1 a2 a3 a4 a5:Type} [i:Nonempty (a1×a2×a3×a4×a5×Unit)] {P:a1->a2->a3->a4->a5->Prop} (x1:a1) (x2:a2) (x3:a3) (x4:a4) (x5:a5) (h:P (q1 (pk5 i P)) (q2 (pk5 i P)) (q3 (pk5 i P)) (q4 (pk5 i P)) (q5 (pk5 i P))):P x1 x2 x3 x4 x5:=nI λhn=>nM (p:=λp:a1×a2×a3×a4×a5×Unit=>¬ P (q1 p) (q2 p) (q3 p) (q4 p) (q5 p)) ⟨(x1,x2,x3,x4,x5,()),hn⟩ h
noncomputable def pk6 {a1 a2 a3 a4 a5 a6:Type} (i:Nonempty (a1×a2×a3×a4×a5×a6×Unit)) (P:a1->a2->a3->a4->a5->a6->Prop):a1×a2×a3×a4×a5×a6×Unit:=@nP _ i λp=>¬ P (q1 p) (q2 p) (q3 p) (q4 p) (q5 p) (q6 p)
@[elab_as_elim] theorem al6 {a1 a2 a3 a4 a5 a6:Type} [i:Nonempty (a1×a2×a3×a4×a5×a6×Unit)] {P:a1->a2->a3->a4->a5->a6->Prop} (x1:a1) (x2:a2) (x3:a3) (x4:a4) (x5:a5) (x6:a6) (h:P (q1 (pk6 i P)) (q2 (pk6 i P)) (q3 (pk6 i P)) (q4 (pk6 i P)) (q5 (pk6 i P)) (q6 (pk6 i P))):P x1 x2 x3 x4 x5 x6:=nI λhn=>nM (p:=λp:a1×a2×a3×a4×a5×a6×Unit=>¬ P (q1 p) (q2 p) (q3 p) (q4 p) (q5 p) (q6 p)) ⟨(x1,x2,x3,x4,x5,x6,()),hn⟩ h
noncomputable def pk7 {a1 a2 a3 a4 a5 a6 a7:Type} (i:Nonempty (a1×a2×a3×a4×a5×a6×a7×Unit)) (P:a1->a2->a3->a4->a5->a6->a7->Prop):a1×a2×a3×a4×a5×a6×a7×Unit:=@nP _ i λp=>¬ P (q1 p) (q2 p) (q3 p) (q4 p) (q5 p) (q6 p) (q7 p)
@[elab_as_elim] theorem al7 {a1 a2 a3 a4 a5 a6 a7:Type} [i:Nonempty (a1×a2×a3×a4×a5×a6×a7×Unit)] {P:a1->a2->a3->a4->a5->a6->a7->Prop} (x1:a1) (x2:a2) (x3:a3) (x4:a4) (x5:a5) (x6:a6) (x7:a7) (h:P (q1 (pk7 i P)) (q2 (pk7 i P)) (q3 (pk7 i P)) (q4 (pk7 i P)) (q5 (pk7 i P)) (q6 (pk7 i P)) (q7 (pk7 i P))):P x1 x2 x3 x4 x5 x6 x7:=nI λhn=>nM (p:=λp:a1×a2×a3×a4×a5×a6×a7×Unit=>¬ P (q1 p) (q2 p) (q3 p) (q4 p) (q5 p) (q6 p) (q7 p)) ⟨(x1,x2,x3,x4,x5,x6,x7,()),hn⟩ h
noncomputable def pk8 {a1 a2 a3 a4 a5 a6 a7 a8:Type} (i:Nonempty (a1×a2×a3×a4×a5×a6×a7×a8×Unit)) (P:a1->a2->a3->a4->a5->a6->a7->a8->Prop):a1×a2×a3×a4×a5×a6×a7×a8×Unit:=@nP _ i λp=>¬ P (q1 p) (q2 p) (q3 p) (q4 p) (q5 p) (q6 p) (q7 p) (q8 p)
@[elab_as_elim] theorem al8 {a1 a2 a3 a4 a5 a6 a7 a8:Type} [i:Nonempty (a1×a2×a3×a4×a5×a6×a7×a8×Unit)] {P:a1->a2->a3->a4->a5->a6->a7->a8->Prop} (x1:a1) (x2:a2) (x3:a3) (x4:a4) (x5:a5) (x6:a6) (x7:a7) (x8:a8) (h:P (q1 (pk8 i P)) (q2 (pk8 i P)) (q3 (pk8 i P)) (q4 (pk8 i P)) (q5 (pk8 i P)) (q6 (pk8 i P)) (q7 (pk8 i P)) (q8 (pk8 i P))):P x1 x2 x3 x4 x5 x6 x7 x8:=nI λhn=>nM (p:=λp:a1×a2×a3×a4×a5×a6×a7×a8×Unit=>¬ P (q1 p) (q2 p) (q3 p) (q4 p) (q5 p) (q6 p) (q7 p) (q8 p)) ⟨(x1,x2,x3,x4,x5,x6,x7,x8,()),hn⟩ h
noncomputable def pk9 {a1 a2 a3 a4 a5 a6 a7 a8 a9:Type} (i:Nonempty (a1×a2×a3×a4×a5×a6×a7×a8×a9×Unit)) (P:a1->a2->a3->a4->a5->a6->a7->a8->a9->Prop):a1×a2×a3×a4×a5×a6×a7×a8×a9×Unit:=@nP _ i λp=>¬ P (q1 p) (q2 p) (q3 p) (q4 p) (q5 p) (q6 p) (q7 p) (q8 p) (q9 p)
@[elab_as_elim] theorem al9 {a1 a2 a3 a4 a5 a6 a7 a8 a9:Type} [i:Nonempty (a1×a2×a3×a4×a5×a6×a7×a8×a9×Unit)] {P:a1->a2->a3->a4->a5->a6->a7->a8->a9->Prop} (x1:a1) (x2:a2) (x3:a3) (x4:a4) (x5:a5) (x6:a6) (x7:a7) (x8:a8) (x9:a9) (h:P (q1 (pk9 i P)) (q2 (pk9 i P)) (q3 (pk9 i P)) (q4 (pk9 i P)) (q5 (pk9 i P)) (q6 (pk9 i P)) (q7 (pk9 i P)) (q8 (pk9 i P)) (q9 (pk9 i P))):P x1 x2 x3 x4 x5 x6 x7 x8 x9:=nI λhn=>nM (p:=λp:a1×a2×a3×a4×a5×a6×a7×a8×a9×Unit=>¬ P (q1 p) (q2 p) (q3 p) (q4 p) (q5 p) (q6 p) (q7 p) (q8 p) (q9 p)) ⟨(x1,x2,x3,x4,x5,x6,x7,x8,x9,()),hn⟩ h
noncomputable def pk10 {a1 a2 a3 a4 a5 a6 a7 a8 a9 dz:Type} (i:Nonempty (a1×a2×a3×a4×a5×a6×a7×a8×a9×dz×Unit)) (P:a1->a2->a3->a4->a5->a6->a7->a8->a9->dz->Prop):a1×a2×a3×a4×a5×a6×a7×a8×a9×dz×Unit:=@nP _ i λp=>¬ P (q1 p) (q2 p) (q3 p) (q4 p) (q5 p) (q6 p) (q7 p) (q8 p) (q9 p) (q10 p)
@[elab_as_elim] theorem al10 {a1 a2 a3 a4 a5 a6 a7 a8 a9 dz:Type} [i:Nonempty (a1×a2×a3×a4×a5×a6×a7×a8×a9×dz×Unit)] {P:a1->a2->a3->a4->a5->a6->a7->a8->a9->dz->Prop} (x1:a1) (x2:a2) (x3:a3) (x4:a4) (x5:a5) (x6:a6) (x7:a7) (x8:a8) (x9:a9) (oA:dz) (h:P (q1 (pk10 i P)) (q2 (pk10 i P)) (q3 (pk10 i P)) (q4 (pk10 i P)) (q5 (pk10 i P)) (q6 (pk10 i P)) (q7 (pk10 i P)) (q8 (pk10 i P)) (q9 (pk10 i P)) (q10 (pk10 i P))):P x1 x2 x3 x4 x5 x6 x7 x8 x9 oA:=nI λhn=>nM (p:=λp:a1×a2×a3×a4×a5×a6×a7×a8×a9×dz×Unit=>¬ P (q1 p) (q2 p) (q3 p) (q4 p) (q5 p) (q6 p) (q7 p) (q8 p) (q9 p) (q10 p)) ⟨(x1,x2,x3,x4,x5,x6,x7,x8,x9,oA,()),hn⟩ h
noncomputable def pk11 {a1 a2 a3 a4 a5 a6 a7 a8 a9 dz fU:Type} (i:Nonempty (a1×a2×a3×a4×a5×a6×a7×a8×a9×dz×fU×Unit)) (P:a1->a2->a3->a4->a5->a6->a7->a8->a9->dz->fU->Prop):a1×a2×a3×a4×a5×a6×a7×a8×a9×dz×fU×Unit:=@nP _ i λp=>¬ P (q1 p) (q2 p) (q3 p) (q4 p) (q5 p) (q6 p) (q7 p) (q8 p) (q9 p) (q10 p) (q11 p)
@[elab_as_elim] theorem al11 {a1 a2 a3 a4 a5 a6 a7 a8 a9 dz fU:Type} [i:Nonempty (a1×a2×a3×a4×a5×a6×a7×a8×a9×dz×fU×Unit)] {P:a1->a2->a3->a4->a5->a6->a7->a8->a9->dz->fU->Prop} (x1:a1) (x2:a2) (x3:a3) (x4:a4) (x5:a5) (x6:a6) (x7:a7) (x8:a8) (x9:a9) (oA:dz) (sX:fU) (h:P (q1 (pk11 i P)) (q2 (pk11 i P)) (q3 (pk11 i P)) (q4 (pk11 i P)) (q5 (pk11 i P)) (q6 (pk11 i P)) (q7 (pk11 i P)) (q8 (pk11 i P)) (q9 (pk11 i P)) (q10 (pk11 i P)) (q11 (pk11 i P))):P x1 x2 x3 x4 x5 x6 x7 x8 x9 oA sX:=nI λhn=>nM (p:=λp:a1×a2×a3×a4×a5×a6×a7×a8×a9×dz×fU×Unit=>¬ P (q1 p) (q2 p) (q3 p) (q4 p) (q5 p) (q6 p) (q7 p) (q8 p) (q9 p) (q10 p) (q11 p)) ⟨(x1,x2,x3,x4,x5,x6,x7,x8,x9,oA,sX,()),hn⟩ h
noncomputable def pk12 {a1 a2 a3 a4 a5 a6 a7 a8 a9 dz fU mC:Type} (i:Nonempty (a1×a2×a3×a4×a5×a6×a7×a8×a9×dz×fU×mC×Unit)) (P:a1->a2->a3->a4->a5->a6->a7->a8->a9->dz->fU->mC->Prop):a1×a2×a3×a4×a5×a6×a7×a8×a9×dz×fU×mC×Unit:=@nP _ i λp=>¬ P (q1 p) (q2 p) (q3 p) (q4 p) (q5 p) (q6 p) (q7 p) (q8 p) (q9 p) (q10 p) (q11 p) (q12 p)
@[elab_as_elim] theorem al12 {a1 a2 a3 a4 a5 a6 a7 a8 a9 dz fU mC:Type} [i:Nonempty (a1×a2×a3×a4×a5×a6×a7×a8×a9×dz×fU×mC×Unit)] {P:a1->a2->a3->a4->a5->a6->a7->a8->a9->dz->fU->mC->Prop} (x1:a1) (x2:a2) (x3:a3) (x4:a4) (x5:a5) (x6:a6) (x7:a7) (x8:a8) (x9:a9) (oA:dz) (sX:fU) (RQ:mC) (h:P (q1 (pk12 i P)) (q2 (pk12 i P)) (q3 (pk12 i P)) (q4 (pk12 i P)) (q5 (pk12 i P)) (q6 (pk12 i P)) (q7 (pk12 i P)) (q8 (pk12 i P)) (q9 (pk12 i P)) (q10 (pk12 i P)) (q11 (pk12 i P)) (q12 (pk12 i P))):P x1 x2 x3 x4 x5 x6 x7 x8 x9 oA sX RQ:=nI λhn=>nM (p:=λp:a1×a2×a3×a4×a5×a6×a7×a8×a9×dz×fU×mC×Unit=>¬ P (q1 p) (q2 p) (q3 p) (q4 p) (q5 p) (q6 p) (q7 p) (q8 p) (q9 p) (q10 p) (q11 p) (q12 p)) ⟨(x1,x2,x3,x4,x5,x6,x7,x8,x9,oA,sX,RQ,()),hn⟩ h
theorem PN {a:Nat}:-(-(↑a:Int) - 1) - 1=(↑a:Int):=by rw[Int.neg_sub,Int.sub_neg,ML,Vm]
theorem PO {a b:Nat}:min a b+(b - a+1)=b+1:=(MM a b).elim (λh=>by rw[rO h,<-oZ,Nat.add_sub_cancel' h]) λh=>by rw[yK h,Nat.sub_eq_zero_of_le h]
theorem PR {a b c d:Nat}:4*a+b=4*c+d->b<=3->d<=3->a=c/\b=d:=λh hb hd=>have q {x y:Nat} (k:y<=3):(4*x+y) / 4=x/\(4*x+y) % 4=y:=⟨by rw[Mm (by decide),VM (BZ k)];rfl,by rw[V1,Nat.mod_eq_of_lt (BZ k)]⟩;⟨(q hb).1.symm.trans ((congrArg (·/ 4) h).trans (q hd).1),(q hb).2.symm.trans ((congrArg (·% 4) h).trans (q hd).2)⟩
theorem Pf {a:Nat}:a < 7->a=0\/a=1\/a=2\/a=3\/a=4\/a=5\/a=6:=λh=>(E0.mp h).elim (λh=>(E0.mp h).elim (λh=>(uK h).imp id (HP id (HP id (HP id .inl)))) (λe=>.inr (.inr (.inr (.inr (.inr (.inl e))))))) (λe=>.inr (.inr (.inr (.inr (.inr (.inr e))))))
theorem om1 {a b:Nat}:a+16*(b+1) < 9000->a+3+16*b < 9000:=gW (by rw[yT,oZ,qC 3];exact nN (nN (by decide) _) _)
theorem om2 {a b:Nat}:a+4*(b+1) < 900->a+1+4*b < 900:=gW (by rw[yT,oZ,qC 1];exact nN (nN (by decide) _) _)
theorem om3 {a b:Nat}:a+16*(b+1) < 9000->a+1+16*b < 9000:=gW (by rw[yT,oZ,qC 1];exact nN (nN (by decide) _) _)
theorem om4 {a b:Nat}:a+4*(b+1) < 900->a+4*b < 900:=gW (nN (vU 4 (XG b)) a)
theorem om5 {a:Nat}:(↑a:Int) - (↑a:Int)<=0:=Int.le_of_eq (Xb _)
theorem om6 {a:Nat}:(↑(a+1):Int)=(↑a:Int)+1:=rfl
theorem om7 {a b:Nat}:(↑a:Int) - (↑(b+1):Int)=(↑a:Int) - (↑b:Int) - 1:=(Cp (a:Int) (b:Int) 1).symm
theorem om8 {a b:Nat}:a < b->0 < (↑b:Int) - (↑a:Int):=λh=>Int.sub_pos_of_lt (yS.mpr h)
theorem om9 {a b c:Nat}:a<=2 ^ 20->b<=a->c<=b->c<=16777216:=λh h1 h2=>aO h2 (aO h1 (aO h (by decide)))
theorem ahV:0<=16777216:=bk _
theorem adN {a:Nat}:a < 2 ^ 40->(↑a:Int) < 2 ^ 62:=λh=>BX (yS.mpr h) (by decide)
theorem adO {a:Nat}:-2 ^ 62<=(↑a:Int):=Xc (by decide:(-2 ^ 62:Int)<=0) (oS a)
theorem adP:∀ (k:Nat),(-(-(↑k:Int) - 1) - 1).toNat=k:=λk=>by rw[PN];rfl
theorem PT {a:Nat}:¬0<=-(↑a:Int) - 1:=λh=>Int.not_le.mpr (BX (Int.sub_lt_self (-(a:Int)) (by decide)) (Int.neg_nonpos_of_nonneg (oS a))) h
theorem adQ {a:Nat}:a<=1000000->(↑a:Int)<=1000000:=λh=>wg.mpr h
theorem PU {a:Nat}:-2 ^ 63<=(↑a:Int):=Xc (by decide:(-2 ^ 63:Int)<=0) (oS a)
theorem adR {a:Nat}:(-1+(↑(a+1):Int)).toNat=a:=by rw[show ((a+1:Nat):Int)=1+a from ML (a:Int) 1,Int.neg_add_cancel_left];rfl
theorem adS:-2 ^ 63<=-1:=by decide
theorem adT {a:Nat}:-(↑(a+1):Int)<=-1:=Int.neg_le_neg (wg.mpr (oW (bk a)))
theorem adU:-1 < 0:=by decide
theorem adV {a:Nat}:¬(↑63:Int) < (↑a:Int)->a<=63:=λh=>wg.mp (Cv.mp h)
theorem adW {a b:Int}:a<=b->b<=a->a=b:=Int.le_antisymm
theorem adX {a b:Int}:a<=b\/b<=a:=Int.le_total a b
theorem adY {a:Nat} {b:Int}:(↑a:Int)=b->¬b < 0:=λh=>h▸Cv.mpr (oS a)
theorem adZ {a b:Nat}:a < 2 ^ 20->b=a->b<=16777216:=λh e=>e▸aO (fy h) (by decide)
theorem ad0 {a b:Int}:¬a > b->max b a=b:=λh=>V2 (Cv.mp h)
theorem ad1 {a b:Int}:a > b->max b a=a:=λh=>Mf (MN h)
theorem ad5 {a:Nat} {b:Int}:(↑a:Int)=b->b.toNat=a:=λh=>h▸rfl
theorem ad6 {a:Nat}:a<=2 ^ 20->(↑a:Int) < 9223372036854775808:=λh=>Int.lt_of_le_of_lt (wg.mpr h) (by decide)
theorem ad8 {a b:Nat}:max 0 (min (↑a:Int) (↑b:Int))=(↑(min a b):Int):=(MM a b).elim (λh=>by rw[rO h,Int.min_eq_left (wg.mpr h)];exact Mf (oS a)) (λh=>by rw[yK h,Int.min_eq_right (wg.mpr h)];exact Mf (oS b))
theorem ahW {a b c:Nat}:a=b->c < b->c < a:=λe h=>e.symm▸h
theorem ad9 {a b:Nat}:a < 2 ^ 40->b < a->(↑b:Int) < 2 ^ 63 - 1:=λh h1=>BX (yS.mpr (FY h1 h)) (by decide)
theorem aea {a b:Nat}:a<=b\/b<=a:=MM a b
theorem Ip {a b:Nat}:a<=8->b < a->b<=1000:=λh h1=>aO (fy (eZ h1 h)) (by decide)
theorem aeb {a b c:Nat}:a+b=c->a+(b+1)=c+1:=congrArg Nat.succ
theorem PV {a b:Nat}:a < 0+b->a < b:=λh=>fG b▸h
theorem aec {a:Nat}:(↑a:Int) - 1 - (↑a:Int)=-1:=by rw[Cp,ML,<-Cp,Xb];rfl
theorem ahX:0+1+1<=16777216+2:=by decide
theorem aed {a b:Nat}:a - (b+1)=a - 1 - b:=by rw[qC,MW]
theorem aee {a:Nat}:-1≠(↑a:Int):=λh=>absurd (show (0:Int)<=-1 from h.symm▸oS a) (by decide)
theorem ahY:0+1+1+1+1<=16777216+2:=by decide
theorem PW {a b:Nat}:a < 0+b->¬a=b:=λh=>gq (fG b▸h)
theorem aef {a b c d e f:Nat}:a<=100->b<=8*c->d<=e->e<=f->f<=8->c < a->b+d<=2000:=λh1 h2 h3 h4 h5 h6=>aO (fc (aO h2 (vU 8 (aO (fy h6) h1))) (aO h3 (aO h4 h5))) (by decide)
theorem aeg {a b:Nat}:a<=8*b->b<=100->a<=800:=λh1 h2=>aO h1 (vU 8 h2)
theorem aeh {a b c d:Nat}:a<=8*b->c<=d->d<=8->a+c<=8*(b+1):=λh1 h2 h3=>yT 8 b▸fc h1 (aO h2 h3)
theorem aei {a b:Nat}:a - 1<=b->¬b=a - 1->a<=b:=λh n=>Vw (tY h λe=>n e.symm)
theorem aej {a b:Nat}:a - 1 < b->a<=b:=Vw
theorem aek {a:Nat}:max ((↑a:Int) - 1) 0=(↑(a - 1):Int):=by cases a with
 | zero=>rfl
 | succ n=>rw[show ((n+1:Nat):Int) - 1=n from Vm (n:Int) 1,tZ];exact V2 (oS n)
theorem ael {a b:Nat}:a<=40*b->b<=100->a<=4000:=λh1 h2=>aO h1 (vU 40 h2)
theorem aem {a b c:Nat}:a<=40*b->c<=40->a+c<=40*(b+1):=λh1 h2=>yT 40 b▸fc h1 h2
theorem Iq {a b:Nat}:a=b->a<=800->b < 2 ^ 40:=λe h=>e▸gW h (by decide)
theorem aen {a b c:Nat}:a=b\/a=c+b->a < c->a=b:=λh l=>h.elim id λe=>absurd (e▸l) (jF.mpr (oV c b))
theorem aeo {a b:Nat}:a=b->a<=800->b < 2 ^ 20:=λe h=>e▸gW h (by decide)
theorem aep {a b c:Nat}:¬a < b+b->¬c < b+b->a - (b+b)=c - (b+b)->a=c:=λh1 h2 e=>(yE (jF.mp h1)).symm.trans ((congrArg (·+ (b+b)) e).trans (yE (jF.mp h2)))
theorem PX {a b c:Nat}:a<=40->b<=4000->c<=a->b+c<=5000:=λh1 h2 h3=>aO (fc h2 (aO h3 h1)) (by decide)
theorem aeq {a b c:Nat}:a<=100->b < a->c<=40*b->c<=4000:=λh1 h2 h3=>aO h3 (vU 40 (aO (fy h2) h1))
theorem aer {a b c:Nat}:a < b->c<=40*a->b<=100->c<=4000:=λh1 h2 h3=>aO h2 (vU 40 (aO (fy h1) h3))
theorem aes {a b c:Nat}:a<=20->b<=20->c<=b->a+c < 2 ^ 20:=λh1 h2 h3=>gW (fc h1 (aO h3 h2)) (by decide)
theorem aet {a b:Nat}:a<=3->b<=(a+1)*20->b+(a+1)*1<=2 ^ 20:=λh1 h2=>aO (fc (aO h2 (gE 20 (oW h1))) (gE 1 (oW h1))) (by decide)
theorem aeu {a b c d:Nat}:a<=8->b<=2000->c<=a->d<=c*20+c*2->b+3+d+1<=2 ^ 20:=λh1 h2 h3 h4=>have h5:=aO h3 h1;aO (oW (fc (rJ h2 3) (aO h4 (fc (gE 20 h5) (gE 2 h5))))) (by decide)
theorem aev {a b c d:Nat}:a<=8->b<=2000->c<=a->d<=c*20+c*2->b+3+d<=2 ^ 20:=λh1 h2 h3 h4=>have h5:=aO h3 h1;aO (fc (rJ h2 3) (aO h4 (fc (gE 20 h5) (gE 2 h5)))) (by decide)
theorem aew {a b c:Nat}:a<=8->b<=a->c<=b*20->c+b*2<=2 ^ 20:=λh1 h2 h3=>have h5:=aO h2 h1;aO (fc (aO h3 (gE 20 h5)) (gE 2 h5)) (by decide)
theorem aex {a:Nat}:a<=2000->a+3<=2 ^ 20:=λh=>aO (rJ h 3) (by decide)
theorem aey {a b:Nat}:a<=20->b<=1000->a+1+b<=2000:=λh1 h2=>aO (fc (oW h1) h2) (by decide)
theorem aez {a b:Nat}:a<=20->b<=1000->a+1+b<=2 ^ 20:=λh1 h2=>aO (fc (oW h1) h2) (by decide)
theorem aeA {a b:Nat}:a<=5->b < a->(↑b:Int).natAbs < 2 ^ 64:=λh1 h2=>eZ h2 (aO h1 (by decide))
theorem aeB {a:Nat}:(↑a:Int).natAbs=a:=rfl
theorem aeC {a b c:Nat}:a<=3->b<=(a+1)*20+(a+1)*1->c<=20->c+3+b<=1000:=λh1 h2 h3=>aO (fc (rJ h3 3) (aO h2 (fc (gE 20 (oW h1)) (gE 1 (oW h1))))) (by decide)
theorem aeD {a:Nat}:a<=2->3+a<=5:=λh=>nN h 3
theorem PZ {a:Nat}:1<=a->(↑a:Int)≠0:=λh e=>Gm.mpr Mn ((show a=0 from FN e)▸h)
theorem aeE {a:Nat}:1<=a->a<=6->a=1\/a=2\/a=3\/a=4\/a=5\/a=6:=λh1 h2=>(Pf (BZ h2)).elim (λe=>absurd (e▸h1) (by decide)) id
theorem aeF {a:Nat}:a < 2 ^ 20->(↑a:Int) < 2 ^ 64:=λh=>BX (yS.mpr h) (by decide)
theorem aeG {a:Nat}:-2 ^ 64 < (↑a:Int):=BX (by decide:(-2 ^ 64:Int) < 0) (oS a)
theorem aeH {a b c:Nat}:a+b<=900->c < b->a+c<=1000:=λh1 h2=>aO (nN (fy h2) a) (aO h1 (by decide))
theorem aeI {a:Nat}:1+(↑a:Int)=(↑(1+a):Int):=rfl
theorem aeJ {a b:Nat}:a < b->a<=(a+b) / 2/\(a+b) / 2 < b:=λh=>⟨(Nat.le_div_iff_mul_le (by decide)).mpr (Nat.mul_two a▸nN (fy h) a),Nat.div_lt_of_lt_mul (Nat.two_mul b▸U0 h b)⟩
theorem aeK {a b c:Nat}:a<=b/\b < c->a<=a+c - 1 - b/\a+c - 1 - b < c:=λh=>by obtain ⟨d,rfl⟩:=Nat.exists_eq_add_of_lt h.2;rw[show a+(b+d+1) - 1 - b=a+d from by rw[<-oZ a (b+d) 1,tZ,Nat.add_left_comm,vO]];exact ⟨oV _ _,BZ (rJ h.1 d)⟩
theorem P0 {a b:Nat}:¬a=b->¬(↑a:Int)=(↑b:Int):=λh e=>h (FN e)
theorem aeL {a b c d:Nat}:a<=4->b<=c+a->c<=4*d->b<=4*(d+1):=λh1 h2 h3=>yT 4 d▸aO h2 (fc h3 h1)
theorem aeM {a b c:Nat}:a<=5->b<=1000->c<=a*20+a*2->b+3+c+1<=2 ^ 20:=λh1 h2 h4=>aO (oW (fc (rJ h2 3) (aO h4 (fc (gE 20 h1) (gE 2 h1))))) (by decide)
theorem aeN {a b c:Nat}:a<=5->b<=1000->c<=a*20+a*2->b+3+c<=2 ^ 20:=λh1 h2 h4=>aO (fc (rJ h2 3) (aO h4 (fc (gE 20 h1) (gE 2 h1)))) (by decide)
theorem aeO {a b:Nat}:a<=5->b<=a*20->b+a*2<=2 ^ 20:=λh1 h3=>aO (fc (aO h3 (gE 20 h1)) (gE 2 h1)) (by decide)
theorem aeP {a:Nat}:a<=1000->a+3<=2 ^ 20:=λh=>aO (rJ h 3) (by decide)
theorem aeQ {a b:Nat}:a<=5->b < a->b<=1000:=λh h1=>aO (fy (eZ h1 h)) (by decide)
theorem aeR {a b:Nat}:a<=20->b<=25->a+b < 2 ^ 20:=λh1 h2=>gW (fc h1 h2) (by decide)
theorem aeS {a b c:Nat}:a<=20->b<=5->c<=a+b->c<=25:=λh1 h2 h3=>aO h3 (fc h1 h2)
theorem aeT {a b:Nat}:a<=20->b<=5->a+b<=2 ^ 20:=λh1 h2=>aO (fc h1 h2) (by decide)
theorem aeU {a b:Nat}:a<=b*20+b*1->b<=10->a<=1000:=λh1 h2=>aO h1 (aO (fc (gE 20 h2) (gE 1 h2)) (by decide))
theorem aeV {a b:Nat}:a<=3->min b a+(a - b+1)<=7:=λh=>by rw[PO];exact aO (oW h) (by decide)
theorem aeW {a:Nat}:0 < a->(↑a:Int)≠0:=λh e=>Gm.mpr Mn ((show a=0 from FN e)▸h)
theorem aeX {a b:Nat}:4*a+b=0+4*a+b:=by rw[fG]
theorem aeY {a b c:Nat}:a=b+3->c < a->c≠b->¬c < b->c=b+1\/c=b+2:=λe h n l=>(LX (oU (show c < b+2+1 from e▸h))).elim (λh=>.inl (yL (oU h) (tY (jF.mp l) λe=>n e.symm))) .inr
theorem aeZ {a b:Nat}:0+4*a+b=4*a+b:=by rw[fG]
theorem ae0 {a b c d:Nat}:4*a+b=4*c+d->b<=3->d<=3->a=c:=λh hb hd=>(PR h hb hd).1
theorem acS {a b:Nat}:0=4*a+b->b=0:=λh=>Nat.eq_zero_of_add_eq_zero_left h.symm
theorem acT {a b:Nat}:0=4*a+b->a=0:=λh=>(Nat.mul_eq_zero.mp (Nat.eq_zero_of_add_eq_zero_right h.symm)).resolve_left (by decide)
theorem acU {a b c d:Nat}:a<=b->b<=c->c<=d->d<=2->b=a\/c=b\/d=c:=λh1 h2 h3 h4=>(LY h1).elim (λe=>.inl e.symm) λg1=>(LY h2).elim (λe=>.inr (.inl e.symm)) λg2=>(LY h3).elim (λe=>.inr (.inr e.symm)) λg3=>absurd h4 (Gm.mpr (gW (gW (gW (bk a) g1) g2) g3))
theorem Pg {a b:Nat}:a=b+1\/a=b+2->¬a < b:=λh l=>h.elim (λe=>absurd (e▸l) (jF.mpr (oV b 1))) λe=>absurd (e▸l) (jF.mpr (oV b 2))
theorem acV {a b:Nat}:(↑a:Int)+(↑b:Int)=(↑(a+b):Int):=rfl
theorem acW {a b:Nat}:a=b↔a+1=b+1:=⟨congrArg Nat.succ,Xd⟩
theorem acX {a b:Nat}:(2 ^ a*2+b) / 2=2 ^ a+b / 2:=by rw[Xe,Mm (by decide)]
theorem acY {a b:Nat}:(2 ^ a*2+b) % 2=b % 2:=by rw[Xe,V1]
theorem acZ {a:Nat}:a % 2=0->(2 ^ 0+a) / 2=a / 2:=λh=>by have e:=Nat.div_add_mod a 2;rw[h] at e;rw[show 2 ^ 0+a=2*(a / 2)+1 from by rw[qC];exact congrArg (·+ 1) e.symm,Mm (by decide)];rfl
theorem ac0 {a:Nat}:a % 2=0->(1+a) % 2=1:=λh=>by rw[Nat.add_mod,h]
theorem ac1 {a:Nat}:¬a % 2=1->a % 2=0:=(Nat.mod_two_eq_zero_or_one a).resolve_right
theorem ac2 {a b c d e f:Nat}:a < 64->b<=a->c<=20->d=b+e->e<=min f c->d<=100:=λh1 h2 h3 e h4=>e▸aO (fc (fy (gW h2 h1)) (aO h4 (aO (yJ _ _) h3))) (by decide)
theorem ac3 {a:Nat}:a<=4->1+a < 1048576:=λh=>gW (nN h 1) (by decide)
def sxt:=("ènot_l\nç_succÒl\næ }r×Pat.âeÉt.\nåÑ!$×Å×<Û6ÏÅ; }\näÈ (strÅ\"\nã}elimTarget<Ï '\nâon\náÀnÎ6[Í\nà<-)6~h\nß=(Lean.Parser.Term.\nÞ<ÖfZ.store0)6%Ð`<Ç6Ï\nÝ<~h\nÜ@eÅ⟨<Á\nÛ%holeÅ_\nÚgeneraliz\nÙ}Conv.\nØ=}ÃÆ$assumptionÅassumptionÏ[\n×intro\nÖ%app '\nÕexactÅexact\nÔ (groupÅ|\nÓtacticRflÅrfl\nÒ_of_\nÑ=}parenÅ(\nÐbyTacticÅby\nÏ )\nÎ666\nÍNat.l\nÌ0)6-Äa\nË]l_rfl66Å) )\nÊ<V&e!8ah\nÉ }rcasesPa\nÈ`< (PyProof.Rows.tacticWalk_at_Åwalk_at\nÇ (tacticKernel_rflÅkernel_rfl66\nÆ!$withReducibleÅwith_reducible!\nÅ \"\nÄ)66 )[\nÃfirst \"first< (group \"|\nÂ<V6666 \"; (Lea8\nÁ/t.ignore \"_6 )<6 \",\nÀ0)6%byTactic \"by!$assumption \"assumptio\n~-)6V66&e!8a\n}(Lea$\n{t.one 'hr6 )<6 ) \"⟩66< )< \":=<%app '\n` (Lea$tacticSeq (Lea$tacticSeq1Indented\n^%byTactic \"by!$decide \"decide (Lea$optConfig< (Lea$configItem (Lea$posConfigItem \"+ 'kernel6666 ) \",\n]< 'hl66 ) \"; (Lea$subst \"subst< 'hr6 \"; (tacticKernel_rfl \"kerne\n[&e!$exact \"exact%app '\nV%syntheticHole \"? \"_\n@=(Lea$paren \"(!$intro \"intro< 'r%hole \"_ )%hole \"_ )%hole \"_ )%hole \"_ )%hole \"_ )%hole \"_ ) 'hl6 \"; (Lea$obtain \"obtain< (Lea$rcasesPatMed< (Lea$rcasesPat.tupl\n< (null\n8$refine \"refine%app '\n6 ) )\n0 (null%byTactic \"by!$assumption \"assumption ) ) \n/ (Lea$rcasesPatLo (Lea$rcasesPatMed (null (Lea$rcasesPat.ignore \"_ ) ) ) (null ) ) \", (Lea$rcasesPatLo (Lea$rcasesPatMed (null (Lea$rcasesPa\n-%byTactic \"by!$withUnfoldingAll \"with_unfolding_all!$tacticRfl \"rfl ) ) ) ) ) ) \n& ) ) ) ) ) ) ) ) (group \"|!$withReducible \"with_reducibl\n% (Lean.Parser.Term.\n$n.Parser.Tactic.\n! (Lean.Parser.Tactic.tacticSeq (Lean.Parser.Tactic.tacticSeq1Indented (null (Lea".splitOn "\n").foldl (fun s r=>s.replace (r.take 1).toString (r.drop 1).toString) "nmÑÆ8ahJÂux<%Ð!$Ó66ÏVÎÏÅ)Ï\nsub=}ÕÖSub.cap<-)66Ï\nbody=ÙcâvÅcâv<Ï<ÏÅ=> ÙcâvSeq ÙcâvSeq1Indented< ÙargÅarg ÙargArg<Ï<Ï (numÅ46ÏÅ; ÙwhnfÅwhnf66Ï\nset=}Ã!8ahd<-)6-)6VÎ6Ô!8YJ<VÎ66\nbd1@eÅ⟨</{DlË\nbd2ÜÉtLoÉtMed<É{DmË\nbd3Ü/{P9Ë\nbd4ÜÁÉtLoÉtMed<É{uQË\nbd5ÜÁ/{QaË\nbd7ÜÁÁ/{ae9Ë\nswcÑ!$r×År×<ætupleÅ⟨<ÏÅ⟩6æâe 'h6Ï<6Å; }casesÅcases< ãh6<Ï<6Å;ÇÅ)Ï\ncok=}Õ%anâymousCtorÅ⟨<^^^^%Ð!$ÓÎÅ⟩6\ns=}tacticRepeat_Årepeat!$ÃÆ8gJ<~cu<~dhÝjÝiÂdIÊeàfÝgÝrÂCCÊtàuÝvÝSÂHxÊzàAÝBÝTÂuCÊwàxÝyÝKÂcHÊLÂHyÊsÂNFÊIÂguÊCÝRÂacfÊcÞ~hhÂfNÞVÎÎ6\noØÍe_antisymm0)6ÖÍeÒèt0)ÎÏ[ÍeÒlt0ÄÍeÒèt0ÄÍtÒèe0ÄNat.ètÒle0ÄahPátçt0ÄÍeçe0ÄÍtçe0ÄÍeÒsucc_le0ÄÍeÒlt_succ0Äaho0Äahp0ÄahQ0ÄÍtÒltÒleátÒleÒltáe_transát_transÀnÎÎÎ\npØahm0)6-ÄZrÌhMÌhEÌhFÌhnÌcQÌcRÌb3ÌhDÌhNÌhOÌhGÌhH0)6-)ÎÎ6Ï\nom=}Ãäp\"ÎÔäo\"ÎÔ!$liaÅlia }optCâfig<Î6Ï\nn=}Ãäo\"ÎÔ!$omegaÅomega }optCâfig< }câfigItem }posCâfigItemÅ+ 'splitNatSubÎ66Ï\npl=}Ã!$Õ 'ahb66ÏÔ!$ÕÖXJ<%funÅfun%basicFun<Û6<ÏÅ=> 'rflÎ66Ï\niråÓ66Å)Ï\niuåwithUnfoldingAllÅwith_unfolding_all!$ÓÎ6Å)Ï\nclÑ!$inductiâÅinductiâ< #aÏ<Åusing 'M174.al#nÏ #g<6Å; }ÚeÅÚe< #bÏ< }locatiâÅat }locatiâWildcardÅ*ÎÏÅ)Ï\nca=ã#xÏ\ncb=}ÚeArg<ÏÖM174.q#i<ÖM174.pk#n<ÛÏÛ66ÏÅ= '#xÏ\ncg=(nullÅÚing< #x6\nkrßÐ`<ÇÏ\nhqßsyntheticHoleÅ?Å_Ï\ncsÑ`< #aÅ; #b6ÏÅ)Ï"
def sxg (k:String):String:=((sxt.splitOn "\n").filterMap fun r=>(r.dropPrefix? (k++"=")).map (·.toString)).head!
def sxp (st:List (Lean.Name×Array Lean.Syntax)) (x:Lean.Syntax):=match st with|(k,a)::r=>(k,a.push x)::r|[]=>[]
def sxr (s:String):Lean.Syntax:=(((s.splitOn " ").foldl (fun st t=>let n:=(t.drop 1).toString
 if t.startsWith "(" then (if n="null" then `null else n.toName,#[])::st else if t.startsWith ")" then match st with|(k,a)::r=>sxp r (.node .none k a)|[]=>[] else sxp st (if t.startsWith "'" then Lean.mkIdent n.toName else .atom .none n)) [(`null,#[])]).head!).2[0]!
def sxj (s t:String) (f:String→String) (xs:List String):String:=t.intercalate (xs.map fun x=>(f (sxg s)).replace "#x" x)
def sxc:Nat→List String→String
|0,_=>""
|f+1,xs=>
 let ys:=xs.take 12
 let zs:=xs.drop 12
 let n:=toString ys.length
 let b:=" \", ".intercalate ((List.range ys.length).map fun i=>(((sxg "cb").replace "#i" (toString (i+1))).replace "#n" n).replace "#x" ys[i]!)
 let t:=((((sxg "cl").replace "#a" (sxj "ca" " \", " id ys)).replace "#b" b).replace "#n" n).replace "#g" (if zs.isEmpty then "(null )" else (sxg "cg").replace "#x" (" ".intercalate (zs.map fun z=>"'"++z)))
 if zs.isEmpty then t else ((sxg "cs").replace "#a" t).replace "#b" (sxc f zs)
def sxa:Nat→Lean.Syntax→List Lean.Syntax
|0,s=>[s]
|n+1,s=>if s.isOfKind `«term_∧_» then s[0]::sxa n s[2] else [s]
def sxm (f:String) (l:List Lean.Syntax):Lean.Syntax:=.node .none ``Lean.Parser.Term.app #[Lean.mkIdent f.toName,.node .none `null l.toArray]
def sxM (x:Lean.Syntax):Lean.MacroM Lean.Syntax:=do
 let no:Lean.MacroM Lean.Syntax:=throw .unsupportedSyntax
 let k:=x.getKind
 if k=``PyProof.Rows.tacticWalk_at_ then return sxr (sxg (x[1].isStrLit?.getD ""))
 if k=``PySem.W.tacticLk then return sxr (sxg "s")
 if k=``PySem.W.tacticK_in then return sxr (sxg "sub")
 if k=``PySem.W.tacticK_is then return sxr (sxg "body")
 if k=``Lean.Parser.Term.omission then return sxr (sxg "kr")
 if k=``Lean.Parser.Tactic.show then
  let t:=x[1]
  let a:=t.isOfKind ``Lean.Parser.Term.app
  return .node .none ``Lean.Parser.Tactic.refine #[.atom .none "refine",.node .none ``Lean.Parser.Term.app #[if a then t[0] else t,.node .none `null ((if a then t[1].getArgs else #[]).push (sxr (sxg "hq")))]]
 if k=``Lean.Elab.Tactic.Ext.ext then return sxr (sxc 9 (x[1].getArgs.toList.map fun i=>i[0][0].getId.toString))
 if k=``Lean.Parser.Tactic.omega then return ←if x[1][0].getNumArgs>0 then no else pure <| sxr (sxg "om")
 if k=``Lean.Parser.Tactic.clearValue then return sxr (sxc 9 (x[1].getArgs.toList.map fun i=>i[0].getId.toString))
 if k=`«term_∧_» then
  let l:=sxa 9 x
  return ←if l.length<3 then no else pure <|sxm ("A"++toString l.length) l
 let u:=x[1][0]
 if !u.isOfKind ``Lean.unbracketedExplicitBinders then return ←no
 let w:=u[0].getNumArgs
 let n:=(sxa 20 x[3]).length
 let t:=u[1].getNumArgs>0
 match ((if t then [13,14,15,16,22,24,46] else [13,14,15,16,22,23,24,25,26,27,28,32,33,34,35,44,45,46,47,57,81]).filter fun c=>c/10==w&&c%10≤n||c==81&&w==7&&11≤n).getLast? with
 |none=>no
 |some c=>
  let k:=if c==81 then 11 else c%10
  return sxm ("X"++toString w++toString k) ((sxa (k-1) x[3]).map fun a=>.node .none ``Lean.Parser.Term.fun #[.atom .none "fun",.node .none ``Lean.Parser.Term.basicFun #[.node .none `null (u[0].getArgs.map (·[0])),.node .none `null (if t then #[.node .none ``Lean.Parser.Term.typeSpec #[.atom .none ":",u[1][1]]] else #[]),.atom .none "=>",a]])
end
local macro_rules (kind:=PyProof.Rows.tacticWalk_at_) |x=>sxM x
local macro_rules (kind:=Lean.Parser.Tactic.omega) |x=>sxM x
local macro_rules (kind:=PySem.W.tacticLk) |x=>sxM x
local macro_rules (kind:=PySem.W.tacticK_in) |x=>sxM x
local macro_rules (kind:=PySem.W.tacticK_is) |x=>sxM x
local macro_rules (kind:=Lean.Parser.Term.omission) |x=>sxM x
local macro_rules (kind:=Lean.Parser.Tactic.show) |x=>sxM x
local macro_rules (kind:=Lean.Elab.Tactic.Ext.ext) |x=>sxM x
local macro_rules (kind:=Lean.Parser.Tactic.clearValue) |x=>sxM x
local macro_rules (kind:=«term_∧_») |x=>sxM x
local macro_rules (kind:=«term∃_,_») |x=>sxM x
section
inductive V where
 | none | bool (b:Bool) | int (i:Int) | str (x:Str) | ref (a:Addr)
noncomputable def er:Value->Option V
 | .none=>some .none
 | .bool b=>some (.bool b)
 | .int i _=>some (.int i)
 | .str x _=>some (.str x)
 | .ref a=>some (.ref a)
 | _=>Option.none
noncomputable def erI (v:V) (t:Tok):Value:=match v with
 | .none=>.none | .bool b=>.bool b | .int i=>.int i t | .str x=>.str x t | .ref a=>.ref a
theorem P1:er (.int i t)=some (.int i):=rfl
theorem zX (h:er r=some v):∃ t,r=erI v t:=by cases r<;>cases h<;>first | exact ⟨_,rfl⟩ | exact ⟨default,rfl⟩
theorem bS (h:er r=some (.int i)):∃ t,r=.int i t:=zX h
theorem fX (h:er r=some (.str x)):∃ t,r=.str x t:=zX h
theorem wI (h:er r=some (.bool b)):r=.bool b:=(zX h).elim λ_ e=>e
theorem zN (h:er r=some .none):r=.none:=(zX h).elim λ_ e=>e
theorem bD (h:er r=some (.ref a)):r=.ref a:=(zX h).elim λ_ e=>e
noncomputable def aD (rs:List Value) (vs:List V):Prop:=rs.map er=vs.map some
theorem aD.nil:aD [] []:=rfl
theorem aD.cons (h:er r=some v) (hs:aD rs vs):aD (r::rs) (v::vs):=by change er r::rs.map er=some v::vs.map some;rw[h,hs]
theorem aD.length (h:aD rs vs):rs.length=vs.length:=by have:=congrArg ji h;simpa using this
theorem aD.append (h:aD rs vs) (h':aD rs' vs'):aD (rs++rs') (vs++vs'):=by change (rs++rs').map er=(vs++vs').map some;rw[aV,aV,h,h']
theorem aD.get {rs:List Value} {vs:List V} (h:aD rs vs) {i:Nat} {v:V} (hv:vs[i]? = some v):∃ r,rs[i]? = some r/\er r=some v:=by
 have h1:(rs.map er)[i]? = (vs.map some)[i]?:=by rw[h]
 rw[bH,bH,hv] at h1;cases hr:rs[i]? with
 | none=>rw[hr] at h1;cases h1
 | some r=>rw[hr] at h1;exact ⟨r,rfl,c8 h1⟩
theorem aD.cons_inv (h:aD rs (v::vs)):∃ r rs',rs=r::rs'/\er r=some v/\aD rs' vs:=by
 cases rs with
 | nil=>cases h
 | cons r rs'=>
  have h':er r::rs'.map er=some v::vs.map some:=h;obtain ⟨h1,h2⟩:=qA h';exact ⟨r,rs',rfl,h1,h2⟩
theorem aD.nil_inv (h:aD rs []):rs=[]:=by
 cases rs with
 | nil=>rfl
 | cons r rs'=>cases h
theorem aD.take (h:aD rs vs) (n:Nat):aD (rs.take n) (vs.take n):=by change (rs.take n).map er=(vs.take n).map some;rw[Cf,Cf,h]
theorem aD.drop (h:aD rs vs) (n:Nat):aD (rs.drop n) (vs.drop n):=by change (rs.drop n).map er=(vs.drop n).map some;rw[FO,FO,h]
theorem aD.set (h:aD rs vs) (n:Nat) (hr:er r=some v):aD (rs.set n r) (vs.set n v):=by change (rs.set n r).map er=(vs.set n v).map some;rw[Xf,Xf,h,hr]
inductive O where
 | list (xs:List V)
 | tuple (xs:List V)
 | dj (es:List (Int×V)) (ep:Nat)
 | jZ (es:List (Str×V))
 | bE (es:List (List Int×Addr×V)) (ep:Nat)
 | inst (C:Addr) (fs:List (Str×V))
noncomputable abbrev MH:=Addr->Option O
noncomputable def MH.set (m:MH) (a:Addr) (o:O):MH:=λb=>if b=a then some o else m b
theorem MH.af (m:MH) (a:Addr) (o:O):m.set a o a=some o:=if_pos rfl
theorem MH.aC {m:MH} {a b:Addr} {o:O} (h:b≠a):m.set a o b=m b:=if_neg h
noncomputable def MH.le (m m':MH):Prop:=∀ a o,m a=some o->m' a=some o
theorem MH.le.refl (m:MH):m.le m:=λ_ _ h=>h
theorem MH.le.trans {m m' iu:MH} (h:m.le m') (h':m'.le iu):m.le iu:=λa o e=>h' a o (h a o e)
theorem MH.av {m:MH} {a:Addr} {o:O} (h:m a=none):m.le (m.set a o):=λb o' e=>by
 by_cases hb:b=a
 .subst hb;rw[h] at e;cases e
 .rw[MH.aC hb];exact e
structure Cx where
 prog:Program
 w:World
 K:Frag
 base:Heap
 b:Shared
 p:Program
 loose:List Str
 mg:Str->Option Value
 mb:Str->Option Value
instance:Nonempty V:=⟨.none⟩
instance:Nonempty O:=⟨.list []⟩
instance:Nonempty World:=⟨⟨λ_ _=>0,{ strHash:=λ_=>0,shareClass:=λ_=>0,mergeTok:=id,idOf:=λ_=>0,idOfShared:=λ_ _=>0,followText:=λ_=>false,idOfImm:=λ_=>0 }⟩⟩
instance:Nonempty Shared:=⟨{}⟩
instance:Nonempty Around:=⟨{}⟩
instance:Nonempty Cx:=(inferInstance:Nonempty World).elim λw=>⟨⟨default,w,[],default,{},default,[],λ_=>none,λ_=>none⟩⟩
noncomputable def Cx.Ok (C:Cx):Prop:=C.K.In C.base/\TopRead C.p C.loose C.mg C.mb C.base
noncomputable abbrev lo (rs:List Value) (n:Nat):Obj:={ cls:=.type "list",data:=.seq rs.toArray n }
noncomputable abbrev tu (rs:List Value) (n:Nat):Obj:={ cls:=.type "tuple",data:=.seq rs.toArray n }
noncomputable abbrev di (es:List DictEntry) (n:Nat):Obj:={ cls:=.type "dict",data:=.dict es.toArray n }
noncomputable def g8 (es:List DictEntry) (fs:List (Str×V)):Prop:=
 es.map (λe=>(er e.key,er e.val))=fs.map (λf=>(some (V.str f.1),some f.2))/\fs.length<=900
noncomputable def Rep (C:Cx) (m:MH) (h:Heap) (d:Addr->Addr) (a:Addr):O->Prop
 | .list xs=>∃ rs n,h.get? a=some (lo rs n)/\aD rs xs
 | .tuple xs=>∃ rs n,h.get? a=some (tu rs n)/\aD rs xs
 | .dj es ep=>∃ kvs:List (Int×Value),h.DictAt (intKind C.prog C.w) a kvs ep/\kvs.map (λx=>(x.1,er x.2))=es.map (λx=>(x.1,some x.2))
 | .jZ es=>∃ kvs:List (Str×Value),h.DictOf (strKind C.prog C.w) a kvs/\kvs.map (λx=>(x.1,er x.2))=es.map (λx=>(x.1,some x.2))
 | .bE es ep=>∃ bA,h.get? a=some (di bA ep)/\bA.map (λe=>(e.hash,e.key,er e.val))=es.map (λx=>(tupleKeyHash (intKind C.prog C.w) x.1,Value.ref x.2.1,some x.2.2))/\
   (es.map (·.1)).Nodup/\∀ x∈es,m x.2.1=some (.tuple (x.1.map V.int))
 | .inst c fs=>h.get? a=some (instObj c (d a))/\∃ es n,h.get? (d a)=some (di es n)/\g8 es fs
noncomputable def fp (m:MH) (d:Addr->Addr) (a:Addr):Prop:=m a≠none\/∃ i c fs,m i=some (.inst c fs)/\d i=a
structure aP (C:Cx) (P:Addr->Option Obj) (m:MH) (d:Addr->Addr) (s:Shared):Prop where
 ok:C.Ok
 same:∃ h t,s={ C.b with heap:=h,toks:=t }
 base:∀ a o,C.base.get? a=some o->P a=some o
 keep:∀ a o,P a=some o->s.heap.get? a=some o
 rep:∀ a o,m a=some o->Rep C m s.heap d a o
 off:∀ a,fp m d a->P a=none
 sep:∀ i c fs,m i=some (.inst c fs)->m (d i)=none
 inj:∀ i c fs i' c' fs',m i=some (.inst c fs)->m i'=some (.inst c' fs')->d i=d i'->i=i'
noncomputable def HS (C:Cx) (P:Addr->Option Obj) (m:MH) (s:Shared):Prop:=∃ d,aP C P m d s
theorem aP.i7 (h:aP C P m d s):C.K.In s.heap:=λa o e=>h.keep _ _ (h.base _ _ (h.ok.1 a o e))
theorem aP.top (h:aP C P m d s):TopRead C.p C.loose C.mg C.mb s.heap:=h.ok.2.keeps λa o e=>h.keep _ _ (h.base _ _ e)
theorem Yy {prog:Program} {w:World} {K:Type} [DecidableEq K] {knd:KeyKind prog w K} {h h':Heap} {a:Addr} {kvs:List (K×Value)} (x:h.DictOf knd a kvs)
  (e:∀ o,h.get? a=some o->h'.get? a=some o):h'.DictOf knd a kvs:=let ⟨o,es,ep,ho,r⟩:=x;⟨o,es,ep,e _ ho,r⟩
theorem Rep.mono {C:Cx} {m m':MH} {h h':Heap} {d d':Addr->Addr} {a:Addr} {o:O} (x:Rep C m h d a o) (e:∀ ob,h.get? a=some ob->h'.get? a=some ob)
  (ed:∀ c fs,o=.inst c fs->d' a=d a/\∀ ob,h.get? (d a)=some ob->h'.get? (d a)=some ob) (em:∀ b xs,m b=some (.tuple xs)->m' b=some (.tuple xs)):Rep C m' h' d' a o:=by
 ext C m m' h h' d d' a o;cases o with
 | list xs=>obtain ⟨rs,n,h1,h2⟩:=x;exact ⟨rs,n,e _ h1,h2⟩
 | tuple xs=>obtain ⟨rs,n,h1,h2⟩:=x;exact ⟨rs,n,e _ h1,h2⟩
 | dj es ep=>obtain ⟨kvs,h1,h2⟩:=x;exact ⟨kvs,h1.at' e,h2⟩
 | jZ es=>obtain ⟨kvs,h1,h2⟩:=x;exact ⟨kvs,Yy h1 e,h2⟩
 | bE es ep=>obtain ⟨bA,h1,h2,h3,h4⟩:=x;exact ⟨bA,e _ h1,h2,h3,λy hy=>em _ _ (h4 y hy)⟩
 | inst c fs=>
  obtain ⟨h1,es,n,h2,h3⟩:=x;obtain ⟨e1,e2⟩:=ed c fs rfl;exact ⟨by rw[e1];exact e _ h1,es,n,by rw[e1];exact e2 _ h2,h3⟩
theorem Rep.get (x:Rep C m h d a o):∃ ob,h.get? a=some ob:=by
 ext C m h d a o;cases o with
 | list xs=>obtain ⟨rs,n,h1,h2⟩:=x;exact ⟨_,h1⟩
 | tuple xs=>obtain ⟨rs,n,h1,h2⟩:=x;exact ⟨_,h1⟩
 | dj es ep=>obtain ⟨kvs,⟨o,_,ho,_⟩,h2⟩:=x;exact ⟨_,ho⟩
 | jZ es=>obtain ⟨kvs,⟨o,_,_,ho,_⟩,h2⟩:=x;exact ⟨_,ho⟩
 | bE es ep=>obtain ⟨bA,h1,h2,h3⟩:=x;exact ⟨_,h1⟩
 | inst c fs=>obtain ⟨h1,_⟩:=x;exact ⟨_,h1⟩
theorem aP.ab4 (x:aP C P m d s) (h:fp m d a):∃ ob,s.heap.get? a=some ob:=by
 rcases h with h | ⟨i,c,fs,h,rfl⟩
 .cases hm:m a with
  | none=>exact (h hm).elim
  | some o=>exact (x.rep a o hm).get
 .obtain ⟨_,es,n,h2,_⟩:=x.rep i _ h;exact ⟨_,h2⟩
theorem aP.wO (x:aP C P m d s) (h:fp m d a):a < s.heap.objs.size:=let ⟨_,e⟩:=x.ab4 h;lI e
theorem aP.wX (x:aP C P m d s) (h:P a=some o):a < s.heap.objs.size:=lI (x.keep _ _ h)
theorem aP.new (x:aP C P m d s):¬ fp m d s.heap.objs.size/\P s.heap.objs.size=none:=by
 refine ⟨λh=>absurd (x.wO h) (uc _),?_⟩;cases h:P s.heap.objs.size with
 | none=>rfl
 | some o=>exact absurd (x.wX h) (uc _)
theorem aP.step (x:aP C P m d s) (e:∀ a o,(fp m d a\/P a=some o)->s.heap.get? a=some o->h'.get? a=some o) :
  aP C P m d { s with heap:=h',toks:=t } where
 ok:=x.ok
 same:=by obtain ⟨h,t',hs⟩:=x.same;exact ⟨h',t,by rw[hs]⟩
 base:=x.base
 keep:=λa o h=>e a o (.inr h) (x.keep a o h)
 rep:=λa o h=>(x.rep a o h).mono (λob hb=>e a ob (.inl (.inl (by rw[h];exact gm _))) hb) (λc fs ho=>⟨rfl,λob hb=>e _ _ (.inl (.inr ⟨a,c,fs,ho▸h,rfl⟩)) hb⟩) λ_ _ q=>q
 off:=x.off
 sep:=x.sep
 inj:=x.inj
theorem aP.tok (x:aP C P m d s) (t:Nat):aP C P m d { s with toks:=t }:=x.step (h':=s.heap) λ_ _ _ h=>h
noncomputable def lW (m:MH) (d:Addr->Addr) (h:Heap) (a:Addr):Option Obj:=by classical exact if fp m d a then none else h.get? a
theorem CM (hf:¬ fp m d a):lW m d h a=h.get? a:=by unfold lW;exact if_neg (by assumption)
theorem Oh (hf:fp m d a):lW m d h a=none:=by unfold lW;exact if_pos (by assumption)
theorem aP.all (x:aP C P m d s):aP C (lW m d s.heap) m d s where
 ok:=x.ok
 same:=x.same
 base:=λa o h=>by have hP:=x.base a o h;rw[CM (λhf=>by rw[x.off a hf] at hP;cases hP)];exact x.keep a o hP
 keep:=λa o h=>by
  by_cases hf:fp m d a
  .rw[Oh hf] at h;cases h
  .rwa [CM hf] at h
 rep:=x.rep
 off:=λa hf=>Oh hf
 sep:=x.sep
 inj:=x.inj
theorem aP.less (x:aP C P m d s) (h:∀ a o,P' a=some o->P a=some o) (hb:∀ a o,C.base.get? a=some o->P' a=some o):aP C P' m d s where
 ok:=x.ok
 same:=x.same
 base:=hb
 keep:=λa o e=>x.keep a o (h a o e)
 rep:=x.rep
 off:=λa hf=>by
  cases e:P' a with
  | none=>rfl
  | some o=>have:=h a o e;rw[x.off a hf] at this;cases this
 sep:=x.sep
 inj:=x.inj
theorem aP.alloc {C:Cx} {P m d s} (x:aP C P m d s) {h':Heap} {t:Nat} {a:Addr} {o:O} (ha:¬ fp m d a) (hP:P a=none) (ho:∀ c fs,o≠.inst c fs)
  (e:∀ b ob,s.heap.get? b=some ob->h'.get? b=some ob) (hr:Rep C (m.set a o) h' d a o):aP C P (m.set a o) d { s with heap:=h',toks:=t }:=by
 have hma:m a=none:=by cases q:m a with
  | none=>rfl
  | some o'=>exact (ha (.inl (by rw[q];exact gm _))).elim
 have iB:∀ i c fs,m.set a o i=some (.inst c fs)->i≠a/\m i=some (.inst c fs):=λi c fs h=>by
  by_cases hi:i=a
  .subst hi;rw[MH.af] at h;exact (ho c fs (c8 h)).elim
  .rw[MH.aC hi] at h;exact ⟨hi,h⟩
 have AU:∀ b,fp (m.set a o) d b->b=a\/fp m d b:=λb hb=>by
  rcases hb with hb | ⟨i,c,fs,hi,rfl⟩
  .by_cases hba:b=a
   .exact .inl hba
   .rw[MH.aC hba] at hb;exact .inr (.inl hb)
  .exact .inr (.inr ⟨i,c,fs,(iB i c fs hi).2,rfl⟩)
 refine ⟨x.ok,?_,x.base,λb ob hb=>e _ _ (x.keep b ob hb),λb ob hb=>?_,λb hb=>?_,λi c fs hi=>?_,λi c fs i' c' fs' hi hi'=>x.inj i c fs i' c' fs' (iB _ _ _ hi).2 (iB _ _ _ hi').2⟩
 .obtain ⟨h,t',hs⟩:=x.same;exact ⟨h',t,by rw[hs]⟩
 .by_cases hba:b=a
  .subst hba;rw[MH.af] at hb;cases hb;exact hr
  .rw[MH.aC hba] at hb;exact (x.rep b ob hb).mono (e b) (λc fs _=>⟨rfl,e _⟩) λb' xs h=>MH.av hma _ _ h
 .rcases AU b hb with rfl | hb
  .exact hP
  .exact x.off b hb
 .obtain ⟨_,hi⟩:=iB i c fs hi;have hne:d i≠a:=λq=>ha (.inr ⟨i,c,fs,hi,q⟩);rw[MH.aC hne];exact x.sep i c fs hi
theorem aP.write {C:Cx} {P m d s} (x:aP C P m d s) {h':Heap} {t:Nat} {a:Addr} {o o':O} (hm:m a=some o) (ho:∀ c fs,o≠.inst c fs) (ht:∀ xs,o≠.tuple xs) (ho':∀ c fs,o'≠.inst c fs)
  (e:F1 a s.heap h') (hr:Rep C (m.set a o') h' d a o'):aP C P (m.set a o') d { s with heap:=h',toks:=t }:=by
 have fa:fp m d a:=.inl (by rw[hm];exact gm _);have da:∀ i c fs,m i=some (.inst c fs)->d i≠a:=λi c fs hi q=>by have:=x.sep i c fs hi;rw[q,hm] at this;cases this
 have iB:∀ i c fs,m.set a o' i=some (.inst c fs)->i≠a/\m i=some (.inst c fs):=λi c fs h=>by
  by_cases hi:i=a
  .subst hi;rw[MH.af] at h;exact (ho' c fs (c8 h)).elim
  .rw[MH.aC hi] at h;exact ⟨hi,h⟩
 have tup:∀ b xs,m b=some (.tuple xs)->m.set a o' b=some (.tuple xs):=λb xs hb=>by
  have:b≠a:=λq=>by rw[q,hm] at hb;exact ht xs (c8 hb)
  rw[MH.aC this];exact hb
 have AU:∀ b,fp (m.set a o') d b->fp m d b:=λb hb=>by
  rcases hb with hb | ⟨i,c,fs,hi,rfl⟩
  .by_cases hba:b=a
   .rw[hba];exact fa
   .rw[MH.aC hba] at hb;exact .inl hb
  .exact .inr ⟨i,c,fs,(iB i c fs hi).2,rfl⟩
 refine ⟨x.ok,?_,x.base,λb ob hb=>?_,λb ob hb=>?_,λb hb=>x.off b (AU b hb),λi c fs hi=>?_,λi c fs i' c' fs' hi hi'=>x.inj i c fs i' c' fs' (iB _ _ _ hi).2 (iB _ _ _ hi').2⟩
 .obtain ⟨h,t',hs⟩:=x.same;exact ⟨h',t,by rw[hs]⟩
 .have:b≠a:=λq=>by rw[q,x.off a fa] at hb;cases hb
  exact (e.2 b this).trans (x.keep b ob hb)
 .by_cases hba:b=a
  .subst hba;rw[MH.af] at hb;cases hb;exact hr
  .rw[MH.aC hba] at hb;exact (x.rep b ob hb).mono (λiI h=>(e.2 b hba).trans h) (λc fs q=>⟨rfl,λiI h=>(e.2 _ (da b c fs (q▸hb))).trans h⟩) tup
 .obtain ⟨_,hi⟩:=iB i c fs hi;rw[MH.aC (da i c fs hi)];exact x.sep i c fs hi
theorem aP.Zs {C:Cx} {P m d s} (x:aP C P m d s) {h':Heap} {t:Nat} {a c:Addr} {fs fs':List (Str×V)} {es:List DictEntry} {n:Nat} (hm:m a=some (.inst c fs))
  (e:F1 (d a) s.heap h') (hr:h'.get? (d a)=some (di es n)) (hf:g8 es fs'):aP C P (m.set a (.inst c fs')) d { s with heap:=h',toks:=t }:=by
 have fa:fp m d (d a):=.inr ⟨a,c,fs,hm,rfl⟩;have hda:m (d a)=none:=x.sep a c fs hm;have iB:∀ i c' iC,m.set a (.inst c fs') i=some (.inst c' iC)->∃ xE,m i=some (.inst c' xE):=λi c' iC h=>by
  by_cases hi:i=a
  .subst hi;rw[MH.af] at h;cases h;exact ⟨fs,hm⟩
  .rw[MH.aC hi] at h;exact ⟨_,h⟩
 have tup:∀ b xs,m b=some (.tuple xs)->m.set a (.inst c fs') b=some (.tuple xs):=λb xs hb=>by
  have:b≠a:=λq=>by rw[q,hm] at hb;cases hb
  rw[MH.aC this];exact hb
 have AU:∀ b,fp (m.set a (.inst c fs')) d b->fp m d b:=λb hb=>by
  rcases hb with hb | ⟨i,c',iC,hi,rfl⟩
  .by_cases hba:b=a
   .rw[hba];exact .inl (by rw[hm];exact gm _)
   .rw[MH.aC hba] at hb;exact .inl hb
  .obtain ⟨xE,h3⟩:=iB i c' iC hi;exact .inr ⟨i,c',xE,h3,rfl⟩
 ext C P m d s h' t a c fs fs' es n;refine ⟨x.ok,?_,x.base,λb ob hb=>?_,λb ob hb=>?_,λb hb=>x.off b (AU b hb),λi c' iC hi=>?_,λi c1 RS i' c' iC hi hi'=>?_⟩
 .obtain ⟨h,t',hs⟩:=x.same;exact ⟨h',t,by rw[hs]⟩
 .have:b≠d a:=λq=>by rw[q,x.off _ fa] at hb;cases hb
  exact (e.2 b this).trans (x.keep b ob hb)
 .by_cases hba:b=a
  .ext b ob;subst hba;rw[MH.af] at hb;cases hb;obtain ⟨h1,_⟩:=x.rep b _ hm;refine ⟨(e.2 b λq=>?_).trans h1,es,n,hr,hf⟩;rw[<-q,hm] at hda;cases hda
  .rw[MH.aC hba] at hb;refine (x.rep b ob hb).mono (λiI h=>(e.2 b λq=>?_).trans h) (λc' iC q=>⟨rfl,λiI h=>(e.2 _ λq'=>?_).trans h⟩) tup
   .rw[<-q,hb] at hda;cases hda
   .exact hba (x.inj b c' iC a c fs (q▸hb) hm q')
 .obtain ⟨xE,h3⟩:=iB i c' iC hi;have:d i≠a:=λq=>by have:=x.sep i c' xE h3;rw[q,hm] at this;cases this
  rw[MH.aC this];exact x.sep i c' xE h3
 .obtain ⟨_,h3⟩:=iB _ _ _ hi;obtain ⟨_,h4⟩:=iB _ _ _ hi';exact x.inj _ _ _ _ _ _ h3 h4
theorem aP.Yz {C:Cx} {P m d s} (x:aP C P m d s) {h':Heap} {t:Nat} {a dx c:Addr} (ha:¬ fp m d a) (hd:¬ fp m d dx) (hne:dx≠a) (hP:P a=none) (hPd:P dx=none)
  (e:∀ b ob,s.heap.get? b=some ob->h'.get? b=some ob) (h1:h'.get? a=some (instObj c dx)) {n:Nat} (h2:h'.get? dx=some (di [] n)) :
  aP C P (m.set a (.inst c [])) (λi=>if i=a then dx else d i) { s with heap:=h',toks:=t }:=by
 have hma:m a=none:=by cases q:m a with
  | none=>rfl
  | some o'=>exact (ha (.inl (by rw[q];exact gm _))).elim
 have hmd:m dx=none:=by cases q:m dx with
  | none=>rfl
  | some o'=>exact (hd (.inl (by rw[q];exact gm _))).elim
 have aE:∀ i o,m i=some o->i≠a:=λi o h q=>by rw[q,hma] at h;cases h
 have iB:∀ i c' fs,m.set a (.inst c []) i=some (.inst c' fs)->i=a\/(i≠a/\m i=some (.inst c' fs)):=λi c' fs h=>by
  by_cases hi:i=a
  .exact .inl hi
  .rw[MH.aC hi] at h;exact .inr ⟨hi,h⟩
 ext C P m d s h' t a dx c n;refine ⟨x.ok,?_,x.base,λb ob hb=>e _ _ (x.keep b ob hb),λb ob hb=>?_,λb hb=>?_,λi c' fs hi=>?_,λi c1 RS i' c' fs' hi hi' q=>?_⟩
 .obtain ⟨h,t',hs⟩:=x.same;exact ⟨h',t,by rw[hs]⟩
 .by_cases hba:b=a
  .ext b ob;subst hba;rw[MH.af] at hb;cases hb;change h'.get? b=some (instObj c (if b=b then dx else d b))/\∃ es n,h'.get? (if b=b then dx else d b)=some (di es n)/\g8 es [];rw[if_pos rfl];exact ⟨h1,[],n,h2,rfl,by simp⟩
  .rw[MH.aC hba] at hb;exact (x.rep b ob hb).mono (e b) (λc fs _=>⟨if_neg hba,e _⟩) λb' xs h=>MH.av hma _ _ h
 .rcases hb with hb | ⟨i,c',fs,hi,rfl⟩
  .by_cases hba:b=a
   .rw[hba];exact hP
   .rw[MH.aC hba] at hb;exact x.off b (.inl hb)
  .rcases iB i c' fs hi with rfl | ⟨hne',hi⟩
   .simp only[if_true];exact hPd
   .simp only[if_neg hne'];exact x.off _ (.inr ⟨i,c',fs,hi,rfl⟩)
 .rcases iB i c' fs hi with rfl | ⟨hne',hi⟩
  .simp only[if_true];rw[MH.aC hne];exact hmd
  .simp only[if_neg hne'];have:d i≠a:=λq=>ha (.inr ⟨i,c',fs,hi,q⟩);rw[MH.aC this];exact x.sep i c' fs hi
 .ext i c1 RS i' c' fs';rcases iB _ _ _ hi with rfl | ⟨hn1,h3⟩<;>rcases iB _ _ _ hi' with rfl | ⟨hn2,h4⟩
  .rfl
  .simp only[if_true,if_neg hn2] at q;exact (hd (.inr ⟨_,_,_,h4,q.symm⟩)).elim
  .simp only[if_true,if_neg hn1] at q;exact (hd (.inr ⟨_,_,_,h3,q⟩)).elim
  .simp only[if_neg hn1,if_neg hn2] at q;exact x.inj _ _ _ _ _ _ h3 h4 q
end
section
noncomputable abbrev Loc:=List (Str×V)
noncomputable def Slt (env:Env) (h:Heap) (mm:Str->Option Value) (x:Str) (v:V):Prop:=
 (env.kindOf x=some .local/\∃ r,mm x=some r/\er r=some v)\/
 ((env.kindOf x=some .cell\/env.kindOf x=some .free)/\∃ c r,env.cells.lookup x=some c/\h.IsCell c (some r)/\er r=some v)
structure dB (C:Cx) (P:Addr->Option Obj) (env:Env) (loc:Loc) (m:MH) (d:Addr->Addr) (s:Shared):Prop extends aP C P m d s where
 kf:env.scope.kind=.function
 gl:env.globals=mainGlobals
 bu:env.builtins=builtinsNs
 nL:¬ fp m d env.locals
 pL:P env.locals=none
 ns:∃ mm,s.heap.Ns env.locals mm/\∀ x v,loc.lookup x=some v->Slt env s.heap mm x v
 cl:∀ x c,(x,c)∈env.cells->¬ fp m d c/\c≠env.locals/\(∃ cv,s.heap.IsCell c cv)/\(env.func.isSome=true->P c=none)
 ap:env.cells.Pairwise λx y=>x.2≠y.2
noncomputable def SR (C:Cx) (P:Addr->Option Obj) (env:Env) (loc:Loc) (m:MH) (s:Shared):Prop:=∃ d,dB C P env loc m d s
theorem pq {h h':Heap} {c:Addr} {v:Option Value} (x:h.IsCell c v) (e:∀ o,h.get? c=some o->h'.get? c=some o):h'.IsCell c v:=let ⟨o,ho,hd⟩:=x;⟨o,e _ ho,hd⟩
theorem dB.frame {C P env loc m d s} (x:dB C P env loc m d s) :
  aP C (lW m d s.heap) m d s/\∀ m' d' s',aP C (lW m d s.heap) m' d' s'->dB C P env loc m' d' s':=by
 ext C P env loc m d s;refine ⟨x.toaP.all,λm' d' s' y=>?_⟩;have off:∀ a o,s.heap.get? a=some o->¬ fp m d a->s'.heap.get? a=some o/\¬ fp m' d' a:=λa o e hf=>by
  have hP:lW m d s.heap a=some o:=by rw[CM hf];exact e
  exact ⟨y.keep a o hP,λhf'=>by rw[y.off a hf'] at hP;cases hP⟩
 ext m' d' s';obtain ⟨mm,hn,hs⟩:=x.ns;obtain ⟨oL,es,ep,hL,hr⟩:=id hn;have y':aP C P m' d' s':=y.less (λa o h=>by
  have hf:¬ fp m d a:=λhf=>by rw[x.off a hf] at h;cases h
  rw[CM hf];exact x.keep a o h) x.base
 refine { toaP:=y',kf:=x.kf,gl:=x.gl,bu:=x.bu,nL:=(off _ _ hL x.nL).2,pL:=x.pL,ns:=⟨mm,⟨oL,es,ep,(off _ _ hL x.nL).1,hr⟩,λz v hz=>?_⟩,cl:=λz c hc=>?_,ap:=x.ap }
 .rcases hs z v hz with h | ⟨hk,c,r,hc,hi,he⟩
  .exact .inl h
  .refine .inr ⟨hk,c,r,hc,pq hi λo ho=>(off c o ho (x.cl z c (mem_of_lookup hc)).1).1,he⟩
 .obtain ⟨h1,h2,⟨cv,h3⟩,h4⟩:=x.cl z c hc;obtain ⟨oc,hoc,_⟩:=id h3;exact ⟨(off c oc hoc h1).2,h2,⟨cv,pq h3 λo ho=>(off c o ho h1).1⟩,h4⟩
noncomputable def dF (n:Nat) (A:Around):Prop:=A.handled=none/\A.depth+4*n < 900/\A.units+16*n < 9000
theorem dF.le (h:dF n A) (hk:k<=n):dF k A:=⟨h.1,by have:=h.2;exact zm (iH (pX hk)) this,by have:=h.3;exact zm (iH (pX hk)) this⟩
theorem dF.in1 (h:dF (n+1) A):dF n A.in1:=⟨h.1,by have:=h.2;change A.depth+4*n < 900;exact om4 this,by have:=h.3;change A.units+1+16*n < 9000;exact om3 this⟩
theorem dF.deeper (h:dF (n+1) A):dF n (A.deeper env):=⟨h.1,by have:=h.2;change A.depth+1+4*n < 900;exact om2 this,by have:=h.3;change A.units+3+16*n < 9000;exact om1 this⟩
theorem dF.units (h:dF n A):A.units < cLine:=zn (sS h.3) (ao rfl)
theorem dF.Hw (h:dF n A):A.in1.units < cLine:=zm (sS h.3) (ao rfl)
section
variable {α β γ δ:Type}
noncomputable def dP:Value->Shared->Prop:=λ_ _=>False
noncomputable def TG (rel:α->β->Prop) (C:Cx) (n:Nat) (t:Sem α) (m:MH) (Q:β->MH->Prop):Prop:=
 ∀ P A s (R:α->Shared->Prop),dF n A->HS C P m s->(∀ r v m' s',rel r v->HS C P m' s'->Q v m'->R r s')->wpAny (model C.prog C.w) A t R dP s
noncomputable def FG (rel:α->β->Prop) (C:Cx) (n:Nat) (env:Env) (t:Sem α) (loc:Loc) (m:MH) (Q:β->MH->Prop):Prop:=
 ∀ P A s (R:α->Shared->Prop),dF n A->SR C P env loc m s->(∀ r v m' s',rel r v->SR C P env loc m' s'->Q v m'->R r s')->wpAny (model C.prog C.w) A t R dP s
variable {C:Cx} {n:Nat} {env:Env} {loc:Loc} {m:MH}
theorem FG.lR (h:TG rel C n t m Q):FG rel C n env t loc m Q:=by rintro P A s R hr ⟨d,x⟩ k;obtain ⟨y,back⟩:=x.frame;exact h _ A s R hr ⟨d,y⟩ λr v m' s' hv ⟨d',y'⟩ hq=>k r v m' s' hv ⟨d',back m' d' s' y'⟩ hq
theorem FG.mono (h:FG rel C n env t loc m Q) (hq:∀ v m',Q v m'->Q' v m'):FG rel C n env t loc m Q':=
 λP A s R hr x k=>h P A s R hr x λr v m' s' hv x' q=>k r v m' s' hv x' (hq v m' q)
theorem TG.mono (h:TG rel C n t m Q) (hq:∀ v m',Q v m'->Q' v m'):TG rel C n t m Q':=
 λP A s R hr x k=>h P A s R hr x λr v m' s' hv x' q=>k r v m' s' hv x' (hq v m' q)
theorem FG.bind
  (h:FG rel C n env t loc m λv m'=>∀ r,rel r v->FG rel' C n env (f r) loc m' Q):FG rel' C n env (t >>= f) loc m Q:=
 λP A s R hr x k=>az (h P A s _ hr x λr v m' s' hv x' q=>q r hv P A s' R hr x' k)
theorem TG.bind
  (h:TG rel C n t m λv m'=>∀ r,rel r v->TG rel' C n (f r) m' Q):TG rel' C n (t >>= f) m Q:=
 λP A s R hr x k=>az (h P A s _ hr x λr v m' s' hv x' q=>q r hv P A s' R hr x' k)
theorem FG.pure (hv:rel a v) (h:Q v m):FG rel C n env (Pure.pure a) loc m Q:=
 λ_ _ _ _ _ x k=>bh (k _ _ _ _ hv x h)
theorem TG.pure (hv:rel a v) (h:Q v m):TG rel C n (Pure.pure a) m Q:=
 λ_ _ _ _ _ x k=>bh (k _ _ _ _ hv x h)
theorem FG.holding (h:FG rel C n env t loc m Q):FG rel C n env (PySem.holding vs t) loc m Q:=
 λP A s R hr x k=>ud (h P A s R hr x k)
theorem FG.standAt (h:FG rel C n env (f ()) loc m Q):FG rel C n env (PySem.standAt pos >>= f) loc m Q:=
 λP A s R hr x k=>az (Cg (h P A s R hr x k))
theorem FG.eq (e:t=t') (h:FG rel C n env t' loc m Q):FG rel C n env t loc m Q:=e▸h
end
noncomputable def rv (r:Value) (v:V):Prop:=er r=some v
noncomputable abbrev TR (C:Cx) (n:Nat) (t:Sem Value) (m:MH) (Q:V->MH->Prop):Prop:=TG rv C n t m Q
noncomputable abbrev FR (C:Cx) (n:Nat) (env:Env) (t:Sem Value) (loc:Loc) (m:MH) (Q:V->MH->Prop):Prop:=FG rv C n env t loc m Q
noncomputable abbrev TB (C:Cx) (n:Nat) (t:Sem Bool) (m:MH) (Q:Bool->MH->Prop):Prop:=TG (@Eq Bool) C n t m Q
noncomputable abbrev FB (C:Cx) (n:Nat) (env:Env) (t:Sem Bool) (loc:Loc) (m:MH) (Q:Bool->MH->Prop):Prop:=FG (@Eq Bool) C n env t loc m Q
noncomputable abbrev TU (C:Cx) (n:Nat) (t:Sem Unit) (m:MH) (Q:MH->Prop):Prop:=TG (@Eq Unit) C n t m λ_=>Q
noncomputable abbrev FU (C:Cx) (n:Nat) (env:Env) (t:Sem Unit) (loc:Loc) (m:MH) (Q:MH->Prop):Prop:=FG (@Eq Unit) C n env t loc m λ_=>Q
noncomputable abbrev TL (C:Cx) (n:Nat) (t:Sem (List Value)) (m:MH) (Q:List V->MH->Prop):Prop:=TG aD C n t m Q
noncomputable abbrev FL (C:Cx) (n:Nat) (env:Env) (t:Sem (List Value)) (loc:Loc) (m:MH) (Q:List V->MH->Prop):Prop:=FG aD C n env t loc m Q
noncomputable def WE (C:Cx) (n:Nat) (env:Env) (e:Expr) (loc:Loc) (m:MH) (Q:V->MH->Prop):Prop:=FR C n env (eval e env) loc m Q
noncomputable def WT (C:Cx) (n:Nat) (env:Env) (e:Expr) (loc:Loc) (m:MH) (Q:Bool->MH->Prop):Prop:=FB C n env (isTrue e env (eval e env)) loc m Q
noncomputable def WA (C:Cx) (n:Nat) (env:Env) (es:List Expr) (loc:Loc) (m:MH) (Q:List V->MH->Prop):Prop:=∀ pos,FL C n env (spliced (backTo pos (starEach es env))) loc m Q
inductive Fl where
 | next | brk | cont
 | ret (v:V)
instance:Nonempty Fl:=⟨.next⟩
noncomputable def Jx:Flow->Fl->Prop
 | .next,.next=>True
 | .brk,.brk=>True
 | .cont,.cont=>True
 | .ret r,.ret v=>er r=some v
 | _,_=>False
noncomputable def FX (C:Cx) (n:Nat) (env:Env) (t:Sem Flow) (loc:Loc) (m:MH) (Q:Fl->Loc->MH->Prop):Prop:=
 ∀ P A s (R:Flow->Shared->Prop),dF n A->SR C P env loc m s->(∀ f F loc' m' s',Jx f F->SR C P env loc' m' s'->Q F loc' m'->R f s')->wpAny (model C.prog C.w) A t R dP s
noncomputable def WS (C:Cx) (n:Nat) (env:Env) (ss:List Stmt) (loc:Loc) (m:MH) (Q:Fl->Loc->MH->Prop):Prop:=FX C n env (execs ss env) loc m Q
noncomputable def W1 (C:Cx) (n:Nat) (env:Env) (st:Stmt) (loc:Loc) (m:MH) (Q:Fl->Loc->MH->Prop):Prop:=FX C n env (exec st env) loc m Q
noncomputable def WG (C:Cx) (n:Nat) (env:Env) (t:Expr) (v:V) (loc:Loc) (m:MH) (Q:Loc->MH->Prop):Prop:=
 ∀ r,er r=some v->∀ P A s (R:Unit->Shared->Prop),dF n A->SR C P env loc m s->(∀ loc' m' s',SR C P env loc' m' s'->Q loc' m'->R () s')->wpAny (model C.prog C.w) A (assign t env r) R dP s
section
variable {C:Cx} {n:Nat} {env:Env} {loc:Loc} {m:MH}
theorem FX.mono (h:FX C n env t loc m Q) (hq:∀ f l m',Q f l m'->Q' f l m'):FX C n env t loc m Q':=
 λP A s R hr x k=>h P A s R hr x λf F l m' s' hf x' q=>k f F l m' s' hf x' (hq _ _ _ q)
theorem WS.mono (h:WS C n env ss loc m Q) (hq:∀ f l m',Q f l m'->Q' f l m'):WS C n env ss loc m Q':=FX.mono h hq
theorem WE.mono (h:WE C n env e loc m Q) (hq:∀ v m',Q v m'->Q' v m'):WE C n env e loc m Q':=FG.mono h hq
theorem SR.weak (x:SR C P env loc m s) (h:∀ y v,loc'.lookup y=some v->loc.lookup y=some v):SR C P env loc' m s:=by obtain ⟨d,x⟩:=x;obtain ⟨mm,hn,hs⟩:=x.ns;exact ⟨d,{ x with ns:=⟨mm,hn,λy v hy=>hs y v (h y v hy)⟩ }⟩
theorem G7 (loc':Loc) (h:∀ y v,loc'.lookup y=some v->loc.lookup y=some v) (k:WS C n env ss loc' m Q):WS C n env ss loc m Q:=
 λP A s R hr x kk=>k P A s R hr (x.weak h) kk
theorem zY (h:Q (.int i) m):WE C n env (.Constant (.int i) k pos) loc m Q:=by rintro P A s R hr ⟨d,x⟩ kk;obtain ⟨y,back⟩:=x.frame;exact wpAny_Constant_int (kk _ (.int i) m _ rfl ⟨d,back _ _ _ (y.tok _)⟩ h)
theorem CX (h:Q (.str i) m):WE C n env (.Constant (.str i) k pos) loc m Q:=by rintro P A s R hr ⟨d,x⟩ kk;obtain ⟨y,back⟩:=x.frame;exact wpAny_Constant_str (kk _ (.str i) m _ rfl ⟨d,back _ _ _ (y.tok _)⟩ h)
theorem aaG (h:Q (.bool i) m):WE C n env (.Constant (.bool i) k pos) loc m Q:=
 λ_ _ _ _ _ x kk=>bh (kk _ (.bool i) m _ rfl x h)
theorem aaH (h:Q .none m):WE C n env (.Constant .none k pos) loc m Q:=
 λ_ _ _ _ _ x kk=>bh (kk _ .none m _ rfl x h)
theorem ux (hv:loc.lookup y=some v) (h:Q v m) (hd:(y==("__debug__" : Str))=false:=by decide) (hcd:(y==("__classdict__" : Str))=false:=by decide) :
  WE C n env (.Name y pos) loc m Q:=by
 rintro P A s R hr ⟨d,x⟩ kk;obtain ⟨mm,hn,hs⟩:=x.ns;have go:∀ r,er r=some v->R r s:=λr he=>kk r v m s he ⟨d,x⟩ h;rcases hs y v hv with ⟨hk,r,hm,he⟩ | ⟨hk | hk,c,r,hc,hi,he⟩
 .exact Nd (wpAny_loadName_local x.kf hk hn hm (go r he)) hd
 .exact Nd (wpAny_loadName_cell x.kf hk hc hi (go r he)) hd
 .exact Nd (wpAny_loadName_free x.kf hk hc hi (go r he) hcd) hd
theorem F4 (x:dB C P env loc m d s) (hk:env.kindOf y=some .globalImplicit) (e:nsIn C.K mainGlobals y=some (some g)) (h:R g s)
  (hd:(y==("__debug__" : Str))=false:=by decide):wpAny (model C.prog C.w) A (eval (.Name y pos) env) R dP s:=
 U1 x.kf hk (loadGlobal_global (by rw[x.gl];exact x.top.g) (mg_of x.ok.1 x.ok.2.g e) h) hd
theorem Ck (x:dB C P env loc m d s) (hk:env.kindOf y=some .globalImplicit) (e:nsIn C.K mainGlobals y=some none) (hv:bootBuiltins y=some g) (hn:y≠"__name__") (h:R g s)
  (hd:(y==("__debug__" : Str))=false:=by decide):wpAny (model C.prog C.w) A (eval (.Name y pos) env) R dP s:=
 U1 x.kf hk (loadGlobal_builtin (by rw[x.gl];exact x.top.g) (mg_none_of x.ok.1 x.ok.2.g e) (by rw[x.bu];exact x.top.b) ((x.ok.2.builtins y hn).trans hv) h) hd
theorem zD (hk:env.kindOf y=some .globalImplicit) (e:nsIn C.K mainGlobals y=some (some g)) (he:er g=some v) (h:Q v m)
  (hd:(y==("__debug__" : Str))=false:=by decide):WE C n env (.Name y pos) loc m Q:=by
 rintro P A s R hr ⟨d,x⟩ kk;exact F4 x hk e (kk g v m s he ⟨d,x⟩ h) hd
theorem CC
  (h:WE C n env l loc m λa m1=>WE C n env r loc m1 λb m2=>∀ ra rb,er ra=some a->er rb=some b->TR C n (binaryOp op ra rb) m2 Q):WE C n env (.BinOp l op r pos) loc m Q:=by
 intro P A s R hr x kk;refine wpAny_BinOp (h P A s _ hr x λra a m1 s1 ha x1 h1=>h1 P A s1 _ hr x1 λrb b m2 s2 hb x2 h2=>?_);exact FG.lR (h2 ra rb ha hb) P A s2 R hr x2 kk
theorem Hx
  (h:WE C n env l loc m λa m1=>WE C n env r loc m1 λb m2=>∀ ra rb,er ra=some a->er rb=some b->TR C n (compareOp op ra rb) m2 Q)
  (hm:behindInMarks op r=false:=by with_unfolding_all rfl):WE C n env (.Compare l [op] [r] pos) loc m Q:=by
 intro P A s R hr x kk;refine wpAny_Compare1 (h P A s _ hr x λra a m1 s1 ha x1 h1=>h1 P A s1 _ hr x1 λrb b m2 s2 hb x2 h2=>?_) hm;exact FG.lR (h2 ra rb ha hb) P A s2 R hr x2 kk
theorem cH
  (h:WE C n env l loc m λa m1=>WE C n env r loc m1 λb m2=>∀ ra rb,er ra=some a->er rb=some b->TR C n (compareOp op ra rb) m2 λv m3=>∃ t,v=.bool t/\Q t m3)
  (hm:behindInMarks op r=false:=by with_unfolding_all rfl):WT C n env (.Compare l [op] [r] pos) loc m Q:=by
 intro P A s R hr x kk;refine wpAny_isTrue_Compare1 (h P A s _ hr x λra a m1 s1 ha x1 h1=>h1 P A s1 _ hr x1 λrb b m2 s2 hb x2 h2=>?_) (hm:=hm);refine FG.lR (h2 ra rb ha hb) P A s2 _ hr x2 λr v m3 s3 hv x3 h3=>?_;obtain ⟨t,rfl,hq⟩:=h3;rw[wI hv];exact Vx (kk t t m3 s3 rfl x3 hq)
theorem Hy (h:WT C n env e loc m λb=>Q !b):WT C n env (.UnaryOp .Not e pos) loc m Q:=by intro P A s R hr x kk;exact wpAny_isTrue_Not (h P A s _ hr x λr b m1 s1 hb x1 h1=>by subst hb;exact kk _ _ m1 s1 rfl x1 h1)
theorem qJ (h:WT C n env e loc m λb m1=>if b=true then WT C n env f loc m1 Q else Q false m1):WT C n env (.BoolOp .And [e,f] pos) loc m Q:=by
 intro P A s R hr x kk;refine LV (US (h P A s _ hr x λr b m1 s1 hb x1 h1=>?_));subst hb;cases r with
 | false=>simp only[cP,if_false] at h1 ⊢;exact kk _ _ m1 s1 rfl x1 h1
 | true=>
  simp only[if_true] at h1 ⊢;refine US (h1 P A s1 _ hr x1 λr' b' m2 s2 hb' x2 h2=>?_);subst hb';cases r' with
  | false=>simp only[cP,if_false];exact kk _ _ m2 s2 rfl x2 h2
  | true=>simp only[if_true];exact wpAny_allTrue_And_nil (kk _ _ m2 s2 rfl x2 h2)
theorem Ag (h:WT C n env e loc m λb m1=>if b=true then Q true m1 else WT C n env f loc m1 Q):WT C n env (.BoolOp .Or [e,f] pos) loc m Q:=by
 intro P A s R hr x kk;refine LV (BR (h P A s _ hr x λr b m1 s1 hb x1 h1=>?_));subst hb;cases r with
 | true=>simp only[if_true] at h1 ⊢;exact kk _ _ m1 s1 rfl x1 h1
 | false=>
  simp only[cP,if_false] at h1 ⊢;refine BR (h1 P A s1 _ hr x1 λr' b' m2 s2 hb' x2 h2=>?_);subst hb';cases r' with
  | true=>simp only[if_true];exact kk _ _ m2 s2 rfl x2 h2
  | false=>simp only[cP,if_false];exact U3 (kk _ _ m2 s2 rfl x2 h2)
theorem ab5 (h:WT C n env e loc m λb m1=>if b=true then Q true m1 else WT C n env f loc m1 λb m2=>if b=true then Q true m2 else WT C n env g loc m2 Q):WT C n env (.BoolOp .Or [e,f,g] pos) loc m Q:=by
 intro P A s R hr x kk;refine LV (BR (h P A s _ hr x λr b m1 s1 hb x1 h1=>?_));subst hb;cases r with
 | true=>simp only[if_true] at h1 ⊢;exact kk _ _ m1 s1 rfl x1 h1
 | false=>
  simp only[cP,if_false] at h1 ⊢;refine BR (h1 P A s1 _ hr x1 λr' b' m2 s2 hb' x2 h2=>?_);subst hb';cases r' with
  | true=>simp only[if_true] at h2 ⊢;exact kk _ _ m2 s2 rfl x2 h2
  | false=>
   simp only[cP,if_false] at h2 ⊢;refine BR (h2 P A s2 _ hr x2 λr' b' m3 s3 hb' x3 h3=>?_);subst hb';cases r' with
   | true=>simp only[if_true];exact kk _ _ m3 s3 rfl x3 h3
   | false=>simp only[cP,if_false];exact U3 (kk _ _ m3 s3 rfl x3 h3)
theorem iR (h:WE C n env e loc m λv m1=>∀ r,er r=some v->TB C n (truthy r) m1 Q)
  (he:isTrue e env (eval e env)=(do let v<-eval e env;standAt e.pos;holding [v] (truthy v)):=by rfl):WT C n env e loc m Q:=by
 intro P A s R hr x kk;refine wpAny_isTrue_value (h P A s _ hr x λr v m1 s1 hv x1 h1=>?_) he;exact FG.lR (h1 r hv) P A s1 R hr x1 kk
theorem NF (h:WT C n env t loc m λc m1=>if c=true then WE C n env a loc m1 Q else WE C n env b loc m1 Q):WE C n env (.IfExp t a b pos) loc m Q:=by
 intro P A s R hr x kk;refine wpAny_IfExp (h P A s _ hr x λr c m1 s1 hc x1 h1=>?_);subst hc;cases r with
 | true=>simp only[if_true] at h1 ⊢;exact h1 P A s1 R hr x1 kk
 | false=>simp only[cP,if_false] at h1 ⊢;exact h1 P A s1 R hr x1 kk
theorem cX (h:Q .next loc m):WS C n env [] loc m Q:=λ_ _ _ _ _ x kk=>Mp (kk _ .next _ _ _ trivial x h)
theorem aaI {st:Stmt} {ss:List Stmt} {Q:Fl->Loc->MH->Prop} (h:W1 C n env st loc m λf loc' m'=>match f with | .next=>WS C n env ss loc' m' Q | f=>Q f loc' m'):WS C n env (st::ss) loc m Q:=by
 intro P A s R hr x kk;refine wpAny_execs_cons (h P A s _ hr x λf F loc' m' s' hf x' q=>?_);cases F with
 | next=>cases f<;>first | exact q P A s' R hr x' kk | exact hf.elim
 | brk=>cases f<;>first | exact kk _ .brk _ _ _ hf x' q | exact hf.elim
 | cont=>cases f<;>first | exact kk _ .cont _ _ _ hf x' q | exact hf.elim
 | ret v=>cases f<;>first | exact kk _ (.ret v) _ _ _ hf x' q | exact hf.elim
theorem ab6 (h:WE C n env e loc m λv m'=>Q (.ret v) loc m'):W1 C n env (.Return (some e) pos) loc m Q:=
 λP A s R hr x kk=>wpAny_Return_some (h P A s _ hr x λr v m' s' hv x' q=>kk _ (.ret v) _ _ _ hv x' q)
theorem aaJ (h:Q .cont loc m):W1 C n env (.Continue pos) loc m Q:=λ_ _ _ _ _ x kk=>wpAny_Continue (kk _ .cont _ _ _ trivial x h)
theorem ab7 (h:Q .brk loc m):W1 C n env (.Break pos) loc m Q:=λ_ _ _ _ _ x kk=>wpAny_Break (kk _ .brk _ _ _ trivial x h)
theorem ahq (h:Q .next loc m):W1 C n env (.Pass pos) loc m Q:=λ_ _ _ _ _ x kk=>wpAny_Pass (kk _ .next _ _ _ trivial x h)
theorem ac4 (h:WT C n env t loc m λc m1=>if c=true then WS C n env a loc m1 Q else WS C n env b loc m1 Q):W1 C n env (.If t a b pos) loc m Q:=by
 intro P A s R hr x kk;refine wpAny_If (h P A s _ hr x λr c m1 s1 hc x1 h1=>?_);subst hc;cases r with
 | true=>simp only[if_true] at h1 ⊢;exact h1 P A s1 R hr x1 kk
 | false=>simp only[cP,if_false] at h1 ⊢;exact h1 P A s1 R hr x1 kk
theorem aaK (h:WE C n env e loc m λ_ m'=>Q .next loc m') (hi:interactive env=false:=by rfl) (hs:swapsWith e none pos.line env=pure false:=by rfl) :
  W1 C n env (.Expr e pos) loc m Q:=
 λP A s R hr x kk=>wpAny_Expr_any (h P A s _ hr x λ_ _ m' s' _ x' q=>kk _ .next _ _ _ trivial x' q) hi hs
theorem yY {P A s} {R:Unit->Shared->Prop} {y:Str} {r:Value} {v:V} (hr:er r=some v) (x:SR C P env loc m s) (hk:env.kindOf y=some .local\/(env.kindOf y=some .cell/\env.func.isSome=true/\(env.cells.lookup y).isSome=true))
  (k:∀ s',SR C P env ((y,v)::loc) m s'->R () s'):wpAny (model C.prog C.w) A (storeName env y r) R dP s:=by
 ext C env loc m P A s R y r v;obtain ⟨d,x⟩:=x;ext d;obtain ⟨mm,hn,hs⟩:=x.ns;ext mm;rcases hk with hk | ⟨hk,hf,hc⟩
 .refine wpAny_storeName_local hk hn (λh' hn' sY=>?_) (by rw[x.kf];rfl);ext h';refine k _ ⟨d,{ toaP:=x.toaP.step λa o hp h=>?_,kf:=x.kf,gl:=x.gl,bu:=x.bu,nL:=x.nL,pL:=x.pL,ns:=⟨_,hn',λz w hz=>?_⟩,cl:=λz c hc=>?_,ap:=x.ap }⟩
  .have:a≠env.locals:=λq=>by
    rcases hp with hp | hp
    .exact x.nL (q▸hp)
    .rw[q,x.pL] at hp;cases hp
   exact (sY.2 a this).trans h
  .rw[iO] at hz;by_cases AV:z=y
   .ext z w;subst AV;simp only[CW] at hz;cases hz;exact .inl ⟨hk,r,by exact if_pos rfl,hr⟩
   .have hb:(z==y)=false:=by exact decide_eq_false (by assumption)
    ext z w;simp only[hb] at hz;rcases hs z w hz with ⟨h1,r',h2,h3⟩ | ⟨h1,c,r',h2,h3,h4⟩
    .exact .inl ⟨h1,r',by simp[AV,h2],h3⟩
    .exact .inr ⟨h1,c,r',h2,pq h3 λo ho=>(sY.2 c (x.cl z c (mem_of_lookup h2)).2).trans ho,h4⟩
  .obtain ⟨h1,h2,⟨cv,h3⟩,h4⟩:=x.cl z c hc;exact ⟨h1,h2,⟨cv,pq h3 λo ho=>(sY.2 c h2).trans ho⟩,h4⟩
 .obtain ⟨c,hc⟩:=yx.mp hc
  (revert hc;clear hc;intro hc);ext c
  obtain ⟨c1,c2,⟨cv,c3⟩,c4⟩:=x.cl y c (mem_of_lookup hc);refine wpAny_storeName_cell x.kf hk hc c3 λh' hn' sY=>?_;ext h';refine k _ ⟨d,{ toaP:=x.toaP.step (t:=s.toks) λa o hp h=>?_,kf:=x.kf,gl:=x.gl,bu:=x.bu,nL:=x.nL,pL:=x.pL,ns:=⟨mm,hn.sameBut sY (r7 c2),λz w hz=>?_⟩,cl:=λz c' hc'=>?_,ap:=x.ap }⟩
  .have:a≠c:=λq=>by
    rcases hp with hp | hp
    .exact c1 (q▸hp)
    .rw[q,c4 hf] at hp;cases hp
   exact (sY.2 a this).trans h
  .rw[iO] at hz;by_cases AV:z=y
   .ext z w;subst AV;simp only[CW] at hz;cases hz;exact .inr ⟨.inl hk,c,r,hc,hn',hr⟩
   .have hb:(z==y)=false:=by exact decide_eq_false (by assumption)
    ext z w;simp only[hb] at hz;rcases hs z w hz with ⟨h1,r',h2,h3⟩ | ⟨h1,c',r',h2,h3,h4⟩
    .exact .inl ⟨h1,r',h2,h3⟩
    .have hne:c'≠c:=λq=>AV (name_of_addr x.ap (mem_of_lookup h2) (q▸mem_of_lookup hc));exact .inr ⟨h1,c',r',h2,pq h3 λo ho=>(sY.2 c' hne).trans ho,h4⟩
  .obtain ⟨h1,h2,⟨cv',h3⟩,h4⟩:=x.cl z c' hc';refine ⟨h1,h2,?_,h4⟩;by_cases hcc:c'=c
   .rw[hcc];exact ⟨_,hn'⟩
   .exact ⟨cv',pq h3 λo ho=>(sY.2 c' hcc).trans ho⟩
noncomputable def mY (env:Env) (y:Str):Prop:=env.kindOf y=some .local\/(env.kindOf y=some .cell/\env.func.isSome=true/\(env.cells.lookup y).isSome=true)
theorem YA (h:WE C n env e loc m λv m'=>Q .next ((y,v)::loc) m') (hk:mY env y)
  (hs:swapsWith e (some (.Name y p1)) pos.line env=pure false:=by rfl):W1 C n env (.Assign [.Name y p1] e pos) loc m Q:=by
 intro P A s R hr x kk;refine wpAny_Assign_Name (h P A s _ hr x λr v m' s' hv x' q=>?_) hs;exact yY hv x' hk λs'' x''=>kk _ .next _ _ _ trivial x'' q
theorem aM (hk:mY env y) (h:Q ((y,v)::loc) m):WG C n env (.Name y pos) v loc m Q:=by intro r hr P A s R hR x kk;refine Vy (yY hr x hk λs' x'=>kk _ _ _ x' h)
end
theorem bO (h:∀ QQ,QQ=Q->WG C n env t v loc m λl' m'=>WS C n env body l' m' QQ):WG C n env t v loc m λl' m'=>WS C n env body l' m' Q:=h Q rfl
theorem qW (h:∀ QQ,QQ=Q->WT C n env t loc m λb m'=>(b=true->WS C n env body loc m' QQ)/\(b=false->WS C n env rest loc m' R)):WT C n env t loc m λb m'=>(b=true->WS C n env body loc m' Q)/\(b=false->WS C n env rest loc m' R):=h Q rfl
end
section
theorem YB {kindOf:Str->Option NameKind} {x:Str} {binds:List (Str×Value)} {m:Str->Option Value} (h:x∉binds.map (·.1)):bindL kindOf binds m x=m x:=by
 induction binds generalizing m with
 | nil=>rfl
 | cons p r ih=>
  obtain ⟨n,v⟩:=p;rw[bq,b8,not_or] at h;unfold bindL;rw[ih h.2];split
  .exact if_neg h.1
  .rfl
theorem YC {kindOf:Str->Option NameKind} {x:Str} {r:Value} (hk:kindOf x=some .local) {binds:List (Str×Value)} {m:Str->Option Value} (hn:(binds.map (·.1)).Nodup) (h:(x,r)∈binds):bindL kindOf binds m x=some r:=by
 induction binds generalizing m with
 | nil=>cases h
 | cons p rest ih=>
  obtain ⟨n,v⟩:=p;rw[bq,nU] at hn;unfold bindL;rcases b8.mp h with e | h
  .cases e;rw[YB hn.1,if_pos hk];exact if_pos rfl
  .exact ih hn.2 h
theorem YD {kindOf:Str->Option NameKind} {x:Str} {binds:List (Str×Value)} {m:Str->Option Value} (h:x∉binds.map (·.1)):bindC kindOf binds m x=m x:=by
 induction binds generalizing m with
 | nil=>rfl
 | cons p r ih=>
  obtain ⟨n,v⟩:=p;rw[bq,b8,not_or] at h;unfold bindC;rw[ih h.2];split
  .rfl
  .exact if_neg h.1
theorem YE {kindOf:Str->Option NameKind} {x:Str} {r:Value} (hk:kindOf x≠some .local) {binds:List (Str×Value)} {m:Str->Option Value} (hn:(binds.map (·.1)).Nodup) (h:(x,r)∈binds):bindC kindOf binds m x=some r:=by
 induction binds generalizing m with
 | nil=>cases h
 | cons p rest ih=>
  obtain ⟨n,v⟩:=p;rw[bq,nU] at hn;unfold bindC;rcases b8.mp h with e | h
  .cases e;rw[YD hn.1,if_neg hk];exact if_pos rfl
  .exact ih hn.2 h
structure fZ (env:Env) (sc:Scope):Prop where
 scope:env.scope=sc
 func:env.func.isSome=true
 cells:∀ y,sc.names.lookup y=some .cell->(env.cells.lookup y).isSome=true
theorem fZ.kind (e:fZ env sc) (h:sc.names.lookup y=k):env.kindOf y=k:=by change env.scope.names.lookup y=k;rw[e.scope];exact h
theorem fZ.store (e:fZ env sc) (h:(sc.names.lookup y==some .local||sc.names.lookup y==some .cell)=true):mY env y:=by
 rcases Vd.mp h with h | h
 .exact .inl (e.kind (beq_iff_eq.mp h))
 .exact .inr ⟨e.kind (beq_iff_eq.mp h),e.func,e.cells y (beq_iff_eq.mp h)⟩
noncomputable def FC (C:Cx) (f:Addr) (n:Nat) (args:List V) (m:MH) (Q:V->MH->Prop):Prop:=
 ∀ rargs,aD rargs args->∀ P A s (R:Result->Shared->Prop),dF n A->HS C P m s->(∀ r v m' s',er r=some v->HS C P m' s'->Q v m'->R (.ok (.ret r)) s')->
  codeAny (model C.prog C.w) A (.call (.ref f) ⟨rargs,[]⟩) R s
theorem FC.mono (h:FC C f n args m Q) (hq:∀ v m',Q v m'->Q' v m'):FC C f n args m Q':=
 λra he P A s R hr x k=>h ra he P A s R hr x λr v m' s' hv x' q=>k r v m' s' hv x' (hq v m' q)
theorem FC.le (h:FC C f n args m Q) (hk:n<=k):FC C f k args m Q:=
 λra he P A s R hr x kk=>h ra he P A s R (hr.le hk) x kk
noncomputable def uL (Q:V->MH->Prop):Fl->Loc->MH->Prop
 | .ret v,_,m=>Q v m
 | .next,_,m=>Q .none m
 | _,_,_=>False
theorem NG {C:Cx} {f:Addr} {n:Nat} {args:List V} {m:MH} {Q:V->MH->Prop} {name qual:Str} {params:Arguments} {body:List Stmt} {scope:Scope} {dV kV doc pm cdv ct oc:Value} {an od:Option Addr} {osl:Array (Option Value)} {loc:Loc}
  (ho:C.K.lookup f=some ⟨oc,od,.func (fnOf name qual params body scope dV kV doc pm an cdv ct),osl⟩) (hcd:codeIn C.K cdv qual=true)
  (hbind:∀ rargs,aD rargs args->∃ binds:List (Str×Value),(∀ s:Shared,C.K.In s.heap->BindsTo s (fnOf name qual params body scope dV kV doc pm an cdv ct) ⟨rargs,[]⟩ binds)/\binds.map (λb=>(b.1,er b.2))=loc.map (λb=>(b.1,some b.2)))
  (hkind:(loc.all λy=>scope.names.lookup y.1==some .local||scope.names.lookup y.1==some .cell)=true)
  (hnd:(loc.map (·.1)).Nodup) (hcn:((cellsFrom 0 scope.names []).map (·.1)).Nodup)
  (hb:∀ env,fZ env scope->WS C n env body loc m (uL Q))
  (hco:scope.isCoroutine=false:=by rfl) (hgen:scope.isGenerator=false:=by rfl) (hk:scope.kind=.function:=by rfl):FC C f (n+1) args m Q:=by
 ext C f n args m Q name qual params body scope dV kV doc pm cdv ct oc an od osl loc;rintro rargs he P A s R hr ⟨d,x⟩ kk;ext rargs P A s R d;obtain ⟨binds,hbt,fV⟩:=hbind rargs he;have hnames:binds.map (·.1)=loc.map (·.1):=by have:=congrArg (lO (·.1)) fV;simpa[vY] using this
 have P4:(binds.map (·.1)).Nodup:=hnames▸hnd;have hkb:∀ y∈binds,(scope.names.lookup y.1==some .local||scope.names.lookup y.1==some .cell)=true:=λy hy=>by have:y.1∈loc.map (·.1):=hnames▸E8 hy;obtain ⟨z,hz,e⟩:=aQ.mp this;rw[<-e];exact gp.mp hkind z hz
 clear hnames;ext binds;refine codeAny_call_function (by have:=hr.2;change A.depth < 1000;exact zn (sS this) (ao rfl)) (x.i7 _ _ ho) rfl hco hgen rfl (codeRec_of x.i7 hcd) (hbt s x.i7 _ _ _ _ ?_);refine wpAny_newFunctionEnv_cells hk (kindsX (by exact gp.mpr hkb) _) λenv wY s' y=>?_;have hcl:env.cells=cellsFrom (s.heap.objs.size+1) scope.names []:=by subst wY;rfl
 have hL:env.locals=s.heap.objs.size:=by subst wY;rfl
 have hsc:env.scope=scope:=by subst wY;rfl
 have hkf:∀ z,env.kindOf z=scope.names.lookup z:=λz=>by change env.scope.names.lookup z=_;rw[hsc]
 have ef:fZ env scope:=⟨hsc,by subst wY;rfl,λz hz=>by rw[hcl];exact cellsFrom_some _ _ _ (.inl hz)⟩;ext env s';obtain ⟨h₁,tk,hs',_⟩:=y.done;have keep:=y.toInCall.keep;refine ⟨(x.top.nolimit.keeps keep),codeAny_func ?_⟩;have x':aP C P m d s':=by have:=x.step (h':=s'.heap) (t:=tk) λa o _ e=>keep a o e;rw[hs'] at this ⊢;exact this
 have big:∀ a,s.heap.objs.size<=a->¬ fp m d a/\P a=none:=λa ha=>by
  refine ⟨λhf=>absurd (x.wO hf) (jF.mpr ha),?_⟩;cases e:P a with
  | none=>rfl
  | some o=>exact absurd (x.wX e) (jF.mpr ha)
 have sr:dB C P env loc m d s':=by
  refine { toaP:=x',kf:=by rw[hsc];exact hk,gl:=by subst wY;rfl,bu:=by subst wY;rfl,nL:=by rw[hL];exact (big _ (aL _)).1,pL:=by rw[hL];exact (big _ (aL _)).2,ns:=⟨_,y.toInCall.ns,λz v hz=>?_⟩,cl:=λz c hc=>?_,ap:=y.apart }
  .have hm:=mem_of_lookup hz;have:(z,some v)∈binds.map (λb=>(b.1,er b.2)):=fV▸aQ.mpr ⟨(z,v),hm,rfl⟩;ext z v;obtain ⟨⟨z',r⟩,Jy,e⟩:=aQ.mp this;ext z' r;obtain ⟨rfl,hv⟩:=ug e;rcases Vd.mp (hkb _ Jy) with hl | hl
   .have hl':env.kindOf z'=some .local:=(hkf _).trans (beq_iff_eq.mp hl);exact .inl ⟨hl',r,YC hl' P4 Jy,hv⟩
   .have hl':env.kindOf z'=some .cell:=(hkf _).trans (beq_iff_eq.mp hl);obtain ⟨c,hc⟩:=yx.mp (ef.cells z' (beq_iff_eq.mp hl));refine .inr ⟨.inl hl',c,r,hc,?_,hv⟩;have:=y.cell z' c hc
    rwa [YE (by rw[hl'];decide) P4 Jy] at this
  .have ha:=y.above z c hc;rw[hL] at ha;have hb:=big c (fy ha);exact ⟨hb.1,by rw[hL];exact F0 ha,⟨_,y.cell z c (Ve (by rw[hcl,<-cellsFrom_names scope.names 0 (s.heap.objs.size+1) [] [] rfl];exact hcn) hc)⟩,λ_=>hb.2⟩
 refine kF (hb env ef P _ s' _ hr.deeper ⟨d,sr⟩ λfl F loc' m' s'' hf x'' q=>?_) (λ_ _ h=>h) λ_ _ h=>h.elim;obtain ⟨d',x''⟩:=x'';cases F with
 | next=>cases fl<;>first | exact kk _ .none _ _ rfl ⟨d',x''.toaP⟩ q | exact hf.elim
 | brk=>exact q.elim
 | cont=>exact q.elim
 | ret v=>cases fl<;>first | exact kk _ v _ _ hf ⟨d',x''.toaP⟩ q | exact hf.elim
end
section
theorem G8 (x:Str) (t:Tok):er (.str x t)=some (.str x):=rfl
noncomputable def cj (name:Str) (v:V):List (Str×V)->List (Str×V)
 | []=>[(name,v)]
 | f::r=>if f.1==name then (f.1,v)::r else f::cj name v r
theorem Zt:cj name v []=[(name,v)]:=rfl
theorem YF:cj name v (f::r)=if (f.1==name)=true then (f.1,v)::r else f::cj name v r:=rfl
theorem YG (h:er r=some v):handedIn r=true:=by cases r<;>first | rfl | cases h
theorem g8.nil:g8 [] []:=⟨rfl,by simp⟩
theorem g8.cons_inv (h:g8 es (f::fs)):∃ e es',es=e::es'/\(∃ t,e.key=.str f.1 t)/\er e.val=some f.2/\g8 es' fs:=by
 ext es f fs;obtain ⟨h,hl⟩:=h;cases es with
 | nil=>cases h
 | cons e es'=>
  rw[bq,bq] at h;obtain ⟨h1,h2⟩:=qA h;obtain ⟨h3,h4⟩:=ug h1;obtain ⟨t,ht⟩:=fX h3;exact ⟨e,es',rfl,⟨t,ht⟩,h4,h2,by rw[fM] at hl;exact zf hl⟩
theorem Gs (x y:Str) (t:Tok):(Value.str y t).isStr x=(y==x):=by rw[isStr_of];rfl
theorem g8.get {fs:List (Str×V)} {es:List DictEntry} {name:Str} {v:V} (hf:g8 es fs) (h:fs.lookup name=some v):∃ r,getL name es=some (some r)/\er r=some v:=by
 induction fs generalizing es with
 | nil=>cases h
 | cons f fs ih=>
  obtain ⟨e,es',rfl,⟨t,ht⟩,hv,hr⟩:=hf.cons_inv;rw[iO] at h;unfold getL;rw[rP,ht,Gs];by_cases q:name=f.1
  .subst q;simp only[CW] at h ⊢;cases h;exact ⟨_,rfl,hv⟩
  .have q1:(name==f.1)=false:=by exact decide_eq_false (by assumption)
   have q2:(f.1==name)=false:=by simpa using λh=>q h.symm
   rw[q1] at h;rw[q2];obtain ⟨r,h1,h2⟩:=ih hr h;refine ⟨r,?_,h2⟩;unfold getL at h1;split at h1
   .rename_i e' he;simp only[he];exact h1
   .split at h1<;>cases h1
theorem g8.noRef {fs:List (Str×V)} {es:List DictEntry} (hf:g8 es fs):es.any (·.refKey)=false:=by
 induction fs generalizing es with
 | nil=>
  obtain ⟨h,_⟩:=hf;cases es with
  | nil=>rfl
  | cons=>cases h
 | cons f fs ih=>
  obtain ⟨e,es',rfl,⟨t,ht⟩,hv,hr⟩:=hf.cons_inv;rw[Mz,ih hr];simp[agY,ht]
theorem g8.miss {fs:List (Str×V)} {es:List DictEntry} {name:Str} (hf:g8 es fs) (h:fs.lookup name=none):es.find? (·.key.isStr name)=none:=by
 induction fs generalizing es with
 | nil=>
  obtain ⟨h,_⟩:=hf;cases es with
  | nil=>rfl
  | cons=>cases h
 | cons f fs ih=>
  obtain ⟨e,es',rfl,⟨t,ht⟩,hv,hr⟩:=hf.cons_inv;rw[iO] at h;by_cases q:name=f.1
  .subst q;simp only[CW] at h;cases h
  .have q1:(name==f.1)=false:=by exact decide_eq_false (by assumption)
   have q2:(f.1==name)=false:=by simpa using λh=>q h.symm
   rw[q1] at h;rw[rP,ht,Gs,q2];exact ih hr h
theorem g8.ae1 (hf:g8 es fs) (h:fs.lookup name=none):getL name es=some none:=by unfold getL;rw[hf.miss h];simp only[hf.noRef,cP,if_false]
theorem V9 (name:Str) (v:V):∀ fs:List (Str×V),(cj name v fs).length<=fs.length+1:=by
 intro l_;induction l_ with
 | nil=>
  exact Mn
 | cons f fs ih=>
  dsimp only[YF];split
  .simp
  .have:=ih;simp;exact this
theorem g8.put (hf:g8 es fs) (hv:er r=some v) (hl:(cj name v fs).length<=900) :
  g8 (Cm name hsh (.str name t) r es) (cj name v fs):=by
 refine ⟨?_,hl⟩;clear hl;induction fs generalizing es with
 | nil=>
  obtain ⟨h,_⟩:=hf;cases es with
  | nil=>simp only[Cm,Zt,bq,ue,G8,hv]
  | cons=>cases h
 | cons f fs ih=>
  obtain ⟨e,es',rfl,⟨t',ht⟩,hv',hr⟩:=hf.cons_inv;unfold Cm cj;rw[ht,Gs];by_cases q:(f.1==name)=true
  .rw[if_pos q,if_pos q];simp only[bq,ht,G8,hv,hr.1]
  .rw[if_neg q,if_neg q];simp only[bq,ht,G8,hv',ih hr]
section
variable {C:Cx} {n:Nat} {env:Env} {loc:Loc} {m:MH}
theorem aP.inst (x:aP C P m d s) (h:m a=some (.inst c fs)):∃ es k,s.heap.get? (d a)=some (di es k)/\g8 es fs/\InstAt s.heap a (instObj c (d a)) c (some (dictOf es k)):=by obtain ⟨h1,es,k,h2,h3⟩:=x.rep a _ h;exact ⟨es,k,h2,h3,⟨h1,rfl,rfl,h2⟩⟩
noncomputable def attrOk (K:Frag) (c:Addr) (name:Str):Bool:=plainGet K c name&&hasDictIn K c&&(match findIn K (.ref c) name with | some a=>noGet K a | none=>false)
theorem XH (hm:m a=some (.inst c fs)) (hv:fs.lookup name=some v) (ok:attrOk C.K c name=true) (h:Q v m) :
  TR C n (getAttr (.ref a) name b) m Q:=by
 rintro P A s R hr ⟨d,x⟩ kk;obtain ⟨es,k,h2,h3,I⟩:=x.inst hm;obtain ⟨r,hg,he⟩:=h3.get hv;unfold attrOk at ok;rw[lH,lH] at ok;obtain ⟨⟨o1,o2⟩,o3⟩:=ok;split at o3
 .rename_i at' ha;exact get_value x.i7 I (MX o1).1 (findObj_own o2 ha o3 (by rw[lookIn_dict];exact hg)) (YG he) (kk r v m _ he ⟨d,x.tok _⟩ h)
 .cases o3
noncomputable def setOk (K:Frag) (c:Addr) (name:Str):Bool:=findIn K (.ref c) "__setattr__" == some (some (.builtin "object.__setattr__"))&&plainOver K c&&takerIn K c name==some none&&hasDictIn K c
theorem XI (hm:m a=some (.inst c fs)) (hv:er r=some v) (ok:setOk C.K c name=true) (hl:fs.length < 900) (h:Q (m.set a (.inst c (cj name v fs)))) :
  TU C n (setAttr (.ref a) name r) m Q:=by
 ext C n m a c fs name r v Q;rintro P A ⟨hh,g,dr,tk,os⟩ R hr ⟨d,x⟩ kk;obtain ⟨es,k,h2,h3,I⟩:=x.inst hm;have i7:=x.i7;dsimp only at h2 I i7;unfold setOk at ok;simp only[lH,beq_iff_eq] at ok;obtain ⟨⟨⟨o1,o2⟩,o3⟩,o4⟩:=ok;refine set_plain i7 I o1 (osa_open (s:=⟨hh,g,dr,tk+1,os⟩) i7 I o2 o3 λb=>?_);obtain ⟨cd,hc,hd'⟩:=any_some o4;have RU:(cj name v fs).length<=900:=by have:=V9 name v fs;exact zz this hl
 have hfp:=h3.put (name:=name) (hsh:=Cd C.w.params name) (t:=tk+1) hv RU;have D:=h2;have e:=putName_dict name (Cd C.w.params name) (.str name (tk+1)) r es k;have D':(hh.update (d a) (Obj.putName name (Cd C.w.params name) (.str name (tk+1)) r)).get? (d a)=some (di (Cm name (Cd C.w.params name) (.str name (tk+1)) r es) (putN name es k)):=by rw[BS _ D (by rw[e];rfl),e]
 refine az (bh (az (az (Wk I.at_ (az ((looks_clsIn i7 hc).at ?_))))));rw[hd'];refine bh (a:=some (d a)) (az (bh (az ?_)));unfold nsSet;refine az (az (wpAny_askSetting (bh (az (wpAny_mkText (az (Wk D ?_)))))));dsimp only;have c0:(!es.toArray.any (·.key.isStr name)&&es.toArray.any (·.refKey))=false:=by rw[<-VN,<-VN,h3.noRef,Bool.and_false]
 rw[aRefKeyMayBeTheName_at,c0];show wpAny_updatePart D;refine az (wpAny_lookBehind D' (pastItsLine_dict (by
  have:(Cm name (Cd C.w.params name) (.str name (tk+1)) r es).length=(cj name v fs).length:=by have:=congrArg ji hfp.1;simpa using this
  rw[cV,this,dZ];exact zz RU aI)) ?_)
 exact bh (kk () () _ _ rfl ⟨d,x.Zs hm (vV ..) D' hfp⟩ h)
theorem cM (h:Q [] m):WA C n env [] loc m Q:=λ_ _ _ _ _ _ x kk=>L6 (kk _ _ _ _ aD.nil x h)
theorem dI (h:WE C n env e loc m λv m1=>WA C n env rest loc m1 λvs m2=>Q (v::vs) m2)
  (he:∀ env,starEach (e::rest) env=(false,eval e env)::starEach rest env:=by walk_at "ir"):WA C n env (e::rest) loc m Q:=by
 intro pos P A s R hr x kk;rw[he];exact LZ (h P A s _ hr x λr v m1 s1 hv x1 h1=>h1 pos P A s1 _ hr x1 λrs vs m2 s2 hvs x2 q=>kk _ _ _ _ (aD.cons hv hvs) x2 q)
theorem yV (hr:dF n A) (x:SR C P env loc m s) (h:WA C n env args loc m Q)
  (hne:args=[]\/∃ e rest,args=e::rest/\∀ env,starEach (e::rest) env=(false,eval e env)::starEach rest env)
  (kk:∀ rs vs m' s',aD rs vs->SR C P env loc m' s'->Q vs m'->R ⟨rs,[]⟩ s'):wpAny (model C.prog C.w) A (evalArgs f true (backTo pos (starEach args env)) []) R dP s:=by
 rcases hne with rfl | ⟨e,rest,rfl,he⟩
 .unfold evalArgs;change wpAny _ A (spliced [] >>= _) _ _ s;refine az (h pos P A s _ hr x λrs vs m' s' hv x' q=>az (bh ?_));show ud;exact az (bh (az (bh (bh (kk rs vs m' s' hv x' q)))))
 .rw[he];show evalArgs_plain;have:=h pos P A s (λrs s'=>R ⟨rs,[]⟩ s') hr x λrs vs m' s' hv x' q=>kk rs vs m' s' hv x' q;rw[he] at this;exact this
end
end
section
section
variable {C:Cx} {n:Nat} {env:Env} {loc:Loc} {m:MH}
noncomputable def jG (args:List Expr):Prop:=args=[]\/∃ e rest,args=e::rest/\∀ env,starEach (e::rest) env=(false,eval e env)::starEach rest env
theorem ahb:jG []:=.inl rfl
theorem XJ (h:∀ env,starEach (e::rest) env=(false,eval e env)::starEach rest env):jG (e::rest):=.inr ⟨e,rest,rfl,h⟩
theorem MP (hr:dF n A) (x:SR C P env loc m s) (hk:keepIn C.K (.ref f)=true) (hf:aD ab8 first)
  (hp:jG args) (hs:(backTo pos (starEach args env)).any (·.1)=false)
  (h:WA C n env args loc m λvs m'=>FC C f n (first++vs) m' Q) (kk:∀ r v m' s',er r=some v->SR C P env loc m' s'->Q v m'->R r s') :
  wpAny (model C.prog C.w) A (callWith pos (.ref f) ab8 (backTo pos (starEach args env)) []) R dP s:=by
 refine callWith_of (P:=λh=>C.K.In h) (by rw[hs];rfl) (keeps_K hk) (yV hr x h hp λrs vs m' s' hv x' q=>?_);obtain ⟨d,x'⟩:=x';refine ⟨x'.i7,wpAny_call ?_⟩;obtain ⟨y,back⟩:=x'.frame;exact q _ (hf.append hv) _ A s' _ hr ⟨d,y⟩ λr v iu s'' hv' ⟨d',y'⟩ hq=>kk r v iu s'' hv' ⟨d',back _ _ _ y'⟩ hq
theorem Oi (hkd:env.kindOf g=some .globalImplicit) (e:nsIn C.K mainGlobals g=some (some (.ref f))) (hk:keepIn C.K (.ref f)=true)
  (h:WA C n env args loc m λvs m'=>FC C f n vs m' Q) (hp:jG args:=by walk_at "pl") (hs:(backTo pos (starEach args env)).any (·.1)=false:=by rfl) (hd:(g==("__debug__" : Str))=false:=by decide) :
  WE C n env (.Call (.Name g p) args [] pos) loc m Q:=by
 rintro P A s R hr ⟨d,x⟩ kk;refine Fc (F4 x hkd e ?_ hd);exact MP hr ⟨d,x⟩ hk aD.nil hp hs h kk
noncomputable def CY (K:Frag) (c:Addr) (name:Str) (f:Addr):Bool:=plainGet K c name&&findIn K (.ref c) name==some (some (.ref f))&&isFn K (.ref f)&&keepIn K (.ref f)
theorem aaL
  (h:WE C n env o loc m λv m'=>∃ a c fs f,v=.ref a/\m' a=some (.inst c fs)/\CY C.K c name f=true/\fs.lookup name=none/\WA C n env args loc m' λvs iu=>FC C f n (.ref a::vs) iu Q)
  (hp:jG args:=by walk_at "pl") (hs:(backTo pos (starEach args env)).any (·.1)=false:=by rfl)
  (hbase:attributeBase o name env (eval o env)=eval o env:=by rfl) (hline:(apos.endLine==pos.line)=true:=by rfl)
  (hfew:((backTo pos (starEach args env)).all (λx=>!x.1)&&(backToKw pos (keywordEach [] env)).all (λx=>x.1.isSome)&&decide (args.length+([]:List Keyword).length+(if ([]:List Keyword).isEmpty then 0 else 1) < 30))=true:=by rfl) :
  WE C n env (.Call (.Attribute o name apos) args [] pos) loc m Q:=by
 intro P A s R hr x kk;rw[arm_eval_Call,hbase];refine az (h P A s _ hr x λr v m1 s1 hv x1 h1=>?_);obtain ⟨a,c,fs,f,rfl,hm,ok,hl,hw⟩:=h1;have e:=bD hv;subst e;unfold CY at ok;simp only[lH,beq_iff_eq] at ok;obtain ⟨⟨⟨o1,o2⟩,o3⟩,o4⟩:=ok;obtain ⟨d,x1⟩:=x1;obtain ⟨es,k,h2,h3,I⟩:=x1.toaP.inst hm;refine az (Cg ?_);have ac5:methodCallForm (args.length+([]:List Keyword).length) (backTo pos (starEach args env)) (backToKw pos (keywordEach [] env))=true:=hfew;have hpos:methodCallPos true o env apos pos=pure pos:=by unfold methodCallPos;simp[hline]
 unfold methodCall;rw[ac5];refine az (ud (method_fn x1.i7 I (MX o1).1 (MX o1).2 o2 (beq_iff_eq.mp o3) (by change (lookIn name (dictOf es k)).map _=_;rw[lookIn_dict,h3.ae1 hl];rfl) ?_));refine az (uh hpos ?_);exact MP hr ⟨d,x1⟩ o4 (aD.cons rfl aD.nil) hp hs hw kk
theorem aaM (h:WE C n env o loc m λv m'=>∃ a c fs w,v=.ref a/\m' a=some (.inst c fs)/\fs.lookup name=some w/\attrOk C.K c name=true/\Q w m')
  (he:eval (.Attribute o name pos) env=(do
   let o'<-eval o env
   standAt pos.atName
   let r<-holding [o'] (getAttr o' name true)
   letTemporaryGo o o' r
   pure r):=by with_unfolding_all rfl):WE C n env (.Attribute o name pos) loc m Q:=by
 intro P A s R hr x kk;refine Attribute_any_ (h P A s _ hr x λr v m1 s1 hv x1 h1=>?_) he;obtain ⟨a,c,fs,w,rfl,hm,hl,ok,hq⟩:=h1;have e:=bD hv;subst e;exact FG.lR (XH hm hl ok hq) P A s1 R hr x1 kk
theorem XK
  (h:WE C n env e loc m λw m1=>WE C n env o loc m1 λv m2=>∃ a c fs,v=.ref a/\m2 a=some (.inst c fs)/\setOk C.K c name=true/\fs.length < 900/\Q .next loc (m2.set a (.inst c (cj name w fs))))
  (hs:swapsWith e (some (.Attribute o name p1)) pos.line env=pure false:=by rfl):W1 C n env (.Assign [.Attribute o name p1] e pos) loc m Q:=by
 intro P A s R hr x kk;refine plainObj_wpAny_Assign_Attribute (h P A s _ hr x λr w m1 s1 hw x1 h1=>h1 P A s1 _ hr x1 λr' v m2 s2 hv x2 h2=>?_) hs;obtain ⟨a,c,fs,rfl,hm,ok,hl,hq⟩:=h2;have e':=bD hv;subst e';refine FG.lR (XI (Q:=λm3=>m3=m2.set a (.inst c (cj name w fs))) hm hw ok hl rfl) P A s2 _ hr x2 λ_ _ m3 s3 _ x3 q=>?_;exact kk _ .next _ _ _ trivial x3 (q▸hq)
theorem dF.new (h:dF (n+1) A):dF n (A.under (.builtin "type.__call__" ⟨.ref c::rest,kw⟩)):=by
 refine ⟨h.1,?_,?_⟩
 .have:=h.2;change A.depth+_+4*n < 900;have hw:(Code.builtin "type.__call__" ⟨Value.ref c::rest,kw⟩).weight<=1:=by
   have:(Code.builtin "type.__call__" ⟨Value.ref c::rest,kw⟩).weight=1:=by kernel_rfl
   exact ze this
  exact zm (dm qV (iH (zz (gQ (zz hw (zb rfl))) (ze pZ)))) this
 .have:=h.3;change A.units+_+16*n < 9000;have hw:(Code.builtin "type.__call__" ⟨Value.ref c::rest,kw⟩).cUnits<=4:=by
   have:(Code.builtin "type.__call__" ⟨Value.ref c::rest,kw⟩).cUnits=(Code.builtin "type.__call__" ⟨[.ref 0],[]⟩).cUnits:=by kernel_rfl
   rw[this];decide +kernel
  exact zm (dm qV (iH (zz (gQ (zz hw (zb rfl))) (ze pZ)))) this
noncomputable def newOk (K:Frag) (c f:Addr):Bool:=makesIn K c&&findIn K (.ref c) "__init__" == some (some (.ref f))&&typeIn K (.ref f)==some (.type "function")&&keepIn K (.ref c)
theorem ab9 (hkd:env.kindOf g=some .globalImplicit) (e:nsIn C.K mainGlobals g=some (some (.ref c))) (ok:newOk C.K c f=true)
  (h:WA C (n+1) env args loc m λvs m'=>∀ a,m' a=none->FC C f n (.ref a::vs) (m'.set a (.inst c [])) λv iu=>v=.none/\Q (.ref a) iu)
  (hp:jG args:=by walk_at "pl") (hs:(backTo pos (starEach args env)).any (·.1)=false:=by rfl) (hd:(g==("__debug__" : Str))=false:=by decide) :
  WE C (n+1) env (.Call (.Name g p) args [] pos) loc m Q:=by
 rintro P A s R hr ⟨d,x⟩ kk;unfold newOk at ok;simp only[lH,beq_iff_eq] at ok;obtain ⟨⟨⟨o1,o2⟩,o3⟩,o4⟩:=ok;refine Fc (F4 x hkd e ?_ hd);refine callWith_of (P:=λh=>C.K.In h) (by change ((backTo pos (starEach args env)).any _||_)=false;rw[hs];rfl) (keeps_K o4) (yV hr ⟨d,x⟩ h hp λrs vs m1 s1 hv x1 h1=>?_);obtain ⟨d1,x1⟩:=x1;refine ⟨x1.i7,wpAny_call ?_⟩;obtain ⟨y,back⟩:=x1.frame;have i7:=x1.i7;obtain ⟨hh,gg,dr,tk,os⟩:=s1;show make_core (makes_of i7 o1) (looks_findIn i7 o2) (λself=>bind_fn i7 self o3) (.inl rfl);have nw:=y.new;have hdx:¬ fp m1 d1 (hh.objs.size+1)/\lW m1 d1 hh (hh.objs.size+1)=none:=by
  refine ⟨λhf=>absurd (y.wO hf) (by change ¬ (hh.objs.size+1 < hh.objs.size);exact ie eF),?_⟩;cases q:lW m1 d1 hh (hh.objs.size+1) with
  | none=>rfl
  | some o=>exact absurd (y.wX q) (by change ¬ (hh.objs.size+1 < hh.objs.size);exact ie eF)
 have z:=y.Yz (h':=(hh.push emptyDict).push (instObj c hh.objs.size)) (t:=tk) (a:=hh.objs.size+1) (dx:=hh.objs.size) (c:=c) (n:=0) hdx.1 nw.1 (gq (B9 _)) hdx.2 nw.2
  (λb ob hb=>gC _ (gC _ hb)) (by have:=gF (hh.push emptyDict) (o:=instObj c hh.objs.size) rfl;rwa [qz] at this)
  (gC _ (gF hh (o:=emptyDict) rfl))
 have hma:m1 (hh.objs.size+1)=none:=by
  cases q:m1 (hh.objs.size+1) with
  | none=>rfl
  | some o=>exact (hdx.1 (.inl (by rw[q];exact gm _))).elim
 refine h1 _ hma _ (aD.cons rfl hv) _ _ _ _ hr.new ⟨_,z⟩ λr v m2 s2 hv2 ⟨d2,x2⟩ hq=>?_;obtain ⟨rfl,hq⟩:=hq;have e2:=zN hv2;subst e2;exact ⟨rfl,kk _ (.ref (hh.objs.size+1)) m2 s2 rfl ⟨d2,back _ _ _ x2⟩ hq⟩
theorem Zu {g:Str} {id:String} {p pos:Pos} {args:List Expr} {Q:V->MH->Prop} (hkd:env.kindOf g=some .globalImplicit) (e:nsIn C.K mainGlobals g=some none) (hb:bootBuiltins g=some (.builtin id))
  (h:WA C n env args loc m λvs m'=>∀ rs,aD rs vs->TR C n (call (.builtin id) rs) m' Q)
  (hp:jG args:=by walk_at "pl") (hs:(backTo pos (starEach args env)).any (·.1)=false:=by rfl) (hn:g≠"__name__":=by decide) (hd:(g==("__debug__" : Str))=false:=by decide) :
  WE C n env (.Call (.Name g p) args [] pos) loc m Q:=by
 rintro P A s R hr ⟨d,x⟩ kk;refine Fc (Ck x hkd e hb hn ?_ hd);refine VO hs (yV hr ⟨d,x⟩ h hp λrs vs m1 s1 hv x1 h1=>?_);exact FG.lR (h1 rs hv) P A s1 R hr x1 kk
theorem Zv (hkd:env.kindOf g=some .globalImplicit) (e:nsIn C.K mainGlobals g=some none) (hb:bootBuiltins g=some (.type T))
  (h:WA C n env args loc m λvs m'=>∀ rs,aD rs vs->TR C n (call (.type T) rs) m' Q)
  (hp:jG args:=by walk_at "pl") (hs:(backTo pos (starEach args env)).any (·.1)=false:=by rfl) (hn:g≠"__name__":=by decide) (hd:(g==("__debug__" : Str))=false:=by decide) :
  WE C n env (.Call (.Name g p) args [] pos) loc m Q:=by
 rintro P A s R hr ⟨d,x⟩ kk;refine Fc (Ck x hkd e hb hn ?_ hd);refine LF hs (yV hr ⟨d,x⟩ h hp λrs vs m1 s1 hv x1 h1=>?_);exact FG.lR (h1 rs hv) P A s1 R hr x1 kk
noncomputable def oT:O->Option String
 | .list _=>some "list"
 | .tuple _=>some "tuple"
 | .inst _ _=>none
 | _=>some "dict"
noncomputable def vT (m:MH):V->Option String
 | .str _=>some "str"
 | .int _=>some "int"
 | .bool _=>some "bool"
 | .none=>some "NoneType"
 | .ref a=>(m a).bind oT
noncomputable def IsT (m:MH) (v:V) (T:String):Prop:=vT m v=some T
theorem zO (h:m a=some o) (e:oT o=some T):IsT m (.ref a) T:=(show (m a).bind oT=some T from h▸e)
theorem gG (h:m a=some (.list xs)):IsT m (.ref a) "list":=zO h rfl
theorem IsT.typeIs (x:aP C P m d s) (h:IsT m v T) (hv:er r=some v):s.TypeIs r T/\∀ a,r=.ref a->∃ ob,s.heap.get? a=some ob/\ob.dict=none:=by
 ext C m P d s v r T;cases v with
 | none=>cases h;rw[zN hv];exact ⟨rfl,λa e=>by cases e⟩
 | bool b=>cases h;rw[wI hv];exact ⟨rfl,λa e=>by cases e⟩
 | int i=>cases h;obtain ⟨t,rfl⟩:=bS hv;exact ⟨rfl,λa e=>by cases e⟩
 | str i=>cases h;obtain ⟨t,rfl⟩:=fX hv;exact ⟨rfl,λa e=>by cases e⟩
 | ref a=>
  have e:=bD hv;subst e;change (m a).bind oT=some T at h;cases hm:m a with
  | none=>rw[hm] at h;cases h
  | some o=>
   rw[hm] at h;change oT o=some T at h;have rep:=x.rep a o hm;cases o with
   | list xs=>cases h;obtain ⟨rs,k,h1,_⟩:=rep;exact ⟨⟨_,h1,rfl⟩,λb e=>by cases e;exact ⟨_,h1,rfl⟩⟩
   | tuple xs=>cases h;obtain ⟨rs,k,h1,_⟩:=rep;exact ⟨⟨_,h1,rfl⟩,λb e=>by cases e;exact ⟨_,h1,rfl⟩⟩
   | dj es ep=>cases h;obtain ⟨kvs,h1,_⟩:=rep;exact ⟨h1.dictOf.typeIs,λb e=>by cases e;obtain ⟨o,es,ho,hx,_⟩:=h1;exact ⟨o,ho,hx.2.1⟩⟩
   | jZ es=>cases h;obtain ⟨kvs,h1,_⟩:=rep;exact ⟨h1.typeIs,λb e=>by cases e;obtain ⟨o,es,ep,ho,hx,_⟩:=h1;exact ⟨o,ho,hx.2.1⟩⟩
   | bE es ep=>cases h;obtain ⟨bA,h1,_⟩:=rep;exact ⟨⟨_,h1,rfl⟩,λb e=>by cases e;exact ⟨_,h1,rfl⟩⟩
   | inst=>cases h
theorem eB {o:Expr} {name:Str} {T id:String} {apos pos:Pos} {args:List Expr} {Q:V->MH->Prop} (pa:PlainAttrs T) (slot:Slot T name id) (hty:typeOf (.builtin id)=pure (.type "method_descriptor"))
  (h:WE C n env o loc m λv m'=>IsT m' v T/\WA C n env args loc m' λvs iu=>∀ r rs,er r=some v->aD rs vs->TR C n (call (.builtin id) (r::rs)) iu Q)
  (hp:jG args:=by walk_at "pl") (hs:(backTo pos (starEach args env)).any (·.1)=false:=by rfl)
  (hbase:attributeBase o name env (eval o env)=eval o env:=by rfl) (hline:(apos.endLine==pos.line)=true:=by rfl)
  (hfew:((backTo pos (starEach args env)).all (λx=>!x.1)&&(backToKw pos (keywordEach [] env)).all (λx=>x.1.isSome)&&decide (args.length+([]:List Keyword).length+(if ([]:List Keyword).isEmpty then 0 else 1) < 30))=true:=by rfl) :
  WE C n env (.Call (.Attribute o name apos) args [] pos) loc m Q:=by
 intro P A s R hr x kk;refine wpAny_Call_method hbase hfew hline pa slot hty (h P A s _ hr x λr v m1 s1 hv x1 h1=>?_);obtain ⟨hT,hw⟩:=h1;obtain ⟨d,x1⟩:=x1;obtain ⟨t1,t2⟩:=hT.typeIs x1.toaP hv;refine ⟨t1,t2,VO hs (yV hr ⟨d,x1⟩ hw hp λrs vs m2 s2 hvs x2 h2=>?_)⟩;exact FG.lR (h2 r rs hv hvs) P A s2 R hr x2 kk
theorem TR.alloc (hi:∀ c fs,o≠.inst c fs) (ht:∀ A s (R:Value->Shared->Prop),R (.ref s.heap.objs.size) { s with heap:=s.heap.push ob }->wpAny (model C.prog C.w) A t R dP s) (hob:ob.isFreed=false)
  (hrep:∀ m' h d a,h.get? a=some ob->(∀ b o,m b=some o->m' b=some o)->Rep C m' h d a o)
  (h:∀ a,m a=none->Q (.ref a) (m.set a o)):TR C n t m Q:=by
 rintro P A s R hr ⟨d,x⟩ kk;show ht A s R;have nw:=x.new;have hma:m s.heap.objs.size=none:=by
  cases q:m s.heap.objs.size with
  | none=>rfl
  | some o=>exact (nw.1 (.inl (by rw[q];exact gm _))).elim
 exact kk _ (.ref s.heap.objs.size) _ _ rfl ⟨d,x.alloc nw.1 nw.2 hi (λb o e=>gC _ e) (hrep _ _ _ _ (gF _ hob) λb o e=>MH.av hma b o e)⟩ (h _ hma)
theorem XM (hv:aD rs vs) (hl:vs.length<=2 ^ 20) (h:∀ a,m a=none->Q (.ref a) (m.set a (.list vs))):TR C n (newList rs) m Q:=
 TR.alloc (o:=.list vs) (ob:=lo rs 0) (λ_ _ e=>by cases e) (λA s R hq=>rL hq (by change rs.toArray.size<=sizeLine;rw[cV,hv.length,dZ];exact zz hl aI)) rfl (λ_ _ _ _ e _=>⟨rs,0,e,hv⟩) h
theorem Xk (hv:aD rs vs) (hl:vs.length<=2 ^ 20) (h:∀ a,m a=none->Q (.ref a) (m.set a (.tuple vs))):TR C n (newTuple rs) m Q:=
 TR.alloc (o:=.tuple vs) (ob:=tu rs 0) (λ_ _ e=>by cases e) (λA s R hq=>rL hq (by change rs.toArray.size<=sizeLine;rw[cV,hv.length,dZ];exact zz hl aI)) rfl (λ_ _ _ _ e _=>⟨rs,0,e,hv⟩) h
theorem bR (h:WA C n env es loc m λvs m'=>vs.length<=2 ^ 20/\∀ a,m' a=none->Q (.ref a) (m'.set a (.list vs))):WE C n env (.List es pos) loc m Q:=by intro P A s R hr x kk;refine List_ (h pos P A s _ hr x λrs vs m1 s1 hv x1 h1=>?_);exact FG.lR (XM hv h1.1 h1.2) P A s1 R hr x1 kk
theorem eE (h:WA C n env es loc m λvs m'=>vs.length<=2 ^ 20/\∀ a,m' a=none->Q (.ref a) (m'.set a (.tuple vs))):WE C n env (.Tuple es k pos) loc m Q:=by intro P A s R hr x kk;refine Tuple_ (h pos P A s _ hr x λrs vs m1 s1 hv x1 h1=>?_);exact FG.lR (Xk hv h1.1 h1.2) P A s1 R hr x1 kk
end
end
section
theorem dB.but (x:dB C P env loc m d s) (hf:¬ fp m d I) (hP:P I=none) (hL:I≠env.locals) (hc:∀ y c,(y,c)∈env.cells->c≠I)
  (e:Cq I s.heap h'):dB C P env loc m d { s with heap:=h',toks:=t }:=by
 obtain ⟨mm,hn,hs⟩:=x.ns;refine { toaP:=x.toaP.step λa o hp h=>e a o (λq=>?_) h,kf:=x.kf,gl:=x.gl,bu:=x.bu,nL:=x.nL,pL:=x.pL,ns:=⟨mm,hn.extBut e (r7 hL),λz v hz=>?_⟩,cl:=λz c hz=>?_,ap:=x.ap }
 .rcases hp with hp | hp
  .exact hf (q▸hp)
  .rw[q,hP] at hp;cases hp
 .rcases hs z v hz with h | ⟨hk,c,r,h1,h2,h3⟩
  .exact .inl h
  .exact .inr ⟨hk,c,r,h1,pq h2 λo ho=>e c o (hc z c (mem_of_lookup h1)) ho,h3⟩
 .obtain ⟨h1,h2,⟨cv,h3⟩,h4⟩:=x.cl z c hz;exact ⟨h1,h2,⟨cv,pq h3 λo ho=>e c o (hc z c hz) ho⟩,h4⟩
noncomputable def sC (P:Addr->Option Obj) (I:Addr) (ob:Obj):Addr->Option Obj:=λa=>if a=I then some ob else P a
theorem Gu:sC P I ob I=some ob:=if_pos rfl
theorem pD (h:a≠I):sC P I ob a=P a:=if_neg h
theorem aP.add (x:aP C P m d s) (hI:s.heap.get? I=some ob) (hf:¬ fp m d I) (hP:P I=none):aP C (sC P I ob) m d s:=by
 refine ⟨x.ok,x.same,λa o h=>?_,λa o h=>?_,x.rep,λa h=>?_,x.sep,x.inj⟩
 .have:a≠I:=λq=>by have:=x.base a o h;rw[q,hP] at this;cases this
  rw[pD this];exact x.base a o h
 .by_cases q:a=I
  .subst q;rw[Gu] at h;cases h;exact hI
  .rw[pD q] at h;exact x.keep a o h
 .have:a≠I:=λq=>hf (q▸h);rw[pD this];exact x.off a h
theorem aP.sub (x:aP C (sC P I ob) m d s) (hP:P I=none) (hB:∀ a o,C.base.get? a=some o->P a=some o):aP C P m d s/\¬ fp m d I/\s.heap.get? I=some ob:=by
 refine ⟨x.less (λa o h=>?_) hB,λh=>?_,x.keep _ _ Gu⟩
 .have:a≠I:=λq=>by rw[q,hP] at h;cases h
  rw[pD this];exact h
 .have:=x.off I h;rw[Gu] at this;cases this
theorem dB.add (x:dB C P env loc m d s) (hI:s.heap.get? I=some ob) (hf:¬ fp m d I) (hP:P I=none) (hL:I≠env.locals) (hc:∀ y c,(y,c)∈env.cells->c≠I) :
  dB C (sC P I ob) env loc m d s:=
 { toaP:=x.toaP.add hI hf hP,kf:=x.kf,gl:=x.gl,bu:=x.bu,nL:=x.nL,pL:=(by rw[pD (r7 hL)];exact x.pL),ns:=x.ns,cl:=λz c hz=>by obtain ⟨h1,h2,h3,h4⟩:=x.cl z c hz;exact ⟨h1,h2,h3,λq=>by rw[pD (hc z c hz)];exact h4 q⟩,ap:=x.ap }
theorem dB.sub (x:dB C (sC P I ob) env loc m d s) (hP:P I=none) (hB:∀ a o,C.base.get? a=some o->P a=some o) (hL:I≠env.locals) (hc:∀ y c,(y,c)∈env.cells->c≠I) :
  dB C P env loc m d s/\¬ fp m d I/\s.heap.get? I=some ob:=by
 obtain ⟨h1,h2,h3⟩:=x.toaP.sub hP hB;have p1:P env.locals=none:=by have:=x.pL;rwa [pD (r7 hL)] at this
 have p2:∀ z c,(z,c)∈env.cells->¬ fp m d c/\c≠env.locals/\(∃ cv,s.heap.IsCell c cv)/\(env.func.isSome=true->P c=none):=λz c hz=>by obtain ⟨h1,h2,h3,h4⟩:=x.cl z c hz;exact ⟨h1,h2,h3,λq=>by have:=h4 q;rwa [pD (hc z c hz)] at this⟩
 exact ⟨⟨h1,x.kf,x.gl,x.bu,x.nL,p1,x.ns,p2,x.ap⟩,h2,h3⟩
theorem dB.push (x:dB C P env loc m d s) (ob:Obj) (t:Nat):dB C P env loc m d { s with heap:=s.heap.push ob,toks:=t }:=by obtain ⟨y,back⟩:=x.frame;exact back _ _ _ (y.step λa o _ h=>gC _ h)
theorem dB.fresh (x:dB C P env loc m d s) (h:s.heap.objs.size<=I):¬ fp m d I/\P I=none/\I≠env.locals/\∀ y c,(y,c)∈env.cells->c≠I:=by
 obtain ⟨mm,hn,_⟩:=x.ns;refine ⟨λq=>absurd (x.toaP.wO q) (jF.mpr h),?_,λq=>absurd hn.lt (by rw[<-q];exact jF.mpr h),λy c hc q=>?_⟩
 .cases e:P I with
  | none=>rfl
  | some o=>exact absurd (x.toaP.wX e) (jF.mpr h)
 .obtain ⟨_,_,⟨cv,h3⟩,_⟩:=x.cl y c hc;exact absurd h3.lt (by rw[q];exact jF.mpr h)
theorem xF (h:wpAny M A t R dP s):wpAny M A t R E s:=kF h (λ_ _ h=>h) λ_ _ h=>h.elim
noncomputable def Zw:List String:=["enumerate","zip","dict_itemiterator","dict_reverseitemiterator","odict_iterator","itertools.zip_longest","itertools.pairwise"]
noncomputable def Ni (ob:Obj):Prop:=∃ n,ob.cls=.type n/\Zw.contains n=false
theorem NH (hI:s.heap.get? I=some ob) (hp:Ni ob) (h:R () s) :
  wpAny M A (letOwnedTupleGo target (.ref I) r) R E s:=by
 obtain ⟨n,hc,hn⟩:=hp;have body:wpAny M A (do
   let (.ref r',.ref a):=((Value.ref I,r):Value×Value) | return
   let o<-load r'
   match o.cls,o.data with
   | .type n,.fields vs=>
    if ["enumerate","zip","dict_itemiterator","dict_reverseitemiterator","odict_iterator","itertools.zip_longest","itertools.pairwise"].contains n&&vs[0]? == some (rawInt a) then
     rule "for.unpacks-the-owned-tuple"
     updateField r' 0 .none
   | _,_=>pure ():Sem Unit) R E s:=by
  cases r with
  | ref a=>
   refine az (wpAny_load hI ?_);obtain ⟨c,dd,dt,sl⟩:=ob;dsimp only at hc;subst hc;cases dt with
   | fields vs=>
    dsimp only;have hn':(["enumerate","zip","dict_itemiterator","dict_reverseitemiterator","odict_iterator","itertools.zip_longest","itertools.pairwise"].contains n)=false:=hn;rw[hn',Bool.false_and];exact bh h
   | _=>exact bh h
  | _=>exact bh h
 cases target<;>first | exact body | exact bh h
structure Src (C:Cx) (A:Around) (I:Addr) (len:Nat) (item:Nat->V) (cond:MH->Prop) (St:Nat->Obj->Prop):Prop where
 next:∀ i P m d s ob (R:Option Value->Shared->Prop),i < len->aP C P m d s->cond m->s.heap.get? I=some ob->St i ob->
  (∀ r h' t iI,er r=some (item i)->h'.get? I=some iI->St (i+1) iI->Cq I s.heap h'->R (some r) { s with heap:=h',toks:=t })->wpAny (model C.prog C.w) A (pyNext (.ref I)) R dP s
 stop:∀ P m d s ob (R:Option Value->Shared->Prop),aP C P m d s->cond m->s.heap.get? I=some ob->St len ob->
  (∀ h' t,Cq I s.heap h'->R none { s with heap:=h',toks:=t })->wpAny (model C.prog C.w) A (pyNext (.ref I)) R dP s
 plain:∀ i ob,St i ob->Ni ob
 self:∀ i s ob (R:Value->Shared->Prop),s.heap.get? I=some ob->St i ob->R (.ref I) s->wpAny (model C.prog C.w) A (pyIter (.ref I)) R dP s
noncomputable def HQ (J:Loc->MH->Prop) (Q:Fl->Loc->MH->Prop):Fl->Loc->MH->Prop
 | .next,l,m=>J l m
 | .cont,l,m=>J l m
 | .brk,l,m=>Q .next l m
 | .ret v,l,m=>Q (.ret v) l m
section
variable {C:Cx} {n:Nat} {env:Env} {loc:Loc} {m:MH}
theorem WV {P A s} {R:Result->Shared->Prop} {target:Expr} {body:List Stmt} {I:Addr} {len:Nat} {item:Nat->V} {cond:MH->Prop} {St:Nat->Obj->Prop} {ob:Obj} {Q:Fl->Loc->MH->Prop}
  (hr:dF n A) {d:Addr->Addr} (src:Src C A I len item cond St) (x:dB C P env loc m d s) (hI:s.heap.get? I=some ob) (hS:St 0 ob) (hB:∀ a o,C.base.get? a=some o->P a=some o)
  (hP:P I=none) (hf:¬ fp m d I) (hL:I≠env.locals) (hc:∀ y c,(y,c)∈env.cells->c≠I)
  (J:Nat->Loc->MH->Prop) (h0:J 0 loc m) (uH:∀ i l mm,J i l mm->cond mm)
  (turn:∀ i l mm,i < len->J i l mm->WG C n env target (item i) l mm λl' m'=>WS C n env body l' m' (HQ (J (i+1)) Q))
  (done:∀ l mm,J len l mm->Q .next l mm)
  (kk:∀ f F loc' m' s',Jx f F->SR C P env loc' m' s'->Q F loc' m'->R (.ok f) s') :
  codeAny (model C.prog C.w) A (.forLoop target (.ref I) body [] env) R s:=by
 ext C n env loc m P A s R target body I len item cond St ob Q d J;refine codeAny_forLoop_any (λk s'=>∃ i l mm d' iI,k=len+1 - i/\i<=len/\dB C P env l mm d' s'/\s'.heap.get? I=some iI/\St i iI/\¬ fp mm d' I/\J i l mm) ?_ (len+1)
  ⟨0,loc,m,d,ob,rfl,bk _,x,hI,hS,hf,h0⟩
 rintro k s' ⟨i,l,mm,d',iI,rfl,hi,x',hI',hS',hf',hJ⟩;by_cases hlt:i < len
 .ext s' i l mm d' iI;refine xF (src.next i P mm d' s' iI _ hlt x'.toaP (uH _ _ _ hJ) hI' hS' λr h' t uM hr' uN uO e=>?_);have x1:dB C P env l mm d' { s' with heap:=h',toks:=t }:=x'.but hf' hP hL hc e;clear e;ext r h' t uM;show NH (s:={ s' with heap:=h',toks:=t }) uN (src.plain _ _ uO);have x2:=x1.add uN hf' hP hL hc;refine kF (turn i l mm hlt hJ r hr' _ A _ _ hr ⟨d',x2⟩ λl' m' s2 x3 hw=>?_) (λ_ _ h=>h) λ_ _ h=>h.elim;refine kF (hw _ A s2 _ hr x3 λf F l2 m2 s3 hfl x4 q=>?_) (λ_ _ h=>h) λ_ _ h=>h.elim;ext f F l2 m2 s3;obtain ⟨d4,x4⟩:=x4;obtain ⟨x5,RV,RW⟩:=x4.sub hP hB hL hc;cases F with
  | next=>cases f<;>first | exact ⟨len+1 - (i+1),sR (zs hi),i+1,l2,m2,d4,uM,rfl,hlt,x5,RW,uO,RV,q⟩ | exact hfl.elim
  | cont=>cases f<;>first | exact ⟨len+1 - (i+1),sR (zs hi),i+1,l2,m2,d4,uM,rfl,hlt,x5,RW,uO,RV,q⟩ | exact hfl.elim
  | brk=>cases f<;>first | exact kk .next .next _ _ _ trivial ⟨d4,x5⟩ q | exact hfl.elim
  | ret v=>cases f<;>first | exact kk _ (.ret v) _ _ _ hfl ⟨d4,x5⟩ q | exact hfl.elim
 .have hin:i=len:=sV hi hlt;subst hin;refine xF (src.stop P mm d' s' iI _ x'.toaP (uH _ _ _ hJ) hI' hS' λh' t e=>?_);exact Mp (kk .next .next _ _ _ trivial ⟨d',x'.but hf' hP hL hc e⟩ (done _ _ hJ))
theorem src_list (hh:A.handled=none) :
  Src C A I xs.length (λi=>xs.getD i .none) (λm=>m a=some (.list xs)) (λi ob=>ob.cls=.type "list_iterator"/\ob.data=.fields #[.ref a,.int i 0]) where
 next:=by rintro i P m d s ob R hi x hm hI ⟨hc,hd⟩ k;obtain ⟨rs,e,h1,h2⟩:=x.rep a _ hm;obtain ⟨r,hr,he⟩:=h2.get (i:=i) (v:=xs.getD i .none) (by simp[hi]);refine wpAny_pyNext_list_item (items:=rs.toArray) ⟨_,hI,hc,hd⟩ ⟨_,h1,rfl,_,rfl⟩ (by simpa using hr) λh' hit hs=>?_;obtain ⟨o,ho,hc,hd⟩:=hit;exact k r h' s.toks o he ho ⟨hc,hd⟩ hs.extBut
 stop:=by rintro P m d s ob R x hm hI ⟨hc,hd⟩ k;obtain ⟨rs,e,h1,h2⟩:=x.rep a _ hm;exact wpAny_pyNext_list_end (items:=rs.toArray) hh ⟨_,hI,hc,hd⟩ ⟨_,h1,rfl,_,rfl⟩ (by simp[h2.length]) λh' e'=>k h' s.toks e'
 plain:=by rintro i ob ⟨h,_⟩;exact ⟨_,h,by decide⟩
 self:=by rintro i s ob R hI ⟨hc,hd⟩ k;exact wpAny_pyIter_listiter ⟨_,hI,hc,hd⟩ k
theorem src_tuple (hh:A.handled=none) :
  Src C A I xs.length (λi=>xs.getD i .none) (λm=>m a=some (.tuple xs)) (λi ob=>ob.cls=.type "tuple_iterator"/\ob.data=.fields #[.ref a,.int i 0]) where
 next:=by rintro i P m d s ob R hi x hm hI ⟨hc,hd⟩ k;obtain ⟨rs,e,h1,h2⟩:=x.rep a _ hm;obtain ⟨r,hr,he⟩:=h2.get (i:=i) (v:=xs.getD i .none) (by simp[hi]);refine wpAny_pyNext_tuple_item (items:=rs.toArray) ⟨_,hI,hc,hd⟩ ⟨_,h1,rfl,_,rfl⟩ (by simpa using hr) λh' hit hs=>?_;obtain ⟨o,ho,hc,hd⟩:=hit;exact k r h' s.toks o he ho ⟨hc,hd⟩ hs.extBut
 stop:=by rintro P m d s ob R x hm hI ⟨hc,hd⟩ k;obtain ⟨rs,e,h1,h2⟩:=x.rep a _ hm;exact wpAny_pyNext_tuple_end (items:=rs.toArray) hh ⟨_,hI,hc,hd⟩ ⟨_,h1,rfl,_,rfl⟩ (by simp[h2.length]) λh' e'=>k h' s.toks e'
 plain:=by rintro i ob ⟨h,_⟩;exact ⟨_,h,by decide⟩
 self:=by rintro i s ob R hI ⟨hc,hd⟩ k;exact wpAny_pyIter_tupleiter ⟨_,hI,hc,hd⟩ k
theorem src_range (hh:A.handled=none) :
  Src C A I k (λi=>.int (i:Nat)) (λ_=>True) (λi ob=>ob={ cls:=.type "range_iterator",data:=.fields #[rawInt (i:Nat),rawInt ((k:Int) - (i:Nat)),rawInt 1] }) where
 next:=by
  rintro i P m d s ob R hi x hm hI rfl kk;refine wpAny_pyNext_range_item (x:=(i:Nat)) (left:=(k:Int) - (i:Nat)) (step:=1) hI (by exact om8 hi) λh' hit hs=>?_;refine kk _ h' (s.toks+1) _ rfl hit ?_ hs.extBut;have e1:(k:Int) - ((i+1:Nat):Int)=(k:Int) - (i:Nat) - 1:=by exact om7
  have e2:((i+1:Nat):Int)=(i:Nat)+1:=by exact om6
  rw[e1,e2]
 stop:=by rintro P m d s ob R x hm hI rfl kk;exact wpAny_pyNext_range_end (x:=(k:Nat)) (left:=(k:Int) - (k:Nat)) (step:=1) hh hI (by exact om5) λh' e'=>kk h' s.toks e'
 plain:=by rintro i ob rfl;exact ⟨_,rfl,by decide⟩
 self:=by rintro i s ob R hI rfl k;exact wpAny_pyIter_rangeiter hI k
theorem YH (hh:A.handled=none) :
  Src C A I es.length (λi=>.int (es.getD i (0,.none)).1) (λm=>m a=some (.dj es ep)) (λi ob=>ob.cls=.type "dict_keyiterator"/\ob.data=.fields #[.ref a,.int i 0,.int es.length 0,.int ep 0]) where
 next:=by
  rintro i P m d s ob R hi x hm hI ⟨hc,hd⟩ k;obtain ⟨kvs,h1,h2⟩:=x.rep a _ hm;have hl:kvs.length=es.length:=by have:=congrArg ji h2;simpa using this
  rw[<-hl] at hd;have hx:kvs[i]? = some ((kvs.getD i (0,.none)).1,(kvs.getD i (0,.none)).2):=by simp[hl,hi]
  refine wpAny_pyNext_dict_item ⟨_,hI,hc,hd⟩ h1 hx λkey h' hk hit hs=>?_;obtain ⟨o,ho,hc,hd⟩:=hit;rw[hl] at hd;obtain ⟨t,rfl⟩:=Vz hk;refine k _ h' s.toks o ?_ ho ⟨hc,hd⟩ hs.extBut;have h3:(kvs.map λx=>(x.1,er x.2))[i]? = (es.map λx=>(x.1,some x.2))[i]?:=by rw[h2]
  simp[hl,hi] at h3;simp[P1,hl,hi,h3.1]
 stop:=by
  rintro P m d s ob R x hm hI ⟨hc,hd⟩ k;obtain ⟨kvs,h1,h2⟩:=x.rep a _ hm;have hl:kvs.length=es.length:=by have:=congrArg ji h2;simpa using this
  rw[<-hl] at hd;exact wpAny_pyNext_dict_end hh ⟨_,hI,hc,by rw[hd]⟩ h1 (by simp) λh' e'=>k h' s.toks e'
 plain:=by rintro i ob ⟨h,_⟩;exact ⟨_,h,by decide⟩
 self:=by rintro i s ob R hI ⟨hc,hd⟩ k;exact LS ⟨_,hI,hc,hd⟩ k
noncomputable def pK (C:Cx) (m:MH):Prop:=∀ a,m a≠none->(a==sysModules)=false
theorem aP.pK (x:aP C P m d s) (hs:(C.base.get? sysModules).isSome=true) (h:m a≠none):(a==sysModules)=false:=by
 obtain ⟨o,ho⟩:=yx.mp hs;have hp:=x.base _ _ ho;cases q:a==sysModules with
 | false=>rfl
 | true=>
  have:=x.off a (.inl h);rw[beq_iff_eq.mp q,hp] at this;cases this
theorem Xl {P A s} {target:Expr} {body:List Stmt} {len:Nat} {item:Nat->V} {cond:MH->Prop} {St:Nat->Obj->Prop} {ob:Obj} {t:Nat} {Q:Fl->Loc->MH->Prop} {R:Flow->Shared->Prop} {d:Addr->Addr}
  (hr:dF n A) (src:Src C A s.heap.objs.size len item cond St) (x:dB C P env loc m d s) (hS:St 0 ob) (hfr:ob.isFreed=false)
  (J:Nat->Loc->MH->Prop) (h0:J 0 loc m) (uH:∀ i l mm,J i l mm->cond mm)
  (turn:∀ i l mm,i < len->J i l mm->WG C n env target (item i) l mm λl' m'=>WS C n env body l' m' (HQ (J (i+1)) Q))
  (done:∀ l mm,J len l mm->Q .next l mm)
  (kk:∀ f F loc' m' s',Jx f F->SR C P env loc' m' s'->Q F loc' m'->R f s') :
  codeAny (model C.prog C.w) A (.forLoop target (.ref s.heap.objs.size) body [] env) (λr s'=>match r with | .ok f=>R f s' | .error e=>cameBackBy (model C.prog C.w) A env dP e s') { s with heap:=s.heap.push ob,toks:=t }:=by
 obtain ⟨f1,f2,f3,f4⟩:=x.fresh (I:=s.heap.objs.size) (aL _);exact WV (R:=λr s'=>match r with | .ok f=>R f s' | .error e=>cameBackBy (model C.prog C.w) A env dP e s') hr src (x.push ob t) (gF _ hfr) hS x.base f2 f1 f3 f4 J h0 uH turn done kk
theorem boot_range:bootBuiltins "range" = some (.type "range"):=by decide +kernel
end
end
section
noncomputable def jm (env:Env):List (Str×NameKind)->List (Str×Addr)->List (Str×Addr)
 | [],acc=>acc
 | (y,k)::r,acc=>if k==.free then jm env r ((y,(env.cells.lookup y).getD 0)::acc) else jm env r acc
theorem zw:jm env ((y,k)::r) acc=if (k==.free)=true then jm env r ((y,(env.cells.lookup y).getD 0)::acc) else jm env r acc:=rfl
theorem XN (env:Env):∀ (names:List (Str×NameKind)) (acc:List (Str×Addr)),(∀ x∈names,x.2=.free->(env.cells.lookup x.1).isSome=true)->
  (forIn names acc λx cs=>if (x.2==NameKind.free)=true then (do let a<-cellOf env x.1;pure (ForInStep.yield ((x.1,a)::cs))) else pure (ForInStep.yield cs):Sem (List (Str×Addr)))=pure (jm env names acc):=by
 intro l_;induction l_ with
 | nil=>
  intro acc _;exact rfl
 | cons a_ r ih=>
  obtain ⟨y,k⟩:=a_;intro acc h;rw[List.forIn_cons];dsimp only[zw];by_cases hk:(k==NameKind.free)=true
  .have hs:=h (y,k) aZ (beq_iff_eq.mp hk);obtain ⟨c,hc⟩:=yx.mp hs;dsimp only at hc;have e:cellOf env y=pure c:=by unfold cellOf;rw[hc]
   simp only[hk,if_true,e,hc,Option.getD_some];exact ih _ λx hx=>h x (b9 _ hx)
  .simp only[hk];exact ih _ λx hx=>h x (b9 _ hx)
theorem aaN (h:∀ x∈sc.names,x.2=.free->(env.cells.lookup x.1).isSome=true):closureFor sc env=pure (jm env sc.names []):=by unfold closureFor;have:=XN env sc.names [] h;simp only;rw[show (forIn sc.names ([]:List (Str×Addr)) λx cs=>_)=_ from this];rfl
theorem Zx {names:List (Str×NameKind)} {acc:List (Str×Addr)} (h:(y,c)∈jm env names acc):(y,c)∈acc\/((y,.free)∈names/\c=(env.cells.lookup y).getD 0):=by
 induction names generalizing acc with
 | nil=>exact .inl h
 | cons p r ih=>
  obtain ⟨z,k⟩:=p;dsimp only[zw] at h;split at h
  .rename_i hk;rcases ih h with h | ⟨h1,h2⟩
   .rcases b8.mp h with e | h
    .cases e;rw[beq_iff_eq.mp hk];exact .inr ⟨aZ,rfl⟩
    .exact .inl h
   .exact .inr ⟨b9 _ h1,h2⟩
  .rcases ih h with h | ⟨h1,h2⟩
   .exact .inl h
   .exact .inr ⟨b9 _ h1,h2⟩
theorem GH:∀ {names:List (Str×NameKind)} {acc:List (Str×Addr)},(y,c)∈acc->(y,c)∈jm env names acc
 | [],acc,h=>h
 | (z,k)::r,acc,h=>by
  dsimp only[zw];split
  .exact GH (b9 _ h)
  .exact GH h
theorem Zy {names:List (Str×NameKind)} {acc:List (Str×Addr)} (h:(y,.free)∈names):(y,(env.cells.lookup y).getD 0)∈jm env names acc:=by
 induction names generalizing acc with
 | nil=>cases h
 | cons p r ih=>
  obtain ⟨z,k⟩:=p;dsimp only[zw];rcases b8.mp h with e | h
  .cases e;simp only[CW,if_true];exact GH aZ
  .split
   .exact ih h
   .exact ih h
theorem XO {names:List (Str×NameKind)} {acc:List (Str×Addr)} (hn:(names.map (·.1)).Nodup) (ha:(acc.map (·.1)).Nodup) (hd:∀ y∈acc.map (·.1),y∉names.map (·.1)):((jm env names acc).map (·.1)).Nodup:=by
 induction names generalizing acc with
 | nil=>exact ha
 | cons p r ih=>
  obtain ⟨z,k⟩:=p;rw[bq,nU] at hn;dsimp only[zw];split
  .refine ih hn.2 ?_ ?_
   .rw[bq,nU];exact ⟨λq=>hd z q (aZ),ha⟩
   .intro y hy;rw[bq] at hy;rcases b8.mp hy with rfl | hy
    .exact hn.1
    .exact λq=>hd y hy (by rw[bq];exact b9 _ q)
  .exact ih hn.2 ha λy hy q=>hd y hy (by rw[bq];exact b9 _ q)
noncomputable def f9 (loc:Loc) (ys:List Str):Loc:=ys.filterMap λy=>(loc.lookup y).map λv=>(y,v)
theorem F5:∀ {ys:List Str} {y:Str} {v:V},(f9 loc ys).lookup y=some v->y∈ys/\loc.lookup y=some v:=by
 intro l_;induction l_ with
 | nil=>
  intro _ _ h;cases h
 | cons z ys ih=>
  intro y v h;unfold f9 at h;rw[List.filterMap_cons] at h;cases hz:loc.lookup z with
  | none=>
   rw[hz] at h;obtain ⟨h1,h2⟩:=ih h;exact ⟨b9 _ h1,h2⟩
  | some w=>
   rw[hz] at h;simp only[Ft] at h;rw[iO] at h;by_cases q:(y==z)=true
   .rw[q] at h;cases h;rw[beq_iff_eq.mp q];exact ⟨aZ,hz⟩
   .rw[Mg] at q;rw[q] at h;obtain ⟨h1,h2⟩:=ih h;exact ⟨b9 _ h1,h2⟩
structure g9 (env:Env) (sc:Scope):Prop where
 kind:∀ y k,sc.names.lookup y=some k->k≠.free->env.kindOf y=some k
theorem g9.store (e:g9 env sc) (h:sc.names.lookup y=some .local):mY env y:=.inl (e.kind y _ h (by decide))
theorem Wa {env:Env} {k:NameKind} (hk:k≠.free) {names:List (Str×NameKind)} {x:Str} (h:names.lookup x=some k) :
  (names.map λ(n,k)=>if (k==NameKind.free&&env.scope.kind==.function&&env.kindOf n==some .cell) then (n,NameKind.cell) else (n,k)).lookup x=some k:=by
 induction names with
 | nil=>cases h
 | cons p r ih=>
  obtain ⟨n,k'⟩:=p;change MY x ((if (k'==NameKind.free&&env.scope.kind==.function&&env.kindOf n==some .cell)=true then (n,NameKind.cell) else (n,k'))::_)=_;rw[iO] at h;cases hx:x==n with
  | true=>
   rw[hx] at h;cases h;have:(k==NameKind.free)=false:=by exact decide_eq_false (by assumption)
   simp[iO,hx,this]
  | false=>
   rw[hx] at h;by_cases hc:(k'==NameKind.free&&env.scope.kind==.function&&env.kindOf n==some .cell)=true
   .rw[if_pos hc];simp only[iO,hx];exact ih h
   .rw[if_neg hc];simp only[iO,hx];exact ih h
theorem Va {env:Env} (hf:env.scope.kind=.function) {names:List (Str×NameKind)} {x:Str} (hc:env.kindOf x=some .cell) (h:names.lookup x=some .free) :
  (names.map λ(n,k)=>if (k==NameKind.free&&env.scope.kind==.function&&env.kindOf n==some .cell) then (n,NameKind.cell) else (n,k)).lookup x=some .cell:=by
 induction names with
 | nil=>cases h
 | cons p r ih=>
  obtain ⟨n,k'⟩:=p;change MY x ((if (k'==NameKind.free&&env.scope.kind==.function&&env.kindOf n==some .cell)=true then (n,NameKind.cell) else (n,k'))::_)=_;rw[iO] at h;cases hx:x==n with
  | true=>
   rw[hx] at h;cases h;have e:=beq_iff_eq.mp hx;subst e;simp[iO,hf,hc]
  | false=>
   rw[hx] at h;by_cases hq:(k'==NameKind.free&&env.scope.kind==.function&&env.kindOf n==some .cell)=true
   .rw[if_pos hq];simp only[iO,hx];exact ih h
   .rw[if_neg hq];simp only[iO,hx];exact ih h
section
variable {prog:Program} {w:World} {A:Around} {R:Result->Shared->Prop} {s:Shared}
theorem WW (I:Nat->Shared->Prop)
  (turn:∀ n s,I n s->wpAny (model prog w) A (pyNext it) (λr s₁=>match r with
   | none=>R (.ok .next) s₁
   | some v=>wpAny (model prog w) A (letOwnedTupleGo target it v) (λ_ s₁'=>wpAny (model prog w) A (assign target env v) (λ_ s₂=>
     wpAny (model prog w) A (forIn ifs true λc r=>if r=true then do let ok<-isTrue c env (eval c env);pure (ForInStep.yield ok) else pure (ForInStep.yield r)) (λok s₃=>
      if ok=true then wpAny (model prog w) A (eval elt env) (λx s₄=>
       wpAny (model prog w) A (call (.builtin "list.append") [acc,x]) (λ_ s₅=>∃ m,m < n/\I m s₅) dP s₄) dP s₃
      else ∃ m,m < n/\I m s₃) dP s₂) dP s₁') dP s₁) dP s)
  (n:Nat) (h:I n s):codeAny (model prog w) A (.compLoop (.ListComp elt [⟨target,iter,ifs,0⟩] scope pos) 0 it acc env) R s:=by
 ext prog w A R s elt target iter ifs scope pos it acc env I n;refine codeAny_loop rfl I (λn s hI=>?_) n h;ext n s;change wpAny _ A ((compTurn (.ListComp elt [⟨target,iter,ifs,0⟩] scope pos) 0 it acc env).onRaise (λx=>do noteFrame x env;theTreesLotGoes x)) _ _ s;refine wpAny_noted (xF ?_);rw[compTurn_list];refine az (Cg (az (kF (turn n s hI) (λr s₁ h₁=>?_) λ_ _ h'=>h')));cases r with
 | none=>exact bh h₁
 | some v=>
  refine az (kF h₁ (λ_ s₁' h₁'=>az (kF h₁' (λ_ s₂ h₂=>az (kF h₂ (λok s₃ h₃=>?_) λ_ _ h'=>h')) λ_ _ h'=>h')) λ_ _ h'=>h');cases ok with
  | false=>exact bh ⟨rfl,h₃⟩
  | true=>
   exact az (az (kF h₃ (λx s₄ h₄=>az (kF h₄ (λ_ s₅ h₅=>bh (bh ⟨rfl,h₅⟩)) λ_ _ h'=>h')) λ_ _ h'=>h'))
end
noncomputable def CT (C:Cx) (n:Nat) (env:Env):List Expr->Loc->MH->(Bool->MH->Prop)->Prop
 | [],_,m,Q=>Q true m
 | [t],l,m,Q=>WT C n env t l m Q
 | _,_,_,_=>False
theorem zZ {C:Cx}:CT C n env [] l m Q=Q true m:=rfl
theorem Hz {C:Cx}:CT C n env [t] l m Q=WT C n env t l m Q:=rfl
section
variable {C:Cx} {n:Nat} {env:Env} {loc:Loc} {m:MH}
theorem Zz (hr:dF n A) (x:SR C P env loc m s) (h:CT C n env ifs loc m Q) (kk:∀ b m' s',SR C P env loc m' s'->Q b m'->R b s') :
  wpAny (model C.prog C.w) A (forIn ifs true λc r=>if r=true then do let ok<-isTrue c env (eval c env);pure (ForInStep.yield ok) else pure (ForInStep.yield r)) R dP s:=by
 match ifs,h with
 | [],h=>exact wpAny_tests_nil (kk _ _ _ x h)
 | [t],h=>exact wpAny_tests_one (h P A s _ hr x λr b m1 s1 hb x1 h1=>by subst hb;exact kk _ _ _ x1 h1)
 | _::_::_,h=>exact h.elim
theorem Wx {P A s} {R:Result->Shared->Prop} {elt target iter:Expr} {ifs:List Expr} {sc:Scope} {pos:Pos} {I D:Addr} {len:Nat} {item:Nat->V} {cond:MH->Prop} {St:Nat->Obj->Prop} {ob:Obj} {d:Addr->Addr} {k:Nat}
  (hr:dF n A) (src:Src C A I len item cond St) (x:dB C P env loc m d s) (hlen:len<=2 ^ 20)
  (hI:s.heap.get? I=some ob) (hS:St 0 ob) (hP:P I=none) (hf:¬ fp m d I) (hL:I≠env.locals) (hc:∀ y c,(y,c)∈env.cells->c≠I)
  (hD:s.heap.get? D=some (lo [] k)) (Jz:P D=none) (hfD:¬ fp m d D) (DX:D≠env.locals) (DY:∀ y c,(y,c)∈env.cells->c≠D) (hDI:D≠I)
  (J:Nat->List V->MH->Prop) (h0:J 0 [] m) (uH:∀ i acc mm,J i acc mm->cond mm)
  (turn:∀ i acc mm,i < len->J i acc mm->WG C n env target (item i) loc mm λl' m'=>(∀ y v,loc.lookup y=some v->l'.lookup y=some v)/\
   CT C n env ifs l' m' λb m2=>if b=true then WE C n env elt l' m2 (λw m3=>J (i+1) (acc++[w]) m3) else J (i+1) acc m2)
  (done:∀ rs acc k' m' d' s',aD rs acc->dB C P env loc m' d' s'->¬ fp m' d' D->s'.heap.get? D=some (lo rs k')->acc.length<=len->J len acc m'->R (.ok .next) s') :
  codeAny (model C.prog C.w) A (.compLoop (.ListComp elt [⟨target,iter,ifs,0⟩] sc pos) 0 (.ref I) (.ref D) env) R s:=by
 refine WW (λq s'=>∃ i acc rs k' mm d' iI,q=len+1 - i/\i<=len/\acc.length<=i/\dB C P env loc mm d' s'/\s'.heap.get? I=some iI/\St i iI/\¬ fp mm d' I/\
  s'.heap.get? D=some (lo rs k')/\aD rs acc/\¬ fp mm d' D/\J i acc mm) ?_ (len+1)
  ⟨0,[],[],k,m,d,ob,rfl,bk _,aL _,x,hI,hS,hf,hD,rfl,hfD,h0⟩
 rintro q s' ⟨i,acc,rs,k',mm,d',iI,rfl,hi,hal,x',hI',hS',hf',RX,he',P5,hJ⟩;by_cases hlt:i < len
 .refine src.next i P mm d' s' iI _ hlt x'.toaP (uH _ _ _ hJ) hI' hS' λr h' t uM hr' uN uO e=>?_;have x1:dB C P env loc mm d' { s' with heap:=h',toks:=t }:=x'.but hf' hP hL hc e;have hD1:h'.get? D=some (lo rs k'):=e D _ hDI RX;show NH (s:={ s' with heap:=h',toks:=t }) uN (src.plain _ _ uO);have x2:=(x1.add uN hf' hP hL hc).add (I:=D) hD1 P5 (by rw[pD hDI];exact Jz) DX DY;have P6:sC P I uM D=none:=by rw[pD hDI];exact Jz
  refine turn i acc mm hlt hJ r hr' _ A _ _ hr ⟨d',x2⟩ λl' m' s2 x3 hw=>?_;refine Zz hr x3 hw.2 λb m2 s3 x4 hb=>?_;cases b with
  | false=>
   simp only[cP,if_false] at hb ⊢;obtain ⟨d4,x4⟩:=x4.weak hw.1;obtain ⟨x5,f5,g5⟩:=x4.sub P6 (x1.add uN hf' hP hL hc).base DX DY;obtain ⟨x6,f6,g6⟩:=x5.sub hP x.base hL hc;exact ⟨len+1 - (i+1),sR (zs hi),i+1,acc,rs,k',m2,d4,uM,rfl,hlt,zo hal,x6,g6,uO,f6,g5,he',f5,hb⟩
  | true=>
   simp only[if_true] at hb ⊢;refine hb _ A s3 _ hr x4 λr2 w m3 s4 hw2 x5 hJ2=>?_;obtain ⟨d5,x5⟩:=x5.weak hw.1;obtain ⟨x6,f6,g6⟩:=x5.sub P6 (x1.add uN hf' hP hL hc).base DX DY;obtain ⟨x7,f7,g7⟩:=x6.sub hP x.base hL hc;refine wpAny_list_append_plain (items:=rs.toArray) ⟨k',g6⟩ (λh5 JA RY=>?_) (by rw[cV,he'.length,dZ];exact om9 hlen hi hal);obtain ⟨k5,JA⟩:=JA;have x8:=x7.but (t:=s4.toks) f6 Jz DX DY RY.extBut;refine ⟨len+1 - (i+1),sR (zs hi),i+1,acc++[w],rs++[r2],k5,m3,d5,uM,rfl,hlt,by rw[cQ];simp;exact hal,x8,(RY.2 I (r7 hDI)).trans g7,uO,f7,?_,he'.append (aD.cons hw2 aD.nil),f6,hJ2⟩;rw[show ({ s4 with heap:=h5,toks:=s4.toks }:Shared).heap=h5 from rfl,JA];simp
 .have hin:i=len:=sV hi hlt;subst hin;refine src.stop P mm d' s' iI _ x'.toaP (uH _ _ _ hJ) hI' hS' λh' t e=>?_;exact done rs acc k' mm d' _ he' (x'.but hf' hP hL hc e) P5 (e D _ hDI RX) hal hJ
end
end
section
section
variable {C:Cx} {n:Nat} {env:Env} {loc:Loc} {m:MH}
theorem WX {l:List (Str×β)} {y:Str} {v:β} (hn:(l.map (·.1)).Nodup) (h:(y,v)∈l):l.lookup y=some v:=by
 induction l with
 | nil=>cases h
 | cons p r ih=>
  obtain ⟨z,w⟩:=p;rw[bq,nU] at hn;rw[iO];rcases b8.mp h with e | h
  .cases e;simp
  .have:(y==z)=false:=by
    cases q:y==z with
    | false=>rfl
    | true=>exact (hn.1 (by rw[<-beq_iff_eq.mp q];exact aQ.mpr ⟨(y,v),h,rfl⟩)).elim
   rw[this];exact ih hn.2 h
noncomputable def WI (C:Cx) (n:Nat) (env:Env) (iter:Expr) (loc:Loc) (m:MH) (K:Nat->(Nat->V)->(MH->Prop)->MH->Prop):Prop:=
 ∀ P A s (R:Value->Shared->Prop),dF n A->SR C P env loc m s->
  (∀ len item cond St ob m1 s1 d t,Src C A s1.heap.objs.size len item cond St->dB C P env loc m1 d s1->St 0 ob->ob.isFreed=false->K len item cond m1->
   R (.ref s1.heap.objs.size) { s1 with heap:=s1.heap.push ob,toks:=t })->
  wpAny (model C.prog C.w) A (eval iter env) (λx s₁=>wpAny (model C.prog C.w) A (pyIter x) R dP s₁) dP s
theorem uy {iter:Expr} {K:Nat->(Nat->V)->(MH->Prop)->MH->Prop} (h:WE C n env iter loc m λv m1=>∃ a xs,v=.ref a/\m1 a=some (.list xs)/\K xs.length (λi=>xs.getD i .none) (λm=>m a=some (.list xs)) m1):WI C n env iter loc m K:=by intro P A s R hr x kk;refine h P A s _ hr x λr v m1 s1 hv x1 h1=>?_;obtain ⟨a,xs,rfl,hm,hK⟩:=h1;rw[bD hv];obtain ⟨d,x1⟩:=x1;obtain ⟨rs,e,hg,he⟩:=x1.rep a _ hm;exact wpAny_pyIter_list (items:=rs.toArray) ⟨_,hg,rfl,_,rfl⟩ (kk _ _ _ _ _ m1 s1 d s1.toks (src_list hr.1) x1 ⟨rfl,rfl⟩ rfl hK)
theorem GI {iter:Expr} {K:Nat->(Nat->V)->(MH->Prop)->MH->Prop} (h:WE C n env iter loc m λv m1=>∃ a xs,v=.ref a/\m1 a=some (.tuple xs)/\K xs.length (λi=>xs.getD i .none) (λm=>m a=some (.tuple xs)) m1):WI C n env iter loc m K:=by intro P A s R hr x kk;refine h P A s _ hr x λr v m1 s1 hv x1 h1=>?_;obtain ⟨a,xs,rfl,hm,hK⟩:=h1;rw[bD hv];obtain ⟨d,x1⟩:=x1;obtain ⟨rs,e,hg,he⟩:=x1.rep a _ hm;exact wpAny_pyIter_tuple (items:=rs.toArray) ⟨_,hg,rfl,_,rfl⟩ (kk _ _ _ _ _ m1 s1 d s1.toks (src_tuple hr.1) x1 ⟨rfl,rfl⟩ rfl hK)
theorem ZA {iter:Expr} {K:Nat->(Nat->V)->(MH->Prop)->MH->Prop} (hsys:(C.base.get? sysModules).isSome=true)
  (h:WE C n env iter loc m λv m1=>∃ a es ep,v=.ref a/\m1 a=some (.dj es ep)/\K es.length (λi=>.int (es.getD i (0,.none)).1) (λm=>m a=some (.dj es ep)) m1):WI C n env iter loc m K:=by
 intro P A s R hr x kk;refine h P A s _ hr x λr v m1 s1 hv x1 h1=>?_;obtain ⟨a,es,ep,rfl,hm,hK⟩:=h1;rw[bD hv];obtain ⟨d,x1⟩:=x1;obtain ⟨kvs,hg,he⟩:=x1.rep a _ hm;have hl:kvs.length=es.length:=by have:=congrArg ji he;simpa using this
 show wpAny_pyIter_dict (x1.toaP.pK hsys (by rw[hm];exact gm _)) hg;rw[hl];exact kk _ _ _ _ _ m1 s1 d s1.toks (YH hr.1) x1 ⟨rfl,rfl⟩ rfl hK
theorem GJ {e:Expr} {p rp:Pos} {K:Nat->(Nat->V)->(MH->Prop)->MH->Prop} (hkd:env.kindOf "range" = some .globalImplicit) (hg:nsIn C.K mainGlobals "range" = some none)
  (h:WE C n env e loc m λv m1=>∃ k:Nat,v=.int k/\k < 2 ^ 40/\K k (λi=>.int (i:Nat)) (λ_=>True) m1)
  (hse:starEach [e] env=[(false,eval e env)]:=by rfl):WI C n env (.Call (.Name "range" p) [e] [] rp) loc m K:=by
 rintro P A s R hr ⟨d,x⟩ kk;refine VP (Ck x hkd hg boot_range (by decide) ?_);have hb:backTo rp (starEach [e] env)=[(false,eval e env)]:=by rw[hse];rfl
 rw[hb];refine LF rfl (U4 (LZ (h P A s _ hr ⟨d,x⟩ λnv v m1 s1 hv x1 h1=>L6 ?_)));obtain ⟨k,rfl,hk,hK⟩:=h1;obtain ⟨t,rfl⟩:=bS hv;show PySem.call_range_1;show wpAny_pyIter_range (IsRange.new ..) (small_one (by decide) (by decide) (by exact adO) (by exact adN hk));have hsz:agQ 0 k 1=(k:Int):=by rw[rangeSize_one];split<;>omega
 rw[hsz];obtain ⟨d1,x1⟩:=x1;have x2:=x1.push { cls:=.type "range",data:=.fields #[.int 0 s1.toks,.int k t,.int 1 (s1.toks+1)] } (s1.toks+1+1);exact kk _ _ _ _ _ m1 _ d1 (s1.toks+1+1) (src_range (C:=C) (A:=A) (k:=k) hr.1) x2 (by rfl) rfl hK
theorem acd
  (h:WI C n env iter loc m λlen item cond m1=>∃ J:Nat->Loc->MH->Prop,J 0 loc m1/\(∀ i l mm,J i l mm->cond mm)/\
   (∀ i l mm,i < len->J i l mm->WG C n env target (item i) l mm λl' m'=>WS C n env body l' m' (HQ (J (i+1)) Q))/\∀ l mm,J len l mm->Q .next l mm)
  (hs:∀ x,foldedSetIterable iter env x=pure x:=by walk_at "ir"):W1 C n env (.For target iter body [] pos) loc m Q:=by
 intro P A s R hr x kk;refine wpAny_For (h P A s _ hr x λlen item cond St ob m1 s1 d t src x1 hS hfr hK=>?_) hs;obtain ⟨J,h0,hc,turn,done⟩:=hK;exact Xl (t:=t) hr src x1 hS hfr J h0 hc turn done kk
noncomputable def freeNames (sc:Scope):List Str:=(sc.names.filter λx=>x.2==.free).map (·.1)
theorem Wy:y∈freeNames sc↔(y,.free)∈sc.names:=by
 ext sc y;unfold freeNames;simp only[aQ,fE];constructor
 .rintro ⟨⟨z,k⟩,⟨h1,h2⟩,rfl⟩;have e:k=.free:=beq_iff_eq.mp h2;subst e;exact h1
 .intro h;exact ⟨(y,.free),⟨h,rfl⟩,rfl⟩
theorem Nj
  (hr:dF n A) (x:SR C P env loc m s) (ef:fZ env dD)
  (hfree:(sc.names.all λy=>y.2 != .free||dD.names.lookup y.1==some .cell)=true) (hloc:(sc.names.all λy=>y.2 != .local||sc.names.lookup y.1==some .local)=true)
  (hnc:(sc.names.all λy=>y.2 != .cell)=true) (hnd:(sc.names.map (·.1)).Nodup) (hk:sc.kind=.function) (hs:∀ x,foldedSetIterable iter env x=pure x)
 (h:WI C n env iter loc m Q)
  (hQ:∀ len item cond m1,Q len item cond m1->len<=2 ^ 20/\∃ J:Nat->List V->MH->Prop,J 0 [] m1/\(∀ i acc mm,J i acc mm->cond mm)/\
   (∀ cenv,g9 cenv sc->∀ i acc mm,i < len->J i acc mm->WG C n cenv target (item i) (f9 loc (freeNames sc)) mm λl' m'=>(∀ y v,(f9 loc (freeNames sc)).lookup y=some v->l'.lookup y=some v)/\
    CT C n cenv ifs l' m' λb m2=>if b=true then WE C n cenv elt l' m2 (λw m3=>J (i+1) (acc++[w]) m3) else J (i+1) acc m2)/\
   (∀ a acc m' d' s' sZ,dB C P env loc (m'.set a (.list acc)) d' s'->¬ fp (m'.set a (.list acc)) d' sZ->P sZ=none->sZ≠env.locals->(∀ y c,(y,c)∈env.cells->c≠sZ)->
    (∃ mm,s'.heap.Ns sZ mm)->J len acc m'->m' a=none->compPost (model C.prog C.w) A dP use R (.ref a) sZ (.ok .next) s')) :
  wpAny (model C.prog C.w) A (comprehension (.ListComp elt [⟨target,iter,ifs,0⟩] sc pos) sc env ae2 (newList []) false (eval iter env) use) R dP s:=by
 have HA:∀ y∈sc.names,y.2=.free->(env.cells.lookup y.1).isSome=true/\env.kindOf y.1=some .cell:=λy hy hf=>by
  have:=gp.mp hfree y hy;rw[hf] at this;have e:dD.names.lookup y.1=some .cell:=by exact beq_iff_eq.mp (by assumption)
  exact ⟨ef.cells _ e,ef.kind e⟩
 ext C n env loc m dD sc elt target iter ifs pos ae2 P A s use R Q;refine wpAny_comprehension_free (use:=use) rfl hs (aaN λy hy hf=>(HA y hy hf).1) hk (λy hy hl=>?_) (h P A s _ hr x λlen item cond St ob m1 s1 d t src x1 hS hfr hK=>?_)
 .have:=gp.mp hloc y hy;rw[hl] at this;exact beq_iff_eq.mp (by assumption)
 ext len item cond St ob m1 s1 d t;obtain ⟨hlen,J,h0,hc,turn,done⟩:=hQ _ _ _ _ hK;have ace:∀ y∈sc.names,y.2≠.cell:=λy hy=>by have:=gp.mp hnc y hy;simpa using this
 refine rL (wpAny_newFunctionEnv ace (by intro y hy;simp at hy) (λh₁ z7 wM=>?_) hk);dsimp only at z7 wM ⊢;generalize JB:s1.heap.push ob=H1 at z7 wM ⊢;generalize DZ:H1.push { cls:=.type "list",dict:=none,data:=.seq ([]:List Value).toArray }=H2 at z7 wM ⊢;have z1:H1.objs.size=s1.heap.objs.size+1:=by rw[<-JB,qz]
 have z2:H2.objs.size=s1.heap.objs.size+2:=by rw[<-DZ,qz,z1]
 have up:∀ b o,s1.heap.get? b=some o->h₁.get? b=some o:=λb o e=>by have lt:=lI e;exact wM.extBut b o (by rw[z2];exact gq (eZ lt (oV _ _))) (gC _ (DZ▸gC _ (JB▸gC _ e)))
 have gI:h₁.get? s1.heap.objs.size=some ob:=by refine wM.extBut _ _ (by rw[z2];exact gq jP) (gC _ (DZ▸gC _ (JB▸gF _ hfr)))
 have gD:h₁.get? H1.objs.size=some (lo [] 0):=by refine wM.extBut _ _ (by rw[z1,z2];exact gq zx) (gC _ (DZ▸gF _ rfl))
 ext h₁ H1 H2;obtain ⟨y1,back⟩:=x1.frame;have fr:∀ a,s1.heap.objs.size<=a->¬ fp m1 d a/\lW m1 d s1.heap a=none:=λa ha=>by
  ext a;refine ⟨λq=>absurd (y1.wO q) (jF.mpr ha),?_⟩;cases e:lW m1 d s1.heap a with
  | none=>rfl
  | some o=>exact absurd (y1.wX e) (jF.mpr ha)
 have CZ:∀ y c,(y,c)∈jm env sc.names []->(y,c)∈env.cells/\env.kindOf y=some .cell/\(y,.free)∈sc.names:=λy c hm=>by
  ext y c;rcases Zx hm with hm' | ⟨hm',hce⟩
  .cases hm'
  .subst hce;obtain ⟨h1,h2⟩:=HA (y,NameKind.free) hm' rfl;obtain ⟨c,hc⟩:=yx.mp h1;dsimp only at hc;rw[hc];exact ⟨mem_of_lookup hc,h2,hm'⟩
 have cnames:=XO (env:=env) (names:=sc.names) (acc:=[]) hnd (yP) (of_decide_eq_true rfl);have ns0:=z7;have sr:dB C (lW m1 d s1.heap) (compEnvC sc (jm env sc.names []) H2.objs.size env) (f9 loc (freeNames sc)) m1 d { s1 with heap:=h₁,toks:=t }:=by
  refine { toaP:=y1.step λa o _ e=>up a o e,kf:=hk,gl:=x1.gl,bu:=x1.bu,nL:=(fr _ (by change s1.heap.objs.size<=H2.objs.size;exact zf (dN jP z2))).1,pL:=(fr _ (by change s1.heap.objs.size<=H2.objs.size;exact zf (dN jP z2))).2,ns:=⟨_,z7,λy v hy=>?_⟩,cl:=λy c hm=>?_,ap:=?_ }
  .ext y v;obtain ⟨hy1,gh⟩:=F5 hy;have hm:=Wy.mp hy1;obtain ⟨mm,_,hs'⟩:=x1.ns;obtain ⟨hcs,hkc⟩:=HA (y,NameKind.free) hm rfl;rcases hs' y v gh with ⟨q,_⟩ | ⟨_,c,r,hc',hi,he⟩
   .dsimp only at hkc;rw[hkc] at q;cases q
   .refine .inr ⟨.inl (Va x1.kf hkc ?_),c,r,?_,pq hi λo ho=>up c o ho,he⟩
    .exact WX hnd hm
    .have:=Zy (env:=env) (acc:=[]) hm;rw[hc'] at this;exact Ve cnames this
  .ext y c;obtain ⟨hm1,_,_⟩:=CZ y c hm;obtain ⟨h1,h2,⟨cv,h3⟩,h4⟩:=x1.cl y c hm1;refine ⟨h1,?_,⟨cv,pq h3 λo ho=>up c o ho⟩,λq=>by cases q⟩;have:=h3.lt;exact gq (eZ this (show s1.heap.objs.size<=H2.objs.size by rw[z2];exact oV _ _))
  .have p:(jm env sc.names []).Pairwise λa b=>a.1≠b.1:=yH.mp cnames;refine p.imp_of_mem λ{a b} ha hb hne q=>hne ?_;have ha':=(CZ a.1 a.2 ha).1;have hb':=(CZ b.1 b.2 hb).1;rw[q] at ha';exact name_of_addr x1.ap ha' hb'
 have ec:g9 (compEnvC sc (jm env sc.names []) H2.objs.size env) sc:=⟨λy k hy hne=>Wa hne hy⟩;have Ph:∀ a,s1.heap.objs.size<=a->∀ y c,(y,c)∈(compEnvC sc (jm env sc.names []) H2.objs.size env).cells->c≠a:=λa ha y c hm q=>by obtain ⟨_,_,⟨cv,h3⟩,_⟩:=x1.cl y c (CZ y c hm).1;exact absurd h3.lt (by rw[q];exact jF.mpr ha)
 have loop:codeAny (model C.prog C.w) A (.compLoop (.ListComp elt [⟨target,iter,ifs,0⟩] sc pos) 0 (.ref s1.heap.objs.size) (.ref H1.objs.size) (compEnvC sc (jm env sc.names []) H2.objs.size env))
   (compPost (model C.prog C.w) A dP use R (.ref H1.objs.size) H2.objs.size) { s1 with heap:=h₁,toks:=t }:=by
  refine Wx (k:=0) hr src sr hlen gI hS (fr _ (aL _)).2 (fr _ (aL _)).1 ?_ (Ph _ (aL _)) gD (fr _ (by rw[z1];exact eF)).2 (fr _ (by rw[z1];exact eF)).1 ?_ (Ph _ (by rw[z1];exact eF)) ?_
   J h0 hc (turn _ ec) λrs acc k' m' d' s' he x' hf' hg' hal hJ=>?_
  .change s1.heap.objs.size≠H2.objs.size;rw[z2];exact gq jP
  .change H1.objs.size≠H2.objs.size;rw[z1,z2];exact gq zx
  .rw[z1];exact F0 zx
  .have hma:m' H1.objs.size=none:=by
    cases q:m' H1.objs.size with
    | none=>rfl
    | some o=>exact (hf' (.inl (by rw[q];exact gm _))).elim
   have y2:=x'.toaP.alloc (h':=s'.heap) (t:=s'.toks) (o:=.list acc) hf' (fr _ (by rw[z1];exact eF)).2 (λ_ _ e=>by cases e) (λ_ _ e=>e) ⟨rs,k',hg',he⟩;have y3:=back _ _ _ y2;have hC:H2.objs.size≠H1.objs.size:=by rw[z1,z2];exact F0 zx
   have RZ:¬ fp m' d' H2.objs.size:=x'.nL;refine done H1.objs.size acc m' d' s' H2.objs.size y3 (λq=>?_) ?_ ?_ ?_ ?_ hJ hma
   .rcases q with q | ⟨i,c,fs,hi,q⟩
    .rw[MH.aC hC] at q;exact RZ (.inl q)
    .by_cases hi':i=H1.objs.size
     .subst hi';rw[MH.af] at hi;cases hi
     .rw[MH.aC hi'] at hi;exact RZ (.inr ⟨i,c,fs,hi,q⟩)
   .obtain ⟨f1,f2,f3,f4⟩:=x1.fresh (I:=H2.objs.size) (by rw[z2];exact eF);exact f2
   .obtain ⟨f1,f2,f3,f4⟩:=x1.fresh (I:=H2.objs.size) (by rw[z2];exact eF);exact f3
   .obtain ⟨f1,f2,f3,f4⟩:=x1.fresh (I:=H2.objs.size) (by rw[z2];exact eF);exact f4
   .obtain ⟨mm,hn,_⟩:=x'.ns;exact ⟨mm,hn⟩
 exact codeAny_compStart_list loop (xF (src.self 0 _ _ _ gI hS loop))
noncomputable def qK (dD sc:Scope):Prop:=(sc.names.all λy=>y.2 != .free||dD.names.lookup y.1==some .cell)=true/\(sc.names.all λy=>y.2 != .local||sc.names.lookup y.1==some .local)=true/\
 (sc.names.all λy=>y.2 != .cell)=true/\(sc.names.map (·.1)).Nodup/\sc.kind=.function
noncomputable def Ah (C:Cx) (n:Nat) (loc:Loc) (sc:Scope) (target elt:Expr) (ifs:List Expr) (Z:List V->MH->Prop) (len:Nat) (item:Nat->V) (cond:MH->Prop) (m1:MH):Prop:=
 len<=2 ^ 20/\∃ J:Nat->List V->MH->Prop,J 0 [] m1/\(∀ i acc mm,J i acc mm->cond mm)/\
  (∀ cenv,g9 cenv sc->∀ i acc mm,i < len->J i acc mm->WG C n cenv target (item i) (f9 loc (freeNames sc)) mm λl' m'=>(∀ y v,(f9 loc (freeNames sc)).lookup y=some v->l'.lookup y=some v)/\
   CT C n cenv ifs l' m' λb m2=>if b=true then WE C n cenv elt l' m2 (λw m3=>J (i+1) (acc++[w]) m3) else J (i+1) acc m2)/\
  ∀ acc mm,J len acc mm->Z acc mm
theorem wJ (ef:fZ env dD) (ok:qK dD sc)
  (h:WI C n env iter loc m (Ah C n loc sc target elt ifs λacc mm=>∀ a,mm a=none->Q (.ref a) (mm.set a (.list acc))))
  (hs:∀ x,foldedSetIterable iter env x=pure x:=by walk_at "ir"):WE C n env (.ListComp elt [⟨target,iter,ifs,0⟩] sc pos) loc m Q:=by
 intro P A s R hr x kk;obtain ⟨o1,o2,o3,o4,o5⟩:=ok;rw[eval_ListComp];refine Nj (use:=none) hr x ef o1 o2 o3 o4 o5 hs h λlen item cond m1 hK=>?_;obtain ⟨hl,J,h0,hc,turn,done⟩:=hK;refine ⟨hl,J,h0,hc,turn,λa acc m' d' s' sZ x' hf hP hL hcl hn hJ hma=>?_⟩;obtain ⟨mm,hn⟩:=hn;exact ⟨mm,hn,λh' hs'=>kk _ (.ref a) _ _ rfl ⟨d',x'.but (t:=s'.toks) hf hP hL hcl hs'.extBut⟩ (done _ _ hJ a hma)⟩
theorem FE (ef:fZ env dD) (ok:qK dD sc) (hk:mY env y)
  (h:WI C n env iter loc m (Ah C n loc sc target elt ifs λacc mm=>∀ a,mm a=none->Q .next ((y,.ref a)::loc) (mm.set a (.list acc))))
  (hsw:swapsWith (.ListComp elt [⟨target,iter,ifs,0⟩] sc pos) (some (.Name y py)) spos.line env=pure true)
  (hs:∀ x,foldedSetIterable iter env x=pure x:=by walk_at "ir"):W1 C n env (.Assign [.Name y py] (.ListComp elt [⟨target,iter,ifs,0⟩] sc pos) spos) loc m Q:=by
 intro P A s R hr x kk;ext C n env loc m dD sc elt target iter ifs pos py spos y Q P A s R;obtain ⟨o1,o2,o3,o4,o5⟩:=ok;rw[exec_Assign_Name_used _ _ _ _ hsw];refine az (Cg (az ?_));change wpAny _ A (do let _<-comprehension (.ListComp elt [⟨target,iter,ifs,0⟩] sc pos) sc env _ (newList []) false (eval iter env) (some (assign (.Name y py) env))) _ _ s;refine az (kF (Nj (use:=some (assign (.Name y py) env)) (R:=λ_ s'=>R .next s') hr x ef o1 o2 o3 o4 o5 hs h λlen item cond m1 hK=>?_) (λ_ s' hq=>bh (bh hq)) λ_ _ e=>e);ext len item cond m1;obtain ⟨hl,J,h0,hc,turn,done⟩:=hK;refine ⟨hl,J,h0,hc,turn,λa acc m' d' s' sZ x' hf hP hL hcl hn hJ hma=>?_⟩;obtain ⟨mm,hn⟩:=hn;obtain ⟨oc,es,ep,hoc,hr'⟩:=id hn;change wpAny _ A (assign (.Name y py) env (.ref a)) _ _ _;refine Vy (yY (v:=.ref a) rfl ⟨d',x'.add hoc hf hP hL hcl⟩ hk λs2 x2=>?_);obtain ⟨d2,x2⟩:=x2;obtain ⟨x3,f3,g3⟩:=x2.sub hP x'.base hL hcl;exact ⟨mm,⟨oc,es,ep,g3,hr'⟩,λh' hs'=>kk _ .next _ _ _ trivial ⟨d2,x3.but (t:=s2.toks) f3 hP hL hcl hs'.extBut⟩ (done _ _ hJ a hma)⟩
end
end
section
section
variable {C:Cx} {n:Nat} {m:MH} {Q:V->MH->Prop} {a b:Int} {x y:Str}
theorem sj (h:Q (.int (a+b)) m):∀ ra rb,er ra=some (.int a)->er rb=some (.int b)->TR C n (binaryOp .Add ra rb) m Q:=by intro ra rb ha hb;obtain ⟨t,rfl⟩:=bS ha;obtain ⟨u,rfl⟩:=bS hb;rintro P A s R hr ⟨d,z⟩ kk;exact PySem.P.add_int (kk _ (.int (a+b)) m _ rfl ⟨d,z.tok _⟩ h)
theorem HR (h:Q (.int (a - b)) m):∀ ra rb,er ra=some (.int a)->er rb=some (.int b)->TR C n (binaryOp .Sub ra rb) m Q:=by intro ra rb ha hb;obtain ⟨t,rfl⟩:=bS ha;obtain ⟨u,rfl⟩:=bS hb;rintro P A s R hr ⟨d,z⟩ kk;exact PySem.P.sub_int (kk _ (.int (a - b)) m _ rfl ⟨d,z.tok _⟩ h)
theorem HT (hm:IntMulOk a b) (h:Q (.int (a*b)) m):∀ ra rb,er ra=some (.int a)->er rb=some (.int b)->TR C n (binaryOp .Mult ra rb) m Q:=by intro ra rb ha hb;obtain ⟨t,rfl⟩:=bS ha;obtain ⟨u,rfl⟩:=bS hb;rintro P A s R hr ⟨d,z⟩ kk;exact PySem.P.mul_int (kk _ (.int (a*b)) m _ rfl ⟨d,z.tok _⟩ h) hm
theorem M0 (hb0:b≠0) (hp:LC a b=false) (h:Q (.int (a.fdiv b)) m):∀ ra rb,er ra=some (.int a)->er rb=some (.int b)->TR C n (binaryOp .FloorDiv ra rb) m Q:=by intro ra rb ha hb;obtain ⟨t,rfl⟩:=bS ha;obtain ⟨u,rfl⟩:=bS hb;rintro P A s R hr ⟨d,z⟩ kk;exact floordiv_int hb0 (kk _ (.int (a.fdiv b)) m _ rfl ⟨d,z.tok _⟩ h) (.inl hp)
theorem ac6 (hb0:b≠0) (h:Q (.int (a.fmod b)) m):∀ ra rb,er ra=some (.int a)->er rb=some (.int b)->TR C n (binaryOp .Mod ra rb) m Q:=by intro ra rb ha hb;obtain ⟨t,rfl⟩:=bS ha;obtain ⟨u,rfl⟩:=bS hb;rintro P A s R hr ⟨d,z⟩ kk;exact mod_int' hb0 (kk _ (.int (a.fmod b)) m _ rfl ⟨d,z.tok _⟩ h)
theorem ac7 (hk:k<=1000000) (hl:l < 2 ^ 64) (h:Q (.int ((l <<< k:Nat):Int)) m):∀ ra rb,er ra=some (.int (l:Nat))->er rb=some (.int (k:Nat))->TR C n (binaryOp .LShift ra rb) m Q:=by intro ra rb ha hb;obtain ⟨t,rfl⟩:=bS ha;obtain ⟨u,rfl⟩:=bS hb;rintro P A s R hr ⟨d,z⟩ kk;refine lshift_int_small ve (by exact adQ hk) (by simpa using hl) (kk _ (.int ((l <<< k:Nat):Int)) m _ ?_ ⟨d,z.tok _⟩ h);simp[rv,P1,Nat.shiftLeft_eq]
theorem Pj (h:Q (.int ((l >>> k:Nat):Int)) m):∀ ra rb,er ra=some (.int (l:Nat))->er rb=some (.int (k:Nat))->TR C n (binaryOp .RShift ra rb) m Q:=by
 intro ra rb ha hb;obtain ⟨t,rfl⟩:=bS ha;obtain ⟨u,rfl⟩:=bS hb;rintro P A s R hr ⟨d,z⟩ kk;refine rshift_int ve (kk _ (.int ((l >>> k:Nat):Int)) m _ ?_ ⟨d,z.tok _⟩ h);have:((l:Int).fdiv (2 ^ ((k:Int).toNat)))=((l >>> k:Nat):Int):=by rw[yI,EY,LG _ (MN (Int.pow_pos (by decide)))];simp
 rw[this];rfl
theorem XQ (k l:Nat):Mu (k:Int) (l:Int)=((k &&& l:Nat):Int):=by unfold Mu;simp
theorem YI (k l:Nat):WM (k:Int) (l:Int)=((k ||| l:Nat):Int):=by
 ext k l;unfold WM Mu Builtin.bitNot;have h1:¬ (0:Int)<=-(k:Int) - 1:=by exact PT
 have h2:¬ (0:Int)<=-(l:Int) - 1:=by exact PT
 simp only[h1,h2,decide_false];have tn:∀ k:Nat,(-(-(k:Int) - 1) - 1).toNat=k:=by exact adP
 have e1:(-(-(k:Int) - 1) - 1).toNat=k:=tn k;have e2:(-(-(l:Int) - 1) - 1).toNat=l:=tn l;rw[e1,e2];exact PN
theorem ac8 (h:Q (.int ((k &&& l:Nat):Int)) m):∀ ra rb,er ra=some (.int (k:Nat))->er rb=some (.int (l:Nat))->TR C n (binaryOp .BitAnd ra rb) m Q:=by intro ra rb ha hb;obtain ⟨t,rfl⟩:=bS ha;obtain ⟨u,rfl⟩:=bS hb;rintro P A s R hr ⟨d,z⟩ kk;exact and_int (kk _ (.int ((k &&& l:Nat):Int)) m _ (by rw[XQ];rfl) ⟨d,z.tok _⟩ h)
theorem lX (h:Q (.int ((k ||| l:Nat):Int)) m):∀ ra rb,er ra=some (.int (k:Nat))->er rb=some (.int (l:Nat))->TR C n (binaryOp .BitOr ra rb) m Q:=by intro ra rb ha hb;obtain ⟨t,rfl⟩:=bS ha;obtain ⟨u,rfl⟩:=bS hb;rintro P A s R hr ⟨d,z⟩ kk;exact or_int (kk _ (.int ((k ||| l:Nat):Int)) m _ (by rw[YI];rfl) ⟨d,z.tok _⟩ h)
theorem ae3 (h:Q (.bool (decide (a=b))) m):∀ ra rb,er ra=some (.int a)->er rb=some (.int b)->TR C n (compareOp .Eq ra rb) m Q:=by intro ra rb ha hb;obtain ⟨t,rfl⟩:=bS ha;obtain ⟨u,rfl⟩:=bS hb;rintro P A s R hr ⟨d,z⟩ kk;exact PySem.P.eq_int (kk _ (.bool (decide (a=b))) m _ rfl ⟨d,z⟩ h)
theorem P7 (h:Q (.bool (!decide (a=b))) m):∀ ra rb,er ra=some (.int a)->er rb=some (.int b)->TR C n (compareOp .NotEq ra rb) m Q:=by intro ra rb ha hb;obtain ⟨t,rfl⟩:=bS ha;obtain ⟨u,rfl⟩:=bS hb;rintro P A s R hr ⟨d,z⟩ kk;exact PySem.P.ne_int (kk _ (.bool (!decide (a=b))) m _ rfl ⟨d,z⟩ h)
theorem As (h:Q (.bool (decide (a < b))) m):∀ ra rb,er ra=some (.int a)->er rb=some (.int b)->TR C n (compareOp .Lt ra rb) m Q:=by intro ra rb ha hb;obtain ⟨t,rfl⟩:=bS ha;obtain ⟨u,rfl⟩:=bS hb;rintro P A s R hr ⟨d,z⟩ kk;exact Wl (kk _ (.bool (decide (a < b))) m _ rfl ⟨d,z⟩ h)
theorem ae4 (h:Q (.bool (decide (b < a))) m):∀ ra rb,er ra=some (.int a)->er rb=some (.int b)->TR C n (compareOp .Gt ra rb) m Q:=by intro ra rb ha hb;obtain ⟨t,rfl⟩:=bS ha;obtain ⟨u,rfl⟩:=bS hb;rintro P A s R hr ⟨d,z⟩ kk;exact PySem.P.gt_int (kk _ (.bool (decide (b < a))) m _ rfl ⟨d,z⟩ h)
theorem uP (h:Q (.bool (decide (b<=a))) m):∀ ra rb,er ra=some (.int a)->er rb=some (.int b)->TR C n (compareOp .GtE ra rb) m Q:=by intro ra rb ha hb;obtain ⟨t,rfl⟩:=bS ha;obtain ⟨u,rfl⟩:=bS hb;rintro P A s R hr ⟨d,z⟩ kk;exact PySem.P.ge_int (kk _ (.bool (decide (b<=a))) m _ rfl ⟨d,z⟩ h)
theorem ac9 (h:Q (.bool (decide (x=y))) m):∀ ra rb,er ra=some (.str x)->er rb=some (.str y)->TR C n (compareOp .Eq ra rb) m Q:=by
 intro ra rb ha hb;obtain ⟨t,rfl⟩:=fX ha;obtain ⟨u,rfl⟩:=fX hb;rintro P A s R hr ⟨d,z⟩ kk;have e:(x==y)=decide (x=y):=by by_cases q:x=y<;>simp[q]
 exact eq_str (kk _ (.bool (decide (x=y))) m _ (by rw[e];rfl) ⟨d,z⟩ h)
theorem ada (h:Q (.bool (!decide (x=y))) m):∀ ra rb,er ra=some (.str x)->er rb=some (.str y)->TR C n (compareOp .NotEq ra rb) m Q:=by
 intro ra rb ha hb;obtain ⟨t,rfl⟩:=fX ha;obtain ⟨u,rfl⟩:=fX hb;rintro P A s R hr ⟨d,z⟩ kk;have e:(x != y)=!decide (x=y):=by by_cases q:x=y<;>simp[q]
 exact ne_str (kk _ (.bool (!decide (x=y))) m _ (by rw[e];rfl) ⟨d,z⟩ h)
theorem pM (hl:x.length+y.length<=2 ^ 20) (h:Q (.str (x++y)) m):∀ ra rb,er ra=some (.str x)->er rb=some (.str y)->TR C n (binaryOp .Add ra rb) m Q:=by intro ra rb ha hb;obtain ⟨t,rfl⟩:=fX ha;obtain ⟨u,rfl⟩:=fX hb;rintro P A s R hr ⟨d,z⟩ kk;exact agS (λt' tk=>kk _ (.str (x++y)) m _ rfl ⟨d,z.tok _⟩ h) (by rw[dZ];exact zz hl aI)
theorem WY (hv:∀ c,v≠.ref c) (h:Q (.bool (match v with | .none=>false | _=>true)) m):∀ ra rb,er ra=some v->er rb=some .none->TR C n (compareOp .IsNot ra rb) m Q:=by
 intro ra rb ha hb;have e:=zN hb;subst e;rintro P A s R hr ⟨d,z⟩ kk;cases v with
 | none=>rw[zN ha];exact wpAny_isNot_self rfl (kk _ _ _ _ rfl ⟨d,z⟩ h)
 | bool t=>rw[wI ha];exact L7 rfl (of_decide_eq_true rfl) (kk _ _ _ _ rfl ⟨d,z⟩ h)
 | int i=>obtain ⟨t,rfl⟩:=bS ha;exact L7 rfl (of_decide_eq_true rfl) (kk _ _ _ _ rfl ⟨d,z⟩ h)
 | str i=>obtain ⟨t,rfl⟩:=fX ha;exact L7 rfl (of_decide_eq_true rfl) (kk _ _ _ _ rfl ⟨d,z⟩ h)
 | ref c=>exact (hv c rfl).elim
theorem jl {t:Bool} {Q:Bool->MH->Prop} (h:Q t m):∀ r,er r=some (.bool t)->TB C n (truthy r) m Q:=by intro r hr;rw[wI hr];rintro P A s R hr ⟨d,z⟩ kk;exact Vx (kk _ _ _ _ rfl ⟨d,z⟩ h)
end
end
section
noncomputable def Sub (L l:Loc):Prop:=∀ y v,L.lookup y=some v->l.lookup y=some v
theorem Sub.refl (l:Loc):Sub l l:=λ_ _ h=>h
theorem Sub.nil (l:Loc):Sub [] l:=λ_ _ h=>by contradiction
theorem Sub.cons (h:l.lookup y=some v) (hs:Sub L l):Sub ((y,v)::L) l:=λz w hz=>by
 rw[iO] at hz;by_cases q:(z==y)=true
 .rw[q] at hz;cases hz;rw[beq_iff_eq.mp q];exact h
 .rw[Mg] at q;rw[q] at hz;exact hs z w hz
theorem Sub.trans (h:Sub a b) (h':Sub b c):Sub a c:=λy v e=>h' y v (h y v e)
section
variable {C:Cx} {n:Nat} {env:Env} {loc:Loc} {m:MH}
noncomputable def Au (C:Cx) (n:Nat) (env:Env) (rest:List Stmt) (Q:Fl->Loc->MH->Prop):Fl->Loc->MH->Prop:=λf l m=>match f with
 | .next=>WS C n env rest l m Q
 | f=>Q f l m
theorem aX (h:WS C n env rest loc m Q):WS C n env [] loc m (Au C n env rest Q):=cX h
theorem jX {st:Stmt} {ss:List Stmt} {Q:Fl->Loc->MH->Prop} (h:W1 C n env st loc m (Au C n env ss Q)):WS C n env (st::ss) loc m Q:=aaI (FX.mono h λf l m' q=>by cases f<;>exact q)
theorem fN (hk:mY env y) (h:WE C n env e loc m λv m'=>WS C n env ss ((y,v)::loc) m' Q)
  (hs:swapsWith e (some (.Name y p1)) pos.line env=pure false:=by rfl):WS C n env (.Assign [.Name y p1] e pos::ss) loc m Q:=jX (YA (h.mono λ_ _ q=>q) hk hs)
theorem XR
  (h:WE C n env e loc m λw m1=>WE C n env o loc m1 λv m2=>∃ a c fs,v=.ref a/\m2 a=some (.inst c fs)/\setOk C.K c name=true/\fs.length < 900/\WS C n env ss loc (m2.set a (.inst c (cj name w fs))) Q)
  (hs:swapsWith e (some (.Attribute o name p1)) pos.line env=pure false:=by rfl):WS C n env (.Assign [.Attribute o name p1] e pos::ss) loc m Q:=jX (XK h hs)
theorem SR.Wb (x:SR C P env loc m s):interactive env=false:=by obtain ⟨d,x⟩:=x;unfold interactive;rw[x.kf];rfl
theorem gu (h:WE C n env e loc m λ_ m'=>WS C n env ss loc m' Q) (hs:swapsWith e none pos.line env=pure false:=by rfl) :
  WS C n env (.Expr e pos::ss) loc m Q:=by
 refine jX λP A s R hr x kk=>?_;exact aaK (Q:=Au C n env ss Q) (h.mono λ_ _ q=>q) x.Wb hs P A s R hr x kk
theorem acf (h:WE C n env e loc m λv m'=>Q (.ret v) loc m'):WS C n env (.Return (some e) pos::ss) loc m Q:=jX (ab6 h)
theorem zP (h:Q .cont loc m):WS C n env (.Continue pos::ss) loc m Q:=jX (aaJ h)
theorem acg (h:Q .brk loc m):WS C n env (.Break pos::ss) loc m Q:=jX (ab7 h)
theorem ck
  (h:WT C n env t loc m λc m1=>(c=true->WS C n env a loc m1 (Au C n env ss Q))/\(c=false->WS C n env b loc m1 (Au C n env ss Q))):WS C n env (.If t a b pos::ss) loc m Q:=
 jX (ac4 (FG.mono h λc m1 q=>by cases c;exact q.2 rfl;exact q.1 rfl))
theorem um (M:Loc->MH->Prop)
  (h:WT C n env t loc m λc m1=>(c=true->WS C n env a loc m1 λf l m2=>match f with | .next=>∃ L,Sub L l/\M L m2 | f=>Q f l m2)/\(c=false->WS C n env b loc m1 λf l m2=>match f with | .next=>∃ L,Sub L l/\M L m2 | f=>Q f l m2))
  (k:∀ L m2,M L m2->WS C n env ss L m2 Q):WS C n env (.If t a b pos::ss) loc m Q:=by
 refine ck (FG.mono h λc m1 q=>⟨λhc=>(q.1 hc).mono ?_,λhc=>(q.2 hc).mono ?_⟩) <;>
 .intro f l m2 x;cases f with
  | next=>obtain ⟨L,hL,hM⟩:=x;exact G7 L hL (k L m2 hM)
  | brk=>exact x
  | cont=>exact x
  | ret v=>exact x
noncomputable def HU (J B:Loc->MH->Prop) (Q:Fl->Loc->MH->Prop):Fl->Loc->MH->Prop
 | .next,l,m=>∃ L,Sub L l/\J L m
 | .cont,l,m=>∃ L,Sub L l/\J L m
 | .brk,l,m=>∃ L,Sub L l/\B L m
 | .ret v,l,m=>Q (.ret v) l m
theorem fB (L:Loc) (hs:Sub L loc) (h:J L m):WS C n env [] loc m (HU J B Q):=cX ⟨L,hs,h⟩
noncomputable def kW:Loc->MH->Prop:=λ_ _=>False
noncomputable def ae5 (C:Cx) (n:Nat) (env:Env) (target:Expr) (body rest:List Stmt) (loc:Loc) (Q:Fl->Loc->MH->Prop) (Inv:(Nat->V)->Nat->Loc->MH->Prop) (B:Loc->MH->Prop) (len:Nat) (item:Nat->V) (cond:MH->Prop) (m1:MH):Prop:=
 (∃ L,Sub L loc/\Inv item 0 L m1)/\(∀ i L mm,Inv item i L mm->cond mm)/\
 (∀ i L mm,i < len->Inv item i L mm->WG C n env target (item i) L mm λl' m'=>WS C n env body l' m' (HU (Inv item (i+1)) B Q))/\
 (∀ L mm,Inv item len L mm\/B L mm->WS C n env rest L mm Q)
theorem kJ
  (h:WI C n env iter loc m λlen item cond m1=>∃ Inv B,ae5 C n env target body rest loc Q Inv B len item cond m1)
  (hs:∀ x,foldedSetIterable iter env x=pure x:=by walk_at "ir"):WS C n env (.For target iter body [] pos::rest) loc m Q:=by
 refine jX (acd (λP A s R hr x kk=>h P A s R hr x λlen item cond St ob m1 s1 d t src x1 hS hf hK=>kk len item cond St ob m1 s1 d t src x1 hS hf ?_) hs);obtain ⟨Inv,B,⟨L0,JC,h0⟩,hc,turn,done⟩:=hK;refine ⟨λi l mm=>∃ L,Sub L l/\Inv item i L mm,⟨L0,JC,h0⟩,λi l mm z_=>by obtain ⟨L,_,hI⟩:=z_;exact hc i L mm hI,λi l mm hi ⟨L,hL,hI⟩=>?_,λl mm z_=>by obtain ⟨L,hL,hI⟩:=z_;exact G7 L hL (done L mm (.inl hI))⟩;intro r hr' P A s R hR x kk;refine turn i L mm hi hI r hr' P A s R hR (x.weak hL) λl' m' s' x' hw=>kk l' m' s' x' (hw.mono λf l2 m2 q=>?_);cases f with
 | next=>exact q
 | cont=>exact q
 | brk=>obtain ⟨L',hL',hB⟩:=q;exact G7 L' hL' (done L' m2 (.inr hB))
 | ret v=>exact q
theorem qG (Inv:Nat->Loc->MH->Prop) (k:Nat) (L0:Loc) (hL:Sub L0 loc) (h0:Inv k L0 m)
  (turn:∀ i L mm,Inv i L mm->WT C n env test L mm λb m'=>(b=true->WS C n env body L m' (HU (λL2 m2=>∃ j,j < i/\Inv j L2 m2) kW Q))/\(b=false->WS C n env rest L m' Q)) :
  WS C n env (.While test body [] pos::rest) loc m Q:=by
 ext C n env loc m test body pos rest Q Inv k L0;show jX;intro P A s R hr x kk;ext P A s R;refine wpAny_While (codeAny_whileLoop (λi s'=>∃ L mm,SR C P env L mm s'/\Inv i L mm) ?_ k ⟨L0,m,x.weak hL,h0⟩);rintro i s' ⟨L,mm,x',hI⟩;ext i s' L mm;refine xF (turn i L mm hI P A s' _ hr x' λr b m1 s1 hb x1 h1=>?_);subst hb;cases r with
 | false=>
  exact Mp (kk .next .next _ _ _ trivial x1 (h1.2 rfl))
 | true=>
  refine xF (h1.1 rfl P A s1 _ hr x1 λf F l2 m2 s2 hfl x2 q=>?_);cases F with
  | next=>cases f<;>first | (obtain ⟨L',hL',j,hj,hq⟩:=q;exact ⟨j,hj,L',m2,x2.weak hL',hq⟩) | exact hfl.elim
  | cont=>cases f<;>first | (obtain ⟨L',hL',j,hj,hq⟩:=q;exact ⟨j,hj,L',m2,x2.weak hL',hq⟩) | exact hfl.elim
  | brk=>obtain ⟨_,_,hB⟩:=q;exact hB.elim
  | ret v=>cases f<;>first | exact kk _ (.ret v) _ _ _ hfl x2 q | exact hfl.elim
end
end
section
theorem aD.ints:∀ {rs:List Value} {ks:List Int},aD rs (ks.map V.int)->IntsAre rs ks
 | rs,[],h=>by rw[h.nil_inv];exact .nil
 | rs,k::ks,h=>by obtain ⟨r,rs',rfl,h1,h2⟩:=aD.cons_inv h;obtain ⟨t,rfl⟩:=bS h1;exact .cons _ _ (aD.ints h2)
theorem NI (h:IntsAre rs ks):aD rs (ks.map V.int):=by
 induction h with
 | nil=>exact aD.nil
 | cons _ _ _ ih=>exact aD.cons rfl ih
theorem aD.strs:∀ {rs:List Value} {ys:List Str},aD rs (ys.map V.str)->StrsAre rs ys
 | rs,[],h=>by rw[h.nil_inv];exact .nil
 | rs,k::ks,h=>by obtain ⟨r,rs',rfl,h1,h2⟩:=aD.cons_inv h;obtain ⟨t,rfl⟩:=fX h1;exact .cons _ _ (aD.strs h2)
theorem aP.fresh (x:aP C P m d s) (h:s.heap.objs.size<=a):¬ fp m d a/\P a=none/\m a=none:=by
 have h1:¬ fp m d a:=λq=>absurd (x.wO q) (jF.mpr h);refine ⟨h1,?_,?_⟩
 .cases e:P a with
  | none=>rfl
  | some o=>exact absurd (x.wX e) (jF.mpr h)
 .cases e:m a with
  | none=>rfl
  | some o=>exact (h1 (.inl (by rw[e];exact gm _))).elim
theorem aP.lS (x:aP C P m d s) (hk:∀ b ob,s.heap.get? b=some ob->h'.get? b=some ob) (ha:s.heap.objs.size<=a) (ho:∀ c fs,o≠.inst c fs)
  (hr:m a=none->Rep C (m.set a o) h' d a o):aP C P (m.set a o) d { s with heap:=h',toks:=t }/\m a=none:=by
 obtain ⟨h1,h2,h3⟩:=x.fresh ha;exact ⟨x.alloc h1 h2 ho hk (hr h3),h3⟩
theorem aP.zQ (x:aP C P m d s) (t:Nat) (hk:∀ b ob,s.heap.get? b=some ob->h'.get? b=some ob):aP C P m d { s with heap:=h',toks:=t }:=x.step λa o _ e=>hk a o e
theorem ach (rs:List Value) (k:Nat) (f:Array Value->Array Value):∃ k',o9 f (lo rs k)=lo (f rs.toArray).toList k':=by obtain ⟨n',hd⟩:=Obj.data_mapSeq (o:=lo rs k) rfl f;refine ⟨n',?_⟩;have e:o9 f (lo rs k)={ lo rs k with data:=(o9 f (lo rs k)).data }:=rfl;rw[e,hd]
theorem aP.Av (x:aP C P m d s) (hm:m a=some (.list xs)) (g:s.heap.get? a=some (lo rs k)) (he:aD (f rs.toArray).toList xs') :
  aP C P (m.set a (.list xs')) d { s with heap:=s.heap.update a (o9 f),toks:=t }:=by
 obtain ⟨k',e⟩:=ach rs k f;refine x.write hm (λ_ _ e=>by cases e) (λ_ e=>by cases e) (λ_ _ e=>by cases e) (vV ..) ⟨_,k',?_,he⟩;rw[BS _ g (by rw[e];rfl),e]
section
variable {C:Cx} {n:Nat} {env:Env} {loc:Loc} {m:MH} {Q:V->MH->Prop}
theorem aP.isList (x:aP C P m d s) (h:m a=some (.list xs)):∃ rs k,s.heap.get? a=some (lo rs k)/\aD rs xs/\s.heap.IsList a rs.toArray:=by obtain ⟨rs,k,h1,h2⟩:=x.rep a _ h;exact ⟨rs,k,h1,h2,⟨_,h1,rfl,_,rfl⟩⟩
theorem aP.isTup (x:aP C P m d s) (h:m a=some (.tuple xs)):∃ rs k,s.heap.get? a=some (tu rs k)/\aD rs xs/\IsTup s.heap a rs.toArray:=by obtain ⟨rs,k,h1,h2⟩:=x.rep a _ h;exact ⟨rs,k,h1,h2,⟨_,h1,rfl,_,rfl⟩⟩
theorem fz (hm:m a=some (.list xs)) (hl:xs.length < 2 ^ 40) (h:Q (.int (xs.length:Nat)) m):∀ rs,aD rs [.ref a]->TR C n (call (.builtin "len") rs) m Q:=by intro rs hrs;obtain ⟨r,rs',rfl,h1,h2⟩:=hrs.cons_inv;rw[h2.nil_inv,bD h1];rintro P A s R hr ⟨d,x⟩ kk;obtain ⟨ws,k,g,he,hi⟩:=x.isList hm;refine len_list hi (by rw[cV,he.length];exact sA hl) (kk _ (.int (xs.length:Nat)) m _ ?_ ⟨d,x.tok _⟩ h);rw[cV,he.length];rfl
theorem wc (hm:m a=some (.tuple xs)) (hl:xs.length < 2 ^ 40) (h:Q (.int (xs.length:Nat)) m):∀ rs,aD rs [.ref a]->TR C n (call (.builtin "len") rs) m Q:=by intro rs hrs;obtain ⟨r,rs',rfl,h1,h2⟩:=hrs.cons_inv;rw[h2.nil_inv,bD h1];rintro P A s R hr ⟨d,x⟩ kk;obtain ⟨ws,k,g,he,hi⟩:=x.isTup hm;refine len_tuple hi (by rw[cV,he.length];exact sA hl) (kk _ (.int (xs.length:Nat)) m _ ?_ ⟨d,x.tok _⟩ h);rw[cV,he.length];rfl
theorem uC (h:WE C n env o loc m λv m1=>WE C n env i loc m1 λw m2=>∀ rv rw,er rv=some v->er rw=some w->TR C n (subscriptTail o i rv rw) m2 Q):WE C n env (.Subscript o i pos) loc m Q:=by intro P A s R hr x kk;refine Subscript_ (h P A s _ hr x λrv v m1 s1 hv x1 h1=>h1 P A s1 _ hr x1 λrw w m2 s2 hw x2 h2=>?_);exact FG.lR (h2 rv rw hv hw) P A s2 R hr x2 kk
theorem aJ (hm:m a=some (.list xs)) (hk:xs[k]? = some v) (hl:xs.length < 2 ^ 40) (h:Q v m)
  (hs:∀ t,subscripted i false (.ref a) (.int (k:Nat) t)=operate [.ref a,.int (k:Nat) t] (getItem (.ref a) (.int (k:Nat) t)):=by walk_at "iu") :
  ∀ rv rw,er rv=some (.ref a)->er rw=some (.int (k:Nat))->TR C n (subscriptTail o i rv rw) m Q:=by
 intro rv rw hv hw;rw[bD hv];obtain ⟨t,rfl⟩:=bS hw;rintro P A s R hr ⟨d,x⟩ kk;obtain ⟨ws,k',g,he,hi⟩:=x.isList hm;obtain ⟨r,h1,h2⟩:=he.get hk;have dQ:k < xs.length:=by obtain ⟨q,_⟩:=bU.mp hk;exact q
 exact CL hi.typeIs VA.lookup (wpAny_getItem_list (x:=r) hi ve (sA (zn dQ hl)) (by simpa using h1) (kk r v m _ h2 ⟨d,x⟩ h)) (hs t)
theorem WZ (hm:m a=some (.list (xs++[v]))) (hl:xs.length < 2 ^ 40) (h:Q v m)
  (hs:∀ t,subscripted i false (.ref a) (.int (-1) t)=operate [.ref a,.int (-1) t] (getItem (.ref a) (.int (-1) t)):=by walk_at "iu") :
  ∀ rv rw,er rv=some (.ref a)->er rw=some (.int (-1))->TR C n (subscriptTail o i rv rw) m Q:=by
 intro rv rw hv hw;rw[bD hv];obtain ⟨t,rfl⟩:=bS hw;rintro P A s R hr ⟨d,x⟩ kk;obtain ⟨ws,k',g,he,hi⟩:=x.isList hm;have hl':ws.length=xs.length+1:=by rw[he.length];simp
 obtain ⟨r,h1,h2⟩:=he.get (i:=xs.length) (v:=v) (by simp);refine CL hi.typeIs VA.lookup (wpAny_getItem_list_neg (x:=r) hi (by exact adU) (by rw[cV,hl'];exact adT) (by exact adS) ?_ (kk r v m _ h2 ⟨d,x⟩ h)) (hs t);rw[cV,hl'];have:((-1:Int)+((xs.length+1:Nat):Int)).toNat=xs.length:=by exact adR
 rw[this];simpa using h1
theorem lM (hm:m a=some (.tuple xs)) (hk:xs[k]? = some v) (hl:xs.length < 2 ^ 40) (h:Q v m)
  (hs:∀ t,subscripted i false (.ref a) (.int (k:Nat) t)=operate [.ref a,.int (k:Nat) t] (getItem (.ref a) (.int (k:Nat) t)):=by walk_at "iu") :
  ∀ rv rw,er rv=some (.ref a)->er rw=some (.int (k:Nat))->TR C n (subscriptTail o i rv rw) m Q:=by
 intro rv rw hv hw;rw[bD hv];obtain ⟨t,rfl⟩:=bS hw;rintro P A s R hr ⟨d,x⟩ kk;obtain ⟨ws,k',g,he,hi⟩:=x.isTup hm;obtain ⟨r,h1,h2⟩:=he.get hk;have dQ:k < xs.length:=by obtain ⟨q,_⟩:=bU.mp hk;exact q
 refine item_tupleT (j:=k) (x:=r) hi (by exact PU) (sA (zn dQ hl)) ?_ h1 (kk r v m _ h2 ⟨d,x⟩ h) (hs t);unfold seqIndex?;have h0:¬ ((k:Int) < 0):=vd;simp only[h0,if_false];rw[if_pos (by simp;rw[he.length];exact dQ)];simp
theorem YJ {o i e:Expr} {p1 pos:Pos} {ss:List Stmt} {Q:Fl->Loc->MH->Prop}
  (h:WE C n env e loc m λv m1=>WE C n env o loc m1 λov m2=>WE C n env i loc m2 λiv m3=>∀ rv ro ri,er rv=some v->er ro=some ov->er ri=some iv->TU C n (setItem ro ri rv) m3 λm4=>WS C n env ss loc m4 Q)
  (hs:swapsWith e (some (.Subscript o i p1)) pos.line env=pure false:=by rfl):WS C n env (.Assign [.Subscript o i p1] e pos::ss) loc m Q:=by
 show jX;intro P A s R hr x kk;refine wpAny_Assign_Subscript (h P A s _ hr x λrv v m1 s1 hv x1 h1=>h1 P A s1 _ hr x1 λro ov m2 s2 ho x2 h2=>h2 P A s2 _ hr x2 λri iv m3 s3 hi x3 h3=>?_) hs;exact FG.lR (h3 rv ro ri hv ho hi) P A s3 _ hr x3 λ_ _ m4 s4 _ x4 q=>kk .next .next _ _ _ trivial x4 q
theorem jE {a:Addr} {xs:List V} {k:Nat} {v:V} {Q:MH->Prop} (hm:m a=some (.list xs)) (hk:k < xs.length) (hl:xs.length < 2 ^ 40) (h:Q (m.set a (.list (xs.set k v)))) :
  ∀ rv ro ri,er rv=some v->er ro=some (.ref a)->er ri=some (.int (k:Nat))->TU C n (setItem ro ri rv) m Q:=by
 intro rv ro ri hv ho hi;rw[bD ho];obtain ⟨t,rfl⟩:=bS hi;rintro P A s R hr ⟨d,x⟩ kk;obtain ⟨ws,k',g,he,hl'⟩:=x.isList hm;have hlen:=he.length;refine ki_setAt g ve (sA (zn hk hl)) (by rw[cV];exact Jw (dN hk hlen)) (kk () () _ _ rfl ⟨d,x.Av (t:=s.toks) hm g ?_⟩ h);rw[Array.toList_setIfInBounds,yI];exact he.set k hv
theorem kG (hm:m a=some (.list xs)) (hl:xs.length < 2 ^ 20) (h:Q .none (m.set a (.list (xs++[v])))) :
  ∀ r rs,er r=some (.ref a)->aD rs [v]->TR C n (call (.builtin "list.append") (r::rs)) m Q:=by
 intro r rs hr hrs;rw[bD hr];obtain ⟨rv,rs',rfl,h1,h2⟩:=hrs.cons_inv;rw[h2.nil_inv];rintro P A s R hr ⟨d,x⟩ kk;obtain ⟨ws,k,g,he,hi⟩:=x.isList hm;have hlen:=he.length;refine wk slot_list_append hi.typeIs entry_list_append (args_list_append _ _) (agJ a ws.toArray k rv (by rw[cV,dZ];exact zz (dm hlen (zf hl)) (zb rfl))) ⟨g,?_⟩;refine kk _ .none _ _ rfl ⟨d,x.Av (t:=s.toks) hm g ?_⟩ h;simpa using he.append (aD.cons h1 aD.nil)
theorem YK (hm:m a=some (.list xs)) (hb:m b=some (.list ys)) (hl:xs.length+ys.length < 2 ^ 20) (h:Q .none (m.set a (.list (xs++ys)))) :
  ∀ r rs,er r=some (.ref a)->aD rs [.ref b]->TR C n (call (.builtin "list.extend") (r::rs)) m Q:=by
 intro r rs hr hrs;rw[bD hr];obtain ⟨rv,rs',rfl,h1,h2⟩:=hrs.cons_inv;rw[h2.nil_inv,bD h1];rintro P A s R hr ⟨d,x⟩ kk;obtain ⟨ws,k,g,he,hi⟩:=x.isList hm;obtain ⟨xG,k',g',he',hi'⟩:=x.isList hb;have hlen:=he.length;have hlen':=he'.length;refine wk Vn hi.typeIs F.entry_list_extend (F.args_list_extend_2 _ _) (AutoSeq1.list_extend_list_list_0 a ws.toArray k b xG.toArray k' ?_ ?_ ?_) ⟨g,g',?_⟩
 .simp[LK,sizeLine];exact λ_=>zz (by rw[hlen,hlen'];exact zf hl:_<=2 ^ 20) (zb rfl)
 .rw[cV,dZ];exact zz (dm hlen (zf (sS hl))) (zb rfl)
 .rw[cV,cV,dZ];exact zz (by rw[hlen,hlen'];exact zf hl:_<=2 ^ 20) (zb rfl)
 .refine kk _ .none _ _ rfl ⟨d,x.Av (t:=s.toks) hm g ?_⟩ h;simpa using he.append he'
end
end
section
noncomputable abbrev jn:Program:=agK
structure FD where
 name:Str
 args:Arguments
 body:List Stmt
 scope:Scope
noncomputable def fdOf (s:Stmt):FD:=if h:s.ctorIdx=0 then agR s h λname args body _ _ _ scope _ _ _=>⟨name,args,body,scope⟩ else
 ⟨"",{ posonlyargs:=[],args:=[],vararg:=none,kwonlyargs:=[],kw_defaults:=[],kwarg:=none,defaults:=[] },[],{ kind:=.function,names:=[],isGenerator:=false,isCoroutine:=false,more:=[] }⟩
noncomputable def aaO (s:Stmt):List Stmt:=if h:s.ctorIdx=2 then agV s h λ_ _ _ body _ _ _ _ _ _ _=>body else []
noncomputable def fd (i:Nat):FD:=fdOf (jn.main.body.getD i (.Pass default))
noncomputable def md (i j:Nat):FD:=fdOf ((aaO (jn.main.body.getD i (.Pass default))).getD j (.Pass default))
noncomputable def xH (K:Frag) (f:Addr) (qual:Str) (D:FD):Prop:=∃ oc od kV doc pm cdv ct an osl,
 K.lookup f=some ⟨oc,od,.func (fnOf D.name qual D.args D.body D.scope .none kV doc pm an cdv ct),osl⟩/\codeIn K cdv qual=true/\keepIn K (.ref f)=true
noncomputable def wZ (K:Frag) (f:Addr) (qual:Str) (D:FD) (ds:List V):Prop:=∃ oc od kV doc pm cdv ct an osl t to td ts tn rs,
 K.lookup f=some ⟨oc,od,.func (fnOf D.name qual D.args D.body D.scope (.ref t) kV doc pm an cdv ct),osl⟩/\codeIn K cdv qual=true/\keepIn K (.ref f)=true/\
 K.lookup t=some ⟨to,td,.seq (Xg rs) tn,ts⟩/\aD rs ds
structure TA where
 f:Nat->Addr
 cls:Nat->Addr
 bZ:Nat->Nat->Addr
 own:Addr
instance:Nonempty TA:=⟨⟨λ_=>default,λ_=>default,λ_ _=>default,default⟩⟩
instance:Nonempty FD:=⟨⟨default,default,default,default⟩⟩
noncomputable def qN:List (Str×Nat):=[("bits",4),("last_terminal",11),("spread",14),("nullable",15),("first_of",16),("first_masks",17),("follow_masks",18),("transitive",19),("advanced",24),("kernels_behind",25),
 ("complete_rules",26),("build",29),("digraph",31),("add_once",33),("lalr_masks",34),("slr_masks",35),("lalr_view",38),("slr_view",39),("_law_pen",41),("_law_draw",42),("_law_right",43),("_law_pairs",44),
 ("_law_empty",45),("_law_text",46),("_law_closure",47),("_law_heads",48),("_law_follow",49),("_law_state_fits",50),("law",51)]
noncomputable def r8:List (Str×Nat×List V):=[("show_rule",10,[.int (-1)]),("plain_grammar",12,[.none])]
noncomputable def z8:List (Str×Nat):=[("Rule",8),("Grammar",9),("LrState",22),("Closer",23),("Automaton",27),("Builder",28),("Lookaheads",32),("View",37)]
noncomputable def uD:List (Nat×List Str):=[(8,["number","left","right","level_of","action","line","before"]),
 (9,["names","terminal_count","rules","levels","expect","start","by_left","offsets","owners","item_count"]),
 (22,["number","kernel","symbol","items","moves","reductions"]),(23,["grammar","firsts"]),(27,["grammar","states"]),(28,["grammar","closer","states","numbers"]),
 (32,["automaton","nullables","transitions","index","direct","reads","includes","turns","lookback","read_masks","follow_masks","masks"]),(37,["grammar","automaton","cores","masks"])]
noncomputable def pF:List (Nat×Nat×Str×Str):=[(9,0,"__init__","Grammar.__init__"),(9,1,"symbol_count","Grammar.symbol_count"),(9,2,"is_terminal","Grammar.is_terminal"),(9,4,"number","Grammar.number"),(9,5,"rules_of","Grammar.rules_of"),
 (9,6,"item","Grammar.item"),(9,7,"rule_of","Grammar.rule_of"),(9,8,"dot_of","Grammar.dot_of"),(9,9,"after","Grammar.after"),
 (22,0,"__init__","LrState.__init__"),(22,1,"goto","LrState.goto"),
 (23,0,"__init__","Closer.__init__"),(23,1,"wanted","Closer.wanted"),(23,2,"added","Closer.added"),(23,3,"close","Closer.close"),
 (27,0,"__init__","Automaton.__init__"),(27,1,"goto","Automaton.goto"),
 (28,0,"__init__","Builder.__init__"),(28,1,"number_of","Builder.number_of"),(28,2,"expand","Builder.expand"),(28,3,"built","Builder.built"),
 (32,0,"__init__","Lookaheads.__init__"),(32,1,"number_transitions","Lookaheads.number_transitions"),(32,2,"find_reads","Lookaheads.find_reads"),(32,3,"find_includes","Lookaheads.find_includes"),
 (32,4,"open_ends","Lookaheads.open_ends"),(32,5,"joined_masks","Lookaheads.joined_masks"),
 (37,0,"__init__","View.__init__"),(37,1,"items_of","View.items_of"),(37,2,"complete","View.complete"),(37,3,"show_item","View.show_item")]
noncomputable def Cs:List Str:=["list","sorted","len","range","tuple","max","abs","sum","str","reversed","Exception"]
structure aS (C:Cx) (A:TA):Prop where
 fn:∀ p∈qN,nsIn C.K mainGlobals p.1=some (some (.ref (A.f p.2)))/\xH C.K (A.f p.2) p.1 (fd p.2)
 s8:∀ p∈r8,nsIn C.K mainGlobals p.1=some (some (.ref (A.f p.2.1)))/\wZ C.K (A.f p.2.1) p.1 (fd p.2.1) p.2.2
 cls:∀ p∈z8,nsIn C.K mainGlobals p.1=some (some (.ref (A.cls p.2)))/\newOk C.K (A.cls p.2) (A.bZ p.2 0)=true
 bZ:∀ p∈pF,xH C.K (A.bZ p.1 p.2.1) p.2.2.2 (md p.1 p.2.1)/\(p.2.1≠0->CY C.K (A.cls p.1) p.2.2.1 (A.bZ p.1 p.2.1)=true)
 rule:wZ C.K (A.bZ 8 0) "Rule.__init__" (md 8 0) [.int (-1),.none,.int 0,.int 0]
 fld:∀ p∈uD,∀ x∈p.2,attrOk C.K (A.cls p.1) x=true/\setOk C.K (A.cls p.1) x=true
 bi:∀ x∈Cs,nsIn C.K mainGlobals x=some none
 Pk:∃ t,nsIn C.K mainGlobals "NONE" = some (some (.int (-1) t))
 ae6:∃ t,nsIn C.K mainGlobals "END" = some (some (.int 0 t))
 own:nsIn C.K mainGlobals "OWN_TERMINALS" = some (some (.ref A.own))/\∃ o rs n,C.base.get? A.own=some o/\o.cls=.type "tuple"/\o.dict=none/\o.data=.seq (Xg rs) n/\aD rs [.str "$end",.str "error",.str "$undefined"]
 sys:(C.base.get? sysModules).isSome=true
theorem MQ [BEq α] [LawfulBEq α] {l:List (α×β)} {x:α} {y:β} (h:l.lookup x=some y):(x,y)∈l:=by
 induction l with
 | nil=>cases h
 | cons p r ih=>
  obtain ⟨a,b⟩:=p;rw[iO] at h;by_cases q:(x==a)=true
  .rw[q] at h;cases h;rw[beq_iff_eq.mp q];exact aZ
  .rw[Mg] at q;rw[q] at h;exact b9 _ (ih h)
theorem fZ.toC (e:fZ env sc):g9 env sc:=⟨λ_ _ h _=>e.kind h⟩
theorem NJ {names:List Str} {args:List V} {rargs:List Value} (hla:args.length=names.length) (e:rargs.map er=args.map some) :
  (names.zip rargs).map (λb=>(b.1,er b.2))=(names.zip args).map (λb=>(b.1,some b.2)):=by
 induction names generalizing rargs args with
 | nil=>rfl
 | cons y r ih=>
  cases rargs with
  | nil=>cases args with
   | nil=>rfl
   | cons=>cases e
  | cons a b=>cases args with
   | nil=>cases e
   | cons a' b'=>
    rw[bq,bq] at e;obtain ⟨e1,e2⟩:=qA e;simp only[List.zip_cons_cons,bq,e1];congr 1;exact ih (args:=b') (rargs:=b) (by simpa using hla) e2
theorem Oj {C:Cx} {f:Addr} {n:Nat} {args:List V} {m:MH} {Q:V->MH->Prop} {qual:Str} {D:FD} (names:List Str) (hk:xH C.K f qual D) (hn:1<=n)
  (hla:args.length=names.length) (h:∀ env,fZ env D.scope->WS C (n - 1) env D.body (names.zip args) m (uL Q))
  (hb:∀ rargs kV doc pm an cdv ct,rargs.length=names.length->bindArgs (fnOf D.name qual D.args D.body D.scope .none kV doc pm an cdv ct) ⟨rargs,[]⟩=pure (names.zip rargs))
  (hkind:(names.all λy=>D.scope.names.lookup y==some .local||D.scope.names.lookup y==some .cell)=true) (hnd:names.Nodup) (hcn:((cellsFrom 0 D.scope.names []).map (·.1)).Nodup)
  (hco:D.scope.isCoroutine=false:=by rfl) (hgen:D.scope.isGenerator=false:=by rfl) (hkk:D.scope.kind=.function:=by rfl):FC C f n args m Q:=by
 ext C f n args m Q qual D names;obtain ⟨n,rfl⟩:∃ k,n=k+1:=⟨n - 1,pY hn⟩;obtain ⟨oc,od,kV,doc,pm,cdv,ct,an,osl,ho,hcd,_⟩:=hk;have hz:∀ {β:Type} (l:List β),l.length=names.length->(names.zip l).map (·.1)=names:=λl hl=>VQ (pW hl);refine NG (loc:=names.zip args) ho hcd (λrargs he=>⟨names.zip rargs,λs _=>BindsTo.of_eq (hb rargs _ _ _ _ _ _ (by rw[he.length,hla])),NJ hla he⟩) ?_ ?_ hcn h hco hgen hkk
 .rw[gp];intro y hy;have:y.1∈names:=by have:=E8 (f:=(·.1)) hy;rwa [hz args hla] at this
  exact gp.mp hkind _ this
 .rw[hz args hla];exact hnd
theorem GK {C:Cx} {f:Addr} {n:Nat} {args ds:List V} {m:MH} {Q:V->MH->Prop} {qual:Str} {D:FD} (names:List Str) (k:Nat) (hk:wZ C.K f qual D ds) (hn:1<=n)
  (hla:args.length+k=names.length) (hlk:k<=ds.length) (h:∀ env,fZ env D.scope->WS C (n - 1) env D.body (names.zip (args++ds.drop (ds.length - k))) m (uL Q))
  (hb:∀ rargs t kV doc pm an cdv ct,rargs.length=args.length->∀ oB:List Value,oB.length=ds.length->
   ∃ kk,bindArgs (fnOf D.name qual D.args D.body D.scope (.ref t) kV doc pm an cdv ct) ⟨rargs,[]⟩=seqItems? (.ref t) >>= kk/\kk (some oB.toArray)=pure (names.zip (rargs++oB.drop (oB.length - k))))
  (hkind:(names.all λy=>D.scope.names.lookup y==some .local||D.scope.names.lookup y==some .cell)=true) (hnd:names.Nodup) (hcn:((cellsFrom 0 D.scope.names []).map (·.1)).Nodup)
  (hco:D.scope.isCoroutine=false:=by rfl) (hgen:D.scope.isGenerator=false:=by rfl) (hkk:D.scope.kind=.function:=by rfl):FC C f n args m Q:=by
 ext C f n args ds m Q qual D names k;obtain ⟨n,rfl⟩:∃ k,n=k+1:=⟨n - 1,pY hn⟩;clear hn;ext n;obtain ⟨oc,od,kV,doc,pm,cdv,ct,an,osl,t,to,td,ts,tn,oB,ho,hcd,_,ht,hds⟩:=hk;have hdl:=hds.length;have Ir:(args++ds.drop (ds.length - k)).length=names.length:=by simp;exact (congrArg (args.length+·) (Nat.sub_sub_self hlk)).trans hla
 have hz:∀ {β:Type} (l:List β),l.length=names.length->(names.zip l).map (·.1)=names:=λl hl=>VQ (pW hl);refine NG (loc:=names.zip (args++ds.drop (ds.length - k))) ho hcd (λrargs he=>?_) ?_ ?_ hcn h hco hgen hkk
 .have hal:rargs.length=args.length:=he.length;obtain ⟨kk,e1,e2⟩:=hb rargs t kV doc pm an cdv ct hal oB hdl;refine ⟨names.zip (rargs++oB.drop (oB.length - k)),λs hs=>BindsTo.of_defaults (fd:=fnOf D.name qual D.args D.body D.scope (.ref t) kV doc pm an cdv ct) rfl (hs _ _ ht) rfl e1 e2,NJ Ir ?_⟩;rw[hdl];exact he.append (hds.drop _)
 .rw[gp];intro y hy;have:y.1∈names:=by have:=E8 (f:=(·.1)) hy;rwa [hz _ Ir] at this
  exact gp.mp hkind _ this
 .rw[hz _ Ir];exact hnd
section
variable {C:Cx} {A:TA} {n:Nat} {env:Env} {sc:Scope} {loc:Loc} {m:MH} {Q:V->MH->Prop}
theorem xH.keep {K:Frag} {f:Addr} {q:Str} {D:FD} (h:xH K f q D):keepIn K (.ref f)=true:=by obtain ⟨_,_,_,_,_,_,_,_,_,_,_,h⟩:=h;exact h
theorem wZ.keep {K:Frag} {f:Addr} {q:Str} {D:FD} {ds:List V} (h:wZ K f q D ds):keepIn K (.ref f)=true:=by obtain ⟨_,_,_,_,_,_,_,_,_,_,_,_,_,_,_,_,_,h,_⟩:=h;exact h
theorem cF (T:aS C A) (ec:g9 env sc) (i:Nat) (h:WA C n env args loc m λvs m'=>FC C (A.f i) n vs m' Q) (hm:decide ((g,i)∈qN)=true:=by kernel_rfl) (hk:sc.names.lookup g=some .globalImplicit:=by rfl) (hp:jG args:=by walk_at "pl") (hs:(backTo pos (starEach args env)).any (·.1)=false:=by rfl) (hd:(g==("__debug__" : Str))=false:=by decide):WE C n env (.Call (.Name g p) args [] pos) loc m Q:=
 Oi (ec.kind g _ hk (by decide)) (T.fn _ (of_decide_eq_true hm)).1 (T.fn _ (of_decide_eq_true hm)).2.keep h hp hs hd
theorem Nk (T:aS C A) (ec:g9 env sc) (i:Nat) (ds:List V) (h:WA C n env args loc m λvs m'=>FC C (A.f i) n vs m' Q) (hm:(g,i,ds)∈r8) (hk:sc.names.lookup g=some .globalImplicit:=by rfl) (hp:jG args:=by walk_at "pl") (hs:(backTo pos (starEach args env)).any (·.1)=false:=by rfl) (hd:(g==("__debug__" : Str))=false:=by decide):WE C n env (.Call (.Name g p) args [] pos) loc m Q:=
 Oi (ec.kind g _ hk (by decide)) (T.s8 _ hm).1 (T.s8 _ hm).2.keep h hp hs hd
theorem pG (T:aS C A) (ec:g9 env sc) (i:Nat) (hn:1<=n) (h:WA C n env args loc m λvs m'=>∀ a,m' a=none->FC C (A.bZ i 0) (n - 1) (.ref a::vs) (m'.set a (.inst (A.cls i) [])) λv iu=>v=.none/\Q (.ref a) iu) (hm:decide ((g,i)∈z8)=true:=by kernel_rfl) (hk:sc.names.lookup g=some .globalImplicit:=by rfl) (hp:jG args:=by walk_at "pl") (hs:(backTo pos (starEach args env)).any (·.1)=false:=by rfl) (hd:(g==("__debug__" : Str))=false:=by decide):WE C n env (.Call (.Name g p) args [] pos) loc m Q:=by obtain ⟨n,rfl⟩:∃ k,n=k+1:=⟨n - 1,pY hn⟩;exact ab9 (ec.kind g _ hk (by decide)) (T.cls _ (of_decide_eq_true hm)).1 (T.cls _ (of_decide_eq_true hm)).2 h hp hs hd
theorem kH (T:aS C A) (i j:Nat) (qual:Str) (h:WE C n env o loc m λv m'=>∃ a fs,v=.ref a/\m' a=some (.inst (A.cls i) fs)/\fs.lookup name=none/\WA C n env args loc m' λvs iu=>FC C (A.bZ i j) n (.ref a::vs) iu Q) (hm:decide ((i,j,name,qual)∈pF)=true:=by kernel_rfl) (hj:j≠0:=by decide) (hp:jG args:=by walk_at "pl") (hs:(backTo pos (starEach args env)).any (·.1)=false:=by rfl) (hbase:attributeBase o name env (eval o env)=eval o env:=by rfl) (hline:(apos.endLine==pos.line)=true:=by rfl) (hfew:((backTo pos (starEach args env)).all (λx=>!x.1)&&(backToKw pos (keywordEach [] env)).all (λx=>x.1.isSome)&&decide (args.length+([]:List Keyword).length+(if ([]:List Keyword).isEmpty then 0 else 1) < 30))=true:=by rfl) :
  WE C n env (.Call (.Attribute o name apos) args [] pos) loc m Q:=
 aaL (h.mono λv m' z_=>by obtain ⟨a,fs,h1,h2,h3,h4⟩:=z_;exact ⟨a,_,fs,_,h1,h2,(T.bZ _ (of_decide_eq_true hm)).2 hj,h3,h4⟩) hp hs hbase hline hfew
theorem gY (T:aS C A) (i:Nat) (h:WE C n env o loc m λv m'=>∃ a fs w,v=.ref a/\m' a=some (.inst (A.cls i) fs)/\fs.lookup name=some w/\Q w m') (hm:(uD.lookup i).any (·.contains name)=true:=by kernel_rfl) (he:eval (.Attribute o name pos) env=(do
   let o'<-eval o env
   standAt pos.atName
   let r<-holding [o'] (getAttr o' name true)
   letTemporaryGo o o' r
   pure r):=by with_unfolding_all rfl):WE C n env (.Attribute o name pos) loc m Q:=by
 cases hl:uD.lookup i with
 | none=>rw[hl] at hm;cases hm
 | some l=>
  rw[hl] at hm;exact aaM (h.mono λv m' z_=>by obtain ⟨a,fs,w,h1,h2,h3,h4⟩:=z_;exact ⟨a,_,fs,w,h1,h2,h3,(T.fld (i,l) (MQ hl) name (by simpa using hm)).1,h4⟩) he
theorem b7 {o e:Expr} {name:Str} {p1 pos:Pos} {ss:List Stmt} {Q:Fl->Loc->MH->Prop} (T:aS C A) (i:Nat) (h:WE C n env e loc m λw m1=>WE C n env o loc m1 λv m2=>∃ a fs,v=.ref a/\m2 a=some (.inst (A.cls i) fs)/\fs.length < 900/\WS C n env ss loc (m2.set a (.inst (A.cls i) (cj name w fs))) Q) (hm:(uD.lookup i).any (·.contains name)=true:=by kernel_rfl) (hs:swapsWith e (some (.Attribute o name p1)) pos.line env=pure false:=by rfl):WS C n env (.Assign [.Attribute o name p1] e pos::ss) loc m Q:=by
 cases hl:uD.lookup i with
 | none=>rw[hl] at hm;cases hm
 | some l=>
  rw[hl] at hm;exact XR (h.mono λw m1 h1=>h1.mono λv m2 z_=>by obtain ⟨a,fs,q1,q2,q3,q4⟩:=z_;exact ⟨a,_,fs,q1,q2,(T.fld (i,l) (MQ hl) name (by simpa using hm)).2,q3,q4⟩) hs
theorem bY {g:Str} {id:String} {p pos:Pos} {args:List Expr} (T:aS C A) (ec:g9 env sc) (hb:bootBuiltins g=some (.builtin id)) (h:WA C n env args loc m λvs m'=>∀ rs,aD rs vs->TR C n (call (.builtin id) rs) m' Q) (hm:decide (g∈Cs)=true:=by kernel_rfl) (hk:sc.names.lookup g=some .globalImplicit:=by rfl) (hp:jG args:=by walk_at "pl") (hs:(backTo pos (starEach args env)).any (·.1)=false:=by rfl) (hn:g≠"__name__":=by decide) (hd:(g==("__debug__" : Str))=false:=by decide) :
  WE C n env (.Call (.Name g p) args [] pos) loc m Q:=Zu (ec.kind g _ hk (by decide)) (T.bi _ (of_decide_eq_true hm)) hb h hp hs hn hd
theorem mO {g:Str} {id:String} {p pos:Pos} {args:List Expr} (T:aS C A) (ec:g9 env sc) (hb:bootBuiltins g=some (.type id)) (h:WA C n env args loc m λvs m'=>∀ rs,aD rs vs->TR C n (call (.type id) rs) m' Q) (hm:decide (g∈Cs)=true:=by kernel_rfl) (hk:sc.names.lookup g=some .globalImplicit:=by rfl) (hp:jG args:=by walk_at "pl") (hs:(backTo pos (starEach args env)).any (·.1)=false:=by rfl) (hn:g≠"__name__":=by decide) (hd:(g==("__debug__" : Str))=false:=by decide) :
  WE C n env (.Call (.Name g p) args [] pos) loc m Q:=Zv (ec.kind g _ hk (by decide)) (T.bi _ (of_decide_eq_true hm)) hb h hp hs hn hd
end
end
section
set_option maxRecDepth 100000
set_option maxHeartbeats 0
noncomputable abbrev w5:=Str×Str×Arguments×FuncBody×Scope×Addr×List (Str×Addr)×Bool×Option (List (Option V))×Addr
noncomputable def sq:Nat->List Obj->Frag
 | _,[]=>[]
 | i,o::r=>bif o.isFreed then sq (i+1) r else (i,o)::sq (i+1) r
noncomputable def C9 (h:Heap):Frag:=sq 0 h.objs.toList
noncomputable def s8 (o:Obj):Option FuncData:=if h:o.data.ctorIdx=7 then ag5 o.data h some else none
noncomputable def JD (o:Obj):Option (Array Value):=if h:o.data.ctorIdx=2 then Data.seq.elim o.data h λa _=>some a else none
noncomputable def Pn (v:Value):Option Addr:=if h:v.ctorIdx=10 then ag6 v h some else none
noncomputable def HV (K:Frag) (v:Value):Option (List (Option V)):=(Pn v).bind λt=>((K.lookup t).bind JD).map λa=>a.toList.map er
noncomputable def aaP (v:Value):Bool:=v.ctorIdx==0
noncomputable def mZ (K:Frag) (a:Addr):Option w5:=((K.lookup a).bind s8).map λd=>(d.name,d.qualname,d.params,d.body,d.scope,d.globals,d.closure,aaP d.defaults,HV K d.defaults,d.builtins)
noncomputable def codeOk (K:Frag) (a:Addr) (q:Str):Bool:=((K.lookup a).bind s8).elim false λd=>codeIn K d.code q&&keepIn K (.ref a)
noncomputable def mU (qual:Str) (D:FD) (ds:Option (List V)):w5:=(D.name,qual,D.args,.stmts D.body,D.scope,mainGlobals,[],ds.isNone,ds.map λl=>l.map some,builtinsNs)
noncomputable def adr (x:Option (Option Value)):Addr:=((x.bind id).bind Pn).getD 0
noncomputable def R0 (K:Frag):TA where
 f:=λi=>adr (nsIn K mainGlobals (((qN++r8.map λp=>(p.1,p.2.1)).find? λp=>p.2==i).map (·.1)).get!)
 cls:=λi=>adr (nsIn K mainGlobals ((z8.find? λp=>p.2==i).map (·.1)).get!)
 bZ:=λi j=>adr (findIn K (.ref (adr (nsIn K mainGlobals ((z8.find? λp=>p.2==i).map (·.1)).get!))) (if j==0 then "__init__" else ((pF.find? λp=>p.1==i&&p.2.1==j).map (·.2.2.1)).get!))
 own:=adr (nsIn K mainGlobals "OWN_TERMINALS")
noncomputable def HB (K:Frag) (A:TA):Bool:=
 (qN.all λp=>nsIn K mainGlobals p.1==some (some (.ref (A.f p.2)))&&codeOk K (A.f p.2) p.1) &&
 (r8.all λp=>nsIn K mainGlobals p.1==some (some (.ref (A.f p.2.1)))&&codeOk K (A.f p.2.1) p.1) &&
 (z8.all λp=>nsIn K mainGlobals p.1==some (some (.ref (A.cls p.2)))&&newOk K (A.cls p.2) (A.bZ p.2 0)) &&
 (pF.all λp=>codeOk K (A.bZ p.1 p.2.1) p.2.2.2&&(p.2.1==0||CY K (A.cls p.1) p.2.2.1 (A.bZ p.1 p.2.1))) &&
 codeOk K (A.bZ 8 0) "Rule.__init__" &&
 (uD.all λp=>p.2.all λx=>attrOk K (A.cls p.1) x&&setOk K (A.cls p.1) x) &&
 (Cs.all λx=>nsIn K mainGlobals x==some none) &&
 nsIn K mainGlobals "OWN_TERMINALS" == some (some (.ref A.own))
noncomputable def Iu (K:Frag) (a:Addr):Option (List (Option V)):=if (K.lookup a).map (λo=>(o.cls,o.dict))=some (.type "tuple",none) then HV K (.ref a) else none
noncomputable def AW (x:Option (Option Value)):Option V:=x.bind λy=>y.bind er
noncomputable abbrev OU:=Bool×Bool×List (Option w5)×List (Option w5)×List (Option w5)×Option w5×Option (List (Option V))×Option V×Option V
noncomputable def xJ (h:Heap):OU:=
 let K:=C9 h
 let A:=R0 K
 ((h.get? sysModules).isSome,HB K A,qN.map (λp=>mZ K (A.f p.2)),r8.map (λp=>mZ K (A.f p.2.1)),pF.map (λp=>mZ K (A.bZ p.1 p.2.1)),mZ K (A.bZ 8 0),Iu K A.own,AW (nsIn K mainGlobals "NONE"),AW (nsIn K mainGlobals "END"))
noncomputable def wQ:OU:=
 (true,true,qN.map (λp=>some (mU p.1 (fd p.2) none)),r8.map (λp=>some (mU p.1 (fd p.2.1) (some p.2.2))),pF.map (λp=>some (mU p.2.2.2 (md p.1 p.2.1) none)),some (mU "Rule.__init__" (md 8 0) (some [.int (-1),.none,.int 0,.int 0])),some [some (.str "$end"),some (.str "error"),some (.str "$undefined")],some (.int (-1)),some (.int 0))
noncomputable def q174:Program:=view jn [51]
noncomputable def r9:List Str:=[cg "_wall",cg "ToolError",cg "GrammarError",cg "bits",cg "END",cg "OWN_TERMINALS",cg "Rule",cg "Grammar",cg "show_rule",cg "last_terminal",cg "plain_grammar",cg "spread",cg "nullable",cg "first_of",cg "first_masks",cg "follow_masks",cg "transitive",cg "NONE",cg "LrState",cg "Closer",cg "advanced",cg "kernels_behind"]++[cg "complete_rules",cg "Automaton",cg "Builder",cg "build",cg "digraph",cg "Lookaheads",cg "add_once",cg "lalr_masks",cg "slr_masks",cg "View",cg "lalr_view",cg "slr_view",cg "_law_pen",cg "_law_draw",cg "_law_right",cg "_law_pairs",cg "_law_empty",cg "_law_text",cg "_law_closure",cg "_law_heads",cg "_law_follow",cg "_law_state_fits"]
noncomputable def ae7:OpenRow:=LD.row
noncomputable def Dc (s:Shared):Bool:=xlAt q174 [] s&&recOk (RowW.records ae7.toRowW) s
theorem YL:∀ s,fenceModules? jn s=some s:=λ_=>rfl
theorem open_plain:opening jn=plainProg jn.main.scope.names:=rfl
noncomputable def Dj (stp:SharedT->Thread->Option (SharedT×Thread)) (ok:Thread->Bool):Nat->SharedT->Thread->Option SharedT
 | 0,_,_=>none
 | n+1,s,t=>match through t with
  | true=>some s
  | false=>match ok t with
   | false=>none
   | true=>match stp s t with
    | some (s',t')=>Dj stp ok n s' t'
    | none=>none
theorem aaQ {tb:String->Option Builtin} {p:Program} {w:World} {n₀:Nat} {ann:Option Value} {n:Nat} {s s':SharedT} {t:Thread} (h:Dj (stepT (denote tb) p w) (stepOk n₀ ann) n s t=some s'):topRun tb p w n₀ ann n s.abs t=some s'.abs:=by
 induction n generalizing s t with
 | zero=>cases h
 | succ n ih=>
  unfold Dj at h;unfold topRun;cases he:through t with
  | true=>rw[he] at h;cases h;rfl
  | false=>
   rw[he] at h;cases hk:stepOk n₀ ann t with
   | false=>rw[hk] at h;cases h
   | true=>
    rw[hk] at h;cases hs:stepT (denote tb) p w s t with
    | none=>rw[hs] at h;cases h
    | some r=>obtain ⟨s₂,t₂⟩:=r;rw[hs] at h;simp only[stepT_spec hs];exact ih h
noncomputable def D0 (l:List Obj):BT×Nat:=l.foldl (λx o=>(x.1.ins x.2 o,x.2+1)) (BT.nil,0)
noncomputable def HW (P:Params) (os:OsState):SharedT:=⟨(D0 (lK P).objs.toList).1,(D0 (lK P).objs.toList).2,(lK P).life,#[],Gn,GG,os⟩
theorem XS (P:Params):absHeap (D0 (lK P).objs.toList).1 (D0 (lK P).objs.toList).2 (lK P).life=lK P:=by kernel_rfl
noncomputable def Ol (h₀ h:Heap) (s:Shared):Bool:=staticsOk (importedModules jn.main.body) h₀ h&&namesBound jn h&&gensDone s&&laidKept h₀ h
theorem aaR (P:Params):((lK P).isNs mainGlobals)=true:=by kernel_rfl
theorem ZC (w:World) (os:OsState):(Dj (stepT (denote treeTable) jn w) (stepOk (lK w.params).objs.size ((lK w.params).nsMap mainGlobals "__annotations__")) 8970 (HW w.params os) (topStub jn)).map
   (λs=>(openSeen q174 r9 (importedModules jn.main.body) Dc true s.abs,Ol (lK w.params) s.abs.heap s.abs,xJ s.abs.heap))=some (openGood q174 r9,true,wQ):=by
 rw[agD,agG,agE,agF,agH];kernel_rfl
end
section
set_option maxRecDepth 100000
theorem ZD (w:World) (os:OsState):(topFrom treeTable jn w 8970 ⟨lK w.params,#[],Gn,GG,os⟩).map (λs=>(openSeen q174 r9 (importedModules jn.main.body) Dc true s,xJ s.heap))=some (openGood q174 r9,wQ):=by
 ext w os;obtain ⟨s,hs,e⟩:=BQ.mp (ZC w os);simp only[rQ] at e;obtain ⟨e1,e2,e3⟩:=e;have hr:=aaQ hs;have h0:(HW w.params os).abs=⟨lK w.params,#[],Gn,GG,os⟩:=by unfold HW SharedT.abs;rw[XS]
 rw[h0] at hr;unfold topFrom;dsimp only;rw[aaR];simp only[WN];rw[show ((#[]:Array GenState).size==0)=true from rfl];dsimp only;rw[hr,VR];unfold Ol at e2;rw[e2];simp only[Ft,e1,e3]
theorem adb:LeftO jn q174 r9 Dc (λs=>xJ s.heap) (λ_=>wQ) 8970:=λw=>by
 ext w;obtain ⟨s₀,hs,e⟩:=BQ.mp (boot_open (p:=jn) (N:=8970) open_plain (by decide) YL w);have e':s₀=⟨lK w.params,#[],Gn,GG,s₀.os⟩:=by obtain ⟨h,g,d,t,o⟩:=s₀;simp only[rQ] at e;obtain ⟨rfl,rfl,rfl,rfl⟩:=e;rfl
 unfold openEnds;rw[hs,VR,e'];exact ZD w s₀.os
structure TopK (K:Frag) (A:TA):Prop where
 ok:HB K A=true
 d1:qN.map (λp=>mZ K (A.f p.2))=qN.map (λp=>some (mU p.1 (fd p.2) none))
 d2:r8.map (λp=>mZ K (A.f p.2.1))=r8.map (λp=>some (mU p.1 (fd p.2.1) (some p.2.2)))
 d3:pF.map (λp=>mZ K (A.bZ p.1 p.2.1))=pF.map (λp=>some (mU p.2.2.2 (md p.1 p.2.1) none))
 d4:mZ K (A.bZ 8 0)=some (mU "Rule.__init__" (md 8 0) (some [.int (-1),.none,.int 0,.int 0]))
 d5:Iu K A.own=some [some (.str "$end"),some (.str "error"),some (.str "$undefined")]
 d6:AW (nsIn K mainGlobals "NONE")=some (.int (-1))
 d7:AW (nsIn K mainGlobals "END")=some (.int 0)
noncomputable def xK (h:Heap):Prop:=∃ K A,K.In h/\TopK K A/\(h.get? sysModules).isSome=true
theorem xK.keeps {h h':Heap} (x:xK h) (k:∀ b o,h.get? b=some o->h'.get? b=some o):xK h':=by obtain ⟨K,A,h1,h2,h3⟩:=x;obtain ⟨o,ho⟩:=yx.mp h3;exact ⟨K,A,h1.keeps k,h2,by rw[k _ _ ho];rfl⟩
theorem ZE (l:List Obj):∀ (i a:Nat) (o:Obj),(sq i l).lookup a=some o->i<=a/\l[a - i]? = some o/\o.isFreed=false:=by
 induction l with
 | nil=>intro i a o h;contradiction
 | cons x r ih=>
  intro i a o h;have tl:(sq (i+1) r).lookup a=some o->i<=a/\(x::r)[a - i]? = some o/\o.isFreed=false:=λh=>by obtain ⟨h1,h2,h3⟩:=ih (i+1) a o h;have e0:a - i=(a - (i+1))+1:=zmt h1;exact ⟨zf h1,by rw[e0,rI];exact h2,h3⟩
  have hd:x.isFreed=false->MY (β:=Obj) a ((i,x)::sq (i+1) r)=some o->i<=a/\(x::r)[a - i]? = some o/\o.isFreed=false:=λhf h=>by
   rw[iO] at h;cases q:(a==i) with
   | true=>
    rw[q] at h;have e1:a=i:=beq_iff_eq.mp q;have e2:=c8 h;subst e1 e2;exact ⟨aL _,by rw[MO];rfl,hf⟩
   | false=>rw[q] at h;exact tl h
  have h:(bif x.isFreed then sq (i+1) r else (i,x)::sq (i+1) r).lookup a=some o:=h;cases hf:x.isFreed with
  | true=>rw[hf] at h;exact tl h
  | false=>rw[hf] at h;exact hd hf h
theorem ZF (h:Heap):(C9 h).In h:=λa o e=>by ext h a o;obtain ⟨_,h2,h3⟩:=ZE _ 0 a o e;rw[Xh,LQ] at h2;unfold Heap.get?;rw[h2];obtain ⟨c,d,dt,sl⟩:=o;cases dt<;>first | rfl | cases h3
theorem aci {h:Heap} (e:xJ h=wQ):xK h:=by ext h;unfold xJ wQ at e;simp only[rQ] at e;obtain ⟨e1,e2,e3,e4,e5,e6,e7,e8,e9⟩:=e;exact ⟨C9 h,R0 (C9 h),ZF h,⟨e2,e3,e4,e5,e6,e7,e8,e9⟩,e1⟩
theorem Om {o:Obj} {d:FuncData} (h:s8 o=some d):∃ c k sl,o=⟨c,k,.func d,sl⟩:=by
 obtain ⟨c,k,dt,sl⟩:=o;cases dt with
 | func f=>cases h;exact ⟨_,_,_,rfl⟩
 | _=>cases h
theorem aaS {o:Obj} {d:Array Value} (h:JD o=some d):∃ c k n sl,o=⟨c,k,.seq d n,sl⟩:=by
 obtain ⟨c,k,dt,sl⟩:=o;cases dt with
 | seq f n=>cases h;exact ⟨_,_,_,_,rfl⟩
 | _=>cases h
theorem Nl {K:Frag} {v:Value} {l:List (Option V)} (h:HV K v=some l):∃ t c d a n sl,v=.ref t/\K.lookup t=some ⟨c,d,.seq a n,sl⟩/\a.toList.map er=l:=by
 cases v with
 | ref t=>
  have h:((K.lookup t).bind JD).map (λa=>a.toList.map er)=some l:=h;obtain ⟨a,hl,e⟩:=BQ.mp h;obtain ⟨o,hl,ho⟩:=LN.mp hl;obtain ⟨c,d,n,sl,rfl⟩:=aaS ho;exact ⟨t,c,d,a,n,sl,rfl,hl,e⟩
 | _=>cases h
theorem Oo {x:Option (Option Value)} {i:Int} (h:AW x=some (.int i)):∃ t,x=some (some (.int i t)):=by
 rcases x with _ | _ | v
 .cases h
 .cases h
 .obtain ⟨t,rfl⟩:=bS (r:=v) h;exact ⟨t,rfl⟩
theorem NK {K:Frag} {a:Addr} {q:Str} {D:FD} (h:mZ K a=some (mU q D none)) (c:codeOk K a q=true):xH K a q D:=by
 ext K a q D;unfold mZ at h;unfold codeOk at c;obtain ⟨d,hl,h⟩:=BQ.mp h
 .rw[hl] at c;obtain ⟨o,hl,ho⟩:=LN.mp hl;obtain ⟨oc,od,osl,rfl⟩:=Om ho;clear ho;ext oc od d osl;have c:=vR.mp c;obtain ⟨nm,qn,pr,bd,sc,gl,cl,df,kw,dc,pm,an,cd,ct,bu⟩:=d;ext nm qn pr bd sc gl cl df kw dc pm an cd ct bu;simp only[mU,rQ] at h;obtain ⟨rfl,rfl,rfl,rfl,rfl,rfl,rfl,hn,_,rfl⟩:=h;have hdf:df=.none:=by cases df<;>first | rfl | cases hn
  subst hdf;exact ⟨oc,od,kw,dc,pm,cd,ct,an,osl,hl,c.1,c.2⟩
theorem Nm {K:Frag} {a:Addr} {q:Str} {D:FD} {ds:List V} (h:mZ K a=some (mU q D (some ds))) (c:codeOk K a q=true):wZ K a q D ds:=by
 ext K a q D ds;unfold mZ at h;unfold codeOk at c;obtain ⟨d,hl,h⟩:=BQ.mp h
 .rw[hl] at c;obtain ⟨o,hl,ho⟩:=LN.mp hl;obtain ⟨oc,od,osl,rfl⟩:=Om ho;clear ho;ext oc od d osl;have c:=vR.mp c;obtain ⟨nm,qn,pr,bd,sc,gl,cl,df,kw,dc,pm,an,cd,ct,bu⟩:=d;ext nm qn pr bd sc gl cl df kw dc pm an cd ct bu;simp only[mU,rQ] at h;obtain ⟨rfl,rfl,rfl,rfl,rfl,rfl,rfl,hn,hd,rfl⟩:=h;obtain ⟨t,to,td,a',tn,ts,rfl,ht,e⟩:=Nl hd;exact ⟨oc,od,kw,dc,pm,cd,ct,an,osl,t,to,td,ts,tn,a'.toList,hl,c.1,c.2,by rw[U5];exact ht,e⟩
theorem Gb {α β:Type} {f g:α->β} {l:List α} (h:l.map f=l.map g):∀ x∈l,f x=g x:=List.map_inj_left.mp h
theorem YM {C:Cx} {A:TA} (hk:C.K.In C.base) (t:TopK C.K A) (hs:(C.base.get? sysModules).isSome=true):aS C A:=by
 have ok:=t.ok;ext C A;unfold HB at ok;simp only[lH,gp,beq_iff_eq] at ok;obtain ⟨⟨⟨⟨⟨⟨⟨o1,o2⟩,o3⟩,o4⟩,o5⟩,o6⟩,o7⟩,o10⟩:=ok;refine ⟨λp hp=>⟨(o1 p hp).1,NK (Gb t.d1 p hp) (o1 p hp).2⟩,λp hp=>⟨(o2 p hp).1,Nm (Gb t.d2 p hp) (o2 p hp).2⟩,λp hp=>o3 p hp,
  λp hp=>⟨NK (Gb t.d3 p hp) (o4 p hp).1,λh0=>?_⟩,Nm t.d4 o5,λp hp x hx=>o6 p hp x hx,λx hx=>o7 x hx,Oo t.d6,Oo t.d7,⟨o10,?_⟩,hs⟩
 .have:=(o4 p hp).2;rw[eU] at this;rcases this with h | h
  .exact absurd (by simpa using h) h0
  .exact h
 .have h5:=t.d5;unfold Iu at h5;split at h5
  .rename_i q;obtain ⟨_,c,d,a,n,sl,hv,hl,e⟩:=Nl h5;cases hv;rw[hl] at q;cases q;exact ⟨_,a.toList,n,hk _ _ hl,rfl,rfl,by rw[U5],e⟩
  .cases h5
noncomputable def G9:Prop:=∀ (C:Cx) (A:TA) (n:Nat) (L:Addr) (rs:List Value) (ns:List Int),aS C A->30<=n->C.base.IsList L rs.toArray->IntsAre rs ns->ns.length<=63->V3 (.list (ns.map .int))=true->
 FC C (A.f 51) n [.ref L] (λ_=>none) λv _=>v=.bool true
theorem Xm:dF 30 callerA:=⟨rfl,by decide +kernel,by decide +kernel⟩
theorem ZG (spec:G9) {w:World} {s₁:Shared} {mg mb:Str->Option Value} (Y:xK s₁.heap) {means:ExcName->Option Value} (T:Top q174 (looseW q174 r9) means mg mb s₁.heap) {fa:Addr} (hmg:mg "law" = some (.ref fa)) (hg:s₁.gens=#[]) {L:Addr} {vs:List Value} {ns:List Int}
  (hL:s₁.heap.IsList L vs.toArray) (hI:IntsAre vs ns) (hlen:ns.length<=63) (hlay:V3 (.list (ns.map .int))=true) {R:Result->Shared->Prop}
  (hR:∀ s',(∀ b o,s₁.heap.get? b=some o->s'.heap.get? b=some o)->s'.os=s₁.os->s'.gens=#[]->R (.ok (.ret (.bool true))) s'):codeAny (model jn w) callerA (.call (.ref fa) ⟨[.ref L],[]⟩) R s₁:=by
 obtain ⟨K,A,hK,hT,hs⟩:=Y
 let C:Cx:={ prog:=jn,w:=w,K:=K,base:=s₁.heap,b:=s₁,p:=q174,loose:=looseW q174 r9,mg:=mg,mb:=mb }
 have hok:C.Ok:=⟨hK,topRead_of T⟩;have P8:aS C A:=YM hK hT hs;have e1:=(P8.fn ("law",51) (by decide +kernel)).1;have e2:mg "law" = some (.ref (A.f 51)):=mg_of hK hok.2.g e1;have e3:fa=A.f 51:=by rw[hmg] at e2;exact aha (c8 e2)
 subst e3;have hoff:∀ a,fp (λ_=>none) id a->s₁.heap.get? a=none:=λa h=>by
  rcases h with h | ⟨_,_,_,h,_⟩
  .exact absurd rfl h
  .cases h
 have hx:HS C s₁.heap.get? (λ_=>none) s₁:=⟨id,{ ok:=hok,same:=⟨s₁.heap,s₁.toks,rfl⟩,base:=λ_ _ h=>h,keep:=λ_ _ h=>h,rep:=λ_ _ h=>(by cases h),off:=hoff,sep:=λ_ _ _ h=>(by cases h),inj:=λ_ _ _ _ _ _ h=>(by cases h) }⟩;refine spec C A 30 L vs ns P8 (aL _) hL hI hlen hlay [.ref L] rfl s₁.heap.get? callerA s₁ R Xm hx λr v m' s' hr ⟨d,x⟩ q=>?_;subst q;have hr':r=.bool true:=wI hr;subst hr';obtain ⟨h',t',e'⟩:=x.same;subst e';exact hR _ (λb o e=>x.keep b o e) rfl hg
theorem YN (ds:List WData):LD.row.claim.post ds (.bool true) ds=true:=
 show (WShape.has [] (.bool true) .bool&&Zp [] (.eq .res (.lit (.bool true))) { args:=ds,res:=some (.bool true),after:=ds })=true by
 have e:(WTm.eq .res (.lit (.bool true))).value [] { args:=ds,res:=some (.bool true),after:=ds }=some (.bool (true==true)):=w_eq_bool rfl rfl;unfold Zp;rw[e]
 decide +kernel
theorem top_holds (spec:G9):LD.Holds:=by
 w_on
 refine holds_law (by decide +kernel) λsaid=>?_;refine holds_open (q:=q174) (loose:=r9) (Xt:=Dc) (XP:=XL q174 []) (Yf:=λs=>xJ s.heap) (Ya:=λ_=>wQ) (YP:=λ_ h=>xK h) (N:=8970) adb (λ_ _ e=>aci e) (λ_ h h' e k=>e.keeps k)
  (λs e=>xl_of s (vR.mp e).1) XL.keeps (by rfl) (by rfl) (by rfl) (λs e=>recFacts_of (vR.mp e).2) (by rfl) (by first | assumption | decide +kernel) (by decide +kernel) ⟨rfl,rfl,rfl,rfl,rfl,by decide +kernel⟩ ?hw ?hc
 .w_witness2
 .intro w s₀ s₁ mg mb G Y fa o pm cd doc dV kV ho hd hcd hD hmg hg args vals as hpre hlay hrd hwl hlo;have X:=(Ground.X G).1;have V:=(Ground.X G).2;show Ground.open G;intro T B D TE TW
  wrow_args hpre hlay hrd hwl hlo
  all_goals refine enter_call ?_
  all_goals w_top on
  all_goals refine codeAny_mono ?_ (λ_ _ g=>GoodW.toG g)
  rename_i ns hsh vf JC hrr hl1 as1 as2 L vs as3 hL ra w1 r0 hI hr hlen htr;refine ZG spec Y T hmg hg hL hI (by exact adV hlen) JC (λs' hk ho hge=>⟨.inl ⟨_,_,_,rfl,λ_=>rfl,.bool _,YN _,λ_=>⟨.nil,λ_ h=>(by cases h)⟩⟩,hk,ho,hge⟩)
end
section
noncomputable def putK {K β:Type} [DecidableEq K] (es:List (K×β)) (k:K) (v:β):List (K×β):=if es.any (λx=>x.1=k) then es.map (λx=>if x.1=k then (x.1,v) else x) else es++[(k,v)]
noncomputable def fQ {K β:Type} [DecidableEq K] (es:List (K×β)) (k:K):Option β:=(es.find? λx=>x.1=k).map (·.2)
noncomputable def n7 (es:List (List Int×Addr×V)) (k:List Int) (a:Addr) (v:V):List (List Int×Addr×V):=
 if es.any (λx=>x.1=k) then es.map (λx=>if x.1=k then (x.1,x.2.1,v) else x) else es++[(k,a,v)]
noncomputable def lY (es:List (List Int×Addr×V)) (k:List Int):Option V:=(es.find? λx=>x.1=k).map (·.2.2)
section
variable {K:Type} [DecidableEq K]
theorem acj {kvs:List (K×Value)} {es:List (K×V)} (h:kvs.map (λx=>(x.1,er x.2))=es.map (λx=>(x.1,some x.2))) (k:K):kvs.any (λx=>x.1=k)=es.any (λx=>x.1=k):=by
 have h1:kvs.map (·.1)=es.map (·.1):=by have:=congrArg (lO (·.1)) h;simpa[vY] using this
 have e1:kvs.any (λx=>x.1=k)=(kvs.map (·.1)).any (λy=>y=k):=by rw[F2];rfl
 have e2:es.any (λx=>x.1=k)=(es.map (·.1)).any (λy=>y=k):=by rw[F2];rfl
 rw[e1,e2,h1]
theorem ack {kvs:List (K×Value)} {es:List (K×V)} (h:kvs.map (λx=>(x.1,er x.2))=es.map (λx=>(x.1,some x.2))) (k:K) {r:Value} {v:V} (hv:er r=some v) :
  (stored kvs k r).map (λx=>(x.1,er x.2))=(putK es k v).map (λx=>(x.1,some x.2)):=by
 unfold stored putK;rw[acj h k];by_cases q:es.any (λx=>x.1=k)=true
 .rw[if_pos q,if_pos q,dS,dS];clear q;induction kvs generalizing es with
  | nil=>cases es with
   | nil=>rfl
   | cons=>cases h
  | cons a b ih=>cases es with
   | nil=>cases h
   | cons c d=>
    rw[bq,bq] at h;obtain ⟨h1,h2⟩:=qA h;obtain ⟨h3,h4⟩:=ug h1;rw[bq,bq,ih h2];congr 1;simp only[MA];by_cases hk:a.1=k
    .rw[if_pos hk,if_pos (h3▸hk),hv,h3]
    .rw[if_neg hk,if_neg (h3▸hk),h3,h4]
 .rw[if_neg q,if_neg q,aV,aV,h];simp[hv]
theorem pN {kvs:List (K×Value)} {es:List (K×V)} (h:kvs.map (λx=>(x.1,er x.2))=es.map (λx=>(x.1,some x.2))) (k:K):(fQ es k=none->valueAt kvs k=none)/\∀ v,fQ es k=some v->∃ r,valueAt kvs k=some r/\er r=some v:=by
 unfold fQ valueAt;induction kvs generalizing es with
 | nil=>cases es with
  | nil=>exact ⟨λ_=>rfl,λv hv=>by cases hv⟩
  | cons=>cases h
 | cons a b ih=>cases es with
  | nil=>cases h
  | cons c d=>
   rw[bq,bq] at h;obtain ⟨h1,h2⟩:=qA h;obtain ⟨h3,h4⟩:=ug h1;rw[rP,rP,h3];by_cases hk:c.1=k
   .simp only[hk,decide_true,Ft];exact ⟨λh=>by contradiction,λv hv=>⟨a.2,rfl,by rw[h4];assumption⟩⟩
   .simp only[hk,decide_false];exact ih h2
end
section
variable {C:Cx} {n:Nat} {env:Env} {loc:Loc} {m:MH} {Q:V->MH->Prop}
theorem aP.intD (x:aP C P m d s) (h:m a=some (.dj es ep)):∃ kvs:List (Int×Value),s.heap.DictAt (intKind C.prog C.w) a kvs ep/\kvs.map (λx=>(x.1,er x.2))=es.map (λx=>(x.1,some x.2))/\kvs.length=es.length:=by obtain ⟨kvs,h1,h2⟩:=x.rep a _ h;exact ⟨kvs,h1,h2,by have:=congrArg ji h2;simpa using this⟩
theorem Hf (hsys:(C.base.get? sysModules).isSome=true) {a:Addr} {es:List (Int×V)} {ep:Nat} {k:Int} {v:V} {Q:MH->Prop} (hm:m a=some (.dj es ep)) (hl:es.length < 2 ^ 20) (h:∀ cI,Q (m.set a (.dj (putK es k v) cI))) :
  ∀ rv ro ri,er rv=some v->er ro=some (.ref a)->er ri=some (.int k)->TU C n (setItem ro ri rv) m Q:=by
 intro rv ro ri hv ho hi;rw[bD ho];obtain ⟨t,rfl⟩:=bS hi;rintro P A s R hr ⟨d,x⟩ kk;obtain ⟨kvs,h1,h2,hlen⟩:=x.intD hm;refine wpAny_setItem_pairs (Cw _ _ k t) h1.dictOf (λh' hd hs=>?_) (by rw[hlen,dZ];exact zf (zl hl aI));obtain ⟨cI,hd'⟩:=hd.dictAt;exact kk () () _ _ rfl ⟨d,x.write (o':=.dj (putK es k v) cI) hm (λ_ _ e=>by cases e) (λ_ e=>by cases e) (λ_ _ e=>by cases e) hs ⟨_,hd',ack h2 k hv⟩⟩ (h cI)
theorem GL {o i:Expr} {a:Addr} {es:List (Int×V)} {ep:Nat} {k:Int} {v:V} (hm:m a=some (.dj es ep)) (hk:fQ es k=some v) (h:Q v m)
  (hs:∀ t,subscripted i false (.ref a) (.int k t)=operate [.ref a,.int k t] (getItem (.ref a) (.int k t)):=by walk_at "iu") :
  ∀ rv rw,er rv=some (.ref a)->er rw=some (.int k)->TR C n (subscriptTail o i rv rw) m Q:=by
 intro rv rw hv hw;rw[bD hv];obtain ⟨t,rfl⟩:=bS hw;rintro P A s R hr ⟨d,x⟩ kk;obtain ⟨kvs,h1,h2,hlen⟩:=x.intD hm;obtain ⟨r,hr1,hr2⟩:=(pN h2 k).2 v hk;exact CL h1.dictOf.typeIs L8.lookup (VS (Cw _ _ k t) h1.dictOf.mapOf hr1 (kk r v m _ hr2 ⟨d,x.tok _⟩ h)) (hs t)
theorem ZH (hsys:(C.base.get? sysModules).isSome=true) {a:Addr} {es:List (Int×V)} {ep:Nat} {k:Int} (hm:m a=some (.dj es ep)) (h:Q (.bool (!(fQ es k).isSome)) m) :
  ∀ ra rb,er ra=some (.int k)->er rb=some (.ref a)->TR C n (compareOp .NotIn ra rb) m Q:=by
 intro ra rb ha hb;rw[bD hb];obtain ⟨t,rfl⟩:=bS ha;rintro P A s R hr ⟨d,x⟩ kk;obtain ⟨kvs,h1,h2,hlen⟩:=x.intD hm;refine Wm (Cw _ _ k t) (x.pK hsys (by rw[hm];exact gm _)) h1.dictOf.mapOf (kk _ (.bool (!(fQ es k).isSome)) m _ ?_ ⟨d,x.tok _⟩ h);cases hg:fQ es k with
 | none=>rw[(pN h2 k).1 hg];rfl
 | some v=>obtain ⟨r,hr1,_⟩:=(pN h2 k).2 v hg;rw[hr1];rfl
theorem aaT (hsys:(C.base.get? sysModules).isSome=true) {a:Addr} {es:List (Int×V)} {ep:Nat} {k:Int} {dv:V} (hm:m a=some (.dj es ep)) (h:Q ((fQ es k).getD dv) m) :
  ∀ r rs,er r=some (.ref a)->aD rs [.int k,dv]->TR C n (call (.builtin "dict.get") (r::rs)) m Q:=by
 intro r rs hr hrs;rw[bD hr];obtain ⟨rk,rs',rfl,h1,h2⟩:=hrs.cons_inv;obtain ⟨rd,Dk,rfl,h3,h4⟩:=h2.cons_inv;rw[h4.nil_inv];obtain ⟨t,rfl⟩:=bS h1;rintro P A s R hr ⟨d,x⟩ kk;obtain ⟨kvs,g1,g2,hlen⟩:=x.intD hm;refine call_meetsIn Fv g1.dictOf.typeIs VT (VB _ _ _) (UT (intKind C.prog C.w) a (Cw _ _ k t) (x.pK hsys (by rw[hm];exact gm _)) rd) ⟨_,g1.dictOf.mapOf,?_⟩;refine kk _ ((fQ es k).getD dv) m _ ?_ ⟨d,x.tok _⟩ h;cases hg:fQ es k with
 | none=>rw[(pN g2 k).1 hg];exact h3
 | some v=>obtain ⟨r,hr1,hr2⟩:=(pN g2 k).2 v hg;rw[hr1];exact hr2
theorem qH (o:O) (ho:o=.dj [] 0\/o=.bE [] 0\/o=.jZ []) (h:∀ a,m a=none->Q (.ref a) (m.set a o)):WE C n env (.Dict [] [] pos) loc m Q:=by
 ext C n env loc m Q pos o;rintro P A s R hr ⟨d,x⟩ kk;clear hr;ext P A s R d;show wpAny_Dict_empty;obtain ⟨y,back⟩:=x.frame;have hi:∀ c fs,o≠.inst c fs:=λc fs e=>by rcases ho with q | q | q<;>rw[q] at e<;>cases e
 have g:=gF s.heap (o:={ cls:=.type "dict",data:=.dict #[] }) rfl;have hrep:Rep C (m.set s.heap.objs.size o) (s.heap.push { cls:=.type "dict",data:=.dict #[] }) d s.heap.objs.size o:=by
  rcases ho with rfl | rfl | rfl
  .exact ⟨[],⟨_,#[],g,⟨rfl,rfl,rfl⟩,rfl,(λe he=>by simp at he),.nil,by exact yP⟩,rfl⟩
  .exact ⟨[],g,rfl,by exact yP,λx hx=>by simp at hx⟩
  .exact ⟨[],⟨_,#[],0,g,⟨rfl,rfl,rfl⟩,rfl,(λe he=>by simp at he),.nil,by exact yP⟩,rfl⟩
 obtain ⟨z,hz⟩:=y.lS (t:=s.toks) (λb ob hb=>gC _ hb) (aL _) hi λ_=>hrep;exact kk _ (.ref s.heap.objs.size) _ _ rfl ⟨d,back _ _ _ z⟩ (h _ hz)
end
end
section
theorem YO {ks:List Int} {rs:List Value} (h:aD rs (ks.map V.int)):ItemsAre (intKind prog w) ks rs:=by
 induction ks generalizing rs with
 | nil=>rw[h.nil_inv];exact .nil
 | cons k ks ih=>
  obtain ⟨r,rs',rfl,h1,h2⟩:=aD.cons_inv h;obtain ⟨t,rfl⟩:=bS h1;exact .cons (Cw _ _ k t) (ih h2)
section
variable {C:Cx} {n:Nat} {env:Env} {loc:Loc} {m:MH} {Q:V->MH->Prop}
noncomputable abbrev tk (C:Cx):=tupleKind (intKind C.prog C.w)
theorem aP.isKey (x:aP C P m d s) (h:m a=some (.tuple (ks.map V.int))):(tk C).is s.heap ks a:=by obtain ⟨rs,k,g,he,_⟩:=x.isTup h;exact ⟨_,rs.toArray,k,g,rfl,rfl,YO he⟩
theorem aP.Iv (x:aP C P m d s) (h:m a=some (.bE es ep)) :
  ∃ xs:List (List Int×Addr×Value),s.heap.DictOfH (tk C) a xs/\xs.map (λx=>(x.1,x.2.1,er x.2.2))=es.map (λx=>(x.1,x.2.1,some x.2.2))/\s.heap.get? a=some (di (xs.map (entryOfKey (tk C))) ep):=by
 obtain ⟨bA,h1,h2,h3,h4⟩:=x.rep a _ h;have hz:∃ xs:List (List Int×Addr×Value),bA=xs.map (entryOfKey (tk C))/\xs.map (λx=>(x.1,x.2.1,er x.2.2))=es.map (λx=>(x.1,x.2.1,some x.2.2)):=by
  clear h1 h3 h4 h;induction es generalizing bA with
  | nil=>
   cases bA with
   | nil=>exact ⟨[],rfl,rfl⟩
   | cons=>cases h2
  | cons e es ih=>
   ext C m P d s e es bA;cases bA with
   | nil=>cases h2
   | cons d0 bA=>
    rw[bq,bq] at h2;obtain ⟨g1,g2⟩:=qA h2;obtain ⟨xs,e1,e2⟩:=ih bA g2;obtain ⟨dh,dk,dv⟩:=d0;simp only[rQ] at g1;obtain ⟨rfl,rfl,g3⟩:=g1;exact ⟨(e.1,e.2.1,dv)::xs,by rw[bq,<-e1];rfl,by rw[bq,bq,e2,g3]⟩
 obtain ⟨xs,rfl,e2⟩:=hz;have k1:xs.map (·.1)=es.map (·.1):=by have:=congrArg (lO (·.1)) e2;simpa[vY] using this
 refine ⟨xs,⟨_,_,ep,h1,⟨rfl,rfl,rfl⟩,rfl,rfl,λy hy=>?_,by rw[k1];exact h3⟩,e2,h1⟩;have:(y.1,y.2.1,er y.2.2)∈es.map (λx=>(x.1,x.2.1,some x.2.2)):=e2▸aQ.mpr ⟨y,hy,rfl⟩;obtain ⟨z,hz,ez⟩:=aQ.mp this;simp only[rQ] at ez;have:=x.isKey (h4 z hz);rw[ez.1,ez.2.1] at this;exact this
theorem C0 (h:xs.map (λx=>(x.1,x.2.1,er x.2.2))=es.map (λx=>(x.1,x.2.1,some x.2.2))) (k:List Int) :
  (atKey xs k).isSome=es.any (λx=>x.1=k)/\(lY es k).isSome=es.any (λx=>x.1=k)/\∀ v,lY es k=some v->∃ p,atKey xs k=some p/\er p.2=some v:=by
 unfold atKey lY;induction xs generalizing es with
 | nil=>cases es with
  | nil=>exact ⟨rfl,rfl,λv hv=>by cases hv⟩
  | cons=>cases h
 | cons a b ih=>cases es with
  | nil=>cases h
  | cons c d=>
   rw[bq,bq] at h;obtain ⟨h1,h2⟩:=qA h;simp only[rQ] at h1;obtain ⟨g1,g2,g3⟩:=h1;rw[rP,rP,Mz,g1];by_cases hk:c.1=k
   .simp only[hk,decide_true,Ft,Option.isSome_some,Bool.true_or];exact ⟨trivial,trivial,λv hv=>⟨_,rfl,by rw[g3];assumption⟩⟩
   .simp only[hk,decide_false,WO];exact ih h2
theorem acm (h:xs.map (λx=>(x.1,x.2.1,er x.2.2))=es.map (λx=>(x.1,x.2.1,some x.2.2))) (k:List Int) (a:Addr) (hv:er r=some v) :
  (storedH xs k a r).map (λx=>(x.1,x.2.1,er x.2.2))=(n7 es k a v).map (λx=>(x.1,x.2.1,some x.2.2)):=by
 unfold storedH n7;rw[(C0 h k).1];by_cases q:es.any (λx=>x.1=k)=true
 .rw[if_pos q,if_pos q,dS,dS];clear q;induction xs generalizing es with
  | nil=>cases es with
   | nil=>rfl
   | cons=>cases h
  | cons b c ih=>cases es with
   | nil=>cases h
   | cons e f=>
    rw[bq,bq] at h;ext k r v b c e f;obtain ⟨h1,h2⟩:=qA h;rw[bq,bq,ih h2];congr 1;simp only[rQ] at h1;obtain ⟨g1,g2,g3⟩:=h1;simp only[MA,putAt];by_cases hk:b.1=k
    .rw[if_pos hk,if_pos (g1▸hk),hv,g1,g2]
    .rw[if_neg hk,if_neg (g1▸hk),g1,g2,g3]
 .rw[if_neg q,if_neg q,aV,aV,h];simp[hv]
theorem ZI:∀ x∈n7 es k a v,(x.1=k/\x.2.1=a)\/∃ y∈es,y.1=x.1/\y.2.1=x.2.1:=by
 intro x hx;ext es k a v x;unfold n7 at hx;split at hx
 .obtain ⟨y,hy,rfl⟩:=aQ.mp hx;refine .inr ⟨y,hy,?_,?_⟩<;>split<;>rfl
 .rcases bN.mp hx with h | h
  .exact .inr ⟨x,h,rfl,rfl⟩
  .rw[bQ.mp h];exact .inl ⟨rfl,rfl⟩
theorem XT (h:(es.map (·.1)).Nodup):((n7 es k a v).map (·.1)).Nodup:=by
 ext es k a v;unfold n7;split
 .rw[dS];have:((λx:List Int×Addr×V=>x.1) ∘ λx=>if x.1=k then (x.1,x.2.1,v) else x)=λx=>x.1:=by funext x;simp only[MA];split<;>rfl
  rw[this];exact h
 .rename_i q;rw[aV,lG];refine ⟨h,by exact of_decide_eq_true rfl,λx hx y hy e=>q ?_⟩;simp only[bq,ue,bQ] at hy;subst hy;subst e;obtain ⟨z,hz,rfl⟩:=aQ.mp hx;exact Mh.mpr ⟨z,hz,by exact if_pos rfl⟩
theorem zR {a b:Addr} {es:List (List Int×Addr×V)} {ep:Nat} {k:List Int} {v:V} {Q:MH->Prop} (hm:m a=some (.bE es ep)) (hb:m b=some (.tuple (k.map V.int))) (hl:es.length < 2 ^ 20) (h:∀ cI,Q (m.set a (.bE (n7 es k b v) cI))) :
  ∀ rv ro ri,er rv=some v->er ro=some (.ref a)->er ri=some (.ref b)->TU C n (setItem ro ri rv) m Q:=by
 intro rv ro ri hv ho hi;rw[bD ho,bD hi];ext C n m a b es ep k v Q rv ro ri;rintro P A s R hr ⟨d,x⟩ kk;ext P A s R d;obtain ⟨xs,h1,h2,h3⟩:=x.Iv hm;have hlen:xs.length=es.length:=by have:=congrArg ji h2;simpa using this
 have ade:=x.rep a _ hm;ext xs;obtain ⟨bA,_,_,hnd,hkeys⟩:=ade;refine wpAny_setItem_heap (L1 hr.Hw) (x.isKey hb) h1 (λh' hd hs=>?_) (by rw[hlen,dZ];exact zf (zl hl aI));ext h';obtain ⟨o,es',cI,go,⟨e1,e2,e3⟩,e4,e5,e6,e7⟩:=hd;have go':h'.get? a=some (di ((storedH xs k b rv).map (entryOfKey (tk C))) cI):=by rw[go];obtain ⟨oc,od,R1,os⟩:=o;dsimp only at e1 e2 e3 e4;subst e1 e2 e3 e4;rw[<-e5]
 have hne:b≠a:=λq=>by rw[q,hm] at hb;cases hb
 have x2:=acm h2 k b hv;refine kk () () _ _ rfl ⟨d,x.write (o':=.bE (n7 es k b v) cI) hm (λ_ _ e=>by cases e) (λ_ e=>by cases e) (λ_ _ e=>by cases e) hs ⟨_,go',?_,XT hnd,λy hy=>?_⟩⟩ (h cI)
 .have:=congrArg (lO λ(x:List Int×Addr×Option V)=>(tupleKeyHash (intKind C.prog C.w) x.1,Value.ref x.2.1,x.2.2)) x2;simpa[vY,entryOfKey,tk,tupleKind] using this
 .have hna:∀ z xs,m z=some (.tuple xs)->m.set a (.bE (n7 es k b v) cI) z=some (.tuple xs):=λz xs hz=>by
   rw[MH.aC (λq=>by rw[q,hm] at hz;cases hz)];exact hz
  rcases ZI y hy with ⟨q1,q2⟩ | ⟨z,hz,q1,q2⟩
  .rw[q1,q2];exact hna _ _ hb
  .rw[<-q1,<-q2];exact hna _ _ (hkeys z hz)
theorem qI (hm:m a=some (.bE es ep)) (hb:m b=some (.tuple (k.map V.int))) (hk:lY es k=some v) (h:Q v m)
  (hs:subscripted i false (.ref a) (.ref b)=operate [.ref a,.ref b] (getItem (.ref a) (.ref b)):=by with_unfolding_all rfl) :
  ∀ rv rw,er rv=some (.ref a)->er rw=some (.ref b)->TR C n (subscriptTail o i rv rw) m Q:=by
 intro rv rw hv hw;rw[bD hv,bD hw];rintro P A s R hr ⟨d,x⟩ kk;obtain ⟨xs,h1,h2,h3⟩:=x.Iv hm;obtain ⟨p,hp,hpv⟩:=(C0 h2 k).3 v hk;refine CL (T:="dict") ⟨_,h3,rfl⟩ L8.lookup (wpAny_getItem_heap (L1 hr.Hw) (x.isKey hb) h1 hp (kk p.2 v m _ hpv ⟨d,x.tok _⟩ h)) hs
theorem ZJ (hsys:(C.base.get? sysModules).isSome=true) (hm:m a=some (.bE es ep)) (hb:m b=some (.tuple (k.map V.int))) (h:Q (.bool (!(lY es k).isSome)) m) :
  ∀ ra rb,er ra=some (.ref b)->er rb=some (.ref a)->TR C n (compareOp .NotIn ra rb) m Q:=by
 intro ra rb ha hb';rw[bD hb',bD ha];rintro P A s R hr ⟨d,x⟩ kk;obtain ⟨xs,h1,h2,h3⟩:=x.Iv hm;refine wpAny_notIn_heap (L1 hr.Hw) (x.isKey hb) (x.pK hsys (by rw[hm];exact gm _)) h1 (kk _ (.bool (!(lY es k).isSome)) m _ ?_ ⟨d,x.tok _⟩ h);rw[(C0 h2 k).1,(C0 h2 k).2];rfl
end
end
section
section
variable {C:Cx} {n:Nat} {env:Env} {loc:Loc} {m:MH} {Q:V->MH->Prop}
theorem v8 (hm:m a=some (.list xs)) (hl:xs.length<=2 ^ 20) (h:∀ b,m b=none->Q (.ref b) (m.set b (.list xs))):∀ rs,aD rs [.ref a]->TR C n (call (.type "list") rs) m Q:=by intro rs hrs;obtain ⟨r,rs',rfl,h1,h2⟩:=hrs.cons_inv;rw[h2.nil_inv,bD h1];rintro P A s R hr ⟨d,x⟩ kk;obtain ⟨ws,k,g,he,hi⟩:=x.isList hm;refine MB a (.inl rfl) g rfl rfl (λh' c' hk hn=>?_) (by rw[cV,he.length,dZ];exact zz hl aI);obtain ⟨z,hz⟩:=x.lS (t:=s.toks) (o:=.list xs) hk (aL _) (by intro _ _ e;cases e) λ_=>⟨ws,c',hn,he⟩;exact kk _ (.ref s.heap.objs.size) _ _ rfl ⟨d,z⟩ (h _ hz)
theorem Wc (hm:m a=some (.tuple xs)) (hl:xs.length<=2 ^ 20) (h:∀ b,m b=none->Q (.ref b) (m.set b (.list xs))):∀ rs,aD rs [.ref a]->TR C n (call (.type "list") rs) m Q:=by intro rs hrs;obtain ⟨r,rs',rfl,h1,h2⟩:=hrs.cons_inv;rw[h2.nil_inv,bD h1];rintro P A s R hr ⟨d,x⟩ kk;obtain ⟨ws,k,g,he,hi⟩:=x.isTup hm;refine MB a (.inr rfl) g rfl rfl (λh' c' hk hn=>?_) (by rw[cV,he.length,dZ];exact zz hl aI);obtain ⟨z,hz⟩:=x.lS (t:=s.toks) (o:=.list xs) hk (aL _) (by intro _ _ e;cases e) λ_=>⟨ws,c',hn,he⟩;exact kk _ (.ref s.heap.objs.size) _ _ rfl ⟨d,z⟩ (h _ hz)
theorem Ms (hm:m a=some (.list xs)) (hl:xs.length<=2 ^ 20) (h:∀ b,m b=none->Q (.ref b) (m.set b (.tuple xs))):∀ rs,aD rs [.ref a]->TR C n (call (.type "tuple") rs) m Q:=by intro rs hrs;obtain ⟨r,rs',rfl,h1,h2⟩:=hrs.cons_inv;rw[h2.nil_inv,bD h1];rintro P A s R hr ⟨d,x⟩ kk;obtain ⟨ws,k,g,he,hi⟩:=x.isList hm;refine call_tuple_list hi (λh' hk=>?_) (by rw[cV,he.length,dZ];exact zz hl aI);obtain ⟨z,hz⟩:=(x.zQ s.toks hk).lS (t:=s.toks) (a:=h'.objs.size) (h':=h'.push { cls:=.type "tuple",data:=.seq ws.toArray }) (o:=.tuple xs) (λb ob hb=>gC _ hb) (aL _) (by intro _ _ e;cases e) λ_=>⟨ws,_,gF _ rfl,he⟩;exact kk _ (.ref h'.objs.size) _ _ rfl ⟨d,z⟩ (h _ hz)
noncomputable def n5 (l:List Int):List Int:=l.mergeSort (λa b=>decide (a<=b))
theorem XU (l:List Int):(n5 l).Perm l:=Vf _ _
theorem W0 (l:List Int):(n5 l).Pairwise (·<=·):=by have:=UR (le:=λa b:Int=>decide (a<=b)) (by intro a b c;simp;omega) (by intro a b;simp;exact adX) l;simpa[n5] using this
theorem GN (hp:l'.Perm l) (hs:l'.Pairwise (·<=·)):l'=n5 l:=
 (hp.trans (XU l).symm).eq_of_pairwise (le:=(·<=·)) (λa b _ _ h1 h2=>by exact adW h1 h2) hs (W0 l)
theorem YQ (hm:m a=some (.list (ks.map .int))) (hl:ks.length < 64) (h:∀ b,m b=none->Q (.ref b) (m.set b (.list ((n5 ks).map .int)))):∀ rs,aD rs [.ref a]->TR C n (call (.builtin "sorted") rs) m Q:=by intro rs hrs;obtain ⟨r,rs',rfl,h1,h2⟩:=hrs.cons_inv;rw[h2.nil_inv,bD h1];rintro P A s R hr ⟨d,x⟩ kk;obtain ⟨ws,k,g,he,hi⟩:=x.isList hm;refine sorted_ints hi he.ints (by rw[he.length];simpa using hl) (λout ns' h3 h4 h5=>?_);obtain ⟨e,ge⟩:=sortedAll_at s.heap ws out;have e5:ns'=n5 ks:=GN h4 h5;subst e5;obtain ⟨z,hz⟩:=x.lS (t:=s.toks) (a:=s.heap.objs.size+1) (h':=sortedAll s.heap ws out) (o:=.list ((n5 ks).map .int)) (λb ob hb=>sortedAll_old hb) (XG _) (by intro _ _ e;cases e) λ_=>⟨out.toList,e,ge,NI h3⟩;exact kk _ (.ref (s.heap.objs.size+1)) _ _ rfl ⟨d,z⟩ (h _ hz)
theorem mV (ha:m a=some (.list xs)) (hb:m b=some (.list ys)) (hl:xs.length+ys.length < 2 ^ 20) (h:∀ c,m c=none->Q (.ref c) (m.set c (.list (xs++ys)))) :
  ∀ ra rb,er ra=some (.ref a)->er rb=some (.ref b)->TR C n (binaryOp .Add ra rb) m Q:=by
 intro ra rb h1 h2;rw[bD h1,bD h2];rintro P A s R hr ⟨d,x⟩ kk;obtain ⟨ws,k,g,he,hi⟩:=x.isList ha;obtain ⟨xG,k',g',he',hi'⟩:=x.isList hb;have l1:=he.length;have l2:=he'.length;refine concat_meets ⟨_,g,rfl⟩ ⟨_,g',rfl⟩ noFill_list_add seq_list_add PySem.F.slot_list_add PySem.F.entry_list_add (PySem.F.args_list_add_2 _ _) (AutoSeq1.list___add___list_list_0 a ws.toArray k b xG.toArray k' ?_) ⟨g,g',?_⟩
 .rw[cV,cV,dZ];exact zz (by rw[l1,l2];exact zf hl:_<=2 ^ 20) (zb rfl)
 .obtain ⟨z,hz⟩:=x.lS (t:=s.toks) (a:=s.heap.objs.size) (h':=s.heap.push { cls:=.type "list",data:=.seq (ws.toArray++xG.toArray) }) (o:=.list (xs++ys)) (λb ob hb=>gC _ hb) (aL _) (by intro _ _ e;cases e) λ_=>⟨ws++xG,0,by rw[gF _ rfl];simp[lo],he.append he'⟩;exact kk _ (.ref s.heap.objs.size) _ _ rfl ⟨d,z⟩ (h _ hz)
end
end
section
theorem foldl_rep (v:Value) (k:Nat):Nf (λx1 x2=>x1++x2) (#[]:Array Value) (iP k #[v])=(iP k v).toArray:=by
 have:∀ (acc:Array Value),Nf (λx1 x2=>x1++x2) acc (iP k #[v])=acc++(iP k v).toArray:=by
  induction k with
  | zero=>intro acc;rfl
  | succ k ih=>intro acc;rw[Vg,nV,ih,Vg,<-VU];simp
 simpa using this #[]
theorem Nn (k:Nat) (hk:k<=2 ^ 20) (r:Value) (i:Int) (hi:i=(k:Int)):¬(!UL i)=true/\¬(([r].toArray:Array Value).size*i.toNat > (2 ^ 63 - 1) / 8)/\¬LK (([r].toArray:Array Value).size*i.toNat)=true:=by
 have e:([r].toArray:Array Value).size*i.toNat=k:=by rw[cV,hi,yI];simp
 rw[e];subst hi;refine ⟨?_,ie (zz hk aI),?_⟩
 .simp only[UL,VC];simp;exact ad6 hk
 .simp only[LK,decide_eq_true_eq];rw[dZ];exact ie (zz hk aI)
section
variable {C:Cx} {n:Nat} {env:Env} {loc:Loc} {m:MH} {Q:V->MH->Prop}
theorem z9 (ha:m a=some (.list [v])) (hk:k<=2 ^ 20) (h:∀ c,m c=none->Q (.ref c) (m.set c (.list (iP k v)))) :
  ∀ ra rb,er ra=some (.ref a)->er rb=some (.int (k:Nat))->TR C n (binaryOp .Mult ra rb) m Q:=by
 intro ra rb h1 h2;rw[bD h1];obtain ⟨t,rfl⟩:=bS h2;rintro P A s R hr ⟨d,x⟩ kk;obtain ⟨ws,k',g,he,hi⟩:=x.isList ha;obtain ⟨r,xG,rfl,hv,hn⟩:=he.cons_inv;rw[hn.nil_inv] at g hi;generalize hx:(k:Int)=x0;obtain ⟨f1,f2,f3⟩:=Nn k hk r x0 hx.symm;refine wpAny_binaryOp_repeat_ref (T:="list") (U:="int") (by decide) ⟨_,g,rfl⟩ (λs'=>typeIs_int s' _ t) noFill_list_mul F.fills_int_mul V4 repeat_list F.slot_int_index.lookup
  (wk V4 (typeIs_int s _ t) F.entry_int_rmul (F.args_int_rmul_2 _ _) (int___rmul___int_list _ t a [r].toArray k')
   ⟨g,rfl,⟨_,g,rfl⟩,wk F.slot_list_mul ⟨_,g,rfl⟩ F.entry_list_mul (F.args_list_mul_2 _ _)
    (agI a [r].toArray k' x0 t f1 f2 f3) ⟨g,?_⟩⟩)
 have e0:(if ([r].toArray:Array Value).isEmpty=true then 0 else x0.toNat)=k:=by simp;exact ad5 hx
 simp only[e0];have e1:=foldl_rep r k;obtain ⟨z,hz⟩:=x.lS (t:=s.toks) (a:=s.heap.objs.size) (h':=s.heap.push { cls:=.type "list",data:=.seq (Nf (λx1 x2=>x1++x2) #[] (iP k [r].toArray)) }) (o:=.list (iP k v))
  (λb ob hb=>gC _ hb) (aL _) (by intro _ _ e;cases e) λ_=>⟨iP k r,0,by rw[gF _ rfl,e1],by simp[aD,hv]⟩
 exact kk _ (.ref s.heap.objs.size) _ _ rfl ⟨d,z⟩ (h _ hz)
theorem Oq (ns:List Int) (k:Int):ns.any (·== k)=decide (k∈ns):=by rw[yM];simp
theorem GO (ns:List Str) (k:Str):ns.any (·== k)=decide (k∈ns):=by rw[yM];simp
theorem Np {a:Addr} {ks:List Int} {k:Int} (hm:m a=some (.list (ks.map .int))) (h:Q (.bool (!decide (k∈ks))) m):∀ ra rb,er ra=some (.int k)->er rb=some (.ref a)->TR C n (compareOp .NotIn ra rb) m Q:=by intro ra rb h1 h2;rw[bD h2];obtain ⟨t,rfl⟩:=bS h1;rintro P A s R hr ⟨d,x⟩ kk;obtain ⟨ws,k',g,he,hi⟩:=x.isList hm;refine notin_list_ints hi he.ints (kk _ (.bool (!decide (k∈ks))) m _ ?_ ⟨d,x⟩ h);rw[Oq];rfl
theorem OV {a:Addr} {ks:List Str} {k:Str} (hm:m a=some (.list (ks.map .str))) (h:Q (.bool (decide (k∈ks))) m):∀ ra rb,er ra=some (.str k)->er rb=some (.ref a)->TR C n (compareOp .In ra rb) m Q:=by intro ra rb h1 h2;rw[bD h2];obtain ⟨t,rfl⟩:=fX h1;rintro P A s R hr ⟨d,x⟩ kk;obtain ⟨ws,k',g,he,hi⟩:=x.isList hm;refine in_list_strs hi he.strs (kk _ (.bool (decide (k∈ks))) m _ ?_ ⟨d,x⟩ h);rw[GO];rfl
theorem qF {a:Addr} {ks:List Str} {k:Str} (hm:m a=some (.list (ks.map .str))) (h:Q (.bool (!decide (k∈ks))) m):∀ ra rb,er ra=some (.str k)->er rb=some (.ref a)->TR C n (compareOp .NotIn ra rb) m Q:=by intro ra rb h1 h2;rw[bD h2];obtain ⟨t,rfl⟩:=fX h1;rintro P A s R hr ⟨d,x⟩ kk;obtain ⟨ws,k',g,he,hi⟩:=x.isList hm;refine notin_list_strs hi he.strs (kk _ (.bool (!decide (k∈ks))) m _ ?_ ⟨d,x⟩ h);rw[GO];rfl
theorem acn {a:Addr} {ks:List Str} {k:Str} (hm:m a=some (.tuple (ks.map .str))) (h:Q (.bool (decide (k∈ks))) m):∀ ra rb,er ra=some (.str k)->er rb=some (.ref a)->TR C n (compareOp .In ra rb) m Q:=by intro ra rb h1 h2;rw[bD h2];obtain ⟨t,rfl⟩:=fX h1;rintro P A s R hr ⟨d,x⟩ kk;obtain ⟨ws,k',g,he,hi⟩:=x.isTup hm;refine in_tuple_strs hi (by simpa using he.strs) (kk _ (.bool (decide (k∈ks))) m _ ?_ ⟨d,x⟩ h);rw[GO];rfl
theorem YR {a:Addr} {ks:List Int} {k:Int} (hm:m a=some (.tuple (ks.map .int))) (h:Q (.bool (!decide (k∈ks))) m):∀ ra rb,er ra=some (.int k)->er rb=some (.ref a)->TR C n (compareOp .NotIn ra rb) m Q:=by intro ra rb h1 h2;rw[bD h2];obtain ⟨t,rfl⟩:=bS h1;rintro P A s R hr ⟨d,x⟩ kk;obtain ⟨ws,k',g,he,hi⟩:=x.isTup hm;refine notin_tuple_ints hi (by simpa using he.ints) (kk _ (.bool (!decide (k∈ks))) m _ ?_ ⟨d,x⟩ h);rw[Oq];rfl
theorem aco (h:Q (.int (a.natAbs:Nat)) m):∀ rs,aD rs [.int a]->TR C n (call (.builtin "abs") rs) m Q:=by
 intro rs hrs;obtain ⟨r,rs',rfl,h1,h2⟩:=hrs.cons_inv;rw[h2.nil_inv];obtain ⟨t,rfl⟩:=bS h1;rintro P A s R hr ⟨d,x⟩ kk;refine call_abs_int λu tk=>kk _ (.int (a.natAbs:Nat)) m _ ?_ ⟨d,x.tok _⟩ h;have:(if a < 0 then -a else a)=(a.natAbs:Nat):=by split<;>first | exact (Int.ofNat_natAbs_of_nonpos (MN ‹_›)).symm | exact (Int.natAbs_of_nonneg (Cv.mp ‹_›)).symm
 rw[this];rfl
theorem Ot (h:Q (.int (max a b)) m):∀ rs,aD rs [.int a,.int b]->TR C n (call (.builtin "max") rs) m Q:=by
 intro rs hrs;obtain ⟨r,rs',rfl,h1,h2⟩:=hrs.cons_inv;obtain ⟨r2,Dk,rfl,h3,h4⟩:=h2.cons_inv;rw[h4.nil_inv];obtain ⟨t,rfl⟩:=bS h1;obtain ⟨u,rfl⟩:=bS h3;rintro P A s R hr ⟨d,x⟩ kk;refine max_two_ints hr.1 λh' tk hk=>kk _ (.int (max a b)) m _ ?_ ⟨d,x.zQ tk hk⟩ h;by_cases q:b > a
 .rw[if_pos q,show max a b=b by exact ad1 q];rfl
 .rw[if_neg q,show max a b=a by exact ad0 q];rfl
theorem OW (ha:a.natAbs < 2 ^ 64) (h:Q (.str (toString a)) m):∀ rs,aD rs [.int a]->TR C n (call (.type "str") rs) m Q:=by
 intro rs hrs;obtain ⟨r,rs',rfl,h1,h2⟩:=hrs.cons_inv;rw[h2.nil_inv];obtain ⟨t,rfl⟩:=bS h1;rintro P A s R hr ⟨d,x⟩ kk;refine PySem.P.str_of_int ?_ (kk _ (.str (toString a)) m _ rfl ⟨d,x.tok _⟩ h);by_cases q:a.natAbs=0
 .rw[q];decide
 .exact eZ ((Nat.log2_lt q).mpr ha) (by decide)
theorem CN (hm:m a=some (.list (ys.map .str))) (hl:(ys.map (·.length)).sum+ys.length*x.length<=2 ^ 20) (h:Q (.str (nY x ys)) m) :
  ∀ r rs,er r=some (.str x)->aD rs [.ref a]->TR C n (call (.builtin "str.join") (r::rs)) m Q:=by
 intro r rs hr hrs;obtain ⟨t,rfl⟩:=fX hr;obtain ⟨rv,rs',rfl,h1,h2⟩:=hrs.cons_inv;rw[h2.nil_inv,bD h1];rintro P A s R hr ⟨d,x⟩ kk;obtain ⟨ws,k,g,he,hi⟩:=x.isList hm;exact join_list hi (by simpa using he.strs) (zz hl aI) λt' k=>kk _ (.str _) m _ rfl ⟨d,x.tok _⟩ h
theorem acp {a:Addr} {ks:List Int} (hm:m a=some (.list (ks.map .int))) (h:Q (.int ks.sum) m):∀ rs,aD rs [.ref a]->TR C n (call (.builtin "sum") rs) m Q:=by
 intro rs hrs;obtain ⟨r,rs',rfl,h1,h2⟩:=hrs.cons_inv;rw[h2.nil_inv,bD h1];rintro P A s R hr ⟨d,x⟩ kk;obtain ⟨ws,k,g,he,hi⟩:=x.isList hm;have hI:=he.ints;obtain ⟨xs,hx⟩:=hI.allInts.items;have hl':s.heap.IsList a (intItems xs):=hx▸hi;refine sum_intListG hr.1 hl' λh' tk t' hk=>kk _ (.int ks.sum) m _ ?_ ⟨d,x.zQ tk hk⟩ h;have e1:ks=xs.toList.map (·.1):=by rw[<-nums_intItems,<-hx];exact (show numsOf ws.toArray.toList=ks from hI.numsOf).symm
 have e2:preSum (numAt xs) xs.size=ks.sum:=by rw[preSum_eq,E6 (by simp),e1]
 rw[e2];rfl
theorem OX (hm:m a=some (.list (xs++[v]))) (hl:xs.length < 2 ^ 20) (h:Q v (m.set a (.list xs))) :
  ∀ r rs,er r=some (.ref a)->aD rs []->TR C n (call (.builtin "list.pop") (r::rs)) m Q:=by
 intro r rs hr hrs;rw[bD hr,hrs.nil_inv];rintro P A s R hr ⟨d,x⟩ kk;obtain ⟨ws,k,g,he,hi⟩:=x.isList hm;have hlen:ws.length=xs.length+1:=by rw[he.length];simp
 obtain ⟨r,h1,h2⟩:=he.get (i:=xs.length) (v:=v) (by simp);refine wk Mq hi.typeIs F.entry_list_pop (F.args_list_pop_1 _) (agL a ws.toArray k r ?_ (by rw[cV,dZ];exact dm hlen (zz hl aI))) ⟨g,?_⟩
 .rw[cV,hlen];simpa using h1
 refine kk r v _ _ h2 ⟨d,x.Av (t:=s.toks) hm g ?_⟩ h;rw[cV,hlen,tZ];have e1:(ws.toArray.eraseIdxIfInBounds xs.length).toList=ws.take xs.length:=by rw[Array.eraseIdxIfInBounds,dif_pos (by rw[cV];exact dN zx hlen)];simp only[List.eraseIdx_toArray];rw[List.eraseIdx_eq_take_drop_succ,LO (ze hlen),nW]
 rw[e1];have:=he.take xs.length
 rwa [List.take_left'] at this
 rfl
theorem YS (hm:m a=some (.list xs)) (hk:k<=xs.length) (hl:xs.length < 2 ^ 20) (h:Q .none (m.set a (.list (xs.take k++v::xs.drop k)))) :
  ∀ r rs,er r=some (.ref a)->aD rs [.int (k:Nat),v]->TR C n (call (.builtin "list.insert") (r::rs)) m Q:=by
 intro r rs hr hrs;rw[bD hr];obtain ⟨r1,rs',rfl,h1,h2⟩:=hrs.cons_inv;obtain ⟨r2,Dk,rfl,h3,h4⟩:=h2.cons_inv;rw[h4.nil_inv];obtain ⟨t,rfl⟩:=bS h1;rintro P A s R hr ⟨d,x⟩ kk;obtain ⟨ws,k',g,he,hi⟩:=x.isList hm;have hlen:=he.length;generalize hx:(k:Int)=x0;have f1:=(Nn k (zf (zm hk hl)) .none x0 hx.symm).1;refine wk Vo hi.typeIs F.entry_list_insert (F.args_list_insert_3 _ _ _) (AutoSeq1.list_insert_list_int_val_1 a ws.toArray k' x0 t r2 f1 (by rw[cV,dZ];exact adZ hl hlen)) ⟨g,?_⟩;refine kk _ .none _ _ rfl ⟨d,x.Av (t:=s.toks) hm g ?_⟩ h;have e0:¬ (x0 < 0):=by exact adY hx
 have e1:min k ws.length=k:=Jv (zz hk (pW hlen));subst hx;simp only[e0,if_false,yI,cV,e1];have:=(he.take k).append (aD.cons h3 (he.drop k));have e2:(((ws.toArray.extract 0 k).push r2++ws.toArray.extract k ws.length).toList)=ws.take k++r2::ws.drop k:=by simp[hlen];exact E6 (by rw[qy];exact Jp (ze hlen))
 rw[e2];exact this
end
end
section
noncomputable def slc (xs:List α) (lo hi:Option Nat):List α:=(xs.take (hi.getD xs.length)).drop (lo.getD 0)
theorem JE (a n:Nat):max 0 (min (if (a:Int) < 0 then (a:Int)+n else a) n)=((min a n:Nat):Int):=by rw[if_neg vd];exact ad8
theorem FI (items:Array Value) (lo hi:Option Nat):slicePick items (lo.map Int.ofNat) (hi.map Int.ofNat) none=(slc items.toList lo hi).toArray:=by
 have e:∃ a b:Nat,sliceBounds (lo.map Int.ofNat) (hi.map Int.ofNat) none items.size=((a:Int),(b:Int),1)/\(items.toList.drop a).take (b - a)=slc items.toList lo hi:=by
  ext items lo hi;refine ⟨min (lo.getD 0) items.size,min (hi.getD items.size) items.size,?_,?_⟩
  .unfold sliceBounds;cases lo<;>cases hi<;>simp
   all_goals first | exact JE _ _ | exact ⟨JE _ _,JE _ _⟩
  .unfold slc;rw[<-Wn];simp only[BV];rw[show Zq (min (hi.getD items.size) items.size) items.toList=Zq (hi.getD items.size) items.toList by
    by_cases q:hi.getD items.size<=items.size
    .rw[rO q]
    .rw[yK (zf (zp q)),E6 (by simp),E6 (by simp;exact zf (zp q))]]
   by_cases q:lo.getD 0<=items.size
   .rw[rO q]
   .rw[yK (zf (zp q)),LO (by simp;exact u7),LO (by simp;exact Jq (zf (zp q)))]
 ext items lo hi;obtain ⟨a,b,e1,e2⟩:=e;unfold slicePick;rw[e1];simp only[sliceRange_one,pick_run,e2]
section
variable {C:Cx} {n:Nat} {env:Env} {loc:Loc} {m:MH} {Q:V->MH->Prop}
noncomputable def WP (C:Cx) (n:Nat) (env:Env):Option Expr->Loc->MH->(Option Nat->MH->Prop)->Prop
 | none,_,m,Q=>Q none m
 | some e,loc,m,Q=>WE C n env e loc m λv m'=>∃ k:Nat,v=.int k/\Q (some k) m'
theorem rZ {part:Option Expr} {P A s} {Q:Option Nat->MH->Prop} {R:Value->Shared->Prop} (hr:dF n A) (x:SR C P env loc m s) (h:WP C n env part loc m Q)
  (kk:∀ r lo m' s',IsPart r (lo.map Int.ofNat)->SR C P env loc m' s'->Q lo m'->R r s'):wpAny (model C.prog C.w) A (evalPart part env) R dP s:=by
 cases part with
 | none=>rw[WQ];exact bh (kk _ none m s .none x h)
 | some e=>
  rw[evalPart_some];refine h P A s _ hr x λr v m' s' hv x' h'=>?_;obtain ⟨k,rfl,hq⟩:=h';obtain ⟨t,rfl⟩:=bS hv;exact kk _ (some k) m' s' (.int _ t) x' hq
theorem GP {value:Expr} {lower upper:Option Expr} {p pos:Pos} (h:WE C n env value loc m λv m1=>WP C n env lower loc m1 λlo m2=>WP C n env upper loc m2 λhi m3=>
   ∃ a xs,v=.ref a/\m3 a=some (.list xs)/\xs.length<=2 ^ 20/\∀ b,m3 b=none->Q (.ref b) (m3.set b (.list (slc xs lo hi))))
  (ht:∀ o r,letTemporaryGo value o r=pure ():=by intro _ _;rfl):WE C n env (.Subscript value (.Slice lower upper none p) pos) loc m Q:=by
 intro P A s R hr x kk;refine UM (h P A s _ hr x λr v m1 s1 hv x1 h1=>rZ hr x1 h1 λrl l m2 s2 hl x2 h2=>rZ hr x2 h2 λru u m3 s3 hu x3 h3=>?_) ht;obtain ⟨a,xs,rfl,hm,hlen,hq⟩:=h3;obtain ⟨d,x3⟩:=x3;obtain ⟨ws,k,g,he,hi⟩:=x3.toaP.isList hm;refine ⟨a,ws.toArray,_,_,bD hv,hi,by rw[cV,he.length,dZ];exact zz hlen aI,hl,hu,?_⟩;obtain ⟨y,back⟩:=(x3.push { cls:=.type "slice",data:=.fields #[rl,ru,.none] } s3.toks).frame;have e1:slicePick ws.toArray (l.map Int.ofNat) (u.map Int.ofNat) none=(slc ws l u).toArray:=FI _ _ _;have e2:aD (slc ws l u) (slc xs l u):=by unfold slc;rw[he.length];exact (he.take _).drop _
 obtain ⟨z,hz⟩:=y.lS (t:=s3.toks) (a:=s3.heap.objs.size+1) (h':=(s3.heap.push { cls:=.type "slice",data:=.fields #[rl,ru,.none] }).push { cls:=.type "list",data:=.seq (slicePick ws.toArray (l.map Int.ofNat) (u.map Int.ofNat) none) }) (o:=.list (slc xs l u))
  (λb ob hb=>gC _ hb) (by rw[qz];exact aL _) (by intro _ _ e;cases e) λ_=>⟨slc ws l u,0,by have:=gF (s3.heap.push { cls:=.type "slice",data:=.fields #[rl,ru,.none] }) (o:={ cls:=.type "list",data:=.seq (slicePick ws.toArray (l.map Int.ofNat) (u.map Int.ofNat) none) }) rfl;rw[qz] at this;rw[this,e1],e2⟩
 exact kk _ (.ref (s3.heap.objs.size+1)) _ _ rfl ⟨d,back _ _ _ z⟩ (hq _ hz)
theorem uz {e:Expr} {Q:Option Nat->MH->Prop} (h:WE C n env e loc m λv m'=>∃ k:Nat,v=.int k/\Q (some k) m'):WP C n env (some e) loc m Q:=h
theorem zS {Q:Option Nat->MH->Prop} (h:Q none m):WP C n env none loc m Q:=h
noncomputable def JF (C:Cx) (n:Nat) (env:Env):List Expr->List V->Loc->MH->(Loc->MH->Prop)->Prop
 | [],[],l,m,Q=>Q l m
 | t::ts,v::vs,l,m,Q=>WG C n env t v l m λl' m'=>JF C n env ts vs l' m' Q
 | _,_,_,_,_=>False
theorem aaU {P A} {R:Unit->Shared->Prop} {Q:Loc->MH->Prop} (hr:dF n A) {ts:List Expr} {rs:List Value} {vs:List V} {loc:Loc} {m:MH} {s:Shared} (he:aD rs vs) (x:SR C P env loc m s) (h:JF C n env ts vs loc m Q)
  (kk:∀ l' m' s',SR C P env l' m' s'->Q l' m'->R () s'):wpAny (model C.prog C.w) A (assignInOrder (ts.map λt=>assign t env) rs) R dP s:=by
 induction ts generalizing rs vs loc m s with
 | nil=>
  cases vs with
  | nil=>rw[he.nil_inv];exact VD (kk _ _ _ x h)
  | cons=>exact h.elim
 | cons t ts ih=>
  cases vs with
  | nil=>exact h.elim
  | cons v vs=>
   obtain ⟨r,rs',rfl,h1,h2⟩:=he.cons_inv;exact L3 (h r h1 P A s _ hr x λl' m' s' x' q=>ih h2 x' q)
theorem mP {ts:List Expr} {k:Nat} {pos:Pos} {a:Addr} {xs:List V} {Q:Loc->MH->Prop} (hm:m a=some (.tuple xs)) (hl:ts.length=xs.length) (h:JF C n env ts xs loc m Q)
  (he:assignEach ts env=ts.map λt=>(false,assign t env):=by rfl):WG C n env (.Tuple ts k pos) (.ref a) loc m Q:=by
 intro r hr P A s R hR x kk;rw[bD hr];obtain ⟨d,x⟩:=x;obtain ⟨ws,k',g,hes,hi⟩:=x.toaP.isTup hm;obtain ⟨f1,f2,f3,f4⟩:=x.fresh (I:=s.heap.objs.size) (aL _);refine assign_Tuple_tuple hR.1 hi (by rw[he,ak,cV,hes.length,hl]) (by rw[he];simp[List.findIdx?_map]) λh' hx=>?_;rw[he,dS];exact aaU hR hes ⟨d,x.but (t:=s.toks) f1 f2 f3 f4 hx⟩ h kk
theorem Hg {elts:List Expr} {k:Nat} {tpos pos:Pos} {value:Expr} {ss:List Stmt} {Q:Fl->Loc->MH->Prop}
  (h:WE C n env value loc m λv m1=>WG C n env (.Tuple elts k tpos) v loc m1 λl m2=>WS C n env ss l m2 Q)
  (hs:swapsWithSole [.Tuple elts k tpos] value pos.line env=pure false:=by rfl)
  (hw:swappedStores [.Tuple elts k tpos] value env=pure none:=by rfl):WS C n env (.Assign [.Tuple elts k tpos] value pos::ss) loc m Q:=by
 show jX;intro P A s R hr x kk;refine Assign_Tuple (h P A s _ hr x λr v m1 s1 hv x1 h1=>h1 r hv P A s1 _ hr x1 λl m2 s2 x2 q=>kk .next .next _ _ _ trivial x2 q) hs hw
theorem acq {a:Addr} {xs:List V} {Q:Bool->MH->Prop} (hm:m a=some (.list xs)) (hl:xs.length < 2 ^ 40) (h:Q (!xs.isEmpty) m):∀ r,er r=some (.ref a)->TB C n (truthy r) m Q:=by intro r hr;rw[bD hr];rintro P A s R hr ⟨d,z⟩ kk;obtain ⟨ws,k,g,he,hi⟩:=z.isList hm;refine wpAny_truthy_list hi (by rw[cV,he.length];exact sA hl) (kk _ _ _ _ ?_ ⟨d,z.tok _⟩ h);have:=he.length;cases ws<;>cases xs<;>simp at this ⊢
theorem C1 (h:WE C n env e loc m λv m1=>∃ i,v=.int i/\Q (.int (-i)) m1):WE C n env (.UnaryOp .USub e pos) loc m Q:=by intro P A s R hr x kk;refine wpAny_UnaryOp (h P A s _ hr x λr v m1 s1 hv x1 h1=>?_);obtain ⟨i,rfl,hq⟩:=h1;obtain ⟨t,rfl⟩:=bS hv;obtain ⟨d,x1⟩:=x1;obtain ⟨y,back⟩:=x1.frame;exact PySem.P.neg_int (kk _ (.int (-i)) m1 _ rfl ⟨d,back _ _ _ (y.tok _)⟩ hq)
end
end
section
noncomputable abbrev vn (k:Nat):V:=.int (k:Nat)
section
variable {C:Cx} {n:Nat} {env:Env} {loc:Loc} {m:MH} {Q:V->MH->Prop}
theorem adf (h:Q (vn (a+b)) m):∀ ra rb,er ra=some (.int (a:Nat))->er rb=some (.int (b:Nat))->TR C n (binaryOp .Add ra rb) m Q:=sj (by rw[<-Int.natCast_add];exact h)
theorem lP (h:Q (vn (a+1)) m):∀ ra rb,er ra=some (.int (a:Nat))->er rb=some (.int 1)->TR C n (binaryOp .Add ra rb) m Q:=sj h
theorem HX (hb:b<=a) (h:Q (vn (a - b)) m):∀ ra rb,er ra=some (.int (a:Nat))->er rb=some (.int (b:Nat))->TR C n (binaryOp .Sub ra rb) m Q:=HR (by rw[<-Int.natCast_sub hb];exact h)
theorem HC (hb:1<=a) (h:Q (vn (a - 1)) m):∀ ra rb,er ra=some (.int (a:Nat))->er rb=some (.int 1)->TR C n (binaryOp .Sub ra rb) m Q:=HX (b:=1) hb h
theorem wR (hk:k<=1000) (h:Q (vn (1 <<< k)) m):∀ ra rb,er ra=some (.int 1)->er rb=some (.int (k:Nat))->TR C n (binaryOp .LShift ra rb) m Q:=ac7 (l:=1) (zz hk aI) (ao rfl) h
theorem OY (h:Q (vn (k &&& 1)) m):∀ ra rb,er ra=some (.int (k:Nat))->er rb=some (.int 1)->TR C n (binaryOp .BitAnd ra rb) m Q:=ac8 (l:=1) h
theorem acr (h:Q (vn (k >>> 1)) m):∀ ra rb,er ra=some (.int (k:Nat))->er rb=some (.int 1)->TR C n (binaryOp .RShift ra rb) m Q:=Pj (k:=1) h
theorem sD (h:Q (.bool (decide (a < b))) m):∀ ra rb,er ra=some (.int (a:Nat))->er rb=some (.int (b:Nat))->TR C n (compareOp .Lt ra rb) m Q:=As (by rw[show decide ((a:Int) < (b:Nat))=decide (a < b) by simp];exact h)
theorem ae8 (h:Q (.bool (decide (b<=a))) m):∀ ra rb,er ra=some (.int (a:Nat))->er rb=some (.int (b:Nat))->TR C n (compareOp .GtE ra rb) m Q:=uP (by rw[show decide ((b:Int)<=(a:Nat))=decide (b<=a) by simp];exact h)
theorem wU (h:Q (.bool (decide (0 < a))) m):∀ ra rb,er ra=some (.int (a:Nat))->er rb=some (.int 0)->TR C n (compareOp .Gt ra rb) m Q:=ae4 (by rw[show decide ((0:Int) < (a:Nat))=decide (0 < a) by simp];exact h)
theorem n_eq (h:Q (.bool (decide (a=b))) m):∀ ra rb,er ra=some (.int (a:Nat))->er rb=some (.int (b:Nat))->TR C n (compareOp .Eq ra rb) m Q:=ae3 (by rw[show decide ((a:Int)=(b:Nat))=decide (a=b) by rw[decide_eq_decide];exact ⟨oz,RJ⟩];exact h)
theorem Ai (h:Q (.bool (decide (a=0))) m):∀ ra rb,er ra=some (.int (a:Nat))->er rb=some (.int 0)->TR C n (compareOp .Eq ra rb) m Q:=n_eq (b:=0) h
theorem HY (h:Q (.bool (decide (a=1))) m):∀ ra rb,er ra=some (.int (a:Nat))->er rb=some (.int 1)->TR C n (compareOp .Eq ra rb) m Q:=n_eq (b:=1) h
theorem sE (h:Q (.bool (!decide (a=b))) m):∀ ra rb,er ra=some (.int (a:Nat))->er rb=some (.int (b:Nat))->TR C n (compareOp .NotEq ra rb) m Q:=P7 (by rw[show decide ((a:Int)=(b:Nat))=decide (a=b) by rw[decide_eq_decide];exact ⟨oz,RJ⟩];exact h)
theorem Po (h:Q (.bool (!decide (a=0))) m):∀ ra rb,er ra=some (.int (a:Nat))->er rb=some (.int 0)->TR C n (compareOp .NotEq ra rb) m Q:=sE (b:=0) h
theorem MH.le.set {m0 m:MH} {a:Addr} {o:O} (h:m0.le m) (ha:m0 a=none):m0.le (m.set a o):=λb o' e=>by
 have hb:b≠a:=λq=>by rw[q,ha] at e;cases e
 rw[MH.aC hb];exact h b o' e
theorem MH.le.new {m0 m:MH} {a:Addr} (h:m0.le m) (ha:m a=none):m0 a=none:=by
 cases e:m0 a with
 | none=>rfl
 | some o=>rw[h _ _ e] at ha;cases ha
noncomputable def MH.bF (S:List Addr) (m m':MH):Prop:=∀ a o,m a=some o->a∉S->m' a=some o
theorem MH.bF.refl (m:MH):m.bF S m:=λ_ _ h _=>h
theorem MH.bF.set {S:List Addr} {m0 m:MH} {a:Addr} {o:O} (h:m0.bF S m) (ha:m0 a=none\/a∈S):m0.bF S (m.set a o):=λb o' e hb=>by
 have hb':b≠a:=λq=>by
  subst q;rcases ha with ha | ha
  .rw[ha] at e;cases e
  .exact hb ha
 rw[MH.aC hb'];exact h b o' e hb
theorem MH.bF.trans (h:m.bF S m') (h':m'.bF S iu):m.bF S iu:=λa o e hS=>h' a o (h a o e hS) hS
theorem MH.bF.le (h:m.bF S m') (h':m'.le iu):m.bF S iu:=λa o e hS=>h' a o (h a o e hS)
theorem MH.le.bF (h:m.le m'):m.bF S m':=λa o e _=>h a o e
theorem MH.aE (h:m a=some o) (h':m b=none):a≠b:=λq=>by rw[q,h'] at h;cases h
end
theorem MH.set_set (m:MH) (a:Addr) (o o':O):(m.set a o).set a o'=m.set a o':=by funext b;by_cases q:b=a<;>simp[MH.set,q]
theorem Dl (h:l.length=1):∃ a,l=[a]:=List.length_eq_one_iff.mp h
theorem w6 (h:l.length=k+1):∃ t:α×List α,l=t.1::t.2/\t.2.length=k:=by
 cases l with
 | nil=>cases h
 | cons a t=>exact ⟨(a,t),rfl,Xd h⟩
theorem Dm (h:l.length=2):∃ a b,l=[a,b]:=by obtain ⟨t,rfl,k⟩:=w6 h;obtain ⟨b,h⟩:=Dl k;exact ⟨t.1,b,h▸rfl⟩
theorem P9 (h:l.length=3):∃ a b c,l=[a,b,c]:=by obtain ⟨t,rfl,k⟩:=w6 h;obtain ⟨b,c,h⟩:=Dm k;exact ⟨t.1,b,c,h▸rfl⟩
theorem uQ (h:l.length=4):∃ a b c d,l=[a,b,c,d]:=by obtain ⟨t,rfl,k⟩:=w6 h;obtain ⟨b,c,d,h⟩:=P9 k;exact ⟨t.1,b,c,d,h▸rfl⟩
theorem Qa (h:l.length=5):∃ a b c d e,l=[a,b,c,d,e]:=by obtain ⟨t,rfl,k⟩:=w6 h;obtain ⟨b,c,d,e,h⟩:=uQ k;exact ⟨t.1,b,c,d,e,h▸rfl⟩
theorem ae9 (h:l.length=7):∃ a b c d e f g,l=[a,b,c,d,e,f,g]:=by obtain ⟨t,rfl,k⟩:=w6 h;obtain ⟨u,e,q⟩:=w6 k;obtain ⟨c,d,x,f,g,h⟩:=Qa q;exact ⟨t.1,u.1,c,d,x,f,g,by rw[e,h]⟩
theorem eG (T:aS C A) (i:Nat) (nm:Str) (names:List Str) (hn:1<=n) (hla:args.length=names.length)
  (h:∀ env,fZ env (fd i).scope->WS C (n - 1) env (fd i).body (names.zip args) m (uL Q))
  (hb:∀ rargs kV doc pm an cdv ct,rargs.length=names.length->bindArgs (fnOf (fd i).name nm (fd i).args (fd i).body (fd i).scope .none kV doc pm an cdv ct) ⟨rargs,[]⟩=pure (names.zip rargs))
  (hm:decide ((nm,i)∈qN)=true:=by kernel_rfl)
  (hkind:(names.all λy=>(fd i).scope.names.lookup y==some .local||(fd i).scope.names.lookup y==some .cell)=true:=by kernel_rfl) (hnd:names.Nodup:=by decide) (hcn:decide ((cellsFrom 0 (fd i).scope.names []).map (·.1)).Nodup=true:=by kernel_rfl)
  (hco:(fd i).scope.isCoroutine=false:=by rfl) (hgen:(fd i).scope.isGenerator=false:=by rfl) (hkk:(fd i).scope.kind=.function:=by rfl):FC C (A.f i) n args m Q:=
 Oj names (T.fn _ (of_decide_eq_true hm)).2 hn hla h hb hkind hnd (of_decide_eq_true hcn) hco hgen hkk
theorem dX (T:aS C A) (i j:Nat) (nm qual:Str) (names:List Str) (hn:1<=n) (hla:args.length=names.length)
  (h:∀ env,fZ env (md i j).scope->WS C (n - 1) env (md i j).body (names.zip args) m (uL Q))
  (hb:∀ rargs kV doc pm an cdv ct,rargs.length=names.length->bindArgs (fnOf (md i j).name qual (md i j).args (md i j).body (md i j).scope .none kV doc pm an cdv ct) ⟨rargs,[]⟩=pure (names.zip rargs))
  (hm:decide ((i,j,nm,qual)∈pF)=true:=by kernel_rfl)
  (hkind:(names.all λy=>(md i j).scope.names.lookup y==some .local||(md i j).scope.names.lookup y==some .cell)=true:=by kernel_rfl) (hnd:names.Nodup:=by decide) (hcn:decide ((cellsFrom 0 (md i j).scope.names []).map (·.1)).Nodup=true:=by kernel_rfl)
  (hco:(md i j).scope.isCoroutine=false:=by rfl) (hgen:(md i j).scope.isGenerator=false:=by rfl) (hkk:(md i j).scope.kind=.function:=by rfl):FC C (A.bZ i j) n args m Q:=
 Oj names (T.bZ _ (of_decide_eq_true hm)).1 hn hla h hb hkind hnd (of_decide_eq_true hcn) hco hgen hkk
noncomputable def fY (mask:Nat):List Nat:=(aj 60).filter mask.testBit
end
section
structure Gr where
 names:List Str
 T:Nat
 rules:List (Nat×List Nat)
instance:Nonempty Gr:=⟨⟨[],0,[]⟩⟩
noncomputable def kM:Nat->List (Nat×List Nat)->List Nat
 | _,[]=>[]
 | k,p::ps=>iP (p.2.length+1) k++kM (k+1) ps
theorem zy:kM k (p::ps)=iP (p.2.length+1) k++kM (k+1) ps:=rfl
noncomputable def kN:List (Nat×List Nat)->Nat->Nat
 | [],_=>0
 | _::_,0=>0
 | p::ps,r+1=>p.2.length+1+kN ps r
theorem Gv:kN L 0=0:=by cases L<;>rfl
theorem wm:kN (p::ps) (r+1)=p.2.length+1+kN ps r:=rfl
theorem NL:∀ (L:List (Nat×List Nat)) (k:Nat),(kM k L).length=kN L L.length:=by
 intro l_;induction l_ with
 | nil=>
  intro _;exact rfl
 | cons p ps ih=>
  intro k;simp only[zy,cQ,yz,fM,wm,ih]
theorem NN (L:List (Nat×List Nat)):∀ (k r d:Nat) (p:Nat×List Nat),L[r]? = some p->d<=p.2.length->(kM k L)[kN L r+d]? = some (k+r):=by
 induction L with
 | nil=>intro _ _ _ _ h _;contradiction
 | cons p ps ih=>
  intro k r d q h hd;cases r with
  | zero=>
   cases c8 ((BN).symm.trans h);simp only[zy,Gv];rw[jT (by simp;exact zs hd),List.getElem?_replicate];simp;exact zs hd
  | succ r=>
   rw[rI] at h;simp only[zy,wm];rw[oQ (by simp;exact DR eF),yz,show p.2.length+1+kN ps r+d - (p.2.length+1)=kN ps r+d from (congrArg (·- (p.2.length+1)) qV).trans Js,ih (k+1) r d q h hd];congr 1;exact ir
theorem ZK:∀ (L:List (Nat×List Nat)) (k it:Nat),it < (kM k L).length->∃ r d p,L[r]? = some p/\d<=p.2.length/\it=kN L r+d:=by
 intro l_;induction l_ with
 | nil=>
  intro _ _ h;cases h
 | cons p ps ih=>
  intro k it h;by_cases q:it < p.2.length+1
  .exact ⟨0,it,p,rfl,zh q,by rw[Gv,fG]⟩
  .simp only[zy,cQ,yz] at h;obtain ⟨r,d,p',h1,h2,h3⟩:=ih (k+1) (it - (p.2.length+1)) (j9 h (zg q));exact ⟨r+1,d,p',h1,h2,by rw[wm];exact (AQ (zg q)).trans ((congrArg (p.2.length+1+·) h3).trans DS)⟩
theorem YT (L:List (Nat×List Nat)):∀ (r:Nat) (p:Nat×List Nat),L[r]? = some p->kN L (r+1)=kN L r+(p.2.length+1):=by
 induction L with
 | nil=>intro _ _ h;contradiction
 | cons p ps ih=>
  intro r q h;cases r with
  | zero=>
   cases c8 ((BN).symm.trans h);simp[wm,Gv]
  | succ r=>
   rw[rI] at h;simp only[wm,ih r q h];exact DS
theorem Xn:∀ (L:List (Nat×List Nat)) (k:Nat) (p:Nat×List Nat),kM k (L++[p])=kM k L++iP (p.2.length+1) (k+L.length):=by
 intro l_;induction l_ with
 | nil=>
  intro k p;exact nW _
 | cons q L ih=>
  intro k p;simp only[VV,zy,ih (k+1) p,gX,fM];congr 3;exact ir
theorem Nq:∀ (L:List (Nat×List Nat)) (i r:Nat),r<=i->kN (L.take i) r=kN L r
 | [],i,r,_=>by simp
 | p::ps,0,r,h=>by have:r=0:=AR h;subst this;rfl
 | p::ps,i+1,0,h=>by rfl
 | p::ps,i+1,r+1,h=>by simp only[tW,wm,Nq ps i r (zh h)]
namespace Gr
variable (G:Gr)
noncomputable def N:Nat:=G.names.length
noncomputable def R:Nat:=G.rules.length
noncomputable def ju (r:Nat):Nat×List Nat:=G.rules.getD r (0,[])
noncomputable def aq (r:Nat):Nat:=(G.ju r).1
noncomputable def ai (r:Nat):List Nat:=(G.ju r).2
noncomputable def off (r:Nat):Nat:=kN G.rules r
noncomputable def own:List Nat:=kM 0 G.rules
noncomputable def M:Nat:=G.own.length
noncomputable def item (r d:Nat):Nat:=G.off r+d
noncomputable def aB (it:Nat):Nat:=G.own.getD it 0
noncomputable def dot (it:Nat):Nat:=it - G.off (G.aB it)
noncomputable def aY (it:Nat):Option Nat:=(G.ai (G.aB it))[G.dot it]?
noncomputable def ia (it:Nat):Int:=match G.aY it with | some x=>x | none=>-1
structure Ok:Prop where
 nd:G.names.Nodup
 nT:G.N=G.T+3
 t4:4<=G.T
 t5:G.T<=5
 r4:4<=G.R
 r5:G.R<=5
 l0:G.aq 0=G.T
 lN:∀ r,0 < r->r < G.R->G.aq r=G.T+1\/G.aq r=G.T+2
 rN:∀ r,∀ x∈G.ai r,x < G.N
 rT:∀ r,G.T∉G.ai r
 len:∀ r,(G.ai r).length<=3
 g0:G.ai 0=[G.T+1,0]
 rz:∀ r,0 < r->0∉G.ai r
variable {G}
theorem get (h:r < G.R):G.rules[r]? = some (G.ju r):=by unfold ju;rw[aH h,bM,aH h];rfl
theorem fO (h:r < G.R) (hd:d<=(G.ai r).length):G.aB (G.item r d)=r:=by unfold aB own item off;rw[bM,NN G.rules 0 r d _ (get h) hd];simp
theorem jW (h:r < G.R) (hd:d<=(G.ai r).length):G.dot (G.item r d)=d:=by unfold dot;rw[fO h hd];unfold item;exact Js
theorem r6 (h:r < G.R) (hd:d<=(G.ai r).length):G.item r d < G.M:=by have:=NN G.rules 0 r d _ (get h) hd;exact (bU.mp this).1
theorem uu (h:r < G.R) (hd:d<=(G.ai r).length):G.aY (G.item r d)=(G.ai r)[d]?:=by unfold aY;rw[fO h hd,jW h hd]
theorem zE (h:it < G.M):∃ r d,r < G.R/\d<=(G.ai r).length/\it=G.item r d:=by
 ext G it;obtain ⟨r,d,p,h1,h2,h3⟩:=ZK G.rules 0 it h;have hr:r < G.R:=(bU.mp h1).1;have:p=G.ju r:=by rw[get hr] at h1;exact (c8 h1).symm
 subst this;exact ⟨r,d,hr,h2,h3⟩
theorem iU (h:it < G.M):G.aB it < G.R:=by obtain ⟨r,d,hr,hd,rfl⟩:=zE h;rw[fO hr hd];exact hr
theorem jY (h:it < G.M):G.dot it<=(G.ai (G.aB it)).length:=by obtain ⟨r,d,hr,hd,rfl⟩:=zE h;rw[fO hr hd,jW hr hd];exact hd
theorem jJ (h:it < G.M):G.item (G.aB it) (G.dot it)=it:=by obtain ⟨r,d,hr,hd,rfl⟩:=zE h;rw[fO hr hd,jW hr hd]
theorem CO (h:it < G.M):G.own[it]? = some (G.aB it):=by unfold aB;rw[bM,aH h];rfl
theorem CD (h:r < G.R):G.off (r+1)=G.off r+((G.ai r).length+1):=YT G.rules r _ (get h)
theorem OZ (h:r'<=G.R) (hr:r<=r'):G.off r<=G.off r':=by
 induction r' with
 | zero=>rw[show r=0 by exact AR hr];exact aL _
 | succ k ih=>
  by_cases q:r=k+1
  .rw[q];exact aL _
  .have:=ih (zf h) (DQ hr q);rw[CD h];exact DR this
theorem NO:G.off 0=0:=by unfold off;cases G.rules<;>rfl
theorem adg:G.off G.R=G.M:=(NL _ _).symm
theorem Xo (h:r < G.R) (hd:d<=(G.ai r).length) (h':r' < G.R) (hd':d'<=(G.ai r').length) :
  G.item r d < G.item r' d'↔r < r'\/(r=r'/\d < d'):=by
 unfold item;rcases Ma r r' with q | q | q
 .have:=OZ (G:=G) (r:=r+1) (r':=r') (zf h') q;rw[CD h] at this;exact ⟨λ_=>.inl q,λ_=>zl (i6 (zs hd)) (zz this eF)⟩
 .subst q;exact ⟨λh0=>.inr ⟨rfl,LI h0⟩,λh0=>h0.elim (λw=>(RL w).elim) λw=>i6 w.2⟩
 .have:=OZ (G:=G) (r:=r'+1) (r':=r) (zf h) q;rw[CD h'] at this;exact ⟨λh0=>(vc h0 (zl (i6 (zs hd')) (zz this eF))).elim,λh0=>(h0.elim (λw=>vc w q) λw=>mz q w.1.symm).elim⟩
theorem YU (o:G.Ok):∀ r,r<=G.R->G.off r<=4*r:=by
 intro l_;induction l_ with
 | zero=>
  intro _;rw[NO];exact aI
 | succ r ih=>
  intro h;rw[CD h];exact dO (ih (zf h)) (uZ (o.len r))
theorem n8 (o:G.Ok):G.M<=20:=by rw[<-adg];exact zz (YU o G.R (aL _)) (pX o.r5)
theorem Gw (o:G.Ok):G.item 0 0=0:=by unfold item;rw[NO]
end Gr
end
section
open PySem PySem.W PySem.Calls PyProof.Rows PySem.SeqAt
mutual
inductive jv (m:MH):V->PyData->Prop
 | none:jv m .none .none
 | bool (b):jv m (.bool b) (.bool b)
 | int (i):jv m (.int i) (.int i)
 | str (x):jv m (.str x) (.str x)
 | list {a xs ds}:m a=some (.list xs)->n9 m xs ds->jv m (.ref a) (.list ds)
 | tuple {a xs ds}:m a=some (.tuple xs)->n9 m xs ds->jv m (.ref a) (.tuple ds)
inductive n9 (m:MH):List V->List PyData->Prop
 | nil:n9 m [] []
 | cons {v vs d ds}:jv m v d->n9 m vs ds->n9 m (v::vs) (d::ds)
end
theorem n9.ints (m:MH):∀ ks:List Int,n9 m (ks.map V.int) (ks.map .int):=by
 intro l_;induction l_ with
 | nil=>
  exact .nil
 | cons k ks ih=>
  exact .cons (.int k) (ih)
theorem n9.strs (m:MH):∀ ks:List Str,n9 m (ks.map V.str) (ks.map .str):=by
 intro l_;induction l_ with
 | nil=>
  exact .nil
 | cons k ks ih=>
  exact .cons (.str k) (ih)
theorem jv.reads (x:aP C P m d s) (h:jv m v dd) (e:er r=some v):∃ as,Reads s.heap r dd as:=by
 refine jv.rec (motive_1:=λv dd _=>∀ r,er r=some v->∃ as,Reads s.heap r dd as) (motive_2:=λvs ds _=>∀ rs,aD rs vs->∃ as,ReadsAll s.heap rs ds as)
  (λr h=>?_) (λb r h=>?_) (λi r h=>?_) (λi r h=>?_) (λhm hs ih r h=>?_) (λhm hs ih r h=>?_) (λrs h=>?_) (λh1 h2 i1 i2 rs h=>?_) h r e
 .rw[zN h];exact ⟨_,.none⟩
 .rw[wI h];exact ⟨_,.bool b⟩
 .obtain ⟨t,rfl⟩:=bS h;exact ⟨_,.int i t⟩
 .obtain ⟨t,rfl⟩:=fX h;exact ⟨_,.str i t⟩
 .rw[bD h];obtain ⟨ws,k,g,he,hi⟩:=x.isList hm;obtain ⟨as,ha⟩:=ih _ he;exact ⟨_,.list g rfl rfl ha⟩
 .rw[bD h];obtain ⟨ws,k,g,he,hi⟩:=x.isTup hm;obtain ⟨as,ha⟩:=ih _ he;exact ⟨_,.tuple g rfl rfl ha⟩
 .rw[h.nil_inv];exact ⟨_,.nil⟩
 .obtain ⟨r,rs',rfl,q1,q2⟩:=h.cons_inv;obtain ⟨as,ha⟩:=i1 _ q1;obtain ⟨bs,hb⟩:=i2 _ q2;exact ⟨_,.cons ha hb⟩
section
variable {C:Cx} {n:Nat} {m:MH} {Q:V->MH->Prop}
theorem HZ (hv:jv m v d) (hw:jv m w e) (hd:shaped d=true) (he:shaped e=true) (h:Q (.bool (pg d e)) m) :
  ∀ ra rb,er ra=some v->er rb=some w->TR C n (compareOp .Eq ra rb) m Q:=by
 intro ra rb ha hb;rintro P A s R hr ⟨dd,x⟩ kk;obtain ⟨as,h1⟩:=hv.reads x ha;obtain ⟨bs,h2⟩:=hw.reads x hb;exact compareEq_shaped h1 h2 hd he (zn (DP (sS hr.3)) (ao rfl)) (kk _ (.bool _) m _ rfl ⟨dd,x⟩ h)
theorem Dd (hv:jv m v d) (hw:jv m w e) (hd:shaped d=true) (he:shaped e=true) (h:Q (.bool (!pg d e)) m) :
  ∀ ra rb,er ra=some v->er rb=some w->TR C n (compareOp .NotEq ra rb) m Q:=by
 intro ra rb ha hb;rintro P A s R hr ⟨dd,x⟩ kk;obtain ⟨as,h1⟩:=hv.reads x ha;obtain ⟨bs,h2⟩:=hw.reads x hb;exact compareNe_shaped h1 h2 hd he (zn (DP (sS hr.3)) (ao rfl)) (kk _ (.bool _) m _ rfl ⟨dd,x⟩ h)
theorem NP (hm:m a=some (.list xs)) (hv:n9 m xs ds) (hw:jv m w e) (hd:B4 ds=true) (he:shaped e=true) (h:Q (.bool (!ds.any λy=>pg y e)) m) :
  ∀ ra rb,er ra=some w->er rb=some (.ref a)->TR C n (compareOp .NotIn ra rb) m Q:=by
 intro ra rb ha hb;rintro P A s R hr ⟨dd,x⟩ kk;obtain ⟨as,h1⟩:=(jv.list hm hv).reads x hb;obtain ⟨bs,h2⟩:=hw.reads x ha;exact notIn_list_reads h1 h2 hd (canLay_of_shaped he) (zm (dO (sS hr.3) (zz (yJ _ _) (depth_of_shaped he))) (ao rfl)) (kk _ (.bool _) m _ rfl ⟨dd,x⟩ h)
theorem Hh [DecidableEq α] {f:α->PyData} (hf:∀ x y,pg (f x) (f y)=decide (x=y)) (a b:List α):nX (a.map f) (b.map f)=decide (a=b):=by
 induction a generalizing b with
 | nil=>cases b<;>rfl
 | cons x a ih=>
  cases b with
  | nil=>rfl
  | cons y b=>
   rw[bq,bq,nX,hf,ih];by_cases h:x=y<;>by_cases h2:a=b<;>simp[h,h2]
theorem ZL (a b:List Int):nX (a.map .int) (b.map .int)=decide (a=b):=Hh (λ_ _=>rfl) a b
theorem NQ (a b:List Str):nX (a.map .str) (b.map .str)=decide (a=b):=Hh (λ_ _=>rfl) a b
noncomputable def gH (p:Int×Int):PyData:=.tuple [.int p.1,.int p.2]
theorem NR (p q:Int×Int):pg (gH p) (gH q)=decide (p=q):=by obtain ⟨a,b⟩:=p;obtain ⟨c,d⟩:=q;simp only[gH,pg,nX,Bool.and_true];by_cases h:a=c<;>by_cases h2:b=d<;>simp[h,h2]
theorem Gx (a b:List (Int×Int)):nX (a.map gH) (b.map gH)=decide (a=b):=Hh (λ_ _=>NR ..) a b
theorem Nr (a:List (Int×Int)) (p:Int×Int):((a.map gH).any λy=>pg y (gH p))=decide (p∈a):=by
 rw[F2];induction a with
 | nil=>rfl
 | cons x a ih=>
  rw[Mz,ih];change (pg (gH x) (gH p)||_)=_;rw[NR];by_cases h:x=p
  .subst h;simp
  .have:¬ p=x:=λq=>h q.symm;simp[h,this]
theorem shaped_ints (a:List Int):shaped (.list (a.map .int))=true:=by
 have h1:B4 (a.map .int)=true:=by induction a with
  | nil=>rfl
  | cons x a ih=>assumption
 have h2:yN (a.map .int)<=1:=by clear h1;induction a with
  | nil=>exact bk _
  | cons x a ih=>simp only[bq,yN,yU];exact Ng.mpr ⟨bk _,ih⟩
 exact vR.mpr ⟨h1,decide_eq_true (by simp only[yU];exact zm h2 (ao rfl))⟩
theorem Ga (a:List Str) (ho:∀ x∈a,Xi x=true):shaped (.list (a.map .str))=true:=by
 have h1:B4 (a.map .str)=true:=by induction a with
  | nil=>rfl
  | cons x a ih=>simp[B4,PyData.canLay0,ih λy hy=>ho y (b9 _ hy),ho x aZ]
 have h2:yN (a.map .str)<=1:=by clear h1;clear ho;induction a with
  | nil=>exact bk _
  | cons x a ih=>simp only[bq,yN,yU];exact Ng.mpr ⟨bk _,ih⟩
 exact vR.mpr ⟨h1,decide_eq_true (by simp only[yU];exact zm h2 (ao rfl))⟩
theorem FP (a:List (Int×Int)):B4 (a.map gH)=true:=by
 induction a with
  | nil=>rfl
  | cons x a ih=>assumption
theorem we (a:List (Int×Int)):shaped (.list (a.map gH))=true:=by
 have h2:yN (a.map gH)<=4:=by induction a with
  | nil=>exact bk _
  | cons x a ih=>simp only[bq,yN,yU,gH];exact Ng.mpr ⟨zb rfl,ih⟩
 exact vR.mpr ⟨FP a,decide_eq_true (by simp only[yU];exact zm h2 (ao rfl))⟩
theorem MR (p:Int×Int):shaped (gH p)=true:=by unfold shaped gH;rfl
theorem NS (k:Str) (h:StrsAre vs ns):∀ (j:Nat) (h1:j < vs.length) (h2:j < ns.length),isStrOf k vs[j]=(ns[j]==k):=by
 induction h with
 | nil=>exact λj h _=>absurd h (Fq j)
 | cons n t r ih=>
  intro j h1 h2;cases j with
  | zero=>rfl
  | succ j=>exact ih j (BP h1) (BP h2)
theorem acs {ns:List Str} {j:Nat} (h:j < ns.idxOf k) (h2:j < ns.length):(ns[j]==k)=false:=by
 induction ns generalizing j with
 | nil=>exact absurd h2 (Fq j)
 | cons n r ih=>
  by_cases e:n=k
  .subst e;simp at h
  .have hb:(n==k)=false:=by exact decide_eq_false (by assumption)
   cases j with
   | zero=>exact hb
   | succ j=>
    have h':j < r.idxOf k:=by rw[Fw,hb] at h;exact BP h
    exact ih h' (BP h2)
theorem zF {a:Addr} {ks:List Str} {k:Str} (hm:m a=some (.list (ks.map .str))) (hk:k∈ks) (hl:ks.length < 2 ^ 40) (h:Q (.int (ks.idxOf k:Nat)) m):∀ r rs,er r=some (.ref a)->aD rs [.str k]->TR C n (call (.builtin "list.index") (r::rs)) m Q:=by
 intro r rs hr hrs;rw[bD hr];obtain ⟨rv,rs',rfl,h1,h2⟩:=hrs.cons_inv;rw[h2.nil_inv];obtain ⟨t,rfl⟩:=fX h1;rintro P A s R hr ⟨d,x⟩ kk;obtain ⟨ws,k',g,he,hi⟩:=x.isList hm;have hs:=he.strs;have hlen:=hs.length;have hj:ks.idxOf k < ks.length:=qx.mpr hk;refine wk PySem.F.slot_list_index ⟨_,g,rfl⟩ PySem.F.entry_list_index (PySem.F.args_list_index_2 _ _)
  (list_indexAt a ws.toArray k' _ _ (.str k t) (isStrOf k) (ks.idxOf k) (by simpa[hlen] using hj) (by exact ad9 hl hj) ?_ ?_) ⟨g,λy hy=>(eq_isStrOf k t hs y (by simpa using hy)).at _ _,kk _ (.int (ks.idxOf k:Nat)) m _ rfl ⟨d,x.tok _⟩ h⟩
 .change isStrOf k ws[ks.idxOf k]=true;rw[NS k hs _ (dN hj hlen) hj];simpa using yF hj
 .intro j hjs hlt;change isStrOf k ws[j]=false;rw[NS k hs j (by assumption) (zn hlt hj)];exact acs hlt _
end
end
section
section
variable {C:Cx} {A:TA} {n:Nat} {env:Env} {loc:Loc} {m:MH} {Q:V->MH->Prop} {QS:Fl->Loc->MH->Prop} {QB:Bool->MH->Prop} {QA:List V->MH->Prop}
theorem ahh (h:WS C n env (.Assign [.Name y p1] e pos::ss) loc m QS):WS C n env (.Assign [.Name y p1] e pos::ss) loc m QS:=h
theorem ahI (h:WS C n env (.Expr e pos::ss) loc m QS):WS C n env (.Expr e pos::ss) loc m QS:=h
theorem ahR (h:WS C n env (.Return (some e) pos::ss) loc m QS):WS C n env (.Return (some e) pos::ss) loc m QS:=h
theorem ahJ (h:WE C n env (.Name y p) loc m Q):WE C n env (.Name y p) loc m Q:=h
theorem ahr (h:WE C n env (.BinOp l o r p) loc m Q):WE C n env (.BinOp l o r p) loc m Q:=h
theorem ahS (h:WE C n env (.Compare l [o] [r] p) loc m Q):WE C n env (.Compare l [o] [r] p) loc m Q:=h
theorem ahT (h:WE C n env (.Subscript o i p) loc m Q):WE C n env (.Subscript o i p) loc m Q:=h
theorem ahs (h:WE C n env (.IfExp a b c p) loc m Q):WE C n env (.IfExp a b c p) loc m Q:=h
theorem ahi (h:WA C n env (e::es) loc m QA):WA C n env (e::es) loc m QA:=h
theorem ahK (h:WT C n env (.Compare l [o] [r] p) loc m QB):WT C n env (.Compare l [o] [r] p) loc m QB:=h
theorem ahL (h:WT C n env (.UnaryOp .Not l p) loc m QB):WT C n env (.UnaryOp .Not l p) loc m QB:=h
theorem aA (T:aS C A) (i:Nat) (hm:m a=some (.inst (A.cls i) fs)) (h:Q w m) (hv:loc.lookup y=some (.ref a):=by rfl) (hl:fs.lookup name=some w:=by rfl)
  (ny:(uD.lookup i).any (·.contains name)=true:=by kernel_rfl)
  (he:eval (.Attribute (.Name y p) name pos) env=(do
   let o'<-eval (.Name y p) env
   standAt pos.atName
   let r<-holding [o'] (getAttr o' name true)
   letTemporaryGo (.Name y p) o' r
   pure r):=by with_unfolding_all rfl) (hd:(y==("__debug__" : Str))=false:=by decide) (hcd:(y==("__classdict__" : Str))=false:=by decide):WE C n env (.Attribute (.Name y p) name pos) loc m Q:=
 gY T i (ux hv ⟨a,fs,w,rfl,hm,hl,h⟩ hd hcd) ny he
theorem cG (T:aS C A) (i j:Nat) (qual:Str) (hmi:m a=some (.inst (A.cls i) fs))
  (h:WA C n env args loc m λvs iu=>FC C (A.bZ i j) n (.ref a::vs) iu Q) (hv:loc.lookup y=some (.ref a):=by rfl) (hl:fs.lookup name=none:=by rfl)
  (hm:decide ((i,j,name,qual)∈pF)=true:=by kernel_rfl) (hj:j≠0:=by decide)
  (hp:jG args:=by walk_at "pl") (hs:(backTo pos (starEach args env)).any (·.1)=false:=by rfl)
  (hbase:attributeBase (.Name y p) name env (eval (.Name y p) env)=eval (.Name y p) env:=by rfl) (hline:(apos.endLine==pos.line)=true:=by rfl)
  (hfew:((backTo pos (starEach args env)).all (λx=>!x.1)&&(backToKw pos (keywordEach [] env)).all (λx=>x.1.isSome)&&decide (args.length+([]:List Keyword).length+(if ([]:List Keyword).isEmpty then 0 else 1) < 30))=true:=by rfl)
  (hd:(y==("__debug__" : Str))=false:=by decide) (hcd:(y==("__classdict__" : Str))=false:=by decide) :
  WE C n env (.Call (.Attribute (.Name y p) name apos) args [] pos) loc m Q:=
 kH T i j qual (ux hv ⟨a,fs,rfl,hmi,hl,h⟩ hd hcd) hm hj hp hs hbase hline hfew
end
noncomputable def uR (loc:Loc) (e:Expr) (v:V):Prop:=∀ R:Expr->V->Prop,(∀ y p,loc.lookup y=some v->(y==("__debug__" : Str))=false->(y==("__classdict__" : Str))=false->R (.Name y p) v)->
  (∀ i k p,R (.Constant (.int i) k p) (.int i))->(∀ i k p,R (.Constant (.str i) k p) (.str i))->(∀ i k p,R (.Constant (.bool i) k p) (.bool i))->(∀ k p,R (.Constant .none k p) .none)->R e v
noncomputable def R2 (loc:Loc) (e:Expr):Option { v // uR loc e v }:=
 if h:e.ctorIdx=23 then ag7 (motive_1:=λe=>Option { v // uR loc e v }) e h λy p=>if h1:(y==("__debug__" : Str))=false then if h2:(y==("__classdict__" : Str))=false then match h3:loc.lookup y with
  | some v=>some ⟨v,λ_ hn _ _ _ _=>hn y p h3 h1 h2⟩
  | none=>none
  else none else none
 else if h:e.ctorIdx=19 then agW (motive_1:=λe=>Option { v // uR loc e v }) e h λc k p=>
  if h:c.ctorIdx=2 then ag8 (motive:=λc=>Option { v // uR loc (.Constant c k p) v }) c h λi=>some ⟨.int i,λ_ _ h _ _ _=>h i k p⟩
  else if h:c.ctorIdx=5 then ag9 (motive:=λc=>Option { v // uR loc (.Constant c k p) v }) c h λi=>some ⟨.str i,λ_ _ _ h _ _=>h i k p⟩
  else if h:c.ctorIdx=1 then ag0 (motive:=λc=>Option { v // uR loc (.Constant c k p) v }) c h λi=>some ⟨.bool i,λ_ _ _ _ h _=>h i k p⟩
  else if h:c.ctorIdx=0 then ag1 (motive:=λc=>Option { v // uR loc (.Constant c k p) v }) c h (some ⟨.none,λ_ _ _ _ _ h=>h k p⟩) else none
 else none
noncomputable def sv (loc:Loc) (e:Expr):Option V:=(R2 loc e).map (·.1)
noncomputable def AX (loc:Loc):List Expr->Option (List V)
 | []=>some []
 | e::es=>(sv loc e).bind λv=>(AX loc es).map (v::·)
section
variable {C:Cx} {n:Nat} {env:Env} {loc:Loc} {m:MH} {Q:V->MH->Prop} {QS:Fl->Loc->MH->Prop} {QB:Bool->MH->Prop} {QA:List V->MH->Prop} {e l r o i:Expr} {es:List Expr} {v a b:V} {vs:List V} {pos p1:Pos} {y:Str} {ss:List Stmt}
theorem NT {R:Expr->V->Prop} (h:sv loc e=some v) (hn:∀ y p,loc.lookup y=some v->(y==("__debug__" : Str))=false->(y==("__classdict__" : Str))=false->R (.Name y p) v)
  (hi:∀ i k p,R (.Constant (.int i) k p) (.int i)) (hs:∀ i k p,R (.Constant (.str i) k p) (.str i)) (hb:∀ i k p,R (.Constant (.bool i) k p) (.bool i)) (h0:∀ k p,R (.Constant .none k p) .none):R e v:=by
 unfold sv at h;cases hx:R2 loc e with
 | none=>rw[hx] at h;cases h
 | some x=>rw[hx] at h;cases h;exact x.2 R hn hi hs hb h0
theorem gJ (h:sv loc e=some v) (k:Q v m):WE C n env e loc m Q:=
 NT (R:=λe v=>Q v m->WE C n env e loc m Q) h (λ_ _ h h1 h2 k=>ux h k h1 h2) (λ_ _ _=>zY) (λ_ _ _=>CX) (λ_ _ _=>aaG) (λ_ _=>aaH) k
theorem aaV (h:sv loc e=some v):∀ env,starEach (e::es) env=(false,eval e env)::starEach es env:=
 NT (R:=λe _=>∀ env,starEach (e::es) env=(false,eval e env)::starEach es env) h (λ_ _ _ _ _ _=>rfl) (λ_ _ _ _=>rfl) (λ_ _ _ _=>rfl) (λ_ _ _ _=>rfl) λ_ _ _=>rfl
theorem adh (h:sv loc e=some v) (k:WA C n env es loc m λvs m2=>QA (v::vs) m2):WA C n env (e::es) loc m QA:=dI (gJ h k) (aaV h)
theorem acu (h:AX loc es=some vs) (k:QA vs m):WA C n env es loc m QA:=by
 induction es generalizing vs QA with
 | nil=>cases h;exact cM k
 | cons e es ih=>
  change ((sv loc e).bind λv=>(AX loc es).map (v::·))=some vs at h;cases h1:sv loc e with
  | none=>rw[h1] at h;cases h
  | some v=>
   cases h2:AX loc es with
   | none=>rw[h1,h2] at h;cases h
   | some ws=>rw[h1,h2] at h;cases h;exact adh h1 (ih h2 k)
theorem ahj (hr:AX loc es=some vs) (h:WE C n env e loc m λv m1=>QA (v::vs) m1) (he:∀ env,starEach (e::es) env=(false,eval e env)::starEach es env:=by walk_at "iu"):WA C n env (e::es) loc m QA:=
 dI (h.mono λ_ _ q=>acu hr q) he
theorem ahe (hl:sv loc l=some a) (hr:sv loc r=some b) (k:∀ ra rb,er ra=some a->er rb=some b->TR C n (binaryOp op ra rb) m Q):WE C n env (.BinOp l op r pos) loc m Q:=CC (gJ hl (gJ hr k))
theorem ahf (hr:sv loc r=some b) (k:WE C n env l loc m λv m1=>∀ ra rb,er ra=some v->er rb=some b->TR C n (binaryOp op ra rb) m1 Q):WE C n env (.BinOp l op r pos) loc m Q:=CC (k.mono λ_ _ q=>gJ hr q)
theorem ahg (hl:sv loc l=some a) (k:WE C n env r loc m λv m1=>∀ ra rb,er ra=some a->er rb=some v->TR C n (binaryOp op ra rb) m1 Q):WE C n env (.BinOp l op r pos) loc m Q:=CC (gJ hl k)
theorem aht (hl:sv loc l=some a) (hr:sv loc r=some b) (k:∀ ra rb,er ra=some a->er rb=some b->TR C n (compareOp op ra rb) m Q) (hm:behindInMarks op r=false:=by with_unfolding_all rfl):WE C n env (.Compare l [op] [r] pos) loc m Q:=Hx (gJ hl (gJ hr k)) hm
theorem ahu (hr:sv loc r=some b) (k:WE C n env l loc m λv m1=>∀ ra rb,er ra=some v->er rb=some b->TR C n (compareOp op ra rb) m1 Q) (hm:behindInMarks op r=false:=by with_unfolding_all rfl):WE C n env (.Compare l [op] [r] pos) loc m Q:=Hx (k.mono λ_ _ q=>gJ hr q) hm
theorem ahv (hl:sv loc l=some a) (k:WE C n env r loc m λv m1=>∀ ra rb,er ra=some a->er rb=some v->TR C n (compareOp op ra rb) m1 Q) (hm:behindInMarks op r=false:=by with_unfolding_all rfl):WE C n env (.Compare l [op] [r] pos) loc m Q:=Hx (gJ hl k) hm
theorem ahw (hl:sv loc l=some a) (hr:sv loc r=some b) (k:∀ ra rb,er ra=some a->er rb=some b->TR C n (compareOp op ra rb) m λv m3=>∃ t,v=.bool t/\QB t m3) (hm:behindInMarks op r=false:=by with_unfolding_all rfl):WT C n env (.Compare l [op] [r] pos) loc m QB:=cH (gJ hl (gJ hr k)) hm
theorem ahx (hr:sv loc r=some b) (k:WE C n env l loc m λv m1=>∀ ra rb,er ra=some v->er rb=some b->TR C n (compareOp op ra rb) m1 λv m3=>∃ t,v=.bool t/\QB t m3) (hm:behindInMarks op r=false:=by with_unfolding_all rfl):WT C n env (.Compare l [op] [r] pos) loc m QB:=cH (k.mono λ_ _ q=>gJ hr q) hm
theorem ahy (hl:sv loc l=some a) (k:WE C n env r loc m λv m1=>∀ ra rb,er ra=some a->er rb=some v->TR C n (compareOp op ra rb) m1 λv m3=>∃ t,v=.bool t/\QB t m3) (hm:behindInMarks op r=false:=by with_unfolding_all rfl):WT C n env (.Compare l [op] [r] pos) loc m QB:=cH (gJ hl k) hm
theorem ahz (hl:sv loc o=some a) (hr:sv loc i=some b) (k:∀ rv rw,er rv=some a->er rw=some b->TR C n (subscriptTail o i rv rw) m Q):WE C n env (.Subscript o i pos) loc m Q:=uC (gJ hl (gJ hr k))
theorem ahA (hr:sv loc i=some b) (k:WE C n env o loc m λv m1=>∀ rv rw,er rv=some v->er rw=some b->TR C n (subscriptTail o i rv rw) m1 Q):WE C n env (.Subscript o i pos) loc m Q:=uC (k.mono λ_ _ q=>gJ hr q)
theorem ahB (hl:sv loc o=some a) (k:WE C n env i loc m λv m1=>∀ rv rw,er rv=some a->er rw=some v->TR C n (subscriptTail o i rv rw) m1 Q):WE C n env (.Subscript o i pos) loc m Q:=uC (gJ hl k)
theorem ahc (hk:mY env y) (hv:sv loc e=some v) (k:WS C n env ss ((y,v)::loc) m QS) (hs:swapsWith e (some (.Name y p1)) pos.line env=pure false:=by with_unfolding_all rfl):WS C n env (.Assign [.Name y p1] e pos::ss) loc m QS:=fN hk (gJ hv k) hs
theorem ahC (hv:sv loc e=some v) (k:QS (.ret v) loc m):WS C n env (.Return (some e) pos::ss) loc m QS:=acf (gJ hv k)
theorem ahd (ho:sv loc o=some a) (hi:sv loc i=some b) (k:WE C n env e loc m λv m1=>∀ rv ro ri,er rv=some v->er ro=some a->er ri=some b->TU C n (setItem ro ri rv) m1 λm4=>WS C n env ss loc m4 QS)
  (hs:swapsWith e (some (.Subscript o i p1)) pos.line env=pure false:=by with_unfolding_all rfl):WS C n env (.Assign [.Subscript o i p1] e pos::ss) loc m QS:=YJ (k.mono λ_ _ q=>gJ ho (gJ hi q)) hs
end
theorem Sub.cap (h:L.map (λp=>l.lookup p.1)=L.map λp=>some p.2):Sub L l:=by
 induction L with
 | nil=>exact Sub.nil _
 | cons p L ih=>exact Sub.cons (qA h).1 (ih (qA h).2)
section
variable {C:Cx} {A:TA} {n:Nat} {m:MH} {Q:V->MH->Prop}
theorem Nt (T:aS C A) (hn:2<=n) (adi:mask < 2 ^ 60) (h:∀ a,m a=none->Q (.ref a) (m.set a (.list ((fY mask).map vn)))):FC C (A.f 4) n [vn mask] m Q:=by
 ext C A n m Q mask;refine eG T 4 "bits" ["mask"] (zf hn) rfl (λenv ef=>?_) (by walk_at "bd1");k_is;lk;ext env;refine bR (cM ⟨by exact bk _,λa ha=>?_⟩);lk;ext a;show qG (λk L mm=>∃ at_ left,left=mask >>> at_/\k=left/\at_<=60/\L=([("left",vn left),("at",vn at_),("found",.ref a)]:Loc)/\mm=m.set a (.list (((aj at_).filter mask.testBit).map vn))) mask _ ?_ ⟨0,mask,rfl,rfl,aI,rfl,rfl⟩
 .k_in
 rintro k L mm aG;ext k L mm;show qW;intro QQ qe;ext QQ;obtain ⟨at_,left,rfl,rfl,hat,rfl,rfl⟩:=aG;lk;refine wU ⟨_,rfl,λhb=>?_,λhb=>?_⟩
 .have hpos:0 < mask >>> at_:=by simpa using hb
  have hlt:at_ < 60:=by
   by_cases q:at_ < 60
   .exact q
   .have e:at_=60:=sV hat q;rw[e,EY,VM adi] at hpos;exact zv (RA hat (zs hpos))
  have afa:mask >>> (at_+1) < mask >>> at_:=by rw[Nat.shiftRight_succ];exact Nat.div_lt_self hpos (ao rfl)
  have htb:mask.testBit at_=decide ((mask >>> at_) &&& 1=1):=by rw[LA,EY,Vp]
  clear hat hb hpos;ext at_;show um (λL m2=>L=([("left",vn (mask >>> at_)),("at",vn at_),("found",.ref a)]:Loc)/\m2=m.set a (.list (((aj (at_+1)).filter mask.testBit).map vn))) ?_
  .lk;show OY;lk;refine HY ⟨_,rfl,λhb=>?_,λhb=>?_⟩
   .refine gu (eB gn lE lF ?_);walk_at "nm";refine ⟨gG (MH.af _ _ _),dI ?_⟩;walk_at "nm";refine cM (kG (MH.af _ _ _) ?_ ?_)
    .rw[ak];exact gW (kD _ _) (by rw[aN];exact zl hlt aI)
    .refine cX ⟨_,by k_in,rfl,?_⟩;have e1:mask.testBit at_=true:=htb.trans hb;rw[MH.set_set,jD,jU];simp[e1]
   .refine cX ⟨_,by k_in,rfl,?_⟩;have e1:mask.testBit at_=false:=htb.trans hb;rw[jD,jU];simp[e1]
  .rintro L m2 ⟨rfl,rfl⟩;lk;show acr;lk;show lP;subst qe;refine fB _ (by k_in) ⟨mask >>> (at_+1),afa,at_+1,_,rfl,rfl,hlt,rfl,rfl⟩
 .lk;have h0:mask >>> at_=0:=by simpa using hb
  have e:(aj at_).filter mask.testBit=fY mask:=by
   clear qe hb;ext at_;unfold fY;have:(60:Nat)=at_+(60 - at_):=AQ hat;rw[this,Mv,jU];have z:(lO (λx=>at_+x) (aj (60 - at_))).filter mask.testBit=[]:=by
    rw[vP];intro x hx;obtain ⟨j,_,rfl⟩:=aQ.mp hx;have:mask.testBit (at_+j)=(mask >>> at_).testBit j:=by rw[Nat.testBit_shiftRight]
    rw[this,h0];simp
   rw[z,nW]
  rw[e];exact h a ha
end
end
section
structure GA where
 g:Addr
 nl:Addr
 rl:Addr
 kg:Addr
 bl:Addr
 ol:Addr
 wl:Addr
 ru:Nat->Addr
 rr:Nat->Addr
 bs:Nat->Addr
instance:Nonempty GA:=⟨⟨default,default,default,default,default,default,default,λ_=>default,λ_=>default,λ_=>default⟩⟩
noncomputable def JG (G:Gr) (g:GA):List (Str×V):=[("names",.ref g.nl),("terminal_count",vn G.T),("rules",.ref g.rl),("levels",.ref g.kg),("expect",.none),("start",vn (G.T+1)),("by_left",.ref g.bl),("offsets",.ref g.ol),("owners",.ref g.wl),("item_count",vn G.M)]
noncomputable def ruF (G:Gr) (g:GA) (lv:Nat->V) (r:Nat):List (Str×V):=[("number",vn r),("left",vn (G.aq r)),("right",.ref (g.rr r)),("level_of",lv r),("action",.none),("line",.int 0),("before",.int 0)]
structure cU (A:TA) (m:MH) (g:GA) (G:Gr):Prop where
 self:m g.g=some (.inst (A.cls 9) (JG G g))
 names:m g.nl=some (.list (G.names.map .str))
 rules:m g.rl=some (.list ((aj G.R).map λr=>.ref (g.ru r)))
 rule:∃ lv,∀ r,r < G.R->m (g.ru r)=some (.inst (A.cls 8) (ruF G g lv r))
 right:∀ r,r < G.R->m (g.rr r)=some (.tuple ((G.ai r).map vn))
 qf:m g.bl=some (.list ((aj G.N).map λx=>.ref (g.bs x)))
 nA:∀ x,x < G.N->m (g.bs x)=some (.list (((aj G.R).filter λr=>G.aq r==x).map vn))
 offs:m g.ol=some (.list ((aj G.R).map λr=>vn (G.off r)))
 owns:m g.wl=some (.list (G.own.map vn))
theorem cU.le (x:cU A m g G) (h:m.le m'):cU A m' g G where
 self:=h _ _ x.self
 names:=h _ _ x.names
 rules:=h _ _ x.rules
 rule:=by obtain ⟨lv,q⟩:=x.rule;exact ⟨lv,λr hr=>h _ _ (q r hr)⟩
 right:=λr hr=>h _ _ (x.right r hr)
 qf:=h _ _ x.qf
 nA:=λr hr=>h _ _ (x.nA r hr)
 offs:=h _ _ x.offs
 owns:=h _ _ x.owns
noncomputable def fh (G:Gr) (x:Nat):List Nat:=(aj G.R).filter λr=>G.aq r==x
section
variable {C:Cx} {A:TA} {n:Nat} {m:MH} {Q:V->MH->Prop} {g:GA} {G:Gr}
theorem aW (f:Nat->α) (h:i < k):((aj k).map f)[i]? = some (f i):=by rw[bH,vW h];rfl
theorem CP (T:aS C A) (o:G.Ok) (x:cU A m g G) (hn:1<=n) (h:Q (vn G.N) m):FC C (A.bZ 9 1) n [.ref g.g] m Q:=by
 refine dX T 9 1 "symbol_count" "Grammar.symbol_count" ["self"] hn rfl (λenv ef=>?_) (by walk_at "bd1");k_is;lk;show bY T ef.toC (by rfl);lk;show aA T 9 x.self;lk;show fz x.names ?_
 .rw[ak];exact fK o.nT (zm (gQ o.t5) (ao rfl))
 .rw[ak];exact h
theorem zG (T:aS C A) (x:cU A m g G) (hn:1<=n) (h:Q (.bool (decide (k < G.T))) m):FC C (A.bZ 9 2) n [.ref g.g,vn k] m Q:=by refine dX T 9 2 "is_terminal" "Grammar.is_terminal" ["self","symbol"] hn rfl (λenv ef=>?_) (by walk_at "bd2");k_is;lk;show aA T 9 x.self;exact sD h
theorem zA (T:aS C A) (o:G.Ok) (x:cU A m g G) (hn:1<=n) (hr:r < G.R) (h:Q (vn (G.item r d)) m):FC C (A.bZ 9 6) n [.ref g.g,vn r,vn d] m Q:=by refine dX T 9 6 "item" "Grammar.item" ["self","rule","dot"] hn rfl (λenv ef=>?_) (by walk_at "bd3");k_is;lk;show aA T 9 x.self;lk;show aJ x.offs (aW _ hr) (by have:=o.r5;simp;exact zm this (ao rfl));lk;exact adf h
theorem rV (T:aS C A) (o:G.Ok) (x:cU A m g G) (hn:1<=n) (hi:it < G.M) (h:Q (vn (G.aB it)) m):FC C (A.bZ 9 7) n [.ref g.g,vn it] m Q:=by refine dX T 9 7 "rule_of" "Grammar.rule_of" ["self","item"] hn rfl (λenv ef=>?_) (by walk_at "bd2");k_is;lk;show aA T 9 x.self;lk;show aJ x.owns (by rw[bH,Gr.CO hi];rfl) (by have:=Gr.n8 o;rw[ak];change G.M < _;exact zm this (ao rfl));exact h
theorem CE (T:aS C A) (o:G.Ok) (x:cU A m g G) (hn:1<=n) (hi:it < G.M) (h:Q (vn (G.dot it)) m):FC C (A.bZ 9 8) n [.ref g.g,vn it] m Q:=by refine dX T 9 8 "dot_of" "Grammar.dot_of" ["self","item"] hn rfl (λenv ef=>?_) (by walk_at "bd2");k_is;lk;show aA T 9 x.self;lk;show aA T 9 x.self;lk;show aJ x.owns (by rw[bH,Gr.CO hi];rfl) (by have:=Gr.n8 o;rw[ak];change G.M < _;exact zm this (ao rfl));show aJ x.offs (aW _ (Gr.iU hi)) (by have:=o.r5;simp;exact zm this (ao rfl));refine HX ?_ h;have:=Gr.jJ hi;unfold Gr.item at this;exact Jm this
theorem zH (T:aS C A) (o:G.Ok) (x:cU A m g G) (hn:1<=n) (hi:it < G.M) (h:Q (.int (G.ia it)) m):FC C (A.bZ 9 9) n [.ref g.g,vn it] m Q:=by
 have hr:=Gr.iU hi;have ho:G.own.length < 2 ^ 40:=by have:=Gr.n8 o;change G.M < _;exact zm this (ao rfl)
 have hl:(G.ai (G.aB it)).length < 2 ^ 40:=by have:=o.len (G.aB it);exact zm this (ao rfl)
 ext C A n m Q g G it;obtain ⟨lv,d9⟩:=x.rule;refine dX T 9 9 "after" "Grammar.after" ["self","item"] hn rfl (λenv ef=>?_) (by walk_at "bd2");k_is;lk;ext env;show gY T 8;lk;show aA T 9 x.self;lk;show aA T 9 x.self;lk;show aJ x.owns (by rw[bH,Gr.CO hi];rfl) (by rw[ak];exact ho);show aJ x.rules (aW _ hr) (by have:=o.r5;simp;exact zm this (ao rfl));refine ⟨_,_,_,rfl,d9 _ hr,rfl,?_⟩;lk;show aA T 9 x.self;lk;show aA T 9 x.self;lk;show aJ x.owns (by rw[bH,Gr.CO hi];rfl) (by rw[ak];exact ho);show aJ x.offs (aW _ hr) (by have:=o.r5;simp;exact zm this (ao rfl));show HX (by have:=Gr.jJ hi;unfold Gr.item at this;exact Jm this);lk;show bY T ef.toC (by rfl);lk;show wc (x.right _ hr) (by rw[ak];exact hl);rw[ak];refine sD ⟨_,rfl,?_⟩;by_cases q:G.dot it < (G.ai (G.aB it)).length
 .rw[show decide (it - G.off (G.aB it) < (G.ai (G.aB it)).length)=true from decide_eq_true q];simp only[if_true];lk;show lM (x.right _ hr) (by rw[bH];change Option.map vn (G.ai (G.aB it))[G.dot it]? = _;rw[aH q];rfl) (by rw[ak];exact hl);have e:G.ia it=((G.ai (G.aB it))[G.dot it]:Nat):=by unfold Gr.ia Gr.aY;rw[aH q]
  rw[e] at h;exact h
 .rw[show decide (it - G.off (G.aB it) < (G.ai (G.aB it)).length)=false from decide_eq_false q];simp only[cP,if_false];refine C1 (zY ⟨_,rfl,?_⟩);have e:G.ia it=-1:=by unfold Gr.ia Gr.aY;rw[jC (by unfold Gr.dot at q ⊢;exact zg q)]
  rw[e] at h;exact h
theorem Mw (T:aS C A) (o:G.Ok) (x:cU A m g G) (hn:1<=n) (hk:k < G.N) (h:∀ a,m a=none->Q (.ref a) (m.set a (.list ((fh G k).map vn)))):FC C (A.bZ 9 5) n [.ref g.g,vn k] m Q:=by refine dX T 9 5 "rules_of" "Grammar.rules_of" ["self","symbol"] hn rfl (λenv ef=>?_) (by walk_at "bd2");k_is;lk;show mO T ef.toC (by rfl);lk;show aA T 9 x.self;lk;show aJ x.qf (aW _ hk) (by simp;exact fK o.nT (zm (gQ o.t5) (ao rfl)));lk;refine v8 (x.nA k hk) ?_ h;have:=o.r5;have h2:=kD (λr=>G.aq r==k) (aj G.R);simp at h2 ⊢;exact zz h2 (zz this aI)
theorem Xp (T:aS C A) (o:G.Ok) (x:cU A m g G) (hn:1<=n) (hk:k < G.N) (hw:G.names[k]? = some w) (h:Q (vn k) m):FC C (A.bZ 9 4) n [.ref g.g,.str w] m Q:=by
 have hmem:w∈G.names:=bC hw;refine dX T 9 4 "number" "Grammar.number" ["self","name"] hn rfl (λenv ef=>?_) (by walk_at "bd2");k_is;lk;show aA T 9 x.self;refine OV x.names ⟨_,rfl,?_⟩;rw[decide_eq_true hmem];simp only[if_true];show eB gn B5 B6;show aA T 9 x.self;refine ⟨gG x.names,?_⟩;lk;show zF x.names hmem (fK o.nT (zm (gQ o.t5) (ao rfl)));have e:G.names.idxOf w=k:=by have hk':=(bU.mp hw);obtain ⟨h1,h2⟩:=hk';have:=o.nd.idxOf_getElem k h1;rw[h2] at this;exact this
 rw[e];exact h
end
end
section
theorem rW (g:Nat->α) (N j:Nat) (v:α):((aj N).map g).set j v=(aj N).map (λx=>if x=j then v else g x):=by
 apply vZ;intro k;rw[List.getElem?_set,bH,bH];by_cases hk:k < N
 .rw[vW hk];by_cases q:j=k
  .subst q;simp[hk]
  .have:¬ k=j:=λe=>q e.symm;simp[q,this]
 .have:(aj N)[k]? = none:=jC (by simp;exact zg hk);rw[this];simp;omega
noncomputable def cA (f:Nat->Nat):Nat->Nat->Nat
 | 0=>f
 | k+1=>λi=>if (cA f k i).testBit k then cA f k i ||| cA f k k else cA f k i
theorem ZM (f:Nat->Nat) (k:Nat):cA f (k+1) k=cA f k k:=by change (if (cA f k k).testBit k then cA f k k ||| cA f k k else cA f k k)=_;rw[Nat.or_self];split<;>rfl
section
variable {C:Cx} {A:TA} {n:Nat} {m:MH} {Q:V->MH->Prop}
theorem Xq (a k:Nat):decide (a >>> k &&& 1=1)=a.testBit k:=by rw[LA,EY,Vp]
theorem XW (T:aS C A) (hn:2<=n) (hm:m a=some (.list ((aj N).map λi=>vn (f i)))) (hN:N < 2 ^ 20) (h:∀ b,m b=none->Q (.ref b) (m.set b (.list ((aj N).map λi=>vn (cA f N i))))):FC C (A.f 19) n [.ref a] m Q:=by
 ext C A n m Q a N f;refine eG T 19 "transitive" ["rows"] (zf hn) rfl (λenv ef=>?_) (by walk_at "bd1");k_is;lk;ext env;show mO T ef.toC (by rfl);lk;refine v8 hm (by simp;exact zf hN) λb hb=>?_;ext b;refine kJ (GJ (ef.kind (by rfl)) (T.bi _ (by decide)) ?_);show bY T ef.toC (by rfl);lk;refine fz (MH.af _ _ _) (by simp;exact zl hN aI) ⟨_,rfl,by simp;exact zl hN aI,?_⟩;rw[ak,aN];refine ⟨λ_ i L mm=>L=([("found",.ref b)]:Loc)/\mm=m.set b (.list ((aj N).map λx=>vn (cA f i x))),kW,⟨_,by k_in,rfl,rfl⟩,λ_ _ _ _=>trivial,?_,?_⟩
 .rintro i L mm hi aG;ext i L mm;show bO;intro QQ bP;ext QQ;obtain ⟨rfl,rfl⟩:=aG;show aM (ef.store ⋯);refine kJ (GJ (ef.kind (by rfl)) (T.bi _ (by decide)) ?_);show bY T ef.toC (by rfl);lk;refine fz (MH.af _ _ _) (by simp;exact zl hN aI) ⟨_,rfl,by simp;exact zl hN aI,?_⟩;rw[ak,aN];refine ⟨λ_ j L mm=>L=([("middle",vn i),("found",.ref b)]:Loc)/\mm=m.set b (.list ((aj N).map λx=>vn (if x < j then cA f (i+1) x else cA f i x))),kW,⟨_,by k_in,rfl,by rfl⟩,λ_ _ _ _=>trivial,?_,?_⟩
  .rintro j L mm hj aG;ext j L mm;show bO;intro QQ bT;ext QQ;obtain ⟨rfl,rfl⟩:=aG;show aM (ef.store ⋯);show ck;lk;show aJ (MH.af _ _ _) (aW _ hj) (by simp;exact zl hN aI);lk;show Pj;lk;show OY;lk;refine HY ⟨_,rfl,?_⟩;rw[Xq,if_neg (uc j)];refine ⟨λhb'=>?_,λhb'=>?_⟩
   .walk_at "set";lk;show aJ (MH.af _ _ _) (aW _ hj) (by simp;exact zl hN aI);lk;show aJ (MH.af _ _ _) (aW _ hi) (by simp;exact zl hN aI);show lX;lk;show jE (MH.af _ _ _) (by simpa using hj) (by simp;exact zl hN aI);rw[MH.set_set];subst bT;refine aX (fB _ (by k_in) ⟨rfl,?_⟩);rw[rW];congr 2;apply fD;intro x _;by_cases q:x=j
    .subst q;have e:(if i < x then cA f (i+1) i else cA f i i)=cA f i i:=by split;exact ZM f i;rfl
     rw[if_pos rfl,if_neg (uc _),if_pos (B9 _),e];show congrArg vn;change _=if (cA f i x).testBit i=true then _ else _;rw[if_pos hb']
    .rw[if_neg q];show congrArg vn;by_cases q2:x < j
     .rw[if_pos q2,if_pos (zt q2)]
     .rw[if_neg q2,if_neg (ie (zd (zg q2) (xC q)))]
   .subst bT;refine aX (fB _ (by k_in) ⟨rfl,?_⟩);congr 2;apply fD;intro x _;show congrArg vn;by_cases q2:x < j
    .rw[if_pos q2,if_pos (zt q2)]
    .rw[if_neg q2];by_cases q:x=j
     .subst q;rw[if_pos (B9 _)];change _=if (cA f i x).testBit i=true then _ else _;rw[if_neg (by rw[hb'];simp)]
     .rw[if_neg (ie (zd (zg q2) (xC q)))]
  .rintro L mm (⟨rfl,rfl⟩ | hB)
   .subst bP;refine fB _ (by k_in) ⟨rfl,?_⟩;congr 2;apply fD;intro x hx;rw[if_pos (by simpa using hx)]
   .exact hB.elim
 .rintro L mm (⟨rfl,rfl⟩ | hB)
  .lk;exact h b hb
  .exact hB.elim
end
end
section
noncomputable def cN (l:List Nat):List Nat:=l.mergeSort (λa b=>decide (a<=b))
theorem wh (l:List Nat):(cN l).Perm l:=Vf _ _
theorem yQ (l:List Nat):(cN l).Pairwise (·<=·):=by have:=UR (le:=λa b:Nat=>decide (a<=b)) (by intro a b c;simp;omega) (by intro a b;simp;exact aea) l;simpa[cN] using this
theorem pA (l:List Nat):(cN l).length=l.length:=(wh l).length_eq
theorem ZN (hp:l'.Perm l) (hs:l'.Pairwise (·<=·)):l'=cN l:=
 (hp.trans (wh l).symm).eq_of_pairwise (le:=(·<=·)) (λa b _ _ h1 h2=>kT h1 h2) hs (yQ l)
theorem yZ (hs:l.Pairwise (·<=·)):cN l=l:=(ZN (.refl l) hs).symm
theorem jH:k∈cN l↔k∈l:=(wh l).mem_iff
theorem qD (h:l.Nodup):(cN l).Nodup:=(wh l).nodup_iff.mpr h
theorem Gy (l:List Nat):n5 (l.map λk:Nat=>(k:Int))=(cN l).map λk:Nat=>(k:Int):=by symm;show GN ((wh l).map _);rw[yH];exact (yQ l).imp λh=>zid h
theorem mW (l:List Nat):l.map vn=(l.map λk:Nat=>(k:Int)).map V.int:=by rw[dS];rfl
section
variable {C:Cx} {n:Nat} {env:Env} {loc:Loc} {m:MH} {Q:V->MH->Prop}
theorem M1 (hl:ks.length < 64)
  (hc:∀ A P s d (R:List Value->Shared->Prop),dF n A->aP C P m d s->(∀ h' tk vs,(∀ b o,s.heap.get? b=some o->h'.get? b=some o)->aD vs (ks.map .int)->R vs { s with heap:=h',toks:=tk })->
   wpAny (model C.prog C.w) A.in1 (collect (.ref a)) R dP s)
  (h:∀ b,m b=none->Q (.ref b) (m.set b (.list ((n5 ks).map .int)))):∀ rs,aD rs [.ref a]->TR C n (call (.builtin "sorted") rs) m Q:=by
 intro rs hrs;ext C n m Q a ks rs;obtain ⟨r,rs',rfl,h1,h2⟩:=hrs.cons_inv;rw[h2.nil_inv,bD h1];rintro P A s R hr ⟨d,x⟩ kk;ext P A s R d;show Vh kind_sorted plain_sorted entry_sorted (args_sorted1 _);unfold Builtin.«sorted»;refine az (m:=checkCount "sorted" 1 1 _) (bh ?_);refine az (hc A P s d _ hr x λh' tk vs hk he=>?_);have hvl:=he.length;rw[ak] at hvl;ext h' tk vs;refine az (MC ?_ (by rw[hvl,dZ];exact zf (zl hl aI)));have vh:(h'.push (seqObj "list" vs.toArray 0)).get? h'.objs.size=some (seqObj "list" vs.toArray 0):=gF _ rfl;refine az (ud (t9 Wo ⟨_,vh,rfl⟩ V5 (list_sort_tree vh he.ints (fK hvl hl) λout ns' a1 a2 a3=>⟨_,rfl,?_⟩) (Wq _)));refine bh ⟨_,rfl,?_⟩;obtain ⟨e,ge⟩:=WR (h:=h'.push (seqObj "list" vs.toArray 0)) (vs:=vs) (out:=out) vh;have e5:ns'=n5 ks:=GN a2 a3;subst e5;have y:=x.zQ tk hk;obtain ⟨z,hz⟩:=y.lS (t:=tk) (a:=h'.objs.size) (h':=sortedHeap (h'.push (seqObj "list" vs.toArray 0)) h'.objs.size vs out) (o:=.list ((n5 ks).map .int))
  (λb ob hb=>(Wr (gq (lI hb)) (by rw[Gp];exact B3 (lI hb))).trans (gC _ hb)) (aL _) (by intro _ _ e;cases e) λ_=>⟨out.toList,e,ge,NI a1⟩
 exact kk _ (.ref h'.objs.size) _ _ rfl ⟨d,z⟩ (h _ hz)
theorem Ct (hm:m a=some (.list (ks.map vn))) (hl:ks.length < 64) (h:∀ b,m b=none->Q (.ref b) (m.set b (.list ((cN ks).map vn)))):∀ rs,aD rs [.ref a]->TR C n (call (.builtin "sorted") rs) m Q:=by refine YQ (ks:=ks.map λk:Nat=>(k:Int)) (by rw[hm,mW]) (by simpa using hl) λb hb=>?_;rw[Gy,<-mW];exact h b hb
theorem XX (hm:m a=some (.tuple (ks.map vn))) (hl:ks.length < 64) (h:∀ b,m b=none->Q (.ref b) (m.set b (.list ((cN ks).map vn)))):∀ rs,aD rs [.ref a]->TR C n (call (.builtin "sorted") rs) m Q:=by
 refine M1 (ks:=ks.map λk:Nat=>(k:Int)) (by simpa using hl) (λA P s d R hr x k=>?_) λb hb=>?_
 .obtain ⟨ws,k',g,he,hi⟩:=x.isTup hm;have hwl:=he.length;rw[ak] at hwl;refine wpAny_collect_seq a (.inr rfl) g rfl rfl (λh' hk=>?_) (by rw[cV,hwl,dZ];exact zf (zl hl aI));exact k h' s.toks ws hk (by rw[<-mW];exact he)
 .rw[Gy,<-mW];exact h b hb
theorem Gd (hsys:(C.base.get? sysModules).isSome=true) (hm:m a=some (.dj es ep)) (hks:es.map (·.1)=ks.map λk:Nat=>(k:Int)) (hl:ks.length < 64) (h:∀ b,m b=none->Q (.ref b) (m.set b (.list ((cN ks).map vn)))):∀ rs,aD rs [.ref a]->TR C n (call (.builtin "sorted") rs) m Q:=by
 refine M1 (ks:=ks.map λk:Nat=>(k:Int)) (by simpa using hl) (λA P s d R hr x k=>?_) λb hb=>?_
 .obtain ⟨kvs,g1,g2,hlen⟩:=x.intD hm;have hel:es.length=ks.length:=by have:=congrArg ji hks;simpa using this
  refine kdu_collect (kdl_dict (knd:=intKind C.prog C.w) (kvs:=kvs) (ep:=ep) (x.pK hsys (by rw[hm];exact gm _))) hr.1 g1 (by rw[hlen,hel,dZ];exact zf (zl hl aI)) λh' tk acc hk hacc=>?_;show k h' tk acc.toList hk;have e1:kvs.map (·.1)=ks.map λk:Nat=>(k:Int):=by rw[<-hks];have:=congrArg (lO (·.1)) g2;simpa[vY] using this
  rw[<-e1];apply vZ;intro i;rw[bH,bH,bH,bH];by_cases hi:i < kvs.length
  .have h1:i < acc.toList.length:=by rw[BV,hacc.1];exact hi
   obtain ⟨k0,x0,hx,hk0⟩:=hacc.2 i acc.toList[i] (by rw[<-LQ];exact aH h1);obtain ⟨t,ht⟩:=Vz hk0;rw[hx,aH h1,ht];rfl
  .rw[jC (by rw[BV,hacc.1];exact zg hi),jC (zg hi)];rfl
 .rw[Gy,<-mW];exact h b hb
end
end
section
namespace Gr
variable (G:Gr)
noncomputable def gb:Nat->Nat->Nat
 | 0,_=>0
 | k+1,x=>if G.aq k=x then (match (G.ai k) with | []=>gb k x | y::_=>gb k x ||| 1 <<< y) else gb k x
theorem Nu:G.gb (k+1) x=if G.aq k=x then (match (G.ai k) with | []=>G.gb k x | y::_=>G.gb k x ||| 1 <<< y) else G.gb k x:=rfl
noncomputable def kX (x:Nat):Nat:=cA (G.gb G.R) G.N x
end Gr
noncomputable def rX (A:TA) (m:MH) (c:Addr) (g:GA) (G:Gr):Prop:=
 ∃ f,m c=some (.inst (A.cls 23) [("grammar",.ref g.g),("firsts",.ref f)])/\m f=some (.list ((aj G.N).map λx=>vn (G.kX x)))
theorem rX.le (h:rX A m c g G) (hl:m.le m'):rX A m' c g G:=by obtain ⟨f,h1,h2⟩:=h;exact ⟨f,hl _ _ h1,hl _ _ h2⟩
theorem CF (N:Nat) (v:V):iP N v=(aj N).map λ_=>v:=by apply List.ext_getElem<;>simp
theorem MH.ay {m:MH} {a b:Addr} {o o':O} (h:m b=some o) (hb:b≠a):m.set a o' b=some o:=by rw[MH.aC hb];exact h
theorem qO (f:Nat->V) (h:i < k):((aj k).map f).getD i V.none=f i:=by rw[bM,aW f h];rfl
theorem cy (e:v=w) (h:WG C n env t w loc m Q):WG C n env t v loc m Q:=e▸h
section
variable {C:Cx} {A:TA} {n:Nat} {m:MH} {Q:V->MH->Prop} {g:GA} {G:Gr}
theorem Xr {a:Addr} (T:aS C A) (o:G.Ok) (x:cU A m g G) (hn:4<=n) (ha:m a=none) (h:∀ m',m.le m'->rX A m' a g G->Q .none m') :
  FC C (A.bZ 23 0) n [.ref a,.ref g.g] (m.set a (.inst (A.cls 23) [])) Q:=by
 have hN:G.N<=8:=by have:=o.nT;have:=o.t5;exact dm (by assumption) (gQ this)
 ext C A n m Q g G a;refine dX T 23 0 "__init__" "Closer.__init__" ["self","grammar"] (eW hn) rfl (λenv ef=>?_) (by walk_at "bd2");k_is;ext env;show b7 T 23;lk;refine ⟨a,_,rfl,MH.af _ _ _,by decide,?_⟩;rw[MH.set_set];have l0:m.le (m.set a (.inst (A.cls 23) (cj "grammar" (.ref g.g) []))):=MH.av ha;generalize hm0:m.set a (.inst (A.cls 23) (cj "grammar" (.ref g.g) []))=m0 at l0 ⊢;have ha0:m0 a=some (.inst (A.cls 23) [("grammar",.ref g.g)]):=by rw[<-hm0,MH.af];rfl
 lk;clear hm0;ext m0;show bR;lk;refine ⟨by exact fF _,λc hc=>?_⟩;have l1:m0.le (m0.set c (.list [.int 0])):=MH.av hc;show cG T 9 1 "Grammar.symbol_count" (x.le (l0.trans l1)).self;lk;show CP T o (x.le (l0.trans l1)) (aK (bK hn));refine z9 (k:=G.N) (MH.af _ _ _) (zz hN aI) λb hb=>?_;rw[CF];have lb:∀ f,m0.le ((m0.set c (.list [.int 0])).set b (.list f)):=λf=>l1.trans (MH.av hb);generalize (m0.set c (.list [.int 0]))=m1 at lb hb l1 ⊢;lk;clear hb l1;ext b m1;refine kJ (uy ?_);show aA T 9 (x.le (l0.trans (lb _))).self;refine ⟨_,_,rfl,(x.le (l0.trans (lb _))).rules,?_⟩;rw[ak,aN];refine ⟨λ_ i L mm=>L=([("rows",.ref b),("self",.ref a),("grammar",.ref g.g)]:Loc)/\mm=m1.set b (.list ((aj G.N).map λx=>vn (G.gb i x))),kW,⟨_,by k_in,rfl,rfl⟩,?_,?_,?_⟩
 .rintro i L mm ⟨rfl,rfl⟩;exact (x.le (l0.trans (lb _))).rules
 .rintro i L mm hi aG;ext i L mm;show bO;intro QQ bP;ext QQ;obtain ⟨rfl,rfl⟩:=aG;have x':=x.le (l0.trans (lb (lO (λx=>vn (Gr.gb G i x)) (aj G.N))));obtain ⟨lv,d9⟩:=x'.rule;show cy (qO _ hi);show aM (ef.store ⋯);have Qc:G.aq i < G.N:=by
   have:=o.nT;by_cases q:i=0
   .subst q;rw[o.l0];exact dN jP this
   .rcases o.lN i (z0 q) hi with h | h<;>rw[h]<;>omega
  show ck;lk;show bY T ef.toC (by rfl);lk;show aA T 8 (d9 i hi);lk;show wc (x'.right i hi) (by have:=o.len i;rw[ak];exact zm this (ao rfl));rw[ak];lk;refine wU ⟨_,rfl,λhb'=>?_,λhb'=>?_⟩
  .have hp:0 < (G.ai i).length:=by simpa using hb'
   obtain ⟨y,r,xM⟩:∃ y r,G.ai i=y::r:=by
    cases q:G.ai i with
    | nil=>rw[q] at hp;simp at hp
    | cons y r=>exact ⟨y,r,rfl⟩
   have hy:y < G.N:=o.rN i y (by rw[xM];exact aZ);walk_at "set";lk;show aA T 8 (d9 i hi);show aJ (MH.af _ _ _) (aW _ Qc) (by simp;exact zm hN (ao rfl));lk;show aA T 8 (d9 i hi);lk;show lM (k:=0) (x'.right i hi) (by rw[xM];rfl) (by have:=o.len i;rw[ak];exact zm this (ao rfl));show wR (by exact Ip hN hy);show lX;lk;show aA T 8 (d9 i hi);show jE (MH.af _ _ _) (by simpa using Qc) (by simp;exact zm hN (ao rfl));rw[MH.set_set];subst bP;refine aX (fB _ (by k_in) ⟨rfl,?_⟩);rw[rW];congr 2;apply fD;intro z _;by_cases q:z=G.aq i
   .subst q;rw[if_pos rfl];show congrArg vn;change _=if G.aq i=G.aq i then _ else _;rw[if_pos rfl,xM]
   .rw[if_neg q];show congrArg vn;change _=if G.aq i=z then _ else _;rw[if_neg (λe=>q e.symm)]
  .have hp:G.ai i=[]:=by simpa using hb'
   subst bP;refine aX (fB _ (by k_in) ⟨rfl,?_⟩);congr 2;apply fD;intro z _;show congrArg vn;change _=if G.aq i=z then _ else _;rw[hp];simp
 .rintro L mm (⟨rfl,rfl⟩ | hB)
  .have lr:=lb (lO (λx=>vn (Gr.gb G G.R x)) (aj G.N));have ha2:=lr _ _ ha0;generalize hm2:m1.set b (.list ((aj G.N).map λx=>vn (G.gb G.R x)))=m2 at lr ha2 ⊢;have hb2:m2 b=some (.list ((aj G.N).map λx=>vn (G.gb G.R x))):=by rw[<-hm2,MH.af]
   show b7 T 23;show cF T ef.toC 19;lk;refine XW T (zf (eg hn)) hb2 (zm hN (ao rfl)) λf hf=>?_;lk;have jw:a≠f:=MH.aE ha2 hf;refine ⟨a,_,rfl,MH.ay ha2 jw,by exact of_decide_eq_true rfl,cX ?_⟩;refine h _ (((l0.trans lr).trans (MH.av hf)).set ha) ⟨f,MH.af _ _ _,?_⟩;rw[MH.aC (λe=>jw e.symm),MH.af];rfl
  .exact hB.elim
end
end
section
theorem take_snoc {α:Type} {l:List α} {i:Nat} {x:α} (h:l[i]? = some x):l.take (i+1)=l.take i++[x]:=by rw[List.take_add_one,h];rfl
theorem getD_get {l:List V} {i:Nat} {v:V} (h:l[i]? = some v):l.getD i V.none=v:=by rw[bM,h];rfl
theorem getD_map {α:Type} {f:α->V} {l:List α} {i:Nat} (h:i < l.length):(l.map f).getD i V.none=f l[i]:=by rw[bM,bH,aH h];rfl
theorem mL {α β:Type} {f:α->β} {l:List α} (h:l.Nodup) (hf:∀ x∈l,∀ y∈l,f x=f y->x=y):(l.map f).Nodup:=by unfold Nh;rw[yH];exact agP (λ{a b} ha hb hne e=>hne (hf a ha b hb e)) h
theorem v9 {α:Type} {p:α->Bool} {l:List α} (h:l.Nodup):(l.filter p).Nodup:=h.sublist Vi
theorem jM {l:List Nat} {N:Nat} (h:l.Nodup) (hb:∀ x∈l,x < N):l.length<=N:=by have:=h.length_le_of_subset (l₂:=aj N) (λx hx=>jV.mpr (hb x hx));simpa using this
theorem acv (h:∀ x,f x < 2 ^ N):∀ k x,cA f k x < 2 ^ N:=by
 intro l_;induction l_ with
 | zero=>
  intro x;exact h x
 | succ k ih=>
  intro x;change (if (cA f k x).testBit k then cA f k x ||| cA f k k else cA f k x) < _;split
  .exact rM (ih x) (ih k)
  .exact ih x
theorem Ge (h:y < N):1 <<< y < 2 ^ N:=by rw[B7];exact Nat.pow_lt_pow_right zx h
theorem Gz (h:mask < 2 ^ 60):k∈fY mask↔mask.testBit k=true:=by
 unfold fY;rw[fE,jV];refine ⟨λh=>h.2,λhb=>⟨?_,hb⟩⟩;by_cases q:k < 60
 .exact q
 .rw[LP (eZ h (vS j8 (zg q)))] at hb;cases hb
theorem MS (mask:Nat):(fY mask).Nodup:=v9 Mi
theorem YV (mask:Nat):(fY mask).length<=60:=by have:=kD mask.testBit (aj 60);assumption
namespace Gr
variable {G:Gr}
theorem qL (o:G.Ok) (h:r < G.R):G.aq r < G.N:=by
 have:=o.nT;by_cases q:r=0
 .subst q;rw[o.l0];exact dN jP this
 .rcases o.lN r (z0 q) h with h | h<;>rw[h]<;>omega
theorem N8 (o:G.Ok):G.N<=8:=by have:=o.nT;have:=o.t5;exact dm (by assumption) (gQ this)
theorem aaW (o:G.Ok):∀ k x,G.gb k x < 2 ^ G.N:=by
 intro l_;induction l_ with
 | zero=>
  intro x;exact yX j8
 | succ k iJ=>
  intro x;have ih:=iJ x;dsimp only[Nu];split
  .split
   .exact ih
   .rename_i y r e;exact rM ih (Ge (o.rN k y (by rw[e];exact aZ)))
  .exact ih
theorem acw (o:G.Ok) (x:Nat):G.kX x < 2 ^ G.N:=acv (aaW o G.R) _ _
variable (G)
noncomputable def lZ (k it:Nat):Nat:=match G.aY it with | some y=>k ||| 1 <<< y ||| G.kX y | none=>k
noncomputable def mh (ks:List Nat):Nat:=ks.foldl G.lZ 0
noncomputable def mj (ks:List Nat) (s:Nat):List Nat:=((fh G s).map λr=>G.item r 0).filter λit=>!decide (it∈ks)
noncomputable def nc (ks:List Nat):List Nat:=(fY (G.mh ks)).flatMap (G.mj ks)
noncomputable def bV (ks:List Nat):List Nat:=cN ks++cN (G.nc ks)
variable {G}
theorem uE (o:G.Ok) (h:G.aY it=some y):y < G.N:=by unfold aY at h;exact o.rN _ _ (bC h)
theorem aaX (o:G.Ok) (h:k < 2 ^ G.N):G.lZ k it < 2 ^ G.N:=by
 unfold lZ;split
 .rename_i y e;exact rM (rM h (Ge (uE o e))) (acw o y)
 .exact h
theorem Ou (o:G.Ok) (ks:List Nat):G.mh ks < 2 ^ G.N:=by
 unfold mh;have:∀ (l:List Nat) k,k < 2 ^ G.N->l.foldl G.lZ k < 2 ^ G.N:=by
  intro l;induction l with
  | nil=>intro k h;exact h
  | cons a l ih=>intro k h;exact ih _ (aaX o h)
 exact this ks 0 (yX j8)
theorem Cy (o:G.Ok) (ks:List Nat):G.mh ks < 2 ^ 60:=eZ (Ou o ks) (vS j8 (by have:=N8 o;exact zz this aI))
theorem uo:r∈fh G s↔r < G.R/\G.aq r=s:=by unfold fh;rw[fE,jV];simp
theorem MF (s:Nat):(fh G s).Nodup:=v9 Mi
theorem zI:it∈G.mj ks s↔it∉ks/\∃ r,r < G.R/\G.aq r=s/\it=G.item r 0:=by
 ext G ks s it;unfold mj;rw[fE,aQ];constructor
 .rintro ⟨⟨r,hr,rfl⟩,h⟩;obtain ⟨h1,h2⟩:=uo.mp hr;exact ⟨by simpa using h,r,h1,h2,rfl⟩
 .rintro ⟨h,r,h1,h2,rfl⟩;exact ⟨⟨r,uo.mpr ⟨h1,h2⟩,rfl⟩,by simpa using h⟩
theorem mQ (o:G.Ok):it∈G.nc ks↔it∉ks/\∃ r,r < G.R/\(G.mh ks).testBit (G.aq r)=true/\it=G.item r 0:=by
 ext G ks it;unfold nc;rw[nQ];constructor
 .rintro ⟨s,hs,h⟩;obtain ⟨h1,r,h2,h3,h4⟩:=zI.mp h;exact ⟨h1,r,h2,by rw[h3];exact (Gz (Cy o ks)).mp hs,h4⟩
 .rintro ⟨h1,r,h2,h3,h4⟩;exact ⟨_,(Gz (Cy o ks)).mpr h3,zI.mpr ⟨h1,r,h2,rfl,h4⟩⟩
theorem Hi (o:G.Ok) (h:it∈G.nc ks):it < G.M:=by obtain ⟨_,r,hr,_,rfl⟩:=(mQ o).mp h;exact r6 hr (bk _)
theorem M3 (ks:List Nat) (s:Nat):(G.mj ks s).Nodup:=by
 refine v9 (mL (MF s) λx hx y hy e=>?_);have hx:=(uo.mp hx).1;have hy:=(uo.mp hy).1;have:=congrArg G.aB e
 rwa [fO hx (bk _),fO hy (bk _)] at this
theorem Gf (ks:List Nat):(G.nc ks).Nodup:=by ext G ks;unfold nc Nh;rw[UX];refine ⟨λs _=>M3 ks s,(MS (G.mh ks)).imp λ{a b} hne x hx y hy e=>hne ?_⟩;obtain ⟨_,r,h1,h2,h3⟩:=zI.mp hx;obtain ⟨_,r',AY,h2',h3'⟩:=zI.mp hy;have:=congrArg G.aB (h3.symm.trans (e.trans h3'));rw[fO h1 (bk _),fO AY (bk _)] at this;rw[<-h2,<-h2',this]
theorem GQ (o:G.Ok) (ks:List Nat):(G.nc ks).length<=20:=aO (jM (Gf ks) λ_ h=>Hi o h) (n8 o)
end Gr
section
variable {C:Cx} {A:TA} {n:Nat} {m:MH} {Q:V->MH->Prop} {g:GA} {G:Gr} {c:Addr}
theorem Xs {k:Addr} {ks:List Nat} (T:aS C A) (o:G.Ok) (x:cU A m g G) (hc:rX A m c g G) (hn:3<=n) (hk:m k=some (.tuple (ks.map vn))) (hks:∀ it∈ks,it < G.M) (h:Q (vn (G.mh ks)) m):FC C (A.bZ 23 1) n [.ref c,.ref k] m Q:=by
 ext C A n m Q g G c k ks;obtain ⟨f,c1,c2⟩:=hc;have hN:=Gr.N8 o;ext f;refine dX T 23 1 "wanted" "Closer.wanted" ["self","kernel"] (eW hn) rfl (λenv ef=>?_) (by walk_at "bd2");k_is;lk;ext env;refine kJ (GI ?_);lk;refine ⟨_,_,rfl,hk,?_⟩;rw[ak];refine ⟨λ_ i L mm=>L=([("mask",vn ((ks.take i).foldl G.lZ 0)),("self",.ref c)]:Loc)/\mm=m,kW,⟨_,by k_in,rfl,rfl⟩,?_,?_,?_⟩
 .rintro i L mm ⟨rfl,rfl⟩;exact hk
 .rintro i L mm hi aG;ext i L mm;show bO;intro QQ bP;obtain ⟨rfl,rfl⟩:=aG;show cy (getD_map hi);show aM (ef.store ⋯);have hit:ks[i] < G.M:=hks _ (cW hi);have cD:(ks.take (i+1)).foldl G.lZ 0=G.lZ ((ks.take i).foldl G.lZ 0) ks[i]:=by rw[take_snoc (aH hi),jh];rfl
  lk;show kH T 9 9 "Grammar.after";refine aA T 23 c1 ⟨_,_,rfl,x.self,rfl,?_⟩;lk;show zH T o x (zf (eg hn)) hit;cases q:G.aY ks[i] with
  | none=>
   have e:G.ia ks[i]=-1:=by unfold Gr.ia;rw[q]
   rw[e];show ck;lk;refine uP ⟨_,rfl,λhb=>by exact mK hb,λ_=>?_⟩;subst bP;refine aX (fB [("mask",_),("self",.ref c)] (by k_in) ⟨?_,rfl⟩);rw[cD];unfold Gr.lZ;rw[q]
  | some y=>
   have e:G.ia ks[i]=(y:Nat):=by unfold Gr.ia;rw[q]
   have hy:=Gr.uE o q;rw[e];show ck;lk;refine uP ⟨_,rfl,λ_=>?_,λhb=>by exact mK hb⟩;lk;show wR (zf (zl hy (zz hN (zb rfl))));show lX;lk;show aA T 23 c1;lk;show aJ c2 (aW _ hy) (by simp;exact zm hN (ao rfl));show lX;subst bP;refine aX (fB [("mask",_),("self",.ref c)] (by k_in) ⟨?_,rfl⟩);rw[cD];unfold Gr.lZ;rw[q]
 .rintro L mm (⟨rfl,rfl⟩ | hB)
  .lk;rw[dW];exact h
  .exact hB.elim
theorem XY {k:Addr} {ks:List Nat} (T:aS C A) (o:G.Ok) (x:cU A m g G) (hc:rX A m c g G) (hn:4<=n) (hk:m k=some (.tuple (ks.map vn))) (hks:∀ it∈ks,it < G.M) (h:∀ m' b,m.le m'->m b=none->m' b=some (.list ((cN (G.nc ks)).map vn))->Q (.ref b) m'):FC C (A.bZ 23 2) n [.ref c,.ref k] m Q:=by
 ext C A n m Q g G c k ks;obtain ⟨f,c1,c2⟩:=id hc;have hN:=Gr.N8 o;have hM:=Gr.n8 o;refine dX T 23 2 "added" "Closer.added" ["self","kernel"] (eW hn) rfl (λenv ef=>?_) (by walk_at "bd2");k_is;lk;ext env;refine bR (cM ⟨by exact bk _,λa ha=>?_⟩);have l0:∀ xs,m.le (m.set a (.list xs)):=λxs=>MH.av ha;lk;ext a;refine kJ (uy ?_);show cF T ef.toC 4;lk;show cG T 23 1 "Closer.wanted" (l0 _ _ _ c1);lk;show Xs T o (x.le (l0 _)) (hc.le (l0 _)) (aK hn) (l0 _ _ _ hk) hks;lk;refine Nt T (zf (eg hn)) (Gr.Cy o ks) λb hb=>?_;ext b;refine ⟨_,_,rfl,MH.af _ _ _,?_⟩;rw[ak];have hab:a≠b:=MH.aE (MH.af m a _) hb;generalize hB:fY (G.mh ks)=B;have JH:B.length<=60:=by rw[<-hB];exact YV _
 have hBs:∀ s∈B,s < G.N:=λs hs=>by
  rw[<-hB,Gz (Gr.Cy o ks)] at hs;by_cases q:s < G.N
  .exact q
  .rw[LP (eZ (Gr.Ou o ks) (vS j8 (zg q)))] at hs;cases hs
 have hmb:m b=none:=(l0 _).new hb;refine ⟨λ_ i L mm=>L=([("found",.ref a),("self",.ref c),("kernel",.ref k)]:Loc)/\m.le mm/\mm b=some (.list (B.map vn))/\mm a=some (.list (((B.take i).flatMap (G.mj ks)).map vn)),kW,
  ⟨_,by k_in,rfl,(l0 _).trans (MH.av hb),MH.af _ _ _,MH.ay (MH.af _ _ _) hab⟩,?_,?_,?_⟩
 .rintro i L mm ⟨rfl,h1,h2,h3⟩;exact h2
 .rintro i L mm hi aG;show bO;intro QQ bP;obtain ⟨rfl,h1,h2,h3⟩:=aG;show cy (getD_map hi);show aM (ef.store ⋯);have hsl:=hBs _ (cW hi);have cD:(B.take (i+1)).flatMap (G.mj ks)=(B.take i).flatMap (G.mj ks)++G.mj ks B[i]:=by rw[take_snoc (aH hi),vX];simp
  have adj:∀ s,(G.mj ks s).length<=20:=λs=>aO (jM (Gr.M3 ks s) λit h=>by obtain ⟨_,r,hr,_,rfl⟩:=Gr.zI.mp h;exact Gr.r6 hr (bk _)) hM
  have Pp:((B.take i).flatMap (G.mj ks)).length<=20*i:=by
   have:∀ l:List Nat,(l.flatMap (G.mj ks)).length<=20*l.length:=by
    intro l;induction l with
    | nil=>exact bk _
    | cons s l ih=>rw[Mb,cQ,fM];exact kL (dO (adj s) ih) pZ
   have h2:=this (B.take i);have h3:(B.take i).length<=i:=E9 _ _;exact zz h2 (pX h3)
  generalize hP:(B.take i).flatMap (G.mj ks)=Pre at h3 cD Pp;refine kJ (uy ?_);show kH T 9 5 "Grammar.rules_of";refine aA T 23 (h1 _ _ c1) ⟨_,_,rfl,(x.le h1).self,rfl,?_⟩;lk;refine Mw T o (x.le h1) (aK (bK hn)) hsl λe he=>?_;refine ⟨_,_,rfl,MH.af _ _ _,?_⟩;rw[ak];have l1:mm.le (mm.set e (.list ((fh G B[i]).map vn))):=MH.av he;have hae:a≠e:=MH.aE h3 he;have hbe:b≠e:=MH.aE h2 he;have hme:m e=none:=h1.new he;have hma:m a=none:=ha;refine ⟨λ_ j L aF=>L=([("symbol",vn B[i]),("found",.ref a),("self",.ref c),("kernel",.ref k)]:Loc)/\m.le aF/\aF b=some (.list (B.map vn))/\aF e=some (.list ((fh G B[i]).map vn))/\
    aF a=some (.list ((Pre++(((fh G B[i]).take j).map λr=>G.item r 0).filter λit=>!decide (it∈ks)).map vn)),kW,⟨[("symbol",vn B[i]),("found",.ref a),("self",.ref c),("kernel",.ref k)],by k_in,rfl,h1.trans l1,l1 _ _ h2,MH.af _ _ _,by simpa using l1 _ _ h3⟩,?_,?_,?_⟩
  .rintro j L aF ⟨rfl,q1,q2,q3,q4⟩;exact q3
  .rintro j L aF hj aG;show bO;intro QQ bT;obtain ⟨rfl,q1,q2,q3,q4⟩:=aG;show cy (getD_map hj);show aM (ef.store ⋯);have hr:=(Gr.uo.mp (cW hj)).1;have Qd:((fh G B[i]).take (j+1)).map (λr=>G.item r 0)=((fh G B[i]).take j).map (λr=>G.item r 0)++[G.item (fh G B[i])[j] 0]:=by rw[take_snoc (aH hj),aV];rfl
   lk;show kH T 9 6 "Grammar.item";refine aA T 23 (q1 _ _ c1) ⟨_,_,rfl,(x.le q1).self,rfl,?_⟩;lk;show zA (d:=0) T o (x.le q1) (aK (bK hn)) hr;show ck;lk;refine YR (ks:=ks.map λk:Nat=>(k:Int)) (by rw[<-mW];exact q1 _ _ hk) ⟨_,rfl,?_⟩;have em:decide (((G.item (fh G B[i])[j] 0:Nat):Int)∈ks.map λk:Nat=>(k:Int))=decide (G.item (fh G B[i])[j] 0∈ks):=by
    rw[decide_eq_decide,aQ];constructor
    .rintro ⟨z,hz,e⟩;have:z=G.item (fh G B[i])[j] 0:=oz e;rw[<-this];exact hz
    .intro hz;exact ⟨_,hz,rfl⟩
   rw[em];have hfl:((((fh G B[i]).take j).map λr=>G.item r 0).filter λit=>!decide (it∈ks)).length<=60:=by have z1:=kD (λit=>!decide (it∈ks)) (((fh G B[i]).take j).map λr=>G.item r 0);have z2:(fh G B[i]).length<=20:=aO (jM (Gr.MF _) λr h=>(Gr.uo.mp h).1) (by have:=o.r5;exact zz this aI);have z3:=E9 j (fh G B[i]);rw[ak] at z1;exact zz z1 (zz z3 (zz (zf hj) (zz z2 (yy rfl:20<=60))))
   refine ⟨λhb'=>?_,λhb'=>?_⟩
   .refine gu (eB gn lE lF ?_);lk;refine ⟨gG q4,?_⟩;lk;show kG q4 (by rw[ak,cQ];exact zm (dO (zz Pp (pX (zz (zf hi) JH))) hfl) (ao rfl));subst bT;refine aX (fB _ (by k_in) ⟨rfl,q1.set ha,MH.ay q2 hab.symm,MH.ay q3 hae.symm,?_⟩);rw[MH.af,Qd,jU,oX];simp only[hb'];simp
   .subst bT;refine aX (fB _ (by k_in) ⟨rfl,q1,q2,q3,?_⟩);rw[q4,Qd,jU,oX];simp only[hb'];simp
  .rintro L aF (⟨rfl,q1,q2,q3,q4⟩ | qX)
   .rw[dW] at q4;subst bP;refine fB [("found",.ref a),("self",.ref c),("kernel",.ref k)] (by k_in) ⟨rfl,q1,q2,?_⟩;rw[q4,cD];rfl
   .exact qX.elim
 .rintro L mm (⟨rfl,h1,h2,h3⟩ | qX)
  .rw[dW] at h3;lk;show bY T ef.toC (by rfl);lk;have e0:B.flatMap (G.mj ks)=G.nc ks:=by rw[<-hB];rfl
   rw[e0] at h3;refine Ct h3 (by have:=Gr.GQ o ks;exact zm this (ao rfl)) λd hd=>?_;exact h _ d (h1.trans (MH.av hd)) (h1.new hd) (MH.af _ _ _)
  .exact qX.elim
theorem XZ (T:aS C A) (o:G.Ok) (x:cU A m g G) (hc:rX A m c g G) (hn:5<=n) (hk:m k=some (.tuple (ks.map vn))) (hks:∀ it∈ks,it < G.M) (dQ:ks.length < 64) (h:∀ m' b,m.le m'->m b=none->m' b=some (.list ((G.bV ks).map vn))->Q (.ref b) m'):FC C (A.bZ 23 3) n [.ref c,.ref k] m Q:=by obtain ⟨f,c1,c2⟩:=id hc;refine dX T 23 3 "close" "Closer.close" ["self","kernel"] (eW hn) rfl (λenv ef=>?_) (by walk_at "bd2");k_is;lk;show bY T ef.toC (by rfl);lk;refine XX hk dQ λa ha=>?_;have l0:m.le (m.set a (.list ((cN ks).map vn))):=MH.av ha;show cG T 23 2 "Closer.added" (l0 _ _ c1);lk;refine XY T o (x.le l0) (hc.le l0) (aK hn) (l0 _ _ hk) hks λm' b l1 hb hm'=>?_;refine mV (l1 _ _ (MH.af _ _ _)) hm' (by rw[ak,ak,pA,pA];exact zm (dO (zf dQ) (Gr.GQ o ks)) (ao rfl)) λd hd=>?_;show h _ d ((l0.trans l1).trans (MH.av hd)) ((l0.trans l1).new hd);rw[MH.af,<-aV];rfl
end
end
section
section
variable {C:Cx} {A:TA} {n:Nat} {env:Env} {loc:Loc} {m:MH}
noncomputable def Aj (L:Loc) (P:MH->Prop) (B:MH->Prop) (Q:Fl->Loc->MH->Prop):Fl->Loc->MH->Prop
 | .next,l,m=>Sub L l/\P m
 | .cont,l,m=>Sub L l/\P m
 | .brk,l,m=>Sub L l/\B m
 | .ret v,l,m=>Q (.ret v) l m
theorem br (hs:Sub L loc) (h:P m):WS C n env [] loc m (Aj L P B Q):=cX ⟨hs,h⟩
theorem dw (L:Nat->Loc) (P:Nat->MH->Prop)
  (h:WI C n env iter loc m λlen item cond m1=>Sub (L 0) loc/\P 0 m1/\(∀ i mm,P i mm->cond mm)/\
   (∀ i mm,i < len->P i mm->WG C n env target (item i) (L i) mm λl' m'=>WS C n env body l' m' (Aj (L (i+1)) (P (i+1)) (λ_=>False) Q))/\
   (∀ mm,P len mm->WS C n env rest (L len) mm Q))
  (hs:∀ x,foldedSetIterable iter env x=pure x:=by walk_at "ir"):WS C n env (.For target iter body [] pos::rest) loc m Q:=by
 refine kJ (λP' A s R hr x kk=>h P' A s R hr x λlen item cond St ob m1 s1 d t src x1 hS hf hK=>kk len item cond St ob m1 s1 d t src x1 hS hf ?_) hs;obtain ⟨k0,k1,k2,k3,k4⟩:=hK;refine ⟨λ_ i l mm=>l=L i/\P i mm,kW,⟨L 0,k0,rfl,k1⟩,λi l mm hp=>k2 i mm hp.2,?_,?_⟩
 .rintro i l mm hi ⟨rfl,hp⟩;intro r hr' P' A s R hR x kk;refine k3 i mm hi hp r hr' P' A s R hR x λl' m' s' x' hw=>kk l' m' s' x' (hw.mono λf l2 m2 q=>?_);cases f with
  | next=>exact ⟨_,q.1,rfl,q.2⟩
  | cont=>exact ⟨_,q.1,rfl,q.2⟩
  | brk=>exact q.2.elim
  | ret v=>exact q
 .rintro l mm (⟨rfl,hp⟩ | hB)
  .exact k4 mm hp
  .exact hB.elim
theorem pH
  (h:WI C n env iter loc m λlen item cond m1=>∃ (L:Nat->Loc) (P:Nat->MH->Prop),Sub (L 0) loc/\P 0 m1/\(∀ i mm,P i mm->cond mm)/\
   (∀ i mm,i < len->P i mm->WG C n env target (item i) (L i) mm λl' m'=>WS C n env body l' m' (Aj (L (i+1)) (P (i+1)) (λ_=>False) Q))/\
   (∀ mm,P len mm->WS C n env rest (L len) mm Q))
  (hs:∀ x,foldedSetIterable iter env x=pure x:=by walk_at "ir"):WS C n env (.For target iter body [] pos::rest) loc m Q:=by
 refine kJ (λP' A s R hr x kk=>h P' A s R hr x λlen item cond St ob m1 s1 d t src x1 hS hf hK=>kk len item cond St ob m1 s1 d t src x1 hS hf ?_) hs;obtain ⟨L,P,k0,k1,k2,k3,k4⟩:=hK;refine ⟨λ_ i l mm=>l=L i/\P i mm,kW,⟨L 0,k0,rfl,k1⟩,λi l mm hp=>k2 i mm hp.2,?_,?_⟩
 .rintro i l mm hi ⟨rfl,hp⟩;intro r hr' P' A s R hR x kk;refine k3 i mm hi hp r hr' P' A s R hR x λl' m' s' x' hw=>kk l' m' s' x' (hw.mono λf l2 m2 q=>?_);cases f with
  | next=>exact ⟨_,q.1,rfl,q.2⟩
  | cont=>exact ⟨_,q.1,rfl,q.2⟩
  | brk=>exact q.2.elim
  | ret v=>exact q
 .rintro l mm (⟨rfl,hp⟩ | hB)
  .exact k4 mm hp
  .exact hB.elim
theorem aaY (L:Nat->Loc) (P:Nat->MH->Prop) (LB:Loc) (B:MH->Prop)
  (h:WI C n env iter loc m λlen item cond m1=>Sub (L 0) loc/\P 0 m1/\(∀ i mm,P i mm->cond mm)/\
   (∀ i mm,i < len->P i mm->WG C n env target (item i) (L i) mm λl' m'=>WS C n env body l' m' (λf l m=>match f with
    | .next=>Sub (L (i+1)) l/\P (i+1) m
    | .cont=>Sub (L (i+1)) l/\P (i+1) m
    | .brk=>Sub LB l/\B m
    | .ret v=>Q (.ret v) l m))/\
   (∀ mm,P len mm->WS C n env rest (L len) mm Q)/\(∀ mm,B mm->WS C n env rest LB mm Q))
  (hs:∀ x,foldedSetIterable iter env x=pure x:=by walk_at "ir"):WS C n env (.For target iter body [] pos::rest) loc m Q:=by
 ext C n env loc m target iter body pos rest Q L P LB B;refine kJ (λP' A s R hr x kk=>h P' A s R hr x λlen item cond St ob m1 s1 d t src x1 hS hf hK=>kk len item cond St ob m1 s1 d t src x1 hS hf ?_) hs;obtain ⟨k0,k1,k2,k3,k4,k5⟩:=hK;refine ⟨λ_ i l mm=>l=L i/\P i mm,λl mm=>l=LB/\B mm,⟨L 0,k0,rfl,k1⟩,λi l mm hp=>k2 i mm hp.2,?_,?_⟩
 .rintro i l mm hi ⟨rfl,hp⟩;intro r hr' P' A s R hR x kk;refine k3 i mm hi hp r hr' P' A s R hR x λl' m' s' x' hw=>kk l' m' s' x' (hw.mono λf l2 m2 q=>?_);cases f with
  | next=>exact ⟨_,q.1,rfl,q.2⟩
  | cont=>exact ⟨_,q.1,rfl,q.2⟩
  | brk=>exact ⟨_,q.1,rfl,q.2⟩
  | ret v=>exact q
 .rintro l mm (⟨rfl,hp⟩ | ⟨rfl,hB⟩)
  .exact k4 mm hp
  .exact k5 mm hB
theorem cC {α:Type} {iter:Expr} {K:Nat->(Nat->V)->(MH->Prop)->MH->Prop} (f:α->V) (l:List α) (h:WE C n env iter loc m λv m1=>∃ a,v=.ref a/\m1 a=some (.list (l.map f))/\K l.length (λi=>(l.map f).getD i .none) (λm=>m a=some (.list (l.map f))) m1):WI C n env iter loc m K:=
 uy (h.mono λv m1 z_=>by obtain ⟨a,h1,h2,h3⟩:=z_;exact ⟨a,_,h1,h2,by rw[ak];exact h3⟩)
theorem Cz {α:Type} {iter:Expr} {K:Nat->(Nat->V)->(MH->Prop)->MH->Prop} (f:α->V) (l:List α) (h:WE C n env iter loc m λv m1=>∃ a,v=.ref a/\m1 a=some (.tuple (l.map f))/\K l.length (λi=>(l.map f).getD i .none) (λm=>m a=some (.tuple (l.map f))) m1):WI C n env iter loc m K:=
 GI (h.mono λv m1 z_=>by obtain ⟨a,h1,h2,h3⟩:=z_;exact ⟨a,_,h1,h2,by rw[ak];exact h3⟩)
theorem lJ {sc:Scope} {K:Nat->(Nat->V)->(MH->Prop)->MH->Prop} {e:Expr} {p rp:Pos} (T:aS C A) (ec:g9 env sc) (h:WE C n env e loc m λv m1=>∃ k:Nat,v=.int k/\k < 2 ^ 40/\K k (λi=>.int (i:Nat)) (λ_=>True) m1) (hk:sc.names.lookup ("range" : Str)=some .globalImplicit:=by rfl)
  (hse:starEach [e] env=[(false,eval e env)]:=by rfl):WI C n env (.Call (.Name "range" p) [e] [] rp) loc m K:=GJ (ec.kind _ _ hk (by decide)) (T.bi _ (by decide)) h hse
theorem iV (hm:∃ xs,m a=some (.list xs))
  (h:WE C n env e loc m λv m1=>∃ xs,m1 a=some (.list xs)/\xs.length < 2 ^ 20/\WS C n env ss loc (m1.set a (.list (xs++[v]))) Q) (hv:loc.lookup y=some (.ref a):=by rfl)
  (he:∀ env,starEach [e] env=[(false,eval e env)]:=by walk_at "ir") (hs:swapsWith (.Call (.Attribute (.Name y p) "append" apos) [e] [] pos) none epos.line env=pure false:=by rfl)
  (hs1:(backTo pos (starEach [e] env)).any (·.1)=false:=by rfl)
  (hbase:attributeBase (.Name y p) "append" env (eval (.Name y p) env)=eval (.Name y p) env:=by rfl) (hline:(apos.endLine==pos.line)=true:=by rfl)
  (hfew:((backTo pos (starEach [e] env)).all (λx=>!x.1)&&(backToKw pos (keywordEach [] env)).all (λx=>x.1.isSome)&&decide ([e].length+([]:List Keyword).length+(if ([]:List Keyword).isEmpty then 0 else 1) < 30))=true:=by rfl)
  (hd:(y==("__debug__" : Str))=false:=by decide) (hcd:(y==("__classdict__" : Str))=false:=by decide) :
  WS C n env (.Expr (.Call (.Attribute (.Name y p) "append" apos) [e] [] pos) epos::ss) loc m Q:=by
 obtain ⟨xs0,hm⟩:=hm;refine gu (eB gn lE lF (ux hv ⟨gG hm,dI (h.mono λv m1 z_=>by obtain ⟨xs,h1,h2,h3⟩:=z_;exact cM λr rs hr hrs=>kG h1 h2 h3 r rs hr hrs) he⟩ hd hcd) (XJ he) hs1 hbase hline hfew) hs
end
end
section
namespace Gr
variable (G:Gr)
noncomputable def jo (its:List Nat):List Nat:=(its.filter λit=>decide (G.aY it=none)&&!decide (G.aB it=0)).map G.aB
noncomputable def ng (acc:List Nat) (it:Nat):List Nat:=match G.aY it with | some y=>if y∈acc then acc else acc++[y] | none=>acc
noncomputable def syms (its:List Nat):List Nat:=its.foldl G.ng []
noncomputable def gc (its:List Nat) (s:Nat):List Nat:=(its.filter λit=>decide (G.aY it=some s)).map (·+ 1)
variable {G}
theorem NU:y∈G.ng acc it↔y∈acc\/G.aY it=some y:=by
 ext G acc it y;unfold ng;split
 .rename_i z e;split
  .rename_i h;constructor
   .exact .inl
   .rintro (h' | h')
    .exact h'
    .rw[e] at h';cases h';exact h
  .rw[bN,bQ,e];simp[eq_comm]
 .rename_i e;simp[e]
theorem Yb (h:acc.Nodup):(G.ng acc it).Nodup:=by
 unfold ng;split
 .split
  .exact h
  .rename_i y _ hy;rw[lG];exact ⟨h,by exact of_decide_eq_true rfl,λa ha b hb e=>hy (by rw[bQ] at hb;rw[<-hb,<-e];exact ha)⟩
 .exact h
theorem GR:y∈G.syms its↔∃ it∈its,G.aY it=some y:=by
 ext G its y;unfold syms;have:∀ (l acc:List Nat),y∈l.foldl G.ng acc↔y∈acc\/∃ it∈l,G.aY it=some y:=by
  intro l;induction l with
  | nil=>intro acc;simp
  | cons a l ih=>intro acc;rw[nV,ih,NU];simp[or_assoc]
 rw[this];simp
theorem za (its:List Nat):(G.syms its).Nodup:=by
 unfold syms;have:∀ (l acc:List Nat),acc.Nodup->(l.foldl G.ng acc).Nodup:=by
  intro l;induction l with
  | nil=>intro acc h;exact h
  | cons a l ih=>intro acc h;exact ih _ (Yb h)
 exact this its [] (by simp)
theorem aaZ (o:G.Ok) (h:y∈G.syms its):y < G.N:=by obtain ⟨it,_,e⟩:=GR.mp h;exact uE o e
theorem CG (o:G.Ok) (its:List Nat):(G.syms its).length<=8:=aO (jM (za its) λ_ h=>aaZ o h) (N8 o)
theorem YW (l:List Nat) (it:Nat):G.syms (l++[it])=G.ng (G.syms l) it:=by unfold syms;rw[jh];rfl
theorem YX (l:List Nat) (it s:Nat):G.gc (l++[it]) s=if G.aY it=some s then G.gc l s++[it+1] else G.gc l s:=by unfold gc;rw[jU,oX];by_cases q:G.aY it=some s<;>simp[q]
theorem JI (h:it < G.M) (ha:G.aY it≠none):G.item (G.aB it) (G.dot it+1)=it+1:=by have:=jJ h;unfold item at *;exact aeb this
theorem aa0 (o:G.Ok) (hi:∀ it∈its,it < G.M) (h:it∈G.gc its s):it < G.M:=by
 unfold gc at h;obtain ⟨x,hx,rfl⟩:=aQ.mp h;obtain ⟨h1,h2⟩:=fE.mp hx;have h2:G.aY x=some s:=by simpa using h2
 have hx':=hi x h1;rw[<-JI hx' (by rw[h2];exact gm _)];unfold aY at h2;exact r6 (iU hx') (by obtain ⟨q,_⟩:=bU.mp h2;exact q)
theorem NV (its:List Nat) (s:Nat):(G.gc its s).length<=its.length:=by unfold gc;rw[ak];exact kD _ _
theorem GS (its:List Nat):(G.jo its).length<=its.length:=by unfold jo;rw[ak];exact kD _ _
theorem YY (l:List Nat) (it:Nat):G.jo (l++[it])=if G.aY it=none/\G.aB it≠0 then G.jo l++[G.aB it] else G.jo l:=by unfold jo;rw[jU,oX];by_cases q:G.aY it=none<;>by_cases q2:G.aB it=0<;>simp[q,q2]
end Gr
section
variable {C:Cx} {A:TA} {n:Nat} {m:MH} {Q:V->MH->Prop} {g:GA} {G:Gr}
theorem Wz (T:aS C A) (o:G.Ok) (x:cU A m g G) (hn:2<=n) (hi:it < G.M) (ha:G.aY it≠none) (h:Q (vn (it+1)) m):FC C (A.f 24) n [.ref g.g,vn it] m Q:=by refine eG T 24 "advanced" ["grammar","item"] (zf hn) rfl (λenv ef=>?_) (by walk_at "bd2");k_is;lk;show cG T 9 6 "Grammar.item" x.self;lk;show cG T 9 7 "Grammar.rule_of" x.self;lk;show rV T o x (aK hn) hi;lk;show cG T 9 8 "Grammar.dot_of" x.self;lk;show CE T o x (aK hn) hi;lk;show lP;lk;show zA T o x (aK hn) (Gr.iU hi);rw[Gr.JI hi ha];exact h
theorem WB (T:aS C A) (o:G.Ok) (x:cU A m g G) (hn:2<=n) (hk:m k=some (.list (its.map vn))) (hks:∀ it∈its,it < G.M) (dQ:its.length < 64) (h:∀ m' b,m.le m'->m b=none->m' b=some (.list ((cN (G.jo its)).map vn))->Q (.ref b) m'):FC C (A.f 26) n [.ref g.g,.ref k] m Q:=by
 ext C A n m Q g G k its;refine eG T 26 "complete_rules" ["grammar","items"] (zf hn) rfl (λenv ef=>?_) (by walk_at "bd2");k_is;lk;ext env;refine bR (cM ⟨by exact bk _,λa ha=>?_⟩);lk;ext a;refine dw (λ_=>[("found",.ref a),("grammar",.ref g.g),("items",.ref k)]) (λi mm=>m.le mm/\mm a=some (.list ((G.jo (its.take i)).map vn))) (cC vn its ?_);lk;refine ⟨k,rfl,MH.av ha _ _ hk,by k_in,⟨MH.av ha,MH.af _ _ _⟩,λi mm hp=>hp.1 _ _ hk,?_,?_⟩
 .rintro i mm hi ⟨h1,h2⟩;ext i mm;refine cy (getD_map hi) (aM (ef.store ⋯) ?_);have hit:=hks _ (cW hi);have vf:(G.jo (its.take i)).length < 64:=by have:=Gr.GS (G:=G) (its.take i);have:=rK i its;exact zm (by assumption) (zm this dQ)
  have cD:=Gr.YY (G:=G) (its.take i) its[i];rw[<-take_snoc (aH hi)] at cD;have x':=x.le h1;have fin:∀ aF,m.le aF->aF a=some (.list ((G.jo (its.take (i+1))).map vn))->WS C (n - 1) env [] [("item",vn its[i]),("found",.ref a),("grammar",.ref g.g),("items",.ref k)] aF (Aj [("found",.ref a),("grammar",.ref g.g),("items",.ref k)] (λmm=>m.le mm/\mm a=some (.list ((G.jo (its.take (i+1))).map vn))) (λ_=>False) (uL Q)):=
   λaF q1 q2=>br (by k_in) ⟨q1,q2⟩
  refine ck (qJ ?_);lk;show cG T 9 9 "Grammar.after" x'.self;lk;show zH T o x' (aK hn) hit;cases q:G.aY its[i] with
  | some y=>
   have e:G.ia its[i]=(y:Nat):=by unfold Gr.ia;rw[q]
   rw[e];lk;refine As ⟨_,rfl,?_⟩;rw[decide_eq_false vd];simp only[cP,if_false];refine ⟨λhb=>by simp at hb,λ_=>?_⟩;rw[q] at cD;exact aX (fin _ h1 (by rw[h2,cD];rfl))
  | none=>
   have e:G.ia its[i]=-1:=by unfold Gr.ia;rw[q]
   rw[e];lk;refine As ⟨_,rfl,?_⟩;simp only[show decide ((-1:Int) < 0)=true by decide,if_true];lk;show cG T 9 7 "Grammar.rule_of" x'.self;lk;show rV T o x' (aK hn) hit;lk;refine Po ⟨_,rfl,λhb=>?_,λhb=>?_⟩
   .have hb:G.aB its[i]≠0:=by simpa using hb
    show iV ⟨_,h2⟩;show cG T 9 7 "Grammar.rule_of" x'.self;lk;refine rV T o x' (aK hn) hit ⟨_,h2,by rw[ak];exact zl vf aI,?_⟩;refine aX (fin _ (h1.set ha) ?_);rw[MH.af,cD,q,if_pos ⟨rfl,hb⟩,aV];rfl
   .have hb:G.aB its[i]=0:=by simpa using hb
    refine aX (fin _ h1 ?_);rw[h2,cD,hb];simp
 .rintro mm ⟨h1,h2⟩;rw[dW] at h2;lk;show bY T ef.toC (by rfl);lk;refine Ct h2 (by have:=Gr.GS (G:=G) its;exact zm this dQ) λd hd=>?_;exact h _ d (h1.trans (MH.av hd)) (h1.new hd) (MH.af _ _ _)
theorem W2 (T:aS C A) (hn:2<=n) (ha:m a=none) (h:∀ m' i mv rd,m.le m'->m i=none->m mv=none->m rd=none->i≠rd->m' a=some (.inst (A.cls 22) [("number",vn num),("kernel",.ref k),("symbol",.int sym),("items",.ref i),("moves",.ref mv),("reductions",.ref rd)])->
   m' i=some (.list [])->m' mv=some (.dj [] 0)->m' rd=some (.list [])->(∀ b,b≠a->b≠i->b≠mv->b≠rd->m' b=m b)->Q .none m') :
  FC C (A.bZ 22 0) n [.ref a,vn num,.ref k,.int sym] (m.set a (.inst (A.cls 22) [])) Q:=by
 ext C A n m Q a k num sym;refine dX T 22 0 "__init__" "LrState.__init__" ["self","number","kernel","symbol"] (zf hn) rfl (λenv ef=>?_) (by walk_at "bd4");k_is;clear ef;ext env;show b7 T 22;lk;refine ⟨a,_,rfl,MH.af _ _ _,by simp,?_⟩;have e1:cj "number" (vn num) ([]:Loc)=([("number",vn num)]:Loc):=rfl;rw[e1];show b7 T 22;lk;refine ⟨a,_,rfl,MH.af _ _ _,by exact of_decide_eq_true rfl,?_⟩;have e2:cj "kernel" (.ref k) ([("number",vn num)]:Loc)=([("number",vn num),("kernel",.ref k)]:Loc):=rfl;rw[e2];show b7 T 22;lk;refine ⟨a,_,rfl,MH.af _ _ _,by exact of_decide_eq_true rfl,?_⟩;have e3:cj "symbol" (.int sym) ([("number",vn num),("kernel",.ref k)]:Loc)=([("number",vn num),("kernel",.ref k),("symbol",.int sym)]:Loc):=rfl;rw[e3];simp only[MH.set_set];show b7 T 22;refine bR (cM ⟨by simp,λi hi=>?_⟩);have mD:a≠i:=MH.aE (MH.af m a _) hi;lk;ext i;refine ⟨a,_,rfl,MH.ay (MH.af _ _ _) mD,by exact of_decide_eq_true rfl,?_⟩;have e4:cj "items" (.ref i) ([("number",vn num),("kernel",.ref k),("symbol",.int sym)]:Loc)=([("number",vn num),("kernel",.ref k),("symbol",.int sym),("items",.ref i)]:Loc):=rfl;rw[e4];show b7 T 22;refine qH (.dj [] 0) (.inl rfl) λmv D3=>?_;have xN:a≠mv:=MH.aE (MH.af _ a _) D3;have JJ:i≠mv:=MH.aE (MH.ay (MH.af _ i _) mD.symm) D3;lk;ext mv;refine ⟨a,_,rfl,MH.ay (MH.af _ _ _) xN,by exact of_decide_eq_true rfl,?_⟩;have e5:cj "moves" (.ref mv) ([("number",vn num),("kernel",.ref k),("symbol",.int sym),("items",.ref i)]:Loc)=([("number",vn num),("kernel",.ref k),("symbol",.int sym),("items",.ref i),("moves",.ref mv)]:Loc):=rfl;rw[e5];show b7 T 22;refine bR (cM ⟨by simp,λrd hrd=>?_⟩);have qg:a≠rd:=MH.aE (MH.af _ a _) hrd;have R3:mv≠rd:=MH.aE (MH.ay (MH.af _ mv _) xN.symm) hrd;have AZ:i≠rd:=MH.aE (MH.ay (MH.ay (MH.ay (MH.af _ i _) mD.symm) JJ) mD.symm) hrd;lk;ext rd;refine ⟨a,_,rfl,MH.ay (MH.af _ _ _) qg,by exact of_decide_eq_true rfl,?_⟩;have e6:cj "reductions" (.ref rd) ([("number",vn num),("kernel",.ref k),("symbol",.int sym),("items",.ref i),("moves",.ref mv)]:Loc)=([("number",vn num),("kernel",.ref k),("symbol",.int sym),("items",.ref i),("moves",.ref mv),("reductions",.ref rd)]:Loc):=rfl;rw[e6];have n1:m i=none:=by rw[MH.aC mD.symm] at hi;exact hi
 have n2:m mv=none:=by rw[MH.aC xN.symm,MH.aC JJ.symm,MH.aC xN.symm] at D3;exact D3
 have n3:m rd=none:=by rw[MH.aC qg.symm,MH.aC R3.symm,MH.aC qg.symm,MH.aC AZ.symm,MH.aC qg.symm] at hrd;exact hrd
 refine cX (h _ i mv rd ?_ n1 n2 n3 AZ (MH.af _ _ _) ?_ ?_ ?_ λb q1 q2 q3 q4=>?_)
 .intro b ob hb;have q1:b≠a:=MH.aE hb ha;have q2:b≠i:=MH.aE hb n1;have q3:b≠mv:=MH.aE hb n2;have q4:b≠rd:=MH.aE hb n3;rw[MH.aC q1,MH.aC q4,MH.aC q1,MH.aC q3,MH.aC q1,MH.aC q2,MH.aC q1];exact hb
 .rw[MH.aC mD.symm,MH.aC AZ,MH.aC mD.symm,MH.aC JJ,MH.aC mD.symm,MH.af]
 .rw[MH.aC xN.symm,MH.aC R3,MH.aC xN.symm,MH.af]
 .rw[MH.aC qg.symm,MH.af]
 .rw[MH.aC q1,MH.aC q4,MH.aC q1,MH.aC q3,MH.aC q1,MH.aC q2,MH.aC q1]
end
end
section
theorem zJ (f:Nat->V) (l:List Nat) (y:Nat):fQ (l.map λs:Nat=>((s:Int),f s)) (y:Int)=if y∈l then some (f y) else none:=by
 ext f l y;unfold fQ;induction l with
 | nil=>rfl
 | cons a l ih=>
  rw[bq,rP];by_cases q:a=y
  .subst q;simp
  .have:¬ ((a:Int)=(y:Int)):=λh=>q (oz h);have q':¬ y=a:=λe=>q e.symm;simp only[this,decide_false];rw[ih];simp[q']
theorem GU (f:Nat->V) (l:List Nat) (y:Nat) (v:V) (h:y∉l):putK (l.map λs:Nat=>((s:Int),f s)) (y:Int) v=l.map (λs:Nat=>((s:Int),f s))++[((y:Int),v)]:=by
 unfold putK;rw[if_neg];rw[F2,Mh];rintro ⟨z,hz,e⟩;have:(z:Int)=y:=by simpa using e
 have:z=y:=oz this;exact h (this▸hz)
section
variable {C:Cx} {A:TA} {n:Nat} {m:MH} {Q:V->MH->Prop} {g:GA} {G:Gr}
noncomputable def aa1 (G:Gr) (m0:MH) (fa:Addr) (its:List Nat) (mm:MH):Prop:=
 ∃ (ad:Nat->Addr) (ep:Nat),mm fa=some (.dj ((G.syms its).map λs:Nat=>((s:Int),V.ref (ad s))) ep)/\(∀ s∈G.syms its,mm (ad s)=some (.list ((G.gc its s).map vn))/\m0 (ad s)=none)/\∀ s∈G.syms its,∀ t∈G.syms its,ad s=ad t->s=t
theorem Xu (T:aS C A) (o:G.Ok) (x:cU A m g G) (hn:4<=n) (hk:m k=some (.list (its.map vn))) (hks:∀ it∈its,it < G.M) (dQ:its.length < 64) (h:∀ m' b ep (tp:Nat->Addr),m.le m'->m b=none->m' b=some (.dj ((cN (G.syms its)).map λs:Nat=>((s:Int),V.ref (tp s))) ep)->(∀ s∈G.syms its,m' (tp s)=some (.tuple ((cN (G.gc its s)).map vn))/\m (tp s)=none)->Q (.ref b) m'):FC C (A.f 25) n [.ref g.g,.ref k] m Q:=by
 ext C A n m Q g G k its;refine eG T 25 "kernels_behind" ["grammar","items"] (eW hn) rfl (λenv ef=>?_) (by walk_at "bd2");k_is;ext env;show fN (ef.store ⋯);refine qH (.dj [] 0) (.inl rfl) λfa jw=>?_;have hN:=Gr.N8 o;ext fa;refine dw (λ_=>[("found",.ref fa),("grammar",.ref g.g),("items",.ref k)]) (λi mm=>m.le mm/\aa1 G m fa (its.take i) mm) (cC vn its ?_);lk;refine ⟨k,rfl,MH.av jw _ _ hk,by k_in,⟨MH.av jw,λ_=>0,0,MH.af _ _ _,λs hs=>by simp[Gr.syms] at hs,λs hs=>by simp[Gr.syms] at hs⟩,λi mm hp=>hp.1 _ _ hk,?_,?_⟩
 .rintro i mm hi aG;ext i mm;show bO;intro QQ bP;ext QQ;obtain ⟨h1,ad,ep,h2,h3,h4⟩:=aG;ext ad ep;refine cy (getD_map hi) (aM (ef.store ⋯) ?_);have hit:=hks _ (cW hi);have x':=x.le h1;have cD:=take_snoc (aH hi);have sF:∀ s,G.gc (its.take (i+1)) s=if G.aY its[i]=some s then G.gc (its.take i) s++[its[i]+1] else G.gc (its.take i) s:=λs=>by rw[cD,Gr.YX]
  have vj:G.syms (its.take (i+1))=G.ng (G.syms (its.take i)) its[i]:=by rw[cD,Gr.YW]
  lk;show cG T 9 9 "Grammar.after" x'.self;lk;show zH T o x' (aK (bK hn)) hit;show ck;cases q:G.aY its[i] with
  | none=>
   have e:G.ia its[i]=-1:=by unfold Gr.ia;rw[q]
   rw[e];lk;refine uP ⟨_,rfl,λhb=>by exact mK hb,λ_=>?_⟩;subst bP;refine aX (br (by k_in) ⟨h1,?_⟩);have e1:G.syms (its.take (i+1))=G.syms (its.take i):=by rw[vj];unfold Gr.ng;rw[q]
   refine ⟨ad,ep,by rw[e1];exact h2,λs hs=>?_,by rw[e1];exact h4⟩;rw[sF,q];simp only[reduceCtorEq,if_false];exact h3 s (e1▸hs)
  | some y=>
   have e:G.ia its[i]=(y:Nat):=by unfold Gr.ia;rw[q]
   have hy:=Gr.uE o q;have hsl:=Gr.CG o (its.take i);rw[e];lk;refine uP ⟨_,rfl,λ_=>?_,λhb=>by exact mK hb⟩;revert hi;ext y;intro hi hit cD sF vj q e;refine um (λL aF=>L=([("symbol",vn y),("item",vn its[i]),("found",.ref fa),("grammar",.ref g.g),("items",.ref k)]:Loc)/\m.le aF/\
    ∃ (ad:Nat->Addr) (ep:Nat),aF fa=some (.dj ((G.syms (its.take (i+1))).map λs:Nat=>((s:Int),V.ref (ad s))) ep)/\(∀ s∈G.syms (its.take (i+1)),aF (ad s)=some (.list ((G.gc (its.take i) s).map vn))/\m (ad s)=none)/\∀ s∈G.syms (its.take (i+1)),∀ t∈G.syms (its.take (i+1)),ad s=ad t->s=t) ?_ ?_
   .lk;refine ZH T.sys h2 ⟨_,rfl,?_⟩;rw[zJ (λs=>V.ref (ad s))];refine ⟨λhb=>?_,λhb=>?_⟩
    .have nB:y∉G.syms (its.take i):=λhh=>by rw[if_pos hh] at hb;exact mK hb
     have e1:G.syms (its.take (i+1))=G.syms (its.take i)++[y]:=by rw[vj];unfold Gr.ng;rw[q];simp[nB]
     walk_at "set";refine bR (cM ⟨by simp,λb hb=>?_⟩);lk;have R4:fa≠b:=MH.aE h2 hb;refine Hf T.sys (MH.ay h2 R4) (by rw[ak];exact zm hsl (ao rfl)) λcI=>?_;have hmb:=h1.new hb;rw[GU (λs=>V.ref (ad s)) _ _ _ nB]
     (revert hb;clear hb;intro hb);revert hi;ext b cI;intro hi hit cD sF vj q e
     refine cX ⟨_,by k_in,rfl,(h1.trans (MH.av hb)).set jw,λs=>if s=y then b else ad s,cI,?_,?_,?_⟩
     .rw[MH.af,e1,aV];congr 3
      .apply fD;intro s hs;have:s≠y:=λe=>nB (e▸hs);simp[this]
      .simp
     .intro s hs;rw[e1] at hs;by_cases i8:s=y
      .subst i8;simp only[if_true];refine ⟨?_,hmb⟩;rw[MH.aC R4.symm,MH.af];have:G.gc (its.take i) s=[]:=by
        unfold Gr.gc;rw[List.map_eq_nil_iff,vP];intro z hz hz2;exact nB (Gr.GR.mpr ⟨z,hz,by simpa using hz2⟩)
       rw[this];rfl
      .have hs':s∈G.syms (its.take i):=by simpa[i8] using hs
       obtain ⟨q1,q2⟩:=h3 s hs';simp only[i8,if_false];refine ⟨?_,q2⟩;rw[MH.aC (λe=>by rw[e,h2] at q1;cases q1),MH.ay q1 (MH.aE q1 hb)]
     .intro s hs t ht xO;rw[e1] at hs ht;by_cases i8:s=y<;>by_cases hty:t=y
      .rw[i8,hty]
      .have ht':t∈G.syms (its.take i):=by simpa[hty] using ht
       simp only[i8,hty,if_true,if_false] at xO;have:=(h3 t ht').1;rw[<-xO,hb] at this;cases this
      .have hs':s∈G.syms (its.take i):=by simpa[i8] using hs
       simp only[i8,hty,if_true,if_false] at xO;have:=(h3 s hs').1;rw[xO,hb] at this;cases this
      .simp only[i8,hty,if_false] at xO;exact h4 s (by simpa[i8] using hs) t (by simpa[hty] using ht) xO
    .have nB:y∈G.syms (its.take i):=by
      by_cases hh:y∈G.syms (its.take i)
      .exact hh
      .rw[if_neg hh] at hb;exact mK hb
     have e1:G.syms (its.take (i+1))=G.syms (its.take i):=by rw[vj];unfold Gr.ng;rw[q];simp[nB]
     rw[e1];exact cX ⟨_,by k_in,rfl,h1,ad,ep,h2,h3,h4⟩
   .rintro L aF ⟨rfl,q1,dU,cI,q2,q3,q4⟩;have hys:y∈G.syms (its.take (i+1)):=by rw[vj,Gr.NU];exact .inr q
    revert hi;ext aF dU cI;intro hi hit cD sF vj q e;obtain ⟨r1,r2⟩:=q3 y hys;have fV:(G.gc (its.take i) y).length < 64:=by have:=Gr.NV (G:=G) (its.take i) y;have:=rK i its;exact zm (by assumption) (zm this dQ)
    refine gu (eB gn lE lF ?_);lk;show GL q2 (by rw[zJ (λs=>V.ref (dU s)),if_pos hys]);refine ⟨gG r1,?_⟩;lk;show cF T ef.toC 24;lk;show Wz T o (x.le q1) (zf (eg hn)) hit (by rw[q];exact gm _);lk;show kG r1 (by rw[ak];exact zl fV aI);subst bP;refine aX (br (by k_in) ⟨q1.set r2,dU,cI,MH.ay q2 (λe=>by rw[e,r1] at q2;cases q2),λs hs=>?_,q4⟩);rw[sF,q];obtain ⟨t1,t2⟩:=q3 s hs;refine ⟨?_,t2⟩;by_cases i8:s=y
    .subst i8;rw[MH.af,if_pos rfl,aV];rfl
    .rw[MH.aC (λe=>i8 (q4 s hs y hys e)),if_neg (λe=>i8 (c8 e).symm)];exact t1
 .rintro mm ⟨h1,ad,ep,h2,h3,h4⟩;rw[dW] at h2 h3 h4;clear h4;ext mm ad ep;show fN (ef.store ⋯);refine qH (.dj [] 0) (.inl rfl) λoa hoa=>?_;have hsl:=Gr.CG o its;have hso:(cN (G.syms its)).length<=8:=by rw[pA];exact hsl
  have hfo:fa≠oa:=MH.aE h2 hoa;have Qe:=h1.new hoa;have hS:∀ s∈cN (G.syms its),s∈G.syms its:=λs hs=>jH.mp hs;have D4:(cN (G.syms its)).Nodup:=qD (Gr.za its);generalize Ba:cN (G.syms its)=S at hso hS D4;ext oa S;refine pH (cC vn S ?_);show bY T ef.toC (by rfl);lk;refine Gd T.sys (MH.ay h2 hfo) (by rw[dS];rfl) (zm hsl (ao rfl)) λsl Aw=>?_;have hos:oa≠sl:=MH.aE (MH.af _ oa _) Aw;have w7:mm sl=none:=by rw[MH.aC hos.symm] at Aw;exact Aw
  have hml:m.le ((mm.set oa (.dj [] 0)).set sl (.list (S.map vn))):=(h1.trans (MH.av hoa)).trans (MH.av Aw);rw[Ba];clear Aw;ext sl;refine ⟨sl,rfl,MH.af _ _ _,λ_=>[("ordered",.ref oa),("found",.ref fa),("grammar",.ref g.g),("items",.ref k)],λi aF=>aF sl=some (.list (S.map vn))/\mm.bF [oa] aF/\m.le aF/\∃ (tp:Nat->Addr) (cI:Nat),aF oa=some (.dj ((S.take i).map λs:Nat=>((s:Int),V.ref (tp s))) cI)/\
   ∀ s∈S.take i,aF (tp s)=some (.tuple ((cN (G.gc its s)).map vn))/\m (tp s)=none,
   by k_in,⟨MH.af _ _ _,((MH.bF.refl mm).set (.inl hoa)).set (.inl w7),hml,λ_=>0,0,MH.ay (MH.af _ _ _) hos,λs hs=>by simp at hs⟩,λi aF hp=>hp.1,?_,?_⟩
  .rintro i aF hi aG;ext i aF;show bO;intro QQ bT;ext QQ;obtain ⟨q0,q1,q2,tp,cI,q3,q4⟩:=aG;ext tp cI;refine cy (getD_map hi) (aM (ef.store ⋯) ?_);have hmem:=hS _ (cW hi);have cD:=take_snoc (aH hi);obtain ⟨r1,r2⟩:=h3 _ hmem;have afb:ad S[i]∉[oa]:=by
    rw[bQ];exact λe=>by rw[e,hoa] at r1;cases r1
   have f1:aF fa=some (.dj ((G.syms its).map λs:Nat=>((s:Int),V.ref (ad s))) ep):=q1 _ _ h2 (by rw[bQ];exact hfo);have r1':=q1 _ _ r1 afb;walk_at "set";show mO T ef.toC (by rfl);lk;show bY T ef.toC (by rfl);lk;show GL f1 (by rw[zJ (λs=>V.ref (ad s)),if_pos hmem]);lk;have fV:=Gr.NV (G:=G) its S[i];refine Ct r1' (zm fV dQ) λe he=>?_;lk;refine Ms (MH.af _ _ _) (by rw[ak,pA];exact zf (zm fV (zn dQ (ao rfl)))) λt ht=>?_;lk;have l1:aF.le ((aF.set e (.list ((cN (G.gc its S[i])).map vn))).set t (.tuple ((cN (G.gc its S[i])).map vn))):=(MH.av he).trans (MH.av ht);have hoe:oa≠e:=MH.aE q3 he;have hot:oa≠t:=MH.aE (MH.ay q3 hoe) ht;have afc:aF t=none:=(MH.av he).new ht;have hmt:m t=none:=q2.new afc;refine Hf T.sys (l1 _ _ q3) (by rw[ak];have:=E9 i S;exact zm this (zl hi (zz hso (zb rfl)))) λafd=>?_;have hni:S[i]∉S.take i:=by intro hin;obtain ⟨j,hj,e⟩:=qv.mp hin;have hj':j < i:=nq hj;have:=(qw.mp D4) j i (zn hj' hi) hi hj';exact this e
   rw[GU (λs=>V.ref (tp s)) _ _ _ hni];have hso':sl≠oa:=hos.symm;subst bT;refine (br (by k_in) ⟨MH.ay (l1 _ _ q0) hso',(q1.le l1).set (.inr (aZ)),(q2.trans l1).set Qe,λs=>if s=S[i] then t else tp s,afd,?_,?_⟩)
   .rw[MH.af,cD,aV];congr 3
    .apply fD;intro s hs;have:s≠S[i]:=λe=>hni (e▸hs);simp[this]
    .simp
   .intro s hs;by_cases i8:s=S[i]
    .simp only[i8,if_true];exact ⟨MH.ay (MH.af _ _ _) hot.symm,hmt⟩
    .simp only[i8,if_false];have hs':s∈S.take i:=by
      rw[cD,bN,bQ] at hs;exact hs.resolve_right i8
     obtain ⟨t1,t2⟩:=q4 s hs';exact ⟨MH.ay (l1 _ _ t1) (λe=>by rw[e,q3] at t1;cases t1),t2⟩
  .rintro aF ⟨q0,q1,q2,tp,cI,q3,q4⟩;rw[dW] at q3 q4;lk;refine h aF oa cI tp q2 Qe (by rw[Ba];exact q3) λs hs=>q4 s ?_;rw[<-Ba];exact jH.mpr hs
end
end
section
theorem gv:a∈[b,c]↔a=b\/a=c:=by simp
noncomputable abbrev Ks:=List (List Nat×Int)
noncomputable def bw (ks:Ks):List (List Nat):=ks.map (·.1)
noncomputable def aR (ks:Ks) (i:Nat):List Nat:=(bw ks).getD i []
noncomputable def j0 (ks:Ks) (i:Nat):Int:=(ks.getD i ([],0)).2
noncomputable def fR (ks:Ks) (ah:List Nat) (sym:Int):Ks:=if ah∈bw ks then ks else ks++[(ah,sym)]
noncomputable def oh (ks:Ks) (ah:List Nat):Nat:=(bw ks).idxOf ah
theorem rY (ks:Ks):(bw ks).length=ks.length:=ak _
theorem Hj (ks:Ks) (ah:List Nat) (sym:Int):ks <+: fR ks ah sym:=by
 unfold fR;split
 .exact Ca _
 .exact Vq _ _
theorem GV (h:ks <+: ks'):bw ks <+: bw ks':=by obtain ⟨t,rfl⟩:=h;exact ⟨t.map (·.1),by unfold bw;rw[aV]⟩
theorem zB (h:ks <+: ks') (hi:i < ks.length):aR ks' i=aR ks i:=by obtain ⟨t,ht⟩:=GV h;unfold aR;rw[<-ht,bM,bM,jT (by rw[rY];exact hi)]
theorem YZ (h:ks <+: ks') (hi:i < ks.length):j0 ks' i=j0 ks i:=by obtain ⟨t,rfl⟩:=h;unfold j0;rw[bM,bM,jT hi]
theorem ZO (h:ks <+: ks') (hk:k∈bw ks):oh ks' k=oh ks k:=by obtain ⟨t,ht⟩:=GV h;unfold oh;rw[<-ht,List.idxOf_append,if_pos hk]
theorem aa2 (h:ks <+: ks') (hk:k∈bw ks):k∈bw ks':=(GV h).subset hk
theorem NW (ks:Ks) (ah:List Nat) (sym:Int):ah∈bw (fR ks ah sym):=by
 unfold fR;split
 .assumption
 .unfold bw;simp
structure SA where
 s:Addr
 k:Addr
 mv:Addr
instance:Nonempty SA:=⟨⟨default,default,default⟩⟩
noncomputable def cR (k:List Nat):List Int:=k.map λx:Nat=>(x:Int)
theorem aa3 (h:cR a=cR b):a=b:=by unfold cR at h;exact (List.map_inj_right (λx y e=>oz e)).mp h
noncomputable def dG (ad:Nat->Addr) (val:Nat->V):Nat->List (List Nat)->List (List Int×Addr×V)
 | _,[]=>[]
 | j,k::r=>(cR k,ad j,val j)::dG ad val (j+1) r
theorem CA {ad:Nat->Addr} {val:Nat->V} {j:Nat} {k:List Nat} {r:List (List Nat)}:dG ad val j (k::r)=(cR k,ad j,val j)::dG ad val (j+1) r:=rfl
theorem kI (ad:Nat->Addr) (val:Nat->V) (ah:List Nat):∀ (l:List (List Nat)) (j:Nat),lY (dG ad val j l) (cR ah)=if ah∈l then some (val (j+l.idxOf ah)) else none:=by
 intro l_;induction l_ with
 | nil=>
  intro j;rfl
 | cons k r iJ=>
  intro j;have ih:=iJ (j+1);unfold lY at ih ⊢;dsimp only[CA];rw[rP];by_cases q:k=ah
  .subst q;simp
  .have q1:¬ cR k=cR ah:=λe=>q (aa3 e);have q2:¬ ah=k:=λe=>q e.symm;simp only[q1,decide_false];rw[ih,Fw];have q3:(k==ah)=false:=by simpa using q
   simp only[b8,q2,false_or,q3,cond_false];rw[show j+1+r.idxOf ah=j+(r.idxOf ah+1) by exact ir]
theorem yW (ad:Nat->Addr) (val:Nat->V) (k:List Nat):∀ (l:List (List Nat)) (j:Nat),dG ad val j (l++[k])=dG ad val j l++[(cR k,ad (j+l.length),val (j+l.length))]:=by
 intro l_;induction l_ with
 | nil=>
  intro j;rfl
 | cons a r ih=>
  intro j;change _::dG ad val (j+1) (r++[k])=_::(dG ad val (j+1) r++_);rw[ih (j+1),fM,show j+1+r.length=j+(r.length+1) by exact ir]
theorem Gg {ad dU:Nat->Addr} {val val':Nat->V}:∀ {l:List (List Nat)} {j:Nat},(∀ i,j<=i->i < j+l.length->ad i=dU i/\val i=val' i)->dG ad val j l=dG dU val' j l:=by
 intro l_;induction l_ with
 | nil=>
  intro j _;exact rfl
 | cons a r ih=>
  intro j h;dsimp only[CA];obtain ⟨h1,h2⟩:=h j (aL _) (by simp);rw[h1,h2,ih (j:=j+1) (λi h1 h2=>h i (zf h1) (by rw[fM];exact pV h2 ir))]
theorem wA (ad:Nat->Addr) (val:Nat->V):∀ (l:List (List Nat)) (j:Nat),(dG ad val j l).length=l.length:=by
 intro l_;induction l_ with
 | nil=>
  intro _;exact rfl
 | cons a r ih=>
  intro j;dsimp only[CA];rw[fM,fM,ih]
theorem M4 {ad dU:Nat->Addr} {l:List (List Nat)} {j:Nat} (h:∀ i,j<=i->i < j+l.length->ad i=dU i):dG ad vn j l=dG dU vn j l:=Gg λi a b=>⟨h i a b,rfl⟩
theorem zK (h:lY es k=none):n7 es k a v=es++[(k,a,v)]:=by unfold n7;rw[if_neg];intro hh;unfold lY at h;rw[Option.map_eq_none_iff,List.find?_eq_none] at h;obtain ⟨x,hx,vm⟩:=Mh.mp hh;exact h x hx vm
namespace Gr
noncomputable def gK (G:Gr) (ah:List Nat) (s:Nat):List Nat:=cN (G.gc (G.bV ah) s)
noncomputable def gf (G:Gr) (ah:List Nat):List Nat:=cN (G.syms (G.bV ah))
noncomputable def dJ (G:Gr) (ah:List Nat):List Nat:=cN (G.jo (G.bV ah))
noncomputable def qh (G:Gr) (ks:Ks) (ah:List Nat) (S:List Nat):List (Int×V):=S.map λs:Nat=>((s:Int),vn (oh ks (G.gK ah s)))
end Gr
noncomputable def oE (sa:SA) (i:Nat) (sym:Int) (it rd:Addr):Loc:=[("number",vn i),("kernel",.ref sa.k),("symbol",.int sym),("items",.ref it),("moves",.ref sa.mv),("reductions",.ref rd)]
structure sG (A:TA) (m0 m:MH) (G:Gr) (bl:Addr) (sa:SA) (i:Nat) (ks:Ks) (e:Bool) (S:List Nat):Prop where
 inst:∃ it rd,m sa.s=some (.inst (A.cls 22) (oE sa i (j0 ks i) it rd))/\(e=true->it≠bl/\rd≠bl/\m it=some (.list ((G.bV (aR ks i)).map vn))/\m rd=some (.list ((G.dJ (aR ks i)).map vn)))
 ah:m sa.k=some (.tuple ((aR ks i).map vn))
 mv:∃ ep,m sa.mv=some (.dj (G.qh ks (aR ks i) S) ep)
 mem:∀ s∈S,G.gK (aR ks i) s∈bw ks
 fs:m0 sa.s=none
 fm:m0 sa.mv=none
structure jk (A:TA) (m0 m:MH) (g:GA) (G:Gr) (b c bl bn:Addr) (ad:Nat->SA) (ks:Ks) (e:Nat->Bool) (S:Nat->List Nat):Prop where
 le:m0.le m
 self:m b=some (.inst (A.cls 28) [("grammar",.ref g.g),("closer",.ref c),("states",.ref bl),("numbers",.ref bn)])
 clos:rX A m c g G
 list:m bl=some (.list ((aj ks.length).map λi=>.ref (ad i).s))
 nums:∃ ep,m bn=some (.bE (dG (λi=>(ad i).k) vn 0 (bw ks)) ep)
 st:∀ i,i < ks.length->sG A m0 m G bl (ad i) i ks (e i) (S i)
 ij:∀ i j,i < ks.length->j < ks.length->i≠j->(ad i).s≠(ad j).s/\(ad i).mv≠(ad j).mv
 cf:∀ f,m c=some (.inst (A.cls 23) [("grammar",.ref g.g),("firsts",.ref f)])->f≠bl
 f0:m0 b=none/\m0 c=none/\m0 bl=none/\m0 bn=none
theorem sG.keep (x:sG A m0 m G bl sa i ks e S) (hi:i < ks.length) (hp:ks <+: ks')
  (h1:∀ a c fs,m a=some (.inst c fs)->m' a=some (.inst c fs)) (h2:∀ a xs,m a=some (.tuple xs)->m' a=some (.tuple xs)) (h3:∀ a es ep,m a=some (.dj es ep)->m' a=some (.dj es ep))
  (h4:∀ a xs,a≠bl->m a=some (.list xs)->m' a=some (.list xs)):sG A m0 m' G bl sa i ks' e S:=by
 have ek:aR ks' i=aR ks i:=zB hp hi;obtain ⟨it,rd,q1,q2⟩:=x.inst;obtain ⟨ep,q3⟩:=x.mv;refine ⟨⟨it,rd,by rw[YZ hp hi];exact h1 _ _ _ q1,λhe=>?_⟩,by rw[ek];exact h2 _ _ x.ah,⟨ep,?_⟩,λs hs=>by rw[ek];exact aa2 hp (x.mem s hs),x.fs,x.fm⟩
 .obtain ⟨r1,r2,r3,r4⟩:=q2 he;rw[ek];exact ⟨r1,r2,h4 _ _ r1 r3,h4 _ _ r2 r4⟩
 .rw[h3 _ _ _ q3,ek];congr 2;unfold Gr.qh;apply fD;intro s hs;rw[ZO hp (x.mem s hs)]
section
variable {C:Cx} {A:TA} {n:Nat} {m0 m:MH} {Q:V->MH->Prop} {g:GA} {G:Gr} {b c bl bn:Addr} {ad:Nat->SA} {ks:Ks} {e:Nat->Bool} {S:Nat->List Nat}
theorem jk.C2 (x:jk A m0 m g G b c bl bn ad ks e S) (h:m.le m'):jk A m0 m' g G b c bl bn ad ks e S where
 le:=x.le.trans h
 self:=h _ _ x.self
 clos:=x.clos.le h
 list:=h _ _ x.list
 nums:=let ⟨ep,q⟩:=x.nums;⟨ep,h _ _ q⟩
 st:=λi hi=>(x.st i hi).keep hi (Ca _) (λ_ _ _ q=>h _ _ q) (λ_ _ q=>h _ _ q) (λ_ _ _ q=>h _ _ q) (λ_ _ _ q=>h _ _ q)
 ij:=x.ij
 cf:=λf q=>by obtain ⟨f',q1,q2⟩:=x.clos;have:=h _ _ q1;rw[q] at this;cases this;exact x.cf _ q1
 f0:=x.f0
theorem Mt {kk:Addr} {ah:List Nat} {sym:Int} (T:aS C A) (hn:4<=n) (x:jk A m0 m g G b c bl bn ad ks e S) (hk:m kk=some (.tuple (ah.map vn))) (hlen:ks.length<=1000) (he:e ks.length=false) (hS:S ks.length=[]) (h:∀ m' dU,jk A m0 m' g G b c bl bn dU (fR ks ah sym) e S->(∀ i,i < ks.length->dU i=ad i)->m.bF [bl,bn] m'->Q (vn (oh (fR ks ah sym) ah)) m'):FC C (A.bZ 28 1) n [.ref b,.ref kk,.int sym] m Q:=by
 ext C A n m0 m Q g G b c bl bn ad ks e S kk ah sym;obtain ⟨ep,j3⟩:=x.nums;have hget:=kI (λi=>(ad i).k) vn ah (bw ks) 0;ext ep;refine dX T 28 1 "number_of" "Builder.number_of" ["self","kernel","symbol"] (eW hn) rfl (λenv ef=>?_) (by walk_at "bd3");k_is;ext env;show um (λL mm=>L=([("self",.ref b),("kernel",.ref kk),("symbol",.int sym)]:Loc)/\∃ dU,jk A m0 mm g G b c bl bn dU (fR ks ah sym) e S/\(∀ i,i < ks.length->dU i=ad i)/\m.bF [bl,bn] mm) ?_
 .lk;show aA T 28 x.self;refine ZJ (k:=cR ah) T.sys j3 (by rw[cR,<-mW];exact hk) ⟨_,rfl,?_⟩;rw[hget];refine ⟨λhb=>?_,λhb=>?_⟩
  .have hni:ah∉bw ks:=λq=>by rw[if_pos q] at hb;exact mK hb
   rw[if_neg hni] at hget;walk_at "set";ext ep env;show bY T ef.toC (by rfl);lk;show aA T 28 x.self;lk;show fz x.list (by rw[ak,aN];exact zm hlen (ao rfl));rw[ak,aN];show aA T 28 x.self;lk;refine zR (k:=cR ah) j3 (by rw[cR,<-mW];exact hk) (by rw[wA,rY];exact zm hlen (ao rfl)) λcI=>?_;rw[zK hget];generalize hm1:m.set bn (.bE (dG (λi=>(ad i).k) vn 0 (bw ks)++[(cR ah,kk,vn ks.length)]) cI)=m1;have g1:∀ a ob,m a=some ob->(∀ es ep,ob≠.bE es ep)->m1 a=some ob:=λa ob h1 h2=>by rw[<-hm1,MH.aC];exact h1;intro q;rw[q,j3] at h1;exact h2 _ _ (c8 h1).symm
   have O0:=g1 _ _ x.self (by intro _ _ e;cases e);have Aa:=g1 _ _ x.list (by intro _ _ e;cases e);clear g1;ext cI m1;refine gu (eB gn lE lF ?_);show aA T 28 O0;refine ⟨gG Aa,?_⟩;lk;show pG T ef.toC 22 (aK (bK hn));lk;show bY T ef.toC (by rfl);lk;show aA T 28 O0;lk;show fz Aa (by rw[ak,aN];exact zm hlen (ao rfl));rw[ak,aN];lk;intro a ha;ext a;refine W2 T (aK (eg hn)) ha λm2 ii mv rd l2 f1 f2 f3 nir s1 s2 s3 s4 oth=>⟨rfl,?_⟩;lk;have O1:=l2 _ _ Aa;show kG O1 (by simp;exact zm hlen (ao rfl));have hm0:∀ a,m1 a=none->m0 a=none:=λa h=>by
    have:m a=none:=by
     cases q:m a with
     | none=>rfl
     | some ob=>
      by_cases q2:a=bn
      .rw[q2,<-hm1,MH.af] at h;cases h
      .rw[<-hm1,MH.aC q2,q] at h;cases h
    exact x.le.new this
   have afe:=Hj ks ah sym;have eK:fR ks ah sym=ks++[(ah,sym)]:=by unfold fR;rw[if_neg hni]
   have JK:(fR ks ah sym).length=ks.length+1:=by rw[eK];simp
   have hold:∀ i < ks.length,(if i=ks.length then (⟨a,kk,mv⟩:SA) else ad i)=ad i:=λi hi=>if_neg (kU hi);have keep:∀ z ob,m z=some ob->z≠bn->z≠bl->(m2.set bl (.list ((aj ks.length).map (λi=>V.ref (ad i).s)++[V.ref a]))) z=some ob:=λz ob h1 h2 h3=>by rw[MH.aC h3];show l2 _ _;rw[<-hm1,MH.aC h2];exact h1
   generalize D5:m2.set bl (.list ((aj ks.length).map (λi=>V.ref (ad i).s)++[V.ref a]))=m3 at keep;have q1:a≠bl:=λe=>by rw[e,Aa] at ha;cases ha
   have q2:a≠bn:=λe=>by rw[e,<-hm1,MH.af] at ha;cases ha
   have q3:mv≠bl:=λe=>by rw[e,Aa] at f2;cases f2
   have q4:mv≠bn:=λe=>by rw[e,<-hm1,MH.af] at f2;cases f2
   have afg:bn≠bl:=λe=>by rw[e,x.list] at j3;cases j3
   have hm:∀ a,a≠bn->m1 a=none->m a=none:=λa h1 h2=>by rw[<-hm1,MH.aC h1] at h2;exact h2
   clear f1 f3 nir s2 s4 oth O1;ext m2 ii mv rd m3;refine cX ⟨_,by k_in,rfl,λi=>if i=ks.length then ⟨a,kk,mv⟩ else ad i,⟨?_,?_,?_,?_,?_,?_,?_,?_,x.f0⟩,hold,?_⟩
   .intro a ob h1;have h2:a≠bn:=λe=>by rw[e,x.f0.4] at h1;cases h1
    have h3:a≠bl:=λe=>by rw[e,x.f0.3] at h1;cases h1
    exact keep _ _ (x.le _ _ h1) h2 h3
   .exact keep _ _ x.self (λe=>by have:=x.self;rw[e,j3] at this;cases this) (λe=>by have:=x.self;rw[e,x.list] at this;cases this)
   .obtain ⟨f,c1,c2⟩:=x.clos;exact ⟨f,keep _ _ c1 (λe=>by rw[e,j3] at c1;cases c1) (λe=>by rw[e,x.list] at c1;cases c1),keep _ _ c2 (λe=>by rw[e,j3] at c2;cases c2) (x.cf f c1)⟩
   .rw[<-D5,MH.af,JK,jD,aV];congr 3
    .apply fD;intro i hi;simp only[hold i (by simpa using hi)]
    .simp
   .refine ⟨cI,?_⟩;rw[<-D5,MH.aC afg];rw[l2 bn _ (by rw[<-hm1,MH.af])];rw[eK];change some (O.bE (dG (λi=>(ad i).k) vn 0 (bw ks)++[(cR ah,kk,vn ks.length)]) cI)=_;have:bw (ks++[(ah,sym)])=bw ks++[ah]:=by unfold bw;simp
    rw[this,yW];congr 3
    .exact M4 λi h1 h2=>by simp only[hold i (by rw[rY] at h2;exact PV h2)]
    .rw[rY];simp
   .intro i hi;rw[JK] at hi;by_cases hil:i=ks.length
    .subst hil;simp only[if_true];rw[he,hS];have ek:aR (fR ks ah sym) ks.length=ah:=by
      rw[eK];unfold aR bw;rw[aV,bM,oQ (by simp)];simp
     have es:j0 (fR ks ah sym) ks.length=sym:=by rw[eK];unfold j0;rw[bM,oQ (by simp)];simp
     refine ⟨⟨ii,rd,?_,λe=>by cases e⟩,?_,⟨0,?_⟩,λs hs=>by simp at hs,hm0 _ ha,hm0 _ f2⟩
     .rw[<-D5,MH.aC q1,s1,es];rfl
     .rw[ek];exact keep kk _ hk (λe=>by have e:kk=bn:=e;rw[e,j3] at hk;cases hk) (λe=>by have e:kk=bl:=e;rw[e,x.list] at hk;cases hk)
     .rw[<-D5,MH.aC q3,s3];rfl
    .simp only[hil,if_false];have hi':i < ks.length:=cY hi hil;refine (x.st i hi').keep hi' afe (λa c fs h=>keep _ _ h (λe=>by rw[e,j3] at h;cases h) (λe=>by rw[e,x.list] at h;cases h)) (λa xs h=>keep _ _ h (λe=>by rw[e,j3] at h;cases h) (λe=>by rw[e,x.list] at h;cases h))
      (λa es ep h=>keep _ _ h (λe=>by rw[e,j3] at h;cases h) (λe=>by rw[e,x.list] at h;cases h)) (λa xs hne h=>keep _ _ h (λe=>by rw[e,j3] at h;cases h) hne)
   .intro i j hi hj hij;rw[JK] at hi hj;have old:∀ i,i < ks.length->(ad i).s≠a/\(ad i).mv≠mv:=λi hi=>by
     obtain ⟨it,R6,t1,_⟩:=(x.st i hi).inst;obtain ⟨gw,t2⟩:=(x.st i hi).mv;refine ⟨λe=>?_,λe=>?_⟩
     .rw[e,hm a q2 ha] at t1;cases t1
     .rw[e,hm mv q4 f2] at t2;cases t2
    by_cases hil:i=ks.length<;>by_cases hjl:j=ks.length
    .exact (hij (DV hil hjl)).elim
    .simp only[hil,hjl,if_true,if_false];have:=old j (cY hj hjl);exact ⟨λe=>this.1 e.symm,λe=>this.2 e.symm⟩
    .simp only[hil,hjl,if_true,if_false];exact old i (cY hi hil)
    .simp only[hil,hjl,if_false];exact x.ij i j (cY hi hil) (cY hj hjl) hij
   .intro f hf;ext f;obtain ⟨f',c1,c2⟩:=x.clos;have:=keep _ _ c1 (λe=>by rw[e,j3] at c1;cases c1) (λe=>by rw[e,x.list] at c1;cases c1);rw[hf] at this;cases this;exact x.cf _ c1
   .intro a ob h1 h2;rw[gv,not_or] at h2;exact keep _ _ h1 h2.2 h2.1
  .have hin:ah∈bw ks:=by
    by_cases q:ah∈bw ks
    .exact q
    .rw[if_neg q] at hb;exact mK hb
   have eK:fR ks ah sym=ks:=by unfold fR;rw[if_pos hin]
   refine cX ⟨_,by k_in,rfl,ad,by rw[eK];exact x,λ_ _=>rfl,MH.bF.refl _⟩
 .rintro L mm ⟨rfl,dU,y,ha',hl⟩;obtain ⟨cI,acy⟩:=y.nums;have hk':=hl _ _ hk (by
   rw[gv];rintro (e | e)
   .rw[e,x.list] at hk;cases hk
   .rw[e,j3] at hk;cases hk)
  lk;show aA T 28 y.self;lk;show qI (k:=cR ah) acy (by rw[cR,<-mW];exact hk') (by rw[kI,if_pos (NW ks ah sym)]);rw[fG];exact h mm dU y ha' hl
end
end
section
theorem sG.uI (x:sG A m0 m G bl sa i ks e S)
  (h1:m' sa.s=m sa.s) (h2:m' sa.k=m sa.k) (h3:m' sa.mv=m sa.mv) (h4:∀ a xs,m a=some (.list xs)->m' a=some (.list xs)):sG A m0 m' G bl sa i ks e S where
 inst:=by obtain ⟨it,rd,q1,q2⟩:=x.inst;refine ⟨it,rd,by rw[h1];exact q1,λhe=>?_⟩;obtain ⟨r1,r2,r3,r4⟩:=q2 he;exact ⟨r1,r2,h4 _ _ r3,h4 _ _ r4⟩
 ah:=by rw[h2];exact x.ah
 mv:=by rw[h3];exact x.mv
 mem:=x.mem
 fs:=x.fs
 fm:=x.fm
theorem O2 {fs:Loc} {sa:SA} {i:Nat} {sym:Int} {it rd:Addr} {c c':Addr} {w:V} {r:Loc} (h:O.inst c (("grammar",w)::r)=O.inst c' (oE sa i sym it rd)):False:=by injection h with _ h;exact absurd (show some ("grammar" : Str)=some ("number" : Str) from congrArg (λl:Loc=>l.head?.map Prod.fst) h) (by decide)
section
variable {C:Cx} {A:TA} {n:Nat} {m0 m:MH} {Q:V->MH->Prop} {g:GA} {G:Gr} {b c bl bn:Addr} {ad:Nat->SA} {ks:Ks} {e:Nat->Bool} {S:Nat->List Nat}
theorem jk.upd {m':MH} {e':Nat->Bool} {S':Nat->List Nat} {k:Nat} (x:jk A m0 m g G b c bl bn ad ks e S) (hk:k < ks.length) (ho:∀ a,a≠(ad k).s->a≠(ad k).mv->m' a=m a)
  (hst:sG A m0 m' G bl (ad k) k ks (e' k) (S' k)) (hE:∀ i,i≠k->e' i=e i/\S' i=S i):jk A m0 m' g G b c bl bn ad ks e' S':=by
 ext A m0 m g G b c bl bn ad ks e S m' e' S' k;obtain ⟨it,rd,hi,_⟩:=(x.st k hk).inst;ext it rd;obtain ⟨ep,hv⟩:=(x.st k hk).mv;have keep:∀ a ob,m a=some ob->(∀ c fs,ob≠.inst c fs)->(∀ es ep,ob≠.dj es ep)->m' a=some ob:=λa ob h1 h2 h3=>by rw[ho a (λq=>by rw[q,hi] at h1;exact h2 _ _ (c8 h1).symm) (λq=>by rw[q,hv] at h1;exact h3 _ _ (c8 h1).symm)];exact h1
 have H7:∀ a c w r,m a=some (.inst c (("grammar",w)::r))->m' a=some (.inst c (("grammar",w)::r)):=λa c w r h1=>by rw[ho a (λq=>by rw[q,hi] at h1;exact O2 (fs:=[]) (c8 h1).symm) (λq=>by rw[q,hv] at h1;cases h1)];exact h1
 ext ep;refine ⟨?_,H7 _ _ _ _ x.self,?_,keep _ _ x.list (by intro _ _ e;cases e) (by intro _ _ e;cases e),?_,?_,x.ij,?_,x.f0⟩
 .intro a ob h1;rw[ho a (λq=>by rw[q,(x.st k hk).fs] at h1;cases h1) (λq=>by rw[q,(x.st k hk).fm] at h1;cases h1)];exact x.le _ _ h1
 .obtain ⟨f,c1,c2⟩:=x.clos;exact ⟨f,H7 _ _ _ _ c1,keep _ _ c2 (by intro _ _ e;cases e) (by intro _ _ e;cases e)⟩
 .obtain ⟨ep,q⟩:=x.nums;exact ⟨ep,keep _ _ q (by intro _ _ e;cases e) (by intro _ _ e;cases e)⟩
 .intro i hil;by_cases hik:i=k
  .subst hik;exact hst
  .ext i;obtain ⟨r1,r2⟩:=hE i hik;rw[r1,r2];have y:=x.st i hil;obtain ⟨j1,j2⟩:=x.ij i k hil hk hik;obtain ⟨it',R6,hi',_⟩:=y.inst;ext it' R6;obtain ⟨cI,hv'⟩:=y.mv;ext cI;refine y.uI (ho _ j1 λq=>?_) (ho _ (λq=>?_) λq=>?_) (ho _ (λq=>?_) j2) (λa xs h=>keep _ _ h (by intro _ _ e;cases e) (by intro _ _ e;cases e))
   .rw[q,hv] at hi';cases hi'
   .have:=y.ah;rw[q,hi] at this;cases this
   .have:=y.ah;rw[q,hv] at this;cases this
   .rw[q,hi] at hv';cases hv'
 .intro f hf;ext f;obtain ⟨f',c1,c2⟩:=x.clos;have:=H7 _ _ _ _ c1;rw[hf] at this;cases this;exact x.cf _ c1
namespace Gr
noncomputable def iY (G:Gr) (ah:List Nat) (ks:Ks) (s:Nat):Ks:=fR ks (G.gK ah s) (s:Nat)
noncomputable def pI (G:Gr) (ks:Ks) (ah:List Nat):Ks:=(G.gf ah).foldl (G.iY ah) ks
end Gr
theorem Ov (G:Gr) (ah:List Nat):∀ (l:List Nat) (ks:Ks),ks <+: l.foldl (G.iY ah) ks:=by
 intro l_;induction l_ with
 | nil=>
  intro ks;exact Ca _
 | cons a l ih=>
  intro ks;exact (Hj _ _ _).trans (ih _)
theorem ZP (G:Gr) (ah:List Nat):∀ (l:List Nat) (ks:Ks),(l.foldl (G.iY ah) ks).length<=ks.length+l.length:=by
 intro l_;induction l_ with
 | nil=>
  intro ks;exact aL _
 | cons a l ih=>
  intro ks;have h1:=ih (G.iY ah ks a);have h2:(G.iY ah ks a).length<=ks.length+1:=by unfold Gr.iY fR;split<;>simp
  rw[nV,fM];exact zz h1 (zz (gQ h2) (ze ir))
theorem Gr.jK {G:Gr} {ah:List Nat} (o:G.Ok) (h:∀ it∈ah,it < G.M):∀ it∈G.bV ah,it < G.M:=by
 intro it hi;unfold Gr.bV at hi;rcases bN.mp hi with h1 | h1
 .exact h it (jH.mp h1)
 .exact Hi o (jH.mp h1)
theorem Gr.NX {G:Gr} {ah:List Nat} (o:G.Ok) (h:ah.length<=20):(G.bV ah).length<=40:=by unfold Gr.bV;rw[cQ,pA,pA];exact dO h (GQ o ah)
theorem Xv {k:Nat} (T:aS C A) (o:G.Ok) (xg:cU A m0 g G) (hn:6<=n) (x:jk A m0 m g G b c bl bn ad ks e S) (hk:k < ks.length) (hlen:ks.length<=900) (he:∀ i,ks.length<=i->e i=false/\S i=[]) (hkS:S k=[]) (Iw:∀ it∈aR ks k,it < G.M) (dQ:(aR ks k).length<=20) (h:∀ m' dU,jk A m0 m' g G b c bl bn dU (G.pI ks (aR ks k)) (λi=>if i=k then true else e i) (λi=>if i=k then G.gf (aR ks k) else S i)->(∀ i,i < ks.length->dU i=ad i)->Q .none m'):FC C (A.bZ 28 2) n [.ref b,.ref (ad k).s] m Q:=by
 ext C A n m0 m Q g G b c bl bn ad ks e S k;obtain ⟨it,rd,hi,_⟩:=(x.st k hk).inst;ext it rd;obtain ⟨ep,hv⟩:=(x.st k hk).mv;have hcl:=Gr.jK o Iw;have hcn:=Gr.NX o dQ;ext ep;refine dX T 28 2 "expand" "Builder.expand" ["self","state"] (eW hn) rfl (λenv ef=>?_) (by walk_at "bd2");k_is;ext env;show b7 T 22;show kH T 23 3 "Closer.close";obtain ⟨f,c1,c2⟩:=id x.clos;refine aA T 28 x.self ⟨_,_,rfl,c1,rfl,?_⟩;lk;show aA T 22 hi;lk;refine XZ T o (xg.le x.le) x.clos (aK hn) (x.st k hk).ah Iw (zm dQ (ao rfl)) λm1 b1 l1 D6 hb1=>?_;have hi1:=l1 _ _ hi;lk;ext m1 b1;refine ⟨_,_,rfl,hi1,by exact of_decide_eq_true rfl,?_⟩;have ea:cj "items" (.ref b1) (oE (ad k) k (j0 ks k) it rd)=oE (ad k) k (j0 ks k) b1 rd:=rfl;rw[ea];have hs1:b1≠(ad k).s:=λq=>by rw[q,hi] at D6;cases D6
 generalize hm2:m1.set (ad k).s (.inst (A.cls 22) (oE (ad k) k (j0 ks k) b1 rd))=m2;have uI:∀ a ob,m1 a=some ob->a≠(ad k).s->m2 a=some ob:=λa ob h1 h2=>by rw[<-hm2,MH.aC h2];exact h1
 have x1:=x.C2 l1;have hi2:m2 (ad k).s=some (.inst (A.cls 22) (oE (ad k) k (j0 ks k) b1 rd)):=by rw[<-hm2,MH.af]
 have adk:m2 b=_:=uI _ _ x1.self (λq=>by have:=x1.self;rw[q,hi1] at this;exact O2 (fs:=[]) (c8 this).symm);have hb2:=uI _ _ hb1 hs1;have le2:m0.le m2:=λa ob h1=>uI _ _ (x1.le _ _ h1) (λq=>by rw[q,(x.st k hk).fs] at h1;cases h1);clear hm2;ext m2;show b7 T 22;show cF T ef.toC 26;lk;show aA T 28 adk;lk;show aA T 22 hi2;lk;refine WB T o (xg.le le2) (aK (bK hn)) hb2 hcl (zm hcn (ao rfl)) λm3 r1 l3 kY hr1=>?_;have hi3:=l3 _ _ hi2;lk;ext m3 r1;refine ⟨_,_,rfl,hi3,by exact of_decide_eq_true rfl,?_⟩;have eb:cj "reductions" (.ref r1) (oE (ad k) k (j0 ks k) b1 rd)=oE (ad k) k (j0 ks k) b1 r1:=rfl;rw[eb];have Bb:r1≠(ad k).s:=λq=>by rw[q,hi2] at kY;cases kY
 generalize JL:m3.set (ad k).s (.inst (A.cls 22) (oE (ad k) k (j0 ks k) b1 r1))=m4;have De:∀ a ob,m3 a=some ob->a≠(ad k).s->m4 a=some ob:=λa ob h1 h2=>by rw[<-JL,MH.aC h2];exact h1
 have big:∀ a ob,m a=some ob->a≠(ad k).s->m4 a=some ob:=λa ob h1 h2=>De _ _ (l3 _ _ (uI _ _ (l1 _ _ h1) h2)) h2;have R7:m4 (ad k).s=some (.inst (A.cls 22) (oE (ad k) k (j0 ks k) b1 r1)):=by rw[<-JL,MH.af]
 have oF:=De _ _ (l3 _ _ hb2) hs1;have JM:=De _ _ hr1 Bb;have x4:jk A m0 m4 g G b c bl bn ad ks (λi=>if i=k then true else e i) S:=by
  have y:jk A m0 m4 g G b c bl bn ad ks (λi=>if i=k then true else e i) S:=by
   have yl:∀ a,a≠(ad k).s->∀ ob,m a=some ob->m4 a=some ob:=λa h1 ob h2=>big a ob h2 h1
   let m5:MH:=λa=>if a=(ad k).s then m a else m4 a
   have h5:m.le m5:=λa ob h1=>by
    change (if a=(ad k).s then m a else m4 a)=some ob;split
    .exact h1
    .exact big a ob h1 (by assumption)
   have x5:=x.C2 h5;refine x5.upd hk (λa h1 h2=>by change m4 a=(if a=(ad k).s then m a else m4 a);rw[if_neg h1]) ?_ (λi hik=>⟨by exact if_neg (by assumption),rfl⟩);simp only[if_true];refine ⟨⟨b1,r1,R7,λ_=>⟨λq=>?_,λq=>?_,oF,JM⟩⟩,big _ _ (x.st k hk).ah (λq=>by have:=(x.st k hk).ah;rw[q,hi] at this;cases this),⟨ep,big _ _ hv (λq=>by rw[q,hi] at hv;cases hv)⟩,(x.st k hk).mem,(x.st k hk).fs,(x.st k hk).fm⟩
   .rw[q,x.list] at D6;cases D6
   .rw[q] at kY;have:=uI _ _ (l1 _ _ x.list) (λq=>by have:=x.list;rw[q,hi] at this;cases this);rw[kY] at this;cases this
  exact y
 lk;clear JL De;ext m4;show cF T ef.toC 25;lk;show aA T 28 x4.self;lk;show aA T 22 R7;lk;refine Xu T o (xg.le x4.le) (zf (eg hn)) oF hcl (zm hcn (ao rfl)) λm6 b2 gw tp l6 R8 vo htp=>?_;have x6:=x4.C2 l6;have hvn:b2≠(ad k).mv:=λq=>by have:=big _ _ hv (λq=>by rw[q,hi] at hv;cases hv);rw[<-q,R8] at this;cases this
 have R9:=qD (Gr.za (G:=G) (G.bV (aR ks k)));have adl:(G.gf (aR ks k)).length<=8:=by unfold Gr.gf;rw[pA];exact Gr.CG o _
 have hS:∀ s∈G.gf (aR ks k),s∈G.syms (G.bV (aR ks k)):=λs hs=>jH.mp hs;change (G.gf (aR ks k)).Nodup at R9;generalize hK:aR ks k=ah at *
 generalize Sa:G.gf ah=Sy at *
 lk;clear l6 R8 dQ Iw hcl hcn hv hb1 hb2 hr1 oF;ext m6 b2 gw tp ah Sy;refine pH (ZA T.sys ?_);lk;have Ax:m6 b2=some (.dj (Sy.map λs:Nat=>((s:Int),V.ref (tp s))) gw):=by rw[vo,<-Sa];rfl
 refine ⟨b2,_,_,rfl,Ax,?_⟩;rw[ak];refine ⟨λ_=>[("behind",.ref b2),("self",.ref b),("state",.ref (ad k).s)],λj mm=>mm b2=some (.dj (Sy.map λs:Nat=>((s:Int),V.ref (tp s))) gw)/\(∀ s∈Sy,mm (tp s)=some (.tuple ((G.gK ah s).map vn)))/\
   ∃ dU,jk A m0 mm g G b c bl bn dU ((Sy.take j).foldl (G.iY ah) ks) (λi=>if i=k then true else e i) (λi=>if i=k then Sy.take j else S i)/\∀ i,i < ks.length->dU i=ad i,
  by k_in,⟨Ax,λs hs=>(htp s (hS s hs)).1,ad,?_,λ_ _=>rfl⟩,λj mm hp=>hp.1,?_,?_⟩
 .have e1:(λi=>if i=k then Sy.take 0 else S i)=S:=by
   funext i;split
   .rename_i q;rw[q,hkS];rfl
   .rfl
  rw[e1];exact x6
 .rintro j mm hj aG;ext j mm;show bO;intro QQ bP;ext QQ;obtain ⟨p1,p2,dU,y,ha⟩:=aG;ext dU;refine cy (w:=vn Sy[j]) (by change V.int ((Sy.map λs:Nat=>((s:Int),V.ref (tp s))).getD j (0,V.none)).1=_;rw[bM,bH,aH hj];rfl) (aM (ef.store ⋯) ?_);have cD:=take_snoc (aH hj);have hpre:=Ov G ah (Sy.take j) ks;have hlj:=ZP G ah (Sy.take j) ks;have hlt:(Sy.take j).length<=8:=aO (rK _ _) adl;have hkj:k < ((Sy.take j).foldl (G.iY ah) ks).length:=eZ hk hpre.length_le;have qY:=cW hj;generalize hKj:(Sy.take j).foldl (G.iY ah) ks=qZ at *
  have afh:dU k=ad k:=ha k hk;have adm:aR qZ k=ah:=by rw[zB hpre hk,hK]
  walk_at "set";show cG T 28 1 "Builder.number_of" y.self;lk;show GL p1 (by rw[zJ (λs=>V.ref (tp s)),if_pos qY]);lk;have hlk:ks.length<=qZ.length:=hpre.length_le;refine Mt T (zf (eg hn)) y (p2 _ qY) (zz hlj (zz (dO hlen hlt) (zb rfl))) (by change (if _=k then _ else _)=_;rw[if_neg (nu hkj)];exact (he _ hlk).1) (by change (if _=k then _ else _)=_;rw[if_neg (nu hkj)];exact (he _ hlk).2) λm7 Sb z Sd l7=>?_;have hz:fR qZ (G.gK ah Sy[j]) (Sy[j]:Nat)=G.iY ah qZ Sy[j]:=rfl;rw[hz] at z ⊢;have H8:=Hj qZ (G.gK ah Sy[j]) (Sy[j]:Nat);rw[hz] at H8;have Se:k < (G.iY ah qZ Sy[j]).length:=eZ hkj H8.length_le;have H9:Sb k=ad k:=(Sd k hkj).trans afh;have Df:aR (G.iY ah qZ Sy[j]) k=ah:=by rw[zB H8 hkj];exact adm
  have zk:=z.st k Se;obtain ⟨it7,rd7,D7,Qf⟩:=zk.inst;obtain ⟨ep7,s9⟩:=zk.mv;simp only[if_true] at s9 Qf;rw[Df] at s9;have Sf:b2≠bl/\b2≠bn:=by
   refine ⟨λq=>?_,λq=>?_⟩
   .rw[q,y.list] at p1;cases p1
   .obtain ⟨_,q'⟩:=y.nums;rw[q,q'] at p1;cases p1
  have Sg:∀ s∈Sy,tp s≠bl/\tp s≠bn:=λs hs=>by
   refine ⟨λq=>?_,λq=>?_⟩
   .have:=p2 s hs;rw[q,y.list] at this;cases this
   .obtain ⟨_,q'⟩:=y.nums;have:=p2 s hs;rw[q,q'] at this;cases this
  have p1':=l7 _ _ p1 (by rw[gv];exact λq=>q.elim Sf.1 Sf.2);have p2':∀ s∈Sy,m7 (tp s)=some (.tuple ((G.gK ah s).map vn)):=λs hs=>l7 _ _ (p2 s hs) (by rw[gv];exact λq=>q.elim (Sg s hs).1 (Sg s hs).2);rw[<-H9];show aA T 22 D7;lk;have hni:Sy[j]∉Sy.take j:=by intro hin;obtain ⟨q,hq,e⟩:=qv.mp hin;exact (qw.mp R9) q j (u9 hq) hj (nq hq) e
  refine Hf T.sys s9 (by unfold Gr.qh;rw[ak];exact zm hlt (ao rfl)) λep8=>?_;unfold Gr.qh;rw[GU (λs=>vn (oh (G.iY ah qZ Sy[j]) (G.gK ah s))) _ _ _ hni];subst bP;refine br (by rw[H9];k_in) ⟨?_,?_,Sb,?_,λi hi=>(Sd i (zl hi hlk)).trans (ha i hi)⟩
  .rw[MH.aC (by rw[H9];exact hvn)];exact p1'
  .intro s hs;rw[MH.aC (λq=>by have:=p2' s hs;rw[q,s9] at this;cases this)];exact p2' s hs
  .have ef':(Sy.take (j+1)).foldl (G.iY ah) ks=G.iY ah qZ Sy[j]:=by rw[cD,jh,hKj];rfl
   rw[ef'];refine z.upd Se (λa _ h2=>MH.aC h2) ?_ (λi hik=>⟨rfl,by simp[hik]⟩);simp only[if_true];refine ⟨⟨it7,rd7,?_,λ_=>?_⟩,?_,⟨ep8,?_⟩,?_,zk.fs,zk.fm⟩
   .rw[MH.aC (λq=>by rw[q,s9] at D7;cases D7)];exact D7
   .obtain ⟨r1,r2,r3,r4⟩:=Qf trivial;exact ⟨r1,r2,MH.ay r3 (λq=>by rw[q,s9] at r3;cases r3),MH.ay r4 (λq=>by rw[q,s9] at r4;cases r4)⟩
   .have:=zk.ah;rw[MH.aC (λq=>by rw[q,s9] at this;cases this)];exact this
   .rw[MH.af,Df,cD];unfold Gr.qh;rw[aV];rfl
   .intro s hs;rw[Df];rw[cD,bN,bQ] at hs;rcases hs with hs | hs
    .have:=zk.mem s (by simpa using hs);rw[Df] at this;exact this
    .rw[hs];exact NW _ _ _
 .rintro mm ⟨p1,p2,dU,y,ha⟩;rw[dW] at y;refine cX (h mm dU ?_ ha);unfold Gr.pI;rw[Sa];exact y
end
end
section
namespace Gr
variable (G:Gr)
noncomputable def bG:Nat->Ks
 | 0=>[([0],-1)]
 | i+1=>if i < (bG i).length then G.pI (bG i) (aR (bG i) i) else bG i
theorem Yc:G.bG (i+1)=if i < (G.bG i).length then G.pI (G.bG i) (aR (G.bG i) i) else G.bG i:=rfl
noncomputable def aU:Ks:=G.bG 200
noncomputable def su (ks:Ks):Prop:=∀ ah∈bw ks,(∀ it∈ah,it < G.M)/\ah.Pairwise (·< ·)
variable {G}
theorem mR {l:List Nat} (h:l.Pairwise (·< ·)):l.Nodup:=h.imp λq e=>mz q e
theorem W3 {l:List Nat} (h:l.Pairwise (·<=·)) (hn:l.Nodup):l.Pairwise (·< ·):=by have:=h.and hn;exact this.imp λ{a b} q=>by have:=q.1;have:=q.2;exact zd (by assumption) this
theorem NY {l:List Nat} (h:l.Nodup):(cN l).Pairwise (·< ·):=W3 (yQ l) (qD h)
theorem wj (h:ah.Nodup) (o:G.Ok):(G.bV ah).Nodup:=by unfold bV;rw[lG];refine ⟨qD h,qD (Gf ah),λa ha b hb e=>?_⟩;exact ((mQ o).mp (jH.mp hb)).1 (e▸jH.mp ha)
theorem GB {ah:List Nat} (o:G.Ok) (h1:∀ it∈ah,it < G.M) (h2:ah.Pairwise (·< ·)) (s:Nat):(∀ it∈G.gK ah s,it < G.M)/\(G.gK ah s).Pairwise (·< ·):=by unfold gK;refine ⟨λit hi=>aa0 o (jK o h1) (jH.mp hi),NY ?_⟩;unfold gc;exact mL (v9 (wj (mR h2) o)) λx _ y _ e=>RI e
theorem Y0 (h:G.su ks) (h1:∀ it∈ah,it < G.M) (h2:ah.Pairwise (·< ·)):G.su (fR ks ah sym):=by
 unfold fR;split
 .exact h
 .intro k hk;unfold bw at hk;rw[aV,bN] at hk;rcases hk with hk | hk
  .exact h k hk
  .rw[bq,ue,bQ] at hk;subst hk;exact ⟨h1,h2⟩
theorem W4 (o:G.Ok) (h:G.su ks) (h1:∀ it∈ah,it < G.M) (h2:ah.Pairwise (·< ·)):G.su (G.pI ks ah):=by
 unfold pI;have:∀ (l:List Nat) ks,G.su ks->G.su (l.foldl (G.iY ah) ks):=by
  intro l;induction l with
  | nil=>intro ks h;exact h
  | cons a l ih=>intro ks h;exact ih _ (Y0 h (GB o h1 h2 a).1 (GB o h1 h2 a).2)
 exact this _ _ h
theorem rU (h:i < ks.length):aR ks i∈bw ks:=by unfold aR;rw[bM,aH (by rw[rY];exact h)];exact cW _
theorem ado (o:G.Ok):0 < G.M:=by have:=r6 (G:=G) (r:=0) (d:=0) (by have:=o.r4;exact lV this) (bk _);exact lV this
theorem kE (o:G.Ok):∀ i,G.su (G.bG i):=by
 intro l_;induction l_ with
 | zero=>
  intro k hk;have:k=[0]:=by simpa[bw] using (show k∈bw [([0],-1)] from hk)
  subst this;exact ⟨λit hi=>by have:=ado o;simp at hi;exact fK hi this,by exact of_decide_eq_true rfl⟩
 | succ i iJ=>
  have ih:=iJ;rw[Yc];split
  .rename_i q;have:=ih _ (rU q);exact W4 o ih this.1 this.2
  .exact ih
theorem Y3 (i:Nat):G.bG i <+: G.bG (i+1):=by
 change _ <+: (if i < (G.bG i).length then G.pI (G.bG i) (aR (G.bG i) i) else G.bG i);split
 .exact Ov _ _ _ _
 .exact Ca _
theorem W5 (h:(G.bG i).length<=i):∀ j,i<=j->G.bG j=G.bG i:=by
 intro l_;induction l_ with
 | zero=>
  intro hj;rw[show i=0 by exact AR hj]
 | succ j iJ=>
  intro hj;by_cases q:i=j+1
  .rw[q]
  .have ih:=iJ (DQ hj q);change (if j < (G.bG j).length then G.pI (G.bG j) (aR (G.bG j) j) else G.bG j)=_;rw[ih,if_neg (ie (zz h (DQ hj q)))]
theorem wo {ks:Ks} {i:Nat} (o:G.Ok) (h:G.su ks) (hi:i < ks.length):(aR ks i).length<=20:=by have:=h _ (rU hi);exact aO (jM (mR this.2) this.1) (n8 o)
structure Small (G:Gr):Prop where
 len:∀ i,(G.bG i).length<=100
end Gr
structure StR (A:TA) (m:MH) (G:Gr) (sa:SA) (i:Nat) (ks:Ks):Prop where
 inst:∃ it rd,m sa.s=some (.inst (A.cls 22) (oE sa i (j0 ks i) it rd))/\m it=some (.list ((G.bV (aR ks i)).map vn))/\m rd=some (.list ((G.dJ (aR ks i)).map vn))
 ah:m sa.k=some (.tuple ((aR ks i).map vn))
 mv:∃ ep,m sa.mv=some (.dj (G.qh ks (aR ks i) (G.gf (aR ks i))) ep)
noncomputable def kK (A:TA) (m:MH) (g:GA) (G:Gr) (u:Addr) (ad:Nat->SA):Prop:=
 ∃ bl,m u=some (.inst (A.cls 27) [("grammar",.ref g.g),("states",.ref bl)])/\m bl=some (.list ((aj G.aU.length).map λi=>.ref (ad i).s))/\∀ i,i < G.aU.length->StR A m G (ad i) i G.aU
theorem kK.le {A:TA} {m m':MH} {g:GA} {G:Gr} {u:Addr} {ad:Nat->SA} (x:kK A m g G u ad) (h:m.le m'):kK A m' g G u ad:=by obtain ⟨bl,h1,h2,h3⟩:=x;refine ⟨bl,h _ _ h1,h _ _ h2,λi hi=>?_⟩;obtain ⟨⟨it,rd,q1,q2,q3⟩,q4,⟨ep,q5⟩⟩:=h3 i hi;exact ⟨⟨it,rd,h _ _ q1,h _ _ q2,h _ _ q3⟩,h _ _ q4,⟨ep,h _ _ q5⟩⟩
section
variable {C:Cx} {A:TA} {n:Nat} {m0 m:MH} {Q:V->MH->Prop} {g:GA} {G:Gr} {b c bl bn:Addr} {ad:Nat->SA}
theorem Yd (T:aS C A) (o:G.Ok) (sm:G.Small) (xg:cU A m0 g G) (hn:8<=n) (x:jk A m0 m g G b c bl bn ad [] (λ_=>false) (λ_=>[]))
  (h:∀ m' u dU,m0.le m'->m0 u=none->kK A m' g G u dU->(∀ i,i < G.aU.length->∀ s∈G.gf (aR G.aU i),G.gK (aR G.aU i) s∈bw G.aU)->Q (.ref u) m'):FC C (A.bZ 28 3) n [.ref b] m Q:=by
 ext C A n m0 m Q g G b c bl bn ad;refine dX T 28 3 "built" "Builder.built" ["self"] (eW hn) rfl (λenv ef=>?_) (by walk_at "bd1");k_is;ext env;obtain ⟨tN,hN⟩:=T.Pk;lk;show cG T 28 1 "Builder.number_of" x.self;lk;show eE;lk;show kH T 9 6 "Grammar.item";refine aA T 28 x.self ⟨_,_,rfl,(xg.le x.le).self,rfl,?_⟩;lk;show zA (r:=0) (d:=0) T o (xg.le x.le) (aK (bK hn)) (by have:=o.r4;exact lV this);lk;rw[Gr.Gw o];refine ⟨by exact fF _,λkk hkk=>?_⟩;have l1:m.le (m.set kk (.tuple [vn 0])):=MH.av hkk;lk;show zD (ef.kind (by rfl)) hN rfl;lk;refine Mt (ah:=[0]) T (aK (bK hn)) (x.C2 l1) (MH.af _ _ _) (by simp) rfl rfl λm2 Sh y _ _=>?_;have e0:fR [] [0] (-1)=G.bG 0:=rfl;rw[e0] at y;have y0:jk A m0 m2 g G b c bl bn Sh (G.bG 0) (λi=>decide (i < 0)) (λi=>if i < 0 then G.gf (aR (G.bG 0) i) else []):=by assumption
 lk;refine qG (λk L mm=>∃ at_ ad,k=200 - at_/\at_<=100/\L=([("at",vn at_),("self",.ref b)]:Loc)/\jk A m0 mm g G b c bl bn ad (G.bG at_) (λi=>decide (i < at_)) (λi=>if i < at_ then G.gf (aR (G.bG at_) i) else [])/\at_<=(G.bG at_).length) _
  [("at",vn 0),("self",.ref b)] (by k_in) ⟨0,Sh,rfl,aI,rfl,y0,zg qc⟩ ?_
 rintro k L mm aG;ext k L mm;show qW;intro QQ qe;ext QQ;obtain ⟨at_,Si,rfl,hat,rfl,z,hle⟩:=aG;have hsm:=sm.len at_;lk;ext at_ Si;show bY T ef.toC (by rfl);lk;show aA T 28 z.self;lk;show fz z.list (by rw[ak,aN];exact zm hsm (ao rfl));rw[ak,aN];refine sD ⟨_,rfl,λhb=>?_,λhb=>?_⟩
 .have hlt:at_ < (G.bG at_).length:=by simpa using hb
  have hg:=Gr.kE o at_;lk;show cG T 28 2 "Builder.expand" z.self;lk;show aA T 28 z.self;lk;show aJ z.list (aW _ hlt) (by rw[ak,aN];exact zm hsm (ao rfl));lk;refine Xv T o xg (zf (eg hn)) z hlt (zz hsm aI) (λi hi=>⟨by simp;exact zz hle hi,by rw[if_neg (ie (zz hle hi))]⟩) (by simp) (hg _ (Gr.rU hlt)).1 (Gr.wo o hg hlt) λm4 Sj w _=>?_;have e1:G.pI (G.bG at_) (aR (G.bG at_) at_)=G.bG (at_+1):=by change _=(if at_ < (G.bG at_).length then G.pI (G.bG at_) (aR (G.bG at_) at_) else G.bG at_);rw[if_pos hlt]
  rw[e1] at w;have hpre:=Gr.Y3 (G:=G) at_;have ahZ:=sm.len (at_+1);have hl1:=hpre.length_le;lk;show lP;ext m4 Sj;subst qe;refine fB [("at",vn (at_+1)),("self",.ref b)] (by k_in) ⟨200 - (at_+1),sR (zl hlt (zz hsm (zb rfl))),at_+1,Sj,rfl,zz hlt hsm,rfl,?_,zz hlt hl1⟩;have f1:(λi=>if i=at_ then true else decide (i < at_))=λi=>decide (i < at_+1):=by
   funext i;by_cases q:i=at_
   .simp[q]
   .rw[if_neg q,decide_eq_decide];exact ⟨zt,λh=>cY h q⟩
  have f2:(λi=>if i=at_ then G.gf (aR (G.bG at_) at_) else if i < at_ then G.gf (aR (G.bG at_) i) else [])=λi=>if i < at_+1 then G.gf (aR (G.bG (at_+1)) i) else []:=by
   funext i;by_cases q:i=at_
   .subst q;rw[if_pos rfl,if_pos zx,zB hpre hlt]
   .rw[if_neg q];by_cases q2:i < at_
    .rw[if_pos q2,if_pos (zt q2),zB hpre (zl q2 hle)]
    .rw[if_neg q2,if_neg (ie (zd (zg q2) (xC q)))]
  rw[f1,f2] at w;exact w
 .have hge:(G.bG at_).length<=at_:=by simpa using hb
  have heq:(G.bG at_).length=at_:=kT hge hle;have JN:G.aU=G.bG at_:=Gr.W5 hge 200 (zz hat aI);lk;show pG T ef.toC 27 (aK (bK hn));lk;show aA T 28 z.self;lk;show aA T 28 z.self;lk;intro u hu;ext u;refine dX T 27 0 "__init__" "Automaton.__init__" ["self","grammar","states"] (by omega) rfl (λenv ef=>?_) (by walk_at "bd3");k_is
  (revert ef;clear ef;intro ef);clear ef;ext env
  show b7 T 27;lk;refine ⟨u,_,rfl,MH.af _ _ _,by simp,?_⟩;have ea:cj "grammar" (.ref g.g) ([]:Loc)=([("grammar",.ref g.g)]:Loc):=rfl;rw[ea];show b7 T 27;lk;refine ⟨u,_,rfl,MH.af _ _ _,by exact of_decide_eq_true rfl,cX ⟨rfl,?_⟩⟩;simp only[MH.set_set];have eb:cj "states" (.ref bl) ([("grammar",.ref g.g)]:Loc)=([("grammar",.ref g.g),("states",.ref bl)]:Loc):=rfl;rw[eb];have lu:=MH.av (o:=.inst (A.cls 27) [("grammar",.ref g.g),("states",.ref bl)]) hu;lk;refine h _ u Si (z.le.trans lu) (z.le.new hu) ⟨bl,MH.af _ _ _,?_,λi hi=>?_⟩ λi hi s hs=>?_
  .rw[JN];exact lu _ _ z.list
  .rw[JN] at hi ⊢;have y:=z.st i hi;have mD:i < at_:=zl hi hge
   (revert y;clear y;intro y);clear hi;ext i
   obtain ⟨it,rd,q1,q2⟩:=y.inst;obtain ⟨_,_,q3,q4⟩:=q2 (by simpa using mD);obtain ⟨ep,q5⟩:=y.mv;simp only[mD,if_true] at q5;exact ⟨⟨it,rd,lu _ _ q1,lu _ _ q3,lu _ _ q4⟩,lu _ _ y.ah,⟨ep,lu _ _ q5⟩⟩
  .rw[JN] at hi hs ⊢;have mD:i < at_:=zl hi hge;exact (z.st i hi).mem s (by simp only[mD,if_true];exact hs)
theorem M5 (T:aS C A) (o:G.Ok) (sm:G.Small) (xg:cU A m g G) (hn:9<=n)
  (h:∀ m' u dU,m.le m'->m u=none->kK A m' g G u dU->(∀ i,i < G.aU.length->∀ s∈G.gf (aR G.aU i),G.gK (aR G.aU i) s∈bw G.aU)->Q (.ref u) m'):FC C (A.f 29) n [.ref g.g] m Q:=by
 ext C A n m Q g G;refine eG T 29 "build" ["grammar"] (eW hn) rfl (λenv ef=>?_) (by walk_at "bd1");k_is;lk;ext env;show kH T 28 3 "Builder.built";show pG T ef.toC 28 (aK (bK hn));lk;intro b hb;ext b;refine dX T 28 0 "__init__" "Builder.__init__" ["self","grammar"] (aK (zpp (eW hn))) rfl (λenv ef=>?_) (by walk_at "bd2");k_is
 (revert ef;clear ef;intro ef);ext env
 show b7 T 28;lk;refine ⟨b,_,rfl,MH.af _ _ _,by simp,?_⟩;have e1:cj "grammar" (.ref g.g) ([]:Loc)=([("grammar",.ref g.g)]:Loc):=rfl;rw[e1,MH.set_set];have l1:m.le (m.set b (.inst (A.cls 28) [("grammar",.ref g.g)])):=MH.av hb;show b7 T 28;show pG T ef.toC 23 ((U6 (zz (zb rfl) hn):1<=n - 3));lk;intro c hc;ext c;refine Xr T o (xg.le l1) (U6 (zz (zb rfl) hn):4<=n - 4) hc λm2 l2 hcl=>⟨rfl,?_⟩;have hb2:=l2 _ _ (MH.af m b _);have hbc:b≠c:=MH.aE (MH.af _ b _) hc;have JO:m c=none:=l1.new hc;lk;ext m2;refine ⟨b,_,rfl,hb2,by exact of_decide_eq_true rfl,?_⟩;have e2:cj "closer" (.ref c) ([("grammar",.ref g.g)]:Loc)=([("grammar",.ref g.g),("closer",.ref c)]:Loc):=rfl;rw[e2];show b7 T 28;refine bR (cM ⟨by simp,λbl fV=>?_⟩);have Ay:b≠bl:=MH.aE (MH.af _ b _) fV;have Ia:m2 bl=none:=by rw[MH.aC Ay.symm] at fV;exact fV
 lk;clear fV;ext bl;refine ⟨b,_,rfl,MH.ay (MH.af _ _ _) Ay,by exact of_decide_eq_true rfl,?_⟩;have e3:cj "states" (.ref bl) ([("grammar",.ref g.g),("closer",.ref c)]:Loc)=([("grammar",.ref g.g),("closer",.ref c),("states",.ref bl)]:Loc):=rfl;rw[e3];show b7 T 28;refine qH (.bE [] 0) (.inr (.inl rfl)) λbn hbn=>?_;have Dn:b≠bn:=MH.aE (MH.af _ b _) hbn;have Pq:bl≠bn:=MH.aE (MH.ay (MH.af _ bl _) Ay.symm) hbn;have Pu:m2 bn=none:=by rw[MH.aC Dn.symm,MH.aC Pq.symm,MH.aC Dn.symm] at hbn;exact hbn
 lk;clear hbn;ext bn;refine ⟨b,_,rfl,MH.ay (MH.af _ _ _) Dn,by exact of_decide_eq_true rfl,?_⟩;have e4:cj "numbers" (.ref bn) ([("grammar",.ref g.g),("closer",.ref c),("states",.ref bl)]:Loc)=([("grammar",.ref g.g),("closer",.ref c),("states",.ref bl),("numbers",.ref bn)]:Loc):=rfl;rw[e4];refine cX ⟨rfl,b,_,rfl,MH.af _ _ _,rfl,?_⟩;lk;have old:∀ a ob,m2 a=some ob->a≠b->(((((m2.set b (.inst (A.cls 28) [("grammar",.ref g.g),("closer",.ref c)])).set bl (.list [])).set b (.inst (A.cls 28) [("grammar",.ref g.g),("closer",.ref c),("states",.ref bl)])).set bn (.bE [] 0)).set b (.inst (A.cls 28) [("grammar",.ref g.g),("closer",.ref c),("states",.ref bl),("numbers",.ref bn)])) a=some ob:=λa ob h1 h2=>by rw[MH.aC h2,MH.aC (MH.aE h1 Pu),MH.aC h2,MH.aC (MH.aE h1 Ia),MH.aC h2];exact h1
 have tg:m.le m2:=l1.trans l2;refine Yd (m0:=m) (ad:=λ_=>⟨0,0,0⟩) (c:=c) (bl:=bl) (bn:=bn) T o sm xg (aK hn) ⟨λa ob h1=>old a ob (tg _ _ h1) (MH.aE h1 hb),MH.af _ _ _,?_,?_,⟨0,?_⟩,λi hi=>by simp at hi,λi j hi=>by simp at hi,?_,hb,JO,tg.new Ia,tg.new Pu⟩ h
 .obtain ⟨f,c1,c2⟩:=hcl;exact ⟨f,old _ _ c1 hbc.symm,old _ _ c2 (λq=>by rw[q,hb2] at c2;cases c2)⟩
 .rw[MH.aC Ay.symm,MH.aC Pq,MH.aC Ay.symm,MH.af];rfl
 .rw[MH.aC Dn.symm,MH.af];rfl
 .intro f hf q;ext f;obtain ⟨f',c1,c2⟩:=hcl;have:=old _ _ c1 hbc.symm;rw[hf] at this;cases this;rw[q,Ia] at c2;cases c2
end
end
section
theorem jI (h:z∉ys):∀ y v,(f9 loc ys).lookup y=some v->((z,w)::f9 loc ys).lookup y=some v:=λy v hy=>by
 have:=(F5 hy).1;have hne:(y==z)=false:=by
  cases q:y==z with
  | false=>rfl
  | true=>rw[beq_iff_eq.mp q] at this;exact absurd this h
 rw[iO,hne];exact hy
theorem Wd (ef:fZ env dD) (ok:qK dD sc) (hk:mY env y)
  (h:WI C n env iter loc m (Ah C n loc sc target elt ifs λacc mm=>∀ a,mm a=none->WS C n env ss ((y,.ref a)::loc) (mm.set a (.list acc)) Q))
  (hsw:∀ env':Env,env'.scope=dD->swapsWith (.ListComp elt [⟨target,iter,ifs,0⟩] sc pos) (some (.Name y py)) spos.line env'=pure true)
  (hs:∀ x,foldedSetIterable iter env x=pure x:=by walk_at "ir"):WS C n env (.Assign [.Name y py] (.ListComp elt [⟨target,iter,ifs,0⟩] sc pos) spos::ss) loc m Q:=
 jX (FE ef ok hk h (hsw env ef.scope) hs)
inductive cu (G:Gr):Nat->Prop
 | mk (r:Nat) (hr:r < G.R) (h:∀ y∈G.ai r,cu G y):cu G (G.aq r)
namespace Gr
open Classical in
noncomputable def nul (G:Gr) (x:Nat):Bool:=decide (cu G x)
theorem uA:G.nul x=true↔cu G x:=by unfold nul;simp
noncomputable def pQ (G:Gr) (x k:Nat):List Nat:=(aj k).flatMap λr=>iP ((G.ai r).count x) r
noncomputable def nC (G:Gr) (x:Nat):List Nat:=G.pQ x G.R
variable {G:Gr}
theorem GC (x k:Nat):G.pQ x (k+1)=G.pQ x k++iP ((G.ai k).count x) k:=by unfold pQ;rw[jD,vX];simp
theorem ZQ:r∈G.pQ x k↔r < k/\x∈G.ai r:=by
 ext G x k r;unfold pQ;rw[nQ];constructor
 .rintro ⟨r',h1,h2⟩;obtain ⟨h3,rfl⟩:=Vr.mp h2;exact ⟨by simpa using h1,Vs.mp (z0 h3)⟩
 .rintro ⟨h1,h2⟩;exact ⟨r,by simpa using h1,Vr.mpr ⟨by have:=Vs.mpr h2;exact nu this,rfl⟩⟩
theorem Ye (x:Nat):∀ k r,(G.pQ x k).count r=if r < k then (G.ai r).count x else 0:=by
 intro l_;induction l_ with
 | zero=>
  intro r;rfl
 | succ k ih=>
  intro r;rw[GC,Fd,ih r,List.count_replicate];by_cases q:r=k
  .subst q;simp
  .have:¬ (k==r)=true:=by simpa using λe=>q e.symm
   rw[if_neg this];by_cases q2:r < k
   .rw[if_pos q2,if_pos (zt q2)];rfl
   .rw[if_neg q2,if_neg (ie (zd (zg q2) (xC q)))]
theorem Nv (h:r < G.R):(G.nC x).count r=(G.ai r).count x:=by unfold nC;rw[Ye,if_pos h]
theorem ZR (o:G.Ok) (x:Nat):∀ k,(G.pQ x k).length<=3*k:=by
 intro l_;induction l_ with
 | zero=>
  exact bk _
 | succ k ih=>
  rw[GC,cQ,yz];exact dO (ih) (zz U7 (o.len k))
end Gr
structure mE (G:Gr) (m0 mm:MH) (fo lk ua qa:Addr) (us:Nat->Addr) (F:Nat->Bool) (Lk:Nat->Nat) (q:List Nat):Prop where
 le:m0.le mm
 f:mm fo=some (.list ((aj G.N).map λx=>.bool (F x)))
 l:mm lk=some (.list ((aj G.R).map λr=>vn (Lk r)))
 u:mm ua=some (.list ((aj G.N).map λx=>.ref (us x)))
 uf:∀ x,x < G.N->mm (us x)=some (.list ((G.nC x).map vn))
 q:mm qa=some (.list (q.map vn))
 d:fo≠lk/\fo≠ua/\fo≠qa/\lk≠ua/\lk≠qa/\ua≠qa
 du:∀ x,x < G.N->us x≠fo/\us x≠lk/\us x≠qa
 n:m0 fo=none/\m0 lk=none/\m0 qa=none
theorem mE.Qg {G:Gr} {m0 mm:MH} {fo lk ua qa:Addr} {us:Nat->Addr} {F:Nat->Bool} {Lk:Nat->Nat} {q:List Nat} (x:mE G m0 mm fo lk ua qa us F Lk q) (y:Nat) :
  mE G m0 (mm.set fo (.list (((aj G.N).map λx=>V.bool (F x)).set y (.bool true)))) fo lk ua qa us (λx=>if x=y then true else F x) Lk q where
 le:=x.le.set x.n.1
 f:=by rw[MH.af,rW];congr 2;apply fD;intro z _;by_cases h:z=y<;>simp[h]
 l:=MH.ay x.l x.d.1.symm
 u:=MH.ay x.u x.d.2.symm
 uf:=λz hz=>MH.ay (x.uf z hz) (x.du z hz).1
 q:=MH.ay x.q x.d.3.symm
 d:=x.d
 du:=x.du
 n:=x.n
theorem mE.afi {G:Gr} {m0 mm:MH} {fo lk ua qa:Addr} {us:Nat->Addr} {F:Nat->Bool} {Lk:Nat->Nat} {q:List Nat} (x:mE G m0 mm fo lk ua qa us F Lk q) (y v:Nat) :
  mE G m0 (mm.set lk (.list (((aj G.R).map λr=>vn (Lk r)).set y (vn v)))) fo lk ua qa us F (λr=>if r=y then v else Lk r) q where
 le:=x.le.set x.n.2
 f:=MH.ay x.f x.d.1
 l:=by rw[MH.af,rW];congr 2;apply fD;intro z _;by_cases h:z=y<;>simp[h]
 u:=MH.ay x.u x.d.4.symm
 uf:=λz hz=>MH.ay (x.uf z hz) (x.du z hz).2
 q:=MH.ay x.q x.d.5.symm
 d:=x.d
 du:=x.du
 n:=x.n
theorem mE.Qh {G:Gr} {m0 mm:MH} {fo lk ua qa:Addr} {us:Nat->Addr} {F:Nat->Bool} {Lk:Nat->Nat} {q:List Nat} (x:mE G m0 mm fo lk ua qa us F Lk q) (y:Nat) :
  mE G m0 (mm.set qa (.list (q.map vn++[vn y]))) fo lk ua qa us F Lk (q++[y]) where
 le:=x.le.set x.n.3
 f:=MH.ay x.f x.d.3
 l:=MH.ay x.l x.d.5
 u:=MH.ay x.u x.d.6
 uf:=λz hz=>MH.ay (x.uf z hz) (x.du z hz).3
 q:=by rw[MH.af,aV];rfl
 d:=x.d
 du:=x.du
 n:=x.n
structure qQ (G:Gr) (F:Nat->Bool) (q:List Nat):Prop where
 fq:∀ x,x < G.N->F x=decide (x∈q)
 nd:q.Nodup
 qn:∀ x∈q,x < G.N/\cu G x
theorem qQ.add (h:qQ G F q) (hy:y < G.N) (hn:cu G y) (hq:y∉q):qQ G (λx=>if x=y then true else F x) (q++[y]) where
 fq:=λx hx=>by
  by_cases e:x=y
  .subst e;simp
  .simp only[e,if_false,h.fq x hx,bN,bQ,or_false]
 nd:=by rw[lG];exact ⟨h.nd,by exact of_decide_eq_true rfl,λa ha b hb e=>hq (by rw[bQ] at hb;rw[<-hb,<-e];exact ha)⟩
 qn:=λx hx=>by
  rcases bN.mp hx with hx | hx
  .exact h.qn x hx
  .rw[bQ.mp hx];exact ⟨hy,hn⟩
theorem qQ.len (h:qQ G F q):q.length<=G.N:=jM h.nd λx hx=>(h.qn x hx).1
noncomputable def lT (G:Gr) (p:List Nat) (r:Nat):Nat:=((G.ai r).filter λy=>!decide (y∈p)).length
theorem Gh (G:Gr) (hx:x∉p) (r:Nat):lT G (p++[x]) r+(G.ai r).count x=lT G p r:=by
 ext p x G r;unfold lT;induction G.ai r with
 | nil=>rfl
 | cons a l ih=>
  rw[oX,oX,List.count_cons];by_cases h1:a=x
  .subst h1;simp[hx] at ih ⊢;exact congrArg (·+ 1) ih
  .have h2:¬ (a==x)=true:=by simpa using h1
   by_cases h3:a∈p<;>simp[h1,h3] at ih ⊢ <;> first | exact DT.trans (congrArg (·+ 1) ih) | omega
theorem Yg (h:lT G p r=0):∀ y∈G.ai r,y∈p:=by unfold lT at h;rw[BO,vP] at h;intro y hy;have:=h y hy;simpa using this
theorem ZS (h:qQ G F q) (h4:∀ r,r < G.R->lT G q r=0->G.aq r∈q) (hx:x < G.N):F x=G.nul x:=by
 rw[h.fq x hx];have:∀ z,cu G z->z∈q:=by
  intro z hz;induction hz with
  | mk r hr _ ih=>
   show h4 r hr;unfold lT;rw[BO,vP];intro y hy;simpa using ih y hy
 have e:G.nul x=true↔x∈q:=Gr.uA.trans ⟨this x,λhq=>(h.qn x hq).2⟩;rw[yM,e];simp
end
section
theorem Y4 (G:Gr) (r:Nat):lT G [] r=(G.ai r).length:=by unfold lT;congr 1;rw[tX];simp
section
variable {C:Cx} {A:TA} {n:Nat} {m:MH} {Q:V->MH->Prop} {g:GA} {G:Gr}
theorem Xw (T:aS C A) (o:G.Ok) (x:cU A m g G) (hn:2<=n) (hk:m kn=some (.list ((aj G.N).map λ_=>.bool false))) (h:∀ m' b,m.le m'->m b=none->m' b=some (.list ((aj G.N).map λy=>.bool (G.nul y)))->Q (.ref b) m'):FC C (A.f 14) n [.ref g.g,.ref kn] m Q:=by
 have hN:=Gr.N8 o;have hR:=o.r5;ext C A n m Q g G kn;refine eG T 14 "spread" ["grammar","known"] (zf hn) rfl (λenv ef=>?_) (by walk_at "bd2");k_is;lk;ext env;show mO T ef.toC (by rfl);lk;refine v8 hk (by simp;exact zz hN aI) λfo hfo=>?_;have l1:m.le (m.set fo (.list ((aj G.N).map λ_=>.bool false))):=MH.av hfo;lk;ext fo;refine bR (cM ⟨by exact bk _,λlk hlk=>?_⟩);have hfl:fo≠lk:=MH.aE (MH.af _ fo _) hlk;have l2:=l1.trans (MH.av (o:=.list []) hlk);have f2:=MH.ay (o':=.list []) (MH.af m fo (.list ((aj G.N).map λ_=>.bool false))) hfl;have k2:=MH.af (m.set fo (.list ((aj G.N).map λ_=>.bool false))) lk (.list []);generalize (m.set fo (.list ((aj G.N).map λ_=>.bool false))).set lk (.list [])=m2 at l2 f2 k2 ⊢;ext lk m2;refine Wd ef ⟨by decide +kernel,by decide +kernel,by decide +kernel,by decide +kernel,by rfl⟩ (ef.store ⋯) (uy ?_) (by walk_at "swc");lk;refine ⟨fo,_,rfl,f2,by simp;exact zz hN aI,λi acc mm=>∃ us:Nat->Addr,acc=(aj i).map (λz=>V.ref (us z))/\m2.le mm/\(∀ z,z < i->mm (us z)=some (.list [])/\m2 (us z)=none)/\∀ z w,z < i->w < i->us z=us w->z=w,
  ⟨λ_=>0,rfl,λ_ _ q=>q,λz hz=>(kc hz).elim,λz w hz=>(kc hz).elim⟩,λi acc mm z_=>by obtain ⟨_,_,hl,_,_⟩:=z_;exact hl _ _ f2,?_,?_⟩
 .rintro cenv ec i acc mm hi ⟨us,rfl,hl,hu,hj⟩;ext cenv i mm us;refine aM (ec.store ⋯) ⟨jI (by decide),?_⟩;simp only[zZ,if_true];refine bR (cM ⟨by exact bk _,λe he=>?_⟩);ext e;refine ⟨λz=>if z=i then e else us z,?_,hl.trans (MH.av he),λz hz=>?_,λz w hz hw=>?_⟩
  .rw[jD,aV];congr 1
   .apply fD;intro z hz;have:z≠i:=by have:=jV.mp hz;exact kU this
    simp[this]
   .simp
  .by_cases q:z=i
   .subst q;simp only[if_true];exact ⟨MH.af _ _ _,hl.new he⟩
   .simp only[q,if_false];obtain ⟨q1,q2⟩:=hu z (cY hz q);exact ⟨MH.ay q1 (MH.aE q1 he),q2⟩
  .by_cases q:z=i<;>by_cases q':w=i
   .exact λ_=>q.trans q'.symm
   .simp only[q,q',if_true,if_false];intro ee;have:=(hu w (cY hw q')).1;rw[<-ee,he] at this;cases this
   .simp only[q,q',if_true,if_false];intro ee;have:=(hu z (cY hz q)).1;rw[ee,he] at this;cases this
   .simp only[q,q',if_false];exact hj z w (cY hz q) (cY hw q')
 rintro acc mm ⟨us,rfl,hl,hu,hinj⟩ ua vp;ext mm us ua;simp only[ak,aN] at hu hinj ⊢;have f3:=MH.ay (o':=.list ((aj G.N).map λz=>V.ref (us z))) (hl _ _ f2) (MH.aE (hl _ _ f2) vp);have k3:=MH.ay (o':=.list ((aj G.N).map λz=>V.ref (us z))) (hl _ _ k2) (MH.aE (hl _ _ k2) vp);have u3:=MH.af mm ua (.list ((aj G.N).map λz=>V.ref (us z)));have tw:∀ z,z < G.N->(mm.set ua (.list ((aj G.N).map λz=>V.ref (us z)))) (us z)=some (.list []):=λz hz=>MH.ay (hu z hz).1 (MH.aE (hu z hz).1 vp);have hfu:fo≠ua:=MH.aE (hl _ _ f2) vp;have Sk:lk≠ua:=MH.aE (hl _ _ k2) vp;have l3:=(l2.trans hl).trans (MH.av (o:=.list ((aj G.N).map λz=>V.ref (us z))) vp);have D8:∀ z,z < G.N->us z≠fo/\us z≠lk/\us z≠ua:=λz hz=>(by
  ext z;refine ⟨λe=>?_,λe=>?_,λe=>?_⟩
  .have:=(hu z hz).2;rw[e,f2] at this;cases this
  .have:=(hu z hz).2;rw[e,k2] at this;cases this
  .have:=(hu z hz).1;rw[e,vp] at this;cases this)
 have usn:∀ z,z < G.N->m (us z)=none:=λz hz=>l2.new (hu z hz).2;have hnl:m lk=none:=l1.new hlk;generalize mm.set ua (.list ((aj G.N).map λz=>V.ref (us z)))=m3 at f3 k3 u3 tw l3 ⊢;lk;ext m3;refine bR (cM ⟨by exact bk _,λqa eH=>?_⟩);have f4:=MH.ay (o':=.list []) f3 (MH.aE f3 eH);have k4:=MH.ay (o':=.list []) k3 (MH.aE k3 eH);have u4:=MH.ay (o':=.list []) u3 (MH.aE u3 eH);have q4:=MH.af m3 qa (.list []);have xP:∀ z,z < G.N->(m3.set qa (.list [])) (us z)=some (.list []):=λz hz=>MH.ay (tw z hz) (MH.aE (tw z hz) eH);have d1:=MH.aE f3 eH;have d2:=MH.aE k3 eH;have d3:=MH.aE u3 eH;have d4:∀ z,z < G.N->us z≠qa:=λz hz=>MH.aE (tw z hz) eH;have l4:=l3.trans (MH.av (o:=.list []) eH);have hqn:m qa=none:=l3.new eH;generalize m3.set qa (.list [])=m4 at f4 k4 u4 q4 xP l4 ⊢;clear eH;ext qa m4;refine dw (λ_=>[("queue",.ref qa),("users",.ref ua),("lacking",.ref lk),("found",.ref fo),("grammar",.ref g.g),("known",.ref kn)])
  (λi mm=>m.le mm/\mm fo=some (.list ((aj G.N).map λ_=>.bool false))/\mm lk=some (.list ((aj i).map λr=>vn (G.ai r).length))/\mm ua=some (.list ((aj G.N).map λz=>V.ref (us z)))/\mm qa=some (.list [])/\
   ∀ z,z < G.N->mm (us z)=some (.list ((G.pQ z i).map vn))) (cC (λr=>V.ref (g.ru r)) (aj G.R) ?_)
 show aA T 9 (x.le l4).self;refine ⟨_,rfl,(x.le l4).rules,by k_in,⟨l4,f4,k4,u4,q4,xP⟩,λi mm hp=>(x.le hp.1).rules,?_,?_⟩
 .rintro i mm hi aG;ext i mm;show bO;intro QQ bP;ext QQ;obtain ⟨p1,p2,p3,p4,p5,p6⟩:=aG;rw[aN] at hi;ext QQ;refine cy (qO _ hi) (aM (ef.store ⋯) ?_);obtain ⟨lv,d9⟩:=(x.le p1).rule;have hlen:=o.len i;lk;refine dw (λj=>[("missing",vn j),("rule",.ref (g.ru i)),("queue",.ref qa),("users",.ref ua),("lacking",.ref lk),("found",.ref fo),("grammar",.ref g.g),("known",.ref kn)])
   (λj mm=>m.le mm/\mm fo=some (.list ((aj G.N).map λ_=>.bool false))/\mm lk=some (.list ((aj i).map λr=>vn (G.ai r).length))/\mm ua=some (.list ((aj G.N).map λz=>V.ref (us z)))/\mm qa=some (.list [])/\
    ∀ z,z < G.N->mm (us z)=some (.list ((G.pQ z i++iP (((G.ai i).take j).count z) i).map vn))) (Cz vn (G.ai i) ?_)
  show aA T 8 (d9 i hi);refine ⟨_,rfl,(x.le p1).right i hi,by k_in,⟨p1,p2,p3,p4,p5,by simpa using p6⟩,λj mm hp=>(x.le hp.1).right i hi,?_,?_⟩
  .rintro j mm hj aG;ext j mm;show bO;intro QQ bT;obtain ⟨q1,q2,q3,q4,q5,q6⟩:=aG;refine cy (getD_map hj) (aM (ef.store ⋯) ?_);have cZ:=o.rN i _ (cW hj);obtain ⟨lv,d9⟩:=(x.le q1).rule;have cD:=take_snoc (aH hj);show ck;lk;show iR;lk;show aJ q2 (aW _ cZ) (by simp;exact zm hN (ao rfl));refine jl ⟨λ_=>?_,λhb=>by exact mK hb⟩;lk;show lP;refine gu (eB gn lE lF ?_);lk;show aJ q4 (aW _ cZ) (by simp;exact zm hN (ao rfl));refine ⟨gG (q6 _ cZ),?_⟩;lk;show aA T 8 (d9 i hi);lk;have rj:=Gr.ZR o (G.ai i)[j] i;have hct:=U7 (a:=(G.ai i)[j]) (l:=(G.ai i).take j);have eN:=rK j (G.ai i);show kG (q6 _ cZ) (by rw[ak,cQ,yz];exact zm (dO (zz rj (pX (zf (zl hi hR)))) (zz hct (zz eN hlen))) (ao rfl));subst bT;refine aX (br (by k_in) ?_);obtain ⟨e1,e2,e3⟩:=D8 _ cZ;have e4:=d4 _ cZ;refine ⟨q1.set (usn _ cZ),MH.ay q2 e1.symm,MH.ay q3 e2.symm,MH.ay q4 e3.symm,MH.ay q5 e4.symm,λz hz=>?_⟩;by_cases q:z=(G.ai i)[j]
   .rw[q,MH.af,cD,Fd,<-yG (f:=vn),<-aV,gX,List.count_singleton_self,List.replicate_succ']
   .rw[MH.aC (λe=>q (hinj z _ hz cZ e)),q6 z hz,cD,Fd];have:¬ ((G.ai i)[j]==z)=true:=by simpa using λe=>q e.symm
    rw[U8,if_neg this];rfl
  .rintro mm ⟨q1,q2,q3,q4,q5,q6⟩;rw[dW] at q6;show iV ⟨_,q3⟩;lk;subst bP;refine ⟨_,q3,by simp;exact zl hi (zz hR (zb rfl)),br (by k_in) ?_⟩;refine ⟨q1.set hnl,MH.ay q2 hfl,?_,MH.ay q4 Sk.symm,MH.ay q5 d2.symm,λz hz=>?_⟩
   .rw[MH.af,jD,aV];rfl
   .rw[MH.aC (D8 z hz).2,q6 z hz,Gr.GC]
 .rintro mm ⟨p1,p2,p3,p4,p5,p6⟩;rw[aN] at p3 p6;have sp:mE G m mm fo lk ua qa us (λ_=>false) (λr=>(G.ai r).length) []:=⟨p1,p2,p3,p4,p6,p5,⟨hfl,hfu,d1,Sk,d2,d3⟩,λz hz=>⟨(D8 z hz).1,(D8 z hz).2,d4 z hz⟩,hfo,hnl,hqn⟩;refine dw (λ_=>[("queue",.ref qa),("users",.ref ua),("lacking",.ref lk),("found",.ref fo),("grammar",.ref g.g),("known",.ref kn)])
   (λi mm=>∃ F q,mE G m mm fo lk ua qa us F (λr=>(G.ai r).length) q/\qQ G F q/\∀ r,r < i->(G.ai r).length=0->G.aq r∈q) (cC (λr=>V.ref (g.ru r)) (aj G.R) ?_)
  show aA T 9 (x.le p1).self;refine ⟨_,rfl,(x.le p1).rules,by k_in,⟨_,_,sp,⟨λ_ _=>rfl,by simp,λ_ h=>by simp at h⟩,λr hr=>(kc hr).elim⟩,λi mm z_=>by obtain ⟨F,q,hp,_,_⟩:=z_;exact (x.le hp.le).rules,?_,?_⟩
  .rintro i mm hi aG;ext i mm;show bO;intro QQ bT;obtain ⟨F,q,sp,si,h4⟩:=aG;rw[aN] at hi
   (revert sp;clear sp;intro sp);ext QQ F q
   refine cy (qO _ hi) (aM (ef.store ⋯) ?_);obtain ⟨lv,d9⟩:=(x.le sp.le).rule;have iK:=Gr.qL o hi;have cB:=si.len;refine ck (qJ ?_);lk;show aA T 8 (d9 i hi);show aJ sp.l (aW _ hi) (by simp;exact zm hR (ao rfl));lk;refine Ai ⟨_,rfl,?_⟩;by_cases h0:(G.ai i).length=0
   .rw[decide_eq_true h0];simp only[if_true];lk;show iR;lk;show aA T 8 (d9 i hi);show aJ sp.f (aW _ iK) (by simp;exact zm hN (ao rfl));show jl;rw[si.fq _ iK];refine ⟨λhb=>?_,λhb=>?_⟩
    .have vq:G.aq i∉q:=by simpa using hb
     walk_at "set";lk;show aA T 8 (d9 i hi);show jE sp.f (by simpa using iK) (by simp;exact zm hN (ao rfl));have kZ:=sp.Qg (G.aq i);obtain ⟨Sl,HD⟩:=(x.le kZ.le).rule;show iV ⟨_,kZ.q⟩;show aA T 8 (HD i hi);subst bT;refine ⟨_,kZ.q,by rw[ak];exact zm cB (zm hN (ao rfl)),aX (br (by k_in) ⟨_,_,kZ.Qh (G.aq i),si.add iK (.mk i hi λy hy=>?_) vq,λr hr hr0=>?_⟩)⟩
     .rw[BO] at h0;rw[h0] at hy;simp at hy
     .by_cases q2:r=i
      .subst q2;exact oR _ aZ
      .exact tU _ (h4 r (cY hr q2) hr0)
    .have vq:G.aq i∈q:=by simpa using hb
     subst bT;refine aX (br (by k_in) ⟨F,q,sp,si,λr hr hr0=>?_⟩);by_cases q2:r=i
     .subst q2;exact vq
     .exact h4 r (cY hr q2) hr0
   .rw[decide_eq_false h0];simp only[cP,if_false];refine ⟨λhb=>by simp at hb,λ_=>?_⟩;subst bT;refine aX (br (by k_in) ⟨F,q,sp,si,λr hr hr0=>?_⟩);by_cases q2:r=i
    .subst q2;exact absurd hr0 h0
    .exact h4 r (cY hr q2) hr0
  .rintro mm ⟨F,q,sp,si,h4⟩;rw[aN] at h4;lk;refine qG (λk L mm=>∃ at_ F Lk q,k=100 - at_/\L=([("at",vn at_),("queue",.ref qa),("users",.ref ua),("lacking",.ref lk),("found",.ref fo),("grammar",.ref g.g),("known",.ref kn)]:Loc)/\
     mE G m mm fo lk ua qa us F Lk q/\qQ G F q/\at_<=q.length/\(∀ r,r < G.R->Lk r=lT G (q.take at_) r)/\∀ r,r < G.R->Lk r=0->G.aq r∈q) _
    [("at",vn 0),("queue",.ref qa),("users",.ref ua),("lacking",.ref lk),("found",.ref fo),("grammar",.ref g.g),("known",.ref kn)] (by k_in) ⟨0,F,_,q,rfl,rfl,sp,si,zg qc,λr _=>(Y4 G r).symm,h4⟩ ?_
   rintro k L mm aG;ext k L mm;show qW;intro QQ bT;ext QQ;obtain ⟨at_,F,Lk,q,rfl,rfl,sp,si,hat,hI,h4⟩:=aG;have cB:=si.len;lk
   (revert sp;clear sp;intro sp);(revert si;clear si;intro si);(revert h4;clear h4;intro h4);ext at_ F Lk q
   show bY T ef.toC (by rfl);lk;show fz sp.q (by rw[ak];exact zm cB (zm hN (ao rfl)));rw[ak];refine sD ⟨_,rfl,λhb=>?_,λhb=>?_⟩
   .have hlt:at_ < q.length:=by simpa using hb
    have JP:=(si.qn _ (cW hlt)).1;have hxq:q[at_]∈q:=cW hlt;have adp:∀ q':List Nat,q <+: q'->q'.take at_=q.take at_:=λq' hq'=>by obtain ⟨t,rfl⟩:=hq';rw[List.take_append_of_le_length hat]
    have JQ:q[at_]∉q.take at_:=λhin=>by obtain ⟨j,hj,e⟩:=qv.mp hin;exact (qw.mp si.nd) j at_ (u9 hj) hlt (nq hj) e
    generalize hx:q[at_]=X at *
    generalize hp:q.take at_=p at *
    have D9:∀ y∈p,y∈q:=λy hy=>by rw[<-hp] at hy;exact mJ hy
    revert hlt;ext X p;intro hlt hx;refine dw (λ_=>[("at",vn at_),("queue",.ref qa),("users",.ref ua),("lacking",.ref lk),("found",.ref fo),("grammar",.ref g.g),("known",.ref kn)])
     (λj mm=>∃ F Lk q',q <+: q'/\mE G m mm fo lk ua qa us F Lk q'/\qQ G F q'/\(∀ r,r < G.R->Lk r+((G.nC X).take j).count r=lT G p r)/\∀ r,r < G.R->Lk r=0->G.aq r∈q') (cC vn (G.nC X) ?_)
    lk;show aJ sp.q (by rw[bH,aH hlt,hx];rfl) (by rw[ak];exact zm cB (zm hN (ao rfl)));show aJ sp.u (aW _ JP) (by simp;exact zm hN (ao rfl));refine ⟨_,rfl,sp.uf X JP,by k_in,⟨F,Lk,q,Ca _,sp,si,λr hr=>by rw[hI r hr];simp,h4⟩,λj mm z_=>by obtain ⟨_,_,_,_,sp',_,_,_⟩:=z_;exact sp'.uf X JP,?_,?_⟩
    .rintro j mm hj aG;ext j mm;show bO;intro QQ kO;ext QQ;obtain ⟨F,Lk,q',hq',sp,si,hI,h4⟩:=aG
     (revert sp;clear sp;intro sp);(revert si;clear si;intro si);(revert hI;clear hI;intro hI);(revert h4;clear h4;intro h4);ext F Lk q'
     refine cy (getD_map hj) (aM (ef.store ⋯) ?_);have hrm:=cW hj;have oG:(G.nC X)[j] < G.R:=(Gr.ZQ.mp hrm).1;have Qi:=si.len;have cD:=take_snoc (aH hj);have gM:∀ r,((G.nC X).take (j+1)).count r=((G.nC X).take j).count r+(if (G.nC X)[j]=r then 1 else 0):=λr=>by rw[cD,Fd,U8];simp
     have hcle:∀ r,r < G.R->((G.nC X).take (j+1)).count r<=(G.ai r).count X:=λr hr=>by rw[<-Gr.Nv hr];exact (VE _ _).count_le _
     generalize hN0:(G.nC X)[j]=num at *
     have Qj:1<=Lk num:=by have h1:=hI num oG;have h2:=hcle num oG;have h3:=Gh G JQ num;rw[gM,if_pos rfl] at h2;exact z0 λe=>ig h2 (zz aI (ze ((h3.trans h1.symm).trans ((congrArg (·+ _) e).trans (fG _)))))
     revert hj;ext num;intro hj hN0;obtain ⟨lv,d9⟩:=(x.le sp.le).rule;walk_at "set";lk;show aJ sp.l (aW _ oG) (by simp;exact zm hR (ao rfl));lk;show HC Qj;lk;show jE sp.l (by simpa using oG) (by simp;exact zm hR (ao rfl));have kZ:=sp.afi num (Lk num - 1);have Ea:∀ r,r < G.R->(if r=num then Lk num - 1 else Lk r)+((G.nC X).take (j+1)).count r=lT G p r:=λr hr=>by
      have:=hI r hr;rw[gM];by_cases q:r=num
      .subst q;rw[if_pos rfl,if_pos rfl];exact (PK Qj).trans this
      .rw[if_neg q,if_neg (λe=>q e.symm)];exact this
     obtain ⟨Sl,HD⟩:=(x.le kZ.le).rule;have iK:=Gr.qL o oG;lk;ext Sl;show gY T 8;lk;show aA T 9 (x.le kZ.le).self;lk;show aJ (x.le kZ.le).rules (aW _ oG) (by simp;exact zm hR (ao rfl));refine ⟨_,_,_,rfl,HD num oG,rfl,?_⟩;refine ck (qJ ?_);lk;show aJ kZ.l (aW _ oG) (by simp;exact zm hR (ao rfl));rw[if_pos rfl];lk;refine Ai ⟨_,rfl,?_⟩;by_cases h0:Lk num - 1=0
     .rw[decide_eq_true h0];simp only[if_true];lk;show iR;lk;show aJ kZ.f (aW _ iK) (by simp;exact zm hN (ao rfl));show jl;rw[si.fq _ iK];refine ⟨λhb=>?_,λhb=>?_⟩
      .have vq:G.aq num∉q':=by simpa using hb
       walk_at "set";lk;show jE kZ.f (by simpa using iK) (by simp;exact zm hN (ao rfl));have JR:=kZ.Qg (G.aq num);show iV ⟨_,JR.q⟩;lk;have adq:cu G (G.aq num):=by
        refine .mk num oG λy hy=>?_;have h1:=Ea num oG;rw[if_pos rfl,h0] at h1;have h2:=hcle num oG;have h3:=Gh G JQ num;have h5:lT G (p++[X]) num=0:=AR (Nat.le_of_add_le_add_right (zz (ze ((h3.trans h1.symm).trans (fG _))) (zz h2 (ze (fG _).symm))));have h6:=Yg h5 y hy;have h7:y∈q:=by
         rcases bN.mp h6 with h | h
         .exact D9 y h
         .rw[bQ.mp h];exact hxq
        exact (si.qn y (hq'.subset h7)).2
       subst kO;refine ⟨_,JR.q,by rw[ak];exact zm Qi (zm hN (ao rfl)),aX (br (by k_in) ⟨_,_,_,hq'.trans (Vq _ _),JR.Qh (G.aq num),si.add iK adq vq,Ea,λr hr hr0=>?_⟩)⟩;by_cases q2:r=num
       .subst q2;exact oR _ aZ
       .simp only[if_neg q2] at hr0;exact tU _ (h4 r hr hr0)
      .have vq:G.aq num∈q':=by simpa using hb
       subst kO;refine aX (br (by k_in) ⟨_,_,_,hq',kZ,si,Ea,λr hr hr0=>?_⟩);by_cases q2:r=num
       .subst q2;exact vq
       .simp only[if_neg q2] at hr0;exact h4 r hr hr0
     .rw[decide_eq_false h0];simp only[cP,if_false];refine ⟨λhb=>by simp at hb,λ_=>?_⟩;subst kO;refine aX (br (by k_in) ⟨_,_,_,hq',kZ,si,Ea,λr hr hr0=>?_⟩);by_cases q2:r=num
      .subst q2;simp only[if_true] at hr0;exact absurd hr0 h0
      .simp only[if_neg q2] at hr0;exact h4 r hr hr0
    .rintro mm ⟨F,Lk,q',hq',sp,si,hI,h4⟩;have Qi:=si.len;have hle':=hq'.length_le;lk;show lP;subst bT;refine fB [("at",vn (at_+1)),("queue",.ref qa),("users",.ref ua),("lacking",.ref lk),("found",.ref fo),("grammar",.ref g.g),("known",.ref kn)] (by k_in) ⟨100 - (at_+1),sR (zl hlt (zz cB (zz hN (zb rfl)))),at_+1,F,Lk,q',rfl,rfl,sp,si,zz hlt hle',λr hr=>?_,h4⟩;have e1:q'.take (at_+1)=p++[X]:=by
      have e2:q'[at_]? = some X:=by obtain ⟨t,rfl⟩:=hq';rw[jT hlt,aH hlt,hx]
      rw[take_snoc e2,adp q' hq']
     have:=hI r hr;rw[dW,Gr.Nv hr] at this;have h3:=Gh G JQ r;rw[e1];exact RI (this.trans h3.symm)
   .have hge:at_=q.length:=by
     have:¬ at_ < q.length:=by exact of_decide_eq_false (by assumption)
     exact sV hat this
    rw[hge,dW] at hI;lk;show h mm fo sp.le hfo;rw[sp.f];congr 2;apply fD;intro z hz;rw[ZS si (λr hr h0=>h4 r hr (by rw[hI r hr];exact h0)) (by simpa using hz)]
theorem FJ (T:aS C A) (o:G.Ok) (x:cU A m g G) (hn:3<=n)
  (h:∀ m' b,m.le m'->m b=none->m' b=some (.list ((aj G.N).map λy=>.bool (G.nul y)))->Q (.ref b) m'):FC C (A.f 15) n [.ref g.g] m Q:=by
 have hN:=Gr.N8 o;ext C A n m Q g G;refine eG T 15 "nullable" ["grammar"] (eW hn) rfl (λenv ef=>?_) (by walk_at "bd1");k_is;lk;show cF T ef.toC 14;lk;show bR;lk;refine ⟨by exact fF _,λc hc=>?_⟩;have l1:m.le (m.set c (.list [.bool false])):=MH.av hc;show cG T 9 1 "Grammar.symbol_count" (x.le l1).self;lk;show CP T o (x.le l1) (zf (eg hn));refine z9 (k:=G.N) (MH.af _ _ _) (zz hN aI) λb hb=>?_;rw[CF];have l2:=l1.trans (MH.av (o:=.list ((aj G.N).map λ_=>.bool false)) hb);lk;exact Xw T o (x.le l2) (aK hn) (MH.af _ _ _) λm' d l3 hd hm=>h m' d (l2.trans l3) (l2.new hd) hm
end
end
section
inductive gZ (G:Gr):Nat->Nat->Prop
 | term (x:Nat) (h:x < G.T):gZ G x x
 | rule (r d y t:Nat) (hr:r < G.R) (hd:(G.ai r)[d]? = some y) (hn:∀ z∈(G.ai r).take d,cu G z) (h:gZ G y t):gZ G (G.aq r) t
open Classical in
noncomputable def maskOf (p:Nat->Prop):Nat->Nat
 | 0=>0
 | k+1=>maskOf p k ||| (if p k then 1 <<< k else 0)
open Classical in
theorem Xx:maskOf p (k+1)=maskOf p k ||| (if p k then 1 <<< k else 0):=rfl
theorem oY (k t:Nat):(1 <<< k).testBit t=decide (k=t):=by rw[B7,Nat.testBit_two_pow]
theorem zj (p:Nat->Prop):∀ N t,(maskOf p N).testBit t=true↔t < N/\p t:=by
 intro l_;induction l_ with
 | zero=>
  intro t;simp[show maskOf p 0=0 from rfl]
 | succ k ih=>
  intro t;dsimp only[Xx];rw[eV,eU,ih t];by_cases q:p k
  .rw[if_pos q,oY];constructor
   .rintro (h | h)
    .exact ⟨zt h.1,h.2⟩
    .have:k=t:=by simpa using h
     subst this;exact ⟨zx,q⟩
   .rintro ⟨h1,h2⟩;by_cases e:k=t
    .exact .inr (by simpa using e)
    .exact .inl ⟨Rz h1 e,h2⟩
  .rw[if_neg q];constructor
   .rintro (h | h)
    .exact ⟨zt h.1,h.2⟩
    .simp at h
   .rintro ⟨h1,h2⟩;have:t≠k:=λe=>q (e▸h2);exact .inl ⟨cY h1 this,h2⟩
theorem Nx (h:∀ t,a.testBit t=true↔t < N/\p t):a=maskOf p N:=by apply LU;intro t;rw[yM,h t,zj]
theorem Y5 (p:Nat->Prop) (N:Nat):maskOf p N < 2 ^ N:=by
 apply UP;intro t ht;cases q:(maskOf p N).testBit t with
 | false=>rfl
 | true=>have:=(zj p N t).mp q;exact (ig this.1 ht).elim
theorem Ow (h:a < 2 ^ N) (ht:a.testBit t=true):t < N:=by
 by_cases q:t < N
 .exact q
 .rw[LP (eZ h (vS j8 (zg q)))] at ht;cases ht
namespace Gr
noncomputable def fst (G:Gr) (x:Nat):Nat:=maskOf (gZ G x) G.N
noncomputable def iZ (nl:Nat->Bool) (f:Nat->Nat):List Nat->Nat->Nat×Bool
 | [],k=>(k,true)
 | y::r,k=>if nl y then iZ nl f r (k ||| f y) else (k ||| f y,false)
theorem GD:iZ nl f (y::r) k=if nl y=true then iZ nl f r (k ||| f y) else (k ||| f y,false):=rfl
end Gr
theorem NZ (nl:Nat->Bool) (f:Nat->Nat) (t:Nat):∀ (l:List Nat) (k:Nat),(Gr.iZ nl f l k).1.testBit t=true↔k.testBit t=true\/∃ d y,l[d]? = some y/\(∀ z∈l.take d,nl z=true)/\(f y).testBit t=true:=by
 intro l_;induction l_ with
 | nil=>
  intro k;exact ⟨.inl,λh=>h.elim id λz_=>by obtain ⟨_,_,e,_,_⟩:=z_;contradiction⟩
 | cons y r ih=>
  intro k;dsimp only[Gr.GD];have e:∀ b:Bool,(∃ d z,(y::r)[d]? = some z/\(∀ w∈(y::r).take d,nl w=true)/\(f z).testBit t=true)↔(f y).testBit t=true\/(nl y=true/\∃ d z,r[d]? = some z/\(∀ w∈r.take d,nl w=true)/\(f z).testBit t=true):=λ_=>by
   constructor
   .rintro ⟨d,z,h1,h2,h3⟩;cases d with
    | zero=>rw[BN] at h1;cases h1;exact .inl h3
    | succ d=>
     rw[rI] at h1;rw[tW] at h2;exact .inr ⟨h2 y aZ,d,z,h1,λw hw=>h2 w (b9 _ hw),h3⟩
   .rintro (h | ⟨h1,d,z,h2,h3,h4⟩)
    .exact ⟨0,y,rfl,by exact of_decide_eq_true rfl,h⟩
    .refine ⟨d+1,z,by rw[rI];exact h2,λw hw=>?_,h4⟩;rw[tW] at hw;rcases b8.mp hw with rfl | hw
     .exact h1
     .exact h3 w hw
  rw[e true];by_cases q:nl y=true
  .rw[if_pos q,ih,eV,eU];simp only[q,true_and,or_assoc]
  .rw[if_neg q,eV,eU];simp[q]
theorem aa4 (nl:Nat->Bool) (f:Nat->Nat) (hf:∀ x,f x < 2 ^ N):∀ (l:List Nat) (k:Nat),k < 2 ^ N->(Gr.iZ nl f l k).1 < 2 ^ N:=by
 intro l_;induction l_ with
 | nil=>
  intro k h;exact h
 | cons y r ih=>
  intro k h;dsimp only[Gr.GD];split
  .exact ih _ (rM h (hf y))
  .exact rM h (hf y)
structure vt (G:Gr) (f:Nat->Nat):Prop where
 lt:∀ x,f x < 2 ^ G.N
 ok:∀ x,x < G.N->∀ t,(f x).testBit t=true->gZ G x t
 tm:∀ x,x < G.T->(f x).testBit x=true
theorem aa5 (o:G.Ok) (h:vt G f) (hc:∀ r,r < G.R->f (G.aq r) ||| (Gr.iZ G.nul f (G.ai r) 0).1=f (G.aq r)) (hx:x < G.N):f x=G.fst x:=by
 refine Nx λt=>⟨λht=>⟨Ow (h.lt x) ht,h.ok x hx t ht⟩,?_⟩;rintro ⟨ht,hp⟩;clear hx ht;induction hp with
 | term x hx=>exact h.tm x hx
 | rule r d y t hr hd hn hp ih=>
  rw[<-hc r hr,eV,eU];refine .inr ((NZ _ _ _ _ _).mpr (.inr ⟨d,y,hd,λz hz=>Gr.uA.mpr (hn z hz),ih⟩))
theorem ZT (o:G.Ok) (h:vt G f) (hr:r < G.R):vt G (λx=>if x=G.aq r then f (G.aq r) ||| (Gr.iZ G.nul f (G.ai r) 0).1 else f x) where
 lt:=λx=>by
  split
  .exact rM (h.lt _) (aa4 _ _ h.lt _ _ (yX j8))
  .exact h.lt x
 ok:=λx hx t ht=>by
  by_cases q:x=G.aq r
  .rw[if_pos q,eV,eU] at ht;rcases ht with ht | ht
   .rw[q];exact h.ok _ (q▸hx) t ht
   .rcases (NZ _ _ _ _ _).mp ht with h0 | ⟨d,y,h1,h2,h3⟩
    .simp at h0
    .rw[q];exact .rule r d y t hr h1 (λz hz=>Gr.uA.mp (h2 z hz)) (h.ok y (o.rN r y (bC h1)) t h3)
  .rw[if_neg q] at ht;exact h.ok x hx t ht
 tm:=λx hx=>by
  split
  .rename_i q;rw[eV,eU];exact .inl (q▸h.tm x hx)
  .exact h.tm x hx
noncomputable def sumF (f:Nat->Nat):Nat->Nat
 | 0=>0
 | k+1=>sumF f k+f k
theorem wu:sumF f (k+1)=sumF f k+f k:=rfl
theorem Ox (h:∀ x,f x<=B):∀ k,sumF f k<=k*B:=by
 intro l_;induction l_ with
 | zero=>
  exact bk _
 | succ k ih=>
  dsimp only[wu];have:=ih;have:=h k;rw[MK];exact dO (by assumption) this
theorem Hl (h:∀ x,f x<=g x) (hy:f y < g y):∀ k,y < k->sumF f k < sumF g k
 | 0,q=>(kc q).elim
 | k+1,q=>by
  dsimp only[wu];have hle:sumF f k<=sumF g k:=by
   clear q;induction k with
   | zero=>exact aL _
   | succ k ih=>dsimp only[wu];have:=h k;exact dO ih this
  by_cases e:y=k
  .subst e;exact RA hle hy
  .have:=Hl h hy k (cY q e);have:=h k;exact zll (by assumption) this
section
variable {C:Cx} {A:TA} {n:Nat} {m:MH} {Q:V->MH->Prop} {g:GA} {G:Gr}
theorem WC (T:aS C A) (hn:2<=n) (hN:N<=100) (hs:m sa=some (.tuple (l.map vn))) (hna:m na=some (.list ((aj N).map λx=>.bool (nl x)))) (jw:m fa=some (.list ((aj N).map λx=>vn (f x)))) (hl:∀ y∈l,y < N) (h:∀ b,m b=none->Q (.ref b) (m.set b (.tuple [vn (Gr.iZ nl f l 0).1,.bool (Gr.iZ nl f l 0).2]))):FC C (A.f 16) n [.ref sa,.ref na,.ref fa] m Q:=by
 ext C A n m Q N sa na fa l nl f;refine eG T 16 "first_of" ["symbols","nullables","firsts"] (zf hn) rfl (λenv ef=>?_) (by walk_at "bd3");k_is;lk;ext env;refine kJ (GI ?_);lk;refine ⟨sa,_,rfl,hs,?_⟩;rw[ak];refine ⟨λ_ i L mm=>∃ k,L=([("mask",vn k),("symbols",.ref sa),("nullables",.ref na),("firsts",.ref fa)]:Loc)/\mm=m/\Gr.iZ nl f (l.drop i) k=Gr.iZ nl f l 0,kW,
  ⟨[("mask",vn 0),("symbols",.ref sa),("nullables",.ref na),("firsts",.ref fa)],by k_in,0,rfl,rfl,rfl⟩,λi L mm z_=>by obtain ⟨_,_,e,_⟩:=z_;exact e▸hs,?_,?_⟩
 .rintro i L mm hi aG;ext i L mm;show bO;intro QQ bP;ext QQ;obtain ⟨k,rfl,rfl,hk⟩:=aG;ext k;refine cy (getD_map hi) (aM (ef.store ⋯) ?_);have hy:=hl _ (cW hi);rw[EZ hi] at hk;rw[Gr.GD] at hk;lk;show aJ jw (aW _ hy) (by simp;exact zm hN (ao rfl));show lX;show ck;lk;show iR;lk;show aJ hna (aW _ hy) (by simp;exact zm hN (ao rfl));refine jl ⟨λhb=>?_,λhb=>?_⟩
  .have hb:nl l[i]=false:=by simpa using hb
   rw[if_neg (by rw[hb];simp)] at hk;lk;show eE;lk;refine ⟨by exact of_decide_eq_true rfl,λb hbn=>?_⟩;have:=h b hbn;rw[<-hk] at this;subst bP;exact this
  .have hb:nl l[i]=true:=by simpa using hb
   rw[if_pos hb] at hk;subst bP;exact aX (fB [("mask",vn (k ||| f l[i])),("symbols",.ref sa),("nullables",.ref na),("firsts",.ref fa)] (by k_in) ⟨_,rfl,rfl,hk⟩)
 .rintro L mm (⟨k,rfl,rfl,hk⟩ | hB)
  .rw[Fg] at hk;lk;show eE;lk;refine ⟨by exact of_decide_eq_true rfl,λb hbn=>?_⟩;have:=h b hbn;rw[<-hk] at this;exact this
  .exact hB.elim
noncomputable def Bc (G:Gr) (y:Nat):Nat:=if y < G.T then 1 <<< y else 0
theorem VI (T:aS C A) (o:G.Ok) (x:cU A m g G) (hn:4<=n)
  (h:∀ m' b,m.le m'->m b=none->m' b=some (.list ((aj G.N).map λy=>vn (G.fst y)))->Q (.ref b) m'):FC C (A.f 17) n [.ref g.g] m Q:=by
 have hN:=Gr.N8 o;have JS:=o.nT;have hR:=o.r5;clear hR;ext C A n m Q g G;refine eG T 17 "first_masks" ["grammar"] (eW hn) rfl (λenv ef=>?_) (by walk_at "bd1");k_is;lk;ext env;show cF T ef.toC 15;lk;refine FJ T o x (aK hn) λm1 na l1 Iz hna=>?_;lk;clear Iz;ext m1 na;refine bR (cM ⟨by exact bk _,λfa jw=>?_⟩);have l2:=l1.trans (MH.av (o:=.list []) jw);have xQ:=MH.ay (o':=.list []) hna (MH.aE hna jw);have IA:=l1.new jw;have hnf:na≠fa:=MH.aE hna jw;have Bd:=MH.af m1 fa (.list []);generalize m1.set fa (.list [])=m2 at l2 xQ Bd ⊢;clear jw;ext fa m2;refine dw (λ_=>[("firsts",.ref fa),("nullables",.ref na),("grammar",.ref g.g)]) (λi mm=>m.le mm/\mm na=some (.list ((aj G.N).map λy=>.bool (G.nul y)))/\mm fa=some (.list ((aj i).map λy=>vn ((Bc G) y)))) (lJ T ef.toC ?_);show cG T 9 1 "Grammar.symbol_count" (x.le l2).self;lk;refine CP T o (x.le l2) (aK (bK hn)) ⟨_,rfl,zm hN (ao rfl),by k_in,⟨l2,xQ,Bd⟩,λ_ _ _=>trivial,?_,?_⟩
 .rintro i mm hi aG;ext i mm;show bO;intro QQ bP;ext QQ;obtain ⟨p1,p2,p3⟩:=aG;show aM (ef.store ⋯);have fin:∀ v:Nat,v=(Bc G) i->∃ xs,mm fa=some (.list xs)/\xs.length < 2 ^ 20/\WS C (n - 1) env [] [("symbol",vn i),("firsts",.ref fa),("nullables",.ref na),("grammar",.ref g.g)] (mm.set fa (.list (xs++[vn v])))
    (Aj [("firsts",.ref fa),("nullables",.ref na),("grammar",.ref g.g)] (λmm=>m.le mm/\mm na=some (.list ((aj G.N).map λy=>.bool (G.nul y)))/\mm fa=some (.list ((aj (i+1)).map λy=>vn ((Bc G) y)))) (λ_=>False) (uL Q)):=λv hv=>by
   subst bP;refine ⟨_,p3,by simp;exact zl hi (zz hN aI),br (by k_in) ⟨p1.set IA,MH.ay p2 hnf,?_⟩⟩;rw[MH.af,jD,aV,hv];rfl
  show iV ⟨_,p3⟩;refine NF (iR ?_);show cG T 9 2 "Grammar.is_terminal" (x.le p1).self;lk;show zG T (x.le p1) (aK (bK hn));show jl;by_cases q:i < G.T
  .rw[decide_eq_true q];simp only[if_true];lk;show wR (zf (zl hi (zz hN (zb rfl))));subst bP;exact fin _ (by change _=if i < G.T then _ else _;rw[if_pos q])
  .rw[decide_eq_false q];simp only[cP,if_false];lk;subst bP;exact fin 0 (by change _=if i < G.T then _ else _;rw[if_neg q])
 .rintro mm ⟨p1,p2,p3⟩;have Be:vt G (Bc G):=⟨λy=>by change (if y < G.T then 1 <<< y else 0) < _;split;exact Ge (dN (jQ (by assumption)) JS);exact yX j8,
   λy hy t ht=>by
    change (if y < G.T then 1 <<< y else 0).testBit t=true at ht;split at ht
    .rename_i q;rw[oY] at ht;have:y=t:=by simpa using ht
     subst this;exact .term y q
    .simp at ht,λy hy=>by change (if y < G.T then 1 <<< y else 0).testBit y=true;rw[if_pos hy,oY];exact if_pos rfl⟩
  generalize (Bc G)=f at p3 Be;have hB:∀ f,vt G f->sumF f G.N<=8*2 ^ 8:=λf hf=>by have h1:=Ox (f:=f) (B:=2 ^ 8) (λy=>aO (fy (hf.lt y)) (vS j8 hN)) G.N;exact aO h1 (gE _ hN)
  lk;refine qG (λk L mm=>∃ gr f,L=([("is_grown",.bool gr),("firsts",.ref fa),("nullables",.ref na),("grammar",.ref g.g)]:Loc)/\m.le mm/\mm na=some (.list ((aj G.N).map λy=>.bool (G.nul y)))/\mm fa=some (.list ((aj G.N).map λy=>vn (f y)))/\vt G f/\
    k=2*(8*2 ^ 8 - sumF f G.N)+(if gr then 1 else 0)/\(gr=false->∀ r,r < G.R->f (G.aq r) ||| (Gr.iZ G.nul f (G.ai r) 0).1=f (G.aq r))) _
   [("is_grown",.bool true),("firsts",.ref fa),("nullables",.ref na),("grammar",.ref g.g)] (by k_in) ⟨true,f,rfl,p1,p2,p3,Be,rfl,λe=>by cases e⟩ ?_
  rintro k L mm aG;ext k L mm;show qW;intro QQ bP;ext QQ;obtain ⟨gr,f,rfl,p1,p2,p3,fs,rfl,hcl⟩:=aG
  (revert p1;clear p1;intro p1);(revert p2;clear p2;intro p2);(revert p3;clear p3;intro p3);ext gr f
  show iR;lk;refine jl ⟨λhb=>?_,λhb=>?_⟩
  .subst hb;lk;refine kJ (cC (λr=>V.ref (g.ru r)) (aj G.R) ?_);show aA T 9 (x.le p1).self;refine ⟨_,rfl,(x.le p1).rules,?_⟩;refine ⟨λ_ i L mm=>∃ gr f',L=([("is_grown",.bool gr),("firsts",.ref fa),("nullables",.ref na),("grammar",.ref g.g)]:Loc)/\m.le mm/\mm na=some (.list ((aj G.N).map λy=>.bool (G.nul y)))/\mm fa=some (.list ((aj G.N).map λy=>vn (f' y)))/\vt G f'/\
     (gr=false->f'=f/\∀ r,r < i->f (G.aq r) ||| (Gr.iZ G.nul f (G.ai r) 0).1=f (G.aq r))/\(gr=true->sumF f G.N < sumF f' G.N),kW,
    ⟨[("is_grown",.bool false),("firsts",.ref fa),("nullables",.ref na),("grammar",.ref g.g)],by k_in,false,f,rfl,p1,p2,p3,fs,λ_=>⟨rfl,λr hr=>(kc hr).elim⟩,λe=>by cases e⟩,λi L mm z_=>by obtain ⟨_,_,_,q,_,_,_,_,_⟩:=z_;exact (x.le q).rules,?_,?_⟩
   .rintro i L mm hi aG;ext i L mm;show bO;intro QQ gk;obtain ⟨gr,f',rfl,q1,q2,q3,fs',dR,jx⟩:=aG;rw[aN] at hi;ext QQ gr f';refine cy (qO _ hi) (aM (ef.store ⋯) ?_);obtain ⟨lv,d9⟩:=(x.le q1).rule;have iK:=Gr.qL o hi;lk;show aA T 8 (d9 i hi);show aJ q3 (aW _ iK) (by simp;exact zm hN (ao rfl));lk;show cF T ef.toC 16;lk;show aA T 8 (d9 i hi);lk;refine WC T (zf (eg hn)) (zz hN aI) ((x.le q1).right i hi) q2 q3 (o.rN i) λb hb=>?_;have lb:=MH.av (o:=.tuple [vn (Gr.iZ G.nul f' (G.ai i) 0).1,.bool (Gr.iZ G.nul f' (G.ai i) 0).2]) hb;lk;show lM (k:=0) (MH.af _ _ _) rfl (of_decide_eq_true rfl);show lX;have JT:=lb _ _ q2;have Eb:=lb _ _ q3;have Ec:=q1.trans lb;generalize mm.set b (.tuple [vn (Gr.iZ G.nul f' (G.ai i) 0).1,.bool (Gr.iZ G.nul f' (G.ai i) 0).2])=aF at Ec JT Eb ⊢;obtain ⟨lv',O3⟩:=(x.le Ec).rule;generalize hM:f' (G.aq i) ||| (Gr.iZ G.nul f' (G.ai i) 0).1=M;show ck;lk;show aA T 8 (O3 i hi);show aJ Eb (aW _ iK) (by simp;exact zm hN (ao rfl));refine sE ⟨_,rfl,λhb=>?_,λhb=>?_⟩
    .have hne:M≠f' (G.aq i):=by simpa using hb
     walk_at "set";lk;show aA T 8 (O3 i hi);show jE Eb (by simpa using iK) (by simp;exact zm hN (ao rfl));have Sm:=ZT o fs' hi;rw[hM] at Sm;lk;subst gk;refine aX (fB [("is_grown",.bool true),("firsts",.ref fa),("nullables",.ref na),("grammar",.ref g.g)] (by k_in) ⟨true,_,rfl,Ec.set IA,MH.ay JT hnf,?_,Sm,λe=>(by cases e),λ_=>?_⟩)
     .rw[MH.af,rW];congr 2;apply fD;intro z _;dsimp only;by_cases q:z=G.aq i
      .rw[if_pos q,if_pos q]
      .rw[if_neg q,if_neg q]
     .have hlt:f' (G.aq i) < M:=by
       have:f' (G.aq i)<=M:=by rw[<-hM];exact Ws
       exact xy this hne
      have h2:sumF f' G.N < sumF (λy=>if y=G.aq i then M else f' y) G.N:=Hl (y:=G.aq i) (λy=>by
       by_cases q:y=G.aq i
       .simp only[q,if_true];exact zf hlt
       .simp only[q,if_false];exact zg DW) (by simp only[if_true];exact hlt) _ iK
      cases gr with
      | true=>exact FY (jx rfl) h2
      | false=>rw[<-(dR rfl).1];exact h2
    .have heq:M=f' (G.aq i):=by simpa using hb
     subst gk;refine aX (fB [("is_grown",.bool gr),("firsts",.ref fa),("nullables",.ref na),("grammar",.ref g.g)] (by k_in) ⟨gr,f',rfl,Ec,JT,Eb,fs',λe=>⟨(dR e).1,λr hr=>?_⟩,jx⟩)
     (revert hb;clear hb;intro hb);ext r
     obtain ⟨e1,e2⟩:=dR e;by_cases q:r=i
     .subst q;rw[<-e1,hM,heq]
     .exact e2 r (cY hr q)
   .rintro L mm (⟨gr,f',rfl,q1,q2,q3,fs',dR,jx⟩ | qX)
    .rw[aN] at dR;have hb1:=hB f' fs';have hb2:=hB f fs;subst bP;refine fB [("is_grown",.bool gr),("firsts",.ref fa),("nullables",.ref na),("grammar",.ref g.g)] (by k_in) ⟨2*(8*2 ^ 8 - sumF f' G.N)+(if gr then 1 else 0),?_,gr,f',rfl,q1,q2,q3,fs',rfl,λe=>?_⟩
     .cases gr with
      | true=>exact PI (jx rfl) hb1
      | false=>rw[(dR rfl).1];exact aL _
     .obtain ⟨e1,e2⟩:=dR e;rw[e1];exact e2
    .exact qX.elim
  .subst hb;lk;show h mm fa p1 IA;rw[p3];congr 2;apply fD;intro z hz;rw[aa5 o fs (hcl rfl) (by simpa using hz)]
end
end
section
theorem W6:Slot "reversed" "__init__" "object.__init__":=
 .of (owner:="object") (n:="__init__") (by rw[Fx,E7];kernel_rfl) (by decide +kernel) (by decide +kernel) (by decide +kernel)
  (by first | exact .inl (by decide +kernel) | exact .inr (by decide +kernel)) (by rw[FF];kernel_rfl)
theorem Y6:TypeCalled "reversed" "reversed.__new__" "object.__init__":=⟨by decide,PySem.F.create_reversed,⟨_,_,PySem.F.mro_reversed⟩,PySem.F.made_reversed,PySem.F.plain_reversed_new,PySem.F.sub_reversed_self,W6⟩
theorem aa6:typeLookup (.type "tuple") "__reversed__" = pure none:=by rw[Fx,E7];kernel_rfl
theorem aa7:isSubtype (.type "tuple") (.type "dict")=pure false:=by rw[FF];kernel_rfl
noncomputable abbrev ko (l:Addr) (i:Int):Obj:={ cls:=.type "reversed",data:=.fields #[.ref l,rawInt i] }
theorem ZU (l:Addr) (rs:List Value) (k:Nat) (hl:rs.length < 2 ^ 40) :
  Meets (Builtin.«reversed.__new__» ⟨[.type "reversed",.ref l],[]⟩) (λ_ R s=>s.heap.get? l=some (tu rs k)/\∀ tk,R (.ok (.ret (.ref s.heap.objs.size))) { s with heap:=s.heap.push (ko l ((rs.length:Int) - 1)),toks:=tk }):=
 .of_wp λprog w A R s h=>by
  ext l rs k prog w A R s;obtain ⟨hl',h⟩:=h;have ht:s.TypeIs (.ref l) "tuple":=⟨_,hl',rfl⟩;have hi:IsTup s.heap l rs.toArray:=⟨_,hl',rfl,_,rfl⟩;unfold Builtin.«reversed.__new__»;refine az (uh (newClass_reversed _) ?_)
  try dsimp only
  refine az (uh (a:=()) (by first | rfl | kernel_rfl) ?_);refine az (uh (a:=()) (by first | rfl | kernel_rfl) ?_)
  try dsimp only
  refine az (Cc ht aa6 ?_)
  try dsimp only
  show az;refine az (Mj ht aa7 ?_);simp -iota only[cP,if_false];refine az (Cc ht UN.lookup ?_);dsimp only;rw[if_pos (by decide +kernel)];show bh;simp -iota only[qB,cP,if_false];refine az (len_tuple hi (by rw[cV];exact sA hl) ?_);refine az (bh ?_);dsimp only;show az;change wpAny _ _ (newObj (.type "reversed") (.fields #[.ref l,rawInt (((rs.toArray.size:Nat):Int) - 1)])) _ _ _;show rL;show bh;have:=h (s.toks+1+1);rw[cV];exact ⟨_,rfl,this⟩
theorem yR:Slot "reversed" "__next__" "reversed.__next__":=
 .of (owner:="reversed") (n:="__next__") (by rw[Fx,E7];kernel_rfl) (by decide +kernel) (by decide +kernel) (by decide +kernel)
  (by first | exact .inl (by decide +kernel) | exact .inr (by decide +kernel)) (by rw[FF];kernel_rfl)
theorem Mx:entryFor table "reversed.__next__" = some Builtin.«reversed.__next__»:=entryFor_of_tree ⋯
theorem MG (a:Value):argsOk "reversed.__next__" ⟨[a],[]⟩:=by unfold argsOk;kernel_rfl
theorem MI:Slot "reversed" "__iter__" "reversed.__iter__":=
 .of (owner:="reversed") (n:="__iter__") (by rw[Fx,E7];kernel_rfl) (by decide +kernel) (by decide +kernel) (by decide +kernel)
  (by first | exact .inl (by decide +kernel) | exact .inr (by decide +kernel)) (by rw[FF];kernel_rfl)
theorem WD:entryFor table "reversed.__iter__" = some Builtin.«dict_keyiterator.__iter__»:=
 entryFor_alias (id':="dict_keyiterator.__iter__") ⋯ (by first | rfl | decide +kernel | (unfold String.splitOn;simp +decide [String.splitOnAux])) (by decide +kernel) ⋯
theorem W7 (a:Value):argsOk "reversed.__iter__" ⟨[a],[]⟩:=by unfold argsOk;kernel_rfl
section
variable {prog:Program} {w:World} {A:Around} {E:Value->Shared->Prop} {s:Shared}
theorem Vb (hl:s.heap.get? l=some (tu rs k)) (hle:rs.length < 2 ^ 40)
  (h:∀ tk,Q (.ref s.heap.objs.size) { s with heap:=s.heap.push (ko l ((rs.length:Int) - 1)),toks:=tk }):wpAny (model prog w) A (call (.type "reversed") [.ref l]) Q E s:=by
 refine callType_new Y6 (by decide) (PySem.F.typeCall_reversed_1 _) (PySem.F.newCall_reversed_1 _) (λobj=>PySem.F.args_object_init_2 obj _) PySem.F.entry_reversed_new (ZU l rs k hle) ⟨hl,λtk=>?_⟩;exact ⟨⟨_,gF _ rfl,rfl⟩,h tk⟩
theorem Mk (hit:s.heap.get? it=some o) (hc:o.cls=.type "reversed") (h:Q (.ref it) s):wpAny (model prog w) A (pyIter (.ref it)) Q E s:=by have hT:s.TypeIs (.ref it) "reversed":=⟨_,hit,hc⟩;refine VF hT MI (t9 MI hT WD ?_ (W7 _));change wpAny _ _ (ret (.ref it)) _ _ s;exact bh ⟨_,rfl,"reversed",_,hT,yR.lookup,h⟩
theorem W8 {it l:Addr} {i:Nat} {rs:List Value} {k:Nat} {x:Value} {Q:Option Value->Shared->Prop} (hit:s.heap.get? it=some (ko l (i:Int))) (hl:s.heap.get? l=some (tu rs k)) (hne:l≠it) (hx:rs[i]? = some x) (hlen:rs.length < 2 ^ 40)
  (hQ:∀ h' tk,h'.get? it=some (ko l ((i:Int) - 1))->F1 it s.heap h'->Q (some x) { s with heap:=h',toks:=tk }):wpAny (model prog w) A (pyNext (.ref it)) Q E s:=by
 have hT:s.TypeIs (.ref it) "reversed":=⟨_,hit,rfl⟩;have hi:IsTup s.heap l rs.toArray:=⟨_,hl,rfl,_,rfl⟩;have hil:i < rs.length:=(bU.mp hx).1;clear hne;ext prog w A E s it l i rs k x Q;unfold pyNext;refine az (Ci (E4 (name:=cg "__next__") hT yR (t9 yR hT Mx ?_ (MG _))));unfold Builtin.«reversed.__next__»;refine az (uh (a:=(Value.ref it,[])) rfl ?_)
 try dsimp only
 refine az (Cr hit rfl (x:=.ref l) rfl ?_);refine az (Cr hit rfl (x:=rawInt (i:Int)) rfl ?_)
 try dsimp only[rawInt]
 rw[if_neg vd];refine az (Cc ⟨_,hl,rfl⟩ UN.lookup ?_)
 try dsimp only[Option.isNone]
 rw[if_neg (by simp)];refine az (wpAny_mkInt ?_);refine az (Ci (agM (j:=i) (x:=x) hi (by exact PU) (sA (zn hil hlen)) ?_ (by simpa using hx) ?_))
 .unfold seqIndex?;have h0:¬ ((i:Int) < 0):=vd;simp only[h0,if_false];rw[if_pos (by simp;exact hil)];simp
 dsimp only;refine az (Cr hit rfl (x:=rawInt (i:Int)) rfl ?_);dsimp only[rawInt];refine az (Ce hit rfl (aL _) ?_);refine bh ⟨x,rfl,bh (hQ _ _ ?_ (vV ..))⟩;rw[BS _ hit (LR (BY (o:=ko l (i:Int)) rfl _))];have e:Cj (λvs=>vs.set! 1 (Value.int ((i:Int) - 1) 0)) (ko l (i:Int))={ ko l (i:Int) with data:=(Cj (λvs=>vs.set! 1 (Value.int ((i:Int) - 1) 0)) (ko l (i:Int))).data }:=rfl
 first
  | rfl
  | (rw[e,BY (o:=ko l (i:Int)) rfl];rfl)
theorem Xy (hh:A.handled=none) (hit:s.heap.get? it=some (ko l (-1)))
  (hQ:∀ h' tk,Cq it s.heap h'->Q none { s with heap:=h',toks:=tk }):wpAny (model prog w) A (pyNext (.ref it)) Q E s:=by
 have hT:s.TypeIs (.ref it) "reversed":=⟨_,hit,rfl⟩;ext prog w A E s it l Q;unfold pyNext;refine az (Ci (E4 (name:=cg "__next__") hT yR (t9 yR hT Mx ?_ (MG _))));unfold Builtin.«reversed.__next__»;refine az (uh (a:=(Value.ref it,[])) rfl ?_)
 try dsimp only
 refine az (Cr hit rfl (x:=.ref l) rfl ?_);refine az (Cr hit rfl (x:=rawInt (-1)) rfl ?_)
 try dsimp only[rawInt]
 rw[if_pos (by decide)];refine az (wpAny_rule ?_);show az;have e1:∃ o1,(s.heap.update it (Cj λvs=>vs.set! 1 (Value.int (-1) 0))).get? it=some o1/\o1.data=.fields #[.ref l,.int (-1) 0]:=
  ⟨_,BS _ hit (LR (BY (o:=ko l (-1)) rfl _)),by rw[BY (o:=ko l (-1)) rfl];rfl⟩
 obtain ⟨o1,g1,d1⟩:=e1;refine az (Ce hit rfl (aL _) ?_);show Ce g1 d1 (fF _);show az;change wpAny _ _ (newExc (.type "StopIteration") [] >>= _) _ _ _;show az;simp -iota only[newExc,newTuple];refine az (rL ?_ (by size_fits));refine az (m:=firstArgMember _ _) (uh (a:=Value.none) (by first | rfl | (simp only[firstArgMember];rfl)) ?_);refine rL ?_ (by size_fits);simp -iota only[raiseNew];refine az (WU ?_)
 first | rw[show A.in1.handled=none from hh] | rw[hh]
 refine az (bh (wpAny_throw ?_));refine az (Mj (T:="StopIteration") (b:=true) ⟨_,gF _ rfl,rfl⟩ Wt ?_);refine bh (hQ _ s.toks ?_);exact (((vV ..).extBut.trans (vV ..).extBut).push _).push _
end
theorem aa8 {C:Cx} {A:Around} {I a:Addr} {xs:List V} (hh:A.handled=none) (hI:a≠I) (hl:xs.length < 2 ^ 40) :
  Src C A I xs.length (λi=>xs.getD (xs.length - 1 - i) .none) (λm=>m a=some (.tuple xs)) (λi ob=>ob=ko a ((xs.length:Int) - 1 - (i:Nat))/\i<=xs.length) where
 next:=by
  rintro i P m d s ob R hi x hm hg ⟨rfl,_⟩ k;obtain ⟨rs,e,h1,h2⟩:=x.rep a _ hm;have hlen:=h2.length;obtain ⟨r,hr,he⟩:=h2.get (i:=xs.length - 1 - i) (v:=xs.getD (xs.length - 1 - i) .none) (by
   rw[bM,aH (RC (RB hi))];rfl)
  have e1:(xs.length:Int) - 1 - (i:Nat)=((xs.length - 1 - i:Nat):Int):=by rw[Cp,MW];exact (Int.ofNat_sub (dm (Nat.one_add i) hi)).symm
  rw[e1] at hg;refine W8 hg h1 hI hr (fK hlen hl) λh' tk g' hs=>?_;refine k r h' tk _ he g' ⟨?_,hi⟩ hs.extBut;congr 1;have:((xs.length - 1 - i:Nat):Int) - 1=(xs.length:Int) - 1 - ((i+1:Nat):Int):=by rw[<-e1];exact Cp _ _ _
  rw[this]
 stop:=by
  rintro P m d s ob R x hm hg ⟨rfl,_⟩ k;have e1:(xs.length:Int) - 1 - ((xs.length:Nat):Int)=-1:=by exact aec
  rw[e1] at hg;exact Xy hh hg λh' tk e'=>k h' tk e'
 plain:=by rintro i ob ⟨rfl,_⟩;exact ⟨_,rfl,by decide⟩
 self:=by rintro i s ob R hg ⟨rfl,_⟩ k;exact Mk hg rfl k
theorem acz {C:Cx} {A:TA} {n:Nat} {env:Env} {loc:Loc} {m:MH} {sc:Scope} {e:Expr} {p rp:Pos} {α:Type} {K:Nat->(Nat->V)->(MH->Prop)->MH->Prop} (T:aS C A) (ec:g9 env sc) (f:α->V) (l:List α) (iw:l.length < 2 ^ 40)
  (h:WE C n env e loc m λv m1=>∃ a,v=.ref a/\m1 a=some (.tuple (l.map f))/\K l.length (λi=>(l.map f).getD (l.length - 1 - i) .none) (λm=>m a=some (.tuple (l.map f))) m1) (hk:sc.names.lookup ("reversed" : Str)=some .globalImplicit:=by rfl)
  (hse:starEach [e] env=[(false,eval e env)]:=by rfl):WI C n env (.Call (.Name "reversed" p) [e] [] rp) loc m K:=by
 rintro P A s R hr ⟨d,x⟩ kk;refine VP (Ck x (ec.kind _ _ hk (by decide)) (T.bi _ (by decide +kernel)) boot_reversed (by decide) ?_);have hb:backTo rp (starEach [e] env)=[(false,eval e env)]:=by rw[hse];rfl
 rw[hb];refine LF rfl (U4 (LZ (h P A s _ hr ⟨d,x⟩ λnv v m1 s1 hv x1 h1=>L6 ?_)));obtain ⟨a,rfl,hm,hK⟩:=h1;have ev:=bD hv;subst ev;obtain ⟨d1,x1⟩:=x1;obtain ⟨rs,k,g,he,_⟩:=x1.toaP.isTup hm;have hlen:=he.length;rw[ak] at hlen;refine Vb g (fK hlen iw) λtk=>?_;show Mk (s:={ s1 with heap:=s1.heap.push (ko a ((rs.length:Int) - 1)),toks:=tk }) (gF _ rfl) rfl;have hne:a≠s1.heap.objs.size:=gq (lI g);have src:=aa8 (C:=C) (A:=A) (xs:=l.map f) hr.1 hne (by rw[ak];exact iw);rw[ak] at src;refine kk _ _ _ _ (ko a ((rs.length:Int) - 1)) m1 s1 d1 tk src x1 ⟨?_,bk _⟩ rfl hK;rw[hlen];congr 1;simp
end
section
inductive fP (G:Gr):Nat->Nat->Prop
 | first (r d e x y t:Nat) (hr:r < G.R) (hd:(G.ai r)[d]? = some x) (rq:d < e) (he:(G.ai r)[e]? = some y) (hn:∀ k z,d < k->k < e->(G.ai r)[k]? = some z->cu G z) (h:gZ G y t):fP G x t
 | up (r d x t:Nat) (hr:r < G.R) (hd:(G.ai r)[d]? = some x) (hn:∀ k z,d < k->(G.ai r)[k]? = some z->cu G z) (h:fP G (G.aq r) t):fP G x t
namespace Gr
noncomputable def oi (G:Gr) (b s:Nat):Nat:=if s < G.T then G.fst s else if G.nul s then b ||| G.fst s else G.fst s
noncomputable def jN (G:Gr) (b:Nat) (l:List Nat):Nat:=l.foldr (λs b=>G.oi b s) b
noncomputable def i9 (G:Gr) (x:Nat):Nat:=if x < G.T then 0 else maskOf (fP G x) G.N
end Gr
theorem Ho:(G.fst x).testBit t=true↔t < G.N/\gZ G x t:=zj _ _ _
theorem ZV (h:gZ G x t):t < G.T:=by
 induction h with
 | term x h=>exact h
 | rule r d y t hr hd hn _ ih=>exact ih
theorem Hp (o:G.Ok) (h:cu G x):¬ x < G.T:=by
 ext G x;cases h with
 | mk r hr h=>
  by_cases q:r=0
  .subst q;rw[o.l0];exact DW
  .rcases o.lN r (z0 q) hr with h | h<;>rw[h]<;>exact ie eF
theorem GX (o:G.Ok) (b t:Nat):∀ l:List Nat,(G.jN b l).testBit t=true↔(∃ e y,l[e]? = some y/\(∀ z∈l.take e,cu G z)/\(t < G.N/\gZ G y t))\/((∀ z∈l,cu G z)/\b.testBit t=true):=by
 intro l_;induction l_ with
 | nil=>
  exact ⟨λh=>.inr ⟨by simp,h⟩,λh=>h.elim (λz_=>by obtain ⟨_,_,e,_,_⟩:=z_;contradiction) (·.2)⟩
 | cons s r iJ=>
  have ih:=iJ;change (G.oi (G.jN b r) s).testBit t=true↔_;have split:(∃ e y,(s::r)[e]? = some y/\(∀ z∈(s::r).take e,cu G z)/\(t < G.N/\gZ G y t))↔(t < G.N/\gZ G s t)\/(cu G s/\∃ e y,r[e]? = some y/\(∀ z∈r.take e,cu G z)/\(t < G.N/\gZ G y t)):=by
   constructor
   .rintro ⟨e,y,h1,h2,h3⟩;cases e with
    | zero=>rw[BN] at h1;cases h1;exact .inl h3
    | succ e=>
     rw[rI] at h1;rw[tW] at h2;exact .inr ⟨h2 s aZ,e,y,h1,λz hz=>h2 z (b9 _ hz),h3⟩
   .rintro (h | ⟨h1,e,y,h2,h3,h4⟩)
    .exact ⟨0,s,rfl,by simp,h⟩
    .refine ⟨e+1,y,by rw[rI];exact h2,λz hz=>?_,h4⟩;rw[tW] at hz;rcases b8.mp hz with rfl | hz
     .exact h1
     .exact h3 z hz
  rw[split];have all:(∀ z∈s::r,cu G z)↔cu G s/\∀ z∈r,cu G z:=List.forall_mem_cons;rw[all];unfold Gr.oi;by_cases q:s < G.T
  .have hn:¬ cu G s:=λh=>Hp o h q;rw[if_pos q,Ho];simp[hn]
  .rw[if_neg q];by_cases q2:G.nul s=true
   .rw[if_pos q2,eV,eU,ih,Ho];have hn:=Gr.uA.mp q2;simp only[hn,true_and];constructor
    .rintro ((h | h) | h)
     .exact .inl (.inr h)
     .exact .inr h
     .exact .inl (.inl h)
    .rintro ((h | h) | h)
     .exact .inr h
     .exact .inl (.inl h)
     .exact .inl (.inr h)
   .rw[if_neg q2,Ho];have hn:¬ cu G s:=λh=>q2 (Gr.uA.mpr h);simp[hn]
structure ry (G:Gr) (f:Nat->Nat):Prop where
 lt:∀ x,f x < 2 ^ G.N
 ok:∀ x,x < G.N->∀ t,(f x).testBit t=true->fP G x t
 tm:∀ x,x < G.T->f x=0
theorem HE {G:Gr} (x:Nat):G.fst x < 2 ^ G.N:=Y5 _ _
theorem aa9 {G:Gr} {b:Nat} (hb:b < 2 ^ G.N):∀ l:List Nat,G.jN b l < 2 ^ G.N:=by
 intro l_;induction l_ with
 | nil=>
  exact hb
 | cons s r ih=>
  change G.oi (G.jN b r) s < _;unfold Gr.oi;split
  .exact HE s
  .split
   .exact rM (ih) (HE s)
   .exact HE s
theorem ZW (o:G.Ok) (hr:r < G.R) (hd:(G.ai r)[d]? = some x) (hb:∀ t,b.testBit t=true->fP G (G.aq r) t) (ht:(G.jN b ((G.ai r).drop (d+1))).testBit t=true):fP G x t:=by
 ext G r d x b t;rcases (GX o b t _).mp ht with ⟨e,y,h1,h2,h3,h4⟩ | ⟨h1,h2⟩
 .rw[t8] at h1;refine .first r d (d+1+e) x y t hr hd xA h1 (λk z hk1 hk2 hz=>h2 z ?_) h4;rw[qv];have hk:=(bU.mp hz).1;refine ⟨k - (d+1),?_,?_⟩
  .rw[qy];exact Yw.mpr ⟨j9 hk2 hk1,Jl hk1 hk⟩
  .rw[Fe];have:=(bU.mp hz).2;simpa[show d+1+(k - (d+1))=k by exact fT hk1] using this
 .refine .up r d x t hr hd (λk z hk hz=>h1 z ?_) (hb t h2);have hk':=bU.mp hz;rw[U9];refine ⟨k - (d+1),by rw[qy];have:=hk'.1;exact Jl hk this,?_⟩;rw[Fe];simpa[show d+1+(k - (d+1))=k by exact fT hk] using hk'.2
theorem aba (o:G.Ok) (h:ry G f) (hc:∀ r,r < G.R->∀ d x,(G.ai r)[d]? = some x->¬ x < G.T->f x ||| G.jN (f (G.aq r)) ((G.ai r).drop (d+1))=f x) (hx:x < G.N):f x=G.i9 x:=by
 unfold Gr.i9;by_cases q:x < G.T
 .rw[if_pos q];exact h.tm x q
 .rw[if_neg q];refine Nx λt=>⟨λht=>⟨Ow (h.lt x) ht,h.ok x hx t ht⟩,?_⟩;rintro ⟨ht,hp⟩;clear hx;have nt:∀ r,r < G.R->¬ G.aq r < G.T:=λr hr=>by
   by_cases q:r=0
   .subst q;rw[o.l0];exact DW
   .rcases o.lN r (z0 q) hr with h | h<;>rw[h]<;>exact ie eF
  induction hp with
  | first r d e x y t hr hd rq he hn hp=>
   rw[<-hc r hr d x hd q,eV,eU];refine .inr ((GX o _ _ _).mpr (.inl ⟨e - (d+1),y,by rw[t8,show d+1+(e - (d+1))=e by exact fT rq];exact he,λz hz=>?_,ht,hp⟩));obtain ⟨k,hk,rfl⟩:=qv.mp hz;rw[qy] at hk;show hn (d+1+k) _ xA (Pe (nq hk));rw[Fe,aH]
  | up r d x t hr hd hn hp ih=>
   rw[<-hc r hr d x hd q,eV,eU];refine .inr ((GX o _ _ _).mpr (.inr ⟨λz hz=>?_,ih (nt r hr) ht⟩));obtain ⟨k,hk,rfl⟩:=U9.mp hz;rw[qy] at hk;show hn (d+1+k) _ xA;rw[Fe,aH]
section
variable {C:Cx} {A:TA} {n:Nat} {m:MH} {Q:V->MH->Prop} {g:GA} {G:Gr}
noncomputable def xR (G:Gr) (f:Nat->Nat) (r:Nat):Prop:=∀ d x,(G.ai r)[d]? = some x->¬ x < G.T->f x ||| G.jN (f (G.aq r)) ((G.ai r).drop (d+1))=f x
theorem Vt (T:aS C A) (o:G.Ok) (x:cU A m g G) (hn:5<=n)
  (h:∀ m' b,m.le m'->m b=none->m' b=some (.list ((aj G.N).map λy=>vn (G.i9 y)))->Q (.ref b) m'):FC C (A.f 18) n [.ref g.g] m Q:=by
 have hN:=Gr.N8 o;have JS:=o.nT;have hR:=o.r5;clear JS hR;ext C A n m Q g G;refine eG T 18 "follow_masks" ["grammar"] (eW hn) rfl (λenv ef=>?_) (by walk_at "bd1");k_is;lk;ext env;show cF T ef.toC 15;lk;refine FJ T o x (zf (eg hn)) λm1 na l1 Iz hna=>?_;lk;clear Iz;ext m1 na;show cF T ef.toC 17;lk;refine VI T o (x.le l1) (aK hn) λm2 fi l2 afj JU=>?_;have xQ:=l2 _ _ hna;have Ed:=l1.trans l2;lk;clear l2 afj;ext m2 fi;show bR;lk;refine ⟨by exact fF _,λc hc=>?_⟩;have lc:m2.le (m2.set c (.list [.int 0])):=MH.av hc;clear hc;ext c;show cG T 9 1 "Grammar.symbol_count" (x.le (Ed.trans lc)).self;lk;show CP T o (x.le (Ed.trans lc)) (aK (bK hn));refine z9 (k:=G.N) (MH.af _ _ _) (zz hN aI) λfo hfo=>?_;rw[CF];have qi:=MH.ay (o':=.list ((aj G.N).map λ_=>V.int 0)) (lc _ _ xQ) (MH.aE (lc _ _ xQ) hfo);have Sn:=MH.ay (o':=.list ((aj G.N).map λ_=>V.int 0)) (lc _ _ JU) (MH.aE (lc _ _ JU) hfo);have hnf:na≠fo:=MH.aE (lc _ _ xQ) hfo;have hff:fi≠fo:=MH.aE (lc _ _ JU) hfo;have Qk:=(Ed.trans lc).new hfo;have l3:=(Ed.trans lc).trans (MH.av (o:=.list ((aj G.N).map λ_=>V.int 0)) hfo);have JV:((m2.set c (.list [.int 0])).set fo (.list ((aj G.N).map λ_=>V.int 0))) fo=some (.list ((aj G.N).map λy=>vn ((λ_=>0) y))):=MH.af _ _ _;generalize (m2.set c (.list [.int 0])).set fo (.list ((aj G.N).map λ_=>V.int 0))=m3 at qi Sn l3 JV ⊢;have Be:ry G (λ_=>0):=⟨λ_=>yX j8,λy _ t ht=>by simp at ht,λ_ _=>rfl⟩;generalize (λ_:Nat=>0)=f0 at JV Be;have hB:∀ f,ry G f->sumF f G.N<=8*2 ^ 8:=λf hf=>by have h1:=Ox (f:=f) (B:=2 ^ 8) (λy=>aO (fy (hf.lt y)) (vS j8 hN)) G.N;exact aO h1 (gE _ hN)
 lk;clear hfo;ext fo m3 f0;refine qG (λk L mm=>∃ gr f,L=([("is_grown",.bool gr),("follows",.ref fo),("firsts",.ref fi),("nullables",.ref na),("grammar",.ref g.g)]:Loc)/\m.le mm/\mm na=some (.list ((aj G.N).map λy=>.bool (G.nul y)))/\mm fi=some (.list ((aj G.N).map λy=>vn (G.fst y)))/\
   mm fo=some (.list ((aj G.N).map λy=>vn (f y)))/\ry G f/\k=2*(8*2 ^ 8 - sumF f G.N)+(if gr then 1 else 0)/\(gr=false->∀ r,r < G.R->xR G f r)) _
  [("is_grown",.bool true),("follows",.ref fo),("firsts",.ref fi),("nullables",.ref na),("grammar",.ref g.g)] (by k_in) ⟨true,f0,rfl,l3,qi,Sn,JV,Be,rfl,λe=>by cases e⟩ ?_
 rintro k L mm aG;ext k L mm;show qW;intro QQ qe;ext QQ;obtain ⟨gr,f,rfl,p1,p2,p3,p4,fs,rfl,hcl⟩:=aG;ext gr f;show iR;lk;refine jl ⟨λhb=>?_,λhb=>?_⟩
 .subst hb;lk;refine kJ (cC (λr=>V.ref (g.ru r)) (aj G.R) ?_);show aA T 9 (x.le p1).self;refine ⟨_,rfl,(x.le p1).rules,?_⟩;refine ⟨λ_ i L mm=>∃ gr f',L=([("is_grown",.bool gr),("follows",.ref fo),("firsts",.ref fi),("nullables",.ref na),("grammar",.ref g.g)]:Loc)/\m.le mm/\mm na=some (.list ((aj G.N).map λy=>.bool (G.nul y)))/\mm fi=some (.list ((aj G.N).map λy=>vn (G.fst y)))/\
    mm fo=some (.list ((aj G.N).map λy=>vn (f' y)))/\ry G f'/\(gr=false->f'=f/\∀ r,r < i->xR G f r)/\(gr=true->sumF f G.N < sumF f' G.N),kW,
   ⟨[("is_grown",.bool false),("follows",.ref fo),("firsts",.ref fi),("nullables",.ref na),("grammar",.ref g.g)],by k_in,false,f,rfl,p1,p2,p3,p4,fs,λ_=>⟨rfl,λr hr=>(kc hr).elim⟩,λe=>by cases e⟩,λi L mm z_=>by obtain ⟨_,_,_,q,_,_,_,_,_,_⟩:=z_;exact (x.le q).rules,?_,?_⟩
  .rintro i L mm hi aG;ext i L mm;show bO;intro QQ bT;obtain ⟨gr,f',rfl,q1,q2,q3,q4,fs',dR,jx⟩:=aG;rw[aN] at hi;ext QQ gr f';refine cy (qO _ hi) (aM (ef.store ⋯) ?_);obtain ⟨lv,d9⟩:=(x.le q1).rule;have iK:=Gr.qL o hi;have hlen:=o.len i;lk;show aA T 8 (d9 i hi);show aJ q4 (aW _ iK) (by simp;exact zm hN (ao rfl));generalize hb0:f' (G.aq i)=b0;have ads:b0 < 2 ^ G.N:=by rw[<-hb0];exact fs'.lt _
   have adt:∀ t,b0.testBit t=true->fP G (G.aq i) t:=λt ht=>fs'.ok _ iK t (by rw[hb0];exact ht);generalize hrr:G.ai i=rr at *
   ext b0 rr;refine kJ (acz T ef.toC vn rr (zm hlen (ao rfl)) ?_);show aA T 8 (d9 i hi);refine ⟨_,rfl,by have:=(x.le q1).right i hi;rw[hrr] at this;exact this,?_⟩;refine ⟨λ_ j L mm=>∃ gr fC,L=([("behind",vn (G.jN b0 (rr.drop (rr.length - j)))),("rule",.ref (g.ru i)),("is_grown",.bool gr),("follows",.ref fo),("firsts",.ref fi),("nullables",.ref na),("grammar",.ref g.g)]:Loc)/\m.le mm/\mm na=some (.list ((aj G.N).map λy=>.bool (G.nul y)))/\mm fi=some (.list ((aj G.N).map λy=>vn (G.fst y)))/\
     mm fo=some (.list ((aj G.N).map λy=>vn (fC y)))/\ry G fC/\(gr=false->(fC=f/\b0=f (G.aq i))/\(∀ r,r < i->xR G f r)/\∀ d x,rr.length - j<=d->rr[d]? = some x->¬ x < G.T->f x ||| G.jN b0 (rr.drop (d+1))=f x)/\(gr=true->sumF f G.N < sumF fC G.N),kW,
    ⟨[("behind",vn b0),("rule",.ref (g.ru i)),("is_grown",.bool gr),("follows",.ref fo),("firsts",.ref fi),("nullables",.ref na),("grammar",.ref g.g)],by k_in,gr,f',?_,q1,q2,q3,q4,fs',λe=>⟨⟨(dR e).1,by rw[<-hb0,(dR e).1]⟩,(dR e).2,λd y hd hy=>?_⟩,jx⟩,λj L mm z_=>by obtain ⟨_,_,_,q,_,_,_,_,_,_⟩:=z_;have:=(x.le q).right i hi;rw[hrr] at this;exact this,?_,?_⟩
   .rw[Xh,Fg];rfl
   .exact (ig (bU.mp hy).1 hd).elim
   .rintro j L mm hj aG;ext j L mm;show bO;intro QQ gk;ext QQ;obtain ⟨gr,fC,rfl,r1,r2,r3,r4,iC,dR,jx⟩:=aG;have hd:rr.length - 1 - j < rr.length:=RC (RB hj)
    (revert dR;clear dR;intro dR);(revert jx;clear jx;intro jx);ext gr fC
    refine cy (getD_map hd) (aM (ef.store ⋯) ?_);have cZ:rr[rr.length - 1 - j] < G.N:=o.rN i _ (by rw[hrr];exact cW hd);have adu:rr.drop (rr.length - (j+1))=rr[rr.length - 1 - j]::rr.drop (rr.length - j):=by rw[show rr.length - (j+1)=rr.length - 1 - j by exact aed,EZ hd,PE hj]
    have hds:rr[rr.length - 1 - j]? = some rr[rr.length - 1 - j]:=aH hd;have Ef:rr.length - 1 - j+1=rr.length - j:=PE hj;generalize hY:rr[rr.length - 1 - j]=Y at *
    have sF:G.jN b0 (rr.drop (rr.length - (j+1)))=G.oi (G.jN b0 (rr.drop (rr.length - j))) Y:=by rw[adu];rfl
    have fV:=aa9 ads (rr.drop (rr.length - j));generalize hbv:G.jN b0 (rr.drop (rr.length - j))=bv at *
    revert hd;ext Y bv;intro hd hY;show ck;show iR;show cG T 9 2 "Grammar.is_terminal" (x.le r1).self;lk;show zG T (x.le r1) (aK (bK hn));refine jl ⟨λhb=>?_,λhb=>?_⟩
    .have Bf:Y < G.T:=by simpa using hb
     lk;show aJ r3 (aW _ cZ) (by simp;exact zm hN (ao rfl));have e1:G.oi bv Y=G.fst Y:=by unfold Gr.oi;rw[if_pos Bf]
     subst gk;refine zP ⟨[("behind",vn (G.fst Y)),("rule",.ref (g.ru i)),("is_grown",.bool gr),("follows",.ref fo),("firsts",.ref fi),("nullables",.ref na),("grammar",.ref g.g)],by k_in,gr,fC,by rw[sF,e1],r1,r2,r3,r4,iC,λe=>⟨(dR e).1,(dR e).2,λd y hd' hy iL=>?_⟩,jx⟩;by_cases qd:d=rr.length - 1 - j
     .subst qd;rw[hds] at hy;cases hy;exact absurd Bf iL
     .exact (dR e).3 d y (dm Ef.symm (zd (dm PG hd') (xC qd))) hy iL
    .have Bf:¬ Y < G.T:=by exact of_decide_eq_false (by assumption)
     show aX;have rest:∀ nD f3 aF,m.le aF->aF na=some (.list ((aj G.N).map λy=>.bool (G.nul y)))->aF fi=some (.list ((aj G.N).map λy=>vn (G.fst y)))->aF fo=some (.list ((aj G.N).map λy=>vn (f3 y)))->ry G f3->
       (nD=false->(f3=f/\b0=f (G.aq i))/\(∀ r,r < i->xR G f r)/\∀ d x,rr.length - (j+1)<=d->rr[d]? = some x->¬ x < G.T->f x ||| G.jN b0 (rr.drop (d+1))=f x)->(nD=true->sumF f G.N < sumF f3 G.N)->
       ∃ L,Sub L ([("behind",vn (G.oi bv Y)),("symbol",vn Y),("behind",vn bv),("rule",.ref (g.ru i)),("is_grown",.bool nD),("follows",.ref fo),("firsts",.ref fi),("nullables",.ref na),("grammar",.ref g.g)]:Loc)/\
        ∃ gr fC,L=([("behind",vn (G.jN b0 (rr.drop (rr.length - (j+1))))),("rule",.ref (g.ru i)),("is_grown",.bool gr),("follows",.ref fo),("firsts",.ref fi),("nullables",.ref na),("grammar",.ref g.g)]:Loc)/\m.le aF/\aF na=some (.list ((aj G.N).map λy=>.bool (G.nul y)))/\aF fi=some (.list ((aj G.N).map λy=>vn (G.fst y)))/\
     aF fo=some (.list ((aj G.N).map λy=>vn (fC y)))/\ry G fC/\(gr=false->(fC=f/\b0=f (G.aq i))/\(∀ r,r < i->xR G f r)/\∀ d x,rr.length - (j+1)<=d->rr[d]? = some x->¬ x < G.T->f x ||| G.jN b0 (rr.drop (d+1))=f x)/\(gr=true->sumF f G.N < sumF fC G.N):=λnD f3 aF t1 t2 t3 t4 t5 t6 t7=>
      ⟨[("behind",vn (G.oi bv Y)),("rule",.ref (g.ru i)),("is_grown",.bool nD),("follows",.ref fo),("firsts",.ref fi),("nullables",.ref na),("grammar",.ref g.g)],by k_in,nD,f3,by rw[sF],t1,t2,t3,t4,t5,t6,t7⟩
     refine um (λL aF=>∃ nD f3,L=([("symbol",vn Y),("behind",vn bv),("rule",.ref (g.ru i)),("is_grown",.bool nD),("follows",.ref fo),("firsts",.ref fi),("nullables",.ref na),("grammar",.ref g.g)]:Loc)/\m.le aF/\aF na=some (.list ((aj G.N).map λy=>.bool (G.nul y)))/\aF fi=some (.list ((aj G.N).map λy=>vn (G.fst y)))/\aF fo=some (.list ((aj G.N).map λy=>vn (f3 y)))/\ry G f3/\
       (nD=false->(f3=f/\b0=f (G.aq i))/\(∀ r,r < i->xR G f r)/\∀ d x,rr.length - (j+1)<=d->rr[d]? = some x->¬ x < G.T->f x ||| G.jN b0 (rr.drop (d+1))=f x)/\(nD=true->sumF f G.N < sumF f3 G.N)) ?_ ?_
     .lk;show aJ r4 (aW _ cZ) (by simp;exact zm hN (ao rfl));lk;show lX;lk;show aJ r4 (aW _ cZ) (by simp;exact zm hN (ao rfl));refine sE ⟨_,rfl,λhb=>?_,λhb=>?_⟩
      .have hne:fC Y ||| bv≠fC Y:=by simpa using hb
       walk_at "set";lk;show aJ r4 (aW _ cZ) (by simp;exact zm hN (ao rfl));lk;show lX;lk;show jE r4 (by simpa using cZ) (by simp;exact zm hN (ao rfl));lk;have hsl:sumF fC G.N < sumF (λy=>if y=Y then fC Y ||| bv else fC y) G.N:=by
        have hle:fC Y<=fC Y ||| bv:=Ws;refine Hl (y:=Y) (λy=>?_) (by simp only[if_true];exact xy hle hne) _ cZ;by_cases q:y=Y
        .subst q;simp only[if_true];exact hle
        .simp only[q,if_false];exact zg DW
       refine cX ⟨[("symbol",vn Y),("behind",vn bv),("rule",.ref (g.ru i)),("is_grown",.bool true),("follows",.ref fo),("firsts",.ref fi),("nullables",.ref na),("grammar",.ref g.g)],by k_in,true,λy=>if y=Y then fC Y ||| bv else fC y,rfl,r1.set Qk,MH.ay r2 hnf,MH.ay r3 hff,?_,⟨λy=>?_,λy hy t ht=>?_,λy hy=>?_⟩,λe=>(by cases e),λ_=>?_⟩
       .rw[MH.af,rW];congr 2;apply fD;intro z _;by_cases q:z=Y<;>simp[q]
       .by_cases q:y=Y
        .simp only[q,if_true];exact rM (iC.lt _) fV
        .simp only[q,if_false];exact iC.lt _
       .by_cases q:y=Y
        .subst q;simp only[if_true] at ht;rw[eV,eU] at ht;rcases ht with ht | ht
         .exact iC.ok _ hy t ht
         .show ZW o (r:=i) (d:=rr.length - 1 - j) hi (by rw[hrr];exact hds) adt (t:=t);rw[hrr,Ef,hbv];exact ht
        .simp only[q,if_false] at ht;exact iC.ok _ hy t ht
       .by_cases q:y=Y
        .subst q;exact absurd hy Bf
        .simp only[q,if_false];exact iC.tm _ hy
       .cases gr with
        | true=>exact FY (jx rfl) hsl
        | false=>rw[(dR rfl).1.1] at hsl;rw[(dR rfl).1.1];exact hsl
      .have heq:fC Y ||| bv=fC Y:=by simpa using hb
       refine cX ⟨[("symbol",vn Y),("behind",vn bv),("rule",.ref (g.ru i)),("is_grown",.bool gr),("follows",.ref fo),("firsts",.ref fi),("nullables",.ref na),("grammar",.ref g.g)],by k_in,gr,fC,rfl,r1,r2,r3,r4,iC,λe=>⟨(dR e).1,(dR e).2,λd y hd' hy iL=>?_⟩,jx⟩;by_cases qd:d=rr.length - 1 - j
       .subst qd;rw[hds] at hy;cases hy;rw[Ef,hbv,<-(dR e).1.1];exact heq
       .exact (dR e).3 d y (dm Ef.symm (zd (dm PG hd') (xC qd))) hy iL
     .rintro L aF ⟨nD,f3,rfl,t1,t2,t3,t4,t5,t6,t7⟩;have fin:=rest nD f3 aF t1 t2 t3 t4 t5 t6 t7;unfold Gr.oi at fin;rw[if_neg Bf] at fin;lk;show iR;lk;show aJ t2 (aW _ cZ) (by simp;exact zm hN (ao rfl));show jl;cases hnl:G.nul Y with
      | true=>
       rw[hnl] at fin;simp only[if_true] at fin ⊢;lk;show aJ t3 (aW _ cZ) (by simp;exact zm hN (ao rfl));show lX;subst gk;exact cX fin
      | false=>
       rw[hnl] at fin;simp only[cP,if_false] at fin ⊢;lk;show aJ t3 (aW _ cZ) (by simp;exact zm hN (ao rfl));subst gk;exact cX fin
   .rintro L mm (⟨gr,fC,rfl,r1,r2,r3,r4,iC,dR,jx⟩ | qX)
    .subst bT;refine fB [("is_grown",.bool gr),("follows",.ref fo),("firsts",.ref fi),("nullables",.ref na),("grammar",.ref g.g)] (by k_in) ⟨gr,fC,rfl,r1,r2,r3,r4,iC,λe=>⟨(dR e).1.1,λr hr=>?_⟩,jx⟩;by_cases q:r=i
     .subst q;intro d y hy iL;rw[hrr] at hy ⊢;rw[<-(dR e).1.2];exact (dR e).3 d y (zsy eF) hy iL
     .exact (dR e).2 r (cY hr q)
    .exact qX.elim
  .rintro L mm (⟨gr,f',rfl,q1,q2,q3,q4,fs',dR,jx⟩ | qX)
   .rw[aN] at dR;have hb1:=hB f' fs';have hb2:=hB f fs;subst qe;refine fB [("is_grown",.bool gr),("follows",.ref fo),("firsts",.ref fi),("nullables",.ref na),("grammar",.ref g.g)] (by k_in) ⟨2*(8*2 ^ 8 - sumF f' G.N)+(if gr then 1 else 0),?_,gr,f',rfl,q1,q2,q3,q4,fs',rfl,λe=>?_⟩
    .cases gr with
     | true=>exact PI (jx rfl) hb1
     | false=>rw[(dR rfl).1];exact aL _
    .obtain ⟨e1,e2⟩:=dR e;rw[e1];exact e2
   .exact qX.elim
 .subst hb;lk;show h mm fo p1 Qk;rw[p4];congr 2;apply fD;intro z hz;rw[aba o fs (hcl rfl) (by simpa using hz)]
end
end
section
inductive RT (rel:Nat->List Nat):Nat->Nat->Prop
 | refl (x):RT rel x x
 | step {x y z} (h:y∈rel x) (t:RT rel y z):RT rel x z
theorem RT.trans (h:RT rel x y) (h':RT rel y z):RT rel x z:=by
 induction h with
 | refl=>exact h'
 | step e _ ih=>exact .step e (ih h')
structure Ak (cnt:Nat) (rel:Nat->List Nat) (f0:Nat->Nat) (U:Nat->Nat->Prop):Prop where
 base:∀ x,x < cnt->∀ t,(f0 x).testBit t=true->U x t
 step:∀ x,x < cnt->∀ y∈rel x,∀ t,U y t->U x t
theorem Ak.rt {cnt:Nat} {rel:Nat->List Nat} {f0:Nat->Nat} {U:Nat->Nat->Prop} {x y:Nat} (hr:∀ x,x < cnt->∀ y∈rel x,y < cnt) (c:Ak cnt rel f0 U) (h:RT rel x y):x < cnt->∀ t,U y t->U x t:=by
 induction h with
 | refl=>exact λ_ _ h=>h
 | step e _ ih=>exact λhx t ht=>c.step _ hx _ e t (ih (hr _ hx _ e) t ht)
noncomputable def So (cnt:Nat) (rel:Nat->List Nat) (f0 f:Nat->Nat):Prop:=∀ U,Ak cnt rel f0 U->∀ x,x < cnt->∀ t,(f x).testBit t=true->U x t
structure nE where
 a:Addr
 x:Nat
 h:Nat
 k:Nat
instance:Nonempty nE:=⟨⟨default,0,0,0⟩⟩
noncomputable def Ch (rel:Nat->List Nat) (pile:List Nat) (H:Nat->Nat):Nat->Nat->List nE->Prop
 | lim,_,[]=>lim=0
 | lim,c,q::rest=>1<=q.h/\q.h<=lim/\pile[q.h - 1]? = some q.x/\(rel q.x)[q.k]? = some c/\(∀ p v,q.h<=p->p < lim->pile[p]? = some v->H q.x<=H v/\H v<=p)/\Ch rel pile H (q.h - 1) q.x rest
theorem Ch.congr {R:List nE} {lim c:Nat} (x:Ch rel pile H lim c R) (hp:∀ p,p < lim->adx[p]? = pile[p]?) (hH:∀ p v,p < lim->pile[p]? = some v->H' v=H v):Ch rel adx H' lim c R:=by
 induction R generalizing lim c with
 | nil=>exact x
 | cons q R ih=>
  obtain ⟨h1,h2,h3,h4,h5,h6⟩:=x;refine ⟨h1,h2,by rw[hp _ (mw h1 h2)];exact h3,h4,λp v g1 g2 g3=>?_,ih h6 (λp g=>hp p (zl g (sU h2))) (λp v g e=>hH p v (zl g (sU h2)) e)⟩;rw[hp _ g2] at g3;rw[hH _ _ g2 g3,hH (q.h - 1) q.x (mw h1 h2) h3];exact h5 p v g1 g2 g3
structure jR (cnt:Nat) (rel:Nat->List Nat) (f0 f H:Nat->Nat) (pile:List Nat):Prop where
 snd:So cnt rel f0 f
 nd:pile.Nodup
 lt:∀ v∈pile,v < cnt
 hp:∀ p v,pile[p]? = some v->1<=H v/\H v<=p+1/\∃ w,pile[H v - 1]? = some w/\RT rel v w
 hz:∀ v,v < cnt->v∉pile->H v=0\/H v=cnt+1
structure nF (rel:Nat->List Nat) (H:Nat->Nat) (pile:List Nat) (q:nE) (R:List nE):Prop where
 h1:1<=q.h
 at_:pile[q.h - 1]? = some q.x
 kl:q.k<=(rel q.x).length
 ft:∀ p v,q.h<=p->pile[p]? = some v->H v<=p/\(H q.x<=H v\/∃ y,(rel q.x)[q.k]? = some y/\H y≠0/\H y<=H v)
 ch:Ch rel pile H (q.h - 1) q.x R
theorem jR.len {cnt:Nat} {rel:Nat->List Nat} {f0 f H:Nat->Nat} {pile:List Nat} (b:jR cnt rel f0 f H pile):pile.length<=cnt:=jM b.nd b.lt
theorem wz {l:List Nat} {i j v:Nat} (h:l.Nodup) (hi:l[i]? = some v) (hj:l[j]? = some v):i=j:=by
 obtain ⟨h1,e1⟩:=bU.mp hi;obtain ⟨h2,e2⟩:=bU.mp hj;rcases Ma i j with q | q | q
 .exact absurd (e1.trans e2.symm) ((qw.mp h) i j h1 h2 q)
 .exact q
 .exact absurd (e2.trans e1.symm) ((qw.mp h) j i h2 h1 q)
section
variable {cnt:Nat} {rel:Nat->List Nat} {f0 f H:Nat->Nat} {pile:List Nat} {q:nE} {R:List nE}
theorem Oz (b:jR cnt rel f0 f H pile) (hr:∀ x,x < cnt->∀ y∈rel x,y < cnt) (hy:y < cnt) (h0:H y=0):jR cnt rel f0 f (λv=>if v=y then pile.length+1 else H v) (pile++[y]):=by
 have nB:y∉pile:=λhm=>by obtain ⟨p,hp⟩:=vQ.mp hm;have:=(b.hp p y hp).1;exact sW this h0
 clear hr h0;ext cnt rel f0 f H pile y;refine ⟨b.snd,?_,λv hv=>?_,λp v hp=>?_,λv hv hm=>?_⟩
 .rw[lG];exact ⟨b.nd,by exact of_decide_eq_true rfl,λa ha c hc e=>nB (by rw[bQ] at hc;rw[<-hc,<-e];exact ha)⟩
 .rcases bN.mp hv with h | h
  .exact b.lt v h
  .rw[bQ.mp h];exact hy
 .by_cases hpl:p < pile.length
  .rw[jT hpl] at hp;have hvy:v≠y:=λe=>nB (e▸bC hp);obtain ⟨g1,g2,w,g3,g4⟩:=b.hp p v hp;simp only[hvy,if_false];exact ⟨g1,g2,w,by rw[jT (zl (mw g1 g2) hpl)];exact g3,g4⟩
  .have JW:p=pile.length:=by
    have:=(bU.mp hp).1;simp at this;exact ow this hpl
   subst JW;rw[oQ (aL _)] at hp;simp at hp;subst hp;simp only[if_true];refine ⟨aI,aL _,y,?_,.refl y⟩;rw[tZ,oQ (aL _)];simp
 .rw[bN,bQ,not_or] at hm;simp only[hm.2,if_false];exact b.hz v hv hm.1
theorem ZX (b:jR cnt rel f0 f H pile) (t:nF rel H pile q R) (hy:(rel q.x)[q.k]? = some y) (h0:H y=0) (a:Addr) :
  nF rel (λv=>if v=y then pile.length+1 else H v) (pile++[y]) ⟨a,y,pile.length+1,0⟩ (q::R):=by
 have nB:y∉pile:=λhm=>by obtain ⟨p,hp⟩:=vQ.mp hm;have:=(b.hp p y hp).1;exact sW this h0
 have cB:q.h - 1 < pile.length:=(bU.mp t.at_).1;have t1:=t.h1;have old:∀ p v,pile[p]? = some v->(if v=y then pile.length+1 else H v)=H v:=λp v hp=>if_neg (λe:v=y=>nB (e▸bC hp));clear b nB;ext cnt rel f0 f H pile q R y a;refine ⟨by change 1<=pile.length+1;exact aI,?_,bk _,λp v hp hv=>?_,t1,dm (pY t1) cB,?_,hy,λp v g1 g2 g3=>?_,t.ch.congr (λp hp=>?_) λp v hp hv=>old p v hv⟩
 .change (pile++[y])[pile.length+1 - 1]? = some y;rw[tZ,oQ (aL _)];simp
 .have:=(bU.mp hv).1;simp at this;change pile.length+1<=p at hp;exact (ig this hp).elim
 .rw[jT cB];exact t.at_
 .change p < pile.length+1 - 1 at g2;rw[jT (pV g2 RE)] at g3;clear g2;ext p v;obtain ⟨k1,k2⟩:=t.ft p v g1 g3;change (if q.x=y then pile.length+1 else H q.x)<=(if v=y then pile.length+1 else H v)/\(if v=y then pile.length+1 else H v)<=p;rw[old p v g3,old _ _ t.at_];refine ⟨?_,k1⟩;rcases k2 with k2 | ⟨y',e1,e2,_⟩
  .exact k2
  .rw[hy] at e1;cases e1;exact absurd h0 e2
 .rw[jT (zn hp cB)]
theorem abb {y:Nat} {H':Nat->Nat} (b:jR cnt rel f0 f H pile) (hr:∀ x,x < cnt->∀ y∈rel x,y < cnt) (t:nF rel H pile q R) (hy:(rel q.x)[q.k]? = some y) (h0:H y≠0) (hH:H'=λv=>if v=q.x then min (H q.x) (H y) else H v) :
  jR cnt rel f0 (λv=>if v=q.x then f q.x ||| f y else f v) H' pile/\nF rel H' pile ⟨q.a,q.x,q.h,q.k+1⟩ R:=by
 ext cnt rel f0 f H pile q R y H';subst hH;have xS:q.x∈pile:=bC t.at_;have hx:=b.lt _ xS;have kq:y∈rel q.x:=bC hy;have hyc:=hr _ hx _ kq;have t1:=t.h1;obtain ⟨x1,x2,w,x3,x4⟩:=b.hp _ _ t.at_;have cB:q.h - 1 < pile.length:=(bU.mp t.at_).1;have hcl:=b.len;have yp:H y < H q.x->y∈pile:=λhlt=>by
  by_cases hm:y∈pile
  .exact hm
  .rcases b.hz y hyc hm with h | h
   .exact absurd h h0
   .exact (ig (fK h.symm hlt) (zo (zz x2 (zz cB hcl)))).elim
 refine ⟨⟨λU c v hv i hi=>?_,b.nd,b.lt,λp v hp=>?_,λv hv hm=>?_⟩,⟨t1,t.at_,?_,λp v hp hv=>?_,t.ch.congr (λp hp=>rfl) λp v hp hv=>?_⟩⟩
 .by_cases e:v=q.x
  .subst e;simp only[if_true] at hi;rw[eV,eU] at hi;rcases hi with hi | hi
   .exact b.snd U c _ hx i hi
   .exact c.step _ hx y kq i (b.snd U c y hyc i hi)
  .simp only[e,if_false] at hi;exact b.snd U c v hv i hi
 .by_cases e:v=q.x
  .subst e;simp only[if_true];have JW:=wz b.nd hp t.at_;subst JW;by_cases hlt:H y < H q.x
   .rw[yK (zf hlt)];have hyp:=yp hlt;obtain ⟨py,Bg⟩:=vQ.mp hyp;obtain ⟨y1,y2,w',y3,y4⟩:=b.hp py y Bg;exact ⟨y1,zf (zl hlt x2),w',y3,.step kq y4⟩
   .rw[rO (zg hlt)];exact ⟨x1,x2,w,x3,x4⟩
  .simp only[e,if_false];exact b.hp p v hp
 .have e:v≠q.x:=λe=>hm (e▸xS);simp only[e,if_false];exact b.hz v hv hm
 .have:=(bU.mp hy).1;exact this
 .change q.h<=p at hp;ext p v;obtain ⟨k1,k2⟩:=t.ft p v hp hv;have e:v≠q.x:=λe=>by
   subst e;have:=wz b.nd hv t.at_;exact sW (mw t1 hp) this
  simp only[e,if_false,if_true];refine ⟨k1,.inl ?_⟩;rcases k2 with k2 | ⟨y',e1,e2,e3⟩
  .exact zmk k2
  .rw[hy] at e1;cases e1;exact Jq e3
 .have e:v≠q.x:=λe=>by
   subst e;have:=wz b.nd hv t.at_;exact mz hp this
  exact if_neg (by assumption)
theorem abc (b:jR cnt rel f0 f H pile) (t:nF rel H pile q (r::R)) (hk:q.k=(rel q.x).length) (hn:H q.x≠q.h):nF rel H pile r R:=by
 ext cnt rel f0 f H pile q R r;obtain ⟨c1,c2,c3,c4,c5,c6⟩:=t.ch;have t1:=t.h1;obtain ⟨x1,x2,w,x3,x4⟩:=b.hp _ _ t.at_;refine ⟨c1,c3,by have:=(bU.mp c4).1;exact zf this,λp v hp hv=>?_,c6⟩;by_cases g:p < q.h - 1
 .obtain ⟨d1,d2⟩:=c5 p v hp g hv;exact ⟨d2,.inl d1⟩
 .by_cases g2:p=q.h - 1
  .subst g2;rw[t.at_] at hv;cases hv;exact ⟨DQ x2 λe=>hn (e.trans (zc t1)),.inr ⟨q.x,c4,nu x1,aL _⟩⟩
  .obtain ⟨d1,d2⟩:=t.ft p v (dm (pY t1) (xy (zg g) g2)) hv;refine ⟨d1,.inr ⟨q.x,c4,nu x1,?_⟩⟩;rcases d2 with d2 | ⟨y,e1,_⟩
   .exact d2
   .have:=(bU.mp e1).1;exact (mz this hk).elim
theorem abd (b:jR cnt rel f0 f H pile) (t:nF rel H pile q []):H q.x=q.h:=by have c:q.h - 1=0:=t.ch;have t1:=t.h1;obtain ⟨x1,x2,_⟩:=b.hp _ _ t.at_;exact kT (zz x2 (ze (zc t1))) (dm ((pY t1).trans (congrArg (·+ 1) c)) x1)
theorem ZY (b:jR cnt rel f0 f H pile) (t:nF rel H pile q R) (hk:q.k=(rel q.x).length) (hh:H q.x=q.h):∀ p v,q.h - 1<=p->pile[p]? = some v->RT rel v q.x:=by
 intro p;induction p using Nat.strongRecOn with
 | _ p ih=>
  intro v hp hv;have t1:=t.h1;by_cases g:p=q.h - 1
  .subst g;rw[t.at_] at hv;cases hv;exact .refl _
  .obtain ⟨d1,d2⟩:=t.ft p v (dm (pY t1) (xy hp g)) hv;obtain ⟨y1,y2,w,y3,y4⟩:=b.hp p v hv;have hge:q.h<=H v:=by
    rcases d2 with d2 | ⟨y,e1,_⟩
    .exact zz (pW hh) d2
    .have:=(bU.mp e1).1;exact (mz this hk).elim
   exact y4.trans (ih (H v - 1) (mw y1 d1) w (Jp hge) y3)
theorem abe {f' H':Nat->Nat} (b:jR cnt rel f0 f H pile) (hr:∀ x,x < cnt->∀ y∈rel x,y < cnt) (t:nF rel H pile q R) (hk:q.k=(rel q.x).length) (hh:H q.x=q.h) (hf:f'=λv=>if v∈pile.drop (q.h - 1) then f q.x else f v) (hH:H'=λv=>if v∈pile.drop (q.h - 1) then cnt+1 else H v) :
  jR cnt rel f0 f' H' (pile.take (q.h - 1))/\(∀ r R',R=r::R'->nF rel H' (pile.take (q.h - 1)) r R')/\(R=[]->pile.take (q.h - 1)=[]):=by
 ext cnt rel f0 f H pile q R f' H';subst hf hH;have t1:=t.h1;have xS:q.x∈pile:=bC t.at_;have hx:=b.lt _ xS;have low:∀ p v,p < q.h - 1->pile[p]? = some v->v∉pile.drop (q.h - 1):=λp v hp hv hm=>by obtain ⟨j,hj⟩:=vQ.mp hm;rw[t8] at hj;have:=wz b.nd hv hj;exact mz (jQ hp) this
 have tk:∀ p,p < q.h - 1->(pile.take (q.h - 1))[p]? = pile[p]?:=λp hp=>LM hp;refine ⟨⟨λU c v hv i hi=>?_,b.nd.sublist (VE _ _),λv hv=>b.lt v (mJ hv),λp v hp=>?_,λv hv hm=>?_⟩,λr R' e=>?_,λe=>?_⟩
 .by_cases g:v∈pile.drop (q.h - 1)
  .simp only[g,if_true] at hi;obtain ⟨j,hj⟩:=vQ.mp g;rw[t8] at hj;have JX:=ZY b t hk hh _ v eF hj;have hxi:=b.snd U c _ hx i hi;exact c.rt hr JX hv i hxi
  .simp only[g,if_false] at hi;exact b.snd U c v hv i hi
 .have hpl:p < q.h - 1:=by
   have:=(bU.mp hp).1;rw[nR] at this;exact nq this
  rw[tk p hpl] at hp;ext p v;obtain ⟨y1,y2,w,y3,y4⟩:=b.hp p v hp;have g:=low p v hpl hp;simp only[g,if_false];exact ⟨y1,y2,w,by rw[tk _ (zl (mw y1 y2) hpl)];exact y3,y4⟩
 .by_cases g:v∈pile.drop (q.h - 1)
  .simp only[g,if_true];exact .inr trivial
  .simp only[g,if_false];refine b.hz v hv λny=>?_;rw[<-List.take_append_drop (q.h - 1) pile,bN] at ny;exact ny.elim hm g
 .ext r R';subst e;obtain ⟨c1,c2,c3,c4,c5,c6⟩:=t.ch;have hx':r.x∉pile.drop (q.h - 1):=low _ _ (mw c1 c2) c3;refine ⟨c1,by rw[tk _ (mw c1 c2)];exact c3,by have:=(bU.mp c4).1;exact zf this,λp v hp hv=>?_,c6.congr (λp hp=>tk p (zl hp (sU c2))) λp v hp hv=>?_⟩
  .have hpl:p < q.h - 1:=by
    have:=(bU.mp hv).1;rw[nR] at this;exact nq this
   rw[tk p hpl] at hv;have g:=low p v hpl hv;simp only[g,hx',if_false];obtain ⟨d1,d2⟩:=c5 p v hp hpl hv;exact ⟨d2,.inl d1⟩
  .have g:=low p v (zl hp (sU c2)) hv;exact if_neg (by assumption)
 .subst e;have c:q.h - 1=0:=t.ch;rw[c];rfl
end
end
section
structure gR (m0 mm:MH) (cnt:Nat) (ro ho po:Addr) (f H:Nat->Nat) (pile:List Nat):Prop where
 le:m0.le mm
 r:mm ro=some (.list ((aj cnt).map λx=>vn (f x)))
 hh:mm ho=some (.list ((aj cnt).map λx=>vn (H x)))
 p:mm po=some (.list (pile.map vn))
 d:ro≠ho/\ro≠po/\ho≠po
 n:m0 ro=none/\m0 ho=none/\m0 po=none
structure iy (m0 mm:MH) (ro ho po fo:Addr) (R:List nE):Prop where
 f:mm fo=some (.list (R.reverse.map λq=>V.ref q.a))
 q:∀ q∈R,mm q.a=some (.list [vn q.x,vn q.h,vn q.k])/\m0 q.a=none/\q.a≠ro/\q.a≠ho/\q.a≠po/\q.a≠fo
 nd:(R.map (·.a)).Nodup
 n:m0 fo=none/\fo≠ro/\fo≠ho/\fo≠po
section
variable {m0 mm:MH} {cnt:Nat} {ro ho po fo:Addr} {f H:Nat->Nat} {pile:List Nat} {R:List nE}
theorem gR.Ql (x:gR m0 mm cnt ro ho po f H pile) (y v:Nat):gR m0 (mm.set ro (.list (((aj cnt).map λx=>vn (f x)).set y (vn v)))) cnt ro ho po (λx=>if x=y then v else f x) H pile:=
 ⟨x.le.set x.n.1,by rw[MH.af,rW];congr 2;apply fD;intro z _;by_cases q:z=y<;>simp[q],MH.ay x.hh x.d.1.symm,MH.ay x.p x.d.2.symm,x.d,x.n⟩
theorem gR.Dp (x:gR m0 mm cnt ro ho po f H pile) (y v:Nat):gR m0 (mm.set ho (.list (((aj cnt).map λx=>vn (H x)).set y (vn v)))) cnt ro ho po f (λx=>if x=y then v else H x) pile:=
 ⟨x.le.set x.n.2,MH.ay x.r x.d.1,by rw[MH.af,rW];congr 2;apply fD;intro z _;by_cases q:z=y<;>simp[q],MH.ay x.p x.d.3.symm,x.d,x.n⟩
theorem gR.IB (x:gR m0 mm cnt ro ho po f H pile) (p':List Nat):gR m0 (mm.set po (.list (p'.map vn))) cnt ro ho po f H p':=
 ⟨x.le.set x.n.3,MH.ay x.r x.d.2,MH.ay x.hh x.d.3,MH.af _ _ _,x.d,x.n⟩
theorem gR.keep (x:gR m0 mm cnt ro ho po f H pile) (hl:m0.le m') (h1:m' ro=mm ro) (h2:m' ho=mm ho) (h3:m' po=mm po):gR m0 m' cnt ro ho po f H pile:=
 ⟨hl,h1.trans x.r,h2.trans x.hh,h3.trans x.p,x.d,x.n⟩
theorem iy.keep (x:iy m0 mm ro ho po fo R) (hf:m' fo=mm fo) (h:∀ q∈R,m' q.a=mm q.a):iy m0 m' ro ho po fo R:=
 ⟨hf.trans x.f,λq hq=>⟨(h q hq).trans (x.q q hq).1,(x.q q hq).2,(x.q q hq).3,(x.q q hq).4,(x.q q hq).5,(x.q q hq).6⟩,x.nd,x.n⟩
theorem iy.Sp (x:iy m0 mm ro ho po fo R) (ob:O):iy m0 (mm.set ro ob) ro ho po fo R:=x.keep (MH.aC x.n.2) λq hq=>MH.aC (x.q q hq).3
theorem iy.JY (x:iy m0 mm ro ho po fo R) (ob:O):iy m0 (mm.set ho ob) ro ho po fo R:=x.keep (MH.aC x.n.3) λq hq=>MH.aC (x.q q hq).4
theorem iy.Sq (x:iy m0 mm ro ho po fo R) (ob:O):iy m0 (mm.set po ob) ro ho po fo R:=x.keep (MH.aC x.n.4) λq hq=>MH.aC (x.q q hq).5
theorem gR.off (x:gR m0 mm cnt ro ho po f H pile) (ob:O) (hn:m0 a=none) (h1:a≠ro) (h2:a≠ho) (h3:a≠po):gR m0 (mm.set a ob) cnt ro ho po f H pile:=
 x.keep (x.le.set hn) (MH.aC h1.symm) (MH.aC h2.symm) (MH.aC h3.symm)
end
theorem Ch.len {R:List nE} {lim c:Nat} (x:Ch rel pile H lim c R):R.length<=lim:=by
 induction R generalizing lim c with
 | nil=>exact bk _
 | cons q R ih=>
  obtain ⟨h1,h2,_,_,_,h6⟩:=x;have:=ih h6;rw[fM];exact zm this (mw h1 h2)
noncomputable def vv (rel:Nat->List Nat) (cnt:Nat) (H:Nat->Nat) (R:List nE):Nat:=sumF (λv=>if H v=0 then (rel v).length+2 else 0) cnt+(R.map λq=>(rel q.x).length - q.k+1).sum
theorem ZZ (h:∀ x,x≠y->g' x=g x):∀ k,y < k->sumF g k+g' y=sumF g' k+g y:=by
 intro l_;induction l_ with
 | zero=>
  intro q;exact (kc q).elim
 | succ k iJ=>
  intro q;dsimp only[wu];by_cases e:y=k
  .subst e;have:∀ j,j<=y->sumF g j=sumF g' j:=by
    intro j;induction j with
    | zero=>intro _;rfl
    | succ j ih=>intro hj;dsimp only[wu];rw[ih (zf hj),h j (kU hj)]
   rw[this y (aL _)];exact DT
  .have:=iJ (cY q e);rw[h k (λe'=>e e'.symm)];exact (DT.trans (congrArg (·+ g k) this)).trans DT
theorem M6 (h:∀ x,g' x=g x):∀ k,sumF g' k=sumF g k:=by
 intro l_;induction l_ with
 | zero=>
  exact rfl
 | succ k ih=>
  dsimp only[wu];rw[ih,h k]
section
variable {C:Cx} {A:TA} {n:Nat} {m:MH} {Q:V->MH->Prop}
theorem MJ {cnt:Nat} {ra ma:Addr} {rl:Nat->Addr} {rel:Nat->List Nat} {f0:Nat->Nat} (T:aS C A) (hn:2<=n) (hc:cnt<=10000) (qg:m ra=some (.list ((aj cnt).map λx=>.ref (rl x)))) (hrl:∀ x,x < cnt->m (rl x)=some (.list ((rel x).map vn))) (tB:∀ x,x < cnt->∀ y∈rel x,y < cnt) (hlen:∀ x,(rel x).length<=10000) (hma:m ma=some (.list ((aj cnt).map λx=>vn (f0 x)))) (h:∀ m' b f,m.le m'->m b=none->m' b=some (.list ((aj cnt).map λx=>vn (f x)))->So cnt rel f0 f->Q (.ref b) m'):FC C (A.f 31) n [vn cnt,.ref ra,.ref ma] m Q:=by
 ext C A n m Q cnt ra ma rl rel f0;refine eG T 31 "digraph" ["count","relation","masks"] (zf hn) rfl (λenv ef=>?_) (by walk_at "bd3");k_is;lk;ext env;show mO T ef.toC (by rfl);lk;refine v8 hma (by simp;exact zz hc aI) λro qj=>?_;lk;ext ro;show bR;lk;refine ⟨by exact fF _,λc hcn=>?_⟩;have l1:m.le ((m.set ro (.list ((aj cnt).map λx=>vn (f0 x)))).set c (.list [.int 0])):=(MH.av qj).trans (MH.av hcn);have IC:ro≠c:=MH.aE (MH.af _ ro _) hcn;lk;refine z9 (k:=cnt) (MH.af _ _ _) (zz hc aI) λho Eg=>?_;rw[CF];have JZ:ro≠ho:=MH.aE (MH.ay (MH.af _ ro _) IC) Eg;lk;show lP;lk;clear hcn;ext c ho;refine bR (cM ⟨by simp,λpo Bh=>?_⟩);have J0:ro≠po:=MH.aE (MH.ay (MH.ay (MH.af _ ro _) IC) JZ) Bh;have J1:ho≠po:=MH.aE (MH.af _ ho _) Bh;have Ss:gR m ((((m.set ro (.list ((aj cnt).map λx=>vn (f0 x)))).set c (.list [.int 0])).set ho (.list ((aj cnt).map λ_=>V.int 0))).set po (.list [])) cnt ro ho po f0 (λ_=>0) []:=
  ⟨(l1.trans (MH.av Eg)).trans (MH.av Bh),MH.ay (MH.ay (MH.ay (MH.af _ _ _) IC) JZ) J0,MH.ay (MH.af _ _ _) J1,MH.af _ _ _,⟨JZ,J0,J1⟩,qj,l1.new Eg,(l1.trans (MH.av Eg)).new Bh⟩
 generalize (((m.set ro (.list ((aj cnt).map λx=>vn (f0 x)))).set c (.list [.int 0])).set ho (.list ((aj cnt).map λ_=>V.int 0))).set po (.list [])=m1 at Ss ⊢;have b0:jR cnt rel f0 f0 (λ_=>0) []:=⟨λU c x hx t ht=>c.base x hx t ht,by simp,λv hv=>by simp at hv,λp v hp=>by contradiction,λ_ _ _=>.inl rfl⟩;lk;clear Bh J0 J1;ext po m1;refine dw (λ_=>[("pile",.ref po),("done",vn (cnt+1)),("heights",.ref ho),("result",.ref ro),("count",vn cnt),("relation",.ref ra),("masks",.ref ma)]) (λi mm=>∃ f H,gR m mm cnt ro ho po f H []/\jR cnt rel f0 f H []) (lJ T ef.toC ?_);lk;refine ⟨cnt,rfl,zm hc (ao rfl),by k_in,⟨f0,_,Ss,b0⟩,λ_ _ _=>trivial,?_,?_⟩
 .rintro i mm hi aG;ext i mm;show bO;intro QQ bP;ext QQ;obtain ⟨f,H,dg,b⟩:=aG;ext f H;show aM (ef.store ⋯);show ck;lk;show aJ dg.hh (aW _ hi) (by simp;exact zm hc (ao rfl));lk;refine Po ⟨_,rfl,λhb=>?_,λhb=>?_⟩
  .subst bP;exact zP ⟨by k_in,f,H,dg,b⟩
  .have h0:H i=0:=by simpa using hb
   refine aX (iV ⟨_,dg.p⟩ ?_);lk;refine ⟨_,dg.p,by exact fF _,?_⟩;have gS:=dg.IB [i];change gR m (mm.set po (.list (lO vn []++[vn i]))) cnt ro ho po f H [i] at gS;have b1:=Oz b tB hi h0;walk_at "set";show bY T ef.toC (by rfl);lk;show fz gS.p (of_decide_eq_true rfl);lk;show jE gS.hh (by simpa using hi) (by simp;exact zm hc (ao rfl));have gz:=gS.Dp i 1;change jR cnt rel f0 f (λv=>if v=i then 1 else H v) [i] at b1;show fN (ef.store ⋯);show bR;refine dI (bR ?_);lk;show bY T ef.toC (by rfl);lk;show fz gz.p (of_decide_eq_true rfl);lk;refine ⟨by exact of_decide_eq_true rfl,λqa eH=>cM ⟨by exact fF _,λfo hfo=>?_⟩⟩;have jy:qa≠ro/\qa≠ho/\qa≠po:=⟨(MH.aE gz.r eH).symm,(MH.aE gz.hh eH).symm,(MH.aE gz.p eH).symm⟩;have ja:=gz.off (.list [vn i,.int 1,.int 0]) (gz.le.new eH) jy.1 jy.2 jy.3;have vz:fo≠ro/\fo≠ho/\fo≠po:=⟨(MH.aE ja.r hfo).symm,(MH.aE ja.hh hfo).symm,(MH.aE ja.p hfo).symm⟩;have J2:qa≠fo:=MH.aE (MH.af _ qa _) hfo;have vA:=ja.off (.list [.ref qa]) (ja.le.new hfo) vz.1 vz.2 vz.3;have xT:iy m ((((mm.set po (.list (lO vn []++[vn i]))).set ho (.list (((aj cnt).map λx=>vn (H x)).set i (vn 1)))).set qa (.list [vn i,.int 1,.int 0])).set fo (.list [.ref qa])) ro ho po fo [⟨qa,i,1,0⟩]:=
    ⟨MH.af _ _ _,λq hq=>by rw[bQ.mp hq];exact ⟨MH.ay (MH.af _ _ _) J2,gz.le.new eH,jy.1,jy.2,jy.3,J2⟩,by exact of_decide_eq_true rfl,ja.le.new hfo,vz.1,vz.2,vz.3⟩
   have t1:nF rel (λv=>if v=i then 1 else H v) [i] ⟨qa,i,1,0⟩ []:=⟨aL _,rfl,bk _,λp v hp hv=>by change 1<=p at hp;have:=(bU.mp hv).1;simp at this;exact (sW hp this).elim,rfl⟩
   change WS C _ env _ _ ((((mm.set po (.list (lO vn []++[vn i]))).set ho (.list (((aj cnt).map λx=>vn (H x)).set i (vn 1)))).set qa (.list [vn i,.int 1,.int 0])).set fo (.list [.ref qa])) _;generalize (((mm.set po (.list (lO vn []++[vn i]))).set ho (.list (((aj cnt).map λx=>vn (H x)).set i (vn 1)))).set qa (.list [vn i,.int 1,.int 0])).set fo (.list [.ref qa])=m4 at vA xT ⊢;clear eH hfo jy vz J2;ext qa fo m4;refine qG (λk L mm=>∃ f H pile R,L=([("frames",.ref fo),("start",vn i),("pile",.ref po),("done",vn (cnt+1)),("heights",.ref ho),("result",.ref ro),("count",vn cnt),("relation",.ref ra),("masks",.ref ma)]:Loc)/\gR m mm cnt ro ho po f H pile/\iy m mm ro ho po fo R/\jR cnt rel f0 f H pile/\
     (∀ q R',R=q::R'->nF rel H pile q R')/\(R=[]->pile=[])/\k=vv rel cnt H R) _
    [("frames",.ref fo),("start",vn i),("pile",.ref po),("done",vn (cnt+1)),("heights",.ref ho),("result",.ref ro),("count",vn cnt),("relation",.ref ra),("masks",.ref ma)] (by k_in) ⟨f,_,[i],[⟨qa,i,1,0⟩],rfl,vA,xT,b1,λq R' e=>by cases e;exact t1,λe=>(by cases e),rfl⟩ ?_
   rintro k L mm aG;ext k L mm;show qW;intro QQ bT;ext QQ;obtain ⟨f,H,pile,R,rfl,dg,fr,b,ht,he,rfl⟩:=aG
   (revert dg;clear dg;intro dg);(revert b;clear b;intro b);ext f H pile R
   show iR;lk;have k6:R.length<=cnt:=by
    cases R with
    | nil=>simp
    | cons q R'=>
     have t:=ht q R' rfl;have h1:=t.ch.len;have h2:=(bU.mp t.at_).1;have h3:=b.len;have h4:=t.h1;rw[fM];exact zz (zm h1 h2) h3
   show acq fr.f (by rw[ak,Fb];exact zm k6 (zm hc (ao rfl)));cases R with
   | nil=>
    refine ⟨λhb=>by exact mK hb,λ_=>?_⟩;rw[he rfl] at dg b;subst bP;exact br (by k_in) ⟨f,H,dg,b⟩
   | cons q R=>
    ext q R;refine ⟨λ_=>?_,λhb=>by simp at hb⟩;have t:=ht q R rfl;have hfl:mm fo=some (.list (R.reverse.map (λq=>V.ref q.a)++[.ref q.a])):=by rw[fr.f,Mc,aV];rfl
    obtain ⟨hq1,hq2,Su,Sv,Sw,J3⟩:=fr.q q aZ;have xS:q.x∈pile:=bC t.at_;have hx:=b.lt _ xS;have ID:R.length < cnt:=by rw[fM] at k6;exact k6
    have hpl:=b.len;have Sx:=dg.le _ _ (hrl _ hx);have Qm:=dg.le _ _ qg;have hlx:=hlen q.x;lk;refine C1 (zY ⟨_,rfl,?_⟩);show WZ hfl (by rw[ak,Fb];exact zl ID (zz hc (zb rfl)));lk;show aJ (k:=0) hq1 rfl (of_decide_eq_true rfl);show ck;lk;show aJ (k:=2) hq1 rfl (of_decide_eq_true rfl);show bY T ef.toC (by rfl);lk;show aJ Qm (aW _ hx) (by simp;exact zm hc (ao rfl));lk;show fz Sx (by rw[ak];exact zm hlx (ao rfl));rw[ak];refine sD ⟨_,rfl,λhb=>?_,λhb=>?_⟩
    .have hk:q.k < (rel q.x).length:=by simpa using hb
     have hy:(rel q.x)[q.k]? = some (rel q.x)[q.k]:=aH hk;have hyc:=tB _ hx _ (cW hk);generalize (rel q.x)[q.k]=y at hy hyc;lk;show aJ Qm (aW _ hx) (by simp;exact zm hc (ao rfl));lk;show aJ (k:=2) hq1 rfl (of_decide_eq_true rfl);show aJ Sx (by rw[bH,hy];rfl) (by rw[ak];exact zm hlx (ao rfl))
     (revert hb;clear hb;intro hb);ext y
     show ck;lk;show aJ dg.hh (aW _ hyc) (by simp;exact zm hc (ao rfl));lk;refine Ai ⟨_,rfl,λhb=>?_,λhb=>?_⟩
     .have h0:H y=0:=by simpa using hb
      have b1:=Oz b tB hyc h0;have Dq:=b1.len;rw[cQ] at Dq;simp only[fM,yO] at Dq;show iV ⟨_,dg.p⟩;lk;refine ⟨_,dg.p,by rw[ak];exact zm hpl (zm hc (ao rfl)),?_⟩;have gS:=dg.IB (pile++[y]);have em:(pile++[y]).map vn=pile.map vn++[vn y]:=by rw[aV];rfl
      rw[em] at gS;have kY:=fr.Sq (.list (pile.map vn++[vn y]));walk_at "set";show bY T ef.toC (by rfl);lk;show fz gS.p (by rw[ak,cQ,fM,yO];exact zm Dq (zm hc (ao rfl)));rw[ak,cQ];lk;show jE gS.hh (by simpa using hyc) (by simp;exact zm hc (ao rfl));have gz:=gS.Dp y (pile.length+1);have xU:=kY.JY (.list (((aj cnt).map λx=>vn (H x)).set y (vn (pile.length+1))));refine gu (eB gn lE lF ?_);lk;refine ⟨gG xU.f,?_⟩;refine dI (bR ?_);lk;show bY T ef.toC (by rfl);lk;show fz gz.p (by rw[ak,cQ,fM,yO];exact zm Dq (zm hc (ao rfl)));rw[ak,cQ];lk;refine ⟨by exact of_decide_eq_true rfl,λqa eH=>?_⟩;lk;have jy:qa≠ro/\qa≠ho/\qa≠po/\qa≠fo:=⟨(MH.aE gz.r eH).symm,(MH.aE gz.hh eH).symm,(MH.aE gz.p eH).symm,(MH.aE xU.f eH).symm⟩;have ja:=gz.off (.list [vn y,vn (pile.length+1),.int 0]) (gz.le.new eH) jy.1 jy.2 jy.3;have Qn:∀ q'∈q::R,q'.a≠qa:=λq' hq'=>MH.aE (xU.q q' hq').1 eH;have vB:iy m (((mm.set po (.list (pile.map vn++[vn y]))).set ho (.list (((aj cnt).map λx=>vn (H x)).set y (vn (pile.length+1))))).set qa (.list [vn y,vn (pile.length+1),.int 0])) ro ho po fo (q::R):=xU.keep (MH.aC jy.4.symm) λq' hq'=>MH.aC (Qn q' hq');show kG vB.f (by rw[ak,Fb,fM];exact zm ID (zm hc (ao rfl)));have vA:=ja.off (.list ((q::R).reverse.map (λq=>V.ref q.a)++[.ref qa])) fr.n.1 fr.n.2 fr.n.3 fr.n.4;have xT:iy m ((((mm.set po (.list (pile.map vn++[vn y]))).set ho (.list (((aj cnt).map λx=>vn (H x)).set y (vn (pile.length+1))))).set qa (.list [vn y,vn (pile.length+1),.int 0])).set fo (.list ((q::R).reverse.map (λq=>V.ref q.a)++[.ref qa]))) ro ho po fo (⟨qa,y,pile.length+1,0⟩::q::R):=by
       refine ⟨?_,λq' hq'=>?_,?_,fr.n⟩
       .have e9:(⟨qa,y,pile.length+1,0⟩::q::R:List nE).reverse=(q::R).reverse++[⟨qa,y,pile.length+1,0⟩]:=Mc ..;rw[MH.af,e9,aV];rfl
       .rcases b8.mp hq' with rfl | hq'
        .exact ⟨MH.ay (MH.af _ _ _) jy.4,gz.le.new eH,jy.1,jy.2,jy.3,jy.4⟩
        .have:=vB.q q' hq';exact ⟨MH.ay this.1 this.6,this.2,this.3,this.4,this.5,this.6⟩
       .rw[bq,nU];refine ⟨λhm=>?_,fr.nd⟩;obtain ⟨q',h1,h2⟩:=aQ.mp hm;exact Qn q' h1 h2
      subst bT;refine zP ⟨[("frames",.ref fo),("start",vn i),("pile",.ref po),("done",vn (cnt+1)),("heights",.ref ho),("result",.ref ro),("count",vn cnt),("relation",.ref ra),("masks",.ref ma)],by k_in,_,?_,f,_,_,_,rfl,vA,xT,b1,λq' R' e=>by cases e;exact ZX b t hy h0 qa,λe=>(by cases e),rfl⟩;unfold vv;have hs:=ZZ (g:=λv=>if H v=0 then (rel v).length+2 else 0) (g':=λv=>if (if v=y then pile.length+1 else H v)=0 then (rel v).length+2 else 0) (y:=y) (λx hxy=>by simp only[hxy,if_false]) cnt hyc;simp only[h0,if_true,Ff,if_false] at hs;simp only[bq,o8];exact fK DS (dN (DP (i6 zx)) (congrArg (·+ _) hs))
     .have h0:H y≠0:=by simpa using hb
      show aX;walk_at "set";lk;show aJ (k:=2) hq1 rfl (of_decide_eq_true rfl);lk;show lP;lk;show jE (k:=2) hq1 (aL _) (of_decide_eq_true rfl);change WS _ _ _ _ _ (mm.set q.a (.list [vn q.x,vn q.h,vn (q.k+1)])) _;have gS:=dg.off (.list [vn q.x,vn q.h,vn (q.k+1)]) hq2 Su Sv Sw;have kY:iy m (mm.set q.a (.list [vn q.x,vn q.h,vn (q.k+1)])) ro ho po fo (⟨q.a,q.x,q.h,q.k+1⟩::R):=by
       have hnd:=fr.nd;rw[bq,nU] at hnd;refine ⟨?_,λq' hq'=>?_,fr.nd,fr.n⟩
       .rw[MH.aC J3.symm,hfl,Mc,aV];rfl
       .rcases b8.mp hq' with rfl | hq'
        .exact ⟨MH.af _ _ _,hq2,Su,Sv,Sw,J3⟩
        .have:=fr.q q' (b9 _ hq');refine ⟨MH.ay this.1 (λe=>hnd.1 (e▸E8 hq')),this.2,this.3,this.4,this.5,this.6⟩
      generalize mm.set q.a (.list [vn q.x,vn q.h,vn (q.k+1)])=m5 at gS kY ⊢;refine um (λL aF=>L=([("y",vn y),("x",vn q.x),("frames",.ref fo),("start",vn i),("pile",.ref po),("done",vn (cnt+1)),("heights",.ref ho),("result",.ref ro),("count",vn cnt),("relation",.ref ra),("masks",.ref ma)]:Loc)/\
       gR m aF cnt ro ho po f (λv=>if v=q.x then min (H q.x) (H y) else H v) pile/\iy m aF ro ho po fo (⟨q.a,q.x,q.h,q.k+1⟩::R)) ?_ ?_
      .lk;show aJ gS.hh (aW _ hyc) (by simp;exact zm hc (ao rfl));lk;show aJ gS.hh (aW _ hx) (by simp;exact zm hc (ao rfl));refine sD ⟨_,rfl,λhb=>?_,λhb=>?_⟩
       .have hlt:H y < H q.x:=by simpa using hb
        walk_at "set";lk;show aJ gS.hh (aW _ hyc) (by simp;exact zm hc (ao rfl));lk;show jE gS.hh (by simpa using hx) (by simp;exact zm hc (ao rfl));have gz:=gS.Dp q.x (H y);rw[show min (H q.x) (H y)=H y from yK (zf hlt)];exact cX ⟨[("y",vn y),("x",vn q.x),("frames",.ref fo),("start",vn i),("pile",.ref po),("done",vn (cnt+1)),("heights",.ref ho),("result",.ref ro),("count",vn cnt),("relation",.ref ra),("masks",.ref ma)],by k_in,rfl,gz,kY.JY _⟩
       .have hge:¬ H y < H q.x:=by exact of_decide_eq_false (by assumption)
        have ef0:(λv=>if v=q.x then min (H q.x) (H y) else H v)=H:=by
         funext v;by_cases e:v=q.x
         .subst e;rw[if_pos rfl,rO (zg hge)]
         .rw[if_neg e]
        rw[ef0];exact cX ⟨[("y",vn y),("x",vn q.x),("frames",.ref fo),("start",vn i),("pile",.ref po),("done",vn (cnt+1)),("heights",.ref ho),("result",.ref ro),("count",vn cnt),("relation",.ref ra),("masks",.ref ma)],by k_in,rfl,gS,kY⟩
      .rintro L aF ⟨rfl,gz,xU⟩;walk_at "set";lk;show aJ gz.r (aW _ hx) (by simp;exact zm hc (ao rfl));lk;show aJ gz.r (aW _ hyc) (by simp;exact zm hc (ao rfl));show lX;lk;show jE gz.r (by simpa using hx) (by simp;exact zm hc (ao rfl));have ja:=gz.Ql q.x (f q.x ||| f y);have vB:=xU.Sp (.list (((aj cnt).map λx=>vn (f x)).set q.x (vn (f q.x ||| f y))));obtain ⟨b3,t3⟩:=abb b tB t hy h0 rfl;subst bT;refine zP ⟨[("frames",.ref fo),("start",vn i),("pile",.ref po),("done",vn (cnt+1)),("heights",.ref ho),("result",.ref ro),("count",vn cnt),("relation",.ref ra),("masks",.ref ma)],by k_in,_,?_,_,_,pile,_,rfl,ja,vB,b3,λq' R' e=>by cases e;exact t3,λe=>(by cases e),rfl⟩;unfold vv;have J4:H q.x≠0:=by have:=(b.hp _ _ t.at_).1;exact nu this
       have hs:=M6 (g:=λv=>if H v=0 then (rel v).length+2 else 0) (g':=λv=>if (if v=q.x then min (H q.x) (H y) else H v)=0 then (rel v).length+2 else 0) (λv=>by
        by_cases e:v=q.x
        .subst e;simp only[if_true];rw[if_neg J4,if_neg (nu (Yw.mpr ⟨z0 J4,z0 h0⟩))]
        .simp only[e,if_false]) cnt
       rw[hs];simp only[bq,o8];exact i6 (DP (zu (sR hk)))
    .have hk:q.k=(rel q.x).length:=by
      have h1:¬ q.k < (rel q.x).length:=by exact of_decide_eq_false (by assumption)
      have:=t.kl;exact sV this h1
     show aX;refine gu (eB gn Mq V6 ?_);lk;refine ⟨gG fr.f,?_⟩;lk;show OX hfl (by rw[ak,Fb];exact zl ID (zz hc (zb rfl)));have gS:=dg.off (.list (R.reverse.map λq=>V.ref q.a)) fr.n.1 fr.n.2 fr.n.3 fr.n.4;have Qo:=MH.ay (o':=.list (R.reverse.map λq=>V.ref q.a)) hq1 J3;have kY:iy m (mm.set fo (.list (R.reverse.map λq=>V.ref q.a))) ro ho po fo R:=by have hnd:=fr.nd;rw[bq,nU] at hnd;refine ⟨MH.af _ _ _,λq' hq'=>?_,hnd.2,fr.n⟩;have:=fr.q q' (b9 _ hq');exact ⟨MH.ay this.1 this.6,this.2,this.3,this.4,this.5,this.6⟩
     generalize mm.set fo (.list (R.reverse.map λq=>V.ref q.a))=m5 at gS kY Qo ⊢;have J4:H q.x≠0:=by have:=(b.hp _ _ t.at_).1;exact nu this
     have Sz:vv rel cnt H R < vv rel cnt H (q::R):=by unfold vv;simp only[bq,o8];exact i6 (Nat.lt_add_of_pos_left j8)
     show ck;lk;show aJ gS.hh (aW _ hx) (by simp;exact zm hc (ao rfl));lk;show aJ (k:=1) Qo rfl (of_decide_eq_true rfl);refine n_eq ⟨_,rfl,λhb=>?_,λhb=>?_⟩
     .have hh:H q.x=q.h:=by simpa using hb
      obtain ⟨b2,t2,e2⟩:=abe b tB t hk hh rfl rfl;have t1:=t.h1;have D9:=(bU.mp t.at_).1;refine fN (ef.store ⋯) (C1 (zY ⟨_,rfl,?_⟩));refine qG (λk L mm=>∃ j last,L=([("last",last),("x",vn q.x),("frames",.ref fo),("start",vn i),("pile",.ref po),("done",vn (cnt+1)),("heights",.ref ho),("result",.ref ro),("count",vn cnt),("relation",.ref ra),("masks",.ref ma)]:Loc)/\k=j/\j<=pile.length/\q.h - 1<=j/\
        gR m mm cnt ro ho po (λv=>if v∈pile.drop j then f q.x else f v) (λv=>if v∈pile.drop j then cnt+1 else H v) (pile.take j)/\iy m mm ro ho po fo R/\((j=q.h - 1/\last=vn q.x)\/(q.h - 1 < j/\∃ z:Int,last=.int z/\z≠(q.x:Nat)))) _
       [("last",.int (-1)),("x",vn q.x),("frames",.ref fo),("start",vn i),("pile",.ref po),("done",vn (cnt+1)),("heights",.ref ho),("result",.ref ro),("count",vn cnt),("relation",.ref ra),("masks",.ref ma)] (by k_in) ⟨pile.length,.int (-1),rfl,rfl,aL _,zf D9,by have e1:pile.drop pile.length=[]:=Fg;rw[e1,dW];assumption,kY,.inr ⟨D9,-1,rfl,by exact aee⟩⟩ ?_
      rintro j L mm aG
      (revert hb;clear hb;intro hb);(revert t1;clear t1;intro t1);ext j L mm
      show qW;intro QQ kP;ext QQ;obtain ⟨_,last,rfl,rfl,hj1,hj2,ja,vB,hl⟩:=aG;lk;rcases hl with ⟨rfl,rfl⟩ | ⟨hlt,z,rfl,hz⟩
      .refine sE ⟨_,rfl,λhb=>by simp at hb,λ_=>?_⟩;subst bT;refine aX (fB [("frames",.ref fo),("start",vn i),("pile",.ref po),("done",vn (cnt+1)),("heights",.ref ho),("result",.ref ro),("count",vn cnt),("relation",.ref ra),("masks",.ref ma)] (by k_in) ⟨_,?_,_,_,_,R,rfl,ja,vB,b2,t2,e2,rfl⟩);refine gW (FZ ?_) Sz;unfold vv;rw[M6 (λv=>?_)];by_cases g:v∈pile.drop (q.h - 1)
       .have hv0:H v≠0:=by
         obtain ⟨jj,Bj⟩:=vQ.mp g;rw[t8] at Bj;have:=(b.hp _ _ Bj).1;exact nu this
        simp only[g,if_true,hv0,if_false];rfl
       .simp only[g,if_false]
      .refine P7 ⟨_,rfl,λ_=>?_,λhb=>by simp[hz] at hb⟩
       (revert ja;clear ja;intro ja);clear hz;ext z
       obtain ⟨j,rfl⟩:∃ j',j=j'+1:=⟨j - 1,zpe hlt⟩;have hjl:j < pile.length:=hj1;have hw:pile[j]? = some pile[j]:=aH hjl;have J5:=b.lt _ (cW hjl);generalize hW:pile[j]=w at hw J5;have cD:pile.take (j+1)=pile.take j++[w]:=take_snoc hw;have hp3:mm po=some (.list ((pile.take j).map vn++[vn w])):=by rw[ja.p,cD,aV];rfl
       have afk:q.x∉pile.drop (j+1):=λhm=>by obtain ⟨jj,Bj⟩:=vQ.mp hm;rw[t8] at Bj;have:=wz b.nd Bj t.at_;exact ig hlt (Jm this)
       ext j w;show fN (ef.store ⋯);show eB gn Mq V6;lk;refine ⟨gG ja.p,?_⟩;lk;have eN:=E9 j pile;show OX hp3 (by rw[ak];exact zm eN (zl hjl (zz hpl (zz hc (zb rfl)))));have vA:=ja.IB (pile.take j);have xT:=vB.Sq (.list ((pile.take j).map vn));walk_at "set";lk;show jE vA.hh (by simpa using J5) (by simp;exact zm hc (ao rfl));have J6:=vA.Dp w (cnt+1);have fr5:=xT.JY (.list (((aj cnt).map λx=>vn ((λv=>if v∈pile.drop (j+1) then cnt+1 else H v) x)).set w (vn (cnt+1))));walk_at "set";lk;show aJ J6.r (aW _ hx) (by simp;exact zm hc (ao rfl));lk;show jE J6.r (by simpa using J5) (by simp;exact zm hc (ao rfl));rw[if_neg afk];have SD:=J6.Ql w (f q.x);have fr6:=fr5.Sp (.list (((aj cnt).map λx=>vn ((λv=>if v∈pile.drop (j+1) then f q.x else f v) x)).set w (vn (f q.x))));have SE:pile.drop j=w::pile.drop (j+1):=by rw[EZ hjl,hW]
       have ef1:(λx=>if x=w then f q.x else (λv=>if v∈pile.drop (j+1) then f q.x else f v) x)=λv=>if v∈pile.drop j then f q.x else f v:=by funext v;rw[SE];by_cases e:v=w<;>simp[e]
       have ef2:(λx=>if x=w then cnt+1 else (λv=>if v∈pile.drop (j+1) then cnt+1 else H v) x)=λv=>if v∈pile.drop j then cnt+1 else H v:=by funext v;rw[SE];by_cases e:v=w<;>simp[e]
       rw[ef1,ef2] at SD;subst kP;refine fB [("last",vn w),("x",vn q.x),("frames",.ref fo),("start",vn i),("pile",.ref po),("done",vn (cnt+1)),("heights",.ref ho),("result",.ref ro),("count",vn cnt),("relation",.ref ra),("masks",.ref ma)] (by k_in) ⟨j,zx,j,vn w,rfl,rfl,zf hjl,zh hlt,SD,fr6,?_⟩;by_cases e:j=q.h - 1
       .subst e;rw[t.at_] at hw;exact .inl ⟨rfl,by rw[c8 hw]⟩
       .refine .inr ⟨Rz hlt e,(w:Nat),rfl,λe2=>e ?_⟩;have:w=q.x:=oz e2;subst this;exact wz b.nd hw t.at_
     .have hne:H q.x≠q.h:=by simpa using hb
      cases R with
      | nil=>exact absurd (abd b t) hne
      | cons r R=>
       have t2:=abc b t hk hne;subst bT;refine aX (fB [("frames",.ref fo),("start",vn i),("pile",.ref po),("done",vn (cnt+1)),("heights",.ref ho),("result",.ref ro),("count",vn cnt),("relation",.ref ra),("masks",.ref ma)] (by k_in) ⟨_,Sz,f,H,pile,_,rfl,gS,kY,b,λq' R' e=>by cases e;exact t2,λe=>(by cases e),rfl⟩)
 .rintro mm ⟨f,H,dg,b⟩;lk;exact h mm ro f dg.le qj dg.r b.snd
end
end
section
theorem Z0 (f:Nat->Nat) (i t:Nat):∀ k,(f i).testBit t=true->(cA f k i).testBit t=true:=by
 intro l_;induction l_ with
 | zero=>
  intro h;exact h
 | succ k ih=>
  intro h;have:=ih h;change (if (cA f k i).testBit k then cA f k i ||| cA f k k else cA f k i).testBit t=true;split
  .rw[eV,this];rfl
  .exact this
theorem N1 (f:Nat->Nat) (k i t:Nat):(cA f (k+1) i).testBit t=true↔(cA f k i).testBit t=true\/((cA f k i).testBit k=true/\(cA f k k).testBit t=true):=by
 change (if (cA f k i).testBit k then cA f k i ||| cA f k k else cA f k i).testBit t=true↔_;by_cases q:(cA f k i).testBit k=true
 .rw[if_pos q,eV,eU];simp[q]
 .rw[if_neg q];simp[q]
theorem Y7 (f:Nat->Nat):∀ k m i t,m < k->(cA f k i).testBit m=true->(cA f k m).testBit t=true->(cA f k i).testBit t=true:=by
 intro l_;induction l_ with
 | zero=>
  intro m i t h _ _;exact (kc h).elim
 | succ k iJ=>
  intro m i t h h1 h2;have ih:=iJ;rw[N1] at h1 h2 ⊢;by_cases q:m=k
  .subst q;have h2':(cA f m m).testBit t=true:=by
    rcases h2 with h2 | ⟨_,h2⟩<;>exact h2
   have AY:(cA f m i).testBit m=true:=by rcases h1 with h1 | ⟨h1,_⟩<;>exact h1
   exact .inr ⟨AY,h2'⟩
  .have hm:m < k:=cY h q;rcases h1 with h1 | ⟨h1,AY⟩
   .rcases h2 with h2 | ⟨h2,h2'⟩
    .exact .inl (ih m i t hm h1 h2)
    .exact .inr ⟨ih m i k hm h1 h2,h2'⟩
   .rcases h2 with h2 | ⟨h2,h2'⟩
    .exact .inr ⟨h1,ih m k t hm AY h2⟩
    .exact .inr ⟨h1,h2'⟩
inductive mq (f:Nat->Nat):Nat->Nat->Prop
 | one (x y) (h:(f x).testBit y=true):mq f x y
 | more (x y z) (h:(f x).testBit y=true) (t:mq f y z):mq f x z
theorem mq.trans (h:mq f x y) (h':mq f y z):mq f x z:=by
 induction h with
 | one x y h=>exact .more x y z h h'
 | more x y _ h _ ih=>exact .more x y z h (ih h')
theorem zC (f:Nat->Nat):∀ k i t,(cA f k i).testBit t=true->mq f i t:=by
 intro l_;induction l_ with
 | zero=>
  intro i t h;exact .one i t h
 | succ k ih=>
  intro i t h;rw[N1] at h;rcases h with h | ⟨h1,h2⟩
  .exact ih i t h
  .exact (ih i k h1).trans (ih k t h2)
namespace Gr
variable {G:Gr}
theorem pB (x t:Nat):∀ k,(G.gb k x).testBit t=true↔∃ r,r < k/\(G.aq r=x/\(G.ai r)[0]? = some t):=by
 intro l_;induction l_ with
 | zero=>
  simp[gb]
 | succ k iJ=>
  have ih:=iJ;have up:(∃ r,r < k+1/\(G.aq r=x/\(G.ai r)[0]? = some t))↔(∃ r,r < k/\(G.aq r=x/\(G.ai r)[0]? = some t))\/(G.aq k=x/\(G.ai k)[0]? = some t):=by
   constructor
   .rintro ⟨r,h1,h2⟩;by_cases q:r=k
    .subst q;exact .inr h2
    .exact .inl ⟨r,cY h1 q,h2⟩
   .rintro (⟨r,h1,h2⟩ | h)
    .exact ⟨r,zt h1,h2⟩
    .exact ⟨k,zx,h⟩
  rw[up,<-ih];dsimp only[Nu];by_cases q:G.aq k=x
  .rw[if_pos q];cases hr:G.ai k with
   | nil=>simp
   | cons y r=>simp only[eV,eU,oY,BN,q,true_and,VG,decide_eq_true_eq]
  .rw[if_neg q];simp[q]
theorem N2 (hr:r < G.R) (hy:(G.ai r)[0]? = some y):(G.kX (G.aq r)).testBit y=true:=Z0 _ _ _ _ ((pB _ _ _).mpr ⟨r,hr,rfl,hy⟩)
theorem Y8 (hy:y < G.N) (h1:(G.kX x).testBit y=true) (h2:(G.kX y).testBit z=true):(G.kX x).testBit z=true:=Y7 _ _ _ _ _ hy h1 h2
theorem wB (ks:List Nat) (t:Nat):(G.mh ks).testBit t=true↔∃ it∈ks,∃ y,G.aY it=some y/\(t=y\/(G.kX y).testBit t=true):=by
 ext G ks t;unfold mh;have:∀ (l:List Nat) k,(l.foldl G.lZ k).testBit t=true↔k.testBit t=true\/∃ it∈l,∃ y,G.aY it=some y/\(t=y\/(G.kX y).testBit t=true):=by
  intro l;induction l with
  | nil=>intro k;simp
  | cons a l ih=>
   intro k;rw[nV,ih];have e:(G.lZ k a).testBit t=true↔k.testBit t=true\/∃ y,G.aY a=some y/\(t=y\/(G.kX y).testBit t=true):=by
    clear ih;ext a l k;unfold lZ;cases q:G.aY a with
    | none=>simp
    | some y=>
     clear q;ext y;simp only[eV,eU,oY,VG,decide_eq_true_eq];constructor
     .rintro ((h | h) | h)
      .exact .inl h
      .exact .inr ⟨y,rfl,.inl h.symm⟩
      .exact .inr ⟨y,rfl,.inr h⟩
     .rintro (h | ⟨_,rfl,h | h⟩)
      .exact .inl (.inl h)
      .exact .inl (.inr h.symm)
      .exact .inr h
   rw[e];simp only[b8,exists_eq_or_imp,or_assoc]
 rw[this];simp
theorem wC (o:G.Ok):it∈G.bV ah↔it∈ah\/∃ r,r < G.R/\(G.mh ah).testBit (G.aq r)=true/\it=G.item r 0:=by
 ext G ah it;unfold bV;rw[bN,jH,jH,mQ o];constructor
 .rintro (h | ⟨_,h⟩)
  .exact .inl h
  .exact .inr h
 .rintro (h | h)
  .exact .inl h
  .by_cases q:it∈ah
   .exact .inl q
   .exact .inr ⟨q,h⟩
theorem Z1 (o:G.Ok) (hi:it∈G.bV ah) (hy:G.aY it=some y):(G.mh ah).testBit y=true:=by
 rw[wB];ext G ah it y;rcases (wC o).mp hi with h | ⟨r,hr,hw,rfl⟩
 .exact ⟨it,h,y,hy,.inl rfl⟩
 .rw[uu hr (bk _)] at hy;have hb:=N2 hr hy;obtain ⟨it',h1,z,h2,h3⟩:=(wB _ _).mp hw;refine ⟨it',h1,z,h2,.inr ?_⟩;rcases h3 with h3 | h3
  .rw[<-h3];exact hb
  .exact Y8 (qL o hr) h3 hb
theorem OA (o:G.Ok) (hi:it∈G.bV ah) (hr:r < G.R) (hy:G.aY it=some (G.aq r)):G.item r 0∈G.bV ah:=
 (wC o).mpr (.inr ⟨r,hr,Z1 o hi hy,rfl⟩)
theorem wD:s∈G.gf ah↔∃ it∈G.bV ah,G.aY it=some s:=by unfold gf;rw[jH,GR]
theorem wF:it∈G.gK ah s↔∃ i∈G.bV ah,G.aY i=some s/\it=i+1:=by
 ext G ah s it;unfold gK gc;rw[jH,aQ];constructor
 .rintro ⟨i,hi,rfl⟩;obtain ⟨h1,h2⟩:=fE.mp hi;exact ⟨i,h1,by simpa using h2,rfl⟩
 .rintro ⟨i,h1,h2,rfl⟩;exact ⟨i,fE.mpr ⟨h1,by exact decide_eq_true (by assumption)⟩,rfl⟩
theorem CH:r∈G.dJ ah↔∃ it∈G.bV ah,G.aY it=none/\G.aB it≠0/\r=G.aB it:=by
 ext G ah r;unfold dJ jo;rw[jH,aQ];constructor
 .rintro ⟨i,hi,rfl⟩;obtain ⟨h1,h2⟩:=fE.mp hi;simp only[lH,decide_eq_true_eq,VC,decide_eq_false_iff_not] at h2;exact ⟨i,h1,h2.1,h2.2,rfl⟩
 .rintro ⟨i,h1,h2,h3,rfl⟩;exact ⟨i,fE.mpr ⟨h1,by simp[h2,h3]⟩,rfl⟩
noncomputable def nK (G:Gr):Nat:=G.aU.length
noncomputable def kr (G:Gr) (i:Nat):List Nat:=aR G.aU i
noncomputable def sy (G:Gr) (i:Nat):List Nat:=G.gf (G.kr i)
noncomputable def go (G:Gr) (i s:Nat):Nat:=oh G.aU (G.gK (G.kr i) s)
noncomputable def j4 (G:Gr):Prop:=∀ i,i < G.aU.length->∀ s∈G.gf (aR G.aU i),G.gK (aR G.aU i) s∈bw G.aU
theorem OB (h:k∈bw ks):oh ks k < ks.length/\aR ks (oh ks k)=k:=by unfold oh aR;have hl:(bw ks).idxOf k < (bw ks).length:=qx.mpr h;refine ⟨by rw[<-rY ks];exact hl,?_⟩;rw[bM,aH hl];exact yF hl
theorem Pw (c:G.j4) (hi:i < G.nK) (hs:s∈G.sy i):G.go i s < G.nK:=(OB (c i hi s hs)).1
theorem Ib (c:G.j4) (hi:i < G.nK) (hs:s∈G.sy i):G.kr (G.go i s)=G.gK (G.kr i) s:=(OB (c i hi s hs)).2
theorem mS (o:G.Ok) (hi:i < G.nK):(∀ it∈G.kr i,it < G.M)/\(G.kr i).Pairwise (·< ·):=kE o 200 _ (rU hi)
theorem Ic (o:G.Ok) (hs:s∈G.sy i):s < G.N:=by obtain ⟨it,_,h⟩:=wD.mp hs;exact uE o h
theorem Z2 (i:Nat):(G.sy i).Nodup:=qD (za _)
theorem Ny (i:Nat):(G.sy i).Pairwise (·< ·):=NY (za _)
theorem Ab (o:G.Ok) (i:Nat):(G.sy i).length<=8:=by unfold sy gf;rw[pA];exact CG o _
theorem OC (o:G.Ok) (c:G.j4) (hi:i < G.nK) (hr:r < G.R) (hd:(G.ai r)[d]? = some s) (hm:G.item r d∈G.bV (G.kr i)):s∈G.sy i/\G.item r (d+1)∈G.kr (G.go i s):=by
 have hl:=(bU.mp hd).1;have ha:G.aY (G.item r d)=some s:=by rw[uu hr (zf hl)];exact hd
 have hs:s∈G.sy i:=wD.mpr ⟨_,hm,ha⟩;refine ⟨hs,?_⟩;rw[Ib c hi hs];exact wF.mpr ⟨_,hm,ha,by unfold item;exact DS⟩
theorem OD (o:G.Ok) (h:it∈ah):it∈G.bV ah:=(wC o).mpr (.inl h)
end Gr
end
section
section
variable {prog:Program} {w:World} {A:Around} {E:Value->Shared->Prop} {s:Shared}
noncomputable abbrev rA (d:Addr) (i n ep:Nat):Obj:={ cls:=.type "dict_keyiterator",data:=.fields #[.ref d,.int (i:Nat) 0,.int (n:Nat) 0,.int (ep:Nat) 0] }
theorem OE (hd:(d==sysModules)=false) (ho:s.heap.get? d=some (di bA ep))
  (hQ:Q (.ref s.heap.objs.size) { s with heap:=s.heap.push (rA d 0 bA.length ep) }):wpAny (model prog w) A (pyIter (.ref d)) Q E s:=by
 have hT:s.TypeIs (.ref d) "dict":=⟨_,ho,rfl⟩;ext prog w A E s d bA ep Q;refine VF hT UU (t9 UU hT PySem.F.entry_dict_iter ?_ (PySem.F.args_dict_iter_1 _));unfold Builtin.«dict.__iter__»;show az;unfold agN;refine az (wpAny_notOrdered_dict hT ?_);change wpAny _ _ (pure (Value.ref d)) _ _ s;show bh;change wpAny _ _ (UY d >>= _) _ _ s;unfold UY;rw[if_neg (by rw[hd];exact L4)];refine az (bh (az (Me ho rfl (az (Mr ho rfl ?_)))));refine az (rL (bh ⟨_,rfl,"dict_keyiterator",_,⟨_,gF _ rfl,rfl⟩,BL.lookup,?_⟩));assumption
theorem OF (hit:s.heap.get? it=some (rA d i bA.length ep)) (ho:s.heap.get? d=some (di bA ep)) (hx:bA[i]? = some e)
  (hQ:∀ h',h'.get? it=some (rA d (i+1) bA.length ep)->F1 it s.heap h'->Q (some e.key) { s with heap:=h' }):wpAny (model prog w) A (pyNext (.ref it)) Q E s:=by
 have hT:s.TypeIs (.ref it) "dict_keyiterator":=⟨_,hit,rfl⟩;have hil:=(bU.mp hx).1;have xV:=(bU.mp hx).2;clear hil xV;ext prog w A E s it d i ep bA e Q;unfold pyNext;refine az (Ci (E4 (name:=cg "__next__") hT BL
  (t9 BL hT UI ?_ (UH _))))
 refine az (bh (az (az ?_)))
 first | refine az (EX hT (bh ?_)) | refine az (E2 hT (bh ?_))
 refine az (Wu hit rfl ?_);simp -iota only[show UJ "dict_keyiterator" = false by decide,cP,if_false];change wpAny _ _ (if (Value.ref d==Value.none)=true then _ else _) _ _ s;rw[if_neg (show ¬ ((Value.ref d==Value.none)=true) from L4)];refine az (bh (az (Me ho rfl ?_)));rw[if_neg (by simp)];refine az (bh (az (Mr ho rfl ?_)));rw[if_neg (by simp)];show bh;simp only[show ¬ ((i:Int) < 0) from vd,if_false,yI];rw[show bA.toArray[i]? = some e by simpa using hx];show az
 first | refine az (EX hT (bh ?_)) | refine az (E2 hT (bh ?_))
 refine az (UZ hT ?_);change wpAny _ _ (setField (.ref it) 1 (rawInt ((i:Int)+1)) >>= _) _ _ s;refine az (Ce hit rfl (of_decide_eq_true rfl) ?_);have Qp:(s.heap.update it (Cj (·.setIfInBounds 1 (rawInt ((i:Int)+1))))).get? it=some (rA d (i+1) bA.length ep):=by rw[BS _ hit (LR (BY (o:=rA d i bA.length ep) rfl _))];rfl
 refine az (ud (az (UZ (s:={ s with heap:=s.heap.update it (Cj (·.setIfInBounds 1 (rawInt ((i:Int)+1)))) }) ⟨_,Qp,rfl⟩ ?_)));change wpAny _ _ (pure e.key) _ _ _;exact bh (bh ⟨_,rfl,bh (hQ _ Qp (vV ..))⟩)
theorem O4 (hh:A.handled=none) (hit:s.heap.get? it=some (rA d bA.length bA.length ep)) (ho:s.heap.get? d=some (di bA ep))
  (hQ:∀ h',Cq it s.heap h'->Q none { s with heap:=h' }):wpAny (model prog w) A (pyNext (.ref it)) Q E s:=by
 have hT:s.TypeIs (.ref it) "dict_keyiterator":=⟨_,hit,rfl⟩;ext prog w A E s it d ep bA Q;unfold pyNext;refine az (Ci (E4 (name:=cg "__next__") hT BL
  (t9 BL hT UI ?_ (UH _))))
 refine az (bh (az (az ?_)))
 first | refine az (EX hT (bh ?_)) | refine az (E2 hT (bh ?_))
 refine az (Wu hit rfl ?_);simp -iota only[show UJ "dict_keyiterator" = false by decide,cP,if_false];change wpAny _ _ (if (Value.ref d==Value.none)=true then _ else _) _ _ s;rw[if_neg (show ¬ ((Value.ref d==Value.none)=true) from L4)];refine az (bh (az (Me ho rfl ?_)));rw[if_neg (by simp)];refine az (bh (az (Mr ho rfl ?_)));rw[if_neg (by simp)];show bh;simp only[show ¬ ((bA.length:Int) < 0) from vd,if_false,yI];rw[show bA.toArray[bA.length]? = none by simp];show az
 first | refine az (EX hT (bh ?_)) | refine az (E2 hT (bh ?_))
 change wpAny _ _ (setField (.ref it) 0 .none >>= _) _ _ s;refine az (Ce hit rfl (fF _) ?_);change wpAny _ _ (newExc (.type "StopIteration") [] >>= _) _ _ _;show az;simp -iota only[newExc,newTuple];refine az (rL ?_ (by size_fits));refine az (m:=firstArgMember _ _) (uh (a:=Value.none) (by first | rfl | (simp only[firstArgMember];rfl)) ?_);refine rL ?_ (by size_fits);simp -iota only[raiseNew];refine az (WU ?_)
 first | rw[show A.in1.handled=none from hh] | rw[hh]
 refine az (bh (wpAny_throw ?_));refine az (Mj (T:="StopIteration") (b:=true) ⟨_,gF _ rfl,rfl⟩ Wt ?_);exact bh (hQ _ (((vV ..).extBut.push _).push _))
end
theorem aP.Dr (x:aP C P m d s) (h:m a=some (.bE es ep)):∃ bA,s.heap.get? a=some (di bA ep)/\bA.map (·.key)=es.map (λx=>Value.ref x.2.1):=by obtain ⟨bA,h1,h2,_⟩:=x.rep a _ h;refine ⟨bA,h1,?_⟩;have:=congrArg (lO λz:Int×Value×Option V=>z.2.1) h2;simpa[vY] using this
theorem Y9 (hh:A.handled=none) :
  Src C A I es.length (λi=>.ref (es.getD i ([],0,.none)).2.1) (λm=>m a=some (.bE es ep)) (λi ob=>ob=rA a i es.length ep) where
 next:=by
  rintro i P m d s ob R hi x hm hI rfl k;obtain ⟨bA,h1,h2⟩:=x.Dr hm;have hl:bA.length=es.length:=by have:=congrArg ji h2;simpa using this
  rw[<-hl] at hI hi;have hx:bA[i]? = some bA[i]:=aH hi;refine OF hI h1 hx λh' hit hs=>?_;rw[hl] at hit;refine k _ h' s.toks _ ?_ hit rfl hs.extBut;have h3:(bA.map (·.key))[i]? = (es.map (λx=>Value.ref x.2.1))[i]?:=by rw[h2]
  rw[bH,bH,hx] at h3;have hi':i < es.length:=pV hi hl;rw[aH hi'] at h3;have h4:=c8 h3;rw[bM,aH hi'];have h5:bA[i].key=Value.ref es[i].2.1:=h4;rw[h5];rfl
 stop:=by
  rintro P m d s ob R x hm hI rfl k;obtain ⟨bA,h1,h2⟩:=x.Dr hm;have hl:bA.length=es.length:=by have:=congrArg ji h2;simpa using this
  rw[<-hl] at hI;exact O4 hh hI h1 λh' e'=>k h' s.toks e'
 plain:=by rintro i ob rfl;exact ⟨_,rfl,by decide⟩
 self:=by rintro i s ob R hI rfl k;exact LS ⟨_,hI,rfl,rfl⟩ k
section
variable {C:Cx} {n:Nat} {env:Env} {loc:Loc} {m:MH} {Q:V->MH->Prop}
theorem Z3 {iter:Expr} {K:Nat->(Nat->V)->(MH->Prop)->MH->Prop} (hsys:(C.base.get? sysModules).isSome=true)
  (h:WE C n env iter loc m λv m1=>∃ a es ep,v=.ref a/\m1 a=some (.bE es ep)/\K es.length (λi=>.ref (es.getD i ([],0,.none)).2.1) (λm=>m a=some (.bE es ep)) m1):WI C n env iter loc m K:=by
 intro P A s R hr x kk;refine h P A s _ hr x λr v m1 s1 hv x1 h1=>?_;obtain ⟨a,es,ep,rfl,hm,hK⟩:=h1;rw[bD hv];obtain ⟨d,x1⟩:=x1;obtain ⟨bA,g1,g2⟩:=x1.toaP.Dr hm;have hl:bA.length=es.length:=by have:=congrArg ji g2;simpa using this
 show OE (x1.toaP.pK hsys (by rw[hm];exact gm _)) g1;rw[hl];exact kk _ _ _ _ _ m1 s1 d s1.toks (Y9 hr.1) x1 rfl rfl hK
theorem Yh (hh:A.handled=none) (lo:(a==sysModules)=false) (ho:s.heap.get? a=some (di bA ep)) (hn:bA.length<=2 ^ 20)
  (h:∀ h' tk,(∀ b o,s.heap.get? b=some o->h'.get? b=some o)->R (bA.map (·.key)) { s with heap:=h',toks:=tk }):wpAny (model C.prog C.w) A (collect (.ref a)) R dP s:=by
 have K:KdlSrc C.prog C.w "dict" a a bA.length (λi v=>∃ e,bA[i]? = some e/\v=e.key) (λhp=>hp.get? a=some (di bA ep)):=
  {
   type:=λ_ hm=>⟨_,hm,rfl⟩
   there:=λ_ hm=>⟨lI hm,lI hm⟩
   keep:=λ_ _ hm hk=>hk a (.inl rfl) _ hm
   notList:=by decide
   notTuple:=by decide
   hint:=λ_ _ _ _ hm hq=>kdl_hint_dict ⟨_,hm,rfl⟩ hq
   iter:=λA s hh hm=>⟨rA a 0 bA.length ep,λi hp=>hp.get? s.heap.objs.size=some (rA a i bA.length ep)/\hp.get? a=some (di bA ep),λ_ _ hq=>OE lo hm hq,
    {
     sub:=λb hb=>by simp at hb;simp[hb]
     frame:=λ_ _ _ st hk=>⟨hk _ (aZ) _ st.1,hk _ (.tail _ (.head _)) _ st.2⟩
     item:=λi s' Q E hi st hQ=>by have hne:a≠s.heap.objs.size:=gq (lI hm);refine OF st.1 st.2 (aH hi) λh' hit hs=>?_;exact hQ _ h' s'.toks ⟨_,aH hi,rfl⟩ ⟨hit,(hs.2 a hne).trans st.2⟩ λb o hb e=>hs.extBut b o (λh=>hb (by simp[h])) e
     done:=λs' Q E st hQ=>O4 hh st.1 st.2 λh' he'=>hQ h' s'.toks λb o hb e=>he' b o (λh=>hb (by simp[h])) e
     self:=λ_ _ _ _ st hQ=>LS ⟨_,st.1,rfl,rfl⟩ hQ },⟨gF _ rfl,gC _ hm⟩⟩ }
 refine kdu_collect K hh ho (by rw[dZ];exact zz hn aI) λh' tk acc hk hacc=>?_;have e:acc.toList=bA.map (·.key):=by
  apply vZ;intro i;by_cases hi:i < bA.length
  .have h1:i < acc.toList.length:=by rw[BV,hacc.1];exact hi
   obtain ⟨e,he1,he2⟩:=hacc.2 i acc.toList[i] (by rw[<-LQ];exact aH h1);rw[aH h1,he2,bH,he1];rfl
  .rw[jC (by rw[BV,hacc.1];exact zg hi),jC (by rw[ak];exact zg hi)]
 rw[e];exact h h' tk hk
end
end
section
noncomputable def pk (p:Nat×Nat):List Nat:=[p.1,p.2]
theorem O5 (h:pk p=pk q):p=q:=by obtain ⟨a,b⟩:=p;obtain ⟨c,d⟩:=q;simp only[pk,ag2,and_true] at h;rw[h.1,h.2]
theorem mX {p:Nat×Nat} {L:List (Nat×Nat)}:pk p∈L.map pk↔p∈L:=by rw[aQ];exact ⟨λz_=>by obtain ⟨q,h1,h2⟩:=z_;exact O5 h2▸h1,λh=>⟨p,h,rfl⟩⟩
theorem sd {L:List (Nat×Nat)}:(L.map pk).idxOf (pk p)=L.idxOf p:=by
 induction L with
 | nil=>rfl
 | cons q L ih=>
  rw[bq,Fw,Fw,ih];by_cases h:q=p
  .subst h;simp
  .have:(pk q==pk p)=false:=by simpa using λe=>h (O5 e)
   have h2:(q==p)=false:=by simpa using h
   rw[this,h2]
namespace Gr
variable (G:Gr)
noncomputable def jz (i:Nat) (l:List Nat):List (Nat×Nat):=(l.filter λs=>decide (G.T<=s)).map λs=>(i,s)
noncomputable def k7 (k:Nat):List (Nat×Nat):=(aj k).flatMap λi=>G.jz i (G.sy i)
noncomputable def dH:List (Nat×Nat):=G.k7 G.nK
noncomputable def oH (i s:Nat):Nat:=G.dH.idxOf (i,s)
noncomputable def bI:List (Nat×Nat):=(aj G.nK).flatMap λi=>(G.dJ (G.kr i)).map λr=>(i,r)
variable {G}
theorem Hq:p∈G.jz i l↔p.1=i/\p.2∈l/\G.T<=p.2:=by
 ext G i l p;unfold jz;rw[aQ];constructor
 .rintro ⟨s,h,rfl⟩;obtain ⟨h1,h2⟩:=fE.mp h;exact ⟨rfl,h1,by simpa using h2⟩
 .rintro ⟨rfl,h1,h2⟩;exact ⟨p.2,fE.mpr ⟨h1,by exact decide_eq_true (by assumption)⟩,rfl⟩
theorem OG:p∈G.k7 k↔p.1 < k/\p.2∈G.sy p.1/\G.T<=p.2:=by
 ext G k p;unfold k7;rw[nQ];constructor
 .rintro ⟨i,h1,h2⟩;obtain ⟨h3,h4,h5⟩:=Hq.mp h2;subst h3;exact ⟨by simpa using h1,h4,h5⟩
 .rintro ⟨h1,h2,h3⟩;exact ⟨p.1,by simpa using h1,Hq.mpr ⟨rfl,h2,h3⟩⟩
theorem OH:p∈G.dH↔p.1 < G.nK/\p.2∈G.sy p.1/\G.T<=p.2:=OG
theorem N3 (k:Nat):G.k7 (k+1)=G.k7 k++G.jz k (G.sy k):=by unfold k7;rw[jD,vX];simp
theorem OI (i:Nat) (l:List Nat):(G.jz i l).length<=l.length:=by unfold jz;rw[ak];exact kD _ _
theorem OJ (o:G.Ok):∀ k,(G.k7 k).length<=8*k:=by
 intro l_;induction l_ with
 | zero=>
  exact bk _
 | succ k ih=>
  rw[N3,cQ];have:=ih;have:=OI (G:=G) k (G.sy k);have:=Ab o k;exact aeh (by assumption) (by assumption) this
theorem uJ (sm:G.Small):G.nK<=100:=sm.len 200
theorem Hr (o:G.Ok) (sm:G.Small):G.dH.length<=800:=by exact aeg (OJ o G.nK) (uJ sm)
theorem HF (h:(i,s)∈G.dH):G.oH i s < G.dH.length/\G.dH[G.oH i s]? = some (i,s):=by have hl:=qx.mpr h;refine ⟨hl,?_⟩;change G.dH[G.dH.idxOf (i,s)]? = _;rw[aH hl,yF hl]
end Gr
structure k9 (m0 mm:MH) (tl xl:Addr) (ta:Nat->Addr) (L:List (Nat×Nat)):Prop where
 t:mm tl=some (.list ((aj L.length).map λx=>.ref (ta x)))
 tt:∀ x p,L[x]? = some p->mm (ta x)=some (.tuple [vn p.1,vn p.2])
 x:∃ ka ep,mm xl=some (.bE (dG ka vn 0 (L.map pk)) ep)
theorem k9.le (h:k9 m0 m tl xl ta L) (hl:m.le m'):k9 m0 m' tl xl ta L:=
 ⟨hl _ _ h.t,λx p q=>hl _ _ (h.tt x p q),let ⟨ka,ep,q⟩:=h.x;⟨ka,ep,hl _ _ q⟩⟩
section
variable {C:Cx} {A:TA} {n:Nat} {m:MH} {Q:V->MH->Prop} {g:GA} {G:Gr} {u:Addr} {ad:Nat->SA}
theorem Nz (T:aS C A) (o:G.Ok) (hn:2<=n) (xu:kK A m g G u ad) (sm:G.Small) (hi:i < G.nK) (hs:s∈G.sy i) (h:Q (vn (G.go i s)) m):FC C (A.bZ 27 1) n [.ref u,vn i,vn s] m Q:=by clear o;ext C A n m Q g G u ad i s;obtain ⟨bl,h1,h2,h3⟩:=xu;have st:=h3 i hi;obtain ⟨it,rd,s1,s2,s3⟩:=st.inst;obtain ⟨ep,s4⟩:=st.mv;have hK:=Gr.uJ sm;refine dX T 27 1 "goto" "Automaton.goto" ["self","state","symbol"] (zf hn) rfl (λenv ef=>?_) (by walk_at "bd3");k_is;lk;show kH T 22 1 "LrState.goto";lk;show aA T 27 h1;lk;show aJ h2 (aW _ hi) (by rw[ak,aN];change G.nK < _;exact zm hK (ao rfl));refine ⟨_,_,rfl,s1,rfl,?_⟩;lk;refine dX T 22 1 "goto" "LrState.goto" ["self","symbol"] (aK hn) rfl (λenv ef=>?_) (by walk_at "bd2");k_is;obtain ⟨tN,hN⟩:=T.Pk;lk;show eB VH Fv V7;show aA T 22 s1;refine ⟨zO s4 rfl,?_⟩;lk;show zD (ef.kind (by rfl)) hN rfl;lk;show aaT T.sys s4;unfold Gr.qh;rw[zJ (λs=>vn (oh G.aU (G.gK (aR G.aU i) s))),if_pos (show s∈G.gf (aR G.aU i) from hs)];exact h
theorem Yi {la tl xl:Addr} {fs:List (Str×V)} (T:aS C A) (o:G.Ok) (sm:G.Small) (hn:2<=n) (xg:cU A m g G) (xu:kK A m g G u ad) (hla:m la=some (.inst (A.cls 32) fs)) (f1:fs.lookup ("automaton" : Str)=some (.ref u)) (f2:fs.lookup ("transitions" : Str)=some (.ref tl)) (f3:fs.lookup ("index" : Str)=some (.ref xl)) (eN:m tl=some (.list [])) (gT:m xl=some (.bE [] 0)) (hfr:∃ m1:MH,m1.le m/\cU A m1 g G/\kK A m1 g G u ad/\m1 tl=none/\m1 xl=none) (h:∀ m' ta,m.bF [tl,xl] m'->k9 m m' tl xl ta G.dH->Q .none m'):FC C (A.bZ 32 1) n [.ref la] m Q:=by
 clear xg xu;ext C A n m Q g G u ad la tl xl fs;obtain ⟨m1,jb,yg,yu,n1,n2⟩:=hfr;have hN:=Gr.N8 o;have hK:=Gr.uJ sm;have key:∀ mm:MH,m.bF [tl,xl] mm->m1.le mm:=λmm hl a ob h1=>hl a ob (jb _ _ h1) (by rw[gv];rintro (e | e)<;>(rw[e] at h1;first | (rw[n1] at h1;cases h1) | (rw[n2] at h1;cases h1)));have sH:la∉[tl,xl]:=by
  rw[gv];rintro (e | e)<;>rw[e] at hla
  .rw[eN] at hla;cases hla
  .rw[gT] at hla;cases hla
 clear n1 n2;ext m1;refine dX T 32 1 "number_transitions" "Lookaheads.number_transitions" ["self"] (zf hn) rfl (λenv ef=>?_) (by walk_at "bd1");k_is;ext env;obtain ⟨bl,u1,u2,u3⟩:=id yu;lk;show gY T 27;refine aA T 32 hla ?_ (hl:=f1);refine ⟨u,_,_,rfl,jb _ _ u1,rfl,?_⟩;refine dw (λ_=>[("grammar",.ref g.g),("self",.ref la)]) (λi mm=>m.bF [tl,xl] mm/\∃ ta,k9 m mm tl xl ta (G.k7 i)) (cC (λi=>V.ref (ad i).s) (aj G.nK) ?_);show gY T 27;refine aA T 32 hla ?_ (hl:=f1);refine ⟨u,_,_,rfl,jb _ _ u1,rfl,?_⟩;refine ⟨bl,rfl,jb _ _ u2,by k_in,⟨MH.bF.refl _,λ_=>0,eN,λx p hp=>by (cases hp),λ_=>0,0,gT⟩,λi mm hp=>key mm hp.1 _ _ u2,?_,?_⟩
 .rintro i mm hi aG;ext i mm;show bO;intro QQ bP;obtain ⟨lx,ta,tp⟩:=aG;rw[aN] at hi;ext QQ ta;refine cy (qO _ hi) (aM (ef.store ⋯) ?_);have lm:=key mm lx;have st:=u3 i hi;obtain ⟨it,rd,s1,s2,s3⟩:=st.inst;clear s2 s3;ext it rd;obtain ⟨ep,s4⟩:=st.mv;have Ie:cN (G.sy i)=G.sy i:=yZ ((Gr.Ny i).imp λh=>zf h);refine pH (cC vn (G.sy i) ?_);show bY T ef.toC (by rfl);lk;show aA T 22 (lm _ _ s1);lk;refine Gd (ks:=G.sy i) T.sys (lm _ _ s4) (by unfold Gr.qh;rw[dS];rfl) (by have:=Gr.Ab o i;exact zm this (ao rfl)) λsl hsl=>?_;rw[Ie];have Eh:mm.le (mm.set sl (.list ((G.sy i).map vn))):=MH.av hsl;have afl:sl∉[tl,xl]:=by
   rw[gv];rintro (e | e)
   .rw[e,tp.t] at hsl;cases hsl
   .obtain ⟨_,_,q⟩:=tp.x;rw[e,q] at hsl;cases hsl
  clear hsl;ext sl;refine ⟨sl,rfl,MH.af _ _ _,λ_=>[("state",.ref (ad i).s),("grammar",.ref g.g),("self",.ref la)],λj aF=>(mm.set sl (.list ((G.sy i).map vn))).bF [tl,xl] aF/\∃ ta,k9 m aF tl xl ta (G.k7 i++G.jz i ((G.sy i).take j)),by k_in,
   ⟨MH.bF.refl _,ta,by simpa[Gr.jz] using tp.le Eh⟩,λj aF hp=>hp.1 _ _ (MH.af _ _ _) afl,?_,?_⟩
  .rintro j aF hj aG;ext j aF;show bO;intro QQ bT;ext QQ;obtain ⟨lx',ta',tp'⟩:=aG;ext ta';refine cy (getD_map hj) (aM (ef.store ⋯) ?_);have cD:=take_snoc (aH hj);have hpre:∀ p∈G.k7 i++G.jz i ((G.sy i).take j),p≠(i,(G.sy i)[j]):=λp hp e=>by
    subst e;rcases bN.mp hp with h | h
    .have:=(Gr.OG.mp h).1;simp at this
    .have:=(Gr.Hq.mp h).2;obtain ⟨q,hq,e⟩:=qv.mp this;exact (qw.mp (Gr.Z2 (G:=G) i)) q j (u9 hq) hj (nq hq) e
   have hlen:(G.k7 i++G.jz i ((G.sy i).take j)).length<=2000:=by rw[cQ];have:=Gr.OJ o i;have:=Gr.OI (G:=G) i ((G.sy i).take j);have:=rK j (G.sy i);have:=Gr.Ab o i;change i < G.nK at hi;exact aef hK (by assumption) (by assumption) (by assumption) this hi
   generalize hs:(G.sy i)[j]=s at *
   have tC:m1.le aF:=key aF (λa ob h1 h2=>lx' _ _ (Eh _ _ (lx _ _ h1 h2)) h2);have la':aF la=some (.inst (A.cls 32) fs):=lx' _ _ (Eh _ _ (lx _ _ hla sH)) sH;have hst:=tC _ _ s1;revert hj;ext s;intro hj hs;refine ck (Hy (iR ?_));show cG T 9 2 "Grammar.is_terminal" (yg.le tC).self;lk;show zG T (yg.le tC) (aK hn);refine jl ⟨λhb=>?_,λhb=>?_⟩
   .have nG:G.T<=s:=by simpa using hb
    have eL:G.k7 i++G.jz i ((G.sy i).take (j+1))=(G.k7 i++G.jz i ((G.sy i).take j))++[(i,s)]:=by rw[cD];unfold Gr.jz;rw[jU,oX,decide_eq_true nG];simp
    generalize hL:G.k7 i++G.jz i ((G.sy i).take j)=L at *
    clear hL;ext L;obtain ⟨ka,cI,hx⟩:=tp'.x;have hnew:lY (dG ka vn 0 (L.map pk)) (cR (pk (i,s)))=none:=by rw[kI,if_neg (λh=>hpre _ (mX.mp h) rfl)]
    walk_at "set";ext ka cI;show bY T ef.toC (by rfl);lk;refine aA T 32 la' ?_ (hl:=f2);lk;show fz tp'.t (by rw[ak,aN];exact zm hlen (ao rfl));rw[ak,aN];refine aA T 32 la' ?_ (hl:=f3);show eE;lk;show aA T 22 hst;lk;refine ⟨by exact of_decide_eq_true rfl,λb1 hb1=>?_⟩;have Qq:xl≠b1:=MH.aE hx hb1;have afm:tl≠b1:=MH.aE tp'.t hb1;have l5:aF.le (aF.set b1 (.tuple [vn i,vn s])):=MH.av hb1;refine zR (k:=cR (pk (i,s))) (MH.ay hx Qq) (MH.af _ _ _) (by rw[wA,ak];exact zm hlen (ao rfl)) λgw=>?_;rw[zK hnew];have l6:(aF.set b1 (.tuple [vn i,vn s])).bF [tl,xl] ((aF.set b1 (.tuple [vn i,vn s])).set xl (.bE (dG ka vn 0 (L.map pk)++[(cR (pk (i,s)),b1,vn L.length)]) gw)):=(MH.bF.refl _).set (.inr (.tail _ (.head _)));have htx:tl≠xl:=λe=>by have:=tp'.t;rw[e,hx] at this;cases this
    have t6:((aF.set b1 (.tuple [vn i,vn s])).set xl (.bE (dG ka vn 0 (L.map pk)++[(cR (pk (i,s)),b1,vn L.length)]) gw)) tl=some (.list ((aj L.length).map λx=>.ref (ta' x))):=MH.ay (l5 _ _ tp'.t) htx;have xW:=l6 _ _ (l5 _ _ la') sH;have SG:=l6 _ _ (l5 _ _ hst) (by
     rw[gv];rintro (e | e)<;>rw[e] at hst
     .rw[tp'.t] at hst;cases hst
     .rw[hx] at hst;cases hst)
    clear hb1 Qq afm;ext b1 gw;refine gu (eB gn lE lF ?_);refine aA T 32 xW ?_ (hl:=f2);refine ⟨gG t6,?_⟩;refine dI (eE ?_);lk;show aA T 22 SG;lk;refine ⟨by exact of_decide_eq_true rfl,λb2 hb2=>?_⟩;lk;have x6:((aF.set b1 (.tuple [vn i,vn s])).set xl (.bE (dG ka vn 0 (L.map pk)++[(cR (pk (i,s)),b1,vn L.length)]) gw)) xl=_:=MH.af _ _ _;generalize J7:(aF.set b1 (.tuple [vn i,vn s])).set xl (.bE (dG ka vn 0 (L.map pk)++[(cR (pk (i,s)),b1,vn L.length)]) gw)=m6 at *
    have l7:m6.le (m6.set b2 (.tuple [vn i,vn s])):=MH.av hb2;have afn:tl≠b2:=MH.aE t6 hb2;show kG (l7 _ _ t6) (by rw[ak,aN];exact zm hlen (ao rfl));have afo:(mm.set sl (.list ((G.sy i).map vn))).bF [tl,xl] ((m6.set b2 (.tuple [vn i,vn s])).set tl (.list ((aj L.length).map (λx=>V.ref (ta' x))++[.ref b2]))):=
     ((((lx'.le l5).trans l6).le l7).set (.inr (aZ)))
    clear J7 t6 xW SG hb2;ext b2 m6;subst bT;refine aX (br (by k_in) ⟨afo,λx=>if x=L.length then b2 else ta' x,?_⟩);rw[eL];refine ⟨?_,λx p hp=>?_,λx=>if x=L.length then b1 else ka x,gw,?_⟩
    .rw[MH.af,cQ,fM,yO,jD,aV];congr 3
     .apply fD;intro x hx';have:x≠L.length:=by have:=jV.mp hx';exact kU this
      simp[this]
     .simp
    .by_cases IE:x < L.length
     .rw[jT IE] at hp;have h1:=tp'.tt x p hp;clear hp;ext x p;simp only[show ¬ x=L.length by exact kU IE,if_false];have n3:ta' x≠tl:=λe=>by rw[e,tp'.t] at h1;cases h1
      have n4:ta' x≠xl:=λe=>by rw[e,hx] at h1;cases h1
      rw[MH.aC n3];exact l7 _ _ (l6 _ _ (l5 _ _ h1) (by rw[gv];exact λe=>e.elim n3 n4))
     .have Bk:x=L.length:=by
       have:=(bU.mp hp).1;rw[cQ] at this;simp at this;exact ow this IE
      subst Bk;rw[oQ (aL _)] at hp;simp at hp;subst hp;simp only[if_true];exact MH.ay (MH.af _ _ _) afn.symm
    .rw[MH.aC htx.symm,l7 _ _ x6,aV,bq,ue,yW];congr 3
     .exact M4 λx h1 h2=>by rw[ak] at h2;simp only[show ¬ x=L.length by exact PW h2,if_false]
     .rw[ak];simp
   .have nG:¬ G.T<=s:=by simpa using hb
    subst bT;refine aX (br (by k_in) ⟨lx',ta',?_⟩);have:G.jz i ((G.sy i).take (j+1))=G.jz i ((G.sy i).take j):=by rw[cD];unfold Gr.jz;rw[jU,oX,decide_eq_false nG];simp
    rw[this];exact tp'
  .rintro aF ⟨lx',ta',tp'⟩;rw[dW] at tp';subst bP;refine br (by k_in) ⟨λa ob h1 h2=>lx' _ _ (Eh _ _ (lx _ _ h1 h2)) h2,ta',?_⟩;rw[Gr.N3];exact tp'
 .rintro mm ⟨lx,ta,tp⟩;rw[aN] at tp;exact cX (h mm ta lx tp)
end
end
section
namespace Gr
noncomputable def jc (G:Gr) (k y:Nat):Nat:=if y < G.T then k ||| 1 <<< y else k
noncomputable def tD (G:Gr) (l:List Nat):Nat:=l.foldl G.jc 0
noncomputable def nH (G:Gr) (q:Nat) (l:List Nat):List Nat:=(l.filter λy=>decide (G.T<=y)&&G.nul y).map (G.oH q)
noncomputable def pr (G:Gr) (x:Nat):Nat×Nat:=G.dH.getD x (0,0)
noncomputable def gl (G:Gr) (x:Nat):Nat:=G.go (G.pr x).1 (G.pr x).2
variable {G:Gr}
theorem Ac (h:x < G.dH.length):G.dH[x]? = some (G.pr x):=by unfold pr;rw[bM,aH h];rfl
theorem C3 (h:x < G.dH.length):(G.pr x).1 < G.nK/\(G.pr x).2∈G.sy (G.pr x).1/\G.T<=(G.pr x).2:=OH.mp (bC (Ac h))
theorem Ig (c:G.j4) (h:x < G.dH.length):G.gl x < G.nK:=by obtain ⟨h1,h2,_⟩:=C3 h;exact Pw c h1 h2
end Gr
theorem k9.bF (h:k9 m0 m tl xl ta L) (hl:m.bF S m') (hS:∀ a∈S,∃ xs,m a=some (.list xs)) (ht:tl∉S):k9 m0 m' tl xl ta L:=by
 refine ⟨hl _ _ h.t ht,λx p q=>hl _ _ (h.tt x p q) λhm=>?_,?_⟩
 .obtain ⟨xs,e⟩:=hS _ hm;rw[h.tt x p q] at e;cases e
 .obtain ⟨ka,ep,q⟩:=h.x;exact ⟨ka,ep,hl _ _ q λhm=>by obtain ⟨xs,e⟩:=hS _ hm;rw[q] at e;cases e⟩
theorem zL (h:∀ x,x < i->f x=g x) (hv:v=g i):(aj i).map f++[v]=(aj (i+1)).map g:=by rw[jD,aV,yG,hv];exact congrArg (·++ [g i]) (fD λx hx=>h x (jV.mp hx))
theorem C4 {G:Gr} {i s:Nat} (h1:i < G.nK) (h2:s∈G.sy i) (h3:G.T<=s):(i,s)∈G.dH:=by
 have h:(i,s).1 < G.nK/\(i,s).2∈G.sy (i,s).1/\G.T<=(i,s).2:=by dsimp only;exact ⟨h1,h2,h3⟩
 exact Gr.OH.mpr h
section
variable {C:Cx} {A:TA} {n:Nat} {m:MH} {Q:V->MH->Prop} {g:GA} {G:Gr} {u:Addr} {ad:Nat->SA}
theorem Yj {dr:Nat->Nat} {rd:Nat->List Nat} {la tl xl na dl rl:Addr} {ta:Nat->Addr} {fs:List (Str×V)} (T:aS C A) (o:G.Ok) (sm:G.Small) (c:G.j4) (hn:3<=n) (hdr:∀ x,dr x=G.tD (G.sy (G.gl x))) (hrd:∀ x,rd x=G.nH (G.gl x) (G.sy (G.gl x))) (hla:m la=some (.inst (A.cls 32) fs)) (f1:fs.lookup ("automaton" : Str)=some (.ref u)) (f2:fs.lookup ("transitions" : Str)=some (.ref tl)) (f3:fs.lookup ("index" : Str)=some (.ref xl)) (f4:fs.lookup ("nullables" : Str)=some (.ref na)) (f5:fs.lookup ("direct" : Str)=some (.ref dl)) (f6:fs.lookup ("reads" : Str)=some (.ref rl)) (tp:k9 m m tl xl ta G.dH) (hna:m na=some (.list ((aj G.N).map λy=>.bool (G.nul y)))) (hdl:m dl=some (.list [])) (hrl:m rl=some (.list [])) (d1:na≠dl/\na≠rl/\tl≠dl/\tl≠rl/\dl≠rl) (hfr:∃ m1:MH,m1.le m/\cU A m1 g G/\kK A m1 g G u ad/\m1 dl=none/\m1 rl=none) (h:∀ m' (ra:Nat->Addr),m.bF [dl,rl] m'->m' dl=some (.list ((aj G.dH.length).map λx=>vn (dr x)))->m' rl=some (.list ((aj G.dH.length).map λx=>.ref (ra x)))->(∀ x,x < G.dH.length->m' (ra x)=some (.list ((rd x).map vn)))->Q .none m'):FC C (A.bZ 32 2) n [.ref la] m Q:=by
 ext C A n m Q g G u ad dr rd la tl xl na dl rl ta fs;obtain ⟨m1,jb,yg,yu,n1,n2⟩:=hfr;have hN:=Gr.N8 o;have hK:=Gr.uJ sm;have eN:=Gr.Hr o sm;have key:∀ mm:MH,m.bF [dl,rl] mm->m1.le mm:=λmm hl a ob h1=>hl a ob (jb _ _ h1) (by rw[gv];rintro (e | e)<;>(rw[e] at h1;first | (rw[n1] at h1;cases h1) | (rw[n2] at h1;cases h1)));have hS:∀ a∈[dl,rl],∃ xs,m a=some (.list xs):=λa ha=>by
  rw[gv] at ha;rcases ha with rfl | rfl
  .exact ⟨_,hdl⟩
  .exact ⟨_,hrl⟩
 have sH:la∉[dl,rl]:=λhm=>by obtain ⟨xs,e⟩:=hS _ hm;rw[hla] at e;cases e
 have afp:na∉[dl,rl]:=by rw[gv];exact λe=>e.elim d1.1 d1.2
 have Qs:tl∉[dl,rl]:=by rw[gv];exact λe=>e.elim d1.3 d1.4
 ext m1;refine dX T 32 2 "find_reads" "Lookaheads.find_reads" ["self"] (eW hn) rfl (λenv ef=>?_) (by walk_at "bd1");k_is;ext env;obtain ⟨bl,u1,u2,u3⟩:=id yu;lk;show gY T 27;refine aA T 32 hla ?_ (hl:=f1);refine ⟨u,_,_,rfl,jb _ _ u1,rfl,?_⟩;refine dw (λ_=>[("grammar",.ref g.g),("self",.ref la)]) (λi mm=>m.bF [dl,rl] mm/\∃ ra:Nat->Addr,mm dl=some (.list ((aj i).map λx=>vn (dr x)))/\mm rl=some (.list ((aj i).map λx=>.ref (ra x)))/\∀ x,x < i->mm (ra x)=some (.list ((rd x).map vn))/\m (ra x)=none)
  (cC (λx=>V.ref (ta x)) (aj G.dH.length) ?_)
 refine aA T 32 hla ?_ (hl:=f2);refine ⟨tl,rfl,tp.t,by k_in,⟨MH.bF.refl _,λ_=>0,hdl,hrl,λx hx=>(kc hx).elim⟩,λi mm hp=>hp.1 _ _ tp.t Qs,?_,?_⟩
 .rintro i mm hi aG;ext i mm;show bO;intro QQ bP;obtain ⟨lx,ra,p1,p2,p3⟩:=aG;rw[aN] at hi;ext QQ ra;show cy (qO _ hi);obtain ⟨g1,g2,g3⟩:=Gr.C3 hi;have J8:=tp.bF lx hS Qs;have lm:=key mm lx;show mP (J8.tt i _ (Gr.Ac hi)) rfl;refine aM (ef.store ⋯) (aM (ef.store ⋯) ?_);have vC:=Gr.Ig c hi;have lam:=lx _ _ hla sH;change WS C (n - 1) env _ _ _ _;lk;show kH T 27 1 "Automaton.goto";refine aA T 32 lam ?_ (hl:=f1);refine ⟨u,_,rfl,lm _ _ u1,rfl,?_⟩;lk;show Nz T o (aK hn) (yu.le lm) sm g1 g2;change WS C _ env _ (("goal",vn (G.gl i))::_) mm _;lk;refine bR (cM ⟨by exact bk _,λro qj=>?_⟩);have Ei:dl≠ro/\rl≠ro:=⟨MH.aE p1 qj,MH.aE p2 qj⟩;have mro:m ro=none:=by
   cases e:m ro with
   | none=>rfl
   | some ob=>rw[lx _ _ e (by rw[gv];exact λe=>e.elim Ei.1.symm Ei.2.symm)] at qj;cases qj
  have l2:mm.le (mm.set ro (.list [])):=MH.av qj;have st:=u3 (G.gl i) vC;ext ro;obtain ⟨it,rd,s1,s2,s3⟩:=st.inst;ext it rd;obtain ⟨ep,s4⟩:=st.mv;have tg:=lm.trans l2;have Ie:cN (G.sy (G.gl i))=G.sy (G.gl i):=yZ ((Gr.Ny _).imp λh=>zf h);lk;ext ep;show gY T 22;lk;show gY T 27;refine aA T 32 (l2 _ _ lam) ?_ (hl:=f1);refine ⟨u,_,_,rfl,tg _ _ u1,rfl,?_⟩;lk;show aJ (tg _ _ u2) (aW _ vC) (by rw[ak,aN];change G.nK < _;exact zm hK (ao rfl));refine ⟨_,_,_,rfl,tg _ _ s1,rfl,?_⟩;have hix:∀ s∈G.sy (G.gl i),G.T<=s->(G.gl i,s)∈G.dH:=λs hs hT=>C4 vC hs hT;have SH:=Gr.Ab o (G.gl i);have D4:∀ s∈G.sy (G.gl i),s < G.N:=λs hs=>Gr.Ic o hs;have hdi:=hdr i;have AZ:=hrd i;generalize J9:G.gl i=q at *
  generalize Ba:G.sy q=S at *
  ext q S;refine pH (cC vn S ?_);show bY T ef.toC (by rfl);lk;have hks:(G.qh G.aU (aR G.aU q) (G.gf (aR G.aU q))).map (·.1)=S.map λk:Nat=>(k:Int):=by have e1:G.gf (aR G.aU q)=S:=Ba;rw[e1];unfold Gr.qh;rw[dS];rfl
  refine Gd (ks:=S) T.sys (tg _ _ s4) hks (zm SH (ao rfl)) λsl hsl=>?_;rw[Ie];have l3:=MH.av (o:=.list (S.map vn)) hsl;have J':sl≠ro:=λe=>by rw[e,MH.af] at hsl;cases hsl
  have w7:mm sl=none:=by rw[MH.aC J'] at hsl;exact hsl
  have slS:sl≠dl/\sl≠rl:=⟨λe=>(by rw[e,p1] at w7;cases w7),λe=>(by rw[e,p2] at w7;cases w7)⟩;ext sl;refine ⟨sl,rfl,MH.af _ _ _,λj=>[("mask",vn ((S.take j).foldl G.jc 0)),("row",.ref ro),("goal",vn q),("grammar",.ref g.g),("self",.ref la)],λj aF=>aF sl=some (.list (S.map vn))/\mm.le aF/\aF ro=some (.list ((G.nH q (S.take j)).map vn)),by k_in,
   ⟨MH.af _ _ _,l2.trans l3,MH.ay (MH.af _ _ _) J'.symm⟩,λj aF hp=>hp.1,?_,?_⟩
  .rintro j aF hj aG;ext j aF;show bO;intro QQ bT;ext QQ;obtain ⟨q0,q1,q2⟩:=aG;refine cy (getD_map hj) (aM (ef.store ⋯) ?_);have cD:=take_snoc (aH hj);have hsm:=cW hj;have Ka:=D4 _ hsm;have hsi:=hix _ hsm;have eM:(S.take (j+1)).foldl G.jc 0=G.jc ((S.take j).foldl G.jc 0) S[j]:=by rw[cD,jh];rfl
   have eR:G.nH q (S.take (j+1))=G.nH q (S.take j)++(if decide (G.T<=S[j])&&G.nul S[j] then [G.oH q S[j]] else []):=by rw[cD];unfold Gr.nH;rw[jU,aV,oX];split<;>simp
   generalize hs:S[j]=s at *
   have tC:=lm.trans q1;have afq:(G.nH q (S.take j)).length<=8:=by unfold Gr.nH;rw[ak];exact aO (kD _ _) (aO (rK _ _) SH)
   revert hj;ext s;intro hj hs;refine ck (iR ?_);show cG T 9 2 "Grammar.is_terminal" (yg.le tC).self;lk;show zG T (yg.le tC) (zf (eg hn));refine jl ⟨λhb=>?_,λhb=>?_⟩
   .have nG:s < G.T:=by simpa using hb
    lk;show wR (by exact Ip hN Ka);show lX;subst bT;refine aX (br (L:=[("mask",vn ((S.take (j+1)).foldl G.jc 0)),("row",.ref ro),("goal",vn q),("grammar",.ref g.g),("self",.ref la)]) ?_ ⟨q0,q1,?_⟩)
    .have:G.jc ((S.take j).foldl G.jc 0) s=(S.take j).foldl G.jc 0 ||| 1 <<< s:=by unfold Gr.jc;rw[if_pos nG]
     rw[eM,this];k_in
    .rw[eR,decide_eq_false (znd nG)];simpa using q2
   .have nG:¬ s < G.T:=by exact of_decide_eq_false (by assumption)
    have SI:(S.take (j+1)).foldl G.jc 0=(S.take j).foldl G.jc 0:=by rw[eM];unfold Gr.jc;rw[if_neg nG]
    rw[decide_eq_true (show G.T<=s by exact zg nG),WN] at eR;have afr:=q1 _ _ (lx _ _ hna afp);refine ck (iR ?_);lk;refine aA T 32 (q1 _ _ lam) ?_ (hl:=f4);lk;show aJ afr (aW _ Ka) (by simp;exact zm hN (ao rfl));refine jl ⟨λhb=>?_,λhb=>?_⟩
    .rw[if_pos hb] at eR;obtain ⟨ka,gw,hx⟩:=(J8.le q1).x;show iV ⟨_,q2⟩;lk;refine aA T 32 (q1 _ _ lam) ?_ (hl:=f3);show eE;lk;refine ⟨by exact of_decide_eq_true rfl,λb1 hb1=>?_⟩;have l4:aF.le (aF.set b1 (.tuple [vn q,vn s])):=MH.av hb1;show qI (k:=cR (pk (q,s))) (l4 _ _ hx) (MH.af _ _ _) (by rw[kI,if_pos (mX.mpr (hsi (zg nG))),sd]);rw[fG];refine ⟨_,l4 _ _ q2,by rw[ak];exact zm afq (ao rfl),?_⟩;have ah0:ro≠b1:=MH.aE q2 hb1;subst bT;refine aX (aX (br (L:=[("mask",vn ((S.take (j+1)).foldl G.jc 0)),("row",.ref ro),("goal",vn q),("grammar",.ref g.g),("self",.ref la)]) (by rw[SI];k_in) ⟨?_,?_,?_⟩))
     .exact MH.ay (l4 _ _ q0) J'
     .exact (q1.trans l4).set qj
     .rw[MH.af,eR,aV];rfl
    .rw[if_neg (by rw[hb];simp),nW] at eR;subst bT;refine aX (aX (br (L:=[("mask",vn ((S.take (j+1)).foldl G.jc 0)),("row",.ref ro),("goal",vn q),("grammar",.ref g.g),("self",.ref la)]) (by rw[SI];k_in) ⟨q0,q1,by rw[eR];exact q2⟩))
  .rintro aF ⟨q0,q1,q2⟩;rw[dW] at q2;have eT:(S.take S.length).foldl G.jc 0=G.tD S:=by rw[dW];rfl
   dsimp only;rw[eT];have p1':=q1 _ _ p1;have p2':=q1 _ _ p2;have Ds:=q1 _ _ lam;ext aF;refine gu (eB gn lE lF ?_);refine aA T 32 Ds ?_ (hl:=f5);refine ⟨gG p1',?_⟩;lk;show kG p1' (by rw[ak,aN];exact zl hi (zz eN (zb rfl)));have afs:(aF.set dl (.list ((aj i).map (λx=>vn (dr x))++[vn (G.tD S)]))) la=_:=MH.ay Ds (λe=>by rw[e,p1'] at Ds;cases Ds);have Qt:(aF.set dl (.list ((aj i).map (λx=>vn (dr x))++[vn (G.tD S)]))) rl=_:=MH.ay p2' d1.5.symm;refine gu (eB gn lE lF ?_);refine aA T 32 afs ?_ (hl:=f6);refine ⟨gG Qt,?_⟩;lk;show kG Qt (by rw[ak,aN];exact zl hi (zz eN (zb rfl)));subst bP;refine br (by k_in) ⟨((lx.le q1).set (.inr (aZ))).set (.inr (.tail _ (.head _))),λx=>if x=i then ro else ra x,?_,?_,λx hx=>?_⟩
   .rw[MH.aC d1.5,MH.af,jD,aV,yG,hdi]
   .rw[MH.af];exact congrArg (λl=>some (O.list l)) (zL (λx hx=>by simp only[show ¬ x=i by exact kU hx,if_false]) (by simp only[if_true]))
   .by_cases hxi:x=i
    .ext x;subst hxi;simp only[if_true];rw[MH.aC Ei.2.symm,MH.aC Ei.1.symm,AZ];exact ⟨q2,mro⟩
    .ext x;simp only[hxi,if_false];obtain ⟨r1,r2⟩:=p3 x (cY hx hxi);have r1':=q1 _ _ r1;refine ⟨?_,r2⟩;rw[MH.aC (λe=>by rw[e,hrl] at r2;cases r2),MH.aC (λe=>by rw[e,hdl] at r2;cases r2)];exact r1'
 .rintro mm ⟨lx,ra,p1,p2,p3⟩;rw[aN] at p1 p2 p3;exact cX (h mm ra lx p1 p2 λx hx=>(p3 x hx).1)
end
end
section
namespace Gr
noncomputable def jq (G:Gr) (k:Nat):List (Nat×Nat):=(aj k).flatMap λi=>(G.dJ (G.kr i)).map λr=>(i,r)
variable {G:Gr}
theorem GF (k:Nat):G.jq (k+1)=G.jq k++(G.dJ (G.kr k)).map λr=>(k,r):=by unfold jq;rw[jD,vX];simp
theorem GY:p∈G.jq k↔p.1 < k/\p.2∈G.dJ (G.kr p.1):=by
 ext G k p;unfold jq;rw[nQ];constructor
 .rintro ⟨i,h1,h2⟩;obtain ⟨r,h3,rfl⟩:=aQ.mp h2;exact ⟨by simpa using h1,h3⟩
 .rintro ⟨h1,h2⟩;exact ⟨p.1,by simpa using h1,aQ.mpr ⟨p.2,h2,rfl⟩⟩
theorem GZ (o:G.Ok) (h:ah.length<=20):(G.dJ ah).length<=40:=by unfold dJ;rw[pA];exact aO (GS _) (NX o h)
theorem G0 (o:G.Ok) (sm:G.Small):∀ k,k<=G.nK->(G.jq k).length<=40*k:=by
 intro l_;induction l_ with
 | zero=>
  intro _;exact bk _
 | succ k ih=>
  intro h;rw[GF,cQ,ak];have:=ih (zf h);have:=GZ o (wo o (kE o 200) (show k < G.aU.length by change k < G.nK;exact h));change (G.dJ (G.kr k)).length<=40 at this;exact aem (by assumption) this
theorem CI (o:G.Ok) (sm:G.Small):G.bI.length<=4000:=by exact ael (G0 o sm G.nK (aL _)) (uJ sm)
noncomputable def Dg (G:Gr) (y x:Nat):Prop:=∃ r d:Nat,r < G.R/\G.aq r=(G.pr x).2/\(G.ai r)[d]? = some (G.pr y).2/\∀ k z,d < k->(G.ai r)[k]? = some z->cu G z
end Gr
structure Cells (m mm:MH) (tot:Nat) (c:Nat->Addr) (P:Nat->List Nat->Prop):Prop where
 keep:∀ a ob,m a=some ob->(∀ z,z < tot->a≠c z)->mm a=some ob
 cell:∀ z,z < tot->∃ l,mm (c z)=some (.list (l.map vn))/\P z l
 inj:∀ z w,z < tot->w < tot->c z=c w->z=w
theorem Cells.le (x:Cells m mm tot c P) (h:mm.le m'):Cells m m' tot c P:=
 ⟨λa ob h1 h2=>h _ _ (x.keep a ob h1 h2),λz hz=>let ⟨l,q1,q2⟩:=x.cell z hz;⟨l,h _ _ q1,q2⟩,x.inj⟩
theorem Cells.set (x:Cells m mm tot c P) (hz:z < tot) (hl:P z l):Cells m (mm.set (c z) (.list (l.map vn))) tot c P:=by
 refine ⟨λa ob h1 h2=>?_,λw hw=>?_,x.inj⟩
 .rw[MH.aC (h2 z hz)];exact x.keep a ob h1 h2
 .by_cases q:w=z
  .subst q;exact ⟨l,MH.af _ _ _,hl⟩
  .obtain ⟨l',q1,q2⟩:=x.cell w hw;exact ⟨l',by rw[MH.aC (λe=>q (x.inj w z hw hz e))];exact q1,q2⟩
section
variable {C:Cx} {A:TA} {n:Nat} {m:MH} {Q:V->MH->Prop} {g:GA} {G:Gr} {u:Addr} {ad:Nat->SA}
theorem My (T:aS C A) (hn:1<=n) (hm:m row=some (.list (l.map vn))) (hl:l.length < 2 ^ 20) (h1:k∈l->Q .none m) (h2:k∉l->Q .none (m.set row (.list ((l++[k]).map vn)))):FC C (A.f 33) n [.ref row,vn k] m Q:=by
 refine eG T 33 "add_once" ["row","number"] hn rfl (λenv ef=>?_) (by walk_at "bd2");k_is;show ck;lk;refine Np (ks:=l.map λk:Nat=>(k:Int)) (by rw[<-mW];exact hm) ⟨_,rfl,?_⟩;have em:decide (((k:Nat):Int)∈l.map λk:Nat=>(k:Int))=decide (k∈l):=by
  rw[decide_eq_decide,aQ];constructor
  .rintro ⟨z,hz,e⟩;have:z=k:=oz e;rw[<-this];exact hz
  .intro hz;exact ⟨_,hz,rfl⟩
 rw[em];refine ⟨λhb=>?_,λhb=>?_⟩
 .have hk:k∉l:=by simpa using hb
  show iV ⟨_,hm⟩;lk;refine ⟨_,hm,by rw[ak];exact hl,?_⟩;have:=h2 hk;rw[aV] at this;exact aX (cX this)
 .have hk:k∈l:=by simpa using hb
  exact aX (cX (h1 hk))
theorem Cells.once (T:aS C A) (x:Cells m mm tot c P) (hn:1<=n) (hz:z < tot) (hP:∀ l,P z l->l.length < 2 ^ 20) (hk:∀ l,P z l->k∉l->P z (l++[k])) (h:∀ m',Cells m m' tot c P->Q .none m'):FC C (A.f 33) n [.ref (c z),vn k] mm Q:=by obtain ⟨l,q1,q2⟩:=x.cell z hz;exact My T hn q1 (hP l q2) (λ_=>h mm x) λdQ=>h _ (x.set hz (hk l q2 dQ))
theorem We {la na ra:Addr} {fs:List (Str×V)} {l:List Nat} (T:aS C A) (o:G.Ok) (hn:1<=n) (hla:m la=some (.inst (A.cls 32) fs)) (f4:fs.lookup ("nullables" : Str)=some (.ref na)) (hna:m na=some (.list ((aj G.N).map λy=>.bool (G.nul y)))) (qg:m ra=some (.tuple (l.map vn))) (hl:∀ y∈l,y < G.N) (iw:l.length<=100) (h:∀ e:Nat,(∀ k z,e < k->l[k]? = some z->cu G z)->Q (vn e) m):FC C (A.bZ 32 4) n [.ref la,.ref ra] m Q:=by
 have hN:=Gr.N8 o;clear o;ext C A n m Q G la na ra fs l;refine dX T 32 4 "open_ends" "Lookaheads.open_ends" ["self","right"] hn rfl (λenv ef=>?_) (by walk_at "bd2");k_is;lk;ext env;show bY T ef.toC (by rfl);lk;show wc qg (by rw[ak];exact zm iw (ao rfl));rw[ak];show qG (λk L mm=>L=([("spot",vn k),("self",.ref la),("right",.ref ra)]:Loc)/\mm=m/\k<=l.length/\∀ j z,k<=j->l[j]? = some z->cu G z) l.length [("spot",vn l.length),("self",.ref la),("right",.ref ra)] (by k_in) ⟨rfl,rfl,aL _,λj z hj hz=>by have:=(bU.mp hz).1;exact (ig this hj).elim⟩;rintro k L mm aG;ext k L mm;show qW;intro QQ qe;ext QQ;obtain ⟨rfl,rfl,hk,hnl⟩:=aG;show qJ;lk;refine wU ⟨_,rfl,?_⟩;have ret:∀ kk:Nat,(∀ j z,kk<=j->l[j]? = some z->cu G z)->Q (.int (max ((kk:Int) - 1) 0)) mm:=λkk hkk=>by
  have e:max ((kk:Int) - 1) 0=((kk - 1:Nat):Int):=by exact aek
  rw[e];exact h (kk - 1) λj z hj hz=>hkk j z (by exact aej hj) hz
 by_cases hk0:0 < k
 .rw[decide_eq_true hk0];simp only[if_true];have dQ:k - 1 < l.length:=mw hk0 hk;show iR;lk;refine aA T 32 hla ?_ (hl:=f4);lk;show HC hk0;show lM qg (by rw[bH,aH dQ];rfl) (by rw[ak];exact zm iw (ao rfl));show aJ hna (aW _ (hl _ (cW dQ))) (by simp;exact zm hN (ao rfl));refine jl ⟨λhb=>?_,λhb=>?_⟩
  .lk;show HC hk0;subst qe;refine fB [("spot",vn (k - 1)),("self",.ref la),("right",.ref ra)] (by k_in) ⟨k - 1,xB hk0,rfl,rfl,zf dQ,λj z hj hz=>?_⟩;by_cases q:j=k - 1
   .subst q;rw[aH dQ] at hz;rw[<-c8 hz];exact Gr.uA.mp hb
   .exact hnl j z (by exact aei hj q) hz
  .lk;show bY T ef.toC (by rfl);lk;show HR;lk;exact Ot (ret k hnl)
 .rw[decide_eq_false hk0];simp only[cP,if_false];refine ⟨λhb=>by simp at hb,λ_=>?_⟩;lk;show bY T ef.toC (by rfl);lk;show HR;lk;exact Ot (ret k hnl)
end
end
section
structure Kc (m mm:MH) (lb:Addr) (ka va:Nat->Addr) (L:List (Nat×Nat)):Prop where
 d:∃ ep,mm lb=some (.bE (dG ka (λj=>.ref (va j)) 0 (L.map pk)) ep)
 k:∀ j p,L[j]? = some p->mm (ka j)=some (.tuple [vn p.1,vn p.2])
 v:∀ j,j < L.length->mm (va j)=some (.list [])/\m (va j)=none
 i:∀ j l,j < L.length->l < L.length->va j=va l->j=l
theorem Cells.self (x:Cells m mm tot c P):Cells mm mm tot c P:=⟨λ_ _ h _=>h,x.cell,x.inj⟩
theorem Cells.trans (x:Cells m mm tot c P) (y:Cells mm m' tot c P):Cells m m' tot c P:=⟨λa ob h1 h2=>y.keep _ _ (x.keep _ _ h1 h2) h2,y.cell,x.inj⟩
theorem Z4 {G:Gr} {ah:List Nat} {r:Nat} (o:G.Ok) (hr:r < G.R) (h0:r≠0) (h:G.item r (G.ai r).length∈G.bV ah):r∈G.dJ ah:=
 Gr.CH.mpr ⟨_,h,by rw[Gr.uu hr (aL _)];exact jC (aL _),by rw[Gr.fO hr (aL _)];exact h0,(Gr.fO hr (aL _)).symm⟩
theorem acA {G:Gr} {i r:Nat} (h1:i < G.nK) (h2:r∈G.dJ (G.kr i)):(i,r)∈G.bI:=by
 have h:(i,r).1 < G.nK/\(i,r).2∈G.dJ (G.kr (i,r).1):=by dsimp only;exact ⟨h1,h2⟩
 exact Gr.GY.mpr h
namespace Gr
noncomputable def tF (G:Gr) (i r:Nat):Nat->Nat
 | 0=>i
 | j+1=>G.go (tF G i r j) ((G.ai r).getD j 0)
end Gr
theorem acB {G:Gr} {i r:Nat} (o:G.Ok) (c:G.j4) (hi:i < G.nK) (hr:r < G.R) (hs:G.aq r∈G.sy i):∀ j,j<=(G.ai r).length->G.tF i r j < G.nK/\G.item r j∈G.bV (G.kr (G.tF i r j)):=by
 intro l_;induction l_ with
 | zero=>
  intro _;obtain ⟨it,h1,h2⟩:=Gr.wD.mp hs;exact ⟨hi,Gr.OA o h1 hr h2⟩
 | succ j ih=>
  intro hj;obtain ⟨h1,h2⟩:=ih (zf hj);have hd:(G.ai r)[j]? = some ((G.ai r).getD j 0):=by rw[bM,aH hj];rfl
  obtain ⟨h3,h4⟩:=Gr.OC o c h1 hr hd h2;exact ⟨Gr.Pw c h1 h3,Gr.OD o h4⟩
section
variable {C:Cx} {A:TA} {n:Nat} {m:MH} {Q:V->MH->Prop} {g:GA} {G:Gr} {u:Addr} {ad:Nat->SA}
noncomputable def iz (cnt:Nat) (c0 va:Nat->Addr) (z:Nat):Addr:=if z < cnt+cnt then c0 z else va (z - (cnt+cnt))
noncomputable def PF (G:Gr) (cnt:Nat) (D:List (Nat×Nat)) (z:Nat) (l:List Nat):Prop:=l.Nodup/\∀ x∈l,x < cnt/\(z < cnt->G.Dg z x)/\(cnt+cnt<=z->∀ p,D[z - (cnt+cnt)]? = some p->(G.pr x).2=G.aq p.2)
theorem WH {cnt:Nat} {la tl xl na il ul lb:Addr} {ta c0:Nat->Addr} {fs:List (Str×V)} (T:aS C A) (o:G.Ok) (sm:G.Small) (c:G.j4) (hn:3<=n) (gM:G.dH.length=cnt) (hla:m la=some (.inst (A.cls 32) fs)) (f1:fs.lookup ("automaton" : Str)=some (.ref u)) (f2:fs.lookup ("transitions" : Str)=some (.ref tl)) (f3:fs.lookup ("index" : Str)=some (.ref xl)) (f4:fs.lookup ("nullables" : Str)=some (.ref na)) (f5:fs.lookup ("includes" : Str)=some (.ref il)) (f6:fs.lookup ("turns" : Str)=some (.ref ul)) (f7:fs.lookup ("lookback" : Str)=some (.ref lb)) (f8:fs.lookup ("open_ends" : Str)=none) (tp:k9 m m tl xl ta G.dH) (hna:m na=some (.list ((aj G.N).map λy=>.bool (G.nul y)))) (hil:m il=some (.list ((aj cnt).map λy=>.ref (c0 y)))) (rj:m ul=some (.list ((aj cnt).map λy=>.ref (c0 (cnt+y))))) (hlb:m lb=some (.bE [] 0)) (afu:xl≠lb) (hfr:∃ m1:MH,m1.le m/\cU A m1 g G/\kK A m1 g G u ad/\m1 lb=none/\∀ z,z < cnt+cnt->m1 (c0 z)=none) (hc0:∀ z,z < cnt+cnt->m (c0 z)=some (.list [])/\c0 z≠tl/\c0 z≠na/\c0 z≠il/\c0 z≠ul) (hinj:∀ z w,z < cnt+cnt->w < cnt+cnt->c0 z=c0 w->z=w) (h:∀ m' (inc iM:Nat->List Nat) (ka va:Nat->Addr) (ep:Nat),(∀ a ob,m a=some ob->(∀ z,z < cnt+cnt->a≠c0 z)->a≠lb->m' a=some ob)->(∀ y,y < cnt->m' (c0 y)=some (.list ((inc y).map vn))/\(inc y).Nodup/\∀ x∈inc y,x < cnt/\G.Dg y x)->
   m' lb=some (.bE (dG ka (λj=>.ref (va j)) 0 (G.bI.map pk)) ep)->(∀ j p,G.bI[j]? = some p->m' (ka j)=some (.tuple [vn p.1,vn p.2])/\m' (va j)=some (.list ((iM j).map vn))/\(iM j).Nodup/\∀ x∈iM j,x < cnt/\(G.pr x).2=G.aq p.2)->Q .none m'):FC C (A.bZ 32 3) n [.ref la] m Q:=by
 ext C A n m Q g G u ad cnt la tl xl na il ul lb ta c0 fs;obtain ⟨m1,jb,yg,yu,n1,n2⟩:=hfr;have hN:=Gr.N8 o;have hR:=o.r5;have hK:=Gr.uJ sm;have eN:=Gr.Hr o sm;have hdl:=Gr.CI o sm;have sH:la≠lb:=λe=>by rw[e,hlb] at hla;cases hla
 ext m1;refine dX T 32 3 "find_includes" "Lookaheads.find_includes" ["self"] (eW hn) rfl (λenv ef=>?_) (by walk_at "bd1");k_is;ext env;obtain ⟨bl,u1,u2,u3⟩:=id yu;lk;show gY T 27;refine aA T 32 hla ?_ (hl:=f1);refine ⟨u,_,_,rfl,jb _ _ u1,rfl,?_⟩;have key:∀ mm:MH,m.bF [lb] mm->m1.le mm:=λmm hl a ob h1=>hl a ob (jb _ _ h1) (by rw[bQ];rintro e;rw[e,n1] at h1;cases h1);refine dw (λ_=>[("grammar",.ref g.g),("self",.ref la)]) (λi mm=>m.bF [lb] mm/\∃ ka va,Kc m mm lb ka va (G.jq i)) (cC (λi=>V.ref (ad i).s) (aj G.nK) ?_);show gY T 27;refine aA T 32 hla ?_ (hl:=f1);refine ⟨u,_,_,rfl,jb _ _ u1,rfl,?_⟩;refine ⟨bl,rfl,jb _ _ u2,by k_in,⟨MH.bF.refl _,λ_=>0,λ_=>0,⟨0,hlb⟩,λj p hp=>by (cases hp),λj hj=>by simp[Gr.jq] at hj,λj l hj=>by simp[Gr.jq] at hj⟩,λi mm hp=>key mm hp.1 _ _ u2,?_,?_⟩
 .rintro i mm hi aG;ext i mm;show bO;intro QQ bP;obtain ⟨lx,ka,va,lbp⟩:=aG;rw[aN] at hi;ext QQ ka va;refine cy (qO _ hi) (aM (ef.store ⋯) ?_);have lm:=key mm lx;have st:=u3 i hi;obtain ⟨it,rd,s1,s2,s3⟩:=st.inst;have Kd:(G.jq i).length<=4000:=by have:=Gr.G0 o sm i (zf hi);exact aeq hK hi this
  have hrl:(G.dJ (G.kr i)).length<=40:=Gr.GZ o (Gr.wo o (Gr.kE o 200) hi);change m1 rd=some (.list ((G.dJ (G.kr i)).map vn)) at s3;have Ke:=Gr.GF (G:=G) i;generalize Ej:G.dJ (G.kr i)=RK at *
  generalize Ek:G.jq i=DU at *
  have uS:∀ r,(i,r)∉DU:=λr hm=>by rw[<-Ek] at hm;have:=(Gr.GY.mp hm).1;exact absurd this (uc _)
  have Kf:RK.Nodup:=by
   rw[<-Ej];unfold Gr.dJ;show qD;unfold Gr.jo;refine mL (v9 (Gr.wj (Gr.mR (Gr.mS o hi).2) o)) λx hx y hy e=>?_;ext x y;obtain ⟨Kg,vm⟩:=fE.mp hx;obtain ⟨hy1,gh⟩:=fE.mp hy;have bx:=Gr.jK o (Gr.mS o hi).1 x Kg;have by_:=Gr.jK o (Gr.mS o hi).1 y hy1;simp only[lH,decide_eq_true_eq] at vm gh;have dx:G.dot x=(G.ai (G.aB x)).length:=by have h1:=vm.1;unfold Gr.aY at h1;rw[yw] at h1;have:=Gr.jY bx;exact kT this h1
   have dy:G.dot y=(G.ai (G.aB y)).length:=by have h1:=gh.1;unfold Gr.aY at h1;rw[yw] at h1;have:=Gr.jY by_;exact kT this h1
   rw[<-Gr.jJ bx,<-Gr.jJ by_,dx,dy,e]
  clear s2 Ej Ek;ext it rd RK DU;refine dw (λ_=>[("state",.ref (ad i).s),("grammar",.ref g.g),("self",.ref la)]) (λj aF=>m.bF [lb] aF/\∃ ka va,Kc m aF lb ka va (DU++(RK.take j).map λr=>(i,r))) (cC vn RK ?_);show gY T 22;lk;refine ⟨_,_,_,rfl,lm _ _ s1,rfl,?_⟩;refine ⟨rd,rfl,lm _ _ s3,by k_in,⟨lx,ka,va,by simpa using lbp⟩,λj aF hp=>key aF hp.1 _ _ s3,?_,?_⟩
  .rintro j aF hj aG;ext j aF;show bO;intro QQ bT;ext QQ;obtain ⟨lx',ka,va,lp⟩:=aG;ext ka va;refine cy (getD_map hj) (aM (ef.store ⋯) ?_);have cD:=take_snoc (aH hj);have hni:(i,RK[j])∉DU++(RK.take j).map λr=>(i,r):=λhm=>by
    rcases bN.mp hm with h | h
    .exact uS _ h
    .obtain ⟨r,hr,e⟩:=aQ.mp h;have e2:r=RK[j]:=(ug e).2;obtain ⟨q,hq,e3⟩:=qv.mp hr;exact (qw.mp Kf) q j (u9 hq) hj (nq hq) (e3.trans e2)
   have hlen:(DU++(RK.take j).map λr=>(i,r)).length<=5000:=by rw[cQ,ak];have:=rK j RK;exact PX hrl Kd this
   have eL:DU++(RK.take (j+1)).map (λr=>(i,r))=(DU++(RK.take j).map λr=>(i,r))++[(i,RK[j])]:=by rw[cD,aV,gX];rfl
   generalize hr0:RK[j]=r at *
   generalize hL:DU++(RK.take j).map (λr=>(i,r))=L at *
   have tC:=key aF lx';have la':=lx' _ _ hla (by rw[bQ];exact sH);revert hj;ext r L;intro hj hr0;obtain ⟨ep,hd⟩:=lp.d;have hnew:lY (dG ka (λj=>V.ref (va j)) 0 (L.map pk)) (cR (pk (i,r)))=none:=by rw[kI,if_neg (λh=>hni (mX.mp h))]
   walk_at "set";ext ep;refine bR (cM ⟨by simp,λb1 hb1=>?_⟩);have l5:aF.le (aF.set b1 (.list [])):=MH.av hb1;ext b1;refine aA T 32 (l5 _ _ la') ?_ (hl:=f7);show eE;lk;show aA T 22 (l5 _ _ (tC _ _ s1));lk;refine ⟨by exact of_decide_eq_true rfl,λb2 hb2=>?_⟩;have l6:aF.le ((aF.set b1 (.list [])).set b2 (.tuple [vn i,vn r])):=l5.trans (MH.av hb2);have b12:b1≠b2:=MH.aE (MH.af _ b1 _) hb2;have Qu:lb≠b1:=MH.aE hd hb1;have afv:lb≠b2:=MH.aE (l5 _ _ hd) hb2;refine zR (k:=cR (pk (i,r))) (l6 _ _ hd) (MH.af _ _ _) (by rw[wA,ak];exact zm hlen (ao rfl)) λgw=>?_;rw[zK hnew];have SJ:m b1=none:=by
    cases e:m b1 with
    | none=>rfl
    | some ob=>rw[lx' _ _ e (by rw[bQ];exact Qu.symm)] at hb1;cases hb1
   clear hb2;ext b2 gw;subst bT;refine br (by k_in) ⟨(lx'.le l6).set (.inr (aZ)),λx=>if x=L.length then b2 else ka x,λx=>if x=L.length then b1 else va x,?_⟩;rw[eL];refine ⟨⟨gw,?_⟩,λx p hp=>?_,λx hx=>?_,λx y hx hy e=>?_⟩
   .rw[MH.af,aV,yG,yW,ak,fG];simp only[if_true];exact congrArg (λl=>some (O.bE (l++[(cR (pk (i,r)),b2,V.ref b1)]) gw)) (Gg λx h1 h2=>by rw[ak] at h2;simp only[show ¬ x=L.length by exact PW h2,if_false];exact ⟨trivial,trivial⟩)
   .by_cases gT:x < L.length
    .rw[jT gT] at hp;have h1:=lp.k x p hp;simp only[show ¬ x=L.length by exact kU gT,if_false];rw[MH.aC (λe=>by rw[e,hd] at h1;cases h1)];exact l6 _ _ h1
    .have Bk:x=L.length:=by
      have:=(bU.mp hp).1;rw[cQ] at this;simp at this;exact ow this gT
     subst Bk;rw[oQ (aL _)] at hp;simp at hp;subst hp;simp only[if_true];exact MH.ay (MH.af _ _ _) afv.symm
   .rw[cQ,fM,yO] at hx;by_cases gT:x=L.length
    .subst gT;simp only[if_true];exact ⟨MH.ay (MH.ay (MH.af _ _ _) b12) Qu.symm,SJ⟩
    .simp only[gT,if_false];obtain ⟨q1,q2⟩:=lp.v x (cY hx gT);refine ⟨?_,q2⟩;rw[MH.aC (λe=>by rw[e,hd] at q1;cases q1)];exact l6 _ _ q1
   .rw[cQ,fM,yO] at hx hy;have old:∀ z,z < L.length->va z≠b1:=λz hz e=>by have:=(lp.v z hz).1;rw[e,hb1] at this;cases this
    by_cases gT:x=L.length<;>by_cases hyl:y=L.length
    .exact DV gT hyl
    .simp only[gT,hyl,if_true,if_false] at e;exact absurd e.symm (old y (cY hy hyl))
    .simp only[gT,hyl,if_true,if_false] at e;exact absurd e (old x (cY hx gT))
    .simp only[gT,hyl,if_false] at e;exact lp.i x y (cY hx gT) (cY hy hyl) e
  .rintro aF ⟨lx',ka,va,lp⟩;rw[dW] at lp;subst bP;exact br (by k_in) ⟨lx',ka,va,by rw[Ke];exact lp⟩
 .rintro mm ⟨lx,ka,va,lp⟩;rw[aN] at lp;have lm:=key mm lx;change Kc m mm lb ka va G.bI at lp;generalize hD:G.bI=D at *
  have la':=lx _ _ hla (by rw[bQ];exact sH);have Al:∀ a xs,m a=some (.list xs)->a∉[lb]:=λa xs h1=>by rw[bQ];intro e;rw[e,hlb] at h1;cases h1
  have J8:=tp.bF (S:=[]) (m':=m) (λ_ _ h _=>h) (λa ha=>by simp at ha) (by simp);have SK:∀ z,z < cnt+cnt->mm (c0 z)=some (.list []):=λz hz=>lx _ _ (hc0 z hz).1 (Al _ _ (hc0 z hz).1);have cells:Cells mm mm (cnt+cnt+D.length) (iz cnt c0 va) (PF G cnt D):=by
   refine ⟨λ_ _ h _=>h,λz hz=>⟨[],?_,yP,λx hx=>by simp at hx⟩,λz w hz hw e=>?_⟩
   .change mm (if z < cnt+cnt then c0 z else va (z - (cnt+cnt)))=_;split
    .rename_i q;exact SK z q
    .exact (lp.v _ (j9 hz (zg (by assumption)))).1
   .change (if z < cnt+cnt then c0 z else va (z - (cnt+cnt)))=(if w < cnt+cnt then c0 w else va (w - (cnt+cnt))) at e;by_cases q:z < cnt+cnt<;>by_cases q':w < cnt+cnt
    .rw[if_pos q,if_pos q'] at e;exact hinj z w q q' e
    .rw[if_pos q,if_neg q'] at e;have h1:=(hc0 z q).1;rw[e,(lp.v _ (j9 hw (zg q'))).2] at h1;cases h1
    .rw[if_neg q,if_pos q'] at e;have h1:=(hc0 w q').1;rw[<-e,(lp.v _ (j9 hz (zg q))).2] at h1;cases h1
    .rw[if_neg q,if_neg q'] at e;have:=lp.i _ _ (j9 hz (zg q)) (j9 hw (zg q')) e;exact aep q q' this
  have nm1:∀ a ob,m1 a=some ob->∀ z,z < cnt+cnt+D.length->a≠(iz cnt c0 va) z:=λa ob h1 z hz e=>by
   change a=(if z < cnt+cnt then c0 z else va (z - (cnt+cnt))) at e;split at e
   .rename_i q;rw[e,n2 z q] at h1;cases h1
   .have h2:=jb _ _ h1;rw[e,(lp.v _ (j9 hz (zg (by assumption)))).2] at h2;cases h2
  have oJ:∀ a ob,mm a=some ob->(∀ xs,ob≠.list xs)->∀ z,z < cnt+cnt+D.length->a≠(iz cnt c0 va) z:=λa ob h1 h2 z hz e=>by obtain ⟨l,q1,_⟩:=cells.cell z hz;rw[<-e,h1] at q1;exact h2 _ (c8 q1)
  have Bl:∀ a xs,m a=some (.list xs)->(∀ z,z < cnt+cnt->c0 z≠a)->∀ z,z < cnt+cnt+D.length->a≠(iz cnt c0 va) z:=λa xs h1 h2 z hz e=>by
   change a=(if z < cnt+cnt then c0 z else va (z - (cnt+cnt))) at e;split at e
   .rename_i q;exact h2 z q e.symm
   .rw[e,(lp.v _ (j9 hz (zg (by assumption)))).2] at h1;cases h1
  have tl':=lx _ _ tp.t (Al _ _ tp.t);have tln:=Bl tl _ tp.t λz hz=>(hc0 z hz).2;have na':=lx _ _ hna (Al _ _ hna);have nan:=Bl na _ hna λz hz=>(hc0 z hz).3;have il':=lx _ _ hil (Al _ _ hil);have iln:=Bl il _ hil λz hz=>(hc0 z hz).4;have ul':=lx _ _ rj (Al _ _ rj);have uln:=Bl ul _ rj λz hz=>(hc0 z hz).5;have ta':∀ x p,G.dH[x]? = some p->mm (ta x)=some (.tuple [vn p.1,vn p.2]):=λx p hp=>lx _ _ (tp.tt x p hp) (by rw[bQ];intro e;have:=tp.tt x p hp;rw[e,hlb] at this;cases this);clear hdl SK Bl;ext mm ka va D;obtain ⟨kx,epx,xl0⟩:=tp.x;have xln:xl∉[lb]:=by rw[bQ];exact afu
  have SM:=lx _ _ xl0 xln;obtain ⟨SN,hd⟩:=lp.d;have Kh:∀ z l,(PF G cnt D) z l->l.length < 2 ^ 20:=λz l hp=>gW (jM hp.1 λx hx=>(hp.2 x hx).1) (by exact aeo gM eN);ext SN;refine dw (λ_=>[("grammar",.ref g.g),("self",.ref la)]) (λx m2=>Cells mm m2 (cnt+cnt+D.length) (iz cnt c0 va) (PF G cnt D)) (lJ T ef.toC ?_);show bY T ef.toC (by rfl);lk;refine aA T 32 la' ?_ (hl:=f2);lk;refine fz tl' (by rw[ak,aN];exact zm eN (ao rfl)) ⟨cnt,by rw[ak,aN,gM],by exact Iq gM eN,by k_in,cells,λ_ _ _=>trivial,?_,?_⟩
  .rintro x m2 hx ce;ext x m2;show bO;intro QQ bT;have hxc:x < G.dH.length:=dN hx gM;ext QQ;obtain ⟨g1,g2,g3⟩:=Gr.C3 hxc;have afw:=Gr.Ac hxc;have hpx:(G.pr x).1 < G.nK:=g1;generalize Px:G.pr x=px at *
   clear g3 hpx;ext px;show aM (ef.store ⋯);have El:=ce.keep _ _ la' (oJ _ _ la' (by intro xs e;cases e));show Hg;lk;refine aA T 32 El ?_ (hl:=f2);lk;show aJ (ce.keep _ _ tl' tln) (aW _ hxc) (by rw[ak,aN];exact zm eN (ao rfl));have t1:=ta' x px afw;show mP (ce.keep _ _ t1 (oJ _ _ t1 (by intro xs e;cases e))) rfl;refine aM (ef.store ⋯) (aM (ef.store ⋯) ?_);change WS C (n - 1) env _ _ _ _;have acC:px.2 < G.N:=Gr.Ic o g2;have k2:∀ m3:MH,Cells mm m3 (cnt+cnt+D.length) (iz cnt c0 va) (PF G cnt D)->m1.le m3:=λm3 c3 a ob h1=>c3.keep _ _ (lm _ _ h1) (nm1 _ _ h1);refine pH (cC vn (fh G px.2) ?_);show cG T 9 5 "Grammar.rules_of" (yg.le (k2 _ ce)).self;lk;refine Mw T o (yg.le (k2 _ ce)) (zf (eg hn)) acC λbx Kl=>?_;have lbx:m2.le (m2.set bx (.list ((fh G px.2).map vn))):=MH.av Kl;have Em:∀ z,z < cnt+cnt+D.length->bx≠(iz cnt c0 va) z:=λz hz e=>by obtain ⟨l,q1,_⟩:=ce.cell z hz;rw[<-e,Kl] at q1;cases q1
   clear Kl;ext bx;refine ⟨bx,rfl,MH.af _ _ _,λ_=>[("left",vn px.2),("first",vn px.1),("x",vn x),("grammar",.ref g.g),("self",.ref la)],λj m3=>m3 bx=some (.list ((fh G px.2).map vn))/\Cells mm m3 (cnt+cnt+D.length) (iz cnt c0 va) (PF G cnt D),by k_in,⟨MH.af _ _ _,ce.le lbx⟩,λj m3 hp=>hp.1,?_,?_⟩
   .rintro j m3 hj aG;ext j m3;show bO;intro QQ gk;ext QQ;obtain ⟨jd,xX⟩:=aG;refine cy (getD_map hj) (aM (ef.store ⋯) ?_);obtain ⟨lq,hrl⟩:=Gr.uo.mp (cW hj);generalize (fh G px.2)[j]=r at lq hrl;have hr0:r≠0:=λe=>by
     subst e;rw[o.l0] at hrl;obtain ⟨itx,hi1,hi2⟩:=Gr.wD.mp g2;unfold Gr.aY at hi2;have:=bC hi2;rw[<-hrl] at this;exact o.rT _ this
    have mF:=k2 _ xX;ext r;obtain ⟨lv,d9⟩:=(yg.le mF).rule;have hlr:=o.len r;have Qv:=acB o c g1 lq (by rw[hrl];exact g2);have xY:=xX.keep _ _ la' (oJ _ _ la' (by intro xs e;cases e));lk;show gY T 8;lk;show aA T 9 (yg.le mF).self;lk;show aJ (yg.le mF).rules (aW _ lq) (by rw[ak,aN];exact zm hR (ao rfl));refine ⟨_,_,_,rfl,d9 r lq,rfl,?_⟩;lk;refine cG T 32 4 "Lookaheads.open_ends" xY ?_ (hl:=f8);lk;refine We T o (zf (eg hn)) xY f4 (xX.keep _ _ na' nan) ((yg.le mF).right r lq) (o.rN r) (zz hlr aI) λe0 he0=>?_;lk;have ah1:∀ m4:MH,m4 bx=some (.list ((fh G px.2).map vn))->∀ z,z < cnt+cnt+D.length->m4 ((iz cnt c0 va) z)=m4 ((iz cnt c0 va) z):=λ_ _ _ _=>rfl;ext e0;refine dw (λk=>[("at",vn (G.tF px.1 r k)),("ends",vn e0),("right",.ref (g.rr r)),("rule",vn r),("left",vn px.2),("first",vn px.1),("x",vn x),("grammar",.ref g.g),("self",.ref la)]) (λk m4=>m4 bx=some (.list ((fh G px.2).map vn))/\Cells mm m4 (cnt+cnt+D.length) (iz cnt c0 va) (PF G cnt D)) (lJ T ef.toC ?_);show bY T ef.toC (by rfl);lk;refine wc ((yg.le mF).right r lq) (by rw[ak];exact zm hlr (ao rfl)) ⟨(G.ai r).length,by rw[ak],zm hlr (ao rfl),by k_in,⟨jd,xX⟩,λ_ _ _=>trivial,?_,?_⟩
    .rintro k m4 hk aG;ext k m4;show bO;intro QQ kO;ext QQ;obtain ⟨oF,qk⟩:=aG;show aM (ef.store ⋯);have oK:=k2 _ qk;obtain ⟨a1,a2⟩:=Qv k (zf hk);have hd0:(G.ai r)[k]? = some ((G.ai r).getD k 0):=by rw[bM,aH hk];rfl
     obtain ⟨i1,i2⟩:=Gr.OC o c a1 lq hd0 a2;have eat:G.tF px.1 r (k+1)=G.go (G.tF px.1 r k) ((G.ai r).getD k 0):=rfl;have Ka:=Gr.Ic o i1;generalize (G.ai r).getD k 0=s at *
     generalize hA:G.tF px.1 r k=gU at *
     lk;show lM ((yg.le oK).right r lq) (by rw[bH,hd0];rfl) (by rw[ak];exact zm hlr (ao rfl));show um (λL m5=>L=([("symbol",vn s),("spot",vn k),("at",vn gU),("ends",vn e0),("right",.ref (g.rr r)),("rule",vn r),("left",vn px.2),("first",vn px.1),("x",vn x),("grammar",.ref g.g),("self",.ref la)]:Loc)/\m5 bx=some (.list ((fh G px.2).map vn))/\Cells mm m5 (cnt+cnt+D.length) (iz cnt c0 va) (PF G cnt D)) ?_
     .show qJ;lk;refine ae8 ⟨_,rfl,?_⟩;by_cases hse:e0<=k
      .rw[decide_eq_true hse];simp only[if_true];refine Hy (iR ?_);show cG T 9 2 "Grammar.is_terminal" (yg.le oK).self;lk;show zG T (yg.le oK) (zf (eg hn));refine jl ⟨λhb=>?_,λhb=>?_⟩
       .have nG:G.T<=s:=by simpa using hb
        have htr:(gU,s)∈G.dH:=C4 a1 i1 nG;obtain ⟨y1,y2⟩:=Gr.HF htr;have Bg:G.pr (G.oH gU s)=(gU,s):=by have:=Gr.Ac y1;rw[y2] at this;exact (c8 this).symm
        have inc:G.Dg (G.oH gU s) x:=⟨r,k,lq,by rw[Px];exact hrl,by rw[Bg];exact hd0,λq z hq hz=>he0 q z (zm hse hq) hz⟩;generalize hY:G.oH gU s=Y at *
        have vD:Y < cnt:=pV y1 gM;have tG:=qk.keep _ _ la' (oJ _ _ la' (by intro xs e;cases e));lk;refine aA T 32 tG ?_ (hl:=f3);show eE;lk;refine ⟨by exact of_decide_eq_true rfl,λb6 vo=>?_⟩;have l6:=MH.av (o:=.tuple [vn gU,vn s]) vo;have xl4:=qk.keep _ _ SM (oJ _ _ SM (by intro xs e;cases e));show qI (k:=cR (pk (gU,s))) (l6 _ _ xl4) (MH.af _ _ _) (by rw[kI,if_pos (mX.mpr htr),sd]);rw[fG,show G.dH.idxOf (gU,s)=Y from hY];have mG:=qk.le l6;have vE:=l6 _ _ oF;have ku:=l6 _ _ tG;have SO:=mG.keep _ _ il' iln;generalize m4.set b6 (.tuple [vn gU,vn s])=m5 at mG vE ku SO ⊢;have vF:c0 Y=(iz cnt c0 va) Y:=by change c0 Y=(if Y < cnt+cnt then c0 Y else _);rw[if_pos (jQ vD)]
        refine gu (cF T ef.toC 33 ?_);lk;refine aA T 32 ku ?_ (hl:=f5);lk;show aJ SO (aW _ vD) (by rw[ak,aN];exact Iq gM eN);lk;rw[vF];have bx5:∀ z,z < cnt+cnt+D.length->bx≠(iz cnt c0 va) z:=Em;obtain ⟨lz,SP,Km⟩:=mG.cell Y (jQ (jQ vD));have PY:∀ z,(z=Y\/z=cnt+Y)->∀ l,(PF G cnt D) z l->x∉l->(PF G cnt D) z (l++[x]):=λz hz l hp hn=>by
         refine ⟨?_,λy hy=>?_⟩
         .rw[lG];exact ⟨hp.1,by exact of_decide_eq_true rfl,λa ha b hb e=>hn (by rw[bQ] at hb;rw[<-hb,<-e];exact ha)⟩
         .rcases bN.mp hy with h | h
          .exact hp.2 y h
          .rw[bQ.mp h];refine ⟨hx,λhz'=>?_,λhz'=>by walk_at "n"⟩;have:z=Y:=by exact aen hz hz'
           rw[this];exact inc
        have cont:∀ m6:MH,m6 bx=some (.list ((fh G px.2).map vn))->Cells mm m6 (cnt+cnt+D.length) (iz cnt c0 va) (PF G cnt D)->
          ∃ L,Sub L ([("inner",vn Y),("symbol",vn s),("spot",vn k),("at",vn gU),("ends",vn e0),("right",.ref (g.rr r)),("rule",vn r),("left",vn px.2),("first",vn px.1),("x",vn x),("grammar",.ref g.g),("self",.ref la)]:Loc)/\(L=([("symbol",vn s),("spot",vn k),("at",vn gU),("ends",vn e0),("right",.ref (g.rr r)),("rule",vn r),("left",vn px.2),("first",vn px.1),("x",vn x),("grammar",.ref g.g),("self",.ref la)]:Loc)/\m6 bx=some (.list ((fh G px.2).map vn))/\Cells mm m6 (cnt+cnt+D.length) (iz cnt c0 va) (PF G cnt D)):=
         λm6 q1 q2=>⟨[("symbol",vn s),("spot",vn k),("at",vn gU),("ends",vn e0),("right",.ref (g.rr r)),("rule",vn r),("left",vn px.2),("first",vn px.1),("x",vn x),("grammar",.ref g.g),("self",.ref la)],by k_in,rfl,q1,q2⟩
        refine Cells.once T mG.self (zf (eg hn)) (z:=Y) (jQ (jQ vD)) (Kh _) (PY Y (.inl rfl)) λm6 Kn=>?_;have xW:=Kn.keep _ _ ku (oJ _ _ la' (by intro xs e;cases e));have Ax:=Kn.keep _ _ vE Em;have Dt:=mG.trans Kn;show ck;lk;refine Ai ⟨_,rfl,λhb=>?_,λhb=>?_⟩
        .have ul6:=Dt.keep _ _ ul' uln;refine gu (cF T ef.toC 33 ?_);lk;refine aA T 32 xW ?_ (hl:=f6);lk;show aJ ul6 (aW _ vD) (by rw[ak,aN];exact Iq gM eN);lk;have afx:c0 (cnt+Y)=(iz cnt c0 va) (cnt+Y):=by change c0 (cnt+Y)=(if cnt+Y < cnt+cnt then c0 (cnt+Y) else _);rw[if_pos (i6 vD)]
         rw[afx];refine Cells.once T Dt.self (zf (eg hn)) (z:=cnt+Y) (jQ (i6 vD)) (Kh _) (PY (cnt+Y) (.inr rfl)) λm7 SQ=>?_;exact aX (cX (cont m7 (SQ.keep _ _ Ax Em) (Dt.trans SQ)))
        .exact aX (cX (cont m6 Ax Dt))
       .refine cX ⟨[("symbol",vn s),("spot",vn k),("at",vn gU),("ends",vn e0),("right",.ref (g.rr r)),("rule",vn r),("left",vn px.2),("first",vn px.1),("x",vn x),("grammar",.ref g.g),("self",.ref la)],by k_in,rfl,oF,qk⟩
      .rw[decide_eq_false hse];simp only[cP,if_false];refine ⟨λhb=>by simp at hb,λ_=>?_⟩;refine cX ⟨[("symbol",vn s),("spot",vn k),("at",vn gU),("ends",vn e0),("right",.ref (g.rr r)),("rule",vn r),("left",vn px.2),("first",vn px.1),("x",vn x),("grammar",.ref g.g),("self",.ref la)],by k_in,rfl,oF,qk⟩
     .rintro L m5 ⟨rfl,vE,mG⟩;have tH:=k2 _ mG;have ku:=mG.keep _ _ la' (oJ _ _ la' (by intro xs e;cases e));lk;show kH T 27 1 "Automaton.goto";refine aA T 32 ku ?_ (hl:=f1);refine ⟨u,_,rfl,tH _ _ u1,rfl,?_⟩;lk;show Nz T o (aK hn) (yu.le tH) sm a1 i1;subst kO;exact br (by rw[eat];k_in) ⟨vE,mG⟩
    .rintro m4 ⟨oF,qk⟩;obtain ⟨a1,a2⟩:=Qv (G.ai r).length (aL _);have afy:=Z4 o lq hr0 a2;have uT:=acA a1 afy;generalize hA:G.tF px.1 r (G.ai r).length=gU at *
     rw[hD] at uT;have tG:=qk.keep _ _ la' (oJ _ _ la' (by intro xs e;cases e));have hJ:=qx.mpr uT;have SS:D[D.idxOf (gU,r)]? = some (gU,r):=by rw[aH hJ,yF hJ]
     refine gu (cF T ef.toC 33 ?_);lk;refine aA T 32 tG ?_ (hl:=f7);show eE;lk;refine ⟨by exact of_decide_eq_true rfl,λb6 vo=>?_⟩;have l6:=MH.av (o:=.tuple [vn gU,vn r]) vo;have Ko:=qk.keep _ _ hd (oJ _ _ hd (by intro xs e;cases e));show qI (k:=cR (pk (gU,r))) (l6 _ _ Ko) (MH.af _ _ _) (by rw[kI,if_pos (mX.mpr uT),sd]);rw[fG];generalize D.idxOf (gU,r)=J at hJ SS;have vF:va J=(iz cnt c0 va) (cnt+cnt+J):=by change va J=(if cnt+cnt+J < cnt+cnt then _ else va (cnt+cnt+J - (cnt+cnt)));rw[if_neg (ie eF),vO]
     rw[vF];lk;have mG:=qk.le l6;have vE:=l6 _ _ oF;obtain ⟨lz,SP,Km⟩:=mG.cell (cnt+cnt+J) (i6 hJ);have PJ:∀ l,(PF G cnt D) (cnt+cnt+J) l->x∉l->(PF G cnt D) (cnt+cnt+J) (l++[x]):=λl hp hn=>by
      refine ⟨?_,λy hy=>?_⟩
      .rw[lG];exact ⟨hp.1,by exact of_decide_eq_true rfl,λa ha b hb e=>hn (by rw[bQ] at hb;rw[<-hb,<-e];exact ha)⟩
      .rcases bN.mp hy with h | h
       .exact hp.2 y h
       .rw[bQ.mp h];refine ⟨hx,λh=>(ig h (DR eF)).elim,λ_ p hp=>?_⟩;rw[vO,SS] at hp;cases hp;rw[Px];exact hrl.symm
     refine My T (zf (eg hn)) SP (Kh _ _ Km) (λ_=>?_) λhnn=>?_
     .subst gk;exact br (by k_in) ⟨vE,mG⟩
     .subst gk;exact br (by k_in) ⟨MH.ay vE (Em _ (i6 hJ)),mG.set (i6 hJ) (PJ _ Km hnn)⟩
   .rintro m3 ⟨jd,xX⟩;subst bT;exact br (by k_in) xX
  .rintro m2 ce;ext m2;refine cX (h m2 (λy=>if hy:y < cnt+cnt+D.length then (ce.cell y hy).choose else []) (λj=>if hj:cnt+cnt+j < cnt+cnt+D.length then (ce.cell (cnt+cnt+j) hj).choose else []) ka va SN ?_ ?_ ?_ ?_)
   .intro a ob h1 h2 h3;refine ce.keep _ _ (lx _ _ h1 (by rw[bQ];exact h3)) λz hz e=>?_;change a=(if z < cnt+cnt then c0 z else va (z - (cnt+cnt))) at e;split at e
    .rename_i q;exact h2 z q e
    .rw[e,(lp.v _ (j9 hz (zg (by assumption)))).2] at h1;cases h1
   .intro y hy;have hy':y < cnt+cnt+D.length:=jQ (jQ hy);rw[dif_pos hy'];have hs:=(ce.cell y hy').choose_spec;generalize (ce.cell y hy').choose=ly at hs ⊢;clear hy';ext y ly;obtain ⟨q1,q2⟩:=hs;have vF:(iz cnt c0 va) y=c0 y:=by change (if y < cnt+cnt then c0 y else _)=_;rw[if_pos (jQ hy)]
    rw[vF] at q1;exact ⟨q1,q2.1,λx hx=>⟨(q2.2 x hx).1,(q2.2 x hx).2 hy⟩⟩
   .exact ce.keep _ _ hd (oJ _ _ hd (by intro xs e;cases e))
   .intro j p hp;have hj:=(bU.mp hp).1;have hj':cnt+cnt+j < cnt+cnt+D.length:=i6 hj;rw[dif_pos hj'];have hs:=(ce.cell _ hj').choose_spec;generalize (ce.cell _ hj').choose=ly at hs ⊢;clear hj hj';ext j p ly;obtain ⟨q1,q2⟩:=hs;have vF:(iz cnt c0 va) (cnt+cnt+j)=va j:=by
     change (if cnt+cnt+j < cnt+cnt then _ else va (cnt+cnt+j - (cnt+cnt)))=_;rw[if_neg (ie eF),vO]
    rw[vF] at q1;have kj:=lp.k j p hp;refine ⟨ce.keep _ _ kj (oJ _ _ kj (by intro xs e;cases e)),q1,q2.1,λx hx=>⟨(q2.2 x hx).1,(q2.2 x hx).3 eF p ?_⟩⟩;rw[vO];exact hp
end
end
section
noncomputable def wV (G:Gr) (it t:Nat):Prop:=∃ e,∃ y,G.dot it<=e/\((G.ai (G.aB it))[e]? = some y/\((∀ k z,G.dot it<=k->k < e->(G.ai (G.aB it))[k]? = some z->cu G z)/\gZ G y t))
theorem Za (h:mq (G.gb G.R) z x) (hf:gZ G x t):gZ G z t:=by
 induction h with
 | one x y h=>
  obtain ⟨r,hr,rfl,hy⟩:=(Gr.pB _ _ _).mp h;exact .rule r 0 y t hr hy (by simp) hf
 | more x y z h _ ih=>
  obtain ⟨r,hr,rfl,hy⟩:=(Gr.pB _ _ _).mp h;exact .rule r 0 y t hr hy (by simp) (ih hf)
theorem N4 (ha:G.aY it=some y) (hf:gZ G y t):wV G it t:=⟨G.dot it,y,aL _,ha,λk z h1 h2=>(ig h2 h1).elim,hf⟩
theorem N5 (o:G.Ok) (hi:it∈G.bV ah) (h:wV G it t):∃ k∈ah,wV G k t:=by
 ext G ah it t;rcases (Gr.wC o).mp hi with hk | ⟨r,hr,hw,rfl⟩
 .exact ⟨it,hk,h⟩
 .clear hi;ext r;obtain ⟨e,y,h1,h2,h3,h4⟩:=h;rw[Gr.jW hr (bk _)] at h1 h3;rw[Gr.fO hr (bk _)] at h2 h3;have hf:gZ G (G.aq r) t:=.rule r e y t hr h2 (λz hz=>by
   obtain ⟨k,hk,e'⟩:=qv.mp hz;exact h3 k z (zg qc) (nq hk) (by rw[aH (u9 hk),e'])) h4
  obtain ⟨k,hk,z,hz1,hz2⟩:=(Gr.wB _ _).mp hw;refine ⟨k,hk,N4 hz1 ?_⟩;rcases hz2 with hz2 | hz2
  .rw[<-hz2];exact hf
  .exact Za (zC _ _ _ _ hz2) hf
theorem Zb (hit:it < G.M) (ha:G.aY it=some y) (hn:cu G y) (h:wV G (it+1) t):wV G it t:=by
 ext G it y t;obtain ⟨r,d,hr,hd,rfl⟩:=Gr.zE hit;rw[Gr.uu hr hd] at ha;have hl:=(bU.mp ha).1;have e1:G.item r d+1=G.item r (d+1):=by unfold Gr.item;exact qV
 rw[e1] at h;ext r d;obtain ⟨e,z,h1,h2,h3,h4⟩:=h;rw[Gr.jW hr hl] at h1 h3;rw[Gr.fO hr hl] at h2 h3;refine ⟨e,z,by rw[Gr.jW hr hd];exact zf h1,by rw[Gr.fO hr hd];exact h2,λk w hk1 hk2 hw=>?_,h4⟩;rw[Gr.jW hr hd] at hk1;rw[Gr.fO hr hd] at hw;by_cases q:k=d
 .subst q;rw[ha] at hw;cases hw;exact hn
 .exact h3 k w (xy hk1 q) hk2 hw
theorem abf {G:Gr} {t:Nat} (l:List Nat):(G.tD l).testBit t=true↔t∈l/\t < G.T:=by
 ext G t l;unfold Gr.tD;have:∀ (l:List Nat) k,(l.foldl G.jc k).testBit t=true↔k.testBit t=true\/(t∈l/\t < G.T):=by
  intro l;induction l with
  | nil=>intro k;simp
  | cons a l ih=>
   intro k;rw[nV,ih];clear ih;ext a l k;unfold Gr.jc;split
   .rename_i q;rw[eV,eU,oY,decide_eq_true_eq,b8];constructor
    .rintro ((h | h) | h)
     .exact .inl h
     .exact .inr ⟨.inl h.symm,h▸q⟩
     .exact .inr ⟨.inr h.1,h.2⟩
    .rintro (h | ⟨h | h,h2⟩)
     .exact .inl (.inl h)
     .exact .inl (.inr h.symm)
     .exact .inr ⟨h,h2⟩
   .rename_i q;rw[b8];constructor
    .rintro (h | h)
     .exact .inl h
     .exact .inr ⟨.inr h.1,h.2⟩
    .rintro (h | ⟨h | h,h2⟩)
     .exact .inl h
     .exact absurd (h▸h2) q
     .exact .inr ⟨h,h2⟩
 rw[this];simp
noncomputable def Kq (G:Gr) (x t:Nat):Prop:=∃ it∈G.kr (G.gl x),wV G it t
theorem Xz {G:Gr} {cnt:Nat} {dr:Nat->Nat} {rd:Nat->List Nat} (o:G.Ok) (c:G.j4) (hc:G.dH.length=cnt) (hdr:∀ x,dr x=G.tD (G.sy (G.gl x))) (hrd:∀ x,rd x=G.nH (G.gl x) (G.sy (G.gl x))):Ak cnt rd dr (Kq G) where
 base:=λx hx t ht=>by rw[hdr,abf] at ht;obtain ⟨it,h1,h2⟩:=Gr.wD.mp ht.1;exact N5 o h1 (N4 h2 (.term t ht.2))
 step:=λx hx y hy t ht=>by
  rw[hrd] at hy;clear hdr hrd;ext G cnt dr rd x y t;unfold Gr.nH at hy;obtain ⟨s,hs,rfl⟩:=aQ.mp hy;clear hy;ext s;obtain ⟨h1,h2⟩:=fE.mp hs;rw[lH,decide_eq_true_eq] at h2;have vC:=Gr.Ig c (show x < G.dH.length by exact dN hx hc);have htr:=C4 vC h1 h2.1;obtain ⟨y1,y2⟩:=Gr.HF htr;have Bg:G.pr (G.oH (G.gl x) s)=(G.gl x,s):=by have:=Gr.Ac y1;rw[y2] at this;exact (c8 this).symm
  have hgy:G.gl (G.oH (G.gl x) s)=G.go (G.gl x) s:=by change G.go (G.pr (G.oH (G.gl x) s)).1 (G.pr (G.oH (G.gl x) s)).2=_;rw[Bg]
  obtain ⟨it,k1,k2⟩:=ht;rw[hgy,Gr.Ib c vC h1] at k1;obtain ⟨i,i1,i2,rfl⟩:=Gr.wF.mp k1;exact N5 o i1 (Zb (Gr.jK o (Gr.mS o vC).1 i i1) i2 (Gr.uA.mp h2.2) k2)
theorem Yk (o:G.Ok) (c:G.j4) (hx:x < G.dH.length) (h:Kq G x t):fP G (G.pr x).2 t:=by
 ext G x t;obtain ⟨g1,g2,g3⟩:=Gr.C3 hx;obtain ⟨it,k1,k2⟩:=h;have e:G.gl x=G.go (G.pr x).1 (G.pr x).2:=rfl;rw[e,Gr.Ib c g1 g2] at k1;ext it;obtain ⟨i,i1,i2,rfl⟩:=Gr.wF.mp k1;have hit:=Gr.jK o (Gr.mS o g1).1 i i1;obtain ⟨r,d,hr,hd,rfl⟩:=Gr.zE hit;rw[Gr.uu hr hd] at i2;have hl:=(bU.mp i2).1;have e1:G.item r d+1=G.item r (d+1):=by unfold Gr.item;exact qV
 rw[e1] at k2;clear hd i1 k1 hit e1;ext r d;obtain ⟨e,z,h1,h2,h3,h4⟩:=k2;rw[Gr.jW hr hl] at h1 h3;rw[Gr.fO hr hl] at h2 h3;exact .first r d e _ z t hr i2 h1 h2 (λk w hk1 hk2 hw=>h3 k w hk1 hk2 hw) h4
theorem Yl {G:Gr} {cnt:Nat} {f1:Nat->Nat} {inc:Nat->List Nat} (hf:∀ x,x < cnt->∀ t,(f1 x).testBit t=true->fP G (G.pr x).2 t) (hi:∀ y,y < cnt->∀ x∈inc y,G.Dg y x):Ak cnt inc f1 (λx t=>fP G (G.pr x).2 t) where
 base:=hf
 step:=λy hy x hx t ht=>by obtain ⟨r,d,h1,h2,h3,h4⟩:=hi y hy x hx;exact .up r d _ t h1 h3 h4 (by rw[h2];exact ht)
theorem CB (h:fP G x t):t < G.T:=by
 induction h with
 | first r d e x y t _ _ _ _ _ h=>exact ZV h
 | up _ _ _ _ _ _ _ _ ih=>exact ih
theorem Hs (ad:Nat->Addr) (val:Nat->V):∀ (l:List (List Nat)) (j i:Nat),(dG ad val j l)[i]? = (l[i]?).map λk=>(cR k,ad (j+i),val (j+i))
 | [],j,i=>by rfl
 | a::r,j,0=>by rfl
 | a::r,j,i+1=>by dsimp only[CA];rw[rI,rI,Hs ad val r (j+1) i,show j+1+i=j+(i+1) by exact ir]
namespace Gr
variable {G:Gr}
theorem Gi (o:G.Ok) (h1:∀ it∈ah,it < G.M) (h2:ah.Nodup):(G.dJ ah).Nodup:=by
 ext G ah;unfold dJ;show qD;unfold jo;refine mL (v9 (wj h2 o)) λx hx y hy e=>?_;obtain ⟨Kg,vm⟩:=fE.mp hx;obtain ⟨hy1,gh⟩:=fE.mp hy;have bx:=jK o h1 x Kg;have by_:=jK o h1 y hy1;simp only[lH,decide_eq_true_eq] at vm gh;have dx:G.dot x=(G.ai (G.aB x)).length:=by have h1:=vm.1;unfold aY at h1;rw[yw] at h1;have:=jY bx;exact kT this h1
 have dy:G.dot y=(G.ai (G.aB y)).length:=by have h1:=gh.1;unfold aY at h1;rw[yw] at h1;have:=jY by_;exact kT this h1
 rw[<-jJ bx,<-jJ by_,dx,dy,e]
theorem Ym (o:G.Ok):G.bI.Nodup:=by
 ext G;change (G.jq G.nK).Nodup;unfold jq Nh;rw[UX];refine ⟨λi hi=>?_,(Mi).imp λ{a b} hne x hx y hy e=>hne ?_⟩
 .have hi:i < G.nK:=by simpa using hi
  exact mL (Gi o (mS o hi).1 (mR (mS o hi).2)) λx _ y _ e=>(ug e).2
 .obtain ⟨_,_,rfl⟩:=aQ.mp hx;obtain ⟨_,_,rfl⟩:=aQ.mp hy;exact (ug e).1
theorem acD {L:List (Nat×Nat)} {i:Nat} {p:Nat×Nat} (h:L.Nodup) (hp:L[i]? = some p):L.idxOf p=i:=by obtain ⟨h1,h2⟩:=bU.mp hp;rw[<-h2];exact h.idxOf_getElem i h1
end Gr
end
section
noncomputable def qM (m:MH) (b:Addr) (D:List (Nat×Nat)) (mk:Nat->Nat):Prop:=
 ∃ ka ep,m b=some (.bE (dG ka (λj=>vn (mk j)) 0 (D.map pk)) ep)/\∀ j p,D[j]? = some p->m (ka j)=some (.tuple [vn p.1,vn p.2])
theorem qM.le (h:qM m b D mk) (hl:m.le m'):qM m' b D mk:=by obtain ⟨ka,ep,h1,h2⟩:=h;exact ⟨ka,ep,hl _ _ h1,λj p hp=>hl _ _ (h2 j p hp)⟩
theorem Z5 {ad:Nat->Addr} {val:Nat->V} {D:List (Nat×Nat)} {i:Nat} (h:i < D.length):((dG ad val 0 (D.map pk)).getD i ([],0,.none)).2.1=ad i:=by rw[bM,Hs,bH,aH h,fG];rfl
section
variable {C:Cx} {A:TA} {n:Nat} {m:MH} {Q:V->MH->Prop} {g:GA} {G:Gr} {u:Addr} {ad:Nat->SA}
theorem XA {cnt:Nat} {D:List (Nat×Nat)} {la lb fm:Addr} {fs:List (Str×V)} {iM:Nat->List Nat} {ka va:Nat->Addr} {ep:Nat} {f2:Nat->Nat} (T:aS C A) (hn:1<=n) (gM:cnt<=10000) (hD:D.Nodup) (hDl:D.length<=10000) (hla:m la=some (.inst (A.cls 32) fs)) (g1:fs.lookup ("lookback" : Str)=some (.ref lb)) (g2:fs.lookup ("follow_masks" : Str)=some (.ref fm)) (hlb:m lb=some (.bE (dG ka (λj=>.ref (va j)) 0 (D.map pk)) ep)) (hj:∀ j p,D[j]? = some p->m (ka j)=some (.tuple [vn p.1,vn p.2])/\m (va j)=some (.list ((iM j).map vn))/\(iM j).Nodup/\∀ x∈iM j,x < cnt) (hfm:m fm=some (.list ((aj cnt).map λx=>vn (f2 x)))) (h:∀ m' b,m.le m'->m b=none->qM m' b D (λj=>(iM j).foldl (λk x=>k ||| f2 x) 0)->Q (.ref b) m'):FC C (A.bZ 32 5) n [.ref la] m Q:=by
 ext C A n m Q cnt D la lb fm fs iM ka va ep f2;refine dX T 32 5 "joined_masks" "Lookaheads.joined_masks" ["self"] hn rfl (λenv ef=>?_) (by walk_at "bd1");k_is;ext env;show fN (ef.store ⋯);refine qH (.bE [] 0) (.inr (.inl rfl)) λmo hmo=>?_;have l0:∀ ob,m.le (m.set mo ob):=λob=>MH.av hmo;ext mo;refine pH (Z3 T.sys ?_);refine aA T 32 (l0 _ _ _ hla) ?_ (hl:=g1);refine ⟨lb,_,_,rfl,l0 _ _ _ hlb,?_⟩;rw[wA,ak];refine ⟨λ_=>[("masks",.ref mo),("self",.ref la)],λi mm=>m.le mm/\∃ cI,mm mo=some (.bE (dG ka (λj=>vn ((iM j).foldl (λk x=>k ||| f2 x) 0)) 0 ((D.take i).map pk)) cI),by k_in,⟨l0 _,0,MH.af _ _ _⟩,λi mm hp=>hp.1 _ _ hlb,?_,?_⟩
 .rintro i mm hi aG;ext i mm;show bO;intro QQ bP;ext QQ;obtain ⟨p1,cI,p2⟩:=aG;ext cI;refine cy (w:=.ref (ka i)) (congrArg V.ref (Z5 hi)) (aM (ef.store ⋯) ?_);have Kr:D[i]? = some D[i]:=aH hi;have hmem:=cW hi;have hidx:=Gr.acD hD Kr;have uS:D[i]∉D.take i:=λhm=>by
   obtain ⟨q,hq,e⟩:=qv.mp hm;exact (qw.mp hD) q i (u9 hq) hi (nq hq) e
  have cD:D.take (i+1)=D.take i++[D[i]]:=take_snoc Kr;obtain ⟨q1,q2,q3,q4⟩:=hj i _ Kr;generalize D[i]=p at *
  have q3l:=jM q3 q4;lk;refine dw (λj=>[("mask",vn (((iM i).take j).foldl (λk x=>k ||| f2 x) 0)),("pair",.ref (ka i)),("masks",.ref mo),("self",.ref la)]) (λj aF=>aF=mm) (cC vn (iM i) ?_);lk;refine aA T 32 (p1 _ _ hla) ?_ (hl:=g1);lk;show qI (k:=cR (pk p)) (p1 _ _ hlb) (p1 _ _ q1) (by rw[kI,if_pos (mX.mpr hmem),sd,hidx,fG]);refine ⟨va i,rfl,p1 _ _ q2,by k_in,rfl,λj aF e=>e▸p1 _ _ q2,?_,?_⟩
  .rintro j aF hjl rfl;clear p2;ext j aF;show bO;intro QQ bT;refine cy (getD_map hjl) (aM (ef.store ⋯) ?_);have hx:=q4 _ (cW hjl);have et:((iM i).take (j+1)).foldl (λk x=>k ||| f2 x) 0=((iM i).take j).foldl (λk x=>k ||| f2 x) 0 ||| f2 (iM i)[j]:=by rw[take_snoc (aH hjl),jh];rfl
   lk;refine aA T 32 (p1 _ _ hla) ?_ (hl:=g2);lk;show aJ (p1 _ _ hfm) (aW _ hx) (by rw[ak,aN];exact zm gM (ao rfl));show lX;subst bT;exact br (by rw[et];k_in) rfl
  .rintro aF rfl
   try dsimp only
   rw[dW];walk_at "set";lk;refine zR (k:=cR (pk p)) p2 (p1 _ _ q1) (by rw[wA,ak];have:=rK i D;exact zm this (zm hDl (ao rfl))) λgw=>?_;rw[zK (by rw[kI,if_neg (λh=>uS (mX.mp h))])];subst bP;refine br (by k_in) ⟨p1.set hmo,gw,?_⟩;rw[MH.af,cD,aV,yG,yW,ak,fG,List.length_take_of_le (fy hi)]
 .rintro mm ⟨p1,cI,p2⟩;rw[dW] at p2;lk;exact h mm mo p1 hmo ⟨ka,cI,p2,λj p hp=>p1 _ _ (hj j p hp).1⟩
theorem Gj (ef:fZ env dD) (ok:qK dD sc) (hz:sc.names.lookup z=some .local) (hzf:z∉freeNames sc) (hk:xs.length=k) (dQ:k<=2 ^ 20)
  (h:WE C n env iter loc m λv m1=>v=.ref ta/\m1=m/\m ta=some (.list xs))
  (hQ:∀ m' b (us:Nat->Addr),m.le m'->m b=none->m' b=some (.list ((aj k).map λy=>.ref (us y)))->(∀ y,y < k->m' (us y)=some (.list [])/\m (us y)=none/\us y≠b)->(∀ y w,y < k->w < k->us y=us w->y=w)->Q (.ref b) m')
  (hs:∀ x,foldedSetIterable iter env x=pure x:=by walk_at "ir"):WE C n env (.ListComp (.List [] pe) [⟨.Name z pz,iter,[],0⟩] sc pos) loc m Q:=by
 ext C n m Q dD sc env loc iter z pz pe pos k xs ta;refine wJ ef ok (uy (h.mono λv m1 ⟨e1,e2,e3⟩=>?_)) hs;ext v m1;subst e1 e2;refine ⟨ta,xs,rfl,e3,dm hk dQ,λi acc mm=>∃ us:Nat->Addr,acc=(aj i).map (λz=>V.ref (us z))/\m1.le mm/\(∀ z,z < i->mm (us z)=some (.list [])/\m1 (us z)=none)/\∀ z w,z < i->w < i->us z=us w->z=w,
  ⟨λ_=>0,rfl,λ_ _ q=>q,λz hz=>(kc hz).elim,λz w hz=>(kc hz).elim⟩,λi acc mm z_=>by obtain ⟨_,_,hl,_,_⟩:=z_;exact hl _ _ e3,?_,?_⟩
 .rintro cenv ec i acc mm hi ⟨us,rfl,hl,hu,hj⟩;ext cenv i mm us;refine aM (ec.store hz) ⟨jI hzf,?_⟩;simp only[zZ,if_true];refine bR (cM ⟨by simp,λe he=>?_⟩);ext e;refine ⟨λz=>if z=i then e else us z,zL (λx hx=>by simp only[show ¬ x=i by exact kU hx,if_false]) (by simp only[if_true]),hl.trans (MH.av he),λz hz=>?_,λz w hz hw=>?_⟩
  .by_cases q:z=i
   .subst q;simp only[if_true];exact ⟨MH.af _ _ _,hl.new he⟩
   .simp only[q,if_false];obtain ⟨q1,q2⟩:=hu z (cY hz q);exact ⟨MH.ay q1 (MH.aE q1 he),q2⟩
  .by_cases q:z=i<;>by_cases q':w=i
   .walk_at "n"
   .simp only[q,q',if_true,if_false];intro ee;have:=(hu w (cY hw q')).1;rw[<-ee,he] at this;cases this
   .simp only[q,q',if_true,if_false];intro ee;have:=(hu z (cY hz q)).1;rw[ee,he] at this;cases this
   .simp only[q,q',if_false];exact hj z w (cY hz q) (cY hw q')
 .rintro acc mm ⟨us,rfl,hl,hu,hj⟩ b hb;rw[hk] at hu hj ⊢;exact hQ _ b us (hl.trans (MH.av hb)) (hl.new hb) (MH.af _ _ _) (λy hy=>⟨MH.ay (hu y hy).1 (MH.aE (hu y hy).1 hb),(hu y hy).2,λe=>by have:=(hu y hy).1;rw[e,hb] at this;cases this⟩) hj
noncomputable def IW (G:Gr) (m:MH) (fa mo:Addr) (val:Nat×Nat->Nat) (mm:MH) (L:List (Nat×Nat)):Prop:=m.le mm/\mm fa=some (.list ((aj G.N).map λy=>vn (G.i9 y)))/\∃ (ka:Nat->Addr) (ep:Nat),mm mo=some (.bE (dG ka (λj=>vn (val (L.getD j (0,0)))) 0 (L.map pk)) ep)/\∀ j p,L[j]? = some p->mm (ka j)=some (.tuple [vn p.1,vn p.2])
theorem Z6 (T:aS C A) (o:G.Ok) (sm:G.Small) (hn:7<=n) (xg:cU A m g G) (xu:kK A m g G u ad)
  (h:∀ m' b,m.le m'->m b=none->qM m' b G.bI (λj=>G.i9 (G.aq (G.bI.getD j (0,0)).2))->Q (.ref b) m'):FC C (A.f 35) n [.ref u] m Q:=by
 have hN:=Gr.N8 o;have hR:=o.r5;have hdl:=Gr.CI o sm;clear hdl;ext C A n m Q g G u ad;obtain ⟨bl,u1,u2,u3⟩:=id xu;refine eG T 35 "slr_masks" ["automaton"] (eW hn) rfl (λenv ef=>?_) (by walk_at "bd1");k_is;lk;ext env;show cF T ef.toC 18;lk;show aA T 27 u1;lk;refine Vt T o xg (zf (eg hn)) λm1 fa l1 afz jw=>?_;clear afz;ext m1 fa;show fN (ef.store ⋯);refine qH (.bE [] 0) (.inr (.inl rfl)) λmo hmo=>?_;have l2:=l1.trans (MH.av (o:=.bE [] 0) hmo);have Qw:=l1.new hmo;have Bd:=MH.ay (o':=.bE [] 0) jw (MH.aE jw hmo);have SV:=MH.af m1 mo (.bE [] 0);generalize m1.set mo (.bE [] 0)=m2 at l2 Bd SV ⊢;clear hmo;ext mo m2;obtain ⟨val,hval⟩:∃ val:Nat×Nat->Nat,val=λp=>G.i9 (G.aq p.2):=⟨_,rfl⟩;ext val;refine dw (λ_=>[("masks",.ref mo),("follows",.ref fa),("automaton",.ref u)]) (λi mm=>IW G m fa mo val mm (G.jq i)) (cC (λi=>V.ref (ad i).s) (aj G.nK) ?_);show aA T 27 (l2 _ _ u1);refine ⟨bl,rfl,l2 _ _ u2,by k_in,⟨l2,Bd,λ_=>0,0,SV,λj p hp=>by cases hp⟩,λi mm hp=>hp.1 _ _ u2,?_,?_⟩
 .rintro i mm hi hI;ext i mm;show bO;intro QQ bP;rw[aN] at hi;ext QQ;refine cy (qO _ hi) (aM (ef.store ⋯) ?_);have st:=u3 i hi;obtain ⟨it,rd,s1,s2,s3⟩:=st.inst;have Kd:(G.jq i).length<=4000:=aer hi (Gr.G0 o sm i (zf hi)) (Gr.uJ sm);have hrl:(G.dJ (G.kr i)).length<=40:=Gr.GZ o (Gr.wo o (Gr.kE o 200) hi);have Kf:=Gr.Gi o (Gr.mS o hi).1 (Gr.mR (Gr.mS o hi).2);have hRR:∀ r∈G.dJ (G.kr i),r < G.R:=λr hr=>by
   obtain ⟨it,h1,_,_,rfl⟩:=Gr.CH.mp hr;exact Gr.iU (Gr.jK o (Gr.mS o hi).1 it h1)
  change m rd=some (.list ((G.dJ (G.kr i)).map vn)) at s3;have Ke:=Gr.GF (G:=G) i;have uS:∀ r,(i,r)∉G.jq i:=λr hm=>by have:=(Gr.GY.mp hm).1;exact absurd this (uc _)
  generalize Ej:G.dJ (G.kr i)=RK at *
  generalize Ek:G.jq i=DU at *
  clear s2 Ej Ek;ext it rd RK DU;refine dw (λ_=>[("state",.ref (ad i).s),("masks",.ref mo),("follows",.ref fa),("automaton",.ref u)]) (λj aF=>IW G m fa mo val aF (DU++(RK.take j).map λr=>(i,r))) (cC vn RK ?_);show gY T 22;lk;refine ⟨_,_,_,rfl,hI.1 _ _ s1,rfl,?_⟩;refine ⟨rd,rfl,hI.1 _ _ s3,by k_in,by simpa using hI,λj aF hp=>hp.1 _ _ s3,?_,?_⟩
  .rintro j aF hj aG;ext j aF;show bO;intro QQ bT;ext QQ;obtain ⟨p1,p2,ka,ep,p3,p4⟩:=aG;ext ka ep;refine cy (getD_map hj) (aM (ef.store ⋯) ?_);have cD:=take_snoc (aH hj);have lq:=hRR _ (cW hj);have hni:(i,RK[j])∉DU++(RK.take j).map λr=>(i,r):=λhm=>by
    rcases bN.mp hm with h | h
    .exact uS _ h
    .obtain ⟨r,hr,e⟩:=aQ.mp h;have e2:r=RK[j]:=(ug e).2;obtain ⟨q,hq,e3⟩:=qv.mp hr;exact (qw.mp Kf) q j (u9 hq) hj (nq hq) (e3.trans e2)
   have hlen:(DU++(RK.take j).map λr=>(i,r)).length<=5000:=by rw[cQ,ak];have:=rK j RK;exact PX hrl Kd this
   have eL:DU++(RK.take (j+1)).map (λr=>(i,r))=(DU++(RK.take j).map λr=>(i,r))++[(i,RK[j])]:=by rw[cD,aV,gX];rfl
   generalize hr0:RK[j]=r at *
   generalize hL:DU++(RK.take j).map (λr=>(i,r))=L at *
   have hnew:lY (dG ka (λj=>vn (val (L.getD j (0,0)))) 0 (L.map pk)) (cR (pk (i,r)))=none:=by rw[kI,if_neg (λh=>hni (mX.mp h))]
   have Ku:=xg.le p1;revert hj;ext r L;intro hj hr0;obtain ⟨lv,d9⟩:=Ku.rule;have iK:=Gr.qL o lq;walk_at "set";lk;show gY T 8;lk;show gY T 9;show aA T 27 (p1 _ _ u1);refine ⟨_,_,_,rfl,Ku.self,rfl,?_⟩;lk;show aJ Ku.rules (aW _ lq) (by rw[ak,aN];exact zm hR (ao rfl));refine ⟨_,_,_,rfl,d9 r lq,rfl,?_⟩;show aJ p2 (aW _ iK) (by rw[ak,aN];exact zm hN (ao rfl));lk;show eE;lk;show aA T 22 (p1 _ _ s1);lk;refine ⟨by exact of_decide_eq_true rfl,λb2 hb2=>?_⟩;have l6:=MH.av (o:=.tuple [vn i,vn r]) hb2;have afA:mo≠b2:=MH.aE p3 hb2;refine zR (k:=cR (pk (i,r))) (l6 _ _ p3) (MH.af _ _ _) (by rw[wA,ak];exact zm hlen (ao rfl)) λgw=>?_;rw[zK hnew];have hfm:fa≠mo:=λe=>by rw[e,p3] at p2;cases p2
   clear hb2;ext b2 gw;subst bT;refine br (by k_in) ⟨(p1.trans l6).set Qw,MH.ay (l6 _ _ p2) hfm,λx=>if x=L.length then b2 else ka x,gw,?_,λx p hp=>?_⟩
   .rw[MH.af,eL,aV,yG,yW,ak,fG];simp only[if_true];have ev:vn (val ((L++[(i,r)]).getD L.length (0,0)))=vn (G.i9 (G.aq r)):=by
     rw[bM,oQ (aL _),MO,hval];rfl
    rw[ev];exact congrArg (λl=>some (O.bE (l++[(cR (pk (i,r)),b2,vn (G.i9 (G.aq r)))]) gw)) (Gg λx h1 h2=>by
     rw[ak] at h2;have h3:x < L.length:=by exact PV h2
     simp only[show ¬ x=L.length by exact kU h3,if_false];refine ⟨trivial,?_⟩;rw[bM,bM,jT h3])
   .by_cases gT:x < L.length
    .rw[eL,jT gT] at hp;have h1:=p4 x p hp;simp only[show ¬ x=L.length by exact kU gT,if_false];rw[MH.aC (λe=>by rw[e,p3] at h1;cases h1)];exact l6 _ _ h1
    .rw[eL] at hp;have Bk:x=L.length:=by
      have:=(bU.mp hp).1;rw[cQ] at this;simp at this;exact ow this gT
     subst Bk;rw[oQ (aL _)] at hp;simp at hp;subst hp;simp only[if_true];exact MH.ay (MH.af _ _ _) afA.symm
  .rintro aF hI';rw[dW] at hI';subst bP;exact br (by k_in) (by rw[Ke];exact hI')
 .rintro mm ⟨p1,p2,ka,ep,p3,p4⟩;rw[aN] at p3 p4;lk;refine h mm mo p1 Qw ⟨ka,ep,?_,p4⟩;rw[p3,hval];rfl
end
end
section
theorem bz {m:MH} {la c:Addr} {fs fs':Loc} {a:Addr} {ob:O} (h:m la=some (.inst c fs)) (ha:m a=some ob) (hn:∀ c fs,ob≠.inst c fs):(m.set la (.inst c fs')) a=some ob:=by refine MH.ay ha λe=>?_;rw[e,h] at ha;exact hn _ _ (c8 ha).symm
theorem bX:∀ c fs,O.list xs≠.inst c fs:=λ_ _ e=>by cases e
theorem En:∀ c fs,O.tuple xs≠.inst c fs:=λ_ _ e=>by cases e
theorem xZ:∀ c fs,O.bE es ep≠.inst c fs:=λ_ _ e=>by cases e
theorem k9.inst {m0 m:MH} {tl xl la c:Addr} {ta:Nat->Addr} {L:List (Nat×Nat)} {fs fs':Loc} (h:k9 m0 m tl xl ta L) (hla:m la=some (.inst c fs)):k9 m0 (m.set la (.inst c fs')) tl xl ta L:=
 ⟨bz hla h.t bX,λx p q=>bz hla (h.tt x p q) En,let ⟨ka,ep,q⟩:=h.x;⟨ka,ep,bz hla q xZ⟩⟩
section
variable {C:Cx} {A:TA} {n:Nat} {m:MH} {Q:V->MH->Prop} {g:GA} {G:Gr} {u:Addr} {ad:Nat->SA}
theorem VZ {la:Addr} (T:aS C A) (o:G.Ok) (sm:G.Small) (c:G.j4) (hn:6<=n) (xg:cU A m g G) (xu:kK A m g G u ad) (hla:m la=none) (h:∀ m' b fs (mk:Nat->Nat),m.le m'->m b=none->m' la=some (.inst (A.cls 32) fs)->fs.lookup ("masks" : Str)=some (.ref b)->qM m' b G.bI mk->(∀ j p,G.bI[j]? = some p->∀ t,(mk j).testBit t=true->fP G (G.aq p.2) t)->Q .none m') :
  FC C (A.bZ 32 0) n [.ref la,.ref u] (m.set la (.inst (A.cls 32) [])) Q:=by
 have eN:=Gr.Hr o sm;have hdl:=Gr.CI o sm;ext C A n m Q g G u ad la;obtain ⟨bl,u1,u2,u3⟩:=id xu;refine dX T 32 0 "__init__" "Lookaheads.__init__" ["self","automaton"] (eW hn) rfl (λenv ef=>?_) (by walk_at "bd2");k_is;ext env;show b7 T 32;lk;refine ⟨la,_,rfl,MH.af _ _ _,by simp,?_⟩;have e1:cj "automaton" (.ref u) ([]:Loc)=([("automaton",.ref u)]:Loc):=rfl;rw[e1,MH.set_set];have jb:m.le (m.set la (.inst (A.cls 32) [("automaton",.ref u)])):=MH.av hla;have SW:=MH.af m la (.inst (A.cls 32) [("automaton",.ref u)]);generalize m.set la (.inst (A.cls 32) [("automaton",.ref u)])=m1 at jb SW ⊢;ext m1;show b7 T 32;show cF T ef.toC 15;lk;show aA T 27 (jb _ _ u1);lk;refine FJ T o (xg.le jb) (aK (bK hn)) λm2 na l2 na0 hna=>?_;have El:=l2 _ _ SW;lk;clear na0;ext m2 na;refine ⟨la,_,rfl,El,by exact of_decide_eq_true rfl,?_⟩;have e2:cj "nullables" (.ref na) ([("automaton",.ref u)]:Loc)=([("automaton",.ref u),("nullables",.ref na)]:Loc):=rfl;rw[e2];have mF:=(jb.trans l2).set (o:=.inst (A.cls 32) [("automaton",.ref u),("nullables",.ref na)]) hla;have xY:=MH.af m2 la (.inst (A.cls 32) [("automaton",.ref u),("nullables",.ref na)]);have qi:=bz (fs':=[("automaton",.ref u),("nullables",.ref na)]) El hna bX;generalize m2.set la (.inst (A.cls 32) [("automaton",.ref u),("nullables",.ref na)])=m3 at mF xY qi ⊢;ext m3;show b7 T 32;refine bR (cM ⟨by simp,λtl Du=>?_⟩);have SX:=mF.new Du;have Qx:na≠tl:=MH.aE qi Du;have IF:=MH.ay (o':=.list []) xY (MH.aE xY Du);lk;ext tl;refine ⟨la,_,rfl,IF,by exact of_decide_eq_true rfl,?_⟩;have e3:cj "transitions" (.ref tl) ([("automaton",.ref u),("nullables",.ref na)]:Loc)=([("automaton",.ref u),("nullables",.ref na),("transitions",.ref tl)]:Loc):=rfl;rw[e3];have oK:=(mF.trans (MH.av (o:=.list []) Du)).set (o:=.inst (A.cls 32) [("automaton",.ref u),("nullables",.ref na),("transitions",.ref tl)]) hla;have Kv:=bz (fs':=[("automaton",.ref u),("nullables",.ref na),("transitions",.ref tl)]) IF (MH.ay qi Qx) bX;have Kw:=bz (fs':=[("automaton",.ref u),("nullables",.ref na),("transitions",.ref tl)]) IF (MH.af _ tl (.list [])) bX;have tG:=MH.af (m3.set tl (.list [])) la (.inst (A.cls 32) [("automaton",.ref u),("nullables",.ref na),("transitions",.ref tl)]);generalize (m3.set tl (.list [])).set la (.inst (A.cls 32) [("automaton",.ref u),("nullables",.ref na),("transitions",.ref tl)])=m4 at oK tG Kv Kw ⊢;ext m4;show b7 T 32;refine qH (.bE [] 0) (.inr (.inl rfl)) λxl Az=>?_;have SY:=oK.new Az;have Dv:=MH.ay (o':=.bE [] 0) tG (MH.aE tG Az);lk;ext xl;refine ⟨la,_,rfl,Dv,by exact of_decide_eq_true rfl,?_⟩;have e4:cj "index" (.ref xl) ([("automaton",.ref u),("nullables",.ref na),("transitions",.ref tl)]:Loc)=([("automaton",.ref u),("nullables",.ref na),("transitions",.ref tl),("index",.ref xl)]:Loc):=rfl;rw[e4];have tH:=(oK.trans (MH.av (o:=.bE [] 0) Az)).set (o:=.inst (A.cls 32) [("automaton",.ref u),("nullables",.ref na),("transitions",.ref tl),("index",.ref xl)]) hla;have Eo:=bz (fs':=[("automaton",.ref u),("nullables",.ref na),("transitions",.ref tl),("index",.ref xl)]) Dv (MH.ay Kv (MH.aE Kv Az)) bX;have Ky:=bz (fs':=[("automaton",.ref u),("nullables",.ref na),("transitions",.ref tl),("index",.ref xl)]) Dv (MH.ay Kw (MH.aE Kw Az)) bX;have Ep:=bz (fs':=[("automaton",.ref u),("nullables",.ref na),("transitions",.ref tl),("index",.ref xl)]) Dv (MH.af _ xl (.bE [] 0)) xZ;have ku:=MH.af (m4.set xl (.bE [] 0)) la (.inst (A.cls 32) [("automaton",.ref u),("nullables",.ref na),("transitions",.ref tl),("index",.ref xl)]);generalize (m4.set xl (.bE [] 0)).set la (.inst (A.cls 32) [("automaton",.ref u),("nullables",.ref na),("transitions",.ref tl),("index",.ref xl)])=m5 at tH ku Eo Ky Ep ⊢;ext m5;refine gu (cG T 32 1 "Lookaheads.number_transitions" ku ?_);lk;refine Yi T o sm (aK (bK hn)) (xg.le tH) (xu.le tH) ku rfl rfl rfl Ky Ep ⟨m,tH,xg,xu,SX,SY⟩ λm6 ta l6 S0=>?_;have S1:m.le m6:=λa ob h1=>l6 _ _ (tH _ _ h1) (by
  rw[gv];rintro (e | e)<;>rw[e] at h1
  .rw[SX] at h1;cases h1
  .rw[SY] at h1;cases h1)
 have laS:la∉[tl,xl]:=by
  rw[gv];rintro (e | e)<;>rw[e] at ku
  .rw[Ky] at ku;cases ku
  .rw[Ep] at ku;cases ku
 have xW:=l6 _ _ ku laS;have S2:=l6 _ _ Eo (by
  rw[gv];rintro (e | e)
  .exact Qx e
  .rw[e,Ep] at Eo;cases Eo)
 clear l6;ext m6 ta;show b7 T 32;refine bR (cM ⟨by simp,λdl Dw=>?_⟩);have S3:=S1.new Dw;have Qy:na≠dl:=MH.aE S2 Dw;have Qz:tl≠dl:=MH.aE S0.t Dw;have Er:=MH.av (o:=.list []) Dw;have Dy:=Er _ _ xW;lk;ext dl;refine ⟨la,_,rfl,Dy,by exact of_decide_eq_true rfl,?_⟩;have e5:cj "direct" (.ref dl) ([("automaton",.ref u),("nullables",.ref na),("transitions",.ref tl),("index",.ref xl)]:Loc)=([("automaton",.ref u),("nullables",.ref na),("transitions",.ref tl),("index",.ref xl),("direct",.ref dl)]:Loc):=rfl;rw[e5];obtain ⟨F7,vG⟩:∃ F:Loc,F=([("automaton",.ref u),("nullables",.ref na),("transitions",.ref tl),("index",.ref xl),("direct",.ref dl)]:Loc):=⟨_,rfl⟩;rw[<-vG];have Kz:=(S1.trans Er).set (o:=.inst (A.cls 32) F7) hla;have KA:=bz (fs':=F7) Dy (Er _ _ S2) bX;have KC:=(S0.le Er).inst (fs':=F7) Dy;have KD:=bz (fs':=F7) Dy (MH.af m6 dl (.list [])) bX;have S4:=MH.af (m6.set dl (.list [])) la (.inst (A.cls 32) F7);generalize (m6.set dl (.list [])).set la (.inst (A.cls 32) F7)=m7 at Kz S4 KA KC KD ⊢;ext F7 m7;show b7 T 32;refine bR (cM ⟨by simp,λrl AA=>?_⟩);have Es:=Kz.new AA;have QC:na≠rl:=MH.aE KA AA;have QD:tl≠rl:=MH.aE KC.t AA;have afB:dl≠rl:=MH.aE KD AA;have Bm:=MH.av (o:=.list []) AA;have AB:=Bm _ _ S4;lk;ext rl;refine ⟨la,_,rfl,AB,by rw[vG];exact of_decide_eq_true rfl,?_⟩;obtain ⟨F8,kB⟩:∃ F:Loc,F=([("automaton",.ref u),("nullables",.ref na),("transitions",.ref tl),("index",.ref xl),("direct",.ref dl),("reads",.ref rl)]:Loc):=⟨_,rfl⟩;rw[show cj "reads" (.ref rl) F7=F8 by rw[vG,kB];rfl];have KG:=(Kz.trans Bm).set (o:=.inst (A.cls 32) F8) hla;have KH:=bz (fs':=F8) AB (Bm _ _ KA) bX;have Bo:=(KC.le Bm).inst (fs':=F8) AB;have Et:=bz (fs':=F8) AB (Bm _ _ KD) bX;have Eu:=bz (fs':=F8) AB (MH.af m7 rl (.list [])) bX;have rB:=MH.af (m7.set rl (.list [])) la (.inst (A.cls 32) F8);generalize (m7.set rl (.list [])).set la (.inst (A.cls 32) F8)=m8 at KG rB KH Bo Et Eu ⊢;ext F8 m8;refine gu (cG T 32 2 "Lookaheads.find_reads" rB ?_ (hl:=by rw[kB];rfl));lk;obtain ⟨dr,hdr⟩:∃ dr:Nat->Nat,∀ x,dr x=G.tD (G.sy (G.gl x)):=⟨_,λ_=>rfl⟩;ext dr;obtain ⟨rd,hrd⟩:∃ rd:Nat->List Nat,∀ x,rd x=G.nH (G.gl x) (G.sy (G.gl x)):=⟨_,λ_=>rfl⟩;ext rd;refine Yj (dr:=dr) (rd:=rd) T o sm c (aK (bK hn)) hdr hrd rB (by rw[kB];rfl) (by rw[kB];rfl) (by rw[kB];rfl) (by rw[kB];rfl) (by rw[kB];rfl) (by rw[kB];rfl) ⟨Bo.t,Bo.tt,Bo.x⟩ KH Et Eu ⟨Qy,QC,Qz,QD,afB⟩ ⟨m,KG,xg,xu,S3,Es⟩ λm9 ra l9 KI KJ KL=>?_;have KN:m.le m9:=λa ob h1=>l9 _ _ (KG _ _ h1) (by
  rw[gv];rintro (e | e)<;>rw[e] at h1
  .rw[S3] at h1;cases h1
  .rw[Es] at h1;cases h1)
 have S5:=l9 _ _ rB (by
  rw[gv];rintro (e | e)<;>rw[e] at rB
  .rw[Et] at rB;cases rB
  .rw[Eu] at rB;cases rB)
 have S6:=l9 _ _ KH (by rw[gv];exact λe=>e.elim Qy QC);have S7:=Bo.bF l9 (λa ha=>by
  rw[gv] at ha;rcases ha with rfl | rfl
  .exact ⟨_,Et⟩
  .exact ⟨_,Eu⟩) (by rw[gv];exact λe=>e.elim Qz QD)
 have OL:=Xz o c rfl hdr hrd;have tB:∀ x,x < G.dH.length->∀ y∈rd x,y < G.dH.length:=λx hx y hy=>by rw[hrd] at hy;unfold Gr.nH at hy;obtain ⟨s,hs,rfl⟩:=aQ.mp hy;obtain ⟨h1,h2⟩:=fE.mp hs;rw[lH,decide_eq_true_eq] at h2;exact (Gr.HF (C4 (Gr.Ig c hx) h1 h2.1)).1
 have afC:∀ x,(rd x).length<=10000:=λx=>by rw[hrd];unfold Gr.nH;rw[ak];exact aO (kD _ _) (aO (Gr.Ab o _) aI)
 have hpf:∀ x t,x < G.dH.length->Kq G x t->fP G (G.pr x).2 t:=λx t hx h=>Yk o c hx h;clear hdr hrd;clear l9;ext m9 ra;obtain ⟨cnt,gM⟩:∃ cnt,G.dH.length=cnt:=⟨_,rfl⟩;rw[gM] at KI KJ KL OL tB hpf eN;have Ew:=S7.t;rw[gM] at Ew;ext cnt;show b7 T 32;show Gj (ta:=tl) ef (by walk_at "cok") (by decide +kernel) (by decide) (k:=cnt) (xs:=(aj cnt).map λx=>V.ref (ta x)) (by rw[ak,aN]) (zz eN aI) ?_
 .refine aA T 32 S5 ?_ (hl:=by rw[kB];rfl);exact ⟨rfl,rfl,Ew⟩
 intro lA il i0 oM afD hil hi0 hij;have afE:=KN.trans oM;have sI:=oM _ _ S5;lk;clear afD;ext lA il i0;refine ⟨la,_,rfl,sI,by rw[kB];exact of_decide_eq_true rfl,?_⟩;obtain ⟨F9,lB⟩:∃ F:Loc,F=([("automaton",.ref u),("nullables",.ref na),("transitions",.ref tl),("index",.ref xl),("direct",.ref dl),("reads",.ref rl),("includes",.ref il)]:Loc):=⟨_,rfl⟩;rw[show cj "includes" (.ref il) F8=F9 by rw[kB,lB];rfl];have Dz:=afE.set (o:=.inst (A.cls 32) F9) hla;have IG:=bz (fs':=F9) sI (oM _ _ S6) bX;have II:=(S7.le oM).inst (fs':=F9) sI;have IJ:=bz (fs':=F9) sI (oM _ _ KI) bX;have IK:=bz (fs':=F9) sI (oM _ _ KJ) bX;have IL:∀ x,x < cnt->(lA.set la (.inst (A.cls 32) F9)) (ra x)=some (.list ((rd x).map vn)):=λx hx=>bz (fs':=F9) sI (oM _ _ (KL x hx)) bX;have DA:=bz (fs':=F9) sI hil bX;have AD:∀ y,y < cnt->(lA.set la (.inst (A.cls 32) F9)) (i0 y)=some (.list []):=λy hy=>bz (fs':=F9) sI (hi0 y hy).1 bX;have IM:=MH.af lA la (.inst (A.cls 32) F9);generalize lA.set la (.inst (A.cls 32) F9)=Bp at Dz IM IG II IJ IK IL DA AD ⊢;have pR:=II.t;rw[gM] at pR;ext F9 Bp;show b7 T 32;show Gj (ta:=tl) ef (by walk_at "cok") (by decide +kernel) (by decide) (k:=cnt) (xs:=(aj cnt).map λx=>V.ref (ta x)) (by rw[ak,aN]) (zz eN aI) ?_
 .refine aA T 32 IM ?_ (hl:=by rw[lB];rfl);exact ⟨rfl,rfl,pR⟩
 intro ql ul t0 jA afF rj ht0 htj;have afG:=Dz.trans jA;have pS:=jA _ _ IM;lk;ext ql ul t0;refine ⟨la,_,rfl,pS,by rw[lB];exact of_decide_eq_true rfl,?_⟩;obtain ⟨je,IP⟩:∃ F:Loc,F=([("automaton",.ref u),("nullables",.ref na),("transitions",.ref tl),("index",.ref xl),("direct",.ref dl),("reads",.ref rl),("includes",.ref il),("turns",.ref ul)]:Loc):=⟨_,rfl⟩;rw[show cj "turns" (.ref ul) F9=je by rw[lB,IP];rfl];have IQ:=afG.set (o:=.inst (A.cls 32) je) hla;have QE:=bz (fs':=je) pS (jA _ _ IG) bX;have IS:=(II.le jA).inst (fs':=je) pS;have QF:=bz (fs':=je) pS (jA _ _ IJ) bX;have QG:=bz (fs':=je) pS (jA _ _ IK) bX;have QH:∀ x,x < cnt->(ql.set la (.inst (A.cls 32) je)) (ra x)=some (.list ((rd x).map vn)):=λx hx=>bz (fs':=je) pS (jA _ _ (IL x hx)) bX;have QI:=bz (fs':=je) pS (jA _ _ DA) bX;have QJ:∀ y,y < cnt->(ql.set la (.inst (A.cls 32) je)) (i0 y)=some (.list []):=λy hy=>bz (fs':=je) pS (jA _ _ (AD y hy)) bX;have QK:=bz (fs':=je) pS rj bX;have QL:∀ y,y < cnt->(ql.set la (.inst (A.cls 32) je)) (t0 y)=some (.list []):=λy hy=>bz (fs':=je) pS (ht0 y hy).1 bX;have QM:=MH.af ql la (.inst (A.cls 32) je);generalize ql.set la (.inst (A.cls 32) je)=qm at IQ QM QE IS QF QG QH QI QJ QK QL ⊢;ext je qm;show b7 T 32;refine qH (.bE [] 0) (.inr (.inl rfl)) λlb IT=>?_;have oj:=MH.av (o:=.bE [] 0) IT;have S8:=IQ.new IT;have n6:=oj _ _ QM;lk;ext lb;refine ⟨la,_,rfl,n6,by rw[IP];exact of_decide_eq_true rfl,?_⟩;obtain ⟨iA,j5⟩:∃ F:Loc,F=([("automaton",.ref u),("nullables",.ref na),("transitions",.ref tl),("index",.ref xl),("direct",.ref dl),("reads",.ref rl),("includes",.ref il),("turns",.ref ul),("lookback",.ref lb)]:Loc):=⟨_,rfl⟩;rw[show cj "lookback" (.ref lb) je=iA by rw[IP,j5];rfl];have xlb:xl≠lb:=λe=>by obtain ⟨_,_,q⟩:=IS.x;rw[e,IT] at q;cases q
 have IU:=(IQ.trans oj).set (o:=.inst (A.cls 32) iA) hla;have QN:=bz (fs':=iA) n6 (oj _ _ QE) bX;have AE:=(IS.le oj).inst (fs':=iA) n6;have QO:=bz (fs':=iA) n6 (oj _ _ QF) bX;have QT:=bz (fs':=iA) n6 (oj _ _ QG) bX;have QU:∀ x,x < cnt->((qm.set lb (.bE [] 0)).set la (.inst (A.cls 32) iA)) (ra x)=some (.list ((rd x).map vn)):=λx hx=>bz (fs':=iA) n6 (oj _ _ (QH x hx)) bX;have IV:=bz (fs':=iA) n6 (oj _ _ QI) bX;have IX:∀ y,y < cnt->((qm.set lb (.bE [] 0)).set la (.inst (A.cls 32) iA)) (i0 y)=some (.list []):=λy hy=>bz (fs':=iA) n6 (oj _ _ (QJ y hy)) bX;have QV:=bz (fs':=iA) n6 (oj _ _ QK) bX;have IY:∀ y,y < cnt->((qm.set lb (.bE [] 0)).set la (.inst (A.cls 32) iA)) (t0 y)=some (.list []):=λy hy=>bz (fs':=iA) n6 (oj _ _ (QL y hy)) bX;have DB:=bz (fs':=iA) n6 (MH.af qm lb (.bE [] 0)) xZ;have sJ:=MH.af (qm.set lb (.bE [] 0)) la (.inst (A.cls 32) iA);generalize (qm.set lb (.bE [] 0)).set la (.inst (A.cls 32) iA)=Bq at IU sJ QN AE QO QT QU IV IX QV IY DB ⊢;ext iA Bq;obtain ⟨c0,hc1,hc3,hc2⟩:∃ c0:Nat->Addr,(∀ y,y < cnt->c0 y=i0 y)/\(∀ z,¬ z < cnt->c0 z=t0 (z - cnt))/\∀ y,c0 (cnt+y)=t0 y:=⟨λz=>if z < cnt then i0 z else t0 (z - cnt),λy hy=>if_pos hy,λz hz=>if_neg hz,λy=>by change (if cnt+y < cnt then _ else _)=_;rw[if_neg (ie eF),vO]⟩
 have cz:∀ z,z < cnt+cnt->(z < cnt/\c0 z=i0 z)\/∃ y,y < cnt/\z=cnt+y/\c0 z=t0 y:=λz hz=>by
  by_cases q:z < cnt
  .exact .inl ⟨q,hc1 z q⟩
  .exact .inr ⟨z - cnt,j9 hz (zg q),AQ (zg q),hc3 z q⟩
 have ine:∀ y a xs,y < cnt->m9 a=some (.list xs)->i0 y≠a:=λy a xs hy h1 e=>by rw[<-e,(hi0 y hy).2] at h1;cases h1
 have Br:∀ y a xs,y < cnt->Bp a=some (.list xs)->t0 y≠a:=λy a xs hy h1 e=>by rw[<-e,(ht0 y hy).2] at h1;cases h1
 have iul:∀ y,y < cnt->i0 y≠ul:=λy hy e=>by have:=AD y hy;rw[e,afF] at this;cases this
 have yb:∀ z a xs ys,z < cnt+cnt->m9 a=some (.list xs)->Bp a=some (.list ys)->c0 z≠a:=λz a xs ys hz h1 h2=>by
  rcases cz z hz with ⟨q,e⟩ | ⟨y,q,_,e⟩
  .rw[e];exact ine z a xs q h1
  .rw[e];exact Br y a ys q h2
 ext c0;refine gu (cG T 32 3 "Lookaheads.find_includes" sJ ?_ (hl:=by rw[j5];rfl));lk;refine WH (c0:=c0) T o sm c (aK (bK hn)) gM sJ (by rw[j5];rfl) (by rw[j5];rfl) (by rw[j5];rfl) (by rw[j5];rfl) (by rw[j5];rfl) (by rw[j5];rfl) (by rw[j5];rfl) (by rw[j5];rfl) ⟨AE.t,AE.tt,AE.x⟩ QN
  (by rw[IV];exact congrArg (λl=>some (O.list l)) (fD λy hy=>by rw[hc1 y (jV.mp hy)])) (by rw[QV];exact congrArg (λl=>some (O.list l)) (fD λy hy=>by rw[hc2 y])) DB xlb ⟨m,IU,xg,xu,S8,λz hz=>?_⟩ (λz hz=>?_) (λz w hz hw e=>?_) λBs inc iM ka va ep IZ Am afH An=>?_
 .rcases cz z hz with ⟨q,e⟩ | ⟨y,q,_,e⟩
  .rw[e];exact KN.new (hi0 z q).2
  .rw[e];exact Dz.new (ht0 y q).2
 .refine ⟨?_,yb z tl _ _ hz Ew pR,yb z na _ _ hz S6 IG,?_,?_⟩
  .rcases cz z hz with ⟨q,e⟩ | ⟨y,q,_,e⟩
   .rw[e];exact IX z q
   .rw[e];exact IY y q
  .rcases cz z hz with ⟨q,e⟩ | ⟨y,q,_,e⟩
   .rw[e];exact (hi0 z q).3
   .rw[e];exact Br y il _ q DA
  .rcases cz z hz with ⟨q,e⟩ | ⟨y,q,_,e⟩
   .rw[e];exact iul z q
   .rw[e];exact (ht0 y q).3
 .ext z w;rcases cz z hz with ⟨q,e1⟩ | ⟨y,q,e0,e1⟩<;>rcases cz w hw with ⟨q',rC⟩ | ⟨y',q',e0',rC⟩
  .rw[e1,rC] at e;exact hij z w q q' e
  .rw[e1,rC] at e;exact absurd e.symm (Br y' _ _ q' (AD z q))
  .rw[e1,rC] at e;exact absurd e (Br y _ _ q (AD w q'))
  .rw[e1,rC] at e;rw[e0,e0',htj y y' q q' e]
 clear cz;have Bt:∀ a xs,Bq a=some (.list xs)->(∀ z,z < cnt+cnt->c0 z≠a)->Bs a=some (.list xs):=λa xs h1 h2=>IZ a _ h1 (λz hz e=>h2 z hz e.symm) (λe=>by rw[e,DB] at h1;cases h1);have afI:m.le Bs:=λa ob h1=>IZ a ob (IU _ _ h1) (λz hz e=>by
  by_cases q:z < cnt
  .rw[e,hc1 z q,KN.new (hi0 z q).2] at h1;cases h1
  .have e2:c0 z=t0 (z - cnt):=hc3 z q;rw[e,e2,Dz.new (ht0 (z - cnt) (j9 hz (zg q))).2] at h1;cases h1) (λe=>by rw[e,S8] at h1;cases h1)
 have DC:Bs la=some (.inst (A.cls 32) iA):=IZ la _ sJ (λz hz e=>by
  by_cases q:z < cnt
  .have:=IX z q;rw[<-hc1 z q,<-e,sJ] at this;cases this
  .have e2:c0 z=t0 (z - cnt):=hc3 z q;have:=IY (z - cnt) (j9 hz (zg q));rw[<-e2,<-e,sJ] at this;cases this) (λe=>by rw[e,DB] at sJ;cases sJ)
 have QW:=AE.t;rw[gM] at QW;have afJ:=Bt tl _ QW λz hz=>yb z tl _ _ hz Ew pR;have afK:=Bt dl _ QO λz hz=>yb z dl _ _ hz KI IJ;have afL:=Bt rl _ QT λz hz=>yb z rl _ _ hz KJ IK;have afM:∀ x,x < cnt->Bs (ra x)=some (.list ((rd x).map vn)):=λx hx=>Bt _ _ (QU x hx) λz hz=>yb z _ _ _ hz (KL x hx) (IL x hx);have afN:=Bt il _ IV λz hz=>by
  by_cases q:z < cnt
  .rw[hc1 z q];exact (hi0 z q).3
  .have e2:c0 z=t0 (z - cnt):=hc3 z q;rw[e2];exact Br _ il _ (j9 hz (zg q)) DA
 lk;show bY T ef.toC (by rfl);lk;refine aA T 32 DC ?_ (hl:=by rw[j5];rfl);lk;show fz afJ (by rw[ak,aN];exact zm eN (ao rfl));rw[ak,aN];show b7 T 32;show cF T ef.toC 31;lk;refine aA T 32 DC ?_ (hl:=by rw[j5];rfl);lk;refine aA T 32 DC ?_ (hl:=by rw[j5];rfl);lk;refine MJ (rel:=rd) (f0:=dr) T (aK (bK hn)) (zz eN aI) afL afM tB afC afK λBu rm f1 vH ah2 hrm afO=>?_;have afP:=afI.trans vH;have uU:=vH _ _ DC;lk;refine ⟨la,_,rfl,uU,by rw[j5];exact of_decide_eq_true rfl,?_⟩;obtain ⟨lC,AF⟩:∃ F:Loc,F=([("automaton",.ref u),("nullables",.ref na),("transitions",.ref tl),("index",.ref xl),("direct",.ref dl),("reads",.ref rl),("includes",.ref il),("turns",.ref ul),("lookback",.ref lb),("read_masks",.ref rm)]:Loc):=⟨_,rfl⟩;rw[show cj "read_masks" (.ref rm) iA=lC by rw[j5,AF];rfl];have QX:=afP.set (o:=.inst (A.cls 32) lC) hla;have QY:=bz (fs':=lC) uU (vH _ _ afN) bX;have Py:∀ y,y < cnt->(Bu.set la (.inst (A.cls 32) lC)) (c0 y)=some (.list ((inc y).map vn)):=λy hy=>bz (fs':=lC) uU (vH _ _ (Am y hy).1) bX;have QZ:=bz (fs':=lC) uU hrm bX;have Q0:=bz (fs':=lC) uU (vH _ _ afH) xZ;have Q2:∀ j p,G.bI[j]? = some p->(Bu.set la (.inst (A.cls 32) lC)) (ka j)=some (.tuple [vn p.1,vn p.2]):=λj p hp=>bz (fs':=lC) uU (vH _ _ (An j p hp).1) En;have Q3:∀ j p,G.bI[j]? = some p->(Bu.set la (.inst (A.cls 32) lC)) (va j)=some (.list ((iM j).map vn)):=λj p hp=>bz (fs':=lC) uU (vH _ _ (An j p hp).2) bX;have DE:=MH.af Bu la (.inst (A.cls 32) lC);generalize Bu.set la (.inst (A.cls 32) lC)=m17 at QX DE QY Py QZ Q0 Q2 Q3 ⊢;show b7 T 32;show cF T ef.toC 31;lk;refine aA T 32 DE ?_ (hl:=by rw[AF];rfl);lk;refine aA T 32 DE ?_ (hl:=by rw[AF];rfl);lk;refine MJ (rl:=c0) (rel:=λy=>if y < cnt then inc y else []) (f0:=f1) T (aK (bK hn)) (zz eN aI) (by rw[QY];exact congrArg (λl=>some (O.list l)) (fD λy hy=>by rw[hc1 y (jV.mp hy)])) (λy hy=>by rw[if_pos hy];exact Py y hy)
  (λy hy x hx=>by rw[if_pos hy] at hx;exact ((Am y hy).3 x hx).1) (λy=>by
   split
   .rename_i q;exact aO (jM (Am y q).2 λx hx=>((Am y q).3 x hx).1) (zz eN aI)
   .simp) QZ λEx fm f2 Bv ah3 hfm afQ=>?_
 have afR:=QX.trans Bv;have AG:=Bv _ _ DE;lk;refine ⟨la,_,rfl,AG,by rw[AF];exact of_decide_eq_true rfl,?_⟩;obtain ⟨oN,w9⟩:∃ F:Loc,F=([("automaton",.ref u),("nullables",.ref na),("transitions",.ref tl),("index",.ref xl),("direct",.ref dl),("reads",.ref rl),("includes",.ref il),("turns",.ref ul),("lookback",.ref lb),("read_masks",.ref rm),("follow_masks",.ref fm)]:Loc):=⟨_,rfl⟩;rw[show cj "follow_masks" (.ref fm) lC=oN by rw[AF,w9];rfl];have I0:=afR.set (o:=.inst (A.cls 32) oN) hla;have Q4:=bz (fs':=oN) AG hfm bX;have Q5:=bz (fs':=oN) AG (Bv _ _ Q0) xZ;have Q6:∀ j p,G.bI[j]? = some p->(Ex.set la (.inst (A.cls 32) oN)) (ka j)=some (.tuple [vn p.1,vn p.2]):=λj p hp=>bz (fs':=oN) AG (Bv _ _ (Q2 j p hp)) En;have Q7:∀ j p,G.bI[j]? = some p->(Ex.set la (.inst (A.cls 32) oN)) (va j)=some (.list ((iM j).map vn)):=λj p hp=>bz (fs':=oN) AG (Bv _ _ (Q3 j p hp)) bX;have DF:=MH.af Ex la (.inst (A.cls 32) oN);generalize Ex.set la (.inst (A.cls 32) oN)=m19 at I0 DF Q4 Q5 Q6 Q7 ⊢;show b7 T 32;refine cG T 32 5 "Lookaheads.joined_masks" DF ?_ (hl:=by rw[w9];rfl);lk;refine XA (cnt:=cnt) (f2:=f2) T (aK (bK hn)) (zz eN aI) (Gr.Ym o) (zz hdl aI) DF (by rw[w9];rfl) (by rw[w9];rfl) Q5 (λj p hp=>⟨Q6 j p hp,Q7 j p hp,(An j p hp).3,λx hx=>((An j p hp).4 x hx).1⟩) Q4 λm20 mo S9 afS hmo=>?_;have afT:=I0.trans S9;have I1:=S9 _ _ DF;lk;refine ⟨la,_,rfl,I1,by rw[w9];simp,?_⟩;refine cX (h _ mo (cj "masks" (.ref mo) oN) (λj=>(iM j).foldl (λk x=>k ||| f2 x) 0) (afT.set hla) (I0.new afS) (MH.af _ _ _) (by rw[w9];rfl) ?_ ?_)
 .obtain ⟨ka',cI,q1,q2⟩:=hmo;exact ⟨ka',cI,bz I1 q1 xZ,λj p hp=>bz I1 (q2 j p hp) En⟩
 .intro j p hp t ht;have ady:∀ (l:List Nat) k,(l.foldl (λk x=>k ||| f2 x) k).testBit t=true->k.testBit t=true\/∃ x∈l,(f2 x).testBit t=true:=by
   intro l;induction l with
   | nil=>intro k h;exact .inl h
   | cons a l ih=>
    intro k h;rcases ih _ h with h | ⟨x,hx,h⟩
    .rw[eV,eU] at h;exact h.imp id λh=>⟨a,aZ,h⟩
    .exact .inr ⟨x,b9 _ hx,h⟩
  rcases ady _ _ ht with h0 | ⟨x,hx,hb⟩
  .simp at h0
  .obtain ⟨q1,q2⟩:=(An j p hp).4 x hx;rw[<-q2];have b1:∀ x,x < cnt->∀ t,(f1 x).testBit t=true->fP G (G.pr x).2 t:=λx hx t h1=>hpf x t hx (afO _ OL x hx t h1);exact afQ _ (Yl b1 λy hy x hx=>by rw[if_pos hy] at hx;exact ((Am y hy).3 x hx).2) x q1 t hb
theorem Zc (T:aS C A) (o:G.Ok) (sm:G.Small) (c:G.j4) (hn:8<=n) (xg:cU A m g G) (xu:kK A m g G u ad)
  (h:∀ m' b (mk:Nat->Nat),m.le m'->m b=none->qM m' b G.bI mk->(∀ j p,G.bI[j]? = some p->∀ t,(mk j).testBit t=true->fP G (G.aq p.2) t)->Q (.ref b) m'):FC C (A.f 34) n [.ref u] m Q:=by
 refine eG T 34 "lalr_masks" ["automaton"] (eW hn) rfl (λenv ef=>?_) (by walk_at "bd1");k_is;lk;show gY T 32;show pG T ef.toC 32 (aK (bK hn));lk;intro la hla;refine VZ T o sm c (aK (eg hn)) xg xu hla λm' b fs mk q1 q2 q3 q4 q5 q6=>⟨rfl,la,fs,.ref b,rfl,q3,q4,?_⟩;exact h m' b mk q1 q2 q5 q6
end
end
section
section
variable {C:Cx} {A:TA} {n:Nat} {env:Env} {loc:Loc} {m:MH} {Q:V->MH->Prop}
theorem CT.mono {Q Q':Bool->MH->Prop} {ifs:List Expr} (h:CT C n env ifs loc m Q) (hq:∀ b m',Q b m'->Q' b m'):CT C n env ifs loc m Q':=by
 match ifs,h with
 | [],h=>exact hq _ _ h
 | [t],h=>exact FG.mono (show FB C n env _ loc m Q from h) hq
 | _::_::_,h=>exact h.elim
theorem WG.Ih {e:Expr} {v:V} {Q Q':Loc->MH->Prop} (h:WG C n env e v loc m Q) (hq:∀ l m',Q l m'->Q' l m'):WG C n env e v loc m Q':=
 λr hr P A s R hR x kk=>h r hr P A s R hR x λl' m' s' x' q=>kk l' m' s' x' (hq _ _ q)
theorem Cn {α:Type} {p:α->Bool} {l:List α} {i:Nat} {x:α} (h:l[i]? = some x):(l.take (i+1)).filter p=(l.take i).filter p++if p x then [x] else []:=by rw[take_snoc h,jU];cases q:p x<;>simp[q]
theorem N6 {α:Type} {sc:Scope} {elt target iter:Expr} {ifs:List Expr} {Z:Addr->MH->Prop} (f:α->V) (l:List α) (p:α->Bool) (r:α->V) (hl:l.length<=2 ^ 20)
  (h:WI C n env iter loc m λlen item cond m1=>len=l.length/\(∀ i x,l[i]? = some x->item i=f x)/\(∀ mm,m1.le mm->cond mm)/\
   (∀ cenv,g9 cenv sc->∀ x∈l,∀ mm,m1.le mm->WG C n cenv target (f x) (f9 loc (freeNames sc)) mm λl' m'=>(∀ y v,(f9 loc (freeNames sc)).lookup y=some v->l'.lookup y=some v)/\
    CT C n cenv ifs l' m' λb m2=>b=p x/\m1.le m2/\(b=true->WE C n cenv elt l' m2 λw m3=>w=r x/\m1.le m3))/\
   ∀ mm a,m1.le mm->mm a=none->Z a (mm.set a (.list ((l.filter p).map r)))) :
  WI C n env iter loc m (Ah C n loc sc target elt ifs λacc mm=>∀ a,mm a=none->Z a (mm.set a (.list acc))):=by
 intro P A s R hr x kk;refine h P A s R hr x λlen item cond St ob m1 s1 d t hS hx h0 hf ⟨e1,e2,e3,e4,e5⟩=>kk len item cond St ob m1 s1 d t hS hx h0 hf ?_;subst e1;refine ⟨hl,λi acc mm=>acc=((l.take i).filter p).map r/\m1.le mm,⟨rfl,λ_ _ q=>q⟩,λi acc mm q=>e3 mm q.2,?_,?_⟩
 .rintro cenv ec i acc mm hi ⟨rfl,hm⟩;have hg:l[i]? = some l[i]:=aH hi;rw[e2 i _ hg];refine WG.Ih (e4 cenv ec _ (cW hi) mm hm) λl' m' ⟨q1,q2⟩=>⟨q1,q2.mono λb m2 ⟨b1,b2,b3⟩=>?_⟩;subst b1;cases q:p l[i] with
  | true=>
   simp only[if_true];refine (b3 q).mono λw m3 ⟨w1,w2⟩=>⟨?_,w2⟩;rw[Cn hg,q,w1];simp
  | false=>
   simp only[cP,if_false];refine ⟨?_,b2⟩;rw[Cn hg,q];simp
 .rintro acc mm ⟨rfl,hm⟩ a ha;rw[dW];exact e5 mm a hm ha
theorem wG {α:Type} {dD sc:Scope} {elt target iter:Expr} {ifs:List Expr} {pos:Pos} (f:α->V) (l:List α) (p:α->Bool) (r:α->V) (ef:fZ env dD) (ok:qK dD sc) (hl:l.length<=2 ^ 20)
  (h:WI C n env iter loc m λlen item cond m1=>len=l.length/\(∀ i x,l[i]? = some x->item i=f x)/\(∀ mm,m1.le mm->cond mm)/\
   (∀ cenv,g9 cenv sc->∀ x∈l,∀ mm,m1.le mm->WG C n cenv target (f x) (f9 loc (freeNames sc)) mm λl' m'=>(∀ y v,(f9 loc (freeNames sc)).lookup y=some v->l'.lookup y=some v)/\
    CT C n cenv ifs l' m' λb m2=>b=p x/\m1.le m2/\(b=true->WE C n cenv elt l' m2 λw m3=>w=r x/\m1.le m3))/\
   ∀ mm a,m1.le mm->mm a=none->Q (.ref a) (mm.set a (.list ((l.filter p).map r))))
  (hs:∀ x,foldedSetIterable iter env x=pure x:=by walk_at "ir"):WE C n env (.ListComp elt [⟨target,iter,ifs,0⟩] sc pos) loc m Q:=
 wJ ef ok (N6 (Z:=λa mm=>Q (.ref a) mm) f l p r hl h) hs
theorem G1 {α:Type} {dD sc:Scope} {elt target iter:Expr} {ifs:List Expr} {pos py spos:Pos} {y:Str} {ss:List Stmt} {Q:Fl->Loc->MH->Prop} (f:α->V) (l:List α) (p:α->Bool) (r:α->V) (ef:fZ env dD) (ok:qK dD sc) (hk:mY env y) (hl:l.length<=2 ^ 20)
  (hsw:∀ env':Env,env'.scope=dD->swapsWith (.ListComp elt [⟨target,iter,ifs,0⟩] sc pos) (some (.Name y py)) spos.line env'=pure true)
  (h:WI C n env iter loc m λlen item cond m1=>len=l.length/\(∀ i x,l[i]? = some x->item i=f x)/\(∀ mm,m1.le mm->cond mm)/\
   (∀ cenv,g9 cenv sc->∀ x∈l,∀ mm,m1.le mm->WG C n cenv target (f x) (f9 loc (freeNames sc)) mm λl' m'=>(∀ y v,(f9 loc (freeNames sc)).lookup y=some v->l'.lookup y=some v)/\
    CT C n cenv ifs l' m' λb m2=>b=p x/\m1.le m2/\(b=true->WE C n cenv elt l' m2 λw m3=>w=r x/\m1.le m3))/\
   ∀ mm a,m1.le mm->mm a=none->WS C n env ss ((y,.ref a)::loc) (mm.set a (.list ((l.filter p).map r))) Q)
  (hs:∀ x,foldedSetIterable iter env x=pure x:=by walk_at "ir"):WS C n env (.Assign [.Name y py] (.ListComp elt [⟨target,iter,ifs,0⟩] sc pos) spos::ss) loc m Q:=
 jX (FE ef ok hk (N6 (Z:=λa mm=>WS C n env ss ((y,.ref a)::loc) mm Q) f l p r hl h) (hsw env ef.scope) hs)
end
end
section
structure pO (A:TA) (m:MH) (w:Addr) (g:GA) (G:Gr) (u:Addr) (ad:Nat->SA) (cl mb:Addr) (mk:Nat->Nat):Prop where
 self:m w=some (.inst (A.cls 37) [("grammar",.ref g.g),("automaton",.ref u),("cores",.ref cl),("masks",.ref mb)])
 gr:cU A m g G
 au:kK A m g G u ad
 wW:m cl=some (.list ((aj G.aU.length).map λi=>.ref (ad i).k))
 masks:qM m mb G.bI mk
theorem pO.le {A:TA} {m m':MH} {w:Addr} {g:GA} {G:Gr} {u:Addr} {ad:Nat->SA} {cl mb:Addr} {mk:Nat->Nat} (x:pO A m w g G u ad cl mb mk) (h:m.le m'):pO A m' w g G u ad cl mb mk:=
 ⟨h _ _ x.self,x.gr.le h,x.au.le h,h _ _ x.wW,x.masks.le h⟩
section
variable {C:Cx} {A:TA} {n:Nat} {m:MH} {Q:V->MH->Prop} {g:GA} {G:Gr} {u w cl mb:Addr} {ad:Nat->SA} {mk:Nat->Nat}
theorem M7 {vs:V×V×V×V} (T:aS C A) (hn:1<=n) (hw:m w=none) (h:∀ m',(∀ a o,m a=some o->m' a=some o)->m' w=some (.inst (A.cls 37) [("grammar",vs.1),("automaton",vs.2.1),("cores",vs.2.2.1),("masks",vs.2.2.2)])->Q .none m'):FC C (A.bZ 37 0) n [.ref w,vs.1,vs.2.1,vs.2.2.1,vs.2.2.2] (m.set w (.inst (A.cls 37) [])) Q:=by refine dX T 37 0 "__init__" "View.__init__" ["self","grammar","automaton","cores","masks"] hn rfl (λenv ef=>?_) (by walk_at "bd5");k_is;show b7 T 37;lk;refine ⟨w,_,rfl,MH.af _ _ _,by simp,?_⟩;rw[MH.set_set];show b7 T 37;lk;refine ⟨w,_,rfl,MH.af _ _ _,(show (1:Nat) < 900 by decide),?_⟩;rw[MH.set_set];show b7 T 37;lk;refine ⟨w,_,rfl,MH.af _ _ _,(show (2:Nat) < 900 by decide),?_⟩;rw[MH.set_set];show b7 T 37;lk;refine ⟨w,_,rfl,MH.af _ _ _,(show (3:Nat) < 900 by decide),?_⟩;rw[MH.set_set];exact cX (h _ (MH.av hw) (MH.af _ _ _))
theorem XC (o:G.Ok) (hi:i < G.aU.length):aR G.aU i++cN ((G.bV (aR G.aU i)).filter λit=>!decide (it∈aR G.aU i))=G.bV (aR G.aU i):=by
 have hg:=Gr.kE o 200 _ (Gr.rU (show i < (G.bG 200).length from hi));change (∀ it∈aR G.aU i,it < G.M)/\(aR G.aU i).Pairwise (·< ·) at hg;generalize aR G.aU i=ah at *
 have e1:cN ah=ah:=yZ (hg.2.imp λq=>fy q);unfold Gr.bV;rw[e1,jU,vP.mpr (λa ha=>by simp[ha]),V8,
  tX.mpr (λa ha=>by have:=((Gr.mQ o).mp (jH.mp ha)).1;simp[this]),yZ (yQ _)]
theorem Cu (T:aS C A) (o:G.Ok) (sm:G.Small) (hn:2<=n) (x:pO A m w g G u ad cl mb mk) (hi:i < G.aU.length) (h:∀ m' a,m.le m'->m a=none->m' a=some (.list ((G.bV (aR G.aU i)).map vn))->Q (.ref a) m'):FC C (A.bZ 37 1) n [.ref w,vn i] m Q:=by
 ext C A n m Q g G u w cl mb ad mk i;obtain ⟨bl,u1,u2,u3⟩:=id x.au;ext bl;obtain ⟨⟨it,rd,s1,s2,s3⟩,s4,s5⟩:=u3 i hi;have hk:=sm.len 200;change G.aU.length<=100 at hk;have hg:=Gr.kE o 200 _ (Gr.rU (show i < (G.bG 200).length from hi));change (∀ it∈aR G.aU i,it < G.M)/\(aR G.aU i).Pairwise (·< ·) at hg;have dQ:=Gr.wo (ks:=G.aU) o (Gr.kE o 200) hi;have hcl:(G.bV (aR G.aU i)).length<=20:=aO (jM (Gr.wj (Gr.mR hg.2) o) (Gr.jK o hg.1)) (Gr.n8 o);have heq:=XC o hi;ext it rd;refine dX T 37 1 "items_of" "View.items_of" ["self","number"] (zf hn) rfl (λenv ef=>?_) (by walk_at "bd2");k_is;lk;ext env;show mO T ef.toC (by rfl);lk;show aA T 37 x.self;lk;show aJ x.wW (aW _ hi) (by simp;exact zm hk (ao rfl));lk;refine Wc s4 (by rw[ak];exact zz dQ aI) λb hb=>?_;have l1:m.le (m.set b _):=MH.av (o:=.list ((aR G.aU i).map vn)) hb;have tK:=MH.af m b (.list ((aR G.aU i).map vn));have x1:=x.le l1;have mb':=hb;generalize m.set b (.list ((aR G.aU i).map vn))=m1 at l1 tK x1 ⊢;have s1':=l1 _ _ s1;have s2':=l1 _ _ s2;clear s1 s2 s3 s4 s5 u3;generalize G.aU.length=N at *
 generalize aR G.aU i=ah at *
 generalize G.bV ah=cJ at *
 lk;clear hb mb' hg;ext b m1 N ah cJ;show bY T ef.toC (by rfl);lk;refine wG vn cJ (λit=>!decide (it∈ah)) vn ef (by walk_at "cok") (zz hcl aI) (cC vn cJ ?_);show gY T 22;lk;show gY T 27;show aA T 37 x1.self;refine ⟨_,_,_,rfl,l1 _ _ u1,rfl,?_⟩;lk;show aJ (l1 _ _ u2) (aW _ hi) (by simp;exact zm hk (ao rfl));refine ⟨_,_,_,rfl,s1',rfl,?_⟩;refine ⟨it,rfl,s2',rfl,λj y hy=>by dsimp only;rw[bM,bH,hy];rfl,λmm hm=>hm _ _ s2',?_,?_⟩
 .intro cenv ec y hy mm hm;clear hy;ext cenv y mm;refine aM (ec.store ⋯) ⟨jI (by decide +kernel),?_⟩;show cH;lk;refine Np (ks:=ah.map λk:Nat=>(k:Int)) (by rw[<-mW];exact hm _ _ tK) ⟨_,rfl,?_⟩;refine ⟨?_,hm,λ_=>?_⟩
  .congr 1;simp;exact ⟨λz_=>by obtain ⟨a,h1,h2⟩:=z_;exact (by have:a=y:=(oz h2);exact this▸h1),λh=>⟨y,h,rfl⟩⟩
  .lk;exact ⟨rfl,hm⟩
 .intro mm c hm hc;lk;refine Ct (MH.af _ _ _) (by have:=kD (λit=>!decide (it∈ah)) cJ;exact zm this (zm hcl (ao rfl))) λd hd=>?_;have hbm:=hm _ _ tK;have bc:=MH.aE hbm hc;have l2:=MH.av (o:=.list ((cJ.filter λit=>!decide (it∈ah)).map vn)) hc;have l3:=MH.av (o:=.list ((cN (cJ.filter λit=>!decide (it∈ah))).map vn)) hd;have jd:=l3 _ _ (l2 _ _ hbm);have fL:=MH.af (mm.set c (.list ((cJ.filter λit=>!decide (it∈ah)).map vn))) d (.list ((cN (cJ.filter λit=>!decide (it∈ah))).map vn));have l4:=(l1.trans hm).trans (l2.trans l3);generalize (mm.set c (.list ((cJ.filter λit=>!decide (it∈ah)).map vn))).set d (.list ((cN (cJ.filter λit=>!decide (it∈ah))).map vn))=m4 at jd fL l4 ⊢;refine mV jd fL ?_ λe he=>?_
  .rw[ak,ak,pA];have:=kD (λit=>!decide (it∈ah)) cJ;exact aes dQ hcl this
  rw[<-aV,heq];exact h _ e (l4.trans (MH.av he)) (l4.new he) (MH.af _ _ _)
end
end
section
namespace Gr
noncomputable def nm (G:Gr) (x:Nat):Str:=G.names.getD x ""
noncomputable def tL (G:Gr) (r d:Nat):Str:=G.nm (G.aq r)++(" : " : Str)++nY (" " : Str) (((G.ai r).map G.nm).take d++("." : Str)::((G.ai r).map G.nm).drop d)
noncomputable def Ey (G:Gr) (mk:Nat->Nat) (i it:Nat):Str:=
 let t:Str:=(toString (G.aB it:Int):String) ++ " " ++ G.tL (G.aB it) (G.dot it)
 if G.aB it=0\/G.aY it≠none then t else t ++ "  [" ++ nY ", " ((fY (mk (G.bI.idxOf (i,G.aB it)))).map G.nm) ++ "]"
theorem C5 {G:Gr} {x:Nat} (h:x < G.N):(G.names.map V.str)[x]? = some (.str (G.nm x)):=by unfold nm;rw[bH,aH h,bM,aH h];rfl
end Gr
section
variable {C:Cx} {A:TA} {n:Nat} {env:Env} {sc:Scope} {loc:Loc} {m:MH} {Q:V->MH->Prop} {g:GA} {G:Gr} {u w cl mb:Addr} {ad:Nat->SA} {mk:Nat->Nat}
theorem Wf (T:aS C A) (o:G.Ok) (hn:2<=n) (x:pO A m w g G u ad cl mb mk) (hr:r < G.R) (h:Q (vn (G.item r (G.ai r).length)) m):FC C (A.bZ 37 2) n [.ref w,vn r] m Q:=by
 have hl:(G.ai r).length < 2 ^ 40:=by have:=o.len r;exact zm this (ao rfl)
 ext C A n m Q g G u w cl mb ad mk r;obtain ⟨lv,d9⟩:=x.gr.rule;refine dX T 37 2 "complete" "View.complete" ["self","rule"] (zf hn) rfl (λenv ef=>?_) (by walk_at "bd2");k_is;lk;show kH T 9 6 "Grammar.item";show aA T 37 x.self;refine ⟨_,_,rfl,x.gr.self,rfl,?_⟩;lk;show bY T ef.toC (by rfl);lk;show gY T 8;lk;show gY T 9;show aA T 37 x.self;refine ⟨_,_,_,rfl,x.gr.self,rfl,?_⟩;lk;show aJ x.gr.rules (aW _ hr) (by have:=o.r5;simp;exact zm this (ao rfl));refine ⟨_,_,_,rfl,d9 _ hr,rfl,?_⟩;lk;show wc (x.gr.right _ hr) (by rw[ak];exact hl);rw[ak];lk;exact zA T o x.gr (aK hn) hr h
theorem zT {l:List Str} {k:Nat} (h:∀ x∈l,x.length<=k):(l.map (·.length)).sum<=l.length*k:=by
 induction l with
 | nil=>exact bk _
 | cons a l ih=>
  have h1:=h a aZ;have h2:=ih λx hx=>h x (b9 _ hx);rw[bq,o8,fM,MK];exact dm pZ (dO h2 h1)
theorem zM {x:Str} {l:List Str} {k:Nat} (h:∀ y∈l,y.length<=k):(nY x l).length<=l.length*k+l.length*x.length:=by have e:(nY x l).length=(l.map (·.length)).sum+(l.length - 1)*x.length:=PySem.size_glued x l;have h1:=zT h;have h2:(l.length - 1)*x.length<=l.length*x.length:=gE _ Jo;exact dm e (dO h1 h2)
theorem uF (hnm:∀ x∈G.names,x.length<=20) (x:Nat):(G.nm x).length<=20:=by
 unfold Gr.nm;rw[bM];cases q:G.names[x]? with
 | none=>decide
 | some y=>exact hnm y (bC q)
theorem Wg {r d:Nat} (T:aS C A) (o:G.Ok) (hnm:∀ x∈G.names,x.length<=20) (hn:2<=n) (x:cU A m g G) (hr:r < G.R) (hd:d<=(G.ai r).length) (h:∀ m',m.le m'->Q (.str (G.tL r d)) m'):FC C (A.f 10) n [.ref g.g,vn r,vn d] m Q:=by
 have hl:(G.ai r).length<=3:=o.len r;ext C A n m Q g G r d;obtain ⟨lv,d9⟩:=x.rule;have hN:=Gr.N8 o;have Tc:=o.rN r;refine GK (D:=fd 10) (qual:="show_rule") (ds:=[.int (-1)]) ["grammar","number","dot"] 0 (T.s8 ("show_rule",10,[.int (-1)]) (aZ)).2 (zf hn) rfl (by decide) (λenv ef=>?_) (λrargs t kV doc pm an cdv ct hla oB hlr=>?_) (by decide +kernel) (by decide) (by decide +kernel)
 .k_is;lk;ext env;show aA T 9 x.self;lk;show aJ x.rules (aW _ hr) (by have:=o.r5;simp;exact zm this (ao rfl));lk;refine G1 vn (G.ai r) (λ_=>true) (λy=>V.str (G.nm y)) ef (by walk_at "cok") (ef.store ⋯) (zz hl aI) (by walk_at "swc") (Cz vn (G.ai r) ?_);show aA T 8 (d9 _ hr);refine ⟨_,rfl,x.right _ hr,rfl,λj y hy=>by dsimp only;rw[bM,bH,hy];rfl,λmm hm=>hm _ _ (x.right _ hr),?_,?_⟩
  .intro cenv ec y hy mm hm;refine aM (ec.store ⋯) ⟨jI (by decide +kernel),?_⟩;refine ⟨rfl,hm,λ_=>?_⟩;lk;show aA T 9 (hm _ _ x.self);lk;show aJ (hm _ _ x.names) (Gr.C5 (Tc y hy)) (by rw[ak];change G.N < _;exact zm hN (ao rfl));exact ⟨rfl,hm⟩
  intro mm c hm hc;have l1:=hm.trans (MH.av (o:=.list (((G.ai r).filter λ_=>true).map λy=>V.str (G.nm y))) hc);have hcs:=MH.af mm c (.list (((G.ai r).filter λ_=>true).map λy=>V.str (G.nm y)));rw[show (G.ai r).filter (λ_=>true)=G.ai r from tX.mpr λ_ _=>rfl] at hcs l1 ⊢;generalize mm.set c (.list ((G.ai r).map λy=>V.str (G.nm y)))=m1 at l1 hcs ⊢;have JO:=hm.new hc;clear hm hc;ext mm c m1;show ck;show cH;lk;refine uP ⟨_,rfl,λ_=>?_,λq=>(mK q)⟩;lk;show eB gn Vo F.type_list_insert;lk;refine ⟨gG hcs,?_⟩;lk;show YS hcs (by rw[ak];exact hd) (by rw[ak];exact zm hl (ao rfl));show aX;have l2:=l1.set (o:=.list (((G.ai r).map λy=>V.str (G.nm y)).take d++V.str "." :: ((G.ai r).map λy=>V.str (G.nm y)).drop d)) JO;have I2:=MH.af m1 c (.list (((G.ai r).map λy=>V.str (G.nm y)).take d++V.str "." :: ((G.ai r).map λy=>V.str (G.nm y)).drop d));generalize m1.set c (.list (((G.ai r).map λy=>V.str (G.nm y)).take d++V.str "." :: ((G.ai r).map λy=>V.str (G.nm y)).drop d))=m2 at l2 I2 ⊢;have x2:=x.le l2;have KO:G.aq r < G.N:=by
   rcases nO r with q | q
   .rw[q,o.l0];have:=o.nT;exact dN jP this
   .exact C8 o.nT (o.lN r q hr)
  lk;show aA T 9 x2.self;lk;show aA T 8 (l2 _ _ (d9 _ hr));show aJ x2.names (Gr.C5 KO) (by rw[ak];change G.N < _;exact zm hN (ao rfl));lk;show pM ?_
  .have:=uF hnm (G.aq r);have e:(" : " : Str).length=3:=by decide +kernel
   exact zz (dO this (ze e)) (zb rfl)
  have ew:((G.ai r).map λy=>V.str (G.nm y)).take d++V.str "." :: ((G.ai r).map λy=>V.str (G.nm y)).drop d=(((G.ai r).map G.nm).take d++("." : Str)::((G.ai r).map G.nm).drop d).map V.str:=by rw[aV,bq,Cf,FO,dS];rfl
  rw[ew] at I2;have hwl:∀ y∈((G.ai r).map G.nm).take d++("." : Str)::((G.ai r).map G.nm).drop d,y.length<=20:=λy hy=>by
   have ny:∀ y∈(G.ai r).map G.nm,y.length<=20:=λy hy=>by obtain ⟨z,_,rfl⟩:=aQ.mp hy;exact uF hnm z
   rcases bN.mp hy with hy | hy
   .exact ny y (mJ hy)
   .rcases b8.mp hy with hy | hy
    .rw[hy];decide +kernel
    .exact ny y (yD hy)
  have iw:(((G.ai r).map G.nm).take d++("." : Str)::((G.ai r).map G.nm).drop d).length=(G.ai r).length+1:=by rw[cQ,fM,nR,qy,ak,Jv hd,<-oZ,fT hd]
  have tM:(" " : Str).length=1:=by decide +kernel
  have hj:=zM (x:=(" " : Str)) hwl;have hs:=zT hwl;show eB Fi Fy Fz;lk;refine ⟨rfl,?_⟩;lk;show CN I2 (by rw[iw] at hs ⊢;rw[tM];exact aet hl hs);refine pM ?_ (h m2 l2);have:=uF hnm (G.aq r);have e:(" : " : Str).length=3:=by decide +kernel
  rw[nJ];rw[iw,tM] at hj;omega
 .obtain ⟨_,_,_,rfl⟩:=P9 hla;obtain ⟨_,rfl⟩:=Dl hlr;exact ⟨_,rfl,by kernel_rfl⟩
end
end
section
theorem lt_pow_of_bits (h:∀ t,k.testBit t=true->t < N):k < 2 ^ N:=by
 refine UP k λi hi=>?_;cases q:k.testBit i with
 | false=>rfl
 | true=>have:=h i q;exact (ig this hi).elim
section
variable {C:Cx} {A:TA} {n:Nat} {env:Env} {sc:Scope} {loc:Loc} {m:MH} {Q:V->MH->Prop} {g:GA} {G:Gr} {u w cl mb:Addr} {ad:Nat->SA} {mk:Nat->Nat}
theorem WT.mono {t:Expr} {Q Q':Bool->MH->Prop} (h:WT C n env t loc m Q) (hq:∀ c m',Q c m'->Q' c m'):WT C n env t loc m Q':=FG.mono (show FB C n env _ loc m Q from h) hq
theorem N7 (h:∀ t,mask.testBit t=true->t < N):(fY mask).length<=N:=jM (MS mask) λt ht=>h t (by
 unfold fY at ht;exact (fE.mp ht).2)
theorem abg (o:G.Ok) (hnm:∀ x∈G.names,x.length<=20):(G.tL r d).length<=1000:=by
 have hl:(G.ai r).length<=3:=o.len r;have ny:∀ y∈(G.ai r).map G.nm,y.length<=20:=λy hy=>by obtain ⟨z,_,rfl⟩:=aQ.mp hy;exact uF hnm z
 have hwl:∀ y∈((G.ai r).map G.nm).take d++("." : Str)::((G.ai r).map G.nm).drop d,y.length<=20:=λy hy=>by
  rcases bN.mp hy with hy | hy
  .exact ny y (mJ hy)
  .rcases b8.mp hy with hy | hy
   .rw[hy];decide +kernel
   .exact ny y (yD hy)
 have iw:(((G.ai r).map G.nm).take d++("." : Str)::((G.ai r).map G.nm).drop d).length=(G.ai r).length+1:=by rw[cQ,fM,nR,qy,ak];exact PO
 have hj:=zM (x:=(" " : Str)) hwl;have tM:(" " : Str).length=1:=by decide +kernel
 have e:(" : " : Str).length=3:=by decide +kernel
 have:=uF hnm (G.aq r);unfold Gr.tL;rw[nJ,nJ,e];rw[iw,tM] at hj;exact aeC hl hj this
theorem Wh {i it:Nat} (T:aS C A) (o:G.Ok) (sm:G.Small) (hnm:∀ x∈G.names,x.length<=20) (hn:4<=n) (x:pO A m w g G u ad cl mb mk) (tO:∀ j p,G.bI[j]? = some p->∀ t,(mk j).testBit t=true->t < G.N) (hit:it < G.M) (uT:G.aB it≠0->G.aY it=none->(i,G.aB it)∈G.bI) (h:∀ m',m.le m'->Q (.str (G.Ey mk i it)) m'):FC C (A.bZ 37 3) n [.ref w,vn i,vn it] m Q:=by
 have hr:=Gr.iU hit;have hd:G.dot it<=(G.ai (G.aB it)).length:=Gr.jY hit;have hR:=o.r5;have hN:=Gr.N8 o;have hdl:=Gr.CI o sm;ext C A n m Q g G u w cl mb ad mk i it;refine dX T 37 3 "show_item" "View.show_item" ["self","number","item"] (eW hn) rfl (λenv ef=>?_) (by walk_at "bd3");k_is;lk;ext env;show aA T 37 x.self;lk;show kH T 9 7 "Grammar.rule_of";lk;refine ⟨_,_,rfl,x.gr.self,rfl,?_⟩;lk;show rV T o x.gr (aK (bK hn)) hit;lk;show mO T ef.toC (by rfl);lk;show OW (by have:((G.aB it:Nat):Int).natAbs=G.aB it:=(by exact aeB);exact aeA hR hr);lk;have hts:((toString ((G.aB it:Nat):Int):String):Str).length<=20:=by
  have:∀ r,r < 5->((toString ((r:Nat):Int):String):Str).length<=20:=by decide +kernel
  exact this _ (zl hr hR)
 have tM:(" " : Str).length=1:=by decide +kernel
 show pM (by rw[tM];exact zm hts (ao rfl));refine Nk T ef.toC 10 [.int (-1)] ?_ (g:="show_rule") (aZ);lk;show kH T 9 8 "Grammar.dot_of";lk;refine ⟨_,_,rfl,x.gr.self,rfl,?_⟩;lk;show CE T o x.gr (aK (bK hn)) hit;lk;refine Wg T o hnm (zf (eg hn)) x.gr hr hd λm1 l1=>?_;have hsl:(G.tL (G.aB it) (G.dot it)).length<=1000:=abg o hnm;show pM (by rw[nJ,tM];exact aez hts hsl);have x1:=x.le l1;lk;have Tc:G.aB it < G.R:=hr;ext m1;obtain ⟨tx,htx⟩:∃ tx:Str,tx=((toString ((G.aB it:Nat):Int):String):Str)++(" " : Str)++G.tL (G.aB it) (G.dot it):=⟨_,rfl⟩;have eN:tx.length<=2000:=by rw[htx,nJ,nJ,tM];exact aey hts hsl
 rw[<-htx];ext tx;refine ck (WT.mono (Q:=λc m'=>c=(decide (G.aB it=0)||(G.aY it).isSome)/\m'=m1) (Ag ?_) ?_)
 .show cH;lk;refine Ai ⟨_,rfl,?_⟩;by_cases q:G.aB it=0
  .rw[decide_eq_true q];simp only[if_true];exact ⟨by rfl,trivial⟩
  .rw[decide_eq_false q];simp only[cP,if_false];show cH;show kH T 9 9 "Grammar.after";lk;refine ⟨_,_,rfl,x1.gr.self,rfl,?_⟩;lk;show zH T o x1.gr (aK (bK hn)) hit;lk;refine uP ⟨_,rfl,?_,rfl⟩;unfold Gr.ia;rw[WO];cases G.aY it with
   | none=>rfl
   | some y=>simp
 rintro c m9 ⟨hc,rfl⟩;have hsh:G.Ey mk i it=if G.aB it=0\/G.aY it≠none then tx else tx++("  [" : Str)++nY (", " : Str) ((fY (mk (G.bI.idxOf (i,G.aB it)))).map G.nm)++("]" : Str):=by rw[htx];rfl
 refine ⟨λe=>?_,λe=>?_⟩
 .lk;have hc':G.aB it=0\/G.aY it≠none:=by
   rw[e] at hc;simp only[Bool.true_eq,eU,decide_eq_true_eq] at hc;exact hc.imp id λq r=>by rw[r] at q;cases q
  rw[if_pos hc'] at hsh;have:=h m9 l1;rw[hsh] at this;exact this
 .rw[e] at hc;simp only[Bool.false_eq,Bool.or_eq_false_iff,decide_eq_false_iff_not] at hc;obtain ⟨hc1,hc2⟩:=hc;have hc3:G.aY it=none:=by cases q:G.aY it with | none=>rfl | some y=>rw[q] at hc2;cases hc2
  rw[if_neg (λr=>r.elim hc1 λr=>r hc3)] at hsh;have qo:=uT hc1 hc3;ext c m9;obtain ⟨J,hJ⟩:∃ J,G.bI.idxOf (i,G.aB it)=J:=⟨_,rfl⟩;have hJl:J < G.bI.length:=hJ▸qx.mpr qo;have yc:G.bI[J]? = some (i,G.aB it):=by rw[aH hJl];subst hJ;rw[yF]
  have sL:=tO J _ yc;rw[hJ] at hsh;ext J;show aX;obtain ⟨ka,ep,d1,d2⟩:=id x1.masks;refine G1 vn (fY (mk J)) (λ_=>true) (λy=>V.str (G.nm y)) ef (by walk_at "cok") (ef.store ⋯) (by have:=N7 sL;exact zz this (zz hN (zb rfl))) (by walk_at "swc") (cC vn (fY (mk J)) ?_);show cF T ef.toC 4;lk;show aA T 37 x1.self;lk;show eE;lk;refine ⟨by exact of_decide_eq_true rfl,λb2 hb2=>?_⟩;have l2:=MH.av (o:=.tuple [vn i,vn (G.aB it)]) hb2;show qI (k:=cR (pk (i,G.aB it))) (l2 _ _ d1) (MH.af _ _ _) (by rw[kI,if_pos (mX.mpr qo),sd,fG,hJ]);generalize m9.set b2 (.tuple [vn i,vn (G.aB it)])=ma at l2 ⊢;lk;ext b2 ma;refine Nt T (zf (eg hn)) (eZ (lt_pow_of_bits sL) (vS (by decide) (zz hN aI))) λba hba=>?_;have l3:=MH.av (o:=.list ((fY (mk J)).map vn)) hba;have tK:=MH.af ma ba (.list ((fY (mk J)).map vn));have l4:=l2.trans l3;generalize ma.set ba (.list ((fY (mk J)).map vn))=m3 at l4 tK ⊢;have Td:∀ y∈fY (mk J),y < G.N:=λy hy=>sL y (by unfold fY at hy;exact (fE.mp hy).2);have fV:=N7 sL;generalize fY (mk J)=bl at Td fV tK hsh ⊢;refine ⟨ba,rfl,tK,rfl,λj y hy=>by dsimp only;rw[bM,bH,hy];rfl,λmm hm=>hm _ _ tK,?_,?_⟩
  .intro cenv ec y hy mm hm;refine aM (ec.store ⋯) ⟨jI (by decide +kernel),?_⟩;refine ⟨rfl,hm,λ_=>?_⟩;lk;show aA T 9 (hm _ _ (l4 _ _ x1.gr.self));lk;show aJ (hm _ _ (l4 _ _ x1.gr.names)) (Gr.C5 (Td y hy)) (by rw[ak];change G.N < _;exact zm hN (ao rfl));exact ⟨rfl,hm⟩
  intro mm c' hm hc';rw[show bl.filter (λ_=>true)=bl from tX.mpr λ_ _=>rfl];have l5:=(l1.trans (l4.trans hm)).trans (MH.av (o:=.list (bl.map λy=>V.str (G.nm y))) hc');have hcs:=MH.af mm c' (.list (bl.map λy=>V.str (G.nm y)));rw[show (bl.map λy=>V.str (G.nm y))=(bl.map G.nm).map V.str by rw[dS];rfl] at hcs l5 ⊢;generalize mm.set c' (.list ((bl.map G.nm).map V.str))=m5 at l5 hcs ⊢;have hwl:∀ y∈bl.map G.nm,y.length<=20:=λy hy=>by obtain ⟨z,_,rfl⟩:=aQ.mp hy;exact uF hnm z
  have hj:=zM (x:=(", " : Str)) hwl;have hs:=zT hwl;have e2:(", " : Str).length=2:=by decide +kernel
  have e3:("  [" : Str).length=3:=by decide +kernel
  have e4:("]" : Str).length=1:=by decide +kernel
  rw[ak] at hj hs;rw[e2] at hj;lk;show pM (by rw[e3];exact aex eN);show eB Fi Fy Fz;lk;refine ⟨rfl,?_⟩;lk;show CN hcs (by rw[ak,e2];exact aew hN fV hs);show pM (by rw[nJ,e3];exact aev hN eN fV hj);lk;show pM (by rw[nJ,nJ,e3,e4];exact aeu hN eN fV hj);have:=h m5 l5;rw[hsh] at this;exact this
end
end
section
section
variable {C:Cx} {A:TA} {n:Nat} {m:MH} {Q:V->MH->Prop} {g:GA} {G:Gr}
theorem Wi (T:aS C A) (o:G.Ok) (sm:G.Small) (hn:11<=n) (xg:cU A m g G)
  (h:∀ m' w u ad cl mb mk,G.j4->m.le m'->pO A m' w g G u ad cl mb mk->(∀ j p,G.bI[j]? = some p->∀ t,(mk j).testBit t=true->fP G (G.aq p.2) t)->Q (.ref w) m'):FC C (A.f 38) n [.ref g.g] m Q:=by
 ext C A n m Q g G;refine eG T 38 "lalr_view" ["grammar"] (eW hn) rfl (λenv ef=>?_) (by walk_at "bd1");k_is;lk;ext env;show cF T ef.toC 29;lk;refine M5 T o sm xg (zf (eg hn)) λm1 u ad l1 KP xu cJ=>?_;have cK:G.j4:=cJ;clear KP;ext m1 u ad;obtain ⟨bl,u1,u2,u3⟩:=id xu;have hk:=sm.len 200;change G.aU.length<=100 at hk;lk;ext bl;show pG T ef.toC 37 (aK (bK hn));lk;have u4:∀ i∈aj G.aU.length,∃ fs,m1 (ad i).s=some (.inst (A.cls 22) fs)/\fs.lookup ("kernel" : Str)=some (.ref (ad i).k):=λi hi=>by obtain ⟨⟨it,rd,s1,s2,s3⟩,s4,s5⟩:=u3 i (jV.mp hi);exact ⟨_,s1,rfl⟩
 obtain ⟨N,hN⟩:∃ N,G.aU.length=N:=⟨_,rfl⟩;rw[hN] at u2 u4 hk;ext N;refine wG (λi=>V.ref (ad i).s) (aj N) (λ_=>true) (λi=>V.ref (ad i).k) ef (by walk_at "cok") (by rw[aN];exact zz hk aI) (cC (λi=>V.ref (ad i).s) (aj N) ?_);show aA T 27 u1;refine ⟨_,rfl,u2,rfl,λj y hy=>by dsimp only;rw[bM,bH,hy];rfl,λmm hm=>hm _ _ u2,?_,?_⟩
 .intro cenv ec y hy mm hm;refine aM (ec.store ⋯) ⟨jI (by decide +kernel),?_⟩;refine ⟨rfl,hm,λ_=>?_⟩;obtain ⟨fs,f1,f2⟩:=u4 y hy;refine aA T 22 (hm _ _ f1) ?_ (hl:=f2);exact ⟨rfl,hm⟩
 intro mm c hm hc;rw[show (aj N).filter (λ_=>true)=aj N from tX.mpr λ_ _=>rfl];have l2:=hm.trans (MH.av (o:=.list ((aj N).map λi=>V.ref (ad i).k)) hc);have hcs:=MH.af mm c (.list ((aj N).map λi=>V.ref (ad i).k));generalize mm.set c (.list ((aj N).map λi=>V.ref (ad i).k))=m2 at l2 hcs ⊢;lk;show cF T ef.toC 34;lk;refine Zc T o sm cK (aK (bK hn)) (xg.le (l1.trans l2)) (xu.le l2) λm3 b mk l3 hb0 hb hf=>?_;lk;intro w hw;refine M7 (vs:=(.ref g.g,.ref u,.ref c,.ref b)) T (by omega) hw λm4 l4 KQ=>⟨rfl,?_⟩;exact h m4 w u ad c b _ cK (((l1.trans l2).trans l3).trans l4) ⟨KQ,xg.le (((l1.trans l2).trans l3).trans l4),xu.le ((l2.trans l3).trans l4),by rw[hN];exact l4 _ _ (l3 _ _ hcs),hb.le l4⟩ hf
theorem WJ (T:aS C A) (o:G.Ok) (sm:G.Small) (hn:11<=n) (xg:cU A m g G)
  (h:∀ m' w u ad cl mb mk,G.j4->m.le m'->pO A m' w g G u ad cl mb mk->(∀ j,mk j=G.i9 (G.aq (G.bI.getD j (0,0)).2))->Q (.ref w) m'):FC C (A.f 39) n [.ref g.g] m Q:=by
 ext C A n m Q g G;refine eG T 39 "slr_view" ["grammar"] (eW hn) rfl (λenv ef=>?_) (by walk_at "bd1");k_is;lk;ext env;show cF T ef.toC 29;lk;refine M5 T o sm xg (zf (eg hn)) λm1 u ad l1 KP xu cJ=>?_;have cK:G.j4:=cJ;clear KP;ext m1 u ad;obtain ⟨bl,u1,u2,u3⟩:=id xu;have hk:=sm.len 200;change G.aU.length<=100 at hk;lk;ext bl;show pG T ef.toC 37 (aK (bK hn));lk;have u4:∀ i∈aj G.aU.length,∃ fs,m1 (ad i).s=some (.inst (A.cls 22) fs)/\fs.lookup ("kernel" : Str)=some (.ref (ad i).k):=λi hi=>by obtain ⟨⟨it,rd,s1,s2,s3⟩,s4,s5⟩:=u3 i (jV.mp hi);exact ⟨_,s1,rfl⟩
 obtain ⟨N,hN⟩:∃ N,G.aU.length=N:=⟨_,rfl⟩;rw[hN] at u2 u4 hk;ext N;refine wG (λi=>V.ref (ad i).s) (aj N) (λ_=>true) (λi=>V.ref (ad i).k) ef (by walk_at "cok") (by rw[aN];exact zz hk aI) (cC (λi=>V.ref (ad i).s) (aj N) ?_);show aA T 27 u1;refine ⟨_,rfl,u2,rfl,λj y hy=>by dsimp only;rw[bM,bH,hy];rfl,λmm hm=>hm _ _ u2,?_,?_⟩
 .intro cenv ec y hy mm hm;refine aM (ec.store ⋯) ⟨jI (by decide +kernel),?_⟩;refine ⟨rfl,hm,λ_=>?_⟩;obtain ⟨fs,f1,f2⟩:=u4 y hy;refine aA T 22 (hm _ _ f1) ?_ (hl:=f2);exact ⟨rfl,hm⟩
 intro mm c hm hc;rw[show (aj N).filter (λ_=>true)=aj N from tX.mpr λ_ _=>rfl];have l2:=hm.trans (MH.av (o:=.list ((aj N).map λi=>V.ref (ad i).k)) hc);have hcs:=MH.af mm c (.list ((aj N).map λi=>V.ref (ad i).k));generalize mm.set c (.list ((aj N).map λi=>V.ref (ad i).k))=m2 at l2 hcs ⊢;lk;show cF T ef.toC 35;lk;refine Z6 T o sm (aK (bK hn)) (xg.le (l1.trans l2)) (xu.le l2) λm3 b l3 hb0 hb=>?_;lk;intro w hw;refine M7 (vs:=(.ref g.g,.ref u,.ref c,.ref b)) T (by omega) hw λm4 l4 KQ=>⟨rfl,?_⟩;exact h m4 w u ad c b _ cK (((l1.trans l2).trans l3).trans l4) ⟨KQ,xg.le (((l1.trans l2).trans l3).trans l4),xu.le ((l2.trans l3).trans l4),by rw[hN];exact l4 _ _ (l3 _ _ hcs),hb.le l4⟩ (λj=>rfl)
end
end
section
section
variable {C:Cx} {A:TA} {n:Nat} {m:MH} {Q:V->MH->Prop} {g:GA} {G:Gr}
theorem M8 (T:aS C A) (hn:1<=n) (hw:m w=none) (h:∀ m',m.le m'->m' w=some (.inst (A.cls 8) [("number",a),("left",b),("right",c),("level_of",d),("action",.none),("line",.int 0),("before",.int 0)])->Q .none m'):FC C (A.bZ 8 0) n [.ref w,a,b,c,d] (m.set w (.inst (A.cls 8) [])) Q:=by
 refine GK (D:=md 8 0) (qual:="Rule.__init__") (ds:=[.int (-1),.none,.int 0,.int 0]) ["self","number","left","right","level_of","action","line","before"] 3 T.rule hn rfl (by decide) (λenv ef=>?_) (λrargs t kV doc pm an cdv ct hla oB hlr=>?_) (by decide +kernel) (by decide) (by decide +kernel)
 .k_is;show b7 T 8;lk;refine ⟨w,_,rfl,MH.af _ _ _,(show (0:Nat) < 900 by decide),?_⟩;rw[MH.set_set];show b7 T 8;lk;refine ⟨w,_,rfl,MH.af _ _ _,(show (1:Nat) < 900 by decide),?_⟩;rw[MH.set_set];show b7 T 8;lk;refine ⟨w,_,rfl,MH.af _ _ _,(show (2:Nat) < 900 by decide),?_⟩;rw[MH.set_set];show b7 T 8;lk;refine ⟨w,_,rfl,MH.af _ _ _,(show (3:Nat) < 900 by decide),?_⟩;rw[MH.set_set];show b7 T 8;lk;refine ⟨w,_,rfl,MH.af _ _ _,(show (4:Nat) < 900 by decide),?_⟩;rw[MH.set_set];show b7 T 8;lk;refine ⟨w,_,rfl,MH.af _ _ _,(show (5:Nat) < 900 by decide),?_⟩;rw[MH.set_set];show b7 T 8;lk;refine ⟨w,_,rfl,MH.af _ _ _,(show (6:Nat) < 900 by decide),?_⟩;rw[MH.set_set];exact cX (h _ (MH.av hw) (MH.af _ _ _))
 .obtain ⟨_,_,_,_,_,rfl⟩:=Qa hla;obtain ⟨_,_,_,_,rfl⟩:=uQ hlr;exact ⟨_,rfl,by kernel_rfl⟩
theorem last_spec {a:Addr} {l:List Nat} {k:Nat} (T:aS C A) (hn:1<=n) (ha:m a=some (.tuple (l.map vn))) (hl:l.length<=100) (h:∀ i:Int,Q (.int i) m):FC C (A.f 11) n [.ref a,vn k] m Q:=by
 clear hl;ext C A n m Q a l k;refine eG T 11 "last_terminal" ["right","terminal_count"] hn rfl (λenv ef=>?_) (by walk_at "bd2");k_is;ext env;show fN (ef.store ⋯);refine C1 (zY ⟨_,rfl,?_⟩);obtain ⟨F,hF⟩:∃ F:List Nat->Int,∀ l,F l=l.foldl (λf x=>if x < k then (x:Int) else f) (-1):=⟨_,λ_=>rfl⟩;ext F;refine dw (λi=>[("found",.int (F (l.take i))),("right",.ref a),("terminal_count",vn k)]) (λi mm=>mm=m) (Cz vn l ?_);lk;refine ⟨_,rfl,ha,by rw[show F (l.take 0)=-1 by rw[hF];rfl];k_in,rfl,λi mm e=>e▸ha,?_,?_⟩
 .rintro i mm hi rfl;clear ha h;ext i mm;show bO;intro QQ bP;refine cy (getD_map hi) (aM (ef.store ⋯) ?_);have et:F (l.take (i+1))=if l[i] < k then (l[i]:Int) else F (l.take i):=by rw[hF,hF,take_snoc (aH hi),jh];rfl
  show ck;show cH;lk;refine sD ⟨_,rfl,λq=>?_,λq=>?_⟩
  .rw[decide_eq_true_eq] at q;rw[if_pos q] at et;lk;subst bP;exact aX (br (by rw[et];k_in) rfl)
  .rw[decide_eq_false_iff_not] at q;rw[if_neg q] at et;subst bP;exact aX (br (by rw[et];k_in) rfl)
 .rintro mm rfl;lk;exact h _
end
end
section
structure GW (m0:MH) (A:TA) (m:MH) (G:Gr) (w bl ol wl:Addr) (us:Nat->Addr) (F:Loc) (i:Nat):Prop where
 le:m0.le m
 self:m w=some (.inst (A.cls 9) F)
 qf:m bl=some (.list ((aj G.N).map λx=>.ref (us x)))
 nA:∀ x,x < G.N->m (us x)=some (.list (((aj i).filter λr=>G.aq r==x).map vn))
 offs:m ol=some (.list ((aj i).map λr=>vn (G.off r)))
 owns:m wl=some (.list ((kM 0 (G.rules.take i)).map vn))
section
variable {C:Cx} {A:TA} {n:Nat} {m:MH} {Q:V->MH->Prop} {G:Gr}
theorem Yn {w nl rl kg:Addr} {ru rr:Nat->Addr} {lv:Nat->V} (T:aS C A) (o:G.Ok) (hn:1<=n) (hw:m w=none) (hnl:m nl=some (.list (G.names.map .str))) (hrl:m rl=some (.list ((aj G.R).map λr=>.ref (ru r)))) (vI:∀ r,r < G.R->m (ru r)=some (.inst (A.cls 8) [("number",vn r),("left",vn (G.aq r)),("right",.ref (rr r)),("level_of",lv r),("action",.none),("line",.int 0),("before",.int 0)])) (hrr:∀ r,r < G.R->m (rr r)=some (.tuple ((G.ai r).map vn))) (h:∀ m' g,m.le m'->g.g=w->cU A m' g G->Q .none m'):FC C (A.bZ 9 0) n [.ref w,.ref nl,vn G.T,.ref rl,.ref kg,.none,vn (G.T+1)] (m.set w (.inst (A.cls 9) [])) Q:=by
 have hN:=Gr.N8 o;have hR:=o.r5;ext C A n m Q G w nl rl kg ru rr lv;refine dX T 9 0 "__init__" "Grammar.__init__" ["self","names","terminal_count","rules","levels","expect","start"] hn rfl (λenv ef=>?_) (by intro r _ _ _ _ _ _ hl;obtain ⟨_,_,_,_,_,_,_,hr⟩:=ae9 hl;subst hr;kernel_rfl);k_is;ext env;show b7 T 9;lk;refine ⟨w,_,rfl,MH.af _ _ _,(show (0:Nat) < 900 by decide),?_⟩;rw[MH.set_set];show b7 T 9;lk;refine ⟨w,_,rfl,MH.af _ _ _,(show (1:Nat) < 900 by decide),?_⟩;rw[MH.set_set];show b7 T 9;lk;refine ⟨w,_,rfl,MH.af _ _ _,(show (2:Nat) < 900 by decide),?_⟩;rw[MH.set_set];show b7 T 9;lk;refine ⟨w,_,rfl,MH.af _ _ _,(show (3:Nat) < 900 by decide),?_⟩;rw[MH.set_set];show b7 T 9;lk;refine ⟨w,_,rfl,MH.af _ _ _,(show (4:Nat) < 900 by decide),?_⟩;rw[MH.set_set];show b7 T 9;lk;refine ⟨w,_,rfl,MH.af _ _ _,(show (5:Nat) < 900 by decide),?_⟩;rw[MH.set_set];obtain ⟨F6,Ez⟩:∃ F:Loc,F=([("names",.ref nl),("terminal_count",vn G.T),("rules",.ref rl),("levels",.ref kg),("expect",.none),("start",vn (G.T+1))]:Loc):=⟨_,rfl⟩;change WS C (n - 1) env _ _ (m.set w (.inst (A.cls 9) [("names",.ref nl),("terminal_count",vn G.T),("rules",.ref rl),("levels",.ref kg),("expect",.none),("start",vn (G.T+1))])) _;rw[<-Ez];have l1:=MH.av (o:=.inst (A.cls 9) F6) hw;have w1:=MH.af m w (.inst (A.cls 9) F6);generalize m.set w (.inst (A.cls 9) F6)=m1 at l1 w1 ⊢;ext F6 m1;show b7 T 9;show Gj (ta:=nl) ef (by walk_at "cok") (by decide +kernel) (by decide) (k:=G.N) (xs:=G.names.map .str) (by rw[ak];rfl) (zz hN aI) ?_
 .refine aA T 9 w1 ?_ (hl:=by rw[Ez];rfl);exact ⟨rfl,rfl,l1 _ _ hnl⟩
 intro m2 bl us l2 afU fV EA huj;lk;ext m2 bl us;refine ⟨w,_,rfl,l2 _ _ w1,by rw[Ez];exact of_decide_eq_true rfl,?_⟩;obtain ⟨F7,vG⟩:∃ F:Loc,F=([("names",.ref nl),("terminal_count",vn G.T),("rules",.ref rl),("levels",.ref kg),("expect",.none),("start",vn (G.T+1)),("by_left",.ref bl)]:Loc):=⟨_,rfl⟩;rw[show cj "by_left" (.ref bl) F6=F7 by rw[Ez,vG];rfl];have mF:=(l1.trans l2).set (o:=.inst (A.cls 9) F7) hw;have w2:=l2 _ _ w1;have KR:=bz (fs':=F7) w2 fV bX;have tw:∀ y,y < G.N->(m2.set w (.inst (A.cls 9) F7)) (us y)=some (.list []):=λy hy=>bz (fs':=F7) w2 (EA y hy).1 bX;have w3:=MH.af m2 w (.inst (A.cls 9) F7);have mus:∀ y,y < G.N->m (us y)=none:=λy hy=>l1.new (EA y hy).2;have usb:∀ y,y < G.N->us y≠bl:=λy hy=>(EA y hy).3;have mbl:=l1.new afU;clear fV EA w2 w1;generalize m2.set w (.inst (A.cls 9) F7)=m3 at mF KR tw w3 ⊢;ext F7 m3;show b7 T 9;refine bR (cM ⟨by simp,λol EB=>?_⟩);have l3:=MH.av (o:=.list []) EB;lk;ext ol;refine ⟨w,_,rfl,l3 _ _ w3,by rw[vG];exact of_decide_eq_true rfl,?_⟩;obtain ⟨F8,kB⟩:∃ F:Loc,F=([("names",.ref nl),("terminal_count",vn G.T),("rules",.ref rl),("levels",.ref kg),("expect",.none),("start",vn (G.T+1)),("by_left",.ref bl),("offsets",.ref ol)]:Loc):=⟨_,rfl⟩;rw[show cj "offsets" (.ref ol) F7=F8 by rw[vG,kB];rfl];have mol:=mF.new EB;have oK:=(mF.trans l3).set (o:=.inst (A.cls 9) F8) hw;have KS:=bz (fs':=F8) (l3 _ _ w3) (l3 _ _ KR) bX;have xP:∀ y,y < G.N->((m3.set ol (.list [])).set w (.inst (A.cls 9) F8)) (us y)=some (.list []):=λy hy=>bz (fs':=F8) (l3 _ _ w3) (l3 _ _ (tw y hy)) bX;have KU:=bz (fs':=F8) (l3 _ _ w3) (MH.af m3 ol (.list [])) bX;have w4:=MH.af (m3.set ol (.list [])) w (.inst (A.cls 9) F8);have Te:∀ y,y < G.N->us y≠ol:=λy hy=>MH.aE (tw y hy) EB;have blo:bl≠ol:=MH.aE KR EB;generalize (m3.set ol (.list [])).set w (.inst (A.cls 9) F8)=m4 at oK KS xP KU w4 ⊢;ext F8 m4;show b7 T 9;refine bR (cM ⟨by simp,λwl hwl=>?_⟩);have l4:=MH.av (o:=.list []) hwl;lk;ext wl;refine ⟨w,_,rfl,l4 _ _ w4,by rw[kB];exact of_decide_eq_true rfl,?_⟩;obtain ⟨F9,lB⟩:∃ F:Loc,F=([("names",.ref nl),("terminal_count",vn G.T),("rules",.ref rl),("levels",.ref kg),("expect",.none),("start",vn (G.T+1)),("by_left",.ref bl),("offsets",.ref ol),("owners",.ref wl)]:Loc):=⟨_,rfl⟩;rw[show cj "owners" (.ref wl) F8=F9 by rw[kB,lB];rfl];have mwl:=oK.new hwl;have EC:GW m A ((m4.set wl (.list [])).set w (.inst (A.cls 9) F9)) G w bl ol wl us F9 0:={
  le:=(oK.trans l4).set (o:=.inst (A.cls 9) F9) hw
  self:=MH.af _ _ _
  qf:=bz (fs':=F9) (l4 _ _ w4) (l4 _ _ KS) bX
  nA:=λy hy=>bz (fs':=F9) (l4 _ _ w4) (l4 _ _ (xP y hy)) bX
  offs:=bz (fs':=F9) (l4 _ _ w4) (l4 _ _ KU) bX
  owns:=bz (fs':=F9) (l4 _ _ w4) (MH.af m4 wl (.list [])) bX }
 have Tf:∀ y,y < G.N->us y≠wl:=λy hy=>MH.aE (xP y hy) hwl;have blw:bl≠wl:=MH.aE KS hwl;have Tg:ol≠wl:=MH.aE KU hwl;generalize (m4.set wl (.list [])).set w (.inst (A.cls 9) F9)=m5 at EC ⊢;have KO:∀ r,r < G.R->G.aq r < G.N:=λr hr=>by
  rcases nO r with q | q
  .rw[q,o.l0];have:=o.nT;exact dN jP this
  .exact C8 o.nT (o.lN r q hr)
 ext F9 m5;refine dw (λ_=>[("self",.ref w)]) (λi mm=>GW m A mm G w bl ol wl us F9 i) (cC (λr=>V.ref (ru r)) (aj G.R) ?_);refine aA T 9 EC.self ?_ (hl:=by rw[lB];rfl);refine ⟨rl,rfl,EC.le _ _ hrl,by k_in,EC,λi mm x=>x.le _ _ hrl,?_,?_⟩
 .intro i mm hi x;ext i mm;show bO;intro QQ bP;rw[aN] at hi;ext QQ;refine cy (w:=.ref (ru i)) (by dsimp only;rw[bM,aW _ hi];rfl) (aM (ef.store ⋯) ?_);have hli:=KO i hi;have DG:=vI i hi;have afV:=hrr i hi;have xd:=o.len i;have hown:(kM 0 (G.rules.take i)).length=G.off i:=by
   rw[NL,nR,rO (show i<=G.rules.length from fy hi)];exact Nq _ _ _ (aL _)
  have Q8:G.off i<=20:=by have h1:=Gr.r6 (G:=G) (r:=i) (d:=0) hi (bk _);have h2:=Gr.n8 o;unfold Gr.item at h1;exact zf (zl (sS h1) h2)
  refine gu (eB gn lE lF ?_);lk;refine aA T 9 x.self ?_ (hl:=by rw[lB];rfl);lk;show aA T 8 (x.le _ _ DG);show aJ x.qf (aW _ hli) (by rw[ak,aN];exact zm hN (ao rfl));refine ⟨gG (x.nA _ hli),?_⟩;lk;show aA T 8 (x.le _ _ DG);lk;show kG (x.nA _ hli) (by have:=kD (λr=>G.aq r==G.aq i) (aj i);rw[aN] at this;rw[ak];exact zm (zz this (zf (zl hi hR))) (ao rfl));have hwu:w≠us (G.aq i):=λe=>by have:=x.nA _ hli;rw[<-e,x.self] at this;cases this
  have y1:m.le (mm.set (us (G.aq i)) (.list (((aj i).filter λr=>G.aq r==G.aq i).map vn++[vn i]))):=x.le.set (mus _ hli);have y2:=MH.ay (o':=.list (((aj i).filter λr=>G.aq r==G.aq i).map vn++[vn i])) x.self hwu;have y3:=MH.ay (o':=.list (((aj i).filter λr=>G.aq r==G.aq i).map vn++[vn i])) x.qf (λe=>usb _ hli e.symm);have y5:=MH.ay (o':=.list (((aj i).filter λr=>G.aq r==G.aq i).map vn++[vn i])) x.offs (λe=>Te _ hli e.symm);have y6:=MH.ay (o':=.list (((aj i).filter λr=>G.aq r==G.aq i).map vn++[vn i])) x.owns (λe=>Tf _ hli e.symm);have y4:∀ y,y < G.N->(mm.set (us (G.aq i)) (.list (((aj i).filter λr=>G.aq r==G.aq i).map vn++[vn i]))) (us y)=some (.list (((aj (i+1)).filter λr=>G.aq r==y).map vn)):=λy hy=>by
   by_cases q:y=G.aq i
   .subst q;rw[MH.af,jD,jU];simp
   .rw[MH.ay (x.nA y hy) (λe=>q (huj y _ hy hli e)),jD,jU];have:(G.aq i==y)=false:=by rw[beq_eq_false_iff_ne];exact λe=>q e.symm
    simp[this]
  generalize mm.set (us (G.aq i)) (.list (((aj i).filter λr=>G.aq r==G.aq i).map vn++[vn i]))=k1 at y1 y2 y3 y4 y5 y6 ⊢;refine gu (eB gn lE lF ?_);refine aA T 9 y2 ?_ (hl:=by rw[lB];rfl);refine ⟨gG y5,?_⟩;lk;show bY T ef.toC (by rfl);lk;refine aA T 9 y2 ?_ (hl:=by rw[lB];rfl);lk;show fz y6 (by rw[ak,hown];exact zm Q8 (ao rfl));rw[ak,hown];lk;show kG y5 (by rw[ak,aN];exact zl hi (zz hR (zb rfl)));rw[show (aj i).map (λr=>vn (G.off r))++[vn (G.off i)]=(aj (i+1)).map λr=>vn (G.off r) by rw[jD,aV];rfl];have hwo:w≠ol:=λe=>by rw[<-e,y2] at y5;cases y5
  have z1:=y1.set (o:=.list ((aj (i+1)).map λr=>vn (G.off r))) mol;have z2:=MH.ay (o':=.list ((aj (i+1)).map λr=>vn (G.off r))) y2 hwo;have z3:=MH.ay (o':=.list ((aj (i+1)).map λr=>vn (G.off r))) y3 blo;have z4:=λy (hy:y < G.N)=>MH.ay (o':=.list ((aj (i+1)).map λr=>vn (G.off r))) (y4 y hy) (Te y hy);have z5:=MH.af k1 ol (.list ((aj (i+1)).map λr=>vn (G.off r)));have z6:=MH.ay (o':=.list ((aj (i+1)).map λr=>vn (G.off r))) y6 (λe=>Tg e.symm);generalize k1.set ol (.list ((aj (i+1)).map λr=>vn (G.off r)))=k2 at z1 z2 z3 z4 z5 z6 ⊢;refine gu (eB gn Vn F.type_list_extend ?_);refine aA T 9 z2 ?_ (hl:=by rw[lB];rfl);refine ⟨gG z6,?_⟩;lk;show bR;lk;show aA T 8 (z1 _ _ DG);lk;refine ⟨by exact fF _,λc1 hc1=>?_⟩;have tP:=MH.av (o:=.list [vn i]) hc1;have Bw:=MH.af k2 c1 (.list [vn i]);generalize k2.set c1 (.list [vn i])=k3 at tP Bw ⊢;lk;show bY T ef.toC (by rfl);lk;show aA T 8 (tP _ _ (z1 _ _ DG));lk;show wc (tP _ _ (z1 _ _ afV)) (by rw[ak];exact zm xd (ao rfl));rw[ak];lk;show lP;refine z9 (k:=(G.ai i).length+1) Bw (zm xd (ao rfl)) λc2 hc2=>?_;have rD:=tP.trans (MH.av (o:=.list (iP ((G.ai i).length+1) (vn i))) hc2);have rE:=MH.af k3 c2 (.list (iP ((G.ai i).length+1) (vn i)));generalize k3.set c2 (.list (iP ((G.ai i).length+1) (vn i)))=k4 at rD rE ⊢;lk;show YK (rD _ _ z6) rE (by rw[ak,hown,yz];exact zm (dO Q8 (uZ xd)) (ao rfl));have eo:(kM 0 (G.rules.take i)).map vn++iP ((G.ai i).length+1) (vn i)=(kM 0 (G.rules.take (i+1))).map vn:=by rw[take_snoc (Gr.get hi),Xn,aV,List.map_replicate,nR,rO (show i<=G.rules.length from fy hi),fG];rfl
  rw[eo];subst bP;refine br (by k_in) { le:=(z1.trans rD).set mwl,self:=?_,qf:=MH.ay (rD _ _ z3) blw,nA:=λy hy=>MH.ay (rD _ _ (z4 y hy)) (Tf y hy),offs:=MH.ay (rD _ _ z5) Tg,owns:=MH.af _ _ _ };have hww:w≠wl:=λe=>by rw[<-e,z2] at z6;cases z6
  exact MH.ay (rD _ _ z2) hww
 .intro mm x;rw[aN] at x;have hM:(kM 0 (G.rules.take G.R))=G.own:=by unfold Gr.own Gr.R;rw[dW]
  have hMl:=Gr.n8 o;ext mm;show b7 T 9;show bY T ef.toC (by rfl);lk;refine aA T 9 x.self ?_ (hl:=by rw[lB];rfl);lk;have hx:=x.owns;rw[hM] at hx;show fz hx (by rw[ak];change G.M < _;exact zm hMl (ao rfl));rw[ak];lk;refine ⟨w,_,rfl,x.self,by rw[lB];exact of_decide_eq_true rfl,?_⟩;rw[show cj "item_count" (vn G.own.length) F9=JG G { g:=w,nl:=nl,rl:=rl,kg:=kg,bl:=bl,ol:=ol,wl:=wl,ru:=ru,rr:=rr,bs:=us } by rw[lB];rfl];have lx:=x.le.set (o:=.inst (A.cls 9) (JG G { g:=w,nl:=nl,rl:=rl,kg:=kg,bl:=bl,ol:=ol,wl:=wl,ru:=ru,rr:=rr,bs:=us })) hw;refine cX (h _ { g:=w,nl:=nl,rl:=rl,kg:=kg,bl:=bl,ol:=ol,wl:=wl,ru:=ru,rr:=rr,bs:=us } lx rfl { self:=MH.af _ _ _,names:=lx _ _ hnl,rules:=lx _ _ hrl,rule:=⟨lv,λr hr=>lx _ _ (vI r hr)⟩,right:=λr hr=>lx _ _ (hrr r hr),qf:=bz x.self x.qf bX,nA:=λy hy=>bz x.self (x.nA y hy) bX,offs:=bz x.self x.offs bX,owns:=bz x.self hx bX })
end
end
section
section
variable {C:Cx} {A:TA} {n:Nat} {env:Env} {loc:Loc} {m:MH} {Q:V->MH->Prop}
theorem XD (h:IsPart r (some (Int.ofNat k))):∃ t,r=.int (k:Nat) t:=by cases h;exact ⟨_,rfl⟩
theorem XE (h:IsPart r none):r=.none:=by cases h;rfl
theorem Z7 (h:WE C n env value loc m λv m1=>WE C n env upper loc m1 λu m2=>u=.int 1/\∃ x,v=.str x/\(x=("s" : Str)\/x=("t" : Str))/\Q v m2)
  (ht:∀ o r,letTemporaryGo value o r=pure ():=by intro _ _;rfl):WE C n env (.Subscript value (.Slice none (some upper) none p) pos) loc m Q:=by
 intro P A s R hr x kk;refine wpAny_Subscript_str_slice (h P A s _ hr x λr v m1 s1 hv x1 h1=>rZ (n:=n) (loc:=loc) (part:=none) hr x1 (zS (Q:=λlo m2=>lo=none/\m2=m1) ⟨rfl,rfl⟩) λrl l m2 s2 hl x2 h2=>rZ hr x2 (uz (Q:=λlo m3=>lo=some 1/\∃ y,v=.str y/\(y=("s" : Str)\/y=("t" : Str))/\Q v m3) ?_) λru u m3 s3 hu x3 h3=>?_) ht
 .obtain ⟨rfl,rfl⟩:=h2;exact h1.mono λu m' z_=>by obtain ⟨e1,y,e2,e3,e4⟩:=z_;exact ⟨1,e1,rfl,y,e2,e3,e4⟩
 .obtain ⟨rfl,rfl⟩:=h2;obtain ⟨rfl,y,rfl,e3,e4⟩:=h3;obtain ⟨t,rfl⟩:=XD (k:=1) hu;obtain rfl:=XE hl;obtain ⟨tv,rfl⟩:=fX hv;refine ⟨y,tv,none,some (1,t),rfl,rfl,rfl,?_⟩;obtain ⟨d,x3⟩:=x3;obtain ⟨z,back⟩:=(x3.push { cls:=.type "slice",data:=.fields #[.none,.int 1 t,.none] } s3.toks).frame;have e5:sliceMade y tv none (some (1,t)) none=.val (.str y tv):=by
   rcases e3 with rfl | rfl<;>kernel_rfl
  rw[e5];exact kk _ (.str y) _ _ rfl ⟨d,back _ _ _ z⟩ e4
theorem WK (hb:C.base.get? a=some o) (hc:o.cls=.type "tuple") (hod:o.dict=none) (hd:o.data=.seq ws.toArray k) (he:aD ws xs) (hl:xs.length<=2 ^ 20) (h:∀ b,m b=none->Q (.ref b) (m.set b (.list xs))):∀ rs,aD rs [.ref a]->TR C n (call (.type "list") rs) m Q:=by intro rs hrs;obtain ⟨r,rs',rfl,h1,h2⟩:=hrs.cons_inv;rw[h2.nil_inv,bD h1];rintro P A s R hr ⟨d,x⟩ kk;have g:=x.keep _ _ (x.base _ _ hb);refine MB a (.inr rfl) g hc hd (λh' c' hk hn=>?_) (by rw[cV,he.length,dZ];exact zz hl aI);obtain ⟨z,hz⟩:=x.lS (t:=s.toks) (o:=.list xs) hk (aL _) (by intro _ _ e;cases e) λ_=>⟨ws,c',hn,he⟩;exact kk _ (.ref s.heap.objs.size) _ _ rfl ⟨d,z⟩ (h _ hz)
end
end
section
noncomputable abbrev Pr:=Str×List Str
noncomputable def j6 (y:Str):Prop:=y=("a" : Str)\/y=("b" : Str)\/y = "s"\/y = "t"
noncomputable def sM (y:Str):Prop:=y = "s"\/y = "t"
structure aT (P:List Pr):Prop where
 shape:∃ r1 x e more,P=(("s" : Str),r1)::(("s" : Str),[x])::(("t" : Str),e)::more/\(x=("a" : Str)\/x = "b")/\(e=[]\/e=[("a" : Str)])/\(more=[]\/∃ q,more=[q])
 left:∀ p∈P,sM p.1
 len:∀ p∈P,p.2.length<=3
 right:∀ p∈P,∀ y∈p.2,j6 y
noncomputable def mu (acc:List Str) (y:Str):List Str:=if (y≠("s" : Str)/\y≠("t" : Str))/\y∉acc then acc++[y] else acc
noncomputable def jr:List Str:=["$end","error","$undefined"]
noncomputable def iD (P:List Pr):List Str:=(P.flatMap (·.2)).foldl mu jr
noncomputable def bW (P:List Pr):List Str:=iD P++[("$accept" : Str),"s","t"]
noncomputable def aa (P:List Pr):Gr:={ names:=bW P,T:=(iD P).length,rules:=((iD P).length,[(iD P).length+1,0])::P.map λp=>((bW P).idxOf p.1,p.2.map (bW P).idxOf) }
noncomputable def sN (ts:List Str):Prop:=ts.Nodup/\∀ y∈ts,y=("a" : Str)\/y = "b"
theorem abh (h:sN ts) (hy:j6 y):∃ ts',mu (jr++ts) y=jr++ts'/\sN ts'/\(∀ z∈ts,z∈ts')/\((y=("a" : Str)\/y=("b" : Str))->y∈ts'):=by
 ext ts y;unfold mu;split
 .rename_i q;obtain ⟨⟨q1,q2⟩,q3⟩:=q;have hab:y=("a" : Str)\/y=("b" : Str):=by
   rcases hy with h | h | h | h
   .exact .inl h
   .exact .inr h
   .exact absurd h q1
   .exact absurd h q2
  refine ⟨ts++[y],by rw[gX],⟨?_,?_⟩,λz hz=>tU _ hz,λ_=>by exact oR _ aZ⟩
  .rw[lG];refine ⟨h.1,by exact of_decide_eq_true rfl,λa ha b hb=>?_⟩;rw[bQ] at hb;subst hb;intro e;subst e;exact q3 (oR _ ha)
  .intro z hz;rcases bN.mp hz with hz | hz
   .exact h.2 z hz
   .rw[bQ] at hz;subst hz;exact hab
 .rename_i q;refine ⟨ts,rfl,h,λ_ hz=>hz,λhab=>?_⟩;have q1:y≠("s" : Str)/\y≠("t" : Str):=by rcases hab with rfl | rfl<;>decide +kernel
  have q2:y∈jr++ts:=agO λr=>q ⟨q1,r⟩;rcases bN.mp q2 with r | r
  .exfalso;revert r;rcases hab with rfl | rfl<;>decide +kernel
  .exact r
theorem OM:∀ (l:List Str) {ts:List Str},sN ts->(∀ y∈l,j6 y)->∃ ts',l.foldl mu (jr++ts)=jr++ts'/\sN ts'/\(∀ z∈ts,z∈ts')/\∀ y∈l,(y=("a" : Str)\/y=("b" : Str))->y∈ts':=by
 intro l_;induction l_ with
 | nil=>
  intro ts h _;exact ⟨ts,rfl,h,λ_ hz=>hz,λ_ hy=>(by cases hy)⟩
 | cons y l ih=>
  intro ts h hl;obtain ⟨t1,e1,k1,m1,n1⟩:=abh h (hl y aZ);obtain ⟨t2,e2,k2,m2,n2⟩:=ih k1 λz hz=>hl z (b9 _ hz);refine ⟨t2,by rw[nV,e1,e2],k2,λz hz=>m2 z (m1 z hz),λz hz hz'=>?_⟩;rcases b8.mp hz with rfl | hz
  .exact m2 _ (n1 hz')
  .exact n2 z hz hz'
theorem N9 (h:sN ts):ts.length<=2:=by
 have:ts ⊆ [("a" : Str),"b"]:=λy hy=>by rcases h.2 y hy with rfl | rfl<;>simp
 exact h.1.length_le_of_subset this
theorem aT.Th (p:aT P):∃ ts,iD P=jr++ts/\sN ts/\1<=ts.length/\∀ q∈P,∀ y∈q.2,(y=("a" : Str)\/y=("b" : Str))->y∈ts:=by
 ext P;obtain ⟨ts,e,k,_,h⟩:=OM (P.flatMap (·.2)) (ts:=[]) ⟨by simp,λ_ h=>(by cases h)⟩ λy hy=>by obtain ⟨q,hq,hy⟩:=nQ.mp hy;exact p.right q hq y hy
 refine ⟨ts,e,k,?_,λq hq y hy=>h y (nQ.mpr ⟨q,hq,hy⟩)⟩;obtain ⟨r1,x,e1,more,rfl,hx,_⟩:=p.shape;have:=h x (nQ.mpr ⟨(("s" : Str),[x]),by exact .tail _ (.head _),by exact aZ⟩) hx;exact UW this
end
section
theorem Yo (h:sN ts) (h1:1<=ts.length):ts=[("a" : Str)]\/ts=[("b" : Str)]\/ts=[("a" : Str),"b"]\/ts=[("b" : Str),"a"]:=by
 have h2:=N9 h;obtain ⟨hn,hm⟩:=h;rcases ts with _ | ⟨x,_ | ⟨y,_ | ⟨z,r⟩⟩⟩
 .cases h1
 .rcases hm x (aZ) with rfl | rfl
  .exact .inl rfl
  .exact .inr (.inl rfl)
 .have hxy:x≠y:=λe=>(nU.mp hn).1 (e▸aZ);rcases hm x (aZ) with rfl | rfl<;>rcases hm y (.tail _ (.head _)) with rfl | rfl
  .exact absurd rfl hxy
  .exact .inr (.inr (.inl rfl))
  .exact .inr (.inr (.inr rfl))
  .exact absurd rfl hxy
 .exact absurd h2 (Gm.mpr (Fp 3 r.length))
structure Ti (nm:List Str) (k:Nat):Prop where
 len:nm.length=k+3
 nd:nm.Nodup
 k4:4<=k
 k5:k<=5
 e0:nm[0]? = some ("$end" : Str)
 eA:nm[k]? = some ("$accept" : Str)
 eS:nm[k+1]? = some ("s" : Str)
 eT:nm[k+2]? = some ("t" : Str)
 wid:∀ x∈nm,x.length<=20
theorem acE (h:sN ts) (h1:1<=ts.length):Ti (jr++ts++[("$accept" : Str),"s","t"]) (jr++ts).length:=by
 rcases Yo h h1 with rfl | rfl | rfl | rfl
 all_goals exact ⟨by decide +kernel,by decide +kernel,by decide +kernel,by decide +kernel,by decide +kernel,by decide +kernel,by decide +kernel,by decide +kernel,by decide +kernel⟩
theorem aT.rF (p:aT P):Ti (bW P) (iD P).length:=by obtain ⟨ts,e,k,h,_⟩:=p.Th;unfold bW;rw[e];exact acE k h
theorem aT.mem (p:aT P) (hq:q∈P) (hy:y∈q.2):y∈bW P:=by
 obtain ⟨ts,e,k,h,hm⟩:=p.Th;unfold bW;rw[e];rcases p.right q hq y hy with q' | q' | q' | q'
 .exact tU _ (oR _ (hm q hq y hy (.inl q')))
 .exact tU _ (oR _ (hm q hq y hy (.inr q')))
 .rw[q'];exact oR _ (.tail _ (.head _))
 .rw[q'];exact oR _ (.tail _ (.tail _ (.head _)))
theorem se {nm:List Str} {i:Nat} {y:Str} (hn:nm.Nodup) (h:nm[i]? = some y):nm.idxOf y=i:=by obtain ⟨h1,h2⟩:=bU.mp h;rw[<-h2];exact hn.idxOf_getElem i h1
theorem CQ (h:P[r]? = some q):(aa P).ju (r+1)=((bW P).idxOf q.1,q.2.map (bW P).idxOf):=by unfold Gr.ju aa;simp only[Vj];rw[bM,bH,h];rfl
theorem ON (h:P.length<=r):(aa P).ju (r+1)=(0,[]):=by unfold Gr.ju aa;simp only[Vj];rw[bM,jC (by rw[ak];exact h)];rfl
theorem iW {P:List Pr} (p:aT P):(aa P).Ok:=by
 have nk:=p.rF;have hR:(aa P).R=P.length+1:=by unfold Gr.R aa;simp
 have hl:P.length=3\/P.length=4:=by
  obtain ⟨r1,x,e,more,rfl,_,_,hm⟩:=p.shape;rcases hm with rfl | ⟨q,rfl⟩
  .exact .inl rfl
  .exact .inr rfl
 have iS:=se nk.nd nk.eS;have iT:=se nk.nd nk.eT;have h0:(aa P).ju 0=((iD P).length,[(iD P).length+1,0]):=rfl;have Ao:∀ r,(aa P).ju (r+1)=(0,[])\/∃ q,q∈P/\P[r]? = some q/\(aa P).ju (r+1)=((bW P).idxOf q.1,q.2.map (bW P).idxOf):=λr=>by
  cases h:P[r]? with
  | none=>exact .inl (ON (yw.mp h))
  | some q=>exact .inr ⟨q,bC h,rfl,CQ h⟩
 have hge:∀ {q:Pr},q∈P->∀ {y:Str},y∈q.2->(bW P)[(bW P).idxOf y]? = some y/\(bW P).idxOf y < (bW P).length:=λ{q} hq {y} hy=>by have hm:=qx.mpr (p.mem hq hy);exact ⟨by rw[aH hm,yF],hm⟩
 have hne:∀ {q:Pr},q∈P->∀ {y:Str},y∈q.2->y≠("$accept" : Str)/\y≠("$end" : Str):=λ{q} hq {y} hy=>by rcases p.right _ hq y hy with rfl | rfl | rfl | rfl<;>exact ⟨by decide +kernel,by decide +kernel⟩
 ext P;refine ⟨nk.nd,nk.len,nk.k4,nk.k5,zz (uZ (hl.elim pW λe=>zz (zb rfl) (pW e))) (pW hR),dm hR (uZ (hl.elim (λe=>zz (ze e) (zb rfl)) ze)),rfl,?_,?_,?_,?_,rfl,?_⟩
 .intro r hr hr2;obtain ⟨r,rfl⟩:∃ j,r=j+1:=⟨r - 1,pY hr⟩;clear hr;ext r;unfold Gr.aq;rcases Ao r with h | ⟨q,hq,_,h⟩
  .exfalso;have h3:r < P.length:=zv (pV hr2 hR);have:=CQ (P:=P) (aH h3);rw[h] at this;have h5:(bW P).idxOf (P[r]).1=0:=(congrArg Prod.fst this).symm;rcases p.left _ (cW h3) with e | e
   .rw[e,iS] at h5;exact RM h5
   .rw[e,iT] at h5;exact RM h5
  .rw[h];rcases p.left q hq with e | e<;>rw[e]
   .exact .inl iS
   .exact .inr iT
 .intro r x hx;ext r x;unfold Gr.ai at hx;change x < (bW P).length;cases r with
  | zero=>rw[h0] at hx;have:=nk.len;simp at hx;exact hx.elim (λe=>fK e (dN (i6 (ao rfl)) this)) λe=>fK e (dN j8 this)
  | succ r=>
   ext r;rcases Ao r with h | ⟨q,hq,_,h⟩
   .rw[h] at hx;cases hx
   .rw[h] at hx;obtain ⟨y,hy,rfl⟩:=aQ.mp hx;exact (hge hq hy).2
 .intro r hx;unfold Gr.ai at hx;change (iD P).length∈_ at hx;cases r with
  | zero=>
   rw[h0] at hx;have:=nk.k4;rcases b8.mp hx with h | h
   .exact mz zx h
   .rw[bQ] at h;exact sW (lV this) h
  | succ r=>
   ext r;rcases Ao r with h | ⟨q,hq,_,h⟩
   .rw[h] at hx;cases hx
   .rw[h] at hx;obtain ⟨y,hy,e⟩:=aQ.mp hx;have:=(hge hq hy).1;rw[e,nk.eA] at this;exact (hne hq hy).1 (c8 this).symm
 .intro r;unfold Gr.ai;cases r with
  | zero=>rw[h0];exact (show (2:Nat)<=3 by decide)
  | succ r=>
   rcases Ao r with h | ⟨q,hq,_,h⟩
   .rw[h];exact bk _
   .rw[h,ak];exact p.len q hq
 .intro r hr hx;unfold Gr.ai at hx;obtain ⟨r,rfl⟩:∃ j,r=j+1:=⟨r - 1,pY hr⟩;clear hr;ext r;rcases Ao r with h | ⟨q,hq,_,h⟩
  .rw[h] at hx;cases hx
  .rw[h] at hx;obtain ⟨y,hy,e⟩:=aQ.mp hx;have:=(hge hq hy).1;rw[e,nk.e0] at this;exact (hne hq hy).2 (c8 this).symm
end
section
noncomputable def jL (m:MH) (pl:Addr) (P:List Pr) (tp pa:Nat->Addr):Prop:=
 m pl=some (.list ((aj P.length).map λi=>.ref (tp i)))/\∀ i q,P[i]? = some q->m (tp i)=some (.tuple [.str q.1,.ref (pa i)])/\m (pa i)=some (.list (q.2.map .str))
theorem jL.le (x:jL m pl P tp pa) (h:m.le m'):jL m' pl P tp pa:=
 ⟨h _ _ x.1,λi q hq=>⟨h _ _ (x.2 i q hq).1,h _ _ (x.2 i q hq).2⟩⟩
noncomputable def gO (acc:List Str) (q:Pr):List Str:=if q.1∈acc then acc else acc++[q.1]
theorem aT.afW (p:aT P):P.foldl gO []=[("s" : Str),"t"]:=by
 obtain ⟨r1,x,e,more,rfl,_,_,hm⟩:=p.shape;have h3:([(("s" : Str),r1),(("s" : Str),[x]),(("t" : Str),e)]:List Pr).foldl gO []=[("s" : Str),"t"]:=by have e1:gO [] (("s" : Str),r1)=[("s" : Str)]:=rfl;have e2:gO [("s" : Str)] (("s" : Str),[x])=[("s" : Str)]:=if_pos (aZ);have e3:gO [("s" : Str)] (("t" : Str),e)=[("s" : Str),"t"]:=if_neg (show ¬ ("t" : Str)∈[("s" : Str)] by decide +kernel);rw[nV,e1,nV,e2,nV,e3];rfl
 rcases hm with rfl | ⟨q,rfl⟩
 .exact h3
 .have hq:=p.left q (.tail _ (.tail _ (.tail _ (.head _))));change ([(("s" : Str),r1),(("s" : Str),[x]),(("t" : Str),e),q]:List Pr).foldl gO []=_;rw[show ([(("s" : Str),r1),(("s" : Str),[x]),(("t" : Str),e),q]:List Pr)=[(("s" : Str),r1),(("s" : Str),[x]),(("t" : Str),e)]++[q] from rfl,jh,h3];change gO _ q=_;unfold gO;rcases hq with h | h<;>rw[h]<;>simp
theorem Z8:∀ (l:List Pr) (acc:List Str),(l.foldl gO acc).length<=acc.length+l.length:=by
 intro l_;induction l_ with
 | nil=>
  intro acc;exact aL _
 | cons q l ih=>
  intro acc;have:=ih (gO acc q);have h2:(gO acc q).length<=acc.length+1:=by unfold gO;split<;>simp
  rw[nV,fM];exact zz this (zz (gQ h2) (ze ir))
theorem aT.uQ (p:aT P):P.length<=4:=by obtain ⟨r1,x,e,more,rfl,_,_,hm⟩:=p.shape;rcases hm with rfl | ⟨q,rfl⟩<;>simp
theorem Z9 {l:List Str} (h:∀ y∈l,j6 y):(l.foldl mu jr).length<=5:=by obtain ⟨ts,e,k,_⟩:=OM l (ts:=[]) ⟨by simp,λ_ h=>(by cases h)⟩ h;rw[show jr=jr++[] from rfl,e,cQ];have:=N9 k;change 3+ts.length<=5;exact aeD this
section
variable {C:Cx} {A:TA} {n:Nat} {env:Env} {m:MH} {Q:V->MH->Prop}
theorem Yp {P:List Pr} {pl:Addr} {tp pa:Nat->Addr} (T:aS C A) (p:aT P) (hn:5<=n) (x:jL m pl P tp pa) (h:∀ m' g,m.le m'->cU A m' g (aa P)->Q (.ref g.g) m'):FC C (A.f 12) n [.ref pl] m Q:=by
 have hP:=p.uQ;ext C A n m Q P pl tp pa;refine GK (D:=fd 12) (qual:="plain_grammar") (ds:=[.none]) ["pairs","start"] 1 (T.s8 ("plain_grammar",12,[.none]) (.tail _ (.head _))).2 (eW hn) rfl (by decide) (λenv ef=>?_) (λrargs t kV doc pm an cdv ct hla oB hlr=>?_) (by decide +kernel) (by decide) (by decide +kernel)
 .k_is;ext env;show fN (ef.store ⋯);refine bR (cM ⟨by exact bk _,λla hla=>?_⟩);have l1:=MH.av (o:=.list []) hla;ext la;refine dw (λi=>[("lefts",.ref la),("pairs",.ref pl),("start",.none)]) (λi mm=>m.le mm/\mm la=some (.list (((P.take i).foldl gO []).map .str))) (cC (λi=>V.ref (tp i)) (aj P.length) ?_);lk;refine ⟨pl,rfl,l1 _ _ x.1,by k_in,⟨l1,MH.af _ _ _⟩,λi mm hp=>hp.1 _ _ x.1,?_,?_⟩
  .rintro i mm hi aG;ext i mm;show bO;intro QQ bT;ext QQ;obtain ⟨p1,p2⟩:=aG;rw[aN] at hi;ext QQ;obtain ⟨q,hq⟩:∃ q,P[i]? = some q:=⟨_,aH hi⟩;have gA:=bC hq;have hq1:=p.left q gA;ext q;show cy (w:=.ref (tp i)) (by dsimp only;rw[bM,aW _ hi];rfl);show mP (p1 _ _ (x.2 i q hq).1) rfl;refine aM (ef.store ⋯) (aM (ef.store ⋯) ?_);have ll:=Z8 (P.take i) [];rw[nR] at ll;change WS C (n - 1) env _ _ _ _;refine ck (WT.mono (Q:=λc m'=>c=false/\mm.le m') (Ag ?_) ?_)
   .show cH;lk;refine ac9 ⟨_,rfl,?_⟩;have e1:decide (q.1=("error" : Str))=false:=decide_eq_false (by rcases hq1 with e | e<;>rw[e]<;>decide +kernel);rw[e1];simp only[cP,if_false];show cH;show Z7;lk;refine ⟨rfl,q.1,rfl,hq1,?_⟩;show eE;lk;refine ⟨by exact of_decide_eq_true rfl,λc hc=>?_⟩;refine acn (ks:=[("" : Str),"$","'"]) (MH.af _ _ _) ⟨_,rfl,?_,MH.av hc⟩;exact decide_eq_false (by rcases hq1 with e | e<;>rw[e]<;>decide +kernel)
   .rintro c m2 ⟨rfl,l2⟩;ext m2;refine ⟨λe=>(by cases e),λ_=>aX ?_⟩;have qp:=l2 _ _ p2;show ck;show cH;lk;refine qF qp ⟨_,rfl,λe=>?_,λe=>?_⟩
    .have uS:q.1∉(P.take i).foldl gO []:=by simpa using e
     show iV ⟨_,qp⟩;lk;subst bT;refine ⟨_,qp,by rw[ak];simp at ll;exact zm (zz ll (zz u7 hP)) (ao rfl),aX (br (by k_in) ⟨(p1.trans l2).set hla,?_⟩)⟩;rw[MH.af,take_snoc hq,jh];have e5:gO ((P.take i).foldl gO []) q=(P.take i).foldl gO []++[q.1]:=if_neg uS;rw[nV,e5,Wv,aV];rfl
    .have hin:q.1∈(P.take i).foldl gO []:=by simpa using e
     subst bT;refine aX (br (by k_in) ⟨p1.trans l2,?_⟩);rw[qp,take_snoc hq,jh];have e5:gO ((P.take i).foldl gO []) q=(P.take i).foldl gO []:=if_pos hin;rw[nV,e5,Wv]
  .rintro mm ⟨p1,p2⟩;rw[aN,dW,p.afW] at p2;ext mm;show fN (ef.store ⋯);refine NF (WT.mono (Q:=λc m'=>c=false/\mm.le m') (Ag ?_) ?_)
   .show cH;lk;refine WY (λc e=>by cases e) ⟨_,rfl,?_⟩;simp only[cP,if_false];show cH;lk;refine bR (cM ⟨by exact bk _,λc hc=>?_⟩);have l2:=MH.av (o:=.list []) hc;refine HZ (d:=.list ([("s" : Str),"t"].map .str)) (e:=.list []) (.list (l2 _ _ p2) (.strs _ _)) (.list (MH.af _ _ _) .nil) (by decide +kernel) (by decide +kernel) ⟨_,rfl,by decide +kernel,l2⟩
   .rintro c m2 ⟨rfl,l2⟩;ext m2;simp only[cP,if_false];lk;have qp:=l2 _ _ p2;show aJ (k:=0) qp rfl (by decide);have KV:=p1.trans l2;clear p1 p2 l2;show ck;show cH;lk;refine qF qp ⟨_,rfl,λe=>absurd e (by decide +kernel),λ_=>aX ?_⟩;obtain ⟨no1,oo,ows,ok,ob,oc,od,R1,oer⟩:=T.own;show fN (ef.store ⋯);show mO T ef.toC (by rfl);refine dI (zD (ef.kind (by rfl)) no1 rfl ?_);lk;refine WK ob oc od R1 oer (of_decide_eq_true rfl) λna hna=>?_;have l3:=MH.av (o:=.list [.str "$end",.str "error",.str "$undefined"]) hna;have qi:=MH.af m2 na (.list [.str "$end",.str "error",.str "$undefined"]);have ED:=KV.trans l3;have KW:=l3 _ _ qp;have mna:=KV.new hna;have afX:la≠na:=MH.aE qp hna;clear KV qp;generalize m2.set na (.list [.str "$end",.str "error",.str "$undefined"])=m3 at l3 qi ED KW ⊢;ext na m3;refine dw (λi=>[("names",.ref na),("begin",.str "s"),("lefts",.ref la),("pairs",.ref pl),("start",.none)])
     (λi mm=>m.le mm/\mm la=some (.list ([("s" : Str),"t"].map .str))/\mm na=some (.list ((((P.take i).flatMap (·.2)).foldl mu jr).map .str))) (cC (λi=>V.ref (tp i)) (aj P.length) ?_)
    lk;refine ⟨pl,rfl,ED _ _ x.1,by k_in,⟨ED,KW,qi⟩,λi mm hp=>hp.1 _ _ x.1,?_,?_⟩
    .rintro i mm hi aG;ext i mm;show bO;intro QQ kO;ext QQ;obtain ⟨q1,q2,q3⟩:=aG;rw[aN] at hi;ext QQ;obtain ⟨q,hq⟩:∃ q,P[i]? = some q:=⟨_,aH hi⟩;have gA:=bC hq;have hpre:∀ y∈(P.take i).flatMap (·.2),j6 y:=λy hy=>by
      obtain ⟨r,hr,hy⟩:=nQ.mp hy;exact p.right r (mJ hr) y hy
     ext q;show cy (w:=.ref (tp i)) (by dsimp only;rw[bM,aW _ hi];rfl);show mP (q1 _ _ (x.2 i q hq).1) rfl;refine aM (ef.store ⋯) (aM (ef.store ⋯) ?_);change WS C (n - 1) env _ _ _ _;refine dw (λj=>[("parts",.ref (pa i)),("names",.ref na),("begin",.str "s"),("lefts",.ref la),("pairs",.ref pl),("start",.none)])
      (λj mm=>m.le mm/\mm la=some (.list ([("s" : Str),"t"].map .str))/\mm na=some (.list ((((P.take i).flatMap (·.2)++q.2.take j).foldl mu jr).map .str))) (cC V.str q.2 ?_)
     lk;refine ⟨_,rfl,q1 _ _ (x.2 i q hq).2,by k_in,⟨q1,q2,by rw[FH,nW];exact q3⟩,λj mm hp=>hp.1 _ _ (x.2 i q hq).2,?_,?_⟩
     .rintro j qq hj aG;ext j qq;show bO;intro QQ kP;ext QQ;obtain ⟨r1,r2,r3⟩:=aG;refine cy (getD_map hj) (aM (ef.store ⋯) ?_);have hy:=p.right q gA _ (cW hj);have et:(P.take i).flatMap (·.2)++q.2.take (j+1)=((P.take i).flatMap (·.2)++q.2.take j)++[q.2[j]]:=by rw[take_snoc (aH hj),gX]
      have hall:∀ y∈(P.take i).flatMap (·.2)++q.2.take j,j6 y:=λy hy=>by
       rcases bN.mp hy with hy | hy
       .exact hpre y hy
       .exact p.right q gA y (mJ hy)
      have hlen:=Z9 hall;generalize q.2[j]=y at *
      have e5:((P.take i).flatMap (·.2)++q.2.take (j+1)).foldl mu jr=mu (((P.take i).flatMap (·.2)++q.2.take j).foldl mu jr) y:=by rw[et,jh];rfl
      rw[e5] at kP;generalize ((P.take i).flatMap (·.2)++q.2.take j).foldl mu jr=acc at *
      ext y acc;refine ck (WT.mono (Q:=λc m'=>c=decide ((y≠("s" : Str)/\y≠("t" : Str))/\y∉acc)/\m'=qq) (qJ ?_) ?_)
      .show cH;lk;refine qF r2 ⟨_,rfl,?_⟩;by_cases hst:y∈[("s" : Str),"t"]
       .rw[decide_eq_true hst];simp only[qB,cP,if_false];refine ⟨(decide_eq_false λhh=>?_).symm,trivial⟩;simp only[b8,nS,or_false] at hst;exact hst.elim hh.1.1 hh.1.2
       .rw[decide_eq_false hst];simp only[Ww,if_true];show cH;lk;refine qF r3 ⟨_,rfl,?_,rfl⟩;have afY:y≠("s" : Str)/\y≠("t" : Str):=⟨λe=>hst (by rw[e];exact aZ),λe=>hst (by rw[e];exact .tail _ (.head _))⟩;by_cases q9:y∈acc<;>simp[q9,afY]
      .rintro c m9 ⟨hc,rfl⟩;refine ⟨λe=>?_,λe=>aX ?_⟩
       .rw[e] at hc;have hc:=of_decide_eq_true hc.symm;show iV ⟨_,r3⟩;lk;subst kP;refine ⟨_,r3,by rw[ak];exact zm hlen (ao rfl),aX (br (by k_in) ⟨r1.set mna,MH.ay r2 afX,?_⟩)⟩;rw[MH.af,show mu acc y=acc++[y] from if_pos hc,aV];rfl
       .rw[e] at hc;have hc:=of_decide_eq_false hc.symm;subst kP;refine br (by k_in) ⟨r1,r2,?_⟩;rw[show mu acc y=acc from if_neg hc];exact r3
     .rintro qq ⟨r1,r2,r3⟩;rw[dW] at r3;subst kO;refine br (by k_in) ⟨r1,r2,?_⟩;rw[r3,take_snoc hq,vX];simp
    .rintro mm ⟨q1,q2,q3⟩;rw[aN,dW] at q3;change mm na=some (.list ((iD P).map .str)) at q3;have nk:=p.rF;have k5:=nk.k5;have AH:=nk.len;have iS:=se nk.nd nk.eS;have iE:=se nk.nd nk.e0;have KX:("s" : Str)∈bW P:=bC nk.eS;ext mm;obtain ⟨tE,hE⟩:=T.ae6;obtain ⟨K,hK⟩:∃ K,(iD P).length=K:=⟨_,rfl⟩;rw[hK] at k5 AH iS;ext K;show fN (ef.store ⋯);show bY T ef.toC (by rfl);lk;show fz q3 (by rw[ak];exact fK hK (zm k5 (ao rfl)));rw[ak,hK];lk;show bR;lk;refine ⟨by exact fF _,λc hc=>?_⟩;have l4:=MH.av (o:=.list [.str "$accept"]) hc;refine mV (l4 _ _ q3) (MH.af _ _ _) (by rw[ak,hK];simp;exact zs (zm k5 (ao rfl))) λc2 hc2=>?_;have l5:=l4.trans (MH.av (o:=.list ((iD P).map V.str++[.str "$accept"])) hc2);have rE:=MH.af (mm.set c (.list [.str "$accept"])) c2 (.list ((iD P).map V.str++[.str "$accept"]));generalize (mm.set c (.list [.str "$accept"])).set c2 (.list ((iD P).map V.str++[.str "$accept"]))=m4 at l5 rE ⊢;lk;refine mV rE (l5 _ _ q2) (by simp;exact zm (dO (dO (dm hK k5) (aL 1)) (aL 2)) (ao rfl)) λn2 hn2=>?_;have en:(iD P).map V.str++[.str "$accept"]++[("s" : Str),"t"].map V.str=(bW P).map V.str:=by unfold bW;rw[aV,gX];rfl
     rw[en];have l6:=l5.trans (MH.av (o:=.list ((bW P).map V.str)) hn2);have yd:=MH.af m4 n2 (.list ((bW P).map V.str));have q16:=q1.trans l6;generalize m4.set n2 (.list ((bW P).map V.str))=m6 at q16 yd ⊢;clear q1 q2 q3 l4 l5 l6 rE en qi ED KW l3 l1;lk;ext c c2 m4 n2 m6;show bR;show dI;show pG T ef.toC 8 (aK (bK hn));lk;show eE;lk;show eB gn B5 B6;lk;refine ⟨gG yd,?_⟩;lk;show zF yd KX (fK AH (zm (gQ k5) (ao rfl)));rw[iS];lk;show zD (ef.kind (by rfl)) hE rfl;lk;refine ⟨by exact of_decide_eq_true rfl,λt0 ht0=>?_⟩;lk;ext t0;show zD (ef.kind (by rfl)) hE rfl;lk;intro w0 hw0;have l7:=MH.av (o:=.tuple [vn (K+1),.int 0]) ht0;have KY:=MH.af m6 t0 (.tuple [vn (K+1),.int 0]);generalize m6.set t0 (.tuple [vn (K+1),.int 0])=m7 at l7 KY hw0 ⊢;ext w0 m7;refine M8 T (by omega) hw0 λm8 l8 Tj=>⟨rfl,?_⟩;lk;ext m8;refine ⟨by exact fF _,λrl hrl=>?_⟩;have Es:=((q16.trans l7).trans l8).new hrl;have l9:=(l7.trans l8).trans (MH.av (o:=.list [.ref w0]) hrl);have rls:=MH.af m8 rl (.list [.ref w0]);have Q9:=MH.av (o:=.list [.ref w0]) hrl _ _ Tj;have Ra:=MH.av (o:=.list [.ref w0]) hrl _ _ (l8 _ _ KY);have q19:=q16.trans l9;have Tn:=l9 _ _ yd;have adz:n2≠rl:=λe=>by have:=(l7.trans l8) _ _ yd;rw[e,hrl] at this;cases this
     generalize m8.set rl (.list [.ref w0])=m9 at q19 Tn rls Q9 Ra ⊢;clear yd q16 l7 l8 l9 KY Tj;lk;have hR:(aa P).R=P.length+1:=by unfold Gr.R aa;simp
     ext rl m9;refine dw (λi=>[("rules",.ref rl),("names",.ref n2),("count",vn K),("begin",.str "s"),("lefts",.ref la),("pairs",.ref pl),("start",.none)])
      (λi mm=>m.le mm/\mm n2=some (.list ((bW P).map V.str))/\∃ (ru rr:Nat->Addr) (lv:Nat->V),mm rl=some (.list ((aj (i+1)).map λr=>V.ref (ru r)))/\∀ r,r < i+1->mm (ru r)=some (.inst (A.cls 8) [("number",vn r),("left",vn ((aa P).aq r)),("right",.ref (rr r)),("level_of",lv r),("action",.none),("line",.int 0),("before",.int 0)])/\mm (rr r)=some (.tuple (((aa P).ai r).map vn)))
      (cC (λi=>V.ref (tp i)) (aj P.length) ?_)
     lk;refine ⟨pl,rfl,q19 _ _ x.1,by k_in,⟨q19,Tn,λ_=>w0,λ_=>t0,λ_=>.int 0,rls,λr hr=>?_⟩,λi mm hp=>hp.1 _ _ x.1,?_,?_⟩
     .obtain rfl:r=0:=Ju hr;refine ⟨?_,?_⟩
      .rw[show (aa P).aq 0=K from hK];exact Q9
      .rw[show (aa P).ai 0=[K+1,0] by rw[<-hK];rfl];exact Ra
     .rintro i mm hi aG;ext i mm;show bO;intro QQ kP;ext QQ;obtain ⟨q1,q2,ru,rr,lv,q3,q4⟩:=aG;rw[aN] at hi;ext QQ ru rr lv;obtain ⟨q,hq⟩:∃ q,P[i]? = some q:=⟨_,aH hi⟩;have gA:=bC hq;have cB:=p.len q gA;have I3:=CQ hq;ext q;show cy (w:=.ref (tp i)) (by dsimp only;rw[bM,aW _ hi];rfl);show mP (q1 _ _ (x.2 i q hq).1) rfl;refine aM (ef.store ⋯) (aM (ef.store ⋯) ?_);change WS C (n - 1) env _ _ _ _;show fN (ef.store ⋯);show mO T ef.toC (by rfl);show dI;refine wG V.str q.2 (λ_=>true) (λy=>vn ((bW P).idxOf y)) ef (by walk_at "cok") (zz cB aI) (cC V.str q.2 ?_);lk;refine ⟨_,rfl,q1 _ _ (x.2 i q hq).2,rfl,λj y hy=>by dsimp only;rw[bM,bH,hy];rfl,λm2 hm=>hm _ _ (q1 _ _ (x.2 i q hq).2),?_,?_⟩
      .intro cenv ec y hy m2 hm;refine aM (ec.store ⋯) ⟨jI (by decide +kernel),?_⟩;refine ⟨rfl,hm,λ_=>?_⟩;show eB gn B5 B6;lk;refine ⟨gG (hm _ _ q2),?_⟩;lk;show zF (hm _ _ q2) (p.mem gA hy) (fK AH (zm (gQ k5) (ao rfl)));exact ⟨rfl,hm⟩
      intro m2 c hm hc;rw[show q.2.filter (λ_=>true)=q.2 from tX.mpr λ_ _=>rfl];have ev:(q.2.map λy=>vn ((bW P).idxOf y))=((aa P).ai (i+1)).map vn:=by change _=((aa P).ju (i+1)).2.map vn;rw[I3,dS];rfl
      have xd:((aa P).ai (i+1)).length<=3:=by change ((aa P).ju (i+1)).2.length<=3;rw[I3,ak];exact cB
      rw[ev];have l2:=hm.trans (MH.av (o:=.list (((aa P).ai (i+1)).map vn)) hc);have cs:=MH.af m2 c (.list (((aa P).ai (i+1)).map vn));generalize m2.set c (.list (((aa P).ai (i+1)).map vn))=m3 at l2 cs ⊢;lk;refine Ms cs (by rw[ak];exact zz xd aI) λrt JX=>?_;have l3:=l2.trans (MH.av (o:=.tuple (((aa P).ai (i+1)).map vn)) JX);have EE:=MH.af m3 rt (.tuple (((aa P).ai (i+1)).map vn));generalize m3.set rt (.tuple (((aa P).ai (i+1)).map vn))=m4 at l3 EE ⊢;have hlm:q.1∈bW P:=by
       rcases p.left q gA with e | e<;>rw[e]
       .exact KX
       .exact bC nk.eT
      (revert hc;clear hc;intro hc);ext m2 c m3 rt m4
      show iV ⟨_,l3 _ _ q3⟩;show pG T ef.toC 8 (aK (bK hn));show dI;show bY T ef.toC (by rfl);lk;show fz (l3 _ _ q3) (by rw[ak,aN];exact zm hi (zm hP (ao rfl)));rw[ak,aN];lk;show eB gn B5 B6;lk;refine ⟨gG (l3 _ _ q2),?_⟩;lk;show zF (l3 _ _ q2) hlm (fK AH (zm (gQ k5) (ao rfl)));rw[show (bW P).idxOf q.1=(aa P).aq (i+1) by change _=((aa P).ju (i+1)).1;rw[I3]];lk;show cF T ef.toC 11;lk;refine last_spec T (aK (bK hn)) EE (zz xd aI) λlt=>?_;lk;intro w1 hw1;ext lt w1;refine M8 T (by omega) hw1 λm5 l5 KZ=>⟨rfl,?_⟩;have l6:=l3.trans l5;have AI:=l6 _ _ q3;ext m5;subst kP;refine ⟨_,AI,by rw[ak,aN];exact zm hi (zm hP (ao rfl)),br (by k_in) ⟨(q1.trans l6).set Es,MH.ay (l6 _ _ q2) adz,λr=>if r=i+1 then w1 else ru r,λr=>if r=i+1 then rt else rr r,λr=>if r=i+1 then .int lt else lv r,?_,λr hr=>?_⟩⟩
      .rw[MH.af];show congrArg (λl=>some (O.list l));exact (zL (λx hx=>by simp only[show ¬ x=i+1 by exact kU hx,if_false]) (by simp only[if_true]))
      .by_cases e:r=i+1
       .subst e;simp only[if_true];exact ⟨MH.ay KZ (λe=>by rw[e,AI] at KZ;cases KZ),MH.ay (l5 _ _ EE) (λe=>by have:=l5 _ _ EE;rw[e,AI] at this;cases this)⟩
       .ext r;simp only[e,if_false];obtain ⟨s1,s2⟩:=q4 r (cY hr e);have s1:=l6 _ _ s1;have s2:=l6 _ _ s2;exact ⟨MH.ay s1 (λe=>by rw[e,AI] at s1;cases s1),MH.ay s2 (λe=>by rw[e,AI] at s2;cases s2)⟩
     .rintro mm ⟨q1,q2,ru,rr,lv,q3,q4⟩;rw[aN] at q3 q4;rw[<-hR] at q3 q4;lk;show pG T ef.toC 9 (aK (bK hn));lk;refine qH (.dj [] 0) (.inl rfl) λlv0 hlv=>?_;have l2:=MH.av (o:=.dj [] 0) hlv;generalize mm.set lv0 (.dj [] 0)=m2 at l2 ⊢;lk;show eB gn B5 B6;lk;refine ⟨gG (l2 _ _ q2),?_⟩;lk;show zF (l2 _ _ q2) KX (fK AH (zm (gQ k5) (ao rfl)));rw[iS];lk;intro w hw;have hT:(aa P).T=K:=hK;rw[<-hT];refine Yn (G:=aa P) T (iW p) (by omega) hw (l2 _ _ q2) (l2 _ _ q3) (λr hr=>l2 _ _ (q4 r hr).1) (λr hr=>l2 _ _ (q4 r hr).2) λm5 g l5 hg xg=>⟨rfl,?_⟩;have:=h m5 g ((q1.trans l2).trans l5) xg;rw[hg] at this;exact this
 .obtain ⟨_,rfl⟩:=Dl hla;obtain ⟨_,rfl⟩:=Dl hlr;exact ⟨_,rfl,by kernel_rfl⟩
end
end
section
section
variable {C:Cx} {A:TA} {n:Nat} {env:Env} {m:MH} {Q:V->MH->Prop}
theorem Yq {k:Nat} (h:k < 2 ^ 20):agT (k:Int)<=64:=by exact MD (by exact aeG) (by exact aeF h)
theorem aaa {p many:Nat} (h1:1<=many) (h6:many<=6):LC (p:Int) (many:Int)=false:=by
 have:many=1\/many=2\/many=3\/many=4\/many=5\/many=6:=by exact aeE h1 h6
 rcases this with rfl | rfl | rfl | rfl | rfl | rfl<;>rfl
theorem Ii (hb:1<=b) (h:Q (vn (a % b)) m):∀ ra rb,er ra=some (.int (a:Nat))->er rb=some (.int (b:Nat))->TR C n (binaryOp .Mod ra rb) m Q:=by refine ac6 (by exact PZ hb) ?_;rw[Int.fmod_eq_emod_of_nonneg _ ve];exact h
theorem adA {a b:Nat} (hb:1<=b) (h6:b<=6) (h:Q (vn (a / b)) m):∀ ra rb,er ra=some (.int (a:Nat))->er rb=some (.int (b:Nat))->TR C n (binaryOp .FloorDiv ra rb) m Q:=by refine M0 (by exact PZ hb) (aaa hb h6) ?_;rw[LG _ ve];exact h
theorem uq {bg:Addr} {p k many:Nat} (T:aS C A) (hn:1<=n) (hm:1<=many) (ny:many<=6) (hk:k<=1000) (hp:m bg=some (.list [vn p,vn k])) (h:∀ d p',d < many->Q (vn d) (m.set bg (.list [vn p',vn (k+1)]))):FC C (A.f 42) n [.ref bg,vn many] m Q:=by
 ext C A n m Q bg p k many;refine eG T 42 "_law_draw" ["pen","many"] hn rfl (λenv ef=>?_) (by walk_at "bd2");k_is;walk_at "set";lk;show aJ (k:=1) hp rfl (of_decide_eq_true rfl);lk;show lP;lk;intro rv ro ri h1 h2 h3;ext env rv ro ri;refine jE (k:=1) hp (aL _) (of_decide_eq_true rfl) ?_ rv ro ri h1 h2 h3;have hs:=MH.af m bg (.list [vn p,vn (k+1)]);change WS C (n - 1) env _ _ (m.set bg (.list [vn p,vn (k+1)])) _;show ck;show cH;lk;show aJ (k:=0) hs rfl (of_decide_eq_true rfl);lk;refine wU ⟨_,rfl,λ_=>?_,λ_=>?_⟩
 .lk;show aJ (k:=0) hs rfl (of_decide_eq_true rfl);lk;show Ii hm;walk_at "set";lk;show aJ (k:=0) hs rfl (of_decide_eq_true rfl);lk;show adA hm ny;lk;intro rv ro ri h1 h2 h3;refine jE (k:=0) hs (fF _) (of_decide_eq_true rfl) ?_ rv ro ri h1 h2 h3;rw[MH.set_set];lk;exact h _ _ (Yx _ hm)
 .show aX;lk;show aJ (k:=1) hs rfl (of_decide_eq_true rfl);lk;show aJ (k:=1) hs rfl (of_decide_eq_true rfl);show HT (VW (Yq (zs (zm hk (ao rfl)))));lk;rw[<-Int.natCast_mul];show lP;lk;show Ii hm;exact h _ _ (Yx _ hm)
end
end
section
theorem aab:∀ {rs:List Value} {ns:List Int},IntsAre rs ns->aD rs (ns.map V.int):=by
 intro rs ns h;induction h with
 | nil=>exact aD.nil
 | cons n t _ ih=>exact aD.cons rfl ih
section
variable {C:Cx} {A:TA} {n:Nat} {env:Env} {loc:Loc} {m:MH} {Q:V->MH->Prop}
theorem Zd (hL:C.base.IsList L ws.toArray) (he:aD ws xs) (hlen:xs.length<=2 ^ 20)
  (h:WE C n env value loc m λv m1=>WP C n env lower loc m1 λlo m2=>WP C n env upper loc m2 λhi m3=>v=.ref L/\∀ b,m3 b=none->Q (.ref b) (m3.set b (.list (slc xs lo hi))))
  (ht:∀ o r,letTemporaryGo value o r=pure ():=by intro _ _;rfl):WE C n env (.Subscript value (.Slice lower upper none p) pos) loc m Q:=by
 intro P A s R hr x kk;refine UM (h P A s _ hr x λr v m1 s1 hv x1 h1=>rZ hr x1 h1 λrl l m2 s2 hl x2 h2=>rZ hr x2 h2 λru u m3 s3 hu x3 h3=>?_) ht;obtain ⟨rfl,hq⟩:=h3;obtain ⟨d,x3⟩:=x3;have hi:s3.heap.IsList L ws.toArray:=by obtain ⟨o,h1,h2,h3⟩:=hL;exact ⟨o,x3.keep _ _ (x3.base _ _ h1),h2,h3⟩
 refine ⟨L,ws.toArray,_,_,bD hv,hi,by rw[cV,he.length,dZ];exact zz hlen aI,hl,hu,?_⟩;obtain ⟨y,back⟩:=(x3.push { cls:=.type "slice",data:=.fields #[rl,ru,.none] } s3.toks).frame;have e1:slicePick ws.toArray (l.map Int.ofNat) (u.map Int.ofNat) none=(slc ws l u).toArray:=FI _ _ _;have e2:aD (slc ws l u) (slc xs l u):=by unfold slc;rw[he.length];exact (he.take _).drop _
 obtain ⟨z,hz⟩:=y.lS (t:=s3.toks) (a:=s3.heap.objs.size+1) (h':=(s3.heap.push { cls:=.type "slice",data:=.fields #[rl,ru,.none] }).push { cls:=.type "list",data:=.seq (slicePick ws.toArray (l.map Int.ofNat) (u.map Int.ofNat) none) }) (o:=.list (slc xs l u))
  (λb ob hb=>gC _ hb) (by rw[qz];exact aL _) (by intro _ _ e;cases e) λ_=>⟨slc ws l u,0,by have:=gF (s3.heap.push { cls:=.type "slice",data:=.fields #[rl,ru,.none] }) (o:={ cls:=.type "list",data:=.seq (slicePick ws.toArray (l.map Int.ofNat) (u.map Int.ofNat) none) }) rfl;rw[qz] at this;rw[this,e1],e2⟩
 exact kk _ (.ref (s3.heap.objs.size+1)) _ _ rfl ⟨d,back _ _ _ z⟩ (hq _ hz)
theorem uB (f:α->β) (l:List α) (lo hi:Option Nat):slc (l.map f) lo hi=(slc l lo hi).map f:=by unfold slc;rw[ak,<-Cf,<-FO]
theorem abi (l:List α) (lo hi:Option Nat):(slc l lo hi).length<=l.length:=by unfold slc;rw[qy,nR];exact sU u7
noncomputable def nh (x:Nat) (c:Int):Nat:=x*1000003+2*c.natAbs+(if c < 0 then 1 else 0)+1
theorem aac (T:aS C A) (hn:1<=n) (hL:C.base.IsList L rs.toArray) (hI:IntsAre rs ns) (hl:ns.length<=63) (h:∀ m' a p,m.le m'->m a=none->m' a=some (.list [vn p,vn 0])->Q (.ref a) m'):FC C (A.f 41) n [.ref L] m Q:=by
 ext C A n m Q L rs ns;refine eG T 41 "_law_pen" ["script"] hn rfl (λenv ef=>?_) (by walk_at "bd1");k_is;lk;ext env;obtain ⟨l,iw⟩:∃ l,slc ns none (some 24)=l:=⟨_,rfl⟩;have hl2:l.length<=63:=by rw[<-iw];exact aO (abi _ _ _) hl
 clear hl2;ext l;refine pH (cC V.int l ?_);show Zd hL (aab hI) (by rw[ak];exact zz hl aI);lk;refine zS (uz ?_);lk;refine ⟨24,rfl,rfl,λb hb=>⟨b,rfl,?_,?_⟩⟩
 .rw[MH.af,uB,iw]
 ext b;refine ⟨λi=>[("number",vn ((l.take i).foldl nh 0)),("script",.ref L)],λi mm=>m.le mm/\mm b=some (.list (l.map V.int)),by k_in,⟨MH.av hb,by rw[MH.af,uB,iw]⟩,λi mm hp=>hp.2,?_,?_⟩
 .rintro i mm hi aG;ext i mm;show bO;intro QQ bP;ext QQ;obtain ⟨p1,p2⟩:=aG;refine cy (getD_map hi) (aM (ef.store ⋯) ?_);have et:(l.take (i+1)).foldl nh 0=nh ((l.take i).foldl nh 0) l[i]:=by rw[take_snoc (aH hi),jh];rfl
  generalize l[i]=c at *
  lk;show HT (IntMulOk.of_right (MD (by decide) (by decide)));lk;ext c;show bY T ef.toC (by rfl);lk;show aco;show HT (VW (MD (by decide) (by decide)));show sj;lk;refine As ⟨_,rfl,?_⟩;by_cases q:c < 0
  .rw[decide_eq_true q];simp only[if_true];lk;show sj;lk;show sj;have e9:∀ x:Nat,(x:Int)*1000003+2*(c.natAbs:Nat)+1+1=((nh x c:Nat):Int):=λx=>by unfold nh;rw[if_pos q];rfl
   subst bP;refine br ?_ ⟨p1,p2⟩;dsimp only;rw[et];change Sub [(("number" : Str),V.int ((nh ((l.take i).foldl nh 0) c:Nat):Int)),(("script" : Str),.ref L)] _;rw[<-e9];k_in
  .rw[decide_eq_false q];simp only[cP,if_false];lk;show sj;lk;show sj;have e9:∀ x:Nat,(x:Int)*1000003+2*(c.natAbs:Nat)+0+1=((nh x c:Nat):Int):=λx=>by unfold nh;rw[if_neg q];rfl
   subst bP;refine br ?_ ⟨p1,p2⟩;dsimp only;rw[et];change Sub [(("number" : Str),V.int ((nh ((l.take i).foldl nh 0) c:Nat):Int)),(("script" : Str),.ref L)] _;rw[<-e9];k_in
 .rintro mm ⟨p1,p2⟩;dsimp only;lk;show bR;lk;exact ⟨by exact of_decide_eq_true rfl,λa ha=>h _ a _ (p1.trans (MH.av ha)) (p1.new ha) (MH.af _ _ _)⟩
end
end
section
noncomputable def uV:List Str:=["a","b","s","t","s","t"]
theorem abj:∀ y∈uV,j6 y:=by intro y hy;ext y;unfold uV at hy;unfold j6;simp only[b8,nS,or_false] at hy;rcases hy with h | h | h | h | h | h<;>simp[h]
theorem CR {m m':MH} {bg a:Addr} {o:O} (h:m.bF [bg] m') (hp:m' bg=some o) (ha:m' a=none):m a=none:=by
 ext m m' bg a o;cases q:m a with
 | none=>rfl
 | some o'=>
  exfalso;have hne:a≠bg:=λe=>by rw[e,hp] at ha;cases ha
  rw[h a o' q (by simpa using hne)] at ha;cases ha
section
variable {C:Cx} {A:TA} {n:Nat} {env:Env} {loc:Loc} {m:MH} {Q:V->MH->Prop}
theorem M9 {bg:Addr} {p k len:Nat} (T:aS C A) (hn:2<=n) (hlen:len<=3) (hk:k+len<=900) (hp:m bg=some (.list [vn p,vn k])) (h:∀ m' a p' (r:List Str),m.bF [bg] m'->m' bg=some (.list [vn p',vn (k+len)])->m a=none->m' a=some (.list (r.map .str))->r.length=len->(∀ y∈r,j6 y)->Q (.ref a) m'):FC C (A.f 43) n [.ref bg,vn len] m Q:=by
 ext C A n m Q bg p k len;refine eG T 43 "_law_right" ["pen","length"] (zf hn) rfl (λenv ef=>?_) (by walk_at "bd2");k_is;lk;refine wJ ef (by walk_at "cok") (lJ T ef.toC ?_);lk;refine ⟨len,rfl,zm hlen (ao rfl),zz hlen aI,λi acc mm=>∃ (r:List Str) (p':Nat),acc=r.map .str/\r.length=i/\(∀ y∈r,j6 y)/\m.bF [bg] mm/\mm bg=some (.list [vn p',vn (k+i)]),⟨[],p,rfl,rfl,λ_ h=>(by cases h),λ_ _ q _=>q,hp⟩,λ_ _ _ _=>trivial,?_,?_⟩
 .rintro cenv ec i acc mm hi ⟨r,p',rfl,r1,r2,r3,r4⟩;ext cenv i mm r p';refine aM (ec.store ⋯) ⟨jI (by decide +kernel),?_⟩;simp only[zZ,if_true];lk;show eE;lk;refine ⟨by exact of_decide_eq_true rfl,λc hc=>?_⟩;ext c;show cF T ec 42;lk;have r5:=MH.ay (o':=.tuple [.str "a",.str "b",.str "s",.str "t",.str "s",.str "t"]) r4 (MH.aE r4 hc);refine uq T (aK hn) (by decide) (by decide) (by exact aeH hk hi) r5 λd p2 hd=>?_;have hcp:c≠bg:=λe=>by rw[e,r4] at hc;cases hc
  have cs:((mm.set c (.tuple (uV.map V.str))).set bg (.list [vn p2,vn (k+i+1)])) c=some (.tuple (uV.map V.str)):=MH.ay (MH.af _ _ _) hcp;have hx:uV[d]? = some uV[d]:=aH hd;show lM (k:=d) cs (by rw[bH,hx];rfl) (of_decide_eq_true rfl);refine ⟨r++[uV[d]],p2,by rw[aV];rfl,by rw[cQ,r1];rfl,λy hy=>?_,(r3.set (.inl (CR r3 r4 hc))).set (.inr (aZ)),MH.af _ _ _⟩;rcases bN.mp hy with hy | hy
  .exact r2 y hy
  .rw[bQ] at hy;subst hy;exact abj _ (cW hd)
 .rintro acc mm ⟨r,p',rfl,r1,r2,r3,r4⟩ a ha;have hma:=CR r3 r4 ha;refine h _ a p' r (r3.set (.inl hma)) (MH.ay r4 (MH.aE r4 ha)) hma (MH.af _ _ _) r1 r2
end
end
section
structure PS (m mm:MH) (bg pl:Addr) (P:List Pr) (tp pa:Nat->Addr) (k:Nat):Prop where
 le:m.bF [bg] mm
 sO:∃ p,mm bg=some (.list [vn p,vn k])
 at_:jL mm pl P tp pa
 new:m pl=none
 ye:bg≠pl
 pap:∀ i,i < P.length->pa i≠pl/\pa i≠bg
theorem PS.step (x:PS m mm bg pl P tp pa k) (hl:mm.bF [bg] aF) (hp:aF bg=some (.list [vn p',vn k'])):PS m aF bg pl P tp pa k':=by obtain ⟨p,hp0⟩:=x.sO;refine ⟨x.le.trans hl,⟨p',hp⟩,⟨hl _ _ x.at_.1 (by simpa using λe=>x.ye e.symm),λi q hq=>?_⟩,x.new,x.ye,x.pap⟩;obtain ⟨h1,h2⟩:=x.at_.2 i q hq;have hi:=(bU.mp hq).1;exact ⟨hl _ _ h1 (by rw[bQ];exact λe=>by rw[e,hp0] at h1;cases h1),hl _ _ h2 (by rw[bQ];exact (x.pap i hi).2)⟩
theorem PS.snoc (x:PS m mm bg pl P tp pa k) (ht:mm t=some (.tuple [.str l,.ref a])) (ha:mm a=some (.list (r.map .str))) (hal:a≠pl) (hap:a≠bg) :
  PS m (mm.set pl (.list (((aj P.length).map λi=>V.ref (tp i))++[.ref t]))) bg pl (P++[(l,r)]) (λi=>if i=P.length then t else tp i) (λi=>if i=P.length then a else pa i) k:=by
 ext m mm bg pl P tp pa k l r t a;obtain ⟨p,hp⟩:=x.sO;have hpp:=x.ye;have hpl:=λi hi=>(x.pap i hi).1;refine ⟨x.le.set (.inl x.new),⟨p,MH.ay hp hpp⟩,⟨?_,λi q hq=>?_⟩,x.new,hpp,λi hi=>?_⟩
 .rw[MH.af,cQ];show congrArg (λl=>some (O.list l));exact (zL (λx hx=>by simp only[show ¬ x=P.length by exact kU hx,if_false]) (by simp only[if_true]))
 .have To:=x.at_.1;by_cases e:i=P.length
  .subst e;rw[oQ (aL _),MO] at hq;obtain rfl:=c8 hq;simp only[if_true];exact ⟨MH.ay ht (λe=>by rw[e,To] at ht;cases ht),MH.ay ha hal⟩
  .have hi:i < P.length:=by
    have:=(bU.mp hq).1;rw[cQ] at this;have h2:[(l,r)].length=1:=rfl;exact cY this e
   rw[jT hi] at hq;obtain ⟨h1,h2⟩:=x.at_.2 i q hq;simp only[e,if_false];exact ⟨MH.ay h1 (λe=>by rw[e,To] at h1;cases h1),MH.ay h2 (hpl i hi)⟩
 .rw[cQ] at hi;have h2:[(l,r)].length=1:=rfl;by_cases e:i=P.length
  .simp only[e,if_true];exact ⟨hal,hap⟩
  .simp only[e,if_false];exact x.pap i (cY hi e)
end
section
theorem afZ (h1:r1.length<=3) (h2:∀ y∈r1,j6 y) (hx:xx=("a" : Str)\/xx = "b") (h3:r3=[]\/r3=[("a" : Str)]):aT [(("s" : Str),r1),(("s" : Str),[xx]),(("t" : Str),r3)]:=by
 refine ⟨⟨r1,xx,r3,[],rfl,hx,h3,.inl rfl⟩,λp hp=>?_,λp hp=>?_,λp hp y hy=>?_⟩
 all_goals simp only[b8,nS,or_false] at hp
 .rcases hp with rfl | rfl | rfl
  .exact .inl rfl
  .exact .inl rfl
  .exact .inr rfl
 .rcases hp with rfl | rfl | rfl
  .exact h1
  .exact (show 1<=3 by decide)
  .rcases h3 with rfl | rfl<;>simp
 .rcases hp with rfl | rfl | rfl
  .exact h2 y hy
  .have:y=xx:=by simpa using hy
   rw[this];exact hx.imp id .inl
  .rcases h3 with rfl | rfl
   .cases hy
   .have:y=("a" : Str):=by simpa using hy
    exact .inl this
theorem af0 (p:aT P) (h3:P.length=3) (h1:sM q.1) (h2:q.2.length<=3) (h4:∀ y∈q.2,j6 y):aT (P++[q]):=by
 obtain ⟨⟨r1,x,e,more,rfl,hx,he,hm⟩,pl,pn,pr⟩:=p;obtain rfl:more=[]:=BO.mp (by simpa using h3);refine ⟨⟨r1,x,e,[q],rfl,hx,he,.inr ⟨q,rfl⟩⟩,λp hp=>?_,λp hp=>?_,λp hp y hy=>?_⟩
 all_goals rcases bN.mp hp with hp | hp
 .exact pl p hp
 .rw[bQ] at hp;subst hp;exact h1
 .exact pn p hp
 .rw[bQ] at hp;subst hp;exact h2
 .exact pr p hp y hy
 .rw[bQ] at hp;subst hp;exact h4 y hy
section
variable {C:Cx} {A:TA} {n:Nat} {env:Env} {loc:Loc} {m:MH} {Q:V->MH->Prop}
theorem Yr (T:aS C A) (hn:3<=n) (hp:m bg=some (.list [vn p,vn 0])) (h:∀ m' pl P tp pa,aT P->m.bF [bg] m'->jL m' pl P tp pa->Q (.ref pl) m'):FC C (A.f 44) n [.ref bg] m Q:=by
 ext C A n m Q bg p;refine eG T 44 "_law_pairs" ["pen"] (eW hn) rfl (λenv ef=>?_) (by walk_at "bd1");k_is;lk;ext env;show cF T ef.toC 42;lk;refine uq (many:=2) T (zf (eg hn)) (by decide) (by decide) (by decide) hp λmore p1 hmore=>?_;have x1:m.bF [bg] (m.set bg (.list [vn p1,vn 1])):=(MH.bF.refl m).set (.inr (aZ));have y1:=MH.af m bg (.list [vn p1,vn 1]);change WS C (n - 1) env _ _ (m.set bg (.list [vn p1,vn 1])) _;generalize m.set bg (.list [vn p1,vn 1])=m1 at x1 y1 ⊢;lk;ext more p1 m1;show bR;show dI;show eE;lk;show cF T ef.toC 43;lk;show cF T ef.toC 42;lk;refine uq (many:=3) T (zf (eg hn)) (by decide) (by decide) (by decide) y1 λd1 p2 hd1=>?_;have x2:=x1.set (o:=.list [vn p2,vn (1+1)]) (a:=bg) (.inr (aZ));have y2:=MH.af m1 bg (.list [vn p2,vn (1+1)]);generalize m1.set bg (.list [vn p2,vn (1+1)])=m2 at x2 y2 ⊢;show sj;lk;rw[show (1:Int)+((d1:Nat):Int)=((1+d1:Nat):Int) by exact aeI];ext d1 p2 m2;refine M9 (len:=1+d1) (k:=1+1) T (aK hn) (dm pZ hd1) (zz (iH (iH (zf hd1))) (zb rfl)) y2 λm3 a1 p3 r1 x3 y3 ha1 Bx hr1 adB=>?_;lk;ext m3 a1 p3 r1;refine ⟨by exact of_decide_eq_true rfl,λt1 ht1=>?_⟩;lk;ext t1;refine ⟨by exact fF _,λpl hpl=>?_⟩;have x4:m.bF [bg] m3:=x2.trans x3;have m1t:m t1=none:=CR x4 y3 ht1;have EF:=MH.ay (o':=.tuple [.str "s",.ref a1]) y3 (MH.aE y3 ht1);have I4:=MH.ay (o':=.tuple [.str "s",.ref a1]) Bx (MH.aE Bx ht1);have x5:=x4.set (o:=.tuple [.str "s",.ref a1]) (.inl m1t);have Tp:m pl=none:=CR x5 EF hpl;have Tq:a1≠pl:=MH.aE I4 hpl;have ye:bg≠pl:=MH.aE EF hpl;have s0:PS m ((m3.set t1 (.tuple [.str "s",.ref a1])).set pl (.list [.ref t1])) bg pl [(("s" : Str),r1)] (λ_=>t1) (λ_=>a1) (1+1+(1+d1)):=by
  refine ⟨x5.set (.inl Tp),⟨p3,MH.ay EF ye⟩,⟨MH.af _ _ _,λi q hq=>?_⟩,Tp,ye,λi _=>⟨Tq,λe=>by rw[e,y2] at ha1;cases ha1⟩⟩;obtain rfl:i=0:=by have:=(bU.mp hq).1;simp at this;exact this
  obtain rfl:=c8 hq;have ts:=MH.af m3 t1 (.tuple [.str "s",.ref a1]);exact ⟨MH.ay ts (MH.aE ts hpl),MH.ay I4 Tq⟩
 generalize (m3.set t1 (.tuple [.str "s",.ref a1])).set pl (.list [.ref t1])=m4 at s0 ⊢;clear x1 y1 x2 y2 x3 y3 EF Bx I4 x5 x4;ext pl m4;obtain ⟨p4,y4⟩:=s0.sO;change WS C (n - 1) env _ _ m4 _;ext p4;show iV ⟨_,s0.at_.1⟩;show eE;lk;show bR;show dI;lk;show eE;lk;refine ⟨by exact of_decide_eq_true rfl,λc hc=>?_⟩;ext c;show cF T ef.toC 42;lk;have y5:=MH.ay (o':=.tuple [.str "a",.str "b"]) y4 (MH.aE y4 hc);refine uq (many:=2) T (zf (eg hn)) (by decide) (by decide) (zz (iH (iH (zf hd1))) (zb rfl)) y5 λd2 p5 hd2=>?_;have hcp:c≠bg:=λe=>by rw[e,y4] at hc;cases hc
 have cs:((m4.set c (.tuple [.str "a",.str "b"])).set bg (.list [vn p5,vn (1+1+(1+d1)+1)])) c=some (.tuple [.str "a",.str "b"]):=MH.ay (MH.af _ _ _) hcp;obtain ⟨xx,hxx,hab⟩:∃ xx:Str,([.str "a",.str "b"]:List V)[d2]? = some (.str xx)/\(xx=("a" : Str)\/xx = "b"):=by
  match d2,hd2 with
  | 0,_=>exact ⟨"a",rfl,.inl rfl⟩
  | 1,_=>exact ⟨"b",rfl,.inr rfl⟩
 show lM (k:=d2) cs hxx (of_decide_eq_true rfl);have Tr:m4.bF [bg] ((m4.set c (.tuple [.str "a",.str "b"])).set bg (.list [vn p5,vn (1+1+(1+d1)+1)])):=((MH.bF.refl m4).set (.inl hc)).set (.inr (aZ));have s1:=s0.step Tr (MH.af _ _ _);generalize (m4.set c (.tuple [.str "a",.str "b"])).set bg (.list [vn p5,vn (1+1+(1+d1)+1)])=m5 at s1 ⊢;clear Tr cs y5 hxx y4 s0;ext d2 xx m5;obtain ⟨p6,y6⟩:=s1.sO;lk;ext p6;refine ⟨by exact fF _,λa2 ha2=>?_⟩;lk;ext a2;refine ⟨by exact of_decide_eq_true rfl,λt2 tQ=>?_⟩;have Tt:=MH.af m5 a2 (.list [.str xx]);have l6:=(MH.av (m:=m5) (o:=.list [.str xx]) ha2).trans (MH.av (o:=.tuple [.str "s",.ref a2]) tQ);have s2:=s1.step ((MH.bF.refl m5).le l6) (l6 _ _ y6);have I5:=MH.av (o:=.tuple [.str "s",.ref a2]) tQ _ _ Tt;have K0:=MH.af (m5.set a2 (.list [.str xx])) t2 (.tuple [.str "s",.ref a2]);have af1:a2≠pl:=λe=>by have:=s1.at_.1;rw[<-e,ha2] at this;cases this
 have adC:a2≠bg:=λe=>by rw[e,y6] at ha2;cases ha2
 generalize (m5.set a2 (.list [.str xx])).set t2 (.tuple [.str "s",.ref a2])=m6 at s2 I5 K0 ⊢;ext t2 m6;refine ⟨_,s2.at_.1,by exact of_decide_eq_true rfl,?_⟩;have s3:=s2.snoc (l:="s") (r:=[xx]) K0 I5 af1 adC;change WS C (n - 1) env _ _ (m6.set pl (.list (((aj 1).map λi=>V.ref ((λ_=>t1) i))++[.ref t2]))) _;change PS m (m6.set pl (.list (((aj 1).map λi=>V.ref ((λ_=>t1) i))++[.ref t2]))) _ _ _ _ _ _ at s3;generalize m6.set pl (.list (((aj 1).map λi=>V.ref ((λ_=>t1) i))++[.ref t2]))=m7 at s3 ⊢;clear s1 s2 Tt I5 K0 l6 y6;ext m7;obtain ⟨p7,y7⟩:=s3.sO;ext p7;show iV ⟨_,s3.at_.1⟩;show eE;lk;show bR;show dI;refine bR (cM ⟨by simp,λb0 hb0=>?_⟩);lk;ext b0;show bR;lk;refine ⟨by exact fF _,λb1 hb1=>?_⟩;lk;ext b1;refine ⟨by exact of_decide_eq_true rfl,λb2 hb2=>?_⟩;have b0s:=MH.af m7 b0 (.list []);have af2:=MH.av (o:=.list [.str "a"]) hb1 _ _ b0s;have b1s:=MH.af (m7.set b0 (.list [])) b1 (.list [.str "a"]);have l8:=((MH.av (m:=m7) (o:=.list []) hb0).trans (MH.av (o:=.list [.str "a"]) hb1)).trans (MH.av (o:=.list [.ref b0,.ref b1]) hb2);have I6:=MH.av (o:=.list [.ref b0,.ref b1]) hb2 _ _ af2;have I7:=MH.av (o:=.list [.ref b0,.ref b1]) hb2 _ _ b1s;have K1:=MH.af ((m7.set b0 (.list [])).set b1 (.list [.str "a"])) b2 (.list [.ref b0,.ref b1]);have y8:=l8 _ _ y7;have Rb:b0≠bg:=λe=>by rw[e,y7] at hb0;cases hb0
 have af3:b0≠pl:=λe=>by have:=s3.at_.1;rw[<-e,hb0] at this;cases this
 have I8:=(MH.av (m:=m7) (o:=.list []) hb0).new hb1;have Rc:b1≠bg:=λe=>by rw[e,y7] at I8;cases I8
 have af4:b1≠pl:=λe=>by have:=s3.at_.1;rw[<-e,I8] at this;cases this
 have Rd:=((MH.av (m:=m7) (o:=.list []) hb0).trans (MH.av (o:=.list [.str "a"]) hb1)).new hb2;have af5:b2≠bg:=λe=>by rw[e,y7] at Rd;cases Rd
 have s4:=s3.step ((MH.bF.refl m7).le l8) y8;generalize ((m7.set b0 (.list [])).set b1 (.list [.str "a"])).set b2 (.list [.ref b0,.ref b1])=m8 at s4 y8 I6 I7 K1 ⊢;ext b2 m8;show cF T ef.toC 42;lk;refine uq (many:=2) T (zf (eg hn)) (by decide) (by decide) (zz (gQ (iH (iH (zf hd1)))) (zb rfl)) y8 λd3 p8 fL=>?_;obtain ⟨k8,Tu⟩:∃ k8,1+1+(1+d1)+1=k8:=⟨_,rfl⟩;have af6:k8<=10:=dm Tu.symm (zz (gQ (iH (iH (zf hd1)))) (zb rfl));rw[Tu] at s4 y8 ⊢;have s5:=s4.step ((MH.bF.refl m8).set (o:=.list [vn p8,vn (k8+1)]) (.inr (aZ))) (MH.af _ _ _);have K2:=MH.ay (o':=.list [vn p8,vn (k8+1)]) I6 Rb;have K4:=MH.ay (o':=.list [vn p8,vn (k8+1)]) I7 Rc;have K5:=MH.ay (o':=.list [vn p8,vn (k8+1)]) K1 af5;generalize m8.set bg (.list [vn p8,vn (k8+1)])=m9 at s5 K2 K4 K5 ⊢;obtain ⟨bb,r3,e3,hbb,fV,hbp,hr3⟩:∃ (bb:Addr) (r3:List Str),([.ref b0,.ref b1]:List V)[d3]? = some (.ref bb)/\m9 bb=some (.list (r3.map .str))/\bb≠pl/\bb≠bg/\(r3=[]\/r3=[("a" : Str)]):=by
  match d3,fL with
  | 0,_=>exact ⟨b0,[],rfl,K2,af3,Rb,.inl rfl⟩
  | 1,_=>exact ⟨b1,["a"],rfl,K4,af4,Rc,.inr rfl⟩
 show aJ (k:=d3) K5 e3 (of_decide_eq_true rfl);lk;refine ⟨by exact of_decide_eq_true rfl,λt3 K6=>?_⟩;have Tv:=MH.av (o:=.tuple [.str "t",.ref bb]) K6 _ _ hbb;have Tw:=MH.af m9 t3 (.tuple [.str "t",.ref bb]);obtain ⟨p9,y9⟩:=s5.sO;have s6:=s5.step ((MH.bF.refl m9).le (MH.av (o:=.tuple [.str "t",.ref bb]) K6)) (MH.av (o:=.tuple [.str "t",.ref bb]) K6 _ _ y9);generalize m9.set t3 (.tuple [.str "t",.ref bb])=lA at s6 Tv Tw ⊢;refine ⟨_,s6.at_.1,by exact of_decide_eq_true rfl,?_⟩;have s7:=s6.snoc (l:="t") (r:=r3) Tw Tv fV hbp;clear s4 s5 s6 K2 K4 K5 I6 I7 K1 y8 y9;obtain ⟨M,hM⟩:∃ M,M=lA.set pl (.list (((aj ([(("s" : Str),r1)]++[(("s" : Str),[xx])]:List Pr).length).map λi=>V.ref ((λi=>if i=([(("s" : Str),r1)]:List Pr).length then t2 else (λ_=>t1) i) i))++[.ref t3])):=⟨_,rfl⟩;change PS m (lA.set pl (.list (((aj ([(("s" : Str),r1)]++[(("s" : Str),[xx])]:List Pr).length).map λi=>V.ref ((λi=>if i=([(("s" : Str),r1)]:List Pr).length then t2 else (λ_=>t1) i) i))++[.ref t3]))) _ _ _ _ _ _ at s7;rw[<-hM] at s7 ⊢;clear hM;have pk3:aT ([(("s" : Str),r1)]++[(("s" : Str),[xx])]++[(("t" : Str),r3)]):=afZ (dm hr1 (dm pZ hd1)) adB hab hr3;have Tz:([(("s" : Str),r1)]++[(("s" : Str),[xx])]++[(("t" : Str),r3)]:List Pr).length=3:=rfl;generalize [(("s" : Str),r1)]++[(("s" : Str),[xx])]++[(("t" : Str),r3)]=P3 at s7 pk3 Tz ⊢;change WS C (n - 1) env _ _ M _;refine dw (λi=>[("pairs",.ref pl),("pen",.ref bg)]) (λi mm=>∃ P tp pa k,PS m mm bg pl P tp pa k/\k<=20+20*i/\aT P/\P.length=3+i) (lJ T ef.toC ?_);lk;refine ⟨more,rfl,zl hmore aI,by k_in,⟨P3,_,_,_,s7,zm af6 (ao rfl),pk3,Tz⟩,λ_ _ _=>trivial,?_,?_⟩
 .rintro i mm hi aG;ext i mm;show bO;intro QQ bP;ext QQ;obtain ⟨P,tp,pa,k,u1,u2,u3,u4⟩:=aG;ext P tp pa k;obtain rfl:i=0:=Ju (zl hi (zh hmore));show aM (ef.store ⋯);obtain ⟨q1,z1⟩:=u1.sO;change WS C (n - 1) env _ _ mm _;lk;ext q1;show eE;lk;refine ⟨by exact of_decide_eq_true rfl,λc hc=>?_⟩
  (revert hc;clear hc;intro hc);ext c
  show cF T ef.toC 42;lk;have z2:=MH.ay (o':=.tuple [.str "s",.str "t"]) z1 (MH.aE z1 hc);refine uq (many:=2) T (zf (eg hn)) (by decide) (by decide) (zz u2 aI) z2 λd4 p4 Ko=>?_;have hcp:c≠bg:=λe=>by rw[e,z1] at hc;cases hc
  have cs:((mm.set c (.tuple [.str "s",.str "t"])).set bg (.list [vn p4,vn (k+1)])) c=some (.tuple [.str "s",.str "t"]):=MH.ay (MH.af _ _ _) hcp;obtain ⟨ll,iw,hst⟩:∃ ll:Str,([.str "s",.str "t"]:List V)[d4]? = some (.str ll)/\sM ll:=by
   match d4,Ko with
   | 0,_=>exact ⟨"s",rfl,.inl rfl⟩
   | 1,_=>exact ⟨"t",rfl,.inr rfl⟩
  show lM (k:=d4) cs iw (of_decide_eq_true rfl);have v1:=u1.step (((MH.bF.refl mm).set (.inl hc)).set (.inr (aZ))) (MH.af (mm.set c (.tuple [.str "s",.str "t"])) bg (.list [vn p4,vn (k+1)]));generalize (mm.set c (.tuple [.str "s",.str "t"])).set bg (.list [vn p4,vn (k+1)])=k1 at v1 ⊢
  (revert hcp;clear hcp;intro hcp);ext d4 p4 ll k1
  obtain ⟨q2,z3⟩:=v1.sO;change WS C (n - 1) env _ _ k1 _;show iV ⟨_,v1.at_.1⟩;show eE;lk;show cF T ef.toC 43;lk;show cF T ef.toC 42;lk;refine uq (many:=4) T (zf (eg hn)) (by decide) (by decide) (zm u2 (ao rfl)) z3 λd5 p5 EG=>?_;have v2:=v1.step ((MH.bF.refl k1).set (o:=.list [vn p5,vn (k+1+1)]) (.inr (aZ))) (MH.af _ _ _);have z4:=MH.af k1 bg (.list [vn p5,vn (k+1+1)]);generalize k1.set bg (.list [vn p5,vn (k+1+1)])=k2 at v2 z4 ⊢;lk;ext d5 p5 k2;refine M9 (len:=d5) (k:=k+1+1) T (aK hn) (zh EG) (zz (dO (gQ (gQ u2)) (zf EG)) (zb rfl)) z4 λk3 a1 p6 r4 x3 y3 ha1 Bx JM adD=>?_;have v3:=v2.step x3 y3;have af7:a1≠bg:=λe=>by rw[e,z4] at ha1;cases ha1
  have af8:a1≠pl:=λe=>by have:=v2.at_.1;rw[<-e,ha1] at this;cases this
  lk;refine ⟨by exact of_decide_eq_true rfl,λt4 yh=>?_⟩;have w1:=MH.av (o:=.tuple [.str ll,.ref a1]) yh _ _ Bx;have w2:=MH.af k3 t4 (.tuple [.str ll,.ref a1]);have v4:=v3.step ((MH.bF.refl k3).le (MH.av (o:=.tuple [.str ll,.ref a1]) yh)) (MH.av (o:=.tuple [.str ll,.ref a1]) yh _ _ y3);generalize k3.set t4 (.tuple [.str ll,.ref a1])=k4 at v4 w1 w2 ⊢;refine ⟨_,v4.at_.1,by rw[ak,aN];exact fK u4 (ao rfl),?_⟩;have v5:=v4.snoc (l:=ll) (r:=r4) w2 w1 af8 af7;subst bP;exact br (by k_in) ⟨_,_,_,_,v5,zz (dO (gQ (gQ u2)) (zf EG)) (zb rfl),af0 u3 u4 (q:=(ll,r4)) hst (by rw[JM];exact zh EG) adD,by rw[cQ,u4];rfl⟩
 .rintro mm ⟨P,tp,pa,k,u1,u2,u3,u4⟩;lk;exact h mm pl P tp pa u3 u1.le u1.at_
end
end
section
noncomputable def jO (i:Nat) (q:Pr) (d:Nat):Str:=nY (" " : Str) ([((toString (i:Int):String):Str),q.1,(":" : Str)]++q.2.take d++[("." : Str)]++q.2.drop d)
section
variable {C:Cx} {A:TA} {n:Nat} {env:Env} {loc:Loc} {m:MH} {Q:V->MH->Prop}
theorem Ze (T:aS C A) (hn:1<=n) (x:jL m rl RP tp pa) (hq:RP[i]? = some q) (hR:RP.length<=5) (hq1:q.1.length<=20) (hq2:∀ y∈q.2,y.length<=20) (cB:q.2.length<=3) (hd:d<=q.2.length) (h:∀ m',m.le m'->Q (.str (jO i q d)) m'):FC C (A.f 46) n [.ref rl,vn i,vn d] m Q:=by
 have hi:i < RP.length:=(bU.mp hq).1;ext C A n m Q rl RP tp pa i d q;refine eG T 46 "_law_text" ["rules","number","dot"] hn rfl (λenv ef=>?_) (by walk_at "bd3");k_is;ext env;show Hg;lk;show aJ x.1 (aW _ hi) (by rw[ak,aN];exact zm hR (ao rfl));show mP (x.2 i q hq).1 rfl;refine aM (ef.store ⋯) (aM (ef.store ⋯) ?_);change WS C (n - 1) env _ _ m _;lk;show eB Fi Fy Fz;lk;refine ⟨rfl,?_⟩;lk;show bR;lk;show mO T ef.toC (by rfl);lk;show OW (zl hi (zz hR (zb rfl)));lk;refine ⟨by exact of_decide_eq_true rfl,λc1 hc1=>?_⟩;have eH:=(x.2 i q hq).2;ext c1;obtain ⟨fL,DH⟩:∃ l:List Str,l=[((toString (i:Int):String):Str),q.1,(":" : Str)]:=⟨_,rfl⟩;have e1:([V.str ((toString (i:Int):String):Str),V.str q.1,V.str (":" : Str)]:List V)=fL.map V.str:=by rw[DH];rfl
 rw[e1];have l1:=MH.av (o:=.list (fL.map V.str)) hc1;have Bw:=MH.af m c1 (.list (fL.map V.str));generalize m.set c1 (.list (fL.map V.str))=m1 at l1 Bw ⊢;ext fL m1;show GP;lk;refine zS (uz ?_);lk;refine ⟨d,rfl,_,_,rfl,l1 _ _ eH,by rw[ak];exact zz cB aI,λc2 hc2=>?_⟩;rw[uB,show slc q.2 none (some d)=q.2.take d from rfl];have l2:=MH.av (o:=.list ((q.2.take d).map V.str)) hc2;have rE:=MH.af m1 c2 (.list ((q.2.take d).map V.str));generalize m1.set c2 (.list ((q.2.take d).map V.str))=m2 at l2 rE ⊢;have hl3:fL.length=3:=by rw[DH];rfl
 refine mV (l2 _ _ Bw) rE (by simp;exact zm (dO (ze hl3) (zz u7 cB)) (ao rfl)) λc3 hc3=>?_;rw[<-aV];have l3:=MH.av (o:=.list ((fL++q.2.take d).map V.str)) hc3;have TH:=MH.af m2 c3 (.list ((fL++q.2.take d).map V.str));generalize m2.set c3 (.list ((fL++q.2.take d).map V.str))=m3 at l3 TH ⊢;lk;ext c2 m2 c3 m3;show bR;lk;refine ⟨by exact fF _,λc4 hc4=>?_⟩;have l4:=MH.av (o:=.list ([("." : Str)].map V.str)) hc4;have TJ:=MH.af m3 c4 (.list ([("." : Str)].map V.str));change ∀ ra rb,er ra=_->er rb=_->TR C _ _ (m3.set c4 (.list ([("." : Str)].map V.str))) _;generalize m3.set c4 (.list ([("." : Str)].map V.str))=m4 at l4 TJ ⊢;refine mV (l4 _ _ TH) TJ (by simp;exact zm (dO (dO (ze hl3) (zz u7 cB)) (aL 1)) (ao rfl)) λc5 hc5=>?_;rw[<-aV];have l5:=MH.av (o:=.list ((fL++q.2.take d++[("." : Str)]).map V.str)) hc5;have TM:=MH.af m4 c5 (.list ((fL++q.2.take d++[("." : Str)]).map V.str));generalize m4.set c5 (.list ((fL++q.2.take d++[("." : Str)]).map V.str))=m5 at l5 TM ⊢;ext c4 m4 c5 m5;show GP;lk;show uz;lk;refine ⟨d,rfl,zS ?_⟩;refine ⟨_,_,rfl,l5 _ _ (l4 _ _ (l3 _ _ (l2 _ _ (l1 _ _ eH)))),by rw[ak];exact zz cB aI,λc6 hc6=>?_⟩;rw[uB,show slc q.2 (some d) none=q.2.drop d by unfold slc;simp];have l6:=MH.av (o:=.list ((q.2.drop d).map V.str)) hc6;have TN:=MH.af m5 c6 (.list ((q.2.drop d).map V.str));generalize m5.set c6 (.list ((q.2.drop d).map V.str))=m6 at l6 TN ⊢;refine mV (l6 _ _ TM) TN (by simp;exact zm (dO (dO (ze hl3) (dO (zz u7 cB) (aL 1))) (sU cB)) (ao rfl)) λc7 hc7=>?_;rw[<-aV];have l7:=MH.av (o:=.list ((fL++q.2.take d++[("." : Str)]++q.2.drop d).map V.str)) hc7;have TP:=MH.af m6 c7 (.list ((fL++q.2.take d++[("." : Str)]++q.2.drop d).map V.str));generalize m6.set c7 (.list ((fL++q.2.take d++[("." : Str)]++q.2.drop d).map V.str))=m7 at l7 TP ⊢;lk;show CN TP ?_
 .have hs:∀ y∈fL++q.2.take d++[("." : Str)]++q.2.drop d,y.length<=20:=λy hy=>by
   rw[bN,bN,bN] at hy;rcases hy with ((hy | hy) | hy) | hy
   .rw[DH] at hy;simp only[b8,nS,or_false] at hy;rcases hy with rfl | rfl | rfl
    .have:i=0\/i=1\/i=2\/i=3\/i=4:=uK (zl hi hR);rcases this with rfl | rfl | rfl | rfl | rfl<;>decide +kernel
    .exact hq1
    .decide +kernel
   .exact hq2 y (mJ hy)
   .rw[bQ] at hy;subst hy;decide +kernel
   .exact hq2 y (yD hy)
  have h1:=zT hs;have h2:(fL++q.2.take d++[("." : Str)]++q.2.drop d).length<=7:=by simp;rw[Jv hd,<-oZ d,fT hd];exact dO (ze hl3) (uZ cB)
  have h3:(" " : Str).length=1:=rfl;rw[h3];exact zz (dO (zz h1 (Jr h2)) (Jr h2)) (zb rfl)
 .subst DH;exact h _ (l1.trans (l2.trans (l3.trans (l4.trans (l5.trans (l6.trans l7))))))
end
end
section
noncomputable def dY (n:Nat) (f:Nat->Nat->Bool):KasT α->(α->Prop)->Prop
 | .ret a,Q=>Q a
 | .ask i j k,Q=>i < n/\j < n/\dY n f (k (f i j)) Q
theorem dY.bind:∀ {t:KasT α},dY n f t (λa=>dY n f (g a) Q)->dY n f (t.bind g) Q
 | .ret _,h=>h
 | .ask _ _ _,h=>⟨h.1,h.2,dY.bind h.3⟩
theorem dY.wp {n:Nat} {f:Nat->Nat->Bool} {α:Type} {cmp:Nat->Nat->(Bool->Shared->Prop)->Shared->Prop} {G:α->Shared->Prop} {Q:α->Prop} {s:Shared}
  (hc:∀ i j,i < n->j < n->∀ C:Bool->Shared->Prop,C (f i j) s->cmp i j C s) (hQ:∀ a,Q a->G a s):∀ {t:KasT α},dY n f t Q->t.kasWp cmp G s
 | .ret a,h=>hQ a h
 | .ask i j k,h=>hc i j h.1 h.2 (λb s'=>(k b).kasWp cmp G s') (dY.wp hc hQ h.3)
theorem mr (h:a<=i/\i < k):a<=a+k - 1 - i/\a+k - 1 - i < k:=by exact aeK h
theorem m0 (h:i < k):0+k - 1 - i < k:=(mr ⟨bk i,h⟩).2
theorem mid (h:l < r):l<=(l+r) / 2/\(l+r) / 2 < r:=by exact aeJ h
section
variable {n:Nat} {key:Nat->Nat}
noncomputable abbrev jf (key:Nat->Nat) (i j:Nat):Bool:=decide (key i < key j)
noncomputable def Kp (key:Nat->Nat) (p:Array Nat) (i:Nat):Nat:=key (p[i]?.getD 0)
theorem pP (key:Nat->Nat) (p:Array Nat) (i:Nat):key (p.getD i 0)=Kp key p i:=by unfold Kp;rw[UK]
noncomputable def eO (n:Nat) (p:Array Nat):Prop:=p.Perm (aj n).toArray
theorem eO.size (h:eO n p):p.size=n:=by have:=h.size_eq;simpa using this
theorem eO.lt (h:eO n p) (hn:0 < n) (i:Nat):p.getD i 0 < n:=by
 rw[UK];by_cases hi:i < p.size
 .rw[LJ hi];have:p[i]∈(aj n):=by
   have:=(LH.mp h).mem_iff (a:=p[i]);exact this.mp (by simp)
  exact jV.mp (by assumption)
 .rw[Array.getElem?_eq_none (zg hi)];exact hn
theorem eO.rev (h:eO n p) (i j:Nat):eO n (zW p i j):=(mirror_perm _ _ _ _).trans h
theorem eO.bub (h:eO n p) (i j:Nat):eO n (bubble p i j):=(bubble_perm _ _ _).trans h
theorem wN (hj:j<=p.size) (k:Nat):Kp key (zW p i j) k=if i<=k/\k < j then Kp key p (i+j - 1 - k) else Kp key p k:=by unfold Kp zW;rw[getElem?_mirror_all hj];split<;>rfl
theorem acF (hs:src < p.size) (hd:d<=src) (k:Nat):Kp key (bubble p src d) k=if k=src - d then Kp key p src else if src - d < k/\k<=src then Kp key p (k - 1) else Kp key p k:=by
 unfold Kp;rw[getElem?_bubble hs d hd k];split
 .rfl
 .split<;>rfl
noncomputable def rG (key:Nat->Nat) (p:Array Nat) (k:Nat):Prop:=∀ i j,i<=j->j < k->Kp key p i<=Kp key p j
noncomputable def AJ (key:Nat->Nat) (p:Array Nat) (k:Nat):Prop:=∀ i j,i<=j->j < k->Kp key p j<=Kp key p i
theorem O6 (hn:0 < n) (hp:eO n p):∀ (f k:Nat),1<=k->k+f<=n->rG key p k->
  (∀ m,k<=m->m<=k+f->rG key p m->(m=k+f\/Kp key p m < Kp key p (m - 1))->Q m)->dY n (jf key) (kas_asc p f k) Q:=by
 intro l_;induction l_ with
 | zero=>
  intro k _ _ hs h;exact h k (aL _) eF hs (.inl rfl)
 | succ f ih=>
  intro k h1 h2 hs h;refine ⟨hp.lt hn _,hp.lt hn _,?_⟩;change dY n (jf key) (if decide (key (p.getD k 0) < key (p.getD (k - 1) 0))=true then _ else _) Q;rw[pP key,pP key];by_cases q:Kp key p k < Kp key p (k - 1)
  .rw[if_pos (decide_eq_true q)];exact h k (aL _) eF hs (.inr q)
  .rw[if_neg (by simpa using q)];refine ih (k+1) (zo h1) (dm ir h2) (λi j hij hj=>?_) λm a b c d=>h m (zf a) (kL b ir) c (d.imp (λe=>e.trans ir) id);by_cases hjk:j < k
   .exact hs i j hij hjk
   .by_cases hi:i=j
    .subst hi;exact aL _
    .have:=hs i (k - 1) (aK (zl (zd hij hi) (zh hj))) (xB h1);have e:j=k:=ow hj hjk;subst e;exact zz this (zg q)
theorem abk (hn:0 < n):∀ (f:Nat) (p:Array Nat) (k q:Nat),eO n p->1<=k->k+f<=n->AJ key p k->q+1<=k->(∀ i,k - (q+1)<=i->i < k->Kp key p i=Kp key p (k - 1))->
  (∀ p' m q',eO n p'->k<=m->m<=k+f->AJ key p' m->q'+1<=m->(∀ i,m - (q'+1)<=i->i < m->Kp key p' i=Kp key p' (m - 1))->Q (p',m,q'))->dY n (jf key) (kas_desc f p k q) Q:=by
 intro l_;induction l_ with
 | zero=>
  intro p k q hp h1 h2 hs hq he h;exact h p k q hp (aL _) eF hs hq he
 | succ f ih=>
  intro p k q hp h1 h2 hs hq he h;refine ⟨hp.lt hn _,hp.lt hn _,?_⟩;change dY n (jf key) (if decide (key (p.getD k 0) < key (p.getD (k - 1) 0))=true then _ else _) Q;rw[pP key,pP key];have ext:∀ {p':Array Nat},(∀ i,Kp key p' i=Kp key p i)->Kp key p k<=Kp key p (k - 1)->AJ key p' (k+1):=λ{p'} e hk i j hij hj=>by
   rw[e,e];by_cases hjk:j < k
   .exact hs i j hij hjk
   .by_cases hi:i=j
    .subst hi;exact aL _
    .have:=hs i (k - 1) (aK (zl (zd hij hi) (zh hj))) (xB h1);have e:j=k:=ow hj hjk;subst e;exact zz hk this
  by_cases c:Kp key p k < Kp key p (k - 1)
  .rw[if_pos (decide_eq_true c)];have go:∀ p',eO n p'->(∀ i,Kp key p' i=Kp key p i)->dY n (jf key) (kas_desc f p' (k+1) 0) Q:=λp' hp' e=>
    ih p' (k+1) 0 hp' (zo h1) (dm ir h2) (ext e (zf c)) (zo h1) (λi a b=>by congr 1;exact kT (aK b) a) λp2 m q2 a b c d e g=>h p2 m q2 a (zf b) (kL c ir) d e g
   split
   .refine go _ (hp.rev _ _) λi=>?_;rw[wN (by rw[hp.size];exact zla h2)];split
    .rename_i w;rw[he _ (mr w).1 (mr w).2,he i w.1 w.2]
    .rfl
   .exact go p hp λ_=>rfl
  .rw[if_neg (by simpa using c)];refine ⟨hp.lt hn _,hp.lt hn _,?_⟩;change dY n (jf key) (if decide (key (p.getD (k - 1) 0) < key (p.getD k 0))=true then _ else _) Q;rw[pP key,pP key];by_cases d:Kp key p (k - 1) < Kp key p k
   .rw[if_pos (decide_eq_true d)];exact h p k q hp (aL _) eF hs hq he
   .rw[if_neg (by simpa using d)];have ee:Kp key p k=Kp key p (k - 1):=zap c d;refine ih p (k+1) (q+1) hp (zo h1) (dm ir h2) (ext (λ_=>rfl) (zg d)) (uZ hq) (λi a b=>?_) λp2 m q2 a b c d e g=>h p2 m q2 a (zf b) (kL c ir) d e g;by_cases hik:i=k
    .rw[hik];congr 1
    .rw[he i (zz (ze (Nat.add_sub_add_right k 1 (q+1)).symm) a) (cY b hik),show k+1 - 1=k by exact RE,ee]
theorem Oa (hn:0 < n) (hp:eO n p) (h1:1<=k) (h2:k<=n) (hs:AJ key p k) (h:∀ m p',eO n p'->1<=m->m<=n->rG key p' m->Q (m,p')) :
  dY n (jf key) (kas_tail3 k n p) Q:=by
 unfold kas_tail3;refine dY.bind (O6 hn (hp.rev 0 k) (n - k) k h1 (ze (fT h2)) (λi j hij hj=>?_) λm a b c _=>h m _ (hp.rev 0 k) (zz h1 a) (kL b (fT h2)) c);rw[wN (by rw[hp.size];exact h2),wN (by rw[hp.size];exact h2),if_pos ⟨zg qc,zl (zs hij) hj⟩,if_pos ⟨zg qc,hj⟩];exact hs _ _ (RD hij) (m0 (zm hij hj))
theorem MT (hn:0 < n) (hp:eO n p) (h1:1<=k) (h2:k+1<=n) (hs:AJ key p (k+1)) (h:∀ m p',eO n p'->1<=m->m<=n->rG key p' m->Q (m,p')) :
  dY n (jf key) (kas_descPart k n p) Q:=by
 unfold kas_descPart;refine dY.bind (abk hn _ p (k+1) 0 hp (zo h1) (ze (fT h2)) hs (zo h1) (λi a b=>by congr 1;exact kT (aK b) a) λp' m q a b c d e g=>?_);change dY n (jf key) (if q > 0 then _ else _) Q;split
 .dsimp only at *
  refine Oa hn (a.rev _ _) (k:=m) (eW e) (kL c (fT h2)) (λi j hij hj=>?_) h;have ek:∀ i,Kp key (zW p' (m - (q+1)) m) i=Kp key p' i:=λi=>by
   rw[wN (by rw[a.size];exact kL c (fT h2))];split
   .rename_i w;rw[g _ (mr w).1 (mr w).2,g i w.1 w.2]
   .rfl
  change Kp key (zW p' (m - (q+1)) m) j<=Kp key (zW p' (m - (q+1)) m) i;rw[ek,ek];exact d i j hij hj
 .exact Oa hn a (eW e) (kL c (fT h2)) d h
theorem aad (hn:0 < n) (hp:eO n p) (h:∀ m p',eO n p'->1<=m->m<=n->rG key p' m->Q (m,p')) :
  dY n (jf key) (kas_count n p) Q:=by
 ext n key p Q;unfold kas_count;refine dY.bind (O6 hn hp (n - 1) 1 (aL _) (ze (fT hn)) (λi j hij hj=>?_) λm a b c d=>?_)
 .have:i=j:=qb (ow (zal hj) (ie hij));subst this;exact aL _
 by_cases e:m=n
 .rw[if_pos (by simp[e])];exact h m p hp a (ze e) c
 .rw[if_neg (by simpa using e)];have d':Kp key p m < Kp key p (m - 1):=d.resolve_left λq=>e (q.trans (fT hn));by_cases g:m > 1
  .rw[if_pos g];refine ⟨hp.lt hn _,hp.lt hn _,?_⟩;change dY n (jf key) (if decide (key (p.getD 0 0) < key (p.getD (m - 1) 0))=true then _ else _) Q;rw[pP key,pP key];by_cases u:Kp key p 0 < Kp key p (m - 1)
   .rw[if_pos (decide_eq_true u)];exact h m p hp a (kL b (fT hn)) c
   .rw[if_neg (by simpa using u)];refine MT hn (hp.rev 0 m) a (zd (kL b (fT hn)) e) (λi j hij hj=>?_) h;have ek:∀ i,i < m->Kp key p i=Kp key p (m - 1):=λi hi=>by
     have:=c 0 i (zg qc) hi;have:=c i (m - 1) (aK hi) (xB a);exact kT this (zz (zg u) (by assumption))
    rw[wN (by rw[hp.size];exact kL b (fT hn)),wN (by rw[hp.size];exact kL b (fT hn))];by_cases qY:j < m
    .rw[if_pos ⟨zg qc,qY⟩,if_pos ⟨zg qc,zl (zs hij) qY⟩,ek (0+m - 1 - j) (m0 qY),ek (0+m - 1 - i) (m0 (zm hij qY))];exact aL _
    .rw[if_neg λh=>qY h.2];have:j=m:=ow hj qY;subst this;by_cases sP:i < j
     .rw[if_pos ⟨zg qc,sP⟩,ek (0+j - 1 - i) (m0 sP)];exact zf d'
     .rw[if_neg λh=>sP h.2];have:i=j:=sV hij sP;subst this;exact aL _
  .rw[if_neg g];refine MT hn hp a (zd (kL b (fT hn)) e) (λi j hij hj=>?_) h;have:m=1:=qb (sV a g);subst this;by_cases sP:i=j
   .subst sP;exact aL _
   .have:i=0:=Ju (zl (zd hij sP) (zh hj));have:j=1:=kT (zh hj) (zqr this (zd hij sP));subst i;subst j;simpa using fy d'
theorem aae (hn:0 < n) (hp:eO n p) (hk:k < n) (hs:rG key p k) (h:∀ l,l<=k->(∀ i,i < l->Kp key p i<=Kp key p k)->(∀ i,l<=i->i < k->Kp key p k < Kp key p i)->Q l):∀ (f l r:Nat),l<=r->r<=k->r - l<=f->(∀ i,i < l->Kp key p i<=Kp key p k)->(∀ i,r<=i->i < k->Kp key p k < Kp key p i)->dY n (jf key) (kas_place p k f l r) Q:=by
 intro l_;induction l_ with
 | zero=>
  intro l r h1 h2 h3 h4 h5;exact h l (zz h1 h2) h4 λi a b=>h5 i (zz (Nat.le_of_sub_eq_zero (AR h3)) a) b
 | succ f ih=>
  intro l r h1 h2 h3 h4 h5;unfold kas_place;by_cases c:l ≥ r
  .rw[if_pos c];exact h l (zz h1 h2) h4 λi a b=>h5 i (zz c a) b
  .rw[if_neg c];obtain ⟨d,e⟩:=mid (zp c);refine ⟨hp.lt hn _,hp.lt hn _,?_⟩;change dY n (jf key) (if decide (key (p.getD k 0) < key (p.getD ((l+r) / 2) 0))=true then _ else _) Q;rw[pP key,pP key];by_cases u:Kp key p k < Kp key p ((l+r) / 2)
   .rw[if_pos (decide_eq_true u)];refine ih l _ d (zz (zf e) h2) (zh (zl (Jl d e) h3)) h4 λi a b=>?_;have:=hs _ i a b;exact zl u this
   .rw[if_neg (by simpa using u)];refine ih _ r e h2 (zh (zl (zl (sR e) (RD d)) h3)) (λi a=>?_) h5;have:=hs i ((l+r) / 2) (zh a) (zl e h2);exact zz this (zg u)
theorem acG (hn:0 < n):∀ (f:Nat) (p:Array Nat) (k:Nat),eO n p->k+f=n->rG key p k->(∀ p',eO n p'->rG key p' n->Q p')->dY n (jf key) (kas_bin f p k) Q:=by
 intro l_;induction l_ with
 | zero=>
  intro p k hp h1 hs h;exact h p hp (by rw[<-h1];exact hs)
 | succ f ih=>
  intro p k hp h1 hs h;refine dY.bind (aae hn hp (pV jP h1) hs (λl a b c=>?_) k 0 k (zg qc) (aL _) Jo (λi hi=>(kc hi).elim) λi a b=>(ig b a).elim);refine ih _ (k+1) (hp.bub _ _) (zdt ir h1) (λi j hij hj=>?_) h;have hks:k < p.size:=by rw[hp.size];exact pV jP h1
  have E:∀ x,x < k+1->(x < l/\Kp key (bubble p k (k - l)) x=Kp key p x)\/(x=l/\Kp key (bubble p k (k - l)) x=Kp key p k)\/(l < x/\Kp key (bubble p k (k - l)) x=Kp key p (x - 1)):=λx hx=>by
   rw[acF hks Jo,show k - (k - l)=l by exact qb (Jt (fT a))];rcases Ma x l with q | q | q
   .exact .inl ⟨q,by rw[if_neg (kU q),if_neg λh=>vc q h.1]⟩
   .exact .inr (.inl ⟨q,if_pos q⟩)
   .exact .inr (.inr ⟨q,by rw[if_neg (nu q),if_pos ⟨q,zh hx⟩]⟩)
  rcases E j hj with ⟨q,e⟩ | ⟨q,e⟩ | ⟨q,e⟩<;>rcases E i (zm hij hj) with ⟨r,g⟩ | ⟨r,g⟩ | ⟨r,g⟩<;>rw[e,g]
  .exact hs i j hij (zl q a)
  .exact (ig q (r▸hij)).elim
  .exact (ig (zn q r) hij).elim
  .exact b i r
  .exact aL _
  .exact (ig r (q▸hij)).elim
  .exact hs i (j - 1) (aK (zn r q)) (mw (lV q) (zh hj))
  .exact fy (c (j - 1) (aK q) (mw (lV q) (zh hj)))
  .exact hs _ _ (Jp hij) (mw (lV q) (zh hj))
theorem abl (hn:0 < n) (h:∀ p:Array Nat,eO n p->(p.toList.map key).Pairwise (·<=·)->Q p):dY n (jf key) (kas_sort n) Q:=by
 have fin:∀ p:Array Nat,eO n p->rG key p n->Q p:=λp hp hs=>by
  show h p hp;rw[qw];intro i j hi hj hij;have hi':i < p.size:=by simpa using hi
  have hj':j < p.size:=by simpa using hj
  have h1:=hs i j (fy hij) (by rw[<-hp.size];exact hj');unfold Kp at h1;rw[LJ hi',LJ hj'] at h1;simpa using h1
 unfold kas_sort;refine dY.bind (aad hn (ag3 _) λm p hp h1 h2 hs=>?_);change dY n (jf key) (if m < n then _ else _) Q;split
 .rw[show max m 1=m by exact zdp h1];exact acG hn _ p m hp (fT h2) hs fin
 .have:m=n:=sV h2 (by assumption);subst this;exact fin p hp hs
end
end
section
noncomputable def qR (h:Heap) (a:Addr) (p:Nat×Nat):Prop:=∃ k t u,h.get? a=some (tu [.int (p.1:Nat) t,.int (p.2:Nat) u] k)
noncomputable def dK (p:Nat×Nat):Nat:=p.1*1000+p.2
theorem qR.mono (x:qR h a p) (e:∀ o,h.get? a=some o->h'.get? a=some o):qR h' a p:=let ⟨k,t,u,q⟩:=x;⟨k,t,u,e _ q⟩
noncomputable abbrev AP:=Addr×(Nat×Nat)
noncomputable abbrev cO (T:List AP):List Value:=T.map λx=>Value.ref x.1
noncomputable abbrev qS (T:List AP) (i:Nat):Nat:=dK (T[i]?.getD (0,(0,0))).2
section
variable {prog:Program} {w:World} {A:Around} {E:Value->Shared->Prop} {s:Shared}
theorem abm (hx:qR s.heap x p) (hy:qR s.heap y q) (b1:p.2 < 1000) (b2:q.2 < 1000) (h:C (decide (dK p < dK q)) s) :
  wpAny (model prog w) A (keyLt' (tuples' true) (.ref x) (.ref y)) C E s:=by
 ext prog w A E s x y p q C;obtain ⟨k,t,u,gx⟩:=hx;ext k t u;obtain ⟨k',t',u',gy⟩:=hy;ext k' t' u';show kat_lt gx rfl gy rfl;change KatLex prog w A true (decide (2 < 2)) C [(.int (p.1:Nat) t,.int (q.1:Nat) t'),(.int (p.2:Nat) u,.int (q.2:Nat) u')] 0 s;refine kat_cons (VX ?_);by_cases e1:p.1=q.1
 .have rC:(((p.1:Nat):Int)==((q.1:Nat):Int))=true:=by simp[e1]
  rw[rC];refine kat_yes (kat_cons (VX ?_));by_cases e2:p.2=q.2
  .have K7:(((p.2:Nat):Int)==((q.2:Nat):Int))=true:=by simp[e2]
   rw[K7];refine kat_yes (kat_nil ?_);have:decide (dK p < dK q)=decide (2 < 2):=by unfold dK;rw[e1,e2];simp
   rw[<-this];exact h
  .have K7:(((p.2:Nat):Int)==((q.2:Nat):Int))=false:=by simp;exact P0 e2
   rw[K7];refine kat_no (kat_one _ _ (Wl ?_));have:decide (((p.2:Nat):Int) < ((q.2:Nat):Int))=decide (dK p < dK q):=by unfold dK;rw[e1];exact decide_eq_decide.mpr ⟨λh=>i6 (RN h),λh=>Jw (LI h)⟩
   change C (decide (((p.2:Nat):Int) < ((q.2:Nat):Int))) s;rw[this];exact h
 .have rC:(((p.1:Nat):Int)==((q.1:Nat):Int))=false:=by simp;exact P0 e1
  rw[rC];show kat_no;change wpAny (model prog w) A (oneLt' true _ _) C _ s;show oneLt_int;have:decide (((p.1:Nat):Int) < ((q.1:Nat):Int))=decide (dK p < dK q):=by unfold dK;exact decide_eq_decide.mpr ⟨λh=>Ar (RN h) b1,λh=>Jw (VK λk=>vc h (Ar (xy k e1) b2))⟩
  rw[this];exact h
theorem Ys:∀ {T:List AP},(∀ x∈T,qR h x.1 x.2)->∃ fs:List Value,fs.length=T.length/\KatTups h (cO T) fs/\∀ v∈fs,∃ i t,v=.int i t:=by
 intro l_;induction l_ with
 | nil=>
  intro _;exact ⟨[],rfl,.nil,λ_ h=>(by cases h)⟩
 | cons x T ih=>
  intro hx;obtain ⟨fs,h1,h2,h3⟩:=ih λy hy=>hx y (b9 _ hy);obtain ⟨k,t,u,g⟩:=hx x (aZ ..);refine ⟨.int (x.2.1:Nat) t::fs,by simp[h1],.cons g rfl rfl rfl h2,λv hv=>?_⟩;rcases b8.mp hv with rfl | hv
  .exact ⟨_,_,rfl⟩
  .exact h3 v hv
theorem Zf (hp:eO T.length p):∃ T':List AP,(p.toList.map λi=>(cO T).getD i Value.none)=cO T'/\T'.Perm T/\p.toList.map (qS T)=T'.map λx=>dK x.2:=by
 ext T p;refine ⟨p.toList.map λi=>T[i]?.getD (0,(0,0)),?_,?_,?_⟩
 .change _=(p.toList.map λi=>T[i]?.getD (0,(0,0))).map λx=>Value.ref x.1;rw[dS];refine fD λi hi=>?_;have hi2:i < T.length:=by
   have:=(LH.mp hp).mem_iff (a:=i);simpa using this.mp hi
  change (cO T).getD i Value.none=Value.ref (T[i]?.getD (0,(0,0))).1;rw[bM,bH,aH hi2];rfl
 .have h1:=(LH.mp hp).map λi=>T[i]?.getD (0,(0,0));refine h1.trans (ag4 ?_);change (aj T.length).map (λi=>T[i]?.getD (0,(0,0)))=T;apply vZ;intro i;rw[bH];by_cases hi:i < T.length
  .rw[vW hi,aH hi];simp[hi]
  .rw[jC (by simpa using hi),jC (zg hi)];rfl
 .rw[dS];rfl
theorem V0 (ho:s.heap.get? a=some (seqObj "list" (cO T).toArray n)) (hT:∀ x∈T,qR s.heap x.1 x.2) (hb:∀ x∈T,x.2.2 < 1000) (h64:T.length < 64)
  (h:∀ T':List AP,T'.Perm T->(T'.map λx=>dK x.2).Pairwise (·<=·)->P (.done (.ret .none)) { s with heap:=sortedHeap s.heap a (cO T) (cO T').toArray }) :
  wpAny (model prog w) A (Builtin.«list.sort» ⟨[.ref a],[]⟩) P E s:=by
 rw[list_sort_plain];have ha:a < s.heap.objs.size:=lI ho;have hsz:(cO T).toArray.size=T.length:=by exact ak ..
 ext prog w A E s a T n P;refine az (listItems_at ho rfl ?_);refine az (ME ho rfl ?_ (by rw[hsz,dZ];exact zf (zl h64 aI)) (bk _));obtain ⟨e1,TQ⟩:∃ e1,(s.heap.update a (o9 λ_=>#[])).get? a=some (seqObj "list" #[] e1):=⟨_,get?_update_seq ho (λ_=>#[])⟩;ext e1;refine az (MZ TQ rfl ?_);refine az (wpAny_newTuple ?_ (by rw[ak,dZ];exact zf (zl h64 aI)));refine az (MC ?_ (bk _));show ud;have ho6:(((s.heap.update a (o9 λ_=>#[])).push (seqObj "tuple" (cO T).toArray 0)).push (seqObj "list" #[] 0)).get? a=some (seqObj "list" #[] e1):=by rw[B8 _ _ _ (by rw[Gp,Fj];exact gq (B3 ha)),B8 _ _ _ (by rw[Fj];exact gq ha)];exact TQ
 have K8:∀ x∈T,qR (((s.heap.update a (o9 λ_=>#[])).push (seqObj "tuple" (cO T).toArray 0)).push (seqObj "list" #[] 0)) x.1 x.2:=λx hx=>by
  ext x;obtain ⟨k,t,u,g⟩:=hT x hx;have hne:x.1≠a:=λe=>by rw[e,ho] at g;have:=congrArg Obj.cls (c8 g);simp at this
  have hlt:=lI g;refine ⟨k,t,u,?_⟩;rw[B8 _ _ _ (by rw[Gp,Fj];exact gq (B3 hlt)),B8 _ _ _ (by rw[Fj];exact gq hlt),Vk _ _ _ _ hne];exact g
 change wpAny (model prog w) A _ P E { s with heap:=((s.heap.update a (o9 λ_=>#[])).push (seqObj "tuple" (cO T).toArray 0)).push (seqObj "list" #[] 0) };dsimp only;by_cases h2:(cO T).toArray.size < 2
 .rw[if_pos h2,if_pos h2];refine az (bh ?_);rw[StateT.run_pure];refine az (bh ?_);dsimp only;have e9:(arrOf (SortSt.mk' general' ((cO T).toArray.zip (cO T).toArray) #[] 7 none)).map (·.2)=(cO T).toArray:=by
   change ((cO T).toArray.zip (cO T).toArray).map (·.2)=_;apply VU.mp;rw[Array.toList_map,Array.toList_zip];exact List.map_snd_zip (aL _)
  refine az (MZ ho6 rfl ?_);refine az (ME ho6 rfl ?_ (bk _) (by rw[e9,hsz,dZ];exact zf (zl h64 aI)));simp only[bne_self_eq_false,cP,if_false];rw[e9];refine bh (h T (.refl _) ?_);rw[hsz] at h2
  match T,h2 with
  | [],_=>exact .nil
  | [x],_=>exact of_decide_eq_true rfl
 .rw[if_neg h2,if_neg h2];have h2':2<=(cO T).length:=by rw[cV] at h2;exact zg h2
  have vJ:(cO T).length=T.length:=ak _;obtain ⟨fs,f1,f2,f3⟩:=Ys K8;refine az (kat_kind (E:=E) (T:=.type "int") f2 (dN (pV (lV h2') vJ) f1) (λv hv=>?_) rfl ?_)
  .obtain ⟨i,t,rfl⟩:=f3 v hv;exact Looks.of_pure rfl
  have run:=kat_run (prog:=prog) (w:=w) (A:=A) (E:=E) (s:={ s with heap:=((s.heap.update a (o9 λ_=>#[])).push (seqObj "tuple" (cO T).toArray 0)).push (seqObj "list" #[] 0) }) (κ:=tuples' true) (vs:=cO T) (ks:=cO T)
   (Q:=λst' s'=>∃ p:Array Nat,eO T.length p/\(p.toList.map (qS T)).Pairwise (·<=·)/\s'={ s with heap:=((s.heap.update a (o9 λ_=>#[])).push (seqObj "tuple" (cO T).toArray 0)).push (seqObj "list" #[] 0) }/\arrOf st'=p.map (kas_item ((cO T).toArray.zip (cO T).toArray))/\failedOf st'=none)
   (G:=λp s'=>eO T.length p/\(p.toList.map (qS T)).Pairwise (·<=·)/\s'={ s with heap:=((s.heap.update a (o9 λ_=>#[])).push (seqObj "tuple" (cO T).toArray 0)).push (seqObj "list" #[] 0) })
   rfl h2' (fK vJ h64) (λp st' s' _ a2 a3 a4=>⟨p,a4.1,a4.2,a4.3,a2,a3⟩)
   (dY.wp (n:=T.length) (f:=jf (qS T)) (Q:=λp=>eO T.length p/\(p.toList.map (qS T)).Pairwise (·<=·)) (λi j hi hj C hC=>?_) (λp hp=>⟨hp.1,hp.2,rfl⟩) (by rw[vJ];exact abl (pV (lV h2') vJ) λp a b=>⟨a,b⟩))
  .refine az (kF run ?_ λ_ _ e=>e);rintro ⟨⟨⟩,st'⟩ s' ⟨p,hp,hs,rfl,har,hf⟩;dsimp only;obtain ⟨T',t1,t2,t3⟩:=Zf hp;have hout:=kat_snds rfl har;rw[t1] at hout;rw[t3] at hs;rw[hout];refine az (MZ ho6 rfl ?_);refine az (ME ho6 rfl ?_ (bk _) (by rw[cV,ak,t2.length_eq,dZ];exact zf (zl h64 aI)));rw[hf];simp only[bne_self_eq_false,cP,if_false];exact bh (h T' t2 hs)
  .have gi:(cO T).getD i Value.none=.ref (T[i]).1:=by rw[bM,bH,aH hi];rfl
   have gj:(cO T).getD j Value.none=.ref (T[j]).1:=by rw[bM,bH,aH hj];rfl
   unfold kas_ask;rw[gi,gj];show abm (K8 _ (cW hi)) (K8 _ (cW hj)) (hb _ (cW hi)) (hb _ (cW hj));have ki:qS T i=dK (T[i]).2:=by rw[qS,aH hi];rfl
   have kj:qS T j=dK (T[j]).2:=by rw[qS,aH hj];rfl
   unfold jf at hC;rw[ki,kj] at hC;exact hC
end
end
section
noncomputable abbrev bB (T:List AP):List V:=T.map λx=>V.ref x.1
noncomputable def iF (m:MH) (a:Addr) (T:List AP):Prop:=m a=some (.list (bB T))/\∀ x∈T,m x.1=some (.tuple [vn x.2.1,vn x.2.2])
theorem iF.le (x:iF m a T) (h:m.le m'):iF m' a T:=⟨h _ _ x.1,λy hy=>h _ _ (x.2 y hy)⟩
theorem G2:∀ {T:List AP} {vs:List Value},aD vs (bB T)->vs=cO T
 | [],_,h=>h.nil_inv
 | x::T,_,h=>by obtain ⟨r,rs',rfl,h1,h2⟩:=aD.cons_inv h;rw[bD h1,G2 h2];rfl
theorem G3:∀ (T:List AP),aD (cO T) (bB T):=by
 intro l_;induction l_ with
 | nil=>
  exact rfl
 | cons x T ih=>
  exact aD.cons rfl (ih)
theorem aP.af9 (x:aP C P m d s) (h:m a=some (.tuple [vn p.1,vn p.2])):qR s.heap a p:=by ext C P m d s a p;obtain ⟨rs,k,h1,h2,_⟩:=x.isTup h;obtain ⟨r0,rs',rfl,e0,h3⟩:=aD.cons_inv h2;obtain ⟨r1,Dk,rfl,e1,h4⟩:=aD.cons_inv h3;obtain ⟨t,rfl⟩:=bS e0;obtain ⟨u,rfl⟩:=bS e1;rw[h4.nil_inv] at h1;exact ⟨k,t,u,h1⟩
section
variable {C:Cx} {n:Nat} {m:MH} {Q:V->MH->Prop}
theorem MU (ht:∀ x∈T,m x.1=some (.tuple [vn x.2.1,vn x.2.2])) (hb:∀ x∈T,x.2.2 < 1000) (hl:T.length < 64)
  (hc:∀ A P s d (R:List Value->Shared->Prop),dF n A->aP C P m d s->(∀ h' tk vs,(∀ b o,s.heap.get? b=some o->h'.get? b=some o)->aD vs (bB T)->R vs { s with heap:=h',toks:=tk })->
   wpAny (model C.prog C.w) A.in1 (collect (.ref a)) R dP s)
  (h:∀ b T',m b=none->T'.Perm T->(T'.map λx=>dK x.2).Pairwise (·<=·)->Q (.ref b) (m.set b (.list (bB T')))):∀ rs,aD rs [.ref a]->TR C n (call (.builtin "sorted") rs) m Q:=by
 intro rs hrs;ext C n m Q a T rs;obtain ⟨r,rs',rfl,h1,h2⟩:=hrs.cons_inv;rw[h2.nil_inv,bD h1];rintro P A s R hr ⟨d,x⟩ kk;ext P A s R d;show Vh kind_sorted plain_sorted entry_sorted (args_sorted1 _);unfold Builtin.«sorted»;refine az (m:=checkCount "sorted" 1 1 _) (bh ?_);refine az (hc A P s d _ hr x λh' tk vs hk he=>?_);have hvs:=G2 he;ext h' tk vs;subst hvs;refine az (MC ?_ (by rw[ak,dZ];exact zf (zl hl aI)));have vh:(h'.push (seqObj "list" (cO T).toArray 0)).get? h'.objs.size=some (seqObj "list" (cO T).toArray 0):=gF _ rfl;refine az (ud (t9 Wo ⟨_,vh,rfl⟩ V5 (V0 vh (λy hy=>((x.af9 (ht y hy)).mono (hk _)).mono λo=>gC _) hb hl λT' a1 a2=>⟨_,rfl,?_⟩) (Wq _)));ext T';refine bh ⟨_,rfl,?_⟩;obtain ⟨e,ge⟩:=WR (h:=h'.push (seqObj "list" (cO T).toArray 0)) (vs:=cO T) (out:=(cO T').toArray) vh;have y:=x.zQ tk hk;obtain ⟨z,hz⟩:=y.lS (t:=tk) (a:=h'.objs.size) (h':=sortedHeap (h'.push (seqObj "list" (cO T).toArray 0)) h'.objs.size (cO T) (cO T').toArray) (o:=.list (bB T'))
  (λb ob hb=>(Wr (gq (lI hb)) (by rw[Gp];exact B3 (lI hb))).trans (gC _ hb)) (aL _) (by intro _ _ e;cases e) λ_=>⟨cO T',e,ge,G3 T'⟩
 exact kk _ (.ref h'.objs.size) _ _ rfl ⟨d,z⟩ (h _ _ hz a1 a2)
theorem Co (x:iF m a T) (hb:∀ x∈T,x.2.2 < 1000) (hl:T.length < 64)
  (h:∀ b T',m b=none->T'.Perm T->(T'.map λx=>dK x.2).Pairwise (·<=·)->Q (.ref b) (m.set b (.list (bB T')))):∀ rs,aD rs [.ref a]->TR C n (call (.builtin "sorted") rs) m Q:=by
 refine MU x.2 hb hl (λA P s d R hr y k=>?_) h;obtain ⟨rs,kk,h1,h2,hi⟩:=y.isList x.1;have hvs:=G2 h2;subst hvs;refine collect_list hi ?_ (by rw[ak,dZ];exact zf (zl hl aI));refine k _ _ _ (λb o q=>?_) (G3 T);have hlt:b < s.heap.objs.size:=lI q;rw[Vk _ _ _ _ (gq hlt),B8 _ _ _ (gq hlt)];exact q
theorem MV (hsys:(C.base.get? sysModules).isSome=true) (hm:m a=some (.bE es ep)) (hk:es.map (λx=>x.2.1)=T.map (·.1)) (ht:∀ x∈T,m x.1=some (.tuple [vn x.2.1,vn x.2.2])) (hb:∀ x∈T,x.2.2 < 1000) (hl:T.length < 64) (h:∀ b T',m b=none->T'.Perm T->(T'.map λx=>dK x.2).Pairwise (·<=·)->Q (.ref b) (m.set b (.list (bB T')))):∀ rs,aD rs [.ref a]->TR C n (call (.builtin "sorted") rs) m Q:=by
 refine MU ht hb hl (λA P s d R hr y k=>?_) h;obtain ⟨bA,h1,h2⟩:=y.Dr hm;have h3:bA.map (·.key)=cO T:=by rw[h2];have:=congrArg (lO Value.ref) hk;simpa[vY] using this
 have h4:bA.length=T.length:=by have:=congrArg ji h3;simpa using this
 refine Yh hr.1 (y.pK hsys (by rw[hm];exact gm _)) h1 (by rw[h4];exact zf (zl hl aI)) λh' tk hk=>?_;rw[h3];exact k h' tk _ hk (G3 T)
end
end
section
theorem O7 (ho:∀ c fs,o≠.inst c fs) (h:fp (m.set I o) d a):a=I\/fp m d a:=by
 rcases h with h | ⟨i,c,fs,hi,rfl⟩
 .by_cases q:a=I
  .exact .inl q
  .rw[MH.aC q] at h;exact .inr (.inl h)
 .by_cases q:i=I
  .subst q;rw[MH.af] at hi;exact (ho c fs (c8 hi)).elim
  .rw[MH.aC q] at hi;exact .inr (.inr ⟨i,c,fs,hi,rfl⟩)
theorem dB.adopt (x:dB C P env loc m d s) (hf:¬ fp m d I) (hP:P I=none) (hL:I≠env.locals) (hc:∀ y c,(y,c)∈env.cells->c≠I) (ho:∀ c fs,o≠.inst c fs) (hr:Rep C (m.set I o) s.heap d I o):dB C P env loc (m.set I o) d s:=
 { toaP:=x.toaP.alloc (h':=s.heap) (t:=s.toks) hf hP ho (λ_ _ e=>e) hr,kf:=x.kf,gl:=x.gl,bu:=x.bu,pL:=x.pL,ns:=x.ns,ap:=x.ap,nL:=λq=>(O7 ho q).elim (λe=>hL e.symm) x.nL,cl:=λy c hm=>⟨λq=>(O7 ho q).elim (hc y c hm) (x.cl y c hm).1,(x.cl y c hm).2,(x.cl y c hm).3,(x.cl y c hm).4⟩ }
section
variable {C:Cx} {n:Nat} {env:Env} {loc:Loc} {m:MH} {Q:V->MH->Prop}
theorem Ob (h12:k1≠k2) (K9:k1≠k3) (h23:k2≠k3)
  (h:WE C n env e1 loc m λv1 m1=>WE C n env e2 loc m1 λv2 m2=>WE C n env e3 loc m2 λv3 m3=>∀ a,m3 a=none->Q (.ref a) (m3.set a (.jZ [(k1,v1),(k2,v2),(k3,v3)]))) :
  WE C n env (.Dict [some (.Constant (.str k1) u1 p1),some (.Constant (.str k2) u2 p2),some (.Constant (.str k3) u3 p3)] [e1,e2,e3] pos) loc m Q:=by
 ext C n env loc m Q k1 k2 k3 u1 u2 u3 p1 p2 p3 pos e1 e2 e3;rintro P A s R hr ⟨d,x⟩ kk;ext P A s R d;show wpAny_Dict_walk (knd:=strKind C.prog C.w) rfl rfl (of_decide_eq_true rfl) (of_decide_eq_true rfl);obtain ⟨f1,f2,f3,f4⟩:=x.fresh (aL s.heap.objs.size);have x1:=x.push { cls:=.type "dict",data:=.dict #[] } s.toks;have g:=gF s.heap (o:={ cls:=.type "dict",data:=.dict #[] }) rfl;have x2:=x1.add g f1 f2 f3 f4;generalize s.heap.objs.size=I at f1 f2 f3 f4 g x2 ⊢;clear g;ext I;show LW;refine (CX (Q:=λv m'=>v=.str k1/\m'=m) ⟨rfl,rfl⟩) (sC P I { cls:=.type "dict",data:=.dict #[] }) A _ _ hr ⟨d,x2⟩ λr v tP s1 hv x3 hq=>?_;ext r v tP s1;obtain ⟨rfl,rfl⟩:=hq;obtain ⟨t1,rfl⟩:=fX hv;ext t1;refine h _ A s1 _ hr x3 λr1 v1 m1 s2 hv1 x4 h1=>?_;ext r1 v1 m1 s2;show LW;refine (CX (Q:=λv m'=>v=.str k2/\m'=m1) ⟨rfl,rfl⟩) _ A _ _ hr x4 λr v tP s3 hv x5 hq=>?_
 (revert hv;clear hv;intro hv);ext r v tP s3
 obtain ⟨rfl,rfl⟩:=hq;obtain ⟨t2,rfl⟩:=fX hv;ext t2;refine h1 _ A s3 _ hr x5 λr2 v2 m2 s4 hv2 x6 h2=>?_;ext r2 v2 m2 s4;show LW;refine (CX (Q:=λv m'=>v=.str k3/\m'=m2) ⟨rfl,rfl⟩) _ A _ _ hr x6 λr v rD s5 hv x7 hq=>?_
 (revert hv;clear hv;intro hv);ext r v rD s5
 obtain ⟨rfl,rfl⟩:=hq;obtain ⟨t3,rfl⟩:=fX hv;ext t3;refine h2 _ A s5 _ hr x7 λr3 v3 m3 s6 TS x8 h3=>?_;ext r3 v3 m3 s6;show pairTrees_nil_walk;obtain ⟨d8,x8⟩:=x8;obtain ⟨y,yf,yg⟩:=x8.sub f2 x.base f3 f4;refine ⟨[(k1,r1),(k2,r2),(k3,r3)],⟨zq _ _ _ _,rfl,zq _ _ _ _,rfl,zq _ _ _ _,rfl,trivial⟩,⟨_,#[],0,yg,⟨rfl,rfl,rfl⟩,rfl,(λe he=>by simp at he),.nil,by exact yP⟩,λh' hd hs=>?_⟩;have z:=y.but (t:=s6.toks+3) yf f2 f3 f4 (agU hs);have em:merged (K:=Str) [] [(k1,r1),(k2,r2),(k3,r3)]=[(k1,r1),(k2,r2),(k3,r3)]:=by simp[merged,stored,h12,K9,h23]
 rw[em] at hd;have hI:m3 I=none:=by
  cases q:m3 I with
  | none=>rfl
  | some o=>exact (yf (.inl (by rw[q];exact gm _))).elim
 have w:=z.adopt (o:=.jZ [(k1,v1),(k2,v2),(k3,v3)]) yf f2 f3 f4 (by intro _ _ e;cases e) ⟨[(k1,r1),(k2,r2),(k3,r3)],hd,by simp[hv1,hv2,TS,show er r1=some v1 from hv1,show er r2=some v2 from hv2,show er r3=some v3 from TS]⟩;exact kk _ (.ref I) _ _ rfl ⟨d8,w⟩ (h3 I hI)
theorem aP.I9 (x:aP C P m d s) (h:m a=some (.jZ es)):∃ kvs:List (Str×Value),s.heap.DictOf (strKind C.prog C.w) a kvs/\kvs.map (λx=>(x.1,er x.2))=es.map (λx=>(x.1,some x.2)):=x.rep a _ h
theorem wH (hm:m a=some (.jZ es)) (hk:fQ es k=some v) (h:Q v m)
  (hs:∀ t,subscripted i false (.ref a) (.str k t)=operate [.ref a,.str k t] (getItem (.ref a) (.str k t)):=by walk_at "iu") :
  ∀ rv rw,er rv=some (.ref a)->er rw=some (.str k)->TR C n (subscriptTail o i rv rw) m Q:=by
 intro rv rw hv hw;rw[bD hv];obtain ⟨t,rfl⟩:=fX hw;rintro P A s R hr ⟨d,x⟩ kk;obtain ⟨kvs,h1,h2⟩:=x.I9 hm;obtain ⟨r,hr1,hr2⟩:=(pN h2 k).2 v hk;exact CL h1.typeIs L8.lookup (VS (zq _ _ k t) h1.mapOf hr1 (kk r v m _ hr2 ⟨d,x.tok _⟩ h)) (hs t)
theorem aaf (hsys:(C.base.get? sysModules).isSome=true) (hm:m a=some (.jZ es)) (h:Q (.bool (!(fQ es k).isSome)) m) :
  ∀ ra rb,er ra=some (.str k)->er rb=some (.ref a)->TR C n (compareOp .NotIn ra rb) m Q:=by
 intro ra rb ha hb;rw[bD hb];obtain ⟨t,rfl⟩:=fX ha;rintro P A s R hr ⟨d,x⟩ kk;obtain ⟨kvs,h1,h2⟩:=x.I9 hm;refine Wm (zq _ _ k t) (x.pK hsys (by rw[hm];exact gm _)) h1.mapOf (kk _ (.bool (!(fQ es k).isSome)) m _ ?_ ⟨d,x.tok _⟩ h);cases hg:fQ es k with
 | none=>rw[(pN h2 k).1 hg];rfl
 | some v=>obtain ⟨r,hr1,_⟩:=(pN h2 k).2 v hg;rw[hr1];rfl
theorem abn (hsys:(C.base.get? sysModules).isSome=true) (hm:m a=some (.jZ es)) (h:Q ((fQ es k).getD dv) m) :
  ∀ r rs,er r=some (.ref a)->aD rs [.str k,dv]->TR C n (call (.builtin "dict.get") (r::rs)) m Q:=by
 intro r rs hr hrs;rw[bD hr];obtain ⟨rk,rs',rfl,h1,h2⟩:=hrs.cons_inv;obtain ⟨rd,Dk,rfl,h3,h4⟩:=h2.cons_inv;rw[h4.nil_inv];obtain ⟨t,rfl⟩:=fX h1;rintro P A s R hr ⟨d,x⟩ kk;obtain ⟨kvs,g1,g2⟩:=x.I9 hm;refine call_meetsIn Fv g1.typeIs VT (VB _ _ _) (UT (strKind C.prog C.w) a (zq _ _ k t) (x.pK hsys (by rw[hm];exact gm _)) rd) ⟨_,g1.mapOf,?_⟩;refine kk _ ((fQ es k).getD dv) m _ ?_ ⟨d,x.tok _⟩ h;cases hg:fQ es k with
 | none=>rw[(pN g2 k).1 hg];exact h3
 | some v=>obtain ⟨r,hr1,hr2⟩:=(pN g2 k).2 v hg;rw[hr1];exact hr2
end
end
section
noncomputable def b5 (acc:List Str) (q:Pr):List Str:=if q.1∉acc/\q.2.filter (λy=>decide (y∉acc))=[] then acc++[q.1] else acc
noncomputable def bf (P:List Pr):Nat->List Str
 | 0=>[]
 | k+1=>P.foldl b5 (bf P k)
theorem Oc:∀ (l:List Pr) (acc:List Str),(l.foldl b5 acc).length<=acc.length+l.length:=by
 intro l_;induction l_ with
 | nil=>
  intro acc;exact aL _
 | cons q l ih=>
  intro acc;have h:=ih (b5 acc q);have h2:(b5 acc q).length<=acc.length+1:=by unfold b5;split<;>simp
  change (l.foldl b5 (b5 acc q)).length<=acc.length+(l.length+1);exact zz h (zz (gQ h2) (ze ir))
theorem aag (hP:P.length<=4):∀ k,(bf P k).length<=4*k:=by
 intro l_;induction l_ with
 | zero=>
  exact aL _
 | succ k ih=>
  have:=Oc P (bf P k);have:=ih;change (P.foldl b5 (bf P k)).length<=_;exact aeL hP (by assumption) this
section
variable {C:Cx} {A:TA} {n:Nat} {env:Env} {loc:Loc} {m:MH} {Q:V->MH->Prop}
theorem Yt (T:aS C A) (hn:1<=n) (p:aT P) (x:jL m pl P tp pa) (h:∀ m' a,m.le m'->m' a=some (.list ((bf P 3).map .str))->Q (.ref a) m'):FC C (A.f 45) n [.ref pl] m Q:=by
 have hP:=p.uQ;ext C A n m Q P pl tp pa;refine eG T 45 "_law_empty" ["pairs"] hn rfl (λenv ef=>?_) (by walk_at "bd1");k_is;ext env;show fN (ef.store ⋯);refine bR (cM ⟨by exact bk _,λe he=>?_⟩);have l1:=MH.av (o:=.list []) he;ext e;refine dw (λi=>[("empty",.ref e),("pairs",.ref pl)]) (λi mm=>m.le mm/\mm e=some (.list ((bf P i).map .str))) (lJ T ef.toC ?_);lk;refine ⟨3,rfl,by decide,by k_in,⟨l1,MH.af _ _ _⟩,λ_ _ _=>trivial,?_,?_⟩
 .rintro i mm hi aG;ext i mm;show bO;intro QQ bP;ext QQ;obtain ⟨p1,p2⟩:=aG;show aM (ef.store ⋯);refine dw (λj=>[("empty",.ref e),("pairs",.ref pl)]) (λj mm=>m.le mm/\mm e=some (.list (((P.take j).foldl b5 (bf P i)).map .str))) (cC (λi=>V.ref (tp i)) (aj P.length) ?_);lk;refine ⟨pl,rfl,p1 _ _ x.1,by k_in,⟨p1,p2⟩,λi mm hp=>hp.1 _ _ x.1,?_,?_⟩
  .rintro j mm hj aG;ext j mm;show bO;intro QQ bT;ext QQ;obtain ⟨q1,q2⟩:=aG;rw[aN] at hj;ext QQ;obtain ⟨q,hq⟩:∃ q,P[j]? = some q:=⟨_,aH hj⟩;have gA:=bC hq;have cB:=p.len q gA;ext q;show cy (w:=.ref (tp j)) (by dsimp only;rw[bM,aW _ hj];rfl);show mP (q1 _ _ (x.2 j q hq).1) rfl;refine aM (ef.store ⋯) (aM (ef.store ⋯) ?_);change WS C (n - 1) env _ _ _ _;have ll:=Oc (P.take j) (bf P i);have ll2:=aag hP i;rw[nR] at ll;have et:(P.take (j+1)).foldl b5 (bf P i)=b5 ((P.take j).foldl b5 (bf P i)) q:=by rw[take_snoc hq,jh];rfl
   rw[et] at bT;generalize (P.take j).foldl b5 (bf P i)=acc at *
   refine ck (WT.mono (Q:=λc m'=>c=decide (q.1∉acc/\q.2.filter (λy=>decide (y∉acc))=[])/\mm.le m') (qJ ?_) ?_)
   .show cH;lk;refine qF q2 ⟨_,rfl,?_⟩;by_cases hin:q.1∈acc
    .rw[decide_eq_true hin];simp only[qB,cP,if_false];exact ⟨(decide_eq_false λhh=>hh.1 hin).symm,.refl _⟩
    .rw[decide_eq_false hin];simp only[Ww,if_true];show cH;refine wG V.str q.2 (λy=>decide (y∉acc)) V.str ef (by walk_at "cok") (zz cB aI) (cC V.str q.2 ?_);lk;refine ⟨pa j,rfl,q1 _ _ (x.2 j q hq).2,rfl,λk y hy=>getD_get (by rw[bH,hy];rfl),λm2 hl=>hl _ _ (q1 _ _ (x.2 j q hq).2),λcenv ec y hy m2 hl=>?_,λm2 b hl hb=>?_⟩
     .refine aM (ec.store ⋯) ⟨jI (by decide +kernel),?_⟩;simp only[Hz];show cH;lk;refine qF (hl _ _ q2) ⟨_,rfl,by simp,hl,λ_=>?_⟩;lk;exact ⟨rfl,hl⟩
     .have b2:=MH.af m2 b (.list ((q.2.filter λy=>decide (y∉acc)).map V.str));have l3:=hl.trans (MH.av (o:=.list ((q.2.filter λy=>decide (y∉acc)).map V.str)) hb);generalize m2.set b (.list ((q.2.filter λy=>decide (y∉acc)).map V.str))=m3 at b2 l3 ⊢;refine bR (cM ⟨by exact bk _,λc hc=>?_⟩);refine HZ (d:=.list ((q.2.filter λy=>decide (y∉acc)).map .str)) (e:=.list []) (.list (MH.ay b2 (MH.aE b2 hc)) (.strs _ _)) (.list (MH.af _ _ _) .nil) (Ga _ λy hy=>?_) (by decide +kernel) ⟨_,rfl,?_,l3.trans (MH.av hc)⟩
      .have:=p.right q gA y (fE.mp hy).1;rcases this with e | e | e | e<;>rw[e]<;>decide +kernel
      .change nX ((q.2.filter λy=>decide (y∉acc)).map .str) (([]:List Str).map .str)=_;rw[NQ];exact decide_eq_decide.mpr ⟨λe=>⟨hin,e⟩,λe=>e.2⟩
   .rintro c m2 ⟨hc,l2⟩;have q22:=l2 _ _ q2;refine ⟨λe1=>?_,λe1=>aX ?_⟩
    .rw[e1] at hc;have hc:=of_decide_eq_true hc.symm;show iV ⟨_,q22⟩;lk;subst bT;refine ⟨_,q22,by rw[ak];exact zm (zz ll (dO (zz ll2 (pX (zf hi))) (zz u7 hP))) (ao rfl),aX (br (by k_in) ⟨(q1.trans l2).set he,?_⟩)⟩;rw[MH.af];have e5:b5 acc q=acc++[q.1]:=if_pos hc;rw[e5,aV];rfl
    .rw[e1] at hc;have hc:=of_decide_eq_false hc.symm;subst bT;refine br (by k_in) ⟨q1.trans l2,?_⟩;have e5:b5 acc q=acc:=if_neg hc;rw[e5];exact q22
  .rintro mm ⟨q1,q2⟩;rw[aN,dW] at q2;subst bP;exact br (by k_in) ⟨q1,q2⟩
 .rintro mm ⟨p1,p2⟩;lk;exact h _ _ p1 p2
end
end
section
section
variable {prog:Program} {w:World} {A:Around} {E:Value->Shared->Prop} {s:Shared} {env:Env}
theorem WL {value:Expr} {lower upper:Option Expr} {p pos:Pos} {T id:String} {Q:Value->Shared->Prop} (hl:typeLookup (.type T) "__getitem__" = pure (some (.builtin id)))
  (h:wpAny (model prog w) A (eval value env) (λo s₁=>wpAny (model prog w) A (eval (.Slice lower upper none p) env) (λi s₂=>s₂.TypeIs o T/\wpAny (model prog w) A (getItem o i) Q E s₂) E s₁) E s) :
  wpAny (model prog w) A (eval (.Subscript value (.Slice lower upper none p) pos) env) Q E s:=by
 rw[eval_Subscript];refine az (kF h (λo s₁ h₁=>az (ud (kF h₁ (λi s₂ h₂=>az (Cg ?_)) λ_ _ x=>x))) λ_ _ x=>x);obtain ⟨ty,hg⟩:=h₂;have key:wpAny (model prog w) A (operate [i,o] (getItem o i)) (λr s₃=>wpAny (model prog w) A (letTemporaryGo value o r >>= λ_=>pure r) Q E s₃) E s₂:=
  wpAny_operating (kF hg (λr s₃ h₃=>az (wpAny_letTemporaryGo (bh h₃))) λ_ _ x=>x)
 first
  | (refine az ?_;rw[getitemInPython_of_ne ty.not_modules];refine az (Cc ty hl ?_);first | exact bh (az key) | exact az (bh (az key)) | exact az key)
  | (refine az (Cc ty hl ?_);first | exact az (bh (az key)) | exact az key)
end
section
variable {C:Cx} {n:Nat} {env:Env} {loc:Loc} {m:MH} {Q:V->MH->Prop}
theorem Zg (h:WE C n env value loc m λv m1=>WP C n env lower loc m1 λlo m2=>WP C n env upper loc m2 λhi m3=>
   ∃ a xs,v=.ref a/\m3 a=some (.list xs)/\xs.length<=2 ^ 20/\∀ b,m3 b=none->Q (.ref b) (m3.set b (.list (slc xs lo hi)))):WE C n env (.Subscript value (.Slice lower upper none p) pos) loc m Q:=by
 intro P A s R hr x kk;refine WL (T:="list") list_getitem_lookup (h P A s _ hr x λr v m1 s1 hv x1 h1=>wpAny_Slice (rZ hr x1 h1 λrl l m2 s2 hl x2 h2=>rZ hr x2 h2 λru u m3 s3 hu x3 h3=>?_));obtain ⟨a,xs,rfl,hm,hlen,hq⟩:=h3;obtain ⟨d,x3⟩:=x3;obtain ⟨ws,k,g,he,hi⟩:=x3.toaP.isList hm;rw[bD hv,WQ];refine bh ⟨(hi.push _).typeIs,wpAny_getItem_list_slice (hi.push _) (agX ..) hl hu .none (of_decide_eq_true rfl) ?_ (by rw[cV,he.length,dZ];exact zz hlen aI)⟩;obtain ⟨y,back⟩:=(x3.push { cls:=.type "slice",data:=.fields #[rl,ru,.none] } s3.toks).frame;have e1:slicePick ws.toArray (l.map Int.ofNat) (u.map Int.ofNat) none=(slc ws l u).toArray:=FI _ _ _;have e2:aD (slc ws l u) (slc xs l u):=by unfold slc;rw[he.length];exact (he.take _).drop _
 rw[qz];obtain ⟨z,hz⟩:=y.lS (t:=s3.toks) (a:=s3.heap.objs.size+1) (h':=(s3.heap.push { cls:=.type "slice",data:=.fields #[rl,ru,.none] }).push { cls:=.type "list",data:=.seq (slicePick ws.toArray (l.map Int.ofNat) (u.map Int.ofNat) none) }) (o:=.list (slc xs l u))
  (λb ob hb=>gC _ hb) (by rw[qz];exact aL _) (by intro _ _ e;cases e) λ_=>⟨slc ws l u,0,by have:=gF (s3.heap.push { cls:=.type "slice",data:=.fields #[rl,ru,.none] }) (o:={ cls:=.type "list",data:=.seq (slicePick ws.toArray (l.map Int.ofNat) (u.map Int.ofNat) none) }) rfl;rw[qz] at this;rw[this,e1],e2⟩
 exact kk _ (.ref (s3.heap.objs.size+1)) _ _ rfl ⟨d,back _ _ _ z⟩ (hq _ hz)
end
end
section
noncomputable def bL (P:List Pr):List Pr:=(("$accept" : Str),[("s" : Str),"$end"])::P
theorem aT.AK (p:aT P):(bL P).length<=5:=by have:=p.uQ;change P.length+1<=5;exact uZ this
noncomputable def yi (y:Str):Prop:=j6 y\/y=("$accept" : Str)\/y=("$end" : Str)
theorem yi.ok (h:yi y):Xi y=true:=by rcases h with (h | h | h | h) | h | h<;>rw[h]<;>decide +kernel
theorem yi.len (h:yi y):y.length<=20:=by rcases h with (h | h | h | h) | h | h<;>rw[h]<;>decide +kernel
theorem aT.EH {P:List Pr} (p:aT P) {q:Pr} (h:q∈bL P):yi q.1/\(∀ y∈q.2,yi y)/\q.2.length<=3:=by
 rcases b8.mp h with rfl | h
 .refine ⟨.inr (.inl rfl),λy hy=>?_,by decide⟩;simp only[b8,nS,or_false] at hy;rcases hy with rfl | rfl
  .exact .inl (.inr (.inr (.inl rfl)))
  .exact .inr (.inr rfl)
 .refine ⟨?_,λy hy=>.inl (p.right q h y hy),p.len q h⟩;rcases p.left q h with e | e<;>rw[e]
  .exact .inl (.inr (.inr (.inl rfl)))
  .exact .inl (.inr (.inr (.inr rfl)))
noncomputable def lD (RP:List Pr) (p:Nat×Nat):Option Str:=(RP[p.1]?.getD (("" : Str),[])).2[p.2]?
inductive kQ (RP:List Pr) (I:List (Nat×Nat)):Nat×Nat->Prop
 | base (p) (h:p∈I):kQ RP I p
 | step (p o q) (h:kQ RP I p) (ho:RP[o]? = some q) (hn:lD RP p=some q.1):kQ RP I (o,0)
theorem abo {α:Type} (l:List α) (d:Nat):slc l (some d) (some (d+1))=l[d]?.toList:=by
 unfold slc;change (l.take (d+1)).drop d=_;rw[Wn,show d+1 - d=1 by exact Js];induction l generalizing d with
 | nil=>simp
 | cons x l ih=>cases d with
  | zero=>rfl
  | succ d=>simpa using ih d
noncomputable def ip (p:Nat×Nat):Int×Int:=((p.1:Int),(p.2:Int))
theorem acH (h:ip p=ip q):p=q:=by have h1:=congrArg Prod.fst h;have h2:=congrArg Prod.snd h;simp only[ip] at h1 h2;exact G6 (oz h1) (oz h2)
theorem O8 {p:Nat×Nat} {L:List (Nat×Nat)}:ip p∈L.map ip↔p∈L:=⟨λh=>by obtain ⟨q,hq,e⟩:=aQ.mp h;rw[<-acH e];exact hq,λh=>aQ.mpr ⟨p,h,rfl⟩⟩
theorem G4 {m:MH} {a:Addr} {p:Nat×Nat} (h:m a=some (.tuple [vn p.1,vn p.2])):jv m (.ref a) (gH (ip p)):=.tuple h (.cons (.int _) (.cons (.int _) .nil))
theorem qE {m:MH}:∀ {T:List AP},(∀ x∈T,m x.1=some (.tuple [vn x.2.1,vn x.2.2]))->n9 m (bB T) (((T.map (·.2)).map ip).map gH)
 | [],_=>.nil
 | x::T,h=>.cons (G4 (h x (aZ ..))) (qE λy hy=>h y (b9 _ hy))
structure By (m mm:MH) (f:Addr) (T0 T1:List AP) (RP:List Pr):Prop where
 le:m.le mm
 pl:iF mm f (T0++T1)
 z:∀ x∈T1,x.2.2=0/\x.2.1 < RP.length/\kQ RP (T0.map (·.2)) x.2
 nd:((T0++T1).map (·.2)).Nodup
theorem By.len (x:By m mm f T0 T1 RP):T1.length<=RP.length:=by
 have h1:=x.nd;rw[aV] at h1;have h2:(T1.map λy=>y.2.1).Nodup:=by
  have e:(T1.map λy=>y.2.1)=(T1.map (·.2)).map (·.1):=by rw[dS];rfl
  rw[e];refine mL (lG.mp h1).2.1 λu hu v hv huv=>?_;obtain ⟨a,ha,rfl⟩:=aQ.mp hu;obtain ⟨b,hb,rfl⟩:=aQ.mp hv;exact G6 huv ((x.z a ha).1.trans (x.z b hb).1.symm)
 have h3:=jM h2 (N:=RP.length) λk hk=>by obtain ⟨a,ha,rfl⟩:=aQ.mp hk;exact (x.z a ha).2
 simpa using h3
section
variable {C:Cx} {A:TA} {n:Nat} {env:Env} {loc:Loc} {m:MH} {Q:V->MH->Prop}
theorem W9 {P:List Pr} {rl its:Addr} {tp pa:Nat->Addr} {T0:List AP} (T:aS C A) (hn:1<=n) (p:aT P) (x:jL m rl (bL P) tp pa) (h0:iF m its T0) (hv:∀ y∈T0,y.2.1 < (bL P).length) (hnd:(T0.map (·.2)).Nodup) (vf:T0.length<=100) (h:∀ m' a T1,m.le m'->iF m' a (T0++T1)->((T0++T1).map (·.2)).Nodup->(∀ q,q∈(T0++T1).map (·.2)↔kQ (bL P) (T0.map (·.2)) q)->(∀ y∈T1,y.2.2=0/\y.2.1 < (bL P).length)->Q (.ref a) m'):FC C (A.f 47) n [.ref rl,.ref its] m Q:=by
 have hR:=p.AK;have hW:=@aT.EH P p;generalize bL P=RP at *
 clear p;ext C A n m Q P rl its tp pa T0 RP;refine eG T 47 "_law_closure" ["rules","items"] hn rfl (λenv ef=>?_) (by walk_at "bd2");k_is;ext env;show fN (ef.store ⋯);show mO T ef.toC (by rfl);lk;refine v8 h0.1 (by rw[ak];exact zz vf aI) λf hf=>?_;have l1:=MH.av (o:=.list (bB T0)) hf;have c0:By m (m.set f (.list (bB T0))) f T0 [] RP:=⟨l1,by rw[nW];exact ⟨MH.af _ _ _,λy hy=>l1 _ _ (h0.2 y hy)⟩,λ_ h=>(by cases h),by rw[nW];exact hnd⟩;generalize m.set f (.list (bB T0))=m1 at c0 ⊢;lk;clear l1;ext f m1;refine qG (λi L mm=>∃ (at_:Nat) (T1:List AP),i+at_=T0.length+RP.length+1/\L=([("at",vn at_),("found",.ref f),("rules",.ref rl)]:Loc)/\By m mm f T0 T1 RP/\
   ∀ k y o q,k < at_->(T0++T1)[k]? = some y->RP[o]? = some q->lD RP y.2=some q.1->(o,0)∈(T0++T1).map (·.2)) (T0.length+RP.length+1) [("at",vn 0),("found",.ref f),("rules",.ref rl)] (by k_in)
  ⟨0,[],rfl,rfl,c0,λk y o q hk=>(kc hk).elim⟩ ?_
 rintro i L mm aG;ext i L mm;show qW;intro QQ qe;ext QQ;obtain ⟨at_,T1,e1,rfl,c1,c2⟩:=aG;have hl1:=c1.len;ext at_ T1;show cH;lk;show bY T ef.toC (by rfl);lk;show fz c1.pl.1 (by simp;exact zm (dO vf (zz hl1 hR)) (ao rfl));refine sD ⟨_,rfl,λe=>?_,λe=>?_⟩
 .have hat:at_ < (T0++T1).length:=by simpa using e
  obtain ⟨⟨ya,num,dot⟩,hy⟩:∃ y,(T0++T1)[at_]? = some y:=⟨_,aH hat⟩;have kq:=bC hy;have xM:num < RP.length:=by
   rcases bN.mp kq with q | q
   .exact hv _ q
   .exact (c1.z _ q).2
  have hyc:kQ RP (T0.map (·.2)) (num,dot):=by
   rcases bN.mp kq with q | q
   .exact .base _ (aQ.mpr ⟨_,q,rfl⟩)
   .exact (c1.z _ q).3
  ext ya num dot;obtain ⟨u,EI⟩:∃ q,RP[num]? = some q:=⟨_,aH xM⟩;ext u;obtain ⟨w1,w2,w3⟩:=hW (bC EI);have hnx:lD RP (num,dot)=u.2[dot]?:=by unfold lD;rw[EI];rfl
  show Hg;lk;show aJ c1.pl.1 (by rw[bH,hy];rfl) (by simp;exact zm (dO vf (zz hl1 hR)) (ao rfl));show mP (c1.pl.2 _ kq) rfl;refine aM (ef.store ⋯) (aM (ef.store ⋯) ?_);change WS C (n - 1) env _ _ mm _;refine dw (λo=>[("dot",vn dot),("number",vn num),("at",vn at_),("found",.ref f),("rules",.ref rl)])
   (λo mm=>∃ T2,By m mm f T0 (T1++T2) RP/\∀ k q,k < o->RP[k]? = some q->lD RP (num,dot)=some q.1->(k,0)∈(T0++(T1++T2)).map (·.2)) (lJ T ef.toC ?_)
  lk;show bY T ef.toC (by rfl);lk;show fz (c1.le _ _ x.1) (by simp;exact zm hR (ao rfl));rw[ak,aN];refine ⟨RP.length,rfl,zm hR (ao rfl),by k_in,⟨[],by rw[nW];exact c1,λk q hk=>(kc hk).elim⟩,λ_ _ _=>trivial,?_,?_⟩
  .rintro o m3 ho aG;ext o m3;show bO;intro QQ bT;ext QQ;obtain ⟨T2,c3,c4⟩:=aG;ext T2;show aM (ef.store ⋯);obtain ⟨v,EJ⟩:∃ q,RP[o]? = some q:=⟨_,aH ho⟩;ext v;obtain ⟨v1,v2,v3⟩:=hW (bC EJ);have hl3:=c3.len;refine ck (WT.mono (Q:=λc m'=>c=decide (lD RP (num,dot)=some v.1/\(o,0)∉(T0++(T1++T2)).map (·.2))/\m3.le m') (qJ ?_) ?_)
   .show cH;show Zg;lk;show aJ (c3.le _ _ x.1) (aW _ xM) (by rw[ak,aN];exact zm hR (ao rfl));lk;show lM (k:=1) (c3.le _ _ (x.2 num u EI).1) rfl (of_decide_eq_true rfl);show uz;lk;refine ⟨dot,rfl,uz ?_⟩;lk;refine lP ⟨dot+1,rfl,_,_,rfl,c3.le _ _ (x.2 num u EI).2,by rw[ak];exact zz w3 aI,λb hb=>?_⟩;rw[uB,abo];have l4:=MH.av (o:=.list ((u.2[dot]?.toList).map V.str)) hb;have b4:=MH.af m3 b (.list ((u.2[dot]?.toList).map V.str));generalize m3.set b (.list ((u.2[dot]?.toList).map V.str))=m4 at l4 b4 ⊢;clear hb;ext b m4;show bR;lk;show aJ (l4 _ _ (c3.le _ _ x.1)) (aW _ ho) (by rw[ak,aN];exact zm hR (ao rfl));lk;show lM (k:=0) (l4 _ _ (c3.le _ _ (x.2 o v EJ).1)) rfl (of_decide_eq_true rfl);lk;refine ⟨by exact fF _,λc hc=>?_⟩;have l5:=MH.av (o:=.list ([v.1].map V.str)) hc;have c5:=MH.af m4 c (.list ([v.1].map V.str));change ∀ ra rb,er ra=_->er rb=_->TR C _ _ (m4.set c (.list ([v.1].map V.str))) _;generalize m4.set c (.list ([v.1].map V.str))=m5 at l5 c5 ⊢;refine HZ (d:=.list (u.2[dot]?.toList.map .str)) (e:=.list ([v.1].map .str)) (.list (l5 _ _ b4) (.strs _ _)) (.list c5 (.strs _ _)) (Ga _ λy hy=>?_) (Ga _ λy hy=>?_) ⟨_,rfl,?_⟩
    .have:y∈u.2:=by
      rw[Option.mem_toList] at hy;exact bC hy
     exact (w2 y this).ok
    .rw[bQ] at hy;subst hy;exact v1.ok
    .have e6:pg (.list (u.2[dot]?.toList.map .str)) (.list ([v.1].map .str))=decide (lD RP (num,dot)=some v.1):=by
      change nX (u.2[dot]?.toList.map .str) ([v.1].map .str)=_;rw[NQ,hnx];show decide_eq_decide.mpr;cases u.2[dot]? with
      | none=>exact of_decide_eq_true rfl
      | some y=>simp
     rw[e6];by_cases g:lD RP (num,dot)=some v.1
     .rw[decide_eq_true g];simp only[if_true];show cH;show eE;lk;refine ⟨by exact of_decide_eq_true rfl,λa ha=>?_⟩;have l6:=MH.av (o:=.tuple [vn o,.int 0]) ha;have a6:=MH.af m5 a (.tuple [vn o,.int 0]);generalize m5.set a (.tuple [vn o,.int 0])=m6 at l6 a6 ⊢;have TV:=c3.pl.le (l4.trans (l5.trans l6));lk;refine NP TV.1 (qE TV.2) (G4 (p:=(o,0)) a6) (FP _) (MR _) ⟨_,rfl,?_,l4.trans (l5.trans l6)⟩;rw[Nr];have:decide (ip (o,0)∈((T0++(T1++T2)).map (·.2)).map ip)=decide ((o,0)∈(T0++(T1++T2)).map (·.2)):=decide_eq_decide.mpr O8;rw[this];by_cases r:(o,0)∈(T0++(T1++T2)).map (·.2)
      .rw[decide_eq_true r];exact (decide_eq_false λhh=>hh.2 r).symm
      .rw[decide_eq_false r];exact (decide_eq_true ⟨g,r⟩).symm
     .rw[decide_eq_false g];simp only[cP,if_false];exact ⟨(decide_eq_false λhh=>g hh.1).symm,l4.trans l5⟩
   .rintro c m4 ⟨hc,l4⟩;have vK:=c3.pl.le l4;ext c m4;refine ⟨λe1=>?_,λe1=>aX ?_⟩
    .rw[e1] at hc;have hc:=of_decide_eq_true hc.symm;show iV ⟨_,vK.1⟩;show eE;lk;refine ⟨by exact of_decide_eq_true rfl,λa ha=>?_⟩;have l5:=MH.av (o:=.tuple [vn o,.int 0]) ha;have a5:=MH.af m4 a (.tuple [vn o,.int 0]);generalize m4.set a (.tuple [vn o,.int 0])=m5 at l5 a5 ⊢;have La:=vK.le l5
     (revert e1;clear e1;intro e1);(revert hc;clear hc;intro hc);clear ha;ext a m5
     subst bT;refine ⟨_,La.1,by rw[ak,cQ];exact zm (dO vf (zz hl3 hR)) (ao rfl),aX (br (by k_in) ⟨T2++[(a,(o,0))],⟨((c3.le.trans l4).trans l5).set hf,⟨?_,λy hy=>?_⟩,λy hy=>?_,?_⟩,λk q hk hq hn=>?_⟩)⟩
     .rw[MH.af,<-gX T1,<-gX T0 (T1++T2)];change some (O.list (bB (T0++(T1++T2))++[.ref a]))=some (O.list (bB (T0++(T1++T2)++[(a,(o,0))])));rw[bB,bB,aV (l₂:=[(a,(o,0))])];rfl
     .have e7:m5 y.1=some (.tuple [vn y.2.1,vn y.2.2]):=by
       rw[<-gX T1,<-gX T0 (T1++T2)] at hy;rcases bN.mp hy with hy | hy
       .exact La.2 y hy
       .rw[bQ] at hy;subst hy;exact a5
      exact MH.ay e7 λe=>by rw[e,La.1] at e7;cases e7
     .rw[<-gX] at hy;rcases bN.mp hy with hy | hy
      .exact c3.z y hy
      .rw[bQ] at hy;subst hy;exact ⟨rfl,ho,.step _ o v hyc EJ hc.1⟩
     .rw[<-gX T1,<-gX T0 (T1++T2),aV];refine lG.mpr ⟨c3.nd,by exact of_decide_eq_true rfl,λb hb c hc'=>?_⟩;simp only[bq,ue,bQ] at hc';subst hc';exact λe=>hc.2 (e▸hb)
     .rw[<-gX T1,<-gX T0 (T1++T2),aV,bN];by_cases hko:k < o
      .exact .inl (c4 k q hko hq hn)
      .have:k=o:=ow hk hko;subst this;exact .inr (aZ)
    .rw[e1] at hc;have hc:=of_decide_eq_false hc.symm;subst bT;refine br (by k_in) ⟨T2,⟨c3.le.trans l4,vK,c3.z,c3.nd⟩,λk q hk hq hn=>?_⟩;by_cases hko:k < o
     .exact c4 k q hko hq hn
     .have:k=o:=ow hk hko;subst this;rw[EJ] at hq;cases hq;exact tV λg=>hc ⟨hn,g⟩
  .rintro m3 ⟨T2,c3,c4⟩;lk;show lP;lk;ext m3 T2;subst qe;have hi0:0 < i:=z0 λe=>ig (cQ▸hat) (zz (zo (iH hl1)) (ze (e1.symm.trans ((congrArg (·+ at_) e).trans (fG _)))));refine fB ([("at",vn (at_+1)),("found",.ref f),("rules",.ref rl)]:Loc) (by k_in) ⟨i - 1,xB hi0,at_+1,T1++T2,(PK hi0).trans e1,rfl,c3,λk y o q hk hy' hq hn=>?_⟩;by_cases hka:k < at_
   .have hk2:k < (T0++T1).length:=zl hk hat;have gh:(T0++T1)[k]? = some y:=by
     rw[<-gX,jT hk2] at hy';exact hy'
    have:=c2 k y o q hka gh hq hn;rw[<-gX,aV,bN];exact .inl this
   .have:k=at_:=ow hk hka
    (revert hn;clear hn;intro hn);ext k y o q
    subst this;rw[<-gX,jT hat,hy] at hy';cases hy';have ho:o < RP.length:=(bU.mp hq).1;exact c4 o q ho hq hn
 .have hat:(T0++T1).length<=at_:=by simpa using e
  lk;refine h mm f T1 c1.le c1.pl c1.nd (λq=>⟨λhq=>?_,λhq=>?_⟩) λy hy=>⟨(c1.z y hy).1,(c1.z y hy).2⟩
  .rw[aV,bN] at hq;rcases hq with hq | hq
   .exact .base _ hq
   .obtain ⟨y,hy,rfl⟩:=aQ.mp hq;exact (c1.z y hy).3
  .induction hq with
   | base p hp=>rw[aV,bN];exact .inl hp
   | step p o q _ ho hn ih=>
    obtain ⟨y,hy,rfl⟩:=aQ.mp ih;obtain ⟨k,hk,hk2⟩:=BW hy;exact c2 k y o q (zl hk hat) (by rw[aH hk,hk2]) ho hn
end
end
section
noncomputable def K3:List Str:=["$accept","s","t"]
noncomputable def iX:List Str:=["a","b","$end"]
noncomputable def fj (H:Str->List Str) (l:Str) (v:List Str):Str->List Str:=λy=>if y=l then v else H y
noncomputable def dM (acc:List Str) (o:Str):List Str:=if o∈acc then acc else acc++[o]
noncomputable def cE (H:Str->List Str) (y:Str):List Str:=if y∈K3 then H y else [y]
noncomputable def mH (E:List Str) (l:Str):(Str->List Str)->List Str->(Str->List Str)
 | H,[]=>H
 | H,y::r=>if y∈E then mH E l (fj H l ((cE H y).foldl dM (H l))) r else fj H l ((cE H y).foldl dM (H l))
theorem uv:mH E l H (y::r)=if y∈E then mH E l (fj H l ((cE H y).foldl dM (H l))) r else fj H l ((cE H y).foldl dM (H l)):=rfl
noncomputable def kC (E:List Str) (H:Str->List Str) (q:Pr):Str->List Str:=mH E q.1 H q.2
noncomputable def gB (E:List Str) (RP:List Pr):Nat->Str->List Str
 | 0=>λ_=>[]
 | k+1=>RP.foldl (kC E) (gB E RP k)
theorem ur (f:Str->V) (l:List Str) (y:Str):fQ (l.map λs:Str=>(s,f s)) y=if y∈l then some (f y) else none:=by
 unfold fQ;induction l with
 | nil=>rfl
 | cons z l ih=>
  rw[bq,rP];by_cases h:z=y
  .subst h;simp
  .simp only[h,decide_false];rw[ih];have:y∈z::l↔y∈l:=by simp[r7 h]
   simp only[this]
noncomputable def cL (H:Str->List Str):Prop:=∀ y,(H y).Nodup/\∀ o∈H y,o∈iX
theorem CJ [BEq α] [LawfulBEq α]:∀ {l l':List α},l.Nodup->(∀ x∈l,x∈l')->l.length<=l'.length:=by
 intro l_;induction l_ with
 | nil=>
  intro _ _ _;exact bk _
 | cons x l ih=>
  intro l' h hs;obtain ⟨h1,h2⟩:=nU.mp h;have hx:=hs x (aZ ..);have h3:=ih (l':=l'.erase x) h2 λy hy=>(U' (show y≠x from λe=>h1 (e▸hy))).mpr (hs y (b9 _ hy));rw[List.length_erase_of_mem hx] at h3;have:=UW hx;rw[fM];exact zm h3 (xB this)
theorem wK {l:List Str} (h:l.Nodup) (h2:∀ o∈l,o∈iX):l.length<=3:=CJ (l':=iX) h h2
theorem abp (h:acc.Nodup/\∀ o∈acc,o∈iX) (ho:o∈iX):(dM acc o).Nodup/\∀ z∈dM acc o,z∈iX:=by
 ext acc o;unfold dM;split
 .exact h
 .rename_i hno;refine ⟨lG.mpr ⟨h.1,by exact of_decide_eq_true rfl,λa ha b hb e=>?_⟩,λz hz=>?_⟩
  .rw[bQ] at hb;subst hb;subst e;exact hno ha
  .rcases bN.mp hz with q | q
   .exact h.2 z q
   .rw[bQ] at q;subst q;exact ho
theorem zU:∀ {L acc:List Str},(acc.Nodup/\∀ o∈acc,o∈iX)->(∀ o∈L,o∈iX)->(L.foldl dM acc).Nodup/\∀ z∈L.foldl dM acc,z∈iX:=by
 intro l_;induction l_ with
 | nil=>
  intro _ h _;exact h
 | cons o L ih=>
  intro acc h hL;exact ih (abp h (hL o (aZ ..))) λz hz=>hL z (b9 _ hz)
theorem mQ:∀ {L acc:List Str} {z:Str},z∈L.foldl dM acc↔z∈acc\/z∈L:=by
 intro l_;induction l_ with
 | nil=>
  intro acc z;simp
 | cons o L ih=>
  intro acc z;change z∈L.foldl dM (dM acc o)↔_;rw[ih];unfold dM;split
  .rename_i h;constructor
   .rintro (h1 | h1)
    .exact .inl h1
    .exact .inr (b9 _ h1)
   .rintro (h1 | h1)
    .exact .inl h1
    .rcases b8.mp h1 with rfl | h1
     .exact .inl h
     .exact .inr h1
  .simp[or_assoc]
theorem cL.upd (h:cL H) (hv:v.Nodup/\∀ o∈v,o∈iX):cL (fj H l v):=λy=>by
 unfold fj;split
 .exact hv
 .exact h y
noncomputable def iN (y:Str):Prop:=j6 y\/y=("$end" : Str)
theorem iN.t (h:iN y) (hk:y∉K3):y∈iX:=by
 rcases h with (h | h | h | h) | h<;>subst h
 .decide +kernel
 .decide +kernel
 .exact (hk (by decide +kernel)).elim
 .exact (hk (by decide +kernel)).elim
 .decide +kernel
theorem aT.rR {P:List Pr} (p:aT P) {q:Pr} (h:q∈bL P):q.1∈K3/\∀ y∈q.2,iN y:=by
 rcases b8.mp h with rfl | h
 .refine ⟨by decide +kernel,λy hy=>?_⟩;simp only[b8,nS,or_false] at hy;rcases hy with rfl | rfl
  .exact .inl (.inr (.inr (.inl rfl)))
  .exact .inr rfl
 .refine ⟨?_,λy hy=>.inl (p.right q h y hy)⟩;rcases p.left q h with e | e<;>rw[e]<;>decide +kernel
theorem cL.g (h:cL H) (hy:iN y):(cE H y).Nodup/\∀ o∈cE H y,o∈iX:=by
 unfold cE;split
 .exact h y
 .rename_i hk;exact ⟨by exact of_decide_eq_true rfl,λo ho=>by rw[bQ] at ho;subst ho;exact hy.t hk⟩
theorem cL.n:∀ {r:List Str} {H:Str->List Str},cL H->(∀ y∈r,iN y)->cL (mH E l H r)
 | [],H,h,_=>h
 | y::r,H,h,hr=>by
  have h1:=h.upd (l:=l) (zU (h l) (h.g (hr y (aZ ..))).2);dsimp only[uv];split
  .exact cL.n h1 λz hz=>hr z (b9 _ hz)
  .exact h1
theorem cL.f:∀ {L:List Pr} {H:Str->List Str},cL H->(∀ q∈L,∀ y∈q.2,iN y)->cL (L.foldl (kC E) H):=by
 intro l_;induction l_ with
 | nil=>
  intro H h _;exact h
 | cons q L ih=>
  intro H h hr;exact ih (h.n (hr q (aZ ..))) λz hz=>hr z (b9 _ hz)
theorem cL.k (hr:∀ q∈RP,∀ y∈q.2,iN y):∀ k,cL (gB E RP k):=by
 intro l_;induction l_ with
 | zero=>
  exact λy=>⟨.nil,λ_ h=>(by cases h)⟩
 | succ k ih=>
  exact (ih).f hr
structure fJ (m0 m:MH) (D:Addr) (ka:Str->Addr) (H:Str->List Str):Prop where
 le:m0.le m
 d:m D=some (.jZ (K3.map λy=>(y,.ref (ka y))))
 l:∀ y∈K3,m (ka y)=some (.list ((H y).map .str))
 n:m0 D=none/\∀ y∈K3,m0 (ka y)=none
 j:∀ y∈K3,∀ z∈K3,ka y=ka z->y=z
theorem fJ.grow {m0 m m':MH} {D:Addr} {ka:Str->Addr} {H:Str->List Str} (x:fJ m0 m D ka H) (h:m.le m'):fJ m0 m' D ka H:=
 ⟨x.le.trans h,h _ _ x.d,λy hy=>h _ _ (x.l y hy),x.n,x.j⟩
theorem fJ.add {m0 m:MH} {D:Addr} {ka:Str->Addr} {H:Str->List Str} {l:Str} (x:fJ m0 m D ka H) (hl:l∈K3) (v:List Str):fJ m0 (m.set (ka l) (.list (v.map .str))) D ka (fj H l v):=by
 ext m0 m D ka H l v;refine ⟨x.le.set (x.n.2 l hl),MH.ay x.d λe=>?_,λy hy=>?_,x.n,x.j⟩
 .have:=x.l l hl;rw[<-e,x.d] at this;cases this
 .ext y;unfold fj;by_cases q:y=l
  .subst q;rw[if_pos rfl,MH.af]
  .rw[if_neg q];exact MH.ay (x.l y hy) λe=>q (x.j y hy l hl e)
section
variable {C:Cx} {A:TA} {n:Nat} {env:Env} {loc:Loc} {m:MH} {Q:V->MH->Prop}
theorem OO {x y:Str} {px py pa pl p1 p2:Pos} {m0:MH} {D:Addr} {ka:Str->Addr} {H:Str->List Str} {w:Str} (T:aS C A) (h0:fJ m0 m D ka H) (hx:loc.lookup x=some (.ref D)) (hy:loc.lookup y=some (.str w)) (h:∀ m' a,m.le m'->m' a=some (.list ((cE H w).map .str))->(∀ l∈K3,a=ka l->cE H w=H l)->m0 a=none->Q (.ref a) m') (hd1:(x==("__debug__" : Str))=false:=by decide) (aga:(x==("__classdict__" : Str))=false:=by decide) (hd2:(y==("__debug__" : Str))=false:=by decide) (Rf:(y==("__classdict__" : Str))=false:=by decide) (hl:(pa.endLine==p1.line)=true:=by rfl):WE C n env (.Call (.Attribute (.Name x px) "get" pa) [.Name y py,.List [.Name y p2] pl] [] p1) loc m Q:=by
 refine eB VH Fv V7 (ux hx ?_ hd1 aga) (hline:=hl);refine ⟨zO h0.d rfl,?_⟩;refine dI (ux hy ?_ hd2 Rf);refine dI (bR (dI (ux hy ?_ hd2 Rf)));refine cM ⟨by exact fF _,λb hb=>cM ?_⟩;have l1:=MH.av (o:=.list [V.str w]) hb;show abn T.sys (l1 _ _ h0.d);rw[ur];by_cases hk:w∈K3
 .rw[if_pos hk];have e:cE H w=H w:=if_pos hk;refine h _ _ l1 (by rw[e];exact l1 _ _ (h0.l w hk)) (λl hl ee=>?_) (h0.n.2 w hk);rw[e,h0.j w hk l hl ee]
 .rw[if_neg hk];have e:cE H w=[w]:=if_neg hk;refine h _ _ l1 (by rw[e];exact MH.af _ _ _) (λl hl ee=>?_) (h0.le.new hb);have:=h0.l l hl;rw[<-ee,hb] at this;cases this
end
end
section
theorem NB (H:Str->List Str) (l:Str):fj H l (H l)=H:=by
 funext y;unfold fj;split
 .rename_i h;rw[h]
 .rfl
theorem CS (H:Str->List Str) (l:Str) (v:List Str):fj H l v l=v:=if_pos rfl
theorem NC (H:Str->List Str) (l:Str) (v w:List Str):fj (fj H l v) l w=fj H l w:=by funext y;unfold fj;split<;>rfl
theorem Pz (h12:k1≠k2) (K9:k1≠k3) (h23:k2≠k3) (hK:K3=[k1,k2,k3]) (hb1:m b1=none) (hb2:(m.set b1 (.list [])) b2=none) (jd:((m.set b1 (.list [])).set b2 (.list [])) b3=none) (hD:(((m.set b1 (.list [])).set b2 (.list [])).set b3 (.list [])) D=none) :
  ∃ ka:Str->Addr,fJ m ((((m.set b1 (.list [])).set b2 (.list [])).set b3 (.list [])).set D (.jZ [(k1,.ref b1),(k2,.ref b2),(k3,.ref b3)])) D ka (λ_=>[]):=by
 have a1:=MH.af m b1 (.list []);have Lb:=MH.aE a1 hb2;have a2:=MH.ay (o':=.list []) a1 Lb;have c2:=MH.af (m.set b1 (.list [])) b2 (.list []);have Lc:=MH.aE a2 jd;have n32:=MH.aE c2 jd;have a3:=MH.ay (o':=.list []) a2 Lc;have c3:=MH.ay (o':=.list []) c2 n32;have d3:=MH.af ((m.set b1 (.list [])).set b2 (.list [])) b3 (.list []);have nD1:=MH.aE a3 hD;have nD2:=MH.aE c3 hD;have nD3:=MH.aE d3 hD;have l1:m.le (m.set b1 (.list [])):=MH.av hb1;have l2:=l1.trans (MH.av (o:=.list []) hb2);have l3:=l2.trans (MH.av (o:=.list []) jd);clear a1 a2 c2;ext m b1 b2 b3 D k1 k2 k3;obtain ⟨ka,e1,e2,e3⟩:∃ ka:Str->Addr,ka k1=b1/\ka k2=b2/\ka k3=b3:=
  ⟨λy=>if y=k1 then b1 else if y=k2 then b2 else b3,if_pos rfl,by simp[r7 h12],by simp[r7 K9,r7 h23]⟩
 ext ka;refine ⟨ka,l3.trans (MH.av hD),?_,λy hy=>?_,⟨l3.new hD,λy hy=>?_⟩,λy hy z hz e=>?_⟩
 .rw[MH.af,hK];simp only[bq,ue,e1,e2,e3]
 .rw[hK] at hy;ext y;simp only[b8,nS,or_false] at hy;rcases hy with rfl | rfl | rfl
  .rw[e1];exact MH.ay a3 nD1
  .rw[e2];exact MH.ay c3 nD2
  .rw[e3];exact MH.ay d3 nD3
 .rw[hK] at hy;ext y;simp only[b8,nS,or_false] at hy;rcases hy with rfl | rfl | rfl
  .rw[e1];exact hb1
  .rw[e2];exact l1.new hb2
  .rw[e3];exact l2.new jd
 .rw[hK] at hy hz;ext y z;simp only[b8,nS,or_false] at hy hz;rcases hy with rfl | rfl | rfl<;>rcases hz with rfl | rfl | rfl<;>first
   | rfl
   | (rw[e1,e2] at e;exact (Lb e.symm).elim)
   | (rw[e2,e1] at e;exact (Lb e).elim)
   | (rw[e1,e3] at e;exact (Lc e.symm).elim)
   | (rw[e3,e1] at e;exact (Lc e).elim)
   | (rw[e2,e3] at e;exact (n32 e.symm).elim)
   | (rw[e3,e2] at e;exact (n32 e).elim)
section
variable {C:Cx} {A:TA} {n:Nat} {env:Env} {loc:Loc} {m:MH} {Q:V->MH->Prop}
theorem Yu (T:aS C A) (hn:1<=n) (p:aT P) (x:jL m rl (bL P) tp pa) (hE:m ea=some (.list (E.map .str))) (h:∀ m' D ka,fJ m m' D ka (gB E (bL P) 6)->Q (.ref D) m'):FC C (A.f 48) n [.ref rl,.ref ea] m Q:=by
 have k6:=p.AK;have hW:=@aT.EH P p;have hR:=@aT.rR P p;generalize bL P=RP at *
 have hRR:∀ q∈RP,∀ y∈q.2,iN y:=λq hq=>(hR hq).2;clear p k6;ext C A n m Q P rl ea tp pa E RP;refine eG T 48 "_law_heads" ["rules","empty"] hn rfl (λenv ef=>?_) (by walk_at "bd2");k_is
 with_reducible refine fN ?hk ?_ ?hs
 case hk=>exact ef.store ⋯
 case hs=>rfl
 with_reducible refine Ob (by decide +kernel) (by decide +kernel) (by decide +kernel) ?_
 ext env;refine bR (cM ⟨by exact bk _,λb1 hb1=>?_⟩);ext b1;refine bR (cM ⟨by exact bk _,λb2 hb2=>?_⟩);ext b2;refine bR (cM ⟨by exact bk _,λb3 jd=>λD hD=>?_⟩);change WS C (n - 1) env _ _ _ _;have start:=Pz (by decide +kernel) (by decide +kernel) (by decide +kernel) rfl hb1 hb2 jd hD;clear jd hD;ext b3 D;obtain ⟨ka,st⟩:=start;generalize ((((m.set b1 (.list [])).set b2 (.list [])).set b3 (.list [])).set D (.jZ [("$accept",V.ref b1),("s",V.ref b2),("t",V.ref b3)]))=m1 at st ⊢;ext ka m1;refine dw (λi=>[("heads",.ref D),("empty",.ref ea),("rules",.ref rl)]) (λi mm=>fJ m mm D ka (gB E RP i)) (lJ T ef.toC ?_);lk;refine ⟨6,rfl,by decide,by k_in,st,λ_ _ _=>trivial,?_,?_⟩
 .rintro i mm hi p1;clear hi;ext i mm;show bO;intro QQ bP;ext QQ;show aM (ef.store ⋯);have Ld:=cL.k (E:=E) hRR i;refine dw (λj=>[("heads",.ref D),("empty",.ref ea),("rules",.ref rl)]) (λj mm=>fJ m mm D ka ((RP.take j).foldl (kC E) (gB E RP i))) (cC (λi=>V.ref (tp i)) (aj RP.length) ?_);lk;refine ⟨rl,rfl,p1.le _ _ x.1,by k_in,p1,λi mm hp=>hp.le _ _ x.1,?_,?_⟩
  .rintro j mm hj p2;ext j mm;show bO;intro QQ bT;rw[aN] at hj;ext QQ;obtain ⟨q,hq⟩:∃ q,RP[j]? = some q:=⟨_,aH hj⟩;have gA:=bC hq;ext q;obtain ⟨hq1,hq2⟩:=hR gA;obtain ⟨_,_,cB⟩:=hW gA;show cy (w:=.ref (tp j)) (by dsimp only;rw[bM,aW _ hj];rfl);show mP (p2.le _ _ (x.2 j q hq).1) rfl;refine aM (ef.store ⋯) (aM (ef.store ⋯) ?_);change WS C (n - 1) env _ _ _ _;have Le:cL ((RP.take j).foldl (kC E) (gB E RP i)):=Ld.f λz hz=>hRR z (mJ hz);have et:(RP.take (j+1)).foldl (kC E) (gB E RP i)=mH E q.1 ((RP.take j).foldl (kC E) (gB E RP i)) q.2:=by rw[take_snoc hq,jh];rfl
   rw[et] at bT;generalize (RP.take j).foldl (kC E) (gB E RP i)=H0 at *
   clear et;ext H0;refine aaY (λk=>[("left",.str q.1),("heads",.ref D),("empty",.ref ea),("rules",.ref rl)])
    (λk mm=>∃ H,fJ m mm D ka H/\cL H/\mH E q.1 H0 q.2=mH E q.1 H (q.2.drop k)) [("heads",.ref D),("empty",.ref ea),("rules",.ref rl)] (λmm=>fJ m mm D ka (mH E q.1 H0 q.2)) (cC V.str q.2 ?_)
   lk;refine ⟨pa j,rfl,p2.le _ _ (x.2 j q hq).2,by k_in,⟨H0,p2,Le,by rw[List.drop_zero]⟩,λk mm z_=>by obtain ⟨_,hp,_,_⟩:=z_;exact hp.le _ _ (x.2 j q hq).2,?_,?_,?_⟩
   .rintro k m3 hk aG;ext k m3;show bO;intro QQ gk;ext QQ;obtain ⟨H,c1,c2,c3⟩:=aG;ext H;refine cy (getD_map hk) (aM (ef.store ⋯) ?_);have TX:=hq2 _ (cW hk);have ed:q.2.drop k=q.2[k]::q.2.drop (k+1):=EZ hk;rw[ed] at c3;generalize q.2[k]=y at *
    have BA:=c2.g TX;clear TX ed;ext y;refine pH (cC V.str (cE H y) ?_);refine OO T c1 (by rfl) (by rfl) λm4 a l4 ha hak hma=>?_;have c4:=c1.grow l4;clear l4 hma;ext m4 a;refine ⟨a,rfl,ha,λu=>[("name",.str y),("left",.str q.1),("heads",.ref D),("empty",.ref ea),("rules",.ref rl)],
     λu mm=>fJ m mm D ka (fj H q.1 (((cE H y).take u).foldl dM (H q.1)))/\mm a=some (.list ((cE H y).map .str)),by k_in,⟨by rw[FH];change fJ m m4 D ka (fj H q.1 (H q.1));rw[NB];exact c4,ha⟩,λ_ _ hp=>hp.2,?_,?_⟩
    .rintro u m5 hu aG;ext u m5;show bO;intro QQ kO;ext QQ;obtain ⟨d1,d2⟩:=aG;refine cy (getD_map hu) (aM (ef.store ⋯) ?_);have hom:(cE H y)[u]∈cE H y:=cW hu;have eu:((cE H y).take (u+1)).foldl dM (H q.1)=dM (((cE H y).take u).foldl dM (H q.1)) (cE H y)[u]:=by rw[take_snoc (aH hu),jh];rfl
     have vL:=zU (c2 q.1) (L:=(cE H y).take u) λo ho=>BA.2 o (mJ ho);have agb:∀ o∈H q.1,o∈((cE H y).take u).foldl dM (H q.1):=λo ho=>mQ.mpr (.inl ho);dsimp only;dsimp only at kO;rw[eu] at kO;generalize (cE H y)[u]=one at *
     generalize ((cE H y).take u).foldl dM (H q.1)=acc at *
     have dl:=d1.l q.1 hq1;rw[CS] at dl;have dg:fQ (K3.map λs:Str=>(s,V.ref (ka s))) q.1=some (.ref (ka q.1)):=by rw[ur,if_pos hq1]
     clear eu;ext one acc;show ck;show cH;lk;show wH d1.d dg;refine qF dl ⟨_,rfl,λe=>?_,λe=>?_⟩
     .have hno:one∉acc:=by simpa using e
      show gu;show eB gn lE lF;lk;show wH d1.d dg;refine ⟨zO dl rfl,?_⟩;lk;show kG dl (by rw[ak];have:=wK vL.1 vL.2;exact zm this (ao rfl));subst kO;refine aX (br (by k_in) ⟨?_,?_⟩)
      .have e9:dM acc one=acc++[one]:=if_neg hno;have:=d1.add hq1 (acc++[one]);rw[NC,aV] at this;rw[e9];exact this
      .refine MH.ay d2 λe=>hno (agb one ?_);rw[<-hak q.1 hq1 e];exact hom
     .have hin:one∈acc:=by simpa using e
      have e9:dM acc one=acc:=if_pos hin;subst kO;refine aX (br (by k_in) ⟨by rw[e9];exact d1,d2⟩)
    .rintro m5 ⟨d1,d2⟩;rw[dW] at d1;have okn:=c2.upd (l:=q.1) (zU (c2 q.1) BA.2);have E5:=d1.le _ _ hE;show ck;show cH;lk;refine qF E5 ⟨_,rfl,λe=>?_,λe=>?_⟩
     .have hno:y∉E:=by simpa using e
      subst gk;show acg;refine ⟨by k_in,?_⟩;rw[c3];rw[uv,if_neg hno];exact d1
     .have hin:y∈E:=by simpa using e
      subst gk;refine aX (cX ⟨by k_in,_,d1,okn,?_⟩);rw[c3];conv=>lhs;rw[uv];rw[if_pos hin]
   .rintro m3 ⟨H,c1,c2,c3⟩;rw[Fg] at c3;subst bT;show br (by k_in);rw[c3];exact c1
   .rintro m3 c1;subst bT;exact br (by k_in) c1
  .rintro mm p2;rw[aN,dW] at p2;subst bP;exact br (by k_in) p2
 .rintro mm p1;lk;exact h _ _ _ p1
end
end
section
noncomputable def fu (E:List Str) (H:Str->List Str) (a:List Str×Bool) (y:Str):List Str×Bool:=if a.2=true then (a.1++cE H y,decide (y∈E)) else a
noncomputable def jB (E:List Str) (H:Str->List Str) (l:List Str):List Str×Bool:=l.foldl (fu E H) ([],true)
noncomputable def fW (E:List Str) (H:Str->List Str) (q:Pr) (B:Str->List Str) (at_:Nat):Str->List Str:=
 match q.2[at_]? with
 | some x=>if x∈K3 then fj B x (((jB E H (q.2.drop (at_+1))).1++if (jB E H (q.2.drop (at_+1))).2=true then B q.1 else []).foldl dM (B x)) else B
 | none=>B
noncomputable def qs (E:List Str) (H:Str->List Str) (B:Str->List Str) (q:Pr):Str->List Str:=(aj q.2.length).foldl (fW E H q) B
noncomputable def jS (E:List Str) (H:Str->List Str) (RP:List Pr):Nat->Str->List Str
 | 0=>λ_=>[]
 | k+1=>RP.foldl (qs E H) (jS E H RP k)
theorem acI (h:cL H) (ha:∀ o∈a.1,o∈iX) (hy:iN y):(∀ o∈(fu E H a y).1,o∈iX)/\(fu E H a y).1.length<=a.1.length+3:=by
 unfold fu;split
 .have g:=h.g hy;refine ⟨λo ho=>?_,?_⟩
  .rcases bN.mp ho with q | q
   .exact ha o q
   .exact g.2 o q
  .rw[cQ];have:=wK g.1 g.2;exact iH this
 .exact ⟨ha,eF⟩
theorem HG (h:cL H):∀ {l:List Str} {a:List Str×Bool},(∀ o∈a.1,o∈iX)->(∀ y∈l,iN y)->(∀ o∈(l.foldl (fu E H) a).1,o∈iX)/\(l.foldl (fu E H) a).1.length<=a.1.length+3*l.length:=by
 intro l_;induction l_ with
 | nil=>
  intro a ha _;exact ⟨ha,aL _⟩
 | cons y l ih=>
  intro a ha hl;obtain ⟨h1,h2⟩:=acI (E:=E) h ha (hl y (aZ ..));obtain ⟨h3,h4⟩:=ih h1 λz hz=>hl z (b9 _ hz);refine ⟨h3,?_⟩;change (l.foldl (fu E H) (fu E H a y)).1.length<=a.1.length+3*(l.length+1);exact zz h4 (zz (gQ h2) (ze (qV.trans (congrArg (_+·) pZ))))
theorem cL.fa (h:cL H) (hq:∀ y∈q.2,iN y) (hB:cL B) (at_:Nat):cL (fW E H q B at_):=by
 ext E H q B at_;unfold fW;split
 .split
  .refine hB.upd (zU (hB _) λo ho=>?_);ext o;rcases bN.mp ho with g | g
   .exact (HG h (l:=q.2.drop (at_+1)) (a:=([],true)) (λ_ h=>(by cases h)) λy hy=>hq y (yD hy)).1 o g
   .split at g
    .exact (hB _).2 o g
    .cases g
  .exact hB
 .exact hB
theorem cL.fr (h:cL H) (hq:∀ y∈q.2,iN y):∀ (l:List Nat) {B:Str->List Str},cL B->cL (l.foldl (fW E H q) B):=by
 intro l_;induction l_ with
 | nil=>
  intro _ hB;exact hB
 | cons k l ih=>
  intro _ hB;exact ih (h.fa hq hB k)
theorem cL.ff (h:cL H):∀ {L:List Pr} {B:Str->List Str},cL B->(∀ q∈L,∀ y∈q.2,iN y)->cL (L.foldl (qs E H) B):=by
 intro l_;induction l_ with
 | nil=>
  intro _ hB _;exact hB
 | cons q L ih=>
  intro _ hB hr;exact ih (h.fr (hr q (aZ ..)) _ hB) λz hz=>hr z (b9 _ hz)
theorem cL.fk (h:cL H) (hr:∀ q∈RP,∀ y∈q.2,iN y):∀ k,cL (jS E H RP k):=by
 intro l_;induction l_ with
 | zero=>
  exact λy=>⟨.nil,λ_ h=>(by cases h)⟩
 | succ k ih=>
  exact h.ff (ih) hr
section
variable {C:Cx} {A:TA} {n:Nat} {env:Env} {loc:Loc} {m:MH} {Q:V->MH->Prop}
theorem XF (T:aS C A) (hn:2<=n) (p:aT P) (x:jL m rl (bL P) tp pa) (hE:m ea=some (.list (E.map .str))) (h:∀ m' D ka,fJ m m' D ka (jS E (gB E (bL P) 6) (bL P) 6)->Q (.ref D) m'):FC C (A.f 49) n [.ref rl,.ref ea] m Q:=by
 ext C A n m Q P rl ea tp pa E;refine eG T 49 "_law_follow" ["rules","empty"] (zf hn) rfl (λenv ef=>?_) (by walk_at "bd2");k_is;ext env;show fN (ef.store ⋯);show cF T ef.toC 48;lk;refine Yu T (aK hn) p x hE λm1 Dh kh hh=>?_;have k6:=p.AK;have hW:=@aT.EH P p;have hR:=@aT.rR P p;generalize bL P=RP at *
 have hRR:∀ q∈RP,∀ y∈q.2,iN y:=λq hq=>(hR hq).2;have yj:cL (gB E RP 6):=cL.k (E:=E) hRR 6;generalize gB E RP 6=H at *
 with_reducible refine fN ?hk ?_ ?hs
 case hk=>exact ef.store ⋯
 case hs=>rfl
 with_reducible refine Ob (by decide +kernel) (by decide +kernel) (by decide +kernel) ?_
 clear k6;ext m1 Dh kh RP H;refine bR (cM ⟨by exact bk _,λb1 hb1=>?_⟩);ext b1;refine bR (cM ⟨by exact bk _,λb2 hb2=>?_⟩);ext b2;refine bR (cM ⟨by exact bk _,λb3 jd=>λD hD=>?_⟩);have start:=Pz (by decide +kernel) (by decide +kernel) (by decide +kernel) rfl hb1 hb2 jd hD;clear jd hD;ext b3 D;obtain ⟨ka,st⟩:=start;generalize ((((m1.set b1 (.list [])).set b2 (.list [])).set b3 (.list [])).set D (.jZ [("$accept",V.ref b1),("s",V.ref b2),("t",V.ref b3)]))=m2 at st ⊢;have x1:=x.le hh.le;have E1:=hh.le _ _ hE;ext ka m2;refine dw (λi=>[("behind",.ref D),("heads",.ref Dh),("empty",.ref ea),("rules",.ref rl)]) (λi mm=>fJ m1 mm D ka (jS E H RP i)) (lJ T ef.toC ?_);lk;refine ⟨6,rfl,by decide,by k_in,st,λ_ _ _=>trivial,?_,?_⟩
 .rintro i mm hi p1;clear hi;ext i mm;show bO;intro QQ bP;ext QQ;show aM (ef.store ⋯);have Ld:=yj.fk (E:=E) hRR i;refine dw (λj=>[("behind",.ref D),("heads",.ref Dh),("empty",.ref ea),("rules",.ref rl)]) (λj mm=>fJ m1 mm D ka ((RP.take j).foldl (qs E H) (jS E H RP i))) (cC (λi=>V.ref (tp i)) (aj RP.length) ?_);lk;refine ⟨rl,rfl,p1.le _ _ x1.1,by k_in,p1,λi mm hp=>hp.le _ _ x1.1,?_,?_⟩
  .rintro j mm hj p2;ext j mm;show bO;intro QQ bT;rw[aN] at hj;ext QQ;obtain ⟨q,hq⟩:∃ q,RP[j]? = some q:=⟨_,aH hj⟩;have gA:=bC hq;ext q;obtain ⟨hq1,hq2⟩:=hR gA;obtain ⟨_,_,cB⟩:=hW gA;show cy (w:=.ref (tp j)) (by dsimp only;rw[bM,aW _ hj];rfl);show mP (p2.le _ _ (x1.2 j q hq).1) rfl;refine aM (ef.store ⋯) (aM (ef.store ⋯) ?_);change WS C (n - 1) env _ _ _ _;have Le:cL ((RP.take j).foldl (qs E H) (jS E H RP i)):=yj.ff Ld λz hz=>hRR z (mJ hz);have et:(RP.take (j+1)).foldl (qs E H) (jS E H RP i)=(aj q.2.length).foldl (fW E H q) ((RP.take j).foldl (qs E H) (jS E H RP i)):=by rw[take_snoc hq,jh];rfl
   rw[et] at bT;generalize (RP.take j).foldl (qs E H) (jS E H RP i)=B0 at *
   clear et;ext B0;refine dw (λk=>[("right",.ref (pa j)),("left",.str q.1),("behind",.ref D),("heads",.ref Dh),("empty",.ref ea),("rules",.ref rl)])
    (λk mm=>fJ m1 mm D ka ((aj k).foldl (fW E H q) B0)) (lJ T ef.toC ?_)
   lk;show bY T ef.toC (by rfl);lk;have hpa:=(x1.2 j q hq).2;show fz (p2.le _ _ hpa) (by rw[ak];exact zm cB (ao rfl));rw[ak];refine ⟨q.2.length,rfl,zm cB (ao rfl),by k_in,p2,λ_ _ _=>trivial,?_,?_⟩
   .rintro k m3 hk c1;ext k m3;show bO;intro QQ gk;ext QQ;show aM (ef.store ⋯);have EK:cL ((aj k).foldl (fW E H q) B0):=yj.fr hq2 _ Le;have TY:(aj (k+1)).foldl (fW E H q) B0=fW E H q ((aj k).foldl (fW E H q) B0) k:=by rw[jD,jh];rfl
    rw[TY] at gk;generalize (aj k).foldl (fW E H q) B0=B at *
    clear TY;ext B;obtain ⟨y,hy⟩:∃ y,q.2[k]? = some y:=⟨_,aH hk⟩;have agc:=c1.le _ _ hpa;have hpk:∀ {w:Str},q.2[k]? = some w->(q.2.map V.str)[k]? = some (.str w):=λe=>by rw[bH,e];rfl
    ext y;show ck;show cH;lk;show aJ agc (hpk hy) (by rw[ak];exact zm cB (ao rfl));lk;refine aaf T.sys c1.d ⟨_,rfl,λe=>?_,λe=>aX ?_⟩
    .rw[ur] at e;have hno:y∉K3:=λhin=>by rw[if_pos hin] at e;exact mK e
     subst gk;show zP;refine ⟨by k_in,?_⟩;have:fW E H q B k=B:=by unfold fW;rw[hy];exact if_neg hno
     rw[this];exact c1
    .rw[ur] at e;have hin:y∈K3:=tV λhno=>by rw[if_neg hno] at e;exact mK e
     obtain ⟨sm,hsm⟩:∃ sm,sm=jB E H (q.2.drop (k+1)):=⟨_,rfl⟩;have TZ:fW E H q B k=fj B y ((sm.1++if sm.2=true then B q.1 else []).foldl dM (B y)):=by unfold fW;rw[hy,hsm];exact if_pos hin
     rw[TZ] at gk;have kC:∀ z∈q.2.drop (k+1),iN z:=λz hz=>hq2 z (yD hz);have AL:=HG (E:=E) yj (l:=q.2.drop (k+1)) (a:=([],true)) (λ_ h=>(by cases h)) kC;change (∀ o∈(jB E H (q.2.drop (k+1))).1,o∈iX)/\(jB E H (q.2.drop (k+1))).1.length<=0+3*(q.2.drop (k+1)).length at AL;rw[<-hsm] at AL;clear TZ;ext sm;show fN (ef.store ⋯);refine bR (cM ⟨by simp,λs0 hs0=>?_⟩);have c2:=c1.grow (MH.av (o:=.list []) hs0);have Lf:=MH.af m3 s0 (.list []);generalize m3.set s0 (.list [])=m4 at c2 Lf ⊢;lk;clear hs0;ext s0 m4;refine kJ (cC V.str (q.2.drop (k+1)) (GP ?_));lk;show uz;lk;refine lP ⟨k+1,rfl,zS ⟨_,_,rfl,c2.le _ _ hpa,by rw[ak];exact zz cB aI,λb hb=>⟨b,rfl,?_,?_⟩⟩⟩
     .rw[MH.af,uB];unfold slc;simp
     have eb:slc (q.2.map V.str) (some (k+1)) none=(q.2.drop (k+1)).map V.str:=by rw[uB];unfold slc;simp
     rw[eb];have c3:=c2.grow (MH.av (o:=.list ((q.2.drop (k+1)).map V.str)) hb);have T5:=MH.ay (o':=.list ((q.2.drop (k+1)).map V.str)) Lf (MH.aE Lf hb);have T6:=MH.af m4 b (.list ((q.2.drop (k+1)).map V.str));generalize m4.set b (.list ((q.2.drop (k+1)).map V.str))=m5 at c3 T5 T6 ⊢;clear hb;ext b m5;refine ⟨λ_ u L mm=>∃ sa,L=([("is_open",.bool ((q.2.drop (k+1)).take u |>.foldl (fu E H) ([],true)).2),("some",.ref sa),("at",vn k),("right",.ref (pa j)),("left",.str q.1),("behind",.ref D),("heads",.ref Dh),("empty",.ref ea),("rules",.ref rl)]:Loc)/\
      fJ m1 mm D ka B/\mm b=some (.list ((q.2.drop (k+1)).map V.str))/\mm sa=some (.list ((((q.2.drop (k+1)).take u).foldl (fu E H) ([],true)).1.map .str)),kW,
      ⟨([("is_open",.bool true),("some",.ref s0),("at",vn k),("right",.ref (pa j)),("left",.str q.1),("behind",.ref D),("heads",.ref Dh),("empty",.ref ea),("rules",.ref rl)]:Loc),by k_in,s0,rfl,c3,T6,T5⟩,λu L mm z_=>by obtain ⟨_,_,_,e,_⟩:=z_;exact e,?_,?_⟩
     .rintro u L m6 hu aG;ext u L m6;show bO;intro QQ kP;ext QQ;obtain ⟨sa,rfl,d1,d2,d3⟩:=aG;ext sa;refine cy (getD_map hu) (aM (ef.store ⋯) ?_);have hzR:=kC _ (cW hu);have eu:((q.2.drop (k+1)).take (u+1)).foldl (fu E H) ([],true)=fu E H (((q.2.drop (k+1)).take u).foldl (fu E H) ([],true)) (q.2.drop (k+1))[u]:=by rw[take_snoc (aH hu),jh];rfl
      have vL:=HG (E:=E) yj (l:=(q.2.drop (k+1)).take u) (a:=([],true)) (λ_ h=>(by cases h)) λz hz=>kC z (mJ hz);have rj:((q.2.drop (k+1)).take u).length<=3:=by rw[nR,qy];exact Jq (sU cB)
      dsimp only at kP;rw[eu] at kP;generalize (q.2.drop (k+1))[u]=z at *
      generalize ((q.2.drop (k+1)).take u).foldl (fu E H) ([],true)=a at *
      have BA:=yj.g hzR;have gl:=wK BA.1 BA.2;show ck;show iR;lk;refine jl ⟨λho=>?_,λho=>?_⟩
      .have es:fu E H a z=(a.1++cE H z,decide (z∈E)):=if_pos ho;rw[es] at kP;lk;have hh6:=hh.grow d1.le;refine OO T hh6 (by rfl) (by rfl) λm7 g l7 hg _ _=>?_;refine mV (l7 _ _ d3) hg (by rw[ak,ak];exact zm (dO (zz vL.2 (iH (pX rj))) gl) (ao rfl)) λc hc=>?_;rw[<-aV];have Lg:=(d1.grow l7).grow (MH.av (o:=.list ((a.1++cE H z).map V.str)) hc);have T7:=MH.ay (o':=.list ((a.1++cE H z).map V.str)) (l7 _ _ d2) (MH.aE (l7 _ _ d2) hc);have T8:=MH.af m7 c (.list ((a.1++cE H z).map V.str));generalize m7.set c (.list ((a.1++cE H z).map V.str))=m8 at Lg T7 T8 ⊢;lk;show OV (Lg.le _ _ E1);subst kP;refine aX (fB [("is_open",.bool (decide (z∈E))),("some",.ref c),("at",vn k),("right",.ref (pa j)),("left",.str q.1),("behind",.ref D),("heads",.ref Dh),("empty",.ref ea),("rules",.ref rl)] (by k_in) ⟨c,rfl,Lg,T7,T8⟩)
      .have es:fu E H a z=a:=if_neg (by rw[ho];simp);rw[es] at kP;subst kP;refine aX (fB [("is_open",.bool a.2),("some",.ref sa),("at",vn k),("right",.ref (pa j)),("left",.str q.1),("behind",.ref D),("heads",.ref Dh),("empty",.ref ea),("rules",.ref rl)] (by k_in) ⟨sa,rfl,d1,d2,d3⟩)
     .rintro L m6 (⟨sa,rfl,d1,d2,d3⟩ | hB)
      .rw[dW] at d3 ⊢;change m6 sa=some (.list ((jB E H (q.2.drop (k+1))).1.map .str)) at d3;change WS C (n - 1) env _ [("is_open",.bool (jB E H (q.2.drop (k+1))).2),_,_,_,_,_,_,_,_] _ _;rw[<-hsm] at d3 ⊢;have T9:(q.2.drop (k+1)).length<=3:=by rw[qy];exact sU cB
       clear d2;ext m6 sa;obtain ⟨L2,vM⟩:∃ L2,L2=sm.1++(if sm.2=true then B q.1 else []):=⟨_,rfl⟩;rw[<-vM] at gk;have okL:∀ o∈L2,o∈iX:=λo ho=>by
        rw[vM] at ho;rcases bN.mp ho with g | g
        .exact AL.1 o g
        .split at g
         .exact (EK q.1).2 o g
         .cases g
       have hB3:=wK (EK q.1).1 (EK q.1).2;ext L2;refine pH (cC V.str L2 (WE.mono (Q:=λv m7=>∃ c,v=.ref c/\fJ m1 m7 D ka B/\m7 c=some (.list (L2.map .str))/\∀ y∈K3,c≠ka y) ?_ ?_))
       .lk;show iR;lk;show jl;have fin:∀ (m7:MH) (c:Addr),fJ m1 m7 D ka B->m7 c=none->(∃ c',V.ref c=.ref c'/\fJ m1 (m7.set c (.list (L2.map .str))) D ka B/\(m7.set c (.list (L2.map .str))) c'=some (.list (L2.map .str))/\∀ y∈K3,c'≠ka y):=λm7 c a1 a2=>
         ⟨c,rfl,a1.grow (MH.av a2),MH.af _ _ _,λy hy e=>by have:=a1.l y hy;rw[<-e,a2] at this;cases this⟩
        by_cases hb2:sm.2=true
        .rw[if_pos hb2] at vM ⊢;lk;show wH d1.d (by rw[ur,if_pos hq1]);refine mV d3 (d1.l q.1 hq1) (by rw[ak,ak];exact zm (dO (zz AL.2 (iH (pX T9))) hB3) (ao rfl)) λc hc=>?_;rw[<-aV,<-vM];exact fin _ _ d1 hc
        .rw[if_neg hb2] at vM ⊢;refine bR (cM ⟨by simp,λc1 hc1=>?_⟩);refine mV ((MH.av hc1) _ _ d3) (MH.af _ _ _) (by rw[ak];simp;exact zm (zz AL.2 (iH (pX T9))) (ao rfl)) λc hc=>?_;rw[nW];rw[nW] at vM;rw[<-vM];exact fin _ _ (d1.grow (MH.av hc1)) hc
       .rintro v m7 ⟨c,rfl,f1,f2,f3⟩;ext m7 c;refine ⟨c,rfl,f2,λu=>[("at",vn k),("right",.ref (pa j)),("left",.str q.1),("behind",.ref D),("heads",.ref Dh),("empty",.ref ea),("rules",.ref rl)],
         λu mm=>fJ m1 mm D ka (fj B y ((L2.take u).foldl dM (B y)))/\mm c=some (.list (L2.map .str)),by k_in,⟨by rw[FH];change fJ m1 m7 D ka (fj B y (B y));rw[NB];exact f1,f2⟩,λ_ _ hp=>hp.2,?_,?_⟩
        .rintro u m8 hu aG;ext u m8;show bO;intro QQ DI;ext QQ;obtain ⟨g1,g2⟩:=aG;refine cy (getD_map hu) (aM (ef.store ⋯) ?_);have eu:(L2.take (u+1)).foldl dM (B y)=dM ((L2.take u).foldl dM (B y)) L2[u]:=by rw[take_snoc (aH hu),jh];rfl
         have vL:=zU (EK y) (L:=L2.take u) λo ho=>okL o (mJ ho);dsimp only at DI;rw[eu] at DI;generalize L2[u]=one at *
         generalize (L2.take u).foldl dM (B y)=acc at *
         have dl:=g1.l y hin;rw[CS] at dl;have dg:fQ (K3.map λs:Str=>(s,V.ref (ka s))) y=some (.ref (ka y)):=by rw[ur,if_pos hin]
         have Rg:=g1.le _ _ hpa;clear eu;ext one acc;show ck;show cH;lk;show aJ Rg (hpk hy) (by rw[ak];exact zm cB (ao rfl));show wH g1.d dg;refine qF dl ⟨_,rfl,λe=>?_,λe=>?_⟩
         .have hno:one∉acc:=by simpa using e
          show gu;show eB gn lE lF;lk;show aJ Rg (hpk hy) (by rw[ak];exact zm cB (ao rfl));show wH g1.d dg;refine ⟨zO dl rfl,?_⟩;lk;show kG dl (by rw[ak];have:=wK vL.1 vL.2;exact zm this (ao rfl));subst DI;refine aX (br (by k_in) ⟨?_,MH.ay g2 (f3 y hin)⟩);have e9:dM acc one=acc++[one]:=if_neg hno;have:=g1.add hin (acc++[one]);rw[NC,aV] at this;rw[e9];exact this
         .have agd:one∈acc:=by simpa using e
          have e9:dM acc one=acc:=if_pos agd;subst DI;refine aX (br (by k_in) ⟨by rw[e9];exact g1,g2⟩)
        .rintro m8 ⟨g1,g2⟩;rw[dW] at g1;subst gk;exact br (by k_in) g1
      .exact hB.elim
   .rintro m3 c1;subst bT;exact br (by k_in) c1
  .rintro mm p2;rw[aN,dW] at p2;subst bP;exact br (by k_in) p2
 .rintro mm p1;lk;exact h _ _ _ ⟨hh.le.trans p1.le,p1.d,p1.l,⟨hh.le.new p1.n.1,λy hy=>hh.le.new (p1.n.2 y hy)⟩,p1.j⟩
end
end
section
section
variable {P:List Pr}
theorem Od {nm:List Str} {y:Str} (h:y∈nm):nm.getD (nm.idxOf y) "" = y:=by have h1:nm.idxOf y < nm.length:=qx.mpr h;rw[bM,aH h1];simp
theorem aT.age (p:aT P) (h:sM y):y∈bW P:=by unfold bW;rcases h with e | e<;>subst e<;>simp
theorem Ij:(aa P).R=P.length+1:=by change ((_::P.map _).length)=_;simp
theorem lU (p:aT P) {r:Nat} (hr:r < (aa P).R):(bL P)[r]? = some ((aa P).nm ((aa P).aq r),((aa P).ai r).map (aa P).nm):=by
 have nk:=p.rF;have g:∀ {i:Nat} {y:Str},(bW P)[i]? = some y->(aa P).nm i=y:=λh=>by change (bW P).getD _ "" = _;rw[bM,h];rfl
 ext P r;cases r with
 | zero=>
  have e1:(aa P).aq 0=(iD P).length:=rfl;have e2:(aa P).ai 0=[(iD P).length+1,0]:=rfl;rw[e1,e2];change some (("$accept" : Str),[("s" : Str),"$end"])=_;simp only[bq,ue];rw[g nk.eA,g nk.eS,g nk.e0]
 | succ r=>
  rw[Ij] at hr;obtain ⟨q,hq⟩:∃ q,P[r]? = some q:=⟨_,aH (zv hr)⟩;have gA:=bC hq;have e:=CQ hq;have e1:(aa P).aq (r+1)=(bW P).idxOf q.1:=by change ((aa P).ju (r+1)).1=_;rw[e]
  have e2:(aa P).ai (r+1)=q.2.map (bW P).idxOf:=by change ((aa P).ju (r+1)).2=_;rw[e]
  rw[e1,e2];change P[r]? = _;rw[hq];have f1:(aa P).nm ((bW P).idxOf q.1)=q.1:=Od (p.age (p.left q gA));have f2:(q.2.map (bW P).idxOf).map (aa P).nm=q.2:=by
   rw[dS]
   conv=>rhs;rw[<-List.map_id q.2]
   exact fD λy hy=>Od (p.mem gA hy)
  rw[f1,f2]
theorem sf (p:aT P) {x y:Nat} (hx:x < (aa P).N) (hy:y < (aa P).N) (h:(aa P).nm x=(aa P).nm y):x=y:=by
 have hn:=p.rF.nd;have h1:(bW P)[x]? = some ((aa P).nm x):=by change _=some ((bW P).getD x "");rw[bM,aH (show x < (bW P).length from hx)];rfl
 have h2:(bW P)[y]? = some ((aa P).nm y):=by change _=some ((bW P).getD y "");rw[bM,aH (show y < (bW P).length from hy)];rfl
 rw[<-se hn h1,<-se hn h2,h]
noncomputable def eX (G:Gr) (it:Nat):Nat×Nat:=(G.aB it,G.dot it)
theorem Oe (h:r < G.R) (hd:d<=(G.ai r).length):eX G (G.item r d)=(r,d):=by unfold eX;rw[Gr.fO h hd,Gr.jW h hd]
theorem O9 (p:aT P) (h:it < (aa P).M):lD (bL P) (eX (aa P) it)=((aa P).aY it).map (aa P).nm:=by unfold lD eX;rw[lU p (Gr.iU h)];change (((aa P).ai ((aa P).aB it)).map (aa P).nm)[(aa P).dot it]? = _;rw[bH];rfl
theorem Pa (p:aT P) (h:r < (aa P).R):lD (bL P) (r,d)=(((aa P).ai r)[d]?).map (aa P).nm:=by unfold lD;rw[lU p h];change (((aa P).ai r).map (aa P).nm)[d]? = _;rw[bH]
theorem C6:(bL P).length=(aa P).R:=Ij.symm
theorem abq (p:aT P) (h:mq ((aa P).gb (aa P).R) x z):∀ {q:Nat×Nat},kQ (bL P) I q->lD (bL P) q=some ((aa P).nm x)->∀ {r:Nat},r < (aa P).R->(aa P).aq r=z->kQ (bL P) I (r,0):=by
 induction h with
 | one x y h=>
  intro q hq hn r hr hl;obtain ⟨r1,hr1,hl1,hy⟩:=(Gr.pB _ _ _).mp h;have c1:kQ (bL P) I (r1,0):=.step q r1 _ hq (lU p hr1) (by rw[hn,<-hl1]);refine .step (r1,0) r _ c1 (lU p hr) ?_;rw[Pa p hr1,hy,hl];rfl
 | more x y z h t ih=>
  intro q hq hn r hr hl;obtain ⟨r1,hr1,hl1,hy⟩:=(Gr.pB _ _ _).mp h;have c1:kQ (bL P) I (r1,0):=.step q r1 _ hq (lU p hr1) (by rw[hn,<-hl1]);refine ih c1 ?_ hr hl;rw[Pa p hr1,hy];rfl
theorem abr (p:aT P) {ah:List Nat} (hk:∀ it∈ah,it < (aa P).M) (q:Nat×Nat):kQ (bL P) (ah.map (eX (aa P))) q↔∃ it∈(aa P).bV ah,q=eX (aa P) it:=by
 have o:=iW p;constructor
 .intro h;induction h with
  | base q hq=>
   obtain ⟨it,hi,rfl⟩:=aQ.mp hq;exact ⟨it,Gr.OD o hi,rfl⟩
  | step q r u _ ho hn ih=>
   ext P ah q r u;obtain ⟨it,hi,rfl⟩:=ih;have gV:=Gr.jK o hk it hi;have hr:r < (aa P).R:=by rw[<-C6];exact (bU.mp ho).1
   rw[lU p hr] at ho;ext it;cases ho;rw[O9 p gV] at hn;cases ha:(aa P).aY it with
   | none=>rw[ha] at hn;cases hn
   | some y=>
    rw[ha] at hn;have e:=sf p (Gr.uE o ha) (Gr.qL o hr) (c8 hn);subst e;exact ⟨_,Gr.OA o hi hr ha,(Oe hr (bk _)).symm⟩
 .rintro ⟨it,hi,rfl⟩;ext P ah it;rcases (Gr.wC o).mp hi with hi | ⟨r,hr,hb,rfl⟩
  .exact .base _ (aQ.mpr ⟨it,hi,rfl⟩)
  .rw[Oe hr (bk _)];clear hi;ext r;obtain ⟨i0,hi0,y,ha,hy⟩:=(Gr.wB _ _).mp hb;have b0:kQ (bL P) (ah.map (eX (aa P))) (eX (aa P) i0):=.base _ (aQ.mpr ⟨i0,hi0,rfl⟩);have n0:lD (bL P) (eX (aa P) i0)=some ((aa P).nm y):=by rw[O9 p (hk i0 hi0),ha];rfl
   rcases hy with hy | hy
   .exact .step _ r _ b0 (lU p hr) (by rw[n0,hy])
   .exact abq p (zC _ _ _ _ hy) b0 n0 hr rfl
end
theorem aah (hp:p.2 < 1000) (hq:q.2 < 1000) (h:dK p=dK q):p=q:=by unfold dK at h;exact G6 (PM hp hq h) (Nat.add_left_cancel (h.trans (congrArg (·* 1000+q.2) (PM hp hq h).symm)))
theorem FQ {l l':List (Nat×Nat)} (hp:l.Perm l') (hb:∀ x∈l,x.2 < 1000) (h:(l.map dK).Pairwise (·<=·)) (h':(l'.map dK).Pairwise (·<=·)):l=l':=
 hp.eq_of_pairwise (le:=λa b=>dK a<=dK b) (λa b ha hb' h1 h2=>aah (hb a ha) (hb b (hp.mem_iff.mpr hb')) (kT h1 h2)) (yH.mp h) (yH.mp h')
theorem abt {l l':List (Nat×Nat)} (h:l.Nodup) (h':l'.Nodup) (e:∀ q,q∈l↔q∈l'):l.Perm l':=(UO h h').mpr e
theorem Na {G:Gr} {l:List Nat} (o:G.Ok) (hl:∀ it∈l,it < G.M) (h:l.Pairwise (·<=·)):((l.map (eX G)).map dK).Pairwise (·<=·):=by
 rw[dS,yH];refine h.imp_of_mem λ{a b} ha hb hab=>?_;change dK (eX G a)<=dK (eX G b);by_cases e:a=b
 .subst e;exact aL _
 .have hlt:a < b:=zd hab e;have ha':=hl a ha;have hb':=hl b hb;rw[<-Gr.jJ ha',<-Gr.jJ hb'] at hlt;have h1:=(Gr.Xo (Gr.iU ha') (Gr.jY ha') (Gr.iU hb') (Gr.jY hb')).mp hlt;have h2:=Gr.jY ha';have h3:=o.len (G.aB a);unfold dK eX;dsimp only;exact h1.elim (λw=>zf (Ar w (zm (zz h2 h3) (ao rfl)))) λw=>zf (fK (congrArg (·* 1000+G.dot a) w.1) (i6 w.2))
theorem Ht (ha:a < G.M) (hb:b < G.M) (h:eX G a=eX G b):a=b:=by rw[<-Gr.jJ ha,<-Gr.jJ hb];have h1:=congrArg Prod.fst h;have h2:=congrArg Prod.snd h;simp only[eX] at h1 h2;rw[h1,h2]
end
section
theorem FT (x a b:Str) (r:List Str):nY x (a::b::r)=a++(x++nY x (b::r)):=by have e:∀ l,nY x l=Str.join x l:=λl=>StrLaws.glued_eq_join x l;rw[e,e];change a++x++Str.join x (b::r)=_;rw[VY]
noncomputable def uW (G:Gr) (mk:Nat->Nat) (i it:Nat) (q:Pr) (t:Str):Str:=
 if G.aB it=0\/G.aY it≠none then t else t ++ "  [" ++ nY ", " (((aj G.T).filter λk=>(mk (G.bI.idxOf (i,G.aB it))).testBit k).map G.nm) ++ "]"
theorem abu (hT:T<=60) (h:∀ t,mask.testBit t=true->t < T):fY mask=(aj T).filter λk=>mask.testBit k:=by
 ext mask T;unfold fY;obtain ⟨e,he⟩:∃ e,60=T+e:=⟨60 - T,AQ hT⟩;rw[he,Mv,jU];have:((aj e).map λx=>T+x).filter mask.testBit=[]:=vP.mpr λa ha hb=>by obtain ⟨x,_,rfl⟩:=aQ.mp ha;have:=h _ hb;exact ig this eF
 rw[this,nW]
theorem abv (hr:G.aB it=r) (hd:G.dot it=d) (hq1:q.1=G.nm (G.aq r)) (hq2:q.2=(G.ai r).map G.nm) (hT:G.T<=60) (tO:G.aB it≠0->G.aY it=none->∀ t,(mk (G.bI.idxOf (i,r))).testBit t=true->t < G.T) :
  G.Ey mk i it=uW G mk i it q (jO r q d):=by
 have e:((toString (G.aB it:Int):String):Str) ++ " " ++ G.tL (G.aB it) (G.dot it)=jO r q d:=by
  clear hT tO;ext G mk i it r d q;unfold Gr.tL jO;rw[hr,hd,hq1,hq2];simp only[VV,V8,gX];obtain ⟨z,l,hz⟩:∃ z,∃ l,((G.ai r).map G.nm).take d++("." : Str)::((G.ai r).map G.nm).drop d=z::l:=by
   cases h:((G.ai r).map G.nm).take d with
   | nil=>exact ⟨_,_,rfl⟩
   | cons a b=>exact ⟨_,_,rfl⟩
  rw[hz,FT,FT,FT];have e3:(" : " : Str)=(" " : Str)++((":" : Str)++(" " : Str)):=by decide +kernel
  rw[e3];simp only[VY]
 clear hd hq1 hq2;ext G mk i it r d q;unfold Gr.Ey uW;dsimp only;rw[e];split
 .rfl
 .rename_i h;have h1:G.aB it≠0:=λq=>h (.inl q);have h2:G.aY it=none:=tV λq=>h (.inr q);rw[hr,abu hT (tO h1 h2)]
end
section
section
variable {C:Cx} {A:TA} {n:Nat} {env:Env} {loc:Loc} {m:MH} {Q:V->MH->Prop}
theorem Of {α:Type} {sc:Scope} {elt target iter:Expr} {Z:Addr->MH->Prop} (f:α->V) (l:List α) (r:α->Nat×Nat) (hl:l.length<=2 ^ 20)
  (h:WI C n env iter loc m λlen item cond m1=>len=l.length/\(∀ i x,l[i]? = some x->item i=f x)/\(∀ mm,m1.le mm->cond mm)/\
   (∀ cenv,g9 cenv sc->∀ x∈l,∀ mm,m1.le mm->WG C n cenv target (f x) (f9 loc (freeNames sc)) mm λl' m'=>(∀ y v,(f9 loc (freeNames sc)).lookup y=some v->l'.lookup y=some v)/\
    WE C n cenv elt l' m' λw m3=>∃ a,w=.ref a/\mm.le m3/\m3 a=some (.tuple [vn (r x).1,vn (r x).2]))/\
   ∀ mm a T,m1.le mm->mm a=none->(∀ y∈T,mm y.1=some (.tuple [vn y.2.1,vn y.2.2]))->T.map (·.2)=l.map r->Z a (mm.set a (.list (bB T)))) :
  WI C n env iter loc m (Ah C n loc sc target elt [] λacc mm=>∀ a,mm a=none->Z a (mm.set a (.list acc))):=by
 intro P A s R hr x kk;refine h P A s R hr x λlen item cond St ob m1 s1 d t hS hx h0 hf ⟨e1,e2,e3,e4,e5⟩=>kk len item cond St ob m1 s1 d t hS hx h0 hf ?_;subst e1;refine ⟨hl,λi acc mm=>∃ T:List AP,acc=bB T/\T.map (·.2)=(l.take i).map r/\(∀ y∈T,mm y.1=some (.tuple [vn y.2.1,vn y.2.2]))/\m1.le mm,⟨[],rfl,rfl,λ_ h=>(by cases h),λ_ _ q=>q⟩,λi acc mm z_=>by obtain ⟨_,_,_,_,q⟩:=z_;exact e3 mm q,?_,?_⟩
 .rintro cenv ec i acc mm hi ⟨T,rfl,t1,t2,hm⟩;have hg:l[i]? = some l[i]:=aH hi;rw[e2 i _ hg];refine WG.Ih (e4 cenv ec _ (cW hi) mm hm) λl' m' ⟨q1,q2⟩=>⟨q1,?_⟩;simp only[zZ,if_true];refine q2.mono λw m3 ⟨a,w1,w2,w3⟩=>?_;subst w1;refine ⟨T++[(a,r l[i])],by rw[bB,bB,aV];rfl,by rw[take_snoc hg,aV,aV,t1];rfl,λy hy=>?_,hm.trans w2⟩;rcases bN.mp hy with hy | hy
  .exact w2 _ _ (t2 y hy)
  .rw[bQ] at hy;subst hy;exact w3
 .rintro acc mm ⟨T,rfl,t1,t2,hm⟩ a ha;rw[dW] at t1;exact e5 mm a T hm ha t2 t1
theorem aai {α:Type} {dD sc:Scope} {elt target iter:Expr} {pos:Pos} (f:α->V) (l:List α) (r:α->Nat×Nat) (ef:fZ env dD) (ok:qK dD sc) (hl:l.length<=2 ^ 20)
  (h:WI C n env iter loc m λlen item cond m1=>len=l.length/\(∀ i x,l[i]? = some x->item i=f x)/\(∀ mm,m1.le mm->cond mm)/\
   (∀ cenv,g9 cenv sc->∀ x∈l,∀ mm,m1.le mm->WG C n cenv target (f x) (f9 loc (freeNames sc)) mm λl' m'=>(∀ y v,(f9 loc (freeNames sc)).lookup y=some v->l'.lookup y=some v)/\
    WE C n cenv elt l' m' λw m3=>∃ a,w=.ref a/\mm.le m3/\m3 a=some (.tuple [vn (r x).1,vn (r x).2]))/\
   ∀ mm a T,m1.le mm->mm a=none->(∀ y∈T,mm y.1=some (.tuple [vn y.2.1,vn y.2.2]))->T.map (·.2)=l.map r->Q (.ref a) (mm.set a (.list (bB T))))
  (hs:∀ x,foldedSetIterable iter env x=pure x:=by walk_at "ir"):WE C n env (.ListComp elt [⟨target,iter,[],0⟩] sc pos) loc m Q:=
 wJ ef ok (Of (Z:=λa mm=>Q (.ref a) mm) f l r hl h) hs
theorem aaj {α:Type} {dD sc:Scope} {elt target iter:Expr} {pos py spos:Pos} {y:Str} {ss:List Stmt} {Q:Fl->Loc->MH->Prop} (f:α->V) (l:List α) (r:α->Nat×Nat) (ef:fZ env dD) (ok:qK dD sc) (hk:mY env y) (hl:l.length<=2 ^ 20)
  (hsw:∀ env':Env,env'.scope=dD->swapsWith (.ListComp elt [⟨target,iter,[],0⟩] sc pos) (some (.Name y py)) spos.line env'=pure true)
  (h:WI C n env iter loc m λlen item cond m1=>len=l.length/\(∀ i x,l[i]? = some x->item i=f x)/\(∀ mm,m1.le mm->cond mm)/\
   (∀ cenv,g9 cenv sc->∀ x∈l,∀ mm,m1.le mm->WG C n cenv target (f x) (f9 loc (freeNames sc)) mm λl' m'=>(∀ y v,(f9 loc (freeNames sc)).lookup y=some v->l'.lookup y=some v)/\
    WE C n cenv elt l' m' λw m3=>∃ a,w=.ref a/\mm.le m3/\m3 a=some (.tuple [vn (r x).1,vn (r x).2]))/\
   ∀ mm a T,m1.le mm->mm a=none->(∀ y∈T,mm y.1=some (.tuple [vn y.2.1,vn y.2.2]))->T.map (·.2)=l.map r->WS C n env ss ((y,.ref a)::loc) (mm.set a (.list (bB T))) Q)
  (hs:∀ x,foldedSetIterable iter env x=pure x:=by walk_at "ir"):WS C n env (.Assign [.Name y py] (.ListComp elt [⟨target,iter,[],0⟩] sc pos) spos::ss) loc m Q:=
 jX (FE ef ok hk (Of (Z:=λa mm=>WS C n env ss ((y,.ref a)::loc) mm Q) f l r hl h) (hsw env ef.scope) hs)
theorem aak {G:Gr} {RP:List Pr} {ah:List Nat} {T0 T1 T3:List AP} (o:G.Ok) (hk1:∀ it∈ah,it < G.M) (hk2:ah.Pairwise (·< ·)) (hclo:∀ q,kQ RP (ah.map (eX G)) q↔∃ it∈G.bV ah,q=eX G it) (h0:T0.map (·.2)=ah.map (eX G)) (hnd:((T0++T1).map (·.2)).Nodup) (hc:∀ q,q∈(T0++T1).map (·.2)↔kQ RP (T0.map (·.2)) q) (h3:T3.Perm ((T0++T1).filter λx=>decide (x.2∉T0.map (·.2)))) (hs:(T3.map λx=>dK x.2).Pairwise (·<=·)):(G.bV ah).map (eX G)=(T0++T3).map (·.2):=by
 have hks:=yZ (hk2.imp λh=>fy h);have e1:G.bV ah=ah++cN (G.nc ah):=by unfold Gr.bV;rw[hks]
 have hlt:∀ it∈cN (G.nc ah),it < G.M:=λit hi=>Gr.Hi o (jH.mp hi);rw[e1,aV,aV,h0];congr 1;have hp3:(T3.map (·.2)).Perm ((((T0++T1).filter λx=>decide (x.2∉T0.map (·.2)))).map (·.2)):=h3.map _;have n3:(T3.map (·.2)).Nodup:=hp3.nodup_iff.mpr (hnd.sublist (agZ _ Vi));have n4:((cN (G.nc ah)).map (eX G)).Nodup:=mL (qD (Gr.Gf ah)) λa ha b hb e=>Ht (hlt a ha) (hlt b hb) e;clear hk2 hnd h3 hks;ext G RP ah T0 T1 T3;refine FQ (abt n4 n3 λq=>?_) (λx hx=>?_) (Na o hlt (yQ _)) (by rw[dS];exact hs)
 .rw[hp3.mem_iff];constructor
  .intro hq;obtain ⟨it,hi,rfl⟩:=aQ.mp hq;have hi2:=jH.mp hi;have hnk:=((Gr.mQ o).mp hi2).1;have hc2:eX G it∈(T0++T1).map (·.2):=(hc _).mpr (by rw[h0];exact (hclo _).mpr ⟨it,by rw[e1];exact oR _ hi,rfl⟩);obtain ⟨y,hy,gh⟩:=aQ.mp hc2;refine aQ.mpr ⟨y,fE.mpr ⟨hy,decide_eq_true λhm=>?_⟩,gh⟩;rw[gh,h0] at hm;obtain ⟨k,hk,e⟩:=aQ.mp hm;exact hnk (Ht (hk1 k hk) (hlt it hi) e▸hk)
  .intro hq;obtain ⟨y,hy,rfl⟩:=aQ.mp hq;obtain ⟨hy1,gh⟩:=fE.mp hy;have gh:=of_decide_eq_true gh;have:=(hc y.2).mp (aQ.mpr ⟨y,hy1,rfl⟩);rw[h0] at this gh;obtain ⟨it,hi,e⟩:=(hclo _).mp this;rw[e1] at hi;rcases bN.mp hi with hi | hi
   .exact (gh (aQ.mpr ⟨it,hi,e.symm⟩)).elim
   .exact aQ.mpr ⟨it,hi,e.symm⟩
 .obtain ⟨it,hi,rfl⟩:=aQ.mp hx;have h1:=Gr.jY (hlt it hi);have h2:=o.len (G.aB it);change G.dot it < 1000;exact zm h1 (zm h2 (ao rfl))
end
end
section
theorem Yv (hk:k < 5):LC (a:Int) ((1 <<< k:Nat):Int)=false:=by have:k=0\/k=1\/k=2\/k=3\/k=4:=uK hk;rcases this with rfl | rfl | rfl | rfl | rfl<;>rfl
theorem abw (a k:Nat):decide (a / (1 <<< k) % 2=1)=a.testBit k:=by rw[LA,B7]
theorem acJ (hk:k < 5) (h:Q (vn (a / (1 <<< k))) m):∀ ra rb,er ra=some (.int (a:Nat))->er rb=some (.int ((1 <<< k:Nat):Int))->TR C n (binaryOp .FloorDiv ra rb) m Q:=by
 have hp:0 < 1 <<< k:=by rw[B7];exact yX (by decide)
 show M0 (by exact aeW hp) (Yv hk);rw[LG _ ve,<-Int.natCast_ediv];exact h
section
variable {C:Cx} {A:TA} {n:Nat} {env:Env} {loc:Loc} {m:MH} {Q:V->MH->Prop} {g:GA} {u w cl mb:Addr} {ad:Nat->SA} {mk:Nat->Nat}
theorem abx (hi:i < 5) (hq1:q.1.length<=20) (hq2:∀ y∈q.2,y.length<=20) (cB:q.2.length<=3):(jO i q d).length<=1000:=by
 have hs:∀ y∈[((toString (i:Int):String):Str),q.1,(":" : Str)]++q.2.take d++[("." : Str)]++q.2.drop d,y.length<=20:=λy hy=>by
  rw[bN,bN,bN] at hy;rcases hy with ((hy | hy) | hy) | hy
  .simp only[b8,nS,or_false] at hy;rcases hy with rfl | rfl | rfl
   .have:i=0\/i=1\/i=2\/i=3\/i=4:=uK hi;rcases this with rfl | rfl | rfl | rfl | rfl<;>decide +kernel
   .exact hq1
   .decide +kernel
  .exact hq2 y (mJ hy)
  .rw[bQ] at hy;subst hy;decide +kernel
  .exact hq2 y (yD hy)
 have h1:=zM (x:=(" " : Str)) hs;have h2:([((toString (i:Int):String):Str),q.1,(":" : Str)]++q.2.take d++[("." : Str)]++q.2.drop d).length<=10:=by simp;exact aeV cB
 have h3:(" " : Str).length=1:=rfl;rw[h3] at h1;unfold jO;exact aeU h1 h2
theorem aal {α:Type} {dD sc:Scope} {elt target iter:Expr} {ifs:List Expr} {pos:Pos} (f:α->V) (p:α->Bool) (r:α->V) (ef:fZ env dD) (ok:qK dD sc)
  (h:WI C n env iter loc m λlen item cond m1=>∃ l:List α,l.length<=2 ^ 20/\len=l.length/\(∀ i x,l[i]? = some x->item i=f x)/\(∀ mm,m1.le mm->cond mm)/\
   (∀ cenv,g9 cenv sc->∀ x∈l,∀ mm,m1.le mm->WG C n cenv target (f x) (f9 loc (freeNames sc)) mm λl' m'=>(∀ y v,(f9 loc (freeNames sc)).lookup y=some v->l'.lookup y=some v)/\
    CT C n cenv ifs l' m' λb m2=>b=p x/\m1.le m2/\(b=true->WE C n cenv elt l' m2 λw m3=>w=r x/\m1.le m3))/\
   ∀ mm a,m1.le mm->mm a=none->Q (.ref a) (mm.set a (.list ((l.filter p).map r))))
  (hs:∀ x,foldedSetIterable iter env x=pure x:=by walk_at "ir"):WE C n env (.ListComp elt [⟨target,iter,ifs,0⟩] sc pos) loc m Q:=by
 refine wJ ef ok ?_ hs;intro P A s R hr x kk;refine h P A s R hr x λlen item cond St ob m1 s1 d t hS hx h0 hf ⟨l,hl,e1,e2,e3,e4,e5⟩=>kk len item cond St ob m1 s1 d t hS hx h0 hf ?_;subst e1;refine ⟨hl,λi acc mm=>acc=((l.take i).filter p).map r/\m1.le mm,⟨rfl,λ_ _ q=>q⟩,λi acc mm q=>e3 mm q.2,?_,?_⟩
 .rintro cenv ec i acc mm hi ⟨rfl,hm⟩;have hg:l[i]? = some l[i]:=aH hi;rw[e2 i _ hg];refine WG.Ih (e4 cenv ec _ (cW hi) mm hm) λl' m' ⟨q1,q2⟩=>⟨q1,q2.mono λb m2 ⟨b1,b2,b3⟩=>?_⟩;subst b1;cases q:p l[i] with
  | true=>
   simp only[if_true];refine (b3 q).mono λw m3 ⟨w1,w2⟩=>⟨?_,w2⟩;rw[Cn hg,q,w1];simp
  | false=>
   simp only[cP,if_false];refine ⟨?_,b2⟩;rw[Cn hg,q];simp
 .rintro acc mm ⟨rfl,hm⟩ a ha;rw[dW];exact e5 mm a hm ha
theorem Zh (T:aS C A) (hn:5<=n) (p:aT P) (sm:(aa P).Small) (x:pO A m w g (aa P) u ad cl mb mk) (xr:jL m rl (bL P) tp pa) (tO:∀ j q,(aa P).bI[j]? = some q->∀ t,(mk j).testBit t=true->t < (aa P).T) (hi:i < (aa P).aU.length) (h:∀ m',m.le m'->Q (.bool true) m'):FC C (A.f 50) n [.ref w,.ref rl,vn i] m Q:=by
 have o:=iW p;have vI:=λr=>@lU P p r;have hclo:=λah=>@abr P p ah;have hnm:∀ y∈(aa P).names,y.length<=20:=p.rF.wid;have Ik:(bL P).length=(aa P).R:=C6;have k6:=p.AK;have hW:=@aT.EH P p;have adE:=λ{m:MH} {Q:V->MH->Prop} {its:Addr} {T0:List AP} (xx:jL m rl (bL P) tp pa)=>W9 (C:=C) (A:=A) (m:=m) (Q:=Q) (n:=n - 1) T (aK (bK hn)) p (its:=its) (T0:=T0) xx;generalize aa P=G at *
 have hN:=Gr.N8 o;have yk:=o.t5;clear p;ext C A n m Q g u w cl mb ad mk P rl tp pa i G;obtain ⟨bl,u1,u2,u3⟩:=id x.au;obtain ⟨⟨it_,rd_,s1,s2,s3⟩,s4,s5⟩:=u3 i hi;have hk:=sm.len 200;change G.aU.length<=100 at hk;have hg:=Gr.kE o 200 _ (Gr.rU (show i < (G.bG 200).length from hi));change (∀ it∈aR G.aU i,it < G.M)/\(aR G.aU i).Pairwise (·< ·) at hg;have dQ:=Gr.wo (ks:=G.aU) o (Gr.kE o 200) hi;have om:=Gr.jK o hg.1;have hcl:(G.bV (aR G.aU i)).length<=20:=aO (jM (Gr.wj (Gr.mR hg.2) o) om) (Gr.n8 o);have uT:∀ it∈G.bV (aR G.aU i),G.aB it≠0->G.aY it=none->(i,G.aB it)∈G.bI:=λit hit h1 h2=>by unfold Gr.bI;refine nQ.mpr ⟨i,jV.mpr hi,aQ.mpr ⟨G.aB it,Gr.CH.mpr ⟨it,hit,h2,h1,rfl⟩,rfl⟩⟩
 have agf:∀ j q,G.bI[j]? = some q->∀ t,(mk j).testBit t=true->t < G.N:=λj q hj t ht=>by have:=tO j q hj t ht;have:=o.nT;exact dN (jQ (by assumption)) this
 have Ad:=λ{m':MH} {Q:V->MH->Prop} (xx:pO A m' w g G u ad cl mb mk)=>Cu (C:=C) (n:=n - 1) (Q:=Q) T o sm (aK (bK hn)) xx hi;have hclo:=hclo (aR G.aU i) hg.1;have C7:((aj G.aU.length).map λi=>V.ref (ad i).k)[i]? = some (.ref (ad i).k):=aW _ hi;have Zi:((aj G.aU.length).map λi=>V.ref (ad i).k).length < 2 ^ 40:=by rw[ak,aN];exact zm hk (ao rfl)
 have hxc:=x.wW;generalize aR G.aU i=ah at *
 generalize PA:G.bV ah=cJ at *
 (revert hclo;clear hclo;intro hclo);clear s1 s5 s3 s2;ext it_ rd_ ah cJ
 refine eG T 50 "_law_state_fits" ["view","rules","state"] (eW hn) rfl (λenv ef=>?_) (by walk_at "bd3");k_is;lk;ext env;show aA T 37 x.self;refine aaj vn cJ (eX G) ef (by walk_at "cok") (ef.store ⋯) (zz hcl aI) (by walk_at "swc") (cC vn cJ ?_);show cG T 37 1 "View.items_of" x.self;lk;refine Ad x λm1 a l1 _ ha=>⟨a,rfl,ha,rfl,λj y hy=>getD_get (by rw[bH,hy];rfl),λmm hm=>hm _ _ ha,?_,?_⟩
 .intro cenv ec y hy mm hm;refine aM (ec.store ⋯) ⟨jI (by decide +kernel),?_⟩;have xg:=x.gr.le (l1.trans hm);show eE;refine dI (cG T 9 7 "Grammar.rule_of" xg.self ?_);lk;show rV T o xg (aK (bK hn)) (om y hy);refine dI (cG T 9 8 "Grammar.dot_of" xg.self ?_);lk;show CE T o xg (aK (bK hn)) (om y hy);lk;exact ⟨by exact of_decide_eq_true rfl,λb hb=>⟨b,rfl,MH.av hb,MH.af _ _ _⟩⟩
 .intro mm b Ts hm hb Ua Ub;have l2:=(l1.trans hm).trans (MH.av (o:=.list (bB Ts)) hb);have EL:iF (mm.set b (.list (bB Ts))) b Ts:=⟨MH.af _ _ _,λy hy=>(MH.av hb) _ _ (Ua y hy)⟩;clear Ad ha Ua hb hm l1;generalize mm.set b (.list (bB Ts))=m2 at l2 EL ⊢;lk;ext a b Ts m2;show bY T ef.toC (by rfl);refine dI (aai vn ah (eX G) ef (by walk_at "cok") (zz dQ aI) (Cz vn ah ?_));lk;show aA T 37 (l2 _ _ x.self);lk;show aJ (l2 _ _ hxc) C7 Zi;have Uc:=l2 _ _ s4;refine ⟨(ad i).k,rfl,Uc,rfl,λj y hy=>getD_get (by rw[bH,hy];rfl),λmm hm=>hm _ _ Uc,?_,?_⟩
  .intro cenv ec y hy mm hm;refine aM (ec.store ⋯) ⟨jI (by decide +kernel),?_⟩;have xg:=x.gr.le (l2.trans hm);show eE;refine dI (cG T 9 7 "Grammar.rule_of" xg.self ?_);lk;show rV T o xg (aK (bK hn)) (hg.1 y hy);refine dI (cG T 9 8 "Grammar.dot_of" xg.self ?_);lk;show CE T o xg (aK (bK hn)) (hg.1 y hy);lk;exact ⟨by exact of_decide_eq_true rfl,λb hb=>⟨b,rfl,MH.av hb,MH.af _ _ _⟩⟩
  .intro mm c Tk hm hc Ud BB;have l3:=hm.trans (MH.av (o:=.list (bB Tk)) hc);have EM:iF (mm.set c (.list (bB Tk))) c Tk:=⟨MH.af _ _ _,λy hy=>(MH.av hc) _ _ (Ud y hy)⟩;clear hm hc Ud;generalize mm.set c (.list (bB Tk))=m3 at l3 EM ⊢;lk;have Ue:∀ y∈Tk,∃ it∈ah,y.2=eX G it:=λy hy=>by
    have:y.2∈Tk.map (·.2):=aQ.mpr ⟨y,hy,rfl⟩;rw[BB] at this;obtain ⟨it,hit,e⟩:=aQ.mp this;exact ⟨it,hit,e.symm⟩
   have Ja:Tk.length<=20:=by have:=congrArg ji BB;simp at this;exact dm this dQ
   have Jb:∀ it,it < G.M->(eX G it).2 < 1000:=λit hit=>by have h1:=Gr.jY hit;have h2:=o.len (G.aB it);change G.dot it < 1000;exact zm h1 (zm h2 (ao rfl))
   refine Co EM (λy hy=>by obtain ⟨it,hit,e⟩:=Ue y hy;rw[e];exact Jb it (hg.1 it hit)) (zm Ja (ao rfl)) λd T0 hd hp hs=>?_;have t0:T0.map (·.2)=ah.map (eX G):=by refine FQ ((hp.map _).trans (.of_eq BB)) (λy hy=>?_) (by rw[dS];exact hs) (Na o hg.1 (hg.2.imp λh=>fy h));have:=((hp.map (·.2)).trans (.of_eq BB)).mem_iff.mp hy;obtain ⟨it,hit,e⟩:=aQ.mp this;rw[<-e];exact Jb it (hg.1 it hit)
   have l4:=l3.trans (MH.av (o:=.list (bB T0)) hd);have BC:iF (m3.set d (.list (bB T0))) d T0:=⟨MH.af _ _ _,λy hy=>(MH.av hd) _ _ (EM.2 y (hp.mem_iff.mp hy))⟩;have DJ:T0.length<=20:=by rw[hp.length_eq];exact Ja
   clear hp hs Ue Ja BB EM l3 hd;generalize m3.set d (.list (bB T0))=m4 at l4 BC ⊢;have Lh:=l2.trans l4;have tR:=xr.le Lh;have nd0:(T0.map (·.2)).Nodup:=by rw[t0];exact mL (Gr.mR hg.2) λa ha b hb e=>Ht (hg.1 a ha) (hg.1 b hb) e
   have hv0:∀ y∈T0,y.2.1 < (bL P).length:=λy hy=>by have:y.2∈T0.map (·.2):=aQ.mpr ⟨y,hy,rfl⟩;rw[t0] at this;obtain ⟨it,hit,e⟩:=aQ.mp this;rw[<-e,Ik];exact Gr.iU (hg.1 it hit)
   ext d T0 m4;refine ck (WT.mono (Q:=λc m'=>c=false/\m4.le m') (cH ?_) ?_)
   .lk;show bY T ef.toC (by rfl);refine dI (aal (λx:AP=>V.ref x.1) (λx:AP=>decide (x.2∉T0.map (·.2))) (λx:AP=>V.ref x.1) ef (by walk_at "cok") (uy ?_));show cF T ef.toC 47;lk;refine adE tR BC hv0 nd0 (zz DJ aI) λm5 a5 T1 l5 tS Ug hc1 hz1=>?_;have Rh:T1.length<=5:=by
     have e1:=Ug;rw[aV] at e1;have e2:(T1.map λy=>y.2.1).Nodup:=by
      have e:(T1.map λy=>y.2.1)=(T1.map (·.2)).map (·.1):=by rw[dS];rfl
      rw[e];refine mL (lG.mp e1).2.1 λu hu v hv huv=>?_;obtain ⟨a,ha,rfl⟩:=aQ.mp hu;obtain ⟨b,hb,rfl⟩:=aQ.mp hv;exact G6 huv ((hz1 a ha).1.trans (hz1 b hb).1.symm)
     have e3:=jM e2 (N:=(bL P).length) λk hk=>by obtain ⟨a,ha,rfl⟩:=aQ.mp hk;exact (hz1 a ha).2
     rw[ak] at e3;exact zz e3 k6
    ext m5 a5 T1;refine ⟨a5,bB (T0++T1),rfl,tS.1,T0++T1,by rw[cQ];exact aeT DJ Rh,by rw[ak],λj y hy=>getD_get (by rw[bH,hy];rfl),λmm hm=>hm _ _ tS.1,?_,?_⟩
    .intro cenv ec y hy mm hm;ext cenv y mm;refine aM (ec.store ⋯) ⟨jI (by decide +kernel),?_⟩;simp only[Hz];show cH;lk;have Uh:=BC.le (l5.trans hm);refine NP Uh.1 (qE Uh.2) (G4 (hm _ _ (tS.2 y hy))) (FP _) (MR _) ⟨_,rfl,?_,hm,λ_=>?_⟩
     .rw[Nr];have:decide (ip y.2∈(T0.map (·.2)).map ip)=decide (y.2∈T0.map (·.2)):=decide_eq_decide.mpr O8;rw[this];simp
     .lk;exact ⟨rfl,hm⟩
    .intro mm c hm hc;lk;obtain ⟨TF,EN⟩:∃ TF,TF=(T0++T1).filter λx:AP=>decide (x.2∉T0.map (·.2)):=⟨_,rfl⟩;rw[<-EN];have Ri:∀ y∈TF,y∈T0++T1:=λy hy=>by rw[EN] at hy;exact (fE.mp hy).1
     have Li:iF (mm.set c (.list (bB TF))) c TF:=⟨MH.af _ _ _,λy hy=>(MH.av hc) _ _ (hm _ _ (tS.2 y (Ri y hy)))⟩;have Rj:TF.length<=25:=by rw[EN];have:=kD (λx:AP=>decide (x.2∉T0.map (·.2))) (T0++T1);rw[cQ] at this;exact aeS DJ Rh this
     have l6:=(l5.trans hm).trans (MH.av (o:=.list (bB TF)) hc);change ∀ rs,aD rs _->TR C _ _ (mm.set c (.list (bB TF))) _;generalize mm.set c (.list (bB TF))=m6 at Li l6 ⊢;have vo:∀ y∈TF,y.2.2 < 1000:=λy hy=>by
      rcases bN.mp (Ri y hy) with q | q
      .have:y.2∈T0.map (·.2):=aQ.mpr ⟨y,q,rfl⟩;rw[t0] at this;obtain ⟨it,hit,e⟩:=aQ.mp this;rw[<-e];exact Jb it (hg.1 it hit)
      .rw[(hz1 y q).1];decide
     refine Co Li vo (zm Rj (ao rfl)) λd3 T3 fL hp3 Bb=>?_;have l7:=l6.trans (MH.av (o:=.list (bB T3)) fL);have ym:iF (m6.set d3 (.list (bB T3))) d3 T3:=⟨MH.af _ _ _,λy hy=>(MH.av fL) _ _ (Li.2 y (hp3.mem_iff.mp hy))⟩;generalize m6.set d3 (.list (bB T3))=m7 at l7 ym ⊢;have agg:T3.length<=25:=by rw[hp3.length_eq];exact Rj
     have Rk:=BC.le l7;refine mV Rk.1 ym.1 (by rw[ak,ak];exact aeR DJ agg) λe8 Ui=>?_;have er:bB T0++bB T3=bB (T0++T3):=by rw[bB,bB,bB,aV]
     rw[er];have l8:=l7.trans (MH.av (o:=.list (bB (T0++T3))) Ui);have Lj:iF (m7.set e8 (.list (bB (T0++T3)))) e8 (T0++T3):=⟨MH.af _ _ _,λy hy=>(MH.av Ui) _ _ ((bN.mp hy).elim (Rk.2 y) (ym.2 y))⟩;generalize m7.set e8 (.list (bB (T0++T3)))=m8 at l8 Lj ⊢;have Rl:=EL.le (l4.trans l8);refine Dd (.list Rl.1 (qE Rl.2)) (.list Lj.1 (qE Lj.2)) (we _) (we _) ⟨_,rfl,?_,l8⟩;have e9:(Ts.map (·.2))=(T0++T3).map (·.2):=by rw[Ub,<-PA];exact aak o hg.1 hg.2 (by rw[PA];exact hclo) t0 Ug hc1 (by rw[<-EN];exact hp3) Bb
     rw[e9];change (!nX _ _)=false;rw[Gx];simp
   .rintro c9 m5 ⟨rfl,l5⟩;ext m5;refine ⟨λe=>(by cases e),λ_=>aX ?_⟩;have Uj:=Lh.trans l5;have Jc:=EL.le (l4.trans l5);clear EL BC tR l4 l5 Lh l2;refine dw (λj=>[("grammar",.ref g.g),("shown",.ref b),("view",.ref w),("rules",.ref rl),("state",vn i)]) (λj mm=>m5.le mm) (cC (λx:AP=>V.ref x.1) Ts ?_);lk;refine ⟨b,rfl,Jc.1,by k_in,λ_ _ q=>q,λj mm hm=>hm _ _ Jc.1,?_,?_⟩
    .intro j mm hj hm;ext j mm;show bO;intro QQ kO;have kq:Ts[j]∈Ts:=cW hj;ext QQ;show cy (getD_map hj);generalize Ts[j]=y at *
     ext y;obtain ⟨it,Rm,hye⟩:∃ it∈cJ,y.2=eX G it:=by have:y.2∈Ts.map (·.2):=aQ.mpr ⟨y,kq,rfl⟩;rw[Ub] at this;obtain ⟨it,hit,e⟩:=aQ.mp this;exact ⟨it,hit,e.symm⟩
     have hit:=om it Rm;have hr:=Gr.iU hit;have hd:=Gr.jY hit;have hq:=vI _ hr;ext it;obtain ⟨w1,w2,w3⟩:=hW (bC hq);have vN:=Jc.2 y kq;rw[hye] at vN;have EO:=Uj.trans hm;have xv:=x.le EO;have Uk:=xr.le EO;have cB:((G.ai (G.aB it)).map G.nm).length=(G.ai (G.aB it)).length:=ak _;have xV:=Gr.jJ hit;have EP:=uT it Rm;have DK:G.aY it=(G.ai (G.aB it))[G.dot it]?:=rfl;obtain ⟨q,ER⟩:∃ q:Pr,q=(G.nm (G.aq (G.aB it)),(G.ai (G.aB it)).map G.nm):=⟨_,rfl⟩;have hq2:q.2=(G.ai (G.aB it)).map G.nm:=by rw[ER]
     have hq1:q.1=G.nm (G.aq (G.aB it)):=by rw[ER]
     rw[<-ER] at hq w1 w2 w3;rw[<-hq2] at cB;clear ER;ext q;show mP (hm _ _ vN) rfl;refine aM (ef.store ⋯) (aM (ef.store ⋯) ?_);change WS C (n - 1) env _ [("dot",vn (G.dot it)),("number",vn (G.aB it)),("grammar",.ref g.g),("shown",.ref b),("view",.ref w),("rules",.ref rl),("state",vn i)] mm _;have hsh:=λsL=>abv (G:=G) (mk:=mk) (i:=i) (it:=it) rfl rfl hq1 hq2 (zz yk aI) sL;obtain ⟨r,BD⟩:∃ r,r=G.aB it:=⟨_,rfl⟩;ext r;obtain ⟨d,rq⟩:∃ d,d=G.dot it:=⟨_,rfl⟩;rw[<-BD] at hr hd hq xV EP DK hsh cB hq1 hq2 ⊢;rw[<-rq] at hd xV DK hsh ⊢;lk;clear rq;ext d;show cG T 9 6 "Grammar.item" xv.gr.self;lk;show zA T o xv.gr (aK (bK hn)) hr;rw[xV];lk;show cF T ef.toC 46;lk;refine Ze T (aK (bK hn)) Uk hq k6 w1.len (λy hy=>(w2 y hy).len) w3 (by rw[cB];exact hd) λm6 l6=>?_;have Ll:=EO.trans l6;have x6:=x.le Ll;have yo:=xr.le Ll;have J7:=hm.trans l6;clear hm xv Uk EO l6 vN;clear Ll;ext m6;show um (λL' m'=>L'=([("due",.str (uW G mk i it q (jO r q d))),("item",vn it),("grammar",.ref g.g),("shown",.ref b),("view",.ref w),("rules",.ref rl),("state",vn i)]:Loc)/\m6.le m') (cH ?_)
     .lk;show bY T ef.toC (by rfl);lk;show aJ yo.1 (aW _ (by rw[Ik];exact hr)) (by rw[ak,aN];exact zm k6 (ao rfl));lk;show lM (k:=1) (yo.2 r q hq).1 rfl (of_decide_eq_true rfl);lk;show fz (yo.2 r q hq).2 (by rw[ak];exact zm w3 (ao rfl));rw[ak,cB];refine n_eq ⟨_,rfl,λe=>?_,λe=>?_⟩
      .have hdl:d=(G.ai r).length:=by simpa using e
       have han:G.aY it=none:=by rw[DK];exact jC (pW hdl)
       show ck;show cH;show cG T 37 2 "View.complete" x6.self;lk;show Wf T o (aK (bK hn)) x6 hr;lk;refine sE ⟨_,rfl,λe=>?_,λ_=>aX ?_⟩
       .rw[<-hdl,xV] at e;simp at e
       .show ck;show cH;lk;refine wU ⟨_,rfl,λe=>?_,λe=>?_⟩
        .have hr0:r≠0:=by
          have:0 < r:=by simpa using e
          exact nu this
         have qo:=EP hr0 han;obtain ⟨J,hJ⟩:∃ J,J=G.bI.idxOf (i,r):=⟨_,rfl⟩;have yc:G.bI[J]? = some (i,r):=by have hl:G.bI.idxOf (i,r) < G.bI.length:=qx.mpr qo;rw[hJ,aH hl];simp
         have sL:=tO J _ yc;have BE:uW G mk i it q (jO r q d)=jO r q d ++ "  [" ++ nY ", " (((aj G.T).filter λk=>(mk J).testBit k).map G.nm) ++ "]":=by unfold uW;rw[if_neg (λh=>h.elim (λh=>hr0 (BD.trans h)) λh=>h han),<-BD,hJ]
         obtain ⟨ka,ep,d1,d2⟩:=x6.masks;show fN (ef.store ⋯);show uC;show aA T 37 x6.self;show eE;lk;refine ⟨by exact of_decide_eq_true rfl,λb2 hb2=>?_⟩;have l7:=MH.av (o:=.tuple [vn i,vn r]) hb2;show qI (k:=cR (pk (i,r))) (l7 _ _ d1) (MH.af _ _ _) (by rw[kI,if_pos (mX.mpr qo),sd,fG,<-hJ]);generalize m6.set b2 (.tuple [vn i,vn r])=m7 at l7 ⊢;have x7:=x6.le l7;generalize mk J=mask at *
         clear hb2 sL;ext b2 m7 mask;refine G1 vn (aj G.T) (λk=>mask.testBit k) (λk=>V.str (G.nm k)) ef (by walk_at "cok") (ef.store ⋯) (by rw[aN];exact zz yk aI) (by walk_at "swc") (lJ T ef.toC ?_);show aA T 9 x7.gr.self;refine ⟨G.T,rfl,zm yk (ao rfl),by rw[aN],λj y hy=>?_,λ_ _=>trivial,?_,?_⟩
         .have hj:j < G.T:=by have:=(bU.mp hy).1;simpa using this
          rw[vW hj] at hy;cases hy;rfl
         .intro cenv ec y hy mm hm;have iL:y < G.T:=jV.mp hy;clear hy;ext cenv y mm;refine aM (ec.store ⋯) ⟨jI (by decide +kernel),?_⟩;simp only[Hz];show cH;lk;show wR (by exact aeQ yk iL);show acJ (zl iL yk);lk;show Ii (by decide);lk;refine HY ⟨_,rfl,abw _ _,hm,λ_=>?_⟩;show uC;have x8:=x7.le hm;show aA T 9 x8.gr.self;lk;show aJ x8.gr.names (Gr.C5 (by have:=o.nT;exact dN (jQ iL) this)) (by rw[ak];change G.N < _;exact zm hN (ao rfl));exact ⟨rfl,hm⟩
         .intro mm c' hm hc';have l8:=(l7.trans hm).trans (MH.av (o:=.list (((aj G.T).filter λk=>mask.testBit k).map λk=>V.str (G.nm k))) hc');have hcs:=MH.af mm c' (.list (((aj G.T).filter λk=>mask.testBit k).map λk=>V.str (G.nm k)));have e6:(((aj G.T).filter λk=>mask.testBit k).map λk=>V.str (G.nm k))=(((aj G.T).filter λk=>mask.testBit k).map G.nm).map V.str:=by rw[dS];rfl
          rw[e6] at hcs l8;rw[e6];generalize mm.set c' (.list ((((aj G.T).filter λk=>mask.testBit k).map G.nm).map V.str))=m8 at l8 hcs ⊢;have iw:((aj G.T).filter λk=>mask.testBit k).length<=5:=by have:=kD (λk=>mask.testBit k) (aj G.T);rw[aN] at this;exact zz this yk
          generalize ((aj G.T).filter λk=>mask.testBit k)=kl at *
          have hwl:∀ y∈kl.map G.nm,y.length<=20:=λy hy=>by obtain ⟨z,_,rfl⟩:=aQ.mp hy;exact uF hnm z
          have htx:(jO r q d).length<=1000:=abx (zl (dN hr Ik) k6) w1.len (λy hy=>(w2 y hy).len) w3;have hj:=zM (x:=(", " : Str)) hwl;have hs:=zT hwl;have e2:(", " : Str).length=2:=by decide +kernel
          have e3:("  [" : Str).length=3:=by decide +kernel
          have e4:("]" : Str).length=1:=by decide +kernel
          rw[ak] at hj hs;rw[e2] at hj;lk;show pM (by rw[e3];exact aeP htx);show eB Fi Fy Fz;lk;refine ⟨rfl,?_⟩;lk;show CN hcs (by rw[ak,e2];exact aeO iw hs);show pM (by rw[nJ,e3];exact aeN iw htx hj);lk;show pM (by rw[nJ,nJ,e3,e4];exact aeM iw htx hj);rw[<-BE];exact aX (cX ⟨_,by k_in,rfl,l8⟩)
        .have hr0:r=0:=by simpa using e
         have BE:uW G mk i it q (jO r q d)=jO r q d:=if_pos (.inl (BD.symm.trans hr0));rw[BE];exact aX (cX ⟨([("due",.str (jO r q d)),("item",vn it),("grammar",.ref g.g),("shown",.ref b),("view",.ref w),("rules",.ref rl),("state",vn i)]:Loc),by k_in,rfl,λ_ _ q=>q⟩)
      .have hdl:d≠(G.ai r).length:=by simpa using e
       have han:G.aY it≠none:=by rw[DK,aH (show d < (G.ai r).length by exact zd hd hdl)];simp
       have BE:uW G mk i it q (jO r q d)=jO r q d:=if_pos (.inr han);rw[BE];exact cX ⟨([("due",.str (jO r q d)),("item",vn it),("grammar",.ref g.g),("shown",.ref b),("view",.ref w),("rules",.ref rl),("state",vn i)]:Loc),by k_in,rfl,λ_ _ q=>q⟩
     .rintro L' m7 ⟨rfl,l7⟩;have x7:=x6.le l7;show ck;show cH;show cG T 37 3 "View.show_item" x7.self;lk;refine Wh T o sm hnm (aK hn) x7 agf hit (by rw[<-BD];exact EP) λm8 l8=>?_;rw[hsh λh1 h2 t ht=>by
       have qo:=EP h1 h2;have hl:G.bI.idxOf (i,r) < G.bI.length:=qx.mpr qo;exact tO (G.bI.idxOf (i,r)) (i,r) (by rw[aH hl];simp) t ht]
      lk;refine ada ⟨_,rfl,λe=>?_,λ_=>aX ?_⟩
      .simp at e
      .subst kO;exact br (by k_in) ((J7.trans l7).trans l8)
    .intro mm hm;lk;exact h _ (Uj.trans hm)
end
end
section
section
variable {C:Cx} {n:Nat} {env:Env} {loc:Loc} {m:MH}
theorem aam (ef:fZ env dD) (hy:mY env y) (hz:mY env z)
  (hw:∀ env':Env,env'.scope=dD->swappedStores [.Tuple elts k tpos] value env'=pure (some [y,z]))
  (h:WE C n env value loc m λv m1=>∃ a v1 v2,v=.ref a/\m1 a=some (.tuple [v1,v2])/\WS C n env ss ((y,v1)::(z,v2)::loc) m1 Q)
  (hs:swapsWithSole [.Tuple elts k tpos] value pos.line env=pure false:=by rfl):WS C n env (.Assign [.Tuple elts k tpos] value pos::ss) loc m Q:=by
 show jX;intro P A s R hr x kk;refine Assign_Tuple_swapped (names:=[y,z]) (h P A s _ hr x λr v m1 s1 hv x1 h1=>?_) hs (hw env ef.scope);obtain ⟨a,v1,v2,rfl,hm,hq⟩:=h1;obtain ⟨d,x1⟩:=x1;obtain ⟨rs,k',g,he,ht⟩:=x1.toaP.isTup hm;rw[bD hv];obtain ⟨r1,rs1,rfl,e1,h3⟩:=he.cons_inv;obtain ⟨r2,rs2,rfl,e2,h4⟩:=h3.cons_inv;rw[h4.nil_inv] at ht;obtain ⟨f1,f2,f3,f4⟩:=x1.fresh (I:=s1.heap.objs.size) (aL _);change wpAny _ _ (unpackItems (.ref a) ([r1,r2].toArray.size) none) _ _ _;refine unpackItems_tuple hr.1 ht λh' hex=>?_;have x2:SR C P env loc m1 { s1 with heap:=h' }:=⟨d,x1.but (t:=s1.toks) f1 f2 f3 f4 hex⟩;change wpAny _ _ (assignInOrder [bindName env z,bindName env y] [r2,r1]) _ _ _;refine L3 (bindName_ (yY e2 x2 hz λs2 x3=>?_));refine L3 (bindName_ (yY e1 x3 hy λs3 x4=>?_));exact VD (kk .next .next _ _ _ trivial x4 hq)
end
end
section
noncomputable def eY (v:Nat) (f:Nat->α):α:=Nat.rec (f 0) (λk _=>f (Nat.succ k)) v
noncomputable def gP (c:Bool) (a b:α):α:=Bool.rec b a c
noncomputable def AM (v:Nat) (l:List Nat):Bool:=List.rec false (λu _ ih=>gP (fH v u) true ih) l
noncomputable def kR (v:Nat) (todo seen:List Nat) (k:List Nat->List Nat->α):α:=
 gP (fH v 0) (k todo seen) (gP (AM v seen) (k todo seen) (k (v::todo) (v::seen)))
noncomputable def ic (a2 a3 cs ct u:Nat):Nat:=mT (mT u (gP (fH (pC u a2) 0) 0 cs)) (gP (fH (pC u a3) 0) 0 ct)
noncomputable def goN (c a:Nat):Nat:=rS (pC c a) 1
noncomputable def ni (a0 a1 a2 a3 a4 cs ct:Nat) (f:Nat):List Nat->List Nat->List Nat:=
 Nat.rec (λ_ _=>[]) (λ_ ih todo seen=>List.rec seen (λu todo _=>
  eY (ic a2 a3 cs ct u) λc=>
  eY (goN c a0) λv0=>kR v0 todo seen λtodo seen=>
  eY (goN c a1) λv1=>kR v1 todo seen λtodo seen=>
  eY (goN c a2) λv2=>kR v2 todo seen λtodo seen=>
  eY (goN c a3) λv3=>kR v3 todo seen λtodo seen=>
  eY (goN c a4) λv4=>kR v4 todo seen λtodo seen=>ih todo seen) todo) f
noncomputable def xe (c:Nat) (fin:List Nat):Nat->Nat:=List.rec (λn=>n) (λm _ ih n=>gP (fH (pC c m) 0) (ih n) (ih (Nat.succ n))) fin
noncomputable def DL (a2 a3 cs ct:Nat) (fin:List Nat) (S:List Nat):Nat->Nat:=
 List.rec (λn=>n) (λu _ ih n=>eY (ic a2 a3 cs ct u) λc=>eY (xe c fin n) ih) S
noncomputable def DM (X:Nat) (r:List Nat):Nat->Nat:=List.rec (λ_=>0) (λy _ ih b=>mT (gP (fH y X) (rS 1 b) 0) (ih (Nat.succ b))) r
noncomputable def bJ (X:Nat) (L:List (Nat×List Nat)):Nat->Nat:=List.rec (λ_=>0) (λq _ ih b=>mT (DM X q.2 b) (ih (wL b 4))) L
noncomputable def iG (X:Nat) (L:List (Nat×List Nat)):Nat->Nat:=List.rec (λ_=>0) (λq _ ih b=>mT (gP (fH q.1 X) (rS 1 b) 0) (ih (wL b 4))) L
noncomputable def DN (r:List Nat):Nat:=List.rec 9 (λy _ _=>y) r
noncomputable def nj (X Y:Nat) (L:List (Nat×List Nat)):Bool:=List.rec false (λq _ ih=>gP (fH q.1 X) (gP (fH (DN q.2) Y) true ih) ih) L
noncomputable def xh (r:List Nat):Nat:=List.rec 0 (λ_ _ ih=>Nat.succ ih) r
noncomputable def j7 (L:List (Nat×List Nat)):Nat->List Nat:=List.rec (λ_=>[]) (λq _ ih b=>eY (rS 1 (wL b (xh q.2))) λv=>v::ih (wL b 4)) L
noncomputable def oO (r1:List Nat) (r4:Nat×List Nat):List (Nat×List Nat):=[(9,[2,4]),(2,r1),(2,[0]),(3,[0]),r4,(2,[1]),(3,[])]
noncomputable def Jd (a2 a3 cs ct:Nat) (fin S:List Nat):Bool:=gP (AM 1 S) (gP (iQ (xh S) 100) (iQ (DL a2 a3 cs ct fin S 0) 63) false) false
noncomputable def pT (L:List (Nat×List Nat)):Bool:=
 eY (bJ 0 L 0) λa0=>eY (bJ 1 L 0) λa1=>eY (bJ 2 L 0) λa2=>eY (bJ 3 L 0) λa3=>eY (bJ 4 L 0) λa4=>
 eY (iG 2 L 0) λs2=>eY (iG 3 L 0) λs3=>
 eY (gP (nj 2 3 L) (mT s2 s3) s2) λcs=>eY (gP (nj 3 2 L) (mT s2 s3) s3) λct=>
 Jd a2 a3 cs ct ((j7 L 0).drop 1) (ni a0 a1 a2 a3 a4 cs ct 40 [1] [1])
theorem Ae (v:Nat) (f:Nat->α):eY v f=f v:=by cases v<;>rfl
theorem iff_eq (c:Bool) (a b:α):gP c a b=if c=true then a else b:=by cases c<;>rfl
theorem CK {l:List Nat}:AM v l=true↔v∈l:=by
 induction l with
 | nil=>simp[AM]
 | cons u r ih=>
  change gP (fH v u) true (AM v r)=true↔_;rw[iff_eq,b8];by_cases h:fH v u=true
  .rw[if_pos h];simp[BU h]
  .rw[if_neg h,ih];have:v≠u:=λe=>h (by rw[e];exact F3 u);simp[this]
theorem aby (v:Nat) (todo seen:List Nat) (k:List Nat->List Nat->α):kR v todo seen k=if v=0\/v∈seen then k todo seen else k (v::todo) (v::seen):=by
 unfold kR;rw[iff_eq,iff_eq];by_cases h:v=0
 .subst h;rfl
 .have:¬ (fH v 0=true):=λe=>h (BU e);rw[if_neg this];by_cases h2:v∈seen
  .rw[if_pos (CK.mpr h2),if_pos (.inr h2)]
  .rw[if_neg (λe=>h2 (CK.mp e)),if_neg (by rintro (e | e);exact h e;exact h2 e)]
section
variable {a0 a1 a2 a3 a4 cs ct:Nat}
noncomputable def yq (a2 a3 cs ct u a:Nat):Nat:=goN (ic a2 a3 cs ct u) a
theorem aan {α:Type} {v:Nat} {todo seen:List Nat} {k:List Nat->List Nat->α}:∃ todo' seen',kR v todo seen k=k todo' seen'/\(v=0\/v∈seen')/\(∀ u∈seen,u∈seen')/\(∀ u∈todo,u∈todo')/\(∀ u∈seen',u∈seen\/u∈todo')/\(∀ u∈todo',u∈todo\/u∈seen'):=by
 rw[aby];by_cases h:v=0\/v∈seen
 .rw[if_pos h];exact ⟨todo,seen,rfl,h,λ_ h=>h,λ_ h=>h,λ_ h=>.inl h,λ_ h=>.inl h⟩
 .rw[if_neg h];refine ⟨v::todo,v::seen,rfl,.inr (aZ ..),λ_ h=>b9 _ h,λ_ h=>b9 _ h,λu hu=>?_,λu hu=>?_⟩
  .rcases b8.mp hu with rfl | hu
   .exact .inr (aZ ..)
   .exact .inl hu
  .rcases b8.mp hu with rfl | hu
   .exact .inr (aZ ..)
   .exact .inl hu
noncomputable def Ul (a0 a1 a2 a3 a4 cs ct:Nat) (S:List Nat) (u:Nat):Prop:=∀ a∈[a0,a1,a2,a3,a4],yq a2 a3 cs ct u a=0\/yq a2 a3 cs ct u a∈S
noncomputable def Je (g:Nat->Nat) (k:List Nat->List Nat->List Nat) (l:List Nat):List Nat->List Nat->List Nat:=l.rec k λa _ r todo seen=>kR (g a) todo seen r
theorem Zj {g:Nat->Nat} {k:List Nat->List Nat->List Nat} {l todo seen:List Nat}:∃ todo' seen',Je g k l todo seen=k todo' seen'/\(∀ a∈l,g a=0\/g a∈seen')/\(∀ u∈seen,u∈seen')/\(∀ u∈todo,u∈todo')/\(∀ u∈seen',u∈seen\/u∈todo')/\(∀ u∈todo',u∈todo\/u∈seen'):=by
 induction l generalizing todo seen with
 | nil=>exact ⟨todo,seen,rfl,(λ_ h=>by cases h),λ_ h=>h,λ_ h=>h,λ_ h=>.inl h,λ_ h=>.inl h⟩
 | cons a l ih=>
  obtain ⟨t0,s0,e0,v0,p0,q0,r0,w0⟩:=aan (v:=g a) (todo:=todo) (seen:=seen) (k:=Je g k l);obtain ⟨t1,s1,e1,v1,p1,q1,r1,w1⟩:=ih (todo:=t0) (seen:=s0);exact ⟨t1,s1,e0.trans e1,λb hb=>(b8.mp hb).elim (λe=>e▸v0.imp id (p1 _)) (v1 b),λx h=>p1 x (p0 x h),λx h=>q1 x (q0 x h),λx h=>(r1 x h).elim (λh=>(r0 x h).imp id (q1 x)) .inr,λx h=>(w1 x h).elim (λh=>(w0 x h).imp id (p1 x)) .inr⟩
theorem acK (f:Nat) {todo seen:List Nat} (h:ni a0 a1 a2 a3 a4 cs ct f todo seen≠[]) (h1:∀ u∈todo,u∈seen) (h2:∀ u∈seen,u∈todo\/Ul a0 a1 a2 a3 a4 cs ct seen u) :
  (∀ u∈seen,u∈ni a0 a1 a2 a3 a4 cs ct f todo seen)/\∀ u∈ni a0 a1 a2 a3 a4 cs ct f todo seen,Ul a0 a1 a2 a3 a4 cs ct (ni a0 a1 a2 a3 a4 cs ct f todo seen) u:=by
 induction f generalizing todo seen with
 | zero=>exact (h rfl).elim
 | succ f ih=>
  cases todo with
  | nil=>exact ⟨λ_ h=>h,λu hu=>(h2 u hu).resolve_left (λh=>by cases h)⟩
  | cons u todo=>
   have e:ni a0 a1 a2 a3 a4 cs ct (f+1) (u::todo) seen=Je (yq a2 a3 cs ct u) (ni a0 a1 a2 a3 a4 cs ct f) [a0,a1,a2,a3,a4] todo seen:=by
    have e':ni a0 a1 a2 a3 a4 cs ct (f+1) (u::todo) seen=eY (ic a2 a3 cs ct u) λc=>eY (goN c a0) λv0=>kR v0 todo seen λtodo seen=>eY (goN c a1) λv1=>kR v1 todo seen λtodo seen=>eY (goN c a2) λv2=>kR v2 todo seen λtodo seen=>
     eY (goN c a3) λv3=>kR v3 todo seen λtodo seen=>eY (goN c a4) λv4=>kR v4 todo seen λtodo seen=>ni a0 a1 a2 a3 a4 cs ct f todo seen:=rfl
    rw[e'];simp only[Ae];rfl
   obtain ⟨t,s,e0,v,p,q,r,w⟩:=Zj (g:=yq a2 a3 cs ct u) (todo:=todo) (seen:=seen) (k:=ni a0 a1 a2 a3 a4 cs ct f) (l:=[a0,a1,a2,a3,a4]);rw[e,e0] at h ⊢;clear e e0;have i:=ih (h:=h) (h1:=λx hx=>(w x hx).elim (λhx=>p x (h1 x (b9 _ hx))) id) (h2:=λx hx=>?_)
   .exact ⟨λx hx=>i.1 x (p x hx),i.2⟩
   .ext x;refine (r x hx).elim (λhx=>(h2 x hx).elim (λhx=>?_) λh=>.inr λa ha=>(h a ha).imp id (p _)) .inl;exact (b8.mp hx).elim (λe=>.inr λa ha=>e▸v a ha) λhx=>.inl (q x hx)
theorem abz (c:Nat):∀ (fin:List Nat) (n:Nat),xe c fin n=n+(fin.filter λm=>!(c &&& m==0)).length:=by
 intro l_;induction l_ with
 | nil=>
  intro n;exact rfl
 | cons m fin ih=>
  intro n;change gP (fH (pC c m) 0) (xe c fin n) (xe c fin (n+1))=_;rw[iff_eq,ih,ih];have e:fH (pC c m) 0=(c &&& m==0):=by rw[yM,Gq,beq_iff_eq];rfl
  rw[e,oX];cases h:(c &&& m==0)<;>simp<;>exact ir
theorem abA (fin:List Nat):∀ (S:List Nat) (n:Nat),DL a2 a3 cs ct fin S n=n+(S.map λu=>(fin.filter λm=>!(ic a2 a3 cs ct u &&& m==0)).length).sum:=by
 intro l_;induction l_ with
 | nil=>
  intro n;exact rfl
 | cons u S ih=>
  intro n;change eY (ic a2 a3 cs ct u) (λc=>eY (xe c fin n) (DL a2 a3 cs ct fin S))=_;rw[Ae,Ae];change DL a2 a3 cs ct fin S (xe (ic a2 a3 cs ct u) fin n)=_;rw[ih,abz,bq,o8];exact qV
end
theorem abB [BEq α] [LawfulBEq α] (f:α->Nat):∀ {l S:List α},l.Nodup->(∀ x∈l,x∈S)->(l.map f).sum<=(S.map f).sum:=by
 intro l_;induction l_ with
 | nil=>
  intro _ _ _;exact bk _
 | cons x l ih=>
  intro S h hs;obtain ⟨h1,h2⟩:=nU.mp h;have hx:=hs x (aZ ..);have h3:=ih (S:=S.erase x) h2 λy hy=>(U' (show y≠x from λe=>h1 (e▸hy))).mpr (hs y (b9 _ hy));have h4:(S.map f).sum=f x+((S.erase x).map f).sum:=by have:=(List.perm_cons_erase hx).map f;rw[this.sum_nat];rfl
  rw[bq,o8,h4];exact iH h3
end
section
theorem zV (k t:Nat):(rS 1 k).testBit t=decide (k=t):=oY k t
theorem aao (X:Nat):∀ (r:List Nat) (b k:Nat),(DM X r b).testBit k=true↔∃ d,r[d]? = some X/\k=b+d:=by
 intro l_;induction l_ with
 | nil=>
  intro b k;change (0:Nat).testBit k=true↔_;simp
 | cons y r ih=>
  intro b k;change (mT (gP (fH y X) (rS 1 b) 0) (DM X r (b+1))).testBit k=true↔_;rw[show ∀ x y:Nat,mT x y=x ||| y from λ_ _=>rfl,eV,eU,ih,iff_eq];constructor
  .rintro (h | ⟨d,h1,h2⟩)
   .split at h
    .rename_i e;rw[zV] at h;exact ⟨0,by rw[BU e];rfl,by have:=of_decide_eq_true h;exact qb (zdt xD this)⟩
    .simp at h
   .exact ⟨d+1,h1,zdt h2 ir⟩
  .rintro ⟨d,h1,h2⟩;cases d with
   | zero=>
    have:y=X:=by simpa using h1
    subst this;rw[if_pos (F3 y)];exact .inl (by rw[zV];exact decide_eq_true (qb (zdt h2 xD)))
   | succ d=>exact .inr ⟨d,h1,DV h2 ir⟩
theorem G5 (X:Nat):∀ (L:List (Nat×List Nat)) (b k:Nat),(bJ X L b).testBit k=true↔∃ j,∃ q,∃ d,L[j]? = some q/\(q.2[d]? = some X/\k=b+4*j+d):=by
 intro l_;induction l_ with
 | nil=>
  intro b k;change (0:Nat).testBit k=true↔_;simp
 | cons q L ih=>
  intro b k;change (mT (DM X q.2 b) (bJ X L (b+4))).testBit k=true↔_;rw[show ∀ x y:Nat,mT x y=x ||| y from λ_ _=>rfl,eV,eU,ih,aao];constructor
  .rintro (⟨d,h1,h2⟩ | ⟨j,p,d,h1,h2,h3⟩)
   .exact ⟨0,q,d,rfl,h1,DV h2 (RH xD)⟩
   .exact ⟨j+1,p,d,h1,h2,h3.trans (congrArg (·+ d) AS)⟩
  .rintro ⟨j,p,d,h1,h2,h3⟩;cases j with
   | zero=>
    have:q=p:=by simpa using h1
    subst this;exact .inl ⟨d,h2,zdt h3 (RH xD)⟩
   | succ j=>exact .inr ⟨j,p,d,h1,h2,h3.trans (congrArg (·+ d) AS.symm)⟩
theorem aap (X:Nat):∀ (L:List (Nat×List Nat)) (b k:Nat),(iG X L b).testBit k=true↔∃ j,∃ q,L[j]? = some q/\(q.1=X/\k=b+4*j):=by
 intro l_;induction l_ with
 | nil=>
  intro b k;change (0:Nat).testBit k=true↔_;simp
 | cons q L ih=>
  intro b k;change (mT (gP (fH q.1 X) (rS 1 b) 0) (iG X L (b+4))).testBit k=true↔_;rw[show ∀ x y:Nat,mT x y=x ||| y from λ_ _=>rfl,eV,eU,ih,iff_eq];constructor
  .rintro (h | ⟨j,p,h1,h2,h3⟩)
   .split at h
    .rename_i e;rw[zV] at h;exact ⟨0,q,rfl,BU e,by have:=of_decide_eq_true h;exact qb (zdt xD this)⟩
    .simp at h
   .exact ⟨j+1,p,h1,h2,h3.trans AS⟩
  .rintro ⟨j,p,h1,h2,h3⟩;cases j with
   | zero=>
    have:q=p:=by simpa using h1
    subst this;rw[if_pos (by rw[h2];exact F3 X)];exact .inl (by rw[zV];exact decide_eq_true (qb (zdt h3 xD)))
   | succ j=>exact .inr ⟨j,p,h1,h2,h3.trans AS.symm⟩
theorem aaq {X Y:Nat} (hY:Y≠9):∀ {L:List (Nat×List Nat)},nj X Y L=true↔∃ q∈L,(q.1=X/\q.2[0]? = some Y):=by
 intro l_;induction l_ with
 | nil=>
  change false=true↔_;exact of_decide_eq_true rfl
 | cons q L iJ=>
  change gP (fH q.1 X) (gP (fH (DN q.2) Y) true (nj X Y L)) (nj X Y L)=true↔_;have hh:fH (DN q.2) Y=true↔q.2[0]? = some Y:=by
   rw[Gq];cases q.2 with
   | nil=>change 9=Y↔_;simp;exact λe=>hY e.symm
   | cons a r=>change a=Y↔_;simp
  rw[iff_eq,iff_eq];have ih:=@iJ;by_cases h1:fH q.1 X=true
  .rw[if_pos h1];by_cases h2:fH (DN q.2) Y=true
   .rw[if_pos h2];simp only[true_iff];exact ⟨q,aZ ..,BU h1,hh.mp h2⟩
   .rw[if_neg h2,ih];constructor
    .rintro ⟨p,hp,a⟩;exact ⟨p,b9 _ hp,a⟩
    .rintro ⟨p,hp,a,b⟩;rcases b8.mp hp with rfl | hp
     .exact (h2 (hh.mpr b)).elim
     .exact ⟨p,hp,a,b⟩
  .rw[if_neg h1,ih];constructor
   .rintro ⟨p,hp,a⟩;exact ⟨p,b9 _ hp,a⟩
   .rintro ⟨p,hp,a,b⟩;rcases b8.mp hp with rfl | hp
    .exact (h1 (by rw[a];exact F3 X)).elim
    .exact ⟨p,hp,a,b⟩
theorem Hu:∀ r:List Nat,xh r=r.length:=by
 intro l_;induction l_ with
 | nil=>
  exact rfl
 | cons _ r ih=>
  change Nat.succ (xh r)=r.length+1;rw[ih]
theorem aar:∀ (L:List (Nat×List Nat)) (b j:Nat) (q:Nat×List Nat),L[j]? = some q->(j7 L b)[j]? = some (1 <<< (b+4*j+q.2.length)):=by
 intro l_;induction l_ with
 | nil=>
  intro _ j q h;contradiction
 | cons p L ih=>
  intro b j q h;have e:j7 (p::L) b=rS 1 (wL b (xh p.2))::j7 L (b+4):=by change eY (rS 1 (wL b (xh p.2))) (λv=>v::j7 L (wL b 4))=_;rw[Ae]
  rw[e];cases j with
  | zero=>
   have:p=q:=by simpa using h
   subst this;rw[Hu];rfl
  | succ j=>
   change (j7 L (b+4))[j]? = _;rw[ih (b+4) j q h];rw[AS]
structure Lk (G:Gr) (L:List (Nat×List Nat)) (sl cd:Nat->Nat):Prop where
 inj:∀ r r',r < G.R->r' < G.R->sl r=sl r'->r=r'
 tT:sl 0=0
 ru:∀ r,r < G.R->∃ q,L[sl r]? = some q/\(q.2=(G.ai r).map cd/\(0 < r->q.1=cd (G.aq r)))
 cdi:∀ r x r' y,x∈G.ai r->y∈G.ai r'->cd x=cd y->x=y
 cdl:∀ r x,x∈G.ai r->cd x<=4
 cS:cd (G.T+1)=2
 cT:cd (G.T+2)=3
 cs:∀ r x,x∈G.ai r->cd x=2->x=G.T+1
 ct:∀ r x,x∈G.ai r->cd x=3->x=G.T+2
 up:∀ (j:Nat) (q:Nat×List Nat) (d X:Nat),L[j]? = some q->q.2[d]? = some X->(X=2\/X=3)->∃ r,r < G.R/\sl r=j
 ln:∀ q∈L,q.2.length<=3
 l9:∀ q:Nat×List Nat,L[0]? = some q->q.1=9
noncomputable def Rel (G:Gr) (sl:Nat->Nat) (ah:List Nat) (u:Nat):Prop:=∀ it,it < G.M->(it∈ah↔u.testBit (4*sl (G.aB it)+G.dot it)=true)
section
variable {G:Gr} {L:List (Nat×List Nat)} {sl cd:Nat->Nat}
theorem Lk.at_ {r d:Nat} {q:Nat×List Nat} (k:Lk G L sl cd) (hr:r < G.R) (hq:L[sl r]? = some q):q.2[d]? = ((G.ai r)[d]?).map cd:=by obtain ⟨q',h1,h2,_⟩:=k.ru r hr;rw[hq] at h1;cases h1;rw[h2,bH]
theorem Jf (h:4*j+d=4*j'+d') (hd:d<=3) (hd':d'<=3):j=j'/\d=d':=by exact PR h hd hd'
theorem Lk.after {r d X:Nat} (k:Lk G L sl cd) (o:G.Ok) (hr:r < G.R) (hd:d<=3):(bJ X L 0).testBit (4*sl r+d)=true↔∃ y,(G.ai r)[d]? = some y/\cd y=X:=by
 rw[G5];constructor
 .rintro ⟨j,q,d',h1,h2,h3⟩;have hd':d' < 3:=eZ (bU.mp h2).1 (k.ln q (bC h1));obtain ⟨e1,e2⟩:=Jf (j:=sl r) (j':=j) (d:=d) (d':=d') (h3.trans (congrArg (·+ d') (fG _))) hd (zf hd');subst e1 e2;rw[k.at_ hr h1] at h2;cases h:(G.ai r)[d]? with
  | none=>rw[h] at h2;cases h2
  | some y=>rw[h] at h2;exact ⟨y,rfl,c8 h2⟩
 .rintro ⟨y,h1,h2⟩;obtain ⟨q,h3,h4,_⟩:=k.ru r hr;exact ⟨sl r,q,d,h3,by rw[k.at_ hr h3,h1];exact congrArg some h2,by exact aeX⟩
theorem Lk.start (k:Lk G L sl cd) (hr:r < G.R) (hd:d<=3) (hX:X≠9):(iG X L 0).testBit (4*sl r+d)=true↔d=0/\(0 < r/\cd (G.aq r)=X):=by
 rw[aap];constructor
 .rintro ⟨j,q,h1,h2,h3⟩;obtain ⟨e1,e2⟩:=Jf (j:=sl r) (j':=j) (d:=d) (d':=0) (zdt h3 pZ) hd aI;subst e1;obtain ⟨q',h4,_,h5⟩:=k.ru r hr;rw[h1] at h4;cases h4;have hr0:0 < r:=by
   rcases nO r with h | h
   .subst h;rw[k.tT] at h1;exact (hX (h2.symm.trans (k.l9 q h1))).elim
   .exact h
  exact ⟨e2,hr0,(h5 hr0).symm.trans h2⟩
 .rintro ⟨rfl,h1,h2⟩;obtain ⟨q,h3,_,h4⟩:=k.ru r hr;exact ⟨sl r,q,h3,(h4 h1).trans h2,pZ⟩
theorem abC (o:G.Ok) (h:mq (G.gb G.R) x z):∀ {a b:Nat},(a=G.T+1/\b=G.T+2)\/(a=G.T+2/\b=G.T+1)->x=a->z=b->∃ r,r < G.R/\(G.aq r=a/\(G.ai r)[0]? = some b):=by
 induction h with
 | one x y h=>
  rintro a b _ rfl rfl;obtain ⟨r,hr,hl,hy⟩:=(Gr.pB _ _ _).mp h;exact ⟨r,hr,hl,hy⟩
 | more x y z h t ih=>
  rintro a b hab rfl rfl;obtain ⟨r,hr,hl,hy⟩:=(Gr.pB _ _ _).mp h;have cZ:=o.rN r y (bC hy);have iL:y≠G.T:=λe=>o.rT r (e▸bC hy);have nT:=o.nT;by_cases hlt:y < G.T
  .exfalso;have:∀ {u v},mq (G.gb G.R) u v->u < G.T->False:=λ{u v} hh hu=>by
    have:∃ t,(G.gb G.R u).testBit t=true:=by cases hh with
     | one _ _ h=>exact ⟨_,h⟩
     | more _ _ _ h _=>exact ⟨_,h⟩
    obtain ⟨t,ht⟩:=this;obtain ⟨r2,hr2,hl2,_⟩:=(Gr.pB _ _ _).mp ht;rcases nO r2 with e | e
    .subst e;have:=o.l0;exact mz hu (RG hl2 this)
    .exact vc (uG (o.lN r2 e hr2)) (fK hl2 hu)
   exact this t hlt
  .have gh:y=x\/y=z:=(qP nT cZ hlt iL).elim (λe=>hab.elim (λw=>.inl (e.trans w.1.symm)) λw=>.inr (e.trans w.2.symm)) λe=>hab.elim (λw=>.inr (e.trans w.2.symm)) λw=>.inl (e.trans w.1.symm);rcases gh with e | e
   .exact ih hab e rfl
   .subst e;exact ⟨r,hr,hl,hy⟩
theorem Lk.Rn {X Y a b:Nat} (k:Lk G L sl cd) (o:G.Ok) (hab:(a=G.T+1/\(b=G.T+2/\(X=2/\Y=3)))\/(a=G.T+2/\(b=G.T+1/\(X=3/\Y=2)))):nj X Y L=true↔∃ r,r < G.R/\(G.aq r=a/\(G.ai r)[0]? = some b):=by
 have ha:cd a=X:=by rcases hab with ⟨rfl,_,rfl,_⟩ | ⟨rfl,_,rfl,_⟩<;>first | exact k.cS | exact k.cT
 have hb:cd b=Y:=by rcases hab with ⟨_,rfl,_,rfl⟩ | ⟨_,rfl,_,rfl⟩<;>first | exact k.cT | exact k.cS
 rw[aaq λe=>hab.elim (λw=>absurd (w.2.2.2.symm.trans e) (by decide)) λw=>absurd (w.2.2.2.symm.trans e) (by decide)];constructor
 .rintro ⟨q,hq,h1,h2⟩;clear ha;ext G L sl cd X Y a b q;obtain ⟨j,hj,hj2⟩:=BW hq;have BF:L[j]? = some q:=by rw[aH hj,hj2]
  obtain ⟨r,hr,rfl⟩:=k.up j q 0 Y BF h2 (hab.elim (λw=>.inr w.2.2.2) λw=>.inl w.2.2.2);rw[k.at_ hr BF] at h2;ext r;cases h:(G.ai r)[0]? with
  | none=>rw[h] at h2;cases h2
  | some y=>
   rw[h] at h2;have hy:=bC h;have hyb:y=b:=by
    have e:=c8 h2;rcases hab with ⟨_,rfl,_,rfl⟩ | ⟨_,rfl,_,rfl⟩
    .exact k.ct r y hy e
    .exact k.cs r y hy e
   clear h2;ext y;subst hyb;refine ⟨r,hr,?_,h⟩;obtain ⟨q',h4,_,h5⟩:=k.ru r hr;rw[BF] at h4;cases h4;rcases nO r with e | e
   .subst e;rw[k.tT] at BF;have:=k.l9 q BF;exact hab.elim (λw=>absurd ((this.symm.trans h1).trans w.2.2.1) (by decide)) λw=>absurd ((this.symm.trans h1).trans w.2.2.1) (by decide)
   .have h6:=(h5 e).symm.trans h1;have h7:=o.lN r e hr;have c1:=k.cS;have c2:=k.cT;rcases h7 with h7 | h7<;>rw[h7] at h6
    .exact hab.elim (λw=>h7.trans w.1.symm) λw=>absurd ((c1.symm.trans h6).trans w.2.2.1) (by decide)
    .exact hab.elim (λw=>absurd ((c2.symm.trans h6).trans w.2.2.1) (by decide)) λw=>h7.trans w.1.symm
 .rintro ⟨r,hr,h1,h2⟩;obtain ⟨q,h3,_,h5⟩:=k.ru r hr;refine ⟨q,bC h3,?_,by rw[k.at_ hr h3,h2];exact congrArg some hb⟩;rcases nO r with e | e
  .subst e;exact hab.elim (λw=>absurd ((o.l0.symm.trans h1).trans w.1) (gq zx)) λw=>absurd ((o.l0.symm.trans h1).trans w.1) (gq jP)
  .rw[h5 e,h1,ha]
end
end
section
section
variable {G:Gr} {L:List (Nat×List Nat)} {sl cd:Nat->Nat}
theorem abD (h:fH (pC u a) 0≠true):∃ k,u.testBit k=true/\a.testBit k=true:=by have h1:u &&& a≠0:=λe=>h (by rw[Gq];exact e);obtain ⟨k,hk⟩:=Nat.exists_testBit_of_ne_zero h1;rw[FA,lH] at hk;exact ⟨k,hk.1,hk.2⟩
theorem land_eq (h1:u.testBit k=true) (h2:a.testBit k=true):fH (pC u a) 0≠true:=λe=>by
 have e1:u &&& a=0:=by rw[Gq] at e;exact e
 have:(u &&& a).testBit k=true:=by rw[FA,h1,h2];rfl
 rw[e1] at this;simp at this
theorem Lk.has (k:Lk G L sl cd) (o:G.Ok) (hk:∀ it∈ah,it < G.M) (hr:Rel G sl ah u) (hX:(X=2/\s=G.T+1)\/(X=3/\s=G.T+2)) :
  (fH (pC u (bJ X L 0)) 0≠true)↔∃ it∈ah,G.aY it=some s:=by
 have hs:cd s=X:=by rcases hX with ⟨rfl,rfl⟩ | ⟨rfl,rfl⟩<;>first | exact k.cS | exact k.cT
 constructor
 .intro h;clear o hk;ext G L sl cd ah u X s;obtain ⟨b,h1,h2⟩:=abD h;ext b;obtain ⟨j,q,d,h3,h4,h5⟩:=(G5 _ _ _ _).mp h2;ext j q d;obtain ⟨r,hr1,rfl⟩:=k.up j q d X h3 h4 (hX.imp And.left And.left);have hd:d < 3:=eZ (bU.mp h4).1 (k.ln q (bC h3));rw[k.at_ hr1 h3] at h4;clear h3;ext r;cases h:(G.ai r)[d]? with
  | none=>rw[h] at h4;cases h4
  | some y=>
   rw[h] at h4;have hy:=bC h;have hys:y=s:=by
    have e:=c8 h4;rcases hX with ⟨rfl,rfl⟩ | ⟨rfl,rfl⟩
    .exact k.cs r y hy e
    .exact k.ct r y hy e
   subst hys;have hdl:d < (G.ai r).length:=(bU.mp h).1;have hi:=Gr.r6 hr1 (fy hdl);refine ⟨G.item r d,(hr _ hi).mpr ?_,by rw[Gr.uu hr1 (fy hdl)];exact h⟩;rw[Gr.fO hr1 (fy hdl),Gr.jW hr1 (fy hdl)];rw[h5] at h1;rw[show 0+4*sl r+d=4*sl r+d by exact aeZ] at h1;exact h1
 .rintro ⟨it,hi,ha⟩;have gV:=hk it hi;have hd:=Gr.jY gV;have h3:=o.len (G.aB it);exact land_eq ((hr it gV).mp hi) ((k.after o (Gr.iU gV) (zz hd h3)).mpr ⟨s,ha,hs⟩)
theorem OP (o:G.Ok) (hab:(a=G.T+1/\b=G.T+2)\/(a=G.T+2/\b=G.T+1)):(G.kX a).testBit b=true↔∃ r,r < G.R/\(G.aq r=a/\(G.ai r)[0]? = some b):=by
 constructor
 .intro h;exact abC o (zC _ _ _ _ h) hab rfl rfl
 .rintro ⟨r,hr,hl,hy⟩;rw[<-hl];exact Gr.N2 hr hy
theorem acL (o:G.Ok) (hr:r < G.R) (h:(G.kX x).testBit (G.aq r)=true):0 < r:=by
 rcases nO r with e | e
 .exfalso;subst e;rw[o.l0] at h;have h1:=zC _ _ _ _ h;have:∀ {u v},mq (G.gb G.R) u v->v≠G.T:=λ{u v} hh=>by
   induction hh with
   | one x y h=>
    obtain ⟨r2,hr2,_,hy⟩:=(Gr.pB _ _ _).mp h;exact λe=>o.rT r2 (e▸bC hy)
   | more x y z _ _ ih=>exact ih
  exact this h1 rfl
 .exact e
theorem aas (o:G.Ok) (hx:x < G.T) (h:(G.kX x).testBit y=true):False:=by
 have hh:=zC _ _ _ _ h;have:∃ t,(G.gb G.R x).testBit t=true:=by cases hh with
  | one _ _ h=>exact ⟨_,h⟩
  | more _ _ _ h _=>exact ⟨_,h⟩
 obtain ⟨t,ht⟩:=this;obtain ⟨r2,hr2,hl2,_⟩:=(Gr.pB _ _ _).mp ht;rcases nO r2 with e | e
 .subst e;have:=o.l0;exact mz hx (RG hl2 this)
 .exact vc (uG (o.lN r2 e hr2)) (fK hl2 hx)
theorem Lk.cJ {ah:List Nat} {u:Nat} {cs ct:Nat} (k:Lk G L sl cd) (o:G.Ok) (hk:∀ it∈ah,it < G.M) (hr:Rel G sl ah u) (hcs:cs=if nj 2 3 L=true then iG 2 L 0 ||| iG 3 L 0 else iG 2 L 0) (hct:ct=if nj 3 2 L=true then iG 2 L 0 ||| iG 3 L 0 else iG 3 L 0) :
  Rel G sl (G.bV ah) (ic (bJ 2 L 0) (bJ 3 L 0) cs ct u):=by
 intro it gV;have hd:=Gr.jY gV;have h3:=o.len (G.aB it);have hrl:=Gr.iU gV;have nT:=o.nT;have e:ic (bJ 2 L 0) (bJ 3 L 0) cs ct u=(u ||| if fH (pC u (bJ 2 L 0)) 0=true then 0 else cs) ||| if fH (pC u (bJ 3 L 0)) 0=true then 0 else ct:=by unfold ic;rw[iff_eq,iff_eq];rfl
 rw[e,eV,eV,eU,eU,Gr.wC o,hr it gV,or_assoc];clear e;ext G L sl cd ah u cs ct it;show or_congr_right;have hS:=k.has o hk hr (X:=2) (s:=G.T+1) (.inl ⟨rfl,rfl⟩);have hT:=k.has o hk hr (X:=3) (s:=G.T+2) (.inr ⟨rfl,rfl⟩);have eS:=k.Rn o (X:=2) (Y:=3) (a:=G.T+1) (b:=G.T+2) (.inl ⟨rfl,rfl,rfl,rfl⟩);have eT:=k.Rn o (X:=3) (Y:=2) (a:=G.T+2) (b:=G.T+1) (.inr ⟨rfl,rfl,rfl,rfl⟩);have s2:(iG 2 L 0).testBit (4*sl (G.aB it)+G.dot it)=true↔G.dot it=0/\(0 < G.aB it/\cd (G.aq (G.aB it))=2):=k.start hrl (zz hd h3) (by decide);have s3:(iG 3 L 0).testBit (4*sl (G.aB it)+G.dot it)=true↔G.dot it=0/\(0 < G.aB it/\cd (G.aq (G.aB it))=3):=k.start hrl (zz hd h3) (by decide);have l2:0 < G.aB it->(cd (G.aq (G.aB it))=2↔G.aq (G.aB it)=G.T+1):=λh=>by
  have c1:=k.cS;have c2:=k.cT;rcases o.lN _ h hrl with e | e<;>rw[e]
  .simp[c1]
  .rw[c2];constructor<;>intro<;>exact (sW zx (by assumption)).elim
 have l3:0 < G.aB it->(cd (G.aq (G.aB it))=3↔G.aq (G.aB it)=G.T+2):=λh=>by
  have c1:=k.cS;have c2:=k.cT;rcases o.lN _ h hrl with e | e<;>rw[e]
  .rw[c1];constructor<;>intro<;>exact (mz zx (by assumption)).elim
  .simp[c2]
 have f1:=OP o (a:=G.T+1) (b:=G.T+2) (.inl ⟨rfl,rfl⟩);have f2:=OP o (a:=G.T+2) (b:=G.T+1) (.inr ⟨rfl,rfl⟩);constructor
 .rintro ⟨r,hr1,hb,rfl⟩;rw[Gr.fO hr1 (bk _),Gr.jW hr1 (bk _)] at *
  ext r;obtain ⟨i0,hi0,y,ha,hy⟩:=(Gr.wB _ _).mp hb;have cZ:=Gr.uE o ha;have iL:y≠G.T:=λe=>o.rT (G.aB i0) (e▸bC ha);have hr0:0 < r:=by
   rcases hy with hy | hy
   .rcases nO r with e | e
    .subst e;rw[o.l0] at hy;exact (iL hy.symm).elim
    .exact e
   .exact acL o hr1 hy
  have hlr:=o.lN r hr0 hr1;by_cases hlt:y < G.T
  .exfalso;rcases hy with hy | hy
   .omega
   .exact aas o hlt hy
  .have gh:y=G.T+1\/y=G.T+2:=by exact aeY nT cZ iL hlt
   rcases gh with rfl | rfl
   .refine .inl ?_;rw[if_neg (hS.mpr ⟨i0,hi0,ha⟩),hcs];rcases hlr with hl | hl
    .split
     .rw[eV,eU];exact .inl (s2.mpr ⟨rfl,hr0,(l2 hr0).mpr hl⟩)
     .exact s2.mpr ⟨rfl,hr0,(l2 hr0).mpr hl⟩
    .have hed:nj 2 3 L=true:=by
      rcases hy with hy | hy
      .omega
      .rw[hl] at hy;exact eS.mpr (f1.mp hy)
     rw[if_pos hed,eV,eU];exact .inr (s3.mpr ⟨rfl,hr0,(l3 hr0).mpr hl⟩)
   .refine .inr ?_;rw[if_neg (hT.mpr ⟨i0,hi0,ha⟩),hct];rcases hlr with hl | hl
    .have hed:nj 3 2 L=true:=by
      rcases hy with hy | hy
      .omega
      .rw[hl] at hy;exact eT.mpr (f2.mp hy)
     rw[if_pos hed,eV,eU];exact .inl (s2.mpr ⟨rfl,hr0,(l2 hr0).mpr hl⟩)
    .split
     .rw[eV,eU];exact .inr (s3.mpr ⟨rfl,hr0,(l3 hr0).mpr hl⟩)
     .exact s3.mpr ⟨rfl,hr0,(l3 hr0).mpr hl⟩
 .have fin:G.dot it=0->(∃ i0∈ah,∃ y,G.aY i0=some y/\(G.aq (G.aB it)=y\/(G.kX y).testBit (G.aq (G.aB it))=true))->X13 (λr=>r < G.R) (λr=>(G.mh ah).testBit (G.aq r)=true) (λr=>it=G.item r 0):=λh0 hw=>
   ⟨G.aB it,hrl,(Gr.wB _ _).mpr hw,by rw[<-h0,Gr.jJ gV]⟩
  rintro (h | h)
  .split at h
   .simp at h
   .rename_i hne;obtain ⟨i0,hi0,ha⟩:=hS.mp hne;rw[hcs] at h;split at h
    .rename_i hed;rw[eV,eU] at h;rcases h with h | h
     .obtain ⟨g1,g2,g3⟩:=s2.mp h;exact fin g1 ⟨i0,hi0,_,ha,.inl ((l2 g2).mp g3)⟩
     .obtain ⟨g1,g2,g3⟩:=s3.mp h;exact fin g1 ⟨i0,hi0,_,ha,.inr (by rw[(l3 g2).mp g3];exact f1.mpr (eS.mp hed))⟩
    .obtain ⟨g1,g2,g3⟩:=s2.mp h;exact fin g1 ⟨i0,hi0,_,ha,.inl ((l2 g2).mp g3)⟩
  .split at h
   .simp at h
   .rename_i hne;obtain ⟨i0,hi0,ha⟩:=hT.mp hne;rw[hct] at h;split at h
    .rename_i hed;rw[eV,eU] at h;rcases h with h | h
     .obtain ⟨g1,g2,g3⟩:=s2.mp h;exact fin g1 ⟨i0,hi0,_,ha,.inr (by rw[(l2 g2).mp g3];exact f2.mpr (eT.mp hed))⟩
     .obtain ⟨g1,g2,g3⟩:=s3.mp h;exact fin g1 ⟨i0,hi0,_,ha,.inl ((l3 g2).mp g3)⟩
    .obtain ⟨g1,g2,g3⟩:=s3.mp h;exact fin g1 ⟨i0,hi0,_,ha,.inl ((l3 g2).mp g3)⟩
theorem Lk.step {cJ:List Nat} {c:Nat} {s:Nat} (k:Lk G L sl cd) (o:G.Ok) (hk:∀ it∈cJ,it < G.M) (hr:Rel G sl cJ c) (hs:∃ r,s∈G.ai r) (it:Nat) (gV:it < G.M) :
  X13 (λi=>i∈cJ) (λi=>G.aY i=some s) (λi=>it=i+1)↔(goN c (bJ (cd s) L 0)).testBit (4*sl (G.aB it)+G.dot it)=true:=by
 ext G L sl cd cJ c s it;obtain ⟨r0,hr0⟩:=hs;have hd:=Gr.jY gV;have h3:=o.len (G.aB it);have hrl:=Gr.iU gV;have e:goN c (bJ (cd s) L 0)=(c &&& bJ (cd s) L 0) <<< 1:=rfl;rw[e,Nat.testBit_shiftLeft,lH,FA,lH];constructor
 .rintro ⟨i,hi,ha,rfl⟩;have hilt:=hk i hi;have hdl:G.dot i < (G.ai (G.aB i)).length:=(bU.mp ha).1;have hi1:i+1=G.item (G.aB i) (G.dot i+1):=by rw[<-Gr.JI hilt (by rw[ha];exact gm _)]
  have hr1:=Gr.iU hilt;have e1:G.aB (i+1)=G.aB i:=by rw[hi1,Gr.fO hr1 hdl]
  have e2:G.dot (i+1)=G.dot i+1:=by rw[hi1,Gr.jW hr1 hdl]
  have hl3:=o.len (G.aB i);rw[e1,e2,show 4*sl (G.aB i)+(G.dot i+1) - 1=4*sl (G.aB i)+G.dot i by exact qb (Jt qV)];exact ⟨decide_eq_true (zca aI),(hr i hilt).mp hi,(k.after o hr1 (zf (zl hdl hl3))).mpr ⟨s,ha,rfl⟩⟩
 .rintro ⟨h1,h2,h4⟩;have h1:=of_decide_eq_true h1;cases xj:G.dot it with
  | zero=>
   exfalso;rw[xj] at h4 h1;obtain ⟨j,q,d,g1,g2,g3⟩:=(G5 _ _ _ _).mp h4;have hd':d < 3:=eZ (bU.mp g2).1 (k.ln q (bC g1));exact zni (Jf ((zc h1).symm.trans ((congrArg (·+ 1) g3).trans (congrArg (·+ d+1) (fG (4*j))))) (zb rfl) hd').2
  | succ d=>
   rw[xj,show 4*sl (G.aB it)+(d+1) - 1=4*sl (G.aB it)+d by exact qb (Jt qV)] at h2 h4;ext d;obtain ⟨y,hy1,gh⟩:=(k.after o hrl (zf (zz (dm xj.symm hd) h3))).mp h4;have hys:y=s:=k.cdi _ _ _ _ (bC hy1) hr0 gh;subst hys;have hdl:d<=(G.ai (G.aB it)).length:=zf (dm xj.symm hd);have hil:=Gr.r6 hrl hdl;refine ⟨G.item (G.aB it) d,(hr _ hil).mpr ?_,by rw[Gr.uu hrl hdl];exact hy1,?_⟩
   .rw[Gr.fO hrl hdl,Gr.jW hrl hdl];exact h2
   .rw[<-Gr.jJ gV,xj];rw[Gr.fO hrl (zz (pW xj) hd)];rfl
end
end
section
section
variable {G:Gr} {L:List (Nat×List Nat)} {sl cd:Nat->Nat}
theorem abE (h:(bw ks).Nodup):(bw (fR ks ah sym)).Nodup:=by
 unfold fR;split
 .exact h
 .rename_i hn;unfold bw;rw[aV];refine lG.mpr ⟨h,by exact of_decide_eq_true rfl,λa ha b hb e=>hn ?_⟩;simp only[bq,ue,bQ] at hb;subst hb;subst e;exact ha
theorem abF (h:k∈bw (fR ks ah sym)):k∈bw ks\/k=ah:=by
 unfold fR at h;split at h
 .exact .inl h
 .unfold bw at h;rw[aV,bN] at h;exact h.imp id λq=>by simpa using q
theorem abG (ah:List Nat):∀ (l:List Nat) (ks:Ks),(bw ks).Nodup->(bw (l.foldl (G.iY ah) ks)).Nodup:=by
 intro l_;induction l_ with
 | nil=>
  intro _ h;exact h
 | cons s l ih=>
  intro ks h;exact ih _ (abE h)
theorem abH (ah k:List Nat):∀ (l:List Nat) (ks:Ks),k∈bw (l.foldl (G.iY ah) ks)->k∈bw ks\/∃ s∈l,k=G.gK ah s:=by
 intro l_;induction l_ with
 | nil=>
  intro _ h;exact .inl h
 | cons s l ih=>
  intro ks h;rcases ih _ h with h | ⟨t,ht,e⟩
  .rcases abF h with h | h
   .exact .inl h
   .exact .inr ⟨s,aZ ..,h⟩
  .exact .inr ⟨t,b9 _ ht,e⟩
theorem aat:∀ i,(bw (G.bG i)).Nodup:=by
 intro l_;induction l_ with
 | zero=>
  change ([[0]]:List (List Nat)).Nodup;exact of_decide_eq_true rfl
 | succ i ih=>
  unfold Gr.bG;split
  .exact abG _ _ _ (ih)
  .exact ih
theorem abI (h1:Rel G sl ah u) (h2:Rel G sl Jg u) (a1:∀ it∈ah,it < G.M) (a2:∀ it∈Jg,it < G.M) (b1:ah.Pairwise (·< ·)) (b2:Jg.Pairwise (·< ·)):ah=Jg:=by
 refine ((UO (Gr.mR b1) (Gr.mR b2)).mpr λit=>?_).eq_of_pairwise (le:=(·< ·)) (λa b _ _ h1 h2=>kT (zf h1) (zf h2)) b1 b2;by_cases h:it < G.M
 .rw[h1 it h,h2 it h]
 .exact ⟨λq=>(h (a1 it q)).elim,λq=>(h (a2 it q)).elim⟩
theorem abJ (f:List Nat->List Nat) (ks:Ks):((aj ks.length).flatMap λi=>(f (aR ks i)).map λr=>(i,r)).length=((bw ks).map λah=>(f ah).length).sum:=by
 rw[List.length_flatMap];ext f ks;show congrArg List.sum;apply vZ;intro i;rw[bH,bH];have hl:(bw ks).length=ks.length:=rY _;by_cases hi:i < ks.length
 .rw[vW hi];have h2:(bw ks)[i]? = some (aR ks i):=by
   unfold aR;rw[bM,aH (dN hi hl)];rfl
  rw[h2];simp
 .rw[jC (by rw[aN];exact zg hi),jC (dm hl (zg hi))];rfl
theorem Lk.bound (k:Lk G L sl cd) (o:G.Ok) (hc:pT L=true):G.Small/\G.bI.length < 64:=by
 ext G L sl cd;obtain ⟨cs,hcs⟩:∃ cs,cs=if nj 2 3 L=true then iG 2 L 0 ||| iG 3 L 0 else iG 2 L 0:=⟨_,rfl⟩;ext cs;obtain ⟨ct,hct⟩:∃ ct,ct=if nj 3 2 L=true then iG 2 L 0 ||| iG 3 L 0 else iG 3 L 0:=⟨_,rfl⟩;ext ct;obtain ⟨S,hS⟩:∃ S,S=ni (bJ 0 L 0) (bJ 1 L 0) (bJ 2 L 0) (bJ 3 L 0) (bJ 4 L 0) cs ct 40 [1] [1]:=⟨_,rfl⟩;have hcc:Jd (bJ 2 L 0) (bJ 3 L 0) cs ct ((j7 L 0).drop 1) S=true:=by unfold pT at hc;simp only[Ae,iff_eq] at hc;rw[hS,hcs,hct];exact hc
 ext S;unfold Jd at hcc;rw[iff_eq] at hcc;have ES:1∈S:=by refine CK.mp (tV λhn=>?_);rw[if_neg hn] at hcc;cases hcc
 rw[if_pos (CK.mpr ES),iff_eq] at hcc;have hlS:S.length<=100:=by rw[<-Hu];refine yy (tV λhn=>?_);rw[if_neg hn] at hcc;cases hcc
 rw[if_pos (Nat.ble_eq_true_of_le (by rw[Hu];exact hlS))] at hcc;have gM:=yy hcc;rw[abA] at gM;have hne:ni (bJ 0 L 0) (bJ 1 L 0) (bJ 2 L 0) (bJ 3 L 0) (bJ 4 L 0) cs ct 40 [1] [1]≠[]:=λe=>by rw[hS,e] at ES;cases ES
 have cl:=(acK 40 hne (λ_ h=>h) λu hu=>.inl hu).2;rw[<-hS] at cl;have cJ:∀ {ah:List Nat} {u:Nat},(∀ it∈ah,it < G.M)->Rel G sl ah u->Rel G sl (G.bV ah) (ic (bJ 2 L 0) (bJ 3 L 0) cs ct u):=λhk hr=>k.cJ o hk hr hcs hct;have all:∀ i,∀ ah∈bw (G.bG i),∃ u∈S,Rel G sl ah u:=λi=>by
  induction i with
  | zero=>
   intro ah hk;have:ah=[0]:=by simpa[Gr.bG,bw] using hk
   subst this;refine ⟨1,ES,λit gV=>?_⟩;have e1:(1:Nat).testBit (4*sl (G.aB it)+G.dot it)=decide (0=4*sl (G.aB it)+G.dot it):=by have:=zV 0 (4*sl (G.aB it)+G.dot it);exact this
   rw[e1,bQ,decide_eq_true_iff];have h0:G.aB 0=0/\G.dot 0=0:=by
    have hR:0 < G.R:=by have:=o.r4;exact lV this
    have:=Gr.fO hR (bk _);have h2:=Gr.jW hR (bk _);rw[Gr.Gw o] at this h2;exact ⟨this,h2⟩
   constructor
   .rintro rfl;rw[h0.1,h0.2,k.tT]
   .intro e;have e2:sl (G.aB it)=sl 0:=by rw[k.tT];exact acT e
    have e3:=k.inj _ _ (Gr.iU gV) (by have:=o.r4;exact lV this) e2;rw[<-Gr.jJ gV,e3,show G.dot it=0 by exact acS e,Gr.Gw o]
  | succ i ih=>
   intro ah hk;ext i ah;unfold Gr.bG at hk;split at hk
   .rename_i hi;rcases abH _ _ _ _ hk with h | ⟨s,hs,rfl⟩
    .exact ih ah h
    .have hkm:=Gr.rU hi;have good:=Gr.kE o i _ hkm;clear hk;ext s;obtain ⟨u,hu,hr⟩:=ih _ hkm;have hs':∃ it∈G.bV (aR (G.bG i) i),G.aY it=some s:=Gr.wD.mp hs;obtain ⟨it,hit,ha⟩:=hs';have Ro:∃ r,s∈G.ai r:=⟨G.aB it,bC ha⟩;have om:=Gr.jK o good.1;have rel:Rel G sl (G.gK (aR (G.bG i) i) s) (yq (bJ 2 L 0) (bJ 3 L 0) cs ct u (bJ (cd s) L 0)):=λjt hjt=>by
      rw[Gr.wF];exact k.step o om (cJ good.1 hr) Ro jt hjt
     have agh:yq (bJ 2 L 0) (bJ 3 L 0) cs ct u (bJ (cd s) L 0)≠0:=λe=>by have hb:=(Gr.GB o good.1 good.2 s).1 (it+1) (Gr.wF.mpr ⟨it,hit,ha,rfl⟩);have:=(rel (it+1) hb).mp (Gr.wF.mpr ⟨it,hit,ha,rfl⟩);rw[e] at this;simp at this
     have hcd:cd s<=4:=by obtain ⟨r,hr⟩:=Ro;exact k.cdl r s hr
     refine ⟨_,(cl u hu (bJ (cd s) L 0) ?_).resolve_left agh,rel⟩;have:cd s=0\/cd s=1\/cd s=2\/cd s=3\/cd s=4:=uK (zs hcd);rcases this with e | e | e | e | e<;>rw[e]<;>simp
   .exact ih ah hk
 have cod:∃ f:List Nat->Nat,∀ i,∀ ah∈bw (G.bG i),f ah∈S/\Rel G sl ah (f ah):=by
  classical
  refine ⟨λah=>if h:∃ u∈S,Rel G sl ah u then h.choose else 0,λi ah hk=>?_⟩;have h:=all i ah hk;simp only[h,dite_true];exact h.choose_spec
 obtain ⟨f,hf⟩:=cod;have nd:∀ i,((bw (G.bG i)).map f).Nodup:=λi=>by refine mL (aat i) λa ha b hb e=>?_;have g1:=Gr.kE o i a ha;have g2:=Gr.kE o i b hb;have r1:=(hf i a ha).2;have r2:=(hf i b hb).2;rw[e] at r1;exact abI r1 r2 g1.1 g2.1 g1.2 g2.2
 have sub:∀ i,∀ u∈(bw (G.bG i)).map f,u∈S:=λi u hu=>by obtain ⟨ah,hk,rfl⟩:=aQ.mp hu;exact (hf i ah hk).1
 ext f;refine ⟨⟨λi=>?_⟩,?_⟩
 .have:=CJ (nd i) (sub i);rw[ak,rY] at this;exact zz this hlS
 .have PB:∀ ah∈bw G.aU,(∀ it∈ah,it < G.M)/\ah.Pairwise (·< ·):=Gr.kE o 200;have hf':∀ ah∈bw G.aU,f ah∈S/\Rel G sl ah (f ah):=hf 200;have Um:((bw G.aU).map f).Nodup:=nd 200;have sub':∀ u∈(bw G.aU).map f,u∈S:=sub 200;have e1:G.bI.length=((bw G.aU).map λah=>(G.dJ ah).length).sum:=abJ G.dJ G.aU;clear hf nd sub all;rw[e1];generalize G.aU=K at *
  have e2:((bw K).map λah=>(G.dJ ah).length).sum<=(((bw K).map f).map λu=>((((j7 L 0).drop 1).filter λm=>!(ic (bJ 2 L 0) (bJ 3 L 0) cs ct u &&& m==0)).length)).sum:=by
   rw[dS];have step:∀ ah∈bw K,(G.dJ ah).length<=(((j7 L 0).drop 1).filter λm=>!(ic (bJ 2 L 0) (bJ 3 L 0) cs ct (f ah) &&& m==0)).length:=λah hk=>by
    have good:=PB ah hk;have hr:=cJ good.1 (hf' ah hk).2;have om:=Gr.jK o good.1;have facts:∀ r∈G.dJ ah,r < G.R/\(r≠0/\G.item r (G.ai r).length∈G.bV ah):=λr hr=>by
     obtain ⟨it,hit,ha,h0,rfl⟩:=Gr.CH.mp hr;have gV:=om it hit;have hd:=Gr.jY gV;have hd2:(G.ai (G.aB it)).length<=G.dot it:=by have:(G.ai (G.aB it))[G.dot it]? = none:=ha;exact yw.mp this
     refine ⟨Gr.iU gV,h0,?_⟩;have:G.dot it=(G.ai (G.aB it)).length:=kT hd hd2;rw[<-this,Gr.jJ gV];exact hit
    have h1:((G.dJ ah).map λr=>1 <<< (4*sl r+(G.ai r).length)).Nodup:=by
     refine mL (Gr.Gi o good.1 (Gr.mR good.2)) λa ha b hb e=>?_;have e':4*sl a+(G.ai a).length=4*sl b+(G.ai b).length:=by
      have h2:(1 <<< (4*sl a+(G.ai a).length)).testBit (4*sl a+(G.ai a).length)=true:=by rw[oY];exact if_pos rfl
      rw[e,oY] at h2;exact (of_decide_eq_true h2).symm
     have l1:=o.len a;have l2:=o.len b;exact k.inj a b (facts a ha).1 (facts b hb).1 (by exact ae0 e' l1 l2)
    have h2:=CJ h1 (l':=((j7 L 0).drop 1).filter λm=>!(ic (bJ 2 L 0) (bJ 3 L 0) cs ct (f ah) &&& m==0)) λm hm=>by
     clear PB hf' Um sub' e1 hk good om h1;ext K ah m;obtain ⟨r,hrr,rfl⟩:=aQ.mp hm;clear hm;ext r;obtain ⟨hr1,hr0,hit⟩:=facts r hrr;obtain ⟨q,hq,hq2,_⟩:=k.ru r hr1;have hsl:sl r≠0:=λe=>hr0 (k.inj r 0 hr1 (by have:=o.r4;exact lV this) (by rw[e,k.tT]));have cB:q.2.length=(G.ai r).length:=by rw[hq2,ak]
     refine fE.mpr ⟨?_,?_⟩
     .have h3:=aar L 0 (sl r) q hq;rw[cB,fG] at h3;have h4:((j7 L 0).drop 1)[sl r - 1]? = some (1 <<< (4*sl r+(G.ai r).length)):=by
       rw[t8,show 1+(sl r - 1)=sl r by exact fT (z0 hsl)];exact h3
      exact bC h4
     .have hil:=Gr.r6 hr1 (aL _);have hb:=(hr _ hil).mp hit;rw[Gr.fO hr1 (aL _),Gr.jW hr1 (aL _)] at hb;have h5:(ic (bJ 2 L 0) (bJ 3 L 0) cs ct (f ah) &&& 1 <<< (4*sl r+(G.ai r).length)).testBit (4*sl r+(G.ai r).length)=true:=by
       rw[FA,hb,oY];exact if_pos rfl
      have h6:ic (bJ 2 L 0) (bJ 3 L 0) cs ct (f ah) &&& 1 <<< (4*sl r+(G.ai r).length)≠0:=λe=>by rw[e] at h5;simp at h5
      simpa using h6
    rw[ak] at h2;exact h2
   have:∀ l:List (List Nat),(∀ ah∈l,(G.dJ ah).length<=(((j7 L 0).drop 1).filter λm=>!(ic (bJ 2 L 0) (bJ 3 L 0) cs ct (f ah) &&& m==0)).length)->
     (l.map λah=>(G.dJ ah).length).sum<=(l.map ((λu=>(((j7 L 0).drop 1).filter λm=>!(ic (bJ 2 L 0) (bJ 3 L 0) cs ct u &&& m==0)).length) ∘ f)).sum:=λl=>by
    induction l with
    | nil=>intro _;exact aL _
    | cons a l ih=>
     intro h;rw[bq,bq,o8,o8];exact fc (h a (aZ ..)) (ih λx hx=>h x (b9 _ hx))
   exact this _ step
  have e3:=abB (λu=>(((j7 L 0).drop 1).filter λm=>!(ic (bJ 2 L 0) (bJ 3 L 0) cs ct u &&& m==0)).length) Um sub';have e4:((((bw K).map f).map λu=>(((j7 L 0).drop 1).filter λm=>!(ic (bJ 2 L 0) (bJ 3 L 0) cs ct u &&& m==0)).length)).sum<=63:=aO e3 (eW gM);exact zs (zz e2 e4)
end
end
section
noncomputable def lQ:Nat->List (List Nat)
 | 0=>[[]]
 | k+1=>(lQ k).flatMap λw=>[0::w,1::w,2::w,3::w]
noncomputable def sQ:List (Nat×List Nat):=(9,[])::(lQ 0++lQ 1++lQ 2++lQ 3).flatMap λw=>[(2,w),(3,w)]
theorem agi:(sQ.all λq=>pT (oO [] q))=true:=by decide +kernel
theorem agj:((lQ 1).all λw=>sQ.all λq=>pT (oO w q))=true:=by decide +kernel
theorem agk:((lQ 2).all λw=>sQ.all λq=>pT (oO w q))=true:=by decide +kernel
theorem adF:((lQ 2).all λw=>sQ.all λq=>pT (oO (0::w) q))=true:=by decide +kernel
theorem adG:((lQ 2).all λw=>sQ.all λq=>pT (oO (1::w) q))=true:=by decide +kernel
theorem adH:((lQ 2).all λw=>sQ.all λq=>pT (oO (2::w) q))=true:=by decide +kernel
theorem adI:((lQ 2).all λw=>sQ.all λq=>pT (oO (3::w) q))=true:=by decide +kernel
end
section
theorem Gk:∀ {l:List Nat},(∀ x∈l,x < 4)->l∈lQ l.length:=by
 intro l_;induction l_ with
 | nil=>
  intro _;exact aZ
 | cons x l iJ=>
  intro h;have ih:=iJ λy hy=>h y (b9 _ hy);have hx:=h x (aZ ..);change x::l∈(lQ l.length).flatMap _;refine nQ.mpr ⟨l,ih,?_⟩;have:x=0\/x=1\/x=2\/x=3:=Aq hx;rcases this with rfl | rfl | rfl | rfl<;>simp
theorem agl (hw:∀ x∈w,x < 4) (hl:w.length<=3) (hq:q∈sQ):pT (oO w q)=true:=by
 have h:=Gk hw;have hl':w.length=0\/w.length=1\/w.length=2\/w.length=3:=Aq (zs hl);ext w q;rcases hl' with e | e | e | e
 .have:w=[]:=BO.mp e;rw[this];exact gp.mp agi q hq
 .rw[e] at h;exact gp.mp (gp.mp agj w h) q hq
 .rw[e] at h;exact gp.mp (gp.mp agk w h) q hq
 .match w,e with
  | x::w,e=>
   have h2:=Gk (l:=w) λy hy=>hw y (b9 _ hy);have hwl:w.length=2:=by simpa using e
   rw[hwl] at h2;have hx:=hw x (aZ ..);have:x=0\/x=1\/x=2\/x=3:=Aq hx
   (revert e;clear e;intro e);clear hwl;ext x w
   rcases this with rfl | rfl | rfl | rfl
   .exact gp.mp (gp.mp adF w h2) q hq
   .exact gp.mp (gp.mp adG w h2) q hq
   .exact gp.mp (gp.mp adH w h2) q hq
   .exact gp.mp (gp.mp adI w h2) q hq
noncomputable def cw (y:Str):Nat:=if y=("a" : Str) then 0 else if y=("b" : Str) then 1 else if y=("s" : Str) then 2 else if y=("t" : Str) then 3 else 4
theorem Rp:cw "a" = 0:=by decide +kernel
theorem Rq:cw "b" = 1:=by decide +kernel
theorem uX:cw "s" = 2:=by decide +kernel
theorem xm:cw "t" = 3:=by decide +kernel
theorem agm:cw "$end" = 4:=by decide +kernel
theorem adJ (y:Str):cw y<=4:=by
 unfold cw
 repeat' split
 all_goals decide
theorem agn (h:cw y=2):y = "s":=by
 unfold cw at h
 repeat' split at h
 all_goals first | (exact absurd h (by decide)) | assumption
theorem ago (h:cw y=3):y = "t":=by
 unfold cw at h
 repeat' split at h
 all_goals first | (exact absurd h (by decide)) | assumption
theorem acM (hy:iN y) (hz:iN z) (h:cw y=cw z):y=z:=by
 rcases hy with (rfl | rfl | rfl | rfl) | rfl<;>rcases hz with (rfl | rfl | rfl | rfl) | rfl<;>first
  | rfl
  | (simp only[Rp,Rq,uX,xm,agm] at h;exact absurd h (by decide))
theorem PC (h:j6 y):cw y < 4:=by
 rcases h with rfl | rfl | rfl | rfl
 .rw[Rp];decide
 .rw[Rq];decide
 .rw[uX];decide
 .rw[xm];decide
noncomputable def Lm:List Pr->Nat×List Nat
 | []=>(9,[])
 | q::_=>(cw q.1,q.2.map cw)
noncomputable def qt (x:Str) (e:List Str):Nat->Nat:=λr=>if r=2 then (if x=("a" : Str) then 2 else 5) else if r=3 then (if e=[] then 6 else 3) else r
theorem aau (p:aT P):(aa P).Small/\(aa P).bI.length < 64:=by
 have o:=iW p;have nk:=p.rF;have vI:=λr=>@lU P p r;have hR:=@Ij P;have hrr:=@aT.rR P p;have hnm:=λx y=>@sf P p x y;have hnS:(aa P).nm ((aa P).T+1) = "s":=by change (bW P).getD ((iD P).length+1) "" = _;rw[bM,nk.eS];rfl
 have Un:(aa P).nm ((aa P).T+2) = "t":=by change (bW P).getD ((iD P).length+2) "" = _;rw[bM,nk.eT];rfl
 have hpl:=p.left;have yr:=p.len;have Uo:=p.right;clear nk;ext P;obtain ⟨r1,x,e,more,hP,hx,he,hm⟩:=p.shape;have xo:∀ r y,y∈(aa P).ai r->iN ((aa P).nm y)/\y < (aa P).N:=λr y hy=>by
  refine ⟨?_,o.rN r y hy⟩;have hr:r < (aa P).R:=by
   by_cases h:r < (aa P).R
   .exact h
   .exfalso;have h2:=ON (P:=P) (r:=r - 1) (aK (dm hR.symm (zg h)));rw[show r - 1+1=r from zc (zz (j8:0 < P.length+1) (dm hR.symm (zg h)))] at h2;have:(aa P).ai r=[]:=congrArg Prod.snd h2;rw[this] at hy;cases hy
  exact (hrr (bC (vI r hr))).2 _ (aQ.mpr ⟨y,hy,rfl⟩)
 ext r1 x e more;have tT:(qt x e) 0=0:=rfl;have sl1:(qt x e) 1=1:=rfl;have sl4:(qt x e) 4=4:=rfl;have sl2:(qt x e) 2=if x=("a" : Str) then 2 else 5:=rfl;have Ln:(qt x e) 3=if e=[] then 6 else 3:=rfl;have BG:(aa P).R=4+more.length:=by rw[hR,hP];simp only[fM];exact qb pZ
 have hml:more.length<=1:=by
  rcases hm with rfl | ⟨q,rfl⟩
  .exact bk _
  .exact aL _
 have R5:(aa P).R<=5:=dm BG (iH hml);have agp:∀ r,r < (aa P).R->∃ q,(oO (r1.map cw) (Lm more))[(qt x e) r]? = some q/\(q.2=((aa P).ai r).map (λy=>cw ((aa P).nm y))/\(0 < r->q.1=cw ((aa P).nm ((aa P).aq r)))):=λr hr=>by
  have h1:=vI r hr;have key:∀ q0:Pr,(bL P)[r]? = some q0->∀ q:Nat×List Nat,q.2=q0.2.map cw->(0 < r->q.1=cw q0.1)->q.2=((aa P).ai r).map (λy=>cw ((aa P).nm y))/\(0 < r->q.1=cw ((aa P).nm ((aa P).aq r))):=λq0 J9 q g1 g2=>by rw[h1] at J9;cases J9;refine ⟨?_,g2⟩;rw[g1,dS];rfl
  have hr5:r=0\/r=1\/r=2\/r=3\/r=4:=uK (zl hr R5);rcases hr5 with rfl | rfl | rfl | rfl | rfl
  .exact ⟨_,by rw[tT];rfl,key (("$accept" : Str),[("s" : Str),"$end"]) rfl (9,[2,4]) (by rfl) (λh=>(RL h).elim)⟩
  .exact ⟨_,by rw[sl1];rfl,key (("s" : Str),r1) (by rw[hP];rfl) (2,r1.map cw) rfl λ_=>uX.symm⟩
  .rcases hx with hxa | hxb
   .exact ⟨_,by rw[sl2,if_pos hxa];rfl,key (("s" : Str),[x]) (by rw[hP];rfl) (2,[0]) (by rw[hxa];rfl) λ_=>uX.symm⟩
   .have hne:x≠("a" : Str):=by rw[hxb];decide +kernel
    exact ⟨_,by rw[sl2,if_neg hne];rfl,key (("s" : Str),[x]) (by rw[hP];rfl) (2,[1]) (by rw[hxb];rfl) λ_=>uX.symm⟩
  .rcases he with rfl | rfl
   .exact ⟨_,by rw[Ln,if_pos rfl];rfl,key (("t" : Str),[]) (by rw[hP];rfl) (3,[]) rfl λ_=>xm.symm⟩
   .exact ⟨_,by rw[Ln,if_neg (of_decide_eq_true rfl)];rfl,key (("t" : Str),[("a" : Str)]) (by rw[hP];rfl) (3,[0]) (by rfl) λ_=>xm.symm⟩
  .rcases hm with rfl | ⟨q,rfl⟩
   .simp at BG;exact (sW hr BG).elim
   .exact ⟨_,by rw[sl4];rfl,key q (by rw[hP];rfl) (cw q.1,q.2.map cw) rfl λ_=>rfl⟩
 have lk:Lk (aa P) (oO (r1.map cw) (Lm more)) (qt x e) (λy=>cw ((aa P).nm y)):=by
  refine ⟨λr r' hr hr' h=>?_,tT,agp,λr y r' z hy hz h=>?_,λr y _=>adJ _,?_,?_,λr y hy h=>?_,λr y hy h=>?_,λj q d X hj hd hX=>?_,λq hq=>?_,λq hq=>?_⟩
  .have I:∀ r,r < (aa P).R->(if (qt x e) r=5 then 2 else if (qt x e) r=6 then 3 else (qt x e) r)=r:=λr hr=>by
    rcases uK (zl hr R5) with rfl | rfl | rfl | rfl | rfl
    .rfl
    .rfl
    .rw[sl2];split<;>rfl
    .rw[Ln];split<;>rfl
    .rfl
   exact (I r hr).symm.trans ((congrArg (λk=>if k=5 then 2 else if k=6 then 3 else k) h).trans (I r' hr'))
  .exact hnm _ _ (xo r y hy).2 (xo r' z hz).2 (acM (xo r y hy).1 (xo r' z hz).1 h)
  .change cw ((aa P).nm ((aa P).T+1))=2;rw[hnS,uX]
  .change cw ((aa P).nm ((aa P).T+2))=3;rw[Un,xm]
  .have nT:=o.nT;exact hnm _ _ (xo r y hy).2 (dN (zs jP) nT) (by rw[agn h,hnS])
  .have nT:=o.nT;exact hnm _ _ (xo r y hy).2 (dN zx nT) (by rw[ago h,Un])
  .have hjl:j < 7:=(bU.mp hj).1;have hj7:j=0\/j=1\/j=2\/j=3\/j=4\/j=5\/j=6:=by exact Pf hjl
   have one:∀ k:Nat,([k]:List Nat)[d]? = some X->X=k:=λk hk=>by
    cases d with
    | zero=>simpa using hk.symm
    | succ d=>contradiction
   rcases hj7 with rfl | rfl | rfl | rfl | rfl | rfl | rfl
   .exact ⟨0,dN j8 hR,rfl⟩
   .exact ⟨1,dN (zl (ao rfl) eF) BG,rfl⟩
   .cases hj;have:=one 0 hd;subst this;exact absurd hX (by decide)
   .cases hj;have:=one 0 hd;subst this;exact absurd hX (by decide)
   .rcases hm with rfl | ⟨q',rfl⟩
    .cases hj;contradiction
    .exact ⟨4,by rw[BG];exact aL _,rfl⟩
   .cases hj;have:=one 1 hd;subst this;exact absurd hX (by decide)
   .cases hj;contradiction
  .have h1:r1.length<=3:=yr (("s" : Str),r1) (by rw[hP];exact aZ);have h2:(Lm more).2.length<=3:=by
    rcases hm with rfl | ⟨q',rfl⟩
    .exact bk _
    .change (q'.2.map cw).length<=3;rw[ak];exact yr q' (by rw[hP];exact .tail _ (.tail _ (.tail _ (.head _))))
   simp only[oO,b8,nS,or_false] at hq;rcases hq with rfl | rfl | rfl | rfl | rfl | rfl | rfl
   .exact (show 2<=3 by decide)
   .change (r1.map cw).length<=3;rw[ak];exact h1
   .exact (show 1<=3 by decide)
   .exact (show 1<=3 by decide)
   .exact h2
   .exact (show 1<=3 by decide)
   .exact bk _
  .cases hq;rfl
 refine lk.bound o (agl (λy hy=>?_) ?_ ?_)
 .obtain ⟨z,hz,rfl⟩:=aQ.mp hy;exact PC (Uo (("s" : Str),r1) (by rw[hP];exact aZ) z hz)
 .rw[ak];exact yr (("s" : Str),r1) (by rw[hP];exact aZ)
 .rcases hm with rfl | ⟨q,rfl⟩
  .exact aZ ..
  .refine b9 _ (nQ.mpr ⟨q.2.map cw,?_,?_⟩)
   .have h1:=Gk (l:=q.2.map cw) λy hy=>by
     obtain ⟨z,hz,rfl⟩:=aQ.mp hy;exact PC (Uo q (by rw[hP];exact .tail _ (.tail _ (.tail _ (.head _)))) z hz)
    have h2:q.2.length<=3:=yr q (by rw[hP];exact .tail _ (.tail _ (.tail _ (.head _))));rw[ak] at h1;have:q.2.length=0\/q.2.length=1\/q.2.length=2\/q.2.length=3:=Aq (zs h2);simp only[bN];rcases this with g | g | g | g<;>rw[g] at h1<;>simp[h1]
   .change (cw q.1,q.2.map cw)∈_;rcases hpl q (by rw[hP];exact .tail _ (.tail _ (.tail _ (.head _)))) with g | g<;>rw[g]
    .rw[uX];exact aZ
    .rw[xm];exact .tail _ (.head _)
end
section
section
variable {P:List Pr}
theorem HH (p:aT P) (h:q∈bL P):∃ r,r < (aa P).R/\q=((aa P).nm ((aa P).aq r),((aa P).ai r).map (aa P).nm):=by
 ext P q;obtain ⟨r,hr,hq⟩:=BW h;have hr2:r < (aa P).R:=by rw[<-C6];exact hr
 have:=lU p hr2;rw[aH hr,hq] at this;exact ⟨r,hr2,c8 this⟩
theorem Il (p:aT P) (hr:r < (aa P).R):((aa P).nm ((aa P).aq r),((aa P).ai r).map (aa P).nm)∈bL P:=bC (lU p hr)
noncomputable def Jh (P:List Pr) (y:Str):Prop:=∃ x,x < (aa P).N/\((aa P).nm x=y/\cu (aa P) x)
theorem Og (p:aT P) (hx:x < (aa P).N):Jh P ((aa P).nm x)↔cu (aa P) x:=⟨λz_=>by obtain ⟨z,hz,e,h⟩:=z_;rw[<-sf p hz hx e];exact h,λh=>⟨x,hx,rfl,h⟩⟩
theorem ahk (acc:List Str) (q:Pr):∀ y∈acc,y∈b5 acc q:=λy hy=>by
 unfold b5;split
 .exact tU _ hy
 .exact hy
theorem CU:∀ (l:List Pr) (acc:List Str),acc.length<=(l.foldl b5 acc).length:=by
 intro l_;induction l_ with
 | nil=>
  intro _;exact aL _
 | cons q l ih=>
  intro acc;have h1:=ih (b5 acc q);have h2:acc.length<=(b5 acc q).length:=by unfold b5;split<;>simp
  exact aO h2 h1
theorem Zk:∀ (l:List Pr) (acc:List Str),(l.foldl b5 acc).length=acc.length->∀ q∈l,b5 acc q=acc:=by
 intro l_;induction l_ with
 | nil=>
  intro _ _ _ hq;cases hq
 | cons q l ih=>
  intro acc h q' hq';have h1:=CU l (b5 acc q);have h3:b5 acc q=acc:=by
   by_cases c:q.1∉acc/\q.2.filter (λy=>decide (y∉acc))=[]
   .exfalso;have e:b5 acc q=acc++[q.1]:=if_pos c;have h':(l.foldl b5 (b5 acc q)).length=acc.length:=h;rw[e] at h1 h';rw[cQ] at h1;simp at h1;exact sW h1 h'
   .exact if_neg c
  rcases b8.mp hq' with rfl | hq'
  .exact h3
  .have h':(l.foldl b5 (b5 acc q)).length=acc.length:=h;rw[h3] at h';exact ih acc h' q' hq'
theorem abK (hl:∀ q∈P,sM q.1):∀ (l:List Pr) (acc:List Str),(∀ q∈l,q∈P)->(acc.Nodup/\∀ y∈acc,sM y)->((l.foldl b5 acc).Nodup/\∀ y∈l.foldl b5 acc,sM y):=by
 intro l_;induction l_ with
 | nil=>
  intro _ _ h;exact h
 | cons q l ih=>
  intro acc hm h;show ih (b5 acc q) (λz hz=>hm z (b9 _ hz));unfold b5;split
  .rename_i c;refine ⟨lG.mpr ⟨h.1,by exact of_decide_eq_true rfl,λa ha b hb e=>?_⟩,λy hy=>?_⟩
   .rw[bQ] at hb;subst hb;subst e;exact c.1 ha
   .rcases bN.mp hy with g | g
    .exact h.2 y g
    .rw[bQ] at g;subst g;exact hl q (hm q (aZ ..))
  .exact h
theorem OQ (p:aT P):∀ k,(bf P k).Nodup/\∀ y∈bf P k,sM y:=by
 intro l_;induction l_ with
 | zero=>
  exact ⟨.nil,λ_ h=>(by cases h)⟩
 | succ k ih=>
  exact abK p.left P _ (λ_ h=>h) (ih)
theorem Gl (p:aT P):∀ (l:List Pr) (acc:List Str),(∀ q∈l,q∈P)->(∀ y∈acc,Jh P y)->∀ y∈l.foldl b5 acc,Jh P y:=by
 intro l_;induction l_ with
 | nil=>
  intro _ _ h;exact h
 | cons q l ih=>
  intro acc hm h;refine ih (b5 acc q) (λz hz=>hm z (b9 _ hz)) λy hy=>?_;unfold b5 at hy;split at hy
  .rename_i c;rcases bN.mp hy with g | g
   .exact h y g
   .rw[bQ] at g;subst g;have gA:q∈bL P:=b9 _ (hm q (aZ ..));obtain ⟨r,hr,e⟩:=HH p gA;have o:=iW p;refine ⟨(aa P).aq r,Gr.qL o hr,by rw[e],.mk r hr λz hz=>?_⟩;have hz2:(aa P).nm z∈q.2:=by rw[e];exact aQ.mpr ⟨z,hz,rfl⟩
    have hza:(aa P).nm z∈acc:=tV λhn=>by have:(aa P).nm z∈q.2.filter λy=>decide (y∉acc):=fE.mpr ⟨hz2,decide_eq_true hn⟩;rw[c.2] at this;cases this
    exact (Og p (o.rN r z hz)).mp (h _ hza)
  .exact h y hy
theorem abL (p:aT P):P.foldl b5 (bf P 3)=bf P 3/\∀ q∈P,b5 (bf P 3) q=bf P 3:=by
 have Dm:∀ k,(bf P k).length<=2:=λk=>CJ (l':=[("s" : Str),"t"]) (OQ p k).1 λy hy=>by rcases (OQ p k).2 y hy with e | e<;>rw[e]<;>simp
 have same:∀ acc:List Str,(P.foldl b5 acc).length=acc.length->P.foldl b5 acc=acc/\∀ q∈P,b5 acc q=acc:=λacc h=>by
  have h2:=Zk P acc h;refine ⟨?_,h2⟩;have:∀ l:List Pr,(∀ q∈l,b5 acc q=acc)->l.foldl b5 acc=acc:=λl=>by
   induction l with
   | nil=>intro _;rfl
   | cons q l ih=>
    intro g;change l.foldl b5 (b5 acc q)=acc;rw[g q (aZ ..)];exact ih λz hz=>g z (b9 _ hz)
  exact this P h2
 have g0:=CU P (bf P 0);have g1:=CU P (bf P 1);have g2:=CU P (bf P 2);have e1:bf P 1=P.foldl b5 (bf P 0):=rfl;have e2:bf P 2=P.foldl b5 (bf P 1):=rfl;have e3:bf P 3=P.foldl b5 (bf P 2):=rfl;have l3:=Dm 3;have l0:(bf P 0).length=0:=rfl;rw[<-e1] at g0;rw[<-e2] at g1;rw[<-e3] at g2;have acN:(bf P 1).length=(bf P 0).length\/(bf P 2).length=(bf P 1).length\/(bf P 3).length=(bf P 2).length:=by exact acU g0 g1 g2 l3
 clear p Dm g0 g1 g2 l3 l0;ext P;rcases acN with h | h | h
 .obtain ⟨a,b⟩:=same (bf P 0) (by rw[<-e1];exact h);have f1:bf P 1=bf P 0:=by rw[e1,a]
  have f2:bf P 2=bf P 0:=by rw[e2,f1,a]
  have f3:bf P 3=bf P 0:=by rw[e3,f2,a]
  rw[f3];exact ⟨a,b⟩
 .obtain ⟨a,b⟩:=same (bf P 1) (by rw[<-e2];exact h);have f2:bf P 2=bf P 1:=by rw[e2,a]
  have f3:bf P 3=bf P 1:=by rw[e3,f2,a]
  rw[f3];exact ⟨a,b⟩
 .obtain ⟨a,b⟩:=same (bf P 2) (by rw[<-e3];exact h);have f3:bf P 3=bf P 2:=by rw[e3,a]
  rw[f3];exact ⟨a,b⟩
theorem abM (p:aT P) (h:cu (aa P) x):¬ x < (aa P).T/\x≠(aa P).T:=by
 have o:=iW p;refine ⟨Hp o h,λe=>?_⟩;cases h with
 | mk r hr hh=>
  rcases nO r with e0 | e0
  .subst e0;have h0:=hh 0 (by rw[o.g0];exact .tail _ (.head _));exact Hp o h0 (by have:=o.t4;exact lV this)
  .exact mz (uG (o.lN r e0 hr)) e.symm
theorem CV (p:aT P) (h:cu (aa P) x):(aa P).nm x∈bf P 3:=by
 have o:=iW p;have fx:=(abL p).2;induction h with
 | mk r hr hh ih=>
  rcases nO r with e | e
  .subst e;exact ((abM p (.mk 0 hr hh)).2 o.l0).elim
  .have hq:=lU p hr;obtain ⟨r,rfl⟩:∃ k,r=k+1:=⟨r - 1,pY e⟩;have hq2:P[r]? = some ((aa P).nm ((aa P).aq (r+1)),((aa P).ai (r+1)).map (aa P).nm):=hq;have:=fx _ (bC hq2);refine tV λhn=>?_;have hf:(((aa P).ai (r+1)).map (aa P).nm).filter (λy=>decide (y∉bf P 3))=[]:=vP.mpr λy hy=>by
    obtain ⟨z,hz,rfl⟩:=aQ.mp hy;simpa using ih z hz
   have e5:b5 (bf P 3) ((aa P).nm ((aa P).aq (r+1)),((aa P).ai (r+1)).map (aa P).nm)=bf P 3++[(aa P).nm ((aa P).aq (r+1))]:=if_pos ⟨hn,hf⟩;rw[e5] at this;have:=congrArg ji this;simp at this
theorem Hv (p:aT P) (hx:x < (aa P).N):(aa P).nm x∈bf P 3↔cu (aa P) x:=
 ⟨λh=>(Og p hx).mp (by
  have s1:=Gl p P [] (λ_ h=>h) (λ_ h=>by cases h);have s2:=Gl p P _ (λ_ h=>h) s1;exact Gl p P _ (λ_ h=>h) s2 _ h),CV p⟩
end
end
section
section
variable {P:List Pr}
theorem aav (p:aT P):(aa P).nm (aa P).T = "$accept"/\((aa P).nm ((aa P).T+1) = "s"/\((aa P).nm ((aa P).T+2) = "t"/\(aa P).nm 0 = "$end")):=by
 have nk:=p.rF;have g:∀ {i:Nat} {y:Str},(bW P)[i]? = some y->(aa P).nm i=y:=λh=>by change (bW P).getD _ "" = _;rw[bM,h];rfl
 exact ⟨g nk.eA,g nk.eS,g nk.eT,g nk.e0⟩
theorem Af (p:aT P) (hx:x < (aa P).N):(aa P).nm x∈K3↔(aa P).T<=x:=by
 ext P x;obtain ⟨n1,n2,n3,_⟩:=aav p;have o:=iW p;have nT:=o.nT;unfold K3;simp only[b8,nS,or_false];rw[<-n1,<-n2,<-n3];constructor
 .rintro (h | h | h)
  .have:=sf p hx (dN jP nT) h;exact pW this
  .have:=sf p hx (dN (zs jP) nT) h;exact zf (dN zx this)
  .have:=sf p hx (dN zx nT) h;exact zf (dN jP this)
 .intro h;have:x=(aa P).T\/x=(aa P).T+1\/x=(aa P).T+2:=RO (pV hx nT) h;rcases this with rfl | rfl | rfl
  .exact .inl rfl
  .exact .inr (.inl rfl)
  .exact .inr (.inr rfl)
noncomputable def FW (P:List Pr) (x:Nat) (w:Str):Prop:=∃ t,gZ (aa P) x t/\(aa P).nm t=w
theorem HJ (p:aT P) (hx:x < (aa P).N) (h:(aa P).T<=x):cE H ((aa P).nm x)=H ((aa P).nm x):=if_pos ((Af p hx).mpr h)
theorem Im (p:aT P) (hx:x < (aa P).N) (h:x < (aa P).T):cE H ((aa P).nm x)=[(aa P).nm x]:=if_neg λq=>by have:=(Af p hx).mp q;exact ig h this
noncomputable def qT (P:List Pr) (H:Str->List Str):Prop:=∀ x,(aa P).T<=x->x < (aa P).N->∀ w∈H ((aa P).nm x),FW P x w
theorem qT.g (p:aT P) (h:qT P H) (hx:x < (aa P).N):∀ w∈cE H ((aa P).nm x),FW P x w:=λw hw=>by
 by_cases hT:(aa P).T<=x
 .rw[HJ p hx hT] at hw;exact h x hT hx w hw
 .rw[Im p hx (zp hT)] at hw;rw[bQ] at hw;exact ⟨x,.term x (zp hT),hw.symm⟩
theorem nZ (p:aT P) (hr:r < (aa P).R):(aa P).T<=(aa P).aq r/\(aa P).aq r < (aa P).N:=by
 have o:=iW p;refine ⟨?_,Gr.qL o hr⟩;rcases nO r with e | e
 .subst e;rw[o.l0];exact aL _
 .exact zf (uG (o.lN r e hr))
theorem abN (p:aT P) (hE:∀ x,x < (aa P).N->(aa P).nm x∈E->cu (aa P) x) (hr:r < (aa P).R):∀ (l:List Nat) (d:Nat) (H:Str->List Str),l=((aa P).ai r).drop d->(∀ z∈((aa P).ai r).take d,cu (aa P) z)->qT P H->qT P (mH E ((aa P).nm ((aa P).aq r)) H (l.map (aa P).nm)):=by
 intro l_;induction l_ with
 | nil=>
  intro _ _ _ _ h;exact h
 | cons y l ih=>
  intro d H hl hn h;have o:=iW p;have hy:((aa P).ai r)[d]? = some y:=by have:=congrArg (λz=>z[0]?) hl;simpa using this.symm
  have cZ:=o.rN r y (bC hy);have h1:qT P (fj H ((aa P).nm ((aa P).aq r)) ((cE H ((aa P).nm y)).foldl dM (H ((aa P).nm ((aa P).aq r))))):=λx hT hx w hw=>by
   unfold fj at hw;split at hw
   .rename_i e;have ex:=sf p hx (nZ p hr).2 e;subst ex;rcases mQ.mp hw with g | g
    .exact h _ hT hx w g
    .obtain ⟨t,ht,e2⟩:=h.g p cZ w g;exact ⟨t,.rule r d y t hr hy hn ht,e2⟩
   .exact h x hT hx w hw
  change qT P (mH E _ H ((aa P).nm y::l.map (aa P).nm));dsimp only[uv];split
  .rename_i hyE;refine ih (d+1) _ ?_ (λz hz=>?_) h1
   .have:=congrArg List.tail hl;simpa using this
   .rw[take_snoc hy] at hz;rcases bN.mp hz with g | g
    .exact hn z g
    .rw[bQ] at g;subst g;exact hE z cZ hyE
  .exact h1
theorem abO (p:aT P) (hE:∀ x,x < (aa P).N->(aa P).nm x∈E->cu (aa P) x):∀ (L:List Pr) (H:Str->List Str),(∀ q∈L,q∈bL P)->qT P H->qT P (L.foldl (kC E) H):=by
 intro l_;induction l_ with
 | nil=>
  intro _ _ h;exact h
 | cons q L ih=>
  intro H hL h;obtain ⟨r,hr,e⟩:=HH p (hL q (aZ ..));show ih _ (λz hz=>hL z (b9 _ hz));subst e;exact abN p hE hr _ 0 H rfl (λz hz=>by cases hz) h
theorem abP (p:aT P) (hE:∀ x,x < (aa P).N->(aa P).nm x∈E->cu (aa P) x):∀ k,qT P (gB E (bL P) k):=by
 intro l_;induction l_ with
 | zero=>
  exact λ_ _ _ _ h=>by cases h
 | succ k ih=>
  exact abO p hE _ _ (λ_ h=>h) (ih)
noncomputable def jg (H H':Str->List Str):Prop:=∀ y,∀ w∈H y,w∈H' y
theorem jg.trans (h:jg a b) (h':jg b c):jg a c:=λy w hw=>h' y w (h y w hw)
theorem jg.upd (H:Str->List Str) (l:Str) (L:List Str):jg H (fj H l (L.foldl dM (H l))):=λy w hw=>by
 unfold fj;split
 .rename_i e;subst e;exact mQ.mpr (.inl hw)
 .exact hw
theorem jg.g (h:jg H H') (y:Str):∀ w∈cE H y,w∈cE H' y:=λw hw=>by
 unfold cE at hw ⊢;split
 .rename_i c;rw[if_pos c] at hw;exact h y w hw
 .rename_i c;rw[if_neg c] at hw;exact hw
theorem HK (E:List Str) (l:Str):∀ (r:List Str) (H:Str->List Str),jg H (mH E l H r):=by
 intro l_;induction l_ with
 | nil=>
  intro _;exact λ_ _ h=>h
 | cons y r ih=>
  intro H;dsimp only[uv];split
  .exact (jg.upd H l _).trans (ih _)
  .exact jg.upd H l _
theorem abQ (E:List Str) (l:Str):∀ (r:List Str) (H:Str->List Str) (d:Nat) (y:Str),r[d]? = some y->(∀ z∈r.take d,z∈E)->∀ w∈cE H y,w∈mH E l H r l:=by
 intro l_;induction l_ with
 | nil=>
  intro _ d y h _ _ _;contradiction
 | cons z r ih=>
  intro H d y h hE w hw;cases d with
  | zero=>
   have:z=y:=by simpa using h
   subst this;have h1:w∈fj H l ((cE H z).foldl dM (H l)) l:=by rw[CS];exact mQ.mpr (.inr hw)
   dsimp only[uv];split
   .exact HK E l r _ l w h1
   .exact h1
  | succ d=>
   have hz:z∈E:=hE z (aZ);dsimp only[uv];rw[if_pos hz];exact ih _ d y h (λu hu=>hE u (by rw[tW];exact b9 _ hu)) w ((jg.upd H l _).g y w hw)
theorem Pb (E:List Str):∀ (L:List Pr) (H:Str->List Str),jg H (L.foldl (kC E) H):=by
 intro l_;induction l_ with
 | nil=>
  intro _;exact λ_ _ h=>h
 | cons q L ih=>
  intro H;exact (HK E q.1 q.2 H).trans (ih _)
theorem abR (E:List Str):∀ (L:List Pr) (H:Str->List Str) (q:Pr),q∈L->∀ (d:Nat) (y:Str),q.2[d]? = some y->(∀ z∈q.2.take d,z∈E)->∀ w∈cE H y,w∈L.foldl (kC E) H q.1:=by
 intro l_;induction l_ with
 | nil=>
  intro _ _ hq _ _ _ _ _ _;cases hq
 | cons q' L ih=>
  intro H q hq d y hd hE w hw;rcases b8.mp hq with rfl | hq
  .exact Pb E L _ _ _ (abQ E _ _ H d y hd hE w hw)
  .exact ih _ q hq d y hd hE w ((HK E q'.1 q'.2 H).g y w hw)
noncomputable def fS (G:Gr):Nat->Nat->Nat->Prop
 | 0,x,t=>x < G.T/\t=x
 | k+1,x,t=>fS G k x t\/∃ r,∃ d,∃ y,r < G.R/\(G.aq r=x/\((G.ai r)[d]? = some y/\((∀ z∈(G.ai r).take d,cu G z)/\fS G k y t)))
theorem fS.up (h:k<=j) (f:fS G k x t):fS G j x t:=by
 induction h with
 | refl=>exact f
 | step _ ih=>exact .inl ih
theorem fS.term (p:aT P):∀ (k:Nat) {x t:Nat},x < (aa P).T->fS (aa P) k x t->t=x:=by
 intro l_;induction l_ with
 | zero=>
  intro _ _ _ h;exact h.2
 | succ k ih=>
  intro x t hx h;rcases h with h | ⟨r,d,y,hr,hl,_⟩
  .exact ih hx h
  .have:=(nZ p hr).1;exact (ig hx (kL this hl)).elim
theorem OR (p:aT P) (h:gZ (aa P) x t):(x < (aa P).T->fS (aa P) 0 x t)/\((x=(aa P).T+1\/x=(aa P).T+2->fS (aa P) 2 x t)/\fS (aa P) 3 x t):=by
 have o:=iW p;have nT:=o.nT;induction h with
 | term x hx=>exact ⟨λ_=>⟨hx,rfl⟩,λq=>(vc (uG q) hx).elim,fS.up (bk 3) ⟨hx,rfl⟩⟩
 | rule r d y t hr hd hn h ih=>
  have cZ:=o.rN r y (bC hd);have iL:y≠(aa P).T:=λe=>o.rT r (e▸bC hd);have hl:=nZ p hr;have mk:∀ k,fS (aa P) k y t->fS (aa P) (k+1) ((aa P).aq r) t:=λk hk=>.inr ⟨r,d,y,hr,rfl,hd,hn,hk⟩;have two:(aa P).aq r=(aa P).T+1\/(aa P).aq r=(aa P).T+2->fS (aa P) 2 ((aa P).aq r) t:=λhlr=>by
   by_cases hy:y < (aa P).T
   .exact fS.up (by decide) (mk 0 (ih.1 hy))
   .have f2:=ih.2.1 (qP nT cZ hy iL);by_cases e:(aa P).aq r=y
    .rw[e];exact f2
    .rcases f2 with f1 | ⟨r',d',y',hr',hl',hd',hn',f1⟩
     .exact mk 1 f1
     .have agq:=o.rN r' y' (bC hd');have agr:y'≠(aa P).T:=λe=>o.rT r' (e▸bC hd');by_cases hy':y' < (aa P).T
      .have:=fS.term p 1 hy' f1;subst this;exact mk 1 (.inr ⟨r',d',_,hr',hl',hd',hn',hy',rfl⟩)
      .by_cases e2:y'=y
       .subst e2;exact mk 1 f1
       .have e3:y'=(aa P).aq r:=PL hlr (qP nT cZ hy iL) (qP nT agq hy' agr) e e2;subst e3;exact fS.up (by decide) f1
  refine ⟨λq=>(ig q hl.1).elim,two,?_⟩;by_cases hlr:(aa P).aq r=(aa P).T
  .by_cases hy:y < (aa P).T
   .exact fS.up (by decide) (mk 0 (ih.1 hy))
   .exact mk 2 (ih.2.1 (qP nT cZ hy iL))
  .exact fS.up (by decide) (two (qP nT hl.2 (ie hl.1) hlr))
theorem abS (p:aT P) (hE:∀ x,cu (aa P) x->(aa P).nm x∈E) (h:∀ x t,(aa P).T<=x->x < (aa P).N->fS (aa P) k x t->(aa P).nm t∈H ((aa P).nm x)) :
  ∀ x t,(aa P).T<=x->x < (aa P).N->fS (aa P) (k+1) x t->(aa P).nm t∈(bL P).foldl (kC E) H ((aa P).nm x):=by
 have o:=iW p;intro x t hT hx hf;ext P E H k x t;rcases hf with hf | ⟨r,d,y,hr,rfl,hd,hn,hf⟩
 .exact Pb E _ _ _ _ (h x t hT hx hf)
 .have cZ:=o.rN r y (bC hd);refine abR E _ H _ (Il p hr) d ((aa P).nm y) (by rw[bH,hd];rfl) (λz hz=>?_) _ ?_
  .rw[<-Cf] at hz;obtain ⟨u,hu,rfl⟩:=aQ.mp hz;exact hE u (hn u hu)
  .by_cases hy:y < (aa P).T
   .rw[Im p cZ hy,fS.term p k hy hf];exact aZ
   .rw[HJ p cZ (zg hy)];exact h y t (zg hy) cZ hf
theorem abT (p:aT P) (hE:∀ x,cu (aa P) x->(aa P).nm x∈E):∀ k x t,(aa P).T<=x->x < (aa P).N->fS (aa P) k x t->(aa P).nm t∈gB E (bL P) k ((aa P).nm x):=by
 intro l_;induction l_ with
 | zero=>
  intro x t hT _ hf;have:=hf.1;exact (ig this hT).elim
 | succ k ih=>
  intro x t hT hx hf;exact abS p hE (ih) x t hT hx hf
theorem Pc (p:aT P) (hx:x < (aa P).N) (w:Str):w∈cE (gB (bf P 3) (bL P) 6) ((aa P).nm x)↔FW P x w:=by
 have hE1:∀ x,x < (aa P).N->(aa P).nm x∈bf P 3->cu (aa P) x:=λx hx h=>(Hv p hx).mp h;have hE2:∀ x,cu (aa P) x->(aa P).nm x∈bf P 3:=λx h=>CV p h;constructor
 .exact (abP p hE1 6).g p hx w
 .rintro ⟨t,ht,rfl⟩;by_cases hT:x < (aa P).T
  .rw[Im p hx hT];have:=(OR p ht).1 hT;rw[this.2];exact aZ
  .rw[HJ p hx (zg hT)];exact abT p hE2 6 x t (zg hT) hx (fS.up (by decide) (OR p ht).2.2)
end
end
section
section
variable {P:List Pr}
theorem aaw (E:List Str) (H:Str->List Str):∀ (l:List Str) (a:List Str×Bool),a.2=false->l.foldl (fu E H) a=a:=by
 intro l_;induction l_ with
 | nil=>
  intro _ _;exact rfl
 | cons y l ih=>
  intro a h;have e:fu E H a y=a:=if_neg (by rw[h];simp);change l.foldl (fu E H) (fu E H a y)=a;rw[e];exact ih a h
theorem aax (E:List Str) (H:Str->List Str):∀ (l:List Str) (a:List Str×Bool),a.2=true->
  (∀ w,w∈(l.foldl (fu E H) a).1↔w∈a.1\/∃ e,∃ y,l[e]? = some y/\((∀ z∈l.take e,z∈E)/\w∈cE H y))/\((l.foldl (fu E H) a).2=true↔∀ z∈l,z∈E):=by
 intro l_;induction l_ with
 | nil=>
  intro a h;exact ⟨λw=>by simp,by simp[h]⟩
 | cons y l ih=>
  intro a h;have e:fu E H a y=(a.1++cE H y,decide (y∈E)):=if_pos h;change (∀ w,w∈(l.foldl (fu E H) (fu E H a y)).1↔_)/\((l.foldl (fu E H) (fu E H a y)).2=true↔_);rw[e];by_cases hy:y∈E
  .obtain ⟨h1,h2⟩:=ih (a.1++cE H y,decide (y∈E)) (decide_eq_true hy);refine ⟨λw=>?_,?_⟩
   .rw[h1];constructor
    .rintro (g | ⟨e,z,g1,g2,g3⟩)
     .rcases bN.mp g with g | g
      .exact .inl g
      .exact .inr ⟨0,y,rfl,(λ_ q=>by cases q),g⟩
     .refine .inr ⟨e+1,z,g1,λu hu=>?_,g3⟩;rw[tW] at hu;rcases b8.mp hu with rfl | hu
      .exact hy
      .exact g2 u hu
    .rintro (g | ⟨e,z,g1,g2,g3⟩)
     .exact .inl (tU _ g)
     .cases e with
      | zero=>
       have:y=z:=by simpa using g1
       subst this;exact .inl (oR _ g3)
      | succ e=>exact .inr ⟨e,z,g1,λu hu=>g2 u (by rw[tW];exact b9 _ hu),g3⟩
   .rw[h2];constructor
    .intro g z hz;rcases b8.mp hz with rfl | hz
     .exact hy
     .exact g z hz
    .intro g z hz;exact g z (b9 _ hz)
  .rw[aaw E H l _ (decide_eq_false hy)];refine ⟨λw=>?_,?_⟩
   .constructor
    .intro g;rcases bN.mp g with g | g
     .exact .inl g
     .exact .inr ⟨0,y,rfl,(λ_ q=>by cases q),g⟩
    .rintro (g | ⟨e,z,g1,g2,g3⟩)
     .exact tU _ g
     .cases e with
      | zero=>
       have:y=z:=by simpa using g1
       subst this;exact oR _ g3
      | succ e=>exact (hy (g2 y (aZ))).elim
   .constructor
    .intro g;exact (hy (of_decide_eq_true g)).elim
    .intro g;exact (hy (g y (aZ ..))).elim
noncomputable def Lo (P:List Pr) (x:Nat) (w:Str):Prop:=∃ t,fP (aa P) x t/\(aa P).nm t=w
theorem HL (p:aT P) (hr:r < (aa P).R):(∀ w,w∈(jB (bf P 3) (gB (bf P 3) (bL P) 6) ((((aa P).ai r).map (aa P).nm).drop (d+1))).1↔
   ∃ e,∃ y,d < e/\(((aa P).ai r)[e]? = some y/\((∀ k z,d < k->k < e->((aa P).ai r)[k]? = some z->cu (aa P) z)/\FW P y w)))/\
  ((jB (bf P 3) (gB (bf P 3) (bL P) 6) ((((aa P).ai r).map (aa P).nm).drop (d+1))).2=true↔∀ k z,d < k->((aa P).ai r)[k]? = some z->cu (aa P) z):=by
 have o:=iW p;clear hr;ext P r d;obtain ⟨h1,h2⟩:=aax (bf P 3) (gB (bf P 3) (bL P) 6) ((((aa P).ai r).map (aa P).nm).drop (d+1)) ([],true) rfl;have get:∀ e:Nat,((((aa P).ai r).map (aa P).nm).drop (d+1))[e]? = (((aa P).ai r)[d+1+e]?).map (aa P).nm:=λe=>by rw[t8,bH]
 refine ⟨λw=>?_,?_⟩
 .ext w;unfold jB;rw[h1];constructor
  .rintro (g | ⟨e,y,g1,g2,g3⟩)
   .cases g
   .rw[get] at g1;ext e y;cases hy:((aa P).ai r)[d+1+e]? with
    | none=>rw[hy] at g1;cases g1
    | some y'=>
     rw[hy] at g1;have ey:(aa P).nm y'=y:=c8 g1;subst ey;have cZ:=o.rN r y' (bC hy);refine ⟨d+1+e,y',xA,hy,λk z hk1 hk2 hz=>?_,(Pc p cZ w).mp g3⟩;have BH:=o.rN r z (bC hz);refine (Hv p BH).mp (g2 _ (bC (i:=k - (d+1)) ?_));rw[LM (j9 hk2 hk1),get,show d+1+(k - (d+1))=k by exact fT hk1,hz];rfl
  .rintro ⟨e,y,he,hy,hn,hf⟩;have cZ:=o.rN r y (bC hy);ext e y;refine .inr ⟨e - (d+1),(aa P).nm y,by rw[get,show d+1+(e - (d+1))=e by exact fT he,hy];rfl,λz hz=>?_,(Pc p cZ w).mpr hf⟩;ext z;obtain ⟨k,hk,hk2⟩:=BW hz;have yt:k < e - (d+1):=by rw[nR] at hk;exact nq hk
   have hg:((((aa P).ai r).map (aa P).nm).drop (d+1))[k]? = some z:=by rw[<-LM yt,aH hk,hk2]
   rw[get] at hg;clear hk hk2;ext k;cases hu:((aa P).ai r)[d+1+k]? with
   | none=>rw[hu] at hg;cases hg
   | some u=>
    rw[hu] at hg;have eu:(aa P).nm u=z:=c8 hg;rw[<-eu];exact CV p (hn (d+1+k) u xA (Pe yt) hu)
 .unfold jB;rw[h2];constructor
  .intro g k z hk hz;have BH:=o.rN r z (bC hz);refine (Hv p BH).mp (g _ (bC (i:=k - (d+1)) ?_));rw[get,show d+1+(k - (d+1))=k by exact fT hk,hz];rfl
  .intro g z hz;ext z;obtain ⟨k,hk,hk2⟩:=BW hz;have hg:((((aa P).ai r).map (aa P).nm).drop (d+1))[k]? = some z:=by rw[aH hk,hk2]
   rw[get] at hg;clear hk hk2;ext k;cases hu:((aa P).ai r)[d+1+k]? with
   | none=>rw[hu] at hg;cases hg
   | some u=>
    rw[hu] at hg;have eu:(aa P).nm u=z:=c8 hg;rw[<-eu];exact CV p (g (d+1+k) u xA hu)
noncomputable abbrev E3 (P:List Pr):=bf P 3
noncomputable abbrev H6 (P:List Pr):=gB (bf P 3) (bL P) 6
noncomputable def uY (P:List Pr) (B:Str->List Str):Prop:=∀ x,(aa P).T<=x->x < (aa P).N->∀ w∈B ((aa P).nm x),Lo P x w
noncomputable abbrev ET (P:List Pr) (r:Nat):Pr:=((aa P).nm ((aa P).aq r),((aa P).ai r).map (aa P).nm)
theorem abU (p:aT P) (hr:r < (aa P).R) (d:Nat) (h:uY P B):uY P (fW (E3 P) (H6 P) (ET P r) B d):=by
 have o:=iW p;ext P r B d;obtain ⟨s1,s2⟩:=HL p (d:=d) hr;unfold fW;split
 .rename_i y hy;split
  .intro x hT hx w hw;have hy':(((aa P).ai r)[d]?).map (aa P).nm=some y:=by rw[<-bH];exact hy
   ext y x w;cases hz:((aa P).ai r)[d]? with
   | none=>rw[hz] at hy';cases hy'
   | some z=>
    rw[hz] at hy';have ez:(aa P).nm z=y:=c8 hy';subst ez;have BH:=o.rN r z (bC hz);unfold fj at hw;split at hw
    .rename_i e;have ex:=sf p hx BH e;subst ex;rcases mQ.mp hw with g | g
     .exact h x hT hx w g
     .rcases bN.mp g with g | g
      .obtain ⟨e,y,g1,g2,g3,t,g4,g5⟩:=(s1 w).mp g;exact ⟨t,.first r d e x y t hr hz g1 g2 g3 g4,g5⟩
      .split at g
       .rename_i ho;have ho:=s2.mp ho;obtain ⟨t,g1,g2⟩:=h _ (nZ p hr).1 (nZ p hr).2 w g;exact ⟨t,.up r d x t hr hz ho g1,g2⟩
       .cases g
    .exact h x hT hx w hw
  .exact h
 .exact h
theorem abV (p:aT P) (hr:r < (aa P).R):∀ (l:List Nat) {B:Str->List Str},uY P B->uY P (l.foldl (fW (E3 P) (H6 P) (ET P r)) B):=by
 intro l_;induction l_ with
 | nil=>
  intro _ h;exact h
 | cons d l ih=>
  intro _ h;exact ih (abU p hr d h)
theorem abW (p:aT P):∀ (L:List Pr) {B:Str->List Str},(∀ q∈L,q∈bL P)->uY P B->uY P (L.foldl (qs (E3 P) (H6 P)) B):=by
 intro l_;induction l_ with
 | nil=>
  intro _ _ h;exact h
 | cons q L ih=>
  intro B hL h;obtain ⟨r,hr,e⟩:=HH p (hL q (aZ ..));subst e;exact ih (λz hz=>hL z (b9 _ hz)) (abV p hr _ h)
theorem abX (p:aT P):∀ k,uY P (jS (E3 P) (H6 P) (bL P) k):=by
 intro l_;induction l_ with
 | zero=>
  exact λ_ _ _ _ h=>by cases h
 | succ k ih=>
  exact abW p _ (λ_ h=>h) (ih)
theorem Pd (E:List Str) (H:Str->List Str) (q:Pr) (B:Str->List Str) (d:Nat):jg B (fW E H q B d):=by
 unfold fW;split
 .split
  .exact jg.upd B _ _
  .exact λ_ _ h=>h
 .exact λ_ _ h=>h
theorem HM (E:List Str) (H:Str->List Str) (q:Pr):∀ (l:List Nat) (B:Str->List Str),jg B (l.foldl (fW E H q) B):=by
 intro l_;induction l_ with
 | nil=>
  intro _;exact λ_ _ h=>h
 | cons d l ih=>
  intro B;exact (Pd E H q B d).trans (ih _)
theorem HN (E:List Str) (H:Str->List Str):∀ (L:List Pr) (B:Str->List Str),jg B (L.foldl (qs E H) B):=by
 intro l_;induction l_ with
 | nil=>
  intro _;exact λ_ _ h=>h
 | cons q L ih=>
  intro B;exact (HM E H q _ B).trans (ih _)
theorem abY (hx:q.2[d]? = some x) (hk:x∈K3) (hw:w∈(jB E H (q.2.drop (d+1))).1\/((jB E H (q.2.drop (d+1))).2=true/\w∈B q.1)):w∈fW E H q B d x:=by
 unfold fW;rw[hx];change w∈(if x∈K3 then _ else B) x;rw[if_pos hk,CS];refine mQ.mpr (.inr (bN.mpr ?_));rcases hw with h | ⟨h1,h2⟩
 .exact .inl h
 .exact .inr (by rw[if_pos h1];exact h2)
theorem abZ (hx:q.2[d]? = some x) (hk:x∈K3):∀ (l:List Nat) (B:Str->List Str),d∈l->(w∈(jB E H (q.2.drop (d+1))).1\/((jB E H (q.2.drop (d+1))).2=true/\w∈B q.1))->w∈l.foldl (fW E H q) B x:=by
 intro l_;induction l_ with
 | nil=>
  intro _ h _;cases h
 | cons d' l ih=>
  intro B h hw;rcases b8.mp h with rfl | h
  .exact HM E H q l _ _ _ (abY hx hk hw)
  .exact ih _ h (hw.imp id λz_=>by obtain ⟨a,b⟩:=z_;exact ⟨a,Pd E H q B d' _ _ b⟩)
theorem OS (hx:q.2[d]? = some x) (hk:x∈K3):∀ (L:List Pr) (B:Str->List Str),q∈L->(w∈(jB E H (q.2.drop (d+1))).1\/((jB E H (q.2.drop (d+1))).2=true/\w∈B q.1))->w∈L.foldl (qs E H) B x:=by
 intro l_;induction l_ with
 | nil=>
  intro _ h _;cases h
 | cons q' L ih=>
  intro B h hw;rcases b8.mp h with rfl | h
  .refine HN E H L _ _ _ (abZ hx hk _ B (jV.mpr ?_) hw);exact (bU.mp hx).1
  .exact ih _ h (hw.imp id λz_=>by obtain ⟨a,b⟩:=z_;exact ⟨a,HM E H q' _ B _ _ b⟩)
noncomputable def BI (G:Gr):Nat->Nat->Nat->Prop
 | 0,x,t=>∃ r:Nat,∃ d:Nat,∃ e:Nat,∃ y:Nat,r < G.R/\((G.ai r)[d]? = some x/\(d < e/\((G.ai r)[e]? = some y/\((∀ k z:Nat,d < k->k < e->(G.ai r)[k]? = some z->cu G z)/\gZ G y t))))
 | k+1,x,t=>BI G k x t\/∃ r:Nat,∃ d:Nat,r < G.R/\((G.ai r)[d]? = some x/\((∀ k z:Nat,d < k->(G.ai r)[k]? = some z->cu G z)/\BI G k (G.aq r) t))
theorem Zl (o:G.Ok) (k:Nat) (h:BI G k x t):x≠G.T:=by
 induction k with
 | zero=>obtain ⟨r,d,_,_,_,hd,_⟩:=h;exact λe=>o.rT r (e▸bC hd)
 | succ k ih=>
  rcases h with h | ⟨r,d,_,hd,_⟩
  .exact ih h
  .exact λe=>o.rT r (e▸bC hd)
theorem Xa (o:G.Ok) (h:fP G x t):x≠G.T:=by
 cases h with
 | first r d e x y t hr hd=>exact λe=>o.rT r (e▸bC hd)
 | up r d x t hr hd=>exact λe=>o.rT r (e▸bC hd)
theorem aay (p:aT P) (h:fP (aa P) x t):x=(aa P).T+1\/x=(aa P).T+2->BI (aa P) 1 x t:=by
 have o:=iW p;have nT:=o.nT;induction h with
 | first r d e x y t hr hd rq he hn hf=>exact λ_=>.inl ⟨r,d,e,y,hr,hd,rq,he,hn,hf⟩
 | up r d x t hr hd hn h ih=>
  intro hx;have hl:=nZ p hr;have vJ:=Xa o h;have f1:=ih (qP nT hl.2 (ie hl.1) vJ);by_cases e:x=(aa P).aq r
  .rw[e];exact f1
  .rcases f1 with f0 | ⟨r',d',hr',hd',hn',f0⟩
   .exact .inr ⟨r,d,hr,hd,hn,f0⟩
   .have hl':=nZ p hr';have ags:=Zl o 0 f0;by_cases e2:(aa P).aq r'=(aa P).aq r
    .rw[e2] at f0;exact .inr ⟨r,d,hr,hd,hn,f0⟩
    .have e3:(aa P).aq r'=x:=PL hx (qP nT hl.2 (ie hl.1) vJ) (qP nT hl'.2 (ie hl'.1) ags) e e2;rw[e3] at f0;exact .inl f0
theorem ab0 (p:aT P):∀ k x t,(aa P).T<=x->x < (aa P).N->BI (aa P) k x t->(aa P).nm t∈jS (E3 P) (H6 P) (bL P) (k+1) ((aa P).nm x):=by
 intro l_;induction l_ with
 | zero=>
  intro x t hT hx hf;obtain ⟨r,d,e,y,hr,hd,rq,he,hn,hf⟩:=hf;refine OS (q:=ET P r) (d:=d) (by rw[bH,hd];rfl) ((Af p hx).mpr hT) _ _ (Il p hr) (.inl ?_);exact ((HL p hr).1 _).mpr ⟨e,y,rq,he,hn,t,hf,rfl⟩
 | succ k ih=>
  intro x t hT hx hf;rcases hf with hf | ⟨r,d,hr,hd,hn,hf⟩
  .exact HN _ _ _ _ _ _ (ih x t hT hx hf)
  .refine OS (q:=ET P r) (d:=d) (by rw[bH,hd];rfl) ((Af p hx).mpr hT) _ _ (Il p hr) (.inr ⟨?_,?_⟩)
   .exact ((HL p hr).2).mpr hn
   .exact ih _ t (nZ p hr).1 (nZ p hr).2 hf
theorem acO (E:List Str) (H:Str->List Str) (RP:List Pr) (h:j<=k):jg (jS E H RP j) (jS E H RP k):=by
 induction h with
 | refl=>exact λ_ _ h=>h
 | step _ ih=>exact ih.trans (HN E H RP _)
theorem acP (p:aT P) {x:Nat} (hx:x=(aa P).T+1\/x=(aa P).T+2) (w:Str):w∈jS (bf P 3) (gB (bf P 3) (bL P) 6) (bL P) 6 ((aa P).nm x)↔Lo P x w:=by
 have o:=iW p;have nT:=o.nT;constructor
 .exact abX p 6 x (zf (uG hx)) (C8 nT hx) w
 .rintro ⟨t,ht,rfl⟩;exact acO _ _ _ (by decide:2<=6) _ _ (ab0 p 1 x t (zf (uG hx)) (C8 nT hx) (aay p ht hx))
end
end
section
theorem ab1:∀ (k S j:Nat),S.testBit k=false->(2 ^ k+S).testBit j=(decide (j=k)||S.testBit j):=by
 intro l_;induction l_ with
 | zero=>
  intro S j h;have h0:S % 2=0:=by rw[Fo] at h;have:=of_decide_eq_false h;exact ac1 this
  cases j with
  | zero=>rw[Fo];simp;exact ac0 h0
  | succ j=>
   rw[Cb,Cb,show (2 ^ 0+S) / 2=S / 2 by exact acZ h0];simp
 | succ k ih=>
  intro S j h;rw[Cb] at h;cases j with
  | zero=>
   rw[Fo,Fo];have:(2 ^ (k+1)+S) % 2=S % 2:=by rw[Xj];exact acY
   rw[this];rfl
  | succ j=>
   rw[Cb,Cb,show (2 ^ (k+1)+S) / 2=2 ^ k+S / 2 by rw[Xj];exact acX,ih (S / 2) j h];congr 1;exact decide_eq_decide.mpr (by exact acW)
theorem ab2 {l:List Nat} (h:l.Nodup) (j):((l.map λk=>1 <<< k).sum).testBit j=decide (j∈l):=by
 induction l generalizing j with
 | nil=>simp
 | cons k l ih=>
  obtain ⟨h1,h2⟩:=nU.mp h;have ih:=ih h2;rw[bq,o8,B7,ab1 _ _ _ (by rw[ih];exact decide_eq_false h1),ih];by_cases e:j=k<;>simp[e]
theorem aaz:∀ l:List Nat,(l.map λk:Nat=>(k:Int)).sum=((l.sum:Nat):Int):=by
 intro l_;induction l_ with
 | nil=>
  exact rfl
 | cons k l ih=>
  rw[bq,o8,o8,ih];exact acV
theorem aaA {P:List Pr} {x:Nat} {L:List Str} (p:aT P) (hx:x=(aa P).T+1\/x=(aa P).T+2) (hn:L.Nodup) (hL:∀ w,w∈L↔Lo P x w):((L.map λw=>(aa P).names.idxOf w).map λk=>1 <<< k).sum=(aa P).i9 x:=by
 have o:=iW p;have nT:=o.nT;have idx:∀ t,t < (aa P).N->(aa P).names.idxOf ((aa P).nm t)=t:=λt ht=>by refine se p.rF.nd (?_:(bW P)[t]? = some ((aa P).nm t));change _=some ((bW P).getD t "");rw[bM,aH (show t < (bW P).length from ht)];rfl
 have tl:∀ w∈L,∃ t,fP (aa P) x t/\(t < (aa P).N/\(aa P).nm t=w):=λw hw=>by obtain ⟨t,h1,h2⟩:=(hL w).mp hw;exact ⟨t,h1,by have:=CB h1;exact dN (jQ this) nT,h2⟩
 have nd:(L.map λw=>(aa P).names.idxOf w).Nodup:=mL hn λa ha b hb e=>by obtain ⟨t,_,ht,rfl⟩:=tl a ha;obtain ⟨u,_,hu,rfl⟩:=tl b hb;rw[idx t ht,idx u hu] at e;rw[e]
 refine LU λj=>?_;rw[ab2 nd];have e:(aa P).i9 x=maskOf (fP (aa P) x) (aa P).N:=by unfold Gr.i9;rw[if_neg (by exact Pg hx)]
 rw[e,yM,decide_eq_true_iff,zj];constructor
 .intro h;obtain ⟨w,hw,rfl⟩:=aQ.mp h;obtain ⟨t,h1,h2,rfl⟩:=tl w hw;rw[idx t h2];exact ⟨h2,h1⟩
 .rintro ⟨h1,h2⟩;exact aQ.mpr ⟨(aa P).nm j,(hL _).mpr ⟨j,h2,rfl⟩,idx j h1⟩
noncomputable def oq (G:Gr) (i:Nat) (its:List Nat):List (Nat×Nat):=(its.filter λit=>decide (G.aY it=none)&&!decide (G.aB it=0)).map λit=>(i,G.aB it)
noncomputable def ou (G:Gr) (k:Nat):List (Nat×Nat):=(aj k).flatMap λi=>oq G i (G.bV (G.kr i))
theorem Zm {α β:Type} {f g:α->List β} {l:List α} (h:∀ a∈l,(f a).Perm (g a)):(l.flatMap f).Perm (l.flatMap g):=by
 induction l with
 | nil=>exact .refl _
 | cons a l ih=>
  rw[Mb,Mb];exact (h a (aZ ..)).append (ih λb hb=>h b (b9 _ hb))
theorem ND (G:Gr):(ou G G.nK).Perm G.bI:=by ext G;refine Zm (l:=aj G.nK) λi _=>?_;have h:(G.dJ (G.kr i)).Perm (G.jo (G.bV (G.kr i))):=wh _;refine List.Perm.trans (.of_eq ?_) (h.map λr=>(i,r)).symm;unfold oq Gr.jo;rw[dS];rfl
theorem Zn (G:Gr) (k:Nat):ou G (k+1)=ou G k++oq G k (G.bV (G.kr k)):=by unfold ou;rw[jD,vX];simp
theorem Zo (G:Gr) (i:Nat) (l:List Nat) (it:Nat):oq G i (l++[it])=if G.aY it=none/\G.aB it≠0 then oq G i l++[(i,G.aB it)] else oq G i l:=by
 ext G i l it;unfold oq;rw[jU,aV];by_cases h:G.aY it=none/\G.aB it≠0
 .rw[if_pos h];simp[h.1,h.2]
 .rw[if_neg h];have:(decide (G.aY it=none)&&!decide (G.aB it=0))=false:=by
   by_cases h1:G.aY it=none
   .have h2:G.aB it=0:=tV λq=>h ⟨h1,q⟩;simp[h2]
   .simp[h1]
  simp[oX,this]
theorem aaB (G:Gr) (i:Nat) (l:List Nat):(oq G i l).length<=l.length:=by unfold oq;rw[ak];exact kD _ _
theorem aaC (o:G.Ok) (hk:k<=G.nK) (h:q∈ou G k):q.2 < G.R/\q.2≠0:=by
 ext G k q;unfold ou at h;obtain ⟨i,hi,h⟩:=nQ.mp h
 (revert h;clear h;intro h);ext i
 unfold oq at h;obtain ⟨it,hit,rfl⟩:=aQ.mp h;clear h;ext it;obtain ⟨h1,h2⟩:=fE.mp hit;have hg:=(Gr.mS o (show i < G.nK by have:=jV.mp hi;exact zl this hk)).1;refine ⟨Gr.iU (Gr.jK o hg it h1),?_⟩;simp at h2;exact h2.2
theorem aaD (k:Nat) (hk:k<=G.nK):(ou G k).length<=G.bI.length:=by rw[<-(ND G).length_eq];unfold ou;obtain ⟨e,he⟩:∃ e,G.nK=k+e:=⟨G.nK - k,AQ hk⟩;rw[he,Mv,vX,cQ];exact eF
theorem OT (h:qM m b D mk):∃ ka,∃ ep,∃ TD:List AP,m b=some (.bE (dG ka (λj=>vn (mk j)) 0 (D.map pk)) ep)/\((dG ka (λj=>vn (mk j)) 0 (D.map pk)).map (λx=>x.2.1)=TD.map (·.1)/\(TD.map (·.2)=D/\
  ∀ x∈TD,m x.1=some (.tuple [vn x.2.1,vn x.2.2]))):=by
 ext m b D mk;obtain ⟨ka,ep,h1,h2⟩:=h;ext ka ep;refine ⟨ka,ep,(aj D.length).map λj=>(ka j,D.getD j (0,0)),h1,?_,?_,λx hx=>?_⟩
 .apply vZ;intro i;rw[bH,Hs,dS,bH,bH];by_cases hi:i < D.length
  .rw[vW hi,aH hi];simp
  .rw[jC (show D.length<=i by exact zg hi),jC (by rw[aN];exact zg hi)];rfl
 .rw[dS];apply vZ;intro i;rw[bH];by_cases hi:i < D.length
  .rw[vW hi,aH hi];simp[hi]
  .rw[jC (by rw[aN];exact zg hi),jC (zg hi)];rfl
 .obtain ⟨j,hj,rfl⟩:=aQ.mp hx;have hj:=jV.mp hj;show h2 j _;dsimp only;rw[bM,aH hj];rfl
end
section
theorem aaE (x:jL m pl P tp pa) (hb:m b=some (.list [.str "s",.str "$end"])) (hc:m c=some (.tuple [.str "$accept",.ref b])) (hr:m rl=some (.list ([V.ref c]++(aj P.length).map λi=>.ref (tp i)))) :
  jL m rl (bL P) (λi=>if i=0 then c else tp (i - 1)) (λi=>if i=0 then b else pa (i - 1)):=by
 refine ⟨?_,λi q hq=>?_⟩
 .rw[hr];change _=some (O.list ((aj (P.length+1)).map _));rw[List.range_succ_eq_map,bq,dS];simp only[if_true,List.singleton_append];congr 1
 .cases i with
  | zero=>
   have:q=(("$accept" : Str),[("s" : Str),"$end"]):=by have:=hq.symm;simpa[bL] using this
   subst this;simp only[if_true];exact ⟨hc,hb⟩
  | succ i=>
   have hq':P[i]? = some q:=hq;simp only[Ff,if_false,tZ];exact x.2 i q hq'
section
variable {C:Cx} {A:TA} {n:Nat} {env:Env} {loc:Loc} {m:MH} {Q:V->MH->Prop}
theorem aaF (T:aS C A) (hn:30<=n) (hL:C.base.IsList L rs.toArray) (hI:IntsAre rs ns) (hlen:ns.length<=63):FC C (A.f 51) n [.ref L] (λ_=>none) λv _=>v=.bool true:=by
 ext C A n L rs ns;refine eG T 51 "law" ["script"] (eW hn) rfl (λenv ef=>?_) (by walk_at "bd1");k_is;lk;ext env;show cF T ef.toC 44;refine dI (cF T ef.toC 41 ?_);lk;refine aac T (aK (bK hn)) hL hI hlen λm1 bg pv l1 yr hp=>?_;lk;refine Yr T (aK (bK hn)) hp λm2 pl P tp pa p l2 x2=>?_;clear l1 yr l2 hp;lk;ext m2 pl P tp pa;show bR;lk;show eE;lk;show bR;lk;refine ⟨by exact of_decide_eq_true rfl,λb hb=>?_⟩;lk;ext b;refine ⟨by exact of_decide_eq_true rfl,λc hc=>?_⟩;lk;ext c;refine ⟨by exact fF _,λd hd=>?_⟩;have lb:=MH.av (o:=.list [.str "s",.str "$end"]) hb;have lc:=MH.av (o:=.tuple [.str "$accept",.ref b]) hc;have ld:=MH.av (o:=.list [.ref c]) hd;have x3:=x2.le (lb.trans (lc.trans ld));have b3:=ld _ _ (lc _ _ (MH.af m2 b (.list [.str "s",.str "$end"])));have c3:=ld _ _ (MH.af (m2.set b (.list [.str "s",.str "$end"])) c (.tuple [.str "$accept",.ref b]));have d3:=MH.af ((m2.set b (.list [.str "s",.str "$end"])).set c (.tuple [.str "$accept",.ref b])) d (.list [.ref c]);clear lb lc ld hb hc hd x2;generalize ((m2.set b (.list [.str "s",.str "$end"])).set c (.tuple [.str "$accept",.ref b])).set d (.list [.ref c])=m3 at x3 b3 c3 d3 ⊢;lk;have hP:=p.uQ;refine mV d3 x3.1 (by simp;exact ac3 hP) λrl hrl=>?_;have lr:=MH.av (o:=.list ([V.ref c]++(aj P.length).map λi=>V.ref (tp i))) hrl;have tR:=aaE (x3.le lr) (lr _ _ b3) (lr _ _ c3) (MH.af _ _ _);have x4:=x3.le lr;clear lr hrl x3 b3 c3 d3;generalize m3.set rl (.list ([V.ref c]++(aj P.length).map λi=>V.ref (tp i)))=m4 at tR x4 ⊢;generalize (λi=>if i=0 then c else tp (i - 1))=tp' at tR;generalize (λi=>if i=0 then b else pa (i - 1))=pa' at tR;lk;ext rl m4 tp' pa';refine Nk T ef.toC 12 [.none] ?_ (g:="plain_grammar") (.tail _ (.head _));refine dI (wJ ef (by walk_at "cok") (cC (λi=>V.ref (tp i)) (aj P.length) ?_));lk;refine ⟨pl,rfl,x4.1,?_⟩;rw[aN];refine ⟨zz hP aI,λi acc mm=>m4.le mm/\∃ ta pb:Nat->Addr,acc=(aj i).map (λz=>V.ref (ta z))/\∀ z q,z < i->P[z]? = some q->mm (ta z)=some (.tuple [.str q.1,.ref (pb z)])/\mm (pb z)=some (.list (q.2.map .str)),
  ⟨λ_ _ q=>q,λ_=>0,λ_=>0,rfl,λz q hz=>(kc hz).elim⟩,λi acc mm hp=>hp.1 _ _ x4.1,?_,?_⟩
 .rintro cenv ec i acc mm hi ⟨hm,ta,pb,rfl,hz⟩;ext cenv i mm ta pb;obtain ⟨q,hq⟩:∃ q,P[i]? = some q:=⟨_,aH hi⟩;have cB:=p.len q (bC hq);ext q;show cy (w:=.ref (tp i)) (by dsimp only;rw[bM,aW _ hi];rfl);show mP (hm _ _ (x4.2 i q hq).1) rfl;refine aM (ec.store ⋯) (aM (ec.store ⋯) ?_);refine ⟨?_,?_⟩
  .intro y v hy;have h1:=jI (z:="left") (w:=.str q.1) (loc:=_) (ys:=_) (by decide +kernel) y v hy;rw[iO];have hne:y≠("right" : Str):=λe=>by
    have:=(F5 hy).1;rw[e] at this;exact absurd this (by decide +kernel)
   have hb:(y==("right" : Str))=false:=by exact decide_eq_false (by assumption)
   rw[hb];exact h1
  simp only[zZ,if_true];show eE;lk;show mO T ec (by rfl);lk;refine v8 (hm _ _ (x4.2 i q hq).2) (by rw[ak];exact zz cB aI) λe he=>?_;have l1:=MH.av (o:=.list (q.2.map V.str)) he;have e1:=MH.af mm e (.list (q.2.map V.str));generalize mm.set e (.list (q.2.map V.str))=m5 at l1 e1 ⊢;lk;clear he;ext e m5;refine ⟨by exact of_decide_eq_true rfl,λf hf=>?_⟩;have l2:=MH.av (o:=.tuple [.str q.1,.ref e]) hf;clear hf;ext f;refine ⟨hm.trans (l1.trans l2),λz=>if z=i then f else ta z,λz=>if z=i then e else pb z,zL (λx hx=>by simp only[show ¬ x=i by exact kU hx,if_false]) (by simp only[if_true]),λz q' hz' hq'=>?_⟩;by_cases g:z=i
  .ext z q';subst g;rw[hq] at hq';cases hq';simp only[if_true];exact ⟨MH.af _ _ _,l2 _ _ e1⟩
  .simp only[g,if_false];obtain ⟨g1,g2⟩:=hz z q' (cY hz' g) hq';exact ⟨l2 _ _ (l1 _ _ g1),l2 _ _ (l1 _ _ g2)⟩
 rintro acc mm ⟨hm,ta,pb,rfl,hz⟩ g hg;have lg:=MH.av (o:=.list ((aj P.length).map λz=>V.ref (ta z))) hg;have xg:jL (mm.set g (.list ((aj P.length).map λz=>V.ref (ta z)))) g P ta pb:=⟨MH.af _ _ _,λi q hq=>by obtain ⟨g1,g2⟩:=hz i q (bU.mp hq).1 hq;exact ⟨lg _ _ g1,lg _ _ g2⟩⟩
 have x5:=x4.le (hm.trans lg);have Lp:=tR.le (hm.trans lg);clear hg hz hm x4 tR lg;generalize mm.set g (.list ((aj P.length).map λz=>V.ref (ta z)))=m5 at xg x5 Lp ⊢;lk;refine Yp T p (aK (bK hn)) xg λm6 gg l6 Lq=>?_;have x6:=x5.le l6;have yo:=Lp.le l6;clear x5 Lp xg l6;have o:=iW p;ext m6 gg;obtain ⟨sm,hdl⟩:=aau p;have nT:=o.nT;have hN8:=Gr.N8 o;have Lr:=o.r5;show aam (y:="near") (z:="wide") ef (ef.store ⋯) (ef.store ⋯) (by walk_at "swc");show eE;refine dI (cF T ef.toC 38 ?_);lk;refine Wi T o sm (aK (bK hn)) Lq λm7 wn un adn cln mbn EU _ l7 Up Rr=>?_;ext m7 wn un adn cln mbn EU;refine dI (cF T ef.toC 39 ?_);lk;refine WJ T o sm (aK (bK hn)) (Lq.le l7) λm8 ww uw adw clw mbw Uq _ l8 Ur agt=>?_;lk;ext m8 ww uw adw clw mbw Uq;refine ⟨by exact of_decide_eq_true rfl,λt ht=>⟨t,_,_,rfl,MH.af _ _ _,?_⟩⟩;have l9:=MH.av (o:=.tuple [.ref wn,.ref ww]) ht;have yv:=(Up.le l8).le l9;have Ls:=Ur.le l9;have x9:=x6.le (l7.trans (l8.trans l9));have Lu:=yo.le (l7.trans (l8.trans l9));clear ht l9 l7 l8 Up Ur x6 yo Lq;generalize m8.set t (.tuple [.ref wn,.ref ww])=m9 at yv Ls x9 Lu ⊢;ext m9;show fN (ef.store ⋯);refine bR (cM ⟨by simp,λdd Us=>?_⟩);have oM:=MH.av (o:=.list []) Us;have Io:(aa P).aU.length<=100:=sm.len 200;have good:=λi (hi:i < (aa P).nK)=>Gr.mS o hi;have agu:∀ i,i < (aa P).nK->(∀ it∈(aa P).bV ((aa P).kr i),it < (aa P).M)/\((aa P).bV ((aa P).kr i)).length<=20:=λi hi=>by have g1:=good i hi;have g2:=Gr.jK o g1.1;exact ⟨g2,aO (jM (Gr.wj (Gr.mR g1.2) o) g2) (Gr.n8 o)⟩
 have agv:∀ j q,(aa P).bI[j]? = some q->∀ t,(EU j).testBit t=true->t < (aa P).T:=λj q hj t ht=>CB (Rr j q hj t ht);have Ut:=λk (hk:k<=(aa P).nK)=>aaD (G:=aa P) k hk;ext dd;refine dw (λi=>[("due",.ref dd),("near",.ref wn),("wide",.ref ww),("grammar",.ref gg.g),("rules",.ref rl),("pairs",.ref pl)]) (λi mm=>m9.le mm/\∃ TT:List AP,iF mm dd TT/\TT.map (·.2)=ou (aa P) i) (lJ T ef.toC ?_);show bY T ef.toC (by rfl);refine dI (aA T 37 (oM _ _ yv.self) ?_);lk;show fz (oM _ _ yv.wW) (by rw[ak,aN];exact zm Io (ao rfl));rw[ak,aN];refine ⟨(aa P).aU.length,rfl,zm Io (ao rfl),by k_in,⟨oM,[],⟨MH.af _ _ _,λ_ h=>(by cases h)⟩,rfl⟩,λ_ _ _=>trivial,?_,?_⟩
 .rintro i mm hi aG;ext i mm;show bO;intro QQ bP;ext QQ;obtain ⟨hm,TT,ht,htd⟩:=aG;ext TT;show aM (ef.store ⋯);have qU:=yv.le hm;have xq:=Ls.le hm;have DO:=Lu.le hm;refine ck (WT.mono (Q:=λc m'=>c=false/\mm.le m') (Ag ?_) ?_)
  .show Hy;refine iR (cF T ef.toC 50 ?_);lk;refine Zh T (aK (bK hn)) p sm qU DO agv hi λma la=>jl ?_;simp only[qB,cP,if_false];show cH;have Uu:=qU.le la;have vwa:=xq.le la;show cG T 37 1 "View.items_of" Uu.self;lk;refine Cu T o sm (aK (bK hn)) Uu hi λSJ a lb _ ha=>?_;have BJ:=vwa.le lb;show cG T 37 1 "View.items_of" BJ.self;lk;refine Cu T o sm (aK (bK hn)) BJ hi λmc b lc _ hb=>?_;have ha2:=lc _ _ ha;rw[mW] at ha2 hb;refine Dd (.list ha2 (.ints _ _)) (.list hb (.ints _ _)) (shaped_ints _) (shaped_ints _) ⟨_,rfl,?_,la.trans (lb.trans lc)⟩;change (!nX _ _)=false;rw[ZL];simp only[decide_true,qB]
  .rintro c9 lA ⟨rfl,rH⟩;ext lA;refine ⟨λe=>(by cases e),λ_=>aX ?_⟩;have AN:=qU.le rH;have hi2:i < (aa P).nK:=hi;obtain ⟨om,adK⟩:=agu i hi2;have adL:=Zn (aa P) i;have hAl:=Ut i (fy hi2);have Ad:=λ{Q:V->MH->Prop}=>Cu (C:=C) (n:=n - 1) (Q:=Q) T o sm (aK (bK hn)) AN hi;change ∀ {Q:V->MH->Prop},(∀ m' a,lA.le m'->lA a=none->m' a=some (.list (((aa P).bV ((aa P).kr i)).map vn))->Q (.ref a) m')->FC C (A.bZ 37 1) (n - 1) [.ref wn,vn i] lA Q at Ad;generalize (aa P).bV ((aa P).kr i)=cJ at *
   have pR:=ht.le rH;have agw:=hm.trans rH;ext cJ;refine pH (cC vn cJ ?_);show cG T 37 1 "View.items_of" AN.self;lk;refine Ad λBp a la ha0 ha=>?_;have hadd:a≠dd:=λe=>by rw[e,pR.1] at ha0;cases ha0
   clear ha0;ext Bp a;refine ⟨a,rfl,ha,λj=>[("state",vn i),("due",.ref dd),("near",.ref wn),("wide",.ref ww),("grammar",.ref gg.g),("rules",.ref rl),("pairs",.ref pl)],λj mm=>m9.le mm/\mm a=some (.list (cJ.map vn))/\∃ TT:List AP,iF mm dd TT/\TT.map (·.2)=ou (aa P) i++oq (aa P) i (cJ.take j),
    by k_in,⟨agw.trans la,ha,TT,pR.le la,by rw[htd,FH];change _=_++[];rw[nW]⟩,λj mm hp=>hp.2,?_,?_⟩
   .intro j qq hj hpp;ext j qq;show bO;intro QQ gk;ext QQ;obtain ⟨q1,q2,T2,q3,q4⟩:=hpp;ext T2;refine cy (getD_map hj) (aM (ef.store ⋯) ?_);have Rt:cJ[j]∈cJ:=cW hj;have hit:=om _ Rt;have Lv:=Zo (aa P) i (cJ.take j) cJ[j];rw[<-take_snoc (aH hj)] at Lv;have hTl:T2.length<=100:=by
     have h1:=congrArg ji q4;rw[ak,cQ] at h1;have h2:=aaB (aa P) i (cJ.take j);rw[nR] at h2;exact ac2 hdl hAl adK h1 h2
    generalize cJ[j]=it at *
    have xw:=yv.le q1;clear Rt;ext it;refine ck (WT.mono (Q:=λc m'=>c=decide ((aa P).aY it=none/\(aa P).aB it≠0)/\m'=qq) (qJ ?_) ?_)
    .show cH;show cG T 9 9 "Grammar.after" xw.gr.self;lk;show zH T o xw.gr (aK (bK hn)) hit;lk;refine As ⟨_,rfl,?_⟩;have ea:decide ((aa P).ia it < 0)=decide ((aa P).aY it=none):=by
      unfold Gr.ia;cases (aa P).aY it with
      | none=>rfl
      | some y=>simp
     rw[ea];by_cases g:(aa P).aY it=none
     .rw[decide_eq_true g];simp only[if_true];show cH;show cG T 9 7 "Grammar.rule_of" xw.gr.self;lk;show rV T o xw.gr (aK (bK hn)) hit;lk;refine wU ⟨_,rfl,?_,rfl⟩;exact decide_eq_decide.mpr ⟨λh=>⟨g,nu h⟩,λh=>by have:=h.2;exact z0 this⟩
     .rw[decide_eq_false g];simp only[cP,if_false];exact ⟨(decide_eq_false λh=>g h.1).symm,trivial⟩
    .rintro c qu ⟨hc,rfl⟩;ext c qu;refine ⟨λe=>?_,λe=>aX ?_⟩
     .rw[e] at hc;have hc:=of_decide_eq_true hc.symm;show iV ⟨_,q3.1⟩;show eE;lk;show cG T 9 7 "Grammar.rule_of" xw.gr.self;lk;show rV T o xw.gr (aK (bK hn)) hit;lk;refine ⟨by exact of_decide_eq_true rfl,λf hf=>?_⟩;have lf:=MH.av (o:=.tuple [vn i,vn ((aa P).aB it)]) hf;have f1:=MH.af qu f (.tuple [vn i,vn ((aa P).aB it)]);have agx:=q1.new hf;generalize qu.set f (.tuple [vn i,vn ((aa P).aB it)])=ql at lf f1 ⊢;have q5:=q3.le lf
      (revert hc;clear hc;intro hc);clear hf agx;ext f ql
      subst gk;refine ⟨_,q5.1,by rw[ak];exact zm hTl (ao rfl),aX (br (by k_in) ⟨(q1.trans lf).set Us,MH.ay (lf _ _ q2) hadd,T2++[(f,(i,(aa P).aB it))],⟨?_,λy hy=>?_⟩,?_⟩)⟩
      .rw[MH.af,bB,bB,aV];rfl
      .have e7:ql y.1=some (.tuple [vn y.2.1,vn y.2.2]):=by
        rcases bN.mp hy with hy | hy
        .exact q5.2 y hy
        .rw[bQ] at hy;subst hy;exact f1
       exact MH.ay e7 λe=>by rw[e,q5.1] at e7;cases e7
      .rw[aV,q4,Lv,if_pos hc,gX];rfl
     .rw[e] at hc;have hc:=of_decide_eq_false hc.symm;subst gk;exact br (by k_in) ⟨q1,q2,T2,q3,by rw[q4,Lv,if_neg hc]⟩
   .rintro qq ⟨q1,_,T2,q3,q4⟩;rw[dW,<-adL] at q4;subst bP;exact br (by k_in) ⟨q1,T2,q3,q4⟩
 .rintro mm ⟨hm,TT,ht,htd⟩;have qU:=yv.le hm;have xq:=Ls.le hm;have DO:=Lu.le hm;have oA:=x9.le hm;change TT.map (·.2)=ou (aa P) (aa P).nK at htd;have Ru:TT.length < 64:=by
   have h1:=congrArg ji htd;rw[ak] at h1;have:=Ut (aa P).nK (aL _);exact zm (dm h1 this) hdl
  have hTT:∀ y∈TT,y.2.2 < (aa P).R/\y.2.2≠0:=λy hy=>aaC o (aL _) (by rw[<-htd];exact aQ.mpr ⟨y,hy,rfl⟩);have Di:(TT.map (·.2)).Perm (aa P).bI:=by rw[htd];exact ND (aa P)
  have agy:∀ y∈TT,y.2∈(aa P).bI:=λy hy=>Di.mem_iff.mp (aQ.mpr ⟨y,hy,rfl⟩);have HO:∀ q∈(aa P).bI,q.2 < 1000:=λq hq=>by obtain ⟨y,hy,rfl⟩:=aQ.mp (Di.mem_iff.mpr hq);have:=(hTT y hy).1;exact zl this (zz Lr (zb rfl))
  have same:∀ {TD T1 T2:List AP},TD.map (·.2)=(aa P).bI->T1.Perm TD->T2.Perm TT->(T1.map λx=>dK x.2).Pairwise (·<=·)->(T2.map λx=>dK x.2).Pairwise (·<=·)->T1.map (·.2)=T2.map (·.2):=λ{TD T1 T2} e p1 p2 s1 s2=>by
   have q1:(T1.map (·.2)).Perm (aa P).bI:=by rw[<-e];exact p1.map _
   have q2:(T2.map (·.2)).Perm (aa P).bI:=(p2.map _).trans Di;exact FQ (q1.trans q2.symm) (λx hx=>HO x (q1.mem_iff.mp hx)) (by rw[dS];exact s1) (by rw[dS];exact s2)
  have Rv:(aa P).bI.length < 64:=hdl;have C7:(aj (aa P).aU.length).length<=100:=by rw[aN];exact Io
  clear hm htd Di;ext mm TT;refine ck (WT.mono (Q:=λc m'=>c=false/\mm.le m') (ab5 ?_) ?_)
  .show cH;show bY T ef.toC (by rfl);refine dI (aA T 37 qU.self ?_);lk;obtain ⟨ka,ep,TD,d1,d2,d3,d4⟩:=OT qU.masks;refine MV T.sys d1 d2 d4 (λy hy=>HO _ (by rw[<-d3];exact aQ.mpr ⟨y,hy,rfl⟩)) (by have:=congrArg ji d3;rw[ak] at this;exact fK this Rv) λb1 T1 hb1 hp1 hs1=>?_;have l1:=MH.av (o:=.list (bB T1)) hb1;have tS:iF (mm.set b1 (.list (bB T1))) b1 T1:=⟨MH.af _ _ _,λy hy=>l1 _ _ (d4 y (hp1.mem_iff.mp hy))⟩;generalize mm.set b1 (.list (bB T1))=ma at l1 tS ⊢;show bY T ef.toC (by rfl);lk;have tQ:=ht.le l1;refine Co tQ (λy hy=>by have:=(hTT y hy).1;exact zl this (zz Lr (zb rfl))) Ru λb2 T2 hb2 hp2 hs2=>?_;have l2:=MH.av (o:=.list (bB T2)) hb2;have EV:iF (ma.set b2 (.list (bB T2))) b2 T2:=⟨MH.af _ _ _,λy hy=>l2 _ _ (tQ.2 y (hp2.mem_iff.mp hy))⟩;generalize ma.set b2 (.list (bB T2))=mb at l2 EV ⊢;have Ji:=tS.le l2;have Uv:=same d3 hp1 hp2 hs1 hs2;refine Dd (.list Ji.1 (qE Ji.2)) (.list EV.1 (qE EV.2)) (we _) (we _) ⟨_,rfl,?_⟩;have Uw:(!pg (.list (((T1.map (·.2)).map ip).map gH)) (.list (((T2.map (·.2)).map ip).map gH)))=false:=by
    rw[Uv];change (!nX _ _)=false;rw[Gx];simp only[decide_true,qB]
   rw[Uw];simp only[cP,if_false];have jA:=l1.trans l2;have BJ:=xq.le jA;have htb:=ht.le jA;clear Uw Uv Ji EV tS tQ d1 d2 d3 d4 hp1 hs1 hp2 hs2;show cH;show bY T ef.toC (by rfl);refine dI (aA T 37 BJ.self ?_);lk;obtain ⟨ka,ep,TD,d1,d2,d3,d4⟩:=OT BJ.masks;refine MV T.sys d1 d2 d4 (λy hy=>HO _ (by rw[<-d3];exact aQ.mpr ⟨y,hy,rfl⟩)) (by have:=congrArg ji d3;rw[ak] at this;exact fK this Rv) λb3 T3 jd hp3 Bb=>?_;have l3:=MH.av (o:=.list (bB T3)) jd;have ym:iF (mb.set b3 (.list (bB T3))) b3 T3:=⟨MH.af _ _ _,λy hy=>l3 _ _ (d4 y (hp3.mem_iff.mp hy))⟩;generalize mb.set b3 (.list (bB T3))=mc at l3 ym ⊢;show bY T ef.toC (by rfl);lk;have yh:=htb.le l3;refine Co yh (λy hy=>by have:=(hTT y hy).1;exact zl this (zz Lr (zb rfl))) Ru λb4 T4 oF Ux hs4=>?_;have l4:=MH.av (o:=.list (bB T4)) oF;have vK:iF (mc.set b4 (.list (bB T4))) b4 T4:=⟨MH.af _ _ _,λy hy=>l4 _ _ (yh.2 y (Ux.mem_iff.mp hy))⟩;generalize mc.set b4 (.list (bB T4))=md at l4 vK ⊢;have Rw:=ym.le l4;have e34:=same d3 hp3 Ux Bb hs4;refine Dd (.list Rw.1 (qE Rw.2)) (.list vK.1 (qE vK.2)) (we _) (we _) ⟨_,rfl,?_⟩;have e35:(!pg (.list (((T3.map (·.2)).map ip).map gH)) (.list (((T4.map (·.2)).map ip).map gH)))=false:=by rw[e34];change (!nX _ _)=false;rw[Gx];simp only[decide_true,qB]
   rw[e35];simp only[cP,if_false];have Lw:=jA.trans (l3.trans l4);have Uy:=xq.le Lw;have Uz:=qU.le Lw;show cH;show bY T ef.toC (by rfl);refine dI (aA T 37 Uy.self ?_);lk;show fz Uy.wW (by rw[ak];exact zm C7 (ao rfl));show bY T ef.toC (by rfl);refine dI (aA T 37 Uz.self ?_);lk;show fz Uz.wW (by rw[ak];exact zm C7 (ao rfl));rw[ak,ak];refine sE ⟨_,rfl,?_,Lw⟩;simp only[decide_true,qB]
  .rintro c9 lA ⟨rfl,rH⟩;refine ⟨λe=>(by cases e),λ_=>aX ?_⟩;have AN:=qU.le rH;have Rx:=xq.le rH;have Jj:=DO.le rH;have sX:=oA.le rH;have pR:=ht.le rH;clear qU xq DO oA ht same;show fN (ef.store ⋯);show cF T ef.toC 49;lk;show cF T ef.toC 45;lk;refine Yt T (aK (bK hn)) p sX λql ea jA hE=>?_;lk;refine XF T (aK (bK hn)) p (Jj.le jA) hE λqm D kb hB=>?_;have BK:=jA.trans hB.le;have Lx:cL (jS (bf P 3) (gB (bf P 3) (bL P) 6) (bL P) 6):=cL.fk (cL.k (λq hq=>(p.rR hq).2) 6) (λq hq=>(p.rR hq).2) 6;have hfw:=λx hx w=>@acP P p x hx w;generalize jS (bf P 3) (gB (bf P 3) (bL P) 6) (bL P) 6=B at *
   have hBd:=hB.d;have JH:=hB.l;have agz:=AN.le BK;have agA:=Rx.le BK;have agB:=Jj.le BK;have Jk:=pR.le BK;clear hB hE jA BK AN Rx Jj sX pR;ext qm D kb B;refine dw (λj=>[("follow",.ref D),("due",.ref dd),("near",.ref wn),("wide",.ref ww),("grammar",.ref gg.g),("rules",.ref rl),("pairs",.ref pl)]) (λj mm=>qm.le mm) (cC (λx:AP=>V.ref x.1) TT ?_);lk;refine ⟨dd,rfl,Jk.1,by k_in,λ_ _ q=>q,λj mm hm=>hm _ _ Jk.1,?_,?_⟩
   .intro j qq hj hm2;ext j qq;show bO;intro QQ gk;have kq:TT[j]∈TT:=cW hj;ext QQ;refine cy (getD_map hj) (aM (ef.store ⋯) ?_);generalize TT[j]=y at *
    have vN:=hm2 _ _ (Jk.2 y kq);obtain ⟨hr,hr0⟩:=hTT y kq;have Ly:=agy y kq;obtain ⟨ya,i,r⟩:=y;dsimp only at vN hr hr0 Ly;have hq:=lU p hr;have hrl:r < (bL P).length:=by rw[C6];exact hr
    have k6:=p.AK;have hlr:=o.lN r (z0 hr0) hr;have yt:(aa P).nm ((aa P).aq r)∈K3:=(Af p (nZ p hr).2).mpr (nZ p hr).1;have UA:=hm2 _ _ (JH _ yt);have hBn:=(Lx ((aa P).nm ((aa P).aq r))).1;have UB:=hfw ((aa P).aq r) hlr;have adM:=wK (Lx ((aa P).nm ((aa P).aq r))).1 (Lx ((aa P).nm ((aa P).aq r))).2;have hgk:fQ (K3.map λs:Str=>(s,V.ref (kb s))) ((aa P).nm ((aa P).aq r))=some (.ref (kb ((aa P).nm ((aa P).aq r)))):=by rw[ur,if_pos yt]
    have hms:=aaA p hlr hBn UB;have UC:=agB.le hm2;have UD:=agz.le hm2;have vw2:=agA.le hm2;have agC:=hm2 _ _ hBd;generalize B ((aa P).nm ((aa P).aq r))=LL at *
    clear kq hr hr0 yt hBn;ext ya i r LL;show fN (ef.store ⋯);show bY T ef.toC (by rfl);refine dI (wG V.str LL (λ_=>true) (λw=>vn (1 <<< (aa P).names.idxOf w)) ef (by walk_at "cok") (zz adM aI) (cC V.str LL ?_));lk;show lM (k:=1) vN rfl (by simp);show aJ UC.1 (aW _ hrl) (by rw[ak,aN];exact zm k6 (ao rfl));lk;show lM (k:=0) (UC.2 r _ hq).1 rfl (by simp);show wH agC hgk;refine ⟨_,rfl,UA,rfl,λk w hw=>getD_get (by rw[bH,hw];rfl),λqu h3=>h3 _ _ UA,?_,?_⟩
    .intro cenv ec w hw qu h3;ext cenv w qu;refine aM (ec.store ⋯) ⟨jI (by decide +kernel),?_⟩;refine ⟨rfl,h3,λ_=>?_⟩;lk;have vg:=(UD.le h3).gr;obtain ⟨t,ht1,tQ⟩:=(UB w).mp hw;have Lz:t < (aa P).N:=by have:=CB ht1;exact dN (jQ this) nT
     have hwn:(aa P).names[t]? = some w:=by rw[<-tQ];change (bW P)[t]? = some ((bW P).getD t "");rw[bM,aH (show t < (bW P).length from Lz)];rfl
     have hidx:(aa P).names.idxOf w=t:=se p.rF.nd hwn;show cG T 9 4 "Grammar.number" vg.self;lk;show Xp T o vg (aK (bK hn)) Lz hwn;show wR (by exact Ip hN8 Lz);exact ⟨by rw[hidx],h3⟩
    .intro qu b h3 hb;rw[show LL.filter (λ_=>true)=LL from tX.mpr λ_ _=>rfl];have lb:=MH.av (o:=.list (LL.map λw=>vn (1 <<< (aa P).names.idxOf w))) hb;have bs:=MH.af qu b (.list (LL.map λw=>vn (1 <<< (aa P).names.idxOf w)));generalize qu.set b (.list (LL.map λw=>vn (1 <<< (aa P).names.idxOf w)))=Bq at lb bs ⊢;lk;have el:(LL.map λw=>vn (1 <<< (aa P).names.idxOf w))=(((LL.map λw=>(aa P).names.idxOf w).map λk=>1 <<< k).map λk:Nat=>(k:Int)).map V.int:=by
      rw[dS,dS,dS];rfl
     rw[el] at bs;show acp bs;rw[aaz,hms];have EW:=h3.trans lb;have UE:=UD.le EW;have UG:=vw2.le EW;have Ry:=EW _ _ vN;clear h3 hb;ext qu b Bq;obtain ⟨J,hJ⟩:∃ J,J=(aa P).bI.idxOf (i,r):=⟨_,rfl⟩;have yc:(aa P).bI[J]? = some (i,r):=by have hl:(aa P).bI.idxOf (i,r) < (aa P).bI.length:=qx.mpr Ly;rw[hJ,aH hl];simp
     have hw1:Uq J=(aa P).i9 ((aa P).aq r):=by rw[agt,bM,yc];rfl
     have hn1:EU J ||| (aa P).i9 ((aa P).aq r)=(aa P).i9 ((aa P).aq r):=by
      refine LU λt=>?_;rw[eV];cases ht1:(EU J).testBit t with
      | false=>rfl
      | true=>
       have h1:=Rr J _ yc t ht1;have e:(aa P).i9 ((aa P).aq r)=maskOf (fP (aa P) ((aa P).aq r)) (aa P).N:=by unfold Gr.i9;rw[if_neg (by exact Pg hlr)]
       rw[e];have h2:=(zj (fP (aa P) ((aa P).aq r)) (aa P).N t).mpr ⟨by have:=CB h1;exact dN (jQ this) nT,h1⟩;rw[h2];rfl
     generalize (aa P).i9 ((aa P).aq r)=fl at *
     obtain ⟨kw,epw,w1,w2⟩:=UG.masks;obtain ⟨kn,epn,n1,n2⟩:=UE.masks;have qo:=Ly;refine ck (WT.mono (Q:=λc m'=>c=false/\m'=Bq) (Ag ?_) ?_)
     .show cH;show uC;show aA T 37 UG.self;lk;show qI (k:=cR (pk (i,r))) w1 Ry (by rw[kI,if_pos (mX.mpr qo),sd,fG,<-hJ]);lk;rw[hw1];refine sE ⟨_,rfl,?_⟩;simp only[decide_true,qB,cP,if_false];show cH;show CC;show uC;show aA T 37 UE.self;lk;show qI (k:=cR (pk (i,r))) n1 Ry (by rw[kI,if_pos (mX.mpr qo),sd,fG,<-hJ]);lk;show lX;rw[hn1];lk;refine sE ⟨_,rfl,?_,rfl⟩;simp only[decide_true,qB]
     .rintro c Bs ⟨rfl,rfl⟩;subst gk;refine ⟨λe=>(by cases e),λ_=>aX (br (by k_in) (hm2.trans EW))⟩
   .intro qq hm2;lk;rfl
end
end
section
theorem ahl:G9:=λ_ _ _ _ _ _ T hn hL hI hl _=>aaF T hn hL hI hl
end
end M174
open M174
theorem PySem.Challenge.cw_on0174_01_holds : PySem.Challenge.rw_on0174_01.Holds := by
  exact top_holds ahl
