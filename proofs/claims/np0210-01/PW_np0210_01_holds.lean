import PyProof.Rows.All
import Wide.All
import OpenK.AllK
import Wide.FinOn
import Lean
import PySem.Challenge.RW_np0210_01
open And renaming imp_right->qU,intro->yo
open Array renaming length_toList->w0,getD_eq_getD_getElem?->abW,getElem?_eq_getElem->TF,empty_append->ab4,toList->WZ
open Bool renaming and_eq_true_iff->bP,not_eq_true'->l8,false_ne_true->nl,and_eq_true->ro,or_eq_false_iff->vJ,false_eq_true->yn,noConfusion->AV,or_eq_true_iff->Jk,false_and->IA,true_and->MR,not_eq_true->VO,or_eq_true->Vk,eq_iff_iff->W1,and_true->W3,or_false->adi,or_true->adj
open Classical renaming byContradiction->og
open Decidable renaming byContradiction->aeN,em->XA
open Eq renaming trans->J8
open Exists renaming imp->yq
open False renaming elim->Hi
open Int renaming natCast_nonneg->et,ofNat_le->dU,le_trans->il,ofNat_lt->ir,toNat_natCast->mo,lt_of_le_of_lt->nm,fmod_eq_emod_of_nonneg->tC,ofNat_inj->kG,ofNat_ne_zero->oP,ofNat_sub->nx,not_lt->jV,toNat_of_nonneg->tR,le_of_lt->on,fdiv_eq_ediv_of_nonneg->Ca,ofNat->lb,mul_comm->sE,toNat_le->t9,emod_lt_of_pos->FD,add_comm->vU,sub_nonneg_of_le->I5,emod_nonneg->FA,lt_trans->za,add_sub_cancel->JX,lt_of_lt_of_le->J0,max_eq_right->KR,ne_of_gt->FC,le_antisymm->JZ,natAbs_of_nonneg->WE,le_of_lt_add_one->adX,natAbs_ne_zero->WB,toNat_lt->Kh,add_sub_assoc->acw,sub_self->M0,sub_le_self->acR,natCast_mul->aeZ,not_le->KU,add_assoc->TV,toNat_sub->aaI,toNat->Np,add_zero->TU,le_of_eq->Z1,mul_one->T7,le_refl->ZY,sub_sub->adG
open List renaming length_map->aE,getElem?_eq_getElem->bI,range->aK,zip->aC,mem_of_getElem?->cw,getElem?_eq_some_iff->du,mem_cons->br,mem_map->bJ,getElem?_map->cW,replicate->ci,length_append->de,mem_singleton->dT,length_range->fj,map_congr_left->f0,map_map->dj,not_mem_nil->eZ,size_toArray->fI,getElem?_eq_none->iy,all_eq_true->fE,length_drop->f9,map_cons->eP,nodup_cons->f6,mem_range->fZ,getElem?_append_left->nk,map_append->gW,length_take->iY,of_mem_zip->iB,append_nil->iV,filterMap_cons->lC,getElem?_append_right->pU,forall_mem_cons->mz,mem_append->ji,take_length->kF,append_assoc->lj,mem_map_of_mem->nt,getElem?_zip_eq_some->sL,lookup_cons->lh,length_set->kq,mem_of_mem_drop->nV,getElem?_toArray->pM,length_replicate->pV,mem_iff_getElem?->qf,getD_eq_getElem?_getD->ui,getElem_mem->mA,range'->ic,mem_of_mem_take->pp,take_of_length_le->rn,mem_filterMap->oM,foldl_cons->my,length_filterMap_le->tW,contains_iff_mem->sS,take_add_one->oD,pairwise_cons->qc,length_cons->n0,drop_of_length_le->tO,drop_eq_getElem_cons->vM,mem_range'_1->qN,getElem?_set_self->vQ,foldl_append->rU,length_take_of_le->xD,getD->ja,forIn_cons->pi,zip_cons_cons->tY,filterMap_cons_some->zn,length_eq_zero_iff->zl,length_zip->sf,perm_ext_iff_of_nodup->FL,forall_mem_singleton->Eu,filterMap_eq_nil_iff->Fv,pairwise_map->wz,ext_getElem?->w4,filterMap_cons_none->Ds,sum_cons->sd,getElem?_range->zt,isEmpty_iff->vg,drop_take->t8,take_append_of_le_length->M8,range_succ_eq_map->B9,lookup_append->zh,take_append_drop->Fe,getElem?_set_ne->CJ,length->rX,length_zipWith->Er,map_take->xq,range_succ->Ag,mem_cons_self->BB,length_zipIdx->E4,drop_zero->y6,reverse_cons->Du,find?_cons_of_pos->Kd,find?_cons_of_neg->Kf,any_eq_false->DW,take_take->AP,nodup_nil->Ap,filterMap_append->LR,nodup_range->DF,mem_toArray->DK,zipIdx_cons->Ed,cons_ne_nil->Ej,range'_succ->El,range_eq_range'->JN,drop_append_of_le_length->acZ,mem_filter->BJ,nil_append->Dj,map_const'->Em,take_succ_cons->IQ,length_take_le->N3,zipWith->yG,getElem?_concat_length->acG,cons->ut,forIn_nil->BH,perm_append_singleton->acH,take_zero->Fd,getElem_range->Ml,mem_of_find?_eq_some->Xs,extract_eq_take_drop->Yt,mem_or_eq_of_mem_set->aba,pairwise_iff_getElem->acD,push_toArray->Lz,nodup_append->Mv,flatten_cons->Nt,contains_eq_any_beq->XZ,any_toArray->J',map_fst_zip->Kg,mem_flatMap->Le,getElem?_cons_succ->aaq,toArray->Ey,drop_eq_nil_of_le->abn,length_eq_one_iff->ab3,foldr_cons->Oy,length_filter_le->Vp,mem_append_right->ahc,extract_toArray->Yr,getElem?_zipIdx->aaL,drop_drop->M5,eraseDups_cons->Vo,filter_eq_self->Vr,append_toArray->Ys,findIdx?_cons->TN,zip_nil_right->Wq,length_range'->aa6,map_replicate->afg,all_map->Hu,take_sublist->aby,getElem?_set->adl,drop_zipWith->aes,mem_reverse->P8,any_eq_true->Um,map_reverse->VB,drop_length->YX,map_zipWith->aaG,getElem_map->agn,map_id->Ly,take_drop->ac2,map_drop->ack,map_nil->Y2,map_set->abd
open List.Pairwise renaming filterMap->acj,imp_of_mem->ai4,nil->ahT,imp->ah0
open List.cons renaming inj->tX
open Nat renaming le_trans->ag,le_add_right->cb,mul_le_mul_left->c8,le_of_lt->bS,le_of_eq->b6,lt_of_lt_of_le->eB,le_refl->cg,lt_of_le_of_lt->eD,add_le_add_right->gG,le_of_not_lt->fG,ne_of_lt->dB,zero_le->da,succ_le_succ->fT,le_of_succ_le->ip,add_le_add->fP,not_lt->dC,min_eq_left->gT,add_sub_cancel_left->nu,ne_of_gt->fK,lt_succ_self->ju,min_le_right->jX,add_le_add_left->lP,lt_irrefl->iM,min_le_left->kD,add_sub_of_le->lQ,le_succ_of_le->mr,le_add_left->lr,sub_le->gJ,add_assoc->ka,beq->eh,le_of_lt_succ->pe,lt_succ_of_lt->pQ,le_of_ble_eq_true->sV,add_comm->ll,div_le_self->oz,min_eq_right->p6,sub_pos_of_lt->ru,noConfusion->qg,add_right_comm->sY,zero_add->nc,mul_le_mul_right->u5,le_succ->md,lt_add_of_pos_right->yZ,exists_eq_add_of_le->AO,add_lt_add_left->wW,sub_add_cancel->wc,lt_succ_of_le->u6,div_le_div_right->AC,xor_zero->qG,succ_add->qM,min_self->rI,succ_pos->rQ,xor_assoc->uX,le_of_add_le_add_right->GE,zero_xor->t0,le_antisymm->yX,lt_of_le_of_ne->Ee,mul_div_cancel_left->Na,mul_comm->u4,le_of_succ_le_succ->JF,le_total->wN,le_sub_of_add_le'->M6,le_of_not_le->DT,max_le->uq,lt_of_not_le->EY,pow_le_pow_right->LV,not_succ_le_zero->NA,div_add_mod->Bx,le_max_left->EK,not_lt_zero->E5,mod_two_eq_zero_or_one->Wv,lt_of_add_lt_add_left->ac0,mul_add->zu,lt_of_succ_le->N7,succ_ne_self->I6,succ_pred_eq_of_pos->Uk,max_eq_right->L5,le_max_right->Mf,succ_ne_zero->MQ,zero_min->DR,le_min->zS,xor_self->F9,lt_trans->Ga,max_eq_left->L6,sub_eq_zero_of_le->Yv,le_sub_one_of_lt->ZS,sub_one_lt_of_lt->ZU,sub_le_sub_right->aay,mul_le_mul->L1,not_succ_le_self->adU,mod_lt->Bz,not_le->Dt,pos_of_ne_zero->Wx,lt_of_lt_of_eq->aaW,beq_refl->GB,min_zero->Lp,succ_min_succ->ZE,lt_or_ge->M7,log2_lt->JY,mul_pos->NL,add_mul->Ox,strongRecOn->Pr,ble->yc,succ->Et,sub_lt->Mk,sub_self->Ul,xor_comm->afC,zero_mul->agh,le_zero->Vn,one_pos->adH
open Nat.succ renaming inj->q6
open Ne renaming symm->iO
open Option renaming bind_eq_some_iff->cQ,map_eq_some_iff->lW,isNone_iff_eq_none->CW,map_some->AZ,map->yE,isSome_none->TK,getD_some->Up
open Option.some renaming inj->aN,injEq->ahN
open Prod renaming snd->wy
open PyProof.Rows renaming IntsAre->wY,AllBare->BP,unpackItems_tuple->ahF,getItem_tuple->aih
open PyProof.Rows.IntsAre renaming length->Z3
open PySem renaming wpAny_bind->aw,Shared->al,wpAny_pure->aV,Builtin->f8,NameKind->cz,Around->cJ,wpAny_of_eq->dW,World->cu,builtinLookup_eq_fast->jy,wpAny_specialOf->gh,Program->dE,typeLookup_type->jx,wpAny_field->gN,wpAny_holding->kA,wpAny_seqItems->lu,wpAny_rule->jv,CmpOp->fq,wpAny_call_entry->oj,Stmt->fQ,wpAny_typeOf->np,isTrue->iK,wpAny_newObj_type->qO,Flow->iJ,wpAny_isInstance->rH,IsPart->jw,Code->jN,isSubtype_type->rK,wpAny_setField_rec->wR,codeAny_builtin->wQ,wpAny_load->qT,Params->nP,Operator->pg,IsZip->mu,Arguments->td,Comprehension->va,plainId_quiet->wJ,entryFor_of_tree->zJ,ExcName->Bu,Scope->nQ,wpAny_letGo->wP,wpAny_pyIter_list->BM,slot_list_setitem->DQ,Walks->CH,wpAny_mkInt->zP,call_meets->zx,wpAny_attempt->D0,wpAny_onRaise->Eg,Keyword->uZ,leftWithCleanup_false_of_bare->Qw,wpAny_truthy_bool->G9,wpAny_sequenceKey->Kr,Result->uY,BoolOp->BE,sizeLine_eq->CB,wpAny_updateSeq->Ik,codeAny_of_tree->Kz,Fin->rM,markedBehindIn_of_false->Pz,slice_no_index->KT,callType_codes->KV,wpAny_listPart->K0,wpAny_newTuple->K8,wpAny_pyNext_list_item->Tt,wpAny_mkBytes->KX,wpAny_pyNext_list_end->Qn,WalksT->Iw,PyData->abq,wpAny_letTemporaryGo->Qf,call->vh,entry_list_setitem->XD,richCompare_gives->WX,slot_list_getitem->Xf,wpAny_mono->Kj,args_list_setitem->XE,object_init_meets->YQ,wpAny_enterFrame->PX,wpAny_askSetting->P3,wpAny_comp_letGo->P9,arm_assign_Tuple->TQ,assign_Subscript->Uj,wpAny_lookBehind->Xw,sliceIndices_raw->Yy,wpAny_pyIter_zip->Zd,exec_Assign_arm->PP,pushCells_keeps->Uu
open PySem.Arguments renaming mk->ahZ
open PySem.Around renaming under_plainId->wK,under_plain->aiu
open PySem.AutoIntOps renaming floordiv_1->ah5,rshift_1->ah7,rshift_2->ah8,iadd_0->aie,pow_0->ah1,pow_1->ah2,pow_4->ah3,add_0->ah',sub_0->aib,mul_0->aic,mod_1->aid
open PySem.BoolOp renaming And->ahA,Or->ahB
open PySem.Builtin renaming bitNot->zv,bitAnd->JW,bitXor->Wz,bitOr->WA,divisionGoesByPylong->ah6
open PySem.Builtin.Bytes renaming joined->uz,buffer?->zQ,takeBufferQuiet?->My,tooLong->DY,slotIsOwn->KG,payload->KH,sliced->Kv,decodersThatHold->Pl,fullReadOnly->abM,ownRelease->X7,subscript?->YA,exportsOf->X9,fitsIndex->Yb,joinLetGo->abO,bindOptional->air,takeBuffer?->aiL,sliceParts->aiv,exported->aip,payload?->ais,write->ait
open PySem.Builtin.Bytes.exported renaming match_1->aiq
open PySem.Builtin.Bytes.joinM renaming match_1->aiP
open PySem.Builtin.CallNodes.aCallNodeAt renaming match_1->Hm
open PySem.Builtin.Int renaming intBits->zw,intTooBig->ah4
open PySem.Builtin.List renaming listItems->KZ,listSubscript?->XF,listExtendWith->Z4,listTooLong->WL,listSameRef->YV,listSliceParts->aiw,listFitsIndex->ah9
open PySem.Builtin.PlaceNodes.calledBy renaming match_1->ahL
open PySem.Builtin.Range renaming rangeSize->T6
open PySem.Builtin.SmallTypes renaming nextOf->rN,newClass->Zl,newRecord->aiz,iterAll->aiy
open PySem.Calls renaming loadGlobal_builtin->ahE,loadGlobal_global->ahG,spliced_nil->ahC,docDef->ahK
open PySem.Challenge renaming rw_np0210_01->ai9
open PySem.Code renaming quiet_builtin->KO
open PySem.Env renaming kindOf->P7
open PySem.ExcName renaming means->BW
open PySem.F renaming slot_list_getattribute->Ms,slot_zip_next->Ek,sub_NoneType_bytes->J2,slot_NoneType_eq_refl->WT,called_zip->Lh,entry_object_init->YO,bm_called->KW,args_zip_next_1->Zc,entry_zip_next->Zb,slot_tuple_len->ZN,slot_int_rmul->WK,bm_plain->YS
open PySem.Flow renaming next->JJ
open PySem.Heap renaming get?_push_size->cV,lt_size->cR,get?_push_of_some->fy,SameBut->jh,size_push->ot,get?_update_self->vK,ExtBut->BG
open PySem.Heap.DictOf renaming new->aiK
open PySem.Heap.Ns renaming new->ahU
open PySem.Heap.SameBut renaming update->m6,refl->ahO
open PySem.Made renaming int->WD
open PySem.Manifest renaming sig_bytearray->ain,owners->aim
open PySem.NameKind renaming free->jW,cell->mf
open PySem.Obj renaming mapSeq->yU,mapBytearray->KI,data_mapFields->Zg,putName->Xv
open PySem.PyData renaming keyHash->zG
open PySem.Sem renaming wp_mono->yi,wp->Pm
open PySem.Shared renaming asleep_of_life->ahH,forget_eq->ahI,rest_eq->ahJ
open PySem.Str renaming ofString->be
open PySem.StrLaws renaming seqIndex_nonneg->aii
open PySem.Value renaming noConfusion->gS,ref->m8,bytes->rT,isInt->zE,str->zF,isStr->Xj,notImplemented->aif,builtin->aiG,int->ai6
open PySem.W renaming Frag->eF,typeIs_bytes->lp,GoodWG->pq,kms_lo->p4,kms_hi->p5,WData->vd,OpenLaw->Bs,Ground->yt,plainGet_of->Km,kms_bounds->Kw
open PySem.W.FB renaming slot_bytes_eq->J3,slot_bytes_getitem->XN,args_bytes_eq_2->WV,entry_bytes_eq->WU
open PySem.W.KBc renaming meets_slice2->ail
open PySem.W.KBmo renaming pre_take->aiA
open PySem.W.KBw renaming pyIter_bytes->TX,IsBytesIter->TY,walks->ahP
open PySem.W.KBy renaming buffer_eq->Ye,picked->XM,look_buffer->aiN,tooLong_not->aiS,special_eq->aiM,own_buffer->aiO,add_bytes->aia
open PySem.W.Looks renaming ld->aan
open PySem.W.OpenLaw renaming pre->ai8
open PySem.W.WData renaming layableAll->Hb
open PySem.W.WShape renaming hasItems->ahg,hasAll->ai7
open PySem.W.WTm renaming holds->ahi,value->ahk,eq->ahm
open PySem.W.chainOk renaming match_1->QL
open PySem.W.isNameExpr renaming match_1->B0
open PySem.W.isTupleDisplay renaming match_1->QI
open PySem.Walks renaming list->I1,tuple->ahQ,range->ahS
open PySem.WalksT renaming enumerate->Tu
open PySem.arm_assign_Subscript renaming match_1->QK
open Std.Legacy.Range renaming forIn_eq_forIn_range'->aiQ,size->aiR
open UInt8 renaming ofNat->kH,ofNat_toNat->aeh,toNat_xor->aaH
open PySem PySem.W PyProof.Rows
set_option Elab.async false
set_option linter.all false
set_option tactic.hygienic false
set_option genCtorIdx false
set_option bootstrap.genMatcherCode false
set_option compiler.extract_closed false
set_option maxRecDepth 1000000
set_option maxHeartbeats 8000000
namespace Mine.Internal
section
variable {A:cJ}{E Q:Value->al->Prop}{R:uY->al->Prop}{U:Addr->Prop}{a:Addr}{b:List UInt8}{e:Expr}{ac:Env}{es:List Expr}{fd:FuncData}{cn:List (List Nat)}{hs:List (Option (List UInt8))}{k:Nat}{ks:List uZ}{α:Type}{l:List α}{aY:List Nat}{ls:List Addr}{m aQ most:Nat}{names:List Str}{ns:List Int}{oct:List UInt8}{p:Nat}{aW:List (List UInt8)}{pos:Pos}{prog:dE}{ps:List (Int×Tok×Value)}{s s' s1:al}{scope:nQ}{target:Expr}{targets:List (Bool×(Value->Sem Unit))}{ak:List UInt8}{w:Nat}{ws:List (Nat×Nat)}{x:Str}{y:Value}{ys:List Value}{β:Type}
@[elab_as_elim] theorem aa{α:Sort _} {a b:α} {motive:α->Prop} (h:a=b) (x:motive b):motive a:=h▸x
@[elab_as_elim] theorem ao{α:Sort _} {a b:α} {motive:α->Prop} (h:b=a) (x:motive b):motive a:=h▸x
@[elab_as_elim] theorem aH{α β:Sort _} {a b:α} {c d:β} {motive:α->β->Prop} (h:a=b) (k:c=d) (x:motive b d):motive a c:=h▸k▸x
@[elab_as_elim] theorem Gs{α β:Sort _} {a b:α} {c d:β} {motive:α->β->Prop} (h:a=b) (k:d=c) (x:motive b d):motive a c:=h▸ao k x
@[elab_as_elim] theorem ahu{α β:Sort _} {a b:α} {c d:β} {motive:α->β->Prop} (h:b=a) (k:c=d) (x:motive b d):motive a c:=h▸k▸x
@[elab_as_elim] theorem sU{α β:Sort _} {a b:α} {c d:β} {motive:α->β->Prop} (h:b=a) (k:d=c) (x:motive b d):motive a c:=h▸ao k x
set_option genSizeOf false
set_option genSizeOfSpec false
inductive ab where
 | raw (v:Value)
 | int (i:Int)
 | bytes (b:List UInt8)
 | list (vs:List ab)
 | tuple (vs:List ab)
 | inst (C:Addr) (fs:List (Str×ab))
 | dict (ks:List Int) (vs:List ab)
 | lam (b:List UInt8)
variable {fs:List (Str×ab)}{items:List ab}{v:ab}{vs:List ab}
noncomputable abbrev ab.none:ab:= .raw .none
noncomputable abbrev ab.bool(b:Bool):ab:= .raw (.bool b)
noncomputable abbrev ab.ref(a:Addr):ab:= .raw (.ref a)
inductive ee where
 | list (vs:List ab)
 | di (b:List UInt8)
 | inst (C:Addr) (fs:List (Str×ab))
variable {o:ee}
noncomputable abbrev ar:=Addr->Option ee
variable {σ aF aR:ar}
inductive Tag where
 | none | dict (a:Addr) | frame (L:Addr) | tab
noncomputable abbrev bM:=Addr->Tag
variable {κ:bM}
theorem nn{C:Prop}{a:α}(h:none=some a):C:=nomatch h
theorem iH{α:Sort _}{p:α->Prop}{C:Prop}(h:∃a,p a)(k:∀a,p a->C):C:=h.elim λa h=>k a h
theorem aD{α:Sort _}{p q:α->Prop}{C:Prop}(h:∃a,p a/\q a)(k:∀a,p a->q a->C):C:=h.elim λa h=>k a h.1 h.2
theorem j'{α:Sort _}{p q r:α->Prop}{C:Prop}(h:∃a,p a/\q a/\r a)(k:∀a,p a->q a->r a->C):C:=h.elim λa h=>k a h.1 h.2.1 h.2.2
theorem qJ{α:Sort _}{p q r t:α->Prop}{C:Prop}(h:∃a,p a/\q a/\r a/\t a)(k:∀a,p a->q a->r a->t a->C):C:=h.elim λa h=>k a h.1 h.2.1 h.2.2.1 h.2.2.2
theorem ahv{α:Sort _}{p q r t u:α->Prop}{C:Prop}(h:∃a,p a/\q a/\r a/\t a/\u a)(k:∀a,p a->q a->r a->t a->u a->C):C:=h.elim λa h=>k a h.1 h.2.1 h.2.2.1 h.2.2.2.1 h.2.2.2.2
theorem ahw{α:Sort _}{p q r t u v:α->Prop}{C:Prop}(h:∃a,p a/\q a/\r a/\t a/\u a/\v a)(k:∀a,p a->q a->r a->t a->u a->v a->C):C:=h.elim λa h=>k a h.1 h.2.1 h.2.2.1 h.2.2.2.1 h.2.2.2.2.1 h.2.2.2.2.2
theorem Gu{α:Sort _}{β:Sort _}{p:α->β->Prop}{C:Prop}(h:∃a b,p a b)(k:∀a b,p a b->C):C:=h.elim λa h=>h.elim λb h=>k a b h
theorem jg{α:Sort _}{β:Sort _}{p q:α->β->Prop}{C:Prop}(h:∃a b,p a b/\q a b)(k:∀a b,p a b->q a b->C):C:=h.elim λa h=>h.elim λb h=>k a b h.1 h.2
theorem eV{α:Sort _}{β:Sort _}{p q r:α->β->Prop}{C:Prop}(h:∃a b,p a b/\q a b/\r a b)(k:∀a b,p a b->q a b->r a b->C):C:=h.elim λa h=>h.elim λb h=>k a b h.1 h.2.1 h.2.2
theorem eM{α:Sort _}{β:Sort _}{p q r t:α->β->Prop}{C:Prop}(h:∃a b,p a b/\q a b/\r a b/\t a b)(k:∀a b,p a b->q a b->r a b->t a b->C):C:=h.elim λa h=>h.elim λb h=>k a b h.1 h.2.1 h.2.2.1 h.2.2.2
theorem ahx{α:Sort _}{β:Sort _}{p q r t u:α->β->Prop}{C:Prop}(h:∃a b,p a b/\q a b/\r a b/\t a b/\u a b)(k:∀a b,p a b->q a b->r a b->t a b->u a b->C):C:=h.elim λa h=>h.elim λb h=>k a b h.1 h.2.1 h.2.2.1 h.2.2.2.1 h.2.2.2.2
theorem Pa{α:Sort _}{β:Sort _}{p q r t u v:α->β->Prop}{C:Prop}(h:∃a b,p a b/\q a b/\r a b/\t a b/\u a b/\v a b)(k:∀a b,p a b->q a b->r a b->t a b->u a b->v a b->C):C:=h.elim λa h=>h.elim λb h=>k a b h.1 h.2.1 h.2.2.1 h.2.2.2.1 h.2.2.2.2.1 h.2.2.2.2.2
theorem Gv{α:Sort _}{β:Sort _}{γ:Sort _}{p:α->β->γ->Prop}{C:Prop}(h:∃a b c,p a b c)(k:∀a b c,p a b c->C):C:=h.elim λa h=>h.elim λb h=>h.elim λc h=>k a b c h
theorem o9{α:Sort _}{β:Sort _}{γ:Sort _}{p q:α->β->γ->Prop}{C:Prop}(h:∃a b c,p a b c/\q a b c)(k:∀a b c,p a b c->q a b c->C):C:=h.elim λa h=>h.elim λb h=>h.elim λc h=>k a b c h.1 h.2
theorem Pb{α:Sort _}{β:Sort _}{γ:Sort _}{p q r:α->β->γ->Prop}{C:Prop}(h:∃a b c,p a b c/\q a b c/\r a b c)(k:∀a b c,p a b c->q a b c->r a b c->C):C:=h.elim λa h=>h.elim λb h=>h.elim λc h=>k a b c h.1 h.2.1 h.2.2
theorem qK{α:Sort _}{β:Sort _}{γ:Sort _}{p q r t:α->β->γ->Prop}{C:Prop}(h:∃a b c,p a b c/\q a b c/\r a b c/\t a b c)(k:∀a b c,p a b c->q a b c->r a b c->t a b c->C):C:=h.elim λa h=>h.elim λb h=>h.elim λc h=>k a b c h.1 h.2.1 h.2.2.1 h.2.2.2
theorem ahy{α:Sort _}{β:Sort _}{γ:Sort _}{p q r t u:α->β->γ->Prop}{C:Prop}(h:∃a b c,p a b c/\q a b c/\r a b c/\t a b c/\u a b c)(k:∀a b c,p a b c->q a b c->r a b c->t a b c->u a b c->C):C:=h.elim λa h=>h.elim λb h=>h.elim λc h=>k a b c h.1 h.2.1 h.2.2.1 h.2.2.2.1 h.2.2.2.2
theorem Pc{α:Sort _}{β:Sort _}{γ:Sort _}{p q r t u v:α->β->γ->Prop}{C:Prop}(h:∃a b c,p a b c/\q a b c/\r a b c/\t a b c/\u a b c/\v a b c)(k:∀a b c,p a b c->q a b c->r a b c->t a b c->u a b c->v a b c->C):C:=h.elim λa h=>h.elim λb h=>h.elim λc h=>k a b c h.1 h.2.1 h.2.2.1 h.2.2.2.1 h.2.2.2.2.1 h.2.2.2.2.2
theorem ahz{α:Sort _}{β:Sort _}{γ:Sort _}{δ:Sort _}{p:α->β->γ->δ->Prop}{C:Prop}(h:∃a b c d,p a b c d)(k:∀a b c d,p a b c d->C):C:=h.elim λa h=>h.elim λb h=>h.elim λc h=>h.elim λd h=>k a b c d h
theorem Bw{α:Sort _}{β:Sort _}{γ:Sort _}{δ:Sort _}{p q:α->β->γ->δ->Prop}{C:Prop}(h:∃a b c d,p a b c d/\q a b c d)(k:∀a b c d,p a b c d->q a b c d->C):C:=h.elim λa h=>h.elim λb h=>h.elim λc h=>h.elim λd h=>k a b c d h.1 h.2
theorem Gw{α:Sort _}{β:Sort _}{γ:Sort _}{δ:Sort _}{p q r:α->β->γ->δ->Prop}{C:Prop}(h:∃a b c d,p a b c d/\q a b c d/\r a b c d)(k:∀a b c d,p a b c d->q a b c d->r a b c d->C):C:=h.elim λa h=>h.elim λb h=>h.elim λc h=>h.elim λd h=>k a b c d h.1 h.2.1 h.2.2
theorem Gx{α:Sort _}{β:Sort _}{γ:Sort _}{δ:Sort _}{p q r t:α->β->γ->δ->Prop}{C:Prop}(h:∃a b c d,p a b c d/\q a b c d/\r a b c d/\t a b c d)(k:∀a b c d,p a b c d->q a b c d->r a b c d->t a b c d->C):C:=h.elim λa h=>h.elim λb h=>h.elim λc h=>h.elim λd h=>k a b c d h.1 h.2.1 h.2.2.1 h.2.2.2
theorem Pd{α:Sort _}{β:Sort _}{γ:Sort _}{δ:Sort _}{p q r t u:α->β->γ->δ->Prop}{C:Prop}(h:∃a b c d,p a b c d/\q a b c d/\r a b c d/\t a b c d/\u a b c d)(k:∀a b c d,p a b c d->q a b c d->r a b c d->t a b c d->u a b c d->C):C:=h.elim λa h=>h.elim λb h=>h.elim λc h=>h.elim λd h=>k a b c d h.1 h.2.1 h.2.2.1 h.2.2.2.1 h.2.2.2.2
theorem Gy{α:Sort _}{β:Sort _}{γ:Sort _}{δ:Sort _}{p q r t u v:α->β->γ->δ->Prop}{C:Prop}(h:∃a b c d,p a b c d/\q a b c d/\r a b c d/\t a b c d/\u a b c d/\v a b c d)(k:∀a b c d,p a b c d->q a b c d->r a b c d->t a b c d->u a b c d->v a b c d->C):C:=h.elim λa h=>h.elim λb h=>h.elim λc h=>h.elim λd h=>k a b c d h.1 h.2.1 h.2.2.1 h.2.2.2.1 h.2.2.2.2.1 h.2.2.2.2.2
theorem dP{p q C:Prop}(h:p/\q)(k:p->q->C):C:=k h.1 h.2
theorem pd{p q r C:Prop}(h:p/\q/\r)(k:p->q->r->C):C:=k h.1 h.2.1 h.2.2
theorem Gz{p q r t C:Prop}(h:p/\q/\r/\t)(k:p->q->r->t->C):C:=k h.1 h.2.1 h.2.2.1 h.2.2.2
theorem qL{p q r t u C:Prop}(h:p/\q/\r/\t/\u)(k:p->q->r->t->u->C):C:=k h.1 h.2.1 h.2.2.1 h.2.2.2.1 h.2.2.2.2
theorem GA{p q r t u v C:Prop}(h:p/\q/\r/\t/\u/\v)(k:p->q->r->t->u->v->C):C:=k h.1 h.2.1 h.2.2.1 h.2.2.2.1 h.2.2.2.2.1 h.2.2.2.2.2
theorem Pe{p q r t u v w C:Prop}(h:p/\q/\r/\t/\u/\v/\w)(k:p->q->r->t->u->v->w->C):C:=k h.1 h.2.1 h.2.2.1 h.2.2.2.1 h.2.2.2.2.1 h.2.2.2.2.2.1 h.2.2.2.2.2.2
theorem nb{a b:Nat}(h:yc a b=true):a≤b:=sV h
theorem ff{C:Prop}(h:false=true):C:=nomatch h
noncomputable def Tag.ix(t:Tag):Nat:=t.casesOn 0 (λJ=>1) (λJ=>2) 3
noncomputable def ab.ix(v:ab):Nat:=v.casesOn (λJ=>0) (λJ=>1) (λJ=>2) (λJ=>3) (λJ=>4) (λJ J=>5) (λJ J=>6) λJ=>7
theorem bZ{a b:Tag}{C:Prop}(e:a=b)(h:eh a.ix b.ix=false:=by rfl):C:=ff (h.symm.trans (ao e (GB _)))
def aj(σ:ar)(κ:bM)(a:Addr):Prop:=σ a=none/\κ a= .none
inductive sW(U:Addr->Prop)(h:Heap)(f:Addr)(c:Addr):Prop
 | mk (qual p q:Str) (scope:nQ) (pm ct:Value) (co:Addr) (ps p1 p2 p3:Pos) :
  h.get? f=some {cls:= .type "function",data:= .func (kla_fn "<lambda>" qual {posonlyargs:= [],args:= [{arg:=p,annotation:=none,pos:=ps}],vararg:=none,kwonlyargs:= [],kw_defaults:= [],kwarg:=none,defaults:= []}
   (.Compare (.Name p p1) [.Eq] [.Name q p2] p3) scope [(q,c)] pm (.ref co) ct)}->
  h.CodeRec (.ref co) qual->U co->(scope.kind= .function/\scope.isGenerator=false/\scope.isCoroutine=false/\scope.names= [(p, .local),(q, .free)]/\
  (p==("__debug__" :Str))=false/\(q==("__debug__" :Str))=false/\(q==("__classdict__" :Str))=false/\(p==q)=false)->sW U h f c
inductive Pf where
 | v (a:ab) (x:Value)
 | vs (l:List ab) (m:List Value)
 | fs (l:List (Str×ab)) (m:List DictEntry)
 | ds (k:List Int) (l:List ab) (m:List DictEntry)
class inductive VR (U:Addr->Prop) (h:Heap):Pf->Prop
 | raw (v:Value):VR U h (.v (.raw v) v)
 | int (i:Int) (t:Tok):VR U h (.v (.int i) (.int i t))
 | bytes (b:List UInt8) (t:Tok):VR U h (.v (.bytes b) (.bytes b.toArray t))
 | list {a:Addr} {vs:List ab} {items:List Value}:U a->h.IsList a items.toArray->VR U h (.vs vs items)->VR U h (.v (.list vs) (.ref a))
 | tuple {a:Addr} {vs:List ab} {items:List Value}:U a->h.IsTuple a items.toArray->VR U h (.vs vs items)->VR U h (.v (.tuple vs) (.ref a))
 | inst {a d C:Addr} {fs:List (Str×ab)} {es:List DictEntry} {n:Nat}:U a->U d->h.get? a=some (instObj C d)->h.get? d=some (dictOf es n)->VR U h (.fs fs es)->VR U h (.v (.inst C fs) (.ref a))
 | dict {a:Addr} {ks:List Int} {vs:List ab} {es:List DictEntry} {n:Nat}:U a->(a==sysModules)=false->h.get? a=some (dictOf es n)->ks.Nodup->VR U h (.ds ks vs es)->VR U h (.v (.dict ks vs) (.ref a))
 | lam {f c:Addr} {b:List UInt8} {t:Tok}:U f->U c->sW U h f c->h.IsCell c (some (.bytes b.toArray t))->VR U h (.v (.lam b) (.ref f))
 | nil:VR U h (.vs [] [])
 | cons {v:ab} {x:Value} {vs:List ab} {xs:List Value}:VR U h (.v v x)->VR U h (.vs vs xs)->VR U h (.vs (v::vs) (x::xs))
 | yd:VR U h (.fs [] [])
 | u0 {x:Str} {v:ab} {hs:Int} {t:Tok} {y:Value} {fs:List (Str×ab)} {es:List DictEntry}:VR U h (.v v y)->VR U h (.fs fs es)->VR U h (.fs ((x,v)::fs) (⟨hs, .str x t,y⟩::es))
 | GC:VR U h (.ds [] [] [])
 | GD {k:Int} {v:ab} {t:Tok} {y:Value} {ks:List Int} {vs:List ab} {es:List DictEntry}:VR U h (.v v y)->VR U h (.ds ks vs es)->VR U h (.ds (k::ks) (v::vs) (⟨hashInt k, .int k t,y⟩::es))
abbrev am(U:Addr->Prop)(h:Heap)(v:ab)(x:Value):Prop:=VR U h (.v v x)
abbrev aO(U:Addr->Prop)(h:Heap)(v:List ab)(x:List Value):Prop:=VR U h (.vs v x)
abbrev gz(U:Addr->Prop)(h:Heap)(v:List (Str×ab))(x:List DictEntry):Prop:=VR U h (.fs v x)
abbrev sX(U:Addr->Prop)(h:Heap)(k:List Int)(v:List ab)(x:List DictEntry):Prop:=VR U h (.ds k v x)
def c7(U:Addr->Prop)(h:Heap)(U':Addr->Prop)(h':Heap):Prop:=∀a o,U a->h.get? a=some o->U' a/\h'.get? a=some o
theorem c7.refl{U h}:c7 U h U h:=λJ J u e=>⟨u,e⟩
theorem c7.trans{U h U' h' U'' iI}(x:c7 U h U' h')(y:c7 U' h' U'' iI):c7 U h U'' iI:=λa o u e=>dP (x a o u e) λu' e'=>y a o u' e'
theorem isList_stays{U h U' h'}(S:c7 U h U' h'){a items}(u:U a)(x:h.IsList a items):h'.IsList a items:=aD x λo e r=>⟨o,(S a o u e).2,r⟩
theorem Pg{U h U' h'}(S:c7 U h U' h'){a items}(u:U a)(x:h.IsTuple a items):h'.IsTuple a items:=aD x λo e r=>⟨o,(S a o u e).2,r⟩
theorem Ph{U h U' h'}(S:c7 U h U' h'){a v}(u:U a)(x:h.IsCell a v):h'.IsCell a v:=aD x λo e r=>⟨o,(S a o u e).2,r⟩
theorem ye{d c n:Nat}(h:d+c*(n+1)≤m)(q:k≤c):d+k+c*n≤m:=ag (ag (b6 (sY ..)) (ag (lP q _) (b6 (ka ..)))) h
theorem sZ{a c:Nat}(h:a+(k+1)<c):a<c:=eD (cb ..) h
theorem yf{a c:Nat}(h:a+(k+1)<c):a+1+k<c:=qM a k▸h
theorem Pi{a b S:Nat}(h:4≤S)(q:a+b≤S - 4):2+a+b≤S:=ag (b6 (ka ..)) (ag (fP (by decide:2≤4) q) (b6 (lQ h)))
theorem Pj(n:Nat):n≤(n+3) / 4*4:=GE (b:=3) (ag (b6 (Bx (n+3) 4).symm) (fP (b6 (u4 ..)) (pe (Bz _ (nb rfl)))))
theorem Pk{s x n:Nat}(hp:1≤x)(h:s+x≤(n+3) / 4):s*4<n:=GE (b:=3) (ao (Nat.succ_mul s 4) (ag (u5 4 (ag (lP hp s) h)) (Nat.div_mul_le_self ..)))
theorem GF{n:Nat}(h:2≤n)(h6:n≤6):n∈ [2,3,4,5,6]:=(qN.mpr ⟨h,u6 h6⟩:n∈ic 2 5)
theorem GG{n:Nat}(h:1≤n)(h6:n≤3):n∈ [1,2,3]:=(qN.mpr ⟨h,u6 h6⟩:n∈ic 1 3)
theorem GH{x:Int}(h:0≤x):¬ 0≤ -x - 1:=by lia
theorem yg{U h U' h'}(S:c7 U h U' h'){co:Addr}{q:Str}(u:U co)(x:h.CodeRec (.ref co) q):U' co/\h'.CodeRec (.ref co) q:=by
 obtain ⟨c,o,vs,t,e,e1,r⟩:=x;cases e;exact ⟨(S _ _ u e1).1,_,o,vs,t,rfl,(S _ _ u e1).2,r⟩
theorem yh{U h U' h'}(S:c7 U h U' h'){co:Addr}{q:Str}(u:U co)(x:h.CodeRec (.ref co) q):h'.CodeRec (.ref co) q:=(yg S u x).2
theorem sW.bd{U h U' h'}(S:c7 U h U' h'){f c:Addr}(u:U f)(x:sW U h f c):U' f/\sW U' h' f c :=
 x.casesOn λqual p q scope pm ct co ps p1 p2 p3 e hc hu r=>⟨(S _ _ u e).1,qual,p,q,scope,pm,ct,co,ps,p1,p2,p3,(S _ _ u e).2,(yg S hu hc).2,(yg S hu hc).1,r⟩
theorem BA{U h U' h'}(S:c7 U h U' h'){P:Obj->Prop}(u:U a)(x:∃o,h.get? a=some o/\P o):U' a:=aD x λJ e J=>(S _ _ u e).1
section
variable{U:Addr->Prop}{h:Heap}{U':Addr->Prop}{h':Heap}(S:c7 U h U' h')
include S
theorem VR.mono{i}(r:VR U h i):VR U' h' i :=
 r.rec (motive:=λi J=>VR U' h' i) .raw .int .bytes
 (λu hl J r=> .list (BA S u hl) (isList_stays S u hl) r) (λu hl J r=> .tuple (BA S u hl) (Pg S u hl) r)
 (λu ud e ed J r=> .inst (S _ _ u e).1 (S _ _ ud ed).1 (S _ _ u e).2 (S _ _ ud ed).2 r) (λu lo e nd J r=> .dict (S _ _ u e).1 lo (S _ _ u e).2 nd r)
 (λu uc e r=> .lam (e.bd S u).1 (BA S uc r) (e.bd S u).2 (Ph S uc r)) .nil (λJ J a b=> .cons a b) .yd (λJ J a b=> .u0 a b) .GC (λJ J a b=> .GD a b)
end
section
variable{U:Addr->Prop}{h:Heap}
theorem aO.ind{P:List ab->List Value->Prop}(nil:P [] [])(cons:∀{v x vs xs},am U h v x->aO U h vs xs->P vs xs->P (v::vs) (x::xs)){vs xs}(r:aO U h vs xs):P vs xs :=
 r.rec (motive:=λi J=>i.rec (λJ J=>True) P (λJ J=>True) λJ J J=>True) (λJ=>⟨⟩) (λJ J=>⟨⟩) (λJ J=>⟨⟩) (λJ J J J=>⟨⟩) (λJ J J J=>⟨⟩) (λJ J J J J J=>⟨⟩) (λJ J J J J J=>⟨⟩) (λJ J J J=>⟨⟩) nil (λa b J d=>cons a b d) ⟨⟩ (λJ J J J=>⟨⟩) ⟨⟩ λJ J J J=>⟨⟩
theorem VR.length{vs xs}(r:aO U h vs xs):vs.length=xs.length:=r.ind (P:=λvs xs=>vs.length=xs.length) rfl λJ J e=>congrArg (λz=>z +1) e
theorem VR.get{xs:List Value}(r:aO U h vs xs):∀{i:Nat} {v:ab},vs[i]? =some v->∃x:Value,xs[i]? =some x/\am U h v x :=
 r.ind (P:=λvs xs=>∀{i:Nat} {v:ab},vs[i]? =some v->∃x:Value,xs[i]? =some x/\am U h v x) nn λa J ih i J=>i.casesOn (λe=>⟨_,rfl,ao (aN e) a⟩) λJ e=>ih e
theorem VR.append{vs xs fo xs'}(r:aO U h vs xs)(r':aO U h fo xs'):aO U h (vs++fo) (xs++xs'):=r.ind (P:=λvs xs=>aO U h (vs++fo) (xs++xs')) r' λa J q=> .cons a q
theorem VR.one{v x}(r:am U h v x):aO U h [v] [x]:= .cons r .nil
theorem VR.set{vs xs}(r:aO U h vs xs){i:Nat}{v x}(e:am U h v x):aO U h (vs.set i v) (xs.set i x) :=
 r.ind (P:=λvs xs=>∀i,aO U h (vs.set i v) (xs.set i x)) (λJ=> .nil) (λa q ih i=>i.casesOn (.cons e q) λi=> .cons a (ih i)) i
theorem VR.drop{vs xs}(r:aO U h vs xs)(n:Nat):aO U h (vs.drop n) (xs.drop n) :=
 r.ind (P:=λvs xs=>∀n,aO U h (vs.drop n) (xs.drop n)) (λn=>n.casesOn .nil λJ=> .nil) (λa q ih n=>n.casesOn (.cons a q) ih) n
theorem VR.take{vs xs}(r:aO U h vs xs)(n:Nat):aO U h (vs.take n) (xs.take n) :=
 r.ind (P:=λvs xs=>∀n,aO U h (vs.take n) (xs.take n)) (λn=>n.casesOn .nil λJ=> .nil) (λa q ih n=>n.casesOn .nil λn=> .cons a (ih n)) n
def GI(U:Addr->Prop)(h:Heap)(v:ab)(x:Value):Prop:=match v with
 | .raw v=>x=v
 | .int i=>∃t,x= .int i t
 | .bytes b=>∃t,x= .bytes b.toArray t
 | .list vs=>∃a items,x= .ref a/\U a/\h.IsList a items.toArray/\aO U h vs items
 | .tuple vs=>∃a items,x= .ref a/\U a/\h.IsTuple a items.toArray/\aO U h vs items
 | .inst C fs=>∃a d es n,x= .ref a/\U a/\U d/\h.get? a=some (instObj C d)/\h.get? d=some (dictOf es n)/\gz U h fs es
 | .dict ks vs=>∃a es n,x= .ref a/\U a/\(a==sysModules)=false/\h.get? a=some (dictOf es n)/\ks.Nodup/\sX U h ks vs es
 | .lam b=>∃f c t,x= .ref f/\U f/\U c/\sW U h f c/\h.IsCell c (some (.bytes b.toArray t))
theorem VR.inv{v x}(r:am U h v x):GI U h v x :=
 r.casesOn (motive:=λi J=>i.rec (GI U h) (λJ J=>True) (λJ J=>True) λJ J J=>True) (λJ=>rfl) (λJ t=>⟨t,rfl⟩) (λJ t=>⟨t,rfl⟩) (λu l r=>⟨_,_,rfl,u,l,r⟩) (λu l r=>⟨_,_,rfl,u,l,r⟩) (λa b c d e=>⟨_,_,_,_,rfl,a,b,c,d,e⟩) (λa b c d e=>⟨_,_,_,rfl,a,b,c,d,e⟩) (λa b c d=>⟨_,_,_,rfl,a,b,c,d⟩) ⟨⟩ (λJ J=>⟨⟩) ⟨⟩ (λJ J=>⟨⟩) ⟨⟩ λJ J=>⟨⟩
def GJ(U:Addr->Prop)(h:Heap)(l:List ab)(m:List Value):Prop:=l.casesOn (m= []) λv vs=>∃y zs,m=y::zs/\am U h v y/\aO U h vs zs
theorem VR.linv{v x}(r:aO U h v x):GJ U h v x :=
 r.casesOn (motive:=λi J=>i.rec (λJ J=>True) (GJ U h) (λJ J=>True) λJ J J=>True) (λJ=>⟨⟩) (λJ J=>⟨⟩) (λJ J=>⟨⟩) (λJ J J=>⟨⟩) (λJ J J=>⟨⟩) (λJ J J J J=>⟨⟩) (λJ J J J J=>⟨⟩) (λJ J J J=>⟨⟩) rfl (λa b=>⟨_,_,rfl,a,b⟩) ⟨⟩ (λJ J=>⟨⟩) ⟨⟩ λJ J=>⟨⟩
theorem VR.nil_inv{ys}(r:aO U h [] ys):ys= []:=r.linv
theorem VR.cons_inv{v vs ys}(r:aO U h (v::vs) ys):∃y zs,ys=y::zs/\am U h v y/\aO U h vs zs:=r.linv
@[elab_as_elim] theorem VR.n{motive:List Value->Prop} {ys} (r:aO U h [] ys) (k:motive []):motive ys:=aa r.nil_inv k
@[elab_as_elim] theorem VR.c{motive:List Value->Prop} {v vs ys} (r:aO U h (v::vs) ys) (k:∀y zs,am U h v y->aO U h vs zs->motive (y::zs)):motive ys:=eV r.cons_inv λy zs e a b=>aa e (k y zs a b)
@[elab_as_elim] theorem VR.c1{motive:List Value->Prop} {v ys} (r:aO U h [v] ys) (k:∀y,am U h v y->motive [y]):motive ys:=r.c λy J a b=>b.n (k y a)
theorem VR.int_inv{i x}(r:am U h (.int i) x):∃t,x= .int i t:=r.inv
theorem VR.mN{b x}(r:am U h (.bytes b) x):∃t,x= .bytes b.toArray t:=r.inv
theorem VR.bU{v x}(r:am U h (.raw v) x):x=v:=r.inv
end
section
variable {elts:List Expr}{orelse:List fQ}{r:Expr}{dF:List Expr}{kS value:Expr}{tb:Sem Value}
noncomputable def lR:List String:=Pl++ ["bytearray.__contains__","bytearray.__mod__","bytearray.__rmod__","_struct.pack_into.held","bytearray.find.held"]
noncomputable def nR(c:jN):Bool:=c.casesOn (λJ J=>true) (λid J=> !lR.contains id) (λJ J=>true) (λJ J=>true) (λJ J J=>true) (λJ J J J J=>true) (λJ J=>true) (λJ J=>true) (λJ J J J=>true) (λJ J J J J=>true) (λJ J J J J=>true) (λJ J J J J=>true) λJ J J J J=>true
def Clean(l:List (jN×Pos)):Prop:=∀x∈l,nR x.1=true
theorem Clean.push{c:jN}{p:Pos}{l:List (jN×Pos)}(h:Clean l)(hc:nR c=true):Clean ((c,p)::l):=λx hx=>by
 rcases br.mp hx with rfl | hx
 ·exact hc
 ·exact h x hx
def ai(M:Model)(A:cJ)(t:Sem α)(Q:α->al->Prop)(E:Value->al->Prop)(s:al):Prop :=
 ∀Γ p,Γ.In A->Clean ((Γ.code,p)::Γ.below)->Pm M Γ t (λa J s'=>Q a s') (λe J s'=>E e s') p s
def dp(M:Model)(A:cJ)(c:jN)(R:uY->al->Prop)(s:al):Prop :=
 ∀Γ p,Γ.code=c->Γ.Below A->Clean Γ.below->wpCode M Γ R p s
section
variable{α β:Type}{M:Model}{A:cJ}{E:Value->al->Prop}{s:al}{ac:Env}
theorem ba{t:Sem α}{Q:α->al->Prop}(h:wpAny M A t Q E s):ai M A t Q E s:=λΓ p dL _=>h Γ p dL
theorem GK{c:jN}(h:codeAny M A c R s):dp M A c R s:=λΓ p hc dL _=>h Γ p hc dL
theorem Clean.at{Γ:Ctx}{p:Pos}(h:Clean ((Γ.code,p)::Γ.below))(p':Pos):Clean ((Γ.code,p')::Γ.below):=λx hx=>by
 rcases br.mp hx with rfl | hx
 ·exact h (Γ.code,p) BB
 ·exact h x (List.mem_cons_of_mem _ hx)
theorem aZ{t:Sem α}{Q Q':α->al->Prop}{E':Value->al->Prop}(h:ai M A t Q E s)(hQ:∀a s,Q a s->Q' a s)(hE:∀e s,E e s->E' e s):ai M A t Q' E' s :=
 λΓ p dL hc=>yi M Γ t (λa J s=>hQ a s) (λe J s=>hE e s) p s (h Γ p dL hc)
theorem aq{m:Sem α}{f:α->Sem β}{Q:β->al->Prop}(h:ai M A m (λa s'=>ai M A (f a) Q E s') E s):ai M A (m>>=f) Q E s:=λΓ p dL hc=>by
 exact aa (Sem.wp_bind' ..) (yi M Γ m (λa p' s' h'=>h' Γ p' dL (hc.at p')) (λJ J J h'=>h') p s (h Γ p dL hc))
theorem nS{m:Sem α}{k:Value->Sem Unit}{Q:α->al->Prop}(h:ai M A m Q (λJ J=>False) s):ai M A (m.onRaise k) Q E s:=λΓ p dL hc=>by
 exact aa (Sem.wp_onRaise ..) (yi M Γ m (λJ J J h'=>h') (λe p' s' h'=>h'.elim) p s (h Γ p dL hc))
theorem Pn{m:Sem α}{Q:Except Value α->al->Prop}(h:ai M A m (λa=>Q (.ok a)) (λe=>Q (.error e)) s):ai M A m.attempt Q E s:=λΓ p dL hc=>by
 exact aa (Sem.wp_attempt ..) (h Γ p dL hc)
theorem bH{vs:List Value}{m:Sem α}{Q:α->al->Prop}(h:ai M A m Q E s):ai M A (holding vs m) Q E s:=λΓ p dL hc=>by
 exact aa (Sem.wp_holding ..) (h Γ p dL hc)
theorem Po{vs:List Value}{m:Sem α}{Q:α->al->Prop}(h:ai M A m Q E s):ai M A (m.keep vs) Q E s:=λΓ p dL hc=>by
 exact aa (Sem.wp_keep ..) (h Γ p dL hc)
theorem tc{vs:List Value}{m:Sem Value}(h:ai M A m Q E s):ai M A (operate vs m) Q E s:=λΓ p dL hc=>by
 exact aa (Sem.wp_operate ..) (h Γ p dL hc)
theorem GL{v:Value}{Q:Unit->al->Prop}(h:ai M A (storeName ac x v) Q E s):ai M A (bindName ac x v) Q E s:=λΓ p dL hc=>by
 exact aa (Sem.wp_bindName ..) (h Γ p dL hc)
theorem aM{a:α}{Q:α->al->Prop}(h:Q a s):ai M A (pure a) Q E s:=λJ J J J=>h
theorem cy{Q:Unit->al->Prop}(h:Q () s):ai M A (standAt pos) Q E s:=λJ J J J=>h
theorem yj{tag:String}{Q:Unit->al->Prop}(h:Q () s):ai M A (rule tag) Q E s:=λJ J J J=>h
theorem BC{Q:Unit->al->Prop}(h:Q () s):ai M A point Q E s:=λJ J J J=>h
theorem Pp{Q:Tok->al->Prop}(h:Q s.toks {s with toks:=s.toks+1}):ai M A fresh Q E s:=λJ J J J=>h
theorem u7{t:Sem α}{a:α}{Q:α->al->Prop}(h:t=pure a)(hQ:Q a s):ai M A t Q E s:=h▸aM hQ
theorem bG{m:Sem α}{f:α->Sem β}{a:α}{Q:β->al->Prop}(h:∀{Q:α->al->Prop},Q a s'->wpAny M A m Q E s)(k:wpAny M A (f a) Q E s'):wpAny M A (m>>=f) Q E s:=aw (h k)
theorem kT{m:Sem α}{f:α->Sem β}{a:α}{Q:β->al->Prop}(h:∀{Q:α->al->Prop},Q a s'->wpAny M A m Q E s)(k:ai M A (f a) Q E s'):ai M A (m>>=f) Q E s:=aq (ba (h k))
theorem fH{m:Sem α}{f:α->Sem β}{a:α}{Q:β->al->Prop}(h:∀{Q:α->al->Prop},Q a s'->ai M A m Q E s)(k:ai M A (f a) Q E s'):ai M A (m>>=f) Q E s:=aq (h k)
theorem yk{c:jN}{R':uY->al->Prop}(h:dp M A c R s)(hR:∀r s,R r s->R' r s):dp M A c R' s:=λΓ p hc dL hcl=>wpCode_mono hR (h Γ p hc dL hcl)
theorem GM{c:jN}{h:Option Value}{Q:iJ->al->Prop}(hc:dp M (A.mark h) c (λr s'=>match r with | .ok f=>Q f s' | .error e=>E e s') s)(BD:h≠some byPass:=by intro x;cases x):ai M A (run c h) Q E s :=
 λΓ p dL hcl=>aa (Sem.wp_run ..) (hc _ p rfl (dL.enter c h p BD) hcl)
theorem Pq{c:jN}(hc:dp M A c (λr s'=>match r with | .ok (.ret v)=>Q v s' | .ok _=>False | .error e=>E e s') s):ai M A (runValue c) Q E s :=
 λΓ p dL hcl=>aa (Sem.wp_runValue ..) (hc _ p rfl (dL.enter c none p (by intro x;cases x)) hcl)
theorem pf{f:Value}{pos:List Value}{kw:List (Str×Value)}(hc:dp M A (.call f ⟨pos,kw⟩) (λr s'=>match r with | .ok (.ret v)=>Q v s' | .ok _=>False | .error e=>E e s') s):ai M A (call f pos kw) Q E s:=Pq hc
theorem GN{c:jN}{h:Option Value}{Q:iJ->al->Prop}(hc:dp M (A.mark h) c (λr s'=>match r with | .ok f=>Q f s' | .error _=>False) s)(BD:h≠some byPass:=by intro x;cases x):ai M A (runOwn c ac h) Q E s:=by
 unfold runOwn;exact nS (GM (yk hc λr s' q=>by cases r<;>exact q) BD)
theorem kU{c:jN}(er:nR c=true)
  (h:ai M (A.under c) (M.den c) (λbf s'=>match bf with | .done f=>R (.ok f) s' | .again c'=>c'.quiet=true/\dp M A c' R s') (λe s'=>R (.error e) s') s):dp M A c R s:=λΓ p hc dL hcl=>by
 rewrite [wpCode_iff_wp];refine aa hc ?_;refine yi M Γ _ (λbf p' s' h'=> ?_) (λJ J J h'=>h') p s (h Γ p (hc▸dL.in) (hcl.push (hc▸er)));cases bf with
 | done f=>exact h'
 | again c'=>exact ⟨h'.1,h'.2 (Γ.goto c') p' rfl (dL.goto c') hcl⟩
theorem GO{c:jN}(er:nR c=true)(hq:c.quiet=true)(I:Nat->al->Prop)
  (turn:∀n s,I n s->ai M (A.under c) (M.den c)
   (λbf s'=>match bf with | .done f=>R (.ok f) s' | .again c'=>(c'=c/\∃m,m<n/\I m s')∨(c'.quiet=true/\dp M A c' R s')) (λe s'=>R (.error e) s') s)
  (n:Nat) (h:I n s):dp M A c R s:=by
 induction n using Pr generalizing s with
 | ind n ih =>
  refine kU er (aZ (turn n s h) (λbf s' hf=> ?_) λJ J h'=>h');cases bf with
  | done f=>exact hf
  | again c' =>
   rcases hf with ⟨rfl,m,hm,hI⟩ | hf
   ·exact ⟨hq,ih m hm hI⟩
   ·exact hf
theorem GP{c:jN}(er:nR c=true)(hq:c.quiet=true)(I:Nat->al->Prop)
  (turn:∀n s,I n s->ai M (A.under c) (M.den c) (λbf s'=>match bf with | .done f=>R (.ok f) s' | .again c'=>c'=c/\∃m,m<n/\I m s') (λe s'=>R (.error e) s') s)
  (n:Nat) (h:I n s):dp M A c R s :=
 GO er hq I (λn s hI=>aZ (turn n s hI) (λbf s' q=>by cases bf<;>first | exact q | exact .inl q) λJ J x=>x) n h
theorem Ps
  (h:ai M A (spliced (backTo pos (starEach elts ac))) (λvs az=>vs.length≤sizeLine/\Q (.ref az.heap.objs.size) {az with heap:=az.heap.push {cls:= .type "tuple",data:= .seq vs.toArray}}) E s):ai M A (eval (.Tuple elts k pos) ac) Q E s:=by
 exact aa (arm_eval_Tuple ..) (aq (cy (aq (aZ h (λvs az bh=>ba (qO bh.2 (by show vs.toArray.size≤sizeLine;refine aa fI ?_;exact bh.1))) λJ J x=>x))))
theorem Pu
  (h:ai M A (spliced (backTo pos (starEach elts ac))) (λvs az=>vs.length≤sizeLine/\Q (.ref az.heap.objs.size) {az with heap:=az.heap.push {cls:= .type "list",data:= .seq vs.toArray}}) E s):ai M A (eval (.List elts pos) ac) Q E s:=by
 exact aa (arm_eval_List ..) (aq (cy (aq (aZ h (λvs az bh=>ba (qO bh.2 (by show vs.toArray.size≤sizeLine;refine aa fI ?_;exact bh.1))) λJ J x=>x))))
theorem Pv{lower upper step:Option Expr}{p:Pos}
  (h:ai M A (evalPart lower ac) (λl az=>ai M A (evalPart upper ac) (λu bp=>ai M A (evalPart step ac) (λst cF =>
   Q (.ref cF.heap.objs.size) {cF with heap:=cF.heap.push {cls:= .type "slice",data:= .fields #[l,u,st]}}) E bp) E az) E s):ai M A (eval (.Slice lower upper step p) ac) Q E s:=by
 refine aa (arm_eval_Slice ..) (aq (aZ h (λl az bh=>aq (bH (aZ bh (λu bp bD=>aq (bH (aZ bD (λst cF eE=> ?_) λJ J x=>x))) λJ J x=>x))) λJ J x=>x));exact ba (qO eE)
theorem yl(h:ai M A (loadName ac x) Q E s)(hd:(x==("__debug__" :Str))=false:=by decide):ai M A (eval (.Name x pos) ac) Q E s:=by
 exact aa (eval_Name ac x pos hd) (aq (cy h))
theorem Pw{c:Bool}{a b:Sem α}{Q:α->al->Prop}(hc:c=false)(h:ai M A b Q E s):ai M A (if c=true then a else b) Q E s:=by subst hc;exact h
theorem Calls.Name_function_global(hk:ac.scope.kind= .function)(hx:ac.kindOf x=some .globalImplicit)(h:ai M A (loadGlobal ac x) Q E s)(hd:(x==("__debug__" :Str))=false:=by decide) :
  ai M A (eval (.Name x pos) ac) Q E s:=by
 refine yl ?_ hd;unfold loadName;refine Pw (by refine aa hk ?_;rfl) ?_;exact aH hx (show ac.blockKind= .function by unfold Env.blockKind;rw [hk];rfl) h
theorem Px{body orelse:Expr}
  (h:ai M A (isTrue kS ac (eval kS ac)) (λb az=>if b then ai M A (eval body ac) Q E az else ai M A (eval orelse ac) Q E az) E s):ai M A (eval (.IfExp kS body orelse pos) ac) Q E s:=by
 refine aa (arm_eval_IfExp ..) (aq (aZ h (λb az bh=> ?_) λJ J x=>x));cases b<;>exact bh
theorem GQ{op:UnaryOp}{x:Expr}(h:ai M A (eval x ac) (λv az=>ai M A (unaryOp op v) Q E az) E s):ai M A (eval (.UnaryOp op x pos) ac) Q E s:=by
 exact aa (arm_eval_UnaryOp ..) (aq (aZ h (λv az bh=>aq (cy (bH bh))) λJ J x=>x))
theorem Py{l:Expr}{op:pg}(h:ai M A (eval l ac) (λa az=>ai M A (eval r ac) (λb bp=>ai M A (binaryOp op a b) Q E bp) E az) E s):ai M A (eval (.BinOp l op r pos) ac) Q E s:=by
 exact aa (eval_BinOp ..) (aq (aZ h (λa az bh=>aq (bH (aZ bh (λb bp bD=>aq (cy (tc bD))) λJ J x=>x))) λJ J x=>x))
theorem GR{l:Expr}{op:fq}(h:ai M A (eval l ac) (λa az=>ai M A (eval r ac) (λb bp=>ai M A (compareOp op a b) Q E bp) E az) E s)(hm:behindInMarks op r=false) :
  ai M A (eval (.Compare l [op] [r] pos) ac) Q E s:=by
 refine aa (eval_Compare1 ..) (aa (Pz hm) ?_);exact aq (aZ h (λa az bh=>aq (bH (aZ bh (λb bp bD=>aq (cy (tc bD))) λJ J x=>x))) λJ J x=>x)
theorem PA{l:Expr}{op:fq}{Q:Bool->al->Prop}
  (h:ai M A (eval l ac) (λa az=>ai M A (eval r ac) (λb bp=>ai M A (compareOp op a b) (λc cF=>ai M A (truthy c) Q E cF) E bp) E az) E s) (hm:behindInMarks op r=false):ai M A (isTrue (.Compare l [op] [r] pos) ac tb) Q E s:=by
 refine aa (isTrue_Compare1 ..) (aa (Pz hm) ?_);exact aq (aZ h (λa az bh=>aq (bH (aZ bh (λb bp bD=>aq (cy (aq (tc (aZ bD (λc cF eE=>bH eE) λJ J x=>x))))) λJ J x=>x))) λJ J x=>x)
theorem PB{x:Expr}{Q:Bool->al->Prop}(h:ai M A (isTrue x ac (eval x ac)) (λb az=>Q (!b) az) E s):ai M A (isTrue (.UnaryOp .Not x pos) ac tb) Q E s:=by
 exact aa (arm_isTrue_UnaryOp ..) (aq (aZ h (λb az bh=>aM bh) λJ J x=>x))
theorem PC{op:BE}{GS:List Expr}{Q:Bool->al->Prop}(h:ai M A (allTrue op GS ac) Q E s):ai M A (isTrue (.BoolOp op GS pos) ac tb) Q E s:=aa (arm_isTrue_BoolOp ..) h
theorem PD{x:Expr}{Q:Bool->al->Prop}
  (h:ai M A (isTrue x ac (eval x ac)) (λb az=>if b then ai M A (allTrue .And dF ac) Q E az else Q false az) E s):ai M A (allTrue .And (x::dF) ac) Q E s:=by
 refine (?_:ai M A (do match ahA,<-isTrue x ac (eval x ac) with | .And,false=>pure false | .Or,true=>pure true | _,_=>allTrue .And dF ac) Q E s);refine aq (aZ h (λb az bh=> ?_) λJ J x=>x);cases b
 ·exact aM bh
 ·exact bh
theorem PE{x:Expr}{Q:Bool->al->Prop}
  (h:ai M A (isTrue x ac (eval x ac)) (λb az=>if b then Q true az else ai M A (allTrue .Or dF ac) Q E az) E s):ai M A (allTrue .Or (x::dF) ac) Q E s:=by
 refine (?_:ai M A (do match ahB,<-isTrue x ac (eval x ac) with | .And,false=>pure false | .Or,true=>pure true | _,_=>allTrue .Or dF ac) Q E s);refine aq (aZ h (λb az bh=> ?_) λJ J x=>x);cases b
 ·exact bh
 ·exact aM bh
theorem PF{Q:List Value->al->Prop}
  (h:ai M A (eval e ac) (λv az=>ai M A (spliced (backTo pos (starEach dF ac))) (λvs bp=>Q (v::vs) bp) E az) E s)
  (he:starEach (e::dF) ac=(false,eval e ac)::starEach dF ac:=by rfl):ai M A (spliced (backTo pos (starEach (e::dF) ac))) Q E s:=by
 refine aa he ?_
 show ai M A (do
  let v<-eval e ac
  let here<-(pure [v]:Sem (List Value))
  return here++(<-holding here (spliced (backTo pos (starEach dF ac))))) Q E s
 exact aq (aZ h (λv az bh=>aq (aM (aq (bH (aZ bh (λvs bp bD=>aM bD) λJ J x=>x))))) λJ J x=>x)
theorem PG{x:Sem Value}{dF:List (Sem Value)}{Q:List Value->al->Prop}(h:ai M A x (λv az=>ai M A (evalAll dF) (λvs bp=>Q (v::vs) bp) E az) E s):ai M A (evalAll (x::dF)) Q E s:=by
 rw [evalAll];exact aq (aZ h (λv az bh=>aq (bH (aZ bh (λvs bp bD=>aM bD) λJ J x=>x))) λJ J x=>x)
theorem evalArgs_kw{f:Value}{x:Sem Value}{dF:List (Bool×Sem Value)}{keywords:List (Option Str×Sem Value)}{Q:Args->al->Prop}(mO:keywords.all (λz=>z.1.isSome)=true)
  (h:ai M A (spliced ((false,x)::dF)) (λvs az=>ai M A (evalAll (keywords.map (λz=>z.2))) (λks bp=>Q ⟨vs,(keywords.filterMap (λz=>z.1)).zip ks⟩ bp) E az) E s):ai M A (evalArgs f true ((false,x)::dF) keywords) Q E s:=by
 unfold evalArgs;refine (?_:ai M A (spliced ((false,x)::dF)>>=_) Q E s);refine aq (aZ h (λvs az bh=> ?_) λJ J x=>x);refine bH ?_;simp only [mO,if_true];refine aq (aZ bh (λks bp bD=> ?_) λJ J x=>x);exact aq (aM (aM bD))
theorem evalArgs_kw_nil{f:Value}{keywords:List (Option Str×Sem Value)}{Q:Args->al->Prop}(mO:keywords.all (λz=>z.1.isSome)=true)
  (h:ai M A (evalAll (keywords.map (λz=>z.2))) (λks bp=>Q ⟨[],(keywords.filterMap (λz=>z.1)).zip ks⟩ bp) E s):ai M A (evalArgs f true [] keywords) Q E s:=by
 unfold evalArgs;refine (?_:ai M A (spliced []>>=_) Q E s);refine aq (ba (ahC ?_));refine aq (aM ?_);refine bH ?_;simp only [mO,if_true];refine aq (aZ h (λks bp bD=> ?_) λJ J x=>x);exact aq (aM (aM bD))
theorem Subscript_{slice:Expr}(h:ai M A (eval value ac) (λo az=>ai M A (eval slice ac) (λi bp=>ai M A (subscriptTail value slice o i) Q E bp) E az) E s) :
  ai M A (eval (.Subscript value slice pos) ac) Q E s:=by
 exact aa (eval_Subscript ..) (aq (aZ h (λo az bh=>aq (bH (aZ bh (λi bp bD=>aq (cy bD)) λJ J x=>x))) λJ J x=>x))
theorem kla_eval{params:td}{body:Expr}(hdef:defaultsOf params ac=([],[]))(h:ai M A (makeFunction "<lambda>" (ac.qual++ "<lambda>") params (.expr body) scope ac [] [] [] pos pos.line) Q E s) :
  ai M A (eval (.Lambda params body scope pos) ac) Q E s:=by
 refine aa (arm_eval_Lambda ..) (aa hdef ?_)
 show ai M A (do let dv<-evalAll [];let kdv<-holding dv (evalAllOpt []);makeFunction "<lambda>" (ac.qual++ "<lambda>") params (.expr body) scope ac dv kdv [] pos pos.line) Q E s
 exact aq (aM (aq (bH (aM h))))
theorem BF{Q:iJ->al->Prop}(h:Q .next s):ai M A (execs [] ac) Q E s:=λJ J J J=>h
theorem PH{st:fQ}{dF:List fQ}{Q:iJ->al->Prop}(h:ai M A (exec st ac) (λf s'=>match f with | .next=>ai M A (execs dF ac) Q E s' | f=>Q f s') E s):ai M A (execs (st::dF) ac) Q E s:=by
 refine aa (execs_cons ..) (aq (aZ h (λf s' h'=> ?_) λJ J x=>x));cases f<;>first | exact h' | exact aM h'
theorem PI{Q:iJ->al->Prop}(h:ai M A (eval e ac) (λv=>Q (.ret v)) E s):ai M A (exec (.Return (some e) pos) ac) Q E s:=by
 exact aa (exec_Return_some ..) (aq (cy (aq (aZ h (λv s' h'=>aM h') λJ J x=>x))))
theorem PJ{Q:iJ->al->Prop}(h:Q (.ret .none) s):ai M A (exec (.Return none pos) ac) Q E s:=λJ J J J=>h
theorem PK{body:List fQ}{Q:iJ->al->Prop}
  (h:ai M A (isTrue kS ac (eval kS ac)) (λb bp=>if b then ai M A (execs body ac) Q E bp else ai M A (execs orelse ac) Q E bp) E s):ai M A (exec (.If kS body orelse pos) ac) Q E s:=by
 refine aa (exec_If ..) (aq (cy (aq (aZ h (λb bp bD=> ?_) λJ J x=>x))));cases b<;>exact bD
theorem PL{body:List fQ}{Q:iJ->al->Prop}(h:dp M A (.whileLoop kS body orelse ac) (λr s'=>match r with | .ok f=>Q f s' | .error _=>False) s):ai M A (exec (.While kS body orelse pos) ac) Q E s:=by
 exact aa (exec_While ..) (aq (cy (GN h)))
theorem PM{iter:Expr}{body:List fQ}{Q:iJ->al->Prop}
  (h:ai M A (eval iter ac) (λx az=>ai M A (pyIter x) (λit bp=>dp M A (.forLoop target it body orelse ac) (λr s'=>match r with | .ok f=>Q f s' | .error _=>False) bp) E az) E s)
  (hs:∀x,foldedSetIterable iter ac x=pure x:=by intro _;rfl):ai M A (exec (.For target iter body orelse pos) ac) Q E s:=by
 exact aa (exec_For ..) (aq (cy (aq (aZ h (λx az bh=>aq (u7 (hs x) (aq (cy (aq (bH (aZ bh (λit bp bD=>GN bD) λJ J h'=>h'))))))) λJ J h'=>h'))))
theorem PN{v:Value}{Q:Unit->al->Prop}(h:ai M A (storeName ac x v) Q E s):ai M A (assign (.Name x pos) ac v) Q E s:=by
 exact aa (PySem.assign_Name ..) (aq (cy (GL h)))
theorem PO{targets:List Expr}{Q:iJ->al->Prop}
  (h:ai M A (eval value ac) (λv az=>ai M A (assignAll v ((assignEach targets ac).map (λz=>z.2))) (λJ=>Q .next) E az) E s)
  (hs:swapsWithSole targets value pos.line ac=pure false) (hw:swappedStores targets value ac=pure none):ai M A (exec (.Assign targets value pos) ac) Q E s:=by
 refine aa (PP ..) (aq (cy ?_));refine aa hs (aq (aM ?_));refine aa (if_neg (by decide)) (aq (aZ h (λv az bh=> ?_) λJ J x=>x));refine aa hw (aq (aM ?_))
 show ai M A (do assignAll v ((assignEach targets ac).map (λz=>z.2));pure .next) Q E az
 exact aq (aZ bh (λJ J x=>aM x) λJ J x=>x)
theorem Assign_Tuple{nT:Pos}{Q:iJ->al->Prop}
  (h:ai M A (eval value ac) (λv az=>ai M A (assign (.Tuple elts k nT) ac v) (λJ=>Q .next) E az) E s)
  (hs:swapsWithSole [.Tuple elts k nT] value pos.line ac=pure false:=by rfl) (hw:swappedStores [.Tuple elts k nT] value ac=pure none:=by rfl):ai M A (exec (.Assign [.Tuple elts k nT] value pos) ac) Q E s:=by
 refine aa (exec_Assign ..) (aq (cy ?_));refine aa hs (aq (aM ?_));refine aa (if_neg (by decide)) (aq (aZ h (λv az bh=> ?_) λJ J x=>x));refine aa hw (aq (aM ?_))
 show ai M A (do assignAll v [assign (.Tuple elts k nT) ac];pure .next) Q E az
 exact aq (aZ bh (λJ J x=>aM x) λJ J x=>x)
theorem Assign_Tuple_swapped{nT:Pos}{Q:iJ->al->Prop}
  (h:ai M A (eval value ac) (λv az=>ai M A (unpackItems v names.length none) (λitems bp=>ai M A (assignInOrder (names.reverse.map λn=>bindName ac n) items.reverse) (λJ=>Q .next) E bp) E az) E s)
  (hs:swapsWithSole [.Tuple elts k nT] value pos.line ac=pure false:=by rfl) (hw:swappedStores [.Tuple elts k nT] value ac=pure (some names):=by rfl):ai M A (exec (.Assign [.Tuple elts k nT] value pos) ac) Q E s:=by
 refine aa (exec_Assign ..) (aq (cy ?_));refine aa hs (aq (aM ?_));refine aa (if_neg (by decide)) (aq (aZ h (λv az bh=> ?_) λJ J x=>x));refine aa hw (aq (aM ?_))
 show ai M A (do rule "assign.swapped-stores";let items<-unpackItems v names.length none;assignInOrder (names.reverse.map λn=>bindName ac n) items.reverse;pure .next) Q E az
 exact aq (yj (aq (aZ bh (λitems bp bD=>aq (aZ bD (λJ J x=>aM x) λJ J x=>x)) λJ J x=>x)))
theorem PQ{o i:Expr}{kc:Pos}{op:pg}{Q:iJ->al->Prop}
  (h:ai M A (eval o ac) (λov az=>ai M A (eval i ac) (λiv bp=>ai M A (getItem ov iv) (λold cF =>
   ai M A (eval value ac) (λv mP=>ai M A (inplaceOp op old v) (λnew qP=>ai M A (setItem ov iv new) (λJ=>Q .next) E qP) E mP) E cF) E bp) E az) E s)
  (ha:∀ov iv new,augStore i ov iv new=(do holding [new,ov,iv] (setItem ov iv new);release [new,ov,iv] [];pure .next):=by intro _ _ _;rfl):ai M A (exec (.AugAssign (.Subscript o i kc) op value pos) ac) Q E s:=by
 have e:exec (.AugAssign (.Subscript o i kc) op value pos) ac=(do
   standAt pos
   let ov<-eval o ac
   let iv<-holding [ov] (eval i ac)
   let new<-holding [ov,iv] do
    standAt kc
    let old<-getItem ov iv
    let v<-holding [old] (eval value ac)
    standAt pos
    operate [old,v] (inplaceOp op old v)
   standAt kc
   augStore i ov iv new):=rfl
 refine aa e (aq (cy (aq (aZ h (λov az bh=> ?_) λJ J x=>x))));refine aq (bH (aZ bh (λiv bp bD=> ?_) λJ J x=>x));refine aq (bH (aq (cy (aq (aZ bD (λold cF eE=> ?_) λJ J x=>x)))));refine aq (bH (aZ eE (λv mP qQ=> ?_) λJ J x=>x));refine aq (cy (tc (aZ qQ (λnew qP ph=> ?_) λJ J x=>x)));refine aq (cy ?_);exact aa (ha ..) (aq (bH (aZ ph (λJ ahD PR=>aq (ba (wpAny_releaseD (show ai _ _ _ _ _ _ from aM PR)))) λJ J x=>x)))
end
section
variable{prog:dE}{w:cu}{A:cJ}{E:Value->al->Prop}{R:uY->al->Prop}{s:al}{ac:Env}
theorem PS{Q:iJ->al->Prop}(h:ai (model prog w) A (eval e ac) (λJ=>Q .next) E s)
  (hi:interactive ac=false:=by rfl) (hs:swapsWith e none pos.line ac=pure false:=by rfl):ai (model prog w) A (exec (.Expr e pos) ac) Q E s:=by
 exact aa (exec_Expr ac e pos hi hs) (aq (cy (aq (aZ h (λv s' h'=>ba (wpAny_dropValue h')) λJ J x=>x))))
theorem PT{t:Addr}{items:Array Value}{Q:Unit->al->Prop}(hh:A.handled=none)(ht:s.heap.IsTuple t items)(hn:targets.length=items.size)(qR:targets.findIdx? (λz=>z.1)=none)
  (h:∀h',BG s.heap.objs.size s.heap h'->ai (model prog w) A (assignInOrder (targets.map (λz=>z.2)) items.toList) Q E {s with heap:=h'}):ai (model prog w) A (unpack (.ref t) targets) Q E s:=by
 unfold unpack;exact aH hn qR (aq (bH (ba (wpAny_unpackItems_tuple hh ht h))))
theorem PU{c:Expr}{Q:Bool->al->Prop}(h:ai (model prog w) A (isTrue c ac (eval c ac)) Q E s) :
  ai (model prog w) A (forIn [c] true λc r=>if r=true then do let ok<-isTrue c ac (eval c ac);pure (ForInStep.yield ok) else pure (ForInStep.yield r)) Q E s:=by
 simp only [pi,BH,if_true];exact aq (aq (aZ h (λb s' hb=>aM (aM hb)) λJ J x=>x))
theorem PV{body:List fQ}(h:ai (model prog w) (A.deeper ac) (execs body ac) (λf s'=>R (.ok (.ret (match f with | .ret v=>v | _=> .none))) s') (λJ J=>False) s):dp (model prog w) A (.func body ac) R s:=by
 refine kU rfl ?_
 show ai _ (A.deeper ac) (do point;match<-(execs body ac).onRaise (leaving ac) with | .ret v=>ret v | _=>ret .none) _ _ s
 refine aq (BC (aq (nS (aZ h (λf s' h'=> ?_) λJ J h'=>h'))));cases f<;>exact aM h'
theorem GT{args:Args}{code:Env->jN}{c:Addr}{oc:Obj}{vs:Array Value}{tq:Tok}{Q:Fin->al->Prop}(tf:fd.scope.isCoroutine=false)(qS:fd.scope.isGenerator=false)(th:∀ac,(match fd.body with | .stmts b=>jN.func b ac | .expr e=> .expr e ac)=code ac)
  (hc:fd.code= .ref c) (u8:s.heap.get? c=some oc) (u9:oc.data= .fields vs) (hq:vs[1]? =some (.str fd.qualname tq))
  (h:ai (model prog w) A (bindArgs fd args) (λpj az=>ai (model prog w) A (newFunctionEnv fd.scope fd.globals fd.closure pj (fd.qualname++ ".<locals>.") (some a) fd.code none fd.builtins) (λac bp=>ai (model prog w) A enterFrame (λJ cF=>Q (.again (code ac)) cF) E bp) E az) E s):ai (model prog w) A (callFunction a fd args) Q E s:=by
 unfold callFunction;rw [hc] at h ⊢
 refine fH (m:=field (.ref c) 1) (λq=>ba (gN u8 u9 hq q)) (fH (λq=>aM q) ?_);refine aq (aZ h (λpj az bh=>aq (aZ bh (λac bp bD=>aq (aZ bD (λJ cF eE=> ?_) λJ J h'=>h')) λJ J h'=>h')) λJ J h'=>h');exact aH qS tf (aM ((congrArg (λk=>Q (.again k) cF) (th ac)).mpr eE))
theorem PW{args:Args}{o:Obj}{body:List fQ}(BI:A.depth<recursionLimit)(ho:s.heap.get? a=some o)
  (ft:o.data= .func fd) (tf:fd.scope.isCoroutine=false) (qS:fd.scope.isGenerator=false) (po:fd.body= .stmts body) (ym:s.heap.CodeRec fd.code fd.qualname)
  (h:ai (model prog w) A.in1 (bindArgs fd args) (λpj az =>
   ai (model prog w) A.in1 (newFunctionEnv fd.scope fd.globals fd.closure pj (fd.qualname++ ".<locals>.") (some a) fd.code none fd.builtins)
    (λac bp=>bp.heap.NoLimit/\dp (model prog w) A (.func body ac) R bp) (λe s'=>R (.error e) s') az) (λe s'=>R (.error e) s') s):dp (model prog w) A (.call (.ref a) args) R s:=by
 refine kU rfl (fH (m:=load a) (λq=>ba (qT ho q)) ?_);refine aa ft ?_;obtain ⟨c,oc,vs,tq,hc,u8,u9,hq⟩:=ym;exact GT (code:=λac=> .func body ac) tf qS (λJ=>aa po rfl) hc u8 u9 hq (aZ h (λpj az bh=>aZ bh (λac bp bD=>ba (PX bD.1 BI ⟨rfl,bD.2⟩)) λJ J h'=>h') λJ J h'=>h')
theorem PY{body:List fQ}(I:Nat->al->Prop)
  (turn:∀n s,I n s->ai (model prog w) A (isTrue kS ac (eval kS ac)) (λb bp =>
    if b then ai (model prog w) A (execs body ac) (λf cF=>match f with
      | .next | .cont=>∃m,m<n/\I m cF
      | .brk=>R (.ok .next) cF
      | .ret v=>R (.ok (.ret v)) cF) (λJ J=>False) bp
    else ai (model prog w) A (execs orelse ac) (λf cF=>R (.ok f) cF) (λJ J=>False) bp) (λJ J=>False) s)
  (n:Nat) (h:I n s):dp (model prog w) A (.whileLoop kS body orelse ac) R s:=by
 refine GP rfl rfl I (λn s hI=> ?_) n h
 show ai _ A ((whileTurn kS body orelse ac).onRaise (λx=>do noteFrame x ac;theTreesLotGoes x)) _ _ s
 refine nS ?_;simp only [whileTurn];refine aq (aZ (turn n s hI) (λb bp bD=> ?_) λJ J h'=>h');cases b with
 | false =>
  simp only [yn,if_false] at bD ⊢
  exact aq (aZ bD (λf cF eE=>aM eE) λJ J h'=>h')
 | true =>
  simp only [if_true] at bD ⊢
  refine aq (aZ bD (λf cF eE=> ?_) λJ J h'=>h');cases f with
  | next=>exact aM ⟨rfl,eE⟩
  | cont=>exact aM ⟨rfl,eE⟩
  | brk=>exact aM eE
  | ret v=>exact aM eE
theorem PZ{stmts:List fQ}(h:ai (model prog w) A (execs stmts ac) (λf s'=>R (.ok f) s') (λJ J=>False) s):dp (model prog w) A (.block stmts ac) R s:=by
 refine kU rfl ?_
 show ai _ _ (do return Fin.done (<-(execs stmts ac).onRaise (λx=>do noteFrame x ac;theTreesLotGoes x))) _ _ s
 exact aq (nS (aZ h (λf s' h'=>aM h') λJ J h'=>h'))
theorem P0{it:Value}{body:List fQ}(I:Nat->al->Prop)
  (turn:∀n s,I n s->ai (model prog w) A (pyNext it) (λr az=>match r with
   | none=>ai (model prog w) A (execs orelse ac) (λf cF=>R (.ok f) cF) (λJ J=>False) az
   | some v=>ai (model prog w) A (letOwnedTupleGo target it v) (λJ GU =>
     ai (model prog w) A (assign target ac v) (λJ bp=>ai (model prog w) A (execs body ac) (λf cF=>match f with
      | .next | .cont=>∃m,m<n/\I m cF
      | .brk=>R (.ok .next) cF
      | .ret v=>R (.ok (.ret v)) cF) (λJ J=>False) bp) (λJ J=>False) GU) (λJ J=>False) az) (λJ J=>False) s)
  (n:Nat) (h:I n s):dp (model prog w) A (.forLoop target it body orelse ac) R s:=by
 refine GO rfl rfl I (λn s hI=> ?_) n h
 show ai _ A ((forTurn target it body orelse ac).onRaise (λx=>do noteFrame x ac;theTreesLotGoes x)) _ _ s
 refine nS ?_;simp only [forTurn];refine aq (cy (aq (nS (aZ (turn n s hI) (λr az bh=> ?_) λJ J h'=>h'))));cases r with
 | none=>exact aM (.inr ⟨rfl,PZ bh⟩)
 | some v =>
  refine aq (aZ bh (λJ GU P1=> ?_) λJ J h'=>h');refine aq (aZ P1 (λJ bp bD=>aq (aZ bD (λf cF eE=> ?_) λJ J h'=>h')) λJ J h'=>h');cases f with
  | next=>exact aM (.inl ⟨rfl,eE⟩)
  | cont=>exact aM (.inl ⟨rfl,eE⟩)
  | brk=>exact aM eE
  | ret v=>exact aM eE
theorem P2{cK iter:Expr}{ifs:List Expr}{dF:List va}{it acc:Value}
  (h0:dp (model prog w) A (.compLoop (.ListComp cK (⟨target,iter,ifs,0⟩::dF) scope pos) 0 it acc ac) R s)
  (h:ai (model prog w) A (pyIter it) (λfR s'=>dp (model prog w) A (.compLoop (.ListComp cK (⟨target,iter,ifs,0⟩::dF) scope pos) 0 fR acc ac) R s') (λJ J=>False) s) :
  dp (model prog w) A (.compStart (.ListComp cK (⟨target,iter,ifs,0⟩::dF) scope pos) 0 it acc ac) R s:=by
 refine kU rfl ?_
 show ai _ _ ((compStart (.ListComp cK (⟨target,iter,ifs,0⟩::dF) scope pos) 0 it acc ac).onRaise (λx=>do noteFrame x ac;standAt theWindowsPlace)) _ _ s
 refine nS ?_;unfold compStart;refine (?_:ai _ _ (ask>>=_) _ _ s);refine aq (ba (P3 ?_))
 split
 ·first
   | exact aq (aM (aM (yo rfl h0)))
   | exact aM (yo rfl h0)
 ·first
   | exact aq (yj (aq (cy (aq (aZ h (λfR s' h'=>aM (yo rfl h')) λJ J x=>x)))))
   | (refine aq (yj ?_);show ai _ _ (standAt iter.pos>>=_) _ _ s;exact aq (cy (aq (aZ h (λfR s' h'=>aM (yo rfl h')) λJ J x=>x))))
end
section
variable{M:Model}{A:cJ}{s:al}{ac:Env}
def GV(M:Model)(A:cJ)(use:Option (Value->Sem Unit))(Q:Value->al->Prop)(acc:Value)(C:Addr)(r:uY)(s':al):Prop :=
 match r,use with
 | .ok _,none=>∃m,s'.heap.Ns C m/\∀h',jh C s'.heap h'->Q acc {s' with heap:=h'}
 | .ok _,some u=>ai M A (u acc) (λJ lS=>∃m,lS.heap.Ns C m/\∀h',jh C lS.heap h'->Q .none {lS with heap:=h'}) (λJ J=>False) s'
 | .error _,_=>False
theorem P4{c:Prop} [Decidable c]{k:PUnit->Sem α}{Q:α->al->Prop}(h:ai M A (k ()) Q E s):ai M A (if c then (standAt pos>>=k) else k ()) Q E s:=by
 split
 ·exact aq (cy h)
 ·exact h
theorem P5{GW first:Sem Value}{g:va}{gs:List va}{cl:List (Str×Addr)}{use:Option (Value->Sem Unit)}
  (hcl:clausesOf e=g::gs) (hs:∀x,foldedSetIterable g.iter ac x=pure x) (P6:closureFor scope ac=pure cl)
  (mQ:scope.kind= .function) (mR:∀x∈scope.names,x.2= .local->scope.names.lookup x.1=some .local)
  (h:ai M A first (λx az=>ai M A (pyIter x) (λit bp=>ai M A GW (λacc cF =>
   ai M A (newFunctionEnv scope ac.globals cl [] ac.qual none .none (some ac)) (λcenv mP =>
    dp M A (.compStart e 0 it acc {cenv with scope:=relabel scope ac}) (GV M A use Q acc cenv.locals) mP) (λJ J=>False) cF) (λJ J=>False) bp) (λJ J=>False) az) (λJ J=>False) s) :
  ai M A (comprehension e scope ac pos GW false first use) Q (λJ J=>False) s:=by
 unfold comprehension;refine aH P6 hcl ?_;refine aq (aZ h (λx az bh=>aq (cy (aq (u7 (hs x) (aq (bH (aZ bh (λit bp bD =>
  P4 (aq (aZ bD (λacc cF eE=>aq (aM (aq (aZ eE (λcenv mP qQ=> ?_) λJ J h'=>h')))) λJ J h'=>h')))
   λJ J h'=>h'))))))) λJ J h'=>h')
 dsimp only
 have hv:∀x∈(scope.names.filter λx=>(x.2== .local || x.2== .cell)&&x.1 != (".0" :Str)).reverse,x.2= .local->
   P7 {cenv with scope:=relabel scope ac} x.1=some .local:=λx hx hl=>lookup_relabel_local (mR x (BJ.mp (P8.mp hx)).1 hl)
 have yp:∀x∈(scope.names.filter λx=>(x.2== .local || x.2== .cell)&&x.1 != (".0" :Str)).reverse.drop 1++(scope.names.filter λx=>(x.2== .local || x.2== .cell)&&x.1 != (".0" :Str)).reverse.take 1,
   x.2= .local->P7 {cenv with scope:=relabel scope ac} x.1=some .local:=λx hx hl=>by
  rcases ji.mp hx with h1 | h1
  ·exact hv x (nV h1) hl
  ·exact hv x (pp h1) hl
 refine bH (aq (Pn (bH (GM (yk qQ λr s' hr=> ?_)))));cases r with
 | ok f =>
  cases use with
  | none =>
   obtain ⟨m,hn,hr⟩:=hr;exact aq (bH (ba (P9 (cenv:={cenv with scope:=relabel scope ac}) mQ _ s' m hv hn λh' m' J fu=>(show ai _ _ _ _ _ _ from aM (hr h' fu)))))
  | some u =>
   refine aq (yj (aq (bH (aZ hr (λJ lS BK=> ?_) λJ J h'=>h'))));obtain ⟨m,hn,BK⟩:=BK;exact aq (ba (P9 (cenv:={cenv with scope:=relabel scope ac}) mQ _ lS m yp hn λh' m' J fu=>(show ai _ _ _ _ _ _ from aM (BK h' fu))))
 | error x=>cases use<;>exact hr.elim
end
end
noncomputable def P':=λ{a} {b} {c} {d} {e} {f} {g} h=>ba (@PySem.wpAny_items_nil a b c d e f g h)
noncomputable def Qa:=λ{a} {b} {c} {d} {e} {f} {g} {h} i j=>ba (@PySem.wpAny_pyIter_tuple a b c d e f g h i j)
noncomputable def Qb:=λ{a} {b} {c} {d} {e} {f} {g} {h} {i} j=>ba (@PySem.wpAny_Constant_bool a b c d e f g h i j)
noncomputable def Calls.loadGlobal_builtin:=λ{a} {b} {c} {d} {e} {f} {g} {h} {i} {j} k l m n o=>ba (@ahE a b c d e f g h i j k l m n o)
noncomputable def storeName_free:=λ{a} {b} {c} {d} {e} {f} {g} {h} {i} {j} k l m n o=>ba (@PySem.W.storeName_free a b c d e f g h i j k l m n o)
noncomputable def Qc:=λ{a} {b} {c} {d} {e} {f} {g} {h} {i} j k l=>ba (@gh a b c d e f g h i j k l)
noncomputable def Qd:=λ{a} {b} {c} {d} {e} {f} {g} {h} {i} j k=>ba (@PySem.wpAny_pyIter_listiter a b c d e f g h i j k)
noncomputable def GX:=λ{a} {b} {c} {d} {e} {f} {g} {h} {i} j k l m n=>ba (@PySem.wpAny_loadName_local a b c d e f g h i j k l m n)
noncomputable def GY:=λ{a} {b} {c} d e f g h i j=>ba (@PySem.wpAny_layCells a b c d e f g h i j)
noncomputable def GZ:=λ{a} {b} {c} {d} {e} {f} {g} {h} {i} j k l m n o=>ba (@PySem.wpAny_loadName_free a b c d e f g h i j k l m n o)
noncomputable def Qe:=λ{a} {b} {c} {d} {e} {f} {g} {h} {i} j=>ba (@Qf a b c d e f g h i j)
noncomputable def ti:=λ{a} {b} {c} {d} {e} {f} g=>ba (@G9 a b c d e f g)
noncomputable def Qg:=λ{a} {b} {c} {d} {e} {f} {g} {h} {i} {j} {k} {l} {m} n o p=>ba (@PySem.wpAny_pyIter_range a b c d e f g h i j k l m n o p)
noncomputable def Qh:=λ{a} {b} {c} {d} {e} {f} {g} h=>ba (@PySem.wpAny_tests_nil a b c d e f g h)
noncomputable def BL:=λ{a} {b} {c} {d} {e} {f} {g} {h} i j=>ba (@BM a b c d e f g h i j)
noncomputable def Qi:=λ{a} {b} {c} {d} {e} {f} {g} {h} {i} j k l m=>ba (@PySem.wpAny_storeName_local a b c d e f g h i j k l m)
noncomputable def Qj:=λ{a} {b} {c} {d} {e} {f} {g} {h} {i} {j} k l m n o=>ba (@PySem.wpAny_storeName_cell a b c d e f g h i j k l m n o)
noncomputable def vc:=λ{a} {b} {c} {d} {e} {f} {g} h i=>ba (@qT a b c d e f g h i)
noncomputable def Qk:=λ{a} {b} {c} {d} {e} {f} {g} {h} i=>ba (@PySem.wpAny_Constant_none a b c d e f g h i)
noncomputable def BN:=λ{a} {b} {c} {d} {e} {f} {g} {h} {i} {j} k l=>ba (@PySem.wpAny_pyIter_enum a b c d e f g h i j k l)
noncomputable def Ha:=λ{a} {b} {c} {d} {e} {f} g=>ba (@PySem.wpAny_alloc a b c d e f g)
noncomputable def call_range_1:=λ{a} {b} {c} {d} {e} {f} {g} {h} i=>ba (@PySem.call_range_1 a b c d e f g h i)
noncomputable def unpackItems_tuple:=λ{a} {b} {c} {d} {e} {f} {g} {h} i j k=>ba (@ahF a b c d e f g h i j k)
noncomputable def call_range_2:=λ{a} {b} {c} {d} {e} {f} {g} {h} {i} {j} k=>ba (@PySem.call_range_2 a b c d e f g h i j k)
noncomputable def Calls.loadGlobal_global:=λ{a} {b} {c} {d} {e} {f} {g} {h} {i} j k l=>ba (@ahG a b c d e f g h i j k l)
noncomputable def Ql:=λ{a} {b} {c} {d} {e} {f} {g} {h} {i} j=>ba (@PySem.wpAny_Constant_int a b c d e f g h i j)
noncomputable def Qm:=λ{a} {b} {c} {d} {e} {f} {g} {h} {i} {j} k l m n o=>ba (@Qn a b c d e f g h i j k l m n o)
noncomputable def Qo:=λ{a} {b} {c} {d} {e} {f} {g} {h} {i} j k l m n=>ba (@PySem.wpAny_loadName_cell a b c d e f g h i j k l m n)
noncomputable def call_enumerate_list:=λ{a} {b} {c} {d} {e} {f} {g} {h} i j=>ba (@PySem.call_enumerate_list a b c d e f g h i j)
noncomputable def Qp:=λ{a} {b} {c} {d} {e} f=>ba (@PySem.wpAny_evalAll_nil a b c d e f)
noncomputable def Qq:=λ{a} {b} {c} {d} {e} {f} {g} h=>ba (@PySem.wpAny_release a b c d e f g h)
section
variable {tree:List Value->Sem Fin}
theorem Qr{M:Model}{t:Sem Fin}(h:ai M callerA t (λbf s'=>∃f,bf= .done f/\R (.ok f) s') (λe s'=>R (.error e) s') s)(p:Pos) :
  Pm M ⟨.builtin "claim.caller" {},none,none,[],none⟩ t (Sem.finPost M ⟨.builtin "claim.caller" {},none,none,[],none⟩ R) (λe J s'=>R (.error e) s') p s:=by
 refine yi M _ t (λbf p' s' h'=> ?_) (λJ J J h'=>h') p s (h _ p caller_in λx hx=> ?_)
 ·obtain ⟨f,rfl,hf⟩:=h';exact hf
 ·rcases br.mp hx with rfl | hx
  ·refine (?_:nR (.builtin "claim.caller" {})=true)
   decide +kernel
  ·cases hx
theorem Qs{w:cu}{t:Sem Fin}(Qt:s.asleep)
  (h:ai (model prog w) callerA t (λbf s'=>∃f,bf= .done f/\(R (.ok f) s'/\leftWithCleanup s'.gens=false)) (λe s'=>R (.error e) s'/\leftWithCleanup s'.gens=false) s) :
  ∃n r s' lS,runN (denote table) prog w n s ⟨t, .builtin "claim.caller" {},default,[]⟩= .halted (outcomeOf r) s'/\
   schedN (denote table) prog w n (.single s ⟨t, .builtin "claim.caller" {},default,[]⟩)= .halted (outcomeOf r) s'/\s'.forget=lS.forget/\R r lS:=by
 exact Gx (wp_halts_full (M:=model prog w) (R:=R) Qt (Qr (R:=λr s'=>R r s'/\leftWithCleanup s'.gens=false) h default)) λn r az bp hs hn BO hR=>⟨n,r,bp,az,hn,hs,BO,hR⟩
theorem Qu{c:ClaimW}{w:cu}{kept:Heap->Prop}{args:List vd}{ord:List DictEntry->List DictEntry}{C:Prop}(hz:s.asleep)
  (H:∃vs az,layAllW c.records (classAt s.heap) w.params ord args s=some (vs,az)/\
    ai (model c.prog w) callerA (tree vs) (λbf s'=>∃f,bf= .done f/\(c.Ends s args vs az (.ok f) s'/\s'.os=s.os/\BP s'.gens/\kept s'.heap))
     (λe s'=>c.Ends s args vs az (.error e) s'/\s'.os=s.os/\BP s'.gens/\kept s'.heap) az)
  (K:∀vs az k r s',layAllW c.records (classAt s.heap) w.params ord args s=some (vs,az)->schedN (denote table) c.prog w k (.single az ⟨tree vs, .builtin "claim.caller" {},default,[]⟩)= .halted (outcomeOf r) s'->c.Ends s args vs az r s'->kept s'.heap->s'.heap.life=s.heap.life->s'.os=s.os->C):C:=by
 refine jg (H) λvs az mS th=> ?_
 have life:=(layAllW_rest _ _ _ mS).2.2.2
 obtain ⟨k,r,s',lS,Qv,BQ,BO,BR,mT,BS⟩:=Qs (prog:=c.prog) (w:=w) (t:=tree vs) (s:=az)
  (R:=λr s'=>c.Ends s args vs az r s'/\s'.os=s.os/\kept s'.heap)
  (ahH life hz)
  (aZ th (λJ J=>yq λJ=>qU λh=>⟨⟨h.1,h.2.1,h.2.2.2⟩,Qw h.2.2.1⟩) λJ J h=>⟨⟨h.1,h.2.1,h.2.2.2⟩,Qw h.2.2.1⟩)
 have F:=ahI BO
 exact K vs az k r s' mS BQ (BR.congr F.1) (F.1▸BS) ((runN_life _ _ _ Qv).trans life) (F.2.2.2.1.trans mT)
theorem Qx{c:ClaimW}{w:cu}{free:Addr->Prop}{gens:Prop}{kept:Heap->Prop}(hz:s.asleep)(tj:s.gens= #[])
  (Qy:∀args,c.pre args=true->Hb args=true->
   ∀ord:List DictEntry->List DictEntry,(∀l,(ord l).Perm l)->
   ∃vs az,layAllW c.records (classAt s.heap) w.params ord args s=some (vs,az)/\
    ai (model c.prog w) callerA (tree vs) (λbf s'=>∃f,bf= .done f/\(c.Ends s args vs az (.ok f) s'/\s'.os=s.os/\BP s'.gens/\kept s'.heap))
     (λe s'=>c.Ends s args vs az (.error e) s'/\s'.os=s.os/\BP s'.gens/\kept s'.heap) az) :
  c.CallFrom (λvs=>⟨tree vs, .builtin "claim.caller" {},default,[]⟩) w free gens kept s:=by
 intro args mU qV ord yr;refine Qu hz (Qy args mU qV ord yr) λvs az k r s' mS BQ BR BS Qz mT=>⟨vs,az,mS,k,_,s',BQ, ?_,(λJ i x hx=>absurd (ao tj hx) (λh=>nn (Array.getElem?_empty.symm.trans h))),BS,congrArg (λz=>z.seen) Qz,ahJ mT⟩;exact BR.imp (yq λJ=>And.imp (congrArg outcomeOf) (qU (qU (qU (And.imp_left λk b o y J=>k b o y)))))
  (yq λJ=>yq λJ=>yq λJ=>And.imp (congrArg outcomeOf) (qU (qU (qU (qU λk b o y J=>k b o y)))))
theorem QA{r:RowW}{run:Value->List Value->Sem Value}{q:dE}{loose Hc BU:List Str}{writes:Bool}{Xt:al->Bool}{XP:(Str->Option Value)->Heap->Prop}{Yf:al->α}{Ya:cu->α}{YP:cu->Heap->Prop}{N:Nat}
  (left:LeftO r.prog q loose Xt Yf Ya N) (hY:∀w s,Yf s=Ya w->YP w s.heap) (hYk:∀w h h',YP w h->(∀b o,h.get? b=some o->h'.get? b=some o)->YP w h') (hX:∀s,Xt s=true->XP (s.heap.nsMap mainGlobals) s.heap) (hXk:∀mg h h',XP mg h->(∀b o,h.get? b=some o->h'.get? b=some o)->XP mg h')
  (hRf:∀s,Xt s=true->RecFacts r.records s.heap) (hwr:(!writes || r.records.isEmpty)=true) (ok:(chainsOk q&&opensWell r.prog&&(frees r&&r.within.isEmpty))=true) (hb:r.prog.bare) (hw:r.promised)
  (ht:∀vs (w:cu) (s:al) mg f (Q:Fin->al->Prop) (E:Value->al->Prop),s.heap.Ns mainGlobals mg->mg r.name=some f->ai (model r.prog w) callerA (run f vs) (λv s'=>Q (.done (.ret v)) s') E s->ai (model r.prog w) callerA (tree vs) Q E s)
  (QB:∀w s,s.heap.isNs mainGlobals=true->yt q loose [] XP w s (s.heap.nsMap mainGlobals) (s.heap.nsMap builtinsNs) s.heap->∀n∈Hc,isTheDefsW r.prog s.heap n)
  (call:∀(w:cu) (gA az:al) (mg mb:Str->Option Value),yt q loose r.records XP w gA mg mb az.heap->YP w az.heap->∀(args:List vd) (vs:List Value) (as:List Addr),
   r.claim.pre args=true->Hb args=true->Laid r.records w gA az args vs as->sysModules<gA.heap.objs.size->∃f,mg r.name=some f/\
    ai (model r.prog w) callerA (run f vs) (λv s'=>pq r.claim (classAt gA.heap) (BW gA.heap) args az (.ok (.ret v)) s')
     (λe s'=>pq r.claim (classAt gA.heap) (BW gA.heap) args az (.error e) s') az):r.claim.HoldsOpenBy (λvs=>⟨tree vs, .builtin "claim.caller" {},default,[]⟩) Hc BU writes:=by
 obtain ⟨ok,k5⟩:=bP.mp ok;obtain ⟨Hd,o1⟩:=bP.mp ok;obtain ⟨k5,k6⟩:=bP.mp k5;refine qL (frees_parts k5) λtm hu ha QC hm=>⟨⟨hb,o1,by show r.makers.map _= [];refine aa hm ?_;rfl⟩,hw.witness,λw=>⟨(left.behind hX Hd w).1,λs' fu=> ?_⟩⟩;obtain ⟨gA,hf,QD,s,hT,hz,tj,hg,ke,y⟩:=(left.behind (XP:=λmg h=>XP mg h/\RecFacts r.records h) (λs hs=>⟨hX s hs,hRf s hs⟩) Hd w).2 s' fu
 have G0:yt q loose [] XP w s (s.heap.nsMap mainGlobals) (s.heap.nsMap builtinsNs) s.heap:=⟨ke.T,ke.B,ke.D,ke.TE,ke.TD,ke.W,ke.X.1,ke.cls,ke.has,ke.apart,ke.once,ke.K⟩
 have RF:=ke.X.2
 have kW:=hT
 refine ⟨gA,hf,QD,s,hT,QB w s hg G0,RF.1,RF.2.1, ?_⟩
 have tj:s.gens= #[]:=Array.eq_empty_of_size_eq_zero (beq_iff_eq.mp tj)
 have G:yt q loose r.records XP w s _ _ s.heap:=RF.ground G0
 refine Qx (c:=r.claim) hz tj λargs mU qV ord yr=> ?_;obtain ⟨⟨vs,az⟩,mS⟩:=Option.isSome_iff_exists.mp (layAllW_isSome (P:=w.params) (ord:=ord) G.has args r.args s (pre_splitW mU).1)
 have keeps:=layAllW_keeps _ _ _ mS
 have He:=layAllW_rest _ _ _ mS
 refine j' (reads_layAllW yr _ _ _ mS qV az.heap (λJ J e=>e)) λas Hf gD ve=> ?_
 have L:Laid r.records w s az args vs as:=⟨⟨ord,yr,mS⟩,Hf,gD,ve,keeps,He.1.trans tj,He.2.2.1⟩
 have Hg:=G.keeps hXk keeps
 refine aD (call w s az _ _ Hg (hYk _ _ _ (hY w s y) keeps) args vs as mU qV L G.low) λf hf h=> ?_
 have hi:=ident_freeW hu ha QC
 have tr:r.claim.within= []:=vg.mp k6
 exact ⟨vs,az,mS,ht vs w az _ f _ _ Hg.T.g hf (aZ h (λv s' g=>⟨_,rfl,have z:=g.laid (c:=r.claim) tm tr hi L;⟨z.1,z.2.1,z.2.2,λq=>⟨namesKept_of kW hg BU keeps g.2.1.old,noTable hwr q⟩⟩⟩) λe s' g=>have z:=g.laid (c:=r.claim) tm tr hi L;⟨z.1,z.2.1,z.2.2,λq=>⟨namesKept_of kW hg BU keeps g.2.1.old,noTable hwr q⟩⟩)⟩
abbrev WalkG(q:dE)(loose:List Str)(XP:(Str->Option Value)->Heap->Prop)(YP:cu->Heap->Prop)(r:RowW)(d:DefRec)(kwd:List (Str×Expr))(run:Value->List Value->Sem Value):Prop :=
 ∀(w:cu) (gA az:al) (mg mb:Str->Option Value),yt q loose r.records XP w gA mg mb az.heap->YP w az.heap->∀(a:Addr) (o:Obj) (pm cd yu dV kV:Value),az.heap.get? a=some o->
  o.data= .func {ahK d.name d.params d.body d.scope pm cd yu with defaults:=dV,kwdefaults:=kV}->az.heap.CodeRec cd d.name->Dflts mg az.heap d.params kwd dV kV->mg d.name=some (.ref a)->az.gens= #[]->
  ∀(args:List vd) (vals:List Value) (as:List Addr),r.claim.pre args=true->Hb args=true->ReadsAllW r.records (classAt gA.heap) az.heap vals args as->WellAll w.params az.heap vals args->(∀a∈as,(a==sysModules)=false)->
   ai (model r.prog w) callerA (run (.ref a) vals) (λv s'=>pq r.claim (classAt gA.heap) (BW gA.heap) args az (.ok (.ret v)) s')
    (λe s'=>pq r.claim (classAt gA.heap) (BW gA.heap) args az (.error e) s') az
theorem PySem.W.holds_open{r:OpenRow}{q:dE}{loose:List Str}{Xt:al->Bool}{XP:(Str->Option Value)->Heap->Prop}{α:Type}{Yf:al->α}{Ya:cu->α}{YP:cu->Heap->Prop}{d:DefRec}{kwd:List (Str×Expr)}{N:Nat}
  (left:LeftO r.prog q loose Xt Yf Ya N) (hY:∀w s,Yf s=Ya w->YP w s.heap) (hYk:∀w h h',YP w h->(∀b o,h.get? b=some o->h'.get? b=some o)->YP w h')
  (hX:∀s,Xt s=true->XP (s.heap.nsMap mainGlobals) s.heap) (hXk:∀mg h h',XP mg h->(∀b o,h.get? b=some o->h'.get? b=some o)->XP mg h')
  (hdef:defOf q r.name=some (d,kwd)) (hp:r.prog.theDef r.name=some (d.params,d.body,d.scope)) (hk:kwWritten? d.params.kwonlyargs d.params.kw_defaults=some kwd) (hRf:∀s,Xt s=true->RecFacts r.records s.heap) (hwr:(!r.writes || r.records.isEmpty)=true)
  (k1:r.wellSaid=true) (ok:(chainsOk q&&opensWell r.prog&&(frees r.toRowW&&r.within.isEmpty))=true) (hb:r.prog.bare) (hw:r.toRowW.promised)
  (call:WalkG q loose XP YP r.toRowW d kwd λf vs=>vh f vs):r.Holds:=by
 refine ⟨k1,hw,QA (r:=r.toRowW) (run:=λf vs=>vh f vs) (tree:=λvs=>do match<-nsGet mainNs r.name with
   | some f=>do ret (<-vh f vs)
   | none=>unsupported "claim.caller:no-such-global") left hY hYk hX hXk hRf hwr ok hb hw
  (λvs w s mg f Q E hg hf h=>aq (ba (wpAny_nsGet hg (aa hf (aq (aZ h (λJ J x=>aM x) λJ J x=>x))))))
  (λw s hg G n hn=> ?_) λw gA az mg mb G Y args vs as mU qV L low=> ?_⟩
 ·obtain rfl:n=r.name:=by split at hn<;>simp_all
  exact pinned_of_view hg G hdef hp hk
 ·obtain ⟨a,o,pm,cd,yu,dV,kV,h1,h2,h3,h4,h5⟩:=G.fn hdef;exact ⟨.ref a,h1,call w gA az mg mb G Y a o pm cd yu dV kV h2 h3 h4 h5 (defOf_name hdef▸h1) L.gens args vs as mU qV L.reads L.well (L.low low)⟩
end
structure Cx where
 prog:dE
 w:cu
 K:eF
 h₀:Heap
 os:OsState
 tabs:List (Addr×Addr×Str)
noncomputable abbrev Cx.M(X:Cx):Model:=model X.prog X.w
def vi(X:Cx)(U:Addr->Prop)(h:Heap):Prop :=
 ∀t∈X.tabs,∃ps,h.get? t.2.1=some (tabObj ps)/\TriplesOk ps.toList/\∀pos cv,codeAmong pos ps.toList=some cv->∃co,cv= .ref co/\U co/\h.CodeRec (.ref co) t.2.2
def gO(h:Heap)(a:Addr)(items:Array Value):Prop:=∃o,h.get? a=some o/\o.cls= .type "list" /\o.dict=none/\∃n,o.data= .seq items n
theorem gO.list{h:Heap}{items:Array Value}(x:gO h a items):h.IsList a items:=qJ x λo e c J d=>⟨o,e,c,d⟩
def pr(U:Addr->Prop)(κ:bM)(h:Heap)(a:Addr):ee->Prop
 | .list vs=>∃items:List Value,gO h a items.toArray/\aO U h vs items
 | .di b=>h.get? a=some {cls:= .type "bytearray",data:= .bytearray b.toArray}
 | .inst C fs=>∃d es n,h.get? a=some (instObj C d)/\h.get? d=some (dictOf es n)/\κ d= .dict a/\gz U h fs es
structure bq(X:Cx)(σ:ar)(κ:bM)(s:al):Prop where
 keep:∀b o,X.h₀.get? b=some o->s.heap.get? b=some o
 os:s.os=X.os
 gens:s.gens= #[]
 tabs:vi X (aj σ κ) s.heap
 base:∀a o,X.h₀.get? a=some o->aj σ κ a
 lt:∀a,¬ aj σ κ a->∃o,s.heap.get? a=some o
 fr:∀a L,κ a= .frame L->κ L= .frame L
 excl:∀a,σ a≠none->κ a= .none
 own:∀a o,σ a=some o->pr (aj σ κ) κ s.heap a o
 dict:∀d a,κ d= .dict a->∃C fs,σ a=some (.inst C fs)/\s.heap.get? a=some (instObj C d)
 tab:∀t∈X.tabs,κ t.2.1= .tab
inductive Loc where
 | loc (a:Addr) (x:Str)
 | cell (c:Addr)
noncomputable def Loc.QE(l:Loc):Bool:=l.casesOn (λJ J=>false) λJ=>true
theorem Hh{c:Addr}{C:Prop}(e:Loc.loc a x= .cell c):C:=ff (congrArg Loc.QE e)
noncomputable def Loc.addr:Loc->Addr
 | .loc a _=>a
 | .cell c=>c
def lT(h:Heap):Loc->Value->Prop
 | .loc a x,y=>∃m,h.Ns a m/\m x=some y
 | .cell c,y=>h.IsCell c (some y)
def px(L:Addr)(h:Heap):Loc->Prop
 | .loc a _=>a=L
 | .cell c=>c≠L/\∃v,h.IsCell c v
structure gj(L:Addr)(ae:List Loc)(m:List (Option ab))(fz:List Nat)(σ:ar)(κ:bM)(h:Heap):Prop where
 tag:κ L= .frame L
 ns:∃ml,h.Ns L ml
 len:m.length=ae.length
 lt:∀(i:Nat) l,ae[i]? =some l->∃o,h.get? l.addr=some o
 vals:∀(i:Nat) v,m[i]? =some (some v)->∃l y,ae[i]? =some l/\lT h l y/\am (aj σ κ) h v y
 rd:∀(i:Nat) l,ae[i]? =some l->i∈fz->aj σ κ l.addr∨∃L',(L'≠L/\l.addr<L)/\κ l.addr= .frame L'
 wr:∀(i:Nat) l,ae[i]? =some l->i∉fz->κ l.addr= .frame L/\px L h l
 nodup:∀(i j:Nat) l,i∉fz->ae[i]? =some l->ae[j]? =some l->i=j
structure St where
 m:List (Option ab)
 fz:List Nat
 σ:ar
variable {K:ab->St->Prop}{st:St}
structure Rel(X:Cx)(L:Addr)(ae:List Loc)(st:St)(κ:bM)(s:al):Prop where
 g:bq X st.σ κ s
 f:gj L ae st.m st.fz st.σ κ s.heap
structure bg(ex:Addr->Prop)(σ:ar)(κ:bM)(h:Heap)(σ':ar)(κ':bM)(h':Heap):Prop where
 bd:c7 (aj σ κ) h (aj σ' κ') h'
 frames:∀a o L,κ a= .frame L->¬ ex L->h.get? a=some o->κ' a= .frame L/\h'.get? a=some o
 qW:∀a o L,κ a= .frame L->h.get? a=some o->(κ' a= .frame L∨aj σ' κ' a)/\∃o',h'.get? a=some o'
theorem bg.refl{ex σ κ h}:bg ex σ κ h σ κ h:=⟨.refl,λJ J J e J g=>⟨e,g⟩,λJ J J e g=>⟨.inl e,_,g⟩⟩
theorem bg.trans{ex σ κ h σ' κ' h' σ'' yv iI}(x:bg ex σ κ h σ' κ' h')(y:bg ex σ' κ' h' σ'' yv iI):bg ex σ κ h σ'' yv iI :=
 ⟨x.bd.trans y.bd,λa o L e ne g=>dP (x.frames a o L e ne g) λe' g'=>y.frames a o L e' ne g',λa o L e g=>let ⟨q,o',g'⟩:=x.qW a o L e g;q.elim (λq=>y.qW a o' L q g') λu=>dP (y.bd a o' u g') λu' QF=>⟨.inr u',o',QF⟩⟩
theorem bg.weaken{ex vj:Addr->Prop}{σ κ h σ' κ' h'}(x:bg ex σ κ h σ' κ' h')(w:∀L,ex L->vj L):bg vj σ κ h σ' κ' h' :=
 ⟨x.bd,λa o L e ne g=>x.frames a o L e (λq=>ne (w L q)) g,x.qW⟩
theorem bg.fresh{ex vj:Addr->Prop}{X σ κ}{σ' κ' h'}(G:bq X σ κ s)(x:bg ex σ κ s.heap σ' κ' h')(w:∀L,ex L->vj L∨s.heap.get? L=none):bg vj σ κ s.heap σ' κ' h' :=
 ⟨x.bd,λa o L e ne g=>x.frames a o L e (λq=>(w L q).elim ne λl=>by obtain ⟨o,q⟩:=G.lt L (λu=>by have:=G.fr a L e;rw [u.2] at this;exact bZ this);rw [l] at q;cases q) g,x.qW⟩
structure cL(n:Nat)(A:cJ):Prop where
 handled:A.handled=none
 depth:A.depth+5*n≤900
 units:A.units+20*n≤9000
theorem cL.mono{n n':Nat}(r:cL n A)(h:n'≤n):cL n' A:=⟨r.handled,by have:=r.depth;exact ag (lP (c8 5 h) _) this,by have:=r.units;exact ag (lP (c8 20 h) _) this⟩
theorem cL.lt{n:Nat}(r:cL n A):A.depth<recursionLimit:=by have:=r.depth;unfold recursionLimit;exact eD (ag (cb ..) this) (nb rfl)
inductive Post{α β:Type}(X:Cx)(L:Addr)(ae:List Loc)(σ:ar)(κ:bM)(h:Heap)(R:(Addr->Prop)->Heap->β->α->Prop)(K:β->St->Prop)(y:α)(s':al):Prop
 | mk (b:β) (st':St) (κ':bM):Rel X L ae st' κ' s'->bg (λz=>z =L) σ κ h st'.σ κ' s'.heap->R (aj st'.σ κ') s'.heap b y->K b st'->Post X L ae σ κ h R K y s'
theorem Post.trans{X L ae σ κ h σ' κ' h'}{R:(Addr->Prop)->Heap->β->α->Prop}{K:β->St->Prop}{y:α}(e:bg (λz=>z =L) σ κ h σ' κ' h')(p:Post X L ae σ' κ' h' R K y s'):Post X L ae σ κ h R K y s' :=
 let ⟨b,st',yv,r,e',v,k⟩:=p;⟨b,st',yv,r,e.trans e',v,k⟩
def mV(X:Cx)(n:Nat)(L:Addr)(ae:List Loc)(t:Sem α)(R:(Addr->Prop)->Heap->β->α->Prop)(K:β->St->Prop)(st:St):Prop :=
 ∀A κ s,cL n A->Rel X L ae st κ s->ai X.M A t (Post X L ae st.σ κ s.heap R K) (λJ J=>False) s
abbrev bO(X:Cx)(n:Nat)(L:Addr)(ae:List Loc)(t:Sem Value)(K:ab->St->Prop)(st:St):Prop:=mV X n L ae t am K st
def QG(_:Addr->Prop)(_:Heap)(b:Bool)(y:Bool):Prop:=y=b
def ig(_:Addr->Prop)(_:Heap)(_:Unit)(_:Unit):Prop:=True
abbrev jO(X:Cx)(n:Nat)(L:Addr)(ae:List Loc)(t:Sem Bool)(K:Bool->St->Prop)(st:St):Prop:=mV X n L ae t QG K st
abbrev tt(X:Cx)(n:Nat)(L:Addr)(ae:List Loc)(t:Sem (List Value))(K:List ab->St->Prop)(st:St):Prop:=mV X n L ae t aO K st
inductive cq where
 | next | brk | cont
 | ret (v:ab)
inductive vk(U:Addr->Prop)(h:Heap):cq->iJ->Prop
 | next:vk U h .next .next
 | brk:vk U h .brk .brk
 | cont:vk U h .cont .cont
 | ret {v:ab} {y:Value}:am U h v y->vk U h (.ret v) (.ret y)
abbrev dG(X:Cx)(n:Nat)(L:Addr)(ae:List Loc)(t:Sem iJ)(K:cq->St->Prop)(st:St):Prop:=mV X n L ae t vk K st
theorem lT.keeps{h h':Heap}{l:Loc}(x:lT h l y)(k:∀o,h.get? l.addr=some o->h'.get? l.addr=some o):lT h' l y:=by
 cases l with
 | loc a n=>obtain ⟨m,⟨o,es,ep,e,r⟩,q⟩:=x;exact ⟨m,⟨o,es,ep,k _ e,r⟩,q⟩
 | cell c=>obtain ⟨o,e,r⟩:=x;exact ⟨o,k _ e,r⟩
theorem px.keeps{L:Addr}{h h':Heap}{l:Loc}(x:px L h l)(k:∀o,h.get? l.addr=some o->h'.get? l.addr=some o):px L h' l:=by
 cases l with
 | loc a n=>exact x
 | cell c=>obtain ⟨q,v,o,e,r⟩:=x;exact ⟨q,v,o,k _ e,r⟩
theorem lT.some{h:Heap}{l:Loc}(x:lT h l y):∃o,h.get? l.addr=some o:=by
 cases l with
 | loc a n=>obtain ⟨m,⟨o,es,ep,e,r⟩,q⟩:=x;exact ⟨o,e⟩
 | cell c=>obtain ⟨o,e,r⟩:=x;exact ⟨o,e⟩
section
variable{X:Cx}{σ:ar}{κ:bM}{s s':al}
theorem gP{h h':Heap}(k:∀b o,h.get? b=some o->h'.get? b=some o):c7 U h U h':=λa o u e=>⟨u,k a o e⟩
theorem pr.bd{U h U' h' κ κ'}(S:c7 U h U' h')(x:pr U κ h a o)(hk:∀ob,h.get? a=some ob->h'.get? a=some ob)
  (hd:∀d ob,κ d= .dict a->h.get? d=some ob->κ' d= .dict a/\h'.get? d=some ob):pr U' κ' h' a o:=by
 cases o with
 | list vs=>obtain ⟨items,⟨ob,e,r⟩,q⟩:=x;exact ⟨items,⟨ob,hk _ e,r⟩,q.mono S⟩
 | di b=>exact hk _ x
 | inst C fs=>obtain ⟨d,es,n,e1,e2,e3,q⟩:=x;exact ⟨d,es,n,hk _ e1,(hd d _ e3 e2).2,(hd d _ e3 e2).1,q.mono S⟩
theorem vi.bd{U h U' h'}(S:c7 U h U' h')(x:vi X U h)(k:∀t∈X.tabs,∀o,h.get? t.2.1=some o->h'.get? t.2.1=some o):vi X U' h':=λt ht=>by
 refine j' (x t ht) λps e a b=>⟨ps,k t ht _ e,a,λpos cv q=> ?_⟩;refine j' (b pos cv q) λco bb u r=> ?_;subst bb
 have r':=r
 refine Gw (r') λJ J J J e0 e1 J=> ?_;cases e0;exact ⟨co,rfl,(S _ _ u e1).1,yh S u r⟩
theorem bq.ext(G:bq X σ κ s)(k:∀b o,s.heap.get? b=some o->s'.heap.get? b=some o)(ho:s'.os=s.os)(hg:s'.gens=s.gens):bq X σ κ s' where
 keep:=λb o e=>k b o (G.keep b o e)
 os:=ho.trans G.os
 gens:=hg.trans G.gens
 tabs:=G.tabs.bd (gP k) λt J o e=>k _ o e
 base:=G.base
 lt:=λa h=>iH (G.lt a h) λo e=>⟨o,k _ _ e⟩
 fr:=G.fr
 excl:=G.excl
 own:=λa o h=>(G.own a o h).bd (gP k) (λob e=>k a ob e) λd ob q e=>⟨q,k d ob e⟩
 dict:=λd a h=>jg (G.dict d a h) λC fs q e=>⟨C,fs,q,k _ _ e⟩
 tab:=G.tab
theorem gj.ext{L ae m fz}{h h':Heap}(F:gj L ae m fz σ κ h)(k:∀b o,h.get? b=some o->h'.get? b=some o):gj L ae m fz σ κ h' where
 tag:=F.tag
 ns:=iH F.ns λml q=>⟨ml,q.keeps k⟩
 len:=F.len
 lt:=λi l e=>iH (F.lt i l e) λo q=>⟨o,k _ o q⟩
 vals:=λi v e=>eV (F.vals i v e) λl y a b c=>⟨l,y,a,b.keeps λo=>k _ o,c.mono (gP k)⟩
 rd:=F.rd
 wr:=λi l e q=>dP (F.wr i l e q) λa b=>⟨a,b.keeps λo=>k _ o⟩
 nodup:=F.nodup
theorem Rel.ext{L ae st}(R:Rel X L ae st κ s)(k:∀b o,s.heap.get? b=some o->s'.heap.get? b=some o)(ho:s'.os=s.os)(hg:s'.gens=s.gens):Rel X L ae st κ s' :=
 ⟨R.g.ext k ho hg,R.f.ext k⟩
theorem Rel.toks{L ae st}(R:Rel X L ae st κ s)(hh:s'.heap=s.heap)(ho:s'.os=s.os)(hg:s'.gens=s.gens):Rel X L ae st κ s':=R.ext (λb o e=>hh▸e) ho hg
theorem bg.ext{ex:Addr->Prop}{h h':Heap}(k:∀b o,h.get? b=some o->h'.get? b=some o):bg ex σ κ h σ κ h':=⟨gP k,λa o J e J g=>⟨e,k a o g⟩,λa o J e g=>⟨.inl e,o,k a o g⟩⟩
theorem Post.keep{L ae st}{R:(Addr->Prop)->Heap->β->α->Prop}{K:β->St->Prop}{y:α}{b:β}(r:Rel X L ae st κ s)(k:∀b o,s.heap.get? b=some o->s'.heap.get? b=some o)(ho:s'.os=s.os)(hg:s'.gens=s.gens)
  (v:R (aj st.σ κ) s'.heap b y) (q:K b st):Post X L ae st.σ κ s.heap R K y s':=⟨b,st,κ,r.ext k ho hg, .ext k,v,q⟩
theorem Post.same{L ae st}{R:(Addr->Prop)->Heap->β->α->Prop}{K:β->St->Prop}{y:α}{b:β}(r:Rel X L ae st κ s)(hh:s'.heap=s.heap)(ho:s'.os=s.os)(hg:s'.gens=s.gens)
  (v:R (aj st.σ κ) s.heap b y) (q:K b st):Post X L ae st.σ κ s.heap R K y s':=(.keep r (λb o e=>hh▸e) ho hg (hh▸v) q)
theorem gj.BX{ex:Addr->Prop}{L ae m fz σ κ h σ' κ' h'}(F:gj L ae m fz σ κ h)(S:c7 (aj σ κ) h (aj σ' κ') h')(fr:∀a o L,κ a= .frame L->¬ ex L->h.get? a=some o->κ' a= .frame L/\h'.get? a=some o)(hL:¬ ex L)(hv:∀(i:Nat) l L',ae[i]? =some l->κ l.addr= .frame L'->¬ ex L'):gj L ae m fz σ' κ' h' :=
 have at_:∀(i:Nat) l,ae[i]? =some l->∀o,h.get? l.addr=some o->h'.get? l.addr=some o:=λi l hi o g =>
  if q:i∈fz then (F.rd i l hi q).elim (λu=>(S _ o u g).2) λ⟨L',_,t⟩=>(fr _ o L' t (hv i l L' hi t) g).2 else (fr _ o L (F.wr i l hi q).1 hL g).2
 let ⟨ml,oL,es,ep,gL,r⟩:=F.ns
 {tag:=(fr L oL L F.tag hL gL).1
  ns:=⟨ml,oL,es,ep,(fr L oL L F.tag hL gL).2,r⟩
  len:=F.len
  lt:=λi l hi=>(F.lt i l hi).imp λo q=>at_ i l hi o q
  vals:=λi v hv=>eV (F.vals i v hv) λl y a b c=>⟨l,y,a,b.keeps (at_ i l a),c.mono S⟩
  rd:=λi l hi q=>(F.lt i l hi).elim λo g=>(F.rd i l hi q).imp (λu=>(S _ o u g).1) λ⟨L',ne,t⟩=>⟨L',ne,(fr _ o L' t (hv i l L' hi t) g).1⟩
  wr:=λi l hi q=>(F.lt i l hi).elim λo g=>⟨(fr _ o L (F.wr i l hi q).1 hL g).1,(F.wr i l hi q).2.keeps (at_ i l hi)⟩
  nodup:=F.nodup}
theorem gj.BZ{ex:Addr->Prop}{L ae m fz σ κ h σ' κ' h'}(F:gj L ae m fz σ κ h)(e:bg ex σ κ h σ' κ' h')(hL:¬ ex L)(hv:∀(i:Nat) l L',ae[i]? =some l->κ l.addr= .frame L'->¬ ex L'):gj L ae m fz σ' κ' h':=F.BX e.bd e.frames hL hv
theorem gj.dq{L ae m fz σ' κ'}{h h':Heap}(F:gj L ae m fz σ κ h)(e:bg (λJ=>False) σ κ h σ' κ' h'):gj L ae m fz σ' κ' h':=F.BZ e id λJ J J J J=>id
theorem nf{t u:Tag}(e:t=u)(h:eh u.ix 2=false:=by rfl):∀L,t≠ .frame L:=λJ q=>bZ (e.symm.trans q) h
theorem bq.vm{σ' κ'}(G:bq X σ κ s){ex:Addr->Prop}(hx:∀a,ex a->¬ aj σ κ a)(h1:∀a o,(∀L,κ a≠ .frame L)->¬ ex a->s.heap.get? a=some o->σ' a=σ a/\κ' a=κ a/\s'.heap.get? a=some o)
  (ht:c7 (aj σ κ) s.heap (aj σ' κ') s'.heap->vi X (aj σ' κ') s'.heap) (h5:∀t∈X.tabs,κ' t.2.1= .tab)
  (h2:c7 (aj σ κ) s.heap (aj σ' κ') s'.heap->∀a o,σ' a=some o->(σ a=some o/\¬ ex a/\∀d,κ d= .dict a->¬ ex d)∨(κ' a= .none/\pr (aj σ' κ') κ' s'.heap a o))
  (QH:∀d a,κ' d= .dict a->(κ d= .dict a/\¬ ex a)∨∃C fs,σ' a=some (.inst C fs)/\s'.heap.get? a=some (instObj C d))
  (h3:∀a,¬ aj σ' κ' a->∃o,s'.heap.get? a=some o) (h4:∀a L,κ' a= .frame L->κ' L= .frame L) (ho:s'.os=s.os) (hg:s'.gens=s.gens):c7 (aj σ κ) s.heap (aj σ' κ') s'.heap/\bq X σ' κ' s' :=
 have S:c7 (aj σ κ) s.heap (aj σ' κ') s'.heap:=λa o u e=>have z:=h1 a o (nf u.2) (λq=>hx a q u) e;⟨⟨z.1.trans u.1,z.2.1.trans u.2⟩,z.2.2⟩
 ⟨S,{
  keep:=λb o e=>(S b o (G.base b o e) (G.keep b o e)).2
  os:=ho.trans G.os
  gens:=hg.trans G.gens
  tabs:=ht S
  base:=λa o e=>(S a o (G.base a o e) (G.keep a o e)).1
  lt:=h3
  fr:=h4
  excl:=λa n=>by
   rcases q:σ' a with _ | o
   ·exact absurd q n
   ·exact (h2 S a o q).elim (λz=>have e:σ a≠none:=λy=>nn (y.symm.trans z.1);(G.lt a λu=>e u.1).elim λo g=>(h1 a o (nf (G.excl a e)) z.2.1 g).2.1.trans (G.excl a e)) λz=>z.1
  own:=λa o e=>(h2 S a o e).elim (λz=>(G.own a o z.1).bd S (λob g=>(h1 a ob (nf (G.excl a λy=>nn (y.symm.trans z.1))) z.2.1 g).2.2) λd ob q g=>have y:=h1 d ob (nf q) (z.2.2 d q) g;⟨y.2.1.trans q,y.2.2⟩) λz=>z.2
  dict:=λd a e=>(QH d a e).elim (λz=>jg (G.dict d a z.1) λC fs q g=>have y:=h1 a _ (nf (G.excl a λz=>nn (z.symm.trans q))) z.2 g;⟨C,fs,y.1.trans q,y.2.2⟩) id
  tab:=h5}⟩
theorem bq.step{κ'}(G:bq X σ κ s)(h1:∀a o,(∀L,κ a≠ .frame L)->s.heap.get? a=some o->κ' a=κ a/\s'.heap.get? a=some o)(h2:∀d a,κ' d= .dict a->κ d= .dict a)
  (h3:∀a,¬ aj σ κ' a->∃o,s'.heap.get? a=some o) (h4:∀a L,κ' a= .frame L->κ' L= .frame L) (ho:s'.os=s.os) (hg:s'.gens=s.gens):c7 (aj σ κ) s.heap (aj σ κ') s'.heap/\bq X σ κ' s' :=
 G.vm (ex:=λJ=>False) (λJ=>Hi) (λa o h J e=>⟨rfl,h1 a o h e⟩) (λS=>G.tabs.bd S λt ht o e=>(h1 _ o (nf (G.tab t ht)) e).2)
  (λt ht=>(G.lt _ λu=>bZ (u.2.symm.trans (G.tab t ht))).elim λo g=>(h1 _ o (nf (G.tab t ht)) g).1.trans (G.tab t ht)) (λJ J J e=> .inl ⟨e,id,λJ J=>id⟩) (λd a e=> .inl ⟨h2 d a e,id⟩) h3 h4 ho hg
theorem Post.op{L ae}{R:(Addr->Prop)->Heap->β->α->Prop}{K:β->St->Prop}{y:α}{b:β}{σ' κ'}(r:Rel X L ae st κ s)(G:bq X σ' κ' s')(e:bg (λJ=>False) st.σ κ s.heap σ' κ' s'.heap)
  (v:R (aj σ' κ') s'.heap b y) (q:K b {st with σ:=σ'}):Post X L ae st.σ κ s.heap R K y s':=⟨b,{st with σ:=σ'},κ',⟨G,r.f.dq e⟩,e.weaken λJ x=>x.elim,v,q⟩
end
set_option genSizeOf false
set_option genSizeOfSpec false
set_option genInjectivity false
mutual
inductive IE where
 | v (i:Nat)
 | ah (v:ab)
 | bin (op:pg) (a b:IE)
 | neg (a:IE)
 | not (a:IE)
 | bool (bW:Bool) (es:List IE)
 | ite (t:IB) (a b:IE)
 | cmp (op:fq) (a b:IE)
 | kf (fS eN:fq) (a b c:IE)
 | call (f:IE) (args:List IE) (dH:List (Str×IE))
 | aI (o:IE) (name:Str) (args:List IE)
 | a (o:IE) (name:Str)
 | sub (o i:IE)
 | slice (o:IE) (lo hi:Option IE)
 | tuple (es:List IE)
 | list (es:List IE)
 | comp (cK:IE) (gk:List Nat) (aP:Bool) (it:II) (cond:Option IB) (k:Nat)
 | lam (i:Nat)
inductive II where
 | val (e:IE)
 | range (args:List IE)
 | enum (e:IE)
 | zip (es:List IE)
inductive IB where
 | val (e:IE)
 | not (a:IB)
 | bool (bW:Bool) (es:List IB)
 | cmp (op:fq) (a b:IE)
 | kf (fS eN:fq) (a b c:IE)
end
inductive IT where
 | v (i:Nat)
 | a (o:IE) (name:Str)
 | sub (o i:IE)
 | slice (o:IE) (lo hi:Option IE)
inductive IS where
 | expr (e:IE)
 | s (t:IT) (e:IE)
 | d0 (ts:List IT) (e:IE)
 | aug (o i:IE) (op:pg) (e:IE)
 | loop (gk:List Nat) (aP:Bool) (it:II) (body:List IS)
 | jj (t:IB) (body:List IS)
 | ifs (t:IB) (a b:List IS)
 | ret (e:Option IE)
 | fail
 | pass
structure CT where
 names:List (Str×cz)
 idx:List (Str×Nat)
 G:List (Str×ab)
 n:Nat
 lam:Bool
noncomputable def gQ(x:Str):Bool:=x==("__debug__" :Str) || x==("__classdict__" :Str)
noncomputable def xA{α:Sort _}(d:α)(r:Value->α)(i:Int->α)(b:List UInt8->α)(l:List ab->α)(t:List ab->α)(v:ab):α:=v.casesOn r i b l t (λJ J=>d) (λJ J=>d) λJ=>d
noncomputable def xV{α:Sort _}(d n:α)(b:Bool->α)(i:Int->α)(r:Addr->α)(v:Value):α:=v.casesOn n d d b (λa J=>i a) (λJ J=>d) (λJ J=>d) (λJ J=>d) (λJ=>d) (λJ=>d) r
noncomputable def isVar(o:Option cz):Bool:=o.casesOn false λk=>k.casesOn true true true false false
noncomputable def jP(c:CT)(x:Str):Option Nat:=if (!gQ x&&isVar (c.names.lookup x))=true then c.idx.lookup x else none
noncomputable def jk(c:CT)(x:Str):Option IE:=if gQ x=true then none else if isVar (c.names.lookup x)=true then (c.idx.lookup x).map .v else if (c.names.lookup x==some .globalImplicit)=true then (c.G.lookup x).map .ah else none
noncomputable def cC(k:Const):Option ab:=k.casesOn (some .none) (λb=>some (.bool b)) (λi=>some (.int i)) (λJ=>none) (λJ J=>none) (λJ=>none) (λb=>some (.bytes b)) none
noncomputable def baseOk(e:Expr):Bool:= !Nat.beq e.ctorIdx 16
noncomputable def qX(e:Expr):Bool:=eh e.ctorIdx 8
noncomputable def nameP(e:Expr):Option (Str×Pos):=B0 (λJ=>Option (Str×Pos)) e (λx p=>some (x,p)) λJ=>none
noncomputable def nameOf(e:Expr):Option Str:=(nameP e).map (λz=>z.1)
noncomputable def xE(d:α)(bo:BE->List Expr->α)(bi:Expr->pg->Expr->α)(un:UnaryOp->Expr->α)(la:td->Expr->nQ->α)(te:Expr->Expr->Expr->α)(lc:Expr->List va->nQ->α)
  (cm:Expr->List fq->List Expr->Pos->α) (ca:Expr->List Expr->List uZ->Pos->α) (co:Const->α) (at_:Expr->Str->α) (su:Expr->Expr->α) (na:Str->α) (li:List Expr->α) (tu:List Expr->α) (e:Expr):α :=
 e.casesOn (motive_1:=λJ=>α) (λa b J=>bo a b) (λJ J J=>d) (λa b c J=>bi a b c) (λa b J=>un a b) (λa b c J=>la a b c) (λa b c J=>te a b c) (λJ J J=>d) (λJ J J=>d) (λa b c J=>lc a b c) (λJ J J J=>d) (λJ J J J J=>d) (λJ J J J=>d)
  (λJ J=>d) (λJ J=>d) (λJ J=>d) cm ca (λJ J J J=>d) (λJ J=>d) (λa J J=>co a) (λa b J=>at_ a b) (λa b J=>su a b) (λJ J=>d) (λa J=>na a) (λa J=>li a) (λa J J=>tu a) λJ J J J=>d
noncomputable def xL(d:β)(f:α->List α->β)(l:List α):β:=l.casesOn d f
noncomputable def xU(d:α)(f g:α)(o:UnaryOp):α:=o.casesOn d f d g
noncomputable def Hj:Expr->Option (Expr×List fq×List Expr×Pos) :=
 xE none (λJ J=>none) (λJ J J=>none) (λJ J=>none) (λJ J J=>none) (λJ J J=>none) (λJ J J=>none) (λa b c d=>some (a,b,c,d)) (λJ J J J=>none) (λJ=>none) (λJ J=>none) (λJ J=>none) (λJ=>none) (λJ=>none) λJ=>none
noncomputable def xC(d:α)(f:fq->Expr->α)(g:fq->fq->Expr->Expr->α)(os:List fq)(rs:List Expr):α :=
 xL d (λo os=>xL (xL d (λr rs=>xL (f o r) (λJ J=>d) rs) rs) (λo2 os=>xL (xL d (λr rs=>xL d (λr2 rs=>xL (g o o2 r r2) (λJ J=>d) rs) rs) rs) (λJ J=>d) os) os) os
noncomputable def Hk(e:Expr):List Expr:=QI (λJ=>List Expr) e (λes J J=>es) λJ=> []
noncomputable def dr:List (Str×cz)->Nat->List (Str×Nat)
 | [],_=> []
 | (x,k)::r,n=>if k== .local || k== .cell then (x,n)::dr r (n+1) else dr r n
noncomputable def ij(idx:List (Str×Nat)):List (Str×cz)->Option (List (Str×Nat))
 | []=>some []
 | (x,k)::r=>if k== .free then (match idx.lookup x,ij idx r with
   | some i,some l=>some ((x,i)::l)
   | _,_=>none) else ij idx r
noncomputable def cN(c:CT)(e:Expr):Option Nat:=(nameOf e).bind (jP c)
noncomputable def kX(c:CT)(e:Expr):Option (List Nat×Bool):=if eh e.ctorIdx 25 then ((Hk e).mapM (cN c)).map λl=>(l,true) else (cN c e).map λi=>([i],false)
noncomputable def jQ:List (Str×cz)->Bool
 | []=>true
 | (x,_)::r=> !(r.any λp=>p.1==x)&&jQ r
noncomputable def freeOk(outer:List (Str×cz)):List (Str×cz)->Bool
 | []=>true
 | (x,k)::r=>(if k== .free then !gQ x&&(outer.lookup x==some .cell || outer.lookup x==some .free) else true)&&freeOk outer r
noncomputable def qY(outer:List (Str×cz))(scope:nQ):Bool:=(scope.kind== .function)&&jQ scope.names&&freeOk outer scope.names
noncomputable def tv(e:Expr):Bool:=eh e.ctorIdx 25&&(Hk e).all (constantsAlone 8)
noncomputable def yw(p q:Str)(scope:nQ):Bool:=scope.kind== .function&& !scope.isGenerator&& !scope.isCoroutine&&scope.names== [(p, .local),(q, .free)]
noncomputable def vn(l:List α):Option α:=xL none (λa r=>xL (some a) (λJ J=>none) r) l
noncomputable def B1(c:CT)(args:td)(body:Expr)(scope:nQ):Option IE :=
 if (args.posonlyargs.isEmpty&&args.vararg.isNone&&args.kwonlyargs.isEmpty&&args.kw_defaults.isEmpty&&args.kwarg.isNone&&args.defaults.isEmpty)=true then
  (vn args.args).bind λa=>(Hj body).bind λb=>(nameP b.1).bind λp'=>(vn b.2.1).bind λo=>(vn b.2.2.1).bind λr=>(nameP r).bind λq =>
   if (a.annotation.isNone&&o== .Eq&&c.lam&&a.arg==p'.1&& !(a.arg==q.1)&&yw a.arg q.1 scope&& !gQ a.arg&& !gQ q.1&&(c.names.lookup q.1==some .cell))=true then (c.idx.lookup q.1).map .lam else none
 else none
noncomputable def QJ(v:ab):String:=xA "" (λv=>v.casesOn "" "" "" (λJ=> "") (λJ J=> "") (λJ J=> "") (λJ J=> "") (λJ J=> "") (λT=>T) (λJ=> "") λJ=> "") (λJ=> "") (λJ=> "") (λJ=> "") (λJ=> "") v
noncomputable def qZ(o:Option IE):String:=o.casesOn "" λi=>i.casesOn (motive_1:=λJ=>String) (λJ=> "") QJ (λJ J J=> "") (λJ=> "") (λJ=> "") (λJ J=> "") (λJ J J=> "") (λJ J J=> "") (λJ J J J J=> "") (λJ J J=> "") (λJ J J=> "") (λJ J=> "") (λJ J=> "") (λJ J J=> "") (λJ=> "") (λJ=> "") (λJ J J J J J=> "") λJ=> ""
noncomputable def yx(T:String)(as:Option (List IE))(v:Option IE):Option II :=
 if T== "range" then as.map .range else if T== "enumerate" then as.bind λas=>(vn as).map .enum else if T== "zip" then as.map .zip else v.map .val
noncomputable def vo(f:Expr->Option IE):uZ->Option (Str×IE)
 | ⟨some x,v,_⟩=>(f v).map λi=>(x,i)
 | _=>none
noncomputable def nW:II->Bool->Bool
 | .enum _,b=>b
 | .zip _,b=>b
 | _,_=>true
noncomputable def Hl(f:Expr->Option IB)(ifs:List Expr):Option (Option IB):=match ifs with
 | []=>some none
 | e::r=>if r.isEmpty=true then (f e).map some else none
noncomputable def B2(f:Expr->Option IE)(e:Option Expr):Option (Option IE):=match e with
 | none=>some none
 | some e=>(f e).map some
mutual
noncomputable def cB:Nat->CT->Expr->Option IB
 | 0,_,_=>none
 | n+1,c,e =>
  let o:=(cE n c e).map .val
  xE o (λop es=>do return .bool (op== .And) (<-es.mapM (cB n c))) (λJ J J=>o) (λop a=>xU o (do return .not (<-cB n c a)) o op) (λJ J J=>o) (λJ J J=>none) (λJ J J=>o)
   (λa os rs J=>xC o (λop b=>do return .cmp op (<-cE n c a) (<-cE n c b)) (λfS eN b1 b2=>do return .kf fS eN (<-cE n c a) (<-cE n c b1) (<-cE n c b2)) os rs)
   (λJ J J J=>o) (λJ=>o) (λJ J=>o) (λJ J=>o) (λJ=>o) (λJ=>o) (λJ=>o) e
noncomputable def cE:Nat->CT->Expr->Option IE
 | 0,_,_=>none
 | n+1,c,e =>
  let iter:Expr->Option II:=λe=>Hm (λJ=>Option II) e (λf args ks J=>B0 (λJ=>Option II) f (λx J=>if ks.isEmpty then yx (qZ (jk c x)) (args.mapM (cE n c)) (cE n c e) else (cE n c e).map .val) λJ=>(cE n c e).map .val) λe=>(cE n c e).map .val
  xE none (λop es=>do return .bool (op== .And) (<-es.mapM (cE n c))) (λa op b=>do return .bin op (<-cE n c a) (<-cE n c b)) (λop a=>xU none (do return .not (<-cE n c a)) (do return .neg (<-cE n c a)) op)
   (B1 c) (λt a b=>do return .ite (<-cB n c t) (<-cE n c a) (<-cE n c b))
   (λcK gens scope=>xL none (λg r=>xL (g.is_async.casesOn (motive:=λJ=>Option IE) (λm=>m.casesOn (motive:=λJ=>Option IE) (do
    let fR<-iter g.iter
    let ni:=dr scope.names c.n
    let oi<-ij c.idx scope.names
    let c':CT:={names:=scope.names,idx:=ni++oi,G:=c.G,n:=c.n+ni.length,lam:=false}
    let cond<-Hl (cB n c') g.ifs
    let (tg,aP)<-kX c' g.target
    if nW fR aP&&qY c.names scope then return .comp (<-cE n c' cK) tg aP fR cond ni.length else none) λJ=>none) λJ=>none) (λJ J=>none) r) gens)
   (λa os rs J=>xC none (λop b=>do return .cmp op (<-cE n c a) (<-cE n c b)) (λfS eN b1 b2=>do return .kf fS eN (<-cE n c a) (<-cE n c b1) (<-cE n c b2)) os rs)
   (λf args dH pos=>ahL (λJ=>Option IE) f (λx J=>if args.length+2*dH.length≤20 then do
    return .call (<-jk c x) (<-args.mapM (cE n c)) (<-dH.mapM (vo (cE n c))) else none)
    (λo name q0=>if dH.isEmpty then if q0.endLine==pos.line&&args.length≤20&&baseOk o then do return .aI (<-cE n c o) name (<-args.mapM (cE n c)) else none else none) λJ=>none)
   (λk=>(cC k).map .ah) (λo name=>if baseOk o then do return .a (<-cE n c o) name else none)
   (λo i=>QK (λJ=>Option IE) i (λlo hi J=>(B2 (cE n c) lo).bind λl=>(B2 (cE n c) hi).bind λh=>(cE n c o).map λi=> .slice i l h) λi=>do return .sub (<-cE n c o) (<-cE n c i))
   (jk c) (λes=>do return .list (<-es.mapM (cE n c))) (λes=>do return .tuple (<-es.mapM (cE n c))) e
end
noncomputable def cI(n:Nat)(c:CT)(e:Expr):Option II:=Hm (λJ=>Option II) e (λf args ks J=>B0 (λJ=>Option II) f (λx J=>if ks.isEmpty then yx (qZ (jk c x)) (args.mapM (cE n c)) (cE n c e) else (cE n c e).map .val) λJ=>(cE n c e).map .val) λe=>(cE n c e).map .val
noncomputable def nX(n:Nat)(c:CT)(e:Option Expr):Option (Option IE):=B2 (cE n c) e
noncomputable def cT(n:Nat)(c:CT)(e:Expr):Option IT:=QL (λJ=>Option IT) e (λx J=>(jP c x).map .v) (λo name J=>do return .a (<-cE n c o) name)
 (λo i J=>QK (λJ=>Option IT) i (λlo hi J=>(nX n c lo).bind λl=>(nX n c hi).bind λh=>(cE n c o).map λi=> .slice i l h) λi=>do return .sub (<-cE n c o) (<-cE n c i)) λJ=>none
noncomputable def cS:Nat->CT->fQ->Option IS
 | 0,_,_=>none
 | n+1,c,st=>st.casesOn (motive_2:=λJ=>Option IS) (λJ J J J J J J J J J=>none) (λJ J J J J J J J J J=>none) (λJ J J J J J J J J J J=>none)
  (λo J=>match o with
   | none=>some (.ret none)
   | some e=>(cE (n+1) c e).map λi=> .ret (some i)) (λJ J=>none)
  (λts v J=>xL none (λt r=>xL (QI (λJ=>Option IS) t (λts J J=>if qX v || tv v then none else do return .d0 (<-ts.mapM (cT (n+1) c)) (<-cE (n+1) c v)) λt=>do return .s (<-cT (n+1) c t) (<-cE (n+1) c v)) (λJ J=>none) r) ts) (λJ J J J J J J=>none)
  (λt op v J=>QL (λJ=>Option IS) t (λJ J=>none) (λJ J J=>none) (λo i J=>do return .aug (<-cE (n+1) c o) (<-cE (n+1) c i) op (<-cE (n+1) c v)) λJ=>none) (λJ J J J J=>none)
  (λt it body r J=>xL (do
    let (tg,aP)<-kX c t
    let fR<-cI (n+1) c it
    if nW fR aP then return .loop tg aP fR (<-body.mapM (cS n c)) else none) (λJ J=>none) r) (λJ J J J J=>none)
  (λt body r J=>xL (do return .jj (<-cB (n+1) c t) (<-body.mapM (cS n c))) (λJ J=>none) r)
  (λt a b J=>do return .ifs (<-cB (n+1) c t) (<-a.mapM (cS n c)) (<-b.mapM (cS n c)))
  (λJ J J=>none) (λJ J J=>none) (λJ J J=>none) (λJ J J=>some .fail) (λJ J J J J=>none) (λJ J J J J=>none) (λJ J J=>none) (λJ J=>none) (λJ J J J=>none) (λJ J=>none) (λJ J=>none)
  (λe J=>Hm (λJ=>Option IS) e (λf as ks p=>(cE (n+1) c (.Call f as ks p)).map .expr) λJ=>none) (λJ=>some .pass) (λJ=>none) λJ=>none
structure Fn where
 params:Nat
 ae:Nat
 body:List IS
noncomputable def QM(ns:List (Str×cz)):Bool:=ns.all λp=> !(p.2== .free)
noncomputable def B3(fd:FuncData):Bool:=(fd.scope.kind== .function)&&jQ fd.scope.names&&QM fd.scope.names&& !fd.scope.isGenerator&& !fd.scope.isCoroutine&&fd.params.args.all (λa=> !gQ a.arg) &&
 fd.params.posonlyargs.isEmpty&&fd.params.vararg.isNone&&fd.params.kwonlyargs.isEmpty&&fd.params.kwarg.isNone&&fd.closure.isEmpty&&fd.globals==mainGlobals&&fd.builtins==builtinsNs
noncomputable def tw(lam:Bool)(G:List (Str×ab))(fd:FuncData):CT:={names:=fd.scope.names,idx:=dr fd.scope.names 0,G:=G,n:=(dr fd.scope.names 0).length,lam:=lam}
noncomputable def vp(n:Nat)(lam:Bool)(G:List (Str×ab))(fd:FuncData):Option Fn:=match fd.body with
 | .stmts body =>
  if B3 fd&&(fd.params.args.map λx=>(dr fd.scope.names 0).lookup x.arg)==(aK fd.params.args.length).map some then
   (body.mapM (cS n (tw lam G fd))).map λb=>⟨fd.params.args.length,(dr fd.scope.names 0).length,b⟩
  else none
 | _=>none
section
variable {B:Prop}{C:ab->Prop}
noncomputable def ar.set(σ:ar)(a:Addr)(o:ee):ar:=λb=>if b=a then some o else σ b
noncomputable def St.put(st:St)(σ:ar):St:={st with σ:=σ}
noncomputable def St.jl(st:St)(i:Nat)(v:ab):St:={st with m:=st.m.set i (some v)}
noncomputable def St.Hn(st:St)(k:Nat):St:={m:=st.m++ci k none,fz:=aK st.m.length,σ:=st.σ}
def dQ(n:Nat):Prop:=n≤1000000
noncomputable def B4:List (Addr×List Str):= [
 (77,["child","row","many","first"]),
 (338,["children","parity","guid","shape"]),
 (436,["sector","octets","waiting","is_out","reads","writes"]),
 (458,["sector","slab","record","fan","dnodes","ring","defer","most_record","uber","config","zap"]),
 (641,["rows"]),
 (739,["disk","guid","shape","missing"])]
noncomputable def mW(C:Addr)(x:Str):Bool:=((B4.lookup C).getD []).contains x
noncomputable def Ho:List (Addr×List (Str×Addr)):= [
 (338,[("sectors",255),("asize",262),("columns",269),("whole",276),("write",283),("held",288),("read",295),("check",302),("searched",307),("wrong_of",314),("mend",321),("flush",328),("leaves",335)]),
 (436,[("sectors",363),("want",370),("read",377),("write",384),("put",391),("flush",398),("pending",405)]),
 (641,[("behind",527),("want",534),("has",541),("some",548),("add",596),("put",610)]),
 (739,[("is_there",673),("sectors",680),("place_of",687),("read",694),("write",701),("flush",708),("note_missing",715),("has",729)])]
noncomputable def py(C:Addr)(x:Str):Option Addr:=(Ho.lookup C).bind (λz=>z.lookup x)
noncomputable def B5:List (Addr×Addr):= [(77,67),(338,250),(436,356),(458,455),(641,520),(739,666)]
def bE(o:Option α)(k:α->Prop):Prop:=match o with | some v=>k v | none=>False
theorem bE.i{o:Option α}{k:α->Prop}{v:α}(e:o=some v)(h:k v):bE o k:=e▸h
theorem bE.of{C:Option α->Prop}{o:Option α}{k:α->Prop}(h:bE o k)(f:∀v,k v->C (some v)):C o:=by
 cases o with
 | none=>exact h.elim
 | some v=>exact f v h
theorem bE.ex{o:Option α}{k:α->Prop}(h:bE o k):∃v,o=some v/\k v:=bE.of (C:=λo=>∃v,o=some v/\k v) h λv h=>⟨v,rfl,h⟩
theorem bE.mono{o:Option α}{k k':α->Prop}(h:bE o k)(f:∀v,k v->k' v):bE o k':=bE.of (C:=λo=>bE o k') h f
noncomputable def mX(b:Bool)(x:Option α):Option α:=match b with | true=>x | false=>none
theorem mX.inv{b:Bool}{x:Option α}{v:α}(h:mX b x=some v):b=true/\x=some v:=by
 cases b
 ·exact nn h
 ·exact ⟨rfl,h⟩
theorem mX.i{b:Bool}{x:Option α}{v:α}(e:b=true)(h:x=some v):mX b x=some v:=aa e h
def cX(b:Bool)(p:Prop):Prop:=match b with | true=>p | false=>False
theorem cX.of{C:Prop}{b:Bool}{p:Prop}(h:cX b p)(f:b=true->p->C):C:=by
 cases b with
 | true=>exact f rfl h
 | false=>exact h.elim
theorem cX.i{b:Bool}{p:Prop}(e:b=true)(h:p):cX b p:=e▸h
def bj(c:Bool)(A B:Prop):Prop:=match c with | true=>A | false=>B
theorem bj.mono{c:Bool}{A A' B':Prop}(h:bj c A B)(f:A->A')(g:B->B'):bj c A' B':=by
 cases c
 ·exact g h
 ·exact f h
theorem bj.t{A:Prop}{c:Bool}(e:c=true)(h:A):bj c A B:=e▸h
theorem bj.f{A:Prop}{c:Bool}(e:c=false)(h:B):bj c A B:=e▸h
theorem bj.d{p:Prop} [Decidable p]{A:Prop}(h:p->A)(h':¬ p->B):bj (decide p) A B:=if q:p then .t (decide_eq_true q) (h q) else .f (decide_eq_false q) (h' q)
def kg(bW b:Bool)(A B:Prop):Prop:=match bW with | true=>bj b A B | false=>bj b B A
theorem kg.mono{bW b:Bool}{A A' B':Prop}(h:kg bW b A B)(f:A->A')(g:B->B'):kg bW b A' B':=by
 cases bW
 ·exact bj.mono h g f
 ·exact bj.mono h f g
theorem kg.of{bW b:Bool}{k:Bool->Prop}(h:k b):kg bW b (k bW) (k (!bW)):=by cases bW<;>cases b<;>exact h
noncomputable def nY:List Bool->List (Option ab)->List (Option ab)
 | b::bs,v::vs=>(match b with | true=>none | false=>v)::nY bs vs
 | _,vs=>vs
noncomputable def gE(bs:List Bool)(st:St):St:={m:=nY bs st.m,fz:=st.fz,σ:=st.σ}
inductive Wk(K:St->Prop)(st:St):Prop
 | mk (bs:List Bool):K (gE bs st)->Wk K st
noncomputable def vq(i:Nat):List Nat->Bool
 | []=>false
 | j::r=>match eh i j with | true=>true | false=>vq i r
noncomputable def vt:Nat->List α->Bool
 | _,[]=>false
 | 0,_::_=>true
 | i+1,_::r=>vt i r
noncomputable def short:List α->Nat->Bool
 | [],_=>true
 | _::_,0=>false
 | _::r,n+1=>short r n
theorem QN:∀{n:Nat},short l n=true->l.length≤n:=by
 induction l with
 | nil=>exact λJ=>da _
 | cons _ l ih =>
  intro n h;cases n with
  | zero=>exact ff h
  | succ n=>exact fT (ih h)
noncomputable def vv:List α->List β->Bool
 | [],r=>r.isEmpty
 | _::a,r=>match r with | _::b=>vv a b | []=>false
theorem Hp{a:List α}:∀{b:List β},vv a b=true->a.length=b.length:=by
 induction a with
 | nil=>intro b h;cases b;rfl;exact ff h
 | cons x a ih=>intro b h;cases b;exact ff h;exact congrArg (λz=>z +1) (ih h)
noncomputable def mY(o:Option ee):Option (List ab):=match o with
 | some (.list vs)=>some vs
 | _=>none
theorem Hq{o:Option ee}{vs}(h:mY o=some vs):o=some (.list vs):=by
 cases o with
 | none=>exact nn h
 | some o=>cases o<;>first | exact nn h | exact congrArg _ (congrArg _ (aN h))
noncomputable def tx(v:Value):Option Addr:=xV none none (λJ=>none) (λJ=>none) some v
noncomputable def eX(σ:ar)(v:ab):Option (List ab):=xA none (λv=>(tx v).bind λa=>mY (σ a)) (λJ=>none) (λJ=>none) some some v
theorem B6{v:Value}{a}(h:tx v=some a):v= .ref a:=by cases v<;>first | exact nn h | exact congrArg _ (aN h)
theorem eX.of(h:eX σ v=some vs)(l:C (.list vs))(t:C (.tuple vs))(r:∀a,σ a=some (.list vs)->C (.ref a)):C v:=by
 cases v with
 | list=>exact aN h▸l
 | tuple=>exact aN h▸t
 | raw v =>
  obtain ⟨a,h1,h2⟩:=cQ.mp h;exact B6 h1▸r a (Hq h2)
 | _=>exact nn h
noncomputable def d3(b:List UInt8):List ab:=b.map λx=> .int x.toNat
noncomputable def ty(σ:ar)(v:ab):Option (List ab):=xA none (λv=>(tx v).bind λa=>mY (σ a)) (λJ=>none) (λb=>some (d3 b)) some some v
theorem ty.of(h:ty σ v=some vs)(b:∀b,d3 b=vs->C (.bytes b))(l:C (.list vs))(t:C (.tuple vs))(r:∀a,σ a=some (.list vs)->C (.ref a)):C v:=by
 rcases v with ⟨⟩<;>first | exact eX.of (C:=C) h l t r | exact b _ (aN h)
noncomputable def ownOf(σ:ar)(v:ab):List (Addr×List ab):=xA [] (λv=>((tx v).bind λa=>(mY (σ a)).map λvs=>(a,vs)).toList) (λJ=> []) (λJ=> []) (λJ=> []) (λJ=> []) v
theorem yz{vs}(h:σ a=some (.list vs)):ownOf σ (.ref a)= [(a,vs)]:=by
 refine (?_:((mY (σ a)).map λvs=>(a,vs)).toList=_);exact aa h rfl
noncomputable def dR(x:Str):List (Str×ab)->Option ab
 | []=>none
 | (y,v)::r=>if x=y then some v else dR x r
theorem QO{y:Str}{r:List (Str×ab)}:dR x ((y,v)::r)=if x=y then some v else dR x r:=rfl
noncomputable def nZ(x:Str)(v:ab):List (Str×ab)->List (Str×ab)
 | []=> [(x,v)]
 | (y,w)::r=>if x=y then (y,v)::r else (y,w)::nZ x v r
theorem Hr{y:Str}{w:ab}{r:List (Str×ab)}:nZ x v ((y,w)::r)=if x=y then (y,v)::r else (y,w)::nZ x v r:=rfl
noncomputable def q5(k:Int):List Int->List ab->Option ab
 | k'::ks,v::vs=>if k=k' then some v else q5 k ks vs
 | _,_=>none
noncomputable def lV(σ:ar)(v:ab)(x:Str):Option ab:=match v with
 | .inst _ fs=>dR x fs
 | .ref a=>(match σ a with
  | some (.inst _ fs)=>dR x fs
  | _=>none)
 | _=>none
noncomputable def pz(σ:ar):ab->Option Addr
 | .inst C _=>some C
 | .ref a=>(match σ a with
  | some (.inst C _)=>some C
  | _=>none)
 | _=>none
noncomputable def handOk(v:ab):Bool:=xA true (λv=>xV false true (λJ=>true) (λJ=>false) (λJ=>true) v) (λJ=>true) (λJ=>true) (λJ=>true) (λJ=>true) v
noncomputable def attrOk(σ:ar)(ov:ab)(x:Str)(v:ab):Bool:=(pz σ ov).any (λz=>mW z x)&&handOk v
noncomputable def vw(v:ab):Bool:=xA false (λv=>xV false true (λJ=>false) (λJ=>false) (λJ=>false) v) (λJ=>false) (λJ=>false) (λJ=>false) (λJ=>false) v
noncomputable def gn(v w:ab):Option Bool :=
 xA none (λx=>xA none (λy=>xV none (if vw (.raw y) then some true else none) (λa=>xV none none (λb=>some (a==b)) (λJ=>none) (λJ=>none) y) (λJ=>none) (λJ=>none) x) (λJ=>none) (λJ=>none) (λJ=>none) (λJ=>none) w)
  (λi=>xA none (λJ=>none) (λj=>some (decide (i=j))) (λJ=>none) (λJ=>none) (λJ=>none) w)
  (λa=>xA none (λx=>if vw (.raw x) then some false else none) (λJ=>none) (λb=>some (decide (a=b))) (λJ=>none) (λJ=>none) w) (λJ=>none) (λJ=>none) v
noncomputable def jm(f:ab->ab->Option Bool):List ab->List ab->Option Bool
 | v::vs,ws=>(match ws with | w::ws=>(f v w).bind λa=>(jm f vs ws).map λb=>a&&b | []=>some true)
 | [],_=>some true
inductive kY:ab->ab->Bool->Prop
 | none:kY .none .none true
 | bool (a b:Bool):kY (.bool a) (.bool b) (a==b)
 | bn (b:List UInt8):kY (.bytes b) .none false
 | int (i j:Int):kY (.int i) (.int j) (decide (i=j))
 | bytes (a b:List UInt8):kY (.bytes a) (.bytes b) (decide (a=b))
theorem B7{w:ab}(h:vw w=true):w= .none:=by
 rcases w with ⟨⟩<;>first | exact ff h | skip
 rcases v with ⟨⟩<;>first | exact ff h | rfl
theorem Hs{b:Bool}{x r:α}(h:(if b=true then some x else none)=some r):b=true/\x=r:=by
 rcases b with _ | _
 ·exact nn h
 ·exact ⟨rfl,aN h⟩
theorem yA{w:ab}{b:Bool}(h:gn v w=some b):kY v w b:=by
 rcases v with x | i | b | _ | _ | _ | _ | _<;>first | exact nn h | skip
 ·rcases w with y | _ | _ | _ | _ | _ | _ | _<;>first | exact nn h | skip
  rcases x with ⟨⟩<;>first | exact nn h | skip
  ·obtain ⟨q,rfl⟩:=Hs h;exact aa (B7 q) .none
  ·rcases y with ⟨⟩<;>first | exact nn h | exact aN h▸ .bool _ _
 ·rcases w with ⟨⟩<;>first | exact nn h | exact aN h▸ .int _ _
 ·rcases w with ⟨⟩<;>first | exact nn h | exact aN h▸ .bytes _ _ | skip
  obtain ⟨q,rfl⟩:=Hs h;exact aa (B7 q) (.bn _)
noncomputable def kh:Nat->ab->ab->Option Bool
 | 0,v,w=>gn v w
 | k+1,v,w=>xA (gn v w) (λJ=>gn v w) (λJ=>gn v w) (λJ=>gn v w) (λvs=>xA none (λJ=>none) (λJ=>none) (λJ=>none) (λws=>if vs.length=ws.length then jm (kh k) vs ws else some false) (λJ=>none) w)
  (λvs=>xA none (λJ=>none) (λJ=>none) (λJ=>none) (λJ=>none) (λws=>if vs.length=ws.length then jm (kh k) vs ws else none) w) v
class inductive kj:Nat->ab->ab->Bool->Prop
 | base {k:Nat} {v w:ab} {b:Bool}:kY v w b->kj k v w b
 | list {k:Nat} {vs ws:List ab} (e:Nat->Bool):vs.length=ws.length->(∀(j:Nat) v w,vs[j]? =some v->ws[j]? =some w->kj k v w (e j))->kj (k+1) (.list vs) (.list ws) ((aK vs.length).all e)
 | B8 {k:Nat} {vs ws:List ab}:vs.length≠ws.length->kj (k+1) (.list vs) (.list ws) false
 | tuple {k:Nat} {vs ws:List ab} (e:Nat->Bool):vs.length=ws.length->(∀(j:Nat) v w,vs[j]? =some v->ws[j]? =some w->kj k v w (e j))->kj (k+1) (.tuple vs) (.tuple ws) ((aK vs.length).all e)
theorem Ht{f:ab->ab->Option Bool}:∀{ws:List ab} {b:Bool},jm f vs ws=some b->vs.length=ws.length->∃e:Nat->Bool,(∀(j:Nat) v w,vs[j]? =some v->ws[j]? =some w->f v w=some (e j))/\b=(aK vs.length).all e:=by
 induction vs with
 | nil=>exact λh J=>⟨λJ=>true,λJ J J=>nn,(aN h).symm⟩
 | cons v vs ih =>
  intro ws b h hl;rcases ws with _ | ⟨w,ws⟩
  ·cases hl
  ·obtain ⟨a,ha,h⟩:=cQ.mp h;obtain ⟨c,hc,rfl⟩:=lW.mp h;obtain ⟨e,he,rfl⟩:=ih hc (q6 hl);refine ⟨λj=>j.casesOn a e,λj v' w' h1 h2=> ?_, ?_⟩
   ·rcases j with _ | j
    ·cases aN h1;cases aN h2;exact ha
    ·exact he j v' w' h1 h2
   ·refine aa n0 (aa B9 (aa List.all_cons (aa Hu ?_)));rfl
theorem Hv(k:Nat):∀{v w:ab} {b:Bool},kh k v w=some b->kj k v w b:=by
 induction k with
 | zero=>exact λh=> .base (yA h)
 | succ k ih =>
  intro v w b h;rcases v with _ | _ | _ | vs | vs | _ | _ | _<;>first | exact .base (yA h) | skip
  ·rcases w with _ | _ | _ | ws | ws | _ | _ | _<;>first | exact nn h | skip
   by_cases q:vs.length=ws.length
   ·obtain ⟨e,he,rfl⟩:=Ht ((if_pos q).symm.trans h) q;exact .list e q λj v w a b=>ih (he j v w a b)
   ·exact ao (aN ((if_neg q).symm.trans h)) (.B8 q)
  ·rcases w with _ | _ | _ | ws | ws | _ | _ | _<;>first | exact nn h | skip
   by_cases q:vs.length=ws.length
   ·obtain ⟨e,he,rfl⟩:=Ht ((if_pos q).symm.trans h) q;exact .tuple e q λj v w a b=>ih (he j v w a b)
   ·exact nn ((if_neg q).symm.trans h)
noncomputable abbrev vx:ab->ab->Option Bool:=kh 3
noncomputable def Hw(v w:ab):Bool:=eh v.ix w.ix&&xA true (λv=>xV false false (λJ=>xA false (λw=>xV false false (λJ=>true) (λJ=>false) (λJ=>false) w) (λJ=>false) (λJ=>false) (λJ=>false) (λJ=>false) w) (λJ=>false) (λJ=>false) v) (λJ=>true) (λJ=>true) (λJ=>true) (λJ=>true) v
noncomputable def kl(v:ab):List ab->Option Bool
 | []=>some false
 | w::ws=>(gn w v).bind λa=>(kl v ws).map λb=>a || b
def fU(a:ab)(k:Int->Prop):Prop:=xA False (λJ=>False) k (λJ=>False) (λJ=>False) (λJ=>False) a
def pA(a:ab)(k:List UInt8->Prop):Prop:=xA False (λJ=>False) (λJ=>False) k (λJ=>False) (λJ=>False) a
def kZ(a:ab)(k:List ab->Prop):Prop:=xA False (λJ=>False) (λJ=>False) (λJ=>False) k (λJ=>False) a
def yB(a:ab)(k:List ab->Prop):Prop:=xA False (λJ=>False) (λJ=>False) (λJ=>False) (λJ=>False) k a
def tz(v:Value)(k:Addr->Prop):Prop:=xV False False (λJ=>False) (λJ=>False) k v
def tA(a:ab)(k:Value->Prop):Prop:=xA False k (λJ=>False) (λJ=>False) (λJ=>False) (λJ=>False) a
section
variable{α:Type}{C:ab->Prop}{a:ab}
theorem fU.of{k}(h:fU a k)(f:∀i,k i->C (.int i)):C a:=by cases a<;>first | exact f _ h | exact h.elim
theorem pA.of{k}(h:pA a k)(f:∀i,k i->C (.bytes i)):C a:=by cases a<;>first | exact f _ h | exact h.elim
theorem kZ.of{k}(h:kZ a k)(f:∀i,k i->C (.list i)):C a:=by cases a<;>first | exact f _ h | exact h.elim
theorem yB.of{k}(h:yB a k)(f:∀i,k i->C (.tuple i)):C a:=by cases a<;>first | exact f _ h | exact h.elim
theorem tA.of{k}(h:tA a k)(f:∀i,k i->C (.raw i)):C a:=by cases a<;>first | exact f _ h | exact h.elim
theorem tz.of{C:Value->Prop}{v:Value}{k}(h:tz v k)(f:∀i,k i->C (.ref i)):C v:=by cases v<;>first | exact f _ h | exact h.elim
end
def jR(i:Int)(k:Nat->Prop):Prop:=match i with | .ofNat n=>k n | .negSucc _=>False
theorem jR.of{C:Int->Prop}{i:Int}{k}(h:jR i k)(f:∀n:Nat,k n->C n):C i:=by cases i<;>first | exact f _ h | exact h.elim
noncomputable def tB(i:Int):Bool:=match i with | .ofNat n=>eh n 1 | .negSucc _=>false
theorem tB.eq{i:Int}(h:tB i=true):i=1:=by
 cases i with
 | ofNat n=>exact congrArg lb (Nat.eq_of_beq_eq_true h)
 | negSucc=>exact ff h
def lX(a b:ab)(k:Int->Int->Prop):Prop:=fU a λx=>fU b (k x)
noncomputable def fV(x y:Int):Int:=match x with | .ofNat m=>(match y with | .ofNat n=> .ofNat (m / n) | y=>(lb m).fdiv y) | x=>x.fdiv y
noncomputable def mZ(x y:Int):Int:=match x with | .ofNat m=>(match y with | .ofNat n=> .ofNat (m % n) | y=>(lb m).fmod y) | x=>x.fmod y
theorem pB(x y:Int):fV x y=x.fdiv y:=by
 rcases x with m | m
 ·rcases y with n | n
  ·exact Eq.symm (Ca (m:Int) (et n):(m:Int).fdiv (n:Int)=((m / n:Nat):Int))
  ·rfl
 ·rfl
theorem lY(x y:Int):mZ x y=x.fmod y:=by
 rcases x with m | m
 ·rcases y with n | n
  ·exact Eq.symm (tC (m:Int) (et n):(m:Int).fmod (n:Int)=((m % n:Nat):Int))
  ·rfl
 ·rfl
def QP(a b:ab)(st:St)(K:ab->St->Prop):Prop :=
 xA False (λv=>tz v λl=>tA b λv=>tz v λr=>∃x y,st.σ l=some (.list x)/\st.σ r=some (.list y)/\dQ (x.length+y.length)/\K (.list (x++y)) st) (λx=>fU b λy=>K (.int (x+y)) st)
  (λx=>pA b λy=>dQ (x.length+y.length)/\K (.bytes (x++y)) st) (λx=>kZ b λy=>dQ (x.length+y.length)/\K (.list (x++y)) st) (λx=>yB b λy=>dQ (x.length+y.length)/\K (.tuple (x++y)) st) a
def QQ(a b:ab)(st:St)(K:ab->St->Prop):Prop :=
 xA False (λJ=>False) (λx=>fU b λy=>(x.natAbs≤2^31/\y.natAbs≤2^31)/\K (.int (x*y)) st) (λJ=>False) (λl=>xL False (λx r=>xL (fU b λy=>(0≤y/\y≤256)/\K (.list (ci y.toNat x)) st) (λJ J=>False) r) l) (λJ=>False) a
def yC(op:pg)(a b:ab)(st:St)(K:ab->St->Prop):Prop :=
 op.casesOn (QP a b st K) (lX a b λx y=>K (.int (x - y)) st) (QQ a b st K) False False (lX a b λx y=>y≠0/\K (.int (mZ x y)) st) (lX a b λx y=>(0≤x/\x≤100/\0≤y/\y≤100)/\K (.int (x^y.toNat)) st)
  (lX a b λx y=>jR x λx=>cX (tB y) (x≤2^31/\K (.int (x*2:Nat)) st)) (lX a b λx y=>jR x λx=>cX (tB y) (x≤2^31/\K (.int (x / 2:Nat)) st)) False
  (lX a b λx y=>jR x λx=>jR y λy=>K (.int (x ^^^ y:Nat)) st) (lX a b λx y=>jR x λx=>jR y λy=>K (.int (x &&& y:Nat)) st) (lX a b λx y=>(y≠0/\y.natAbs≤2^31)/\K (.int (fV x y)) st)
def Cb(op:pg)(a b:ab)(st:St)(K:ab->St->Prop):Prop:=op.casesOn (lX a b λx y=>K (.int (x+y)) st) False False False False False False False False False False False False
noncomputable def tD(f:Int->Int->Bool)(a b:ab):Option Bool:=xA none (λJ=>none) (λx=>xA none (λJ=>none) (λy=>some (f x y)) (λJ=>none) (λJ=>none) (λJ=>none) b) (λJ=>none) (λJ=>none) (λJ=>none) a
noncomputable def yD(a b:ab):Option Bool:=if vw b then xA none (λv=>xV none (some true) (λJ=>none) (λJ=>none) (λJ=>some false) v) (λJ=>none) (λJ=>some false) (λJ=>none) (λJ=>none) a else none
noncomputable def n7(σ:ar)(op:fq)(a b:ab):Option Bool :=
 op.casesOn (vx a b) (if Hw a b=true then (vx a b).map (λz=>!z) else none) (tD (λx y=>decide (x<y)) a b) (tD (λx y=>decide (x≤y)) a b) (tD (λx y=>decide (y<x)) a b) (tD (λx y=>decide (y≤x)) a b) (yD a b) ((yD a b).map (λz=>!z))
  ((eX σ b).bind (kl a)) (((eX σ b).bind (kl a)).map (λz=>!z))
inductive vy(σ:ar)(a b:ab)(k:Bool->Prop):Prop
 | mk (r:Bool):(eX σ b).bind (kl a)=some r->k r->vy σ a b k
noncomputable def QR(op:fq):Option Bool:=op.casesOn none none none none none none none none (some false) (some true)
def eY(op:fq)(a b:ab)(st:St)(K:Bool->St->Prop):Prop:=match QR op with
 | some c=>vy st.σ a b λr=>K (match c with | true=> !r | false=>r) st
 | none=>bE (n7 st.σ op a b) λr=>K r st
theorem eY.ex{op:fq}{a b:ab}{K:Bool->St->Prop}(h:eY op a b st K):∃r,n7 st.σ op a b=some r/\K r st:=by
 cases op<;>first | exact bE.ex (k:=λr=>K r st) h | (obtain ⟨r,e,k⟩:=h;first | exact ⟨r,e,k⟩ | exact ⟨!r,congrArg (yE (λz=>!z)) e,k⟩)
theorem eY.mono{op:fq}{a b:ab}{K K':Bool->St->Prop}(h:eY op a b st K)(f:∀r,K r st->K' r st):eY op a b st K':=by
 cases op<;>first | exact (bE.ex (k:=λr=>K r st) h).elim λr q=>bE.i (k:=λr=>K' r st) q.1 (f r q.2) | (obtain ⟨r,e,k⟩:=h;exact ⟨r,e,f _ k⟩)
noncomputable def vz(σ:ar)(ov:ab)(x:Str):Option ab:=(lV σ ov x).bind λv=>mX (attrOk σ ov x v) (some v)
theorem QS{ov:ab}(h:vz σ ov x=some v):lV σ ov x=some v/\attrOk σ ov x v=true:=by
 obtain ⟨w,e,h⟩:=cQ.mp h;obtain ⟨q,h⟩:=mX.inv h;exact ao (aN h) (⟨e,q⟩)
def Hx(ov:ab)(x:Str)(st:St)(K:ab->St->Prop):Prop:=bE (vz st.σ ov x) λv=>K v st
noncomputable def jS(σ:ar)(v:ab):Option (List ab):=xA none (λv=>(tx v).bind λa=>mY (σ a)) (λJ=>none) (λJ=>none) some (λJ=>none) v
theorem jS.of(h:jS σ v=some vs)(l:C (.list vs))(r:∀a,σ a=some (.list vs)->C (.ref a)):C v:=by
 rcases v with ⟨⟩<;>first | exact nn h | exact aN h▸l | skip
 obtain ⟨a,h1,h2⟩:=cQ.mp h;exact B6 h1▸r a (Hq h2)
def QT(v:Value)(k:Bool->Prop):Prop:=xV False False k (λJ=>False) (λJ=>False) v
def jn(v:ab)(st:St)(K:Bool->St->Prop):Prop:=tA v λv=>QT v λb=>K b st
theorem jn.of{K:Bool->St->Prop}(h:jn v st K)(f:∀b,K b st->C (.bool b)):C v :=
 tA.of h λv h=>by cases v<;>first | exact f _ h | exact h.elim
inductive fW(vs:List ab)(st:St)(K:ab->St->Prop):Prop
 | fz:dQ vs.length->K (.list vs) st->fW vs st K
 | own:dQ vs.length->(∀a,st.σ a=none->K (.ref a) (st.put (st.σ.set a (.list vs))))->fW vs st K
theorem fW.len(h:fW vs st K):dQ vs.length:=by cases h<;>assumption
noncomputable def pC(i:Int)(vs:List ab):Option ab:=match i with
 | .ofNat k=>mX (Nat.blt k (2^40)) vs[k]?
 | .negSucc _=>none
noncomputable def m0(σ:ar)(o:ab)(i:Int):Option ab:=o.casesOn (motive_1:=λJ=>Option ab) (λJ=>(eX σ o).bind (pC i)) (λJ=>none) (λJ=>none) (λl=>pC i l) (λl=>pC i l) (λJ J=>none) (λks vs=>q5 i ks vs) λJ=>none
def q7(o i:ab)(st:St)(K:ab->St->Prop):Prop:=fU i λi=>bE (m0 st.σ o i) λv=>K v st
noncomputable def lZ:Option ab->Option Nat
 | none=>some 0
 | some (.int i)=>if 0≤i/\i<2^40 then some i.toNat else none
 | _=>none
noncomputable def l0(n:Nat):Option ab->Option Nat
 | none=>some n
 | some (.int i)=>if 0≤i/\i<2^40 then some i.toNat else none
 | _=>none
inductive km(o:ab)(lo hi:Option ab)(st:St)(K:ab->St->Prop):Prop
 | bytes (b:List UInt8) (l h:Nat):o= .bytes b->lZ lo=some l->l0 b.length hi=some h->dQ b.length->K (.bytes ((b.take h).drop l)) st->km o lo hi st K
 | list (vs:List ab) (l h:Nat):jS st.σ o=some vs->lZ lo=some l->l0 vs.length hi=some h->dQ vs.length->fW ((vs.take h).drop l) st K->km o lo hi st K
 | di (a:Addr) (b:List UInt8) (l h:Nat):o= .ref a->st.σ a=some (.di b)->lZ lo=some l->l0 b.length hi=some h->dQ b.length->
   (∀a',st.σ a'=none->K (.ref a') (st.put (st.σ.set a' (.di ((b.take h).drop l)))))->km o lo hi st K
inductive tE(o:ab)(x:Str)(v:ab)(st:St)(K:St->Prop):Prop
 | mk (a C:Addr) (fs:List (Str×ab)):o= .ref a->st.σ a=some (.inst C fs)->mW C x=true/\fs.length≤100->K (st.put (st.σ.set a (.inst C (nZ x v fs))))->tE o x v st K
inductive pD(o i v:ab)(st:St)(K:St->Prop):Prop
 | mk (a:Addr) (vs:List ab) (k:Int):o= .ref a->st.σ a=some (.list vs)->i= .int k->0≤k/\k<2^40->k.toNat<vs.length->K (st.put (st.σ.set a (.list (vs.set k.toNat v))))->pD o i v st K
inductive vA(o:ab)(lo hi:Option ab)(v:ab)(st:St)(K:St->Prop):Prop
 | list (a:Addr) (vs ws:List ab) (l h:Nat):o= .ref a->st.σ a=some (.list vs)->v= .list ws->lZ lo=some l->l0 vs.length hi=some h->dQ (vs.length+ws.length)->l≤vs.length->l≤h->
   K (st.put (st.σ.set a (.list (vs.take l++ws++vs.drop h))))->vA o lo hi v st K
 | di (a:Addr) (b c:List UInt8) (l h:Nat):o= .ref a->st.σ a=some (.di b)->v= .bytes c->lZ lo=some l->l0 b.length hi=some h->dQ b.length->l+c.length=h->h≤b.length->
   K (st.put (st.σ.set a (.di (b.take l++c++b.drop h))))->vA o lo hi v st K
noncomputable def n8(i:Nat)(st:St):Bool:=match vq i st.fz with | true=>false | false=>vt i st.m
theorem QU{i:Nat}{l:List Nat}(h:vq i l=false):i∉l:=by
 induction l with
 | nil=>exact eZ
 | cons j l ih =>
  change (match eh i j with | true=>true | false=>vq i l)=false at h
  cases q:eh i j with
  | true=>rw [q] at h;exact ff h.symm
  | false =>
   rw [q] at h
   exact λm=>(br.mp m).elim (λe=>ff (q.symm.trans (ao e (GB _)))) (ih h)
theorem QV{i:Nat}(h:n8 i st=true):i∉st.fz:=QU (by
 unfold n8 at h
 cases q:vq i st.fz with
 | false=>rfl
 | true=>rw [q] at h;exact ff h)
theorem QW{x:α}:∀{i j:Nat},vt j (l.set i x)=vt j l:=by
 induction l with
 | nil=>exact rfl
 | cons y l ih =>
  intro i j;cases i
  ·cases j<;>rfl
  ·cases j
   ·rfl
   ·exact ih
theorem Hy{i j:Nat}{v:Option ab}:n8 j {st with m:=st.m.set i v}=n8 j st:=by
 unfold n8;exact aa QW rfl
def pE(i:Nat)(v:ab)(st:St)(K:St->Prop):Prop:=cX (n8 i st) (K (st.jl i v))
def gp:List Nat->List ab->St->(St->Prop)->Prop
 | i::is,v::vs,st,K=>pE i v st λst=>gp is vs st K
 | [],[],st,K=>K st
 | _,_,_,_=>False
def pF(gk:List Nat)(aP:Bool)(v:ab)(st:St)(K:St->Prop):Prop:=match aP with
 | false=>gp gk [v] st K
 | true=>bE (eX st.σ v) λvs=>gp gk vs st K
def Guard(own:List (Addr×List ab))(st:St):Prop:=∀p∈own,st.σ p.1=some (.list p.2)
def pG(own:List (Addr×List ab))(step:ab->St->(cq->St->Prop)->Prop)(K:cq->St->Prop):List ab->St->Prop
 | [],st=>Guard own st/\K .next st
 | x::xs,st=>Guard own st/\step x st λfl st'=>match fl with
  | .next=>Wk (pG own step K xs) st'
  | .cont=>Wk (pG own step K xs) st'
  | .brk=>K .next st'
  | .ret v=>K (.ret v) st'
def l4(own:List (Addr×List ab))(step:ab->St->(Option ab->St->Prop)->Prop)(K:List ab->St->Prop):List ab->List ab->St->Prop
 | [],acc,st=>Guard own st/\K acc st
 | x::xs,acc,st=>Guard own st/\step x st λr st'=>Wk (λst'=>match r with
  | some v=>l4 own step K xs (acc++ [v]) st'
  | none=>l4 own step K xs acc st') st'
inductive yF{ι:Type}(S:ι->St)(μ:ι->Nat)(P:ι->Prop)(x:ι)(st:St):Prop
 | mk (y:ι) (bs:List Bool):μ y<μ x->P y->gE bs st=S y->yF S μ P x st
inductive pH(turn:(cq->St->Prop)->(St->Prop)->St->Prop)(K:cq->St->Prop)(st:St):Prop
 | mk {ι:Type} (S:ι->St) (μ:ι->Nat) (P:ι->Prop) (x:ι) (bs:List Bool):P x->gE bs st=S x->(∀x,P x->turn (λfl st'=>match fl with
   | .next=>yF S μ P x st'
   | .cont=>yF S μ P x st'
   | .brk=>K .next st'
   | .ret v=>K (.ret v) st') (K .next) (S x))->pH turn K st
theorem pH.mono{t t':(cq->St->Prop)->(St->Prop)->St->Prop}{K:cq->St->Prop}(f:∀Kb Ke st,t Kb Ke st->t' Kb Ke st)(h:pH t K st):pH t' K st :=
 let ⟨S,μ,P,x,bs,hx,e,h⟩:=h;⟨S,μ,P,x,bs,hx,e,λx hx=>f _ _ _ (h x hx)⟩
noncomputable def q8(a b:List ab):List ab:=yG (λx y=> .tuple [x,y]) a b
noncomputable def tF:List ab->List ab->List ab->List ab
 | a::as,b::bs,c::cs=> .tuple [a,b,c]::tF as bs cs
 | _,_,_=> []
def yH(vs:List ab)(K:List ab->Prop):Prop:=match vs with
 | a::b::r=>(match r with
  | []=>(match a with | .list a=>kZ b λb=>K (q8 a b) | .bytes a=>pA b λb=>K (q8 (d3 a) (d3 b)) | _=>False)
  | c::r=>(match r with
   | []=>kZ a λa=>kZ b λb=>kZ c λc=>K (tF a b c)
   | _::_=>False))
 | _=>False
noncomputable def l5(i:Nat):List ab->List ab
 | []=> []
 | x::xs=> .tuple [.int i,x]::l5 (i+1) xs
noncomputable def lg(lo:Int):Nat->List ab
 | 0=> []
 | n+1=> .int lo::lg (lo+1) n
def QX(vs:List ab)(K:List ab->Prop):Prop:=match vs with
 | []=>False
 | a::r=>match r with
  | []=>fU a λa=>(-2^30<a/\a<2^30)/\K (lg 0 a.toNat)
  | b::r=>match r with
   | []=>lX a b λa b=>(-2^30<a/\a<2^30/\ -2^30<b/\b<2^30)/\K (lg a (b - a).toNat)
   | _::_=>False
def tG(o:Option (Option ab))(k:ab->Prop):Prop:=match o with
 | some o=>(match o with | some v=>k v | none=>False)
 | none=>False
theorem tG.of{o:Option (Option ab)}{k:ab->Prop}{C:Option (Option ab)->Prop}(h:tG o k)(f:∀v,k v->C (some (some v))):C o:=by
 cases o with
 | none=>exact h.elim
 | some o=>cases o with
  | none=>exact h.elim
  | some v=>exact f v h
inductive Cc(X:Cx)(σ:ar)(κ:bM)(h:Heap)(K:ab->ar->Prop)(z:Value)(s':al):Prop
 | mk (v:ab) (σ':ar) (κ':bM):bq X σ' κ' s'->bg (λJ=>False) σ κ h σ' κ' s'.heap->am (aj σ' κ') s'.heap v z->K v σ'->Cc X σ κ h K z s'
structure aB(X:Cx)(n:Nat)(f:ab)(args:List ab)(dH:List (Str×ab))(K:ab->ar->Prop)(σ:ar):Prop where
 run:∀A κ s y ys dI,cL n A->bq X σ κ s->am (aj σ κ) s.heap f y->aO (aj σ κ) s.heap args ys->aO (aj σ κ) s.heap (dH.map (λz=>z.2)) dI->
  (∃k,∀A' Q E,Q k s->ai X.M A' (keeperOf y) Q E s)/\
  ai X.M A (vh y ys ((dH.map (λz=>z.1)).zip dI)) (Cc X σ κ s.heap K) (λJ J=>False) s
def vB(X:Cx)(σ:ar)(o:ab)(x:Str)(f:Value):Prop :=
 ∀κ s y,bq X σ κ s->am (aj σ κ) s.heap o y->∀A pl Q E,(∀s',s'.heap=s.heap->s'.os=s.os->s'.gens=s.gens->Q (f,[y]) s')->ai X.M A (getMethod y x pl) Q E s
inductive MethP(X:Cx)(σ:ar)(o:ab)(x:Str)(k:Value->Prop):Prop
 | mk (f:Value):vB X σ o x f->k f->MethP X σ o x k
section
variable(X:Cx)(n:Nat)
mutual
def bF:IE->(ab->St->Prop)->St->Prop
 | .v i,K,st=>tG st.m[i]? λv=>K v st
 | .ah v,K,st=>K v st
 | .bin op a b,K,st=>bF a (λx st=>bF b (λy st=>yC op x y st K) st) st
 | .neg a,K,st=>bF a (λx st=>fU x λi=>K (.int (-i)) st) st
 | .not a,K,st=>bF a (λx st=>jn x st λb st=>K (.bool (!b)) st) st
 | .bool bW es,K,st=>pI bW es K st
 | .ite t a b,K,st=>n9 t (λc st=>bj c (bF a K st) (bF b K st)) st
 | .cmp op a b,K,st=>bF a (λx st=>bF b (λy st=>eY op x y st λr st=>K (.bool r) st) st) st
 | .kf fS eN a b c,K,st=>bF a (λx st=>bF b (λy st=>eY fS x y st λr st=>bj r (bF c (λz st=>eY eN y z st λr st=>K (.bool r) st) st) (K (.bool false) st)) st) st
 | .call f args dH,K,st=>match dH with
  | []=>bF f (λfv st=>jo args (λvs st=>aB X n fv vs [] (λv σ=>K v (st.put σ)) st.σ) st) st
  | _::_=>bF f (λfv st=>jo args (λvs st=>q9 dH (λks st=>aB X n fv vs ks (λv σ=>K v (st.put σ)) st.σ) st) st) st
 | .aI o x args,K,st=>bF o (λov st=>MethP X st.σ ov x λf=>jo args (λvs st=>aB X n (.raw f) (ov::vs) [] (λv σ=>K v (st.put σ)) st.σ) st) st
 | .a o x,K,st=>bF o (λov st=>Hx ov x st K) st
 | .sub o i,K,st=>bF o (λov st=>bF i (λiv st=>q7 ov iv st K) st) st
 | .slice o lo hi,K,st=>bF o (λov st=>pJ lo (λl st=>pJ hi (λh st=>km ov l h st K) st) st) st
 | .tuple es,K,st=>jo es (λvs st=>cX (short vs 100) (K (.tuple vs) st)) st
 | .list es,K,st=>jo es (λvs st=>fW vs st K) st
 | .comp cK gk aP it cond k,K,st=>vC it (λitems own st=>dQ items.length/\
   l4 own (λx st K'=>pF gk aP x st λst=>yI cond (λb st=>bj b (bF cK (λv st=>K' (some v) st) st) (K' none st)) st)
    (λvs st'=>fW vs (st.put st'.σ) K) items [] (st.Hn k)) st
 | .lam i,K,st=>tG st.m[i]? λv=>pA v λb=>i<st.m.length/\K (.lam b) {st with fz:=i::st.fz}
def jo:List IE->(List ab->St->Prop)->St->Prop
 | [],K,st=>K [] st
 | e::es,K,st=>match es with
  | []=>bF e (λv st=>K [v] st) st
  | _::_=>bF e (λv st=>jo es (λvs st=>K (v::vs) st) st) st
def q9:List (Str×IE)->(List (Str×ab)->St->Prop)->St->Prop
 | [],K,st=>K [] st
 | (x,e)::es,K,st=>bF e (λv st=>q9 es (λvs st=>K ((x,v)::vs) st) st) st
def pJ:Option IE->(Option ab->St->Prop)->St->Prop
 | none,K,st=>K none st
 | some e,K,st=>bF e (λv st=>K (some v) st) st
def pI(bW:Bool):List IE->(ab->St->Prop)->St->Prop
 | [],_,_=>False
 | [e],K,st=>bF e K st
 | e::es,K,st=>bF e (λv st=>jn v st λb st=>kg bW b (pI bW es K st) (K v st)) st
def n9:IB->(Bool->St->Prop)->St->Prop
 | .not a,K,st=>n9 a (λb st=>K (!b) st) st
 | .bool bW es,K,st=>vD bW es K st
 | .cmp op a b,K,st=>bF a (λx st=>bF b (λy st=>eY op x y st K) st) st
 | .kf fS eN a b c,K,st=>bF a (λx st=>bF b (λy st=>eY fS x y st λr st=>bj r (bF c (λz st=>eY eN y z st K) st) (K false st)) st) st
 | .val e,K,st=>bF e (λv st=>jn v st K) st
def vD(bW:Bool):List IB->(Bool->St->Prop)->St->Prop
 | [],K,st=>K bW st
 | e::es,K,st=>match es with
  | []=>n9 e K st
  | _::_=>n9 e (λb st=>kg bW b (vD bW es K st) (K (!bW) st)) st
def yI:Option IB->(Bool->St->Prop)->St->Prop
 | none,K,st=>K true st
 | some e,K,st=>n9 e K st
def vC:II->(List ab->List (Addr×List ab)->St->Prop)->St->Prop
 | .val e,K,st=>bF e (λv st=>bE (ty st.σ v) λvs=>K vs (ownOf st.σ v) st) st
 | .range es,K,st=>jo es (λvs st=>QX vs λzs=>K zs [] st) st
 | .enum e,K,st=>bF e (λv st=>bE (jS st.σ v) λvs=>K (l5 0 vs) (ownOf st.σ v) st) st
 | .zip es,K,st=>jo es (λvs st=>yH vs λzs=>K zs [] st) st
end
def tH:IT->ab->(St->Prop)->St->Prop
 | .v i,v,K,st=>pE i v st K
 | .a o x,v,K,st=>bF X n o (λov st=>tE ov x v st K) st
 | .sub o i,v,K,st=>bF X n o (λov st=>bF X n i (λiv st=>pD ov iv v st K) st) st
 | .slice o lo hi,v,K,st=>bF X n o (λov st=>pJ X n lo (λl st=>pJ X n hi (λh st=>vA ov l h v st K) st) st) st
def oa:List IT->List ab->(St->Prop)->St->Prop
 | [],[],K,st=>K st
 | t::ts,v::vs,K,st=>tH X n t v (λst=>oa ts vs K st) st
 | _,_,_,_=>False
mutual
def wpS:IS->(cq->St->Prop)->St->Prop
 | .expr e,K,st=>bF X n e (λJ st=>K .next st) st
 | .s t e,K,st=>bF X n e (λv st=>tH X n t v (λst=>K .next st) st) st
 | .d0 ts e,K,st=>bF X n e (λv st=>bE (eX st.σ v) λvs=>cX (vv ts vs) (oa X n ts vs (λst=>K .next st) st)) st
 | .aug o i op e,K,st=>bF X n o (λov st=>bF X n i (λiv st=>q7 ov iv st λold st=>bF X n e (λw st=>Cb op old w st λr st=>pD ov iv r st λst=>K .next st) st) st) st
 | .loop gk aP it body,K,st=>vC X n it (λitems own st=>Wk (pG own (λx st K'=>pF gk aP x st λst=>dA body K' st) K items) st) st
 | .jj t body,K,st=>pH (λKb Ke st=>n9 X n t (λb st=>bj b (dA body Kb st) (Ke st)) st) K st
 | .ifs t a b,K,st=>n9 X n t (λc st=>bj c (dA a K st) (dA b K st)) st
 | .ret none,K,st=>K (.ret .none) st
 | .ret (some e),K,st=>bF X n e (λv st=>K (.ret v) st) st
 | .fail,_,_=>False
 | .pass,K,st=>K .next st
def dA:List IS->(cq->St->Prop)->St->Prop
 | [],K,st=>K .next st
 | s::ss,K,st=>match ss with
  | []=>wpS s K st
  | _::_=>wpS s (λfl st=>match fl with
   | .next=>dA ss K st
   | fl=>K fl st) st
end
theorem QY{e:IE}{es:List IE}{K:List ab->St->Prop}(h:jo X n (e::es) K st):bF X n e (λv st=>jo X n es (λvs st=>K (v::vs) st) st) st:=by cases es<;>exact h
theorem QZ{f:IE}{args:List IE}{dH:List (Str×IE)}(h:bF X n (.call f args dH) K st) :
  bF X n f (λfv st=>jo X n args (λvs st=>q9 X n dH (λks st=>aB X n fv vs ks (λv σ=>K v (st.put σ)) st.σ) st) st) st:=by cases dH<;>exact h
end
end
noncomputable abbrev Q0:ab:= .raw (.ref 21)
noncomputable abbrev Q3:ab:= .raw (.ref 38)
noncomputable abbrev Q4:ab:= .raw (.ref 51)
noncomputable abbrev Hz:ab:= .raw (.ref 77)
noncomputable abbrev Cd:ab:= .raw (.ref 88)
noncomputable abbrev Ce:ab:= .raw (.ref 95)
noncomputable abbrev Cf:ab:= .raw (.ref 102)
noncomputable abbrev HA:ab:= .raw (.ref 107)
noncomputable abbrev HB:ab:= .raw (.ref 114)
noncomputable abbrev Cg:ab:= .raw (.ref 121)
noncomputable abbrev HC:ab:= .raw (.ref 128)
noncomputable abbrev Ch:ab:= .raw (.ref 135)
noncomputable abbrev HD:ab:= .raw (.ref 142)
noncomputable abbrev yJ:ab:= .raw (.ref 149)
noncomputable abbrev Ci:ab:= .raw (.ref 156)
noncomputable abbrev HE:ab:= .raw (.ref 163)
noncomputable abbrev Cj:ab:= .raw (.ref 168)
noncomputable abbrev vE:ab:= .raw (.ref 173)
noncomputable abbrev Ck:ab:= .raw (.ref 180)
noncomputable abbrev HF:ab:= .raw (.ref 185)
noncomputable abbrev vF:ab:= .raw (.ref 190)
noncomputable abbrev Cm:ab:= .raw (.ref 195)
noncomputable abbrev HG:ab:= .raw (.ref 202)
noncomputable abbrev HH:ab:= .raw (.ref 207)
noncomputable abbrev Cn:ab:= .raw (.ref 214)
noncomputable abbrev HI:ab:= .raw (.ref 221)
noncomputable abbrev HJ:ab:= .raw (.ref 226)
noncomputable abbrev HK:ab:= .raw (.ref 231)
noncomputable abbrev HL:ab:= .raw (.ref 236)
noncomputable abbrev HM:ab:= .raw (.ref 338)
noncomputable abbrev HN:ab:= .raw (.ref 436)
noncomputable abbrev HO:ab:= .raw (.ref 458)
noncomputable abbrev HP:ab:= .raw (.ref 469)
noncomputable abbrev yK:ab:= .raw (.ref 476)
noncomputable abbrev HQ:ab:= .raw (.ref 483)
noncomputable abbrev HR:ab:= .raw (.ref 490)
noncomputable abbrev Co:ab:= .raw (.ref 497)
noncomputable abbrev HS:ab:= .raw (.ref 504)
noncomputable abbrev HT:ab:= .raw (.ref 641)
noncomputable abbrev HU:ab:= .raw (.ref 652)
noncomputable abbrev HV:ab:= .raw (.ref 739)
noncomputable abbrev tI:ab:= .raw (.ref 750)
noncomputable abbrev HW:ab:= .raw (.ref 757)
noncomputable abbrev HX:ab:= .raw (.ref 764)
noncomputable abbrev HY:ab:= .raw (.ref 769)
noncomputable abbrev vG:ab:= .raw (.ref 776)
noncomputable abbrev HZ:ab:= .raw (.ref 781)
noncomputable abbrev H0:ab:= .raw (.ref 786)
noncomputable abbrev H1:ab:= .raw (.ref 793)
noncomputable abbrev H2:ab:= .raw (.ref 798)
noncomputable abbrev Q5:ab:= .raw (.ref 805)
noncomputable def Q6:Fn:=⟨5,5,[
  .s (.a (.v 0) "child") (.v 1),
  .s (.a (.v 0) "row") (.v 2),
  .s (.a (.v 0) "many") (.v 3),
  .s (.a (.v 0) "first") (.v 4)]⟩
noncomputable def Q7:Fn:=⟨2,2,[
  .ret (some (.bin .FloorDiv (.bin .Sub (.bin .Add (.v 0) (.a (.v 1) "sector")) (.ah (.int 1))) (.a (.v 1) "sector")))]⟩
noncomputable def Q8:Fn:=⟨2,2,[
  .ifs (.bool false [(.not (.kf .LtE .LtE (.ah (.int 1)) (.v 1) (.ah (.int 3)))),(.cmp .LtE (.v 0) (.v 1))]) [.fail] []]⟩
noncomputable def Q9:Fn:=⟨4,5,[
  .expr (.call (.ah Ce) [(.v 1),(.v 2)] []),
  .s (.v 4) (.call (.ah Cd) [(.v 0),(.v 3)] []),
  .s (.v 4) (.bin .Add (.v 4) (.bin .Mult (.v 2) (.bin .FloorDiv (.bin .Sub (.bin .Sub (.bin .Add (.v 4) (.v 1)) (.v 2)) (.ah (.int 1))) (.bin .Sub (.v 1) (.v 2))))),
  .ret (some (.bin .Mult (.bin .FloorDiv (.bin .Add (.v 4) (.v 2)) (.bin .Add (.v 2) (.ah (.int 1)))) (.bin .Add (.v 2) (.ah (.int 1)))))]⟩
noncomputable def Ra:Fn:=⟨3,7,[
  .d0 [(.v 3),(.v 4)] (.tuple [(.bin .FloorDiv (.v 0) (.bin .Sub (.v 1) (.v 2))),(.bin .Mod (.v 0) (.bin .Sub (.v 1) (.v 2)))]),
  .s (.v 5) (.ite (.cmp .Gt (.v 4) (.ah (.int 0))) (.bin .Add (.v 4) (.v 2)) (.ah (.int 0))),
  .s (.v 6) (.ite (.cmp .Eq (.v 3) (.ah (.int 0))) (.v 5) (.v 1)),
  .ret (some (.comp (.ite (.cmp .Lt (.v 8) (.v 5)) (.bin .Add (.v 3) (.ah (.int 1))) (.v 3)) [8] false (.range [(.v 6)]) none 2))]⟩
noncomputable def Rb:Fn:=⟨3,3,[
  .ret (some (.bool true [(.cmp .Eq (.v 1) (.ah (.int 1))),(.cmp .Eq (.bin .Mod (.bin .FloorDiv (.v 0) (.a (.v 2) "slab")) (.ah (.int 2))) (.ah (.int 1)))]))]⟩
noncomputable def Rc:Fn:=⟨5,13,[
  .expr (.call (.ah Ce) [(.v 2),(.v 3)] []),
  .d0 [(.v 5),(.v 6)] (.tuple [(.list []),(.ah (.int 0))]),
  .loop [7,8] true (.enum (.call (.ah HA) [(.call (.ah Cd) [(.v 1),(.v 4)] []),(.v 2),(.v 3)] [])) [.s (.v 9) (.bin .Add (.bin .Mod (.v 0) (.v 2)) (.v 7)), .s (.v 10) (.cmp .Lt (.v 7) (.v 3)), .expr (.aI (.v 5) "append" [(.call (.ah Hz) [(.bin .Mod (.v 9) (.v 2)),(.bin .Add (.bin .FloorDiv (.v 0) (.v 2)) (.bin .FloorDiv (.v 9) (.v 2))),(.v 8),(.ite (.val (.v 10)) (.neg (.ah (.int 1))) (.v 6))] [])]), .s (.v 6) (.ite (.val (.v 10)) (.v 6) (.bin .Add (.v 6) (.v 8)))],
  .ifs (.bool true [(.val (.call (.ah HB) [(.v 0),(.v 3),(.v 4)] [])),(.cmp .Gt (.call (.ah (.raw (.builtin "len"))) [(.v 5)] []) (.ah (.int 1)))]) [.d0 [(.v 11),(.v 12)] (.tuple [(.sub (.v 5) (.ah (.int 0))),(.sub (.v 5) (.ah (.int 1)))]), .d0 [(.a (.v 11) "child"),(.a (.v 11) "row"),(.a (.v 12) "child"),(.a (.v 12) "row")] (.tuple [(.a (.v 12) "child"),(.a (.v 12) "row"),(.a (.v 11) "child"),(.a (.v 11) "row")])] [],
  .ret (some (.v 5))]⟩
noncomputable def Rd:Fn:=⟨3,8,[
  .s (.v 3) (.list []),
  .loop [4] false (.val (.v 1)) [.ifs (.cmp .GtE (.a (.v 4) "first") (.ah (.int 0))) [.d0 [(.v 5),(.v 6)] (.tuple [(.bin .Mult (.a (.v 4) "first") (.a (.v 2) "sector")),(.bin .Mult (.a (.v 4) "many") (.a (.v 2) "sector"))]), .s (.v 7) (.call (.ah (.raw (.type "bytes"))) [(.slice (.v 0) (some (.v 5)) (some (.bin .Add (.v 5) (.v 6))))] []), .expr (.aI (.v 3) "append" [(.bin .Add (.v 7) (.call (.ah (.raw (.type "bytes"))) [(.bin .Sub (.v 6) (.call (.ah (.raw (.builtin "len"))) [(.v 7)] []))] []))])] []],
  .ret (some (.v 3))]⟩
noncomputable def Re:Fn:=⟨2,2,[
  .ret (some (.slice (.aI (.ah (.bytes [])) "join" [(.v 0)]) none (some (.v 1))))]⟩
noncomputable def Rf:Fn:=⟨1,1,[
  .ret (some (.ite (.cmp .Gt (.v 0) (.ah (.int 127))) (.bin .BitXor (.bin .LShift (.v 0) (.ah (.int 1))) (.ah (.int 285))) (.bin .LShift (.v 0) (.ah (.int 1)))))]⟩
noncomputable def Rg:Fn:=⟨2,3,[
  .s (.v 2) (.ah (.int 0)),
  .jj (.cmp .Gt (.v 1) (.ah (.int 0))) [.ifs (.cmp .Eq (.bin .BitAnd (.v 1) (.ah (.int 1))) (.ah (.int 1))) [.s (.v 2) (.bin .BitXor (.v 2) (.v 0))] [], .d0 [(.v 0),(.v 1)] (.tuple [(.call (.ah HD) [(.v 0)] []),(.bin .RShift (.v 1) (.ah (.int 1)))])],
  .ret (some (.v 2))]⟩
noncomputable def Rh:Fn:=⟨2,3,[
  .s (.v 2) (.ah (.int 1)),
  .jj (.cmp .Gt (.v 1) (.ah (.int 0))) [.ifs (.cmp .Eq (.bin .BitAnd (.v 1) (.ah (.int 1))) (.ah (.int 1))) [.s (.v 2) (.call (.ah yJ) [(.v 2),(.v 0)] [])] [], .d0 [(.v 0),(.v 1)] (.tuple [(.call (.ah yJ) [(.v 0),(.v 0)] []),(.bin .RShift (.v 1) (.ah (.int 1)))])],
  .ret (some (.v 2))]⟩
noncomputable def Ri:Fn:=⟨1,1,[
  .ifs (.cmp .Eq (.v 0) (.ah (.int 0))) [.fail] [],
  .ret (some (.call (.ah Ci) [(.v 0),(.ah (.int 254))] []))]⟩
noncomputable def Rj:Fn:=⟨1,1,[
  .ret (some (.call (.ah (.raw (.type "bytes"))) [(.comp (.ite (.cmp .Gt (.v 2) (.ah (.int 127))) (.bin .BitXor (.bin .LShift (.v 2) (.ah (.int 1))) (.ah (.int 285))) (.bin .LShift (.v 2) (.ah (.int 1)))) [2] false (.val (.v 0)) none 2)] []))]⟩
noncomputable def Rk:Fn:=⟨2,2,[
  .ifs (.cmp .Lt (.call (.ah (.raw (.builtin "len"))) [(.v 0)] []) (.call (.ah (.raw (.builtin "len"))) [(.v 1)] [])) [.d0 [(.v 0),(.v 1)] (.tuple [(.v 1),(.v 0)])] [],
  .ret (some (.bin .Add (.call (.ah (.raw (.type "bytes"))) [(.comp (.bin .BitXor (.v 3) (.v 4)) [3,4] true (.zip [(.v 0),(.v 1)]) none 3)] []) (.call (.ah (.raw (.type "bytes"))) [(.slice (.v 0) (some (.call (.ah (.raw (.builtin "len"))) [(.v 1)] [])) none)] [])))]⟩
noncomputable def Rl:Fn:=⟨2,3,[
  .s (.v 2) (.call (.ah (.raw (.type "bytes"))) [(.call (.ah (.raw (.builtin "len"))) [(.v 0)] [])] []),
  .jj (.cmp .Gt (.v 1) (.ah (.int 0))) [.ifs (.cmp .Eq (.bin .BitAnd (.v 1) (.ah (.int 1))) (.ah (.int 1))) [.s (.v 2) (.call (.ah vE) [(.v 2),(.v 0)] [])] [], .d0 [(.v 0),(.v 1)] (.tuple [(.call (.ah Cj) [(.v 0)] []),(.bin .RShift (.v 1) (.ah (.int 1)))])],
  .ret (some (.v 2))]⟩
noncomputable def Rm:Fn:=⟨1,9,[
  .s (.v 1) (.call (.ah (.raw (.builtin "len"))) [(.v 0)] []),
  .s (.v 2) (.comp (.call (.ah (.raw (.type "list"))) [(.v 10)] []) [10] false (.val (.v 0)) none 2),
  .s (.v 5) (.comp (.comp (.call (.ah (.raw (.type "int"))) [(.cmp .Eq (.v 12) (.v 10))] []) [12] false (.range [(.v 1)]) none 2) [10] false (.range [(.v 1)]) none 2),
  .loop [3] false (.range [(.v 1)]) [.s (.v 6) (.comp (.v 10) [10] false (.range [(.v 3),(.v 1)]) (some (.cmp .NotEq (.sub (.sub (.v 2) (.v 10)) (.v 3)) (.ah (.int 0)))) 2), .ifs (.cmp .Eq (.v 6) (.list [])) [.fail] [], .s (.v 7) (.sub (.v 6) (.ah (.int 0))), .d0 [(.sub (.v 2) (.v 3)),(.sub (.v 2) (.v 7))] (.tuple [(.sub (.v 2) (.v 7)),(.sub (.v 2) (.v 3))]), .d0 [(.sub (.v 5) (.v 3)),(.sub (.v 5) (.v 7))] (.tuple [(.sub (.v 5) (.v 7)),(.sub (.v 5) (.v 3))]), .s (.v 8) (.call (.ah HE) [(.sub (.sub (.v 2) (.v 3)) (.v 3))] []), .d0 [(.sub (.v 2) (.v 3)),(.sub (.v 5) (.v 3))] (.tuple [(.call (.ah vF) [(.sub (.v 2) (.v 3)),(.v 8)] []),(.call (.ah vF) [(.sub (.v 5) (.v 3)),(.v 8)] [])]), .loop [4] false (.range [(.v 1)]) [.ifs (.cmp .NotEq (.v 4) (.v 3)) [.s (.v 8) (.sub (.sub (.v 2) (.v 4)) (.v 3)), .s (.sub (.v 2) (.v 4)) (.call (.ah Cm) [(.sub (.v 2) (.v 4)),(.call (.ah vF) [(.sub (.v 2) (.v 3)),(.v 8)] [])] []), .s (.sub (.v 5) (.v 4)) (.call (.ah Cm) [(.sub (.v 5) (.v 4)),(.call (.ah vF) [(.sub (.v 5) (.v 3)),(.v 8)] [])] [])] []]],
  .ret (some (.v 5))]⟩
noncomputable def Rn:Fn:=⟨2,2,[
  .ret (some (.comp (.call (.ah yJ) [(.v 3),(.v 1)] []) [3] false (.val (.v 0)) none 2))]⟩
noncomputable def Ro:Fn:=⟨2,2,[
  .ret (some (.comp (.bin .BitXor (.v 3) (.v 4)) [3,4] true (.zip [(.v 0),(.v 1)]) none 3))]⟩
noncomputable def Rp:Fn:=⟨2,5,[
  .s (.v 2) (.ah (.bytes [])),
  .loop [3] false (.val (.v 0)) [.loop [4] false (.range [(.v 1)]) [.s (.v 2) (.call (.ah Cj) [(.v 2)] [])], .s (.v 2) (.call (.ah vE) [(.v 2),(.v 3)] [])],
  .ret (some (.v 2))]⟩
noncomputable def Rq:Fn:=⟨2,2,[
  .ret (some (.comp (.call (.ah HG) [(.v 0),(.v 3)] []) [3] false (.range [(.v 1)]) none 2))]⟩
noncomputable def Rr:Fn:=⟨3,3,[
  .ret (some (.call (.ah Ci) [(.ah (.int 2)),(.bin .Mult (.v 0) (.bin .Sub (.bin .Sub (.v 2) (.ah (.int 1))) (.v 1)))] []))]⟩
noncomputable def Rs:Fn:=⟨4,7,[
  .s (.v 4) (.v 3),
  .loop [5,6] true (.enum (.v 0)) [.ifs (.cmp .NotIn (.v 5) (.v 1)) [.s (.v 4) (.call (.ah vE) [(.v 4),(.call (.ah Ck) [(.v 6),(.call (.ah Cn) [(.v 2),(.v 5),(.call (.ah (.raw (.builtin "len"))) [(.v 0)] [])] [])] [])] [])] []],
  .ret (some (.v 4))]⟩
noncomputable def Rt:Fn:=⟨3,12,[
  .s (.v 3) (.slice (.call (.ah (.raw (.builtin "sorted"))) [(.v 2)] []) none (some (.call (.ah (.raw (.builtin "len"))) [(.v 1)] []))),
  .ifs (.cmp .Lt (.call (.ah (.raw (.builtin "len"))) [(.v 3)] []) (.call (.ah (.raw (.builtin "len"))) [(.v 1)] [])) [.fail] [],
  .s (.v 5) (.comp (.comp (.call (.ah Cn) [(.v 13),(.v 15),(.call (.ah (.raw (.builtin "len"))) [(.v 0)] [])] []) [15] false (.val (.v 1)) none 2) [13] false (.val (.v 3)) none 2),
  .s (.v 6) (.comp (.call (.ah HI) [(.v 0),(.v 1),(.v 13),(.sub (.v 2) (.v 13))] []) [13] false (.val (.v 3)) none 2),
  .s (.v 7) (.list []),
  .loop [4,8] true (.zip [(.v 1),(.call (.ah HF) [(.v 5)] [])]) [.s (.v 9) (.ah (.bytes [])), .loop [10,11] true (.zip [(.v 8),(.v 6)]) [.s (.v 9) (.call (.ah vE) [(.v 9),(.call (.ah Ck) [(.v 11),(.v 10)] [])] [])], .expr (.aI (.v 7) "append" [(.slice (.v 9) none (some (.call (.ah (.raw (.builtin "len"))) [(.sub (.v 0) (.v 4))] [])))])],
  .ret (some (.v 7))]⟩
noncomputable def Ru:Fn:=⟨3,8,[
  .s (.v 4) (.comp (.call (.ah (.raw (.type "bytes"))) [(.v 9)] []) [9] false (.val (.slice (.v 0) (some (.v 2)) none)) none 2),
  .s (.v 5) (.call (.ah (.raw (.type "dict"))) [(.comp (.tuple [(.v 9),(.call (.ah (.raw (.type "bytes"))) [(.sub (.v 0) (.v 9))] [])]) [9] false (.range [(.v 2)]) (some (.cmp .NotIn (.v 9) (.v 1))) 2)] []),
  .s (.v 7) (.comp (.bin .Sub (.v 9) (.v 2)) [9] false (.val (.call (.ah (.raw (.builtin "sorted"))) [(.v 1)] [])) (some (.cmp .GtE (.v 9) (.v 2))) 2),
  .loop [6,3] true (.zip [(.v 7),(.call (.ah HJ) [(.v 4),(.v 7),(.v 5)] [])]) [.s (.sub (.v 4) (.v 6)) (.v 3)],
  .ret (some (.v 4))]⟩
noncomputable def Rv:Fn:=⟨3,9,[
  .s (.v 3) (.ite (.cmp .LtE (.call (.ah (.raw (.builtin "len"))) [(.v 1)] []) (.v 2)) (.list [(.call (.ah (.raw (.type "tuple"))) [(.v 1)] [])]) (.list [])),
  .s (.v 4) (.ah (.int 0)),
  .jj (.cmp .Lt (.v 4) (.call (.ah (.raw (.builtin "len"))) [(.v 3)] [])) [.s (.v 5) (.sub (.v 3) (.v 4)), .s (.v 7) (.comp (.v 10) [10] false (.val (.v 5)) (some (.cmp .NotIn (.v 10) (.v 1))) 2), .s (.v 8) (.ite (.cmp .NotEq (.v 7) (.list [])) (.bin .Add (.call (.ah (.raw (.builtin "max"))) [(.v 7)] []) (.ah (.int 1))) (.ah (.int 0))), .ifs (.cmp .Lt (.call (.ah (.raw (.builtin "len"))) [(.v 5)] []) (.v 2)) [.loop [6] false (.range [(.v 8),(.v 0)]) [.ifs (.cmp .NotIn (.v 6) (.v 1)) [.expr (.aI (.v 3) "append" [(.bin .Add (.v 5) (.tuple [(.v 6)]))])] []]] [], .s (.v 4) (.bin .Add (.v 4) (.ah (.int 1)))],
  .ret (some (.v 3))]⟩
noncomputable def Rx:Fn:=⟨5,5,[
  .s (.a (.v 0) "children") (.v 1),
  .s (.a (.v 0) "parity") (.v 2),
  .s (.a (.v 0) "guid") (.v 3),
  .s (.a (.v 0) "shape") (.v 4)]⟩
noncomputable def Ry:Fn:=⟨1,2,[
  .s (.v 1) (.comp (.aI (.v 3) "sectors" []) [3] false (.val (.a (.v 0) "children")) (some (.cmp .IsNot (.a (.v 3) "disk") (.ah .none))) 2),
  .ret (some (.ite (.cmp .Gt (.call (.ah (.raw (.builtin "len"))) [(.v 1)] []) (.ah (.int 0))) (.bin .Mult (.call (.ah (.raw (.builtin "min"))) [(.v 1)] []) (.call (.ah (.raw (.builtin "len"))) [(.a (.v 0) "children")] [])) (.ah (.int 0))))]⟩
noncomputable def Rz:Fn:=⟨2,2,[
  .ret (some (.call (.ah Cf) [(.v 1),(.call (.ah (.raw (.builtin "len"))) [(.a (.v 0) "children")] []),(.a (.v 0) "parity"),(.a (.v 0) "shape")] []))]⟩
noncomputable def RA:Fn:=⟨3,3,[
  .ret (some (.call (.ah Cg) [(.v 1),(.v 2),(.call (.ah (.raw (.builtin "len"))) [(.a (.v 0) "children")] []),(.a (.v 0) "parity"),(.a (.v 0) "shape")] []))]⟩
noncomputable def RB:Fn:=⟨3,4,[
  .s (.v 3) (.call (.ah HC) [(.v 1),(.v 2),(.a (.v 0) "shape")] []),
  .ret (some (.bin .Add (.call (.ah HH) [(.v 3),(.a (.v 0) "parity")] []) (.v 3)))]⟩
noncomputable def RC:Fn:=⟨4,8,[
  .s (.v 4) (.aI (.v 0) "columns" [(.v 1),(.call (.ah (.raw (.builtin "len"))) [(.v 2)] [])]),
  .s (.v 5) (.ah (.int 0)),
  .loop [6,7] true (.zip [(.v 4),(.aI (.v 0) "whole" [(.v 2),(.v 4)])]) [.ifs (.not (.val (.aI (.sub (.a (.v 0) "children") (.a (.v 6) "child")) "write" [(.a (.v 6) "row"),(.v 7),(.v 3)]))) [.s (.v 5) (.bin .Add (.v 5) (.ah (.int 1)))] []],
  .ret (some (.cmp .LtE (.v 5) (.a (.v 0) "parity")))]⟩
noncomputable def RD:Fn:=⟨2,3,[
  .s (.v 2) (.a (.a (.v 0) "shape") "sector"),
  .ret (some (.comp (.aI (.sub (.a (.v 0) "children") (.a (.v 4) "child")) "read" [(.a (.v 4) "row"),(.bin .Mult (.a (.v 4) "many") (.v 2))]) [4] false (.val (.v 1)) none 2))]⟩
noncomputable def RE:Fn:=⟨4,7,[
  .s (.v 4) (.aI (.v 0) "columns" [(.v 1),(.v 2)]),
  .s (.v 5) (.aI (.v 0) "held" [(.slice (.v 4) (some (.a (.v 0) "parity")) none)]),
  .ifs (.cmp .NotIn (.ah .none) (.v 5)) [.s (.v 6) (.call (.ah Ch) [(.v 5),(.v 2)] []), .ifs (.val (.call (.v 3) [(.v 6)] [])) [.ret (some (.tuple [(.v 6),(.list [])]))] []] [],
  .ret (some (.aI (.v 0) "searched" [(.v 4),(.bin .Add (.aI (.v 0) "held" [(.slice (.v 4) none (some (.a (.v 0) "parity")))]) (.v 5)),(.v 2),(.v 3)]))]⟩
noncomputable def RG:Fn:=⟨4,5,[
  .s (.v 4) (.aI (.v 0) "columns" [(.v 1),(.v 2)]),
  .ret (some (.aI (.v 0) "searched" [(.v 4),(.aI (.v 0) "held" [(.v 4)]),(.v 2),(.v 3)]))]⟩
noncomputable def RH:Fn:=⟨5,9,[
  .s (.v 5) (.comp (.v 10) [10,11] true (.enum (.v 2)) (some (.cmp .Is (.v 11) (.ah .none))) 3),
  .s (.v 6) (.comp (.ite (.cmp .Is (.v 11) (.ah .none)) (.call (.ah (.raw (.type "bytes"))) [(.bin .Mult (.a (.v 10) "many") (.a (.a (.v 0) "shape") "sector"))] []) (.v 11)) [10,11] true (.zip [(.v 1),(.v 2)]) none 3),
  .loop [7] false (.val (.call (.ah HL) [(.call (.ah (.raw (.builtin "len"))) [(.v 1)] []),(.v 5),(.a (.v 0) "parity")] [])) [.s (.v 8) (.call (.ah Ch) [(.call (.ah HK) [(.v 6),(.v 7),(.a (.v 0) "parity")] []),(.v 3)] []), .ifs (.val (.call (.v 4) [(.v 8)] [])) [.ret (some (.tuple [(.v 8),(.aI (.v 0) "wrong_of" [(.v 1),(.v 2),(.v 8)])]))] []],
  .ret (some (.tuple [(.ah .none),(.list [])]))]⟩
noncomputable def RI:Fn:=⟨4,8,[
  .s (.v 4) (.list []),
  .loop [5,6,7] true (.zip [(.v 1),(.v 2),(.aI (.v 0) "whole" [(.v 3),(.v 1)])]) [.ifs (.bool true [(.cmp .IsNot (.v 6) (.ah .none)),(.cmp .NotEq (.v 6) (.v 7))]) [.expr (.aI (.v 4) "append" [(.a (.v 5) "child")])] []],
  .ret (some (.call (.ah (.raw (.builtin "sorted"))) [(.v 4)] []))]⟩
noncomputable def RJ:Fn:=⟨4,8,[
  .d0 [(.v 4),(.v 5)] (.tuple [(.aI (.v 0) "columns" [(.v 1),(.call (.ah (.raw (.builtin "len"))) [(.v 2)] [])]),(.ah (.int 0))]),
  .loop [6,7] true (.zip [(.v 4),(.aI (.v 0) "whole" [(.v 2),(.v 4)])]) [.ifs (.cmp .In (.a (.v 6) "child") (.v 3)) [.s (.v 5) (.bin .Add (.v 5) (.call (.ah (.raw (.type "int"))) [(.aI (.sub (.a (.v 0) "children") (.a (.v 6) "child")) "write" [(.a (.v 6) "row"),(.v 7),(.ah (.int 0))])] []))] []],
  .ret (some (.v 5))]⟩
noncomputable def RK:Fn:=⟨1,2,[
  .loop [1] false (.val (.a (.v 0) "children")) [.expr (.aI (.v 1) "flush" [])]]⟩
noncomputable def RL:Fn:=⟨1,1,[
  .ret (some (.call (.ah (.raw (.type "list"))) [(.a (.v 0) "children")] []))]⟩
noncomputable def RM:Fn:=⟨3,3,[
  .s (.a (.v 0) "sector") (.a (.v 2) "sector"),
  .s (.a (.v 0) "octets") (.call (.ah (.raw (.type "bytearray"))) [(.bin .Mult (.v 1) (.a (.v 2) "sector"))] []),
  .s (.a (.v 0) "waiting") (.list []),
  .s (.a (.v 0) "is_out") (.ah (.bool false)),
  .s (.a (.v 0) "reads") (.ah (.int 0)),
  .s (.a (.v 0) "writes") (.ah (.int 0))]⟩
noncomputable def RN:Fn:=⟨1,1,[
  .ret (some (.bin .FloorDiv (.call (.ah (.raw (.builtin "len"))) [(.a (.v 0) "octets")] []) (.a (.v 0) "sector")))]⟩
noncomputable def RO:Fn:=⟨3,3,[
  .ifs (.bool false [(.cmp .Lt (.v 1) (.ah (.int 0))),(.cmp .Lt (.v 2) (.ah (.int 0))),(.cmp .Gt (.bin .Add (.v 1) (.v 2)) (.aI (.v 0) "sectors" []))]) [.fail] []]⟩
noncomputable def RP:Fn:=⟨3,7,[
  .expr (.aI (.v 0) "want" [(.v 1),(.v 2)]),
  .ifs (.val (.a (.v 0) "is_out")) [.ret (some (.ah .none))] [],
  .s (.a (.v 0) "reads") (.bin .Add (.a (.v 0) "reads") (.v 2)),
  .s (.v 3) (.slice (.a (.v 0) "octets") (some (.bin .Mult (.v 1) (.a (.v 0) "sector"))) (some (.bin .Mult (.bin .Add (.v 1) (.v 2)) (.a (.v 0) "sector")))),
  .loop [4,5] true (.val (.a (.v 0) "waiting")) [.ifs (.kf .LtE .Lt (.v 1) (.v 4) (.bin .Add (.v 1) (.v 2))) [.s (.v 6) (.bin .Mult (.bin .Sub (.v 4) (.v 1)) (.a (.v 0) "sector")), .s (.slice (.v 3) (some (.v 6)) (some (.bin .Add (.v 6) (.a (.v 0) "sector")))) (.v 5)] []],
  .ret (some (.call (.ah (.raw (.type "bytes"))) [(.v 3)] []))]⟩
noncomputable def RQ:Fn:=⟨3,5,[
  .ifs (.cmp .NotEq (.bin .Mod (.call (.ah (.raw (.builtin "len"))) [(.v 2)] []) (.a (.v 0) "sector")) (.ah (.int 0))) [.fail] [],
  .s (.v 3) (.bin .FloorDiv (.call (.ah (.raw (.builtin "len"))) [(.v 2)] []) (.a (.v 0) "sector")),
  .expr (.aI (.v 0) "want" [(.v 1),(.v 3)]),
  .ifs (.val (.a (.v 0) "is_out")) [.ret (some (.ah (.bool false)))] [],
  .loop [4] false (.range [(.v 3)]) [.expr (.aI (.a (.v 0) "waiting") "append" [(.tuple [(.bin .Add (.v 1) (.v 4)),(.call (.ah (.raw (.type "bytes"))) [(.slice (.v 2) (some (.bin .Mult (.v 4) (.a (.v 0) "sector"))) (some (.bin .Mult (.bin .Add (.v 4) (.ah (.int 1))) (.a (.v 0) "sector"))))] [])])])],
  .s (.a (.v 0) "writes") (.bin .Add (.a (.v 0) "writes") (.v 3)),
  .ret (some (.ah (.bool true)))]⟩
noncomputable def RR:Fn:=⟨3,3,[
  .s (.slice (.a (.v 0) "octets") (some (.bin .Mult (.v 1) (.a (.v 0) "sector"))) (some (.bin .Mult (.bin .Add (.v 1) (.ah (.int 1))) (.a (.v 0) "sector")))) (.v 2)]⟩
noncomputable def RS:Fn:=⟨1,3,[
  .ifs (.val (.a (.v 0) "is_out")) [.ret (some (.ah (.bool false)))] [],
  .loop [1,2] true (.val (.a (.v 0) "waiting")) [.expr (.aI (.v 0) "put" [(.v 1),(.v 2)])],
  .s (.a (.v 0) "waiting") (.list []),
  .ret (some (.ah (.bool true)))]⟩
noncomputable def RT:Fn:=⟨1,1,[
  .ret (some (.call (.ah (.raw (.builtin "len"))) [(.a (.v 0) "waiting")] []))]⟩
noncomputable def Cp:Fn:=⟨12,12,[
  .s (.a (.v 0) "sector") (.v 1),
  .s (.a (.v 0) "slab") (.v 2),
  .s (.a (.v 0) "record") (.v 3),
  .s (.a (.v 0) "fan") (.v 4),
  .s (.a (.v 0) "dnodes") (.v 5),
  .s (.a (.v 0) "ring") (.v 6),
  .s (.a (.v 0) "defer") (.v 7),
  .s (.a (.v 0) "most_record") (.v 8),
  .s (.a (.v 0) "uber") (.v 9),
  .s (.a (.v 0) "config") (.v 10),
  .s (.a (.v 0) "zap") (.v 11)]⟩
noncomputable def RU:Fn:=⟨2,2,[
  .ret (some (.bin .Mult (.bin .FloorDiv (.bin .Sub (.bin .Add (.v 0) (.v 1)) (.ah (.int 1))) (.v 1)) (.v 1)))]⟩
noncomputable def RV:Fn:=⟨2,2,[
  .ret (some (.bin .FloorDiv (.bin .Sub (.bin .Add (.v 0) (.v 1)) (.ah (.int 1))) (.v 1)))]⟩
noncomputable def RX:Fn:=⟨1,1,[
  .ret (some (.call (.ah yK) [(.a (.v 0) "uber"),(.a (.v 0) "sector")] []))]⟩
noncomputable def RY:Fn:=⟨1,1,[
  .ret (some (.call (.ah yK) [(.a (.v 0) "config"),(.a (.v 0) "sector")] []))]⟩
noncomputable def RZ:Fn:=⟨1,1,[
  .ret (some (.bin .Add (.call (.ah HR) [(.v 0)] []) (.bin .Mult (.a (.v 0) "ring") (.call (.ah HQ) [(.v 0)] []))))]⟩
noncomputable def R0:Fn:=⟨2,3,[
  .s (.v 2) (.bin .Sub (.aI (.v 0) "sectors" []) (.bin .Mult (.ah (.int 2)) (.call (.ah Co) [(.v 1)] []))),
  .ifs (.cmp .Lt (.v 2) (.ah (.int 0))) [.fail] [],
  .ret (some (.v 2))]⟩
noncomputable def Cq:Fn:=⟨2,4,[
  .s (.a (.v 0) "rows") (.list []),
  .loop [2,3] true (.val (.v 1)) [.expr (.aI (.v 0) "add" [(.v 2),(.bin .Sub (.v 3) (.v 2))])]]⟩
noncomputable def R1:Fn:=⟨2,5,[
  .d0 [(.v 2),(.v 3)] (.tuple [(.ah (.int 0)),(.call (.ah (.raw (.builtin "len"))) [(.a (.v 0) "rows")] [])]),
  .jj (.cmp .Lt (.v 2) (.v 3)) [.s (.v 4) (.bin .FloorDiv (.bin .Add (.v 2) (.v 3)) (.ah (.int 2))), .ifs (.cmp .LtE (.sub (.sub (.a (.v 0) "rows") (.v 4)) (.ah (.int 0))) (.v 1)) [.s (.v 2) (.bin .Add (.v 4) (.ah (.int 1)))] [.s (.v 3) (.v 4)]],
  .ret (some (.v 2))]⟩
noncomputable def R3:Fn:=⟨3,3,[
  .ifs (.bool false [(.cmp .Lt (.v 1) (.ah (.int 0))),(.cmp .Lt (.v 2) (.ah (.int 0)))]) [.fail] []]⟩
noncomputable def R4:Fn:=⟨3,4,[
  .expr (.aI (.v 0) "want" [(.v 1),(.v 2)]),
  .s (.v 3) (.bin .Sub (.aI (.v 0) "behind" [(.v 1)]) (.ah (.int 1))),
  .ret (some (.bool false [(.cmp .Eq (.v 2) (.ah (.int 0))),(.bool true [(.cmp .GtE (.v 3) (.ah (.int 0))),(.cmp .LtE (.bin .Add (.v 1) (.v 2)) (.sub (.sub (.a (.v 0) "rows") (.v 3)) (.ah (.int 1))))])]))]⟩
noncomputable def R5:Fn:=⟨3,4,[
  .expr (.aI (.v 0) "want" [(.v 1),(.v 2)]),
  .s (.v 3) (.bin .Sub (.aI (.v 0) "behind" [(.bin .Sub (.bin .Add (.v 1) (.v 2)) (.ah (.int 1)))]) (.ah (.int 1))),
  .ret (some (.bool true [(.cmp .Gt (.v 2) (.ah (.int 0))),(.cmp .GtE (.v 3) (.ah (.int 0))),(.cmp .Gt (.sub (.sub (.a (.v 0) "rows") (.v 3)) (.ah (.int 1))) (.v 1))]))]⟩
noncomputable def R6:Fn:=⟨3,3,[
  .ifs (.val (.aI (.v 0) "some" [(.v 1),(.v 2)])) [.fail] [],
  .ifs (.cmp .Gt (.v 2) (.ah (.int 0))) [.expr (.aI (.v 0) "put" [(.v 1),(.v 2)])] []]⟩
noncomputable def R7:Fn:=⟨3,6,[
  .expr (.aI (.v 0) "want" [(.v 1),(.v 2)]),
  .ifs (.cmp .Eq (.v 2) (.ah (.int 0))) [.ret none] [],
  .d0 [(.v 3),(.v 4)] (.tuple [(.bin .Add (.v 1) (.v 2)),(.aI (.v 0) "behind" [(.v 1)])]),
  .ifs (.bool true [(.cmp .Gt (.v 4) (.ah (.int 0))),(.cmp .GtE (.sub (.sub (.a (.v 0) "rows") (.bin .Sub (.v 4) (.ah (.int 1)))) (.ah (.int 1))) (.v 1))]) [.s (.v 4) (.bin .Sub (.v 4) (.ah (.int 1)))] [],
  .s (.v 5) (.aI (.v 0) "behind" [(.v 3)]),
  .ifs (.cmp .Lt (.v 4) (.v 5)) [.d0 [(.v 1),(.v 3)] (.tuple [(.call (.ah (.raw (.builtin "min"))) [(.v 1),(.sub (.sub (.a (.v 0) "rows") (.v 4)) (.ah (.int 0)))] []),(.call (.ah (.raw (.builtin "max"))) [(.v 3),(.sub (.sub (.a (.v 0) "rows") (.bin .Sub (.v 5) (.ah (.int 1)))) (.ah (.int 1)))] [])])] [],
  .s (.slice (.a (.v 0) "rows") (some (.v 4)) (some (.v 5))) (.list [(.tuple [(.v 1),(.v 3)])])]⟩
noncomputable def R8:Fn:=⟨2,2,[
  .ret (some (.bin .Add (.call (.ah (.raw (.type "bytes"))) [(.v 0)] []) (.call (.ah (.raw (.type "bytes"))) [(.bin .Sub (.call (.ah HP) [(.call (.ah (.raw (.builtin "len"))) [(.v 0)] []),(.a (.v 1) "sector")] []) (.call (.ah (.raw (.builtin "len"))) [(.v 0)] []))] [])))]⟩
noncomputable def R9:Fn:=⟨4,4,[
  .s (.a (.v 0) "disk") (.v 1),
  .s (.a (.v 0) "guid") (.v 2),
  .s (.a (.v 0) "shape") (.v 3),
  .s (.a (.v 0) "missing") (.call (.ah HT) [] [])]⟩
noncomputable def Sc:Fn:=⟨1,1,[
  .ret (some (.bool true [(.cmp .IsNot (.a (.v 0) "disk") (.ah .none)),(.not (.a (.a (.v 0) "disk") "is_out"))]))]⟩
noncomputable def Sd:Fn:=⟨1,1,[
  .ret (some (.ite (.cmp .Is (.a (.v 0) "disk") (.ah .none)) (.ah (.int 0)) (.call (.ah HS) [(.a (.v 0) "disk"),(.a (.v 0) "shape")] [])))]⟩
noncomputable def Se:Fn:=⟨3,3,[
  .ifs (.bool false [(.cmp .Lt (.v 1) (.ah (.int 0))),(.cmp .Lt (.v 2) (.ah (.int 0))),(.cmp .Gt (.bin .Add (.v 1) (.v 2)) (.aI (.v 0) "sectors" []))]) [.fail] [],
  .ret (some (.bin .Add (.call (.ah Co) [(.a (.v 0) "shape")] []) (.v 1)))]⟩
noncomputable def Sf:Fn:=⟨3,5,[
  .ifs (.not (.val (.aI (.v 0) "is_there" []))) [.ret (some (.ah .none))] [],
  .s (.v 3) (.call (.ah yK) [(.v 2),(.a (.a (.v 0) "shape") "sector")] []),
  .s (.v 4) (.aI (.a (.v 0) "disk") "read" [(.aI (.v 0) "place_of" [(.v 1),(.v 3)]),(.v 3)]),
  .ret (some (.ite (.cmp .Is (.v 4) (.ah .none)) (.ah .none) (.call (.ah (.raw (.type "bytes"))) [(.slice (.v 4) none (some (.v 2)))] [])))]⟩
noncomputable def Sg:Fn:=⟨4,5,[
  .ifs (.not (.val (.aI (.v 0) "is_there" []))) [.expr (.aI (.v 0) "note_missing" [(.v 3)]), .ret (some (.ah (.bool false)))] [],
  .s (.v 4) (.call (.ah HU) [(.v 2),(.a (.v 0) "shape")] []),
  .expr (.aI (.a (.v 0) "disk") "write" [(.aI (.v 0) "place_of" [(.v 1),(.bin .FloorDiv (.call (.ah (.raw (.builtin "len"))) [(.v 4)] []) (.a (.a (.v 0) "shape") "sector"))]),(.v 4)]),
  .ret (some (.ah (.bool true)))]⟩
noncomputable def Sh:Fn:=⟨1,1,[
  .ifs (.val (.aI (.v 0) "is_there" [])) [.expr (.aI (.a (.v 0) "disk") "flush" [])] []]⟩
noncomputable def Si:Fn:=⟨2,2,[
  .ifs (.bool true [(.cmp .Gt (.v 1) (.ah (.int 0))),(.not (.val (.aI (.a (.v 0) "missing") "has" [(.v 1),(.ah (.int 1))])))]) [.expr (.aI (.a (.v 0) "missing") "add" [(.v 1),(.ah (.int 1))])] []]⟩
noncomputable def Sj:Fn:=⟨2,2,[
  .ret (some (.not (.aI (.a (.v 0) "missing") "has" [(.v 1),(.ah (.int 1))])))]⟩
noncomputable def Sk:Fn:=⟨2,2,[
  .ret (some (.ite (.cmp .Lt (.v 1) (.call (.ah (.raw (.builtin "len"))) [(.v 0)] [])) (.sub (.v 0) (.v 1)) (.bin .Add (.bin .Mult (.ah (.int 61)) (.v 1)) (.ah (.int 4)))))]⟩
noncomputable def Sl:Fn:=⟨5,7,[
  .s (.v 5) (.list []),
  .loop [6] false (.range [(.bin .Add (.v 1) (.bin .Mult (.v 3) (.neg (.bin .FloorDiv (.neg (.v 1)) (.bin .Sub (.v 2) (.v 3))))))]) [.ifs (.cmp .Lt (.v 6) (.v 2)) [.expr (.aI (.v 5) "append" [(.list [(.bin .Mod (.bin .Add (.v 0) (.v 6)) (.v 2)),(.bin .FloorDiv (.bin .Add (.v 0) (.v 6)) (.v 2)),(.ah (.int 0))])])] [], .aug (.sub (.v 5) (.bin .Mod (.v 6) (.v 2))) (.ah (.int 2)) .Add (.ah (.int 1))],
  .ifs (.val (.v 4)) [.d0 [(.slice (.sub (.v 5) (.ah (.int 0))) none (some (.ah (.int 2)))),(.slice (.sub (.v 5) (.ah (.int 1))) none (some (.ah (.int 2))))] (.tuple [(.slice (.sub (.v 5) (.ah (.int 1))) none (some (.ah (.int 2)))),(.slice (.sub (.v 5) (.ah (.int 0))) none (some (.ah (.int 2))))])] [],
  .ret (some (.v 5))]⟩
noncomputable def Sm:Fn:=⟨4,8,[
  .d0 [(.v 4),(.v 5)] (.tuple [(.list []),(.list [])]),
  .loop [6] false (.range [(.bin .Mod (.v 1) (.bin .Add (.v 2) (.ah (.int 2))))]) [.s (.v 7) (.sub (.sub (.v 0) (.bin .Mod (.bin .FloorDiv (.bin .FloorDiv (.v 1) (.ah (.int 7))) (.bin .Pow (.ah (.int 5)) (.v 6))) (.call (.ah (.raw (.builtin "len"))) [(.v 0)] []))) (.ah (.int 0))), .ifs (.cmp .NotIn (.v 7) (.bin .Add (.v 4) (.v 5))) [.ifs (.bool true [(.cmp .Eq (.bin .Mod (.bin .FloorDiv (.v 1) (.ah (.int 3))) (.ah (.int 2))) (.bin .Mod (.v 6) (.ah (.int 2)))),(.cmp .Lt (.call (.ah (.raw (.builtin "len"))) [(.v 4)] []) (.v 3)),(.cmp .LtE (.bin .Mod (.v 1) (.bin .Add (.v 2) (.ah (.int 2)))) (.v 2))]) [.expr (.aI (.v 4) "append" [(.v 7)])] [.expr (.aI (.v 5) "append" [(.v 7)])]] []],
  .ret (some (.tuple [(.call (.ah (.raw (.builtin "sorted"))) [(.v 4)] []),(.call (.ah (.raw (.builtin "sorted"))) [(.v 5)] [])]))]⟩
noncomputable def Sn:Fn:=⟨3,6,[
  .loop [3,4,5] true (.val (.v 1)) [.ifs (.cmp .In (.v 3) (.v 2)) [.expr (.aI (.sub (.v 0) (.v 3)) "write" [(.v 4),(.call (.ah (.raw (.type "bytes"))) [(.comp (.bin .Sub (.ah (.int 255)) (.v 7)) [7] false (.val (.aI (.sub (.v 0) (.v 3)) "read" [(.v 4),(.bin .Mult (.ah (.int 4)) (.v 5))])) none 2)] []),(.ah (.int 0))])] []]]⟩
noncomputable def So:Fn:=⟨3,4,[
  .loop [3] false (.val (.v 1)) [.s (.a (.a (.sub (.v 0) (.v 3)) "disk") "is_out") (.v 2)]]⟩
noncomputable def Cr:Fn:=⟨5,12,[
  .d0 [(.v 5),(.v 6)] (.tuple [(.a (.v 0) "parity"),(.call (.ah (.raw (.builtin "len"))) [(.v 3)] [])]),
  .d0 [(.v 7),(.v 8)] (.call (.ah HX) [(.v 1),(.v 4),(.v 5),(.ite (.cmp .Lt (.call (.ah (.raw (.builtin "len"))) [(.a (.v 0) "children")] []) (.ah (.int 5))) (.ah (.int 2)) (.ah (.int 1)))] []),
  .expr (.call (.ah HY) [(.a (.v 0) "children"),(.v 1),(.v 7)] []),
  .expr (.call (.ah vG) [(.a (.v 0) "children"),(.v 8),(.ah (.bool true))] []),
  .s (.v 9) (.ite (.cmp .LtE (.call (.ah (.raw (.builtin "len"))) [(.bin .Add (.v 7) (.v 8))] []) (.v 5)) (.tuple [(.v 3),(.v 7)]) (.tuple [(.ah .none),(.list [])])),
  .s (.v 10) (.call (.ah (.raw (.builtin "all"))) [(.comp (.cmp .NotIn (.sub (.v 13) (.ah (.int 0))) (.bin .Add (.v 7) (.v 8))) [13] false (.val (.slice (.v 1) (some (.v 5)) none)) none 2)] []),
  .ifs (.cmp .NotEq (.aI (.v 0) "read" [(.v 2),(.v 6),(.lam 3)]) (.ite (.val (.v 10)) (.tuple [(.v 3),(.list [])]) (.v 9))) [.ret (some (.ah (.bool false)))] [],
  .ifs (.cmp .NotEq (.aI (.v 0) "check" [(.v 2),(.v 6),(.lam 3)]) (.v 9)) [.ret (some (.ah (.bool false)))] [],
  .ifs (.bool true [(.cmp .IsNot (.sub (.v 9) (.ah (.int 0))) (.ah .none)),(.cmp .NotEq (.aI (.v 0) "mend" [(.v 2),(.v 3),(.v 7)]) (.call (.ah (.raw (.builtin "len"))) [(.v 7)] []))]) [.ret (some (.ah (.bool false)))] [],
  .s (.v 11) (.bool true [(.cmp .IsNot (.sub (.v 9) (.ah (.int 0))) (.ah .none)),(.cmp .Eq (.aI (.v 0) "check" [(.v 2),(.v 6),(.lam 3)]) (.tuple [(.v 3),(.list [])]))]),
  .expr (.call (.ah vG) [(.a (.v 0) "children"),(.v 8),(.ah (.bool false))] []),
  .ifs (.cmp .Is (.sub (.v 9) (.ah (.int 0))) (.ah .none)) [.ret (some (.cmp .Eq (.aI (.v 0) "check" [(.v 2),(.v 6),(.lam 3)]) (.tuple [(.v 3),(.list [])])))] [],
  .ret (some (.bool true [(.v 11),(.cmp .Eq (.aI (.v 0) "check" [(.v 2),(.v 6),(.lam 3)]) (.tuple [(.v 3),(.list [])]))]))]⟩
noncomputable def Cs:Fn:=⟨5,9,[
  .s (.v 5) (.comp (.sub (.v 10) (.ah (.int 0))) [10] false (.val (.slice (.v 1) none (some (.bin .Add (.a (.v 0) "parity") (.bin .Mod (.v 4) (.ah (.int 2))))))) none 2),
  .expr (.call (.ah vG) [(.a (.v 0) "children"),(.v 5),(.ah (.bool true))] []),
  .s (.v 6) (.aI (.v 0) "write" [(.v 2),(.v 3),(.ah (.int 9))]),
  .ifs (.bool false [(.cmp .NotEq (.v 6) (.cmp .LtE (.call (.ah (.raw (.builtin "len"))) [(.v 5)] []) (.a (.v 0) "parity"))),(.cmp .NotEq (.comp (.aI (.v 10) "has" [(.ah (.int 9))]) [10] false (.val (.aI (.v 0) "leaves" [])) none 2) (.comp (.cmp .NotIn (.v 10) (.v 5)) [10] false (.range [(.call (.ah (.raw (.builtin "len"))) [(.a (.v 0) "children")] [])]) none 2))]) [.ret (some (.ah (.bool false)))] [],
  .expr (.call (.ah vG) [(.a (.v 0) "children"),(.v 5),(.ah (.bool false))] []),
  .expr (.aI (.v 0) "flush" []),
  .ifs (.not (.val (.v 6))) [.ret (some (.ah (.bool true)))] [],
  .d0 [(.v 7),(.v 8)] (.aI (.v 0) "check" [(.v 2),(.call (.ah (.raw (.builtin "len"))) [(.v 3)] []),(.lam 3)]),
  .ifs (.bool false [(.cmp .NotEq (.v 7) (.v 3)),(.cmp .NotEq (.comp (.v 10) [10] false (.val (.v 8)) (some (.cmp .NotIn (.v 10) (.v 5))) 2) (.list [])),(.cmp .NotEq (.v 8) (.call (.ah (.raw (.builtin "sorted"))) [(.v 8)] []))]) [.ret (some (.ah (.bool false)))] [],
  .ifs (.cmp .NotEq (.aI (.v 0) "mend" [(.v 2),(.v 3),(.v 8)]) (.call (.ah (.raw (.builtin "len"))) [(.v 8)] [])) [.ret (some (.ah (.bool false)))] [],
  .ret (some (.cmp .Eq (.aI (.v 0) "check" [(.v 2),(.call (.ah (.raw (.builtin "len"))) [(.v 3)] []),(.lam 3)]) (.tuple [(.v 3),(.list [])])))]⟩
noncomputable def Sp:Fn:=⟨2,3,[
  .s (.a (.sub (.a (.v 0) "children") (.ah (.int 0))) "disk") (.ah .none),
  .ifs (.cmp .NotEq (.aI (.v 0) "sectors" []) (.bin .Mult (.bin .Add (.bin .FloorDiv (.ah (.int 60)) (.v 1)) (.ah (.int 4))) (.v 1))) [.ret (some (.ah (.bool false)))] [],
  .loop [2] false (.val (.aI (.v 0) "leaves" [])) [.s (.a (.v 2) "disk") (.ah .none)],
  .ret (some (.cmp .Eq (.aI (.v 0) "sectors" []) (.ah (.int 0))))]⟩
noncomputable def l6:Fn:=⟨2,15,[
  .d0 [(.v 2),(.v 3),(.v 4)] (.tuple [(.call (.ah tI) [(.v 0),(.v 1)] []),(.call (.ah tI) [(.v 0),(.bin .Add (.v 1) (.ah (.int 1)))] []),(.call (.ah tI) [(.v 0),(.bin .Add (.v 1) (.ah (.int 2)))] [])]),
  .s (.v 5) (.bin .Add (.ah (.int 2)) (.bin .Mod (.v 2) (.ah (.int 5)))),
  .d0 [(.v 6),(.v 7),(.v 8)] (.tuple [(.bin .Add (.ah (.int 1)) (.bin .Mod (.bin .FloorDiv (.v 2) (.ah (.int 5))) (.call (.ah (.raw (.builtin "min"))) [(.ah (.int 3)),(.bin .Sub (.v 5) (.ah (.int 1)))] []))),(.bin .Add (.ah (.int 1)) (.bin .Mod (.v 3) (.ah (.int 28)))),(.bin .Mod (.bin .FloorDiv (.v 3) (.ah (.int 28))) (.ah (.int 20)))]),
  .s (.v 9) (.call (.ah HO) [(.ah (.int 4)),(.ah (.int 8))] [(be "ring",(.ah (.int 1))),(be "uber",(.ah (.int 4))),(be "config",(.ah (.int 4)))]),
  .s (.v 10) (.call (.ah HM) [(.comp (.call (.ah HV) [(.call (.ah HN) [(.bin .Add (.bin .FloorDiv (.ah (.int 60)) (.v 5)) (.ah (.int 8))),(.v 9)] []),(.bin .Add (.ah (.int 90)) (.v 16)),(.v 9)] []) [16] false (.range [(.v 5)]) none 2),(.v 6),(.ah (.int 7)),(.v 9)] []),
  .s (.v 11) (.call (.ah HW) [(.v 8),(.neg (.bin .FloorDiv (.neg (.v 7)) (.ah (.int 4)))),(.v 5),(.v 6),(.bool true [(.cmp .Eq (.v 6) (.ah (.int 1))),(.cmp .Eq (.bin .Mod (.bin .FloorDiv (.v 8) (.ah (.int 8))) (.ah (.int 2))) (.ah (.int 1)))])] []),
  .s (.v 12) (.call (.ah (.raw (.builtin "sum"))) [(.comp (.sub (.v 16) (.ah (.int 2))) [16] false (.val (.v 11)) none 2)] []),
  .ifs (.bool false [(.cmp .NotEq (.aI (.v 10) "sectors" []) (.bin .Mult (.bin .Add (.bin .FloorDiv (.ah (.int 60)) (.v 5)) (.ah (.int 4))) (.v 5))),(.cmp .NotEq (.aI (.v 10) "asize" [(.v 7)]) (.bin .Mult (.neg (.bin .FloorDiv (.neg (.v 12)) (.bin .Add (.v 6) (.ah (.int 1))))) (.bin .Add (.v 6) (.ah (.int 1)))))]) [.ret (some (.ah (.bool false)))] [],
  .s (.v 14) (.call (.ah (.raw (.type "bytes"))) [(.comp (.bin .Add (.ah (.int 1)) (.bin .Mod (.bin .Add (.v 4) (.bin .Mult (.ah (.int 37)) (.v 16))) (.ah (.int 255)))) [16] false (.range [(.v 7)]) none 2)] []),
  .ifs (.not (.val (.aI (.v 10) "write" [(.v 8),(.v 14),(.ah (.int 3))]))) [.ret (some (.ah (.bool false)))] [],
  .expr (.aI (.v 10) "flush" []),
  .ifs (.cmp .NotEq (.comp (.aI (.a (.v 16) "disk") "pending" []) [16] false (.val (.aI (.v 10) "leaves" [])) none 2) (.bin .Mult (.list [(.ah (.int 0))]) (.v 5))) [.ret (some (.ah (.bool false)))] [],
  .ifs (.cmp .NotEq (.aI (.v 10) "read" [(.v 8),(.v 7),(.lam 14)]) (.tuple [(.v 14),(.list [])])) [.ret (some (.ah (.bool false)))] [],
  .ifs (.not (.val (.call (.ah HZ) [(.v 10),(.v 11),(.v 8),(.v 14),(.call (.ah tI) [(.v 0),(.bin .Add (.v 1) (.ah (.int 3)))] [])] []))) [.ret (some (.ah (.bool false)))] [],
  .s (.v 13) (.call (.ah (.raw (.type "bytes"))) [(.comp (.bin .Sub (.ah (.int 256)) (.v 16)) [16] false (.val (.v 14)) none 2)] []),
  .ret (some (.bool true [(.call (.ah H0) [(.v 10),(.v 11),(.v 8),(.v 13),(.call (.ah tI) [(.v 0),(.bin .Add (.v 1) (.ah (.int 4)))] [])] []),(.call (.ah H1) [(.v 10),(.v 5)] [])]))]⟩
noncomputable def H3:Fn:=⟨1,2,[
  .s (.v 0) (.slice (.v 0) none (some (.ah (.int 63)))),
  .loop [1] false (.range [(.call (.ah (.raw (.builtin "max"))) [(.ah (.int 1)),(.call (.ah (.raw (.builtin "min"))) [(.ah (.int 2)),(.bin .FloorDiv (.call (.ah (.raw (.builtin "len"))) [(.v 0)] []) (.ah (.int 5)))] [])] [])]) [.ifs (.not (.val (.call (.ah H2) [(.v 0),(.bin .Mult (.ah (.int 5)) (.v 1))] []))) [.ret (some (.ah (.bool false)))] []],
  .ret (some (.ah (.bool true)))]⟩
noncomputable def l7:List (Str×ab):= [
 (be "_wall",Q0),
 (be "PoolFault",Q3),
 (be "Misused",Q4),
 (be "Column",Hz),
 (be "sectors_of",Cd),
 (be "want_group",Ce),
 (be "asize",Cf),
 (be "asize_raidmap",Cf),
 (be "sizes_of",HA),
 (be "is_turned",HB),
 (be "columns",Cg),
 (be "columns_raidmap",Cg),
 (be "parts_of",HC),
 (be "joined",Ch),
 (be "FIELD",(.int 285)),
 (be "double",HD),
 (be "mul",yJ),
 (be "power",Ci),
 (be "inverse",HE),
 (be "doubled",Cj),
 (be "added",vE),
 (be "scaled",Ck),
 (be "turned",HF),
 (be "times_row",vF),
 (be "plus_row",Cm),
 (be "parity_row",HG),
 (be "parity_of",HH),
 (be "factor_of",Cn),
 (be "missing_sum",HI),
 (be "solved",HJ),
 (be "data_of",HK),
 (be "choices",HL),
 (be "Stripes",HM),
 (be "Disk",HN),
 (be "Shape",HO),
 (be "round_up",HP),
 (be "many_of",yK),
 (be "slot_sectors",HQ),
 (be "config_sectors",HR),
 (be "label_sectors",Co),
 (be "data_sectors",HS),
 (be "Ranges",HT),
 (be "whole_sectors",HU),
 (be "Leaf",HV),
 (be "_law_digit",tI),
 (be "_law_painted",HW),
 (be "_law_losses",HX),
 (be "_law_harm",HY),
 (be "_law_put_out",vG),
 (be "_law_is_lost_right",HZ),
 (be "_law_is_anew_right",H0),
 (be "_law_sizes_right",H1),
 (be "_law_group_right",H2),
 (be "law",Q5),
 (be "len",(.raw (.builtin "len"))),
 (be "range",(.raw (.type "range"))),
 (be "enumerate",(.raw (.type "enumerate"))),
 (be "zip",(.raw (.type "zip"))),
 (be "sorted",(.raw (.builtin "sorted"))),
 (be "min",(.raw (.builtin "min"))),
 (be "max",(.raw (.builtin "max"))),
 (be "sum",(.raw (.builtin "sum"))),
 (be "all",(.raw (.builtin "all"))),
 (be "int",(.raw (.type "int"))),
 (be "bytes",(.raw (.type "bytes"))),
 (be "bytearray",(.raw (.type "bytearray"))),
 (be "dict",(.raw (.type "dict"))),
 (be "list",(.raw (.type "list"))),
 (be "tuple",(.raw (.type "tuple"))),
 (be "Exception",(.raw (.type "Exception")))]
section
variable {bs:List Bool}{r:Expr}
section
variable{X:Cx}{n:Nat}{L:Addr}{ae:List Loc}
theorem chain{t:Sem α}{R:(Addr->Prop)->Heap->β->α->Prop}{K:β->St->Prop}(h:mV X n L ae t R K st){A κ s}(hr:cL n A)(rel:Rel X L ae st κ s){Q:α->al->Prop}
  (hq:∀y s1 b ax aA,Rel X L ae ax aA s1->bg (λz=>z =L) st.σ κ s.heap ax.σ aA s1.heap->R (aj ax.σ aA) s1.heap b y->K b ax->Q y s1):ai X.M A t Q (λJ J=>False) s :=
 aZ (h A κ s hr rel) (λy s1 p=>p.casesOn λb ax aA r e v k=>hq y s1 b ax aA r e v k) λJ J x=>x
theorem weak{t:Sem α}{A s}{Q Q':α->al->Prop}(h:ai X.M A t Q (λJ J=>False) s)(hq:∀y s1,Q y s1->Q' y s1):ai X.M A t Q' (λJ J=>False) s:=aZ h hq λJ J x=>x
theorem mV.mono{t:Sem α}{R:(Addr->Prop)->Heap->β->α->Prop}{K K':β->St->Prop}(h:mV X n L ae t R K st)(k:∀b st,K b st->K' b st):mV X n L ae t R K' st:=λA κ s hr rel =>
 weak (h A κ s hr rel) λJ J p=>p.casesOn λb st' κ' r e v q=>⟨b,st',κ',r,e,v,k _ _ q⟩
def Op(X:Cx)(n:Nat)(L:Addr)(ae:List Loc)(st:St)(κ:bM)(s:al)(t:Sem α)(R:(Addr->Prop)->Heap->β->α->Prop)(K:β->St->Prop):Prop :=
 ∀A,cL n A->ai X.M A t (Post X L ae st.σ κ s.heap R K) (λJ J=>False) s
def yL(_:Addr->Prop)(_:Heap)(b:Bool)(y:Value):Prop:=y= .bool b
def fJ(U:Addr->Prop)(h:Heap):Option ab->Value->Prop
 | none,y=>y= .none
 | some v,y=>am U h v y
theorem fJ.mono{U h U' h'}(S:c7 U h U' h'){v y}:fJ U h v y->fJ U' h' v y:=v.casesOn id λJ e=>VR.mono S e
theorem Sr:∀{m:List (Option ab)} {i:Nat} {v:ab},(nY bs m)[i]? =some (some v)->m[i]? =some (some v):=by
 induction bs with
 | nil=>exact id
 | cons b bs ih =>
  intro m i v h;cases m with
  | nil=>exact h
  | cons w m =>
   cases i with
   | zero=>cases b;exact h;exact nn (aN h)
   | succ i=>exact ih (m:=m) (i:=i) h
theorem Ss:∀{m:List (Option ab)},(nY bs m).length=m.length:=by
 induction bs with
 | nil=>exact rfl
 | cons b bs ih =>
  intro m;cases m with
  | nil=>rfl
  | cons w m=>exact congrArg (λz=>z +1) ih
theorem Rel.nY{κ s}(r:Rel X L ae st κ s):Rel X L ae (gE bs st) κ s :=
 have f:=r.f;⟨r.g,f.tag,f.ns,Ss.trans f.len,f.lt,λi v e=>f.vals i v (Sr e),f.rd,f.wr,f.nodup⟩
abbrev Su(X:Cx)(n:Nat):Prop:=∀{L ae op a b st K κ s x y},yC op a b st K->Rel X L ae st κ s->am (aj st.σ κ) s.heap a x->am (aj st.σ κ) s.heap b y->Op X n L ae st κ s (binaryOp op x y) am K
abbrev Sv(X:Cx)(n:Nat):Prop:=∀{L ae op a b st K κ s x y},Cb op a b st K->Rel X L ae st κ s->am (aj st.σ κ) s.heap a x->am (aj st.σ κ) s.heap b y->Op X n L ae st κ s (inplaceOp op x y) am K
abbrev Sw(X:Cx)(n:Nat):Prop:=∀{L ae i st K κ s x},K (.int (-i)) st->Rel X L ae st κ s->am (aj st.σ κ) s.heap (.int i) x->Op X n L ae st κ s (unaryOp .USub x) am K
abbrev Sx(X:Cx)(n:Nat):Prop:=∀{L ae op a b st K κ s x y},eY op a b st K->Rel X L ae st κ s->am (aj st.σ κ) s.heap a x->am (aj st.σ κ) s.heap b y->Op X n L ae st κ s (compareOp op x y) yL K
abbrev Sy(X:Cx)(n:Nat):Prop:=∀{L ae o i st K κ s x y} {e1 e2:Expr},q7 o i st K->Rel X L ae st κ s->am (aj st.σ κ) s.heap o x->am (aj st.σ κ) s.heap i y->(∀a b c d,e2≠ .Slice a b c d)->Op X n L ae st κ s (subscriptTail e1 e2 x y) am K
abbrev Sz(X:Cx)(n:Nat):Prop:=∀{L ae o i st K κ s x y},q7 o i st K->Rel X L ae st κ s->am (aj st.σ κ) s.heap o x->am (aj st.σ κ) s.heap i y->Op X n L ae st κ s (getItem x y) am K
abbrev SA(X:Cx)(n:Nat):Prop:=∀{L ae o st K κ s x d} {lo hi:Option ab} {l u:Value} {e1 e3 e4:Expr} {p:Pos},km o lo hi st K->Rel X L ae st κ s->am (aj st.σ κ) s.heap o x->fJ (aj st.σ κ) s.heap lo l->fJ (aj st.σ κ) s.heap hi u->
 s.heap.get? d=some {cls:= .type "slice",data:= .fields #[l,u, .none]}->aj st.σ κ d->∀{a b:Option Expr},Op X n L ae st κ s (subscriptTail e1 (.Slice a b none p) x (.ref d)) am K
abbrev SC(X:Cx)(n:Nat):Prop:=∀{L ae o v st K κ s x} {f:Str},lV st.σ o f=some v->attrOk st.σ o f v=true->K v st->Rel X L ae st κ s->am (aj st.σ κ) s.heap o x->Op X n L ae st κ s (getAttr x f true) am K
abbrev SD(X:Cx)(n:Nat):Prop:=∀{L ae o v st K κ s x y} {f:Str},tE o f v st (K ())->Rel X L ae st κ s->am (aj st.σ κ) s.heap o x->am (aj st.σ κ) s.heap v y->Op X n L ae st κ s (setAttr x f y) ig K
abbrev SF(X:Cx)(n:Nat):Prop:=∀{L ae o i v st K κ s x y z},pD o i v st (K ())->Rel X L ae st κ s->am (aj st.σ κ) s.heap o x->am (aj st.σ κ) s.heap i y->am (aj st.σ κ) s.heap v z->Op X n L ae st κ s (setItem x y z) ig K
abbrev SG(X:Cx)(n:Nat):Prop:=∀{L ae o v st K κ s x z d} {lo hi:Option ab} {l u:Value},vA o lo hi v st (K ())->Rel X L ae st κ s->am (aj st.σ κ) s.heap o x->fJ (aj st.σ κ) s.heap lo l->fJ (aj st.σ κ) s.heap hi u->am (aj st.σ κ) s.heap v z->
 s.heap.get? d=some {cls:= .type "slice",data:= .fields #[l,u, .none]}->aj st.σ κ d->Op X n L ae st κ s (setItem x (.ref d) z) ig K
structure Ops(X:Cx)(n:Nat):Prop where
 bin:Su X n
 H4:Sv X n
 neg:Sw X n
 cmp:Sx X n
 sub:Sy X n
 get:Sz X n
 slice:SA X n
 attr:SC X n
 setAttr:SD X n
 Ct:SF X n
 H5:SG X n
theorem Post.to{κ h}{R:(Addr->Prop)->Heap->β->α->Prop}{K:β->St->Prop}{y:α}{b:β}{ax aA}(r:Rel X L ae ax aA s1)(e:bg (λz=>z =L) st.σ κ h ax.σ aA s1.heap)(v:R (aj ax.σ aA) s1.heap b y)(k:K b ax):Post X L ae st.σ κ h R K y s1:=⟨b,ax,aA,r,e,v,k⟩
theorem SH{P:Const->ab->Prop}(a:P .none .none)(b:∀b,P (.bool b) (.bool b))(d:∀i,P (.int i) (.int i))(f:∀i,P (.bytes i) (.bytes i)){c:Const}(h:cC c=some v):P c v:=by
 cases c with
 | none=>exact ao (aN h) a
 | bool=>exact ao (aN h) (b _)
 | int=>exact ao (aN h) (d _)
 | bytes=>exact ao (aN h) (f _)
 | _=>exact nn h
theorem SI{c:Const}(hc:cC c=some v)(k:K v st):bO X n L ae (eval (.Constant c p pos) ac) K st:=λA κ s hr rel =>
 SH (P:=λc v=>K v st->ai X.M A (eval (.Constant c p pos) ac) (Post X L ae st.σ κ s.heap am K) (λJ J=>False) s) (λk=>Qk (.same rel rfl rfl rfl (.raw _) k)) (λJ k=>Qb (.same rel rfl rfl rfl (.raw _) k)) (λJ k=>Ql (.same rel rfl rfl rfl (.int _ _) k))
  (λb k=>show ai _ _ (mkTextBytes b.toArray) _ _ _ from aq (Pp (aM (.same rel rfl rfl rfl (.bytes _ _) k)))) hc k
theorem Cu{P:Value->Prop}{h:Heap}{K:Bool->St->Prop}(r:am U h v y)(k:jn v st K)(q:∀b,v= .bool b->K b st->P (.bool b)):P y :=
 jn.of (C:=λv=>am U h v y->(∀b,v= .bool b->K b st->P (.bool b))->P y) k (λb k r q=>r.bU▸q b rfl k) r q
variable(O:Ops X n)
include O
theorem SJ{l:Expr}{op:pg}
  (h:bO X n L ae (eval l ac) (λx ax=>bO X n L ae (eval r ac) (λy bc=>yC op x y bc K) ax) st):bO X n L ae (eval (.BinOp l op r pos) ac) K st:=λA κ s hr rel =>
 Py (chain h hr rel λx s1 a ax aA r1 e1 v1 k1=>chain k1 hr r1 λy s2 b bc bR r2 e2 v2 k2 =>
  weak (O.bin k2 r2 (v1.mono e2.bd) v2 A hr) λJ J p=>p.trans (e1.trans e2))
theorem SK{l:Expr}
  (h:bO X n L ae (eval l ac) (λx ax=>fU x λi=>K (.int (-i)) ax) st):bO X n L ae (eval (.UnaryOp .USub l pos) ac) K st:=λA κ s hr rel =>
 GQ (chain h hr rel λx s1 a ax aA r1 e1 v1 k1=>fU.of (C:=λa=>am (aj ax.σ aA) s1.heap a x->ai X.M A (unaryOp .USub x) _ _ s1) k1 (λJ k v=>weak (O.neg k r1 v A hr) λJ J p=>p.trans e1) v1)
omit O in
theorem SL{l:Expr}
  (h:bO X n L ae (eval l ac) (λx ax=>jn x ax λb st=>K (.bool (!b)) st) st):bO X n L ae (eval (.UnaryOp .Not l pos) ac) K st:=λA κ s hr rel =>
 GQ (chain h hr rel λx s1 a ax aA r1 e1 v1 k1=>Cu (P:=λx=>ai X.M A (unaryOp .Not x) (Post X L ae st.σ κ s.heap am K) (λJ J=>False) s1) v1 k1 λb J k =>
  show ai _ _ (truthy _>>=_) _ _ _ from aq (ti (aM (.to r1 e1 (.raw _) k))))
theorem yM{A κ s}{op:fq}{a b:ab}{x:Value}{K:Bool->St->Prop}(hr:cL n A)(k:eY op a b st K)(r:Rel X L ae st κ s)(v:am (aj st.σ κ) s.heap a x)(w:am (aj st.σ κ) s.heap b y)
  (q:∀b s3 dS fx,Rel X L ae dS fx s3->bg (λz=>z =L) st.σ κ s.heap dS.σ fx s3.heap->K b dS->Q (.bool b) s3):ai X.M A (compareOp op x y) Q (λJ J=>False) s :=
 weak (O.cmp k r v w A hr) λJ J p=>p.casesOn λb dS fx r3 e3 v3 k3=>v3▸q b _ dS fx r3 e3 k3
theorem SM{l:Expr}{op:fq}(hm:behindInMarks op r=false)
  (h:bO X n L ae (eval l ac) (λx ax=>bO X n L ae (eval r ac) (λy bc=>eY op x y bc λb st=>K (.bool b) st) ax) st):bO X n L ae (eval (.Compare l [op] [r] pos) ac) K st:=λA κ s hr rel =>
 GR (chain h hr rel λx s1 a ax aA r1 e1 v1 k1=>chain k1 hr r1 λy s2 b bc bR r2 e2 v2 k2=>yM O hr k2 r2 (v1.mono e2.bd) v2 λb s3 dS fx r3 e3 k3=> .to r3 ((e1.trans e2).trans e3) (.raw _) k3) hm
theorem SN{l:Expr}{op:fq}{K:Bool->St->Prop}{wh:Sem Value}(hm:behindInMarks op r=false)
  (h:bO X n L ae (eval l ac) (λx ax=>bO X n L ae (eval r ac) (λy bc=>eY op x y bc K) ax) st):jO X n L ae (iK (.Compare l [op] [r] pos) ac wh) K st:=λA κ s hr rel =>
 PA (chain h hr rel λx s1 a ax aA r1 e1 v1 k1=>chain k1 hr r1 λy s2 b bc bR r2 e2 v2 k2=>yM O hr k2 r2 (v1.mono e2.bd) v2 λb s3 dS fx r3 e3 k3=>ti (.to r3 ((e1.trans e2).trans e3) rfl k3)) hm
end
end
section
variable {fS eN:fq}{r1 r2:Expr}{wh:Sem Value}
section
variable{X:Cx}{n:Nat}{L:Addr}{ae:List Loc}
theorem H6(hm:behindInMarks eN r2=false):markedEach [fS,eN] [r1,r2] (evalEach [r1,r2] ac)= [eval r1 ac,eval r2 ac]:=by
 refine (?_: [eval r1 ac,markedBehindIn eN r2 (eval r2 ac)]=_);unfold markedBehindIn;exact aa hm rfl
theorem SO{t a b:Expr}
  (h:jO X n L ae (iK t ac (eval t ac)) (λc ax=>bj c (bO X n L ae (eval a ac) K ax) (bO X n L ae (eval b ac) K ax)) st):bO X n L ae (eval (.IfExp t a b pos) ac) K st:=λA κ s hr rel =>
 Px (chain h hr rel λc s1 a' ax aA r1 e1 v1 k1=>by
  cases v1;cases c<;>exact weak (k1 A aA s1 hr r1) λJ J p=>p.trans e1)
theorem SP{x:Expr}{K:Bool->St->Prop}
  (h:jO X n L ae (iK x ac (eval x ac)) (λb st=>K (!b) st) st):jO X n L ae (iK (.UnaryOp .Not x pos) ac wh) K st:=λA κ s hr rel =>
 PB (chain h hr rel λc s1 a' ax aA r1 e1 v1 k1=> .to r1 e1 rfl (v1▸k1))
theorem SQ{K:Bool->St->Prop}
  (he:iK e ac (eval e ac)=(eval e ac>>=λv=>standAt e.pos>>=λJ=>holding [v] (truthy v)))
  (h:bO X n L ae (eval e ac) (λv st=>jn v st K) st):jO X n L ae (iK e ac (eval e ac)) K st :=
 he▸λA κ s hr rel=>aq (chain h hr rel λc s1 a ax aA r1 e1 v1 k1=>aq (cy (bH
  (Cu (P:=λc=>ai X.M A (truthy c) _ _ s1) v1 k1 λb J k=>ti (.to r1 e1 rfl k)))))
def yN(X:Cx)(n:Nat)(L:Addr)(ae:List Loc)(ac:Env)(bW:Bool)(es:List Expr)(K:Bool->St->Prop):St->Prop :=
 es.rec (λst=>K bW st) λe J ih st=>jO X n L ae (iK e ac (eval e ac)) (λb st=>kg bW b (ih st) (K (!bW) st)) st
theorem SR{bW:Bool}{K:Bool->St->Prop}:∀{st:St},yN X n L ae ac bW es K st->jO X n L ae (allTrue (if bW then .And else .Or) es ac) K st:=by
 induction es with
 | nil=>exact λh A κ s hr rel=>by cases bW<;>exact aM (.same rel rfl rfl rfl rfl h)
 | cons e es ih =>
  intro st h A κ s hr rel;cases bW
  ·exact PE (chain h hr rel λc s1 a' ax aA r1 e1 v1 k1=>by
    cases v1;cases c
    ·exact weak (ih k1 A aA s1 hr r1) λJ J p=>p.trans e1
    ·exact .to r1 e1 rfl k1)
  ·exact PD (chain h hr rel λc s1 a' ax aA r1 e1 v1 k1=>by
    cases v1;cases c
    ·exact .to r1 e1 rfl k1
    ·exact weak (ih k1 A aA s1 hr r1) λJ J p=>p.trans e1)
theorem SS{op:BE}{K:Bool->St->Prop}(h:yN X n L ae ac (op== .And) es K st):jO X n L ae (iK (.BoolOp op es pos) ac wh) K st:=λA κ s hr rel =>
 PC (by have:=SR h A κ s hr rel;cases op<;>exact this)
def yO(X:Cx)(n:Nat)(L:Addr)(ae:List Loc)(ac:Env)(bW:Bool)(es:List Expr)(K:ab->St->Prop):St->Prop :=
 es.rec (λJ=>False) λe es ih st=>es.casesOn (bO X n L ae (eval e ac) K st) λJ J=>bO X n L ae (eval e ac) (λv st=>jn v st λb st=>kg bW b (ih st) (K v st)) st
theorem SU{op:BE}:∀{st:St},yO X n L ae ac (op== .And) es K st->bO X n L ae (eval (.BoolOp op es pos) ac) K st:=by
 refine (?_:∀{st:St},_->bO X n L ae (boolOp pos op (evalEach es ac)) K st)
 induction es with
 | nil=>exact λh=>h.elim
 | cons e es ih =>
  intro st h;cases es with
  | nil=>exact h
  | cons e' es =>
   exact λA κ s hr rel=>aq (chain h hr rel λc s1 a ax aA r1 e1 v1 k1=>aq (cy (aq (bH
    (Cu (P:=λc=>ai X.M A (truthy c) _ _ s1) v1 k1 λb e k=>ti (by
     subst e;cases op<;>cases b
     ·exact aM (.to r1 e1 (v1.bU▸ .raw _) k)
     ·exact weak (ih k A aA s1 hr r1) λJ J p=>p.trans e1
     ·exact weak (ih k A aA s1 hr r1) λJ J p=>p.trans e1
     ·exact aM (.to r1 e1 (v1.bU▸ .raw _) k)))))))
theorem yP{vs ks:List Value}{A s}{Q:Unit->al->Prop}(h:Q () s):ai X.M A (release vs ks) Q (λJ J=>False) s:=Qq h
variable(O:Ops X n)
include O
theorem two{l:Expr}{K:Bool->St->Prop}{A κ s}{no:Value->Sem α}{yes:Sem Value->Sem α}{Q:α->al->Prop}{G:Value->al->Prop}(hy:∀t s,ai X.M A t G (λJ J=>False) s->ai X.M A (yes t) Q (λJ J=>False) s)(hr:cL n A)(rel:Rel X L ae st κ s)
  (h:bO X n L ae (eval l ac) (λx ax=>bO X n L ae (eval r1 ac) (λy bc=>eY fS x y bc λb dS =>
   bj b (bO X n L ae (eval r2 ac) (λz re=>eY eN y z re K) dS) (K false dS)) ax) st)
  (q:∀b s3 dS fx,Rel X L ae dS fx s3->bg (λz=>z =L) st.σ κ s.heap dS.σ fx s3.heap->K b dS->G (.bool b) s3/\(b=false->ai X.M A (no (.bool false)) Q (λJ J=>False) s3)) :
  ai X.M A (eval l ac>>=λx=>holding [x] (eval r1 ac)>>=λrv=>standAt pos>>=λJ=>holding [x,rv] (compareOp fS x rv)>>=λc=>release [x,rv] [c]>>=λJ =>
   holding [c,rv] (truthy c)>>=λb=>if b then (holding [rv] (eval r2 ac)>>=λH7=>standAt pos>>=λJ=>yes (operate [rv,H7] (compareOp eN rv H7))) else no c) Q (λJ J=>False) s :=
 aq (chain h hr rel λx s1 a ax aA SV e1 v1 k1=>aq (bH (chain k1 hr SV λy s2 b bc bR SW e2 v2 k2=>aq (cy (aq (bH
  (yM O hr k2 SW (v1.mono e2.bd) v2 λb3 s3 dS fx H8 e3 k3=>aq (yP (aq (bH (ti (by
   cases b3
   ·exact (q false s3 dS fx H8 ((e1.trans e2).trans e3) k3).2 rfl
   ·exact aq (bH (chain k3 hr H8 λz s4 d re m1 SX e4 v4 k4=>aq (cy (hy _ _ (tc
     (yM O hr k4 SX ((v2.mono e3.bd).mono e4.bd) v4 λb5 s5 Cv tJ SY e5 k5=>(q b5 s5 Cv tJ SY ((((e1.trans e2).trans e3).trans e4).trans e5) k5).1))))))))))))))))))
theorem SZ{l:Expr}(hm:behindInMarks eN r2=false)
  (h:bO X n L ae (eval l ac) (λx ax=>bO X n L ae (eval r1 ac) (λy bc=>eY fS x y bc λb dS =>
   bj b (bO X n L ae (eval r2 ac) (λz re=>eY eN y z re λb st=>K (.bool b) st) dS) (K (.bool false) dS)) ax) st):bO X n L ae (eval (.Compare l [fS,eN] [r1,r2] pos) ac) K st:=λA κ s hr rel=>by
 refine (?_:ai _ _ (eval l ac>>=λv=>compareChain pos v [fS,eN] (markedEach [fS,eN] [r1,r2] (evalEach [r1,r2] ac))) _ _ _);exact aa (H6 hm) (two (K:=λb st=>K (.bool b) st) (yes:=id) (no:=pure) O (λJ J h=>h) hr rel h λb s3 dS fx r3 e3 k3=>⟨.to r3 e3 (.raw _) k3,λe=>aM (.to r3 e3 (.raw _) (ao e k3))⟩)
theorem S0{l:Expr}{K:Bool->St->Prop}(hm:behindInMarks eN r2=false)
  (h:bO X n L ae (eval l ac) (λx ax=>bO X n L ae (eval r1 ac) (λy bc=>eY fS x y bc λb dS =>
   bj b (bO X n L ae (eval r2 ac) (λz re=>eY eN y z re K) dS) (K false dS)) ax) st):jO X n L ae (iK (.Compare l [fS,eN] [r1,r2] pos) ac wh) K st:=λA κ s hr rel=>by
 refine (?_:ai _ _ (eval l ac>>=λv=>testChain pos v [fS,eN] (markedEach [fS,eN] [r1,r2] (evalEach [r1,r2] ac))) _ _ _);exact aa (H6 hm) (two (yes:=λt=>t>>=λc=>holding [c] (truthy c)) (no:=λJ=>pure false) O (λJ J h=>aq h) hr rel h λb s3 dS fx r3 e3 k3=>⟨bH (ti (.to r3 e3 rfl k3)),λe=>aM (.to r3 e3 rfl (ao e k3))⟩)
end
end
structure vH(K:eF)(C:Addr)(x:Str):Prop where
 get:plainGet K C x=true
 dict:hasDictIn K C=true
 find:∃attr,findIn K (.ref C) x=some attr/\noGet K attr=true
 set:findIn K (.ref C) "__setattr__" =some (some (.builtin "object.__setattr__"))
 over:plainOver K C=true
 S5:takerIn K C x=some none
structure fb(X:Cx):Prop where
 K:X.K.In X.h₀
 nolimit:X.h₀.NoLimit
 glob:∃mg mb,X.h₀.Ns mainGlobals mg/\X.h₀.Ns builtinsNs mb/\(∀x:Str,x≠ "__name__" ->mb x=bootBuiltins x)/\
  ∃bm ob,mg "__builtins__" =some (.ref bm)/\bm≠builtinsNs/\bm≠mainGlobals/\X.h₀.get? bm=some ob/\ob.cls= .type "module" /\ob.dict=some builtinsNs/\ob.data= .plain
 cls:∀C x,mW C x=true->vH X.K C x
 H9:∃o,X.h₀.get? sysModules=some o
 meths:∀C x f,py C x=some f->plainGet X.K C x=true/\findIn X.K (.ref C) x=some (some (.ref f))/\isFn X.K (.ref f)=true
 yQ:∀C f,B5.lookup C=some f->makesIn X.K C=true/\findIn X.K (.ref C) "__init__" =some (some (.ref f))/\typeIn X.K (.ref f)=some (.type "function")
 H':∀t∈X.tabs,∀t'∈X.tabs,t.2.1=t'.2.1->t=t'
noncomputable def vI(v:Value):ab:=xV (.raw v) (.raw v) (λJ=> .raw v) (λi=> .int i) (λJ=> .raw v) v
theorem Ia(v:Value)(U h):am U h (vI v) v:=by rcases v with ⟨⟩<;>first | exact .int _ _ | exact .raw _
def yR(X:Cx)(G:List (Str×ab)):Prop:=∀x v,G.lookup x=some v->∃y,v=vI y/\
 (nsIn X.K mainGlobals x=some (some y)∨(nsIn X.K mainGlobals x=some none/\bootBuiltins x=some y/\x≠ "__name__"))
structure dM(X:Cx)(ac:Env)(L:Addr)(ae:List Loc)(c:CT):Prop where
 kind:ac.scope.kind= .function
 locals:ac.locals=L
 globals:ac.globals=mainGlobals
 builtins:ac.builtins=builtinsNs
 n:c.n=ae.length
 G:yR X c.G
 glob:∀x,c.names.lookup x=some .globalImplicit->ac.kindOf x=some .globalImplicit
 tab:c.lam=true->(∀l∈ae,L≤l.addr)/\∃co P,ac.code= .ref co/\CodeHd X.h₀ co P/\(co,P,ac.qual++ "<lambda>")∈X.tabs
 kinds:∀x k,c.names.lookup x=some k->ac.kindOf x=some k∨(k= .free/\ac.kindOf x=some .cell)
 idx:∀x i,gQ x=false->isVar (c.names.lookup x)=true->c.idx.lookup x=some i->
  ∃l,ae[i]? =some l/\((ac.kindOf x=some .local/\l= .loc L x)∨((ac.kindOf x=some .cell∨ac.kindOf x=some .free)/\∃a,ac.cells.lookup x=some a/\l= .cell a))
section
variable{X:Cx}{n:Nat}{L:Addr}{ae:List Loc}{ac:Env}{c:CT}
theorem m3{b:Bool}{x:Option α}{r:α}(h:(if b=true then x else none)=some r):b=true/\x=some r:=by
 cases b with
 | true=>exact ⟨rfl,h⟩
 | false=>exact nn h
theorem tK(h:gQ x=false):(x==("__debug__" :Str))=false/\(x==("__classdict__" :Str))=false:=vJ.mp h
theorem S8{l:Loc}{A s}(hb:gQ x=false)(EO:dM X ac L ae c)
  (hl:(ac.kindOf x=some .local/\l= .loc L x)∨((ac.kindOf x=some .cell∨ac.kindOf x=some .free)/\∃a,ac.cells.lookup x=some a/\l= .cell a)) (hh:lT s.heap l y) (q:Q y s):ai X.M A (loadName ac x) Q (λJ J=>False) s:=by
 rcases hl with ⟨hk,rfl⟩ | ⟨hk | hk,a,ha,rfl⟩
 ·exact aD (hh) λm hn hm=>GX EO.kind hk (EO.locals▸hn) hm q
 ·exact Qo EO.kind hk ha hh q
 ·exact GZ EO.kind hk ha hh q (tK hb).2
theorem Ib{i:Nat}(h:jP c x=some i):gQ x=false/\isVar (c.names.lookup x)=true/\c.idx.lookup x=some i :=
 let ⟨a,b⟩:=m3 h
 ⟨(l8 _).mp (bP.mp a).1,(bP.mp a).2,b⟩
theorem eO{f:α->β}{P:β->Prop}{x:Option α}{r:β}(k:∀a,x=some a->P (f a))(h:x.map f=some r):P r:=by
 cases x with
 | none=>exact nn h
 | some a=>exact ao (aN h) (k a rfl)
theorem Ic{P:IE->Prop}{i:IE}(g:∀v,c.names.lookup x=some .globalImplicit->c.G.lookup x=some v->P (.ah v))(k:∀j,isVar (c.names.lookup x)=true->c.idx.lookup x=some j->P (.v j))(h:jk c x=some i):gQ x=false/\P i:=by
 unfold jk at h
 cases hb:gQ x with
 | true=>rw [hb] at h;exact nn h
 | false =>
  rw [hb] at h
  refine ⟨rfl, ?_⟩
  by_cases q:isVar (c.names.lookup x)=true
  ·exact eO (λz=>k z q) ((if_pos q).symm.trans h)
  ·obtain ⟨a,b⟩:=m3 ((if_neg q).symm.trans h);exact eO (λz=>g z (eq_of_beq a)) b
theorem Cw(ok:fb X)(EO:dM X ac L ae c){i:IE}(hc:jk c x=some i)(h:bF X n i K st):bO X n L ae (eval (.Name x pos) ac) K st:=λA κ s hr rel =>
 let hb:=(Ic (P:=λJ=>True) (λJ J J=>⟨⟩) (λJ J J=>⟨⟩) hc).1
 (Ic (P:=λi=>bF X n i K st->ai X.M A (eval (.Name x pos) ac) (Post X L ae st.σ κ s.heap am K) (λJ J=>False) s) (λv hk hg h=>Calls.Name_function_global EO.kind (EO.glob x hk) (by
   refine aD (EO.G x v hg) λy bb hy=> ?_;subst bb;refine eM (ok.glob) λmg mb m4 yS Ie J=> ?_;rcases hy with hy | ⟨hy,S9,bz⟩
   ·exact Calls.loadGlobal_global (EO.globals▸m4.keeps rel.g.keep) (mg_of ok.K m4 hy) (.same rel rfl rfl rfl (Ia y _ _) h)
   ·exact Calls.loadGlobal_builtin (EO.globals▸m4.keeps rel.g.keep) (mg_none_of ok.K m4 hy) (EO.builtins▸yS.keeps rel.g.keep) ((Ie x bz).trans S9) (.same rel rfl rfl rfl (Ia y _ _) h)) (tK hb).1)
  (λj hk hj h=>by
   refine aD (EO.idx x j hb hk hj) λl hl mQ=>tG.of (C:=λo=>st.m[j]? =o->ai X.M A (eval (.Name x pos) ac) (Post X L ae st.σ κ s.heap am K) (λJ J=>False) s) h (λv h hv=> ?_) rfl;refine eV (rel.f.vals j v hv) λl' y eG tL Cy=> ?_;cases aN (hl.symm.trans eG);exact yl (S8 hb EO mQ tL (.same rel rfl rfl rfl Cy h)) (tK hb).1) hc).2 h
theorem Ig{o:Expr}{f:Str}{tb:Sem Value}(h:baseOk o=true):attributeBase o f ac tb=tb:=by
 rcases o with ⟨⟩<;>first | rfl | exact ff h
theorem Ta{K:List ab->St->Prop}(h:K [] st):tt X n L ae (spliced (backTo pos (starEach [] ac))) K st:=λA κ s hr rel=>P' (.same rel rfl rfl rfl .nil h)
theorem Tb{K:List ab->St->Prop}(he:starEach (e::es) ac=(false,eval e ac)::starEach es ac)
  (h:bO X n L ae (eval e ac) (λv ax=>tt X n L ae (spliced (backTo pos (starEach es ac))) (λvs bc=>K (v::vs) bc) ax) st):tt X n L ae (spliced (backTo pos (starEach (e::es) ac))) K st:=λA κ s hr rel =>
 PF (chain h hr rel λy s1 a ax aA r1 e1 v1 k1=>chain k1 hr r1 λys s2 as bc bR r2 e2 v2 k2=> .to r2 (e1.trans e2) (.cons (v1.mono e2.bd) v2) k2) he
theorem eA(h:Heap)(o:Obj):∀b ob,h.get? b=some ob->(h.push o).get? b=some ob:=λJ J e=>fy o e
theorem iL{σ κ}(G:bq X σ κ s):aj σ κ s.heap.objs.size:=og λh=>iH (G.lt _ h) λJ e=>absurd (cR e) (iM _)
theorem Tc(h:tt X n L ae (spliced (backTo pos (starEach es ac))) (λvs st=>cX (short vs 100) (K (.tuple vs) st)) st) :
  bO X n L ae (eval (.Tuple es k pos) ac) K st:=λA κ s hr rel =>
 Ps (chain h hr rel λys s1 as ax aA r1 e1 v1 k1=>k1.of λhs k1=>⟨ao v1.length (ag (QN hs) (nb rfl)),by
  refine Post.trans e1 (Post.keep (b:= .tuple as) r1 (eA _ _) rfl rfl ?_ k1);exact .tuple (iL r1.g) ⟨_,cV _ rfl,rfl,0,rfl⟩ (v1.mono (gP (eA _ _)))⟩)
theorem m5{b:Addr}(h:b≠a):σ.set a o b=σ b:=if_neg h
theorem yT:σ.set a o a=some o:=if_pos rfl
theorem Cz{h':Heap}(k:∀b ob,s.heap.get? b=some ob->h'.get? b=some ob):c7 (aj σ κ) s.heap (aj (σ.set s.heap.objs.size o) κ) h':=λa ob u e=>⟨⟨(m5 (dB (cR e))).trans u.1,u.2⟩,k a ob e⟩
theorem bq.oh(G:bq X σ κ s)(k:∀b ob,s.heap.get? b=some ob->s'.heap.get? b=some ob)(bA:∃ob,s'.heap.get? s.heap.objs.size=some ob)(ho:s'.os=s.os)(hg:s'.gens=s.gens)
  (jp:pr (aj (σ.set s.heap.objs.size o) κ) κ s'.heap s.heap.objs.size o):bq X (σ.set s.heap.objs.size o) κ s' :=
 (G.vm (ex:=λJ=>False) (λJ=>Hi) (λa o J J e=>⟨m5 (dB (cR e)),rfl,k a o e⟩) (λS=>G.tabs.bd S λt J o e=>k _ o e) G.tab
  (λJ a o' e=>if q:a=s.heap.objs.size then .inr (by subst q;cases aN (yT.symm.trans e);exact ⟨(iL G).2,jp⟩) else .inl ⟨(m5 q).symm.trans e,id,λJ J=>id⟩) (λd a e=> .inl ⟨e,id⟩)
  (λa h=>if q:a=s.heap.objs.size then q▸bA else (G.lt a λu=>h ⟨(m5 q).trans u.1,u.2⟩).imp λJ=>k _ _) G.fr ho hg).2
theorem bg.oh(k:∀b ob,s.heap.get? b=some ob->s'.heap.get? b=some ob):bg (λJ=>False) σ κ s.heap (σ.set s.heap.objs.size o) κ s'.heap :=
 ⟨Cz k,λa o J e J g=>⟨e,k a o g⟩,λa o J e g=>⟨.inl e,o,k a o g⟩⟩
theorem Ih{κ s}(rel:Rel X L ae st κ s)(v:aO (aj st.σ κ) s.heap vs ys)(h:fW vs st K)
  (hh:s'.heap=s.heap.push {cls:= .type "list",data:= .seq ys.toArray}) (ho:s'.os=s.os) (hg:s'.gens=s.gens):Post X L ae st.σ κ s.heap am K (.ref s.heap.objs.size) s':=by
 have k:∀b ob,s.heap.get? b=some ob->s'.heap.get? b=some ob:=hh▸eA _ _
 have bA:∃ob,s'.heap.get? s.heap.objs.size=some ob:=hh▸⟨_,cV _ rfl⟩
 have jp:s'.heap.IsList s.heap.objs.size ys.toArray:=hh▸⟨_,cV _ rfl,rfl,0,rfl⟩
 rcases h with ⟨_,h⟩ | ⟨_,h⟩
 ·exact .keep rel k ho hg (.list (iL rel.g) jp (v.mono (gP k))) h
 ·exact Post.op rel (rel.g.oh (o:= .list vs) k bA ho hg ⟨ys,hh▸⟨_,cV _ rfl,rfl,rfl,0,rfl⟩,v.mono (Cz k)⟩) (.oh k) (.raw _) (h _ (iL rel.g).1)
end
theorem Td(o:Obj)(f):(yU f o).dict=o.dict:=by obtain ⟨c,d,dt,sl⟩:=o;cases dt<;>rfl
theorem CA{h:Heap}{S:Addr}{xs ys:Array Value}(hS:gO h S xs){f:Array Value->Array Value}(e:f xs=ys):gO (h.update S (yU f)) S ys:=by
 obtain ⟨o,ho,hc,Ii,n,hd⟩:=hS;obtain ⟨n',ft⟩:=Obj.data_mapSeq hd f;exact ⟨_,vK _ ho (Obj.isFreed_of_seq ft),(Obj.cls_mapSeq ..).trans hc,(Td ..).trans Ii,n',aa ft (aa e rfl)⟩
theorem Ij{w:cu}{l:Addr}{items:Array Value}{x:Value}(hl:gO s.heap l items)
  (hQ:∀h',gO h' l (items.push x)->jh l s.heap h'->Q .none {s with heap:=h'}) (bN:items.size≤sizeLine):wpAny (model prog w) A (call (.builtin "list.append") [.ref l,x]) Q E s:=by
 have hT:=hl.list.typeIs
 obtain ⟨o,ho,hc,Ii,n,hd⟩:=id hl;refine oj slot_list_append hT entry_list_append ?_ (args_list_append _ _);refine (?_:wpAny _ _ (updateSeq l (λz=>z.push x)>>=λJ=>ret .none) _ _ s);refine aw (Ik ho hd ?_ bN (by simp;exact bN));exact aV ⟨_,rfl,hQ _ (CA hl rfl) (m6 ..)⟩
section
variable{X:Cx}{n:Nat}{L:Addr}{ae:List Loc}{ac:Env}{c:CT}
theorem tM(h:dQ k):k≤sizeLine:=by unfold dQ at h;refine aa CB ?_;exact ag h (nb rfl)
theorem Te(h:tt X n L ae (spliced (backTo pos (starEach es ac))) (λvs st=>fW vs st K) st) :
  bO X n L ae (eval (.List es pos) ac) K st:=λA κ s hr rel =>
 Pu (chain h hr rel λys s1 as ax aA r1 e1 v1 k1=>⟨tM (ao v1.length k1.len),Post.trans e1 (Ih r1 v1 k1 rfl rfl rfl)⟩)
theorem rf{ex:Addr->Prop}{σ κ h σ' κ' h'}(e:bg (λJ=>False) σ κ h σ' κ' h'):bg ex σ κ h σ' κ' h':=e.weaken λJ x=>x.elim
def pK(X:Cx)(n:Nat)(L:Addr)(ae:List Loc)(ac:Env)(ks:List uZ):(List (Str×ab)->St->Prop)->St->Prop :=
 ks.rec (λK st=>K [] st) λk J ih K st=>match k.arg with
  | some x=>bO X n L ae (eval k.value ac) (λv ax=>ih (λvs bc=>K ((x,v)::vs) bc) ax) st
  | none=>False
theorem Il(h:ks.all (λz=>z.arg.isSome)=true):(backToKw pos (keywordEach ks ac)).all (λz=>z.1.isSome)=true:=by
 induction ks with
 | nil=>rfl
 | cons k ks ih =>
  obtain ⟨x,e,p⟩:=k
  have h:=bP.mp h
  cases x with
  | none=>exact ff h.1
  | some x=>exact ih h.2
theorem Tf(h:ks.all (λz=>z.arg.isSome)=true):(backToKw pos (keywordEach ks ac)).any (λz=>z.1.isNone)=false:=by
 induction ks with
 | nil=>rfl
 | cons k ks ih =>
  obtain ⟨x,e,p⟩:=k
  have h:=bP.mp h
  cases x with
  | none=>exact ff h.1
  | some x=>exact ih h.2
inductive Im(X:Cx)(L:Addr)(ae:List Loc)(σ:ar)(κ:bM)(h:Heap)(ns:List Str)(K:List (Str×ab)->St->Prop)(ys:List Value)(s':al):Prop
 | mk (vs:List (Str×ab)) (st':St) (κ':bM):Rel X L ae st' κ' s'->bg (λz=>z =L) σ κ h st'.σ κ' s'.heap->aO (aj st'.σ κ') s'.heap (vs.map (λz=>z.2)) ys->ns=vs.map (λz=>z.1)->K vs st'->Im X L ae σ κ h ns K ys s'
theorem Tg:∀{K:List (Str×ab)->St->Prop} {st:St},pK X n L ae ac ks K st->
  ∀A κ s,cL n A->Rel X L ae st κ s->ai X.M A (evalAll ((backToKw pos (keywordEach ks ac)).map (λz=>z.2))) (Im X L ae st.σ κ s.heap ((backToKw pos (keywordEach ks ac)).filterMap (λz=>z.1)) K) (λJ J=>False) s:=by
 induction ks with
 | nil=>exact λh A κ s hr rel=>Qp ⟨[],_,κ,rel, .refl, .nil,rfl,h⟩
 | cons k ks ih =>
  obtain ⟨x,e,p⟩:=k;cases x with
  | none=>exact λh=>h.elim
  | some x =>
   exact λh A κ s hr rel=>PG (aq (chain h hr rel λy s1 v ax aA r1 e1 v1 k1=>aq (cy (aM
    (weak (ih k1 A aA s1 hr r1) λys s2 p=>p.casesOn λvs bc bR r2 e2 v2 hn k2=>⟨(x,v)::vs,bc,bR,r2,e1.trans e2, .cons (v1.mono e2.bd) v2,congrArg (λz=>x:: z) hn,k2⟩)))))
theorem Io{M:Model}{A E s}{f:Value}{first:List Value}{args:List (Bool×Sem Value)}{dH:List (Option Str×Sem Value)}(Th:args.any (λz=>z.1)=false)(hk:dH.any (λz=>z.1.isNone)=false)
  (h:ai M A (evalArgs f true args dH) (λa s1=>(∃k,∀A' Q E,Q k s1->ai M A' (keeperOf f) Q E s1)/\ai M A (call f (first++a.pos) a.kw) Q E s1) E s):ai M A (callWith pos f first args dH) Q E s:=by
 refine aq (bH (aZ h (λa s1 h1=> ?_) λJ J x=>x));obtain ⟨⟨k,CC⟩,h1⟩:=h1;refine fH (λq=>cy q) (aa (show (args.any (λz=>z.1) || dH.any (λz=>z.1.isNone))=false by rw [Th,hk];rfl) ?_);refine fH (λq=>CC _ _ _ q) ?_
 have bf:∀{t:Sem Value},ai M A t Q E s1->ai M A (t>>=λr=>holding [r] PySem.point>>=λJ=>pure r) Q E s1:=λht =>
  aq (aZ ht (λr s2 q=>aq (bH (BC (aM q)))) λJ J x=>x)
 have sp:∀{p:Prop} [Decidable p] {a b:Sem Value},ai M A a Q E s1->ai M A b Q E s1->ai M A (if p then a else b) Q E s1:=λ{p} _ {a b} ha hb=>by
  by_cases q:p
  ·rwa [if_pos q]
  ·rwa [if_neg q]
 cases k with
 | frame | boundFrame=>exact sp (bf h1) (bf (Po h1))
 | _=>first | exact bf h1 | exact bf (tc h1)
noncomputable def CE(e:Expr):Bool:= !Nat.beq e.ctorIdx 22
noncomputable def m7(es:List Expr):Bool:=es.all CE
theorem yV(h:CE e=true):starEach (e::es) ac=(false,eval e ac)::starEach es ac:=by
 rcases e with ⟨⟩<;>first | rfl | exact ff h
theorem Ip(h:m7 es=true):(backTo pos (starEach es ac)).any (λz=>z.1)=false:=by
 induction es with
 | nil=>rfl
 | cons e es ih =>
  exact aa (yV (bP.mp h).1) (ih (bP.mp h).2)
theorem Ti(h:m7 es=true):(backTo pos (starEach es ac)).all (λz=>!z.1)=true:=by
 induction es with
 | nil=>rfl
 | cons e es ih =>
  exact aa (yV (bP.mp h).1) (ih (bP.mp h).2)
def l9(X:Cx)(n:Nat)(L:Addr)(ae:List Loc)(ac:Env)(es:List Expr):(List ab->St->Prop)->St->Prop :=
 es.rec (λK st=>K [] st) λe J ih K st=>bO X n L ae (eval e ac) (λv ax=>ih (λvs bc=>K (v::vs) bc) ax) st
theorem CF:∀{K:List ab->St->Prop} {st:St},m7 es=true->l9 X n L ae ac es K st->tt X n L ae (spliced (backTo pos (starEach es ac))) K st:=by
 induction es with
 | nil=>exact λJ=>Ta
 | cons e es ih=>exact λhp h=>Tb (yV (bP.mp hp).1) (h.mono λv st k=>ih (bP.mp hp).2 k)
theorem l9.mono:∀{K1 K2:List ab->St->Prop} {st:St},(∀vs st,K1 vs st->K2 vs st)->l9 X n L ae ac es K1 st->l9 X n L ae ac es K2 st:=by
 induction es with
 | nil=>exact λhK h=>hK _ _ h
 | cons e es ih=>exact λhK h=>mV.mono h λv st q=>ih (λvs st q=>hK _ _ q) q
inductive CG(X:Cx)(L:Addr)(ae:List Loc)(σ:ar)(κ:bM)(h:Heap)(K:List ab->List (Str×ab)->St->Prop)(a:Args)(s':al):Prop
 | mk (vs:List ab) (kvs:List (Str×ab)) (st':St) (κ':bM) (dI:List Value):Rel X L ae st' κ' s'->bg (λz=>z =L) σ κ h st'.σ κ' s'.heap->
   aO (aj st'.σ κ') s'.heap vs a.pos->aO (aj st'.σ κ') s'.heap (kvs.map (λz=>z.2)) dI->a.kw=(kvs.map (λz=>z.1)).zip dI->K vs kvs st'->CG X L ae σ κ h K a s'
theorem Iq{f:Value}{K:List ab->List (Str×ab)->St->Prop}(hp:m7 es=true)(hk:ks.all (λz=>z.arg.isSome)=true)
  (h:l9 X n L ae ac es (λvs ax=>pK X n L ae ac ks (λkvs bc=>K vs kvs bc) ax) st) {A κ s} (hr:cL n A) (rel:Rel X L ae st κ s) :
  ai X.M A (evalArgs f true (backTo pos (starEach es ac)) (backToKw pos (keywordEach ks ac))) (CG X L ae st.σ κ s.heap K) (λJ J=>False) s:=by
 have h':=CF (pos:=pos) hp h
 have bf:∀ys s1 vs ax aA,Rel X L ae ax aA s1->bg (λz=>z =L) st.σ κ s.heap ax.σ aA s1.heap->aO (aj ax.σ aA) s1.heap vs ys->pK X n L ae ac ks (λkvs bc=>K vs kvs bc) ax->
   ai X.M A (evalAll ((backToKw pos (keywordEach ks ac)).map (λz=>z.2))) (λdI s2=>CG X L ae st.σ κ s.heap K ⟨ys,((backToKw pos (keywordEach ks ac)).filterMap (λz=>z.1)).zip dI⟩ s2) (λJ J=>False) s1:=λys s1 vs ax aA r1 e1 v1 k1 =>
  weak (Tg k1 A aA s1 hr r1) λdI s2 p=>p.casesOn λkvs bc bR r2 e2 v2 hn k2=>⟨vs,kvs,bc,bR,dI,r2,e1.trans e2,v1.mono e2.bd,v2,congrArg (λz=>aC z dI) hn,k2⟩
 cases es with
 | nil=>exact evalArgs_kw_nil (Il hk) (bf [] s [] st κ rel .refl .nil h)
 | cons e es =>
  rw [yV (bP.mp hp).1] at h' ⊢
  exact evalArgs_kw (Il hk) (chain h' hr rel λys s1 vs ax aA r1 e1 v1 k1=>bf ys s1 vs ax aA r1 e1 v1 k1)
theorem Tj{κ s}{f:ab}{kvs:List (Str×ab)}{dI:List Value}{A}(hr:cL n A)(rel:Rel X L ae st κ s)
  (hf:am (aj st.σ κ) s.heap f y) (hv:aO (aj st.σ κ) s.heap vs ys) (hk:aO (aj st.σ κ) s.heap (kvs.map (λz=>z.2)) dI)
  (h:aB X n f vs kvs (λv σ=>K v (st.put σ)) st.σ) :
  (∃k,∀A' Q E,Q k s->ai X.M A' (keeperOf y) Q E s)/\ai X.M A (call y ys ((kvs.map (λz=>z.1)).zip dI)) (Post X L ae st.σ κ s.heap am K) (λJ J=>False) s:=by
 exact ⟨(h.run A κ s y ys dI hr rel.g hf hv hk).1,weak (h.run A κ s y ys dI hr rel.g hf hv hk).2 λz s' hq=>hq.casesOn λv σ' κ' G e vr k=> .op rel G e vr k⟩
theorem Ir{cG ax:St}{κ0 aA}{h0:Heap}{f:ab}{first:List ab}{It:List Value}{A}(hr:cL n A)(r1:Rel X L ae ax aA s1)(e1:bg (λz=>z =L) cG.σ κ0 h0 ax.σ aA s1.heap)
  (hp:m7 es=true) (hk:ks.all (λz=>z.arg.isSome)=true) (v1:am (aj ax.σ aA) s1.heap f y) (w1:aO (aj ax.σ aA) s1.heap first It)
  (h:l9 X n L ae ac es (λvs ax=>pK X n L ae ac ks (λkvs bc=>aB X n f (first++vs) kvs (λv σ=>K v (bc.put σ)) bc.σ) ax) ax) :
  ai X.M A (callWith pos y It (backTo pos (starEach es ac)) (backToKw pos (keywordEach ks ac))) (Post X L ae cG.σ κ0 h0 am K) (λJ J=>False) s1 :=
 Io (Ip hp) (Tf hk) (weak (Iq (K:=λvs kvs bc=>aB X n f (first++vs) kvs (λv σ=>K v (bc.put σ)) bc.σ) hp hk h hr r1) λa s2 p=>p.casesOn λvs kvs bc bR dI r2 e2 v2 w2 ha k2 =>
  let p:=Tj (K:=K) hr r2 (v1.mono e2.bd) ((w1.mono e2.bd).append v2) w2 k2
  ⟨p.1,ha▸weak p.2 λJ J p=>p.trans (e1.trans e2)⟩)
theorem Tk{func:Expr}(yW:eh func.ctorIdx 20=false)(hp:m7 es=true)(hk:ks.all (λz=>z.arg.isSome)=true)
  (h:bO X n L ae (eval func ac) (λf cG=>l9 X n L ae ac es (λvs ax=>pK X n L ae ac ks (λkvs bc=>aB X n f vs kvs (λv σ=>K v (bc.put σ)) bc.σ) ax) cG) st) :
  bO X n L ae (eval (.Call func es ks pos) ac) K st:=λA κ s hr rel=>by
 have e:eval (.Call func es ks pos) ac=(eval func ac>>=λf=>callWith pos f [] (backTo pos (starEach es ac)) (backToKw pos (keywordEach ks ac))):=by
  rcases func with ⟨⟩<;>first | rfl | exact ff yW.symm
 exact aa e (aq (chain h hr rel λf s1 fv ax aA r1 e1 v1 k1=>Ir (first:= []) hr r1 e1 hp hk v1 .nil k1))
theorem Tl{o:Expr}{q0:Pos}(hl:(q0.endLine==pos.line)=true)(hn:decide (es.length≤20)=true)(hb:baseOk o=true)(hp:m7 es=true)
  (h:bO X n L ae (eval o ac) (λov cG=>MethP X cG.σ ov x λf=>l9 X n L ae ac es (λvs ax=>aB X n (.raw f) (ov::vs) [] (λv σ=>K v (ax.put σ)) ax.σ) cG) st) :
  bO X n L ae (eval (.Call (.Attribute o x q0) es [] pos) ac) K st:=λA κ s hr rel=>by
 refine (?_:ai _ _ (attributeBase o x ac (eval o ac)>>=λov=>standAt q0.atName>>=λJ=>methodCall o x q0 pos ac ov (es.length+0) (backTo pos (starEach es ac)) (backToKw pos (keywordEach [] ac))) _ _ _);refine aa (Ig hb) (aq (chain h hr rel λy s1 ov ax aA r1 e1 v1 k1=>aq (cy ?_)));obtain ⟨f,Tm,k1⟩:=k1
 have Tn:methodCallForm (es.length+0) (backTo pos (starEach es ac)) (backToKw pos (keywordEach [] ac))=true:=by
  unfold methodCallForm;exact aa (Ti hp) (decide_eq_true (eD (m:=20) (of_decide_eq_true hn:es.length≤20) (nb rfl)))
 unfold methodCall;refine aa Tn (aq (bH (Tm aA s1 y r1.g v1 _ _ _ _ λahM hh ho hg=> ?_)));exact aa (show methodCallPos true o ac q0 pos=pure pos by unfold methodCallPos;rw [hl];rfl) (aq (aM (Ir (first:= [ov]) (ks:= []) hr (r1.toks hh ho hg) (hh▸e1) hp rfl (.raw f) (.one (hh▸v1)) k1)))
end
section
variable{X:Cx}{n:Nat}{L:Addr}{ae:List Loc}{ac:Env}{c:CT}
def ma(X:Cx)(n:Nat)(L:Addr)(ae:List Loc)(ac:Env):Option Expr->(Option ab->St->Prop)->St->Prop
 | none,K,st=>K none st
 | some e,K,st=>bO X n L ae (eval e ac) (λv st=>K (some v) st) st
theorem Iu{e:Option Expr}{K:Option ab->St->Prop}(h:ma X n L ae ac e K st){A κ s}(hr:cL n A)(rel:Rel X L ae st κ s)
  (hq:∀y s1 v ax aA,Rel X L ae ax aA s1->bg (λz=>z =L) st.σ κ s.heap ax.σ aA s1.heap->fJ (aj ax.σ aA) s1.heap v y->K v ax->Q y s1):ai X.M A (evalPart e ac) Q (λJ J=>False) s:=by
 cases e with
 | none=>exact aM (hq _ _ none _ _ rel .refl rfl h)
 | some e=>exact chain h hr rel λy s1 v ax aA r1 e1 v1 k1=>hq y s1 (some v) ax aA r1 e1 v1 k1
variable(O:Ops X n)
include O
theorem To{o:Expr}{f:Str}(hb:baseOk o=true)
  (h:bO X n L ae (eval o ac) (λov st=>Hx ov f st K) st):bO X n L ae (eval (.Attribute o f pos) ac) K st:=λA κ s hr rel=>by
 refine (?_:ai _ _ (attributeBase o f ac (eval o ac)>>=λov=>standAt pos.atName>>=λJ=>holding [ov] (getAttr ov f true)>>=λr=>letTemporaryGo o ov r>>=λJ=>pure r) _ _ _);refine aa (Ig hb) (aq (chain h hr rel λy s1 ov ax aA r1 e1 v1 k1=>aq (cy (aq (bH ?_)))));obtain ⟨v,e,k2⟩:=bE.ex k1;obtain ⟨hv,k1⟩:=QS e;exact weak (O.attr hv k1 k2 r1 v1 A hr) λz s2 p=>aq (Qe (aM (Post.trans e1 p)))
theorem Tp{o i:Expr}(hi:∀a b c d,i≠ .Slice a b c d)
  (h:bO X n L ae (eval o ac) (λov ax=>bO X n L ae (eval i ac) (λiv bc=>q7 ov iv bc K) ax) st):bO X n L ae (eval (.Subscript o i pos) ac) K st:=λA κ s hr rel =>
 Subscript_ (chain h hr rel λx s1 a ax aA r1 e1 v1 k1=>chain k1 hr r1 λy s2 b bc bR r2 e2 v2 k2 =>
  weak (O.sub k2 r2 (v1.mono e2.bd) v2 hi A hr) λJ J p=>p.trans (e1.trans e2))
omit O in
theorem Iv{lo hi:Option Expr}{p:Pos}{K:Option ab->Option ab->St->Prop}
  (h:ma X n L ae ac lo (λl ax=>ma X n L ae ac hi (λu bc=>K l u bc) ax) st) {A κ s} (hr:cL n A) (rel:Rel X L ae st κ s) 
  (hq:∀s1 l u ax aA lv uv d,Rel X L ae ax aA s1->bg (λz=>z =L) st.σ κ s.heap ax.σ aA s1.heap->fJ (aj ax.σ aA) s1.heap l lv->fJ (aj ax.σ aA) s1.heap u uv->
   s1.heap.get? d=some {cls:= .type "slice",data:= .fields #[lv,uv, .none]}->aj ax.σ aA d->K l u ax->Q (.ref d) s1):ai X.M A (eval (.Slice lo hi none p) ac) Q (λJ J=>False) s:=by
 refine Pv (Iu h hr rel λlv s1 l ax aA r1 e1 v1 k1=>Iu k1 hr r1 λuv s2 u bc bR r2 e2 v2 k2=>aM ?_);refine hq _ l u bc bR lv uv s2.heap.objs.size (r2.ext (eA _ _) rfl rfl) ((e1.trans e2).trans (.ext (eA _ _))) ((v1.mono e2.bd).mono (gP (eA _ _))) (v2.mono (gP (eA _ _))) (cV _ rfl) (iL r2.g) k2
theorem Tq{o:Expr}{lo hi:Option Expr}{p:Pos}
  (h:bO X n L ae (eval o ac) (λov cG=>ma X n L ae ac lo (λl ax=>ma X n L ae ac hi (λu bc=>km ov l u bc K) ax) cG) st):bO X n L ae (eval (.Subscript o (.Slice lo hi none p) pos) ac) K st:=λA κ s hr rel =>
 Subscript_ (chain h hr rel λx s1 a ax aA r1 e1 v1 k1=>Iv k1 hr r1 λs2 l u bc bR lv uv d r2 e2 vl vu hd hi k2 =>
  weak (O.slice (e3:= .Constant .none 0 p) (e4:= .Constant .none 0 p) k2 r2 (v1.mono e2.bd) vl vu hd hi A hr) λJ J p=>p.trans (e1.trans e2))
end
section
open scoped Classical
noncomputable abbrev owners:List String:= ["enumerate","zip","dict_itemiterator","dict_reverseitemiterator","odict_iterator","itertools.zip_longest","itertools.pairwise"]
inductive eH(X:Cx)(U:Addr->Prop)(κ:bM)(h:Heap)(I:Addr):Bool->List (Addr×List ab)->List ab->Prop
 | one {fp wr:List Addr} {n:Nat} {P:Nat->Value->Prop} {St:Nat->Heap->Prop} {i:Nat} {items:List ab} {T:String}:(∀A,A.handled=none->CH X.prog X.w A I fp wr n P St)->(∀j h,St j h->(∀b∈fp,∃o,h.get? b=some o)/\∃o,h.get? I=some o/\o.cls= .type T)->
   owners.contains T=false->St i h->items.length=n->i≤n->(∀b∈wr,κ b= .frame I)->(∀b∈fp,b∈wr∨U b)->
   (∀(j:Nat) x v,items[j]? =some x->P j v->am U h x v)->eH X U κ h I false [] (items.drop i)
 | pair {fp wr:List Addr} {n:Nat} {Pt:Nat->Array Value->Prop} {St:Nat->Heap->Prop} {Mid:Nat->Addr->Heap->Prop} {i:Nat} {items:List ab}:(∀A,A.handled=none->Iw X.prog X.w A I fp wr n Pt St Mid)->(∀j h,St j h->∀b∈fp,∃o,h.get? b=some o)->(∀j T h,Mid j T h->∀b∈fp,∃o,h.get? b=some o)->
   St i h->items.length=n->i≤n->(∀b∈wr,κ b= .frame I)->(∀b∈fp,b∈wr∨U b)->
   (∀(j:Nat) x vals,items[j]? =some x->Pt j vals->∃vs,x= .tuple vs/\aO U h vs vals.toList)->eH X U κ h I true [] (items.drop i)
 | own {l:Addr} {i:Nat} {vs:List ab}:h.IsListIter I l i->l≠I->κ I= .frame I->eH X U κ h I false [(l,vs)] (vs.drop i)
 | tN {l I2:Addr} {i:Nat} {vs:List ab}:(∃old,IsEnum h I I2 (i:Nat) old)->h.IsListIter I2 l i->l≠I->l≠I2->I≠I2->κ I= .frame I->κ I2= .frame I->i≤vs.length->eH X U κ h I true [(l,vs)] ((l5 0 vs).drop i)
theorem Ix(vs:List ab):∀i:Nat,(l5 i vs).length=vs.length:=vs.rec (λJ=>rfl) λJ J ih i=>congrArg (λz=>z +1) (ih (i+1))
theorem Iy(vs:List ab):∀(i j:Nat) x,(l5 i vs)[j]? =some x->∃v,vs[j]? =some v/\x= .tuple [.int (i+j:Nat),v] :=
 vs.rec (λJ J J=>nn) λv J ih i j x=>j.casesOn (λh=>⟨v,rfl,(aN h).symm⟩) λj h=>(ih (i+1) j x h).imp λw h=>⟨h.1,h.2.trans (aa (sY ..) rfl)⟩
section
variable{X:Cx}{n:Nat}{L:Addr}{ae:List Loc}
structure jq(σ:ar)(κ:bM)(I:Addr)(s s':al):Prop where
 keep:∀b o,κ b≠ .frame I->s.heap.get? b=some o->s'.heap.get? b=some o
 Iz:∀b o,κ b= .frame I->s.heap.get? b=some o->∃o',s'.heap.get? b=some o'
 os:s'.os=s.os
 gens:s'.gens=s.gens
theorem jq.bd{σ κ I s s'}(t:jq σ κ I s s'):c7 (aj σ κ) s.heap (aj σ κ) s'.heap:=λa o u e=>⟨u,t.keep a o (aa u.2 bZ) e⟩
theorem jq.dq{L σ κ I s s'}(t:jq σ κ I s s'):bg (λa=>a=L∨a=I) σ κ s.heap σ κ s'.heap :=
 ⟨t.bd,λa o L' e ne g=>⟨e,t.keep a o (λq=>ne (.inr (Tag.frame.inj (e.symm.trans q)))) g⟩,λa o L' e g=>⟨.inl e,if q:κ a= .frame I then t.Iz a o q g else ⟨o,t.keep a o q g⟩⟩⟩
theorem jq.rel{κ I}(R:Rel X L ae st κ s)(t:jq st.σ κ I s s')(hI:I≠L)(vL:∀(i:Nat) l,ae[i]? =some l->κ l.addr≠ .frame I):Rel X L ae st κ s' :=
 ⟨(R.g.step (λa o h e=>⟨rfl,t.keep a o (h I) e⟩) (λJ J e=>e) (λa h=>(R.g.lt a h).elim λo e=>if q:κ a= .frame I then t.Iz a o q e else ⟨o,t.keep a o q e⟩) R.g.fr t.os t.gens).2,
  R.f.BZ (t.dq (L:=I)) (λq=>q.elim (iO hI) (iO hI)) λi l L' hi z q=>vL i l hi (z.trans (congrArg _ (q.elim id id)))⟩
theorem getElem_drop{i:Nat}(h:i<l.length):l.drop i=l[i]::l.drop (i+1):=vM h
theorem Tr{I:Addr}{o:Obj}{T:String}{v:Value}{A s}{Q:Unit->al->Prop}(e:s.heap.get? I=some o)(hc:o.cls= .type T)(hT:owners.contains T=false)(q:Q () s) :
  ai X.M A (letOwnedTupleGo target (.ref I) v) Q (λJ J=>False) s:=by
 have pL:ai X.M A (match (m8 I,v) with
  | (.ref r, .ref a)=>do
   let o<-load r
   match o.cls,o.data with
   | .type n, .fields vs =>
    if owners.contains n&&vs[0]? ==some (rawInt a) then
     rule "for.unpacks-the-owned-tuple"
     updateField r 0 .none
    else pure ()
   | _,_=>pure ()
  | _=>pure ()) Q (λJ J=>False) s:=by
  cases v<;>first | exact aM q | skip
  refine aq (vc e ?_);refine aa hc ?_;cases o.data<;>first | exact aM q | skip
  dsimp only;refine aa hT (aa (IA ..) ?_);exact aM q
 cases target<;>first | exact aM q | exact pL
structure TurnOk(X:Cx)(σ:ar)(κ:bM)(I:Addr)(aP:Bool)(own:List (Addr×List ab))(s:al)(x:ab)(y:Value)(d4:List ab)(s2:al):Prop where
 t:jq σ κ I s s2
 v:am (aj σ κ) s2.heap x y
 it:eH X (aj σ κ) κ s2.heap I aP own d4
def TurnPost(X:Cx)(A:cJ)(σ:ar)(κ:bM)(I:Addr)(target:Expr)(aP:Bool)(own:List (Addr×List ab))(s:al)(ce:List ab)(r:Option Value)(s1:al):Prop:=match r with
 | none=>ce= []/\(∀b o,κ b≠ .frame I->s.heap.get? b=some o->s1.heap.get? b=some o)/\s1.os=s.os/\s1.gens=s.gens
 | some y=>∃x d4,ce=x::d4/\ai X.M A (letOwnedTupleGo target (.ref I) y) (λJ s2=>TurnOk X σ κ I aP own s x y d4 s2) (λJ J=>False) s1
section
variable{σ:ar}{κ:bM}{s s':al}{I:Addr}{A:cJ}
theorem jq.of{wr:List Addr}(eI:∀b∈wr,κ b= .frame I)(fA:∀b∈wr,∃o,s'.heap.get? b=some o)(hk:∀b o,b∉wr->s.heap.get? b=some o->s'.heap.get? b=some o)(ho:s'.os=s.os)(hg:s'.gens=s.gens):jq σ κ I s s' :=
 ⟨λb o q e=>hk b o (λm=>q (eI b m)) e,λb o J e=>if q:b∈wr then fA b q else ⟨o,hk b o q e⟩,ho,hg⟩
theorem IC(G:bq X σ κ s){fp wr n Pt}{St:Nat->Heap->Prop}{Mid:Nat->Addr->Heap->Prop}{i:Nat}(W:Iw X.prog X.w A I fp wr n Pt St Mid)(b7:St i s.heap)(fA:∀j h,St j h->∀b∈wr,∃o,h.get? b=some o)(eI:∀b∈wr,κ b= .frame I)
    {p:Pos} {own:List (Addr×List ab)}  (hn:items.length=n) (hi:i≤n)
  (q:∀T vals s2 x,items[i]? =some x->Pt i vals->aj σ κ T->jq σ κ I s s2->s2.heap.IsTuple T vals->St (i+1) s2.heap->i<n->am (aj σ κ) s2.heap x (.ref T)/\eH X (aj σ κ) κ s2.heap I true own (items.drop (i+1))) :
  ai X.M A (pyNext (.ref I)) (TurnPost X A σ κ I (.Tuple es k p) true own s (items.drop i)) (λJ J=>False) s :=
 if bA:i<n then
  ba (W.item i s _ _ bA b7 λT vals h' tk rh bN hT hm hk=>⟨items[i]'(hn▸bA),items.drop (i+1),vM (hn▸bA),ba (W.go es k p i T _ _ _ hm λiI IG m9 =>
   have t:jq σ κ I s {heap:=iI,gens:=s.gens,drawn:=s.drawn,toks:=tk,os:=s.os}:= .of eI (fA _ _ IG) (λb o q e=>m9 b o q (hk b o q e)) rfl rfl
   have vN:aj σ κ T:=og λhn=>(G.lt T hn).elim λJ e=>dC.mpr bN (cR e)
   have r:=q T vals {heap:=iI,gens:=s.gens,drawn:=s.drawn,toks:=tk,os:=s.os} _ (bI (hn▸bA)) rh vN t (aD hT λoT r1 r2=>⟨oT,m9 T oT (W.apart i T h' hm) r1,r2⟩) IG bA
   ⟨t,r.1,r.2⟩)⟩)
 else by
  obtain rfl:i=n:=yX hi (dC.mp bA);exact ba (W.done s _ _ b7 λh' tk hk=>⟨tO (b6 hn),λb o q e=>hk b o (λm=>q (eI b m)) e,rfl,rfl⟩)
theorem IH{wr:List Addr}{h':Heap}{tk:Tok}{own:List (Addr×List ab)}{i:Nat}{T:String}(hi:i<items.length)(eI:∀b∈wr,κ b= .frame I)(fA:∀b∈wr,∃o,h'.get? b=some o)(hk:∀b o,b∉wr->s.heap.get? b=some o->h'.get? b=some o)
  (hc:∃o,h'.get? I=some o/\o.cls= .type T) (hT:owners.contains T=false) (q:c7 (aj σ κ) s.heap (aj σ κ) h'->am (aj σ κ) s.heap items[i] y/\eH X (aj σ κ) κ h' I false own (items.drop (i+1))) :
  TurnPost X A σ κ I target false own s (items.drop i) (some y) {s with heap:=h',toks:=tk} :=
 have t:jq σ κ I s {s with heap:=h',toks:=tk}:= .of eI fA hk rfl rfl
 hc.elim λJ c=>⟨_,_,vM hi,Tr c.1 c.2 hT ⟨t,(q t.bd).1.mono t.bd,(q t.bd).2⟩⟩
end
theorem IJ{aP:Bool}{own:List (Addr×List ab)}{ce:List ab}{κ s I}{A}(hh:A.handled=none)(rel:Rel X L ae st κ s)(hg:Guard own st)(it:eH X (aj st.σ κ) κ s.heap I aP own ce)
  (ht:aP=true->∃es k p,target= .Tuple es k p) :
  ai X.M A (pyNext (.ref I)) (TurnPost X A st.σ κ I target aP own s ce) (λJ J=>False) s:=by
 cases it with
 | @one fp wr n P St i items T W iP hT b7 hn hi eI hU hP =>
  by_cases bA:i<n
  ·exact ba ((W A hh).item i s _ _ bA b7 λv h' tk rh iQ hk=>IH (hn▸bA) eI (λb hb=>(iP _ _ iQ).1 b ((W A hh).sub b hb)) hk (iP _ _ iQ).2 hT λS=>⟨hP i _ v (bI (hn▸bA)) rh, .one W iP hT iQ hn bA eI hU λj x v e p=>(hP j x v e p).mono S⟩)
  ·obtain rfl:i=n:=yX hi (dC.mp bA);exact ba ((W A hh).done s _ _ b7 λh' tk hk=>⟨tO (b6 hn),λb o q e=>hk b o (λm=>q (eI b m)) e,rfl,rfl⟩)
 | @pair fp wr n Pt St Mid i items W iP hfm b7 hn hi eI hU hP =>
  refine Gv (ht rfl) λes k p om=> ?_;subst om;exact IC rel.g (W A hh) b7 (λj h e b m=>iP j h e b ((W A hh).sub b m)) eI hn hi λT vals s2 x hx rh vN t hT iQ bA =>
   let ⟨vs,hx,aL⟩:=hP i x vals hx rh
   ⟨hx▸ .tuple vN (hT) (aL.mono t.bd), .pair W iP hfm iQ hn bA eI hU λj x v e p=>aD (hP j x v e p) λvs q r=>⟨vs,q,r.mono t.bd⟩⟩
 | @own l i vs fc bz eI =>
  refine aD (rel.g.own l _ (hg (l,vs) (.head _))) λcs hl aL=> ?_
  have aU:=aL.length
  by_cases bA:i<vs.length
  ·refine aD (aL.get (bI bA)) λy hy Ts=> ?_;exact ba (Tt fc hl.list (x:=y) (by simpa using hy) λh' vO hs=>IH (wr:= [I]) (tk:=s.toks) (T:= "list_iterator") bA (λb m=>dT.mp m▸eI) (λb m=>dT.mp m▸aD vO λo e J=>⟨o,e⟩)
    (λb o q e=>hs.extBut b o (λz=>q (z▸ .head _)) e) (j' vO λo e c J=>⟨o,e,c⟩) (by decide) λS=>⟨Ts, .own vO bz eI⟩)
  ·exact ba (Qn hh fc hl.list (by simpa [<-aU] using bA) λh' he=>⟨tO (dC.mp bA),λb o q e=>he b o (λm=>q (m▸eI)) e,rfl,rfl⟩)
 | @tN l I2 i vs vP fc h1 h2 h3 ht1 ht2 hile =>
  refine Gv (ht rfl) λes k p om=> ?_;subst om;refine aD (rel.g.own l _ (hg (l,vs) (.head _))) λcs hl aL=>IC (wr:= [I,I2]) rel.g (Tu (prog:=X.prog) (w:=X.w) hh I I2 l h3 h1 h2 cs.toArray) ⟨vP,fc,hl.list⟩ (λj h e b m=> ?_) (λb m=> ?_) ((Ix vs 0).trans (aL.length)) (by refine aa fI (ao aL.length ?_);exact hile) λT vals s2 x hx rh vN t hT iQ bA=> ?_
  ·obtain ⟨⟨_,e1⟩,⟨_,e2,_⟩,_⟩:=e;exact (br.mp m).elim (λz=>z▸⟨_,e1⟩) λm=>dT.mp m▸⟨_,e2⟩
  ·exact (br.mp m).elim (λz=>z▸ht1) λm=>dT.mp m▸ht2
  ·refine jg (rh) λtk x' e1 om=> ?_;subst om;refine aD (Iy vs 0 i _ hx) λv e2 bQ=> ?_;subst bQ;refine aD (aL.get e2) λx2 e4 r4=> ?_;simp only [pM] at e1
   cases aN (e1.symm.trans e4);exact ⟨.tuple vN (by simpa using hT) (.cons (aa (nc ..) (.int _ _)) (.one (r4.mono t.bd))), .tN iQ.1 iQ.2.1 h1 h2 h3 ht1 ht2 (by rw [fI,<-aL.length] at bA;exact bA)⟩
theorem eH.dq{aP own ce I}{st':St}{κ κ'}(it:eH X (aj st.σ κ) κ s.heap I aP own ce)(hI:I≠L)(e:bg (λz=>z =L) st.σ κ s.heap st'.σ κ' s'.heap)(hA:∃A:cJ,A.handled=none):eH X (aj st'.σ κ') κ' s'.heap I aP own ce:=by
 obtain ⟨A,hA⟩:=hA;cases it with
 | @one fp wr n P St i items T W iP hT b7 hn hi eI hU hP =>
  obtain ⟨fA,_⟩:=iP _ _ b7
  have kp:∀b∈fp,∀o,s.heap.get? b=some o->s'.heap.get? b=some o:=λb hb o g=>by
   rcases hU b hb with q | u
   ·exact (e.frames b o I (eI b q) hI g).2
   ·exact (e.bd b o u g).2
  exact .one W iP hT ((W A hA).frame _ _ _ b7 kp) hn hi (λb hb=>let ⟨o,g⟩:=fA b ((W A hA).sub b hb);(e.frames b o I (eI b hb) hI g).1)
   (λb hb=>(hU b hb).imp_right λu=>let ⟨o,g⟩:=fA b hb;(e.bd b o u g).1) λj x v q p=>(hP j x v q p).mono e.bd
 | @pair fp wr n Pt St Mid i items W iP hfm b7 hn hi eI hU hP =>
  have fA:=iP _ _ b7
  have kp:∀b∈fp,∀o,s.heap.get? b=some o->s'.heap.get? b=some o:=λb hb o g=>by
   rcases hU b hb with q | u
   ·exact (e.frames b o I (eI b q) hI g).2
   ·exact (e.bd b o u g).2
  exact .pair W iP hfm ((W A hA).frame _ _ _ b7 kp) hn hi (λb hb=>let ⟨o,g⟩:=fA b ((W A hA).sub b hb);(e.frames b o I (eI b hb) hI g).1)
   (λb hb=>(hU b hb).imp_right λu=>let ⟨o,g⟩:=fA b hb;(e.bd b o u g).1) λj x vals q p=>aD (hP j x vals q p) λvs a b=>⟨vs,a,b.mono e.bd⟩
 | @own l i vs fc bz eI =>
  exact aD (fc) λo g r=> .own ⟨o,(e.frames I o I eI hI g).2,r⟩ bz (e.frames I o I eI hI g).1
 | @tN l I2 i vs vP fc h1 h2 h3 ht1 ht2 hile =>
  obtain ⟨old,g0⟩:=vP;exact aD (fc) λo g r=> .tN ⟨old,(e.frames I _ I ht1 hI g0).2⟩ ⟨o,(e.frames I2 o I ht2 hI g).2,r⟩ h1 h2 h3 (e.frames I _ I ht1 hI g0).1 (e.frames I2 o I ht2 hI g).1 hile
theorem Rel.ng{κ I}(R:Rel X L ae st κ s)(hI:I≠L)(vL:∀(i:Nat) l,ae[i]? =some l->κ l.addr≠ .frame I)
  (hk:∀b o,κ b≠ .frame I->s.heap.get? b=some o->s'.heap.get? b=some o) (ho:s'.os=s.os) (hg:s'.gens=s.gens) :
  ∃κ',Rel X L ae st κ' s'/\c7 (aj st.σ κ) s.heap (aj st.σ κ') s'.heap/\∀a,κ' a=if κ a= .frame I then .none else κ a :=
 have ne:∀{a},κ a≠ .frame I->(if κ a= .frame I then Tag.none else κ a)=κ a:=λq=>if_neg q
 have pN:∀{a t},(if κ a= .frame I then Tag.none else κ a)=t->t≠ .none->κ a=t/\κ a≠ .frame I:=λ{a t} e h=>if q:κ a= .frame I then absurd ((if_pos q).symm.trans e).symm h else ⟨(ne q).symm.trans e,q⟩
 let ⟨S,G⟩:=R.g.step (s':=s') (κ':=λa=>if κ a= .frame I then Tag.none else κ a) (λa o h e=>⟨ne (h I),hk a o (h I) e⟩) (λd a e=>(pN e bZ).1)
  (λa h=>if q:κ a= .frame I then (h ⟨og λz=>bZ ((R.g.excl a z).symm.trans q),if_pos q⟩).elim else (R.g.lt a λu=>h ⟨u.1,(ne q).trans u.2⟩).imp λo e=>hk a o q e)
  (λa L' e=>have z:=pN e bZ;(ne λy=>z.2 (z.1.trans ((R.g.fr a L' z.1).symm.trans y))).trans (R.g.fr a L' z.1)) ho hg
 ⟨_,⟨G,R.f.BX (ex:=(λz=>z =I)) S (λa o L' e q g=>have h:κ a≠ .frame I:=λz=>q (Tag.frame.inj (e.symm.trans z));⟨(ne h).trans e,hk a o h g⟩) (iO hI) λi l L' hi z q=>vL i l hi (z.trans (congrArg _ q))⟩,S,λJ=>rfl⟩
end
end
section
variable{X:Cx}{n:Nat}{L:Addr}{ae:List Loc}{ac:Env}{c:CT}
theorem Rel.store{κ}{i:Nat}{l:Loc}(R:Rel X L ae st κ s)(hi:ae[i]? =some l)(jT:i∉st.fz)(hv:am (aj st.σ κ) s.heap v y)
  (hs:jh l.addr s.heap s'.heap) (tL:lT s'.heap l y) (Tv:∀(j:Nat) l' z,ae[j]? =some l'->j≠i->lT s.heap l' z->lT s'.heap l' z) (hW:∀(j:Nat) l',ae[j]? =some l'->j∉st.fz->px L s'.heap l') (Tw:∃ml,s'.heap.Ns L ml)
  (ho:s'.os=s.os) (hg:s'.gens=s.gens):Rel X L ae {st with m:=st.m.set i (some v)} κ s'/\bg (λz=>z =L) st.σ κ s.heap st.σ κ s'.heap:=by
 have jr:κ l.addr= .frame L:=(R.f.wr i l hi jT).1
 have fA:∃o,s'.heap.get? l.addr=some o:=tL.some
 have k:∀b o,b≠l.addr->s.heap.get? b=some o->s'.heap.get? b=some o:=λb o q e=>(hs.2 b q).trans e
 have F:=R.f
 have IK:∀a,κ a≠ .frame L->a≠l.addr:=λa q z=>q (z▸jr)
 have G:=R.g.step (κ':=κ) (λa o h e=>⟨rfl,k a o (IK a (h L)) e⟩) (λJ J e=>e) (λa h=>if q:a=l.addr then q▸fA else (R.g.lt a h).imp λo e=>k a o q e) R.g.fr ho hg
 have S:=G.1
 refine ⟨⟨G.2,{
  tag:=F.tag
  ns:=Tw
  len:=kq.trans F.len
  lt:=λj l' e=>if z:l'.addr=l.addr then z▸fA else (F.lt j l' e).imp λo q=>k _ o z q
  vals:=λj w e=>by
   by_cases hj:j=i
   ·subst hj
    have bA:j<st.m.length:=F.len▸(du.mp hi).1
    simp only [vQ bA,ahN] at e
    subst e;exact ⟨l,y,hi,tL,hv.mono S⟩
   ·simp only [CJ (iO hj)] at e
    exact eV (F.vals j w e) λl' z a b cc=>⟨l',z,a,Tv j l' z a hj b,cc.mono S⟩
  rd:=F.rd
  wr:=λj l' e q=>⟨(F.wr j l' e q).1,hW j l' e q⟩
  nodup:=F.nodup}⟩,S,λa o L' e ne g=>⟨e,k a o (IK a λq=>ne (Tag.frame.inj (e.symm.trans q))) g⟩,λa o L' e g=>⟨.inl e,if q:a=l.addr then q▸fA else ⟨o,k a o q g⟩⟩⟩
theorem CL(EO:dM X ac L ae c){i:Nat}{K:St->Prop}{κ s A}(hc:jP c x=some i)(rel:Rel X L ae st κ s)(hv:am (aj st.σ κ) s.heap v y)(h:pE i v st K) :
  ai X.M A (storeName ac x y) (Post X L ae st.σ κ s.heap ig (λJ=>K)) (λJ J=>False) s:=by
 refine h.of λvR hK=> ?_
 have jT:=QV vR
 obtain ⟨hb,hk⟩:=Ib hc;refine aD (EO.idx x i hb hk.1 hk.2) λl hl mQ=> ?_
 have F:=rel.f
 obtain ⟨jr,hw⟩:=F.wr i l hl jT;obtain ⟨ml,vS⟩:=F.ns;rcases mQ with ⟨Tx,rfl⟩ | ⟨vT,a,ha,rfl⟩
 ·have hp:(ac.scope.kind== .class || (ac.scope.kind== .module&&ac.locals != ac.globals))=false:=by refine aa EO.kind ?_;rfl
  refine Qi Tx (EO.locals▸vS) (λh' hn hs=> ?_) hp;rw [EO.locals] at hn hs
  obtain ⟨r,e⟩:=rel.store (s':={s with heap:=h',toks:=s.toks+1}) (y:=y) hl jT hv hs ⟨_,hn,by simp⟩ (λj l' z hj ne hz=>by
   cases l' with
   | loc b w =>
    by_cases hb:b=L
    ·subst hb;refine aD (hz) λm2 tP ri=> ?_
     have Tz:w≠x:=λq=>ne (F.nodup i j _ jT hl (ao q hj)).symm
     refine ⟨_,hn, ?_⟩;simp only [Tz,if_false]
     have e1:=TA vS tP w
     exact aa e1 ri
    ·exact hz.keeps λo g=>(hs.2 b hb).trans g
   | cell b =>
    have hb:b≠L:=λq=>by
     by_cases hf:j∈st.fz
     ·rcases F.rd j _ hj hf with u | ⟨L',bz,ht⟩
      ·have:=u.2;rw [show (Loc.cell b).addr=L from q,F.tag] at this;exact bZ this
      ·rw [show (Loc.cell b).addr=L from q,F.tag] at ht;cases ht;exact bz.1 rfl
     ·exact (F.wr j _ hj hf).2.1 q
    exact hz.keeps λo g=>(hs.2 b hb).trans g) (λj l' hj hf=>by
    have:=(F.wr j l' hj hf).2
    cases l' with
    | loc b w=>exact this
    | cell b=>exact px.keeps this λo g=>(hs.2 b this.1).trans g) ⟨_,hn⟩ rfl rfl
  exact ⟨(),{st with m:=st.m.set i (some v)},κ,r,e,trivial,hK⟩
 ·have TB:∃v0,s.heap.IsCell a v0:=hw.2
  obtain ⟨v0,IL⟩:=TB
  have bf:∀h',h'.IsCell a (some y)->jh a s.heap h'->Post X L ae st.σ κ s.heap ig (λJ=>K) () {s with heap:=h'}:=λh' yY hs=>by
   have bz:∀(j:Nat) l',ae[j]? =some l'->j≠i->l'.addr≠a:=λj l' hj ne q=>by
    cases l' with
    | loc b w =>
     by_cases hf:j∈st.fz
     ·rcases F.rd j _ hj hf with u | ⟨L',bz,ht⟩
      ·have:=u.2;rw [q] at this;rw [show κ a= .frame L from jr] at this;exact bZ this
      ·rw [q,show κ a= .frame L from jr] at ht;cases ht;exact bz.1 rfl
     ·exact hw.1 (ao (show b=a from q) ((F.wr j _ hj hf).2))
    | cell b=>exact ne (F.nodup i j _ jT hl (ao (show b=a from q) hj)).symm
   obtain ⟨r,e⟩:=rel.store (s':={s with heap:=h'}) (y:=y) hl jT hv hs yY (λj l' z hj ne hz=>hz.keeps λo g=>(hs.2 _ (bz j l' hj ne)).trans g) (λj l' hj hf=>by
    by_cases q:j=i
    ·subst q;rw [hl] at hj;cases hj;exact ⟨hw.1,_,yY⟩
    ·exact px.keeps (F.wr j l' hj hf).2 λo g=>(hs.2 _ (bz j l' hj q)).trans g) ⟨ml,vS.sameBut hs (iO hw.1)⟩ rfl rfl
   exact ⟨(),{st with m:=st.m.set i (some v)},κ,r,e,trivial,hK⟩
  rcases vT with rj | rj
  ·exact Qj EO.kind rj ha IL bf
  ·exact storeName_free EO.kind rj ha IL bf
where
 TA {h:Heap} {a:Addr} {m m':Str->Option Value} (x:h.Ns a m) (y:h.Ns a m') (w:Str):m w=m' w:=by
  refine qK (x) λo es ep e d J f=>qK (y) λo' IM IP e' d' J f'=> ?_;rw [e] at e';cases e'
  rw [d] at d';cases d'
  exact sU (f w) (f' w) rfl
theorem CM(EO:dM X ac L ae c){i:Nat}{K:St->Prop}{κ s A}(hc:jP c x=some i)(rel:Rel X L ae st κ s)(hv:am (aj st.σ κ) s.heap v y)(h:pE i v st K) :
  ai X.M A (assign (.Name x pos) ac y) (Post X L ae st.σ κ s.heap ig (λJ=>K)) (λJ J=>False) s:=PN (CL EO hc rel hv h)
end
section
variable {gk:List Nat}{aP:Bool}
section
variable{X:Cx}{A:cJ}{E:Value->al->Prop}{s:al}
theorem TC{it t:Addr}{items:Array Value}(bz:t≠it)(n:Nat):∀(i:Nat) (s:al) (Q:List Value->al->Prop),s.heap.IsListIter it t i->s.heap.IsList t items->i+n≤items.size->
  (∀h',h'.IsListIter it t (i+n)->jh it s.heap h'->Q ((items.toList.drop i).take n) {s with heap:=h'})->ai X.M A (draw (.ref it) n) Q E s:=by
 induction n with
 | zero=>exact λi s Q fc J J hQ=>aM (hQ s.heap fc (ahO ..))
 | succ n ih =>
  intro i s Q fc ht c9 hQ
  have bA:i<items.size:=eB (yZ n.succ_pos) c9
  refine aq (ba (Tt fc ht (x:=items[i]) (TF bA) λbh CN gF=> ?_));refine aq (bH (ih (i+1) _ _ CN (ht.extBut gF.extBut bz) (sY i 1 n▸c9) λbD TG rm=>aM ?_))
  have:=hQ bD (sY i n 1▸TG) (gF.trans rm)
  rwa [vM (bA),IQ] at this
theorem IR{t:Addr}{items:Array Value}{Q:Unit->al->Prop}(hh:A.handled=none)(ht:s.heap.IsList t items)(hn:targets.length=items.size)(qR:targets.findIdx? (λz=>z.1)=none)
  (h:∀h',BG s.heap.objs.size s.heap h'->ai X.M A (assignInOrder (targets.map (λz=>z.2)) items.toList) Q E {s with heap:=h'}):ai X.M A (unpack (.ref t) targets) Q E s:=by
 have bA:t≠s.heap.objs.size:=by obtain ⟨o,ho,_⟩:=ht;exact dB (cR ho)
 unfold unpack;refine aH hn qR (aq (bH ?_));refine aq (fH (λq=>Qc ht.typeIs slot_list_iter.lookup q) ?_);refine aM ?_;simp only [yn,if_false];refine fH (λq=>bH (BL ht q)) (aq (bH (TC bA items.size 0 _ _ ⟨_,cV _ rfl,rfl,rfl⟩ (ht.push _) (b6 (nc _)) λbh CN gF=> ?_)))
 have mO:List.take items.size (List.drop 0 items.toList)=items.toList:=by
  exact aa y6 (rn (by simp))
 refine aa mO (aa (if_neg (by simp)) ?_)
 have TH:bh.IsList t items:=(ht.push _).extBut gF.extBut bA
 refine aq (bH (Qm hh CN TH (by simp) λbD TJ=> ?_));simp only [TK,yn,if_false];exact aM (h bD λb o hb e=>TJ b o hb (gF.extBut b o hb (fy _ e)))
end
section
variable{X:Cx}{n:Nat}{L:Addr}{ae:List Loc}{ac:Env}{c:CT}
theorem CO{h h':Heap}(x:BG h.objs.size h h'):∀b o,h.get? b=some o->h'.get? b=some o:=λb o e=>x b o (dB (cR e)) e
theorem IU{κ s A}{Q:Unit->al->Prop}(hr:cL n A)(rel:Rel X L ae st κ s)(hv:am (aj st.σ κ) s.heap v y)(hs:eX st.σ v=some vs)
  (hn:targets.length=vs.length) (qR:targets.findIdx? (λz=>z.1)=none)
  (h:∀s' ys,Rel X L ae st κ s'->bg (λz=>z =L) st.σ κ s.heap st.σ κ s'.heap->aO (aj st.σ κ) s'.heap vs ys->ai X.M A (assignInOrder (targets.map (λz=>z.2)) ys) Q (λJ J=>False) s'):ai X.M A (unpack y targets) Q (λJ J=>False) s:=by
 have bf:∀(ys:List Value),aO (aj st.σ κ) s.heap vs ys->∀h',BG s.heap.objs.size s.heap h'->ai X.M A (assignInOrder (targets.map (λz=>z.2)) ys) Q (λJ J=>False) {s with heap:=h'}:=λys hy h' hx =>
  h _ ys (rel.ext (CO hx) rfl rfl) (.ext (CO hx)) (hy.mono (gP (CO hx)))
 refine eX.of (C:=λv=>am (aj st.σ κ) s.heap v y->ai X.M A (unpack y targets) Q (λJ J=>False) s) hs (λhv=> ?_) (λhv=> ?_) (λa q hv=> ?_) hv
 ·refine eM (hv.inv) λa items bQ u hl aL=> ?_;subst bQ;exact IR hr.handled hl (hn.trans aL.length) qR (bf _ aL)
 ·refine eM (hv.inv) λa items bQ u hl aL=> ?_;subst bQ;exact PT hr.handled hl (hn.trans aL.length) qR (bf _ aL)
 ·refine aD (rel.g.own a _ q) λitems hl aL=> ?_;cases hv.bU;exact IR hr.handled hl.list (hn.trans aL.length) qR (bf _ aL)
theorem CQ{r:Str×Pos}(h:nameP e=some r):e= .Name r.1 r.2:=by
 rcases e with ⟨⟩<;>first | exact nn h | exact aN h▸rfl
theorem TL(h:nameOf e=some x):∃p,e= .Name x p :=
 eO (P:=λx=>∃p,e= .Name x p) (λr h=>⟨r.2,CQ h⟩) h
theorem CR{i:Nat}(h:cN c e=some i):∃x p,e= .Name x p/\jP c x=some i :=
 let ⟨x,h1,h2⟩:=cQ.mp h
 let ⟨p,e⟩:=TL h1
 ⟨x,p,e,h2⟩
theorem mn{f:α->Option β}{r:List β}{C:List β->Prop}(k:C [])(h: [].mapM f=some r):C r:=ao (aN (List.mapM_nil.symm.trans h)) k
theorem mc{f:α->Option β}{a:α}{r:List β}{C:List β->Prop}(k:∀b bs,f a=some b->l.mapM f=some bs->C (b::bs))(h:(a::l).mapM f=some r):C r :=
 let ⟨b,h1,h⟩:=cQ.mp (List.mapM_cons.symm.trans h)
 let ⟨bs,h2,h⟩:=cQ.mp h
 ao (aN h) (k b bs h1 h2)
theorem TM(EO:dM X ac L ae c){K:St->Prop}{A}:∀{is:List Nat} {vs:List ab} {ys:List Value} {st:St} {κ s},es.mapM (cN c)=some is->
  Rel X L ae st κ s->aO (aj st.σ κ) s.heap vs ys->gp is vs st K->
  ai X.M A (assignInOrder ((assignEach es ac).map (λz=>z.2)) ys) (Post X L ae st.σ κ s.heap ig (λJ=>K)) (λJ J=>False) s:=by
 induction es with
 | nil =>
  refine λ{is vs ys st κ s} hc rel hv=>mn (C:=λis=>gp is vs st K->_) (λh=> ?_) hc;cases vs with
  | nil=>exact aM (.same (b:=()) rel rfl rfl rfl trivial h)
  | cons v vs=>exact h.elim
 | cons e es ih =>
  refine λ{is vs ys st κ s} hc rel hv=>mc (C:=λis=>gp is vs st K->_) (λi is h1 h2 h=> ?_) hc;refine jg (CR h1) λx p bQ hi=> ?_;subst bQ;cases vs with
  | nil=>exact h.elim
  | cons v vs =>
   refine eV hv.cons_inv λy zs om jt ik=> ?_;subst om;exact aq (bH (weak (CM EO hi rel jt h) λJ s1 p=>p.casesOn λJ ax aA r1 e1 J k1=>weak (ih h2 r1 (ik.mono e1.bd) k1) λJ J p=>p.trans e1))
theorem IV:∀{is:List Nat},es.mapM (cN c)=some is->(assignEach es ac).length=is.length/\(assignEach es ac).findIdx? (λz=>z.1)=none:=by
 induction es with
 | nil=>exact λ{is}=>mn (C:=λis=>0=is.length/\_) ⟨rfl,rfl⟩
 | cons e es ih =>
  refine λ{is}=>mc (C:=λis=>(assignEach (e::es) ac).length=is.length/\_) λi is h1 h2=>jg (CR h1) λx p bQ hi=> ?_;subst bQ;exact ⟨congrArg (λz=>z +1) (ih h2).1,TN.trans (aa (show List.findIdx? _ _=none from (ih h2).2) rfl)⟩
theorem TP{K:St->Prop}{is:List Nat}:∀{vs:List ab} {st:St},gp is vs st K->is.length=vs.length:=by
 induction is with
 | nil=>exact λ{vs _} h=>by cases vs;rfl;exact h.elim
 | cons i is ih=>exact λ{vs _} h=>by cases vs;exact h.elim;exact cX.of h λJ k=>congrArg (λz=>z +1) (ih k)
theorem IW{P:List Nat->Bool->Prop}(a:∀i,cN c e=some i->P [i] false)(b:∀es k p is,e= .Tuple es k p->es.mapM (cN c)=some is->P is true)(h:kX c e=some (gk,aP)):P gk aP:=by
 unfold kX at h
 by_cases q:eh e.ctorIdx 25=true
 ·rw [if_pos q] at h
  refine eO (P:=λr=>P r.1 r.2) (λis h=> ?_) h;rcases e with ⟨⟩<;>first | exact ff q | exact b _ _ _ _ rfl h
 ·rw [if_neg q] at h
  exact eO (P:=λr=>P r.1 r.2) (λi h=>a i h) h
theorem IX(EO:dM X ac L ae c){K:St->Prop}{κ s A}(hr:cL n A)(hc:kX c target=some (gk,aP))(rel:Rel X L ae st κ s)(hv:am (aj st.σ κ) s.heap v y)
  (h:pF gk aP v st K):ai X.M A (assign target ac y) (Post X L ae st.σ κ s.heap ig (λJ=>K)) (λJ J=>False) s:=by
 refine IW (P:=λgk aP=>pF gk aP v st K->_) (λi hi h=> ?_) (λes k p is e CS h=> ?_) hc h
 ·refine jg (CR hi) λx p bQ hi=> ?_;subst bQ;exact CM EO hi rel hv h
 ·subst e;exact aD (bE.ex h) λvs hs b7=>aa (TQ ..) (aq (cy (IU hr rel hv hs ((IV CS).1.trans (TP b7)) (IV CS).2 λs' ys r1 e1 hy=>weak (TM EO CS r1 hy b7) λJ J p=>p.trans e1)))
theorem IY(hc:kX c target=some (gk,aP)):aP=true->∃es k p,target= .Tuple es k p :=
 IW (P:=λJ aP=>aP=true->∃es k p,target= .Tuple es k p) (λJ J h=>ff h) (λes k p J e J J=>⟨es,k,p,e⟩) hc
end
end
section
variable{X:Cx}{n:Nat}{L:Addr}{ae:List Loc}{ac:Env}{c:CT}
noncomputable def fX(κ:bM)(fY:List Addr)(I:Addr):bM:=λa=>if a∈fY then .frame I else κ a
theorem bq.tag{σ κ}(G:bq X σ κ s)(fY:List Addr)(I:Addr)(hI:I∈fY)(hp:∀a∈fY,s.heap.objs.size≤a/\∃o,s'.heap.get? a=some o)
  (k:∀b o,s.heap.get? b=some o->s'.heap.get? b=some o) (ho:s'.os=s.os) (hg:s'.gens=s.gens) :
  bq X σ (fX κ fY I) s'/\bg (λJ=>False) σ κ s.heap σ (fX κ fY I) s'.heap/\∀a,(∃o,s.heap.get? a=some o)->fX κ fY I a=κ a :=
 have old:∀a o,s.heap.get? a=some o->fX κ fY I a=κ a:=λa o e=>if_neg λq=>dC.mpr (hp a q).1 (cR e)
 have at_:∀a,¬ aj σ κ a->fX κ fY I a=κ a:=λa u=>(G.lt a u).elim (old a)
 have ⟨S,G'⟩:=G.step (s':=s') (κ':=fX κ fY I) (λa o J e=>⟨old a o e,k a o e⟩) (λd a e=>if q:d∈fY then bZ ((if_pos q).symm.trans e) else (if_neg q).symm.trans e)
  (λa h=>if q:a∈fY then (hp a q).2 else (G.lt a λu=>h ⟨u.1,(if_neg q).trans u.2⟩).imp (k a))
  (λa L' e=>if q:a∈fY then Tag.frame.inj ((if_pos q).symm.trans e)▸if_pos hI else
   have z:=G.fr a L' ((if_neg q).symm.trans e);(at_ L' λu=>bZ (u.2.symm.trans z)).trans z) ho hg
 ⟨G',⟨S,λa o L' q J g=>⟨(old a o g).trans q,k a o g⟩,λa o L' q g=>⟨.inl ((old a o g).trans q),o,k a o g⟩⟩,λa h=>h.elim (old a)⟩
theorem Rel.tag{κ}(R:Rel X L ae st κ s)(fY:List Addr)(I:Addr)(hI:I∈fY)(hp:∀a∈fY,s.heap.objs.size≤a/\∃o,s'.heap.get? a=some o)
  (k:∀b o,s.heap.get? b=some o->s'.heap.get? b=some o) (ho:s'.os=s.os) (hg:s'.gens=s.gens) :
  Rel X L ae st (fX κ fY I) s'/\bg (λJ=>False) st.σ κ s.heap st.σ (fX κ fY I) s'.heap/\(∀(i:Nat) l,ae[i]? =some l->fX κ fY I l.addr≠ .frame I)/\I≠L/\∀a,(∃o,s.heap.get? a=some o)->fX κ fY I a=κ a :=
 pd (R.g.tag fY I hI hp k ho hg) λG e old =>
 have IZ:∀o,s.heap.get? I≠some o:=λJ g=>dC.mpr (hp I hI).1 (cR g)
 ⟨⟨G,R.f.dq e⟩,e,λi l hi q=>have z:=R.g.fr _ _ ((old _ (R.f.lt i l hi)).symm.trans q);(R.g.lt I λu=>bZ (u.2.symm.trans z)).elim IZ,
  λq=>Bw R.f.ns λJ o J J g J=>IZ o (q▸g),old⟩
theorem Rel.y7{κ}(R:Rel X L ae st κ s)(o:Obj)(hf:o.isFreed=false:=by rfl):Rel X L ae st (fX κ [s.heap.objs.size] s.heap.objs.size) {s with heap:=s.heap.push o}/\
  bg (λJ=>False) st.σ κ s.heap st.σ (fX κ [s.heap.objs.size] s.heap.objs.size) (s.heap.push o)/\(∀(i:Nat) l,ae[i]? =some l->fX κ [s.heap.objs.size] s.heap.objs.size l.addr≠ .frame s.heap.objs.size)/\s.heap.objs.size≠L/\
  ∀a,(∃o,s.heap.get? a=some o)->fX κ [s.heap.objs.size] s.heap.objs.size a=κ a :=
 R.tag (s':={s with heap:=s.heap.push o}) [s.heap.objs.size] s.heap.objs.size (.head _) (λa q=>aa (dT.mp q) (⟨cg _,_,cV _ hf⟩)) (eA _ _) rfl rfl
inductive jU(X:Cx)(L:Addr)(ae:List Loc)(st:St)(κ:bM)(h:Heap)(aP:Bool)(own:List (Addr×List ab))(items:List ab)(y:Value)(s1:al):Prop
 | mk (I:Addr) (aA:bM):y= .ref I->h.get? I=none->Rel X L ae st aA s1->bg (λJ=>False) st.σ κ h st.σ aA s1.heap->eH X (aj st.σ aA) aA s1.heap I aP own items->I≠L->(∀(i:Nat) l,ae[i]? =some l->aA l.addr≠ .frame I)->(∃o,s1.heap.get? I=some o)->(∀b o,h.get? b=some o->s1.heap.get? b=some o)->jU X L ae st κ h aP own items y s1
theorem CU{h:Heap}(q:h.objs.size≤a):h.get? a=none:=by
 cases z:h.get? a with
 | none=>rfl
 | some o=>exact absurd (cR z) (dC.mpr q)
theorem CV(h:Heap):h.get? h.objs.size=none:=CU (cg _)
theorem TR(n:Nat):∀a:Int,(lg a n).length=n:=n.rec (λJ=>rfl) λJ ih a=>congrArg (λz=>z +1) (ih (a+1))
theorem TT(n:Nat):∀(a:Int) (j:Nat) x,(lg a n)[j]? =some x->x= .int (a+j) :=
 n.rec (λJ J J=>nn) λJ ih a j x=>j.casesOn (λh=>(aN h).symm.trans (congrArg ab.int (TU a).symm)) λj h=>(ih (a+1) j x h).trans (congrArg ab.int (by refine aa (TV ..) ?_;rewrite [vU 1];rfl))
theorem TW{κ s A}(rel:Rel X L ae st κ s)(hv:am (aj st.σ κ) s.heap v y)(hs:ty st.σ v=some vs) :
  ai X.M A (pyIter y) (jU X L ae st κ s.heap false (ownOf st.σ v) vs) (λJ J=>False) s:=by
 have one:∀{T:String} {I0:Array Value} {fp:List Addr} {P:Nat->Value->Prop} {tQ:Nat->Heap->Prop} {n:Nat},owners.contains T=false->vs.length=n->
   (∀A,A.handled=none->CH X.prog X.w A s.heap.objs.size (s.heap.objs.size::fp) [s.heap.objs.size] n P tQ)->
   (∀j h,tQ j h->(∃o,h.get? s.heap.objs.size=some o/\o.cls= .type T)/\∀b∈fp,∃o,h.get? b=some o)->(∀b∈fp,aj st.σ κ b/\∃o,s.heap.get? b=some o)->
   tQ 0 (s.heap.push {cls:= .type T,data:= .fields I0})->(∀(j:Nat) x v,vs[j]? =some x->P j v->am (aj st.σ κ) s.heap x v)->
   jU X L ae st κ s.heap false [] vs (.ref s.heap.objs.size) {s with heap:=s.heap.push {cls:= .type T,data:= .fields I0}}:=λhT hn W iP hU b7 hP =>
  qL (rel.y7 {cls:= .type _,data:= .fields _}) λr e h1 h2 J =>
  ⟨_,_,rfl,CV _,r,e,eH.one (i:=0) W (λj h q=>⟨λb hb=>(br.mp hb).elim (λz=>aa z ((iP j h q).1.imp λJ r=>r.1)) ((iP j h q).2 b),(iP j h q).1⟩) hT b7 hn (da _) (λb hb=>if_pos hb)
   (λb hb=>(br.mp hb).imp dT.mpr λhb=>(hU b hb).2.elim λo g=>(e.bd b o (hU b hb).1 g).1) λj x v q p=>(hP j x v q p).mono e.bd,h2,h1,⟨_,cV _ rfl⟩,eA _ _⟩
 have seq:∀{cs:List Value} {a:Addr} {o:Obj},aO (aj st.σ κ) s.heap vs cs->aj st.σ κ a->s.heap.get? a=some o->a≠s.heap.objs.size/\(∀b∈ [a],aj st.σ κ b/\∃o,s.heap.get? b=some o)/\∀(j:Nat) x v,vs[j]? =some x->cs.toArray[j]? =some v->am (aj st.σ κ) s.heap x v :=
  λaL u g=>⟨dB (cR g),λb hb=>dT.mp hb▸⟨u,_,g⟩,λj x v q p=>aD (aL.get q) λx' q' r'=>aN (q'.symm.trans (by simpa using p))▸r'⟩
 refine ty.of (C:=λv=>am (aj st.σ κ) s.heap v y->ai X.M A (pyIter y) (jU X L ae st κ s.heap false (ownOf st.σ v) vs) (λJ J=>False) s) hs (λb e hv=> ?_) (λhv=> ?_) (λhv=> ?_) (λa q hv=> ?_) hv
 ·obtain ⟨t,rfl⟩:=hv.inv;subst e;exact ba <| TX (one (fp:= []) (P:=λi v=>∃c u,b.toArray[i]? =some c/\v= .int (c.toNat:Int) u) (tQ:=λi h=>TY h s.heap.objs.size b.toArray t i) (by decide) (aE _) (λA hA=>ahP hA s.heap.objs.size b.toArray t)
   (λj h q=>⟨j' q λo e c J=>⟨o,e,c⟩,λJ hb=>nomatch hb⟩) (λJ hb=>nomatch hb) ⟨_,cV _ rfl,rfl,rfl⟩ λj x v q ⟨cc,u,p1,p2⟩=>p2▸by
    rw [d3,cW,show b[j]? =some cc by simpa using p1] at q
    exact aN q▸ .int _ _)
 ·obtain ⟨a,cs,rfl,u,hl,aL⟩:=hv.inv
  have eG:=hl
  obtain ⟨o,g,_⟩:=eG;obtain ⟨bz,hU,hP⟩:=seq aL u g;exact BL hl (one (fp:= [a]) (P:=λi v=>cs.toArray[i]? =some v) (tQ:=λi h=>h.IsListIter s.heap.objs.size a i/\h.IsList a cs.toArray) (by decide) aL.length (λA hA=>I1 hA s.heap.objs.size a bz cs.toArray)
   (λj h q=>⟨j' q.1 λo e c J=>⟨o,e,c⟩,λb hb=>dT.mp hb▸aD q.2 λo e J=>⟨o,e⟩⟩) hU ⟨⟨_,cV _ rfl,rfl,rfl⟩,hl.push _⟩ hP)
 ·obtain ⟨a,cs,rfl,u,hl,aL⟩:=hv.inv
  have eG:=hl
  obtain ⟨o,g,_⟩:=eG;obtain ⟨bz,hU,hP⟩:=seq aL u g;exact Qa hl (one (fp:= [a]) (P:=λi v=>cs.toArray[i]? =some v) (tQ:=λi h=>h.IsTupleIter s.heap.objs.size a i/\h.IsTuple a cs.toArray) (by decide) aL.length (λA hA=>ahQ hA s.heap.objs.size a bz cs.toArray)
   (λj h q=>⟨j' q.1 λo e c J=>⟨o,e,c⟩,λb hb=>dT.mp hb▸aD q.2 λo e J=>⟨o,e⟩⟩) hU ⟨⟨_,cV _ rfl,rfl,rfl⟩,hl.push _⟩ hP)
 ·refine aD (rel.g.own a _ q) λcs hl aL=> ?_;cases hv.bU;exact qL (rel.y7 {cls:= .type "list_iterator",data:= .fields #[.ref a, .int 0 0]}) λr e h1 h2 h3=>aa (yz q) (BL hl.list ⟨_,_,rfl,CV _,r,e,eH.own (i:=0) (vs:=vs) ⟨_,cV _ rfl,rfl,rfl⟩ (aD hl λo e J=>dB (cR e)) (if_pos (.head _)),h2,h1,⟨_,cV _ rfl⟩,eA _ _⟩)
end
section
variable{X:Cx}{n:Nat}{L:Addr}{ae:List Loc}{ac:Env}{c:CT}{scope:nQ}
theorem b1{C:β->Prop}{f:α->β}{x:Option α}{r:β}(k:∀a,x=some a->C (f a))(h:(x>>=λa=>pure (f a))=some r):C r:=by
 rcases x with _ | a
 ·exact nn h
 ·exact ao (aN h) (k a rfl)
theorem b2{γ:Type}{C:γ->Prop}{f:α->β->γ}{x:Option α}{y:Option β}{r:γ}(k:∀a b,x=some a->y=some b->C (f a b))(h:(x>>=λa=>y>>=λb=>pure (f a b))=some r):C r:=by
 rcases x with _ | a
 ·exact nn h
 ·exact b1 (λz=>k a z rfl) h
theorem b3{γ δ:Type}{C:δ->Prop}{f:α->β->γ->δ}{x:Option α}{y:Option β}{z:Option γ}{r:δ}(k:∀a b c,x=some a->y=some b->z=some c->C (f a b c))(h:(x>>=λa=>y>>=λb=>z>>=λc=>pure (f a b c))=some r):C r:=by
 rcases x with _ | a
 ·exact nn h
 ·exact b2 (λz cf=>k a z cf rfl) h
noncomputable def nh(c:CT)(scope:nQ)(oi:List (Str×Nat)):CT:={names:=scope.names,idx:=dr scope.names c.n++oi,G:=c.G,n:=c.n+(dr scope.names c.n).length,lam:=false}
noncomputable def vV(k:Nat)(c:CT)(ifs:List Expr):Option (Option IB):=Hl (cB k c) ifs
theorem y8{x:α}(h:vn l=some x):l= [x]:=by
 rcases l with _ | ⟨a,_ | _⟩<;>first | exact nn h | exact aN h▸rfl
theorem TZ{r}(h:Hj e=some r):e= .Compare r.1 r.2.1 r.2.2.1 r.2.2.2:=by
 rcases e with ⟨⟩<;>first | exact nn h | exact aN h▸rfl
theorem T0{a:td}(h1:a.posonlyargs= [])(h2:a.vararg=none)(h3:a.kwonlyargs= [])(h4:a.kw_defaults= [])(h5:a.kwarg=none)(h6:a.defaults= []):a=⟨[],a.args,none,[],[],none,[]⟩:=by
 rcases a with ⟨_,_,_,_,_,_,_⟩
 cases h1;cases h2;cases h3;cases h4;cases h5;cases h6;rfl
theorem T1{P:td->Expr->IE->Prop}(a:∀p q ps p1 p2 p3 i,c.lam=true->(p==q)=false->yw p q scope=true->gQ p=false->gQ q=false->c.names.lookup q=some .cell->c.idx.lookup q=some i->
  P ⟨[],[⟨p,none,ps⟩],none,[],[],none,[]⟩ (.Compare (.Name p p1) [.Eq] [.Name q p2] p3) (.lam i)) {args:td} {body:Expr} {i:IE} (h:B1 c args body scope=some i):P args body i:=by
 obtain ⟨g,h⟩:=m3 h;obtain ⟨⟨p,an,ps⟩,e1,h⟩:=cQ.mp h;obtain ⟨⟨l,os,rs,p3⟩,e2,h⟩:=cQ.mp h;obtain ⟨⟨p',p1⟩,e3,h⟩:=cQ.mp h;refine aD (cQ.mp h) λo e4 h=>aD (cQ.mp h) λr e5 h=> ?_;obtain ⟨⟨q,p2⟩,e6,h⟩:=cQ.mp h;obtain ⟨g2,h⟩:=m3 h;refine eO (λj h8=> ?_) h;clear h;simp only [ro,l8,beq_iff_eq,vg,CW] at g g2
 obtain ⟨⟨⟨⟨⟨⟨⟨⟨h1,h2⟩,h3⟩,h4⟩,h5⟩,h6⟩,h7⟩,h9⟩,kr⟩:=g2
 have h:=a p q ps p1 p2 p3 j h3 h5 h6 h7 h9 kr h8
 refine aa (TZ e2) (aa (CQ e3) (aa (y8 e4) (aa (y8 e5) (aa (CQ e6) (aa h2 (aa (T0 g.1.1.1.1.1 g.1.1.1.1.2 g.1.1.1.2 g.1.1.2 g.1.2 g.2) (aa (y8 e1) (aa h1 (ao h4 ?_)))))))));exact h
theorem T2{p:Prop} [Decidable p]{x:Option α}{r:α}(h:(if p then x else none)=some r):x=some r:=by
 by_cases q:p
 ·exact (if_pos q).symm.trans h
 ·exact nn ((if_neg q).symm.trans h)
theorem I3{cK:Expr}{p:Pos}{P:List va->IE->Prop}(comp:∀t it ifs fR oi cond tg aP ie,cI k c it=some fR->ij c.idx scope.names=some oi->vV k (nh c scope oi) ifs=some cond->kX (nh c scope oi) t=some (tg,aP)->
   cE k (nh c scope oi) cK=some ie->nW fR aP=true->qY c.names scope=true->P [⟨t,it,ifs,0⟩] (.comp ie tg aP fR cond (dr scope.names c.n).length)) {gens:List va} {i:IE} (h:cE (k+1) c (.ListComp cK gens scope p)=some i):P gens i:=by
 rcases gens with _ | ⟨⟨t,it,ifs,(_ | _) | _⟩,_ | _⟩<;>first | exact nn h | skip
 refine aD (cQ.mp h) λfR h1 h=>aD (cQ.mp h) λoi h2 h=> ?_;refine aD (cQ.mp h) λcond h3 h=> ?_;obtain ⟨⟨tg,aP⟩,h4,h⟩:=cQ.mp h;obtain ⟨q,h⟩:=m3 h;exact b1 (λie h5=>comp t it ifs fR oi cond tg aP ie h1 h2 h3 h4 h5 (bP.mp q).1 (bP.mp q).2) h
theorem T3{P:Expr->IE->Prop}(ah:∀v p q w,cC v=some w->P (.Constant v p q) (.ah w))(name:∀x p i,jk c x=some i->P (.Name x p) i)
  (bin:∀a o b p ia ib,cE k c a=some ia->cE k c b=some ib->P (.BinOp a o b p) (.bin o ia ib)) (neg:∀a p ia,cE k c a=some ia->P (.UnaryOp .USub a p) (.neg ia)) (not:∀a p ia,cE k c a=some ia->P (.UnaryOp .Not a p) (.not ia))
  (bool:∀o es p is,es.mapM (cE k c)=some is->P (.BoolOp o es p) (.bool (o== .And) is)) (ite:∀t a b p it ia ib,cB k c t=some it->cE k c a=some ia->cE k c b=some ib->P (.IfExp t a b p) (.ite it ia ib))
  (cmp:∀a o b p ia ib,cE k c a=some ia->cE k c b=some ib->P (.Compare a [o] [b] p) (.cmp o ia ib))
  (kf:∀a o1 o2 b1 b2 p ia i1 i2,cE k c a=some ia->cE k c b1=some i1->cE k c b2=some i2->P (.Compare a [o1,o2] [b1,b2] p) (.kf o1 o2 ia i1 i2))
  (aI:∀o x ap as p io is,(ahR:(ap.endLine==p.line)=true)->decide (as.length≤20)=true->baseOk o=true->cE k c o=some io->as.mapM (cE k c)=some is->P (.Call (.Attribute o x ap) as [] p) (.aI io x is))
  (call:∀x q as ks p i is CX,jk c x=some i->as.mapM (cE k c)=some is->ks.mapM (vo (cE k c))=some CX->P (.Call (.Name x q) as ks p) (.call i is CX))
  (attr:∀o x p io,baseOk o=true->cE k c o=some io->P (.Attribute o x p) (.a io x))
  (slice:∀o lo hi q p io l u,nX k c lo=some l->nX k c hi=some u->cE k c o=some io->P (.Subscript o (.Slice lo hi none q) p) (.slice io l u))
  (sub:∀o i p io ii,cE k c o=some io->cE k c i=some ii->P (.Subscript o i p) (.sub io ii))
  (tuple:∀es m p is,es.mapM (cE k c)=some is->P (.Tuple es m p) (.tuple is)) (list:∀es p is,es.mapM (cE k c)=some is->P (.List es p) (.list is))
  (comp:∀cK t it ifs scope p fR oi cond tg aP ie,cI k c it=some fR->ij c.idx scope.names=some oi->vV k (nh c scope oi) ifs=some cond->kX (nh c scope oi) t=some (tg,aP)->
   cE k (nh c scope oi) cK=some ie->nW fR aP=true->qY c.names scope=true->P (.ListComp cK [⟨t,it,ifs,0⟩] scope p) (.comp ie tg aP fR cond (dr scope.names c.n).length))
  (lam:∀args body scope p i,B1 c args body scope=some i->P (.Lambda args body scope p) i)  {i:IE} (h:cE (k+1) c e=some i):P e i:=by
 rcases e with ⟨⟩<;>first | exact nn h | skip
 ·exact b1 (bool _ _ _) h
 ·exact b2 (bin _ _ _ _) h
 ·rcases op with ⟨⟩<;>first | exact nn h | exact b1 (not _ _) h | exact b1 (neg _ _) h
 ·exact lam _ _ _ _ _ h
 ·exact b3 (ite _ _ _ _) h
 ·exact I3 (P:=λgens i=>P (.ListComp _ gens _ _) i) (λJ J J=>comp _ _ _ _ _ _) h
 ·rcases ops with _ | ⟨o1,_ | ⟨o2,_ | _⟩⟩<;>rcases comparators with _ | ⟨r1,_ | ⟨r2,_ | _⟩⟩<;>first | exact nn h | exact b2 (cmp _ _ _ _) h | exact b3 (kf _ _ _ _ _ _) h
 ·rcases func with ⟨⟩<;>first | exact nn h | skip
  ·rcases keywords with _ | _<;>first | exact nn h | skip
   obtain ⟨q,h⟩:=m3 h
   have q':=bP.mp (bP.mp q).1
   exact b2 (λJ J=>aI _ _ _ _ _ _ _ q'.1 q'.2 (bP.mp q).2) h
  ·exact b3 (call _ _ _ _ _) (T2 h)
 ·exact eO (ah _ _ _) h
 ·obtain ⟨q,h⟩:=m3 h;exact b1 (λJ=>attr _ _ _ _ q) h
 ·rcases slice_1 with ⟨⟩<;>first | exact b2 (sub _ _ _) h | skip
  rcases step with _ | _
  ·exact aD (cQ.mp h) λl h1 h=>aD (cQ.mp h) λu h2 h=>eO (λio h3=>slice _ _ _ _ _ io l u h1 h2 h3) h
  ·exact b2 (sub _ _ _) h
 ·exact name _ _ _ h
 ·exact b1 (list _ _) h
 ·exact b1 (tuple _ _ _) h
theorem CY(ok:fb X)(EO:dM X ac L ae c){p:Pos}{T:String}{K:List ab->St->Prop}{κ s A}(hr:cL n A)(rel:Rel X L ae st κ s)(hc:jk c x=some (.ah (.raw (.type T))))(hp:m7 es=true)
  (h:l9 X n L ae ac es K st)
  (hq:∀s1 ax aA vs ys,Rel X L ae ax aA s1->bg (λz=>z =L) st.σ κ s.heap ax.σ aA s1.heap->aO (aj ax.σ aA) s1.heap vs ys->K vs ax->ai X.M A (call (.type T) ys) Q (λJ J=>False) s1) :
  ai X.M A (eval (.Call (.Name x p) es [] pos) ac) Q (λJ J=>False) s :=
 aq (chain (Cw ok EO hc (K:=λv st'=>v= .raw (.type T)/\st'=st) ⟨rfl,rfl⟩) hr rel λf s1 fv ax aA r1 e1 v1 k1=>by
  obtain ⟨rfl,rfl⟩:=k1;cases v1.bU;exact Io (Ip hp) rfl (weak (Iq (ks:= []) (K:=λvs kvs bc=>kvs= []/\K vs bc) hp rfl (h.mono λvs st q=>⟨rfl,q⟩) hr r1) λa s2 p=>p.casesOn λvs kvs bc bR dI r2 e2 v2 w2 ha k2 =>
   ⟨⟨.machine,λA' Q E q=>aM q⟩,(show a.kw= [] by refine aa ha (aa k2.1 ?_);rfl)▸hq s2 bc bR vs a.pos r2 (e1.trans e2) v2 k2.2⟩))
def SE(X:Cx)(n:Nat)(L:Addr)(ae:List Loc)(ac:Env)(c:CT)(k:Nat):Prop:=∀e i,cE k c e=some i->∀K st,bF X n i K st->bO X n L ae (eval e ac) K st
def SB(X:Cx)(n:Nat)(L:Addr)(ae:List Loc)(ac:Env)(c:CT)(k:Nat):Prop:=∀e i,cB k c e=some i->∀K st,n9 X n i K st->jO X n L ae (iK e ac (eval e ac)) K st
noncomputable def pO(e:Expr):Bool:= !(eh e.ctorIdx 22 || eh e.ctorIdx 7 || eh e.ctorIdx 26)
theorem pP{i:IE}(h:cE k c e=some i):pO e=true:=by
 rcases k with _ | k
 ·exact nn h
 ·rcases e with ⟨⟩<;>first | rfl | exact nn h
theorem y9{op:fq}(h:pO e=true):behindInMarks op e=false:=by rcases e with ⟨⟩<;>first | rfl | exact ff h
theorem CZ(h:pO e=true)(x:Value):foldedSetIterable e ac x=pure x:=by rcases e with ⟨⟩<;>first | rfl | exact ff h
theorem T4(h:pO e=true):CE e=true:=(l8 _).mpr (vJ.mp (vJ.mp ((l8 _).mp h)).1).1
theorem rp:∀{is:List IE},es.mapM (cE k c)=some is->m7 es=true:=by
 induction es with
 | nil=>exact λJ=>rfl
 | cons e es ih=>exact mc (C:=λJ=>m7 (e::es)=true) λJ J h1 h2=>bP.mpr ⟨T4 (pP h1),ih h2⟩
theorem rq(hE:SE X n L ae ac c k):∀{is:List IE} {K:List ab->St->Prop} {st:St},es.mapM (cE k c)=some is->jo X n is K st->l9 X n L ae ac es K st:=by
 induction es with
 | nil=>exact λ{is K st}=>mn (C:=λis=>jo X n is K st->K [] st) λh=>h
 | cons e es ih=>exact λ{is K st}=>mc (C:=λis=>jo X n is K st->l9 X n L ae ac (e::es) K st) λi is h1 h2 hw=>(hE e i h1 _ _ (QY _ _ hw)).mono λv st k=>ih h2 k
inductive vW(X:Cx)(L:Addr)(ae:List Loc)(σ:ar)(κ:bM)(h:Heap)(iR:Bool)(K:List ab->List (Addr×List ab)->St->Prop)(y:Value)(s2:al):Prop
 | mk (items:List ab) (own:List (Addr×List ab)) (aP:Bool) (ax:St) (aA:bM) (s1:al):Rel X L ae ax aA s1->bg (λz=>z =L) σ κ h ax.σ aA s1.heap->jU X L ae ax aA s1.heap aP own items y s2->(aP=true->iR=true)->K items own ax->vW X L ae σ κ h iR K y s2
theorem vW.of{cG:St}{κ κ0 h aP own items y}{iR}{K:List ab->List (Addr×List ab)->St->Prop}(r:Rel X L ae st κ s)(e:bg (λz=>z =L) cG.σ κ0 h st.σ κ s.heap)(m:jU X L ae st κ s.heap aP own items y s1)(ht:aP=true->iR=true)(k:K items own st):vW X L ae cG.σ κ0 h iR K y s1 :=
 ⟨items,own,aP,st,κ,s,r,e,m,ht,k⟩
structure nj(X:Cx)(n:Nat):Prop where
 zip:∀{L ae st κ s vs ys} {Z:List ab->Prop},yH vs Z->Rel X L ae st κ s->aO (aj st.σ κ) s.heap vs ys->∀A,cL n A->
  ai X.M A (call (.type "zip") ys) (λy s1=>ai X.M A (pyIter y) (λy s2=>∃zs,Z zs/\jU X L ae st κ s.heap true [] zs y s2) (λJ J=>False) s1) (λJ J=>False) s
theorem I4{a b:Int}{t u:Tok}{r:Addr}{tk:Tok}{κ}{A}(rel:Rel X L ae st κ s)(hk:∀b o,s.heap.get? b=some o->s1.heap.get? b=some o)(ho:s1.os=s.os)(hg:s1.gens=s.gens)
  (hr:IsRange s1.heap r a b 1 t u tk) (dc: -2^30<a/\a<2^30/\ -2^30<b/\b<2^30):ai X.M A (pyIter (.ref r)) (jU X L ae st κ s.heap false [] (lg a (b - a).toNat)) (λJ J=>False) s1 :=
 have T5:Rel X L ae st κ s1:=rel.ext hk ho hg
 qL (T5.y7 {cls:= .type "range_iterator",data:= .fields #[rawInt a,rawInt (T6 a b 1),rawInt 1]}) λrr e h1 h2 J =>
 have e1:T6 a b 1=(((b - a).toNat:Nat):Int):=by refine aa (rangeSize_one ..) ?_;by_cases q:a<b;exact (if_pos q).trans (tR (I5 (on q))).symm;exact (if_neg q).trans (congrArg lb (Int.toNat_of_nonpos (Int.sub_nonpos_of_le (jV.mp q)))).symm
 Qg hr (small_one (il (by decide) (on dc.1)) (za dc.2.1 (by decide)) (il (by decide) (on dc.2.2.1)) (za dc.2.2.2 (by decide))) ⟨_,_,rfl,(by cases q:s.heap.get? s1.heap.objs.size with | none=>rfl | some o=>exact absurd (cR (hk _ _ q)) (iM _)),rr,(bg.ext hk).trans e,
  eH.one (i:=0) (T:= "range_iterator") (fp:= [s1.heap.objs.size]) (wr:= [s1.heap.objs.size]) (n:=(b - a).toNat) (P:=λi v=>∃t,v= .int (a+i*1) t)
   (St:=λi h=>IsRangeIter h s1.heap.objs.size (a+(i:Nat)*1) ((((b - a).toNat:Nat):Int) - (i:Nat)) 1) (λA hA=>ahS hA _ _ _ _) (λj h q=>⟨λb hb=>by refine aa (dT.mp hb) ?_;exact ⟨_,q⟩,_,q,rfl⟩) (by decide)
   (by show (s1.heap.push _).get? _=some _;rw [cV _ rfl,e1];simp) (TR _ _) (da _) (λb hb=>if_pos hb) (λb hb=> .inl hb)
   (λj x v q ⟨t,e⟩=>e▸TT _ _ _ _ q▸(T7 _▸ .int _ _)),h2,h1,⟨_,cV _ rfl⟩,λb o e=>eA _ _ b o (hk b o e)⟩
theorem T8{κ s A}(rel:Rel X L ae st κ s)(hv:am (aj st.σ κ) s.heap v y)(hf:jS st.σ v=some vs) :
  ai X.M A (call (.type "enumerate") [y]) (λy s1=>ai X.M A (pyIter y) (jU X L ae st κ s.heap true (ownOf st.σ v) (l5 0 vs)) (λJ J=>False) s1) (λJ J=>False) s:=by
 have made:∀{l:Addr} {h':Heap} {own} {X0 X1},s.heap.get? l=some X0->h'.get? (s.heap.objs.size+1)=some X1->(∃o,h'.get? s.heap.objs.size=some o)->(∀b o,s.heap.get? b=some o->h'.get? b=some o)->
   (∀κ',bg (λJ=>False) st.σ κ s.heap st.σ κ' h'->κ' (s.heap.objs.size+1)= .frame (s.heap.objs.size+1)->κ' s.heap.objs.size= .frame (s.heap.objs.size+1)->l≠s.heap.objs.size+1->l≠s.heap.objs.size->eH X (aj st.σ κ') κ' h' (s.heap.objs.size+1) true own (l5 0 vs))->
   jU X L ae st κ s.heap true own (l5 0 vs) (.ref (s.heap.objs.size+1)) {s with heap:=h'}:=λ{l h' own _ _} hl he fc hk q =>
  qL (rel.tag (s':={s with heap:=h'}) [s.heap.objs.size+1,s.heap.objs.size] (s.heap.objs.size+1) (.head _) (λa q=>by
   rcases br.mp q with rfl | q
   ·exact ⟨md _,_,he⟩
   ·refine aa (dT.mp q) ?_;exact ⟨cg _,fc⟩) hk rfl rfl) λrr e h1 h2 J =>
  ⟨_,_,rfl,CU (md _),rr,e,q _ e (if_pos (.head _)) (if_pos (.tail _ (.head _))) (dB (pQ (cR hl))) (dB (cR hl)),h2,h1,⟨_,he⟩,hk⟩
 refine jS.of (C:=λv=>am (aj st.σ κ) s.heap v y->ai X.M A (call (.type "enumerate") [y]) (λy s1=>ai X.M A (pyIter y) (jU X L ae st κ s.heap true (ownOf st.σ v) (l5 0 vs)) (λJ J=>False) s1) (λJ J=>False) s) hf (λhv=> ?_) (λa q hv=> ?_) hv
 ·refine eM (hv.inv) λl cs bQ u hl aL=> ?_;subst bQ
  have eG:=hl
  refine aD (eG) λol el rl=>call_enumerate_list hl λh' he fc bN hk=>BN he (made el he (aD fc λo e J=>⟨o,e⟩) hk λκ' e k1 k2 n1 n2=> ?_);exact eH.pair (i:=0) (n:=cs.toArray.size) (fp:= [s.heap.objs.size+1,s.heap.objs.size,l]) (wr:= [s.heap.objs.size+1,s.heap.objs.size])
   (Pt:=λi vals=>∃t x,cs.toArray[i]? =some x/\vals= #[.int i t,x])
   (St:=λi h=>(∃old,IsEnum h (s.heap.objs.size+1) s.heap.objs.size i old)/\h.IsListIter s.heap.objs.size l i/\h.IsList l cs.toArray)
   (Mid:=λi T h=>(∃x,IsEnumOut h (s.heap.objs.size+1) s.heap.objs.size ((i:Int)+1) x T)/\h.IsListIter s.heap.objs.size l (i+1)/\h.IsList l cs.toArray/\T≠s.heap.objs.size+1/\T≠s.heap.objs.size)
   (λA hA=>Tu (prog:=X.prog) (w:=X.w) hA (s.heap.objs.size+1) s.heap.objs.size l (I6 _) n1 n2 cs.toArray)
   (λj h ⟨⟨old,q⟩,⟨o,q2,_⟩,⟨o3,q3,_⟩⟩ b hb=>by
    simp only [br,eZ,or_false] at hb
    rcases hb with rfl | rfl | rfl<;>exact ⟨_,by assumption⟩)
   (λj T h ⟨⟨old,q⟩,⟨o,q2,_⟩,⟨o3,q3,_⟩,_⟩ b hb=>by
    simp only [br,eZ,or_false] at hb
    rcases hb with rfl | rfl | rfl<;>exact ⟨_,by assumption⟩)
   ⟨⟨_,he⟩,fc,⟨ol,hk _ _ el,rl⟩⟩ ((Ix _ _).trans aL.length) (da _) (λb hb=>(br.mp hb).elim (λz=>z▸k1) λhb=>dT.mp hb▸k2)
   (λb hb=>by
    rcases br.mp hb with rfl | hb
    ·exact .inl (.head _)
    ·rcases br.mp hb with rfl | hb
     ·exact .inl (.tail _ (.head _))
     ·refine aa (dT.mp hb) ?_;exact .inr (e.bd _ ol u el).1)
   λj x vals q ⟨t,x',q1,e1⟩=>e1▸by
    refine aD (Iy _ _ _ _ q) λv q2 bQ=> ?_;subst bQ;refine aD (aL.get q2) λx2 q3 r3=> ?_;cases aN (q3.symm.trans (by simpa using q1));exact ⟨_,rfl, .cons (aa (nc ..) (.int _ _)) (.one (r3.mono e.bd))⟩
 ·refine aD (rel.g.own a _ q) λcs hl aL=> ?_;cases hv.bU
  have eG:=hl
  exact aD (eG) λol el rl=>aa (yz q) (call_enumerate_list hl.list λh' he fc bN hk=>BN he (made el he (aD fc λo e J=>⟨o,e⟩) hk λκ' e k1 k2 n1 n2=>eH.tN (i:=0) (I2:=s.heap.objs.size) ⟨_,he⟩ fc n1 n2 (I6 _) k1 k2 (da _)))
theorem C0{o:Option IE}{T:String}(h:qZ o=T)(hT:("" ==T)=false):o=some (.ah (.raw (.type T))):=by
 subst h;rcases o with _ | v<;>first | exact ff hT.symm | skip
 rcases v with ⟨⟩<;>first | exact ff hT.symm | skip
 rcases v with ⟨⟩<;>first | exact ff hT.symm | skip
 rcases v with ⟨⟩<;>first | exact ff hT.symm | rfl
theorem I7{P:Expr->II->Prop}(val:∀e ie,cE k c e=some ie->P e (.val ie))(call:∀x p args q T as i,jk c x=some (.ah (.raw (.type T)))->args.mapM (cE k c)=some as->
  ((T= "range" /\i= .range as)∨(∃a,T= "enumerate" /\as= [a]/\i= .enum a)∨(T= "zip" /\i= .zip as))->P (.Call (.Name x p) args [] q) i)  {i:II} (h:cI k c e=some i):P e i:=by
 rcases e with ⟨⟩<;>first | exact eO (val _) h | skip
 rcases func with ⟨⟩<;>first | exact eO (val _) h | skip
 rcases keywords with _ | _<;>first | exact eO (val _) h | skip
 have h:yx (qZ (jk c id)) (args.mapM (cE k c)) (cE k c (.Call (.Name id pos_1) args [] pos))=some i:=h
 unfold yx at h
 by_cases h1:(qZ (jk c id)== "range")=true
 ·have e1:=eq_of_beq h1
  exact eO (λis h2=>call id pos_1 args pos _ is _ (C0 e1 rfl) h2 (.inl ⟨rfl,rfl⟩)) ((if_pos h1).symm.trans h)
 ·replace h:=(if_neg h1).symm.trans h
  by_cases h2:(qZ (jk c id)== "enumerate")=true
  ·have e1:=eq_of_beq h2
   exact aD (cQ.mp ((if_pos h2).symm.trans h)) λis h3 h4=>eO (λa h5=>call id pos_1 args pos _ is _ (C0 e1 rfl) h3 (.inr (.inl ⟨a,rfl,y8 h5,rfl⟩))) h4
  ·replace h:=(if_neg h2).symm.trans h
   by_cases h3:(qZ (jk c id)== "zip")=true
   ·have e1:=eq_of_beq h3
    exact eO (λis h2=>call id pos_1 args pos _ is _ (C0 e1 rfl) h2 (.inr (.inr ⟨rfl,rfl⟩))) ((if_pos h3).symm.trans h)
   ·exact eO (val _) ((if_neg h3).symm.trans h)
def T9(vs:List ab)(k:ab->Prop):Prop:=match vs with
 | []=>False
 | v::r=>match r with
  | []=>k v
  | _::_=>False
theorem I8(ok:fb X)(EO:dM X ac L ae c)(Z:nj X n)(hE:SE X n L ae ac c k){i:II}{b:Bool}(hc:cI k c e=some i)(hb:nW i b=true){K:List ab->List (Addr×List ab)->St->Prop}(h:vC X n i K st){κ s A}(hr:cL n A)(rel:Rel X L ae st κ s) :
  ai X.M A (eval e ac) (λy s1=>ai X.M A (pyIter y) (vW X L ae st.σ κ s.heap b K) (λJ J=>False) s1) (λJ J=>False) s:=by
 refine I7 (P:=λe i=>nW i b=true->vC X n i K st->ai X.M A (eval e ac) (λy s1=>ai X.M A (pyIter y) (vW X L ae st.σ κ s.heap b K) (λJ J=>False) s1) (λJ J=>False) s) (λe ie rt hb h=> ?_) (λx p args q T as i h1 h2 h3 hb h=> ?_) hc hb h
 ·exact chain (hE e ie rt _ _ h) hr rel λy s1 v ax aA r1 e1 v1 k1=>aD (bE.ex k1) λvs hs k1=>weak (TW r1 v1 hs) λy s2 m=> .of r1 e1 m (λq=>ff q) k1
 ·rcases h3 with ⟨rfl,rfl⟩ | ⟨a,rfl,rfl,rfl⟩ | ⟨rfl,rfl⟩
  ·refine CY ok EO hr rel h1 (rp h2) (rq hE h2 h) λs1 ax aA vs ys r1 e1 v1 k1=> ?_;rcases vs with _ | ⟨x1,_ | ⟨x2,_ | ⟨x3,x4⟩⟩⟩<;>first | exact k1.elim | skip
   ·refine v1.c1 λy1 a1=> ?_;exact fU.of (C:=λv=>am (aj ax.σ aA) s1.heap v _->ai X.M A (call (.type "range") [_]) _ _ s1) k1 (λa k1 a1=>by
     obtain ⟨t,rfl⟩:=a1.int_inv;exact call_range_1 (weak (I4 (s:=s1) r1 (eA _ _) rfl rfl (cV _ rfl) ⟨by decide,by decide,k1.1⟩) λy s2 m=> .of r1 e1 m (λq=>ff q) (ao ((Int.sub_zero a).symm) k1.2))) a1
   ·refine v1.c λy1 zs a1 r2=>r2.c1 λy2 a2=> ?_;exact fU.of (C:=λv=>am (aj ax.σ aA) s1.heap v _->ai X.M A (call (.type "range") [_,_]) _ _ s1) k1 (λa k1 a1=>fU.of (C:=λv=>am (aj ax.σ aA) s1.heap v _->ai X.M A (call (.type "range") [_,_]) _ _ s1) k1 (λb k1 a2=>by
     obtain ⟨t,rfl⟩:=a1.int_inv;obtain ⟨u,rfl⟩:=a2.int_inv;exact call_range_2 (weak (I4 (s:=s1) r1 (eA _ _) rfl rfl (cV _ rfl) k1.1) λy s2 m=> .of r1 e1 m (λq=>ff q) k1.2)) a2) a1
  ·refine CY ok EO hr rel h1 (rp h2) (K:=λvs st=>T9 vs λv=>bE (jS st.σ v) λws=>K (l5 0 ws) (ownOf st.σ v) st) (rq hE h2 h) λs1 ax aA vs ys r1 e1 v1 k1=> ?_;rcases vs with _ | ⟨x1,_ | ⟨x2,x3⟩⟩<;>first | exact k1.elim | skip
   exact v1.c1 λy1 a1=>aD (bE.ex k1) λws hw k1=>weak (T8 r1 a1 hw) λy s2 m=>weak m λy s3 m=> .of r1 e1 m (λJ=>hb) k1
  ·exact CY ok EO hr rel h1 (rp h2) (rq hE h2 h) λs1 ax aA vs ys r1 e1 v1 k1=>weak (Z.zip k1 r1 v1 A hr) λy s2 m=>weak m λy s3 ⟨zs,kz,m⟩=> .of r1 e1 m (λJ=>hb) kz
end
section
open scoped Classical
theorem T'{X aF aA}{J:Addr}(G1:bq X aF aA s1)(hJ:s1.heap.get? J=none){a L'}(e:aA a= .frame L'):L'≠J:=λq=>by
 subst q
 have:=G1.fr a _ e
 obtain ⟨o',g⟩:=G1.lt L' (λu=>bZ (u.2.symm.trans this));exact nn (hJ.symm.trans g)
theorem bg.ng{ex:Addr->Prop}{X aF aA}{σ κ h σ' κ' h' J}(G1:bq X aF aA s1)(e:bg ex aF aA s1.heap σ κ h)(hJ:s1.heap.get? J=none)(jr:∀a,κ' a=if κ a= .frame J then .none else κ a)
  (S:c7 (aj σ κ) h (aj σ' κ') h') (hk:∀b o,κ b≠ .frame J->h.get? b=some o->h'.get? b=some o):bg ex aF aA s1.heap σ' κ' h' :=
 have ne:∀{a L'},aA a= .frame L'->κ a= .frame L'->κ a≠ .frame J:=λq q' z=>T' G1 hJ q (Tag.frame.inj (q'.symm.trans z))
 ⟨e.bd.trans S,λa o L' q n g=>dP (e.frames a o L' q n g) λq' g'=>⟨(jr a).trans ((if_neg (ne q q')).trans q'),hk a o (ne q q') g'⟩,
  λa o L' q g=>have ⟨q',o',g'⟩:=e.qW a o L' q g;q'.elim (λq'=>⟨.inl ((jr a).trans ((if_neg (ne q q')).trans q')),o',hk a o' (ne q q') g'⟩) λu=>⟨.inr (S a o' u g').1,o',(S a o' u g').2⟩⟩
section
variable{X:Cx}{n:Nat}{L:Addr}{ae:List Loc}{ac:Env}{c:CT}
structure Inv(X:Cx)(L:Addr)(ae:List Loc)(aF:ar)(aA:bM)(h1:Heap)(I:Addr)(aP:Bool)(own:List (Addr×List ab))(ce:List ab)(st:St)(κ:bM)(s:al):Prop where
 rel:Rel X L ae st κ s
 dq:bg (λa=>a=L∨a=I) aF aA h1 st.σ κ s.heap
 it:eH X (aj st.σ κ) κ s.heap I aP own ce
 hv:∀(i:Nat) l,ae[i]? =some l->κ l.addr≠ .frame I
theorem gj.tS{ex:Addr->Prop}{m fz σ κ h σ' κ' h' J}(F:gj L ae m fz σ κ h)(e:bg ex σ κ h σ' κ' h')(hv:∀(i:Nat) l,ae[i]? =some l->κ l.addr≠ .frame J):∀(i:Nat) l,ae[i]? =some l->κ' l.addr≠ .frame J:=λi l hi q =>
 (F.lt i l hi).elim λo g =>
  have k:∀L',κ l.addr= .frame L'->False:=λL' z=>(e.qW _ o L' z g).1.elim (λh=>hv i l hi (z.trans (h.symm.trans q))) λh=>bZ (h.2.symm.trans q)
  if hf:i∈fz then (F.rd i l hi hf).elim (λu=>bZ ((e.bd _ o u g).1.2.symm.trans q)) λ⟨L',_,z⟩=>k L' z else k L (F.wr i l hi hf).1
variable{aF:ar}{aA:bM}{h1:Heap}{I:Addr}{aP:Bool}{own:List (Addr×List ab)}{ce:List ab}{st st':St}{κ κ':bM}{s s':al}
theorem Inv.body(V:Inv X L ae aF aA h1 I aP own ce st κ s)(hI:I≠L)(hA:∃A:cJ,A.handled=none)(r:Rel X L ae st' κ' s')(e:bg (λz=>z =L) st.σ κ s.heap st'.σ κ' s'.heap):Inv X L ae aF aA h1 I aP own ce st' κ' s' where
 rel:=r
 dq:=V.dq.trans (e.weaken λJ q=> .inl q)
 it:=V.it.dq hI e hA
 hv:=V.rel.f.tS e V.hv
theorem Inv.wk{ce:List ab}{K:St->Prop}(V:Inv X L ae aF aA h1 I aP own ce st κ s)(h:Wk K st):∃st',Inv X L ae aF aA h1 I aP own ce st' κ s/\K st' :=
 let ⟨bs,k⟩:=h;⟨_,⟨V.rel.nY,V.dq,V.it,V.hv⟩,k⟩
theorem Inv.turn{d4:List ab}(V:Inv X L ae aF aA h1 I aP own ce st κ s)(hI:I≠L)(t:jq st.σ κ I s s')(it:eH X (aj st.σ κ) κ s'.heap I aP own d4):Inv X L ae aF aA h1 I aP own d4 st κ s' :=
 ⟨t.rel V.rel hI V.hv,V.dq.trans t.dq,it,V.hv⟩
theorem Inv.done(G1:bq X aF aA s1)(V:Inv X L ae aF aA s1.heap I aP own ce st κ s)(hI:I≠L)(pR:s1.heap.get? I=none)
  (hk:∀b o,κ b≠ .frame I->s.heap.get? b=some o->s'.heap.get? b=some o) (ho:s'.os=s.os) (hg:s'.gens=s.gens):∃κ',Rel X L ae st κ' s'/\bg (λz=>z =L) aF aA s1.heap st.σ κ' s'.heap :=
 j' (V.rel.ng hI V.hv hk ho hg) λκ' r S jr =>
 ⟨κ',r,(V.dq.ng G1 pR jr S hk).fresh G1 λa q=>q.elim .inl λz=> .inr (z▸pR)⟩
theorem noRaise{A E}{t:Sem α}{Q:α->al->Prop}(h:ai X.M A t Q (λJ J=>False) s):ai X.M A t Q E s:=aZ h (λJ J x=>x) λJ J x=>x.elim
theorem Ua(ok:fb X)(EO:dM X ac L ae c)(Z:nj X n)(hE:SE X n L ae ac c k){iter:Expr}{body:List fQ}{i:II}{gk:List Nat}{aP:Bool}{ib:List IS}
  (hc:cI k c iter=some i) (ht:kX c target=some (gk,aP)) (hb:nW i aP=true) (po:∀K st,dA X n ib K st->dG X n L ae (execs body ac) K st) (C1:∀x,foldedSetIterable iter ac x=pure x) {K:cq->St->Prop} 
  (h:vC X n i (λitems own st=>Wk (pG own (λx st K'=>pF gk aP x st λst=>dA X n ib K' st) K items) st) st):dG X n L ae (exec (.For target iter body [] pos) ac) K st:=λA κ s hr rel=>by
 refine PM (weak (I8 ok EO Z hE hc hb h hr rel) λx s1 h1=>weak h1 λy s2 p=> ?_) C1;obtain ⟨items,own,iR,ax,aA,s1,r1,e1,⟨I,bR,rfl,pR,r,e,it,hI,hv,_,_⟩,vX,hw⟩:=p;refine aD (Inv.wk ⟨r,rf e,it,hv⟩ hw) λbc V2 hw=>P0 (λk s'=>∃st' κ' ce,Inv X L ae ax.σ aA s1.heap I iR own ce st' κ' s'/\pG own (λx st K'=>pF gk aP x st λst=>dA X n ib K' st) K ce st'/\ce.length<k) ?_ (items.length+1) ⟨bc,bR,items,V2,hw,ju _⟩
 rintro k' s' ⟨st',κ',ce,V,iT,aU⟩
 have C2:Guard own st':=by cases ce<;>exact iT.1
 refine noRaise (weak (IJ (target:=target) hr.handled V.rel C2 V.it λq=>IY ht (vX q)) λr s3 h3=> ?_);rcases r with _ | y
 ·refine Gz (h3) λgn hk ho hg=> ?_;subst gn;obtain ⟨fx,r3,e3⟩:=V.done r1.g hI pR hk ho hg;exact BF ⟨.next,st',fx,r3,e1.trans e3, .next,iT.2⟩
 ·obtain ⟨x,d4,rfl,h3⟩:=h3
  have lt:d4.length+1<k':=aU
  refine noRaise (weak h3 λJ s4 t=>noRaise (weak (IX EO hr ht (V.turn hI t.t t.it).rel t.v iT.2) λJ s5 p=> ?_));obtain ⟨_,Cv,tJ,r5,e5,_,k5⟩:=p
  have V5:=(V.turn hI t.t t.it).body hI ⟨A,hr.handled⟩ r5 e5
  refine noRaise (weak (po _ _ k5 A tJ s5 hr r5) λfl s6 p=> ?_);obtain ⟨I9,vY,pS,r6,e6,vf,k6⟩:=p
  have V6:=V5.body hI ⟨A,hr.handled⟩ r6 e6
  have e7:=e1.trans (V6.dq.fresh r1.g λa q=>q.elim .inl λz=> .inr (z▸pR))
  rcases vf with _ | _ | _ | v
  ·obtain ⟨zb,V7,k7⟩:=V6.wk k6;exact ⟨d4.length+1,lt,zb,pS,d4,V7,k7,ju _⟩
  ·exact ⟨.next,vY,pS,r6,e7, .next,k6⟩
  ·obtain ⟨zb,V7,k7⟩:=V6.wk k6;exact ⟨d4.length+1,lt,zb,pS,d4,V7,k7,ju _⟩
  ·exact ⟨_,vY,pS,r6,e7, .ret v,k6⟩
end
end
section
variable{X:Cx}{n:Nat}{L:Addr}{ae:List Loc}{ac:Env}{c:CT}
theorem Ub{K:cq->St->Prop}(h:K .next st):dG X n L ae (execs [] ac) K st:=λJ J J J rel=>BF (.same rel rfl rfl rfl .next h)
def I'(P:St->Prop)(K:cq->St->Prop)(fl:cq)(st:St):Prop:=match fl with | .next=>P st | fl=>K fl st
theorem Uc{s:fQ}{ss:List fQ}{K:cq->St->Prop}
  (h:dG X n L ae (exec s ac) (I' (λst=>dG X n L ae (execs ss ac) K st) K) st):dG X n L ae (execs (s::ss) ac) K st:=λA κ s0 hr rel =>
 PH (chain h hr rel λy s1 fl ax aA r1 e1 v1 k1=>by
  rcases v1 with _ | _ | _ | v
  ·exact weak (k1 A aA s1 hr r1) λJ J p=>p.trans e1
  ·exact .to r1 e1 .brk k1
  ·exact .to r1 e1 .cont k1
  ·exact .to r1 e1 (.ret v) k1)
theorem Ud{K:cq->St->Prop}(h:K .next st):dG X n L ae (exec (.Pass pos) ac) K st:=λJ J J J rel=>by
 exact aa (arm_exec_Pass ..) (aq (cy (aM (.same rel rfl rfl rfl .next h))))
theorem Ue{t:Expr}{a b:List fQ}{K:cq->St->Prop}
  (h:jO X n L ae (iK t ac (eval t ac)) (λc ax=>bj c (dG X n L ae (execs a ac) K ax) (dG X n L ae (execs b ac) K ax)) st):dG X n L ae (exec (.If t a b pos) ac) K st:=λA κ s hr rel =>
 PK (chain h hr rel λc s1 a' ax aA r1 e1 v1 k1=>by
  cases v1;cases c<;>exact weak (k1 A aA s1 hr r1) λJ J p=>p.trans e1)
theorem Uf{t:Expr}{body:List fQ}{K:cq->St->Prop}
  (h:pH (λKb Ke st=>jO X n L ae (iK t ac (eval t ac)) (λb ax=>bj b (dG X n L ae (execs body ac) Kb ax) (Ke ax)) st) K st):dG X n L ae (exec (.While t body [] pos) ac) K st:=λA κ s hr rel=>by
 obtain ⟨S,μ,P,x,bs,hx,e0,h⟩:=h;refine PL (PY (λk s'=>∃x κ',Rel X L ae (S x) κ' s'/\bg (λz=>z =L) st.σ κ s.heap (S x).σ κ' s'.heap/\P x/\μ x=k) ?_ (μ x) ⟨x,κ,ao e0 rel.nY,ao e0 .refl,hx,rfl⟩)
 rintro k s' ⟨x',κ',r',e',hi,rfl⟩
 refine noRaise (chain (h x' hi) hr r' λb s1 b' ax aA r1 e1 v1 k1=> ?_);cases v1;cases b
 ·exact BF ⟨_,ax,aA,r1,e'.trans e1, .next,k1⟩
 ·refine noRaise (chain k1 hr r1 λfl s2 I9 bc bR r2 e2 v2 k2=> ?_)
  have e3:=(e'.trans e1).trans e2
  have again:yF S μ P x' bc->∃m,m<μ x'/\∃x κ',Rel X L ae (S x) κ' s2/\bg (λz=>z =L) st.σ κ s.heap (S x).σ κ' s2.heap/\P x/\μ x=m:=λ⟨y,bs,hm,hy,e⟩ =>
   ⟨μ y,hm,y,bR,ao e r2.nY,ao e (e3:bg _ _ _ _ (gE bs bc).σ _ _),hy,rfl⟩
  rcases v2 with _ | _ | _ | v
  ·exact again k2
  ·exact ⟨_,bc,bR,r2,e3, .next,k2⟩
  ·exact again k2
  ·exact ⟨_,bc,bR,r2,e3, .ret v,k2⟩
theorem Ug{K:cq->St->Prop}(h:K (.ret .none) st):dG X n L ae (exec (.Return none pos) ac) K st:=λJ J J J rel =>
 PJ (.same rel rfl rfl rfl (.ret (.raw _)) h)
theorem Uh{K:cq->St->Prop}(h:bO X n L ae (eval e ac) (λv st=>K (.ret v) st) st):dG X n L ae (exec (.Return (some e) pos) ac) K st:=λA κ s hr rel =>
 PI (chain h hr rel λy s1 v ax aA r1 e1 v1 k1=> .to r1 e1 (.ret v1) k1)
theorem Ui(EO:dM X ac L ae c){f:Expr}{as:List Expr}{p:Pos}{K:cq->St->Prop}(h:bO X n L ae (eval (.Call f as ks p) ac) (λJ st=>K .next st) st) :
  dG X n L ae (exec (.Expr (.Call f as ks p) pos) ac) K st:=λA κ s hr rel =>
 PS (chain h hr rel λy s1 v ax aA r1 e1 v1 k1=> .to r1 e1 .next k1) (by unfold interactive;refine aa EO.kind ?_;rfl) rfl
variable(O:Ops X n)
include O
omit O in
theorem Ja(hE:SE X n L ae ac c k){e:Option Expr}{i:Option IE}{K:Option ab->St->Prop}(hc:nX k c e=some i)(h:pJ X n i K st):ma X n L ae ac e K st:=by
 rcases e with _ | e
 ·cases hc;exact h
 ·exact eO (f:=some) (P:=λi=>pJ X n i K st->bO X n L ae (eval e ac) (λv st=>K (some v) st) st) (λie h1 h=>hE e ie h1 _ _ h) hc h
omit O in
theorem ma.mono{e:Option Expr}{K K':Option ab->St->Prop}(h:ma X n L ae ac e K st)(k:∀v st,K v st->K' v st):ma X n L ae ac e K' st:=by
 rcases e with _ | e
 ·exact k _ _ h
 ·exact mV.mono h λv st=>k _ st
omit O in
theorem Jb(hE:SE X n L ae ac c k){lo hi:Option Expr}{l u:Option IE}{K:Option ab->Option ab->St->Prop}(h1:nX k c lo=some l)(h2:nX k c hi=some u)(h:pJ X n l (λl st=>pJ X n u (λu st=>K l u st) st) st) :
  ma X n L ae ac lo (λl ax=>ma X n L ae ac hi (λu bc=>K l u bc) ax) st:=(Ja hE h1 h).mono λJ J q=>Ja hE h2 q
omit O in
theorem C3{P:Expr->IT->Prop}(name:∀x p i,jP c x=some i->P (.Name x p) (.v i))(attr:∀o x p io,cE k c o=some io->P (.Attribute o x p) (.a io x))
  (slice:∀o lo hi q p io l u,nX k c lo=some l->nX k c hi=some u->cE k c o=some io->P (.Subscript o (.Slice lo hi none q) p) (.slice io l u))
  (sub:∀o i p io ii,cE k c o=some io->cE k c i=some ii->P (.Subscript o i p) (.sub io ii)) {t:Expr} {it:IT} (h:cT k c t=some it):P t it:=by
 rcases t with ⟨⟩<;>first | exact nn h | exact eO (name _ _) h | exact b1 (attr _ _ _) h | skip
 rcases slice_1 with ⟨⟩<;>first | exact b2 (sub _ _ _) h | skip
 rcases step with _ | _
 ·exact aD (cQ.mp h) λl h1 h=>aD (cQ.mp h) λu h2 h=>eO (λio h3=>slice _ _ _ _ _ io l u h1 h2 h3) h
 ·exact b2 (sub _ _ _) h
theorem C4(EO:dM X ac L ae c)(hE:SE X n L ae ac c k){t:Expr}{it:IT}{K:St->Prop}{κ s A}(hr:cL n A)(hc:cT k c t=some it)(rel:Rel X L ae st κ s)(hv:am (aj st.σ κ) s.heap v y)
  (h:tH X n it v K st):ai X.M A (assign t ac y) (Post X L ae st.σ κ s.heap ig (λJ=>K)) (λJ J=>False) s:=by
 refine C3 (P:=λt it=>tH X n it v K st->ai X.M A (assign t ac y) (Post X L ae st.σ κ s.heap ig (λJ=>K)) (λJ J=>False) s) (λx p i hi h=>CM EO hi rel hv h) (λo x p io h1 h=> ?_) (λo lo hi q p io l u h1 h2 h3 h=> ?_) (λo i p io ii h1 h2 h=> ?_) hc h
 ·exact aa (assign_Attribute ..) (aq (bH (chain (hE o io h1 _ _ h) hr rel λy1 s1 ov ax aA r1 e1 v1 k1=>aq (cy (aq (bH (weak (O.setAttr (K:=λJ=>K) k1 r1 v1 (hv.mono e1.bd) A hr) λJ J p=>yP (p.trans e1))))))))
 ·refine aa (Uj ..) ?_;exact aq (bH (chain (hE o io h3 _ _ h) hr rel λy1 s1 ov ax aA r1 e1 v1 k1=>aq (bH (Iv (Jb hE h1 h2 k1) hr r1 λs2 l' u' bc bR lv uv d r2 e2 vl vu hd me k2=>aq (cy (aq (bH
   (weak (O.H5 (K:=λJ=>K) k2 r2 (v1.mono e2.bd) vl vu (hv.mono (e1.trans e2).bd) hd me A hr) λJ J p=>yP (p.trans (e1.trans e2))))))))))
 ·refine aa (Uj ..) ?_;exact aq (bH (chain (hE o io h1 _ _ h) hr rel λy1 s1 ov ax aA r1 e1 v1 k1=>aq (bH (chain (hE i ii h2 _ _ k1) hr r1 λy2 s2 iv bc bR r2 e2 v2 k2=>aq (cy (aq (bH
   (weak (O.Ct (K:=λJ=>K) k2 r2 (v1.mono e2.bd) v2 (hv.mono (e1.trans e2).bd) A hr) λJ J p=>yP (p.trans (e1.trans e2))))))))))
end
section
variable {r:List (Str×cz)}
noncomputable def fe(C:Addr)(cells:List (Str×Addr)):List (Str×cz)->List Loc
 | []=> []
 | (x,k)::r=>if k== .local || k== .cell then (if k== .local then Loc.loc C x else .cell ((cells.lookup x).getD 0))::fe C cells r else fe C cells r
theorem zc{C:Addr}{cells:List (Str×Addr)}{p:Str×cz}:fe C cells (p::r)=if (p.2== .local || p.2== .cell)=true then (if (p.2== .local)=true then Loc.loc C p.1 else .cell ((cells.lookup p.1).getD 0))::fe C cells r else fe C cells r:=rfl
theorem Jc{p:Str×cz}{n:Nat}:dr (p::r) n=if (p.2== .local || p.2== .cell)=true then (p.1,n)::dr r (n+1) else dr r n:=rfl
theorem vZ{C cells}(ns:List (Str×cz)):∀n:Nat,(fe C cells ns).length=(dr ns n).length:=by
 induction ns with
 | nil=>exact λJ=>rfl
 | cons p r ih =>
  intro n;refine aH zc Jc ?_
  by_cases q:(p.2== .local || p.2== .cell)=true
  ·exact aH (if_pos q) (if_pos q) (congrArg (λz=>z +1) (ih (n+1)))
  ·exact aH (if_neg q) (if_neg q) (ih n)
def v6(C:Addr)(cells:List (Str×Addr))(x:Str)(k:cz)(l:Loc):Prop:=(k= .local/\l= .loc C x)∨(k= .cell/\l= .cell ((cells.lookup x).getD 0))
theorem zd{C cells x k}(q:(k== .local || k== .cell)=true):v6 C cells x k (if (k==cz.local)=true then Loc.loc C x else Loc.cell ((cells.lookup x).getD 0)):=by
 rcases k with ⟨⟩<;>first | exact ff q | exact .inl ⟨rfl,rfl⟩ | exact .inr ⟨rfl,rfl⟩
theorem C5{C cells}{i:Nat}(ns:List (Str×cz)):∀n:Nat,(dr ns n).lookup x=some i->n≤i/\∃k,(x,k)∈ns/\∃l,(fe C cells ns)[i - n]? =some l/\v6 C cells x k l:=by
 induction ns with
 | nil=>exact λJ=>nn
 | cons p r ih =>
  obtain ⟨y,k⟩:=p;intro n h;rw [Jc] at h
  refine aa zc ?_
  by_cases q:(k== .local || k== .cell)=true
  ·rw [if_pos q,lh] at h
   refine aa (if_pos q) ?_;rcases kt:x==y with _ | _
   ·rw [kt] at h
    obtain ⟨h1,k',h2,l,h3⟩:=ih (n+1) h;exact ⟨ip h1,k', .tail _ h2,l,by refine aa ((Uk (ru h1)).symm) ?_;exact h3⟩
   ·rw [kt] at h
    cases aN h;cases eq_of_beq kt;exact ⟨cg _,k, .head _,_,by refine aa (Ul ..) ?_;rfl,zd q⟩
  ·rw [if_neg q] at h ⊢
   obtain ⟨h1,k',h2,h3⟩:=ih n h;exact ⟨h1,k', .tail _ h2,h3⟩
theorem rx{p:Str×cz}(hn:jQ (p::r)=true):(∀k,(p.1,k)∉r)/\jQ r=true :=
 ⟨λk h=>ff (((l8 _).mp (bP.mp hn).1).symm.trans (Um.mpr ⟨_,h,beq_self_eq_true _⟩)),(bP.mp hn).2⟩
theorem oq{k:cz}{ns:List (Str×cz)}(hn:jQ ns=true)(h:(x,k)∈ns):ns.lookup x=some k:=by
 induction ns with
 | nil=>cases h
 | cons p r ih =>
  refine aa lh ?_;rcases br.mp h with rfl | h
  ·exact aa (beq_self_eq_true ..) rfl
  ·exact aa (show (x==p.1)=false from beq_eq_false_iff_ne.mpr λe=>(rx hn).1 k (ao e h)) (ih (rx hn).2 h)
theorem C6{C cells}{l:Loc}{ns:List (Str×cz)}(h:l∈fe C cells ns):∃x k,(x,k)∈ns/\v6 C cells x k l:=by
 induction ns with
 | nil=>cases h
 | cons p r ih =>
  have tl:l∈fe C cells r->_:=λh=>jg (ih h) λx k a b=>(⟨x,k, .tail p a,b⟩:∃x k,(x,k)∈p::r/\v6 C cells x k l)
  rw [zc] at h
  by_cases q:(p.2== .local || p.2== .cell)=true
  ·rw [if_pos q] at h
   rcases br.mp h with rfl | h
   ·exact ⟨p.1,p.2, .head _,zd q⟩
   ·exact tl h
  ·rw [if_neg q] at h
   exact tl h
theorem Un{C cells}{ns:List (Str×cz)}(hn:jQ ns=true)
  (hc:∀x y,(x,mf)∈ns->(y,mf)∈ns->(cells.lookup x).getD 0=(cells.lookup y).getD 0->x=y):∀{i j:Nat} {l:Loc},(fe C cells ns)[i]? =some l->(fe C cells ns)[j]? =some l->i=j:=by
 induction ns with
 | nil=>exact λh=>nn h
 | cons p r ih =>
  obtain ⟨y,k⟩:=p
  have ih:=λ{i j l}=>ih (rx hn).2 (λx y hx hy=>hc x y (.tail _ hx) (.tail _ hy)) (i:=i) (j:=j) (l:=l)
  have Jd:∀{l} {q:Nat},v6 C cells y k l->(fe C cells r)[q]? ≠some l:=λ{l q} hl hq=>by
   refine jg (C6 (cw hq)) λx k' h1 h2=> ?_
   have:=(rx hn).1 k'
   rcases hl with ⟨rfl,rfl⟩ | ⟨rfl,rfl⟩<;>rcases h2 with ⟨rfl,h2⟩ | ⟨rfl,h2⟩<;>first | exact Hh h2 | exact Hh h2.symm | skip
   ·cases h2;exact this h1
   ·exact this (ao (hc x y (.tail _ h1) (.head _) (Loc.cell.inj h2).symm) h1)
  intro i j l;refine aa zc ?_
  by_cases q:(k== .local || k== .cell)=true
  ·refine aa (if_pos q) ?_;intro hi hj;rcases i with _ | i<;>rcases j with _ | j
   ·rfl
   ·exact absurd hj (Jd (ao (aN hi) (zd q)))
   ·exact absurd hi (Jd (ao (aN hj) (zd q)))
   ·exact congrArg (λz=>z +1) (ih hi hj)
  ·exact aa (if_neg q) ih
noncomputable def iq(ac:Env):List (Str×cz)->List (Str×Addr)->List (Str×Addr)
 | [],acc=>acc
 | (x,k)::r,acc=>if k== .free then iq ac r ((x,(ac.cells.lookup x).getD 0)::acc) else iq ac r acc
theorem Uo{acc:List (Str×Addr)}:iq ac [] acc=acc:=rfl
theorem ze{p:Str×cz}{acc:List (Str×Addr)}:iq ac (p::r) acc=if (p.2== .free)=true then iq ac r ((p.1,(ac.cells.lookup p.1).getD 0)::acc) else iq ac r acc:=rfl
theorem Je(h:∀p∈scope.names,p.2= .free->∃a,ac.cells.lookup p.1=some a):closureFor scope ac=pure (iq ac scope.names []):=by
 have pL:∀(ns:List (Str×cz)) (acc:List (Str×Addr)) (f:Str×cz->List (Str×Addr)->Sem (ForInStep (List (Str×Addr)))),
   (∀name kind cs,f (name,kind) cs=if kind== .free then (do let a<-cellOf ac name;pure (.yield ((name,a)::cs))) else pure (.yield cs))->
   (∀p∈ns,p.2= .free->∃a,ac.cells.lookup p.1=some a)->(forIn ns acc f:Sem _)=pure (iq ac ns acc):=by
  intro ns
  induction ns with
  | nil=>intro acc f _ _;rfl
  | cons p r ih =>
   intro acc f hf h;obtain ⟨x,k⟩:=p;refine aa (pi ..) (aa (hf ..) ?_);refine aa ze ?_
   split
   ·rename_i hk
    have d5:k= .free:=by simpa using hk
    obtain ⟨a,ha⟩:=h (x,k) (.head _) d5;refine aa (show cellOf ac x=pure a by unfold cellOf;rw [ha]) ?_;simp only [pure_bind,ha,Up];exact ih _ f hf λp hp=>h p (.tail _ hp)
   ·simp only [pure_bind];exact ih _ f hf λp hp=>h p (.tail _ hp)
 unfold closureFor;dsimp only;refine aa (pL scope.names [] _ (λname kind cs=>by cases hk:kind==jW<;>simp [hk]) h) ?_
 rfl
theorem Jf(ns:List (Str×cz)):∀acc:List (Str×Addr),(∀k,(x,k)∈ns->k≠ .free)->(iq ac ns acc).lookup x=acc.lookup x:=by
 induction ns with
 | nil=>exact λJ J=>rfl
 | cons p r ih =>
  intro acc h;refine aa ze ?_
  by_cases q:(p.2== .free)=true
  ·exact aa (if_pos q) (aa (ih _ λk q=>h k (.tail _ q)) (aa lh (aa (show (x==p.1)=false from beq_eq_false_iff_ne.mpr λe=>h p.2 (e▸ .head _) (eq_of_beq q)) rfl)))
  ·exact aa (if_neg q) (ih _ λk q=>h k (.tail _ q))
theorem Uq{k k':cz}(hn:jQ ((x,k)::r)=true):(x,k')∉r:=(rx hn).1 k'
theorem Ur(ns:List (Str×cz)):∀acc:List (Str×Addr),jQ ns=true->(x,jW)∈ns->(iq ac ns acc).lookup x=some ((ac.cells.lookup x).getD 0):=by
 induction ns with
 | nil=>exact λJ J h=>by cases h
 | cons p r ih =>
  intro acc hn h;refine aa ze ?_;rcases br.mp h with rfl | h
  ·exact aa (if_pos (by rfl)) (aa (Jf r _ λk q=>absurd q (Uq hn)) (aa lh (aa (beq_self_eq_true ..) rfl)))
  ·by_cases q:(p.2== .free)=true
   ·exact aa (if_pos q) (ih _ (rx hn).2 h)
   ·exact aa (if_neg q) (ih _ (rx hn).2 h)
theorem tT(ns:List (Str×cz)):∀(n:Nat) (acc:List (Str×Addr)),cellsFrom n ns acc=cellsFrom n ns []++acc:=by
 induction ns with
 | nil=>exact λJ J=>rfl
 | cons p r ih =>
  intro n acc;unfold cellsFrom
  by_cases q:(p.2== .cell)=true
  ·refine aH (if_pos q) (if_pos q) (aH (ih (n+1) (_::acc)) (ih (n+1) [_]) (aa (lj ..) ?_));rfl
  ·exact aH (if_neg q) (if_neg q) (ih n acc)
theorem Us(ns:List (Str×cz)):∀n:Nat,(x,a)∈cellsFrom n ns []->(x,mf)∈ns:=by
 induction ns with
 | nil=>exact λJ h=>by cases h
 | cons p r ih =>
  intro n h;unfold cellsFrom at h
  by_cases q:(p.2== .cell)=true
  ·rw [if_pos q,tT] at h
   rcases ji.mp h with h | h
   ·exact .tail _ (ih _ h)
   ·cases dT.mp h;exact ao (eq_of_beq q) (.head _)
  ·rw [if_neg q] at h;exact .tail _ (ih _ h)
theorem Ut{l:List (Str×α)}(h:∀a,(x,a)∉l):l.lookup x=none:=by
 induction l with
 | nil=>rfl
 | cons p r ih=>refine aa lh (aa (show (x==p.1)=false from beq_eq_false_iff_ne.mpr λe=>h p.2 (e▸ .head _)) ?_);exact ih λa q=>h a (.tail _ q)
theorem zg(ns:List (Str×cz)):∀n:Nat,(x,mf)∈ns->∃a,(cellsFrom n ns []).lookup x=some a:=by
 induction ns with
 | nil=>exact λJ h=>by cases h
 | cons p r ih =>
  intro n h;unfold cellsFrom
  by_cases q:(p.2== .cell)=true
  ·refine aa (if_pos q) (aa (tT ..) (aa zh ?_));rcases hq:(cellsFrom (n+1) r []).lookup x with _ | a
   ·rcases br.mp h with rfl | h
    ·exact ⟨n,by refine aa lh (aa (beq_self_eq_true ..) ?_);rfl⟩
    ·exact (ih (n+1) h).elim λa e=>nn (hq.symm.trans e)
   ·exact ⟨a,rfl⟩
  ·refine aa (if_neg q) ?_;rcases br.mp h with rfl | h
   ·exact absurd rfl q
   ·exact ih n h
end
section
variable{X:Cx}{σ:ar}{κ:bM}{s s':al}
structure pT(ae:List Loc)(m:List (Option ab))(σ:ar)(κ:bM)(h:Heap):Prop where
 len:m.length=ae.length
 lt:∀(i:Nat) l,ae[i]? =some l->∃o,h.get? l.addr=some o
 vals:∀(i:Nat) v,m[i]? =some (some v)->∃l y,ae[i]? =some l/\lT h l y/\am (aj σ κ) h v y
 rd:∀(i:Nat) l,ae[i]? =some l->aj σ κ l.addr∨∃L',κ l.addr= .frame L'
theorem gj.outer{L ae m fz h}(F:gj L ae m fz σ κ h):pT ae m σ κ h where
 len:=F.len
 lt:=F.lt
 vals:=F.vals
 rd:=λi l e=>if q:i∈fz then (F.rd i l e q).imp id λh=>h.imp λJ z=>z.2 else .inr ⟨L,(F.wr i l e q).1⟩
theorem pT.nil{h}:pT [] [] σ κ h:=⟨rfl,λJ J=>nn,λJ J=>nn,λJ J=>nn⟩
structure Jg(h h':Heap)(C:Addr)(cs:List (Str×Addr)):Prop where
 k:∀b o,h.get? b=some o->h'.get? b=some o
 old:∀b o,h.get? b=some o->b<C
 ns:h'.Ns C λJ=>none
 cell:∀x a,(x,a)∈cs->h'.IsCell a none/\C<a
 inj:∀x y a,(x,a)∈cs->(y,a)∈cs->x=y
theorem zi(h:Heap)(ns:List (Str×cz))(T:Value):Jg h (pushCells (h.push {cls:=T,data:= .dict #[]}) ns) h.objs.size (cellsFrom (h.objs.size+1) ns []):=by
 have bN:(h.push {cls:=T,data:= .dict #[]}).objs.size=h.objs.size+1:=ot ..
 have ok:=cellsFrom_ok ns (h.push {cls:=T,data:= .dict #[]}) (h.objs.size+1) [] ⟨λJ J hm=>(nomatch hm),ahT⟩ (by refine aa bN ?_;exact cg _)
 rw [bN] at ok
 exact ⟨λb o e=>Uu _ _ _ _ (fy _ e),λb o e=>cR e,(ahU h T).keeps (Uu _ _),λx a hm=>ok.empty x a hm,λx y a=>name_of_addr ok.apart⟩
theorem Uv{ae:List Loc}{m:List (Option ab)}(G:bq X σ κ s)(Ou:pT ae m σ κ s.heap){ns:List (Str×cz)}(hn:jQ ns=true){C:Addr}{cs cl:List (Str×Addr)}(F:Jg s.heap s'.heap C cs)(hC:s.heap.objs.size=C)
  (vR:∀x,(x,mf)∈ns->∃a,cl.lookup x=some a/\(x,a)∈cs) (ho:s'.os=s.os) (hg:s'.gens=s.gens) :
  ∃κ',bq X σ κ' s'/\bg (λJ=>False) σ κ s.heap σ κ' s'.heap/\gj C (ae++fe C cl ns) (m++ci (fe C cl ns).length none) (aK ae.length) σ κ' s'.heap/\∀a,(∃o,s.heap.get? a=some o)->κ' a=κ a:=by
 obtain ⟨G1,e1,ve⟩:=G.tag (s':=s') (C::cs.map (λz=>z.2)) C (.head _) (λa ha=>by
  rcases br.mp ha with rfl | ha
  ·obtain ⟨o,_,_,g,_⟩:=F.ns;exact ⟨b6 hC,o,g⟩
  ·obtain ⟨⟨x,a'⟩,hm,rfl⟩:=bJ.mp ha;obtain ⟨⟨o,g,_⟩,c9⟩:=F.cell x a' hm;exact ⟨hC▸bS c9,o,g⟩) F.k ho hg
 refine ⟨_,G1,e1, ?_,ve⟩
 have C7:∀{a},a∈C::cs.map (λz=>z.2)->fX κ (C::cs.map (λz=>z.2)) C a= .frame C:=λh=>if_pos h
 generalize fX κ (C::cs.map (λz=>z.2)) C=κ' at *
 have C8:∀l∈fe C cl ns,C≤l.addr/\κ' l.addr= .frame C/\px C s'.heap l/\∃o,s'.heap.get? l.addr=some o:=λl hl=>by
  obtain ⟨x,k,hx,⟨rfl,rfl⟩ | ⟨rfl,rfl⟩⟩:=C6 hl
  ·exact o9 (F.ns) λo J J g J=>⟨cg _,C7 (.head _),rfl,o,g⟩
  ·refine aD (vR x hx) λa ha hm=>aa ha ?_;obtain ⟨hc,c9⟩:=F.cell x a hm;exact ⟨bS c9,C7 (.tail _ (bJ.mpr ⟨_,hm,rfl⟩)),⟨fK c9,none,hc⟩,hc.imp λo g=>g.1⟩
 have at_:∀{P:Nat->Loc->Prop},(∀(i:Nat) l,i<ae.length->ae[i]? =some l->P i l)->(∀(i:Nat) l,ae.length≤i->(fe C cl ns)[i - ae.length]? =some l->P i l)->∀(i:Nat) l,(ae++fe C cl ns)[i]? =some l->P i l:=λa b i l e=>by
  by_cases q:i<ae.length
  ·exact a i l q (by rwa [nk q] at e)
  ·have q:=dC.mp q
   exact b i l q (by rwa [pU q] at e)
 have S:=e1.bd
 exact {
  tag:=C7 (.head _)
  ns:=⟨_,F.ns⟩
  len:=aH de de (aH pV Ou.len rfl)
  lt:=at_ (P:=λJ l=>∃o,s'.heap.get? l.addr=some o) (λi l J h=>(Ou.lt i l h).imp (F.k _)) λi l J h=>(C8 l (cw h)).2.2.2
  vals:=λi v e=>by
   by_cases q:i<m.length
   ·rw [nk q] at e
    exact eV (Ou.vals i v e) λl y a b c=>⟨l,y,(nk (Ou.len▸q)).trans a,b.keeps λo=>F.k _ o,c.mono S⟩
   ·rw [pU (dC.mp q),List.getElem?_replicate] at e
    split at e
    ·cases e
    ·cases e
  rd:=at_ (P:=λi l=>i∈aK ae.length->_) (λi l J h J=>(Ou.lt i l h).elim λo g=>(Ou.rd i l h).imp (λu=>(S _ o u g).1) λ⟨L',z⟩=>⟨L',⟨λq=>by
   have:=G.fr _ _ z
   obtain ⟨o',g'⟩:=G.lt L' λu=>bZ (u.2.symm.trans this);exact iM _ (q▸F.old _ _ g'),F.old _ _ g⟩,(ve _ ⟨o,g⟩).trans z⟩) λi l q J hi=>absurd (fZ.mp hi) (dC.mpr q)
  wr:=at_ (P:=λi l=>i∉aK ae.length->_) (λi l q J hi=>absurd (fZ.mpr q) hi) λi l J h J=>have z:=C8 l (cw h);⟨z.2.1,z.2.2.1⟩
  nodup:=λi j l hi h1 h2=>by
   have q:ae.length≤i:=dC.mp λq=>hi (fZ.mpr q)
   rw [pU q] at h1
   have n:=(C8 l (cw h1)).1
   refine at_ (P:=λj l'=>l'=l->i=j) (λj l' J h' e=> ?_) (λj l' q' h' e=> ?_) j l h2 rfl
   ·obtain ⟨o,g⟩:=Ou.lt j l' h';exact absurd (F.old _ _ g) (dC.mpr (e▸n))
   ·have:=Un hn (λx y hx hy q=>by
     refine aD (vR x hx) λa ha v7=>aD (vR y hy) λb hb yS=> ?_;rw [ha,hb] at q
     exact F.inj x y a v7 ((show a=b from q)▸yS)) h1 (e▸h')
    exact sU (wc q) (wc q') (aa this rfl)}
theorem Jh{ae:List Loc}{m:List (Option ab)}(G:bq X σ κ s)(Ou:pT ae m σ κ s.heap)(ns:List (Str×cz))(hn:jQ ns=true)(cl:List (Str×Addr))(T:Value)
  (hcl:∀x,(x,mf)∈ns->cl.lookup x=none)
   (Ji:s1={s with heap:=pushCells (s.heap.push {cls:=T,data:= .dict #[]}) ns}) {locs:List Loc} (C9:locs=fe s.heap.objs.size (cellsFrom (s.heap.objs.size+1) ns cl) ns) :
  ∃κ',bq X σ κ' s1/\bg (λJ=>False) σ κ s.heap σ κ' s1.heap/\gj s.heap.objs.size (ae++locs) (m++ci locs.length none) (aK ae.length) σ κ' s1.heap/\
   ∀a,(∃o,s.heap.get? a=some o)->κ' a=κ a:=by
 subst Ji C9;exact Uv (s':={s with heap:=pushCells (s.heap.push {cls:=T,data:= .dict #[]}) ns}) G Ou hn (zi s.heap ns T) rfl (λx hx=>(zg ns (s.heap.objs.size+1) hx).elim λa ha=>⟨a,by refine aa (tT ..) (aa zh (aa ha ?_));rfl,mem_of_lookup ha⟩) rfl rfl
end
section
variable {idx oi:List (Str×Nat)}
theorem Uw{names:List (Str×cz)} :
  (names.map λ(n,k)=>if (k==jW&&ac.scope.kind== .function&&ac.kindOf n==some .cell) then (n,mf) else (n,k)).lookup x =
   (names.lookup x).map λk=>if (k==jW&&ac.scope.kind== .function&&ac.kindOf x==some .cell)=true then .cell else k:=by
 have e:(names.map λ(n,k)=>if (k==jW&&ac.scope.kind== .function&&ac.kindOf n==some .cell) then (n,mf) else (n,k))=names.map λp=>(p.1,if (p.2==jW&&ac.scope.kind== .function&&ac.kindOf p.1==some .cell)=true then .cell else p.2) :=
  f0 λp J=>by
   by_cases q:(p.2==jW&&ac.scope.kind== .function&&ac.kindOf p.1==some .cell)=true
   ·exact aa (if_pos q) (if_pos q)
   ·exact aa (if_neg q) (if_neg q)
 refine aa e ?_;clear e
 induction names with
 | nil=>rfl
 | cons p r ih =>
  refine aa eP (aa lh (aa lh ?_));rcases q:x==p.1 with _ | _
  ·exact ih
  ·cases eq_of_beq q;rfl
theorem Jj{p:Str×cz}{r:List (Str×cz)}{C:List (Str×Nat)->Prop}(a:∀j l,p.2= .free->idx.lookup p.1=some j->ij idx r=some l->C ((p.1,j)::l))(b:∀oi,p.2≠ .free->ij idx r=some oi->C oi){oi}(h:ij idx (p::r)=some oi):C oi:=by
 change (if (p.2== .free)=true then (match idx.lookup p.1,ij idx r with | some i,some l=>some ((p.1,i)::l) | _,_=>none) else ij idx r)=some oi at h
 by_cases q:(p.2== .free)=true
 ·rw [if_pos q] at h
  rcases e1:idx.lookup p.1 with _ | j<;>rcases e2:ij idx r with _ | l<;>rw [e1,e2] at h<;>first | exact nn h | exact aN h▸a j l (eq_of_beq q) e1 e2
 ·rw [if_neg q] at h
  exact b oi (λe=>q (aa e rfl)) h
theorem Ux{i:Nat}{ns:List (Str×cz)}:∀{oi:List (Str×Nat)},ij idx ns=some oi->oi.lookup x=some i->(x,jW)∈ns/\idx.lookup x=some i:=by
 induction ns with
 | nil=>exact λh q=>by cases h;exact nn q
 | cons p r ih =>
  refine λ{oi}=>Jj (C:=λoi=>oi.lookup x=some i->_) (λj l hk h1 h2 q=> ?_) (λoi J h q=>(ih h q).imp (.tail _) id);rw [lh] at q
  rcases e:x==p.1 with _ | _
  ·rw [e] at q;exact (ih h2 q).imp (.tail _) id
  ·rw [e] at q
   cases eq_of_beq e;exact ⟨ao hk (.head _),h1.trans q⟩
theorem Uy{ns:List (Str×cz)}:∀{oi:List (Str×Nat)},ij idx ns=some oi->(x,jW)∈ns->∃i,idx.lookup x=some i:=by
 induction ns with
 | nil=>exact λJ q=>by cases q
 | cons p r ih =>
  refine λ{oi}=>Jj (C:=λJ=>_->∃i,idx.lookup x=some i) (λj l J h1 h2 q=> ?_) (λoi hk h q=> ?_)
  ·rcases br.mp q with rfl | q
   ·exact ⟨j,h1⟩
   ·exact ih h2 q
  ·rcases br.mp q with rfl | q
   ·exact absurd rfl hk
   ·exact ih h q
theorem Uz{outer:List (Str×cz)}{ns:List (Str×cz)}(hf:freeOk outer ns=true)(h:(x,jW)∈ns):gQ x=false/\(outer.lookup x=some .cell∨outer.lookup x=some .free):=by
 induction ns with
 | nil=>cases h
 | cons p r ih =>
  rcases br.mp h with rfl | h
  ·have:=bP.mp ((if_pos rfl).symm.trans (bP.mp hf).1)
   exact ⟨(l8 _).mp this.1,(Jk.mp this.2).imp eq_of_beq eq_of_beq⟩
  ·exact ih (bP.mp hf).2 h
section
variable{X:Cx}{n:Nat}{L:Addr}{ae:List Loc}{ac:Env}{c:CT}
noncomputable def Da(scope:nQ)(ac:Env)(C:Addr):Env :=
 {newEnv scope C ac.globals (cellsFrom (C+1) scope.names (iq ac scope.names [])) ac.qual none .none (some ac) builtinsNs with scope:=relabel scope ac}
theorem Jl(EO:dM X ac L ae c)(hs:qY c.names scope=true)(ho:ij c.idx scope.names=some oi)(hx:(x,jW)∈scope.names) :
  (ac.kindOf x=some .cell∨ac.kindOf x=some .free)/\∃a i,ac.cells.lookup x=some a/\c.idx.lookup x=some i/\ae[i]? =some (.cell a):=by
 obtain ⟨hb,hk⟩:=Uz (bP.mp hs).2 hx;obtain ⟨i,hi⟩:=Uy ho hx;refine aD (EO.idx x i hb (hk.elim (λe=>e▸rfl) λe=>e▸rfl) hi) λl hl h=> ?_;rcases h with ⟨h,_⟩ | ⟨h,a,ha,rfl⟩
 ·have no:∀{k},k≠ .local->ac.kindOf x≠some k:=λn q=>n (aN (q.symm.trans h))
  exact hk.elim (λhk=>(EO.kinds x _ hk).elim (λq=>absurd q (no (by decide))) λq=>absurd q.2 (no (by decide))) λhk=>(EO.kinds x _ hk).elim (λq=>absurd q (no (by decide))) λq=>absurd q.2 (no (by decide))
 ·exact ⟨h,a,i,ha,hi,hl⟩
theorem UA(EO:dM X ac L ae c)(hs:qY c.names scope=true)(ho:ij c.idx scope.names=some oi)(C:Addr) :
  dM X (Da scope ac C) C (ae++fe C (cellsFrom (C+1) scope.names (iq ac scope.names [])) scope.names) (nh c scope oi):=by
 have fu:=bP.mp hs
 have d6:=(bP.mp fu.1).2
 have lk:∀{x k},scope.names.lookup x=some k->(Da scope ac C).kindOf x=some (if (k==jW&&ac.scope.kind== .function&&ac.kindOf x==some .cell)=true then .cell else k):=λ{x k} h=>Uw.trans (h▸rfl)
 refine {kind:=eq_of_beq (bP.mp fu.1).1,locals:=rfl,globals:=EO.globals,builtins:=EO.builtins,n:= ?_,G:=EO.G,tab:=ff,glob:=λx h=>lk h,kinds:=λx k h=> ?_,idx:=λx i hb hk hi=> ?_}
 ·refine aa de (aa (vZ scope.names c.n) ?_);exact congrArg (λz=>z +_) EO.n
 ·by_cases q:(k==jW&&ac.scope.kind== .function&&ac.kindOf x==some .cell)=true
  ·exact .inr ⟨eq_of_beq (bP.mp (bP.mp q).1).1,(lk h).trans (congrArg _ (if_pos q))⟩
  ·exact .inl ((lk h).trans (congrArg _ (if_neg q)))
 ·have hi:(dr scope.names c.n++oi).lookup x=some i:=hi
  rw [zh] at hi
  rcases hq:(dr scope.names c.n).lookup x with _ | j
  ·rw [hq] at hi
   obtain ⟨hm,hi⟩:=Ux ho hi;obtain ⟨d5,a,i',ha,me,hl⟩:=Jl EO hs ho hm;cases aN (hi.symm.trans me)
   have mh:=oq d6 hm
   refine ⟨_,(nk (du.mp hl).1).trans hl, .inr ⟨?_,a, ?_,rfl⟩⟩
   ·refine aa (lk mh) ?_
    by_cases q:(jW==jW&&ac.scope.kind== .function&&ac.kindOf x==some .cell)=true
    ·exact .inl (congrArg _ (if_pos q))
    ·exact .inr (congrArg _ (if_neg q))
   ·refine (?_:(cellsFrom (C+1) scope.names (iq ac scope.names [])).lookup x=some a);refine aa (tT ..) (aa zh (aa (Ut (l:=cellsFrom (C+1) scope.names []) (λb hb=>by
     have:=mh.symm.trans (oq d6 (Us _ _ hb));cases this)) (aa (Ur _ _ d6 hm) (aa ha ?_))));rfl
  ·rw [hq] at hi
   cases aN hi;obtain ⟨c9,k,hm,l,h,ho⟩:=C5 (C:=C) (cells:=cellsFrom (C+1) scope.names (iq ac scope.names [])) _ _ hq;refine ⟨l,by rw [pU (ao EO.n c9),<-EO.n];exact h, ?_⟩;rcases ho with ⟨rfl,rfl⟩ | ⟨rfl,rfl⟩
   ·exact .inl ⟨lk (oq d6 hm),rfl⟩
   ·obtain ⟨a,ha⟩:=zg scope.names (C+1) hm
    have Jm:(cellsFrom (C+1) scope.names (iq ac scope.names [])).lookup x=some a:=by refine aa (tT ..) (aa zh (aa ha ?_));rfl
    exact .inr ⟨.inl (lk (oq d6 hm)),a,Jm,aa Jm rfl⟩
theorem UB(EO:dM X ac L ae c)(hs:qY c.names scope=true)(ho:ij c.idx scope.names=some oi):closureFor scope ac=pure (iq ac scope.names []) :=
 Je λp hp hk=>by
  obtain ⟨x,k⟩:=p;cases hk;obtain ⟨_,a,_,ha,_⟩:=Jl EO hs ho hp;exact ⟨a,ha⟩
theorem UC(hn:jQ scope.names=true)(hx:(x,mf)∈scope.names):(iq ac scope.names []).lookup x=none :=
 (Jf _ _ λk hk e=>by subst e;have:=(oq hn hx).symm.trans (oq hn hk);cases this)
theorem UD{M:Model}{A E s}{cl:List (Str×Addr)}{Q:Env->al->Prop}
  (h:Q (newEnv scope s.heap.objs.size ac.globals (cellsFrom (s.heap.objs.size+1) scope.names cl) ac.qual none .none (some ac) builtinsNs) {s with heap:=pushCells (s.heap.push {cls:= .type "dict",data:= .dict #[]}) scope.names}) :
  ai M A (newFunctionEnv scope ac.globals cl [] ac.qual none .none (some ac)) Q E s:=by
 simp only [newFunctionEnv,Option.isSome_some,if_true];refine fH (λq=>Ha q) (fH (λq=>GY _ (λname kind cells=>by cases Db:kind==mf<;>simp [Db]) _ _ _ _ q) ?_);exact aa (show ({s with heap:=s.heap.push {cls:= .type "dict",data:= .dict #[]}}:al).heap.objs.size=s.heap.objs.size+1 from ot ..) (aq (aM (aM h)))
end
end
section
open scoped Classical
theorem pT.tS{ex:Addr->Prop}{ae m σ κ h σ' κ' h' J}(Ou:pT ae m σ κ h)(e:bg ex σ κ h σ' κ' h')(hv:∀(i:Nat) l,ae[i]? =some l->κ l.addr≠ .frame J):∀(i:Nat) l,ae[i]? =some l->κ' l.addr≠ .frame J:=λi l hi q =>
 (Ou.lt i l hi).elim λo g=>(Ou.rd i l hi).elim (λu=>bZ ((e.bd _ o u g).1.2.symm.trans q)) λ⟨L',z⟩=>(e.qW _ o L' z g).1.elim (λh=>hv i l hi (z.trans (h.symm.trans q))) λh=>bZ (h.2.symm.trans q)
section
variable{X:Cx}{n:Nat}{L:Addr}{ae:List Loc}
theorem Rel.own{κ D}(R:Rel X L ae st κ s)(hD:D≠L)(vL:∀(i:Nat) l,ae[i]? =some l->κ l.addr≠ .frame D)(ht:κ D= .frame D)
  (hl:gO s.heap D ys.toArray) (hv:aO (aj st.σ κ) s.heap vs ys) :
  ∃κ',Rel X L ae (st.put (st.σ.set D (.list vs))) κ' s/\c7 (aj st.σ κ) s.heap (aj (st.σ.set D (.list vs)) κ') s.heap/\(∀a,κ' a=if κ a= .frame D then .none else κ a)/\st.σ D=none:=by
 have G:=R.g
 have F:=R.f
 have fB:st.σ D=none:=og λh=>bZ ((G.excl D h).symm.trans ht)
 have ne:∀{a},κ a≠ .frame D->(if κ a= .frame D then Tag.none else κ a)=κ a:=λq=>if_neg q
 have pN:∀{a t},(if κ a= .frame D then Tag.none else κ a)=t->t≠ .none->κ a=t/\κ a≠ .frame D:=λ{a t} e h=>if q:κ a= .frame D then absurd ((if_pos q).symm.trans e).symm h else ⟨(ne q).symm.trans e,q⟩
 have nD:∀{a},(∀L,κ a≠ .frame L)->a≠D:=λh q=>h D (q▸ht)
 have ⟨S,G'⟩:=G.vm (ex:=λJ=>False) (s':=s) (σ':=st.σ.set D (.list vs)) (κ':=λa=>if κ a= .frame D then Tag.none else κ a) (λJ=>Hi) (λa o h J e=>⟨m5 (nD h),ne (h D),e⟩) (λS=>G.tabs.bd S λJ J J e=>e)
  (λt h=>(ne λz=>bZ ((G.tab t h).symm.trans z)).trans (G.tab t h)) (λS a o e=>if q:a=D then .inr (by subst q;cases aN (yT.symm.trans e);exact ⟨if_pos ht,ys,hl,hv.mono S⟩) else .inl ⟨(m5 q).symm.trans e,id,λJ J=>id⟩)
  (λd a e=> .inl ⟨(pN e bZ).1,id⟩) (λa h=>if q:a=D then q▸(aD hl λo g J=>⟨o,g⟩) else G.lt a λu=>h ⟨(m5 q).trans u.1,(ne λz=>bZ (u.2.symm.trans z)).trans u.2⟩)
  (λa L' e=>have z:=pN e bZ;(ne λy=>z.2 (z.1.trans ((G.fr a L' z.1).symm.trans y))).trans (G.fr a L' z.1)) rfl rfl
 exact ⟨_,⟨G',F.BX (ex:=(λz=>z =D)) S (λa o L' e q g=>have h:κ a≠ .frame D:=λz=>q (Tag.frame.inj (e.symm.trans z));⟨(ne h).trans e,g⟩) (iO hD) λi l L' hi z q=>vL i l hi (z.trans (congrArg _ q))⟩,S,λJ=>rfl,fB⟩
theorem eH.self{U κ I aP own ce A E}(hh:A.handled=none)(it:eH X U κ s.heap I aP own ce)(q:Q (.ref I) s):ai X.M A (pyIter (.ref I)) Q E s:=by
 cases it with
 | one W _ _ b7 _ _ _ _ _=>exact ba ((W A hh).self _ s Q E b7 q)
 | pair W _ _ b7 _ _ _ _ _=>exact ba ((W A hh).self _ s Q E b7 q)
 | own fc _ _=>exact Qd fc q
 | tN vP _ _ _ _ _ _ _=>obtain ⟨old,g⟩:=vP;exact BN g q
theorem UE{A}{cK iter:Expr}{ifs:List Expr}{it acc:Value}(I:Nat->al->Prop)
  (turn:∀n s,I n s->ai X.M A (pyNext it) (λr az=>match r with
   | none=>R (.ok .next) az
   | some v=>ai X.M A (letOwnedTupleGo target it v) (λJ az=>ai X.M A (assign target ac v) (λJ bp =>
     ai X.M A (forIn ifs true λc r=>if r=true then do let ok<-iK c ac (eval c ac);pure (ForInStep.yield ok) else pure (ForInStep.yield r)) (λok cF =>
      if ok=true then ai X.M A (eval cK ac) (λx mP =>
       ai X.M A (call (.builtin "list.append") [acc,x]) (λJ qP=>∃m,m<n/\I m qP) (λJ J=>False) mP) (λJ J=>False) cF
      else ∃m,m<n/\I m cF) (λJ J=>False) bp) (λJ J=>False) az) (λJ J=>False) az) (λJ J=>False) s)
  (n:Nat) (h:I n s):dp X.M A (.compLoop (.ListComp cK [⟨target,iter,ifs,0⟩] scope pos) 0 it acc ac) R s:=by
 refine GP rfl rfl I (λn s hI=> ?_) n h
 show ai _ A ((compTurn (.ListComp cK [⟨target,iter,ifs,0⟩] scope pos) 0 it acc ac).onRaise (λx=>do noteFrame x ac;theTreesLotGoes x)) _ _ s
 refine nS (aa (compTurn_list ..) ?_);refine aq (cy (aq (weak (turn n s hI) (λr az bh=> ?_))));cases r with
 | none=>exact aM bh
 | some v =>
  refine aq (weak bh (λJ az bh=>aq (weak bh (λJ bp bD=>aq (weak bD (λok cF eE=> ?_))))));cases ok with
  | false=>exact aM ⟨rfl,eE⟩
  | true=>exact aq (aq (weak eE (λx mP qQ=>aq (weak qQ (λJ qP ph=>aM (aM ⟨rfl,ph⟩))))))
end
end
section
open scoped Classical
section
variable{X:Cx}{n:Nat}{L:Addr}{ae:List Loc}{ac:Env}{c:CT}
structure gR(X:Cx)(L:Addr)(ae:List Loc)(cG:St)(aA:bM)(h1:Heap)(C I D:Addr)(locs:List Loc)(aP:Bool)(own:List (Addr×List ab))(ce acc:List ab)(st:St)(κ:bM)(s:al):Prop where
 rel:Rel X C (ae++locs) st κ s
 out:gj L ae cG.m cG.fz st.σ κ s.heap
 it:eH X (aj st.σ κ) κ s.heap I aP own ce
 ku:κ D= .frame D
 acc:∃ys:List Value,gO s.heap D ys.toArray/\aO (aj st.σ κ) s.heap acc ys
 dq:bg (λa=>a=C∨a=I∨a=D) cG.σ aA h1 st.σ κ s.heap
 hI:∀(i:Nat) l,(ae++locs)[i]? =some l->κ l.addr≠ .frame I
 hD:∀(i:Nat) l,(ae++locs)[i]? =some l->κ l.addr≠ .frame D
 hC:∀(i:Nat) l,ae[i]? =some l->κ l.addr≠ .frame C
theorem gR.wk{X L ae cG aA h1 C I D locs aP own ce acc st κ s}{K:St->Prop}(V:gR X L ae cG aA h1 C I D locs aP own ce acc st κ s)(h:Wk K st):∃st',gR X L ae cG aA h1 C I D locs aP own ce acc st' κ s/\K st' :=
 let ⟨_,k⟩:=h;⟨_,⟨V.rel.nY,V.out,V.it,V.ku,V.acc,V.dq,V.hI,V.hD,V.hC⟩,k⟩
structure Apart(L C I D:Addr):Prop where
 LC:C≠L
 LI:I≠L
 LD:D≠L
 CI:I≠C
 CD:D≠C
 ID:D≠I
variable{cG st st':St}{aA κ κ':bM}{h1:Heap}{C I D:Addr}{locs:List Loc}{aP:Bool}{own:List (Addr×List ab)}{ce d4 acc:List ab}{s s':al}
theorem wd{i:Nat}{l:Loc}(h:ae[i]? =some l):(ae++locs)[i]? =some l:=by rw [nk (du.mp h).1];exact h
theorem gR.body(V:gR X L ae cG aA h1 C I D locs aP own ce acc st κ s)(ap:Apart L C I D)(hA:∃A:cJ,A.handled=none)(r:Rel X C (ae++locs) st' κ' s')(e:bg (λz=>z =C) st.σ κ s.heap st'.σ κ' s'.heap) :
  gR X L ae cG aA h1 C I D locs aP own ce acc st' κ' s' where
 rel:=r
 out:=V.out.BZ e (iO ap.LC) λi l L' h z q=>V.hC i l h (ao q z)
 it:=V.it.dq ap.CI e hA
 ku:=let ⟨_,⟨o,g,_⟩,_⟩:=V.acc;(e.frames D o D V.ku ap.CD g).1
 acc:=let ⟨ys,⟨o,g,q⟩,v⟩:=V.acc;⟨ys,⟨o,(e.frames D o D V.ku ap.CD g).2,q⟩,v.mono e.bd⟩
 dq:=V.dq.trans (e.weaken λJ q=> .inl q)
 hI:=V.rel.f.outer.tS e V.hI
 hD:=V.rel.f.outer.tS e V.hD
 hC:=V.out.outer.tS e V.hC
theorem gR.turn(V:gR X L ae cG aA h1 C I D locs aP own ce acc st κ s)(ap:Apart L C I D)(t:jq st.σ κ I s s')(it:eH X (aj st.σ κ) κ s'.heap I aP own d4) :
  gR X L ae cG aA h1 C I D locs aP own d4 acc st κ s' where
 rel:=t.rel V.rel ap.CI V.hI
 out:=(t.rel (st:=cG.put st.σ) ⟨V.rel.g,V.out⟩ ap.LI λi l h=>V.hI i l (wd h)).f
 it:=it
 ku:=V.ku
 acc:=let ⟨ys,⟨o,g,q⟩,v⟩:=V.acc;⟨ys,⟨o,t.keep D o (by refine aa V.ku ?_;simpa using ap.ID) g,q⟩,v.mono t.bd⟩
 dq:=V.dq.trans ((t.dq (L:=C)).weaken λJ q=>q.elim .inl λz=> .inr (.inl z))
 hI:=V.hI
 hD:=V.hD
 hC:=V.hC
theorem gR.push(V:gR X L ae cG aA h1 C I D locs aP own ce acc st κ s)(ap:Apart L C I D)(hA:∃A:cJ,A.handled=none)(zj:aO (aj st.σ κ) s.heap acc ys)(hv:am (aj st.σ κ) s.heap v y)
  (hl:gO s'.heap D (ys.toArray.push y)) (hs:jh D s.heap s'.heap) (ho:s'.os=s.os) (hg:s'.gens=s.gens) :
  gR X L ae cG aA h1 C I D locs aP own ce (acc++ [v]) st κ s':=by
 have t:jq st.σ κ D s s':=⟨λb o q e=>(hs.2 b λz=>q (z▸V.ku)).trans e,λb o q e=>if z:b=D then z▸(aD hl λo g J=>⟨o,g⟩) else ⟨o,(hs.2 b z).trans e⟩,ho,hg⟩
 exact {
  rel:=t.rel V.rel ap.CD V.hD
  out:=(t.rel (st:=cG.put st.σ) ⟨V.rel.g,V.out⟩ ap.LD λi l h=>V.hD i l (wd h)).f
  it:=V.it.dq (L:=D) (st':=st) (iO ap.ID) ((t.dq (L:=D)).weaken λJ q=>q.elim id id) hA
  ku:=V.ku
  acc:=⟨ys++ [y],by simpa using hl,(zj.append (.one hv)).mono t.bd⟩
  dq:=V.dq.trans ((t.dq (L:=C)).weaken λJ q=>q.elim .inl λz=> .inr (.inr z))
  hI:=V.hI
  hD:=V.hD
  hC:=V.hC}
inductive Dc(X:Cx)(L:Addr)(ae:List Loc)(we:ar)(aA:bM)(h1:Heap)(C I D:Addr)(K:ab->St->Prop)(s':al):Prop
 | mk (v:ab) (bc:St) (bR:bM):Rel X L ae bc bR s'->bg (λa=>a=C∨a=I∨a=D) we aA h1 bc.σ bR s'.heap->am (aj bc.σ bR) s'.heap v (.ref D)->K v bc->bR C= .frame C->(∃m,s'.heap.Ns C m)->(∀(i:Nat) l,ae[i]? =some l->bR l.addr≠ .frame C)->Dc X L ae we aA h1 C I D K s'
theorem gR.done(G1:bq X cG.σ aA s1)(V:gR X L ae cG aA s1.heap C I D locs aP own [] acc st κ s)(ap:Apart L C I D)(hI:s1.heap.get? I=none)(hD:s1.heap.get? D=none)
  (hk:∀b o,κ b≠ .frame I->s.heap.get? b=some o->s'.heap.get? b=some o) (ho:s'.os=s.os) (hg:s'.gens=s.gens) (hK:fW acc (cG.put st.σ) K):Dc X L ae cG.σ aA s1.heap C I D K s':=by
 obtain ⟨pW,ra,Sa,ha⟩:=Rel.ng (st:=cG.put st.σ) ⟨V.rel.g,V.out⟩ ap.LI (λi l h=>V.hI i l (wd h)) hk ho hg
 have ea:=V.dq.ng G1 hI ha Sa hk
 have na:∀{J},J≠I->κ J= .frame J->κ J≠ .frame I/\pW J= .frame J:=λ{J} q z=>have n:κ J≠ .frame I:=λy=>q (Tag.frame.inj (z.symm.trans y));⟨n,(ha J).trans ((if_neg n).trans z)⟩
 have vb:∀{κ κ':bM} {J I:Addr} (l:Loc),(∀a,κ' a=if κ a= .frame I then .none else κ a)->κ l.addr≠ .frame J->κ' l.addr≠ .frame J:=λ{κ κ' J I} l h q z=>by
  rw [h] at z
  by_cases y:κ l.addr= .frame I
  ·rw [if_pos y] at z;exact bZ z
  ·rw [if_neg y] at z;exact q z
 have nC:=na (iO ap.CI) V.rel.f.tag
 have nD:=na ap.ID V.ku
 obtain ⟨ys,⟨o,g,q⟩,hv⟩:=V.acc
 have eG:gO s'.heap D ys.toArray:=⟨o,hk D o nD.1 g,q⟩
 have wf:∃m,s'.heap.Ns C m:=Bw V.rel.f.ns λml o es ep g q=>⟨ml,o,es,ep,hk C o nC.1 g,q⟩
 have Jn:pW C≠ .frame D:=λy=>ap.CD (Tag.frame.inj (nC.2.symm.trans y)).symm
 rcases hK with ⟨_,hK⟩ | ⟨_,hK⟩
 ·obtain ⟨rA,rb,Sb,hb⟩:=Rel.ng ra ap.LD (λi l h=>vb l ha (V.hD i l (wd h))) (s':=s') (λb o Y e=>e) rfl rfl;exact ⟨_,_,rA,rb,ea.ng G1 hD hb Sb λb o Y e=>e, .list ⟨og λq=>bZ ((V.rel.g.excl D q).symm.trans V.ku),(hb D).trans (if_pos nD.2)⟩ eG.list ((hv.mono Sa).mono Sb),hK,(hb C).trans ((if_neg Jn).trans nC.2),wf,λi l h=>vb l hb (vb l ha (V.hC i l h))⟩
 ·obtain ⟨rA,rb,Sb,hb,fB⟩:=Rel.own ra ap.LD (λi l h=>vb l ha (V.hD i l (wd h))) nD.2 eG (hv.mono Sa);exact ⟨_,_,rA,rb,ea.ng G1 hD hb Sb λb o Y e=>e, .raw _,hK D fB,(hb C).trans ((if_neg Jn).trans nC.2),wf,λi l h=>vb l hb (vb l ha (V.hC i l h))⟩
theorem Jo{bR:bM}{bc:St}{ex:Addr->Prop}(G1:bq X cG.σ aA s1)(r:Rel X L ae bc bR s)(e:bg ex cG.σ aA s1.heap bc.σ bR s.heap)(UF:C≠L)(hC:s1.heap.get? C=none)(ht:bR C= .frame C)
  (hv:∀(i:Nat) l,ae[i]? =some l->bR l.addr≠ .frame C) (fA:∀a,ex a->a=L∨s1.heap.get? a=none) {h':Heap} (hs:jh C s.heap h') :
  ∃κ',Rel X L ae bc κ' {s with heap:=h'}/\bg (λz=>z =L) cG.σ aA s1.heap bc.σ κ' h'/\c7 (aj bc.σ bR) s.heap (aj bc.σ κ') h':=by
 have hk:∀b o,bR b≠ .frame C->s.heap.get? b=some o->h'.get? b=some o:=λb o q g=>(hs.2 b λz=>q (z▸ht)).trans g
 obtain ⟨κ',r',S,jr⟩:=Rel.ng (s':={s with heap:=h'}) r UF hv hk rfl rfl;exact ⟨κ',r',(e.ng G1 hC jr S hk).fresh G1 fA,S⟩
end
end
section
variable {cond:Option IB}{ifs:List Expr}
section
variable{X:Cx}{n:Nat}{L:Addr}{ae:List Loc}{ac:Env}{c:CT}
def wi(X:Cx)(n k:Nat):Prop:=∀L ae ac c,dM X ac L ae c->SE X n L ae ac c k
def wj(X:Cx)(n k:Nat):Prop:=∀L ae ac c,dM X ac L ae c->SB X n L ae ac c k
theorem UG(hB:SB X n L ae ac c k)(hc:vV k c ifs=some cond){K:Bool->St->Prop}(h:yI X n cond K st) :
  jO X n L ae (forIn ifs true λc r=>if r=true then do let ok<-iK c ac (eval c ac);pure (ForInStep.yield ok) else pure (ForInStep.yield r)) K st:=λA κ s hr rel=>by
 rcases ifs with _ | ⟨e,r⟩
 ·cases hc;exact Qh (.same rel rfl rfl rfl rfl h)
 ·refine dP (m3 hc) λq hc=> ?_;cases vg.mp q;exact eO (f:=some) (P:=λcond=>yI X n cond K st->_) (λib h1 h=>PU (hB e ib h1 _ _ h A κ s hr rel)) hc h
def UH(X:Cx)(L:Addr)(ae:List Loc)(A:cJ)(σ:ar)(κ:bM)(h:Heap)(K:ab->St->Prop)(F:Value->al->Prop):Option (Value->Sem Unit)->Prop
 | none=>∀v y st' κ' s',Rel X L ae st' κ' s'->bg (λz=>z =L) σ κ h st'.σ κ' s'.heap->am (aj st'.σ κ') s'.heap v y->K v st'->F y s'
 | some u=>∃K2:St->Prop,(∀v y ax aA s1,Rel X L ae ax aA s1->am (aj ax.σ aA) s1.heap v y->K v ax->ai X.M A (u y) (Post X L ae ax.σ aA s1.heap ig (λJ=>K2)) (λJ J=>False) s1)/\
   ∀st' κ' s',Rel X L ae st' κ' s'->bg (λz=>z =L) σ κ h st'.σ κ' s'.heap->K2 st'->F .none s'
theorem UI{ns:List (Str×cz)}{ax:St}{aA bR:bM}{s2 s4:al}{I D C:Addr}{iR:Bool}{own:List (Addr×List ab)}{cl:List (Str×Addr)}(hn:jQ ns=true)(hcl:∀x,(x,mf)∈ns->cl.lookup x=none)
  (r2:Rel X L ae ax bR s2) (e2:bg (λY=>False) ax.σ aA s1.heap ax.σ bR s2.heap) (Dd:eH X (aj ax.σ bR) bR s2.heap I iR own items) (wm:I≠L) (ik:∀(i:Nat) l,ae[i]? =some l->bR l.addr≠ .frame I) (De:∃o,s2.heap.get? I=some o) (hA:∃A:cJ,A.handled=none)
  (hD:s2.heap.objs.size=D) (hC:D+1=C) (hs:s4={s2 with heap:=pushCells ((s2.heap.push {cls:= .type "list",dict:=none,data:= .seq ([]:List Value).toArray}).push {cls:= .type "dict",data:= .dict #[]}) ns}) :
  ∃m1,Apart L C I D/\gR X L ae ax aA s1.heap C I D (fe C (cellsFrom (C+1) ns cl) ns) iR own items [] {m:=ax.m++ci (fe C (cellsFrom (C+1) ns cl) ns).length none,fz:=aK ae.length,σ:=ax.σ} m1 s4:=by
 refine qL (r2.y7 {cls:= .type "list",dict:=none,data:= .seq ([]:List Value).toArray}) λr3 e3 Df Jp Jq=> ?_
 have Jr:gO ({s2 with heap:=s2.heap.push {cls:= .type "list",dict:=none,data:= .seq ([]:List Value).toArray}}:al).heap D #[]:=⟨_,ao hD (cV _ rfl),rfl,rfl,0,rfl⟩
 have bN:({s2 with heap:=s2.heap.push {cls:= .type "list",dict:=none,data:= .seq ([]:List Value).toArray}}:al).heap.objs.size=C:=by refine ao hC (ao hD ?_);exact ot ..
 have k3:∀b o,s2.heap.get? b=some o->({s2 with heap:=s2.heap.push {cls:= .type "list",dict:=none,data:= .seq ([]:List Value).toArray}}:al).heap.get? b=some o:=eA _ _
 replace e3:bg (λY=>False) ax.σ bR s2.heap ax.σ (fX bR [s2.heap.objs.size] s2.heap.objs.size) ({s2 with heap:=s2.heap.push {cls:= .type "list",dict:=none,data:= .seq ([]:List Value).toArray}}:al).heap:=e3;rw [hD] at r3 e3 Df Jp Jq
 have Js:fX bR [D] D D= .frame D:=if_pos (.head _)
 generalize fX bR [D] D=fx at *
 have fu:s4={({s2 with heap:=s2.heap.push {cls:= .type "list",dict:=none,data:= .seq ([]:List Value).toArray}}:al) with heap:=pushCells (({s2 with heap:=s2.heap.push {cls:= .type "list",dict:=none,data:= .seq ([]:List Value).toArray}}:al).heap.push {cls:= .type "dict",data:= .dict #[]}) ns}:=hs
 clear hs;generalize ({s2 with heap:=s2.heap.push {cls:= .type "list",dict:=none,data:= .seq ([]:List Value).toArray}}:al)=s3 at *
 refine qJ (Jh r3.g r3.f.outer ns hn cl (.type "dict") hcl fu rfl) λm1 G4 e4 F4 Jt=> ?_;replace F4:=bN▸F4
 have Ju:I<D:=De.elim λY g=>ao hD (cR g)
 have UJ:L<C:=Bw r3.f.ns λJ o J J g J=>(ao bN (cR g))
 have ap:Apart L C I D:=⟨fK UJ,wm,Jp,dB (ao hC (pQ Ju)),dB (ao hC (ju _)),fK Ju⟩
 have old:∀(i:Nat) l,ae[i]? =some l->(∃o,s2.heap.get? l.addr=some o)/\m1 l.addr=bR l.addr:=λi l hl=>(r2.f.lt i l hl).elim λo g=>⟨⟨o,g⟩,(Jt _ ⟨o,k3 _ _ g⟩).trans (Jq _ ⟨o,g⟩)⟩
 have Jv:∀(i:Nat) l L',ae[i]? =some l->m1 l.addr= .frame L'->L'<D:=λi l L' hl z=>by
  have:=r2.g.fr _ _ ((old i l hl).2.symm.trans z)
  obtain ⟨o,g⟩:=r2.g.lt L' λu=>bZ (u.2.symm.trans this);exact ao hD (cR g)
 have new:∀(i:Nat) l J,(ae++fe C (cellsFrom (C+1) ns cl) ns)[i]? =some l->m1 l.addr= .frame J->(∃i,ae[i]? =some l)∨J=C:=λi l J hl z=>by
  by_cases hi:i<ae.length
  ·exact .inl ⟨i,by rwa [nk hi] at hl⟩
  ·exact .inr (Tag.frame.inj (z.symm.trans (F4.wr i l hl λq=>hi (fZ.mp q)).1))
 exact ⟨m1,ap,{
  rel:=⟨G4,F4⟩
  out:=r3.f.dq e4
  it:=(Dd.dq wm (rf e3) hA (st':=ax)).dq wm (rf e4) hA (st':={m:=_,fz:=_,σ:=ax.σ})
  ku:=(Jt _ (aD Jr λo g J=>⟨o,g⟩)).trans Js
  acc:=⟨[],let ⟨o,g,q⟩:=Jr;⟨o,(e4.frames D o D Js id g).2,q⟩, .nil⟩
  dq:=rf ((e2.trans e3).trans e4)
  hI:=λi l hl z=>(new i l I hl z).elim (λh=>h.elim λi h=>ik i l h ((old i l h).2.symm.trans z)) ap.CI
  hD:=λi l hl z=>(new i l D hl z).elim (λh=>h.elim λi h=>iM _ (Jv i l D h z)) ap.CD
  hC:=λi l hl z=>absurd (Jv i l _ hl z) (dC.mpr (ao hC (md D)))}⟩
def Dg(X:Cx)(n:Nat)(tg:List Nat)(aP:Bool)(cond:Option IB)(ie:IE)(x:ab)(st:St)(K':Option ab->St->Prop):Prop:=pF tg aP x st λst=>yI X n cond (λb st=>bj b (bF X n ie (λv st=>K' (some v) st) st) (K' none st)) st
theorem UK{cK t:Expr}{tg:List Nat}{aP:Bool}{ie:IE}{rB:Env}{c':CT}{C I D:Addr}{locs:List Loc}(wo:dM X rB C (ae++locs) c')(hE:SE X n C (ae++locs) rB c' k)(hB:SB X n C (ae++locs) rB c' k)(Dh:vV k c' ifs=some cond)
  (ht:kX c' t=some (tg,aP)) (he:cE k c' cK=some ie) {ax:St} {aA:bM}  (G1:bq X ax.σ aA s1) (ap:Apart L C I D) (hI:s1.heap.get? I=none) (hD:s1.heap.get? D=none) {iR:Bool} {own:List (Addr×List ab)} {N:Nat} (hN:dQ N) (vX:iR=true->aP=true) {A} (hr:cL n A)  {R:al->Prop}
  (hR:∀s,Dc X L ae ax.σ aA s1.heap C I D K s->R s) {k':Nat}  {st':St} {κ':bM} {ce acc:List ab} (V:gR X L ae ax aA s1.heap C I D locs iR own ce acc st' κ' s')
  (hw:l4 own (Dg X n tg aP cond ie) (λvs st'=>fW vs (ax.put st'.σ) K) ce acc st') (bA:ce.length<k') (c9:acc.length+ce.length≤N) {Q:Nat->al->Prop}
  (hQ:∀d4 rC st' κ' s',gR X L ae ax aA s1.heap C I D locs iR own d4 rC st' κ' s'->l4 own (Dg X n tg aP cond ie) (λvs st'=>fW vs (ax.put st'.σ) K) d4 rC st'->rC.length+d4.length≤N->Q (d4.length+1) s') :
  ai X.M A (pyNext (.ref I)) (λr az=>match r with
   | none=>R az
   | some v=>ai X.M A (letOwnedTupleGo t (.ref I) v) (λJ az=>ai X.M A (assign t rB v) (λJ bp =>
     ai X.M A (forIn ifs true λc r=>if r=true then do let ok<-iK c rB (eval c rB);pure (ForInStep.yield ok) else pure (ForInStep.yield r)) (λok cF =>
      if ok=true then ai X.M A (eval cK rB) (λx mP =>
       ai X.M A (call (.builtin "list.append") [.ref D,x]) (λJ qP=>∃m,m<k'/\Q m qP) (λJ J=>False) mP) (λJ J=>False) cF
      else ∃m,m<k'/\Q m cF) (λJ J=>False) bp) (λJ J=>False) az) (λJ J=>False) az) (λJ J=>False) s':=by
 have C2:Guard own st':=by cases ce<;>exact hw.1
 have hA:∃A:cJ,A.handled=none:=⟨A,hr.handled⟩
 refine weak (IJ (target:=t) hr.handled V.rel C2 V.it λq=>IY ht (vX q)) λr s5 h5=> ?_;rcases r with _ | y
 ·refine Gz (h5) λgn hk UL UM=> ?_;subst gn;exact hR _ (V.done G1 ap hI hD hk UL UM hw.2)
 ·obtain ⟨x,d4,rfl,h5⟩:=h5
  have lt:d4.length+1<k':=bA
  have le:acc.length+(d4.length+1)≤N:=c9
  refine weak h5 λJ s6 tn=>weak (IX wo hr ht (V.turn ap tn.t tn.it).rel tn.v hw.2) λJ s7 p=> ?_;obtain ⟨_,zb,Jw,r7,e7,_,k7⟩:=p
  have V7:=(V.turn ap tn.t tn.it).body ap hA r7 e7
  refine chain (UG hB Dh k7) hr r7 λb s8 b' ahV UN r8 e8 v8 k8=> ?_
  have V8:=V7.body ap hA r8 e8
  cases v8;rcases b with _ | _
  ·exact aD (V8.wk k8) λJx V9 k9=>⟨_,lt,hQ d4 acc Jx UN s8 V9 k9 (ag (lP (md _) _) le)⟩
  ·refine chain (hE cK ie he _ _ k8) hr r8 λz s9 v Jx UO r9 e9 v9 k9=> ?_
   have V9:=V8.body ap hA r9 e9
   refine aD (V9.acc) λys UP zj=> ?_;exact ba <| Ij UP (λh' eG UQ=>aD ((V9.push (s':={s9 with heap:=h'}) ap hA zj v9 eG UQ rfl rfl).wk k9) λUR US UT=>⟨_,lt,hQ d4 (acc++ [v]) UR UO {s9 with heap:=h'} US UT (by refine aa de (aa (ka ..) ?_);rewrite [ll [v].length];exact le)⟩)
    (by refine aa fI (ao zj.length ?_);exact ag (ag (cb _ _) c9) (tM hN))
theorem Jy(ok:fb X)(EO:dM X ac L ae c)(Z:nj X n)(hE:wi X n k)(hB:wj X n k){cK t iter:Expr}{it:II}{oi:List (Str×Nat)}{tg:List Nat}{aP:Bool}{ie:IE}
  (hI:cI k c iter=some it) (ho:ij c.idx scope.names=some oi) (Dh:vV k (nh c scope oi) ifs=some cond)
  (ht:kX (nh c scope oi) t=some (tg,aP)) (he:cE k (nh c scope oi) cK=some ie) (hb:nW it aP=true) (hs:qY c.names scope=true) (C1:∀x,foldedSetIterable iter ac x=pure x)
    (h:bF X n (.comp ie tg aP it cond (dr scope.names c.n).length) K st) {use:Option (Value->Sem Unit)} {F:Value->al->Prop} {κ s A} (hr:cL n A) (rel:Rel X L ae st κ s) {p:Pos}
  (hF:UH X L ae A st.σ κ s.heap K F use) :
  ai X.M A (comprehension (.ListComp cK [⟨t,iter,ifs,0⟩] scope pos) scope ac p (newList []) false (eval iter ac) use) F (λJ J=>False) s:=by
 have fu:=bP.mp hs
 have d6:=(bP.mp fu.1).2
 refine P5 (use:=use) rfl C1 (UB EO hs ho) (eq_of_beq (bP.mp fu.1).1) (λx hx hl=>oq d6 (by obtain ⟨x,k⟩:=x;cases hl;exact hx)) (weak (I8 ok EO Z (hE _ _ _ _ EO) hI hb h hr rel) λx s1 h1=>weak h1 λy s2 p=> ?_);obtain ⟨items,own,iR,ax,aA,s1,r1,e1,⟨I,bR,rfl,pR,r2,e2,Dd,wm,ik,De,UU⟩,vX,aU,hw⟩:=p
 have hA:∃A:cJ,A.handled=none:=⟨A,hr.handled⟩
 refine ba (qO ?_);refine UD (aD (UI d6 (λx hx=>UC (ac:=ac) d6 hx) r2 e2 Dd wm ik De hA rfl rfl rfl) λm1 ap V0=> ?_);refine aa (show ({s2 with heap:=s2.heap.push {cls:= .type "list",dict:=none,data:= .seq ([]:List Value).toArray}}:al).heap.objs.size=s2.heap.objs.size+1 from ot ..) ?_
 have wo:=UA EO hs ho (s2.heap.objs.size+1)
 have zi:∀a,s2.heap.objs.size≤a->s1.heap.get? a=none:=λa q=>by
  rcases z:s1.heap.get? a with _ | o
  ·rfl
  ·exact absurd (cR (UU _ _ z)) (dC.mpr q)
 have fD:=zi _ (cg _)
 have fC:=zi _ (md _)
 rw [vZ scope.names c.n,<-r2.f.len] at V0
 generalize s2.heap.objs.size=D at *
 generalize ({s2 with heap:=pushCells ((s2.heap.push {cls:= .type "list",dict:=none,data:= .seq ([]:List Value).toArray}).push {cls:= .type "dict",data:= .dict #[]}) scope.names}:al)=s4 at *
 have fA:∀a,(a=D+1∨a=I∨a=D)->a=L∨s1.heap.get? a=none:=λa q=> .inr (q.elim (λq=>aa q fC) λq=>q.elim (λq=>aa q pR) λq=>aa q fD)
 have loop:dp X.M A (.compLoop (.ListComp cK [⟨t,iter,ifs,0⟩] scope pos) 0 (.ref I) (.ref D) (Da scope ac (D+1))) (GV X.M A use F (.ref D) (D+1)) s4:=by
  refine UE (λk s'=>∃st' κ' ce acc,gR X L ae ax aA s1.heap (D+1) I D _ iR own ce acc st' κ' s'/\
   l4 own (Dg X n tg aP cond ie) (λvs st'=>fW vs (ax.put st'.σ) K) ce acc st'/\ce.length<k/\acc.length+ce.length≤items.length) ?_ (items.length+1) ⟨_,m1,items,[],V0,hw,ju _,b6 (nc _)⟩
  rintro k' s' ⟨st',κ',ce,acc,V,iT,bA,c9⟩
  refine UK wo (hE _ _ _ _ wo) (hB _ _ _ _ wo) Dh ht he r1.g ap pR fD aU vX hr (λs5 p=> ?_) V iT bA c9 λd4 rC st' κ' s' V h le=>⟨st',κ',d4,rC,V,h,ju _,le⟩;obtain ⟨v,bc,tJ,r5,e5,v5,k5,hC5,⟨mC,Jz⟩,hv5⟩:=p;rcases use with _ | u
  ·refine ⟨mC,Jz,λh' UV=> ?_⟩;exact j' (Jo r1.g r5 e5 ap.LC fC hC5 hv5 fA UV) λpS r6 e6 S6=>hF v _ bc pS _ r6 (e1.trans e6) (v5.mono S6) k5
  ·refine aD (hF) λK2 hu hF=>weak (hu v _ bc tJ s5 r5 v5 k5) λJ s6 p=> ?_;obtain ⟨_,vY,pS,r6,e6,_,k6⟩:=p;refine o9 (Jz) λoC es ep gC q=> ?_;obtain ⟨UW,UX⟩:=e6.frames _ oC _ hC5 ap.LC gC;refine ⟨mC,⟨oC,es,ep,UX,q⟩,λh' Di=> ?_⟩;exact j' (Jo (ex:=λa=>(a=D+1∨a=I∨a=D)∨a=L) r1.g r6 ((e5.weaken λJ q=> .inl q).trans (e6.weaken λJ q=> .inr q)) ap.LC fC UW (r5.f.outer.tS e6 hv5) (λa q=>q.elim (fA a) .inl) Di) λJw r7 e7 S7=>hF vY Jw _ r7 (e1.trans e7) k6
 exact P2 loop (V0.it.self hr.handled loop)
end
end
section
variable{X:Cx}{n:Nat}{L:Addr}{ae:List Loc}{ac:Env}{c:CT}
theorem UY{kc:Pos}{x c:Value}:∀{l:List Value},TriplesOk l->codeAmong kc (l++ [rawInt pos.line,rawInt pos.col,c])=some x->codeAmong kc l=some x∨x=c:=by
 intro l h
 fun_induction TriplesOk l with
 | case1 =>
  intro q;simp only [Dj,codeAmong,rawInt] at q
  split at q
  ·cases q;exact .inr rfl
  ·cases q
 | case2 a b cc d e dF ih =>
  intro q;simp only [List.cons_append,codeAmong] at q ⊢
  split at q
  ·rename_i hq
   cases q;exact .inl (aa (if_pos hq) rfl)
  ·rename_i hq
   exact aa (if_neg hq) (ih h q)
 | case3=>exact h.elim
theorem UZ{c:Value}:∀{l:List Value},TriplesOk l->TriplesOk (l++ [rawInt pos.line,rawInt pos.col,c]):=by
 intro l h
 fun_induction TriplesOk l with
 | case1=>trivial
 | case2 a b cc d e dF ih=>exact ih h
 | case3=>exact h.elim
theorem bq.table{σ κ}(ok:fb X)(G:bq X σ κ s){t:Addr×Addr×Str}(ht:t∈X.tabs){ps:Array Value}{c':Addr}(iU:s.heap.get? t.2.1=some (tabObj ps))
  (hk:∀b o,b≠t.2.1->s.heap.get? b=some o->s'.heap.get? b=some o) (jp:s'.heap.get? t.2.1=some (tabObj (ps++ #[rawInt pos.line,rawInt pos.col, .ref c']))) (yY:aj σ κ c') (mi:s'.heap.CodeRec (.ref c') t.2.2) (ho:s'.os=s.os) (hg:s'.gens=s.gens) :
  bq X σ κ s'/\bg (λJ=>False) σ κ s.heap σ κ s'.heap:=by
 have hP:=G.tab t ht
 have ne:∀{a u},κ a=u->eh u.ix 3=false->a≠t.2.1:=λ{a u} e h q=>bZ (a:=u) (b:= .tab) (e.symm.trans (by refine aa q ?_;exact hP)) h
 have ⟨S,G'⟩:=G.vm (s':=s') (σ':=σ) (κ':=κ) (ex:=(λz=>z =t.2.1)) (λa q u=>ne u.2 rfl q) (λa o J q e=>⟨rfl,rfl,hk a o q e⟩) (λS t' tU=>by
   obtain ⟨Dl,e',hT,hA⟩:=G.tabs t' tU
   have JA:∀kc cv,codeAmong kc Dl.toList=some cv->∃co,cv= .ref co/\aj σ κ co/\s'.heap.CodeRec (.ref co) t'.2.2:=λkc cv h=>j' (hA kc cv h) λco e u r=>⟨co,e,u,yh S u r⟩
   by_cases q:t'.2.1=t.2.1
   ·cases ok.H' t' tU t ht q
    have:Dl=ps:=by have:=aN (iU.symm.trans e');injection this with _ _ e';injection e' with e';exact e'.symm
    subst this;refine ⟨_,jp,by simpa using UZ hT,λkc cv h=> ?_⟩;rcases UY hT (by simpa using h) with h | rfl
    ·exact JA kc cv h
    ·exact ⟨c',rfl,yY,mi⟩
   ·exact ⟨Dl,hk _ _ q e',hT,JA⟩) G.tab
  (λJ a o e=> .inl ⟨e,ne (G.excl a λz=>nn (z.symm.trans e)) rfl,λd z=>ne z rfl⟩) (λd a e=> .inl ⟨e,jg (G.dict d a e) λJ J q J=>ne (G.excl a λz=>nn (z.symm.trans q)) rfl⟩)
  (λa h=>if q:a=t.2.1 then q▸⟨_,jp⟩ else (G.lt a h).imp λo=>hk a o q) G.fr ho hg
 exact ⟨G',S,λa o L' e J g=>⟨e,hk a o (ne e rfl) g⟩,λa o L' e g=>⟨.inl e,o,hk a o (ne e rfl) g⟩⟩
end
section
variable{X:Cx}{n:Nat}{L:Addr}{ae:List Loc}{ac:Env}{c:CT}
theorem Rel.freeze{κ}{i:Nat}(R:Rel X L ae st κ s)(hi:ae[i]? =some (.cell a))(hf:i∉st.fz) :
  ∃κ',Rel X L ae {st with fz:=i::st.fz} κ' s/\bg (λz=>z =L) st.σ κ s.heap st.σ κ' s.heap/\aj st.σ κ' a:=by
 have G:=R.g
 have F:=R.f
 obtain ⟨ta,wa⟩:=F.wr i _ hi hf
 have ta:κ a= .frame L:=ta
 have bz:a≠L:=wa.1
 have ne:∀{b},b≠a->(if b=a then Tag.none else κ b)=κ b:=λq=>if_neg q
 have zk:st.σ a=none:=og λh=>bZ ((G.excl a h).symm.trans ta)
 have nL:∀{b t},κ b=t->t≠ .frame L->b≠a:=λe h q=>h (e.symm.trans (q▸ta))
 have pN:∀{b t},(if b=a then Tag.none else κ b)=t->t≠ .none->κ b=t/\b≠a:=λ{b t} e h=>if q:b=a then absurd ((if_pos q).symm.trans e).symm h else ⟨(ne q).symm.trans e,q⟩
 have ⟨S,G'⟩:=G.step (s':=s) (κ':=λb=>if b=a then Tag.none else κ b) (λb o h e=>⟨ne λq=>h L (q▸ta),e⟩) (λd b e=>(pN e bZ).1) (λb h=>if q:b=a then (h ⟨q▸zk,if_pos q⟩).elim else G.lt b λu=>h ⟨u.1,(ne q).trans u.2⟩)
  (λb L' e=>have z:=G.fr b L' (pN e bZ).1;(ne λq=>bz (q.symm.trans (Tag.frame.inj (z.symm.trans ((congrArg κ q).trans ta))))).trans z) rfl rfl
 refine ⟨_,⟨G',{
  tag:=(ne (iO bz)).trans F.tag
  ns:=F.ns
  len:=F.len
  lt:=F.lt
  vals:=λj v e=>eV (F.vals j v e) λl y x b cc=>⟨l,y,x,b,cc.mono S⟩
  rd:=λj l e q=>if hj:l.addr=a then .inl ⟨hj▸zk,if_pos hj⟩ else (br.mp q).elim (λq=>by subst q;cases aN (hi.symm.trans e);exact absurd rfl hj) λq=>(F.rd j l e q).imp (λu=>⟨u.1,(ne hj).trans u.2⟩) λ⟨L',n,z⟩=>⟨L',n,(ne hj).trans z⟩
  wr:=λj l e q=>by
   obtain ⟨t,w⟩:=F.wr j l e λz=>q (.tail _ z);refine ⟨(ne λz=> ?_).trans t,w⟩;rcases l with ⟨b,x⟩ | b
   ·exact bz ((show b=a from z).symm.trans w)
   ·cases (show b=a from z);exact q (aa (F.nodup j i _ (λz=>q (.tail _ z)) e hi) (.head _))
  nodup:=λj k l q e1 e2=>F.nodup j k l (λz=>q (.tail _ z)) e1 e2}⟩,⟨S,λb o L' e n g=>⟨(ne (nL e λq=>n (Tag.frame.inj q))).trans e,g⟩,λb o L' e g=>⟨if q:b=a then .inr ⟨q▸zk,if_pos q⟩ else .inl ((ne q).trans e),o,g⟩⟩,zk,if_pos rfl⟩
theorem Rel.frozen{κ}{i:Nat}(R:Rel X L ae st κ s)(hv:∀l∈ae,L≤l.addr)(hi:ae[i]? =some (.cell a))(hf:i∈st.fz):aj st.σ κ a:=by
 rcases R.f.rd i _ hi hf with u | ⟨L',⟨_,lt⟩,_⟩
 ·exact u
 ·exact absurd lt (dC.mpr (hv _ (cw hi)))
theorem U0(ok:fb X)(EO:dM X ac L ae c){p q:Str}{ps p1 p2 p3:Pos}{i:Nat}(hl:c.lam=true)(wq:(p==q)=false)(hs:yw p q scope=true)(U1:gQ p=false)(Dm:gQ q=false)
  (hq:c.names.lookup q=some .cell) (hi:c.idx.lookup q=some i) (h:bF X n (.lam i) K st) :
  bO X n L ae (eval (.Lambda ⟨[],[⟨p,none,ps⟩],none,[],[],none,[]⟩ (.Compare (.Name p p1) [.Eq] [.Name q p2] p3) scope pos) ac) K st:=λA κ s hr rel=>by
 refine tG.of (C:=λo=>st.m[i]? =o->ai X.M A (eval _ ac) (Post X L ae st.σ κ s.heap am K) _ s) h (λv h hm=>pA.of (C:=λv=>st.m[i]? =some (some v)->ai X.M A (eval _ ac) (Post X L ae st.σ κ s.heap am K) _ s) h (λb h hm=> ?_) hm) rfl
 have hK:=h.2
 obtain ⟨JB,co,P,th,JC,tV⟩:=EO.tab hl;refine aD (EO.idx q i Dm (hq▸rfl) hi) λl wu hk=> ?_
 have U2:ac.kindOf q=some .cell:=(EO.kinds q _ hq).resolve_right λh=>by cases h.1
 obtain ⟨a,ha,rfl⟩:∃a,ac.cells.lookup q=some a/\l= .cell a:=by
  rcases hk with ⟨h,_⟩ | ⟨_,h⟩
  ·rw [U2] at h;cases h
  ·exact h
 refine eV (rel.f.vals i _ hm) λl' y eG tL Cy=> ?_;rw [wu] at eG;cases eG
 obtain ⟨t,rfl⟩:=Cy.mN
 have vT:s.heap.IsCell a (some (.bytes b.toArray t)):=tL
 refine j' (rel.g.tabs _ tV) λU3 Dn hT hA=> ?_;obtain ⟨mg,mb,m4,yS,Ie,bm,ob,b1,b2,b3,b4,b5⟩:=ok.glob
 have JD:∀x o,X.h₀.get? x=some o->x≠P:=λx o e z=>by
  have a1:=(rel.g.base x o e).2
  have a2:=rel.g.tab _ tV
  rw [z] at a1
  rw [show κ P=Tag.tab from a2] at a1;exact bZ a1
 have U4:mainGlobals≠P:=by obtain ⟨o,_,_,e,_⟩:=m4;exact JD _ o e
 have hb:s.heap.BuiltinsAt mg P:=⟨bm,ob,b1,b2,b3,JD _ _ b4,rel.g.keep _ _ b4,b5⟩
 simp only [yw,ro,beq_iff_eq,l8] at hs
 obtain ⟨⟨⟨wv,U5⟩,U6⟩,mR⟩:=hs
 have hcl:closureFor scope ac=pure [(q,a)]:=by
  rw [Je λx hx ow=> ?_,mR]
  ·simp [ze,Uo,ha]
  ·rw [mR] at hx
   simp only [br,eZ,or_false] at hx
   rcases hx with rfl | rfl
   ·cases ow
   ·exact ⟨a,ha⟩
 have bf:∀(s1:al) (f:Addr) (pm ct:Value) (c':Addr),Rel X L ae st κ s1->bg (λJ=>False) st.σ κ s.heap st.σ κ s1.heap->aj st.σ κ f->aj st.σ κ c'->s1.heap.CodeRec (.ref c') (ac.qual++ "<lambda>")->
   s1.heap.get? f=some {cls:= .type "function",data:= .func (kla_fn "<lambda>" (ac.qual++ "<lambda>") ⟨[],[⟨p,none,ps⟩],none,[],[],none,[]⟩ (.Compare (.Name p p1) [.Eq] [.Name q p2] p3) scope [(q,a)] pm (.ref c') ct)}->
   Post X L ae st.σ κ s.heap am K (.ref f) s1:=by
  intro s1 f pm ct c' r1 e1 uf uc mi hf
  have rj:s1.heap.IsCell a (some (.bytes b.toArray t)):=by
   refine aD (vT) λo g d=> ?_
   by_cases jT:i∈st.fz
   ·exact ⟨o,(e1.bd a o (rel.frozen JB wu jT) g).2,d⟩
   ·exact ⟨o,(e1.frames a o L (rel.f.wr i _ wu jT).1 id g).2,d⟩
  have mk:∀{κ':bM},c7 (aj st.σ κ) s1.heap (aj st.σ κ') s1.heap->aj st.σ κ' a->am (aj st.σ κ') s1.heap (.lam b) (.ref f):=λ{κ'} S ua=>by
   exact .lam (S f _ uf hf).1 ua ⟨_,p,q,scope,pm,ct,c',ps,p1,p2,p3,hf,mi,(yg S uc mi).1,wv,U5,U6,mR,(tK U1).1,(tK Dm).1,(tK Dm).2,wq⟩ rj
  by_cases jT:i∈st.fz
  ·exact ⟨.lam b,{st with fz:=i::st.fz},κ,⟨r1.g,by
    have F:=r1.f
    exact {F with
     rd:=λj l e z=>F.rd j l e (by rcases br.mp z with rfl | z;exact jT;exact z)
     wr:=λj l e z=>F.wr j l e λy=>z (.tail _ y)
     nodup:=λj k l z e1 e2=>F.nodup j k l (λy=>z (.tail _ y)) e1 e2}⟩,rf e1,mk .refl (rel.frozen JB wu jT),hK⟩
  ·obtain ⟨κ',r2,e2,ua⟩:=r1.freeze wu jT;exact ⟨.lam b,{st with fz:=i::st.fz},κ',r2,(rf e1).trans e2,mk e2.bd ua,hK⟩
 have Dp:∀a,s.heap.objs.size≤a->aj st.σ κ a:=λa ha=>og λh=>iH (rel.g.lt _ h) λJ e=>absurd (cR e) (dC.mpr ha)
 refine kla_eval rfl ?_;cases hm:codeAmong pos U3.toList with
 | none =>
  refine ba <| PySem.W.kla_makeFunction (mg:=mg) hcl EO.globals (m4.keeps rel.g.keep) th (JC.keeps rel.g.keep) Dn hT hm U4 hb λc' Dq h' tk hx ww bA mi U7=> ?_
  obtain ⟨G1,e1⟩:=rel.g.table (s':={s with heap:=h',toks:=tk}) ok tV Dn hx U7 (Dp c' ww) mi rfl rfl
  have r1:Rel X L ae st κ {s with heap:=h',toks:=tk}:=⟨G1,rel.f.dq e1⟩
  refine bf _ _ _ Dq c' (r1.ext (eA _ _) rfl rfl) (e1.trans (.ext (eA _ _))) (iL r1.g) (Dp c' ww) (yh (gP (eA _ _)) (Dp c' ww) mi) (cV _ rfl)
 | some cv =>
  refine j' (hA pos cv hm) λc' bb uc mi=> ?_;subst bb;refine ba <| PySem.W.kla_makeFunctionHit (mg:=mg) hcl EO.globals (m4.keeps rel.g.keep) th (JC.keeps rel.g.keep) Dn hT hm hb λDq h' tk hk bN=> ?_
  have r1:Rel X L ae st κ {s with heap:=h',toks:=tk}:=rel.ext hk rfl rfl
  refine bf _ _ _ Dq c' (r1.ext (eA _ _) rfl rfl) ((bg.ext hk).trans (.ext (eA _ _))) (iL r1.g) uc (yh (gP λb o e=>eA _ _ b o (hk b o e)) uc mi) (cV _ rfl)
end
section
variable{X:Cx}{n:Nat}{L:Addr}{ae:List Loc}{ac:Env}{c:CT}
theorem U8{f:α->Option β}:∀{r:List β},l.mapM f=some r->r.length=l.length:=by
 induction l with
 | nil=>exact mn (C:=λr=>r.length=0) rfl
 | cons a l ih=>exact mc (C:=λr=>r.length=l.length+1) λb bs J h=>congrArg (λz=>z +1) (ih h)
theorem jn.mono{K K':Bool->St->Prop}(h:jn v st K)(k:∀b st,K b st->K' b st):jn v st K':=jn.of (C:=λv=>jn v st K') h λb h=>k b st h
theorem U9(hE:SE X n L ae ac c k){bW:Bool}:∀{is:List IE} {st:St},es.mapM (cE k c)=some is->pI X n bW is K st->yO X n L ae ac bW es K st:=by
 induction es with
 | nil=>exact λ{is st}=>mn (C:=λis=>pI X n bW is K st->False) λh=>h
 | cons e es ih =>
  exact λ{is st}=>mc (C:=λis=>pI X n bW is K st->yO X n L ae ac bW (e::es) K st) λi is h1 h2 hw=>by
   rcases es with _ | ⟨e',es⟩
   ·exact mn (C:=λis=>pI X n bW (i::is) K st->_) (hE e i h1 K st) h2 hw
   ·have ih:=λst=>ih (st:=st) h2
    exact mc (C:=λis=>(∀st,pI X n bW is K st->yO X n L ae ac bW (e'::es) K st)->pI X n bW (i::is) K st->_) (λi' ahW J J ih hw=>(hE e i h1 _ _ hw).mono λv st k=>k.mono λb st q=>kg.mono q (ih st) id) h2 ih hw
theorem Va(hB:SB X n L ae ac c k){bW:Bool}{K:Bool->St->Prop}:∀{is:List IB} {st:St},es.mapM (cB k c)=some is->vD X n bW is K st->yN X n L ae ac bW es K st:=by
 induction es with
 | nil=>exact λ{is st}=>mn (C:=λis=>vD X n bW is K st->K bW st) λh=>h
 | cons e es ih =>
  refine λ{is st}=>mc (C:=λis=>vD X n bW is K st->yN X n L ae ac bW (e::es) K st) λi is h1 h2 hw=> ?_;cases is with
  | nil=>exact (hB e i h1 _ _ hw).mono λb st q=>kg.mono (kg.of (k:=λb=>K b st) q) (ih h2) id
  | cons j js=>exact (hB e i h1 _ _ hw).mono λb st q=>kg.mono q (ih h2) id
theorem JE{f:Expr->Option IE}{P:uZ->Str×IE->Prop}(h:∀x e p i,f e=some i->P ⟨some x,e,p⟩ (x,i)){k:uZ}{r:Str×IE}(hc:vo f k=some r):P k r:=by
 rcases k with ⟨_ | x,e,p⟩
 ·exact nn hc
 ·exact eO (λi h1=>h x e p i h1) hc
theorem Vb(hE:SE X n L ae ac c k):∀{is:List (Str×IE)} {K:List (Str×ab)->St->Prop} {st:St},ks.mapM (vo (cE k c))=some is->q9 X n is K st->pK X n L ae ac ks K st:=by
 induction ks with
 | nil=>exact λ{is K st}=>mn (C:=λis=>q9 X n is K st->K [] st) λh=>h
 | cons a r ih=>exact λ{is K st}=>mc (C:=λis=>q9 X n is K st->pK X n L ae ac (a::r) K st) λb bs h1 h2=>JE (P:=λa b=>q9 X n (b::bs) K st->pK X n L ae ac (a::r) K st) (λx e p i h hw=>(hE e i h _ _ hw).mono λv st k=>ih h2 k) h1
theorem Vc:∀{is:List (Str×IE)},ks.mapM (vo (cE k c))=some is->ks.all (λz=>z.arg.isSome)=true:=by
 induction ks with
 | nil=>exact λJ=>rfl
 | cons a r ih=>exact mc (C:=λJ=>(a::r).all (λz=>z.arg.isSome)=true) λb bs h1 h2=>bP.mpr ⟨JE (P:=λa J=>a.arg.isSome=true) (λJ J J J J=>rfl) h1,ih h2⟩
end
section
variable{X:Cx}{n:Nat}
def Vd(e:Expr):Prop:=∀ac,iK e ac (eval e ac)=(eval e ac>>=λv=>standAt e.pos>>=λJ=>holding [v] (truthy v))
theorem Ve{c:CT}{P:Expr->IB->Prop}(not:∀a p ia,cB k c a=some ia->P (.UnaryOp .Not a p) (.not ia))(bool:∀o es p is,es.mapM (cB k c)=some is->P (.BoolOp o es p) (.bool (o== .And) is))
  (cmp:∀a o b p ia ib,cE k c a=some ia->cE k c b=some ib->P (.Compare a [o] [b] p) (.cmp o ia ib))
  (kf:∀a o1 o2 b1 b2 p ia i1 i2,cE k c a=some ia->cE k c b1=some i1->cE k c b2=some i2->P (.Compare a [o1,o2] [b1,b2] p) (.kf o1 o2 ia i1 i2))
  (val:∀e ie,Vd e->cE k c e=some ie->P e (.val ie))  {i:IB} (h:cB (k+1) c e=some i):P e i:=by
 rcases e with ⟨⟩<;>first | exact eO (λz=>val _ z λJ=>rfl) h | exact nn h | exact b1 (bool _ _ _) h | skip
 ·rcases op with ⟨⟩<;>first | exact b1 (not _ _) h | exact eO (λz=>val _ z λJ=>rfl) h
 ·rcases ops with _ | ⟨o1,_ | ⟨o2,_ | _⟩⟩<;>rcases comparators with _ | ⟨r1,_ | ⟨r2,_ | _⟩⟩<;>first | exact b2 (cmp _ _ _ _) h | exact b3 (kf _ _ _ _ _ _) h | exact eO (λie h1=>by rcases k with _ | _<;>exact nn h1) h
theorem Vf(ok:fb X)(O:Ops X n)(hE:wi X n k)(hB:wj X n k):wj X n (k+1):=λL ae ac c EO e i hc =>
 have E:=hE L ae ac c EO
 have B:=hB L ae ac c EO
 Ve (P:=λe i=>∀K st,n9 X n i K st->jO X n L ae (iK e ac (eval e ac)) K st) (λa p ia h1 K st h=>SP (B a ia h1 _ _ h)) (λo es p is h1 K st h=>SS (Va B h1 h))
  (λa o b p ia ib h1 h2 K st h=>SN O (y9 (pP h2)) ((E a ia h1 _ _ h).mono λv st k=>E b ib h2 _ _ k))
  (λa o1 o2 b1 b2 p ia i1 i2 h1 h2 h3 K st h=>S0 O (y9 (pP h3)) ((E a ia h1 _ _ h).mono λv st k=>(E b1 i1 h2 _ _ k).mono λw st k=>eY.mono k λr q=>bj.mono q (E b2 i2 h3 _ _) id))
  (λe ie he h1 K st h=>SQ (he ac) (E e ie h1 _ _ h)) hc
end
section
variable{X:Cx}{n:Nat}
theorem Dr{c:CT}{i:II}(h:cI k c e=some i):pO e=true:=I7 (P:=λe J=>pO e=true) (λJ J h=>pP h) (λJ J J J J J J J J J=>rfl) h
theorem Vg(h:pO e=true):∀a b c d,e≠ .Slice a b c d:=λJ J J J q=>by subst q;exact ff h
theorem Vh(ok:fb X)(O:Ops X n)(Z:nj X n)(hE:wi X n k)(hB:wj X n k):wi X n (k+1):=λL ae ac c EO e i hc =>
 have E:=hE L ae ac c EO
 have B:=hB L ae ac c EO
 T3 (P:=λe i=>∀K st,bF X n i K st->bO X n L ae (eval e ac) K st) (λv p q w h1 K st h=>SI h1 h) (λx p i h1 K st h=>Cw ok EO h1 h)
  (λa o b p ia ib h1 h2 K st h=>SJ O ((E a ia h1 _ _ h).mono λv st k=>E b ib h2 _ _ k)) (λa p ia h1 K st h=>SK O (E a ia h1 _ _ h)) (λa p ia h1 K st h=>SL (E a ia h1 _ _ h)) (λo es p is h1 K st h=>SU (U9 E h1 h))
  (λt a b p it ia ib h1 h2 h3 K st h=>SO ((B t it h1 _ _ h).mono λc st q=>bj.mono q (E a ia h2 _ _) (E b ib h3 _ _)))
  (λa o b p ia ib h1 h2 K st h=>SM O (y9 (pP h2)) ((E a ia h1 _ _ h).mono λv st k=>E b ib h2 _ _ k))
  (λa o1 o2 b1 b2 p ia i1 i2 h1 h2 h3 K st h=>SZ O (y9 (pP h3)) ((E a ia h1 _ _ h).mono λv st k=>(E b1 i1 h2 _ _ k).mono λw st k=>eY.mono k λr q=>bj.mono q (E b2 i2 h3 _ _) id))
  (λo x ap as p io is g1 g2 g3 h1 h2 K st h=>Tl g1 g2 g3 (rp h2) ((E o io h1 _ _ h).mono λv st k=>k.casesOn λg r q=>⟨g,r,rq E h2 q⟩))
  (λx q as ks p i is CX h1 h2 h3 K st h=>Tk rfl (rp h2) (Vc h3) ((Cw ok EO h1 (QZ _ _ h)).mono λv st k=>(rq E h2 k).mono λvs st q=>Vb E h3 q))
  (λo x p io g h1 K st h=>To O g (E o io h1 _ _ h)) (λo lo hi q p io l u h1 h2 h3 K st h=>Tq O ((E o io h3 _ _ h).mono λv st k=>Jb E h1 h2 k))
  (λo i p io ii h1 h2 K st h=>Tp O (Vg (pP h2)) ((E o io h1 _ _ h).mono λv st k=>E i ii h2 _ _ k)) (λes m p is h1 K st h=>Tc (CF (rp h1) (rq E h1 h))) (λes p is h1 K st h=>Te (CF (rp h1) (rq E h1 h)))
  (λcK t it ifs scope p fR oi cond tg aP ie h1 h2 h3 h4 h5 h6 h7 K st h A κ s hr rel=>ao ((eval_ListComp ..).symm) (Jy ok EO Z hE hB h1 h2 h3 h4 h5 h6 h7 (CZ (Dr h1)) h (use:=none) hr rel λv y st' κ' s' r e v1 k1=> .to r e v1 k1))
  (λargs body scope p i h1=>T1 (P:=λargs body i=>∀K st,bF X n i K st->bO X n L ae (eval (.Lambda args body scope p) ac) K st) (λp q ps p1 p2 p3 j g1 g2 g3 g4 g5 g6 g7 K st h=>U0 ok EO g1 g2 g3 g4 g5 g6 g7 h) h1) hc
end
section
variable {is:List Nat}{line:Nat}{ts:List Expr}
noncomputable def pX(ac:Env)(line:Nat)(e:Expr):Option Str:=B0 (λJ=>Option Str) e (λid pos=>if ac.kindOf id==some .local&&pos.line==line then some id else none) λJ=>none
theorem Vi{vs:List Expr}{k2:Nat}{p p2:Pos}(hb:tv (.Tuple vs k2 p2)=false) :
  swappedStores [.Tuple ts k p] (.Tuple vs k2 p2) ac=pure none∨∃names line,swappedStores [.Tuple ts k p] (.Tuple vs k2 p2) ac=pure (some names)/\(ts.length=2∨ts.length=3)/\
   names=ts.filterMap (pX ac line)/\names.length=ts.length/\names.eraseDups.length=names.length:=by
 unfold swappedStores;dsimp only
 split
 ·exact .inl rfl
 rename_i c1
 split
 ·exact .inl rfl
 generalize hN:ts.filterMap _=N
 have Vj:N=ts.filterMap (pX ac ((ts.head?.map (λz=>z.pos.line)).getD 0)):=by
  refine ao hN ?_;congr 1
 split
 ·exact .inl rfl
 rename_i c3
 split
 ·exact .inl rfl
 have c5:vs.all (constantsAlone 8)=false:=hb
 refine aa c5 ?_
 right
 simp only [Vk,not_or,bne_iff_ne,ne_eq,Decidable.not_not,l8,beq_iff_eq] at c1 c3
 refine ⟨N,_,rfl, ?_,Vj,c3.1,c3.2⟩
 have:=c1.1.1
 simp at this
 by_cases q:ts.length=2
 ·exact .inl q
 ·exact .inr (by simpa [q] using this)
theorem Vl{t:Expr}(h:pX ac line t=some x):∃p,t= .Name x p/\ac.kindOf x=some .local:=by
 rcases t with ⟨⟩<;>first | exact nn h | skip
 by_cases q:(ac.kindOf id==some .local&&pos.line==line)=true
 ·cases aN ((if_pos q).symm.trans h);exact ⟨pos,rfl,eq_of_beq (bP.mp q).1⟩
 ·exact nn ((if_neg q).symm.trans h)
theorem Vm(n:Nat):∀l:List Str,l.length≤n->l.eraseDups.length≤l.length:=by
 induction n with
 | zero=>exact λl h=>by cases zl.mp (Vn.mp h);exact cg _
 | succ n ih =>
  intro l h;rcases l with _ | ⟨a,l⟩
  ·exact cg _
  ·refine aa Vo ?_
   have f:=Vp (λb=> !b==a) l
   exact fT (ag (ih _ (ag f (JF h))) f)
theorem Vq{l:List Str}(h:l.eraseDups.length=l.length):l.Nodup:=by
 induction l with
 | nil=>exact .nil
 | cons a l ih =>
  rw [Vo] at h
  have h:=q6 h
  have f:=Vp (λb=> !b==a) l
  have g:=Vm _ _ (cg (l.filter λb=> !b==a).length)
  have e:l.filter (λb=> !b==a)=l:=Vr.mpr (List.length_filter_eq_length_iff.mp (yX f (ao h g)))
  rw [e] at h
  exact f6.mpr ⟨λm=>by have:=Vr.mp e a m;rw [beq_self_eq_true] at this;exact ff this,ih h⟩
section
variable{X:Cx}{n:Nat}{L:Addr}{ae:List Loc}{ac:Env}{c:CT}
theorem Vs(EO:dM X ac L ae c){y:Str}{i:Nat}(hx:jP c x=some i)(hy:jP c y=some i)(kx:ac.kindOf x=some .local)(ky:ac.kindOf y=some .local):x=y:=by
 have at_:∀{x:Str},jP c x=some i->ac.kindOf x=some .local->ae[i]? =some (.loc L x):=λ{x} hc hk=>by
  obtain ⟨hb,h1,h2⟩:=Ib hc;obtain ⟨l,hl,h⟩:=EO.idx x i hb h1 h2;rcases h with ⟨_,rfl⟩ | ⟨h,_⟩
  ·exact hl
  ·rw [hk] at h;rcases h with h | h<;>cases h
 cases aN ((at_ hx kx).symm.trans (at_ hy ky));rfl
def Placed(ac:Env)(c:CT)(ps:List (Str×Nat)):Prop:=∀p∈ps,jP c p.1=some p.2/\ac.kindOf p.1=some .local
def zm(ac:Env)(c:CT)(line:Nat)(ts:List Expr)(cM:List IT):Prop:=∃ps,ts.filterMap (pX ac line)=ps.map (λz=>z.1)/\cM=ps.map (λp=>IT.v p.2)/\Placed ac c ps
theorem Vt:∀{cM:List IT},(ts.filterMap (pX ac line)).length=ts.length->ts.mapM (cT k c)=some cM->zm ac c line ts cM:=by
 induction ts with
 | nil=>exact λJ=>mn (C:=zm ac c line []) ⟨[],rfl,rfl,λJ h=>by cases h⟩
 | cons t ts ih =>
  refine λhf=>mc (C:=zm ac c line (t::ts)) λit cM h1 h2=> ?_;unfold zm;rcases q:pX ac line t with _ | x
  ·rw [Ds q] at hf
   exact absurd (tW (pX ac line) ts) (Dt.mpr (hf▸ju _))
  ·rw [zn q] at hf ⊢
   obtain ⟨ps,e1,e2,h⟩:=ih (q6 hf) h2;obtain ⟨p,rfl,hk⟩:=Vl q;obtain ⟨i,hi,rfl⟩:=lW.mp (show (jP c x).map IT.v=some it from h1);exact ⟨(x,i)::ps,aa e1 rfl,aa e2 rfl,λp hp=>(br.mp hp).elim (λe=>e▸⟨hi,hk⟩) (h p)⟩
theorem Vu{ps:List (Str×Nat)}:∀{vs:List ab} {st:St} {K:St->Prop},oa X n (ps.map λp=>IT.v p.2) vs K st->gp (ps.map (λz=>z.2)) vs st K:=by
 induction ps with
 | nil=>exact λ{vs _ _} h=>by rcases vs with _ | _<;>exact h
 | cons p ps ih=>exact λ{vs _ _} h=>by rcases vs with _ | _;exact h;exact cX.of h λc k=>cX.i c (ih k)
theorem Vv{i:Nat}:∀{vs:List ab} {st:St} {K:St->Prop},i∉is->pE i v st (λst=>gp is vs st K)->gp is vs st λst=>pE i v st K:=by
 induction is with
 | nil=>exact λ{vs _ _} _ h=>by rcases vs with _ | _;exact h;exact cX.of h λJ k=>k
 | cons j is ih =>
  refine λ{vs st K} hi h=> ?_;rcases vs with _ | ⟨w,vs⟩
  ·exact cX.of h λJ k=>k
  ·have dy:j≠i:=λe=>hi (ao e (.head _))
   refine cX.of h λc k=>cX.of k λd k=>cX.i (Hy.symm.trans d) (ih (λm=>hi (.tail _ m)) (cX.i (Hy.trans c) ?_));refine (?_:gp is vs {m:=(st.m.set j (some w)).set i (some v),fz:=st.fz,σ:=st.σ} K);exact aa (List.set_comm _ _ dy) k
theorem Vw{js:List Nat}{ws:List ab}{K:St->Prop}:∀{vs:List ab} {st:St},gp is vs st (λst=>gp js ws st K)->gp (is++js) (vs++ws) st K:=by
 induction is with
 | nil=>exact λ{vs _} h=>by rcases vs with _ | _;exact h;exact h.elim
 | cons j is ih=>exact λ{vs _} h=>by rcases vs with _ | _;exact h.elim;exact cX.of h λc k=>cX.i c (ih k)
theorem Vx:∀{vs:List ab} {st:St} {K:St->Prop},is.Nodup->gp is vs st K->gp is.reverse vs.reverse st K:=by
 induction is with
 | nil=>exact λ{vs _ _} _ h=>by rcases vs with _ | _;exact h;exact h.elim
 | cons i is ih =>
  refine λ{vs st K} hn h=> ?_;rcases vs with _ | ⟨v,vs⟩
  ·exact h.elim
  ·exact aH Du Du (Vw (ih (f6.mp hn).2 (Vv (f6.mp hn).1 h)))
theorem JG{A s}{Q:Unit->al->Prop}(h:Q () s):ai X.M A (assignInOrder [] ys) Q (λJ J=>False) s:=by
 rcases ys with _ | _<;>exact aM h
theorem Vy(EO:dM X ac L ae c){A}{K:St->Prop}{ps:List (Str×Nat)}:∀{vs:List ab} {ys:List Value} {st:St} {κ s},Placed ac c ps->Rel X L ae st κ s->aO (aj st.σ κ) s.heap vs ys->gp (ps.map (λz=>z.2)) vs st K->
  ai X.M A (assignInOrder ((ps.map (λz=>z.1)).map λx=>bindName ac x) ys) (Post X L ae st.σ κ s.heap ig (λJ=>K)) (λJ J=>False) s:=by
 induction ps with
 | nil=>exact λ{vs _ _ _ _} _ rel hv h=>by rcases vs with _ | _;exact JG (.same (b:=()) rel rfl rfl rfl trivial h);exact h.elim
 | cons p ps ih =>
  refine λ{vs ys st κ s} hp rel hv h=> ?_;rcases vs with _ | ⟨v,vs⟩
  ·exact h.elim
  ·refine hv.c λy ys jt ik=> ?_;exact aq (bH (GL (weak (CL EO (hp p (.head _)).1 rel jt h) λJ s1 q=>by
    obtain ⟨_,ax,aA,r1,e1,_,k1⟩:=q;exact weak (ih (λp q=>hp p (.tail _ q)) r1 (ik.mono e1.bd) k1) λJ J p=>p.trans e1)))
theorem Vz(EO:dM X ac L ae c){ps:List (Str×Nat)}(hp:Placed ac c ps)(hn:(ps.map (λz=>z.1)).Nodup):(ps.map (λz=>z.2)).Nodup:=by
 induction ps with
 | nil=>exact .nil
 | cons p ps ih =>
  refine f6.mpr ⟨λm=> ?_,ih (λp q=>hp p (.tail _ q)) (f6.mp hn).2⟩;obtain ⟨q,hq,e⟩:=bJ.mp m
  have a:=hp p (.head _)
  have b:=hp q (.tail _ hq)
  exact (f6.mp hn).1 (bJ.mpr ⟨q,hq,(Vs EO a.1 (b.1.trans (congrArg some e)) a.2 b.2).symm⟩)
theorem VR.rev{U h vs ys}(r:aO U h vs ys):aO U h vs.reverse ys.reverse:=r.ind (P:=λvs ys=>aO U h vs.reverse ys.reverse) .nil λa J ih=>by
 exact aH Du Du (ih.append (.one a))
theorem VA(EO:dM X ac L ae c){cM:List IT}{K:St->Prop}{κ s A}(hn:names=ts.filterMap (pX ac line))(hf:names.length=ts.length)
  (hd:names.eraseDups.length=names.length) (hc:ts.mapM (cT k c)=some cM) (rel:Rel X L ae st κ s) (hv:aO (aj st.σ κ) s.heap vs ys) (h:oa X n cM vs K st) :
  ai X.M A (assignInOrder (names.reverse.map λx=>bindName ac x) ys.reverse) (Post X L ae st.σ κ s.heap ig (λJ=>K)) (λJ J=>False) s:=by
 subst hn;obtain ⟨ps,e1,rfl,hp⟩:=Vt hf hc;rw [e1] at hd ⊢
 exact ao VB (Vy EO (λp q=>hp p (P8.mp q)) rel hv.rev (aa VB (Vx (Vz EO hp (Vq hd)) (Vu h))))
end
end
section
variable{X:Cx}{n:Nat}{L:Addr}{ae:List Loc}{ac:Env}{c:CT}
theorem wx(ok:fb X)(O:Ops X n)(Z:nj X n)(k:Nat):wi X n k/\wj X n k :=
 k.rec ⟨λJ J J J J J J h=>nn h,λJ J J J J J J h=>nn h⟩ λJ h=>⟨Vh ok O Z h.1 h.2,Vf ok O h.1 h.2⟩
noncomputable def zo(t:Expr):Bool:=eh t.ctorIdx 23 || eh t.ctorIdx 20 || eh t.ctorIdx 21
theorem Dv{t:Expr}{it:IT}(h:cT k c t=some it):zo t=true:=C3 (P:=λt J=>zo t=true) (λJ J J J=>rfl) (λJ J J J J=>rfl) (λJ J J J J J J J J J J=>rfl) (λJ J J J J J J=>rfl) h
theorem VC(ac:Env){ts:List Expr}:∀{cM:List IT},ts.mapM (cT k c)=some cM->(assignEach ts ac).length=cM.length/\(assignEach ts ac).findIdx? (λz=>z.1)=none/\(assignEach ts ac).map (λz=>z.2)=ts.map λt=>assign t ac:=by
 induction ts with
 | nil=>exact λ{cM}=>mn (C:=λcM=>0=cM.length/\_) ⟨rfl,rfl,rfl⟩
 | cons t ts ih =>
  refine λ{cM}=>mc (C:=λcM=>(assignEach (t::ts) ac).length=cM.length/\_) λi is h1 h2=> ?_
  have e:assignEach (t::ts) ac=(false,assign t ac)::assignEach ts ac:=C3 (P:=λt J=>assignEach (t::ts) ac=(false,assign t ac)::assignEach ts ac) (λJ J J J=>rfl) (λJ J J J J=>rfl) (λJ J J J J J J J J J J=>rfl) (λJ J J J J J J=>rfl) h1
  exact aa e (⟨congrArg (λz=>z +1) (ih h2).1,TN.trans (by refine aa ((ih h2).2.1) ?_;rfl),congrArg (λz=>_:: z) (ih h2).2.2⟩)
variable(O:Ops X n)
include O
theorem VD(EO:dM X ac L ae c)(hE:SE X n L ae ac c k){A}(hr:cL n A){K:St->Prop}{ts:List Expr}:∀{cM:List IT} {vs:List ab} {ys:List Value} {st:St} {κ s},ts.mapM (cT k c)=some cM->
  Rel X L ae st κ s->aO (aj st.σ κ) s.heap vs ys->oa X n cM vs K st->ai X.M A (assignInOrder (ts.map λt=>assign t ac) ys) (Post X L ae st.σ κ s.heap ig (λJ=>K)) (λJ J=>False) s:=by
 induction ts with
 | nil=>exact λ{cM vs ys st κ s} hc rel hv h=>mn (C:=λcM=>oa X n cM vs K st->_) (λh=>by rcases vs with _ | _;exact JG (.same (b:=()) rel rfl rfl rfl trivial h);exact h.elim) hc h
 | cons t ts ih =>
  refine λ{cM vs ys st κ s} hc rel hv h=>mc (C:=λcM=>oa X n cM vs K st->_) (λi is h1 h2 h=> ?_) hc h;rcases vs with _ | ⟨v,vs⟩
  ·exact h.elim
  ·refine hv.c λy ys jt ik=> ?_;exact aq (bH (weak (C4 O EO hE hr h1 rel jt h) λJ s1 p=>by
    obtain ⟨_,ax,aA,r1,e1,_,k1⟩:=p;exact weak (ih h2 r1 (ik.mono e1.bd) k1) λJ J p=>p.trans e1))
omit O in
theorem zp{P:Expr->Prop}(a:∀x p,P (.Name x p))(b:∀o x p,P (.Attribute o x p))(d:∀o i p,P (.Subscript o i p)){t:Expr}(h:zo t=true):P t:=by
 rcases t with ⟨⟩<;>first | exact ff h | exact a _ _ | exact b _ _ _ | exact d _ _ _
omit O in
theorem assign1{A E s}{t v:Expr}{Q:iJ->al->Prop}(ht:zo t=true)(hs:swapsWithSole [t] v pos.line ac=pure false)
  (h:ai X.M A (eval v ac) (λy s1=>ai X.M A (assign t ac y) (λJ=>Q .next) E s1) E s):ai X.M A (exec (.Assign [t] v pos) ac) Q E s :=
 PO (aZ h (λy s1 h1=>zp (P:=λt=>ai X.M A (assign t ac y) (λJ=>Q .next) E s1->ai X.M A (assignAll y ((assignEach [t] ac).map wy)) (λJ=>Q .next) E s1) (λJ J h=>h) (λJ J J h=>h) (λJ J J h=>h) ht h1) λJ J x=>x) hs
  (zp (P:=λt=>swappedStores [t] v ac=pure none) (λJ J=>rfl) (λJ J J=>rfl) (λJ J J=>rfl) ht)
end
section
variable {L:Addr}{ie:IE}{ae:List Loc}
section
variable{X:Cx}{n:Nat}
def Dw(X:Cx)(n k:Nat):Prop:=∀L ae ac c,dM X ac L ae c->∀s i,cS k c s=some i->∀K st,wpS X n i K st->dG X n L ae (exec s ac) K st
theorem VE{s:fQ}{i:IS}{is:List IS}{K:cq->St->Prop}(hS:∀K st,wpS X n i K st->dG X n L ae (exec s ac) K st)(h:dA X n (i::is) K st):dG X n L ae (exec s ac) (I' (λst=>dA X n is K st) K) st:=by
 cases is with
 | nil=>exact (hS _ _ h).mono λfl st q=>by cases fl<;>exact q
 | cons j js=>exact (hS _ _ h).mono λfl st q=>by cases fl<;>exact q
theorem JH{c:CT}(hS:∀s i,cS k c s=some i->∀K st,wpS X n i K st->dG X n L ae (exec s ac) K st){K:cq->St->Prop}{ss:List fQ} :
  ∀{is:List IS} {st:St},ss.mapM (cS k c)=some is->dA X n is K st->dG X n L ae (execs ss ac) K st:=by
 induction ss with
 | nil=>exact λ{is st}=>mn (C:=λis=>dA X n is K st->_) Ub
 | cons s ss ih=>exact λ{is st}=>mc (C:=λis=>dA X n is K st->_) λi is h1 h2 h=>Uc ((VE (hS s i h1) h).mono λfl st q=>by
   rcases fl with _ | _ | _ | _
   ·exact ih h2 q
   ·exact q
   ·exact q
   ·exact q)
noncomputable def isTup:ab->Bool
 | .tuple _=>true
 | _=>false
theorem VF{es:List IE}(h:bF X n (.tuple es) K st):bF X n (.tuple es) (λv st=>isTup v=true/\K v st) st :=
 have e:(λ(vs:List ab) st=>cX (short vs 100) (K (.tuple vs) st))=λvs st=>cX (short vs 100) (isTup (.tuple vs)=true/\K (.tuple vs) st):=funext λvs=>funext λst=>propext ⟨λh=>cX.of h λc k=>cX.i c ⟨rfl,k⟩,λh=>cX.of h λc k=>cX.i c k.2⟩
 (congrArg (λk=>jo X n es k st) e).mp h
theorem VG{P:Expr->Prop}(a:∀cK gens scope p,P (.ListComp cK gens scope p)){v:Expr}(h:qX v=true):P v:=by
 rcases v with ⟨⟩<;>first | exact ff h | exact a _ _ _ _
theorem JI{c:CT}{v t:Expr}{line:Nat}(h:qX v=false)(hv:cE (k+1) c v=some ie):swapsWithSole [t] v line ac=pure false:=by
 rcases v with ⟨⟩<;>first | rfl | exact ff h.symm | exact nn hv
theorem VH{c:CT}{P:Expr->IE->Prop}(a:∀es m p is,P (.Tuple es m p) (.tuple is)){v:Expr}(q:eh v.ctorIdx 25=true)(hv:cE (k+1) c v=some ie):P v ie:=by
 rcases v with ⟨⟩<;>first | exact ff q | exact b1 (λis J=>a _ _ _ is) hv
variable(ok:fb X)(O:Ops X n)(Z:nj X n)
include ok O Z
theorem VI{c:CT}(EO:dM X ac L ae c){t v:Expr}{it:IT}(ht:cT (k+1) c t=some it)(hv:cE (k+1) c v=some ie){K:cq->St->Prop}
  (h:bF X n ie (λv st=>tH X n it v (λst=>K .next st) st) st):dG X n L ae (exec (.Assign [t] v pos) ac) K st:=by
 obtain ⟨hE,hB⟩:=wx ok O Z (k+1)
 have rD:=hE L ae ac c EO
 have ox:swapsWithSole [t] v pos.line ac=pure false->dG X n L ae (exec (.Assign [t] v pos) ac) K st:=λhs A κ s hr rel =>
  assign1 (Dv ht) hs (chain (rD v ie hv _ _ h) hr rel λy s1 av ax aA r1 e1 v1 k1=>weak (C4 O EO rD hr ht r1 v1 k1) λJ s2 p=>by obtain ⟨_,bc,bR,r2,e2,_,k2⟩:=p;exact .to r2 (e1.trans e2) .next k2)
 rcases q:qX v with _ | _
 ·exact ox (JI q hv)
 ·refine VG (P:=λv=>cE (k+1) c v=some ie->(swapsWithSole [t] v pos.line ac=pure false->dG X n L ae (exec (.Assign [t] v pos) ac) K st)->dG X n L ae (exec (.Assign [t] v pos) ac) K st) (λcK gens scope p hv ox=> ?_) q hv ox;obtain ⟨b,hb⟩:∃b,swapsWithSole [t] (.ListComp cK gens scope p) pos.line ac=pure b:=zp (P:=λt=>∃b,swapsWithSole [t] (.ListComp cK gens scope p) pos.line ac=pure b) (λJ J=>⟨_,rfl⟩) (λJ J J=>⟨_,rfl⟩) (λJ J J=>⟨_,rfl⟩) (Dv ht);rcases b with _ | _
  ·exact ox hb
  ·refine I3 (P:=λgens ie=>bF X n ie (λv st=>tH X n it v (λst=>K .next st) st) st->swapsWithSole [t] (.ListComp cK gens scope p) pos.line ac=pure true->dG X n L ae (exec (.Assign [t] (.ListComp cK gens scope p) pos) ac) K st) (λt' Dx ifs fR oi cond tg aP ahX h1 h2 h3 h4 h5 h6 h7 h hb A κ s hr rel=> ?_) hv h hb;refine aa (PP ..) (aa hb ?_);refine aq (cy (aq (aM ?_)));refine aa (if_pos rfl) ?_;obtain ⟨VJ,VK⟩:=wx ok O Z k;refine aa (show (λv=>assignAll v ((assignEach [t] ac).map wy))=λv=>assign t ac v from zp (P:=λt=>(λv=>assignAll v ((assignEach [t] ac).map wy))=λv=>assign t ac v) (λJ J=>rfl) (λJ J J=>rfl) (λJ J J=>rfl) (Dv ht)) (?_:ai _ _ ((comprehension (.ListComp cK [⟨t',Dx,ifs,0⟩] scope p) scope ac (firstIterPos [⟨t',Dx,ifs,0⟩] p) (newList []) false (eval Dx ac) (some (λv=>assign t ac v))>>=λJ=>pure ())>>=λJ=>pure JJ) _ _ _);exact aq (aq (Jy ok EO Z VJ VK h1 h2 h3 h4 h5 h6 h7 (CZ (Dr h1)) h (use:=some _) (F:=λJ s'=>ai X.M A (pure ()) (λJ lS=>ai X.M A (pure JJ) _ _ lS) _ s') hr rel ⟨K .next,λv y ax aA s1 r1 v1 k1=>C4 O EO rD hr ht r1 v1 k1,λst' κ' s' r e k1=>aM (aM ⟨.next,st',κ',r,e, .next,k1⟩)⟩))
theorem VL{c:CT}(EO:dM X ac L ae c){ts:List Expr}{kk:Nat}{tp:Pos}{v:Expr}{cM:List IT}(hl:qX v=false)(Dy:tv v=false)(ht:ts.mapM (cT (k+1) c)=some cM)(hv:cE (k+1) c v=some ie){K:cq->St->Prop}
  (h:bF X n ie (λv st=>bE (eX st.σ v) λvs=>cX (vv cM vs) (oa X n cM vs (λst=>K .next st) st)) st):dG X n L ae (exec (.Assign [.Tuple ts kk tp] v pos) ac) K st:=by
 obtain ⟨hE,hB⟩:=wx ok O Z (k+1)
 have rD:=hE L ae ac c EO
 have hs:swapsWithSole [.Tuple ts kk tp] v pos.line ac=pure false:=JI hl hv
 refine pd (VC ac ht) λl1 l2 l3=> ?_
 have ox:swappedStores [.Tuple ts kk tp] v ac=pure none->dG X n L ae (exec (.Assign [.Tuple ts kk tp] v pos) ac) K st:=λhw A κ s hr rel=>by
  refine Assign_Tuple (chain (rD v ie hv _ _ h) hr rel λy s1 av ax aA r1 e1 v1 k1=> ?_) hs hw;refine aD (bE.ex k1) λvs mj k1=>cX.of k1 λaU k1=> ?_;replace aU:=Hp aU;refine aa (TQ ..) (aq (cy (IU hr r1 v1 mj (l1.trans aU) l2 λs' ys r2 e2 hy=> ?_)));refine aa l3 ?_;exact weak (VD O EO rD hr ht r2 hy k1) λJ s3 p=>by obtain ⟨_,dS,fx,r3,e3,_,k3⟩:=p;exact .to r3 ((e1.trans e2).trans e3) .next k3
 rcases q:eh v.ctorIdx 25 with _ | _
 ·exact ox (by rcases v with ⟨⟩<;>first | rfl | exact ff q.symm)
 ·refine VH (P:=λv ie=>tv v=false->(swappedStores [.Tuple ts kk tp] v ac=pure none->dG X n L ae (exec (.Assign [.Tuple ts kk tp] v pos) ac) K st)->swapsWithSole [.Tuple ts kk tp] v pos.line ac=pure false->cE (k+1) c v=some ie->
   bF X n ie (λv st=>bE (eX st.σ v) λvs=>cX (vv cM vs) (oa X n cM vs (λst=>K .next st) st)) st->dG X n L ae (exec (.Assign [.Tuple ts kk tp] v pos) ac) K st) (λes k2 p2 is Dy ox hs hv h=> ?_) q hv Dy ox hs hv h
  rcases Vi (ts:=ts) (k:=kk) (p:=tp) (ac:=ac) Dy with hw | ⟨names,line,hw,tP,hn,hf,hd⟩
  ·exact ox hw
  ·intro A κ s hr rel;refine Assign_Tuple_swapped (names:=names) (chain (rD _ _ hv _ _ (VF h)) hr rel λy s1 av ax aA r1 e1 v1 k1=> ?_) hs hw;obtain ⟨tU,k0⟩:=k1;refine aD (bE.ex k0) λvs mj k0=>cX.of k0 λaU k2=> ?_;clear k0;replace aU:=Hp aU;rcases av with ⟨⟩<;>first | exact ff tU | skip
   cases aN mj;refine eM (v1.inv) λt items bQ u tU aL=> ?_;subst bQ;refine aa (show names.length=items.toArray.size by rw [hf,fI,<-aL.length,<-aU,U8 ht]) (unpackItems_tuple hr.handled tU λh' he=> ?_)
   have hx:∀b o,s1.heap.get? b=some o->h'.get? b=some o:=λb o g=>he b o (dB (cR g)) g
   exact weak (VA EO hn hf hd ht (r1.ext (s':={s1 with heap:=h'}) hx rfl rfl) (aL.mono (gP hx)) k2) λJ s3 p=>by obtain ⟨_,dS,fx,r3,e3,_,k3⟩:=p;exact .to r3 ((e1.trans (.ext hx)).trans e3) .next k3
end
end
section
variable{X:Cx}{n:Nat}
theorem VM{c:CT}{P:fQ->IS->Prop}(expr:∀f as ks p q ie,cE (k+1) c (.Call f as ks p)=some ie->P (.Expr (.Call f as ks p) q) (.expr ie))
  (d0:∀ts m tp v p cM ie,qX v=false->tv v=false->ts.mapM (cT (k+1) c)=some cM->cE (k+1) c v=some ie->P (.Assign [.Tuple ts m tp] v p) (.d0 cM ie))
  (assign:∀t v p it ie,cT (k+1) c t=some it->cE (k+1) c v=some ie->P (.Assign [t] v p) (.s it ie))
  (aug:∀o i q op v p io ii iv,cE (k+1) c o=some io->cE (k+1) c i=some ii->cE (k+1) c v=some iv->P (.AugAssign (.Subscript o i q) op v p) (.aug io ii op iv))
  (loop:∀t it body p tg aP ii ib,kX c t=some (tg,aP)->cI (k+1) c it=some ii->nW ii aP=true->body.mapM (cS k c)=some ib->P (.For t it body [] p) (.loop tg aP ii ib))
  (jj:∀t body p ib is,cB (k+1) c t=some ib->body.mapM (cS k c)=some is->P (.While t body [] p) (.jj ib is)) (ifs:∀t a b p it ia ib,cB (k+1) c t=some it->a.mapM (cS k c)=some ia->b.mapM (cS k c)=some ib->P (.If t a b p) (.ifs it ia ib))
  (VN:∀p,P (.Return none p) (.ret none)) (ret:∀e p ie,cE (k+1) c e=some ie->P (.Return (some e) p) (.ret (some ie))) (fail:∀a b p,P (.Raise a b p) .fail) (pass:∀p,P (.Pass p) .pass) {s:fQ} {i:IS} (h:cS (k+1) c s=some i):P s i:=by
 rcases s with ⟨⟩<;>first | exact nn h | exact b3 (ifs _ _ _ _) h | exact aN h▸fail _ _ _ | exact aN h▸pass _ | skip
 ·rcases value with _ | e
  ·exact aN h▸VN _
  ·exact eO (ret _ _) h
 ·rcases targets with _ | ⟨t,_ | _⟩<;>first | exact nn h | (rcases t with ⟨⟩<;>first | exact nn h | exact b2 (assign _ _ _) h | skip)
  by_cases q:(qX value || tv value)=true
  ·exact nn ((if_pos q).symm.trans h)
  ·have q:=vJ.mp (VO _▸q)
   exact b2 (λz cf=>d0 _ _ _ _ _ z cf q.1 q.2) ((if_neg (by refine aH q.1 q.2 ?_;exact ff)).symm.trans h)
 ·rcases target with ⟨⟩<;>first | exact nn h | exact b3 (aug _ _ _ _ _ _) h
 ·rcases orelse with _ | _<;>first | exact nn h | skip
  obtain ⟨⟨tg,aP⟩,h1,h⟩:=cQ.mp h;obtain ⟨ii,h2,h⟩:=cQ.mp h;obtain ⟨q,h⟩:=m3 h;exact b1 (λib h3=>loop _ _ _ _ _ _ _ ib h1 h2 q h3) h
 ·rcases orelse with _ | _<;>first | exact nn h | exact b2 (jj _ _ _) h
 ·rcases value with ⟨⟩<;>first | exact nn h | exact eO (expr _ _ _ _ _) h
theorem VP{i:Expr}(h:pO i=true):∀ov iv new:Value,augStore i ov iv new=(holding [new,ov,iv] (setItem ov iv new)>>=λJ=>release [new,ov,iv] []>>=λJ=>pure JJ):=by rcases i with ⟨⟩<;>first | exact λJ J J=>rfl | exact ff h
theorem VQ(O:Ops X n){L:Addr}{ae:List Loc}{c:CT}(E:SE X n L ae ac c k){o i v:Expr}{q:Pos}{op:pg}{io ii iv:IE}(h1:cE k c o=some io)(h2:cE k c i=some ii)(h3:cE k c v=some iv){K:cq->St->Prop}(h:wpS X n (.aug io ii op iv) K st) :
  dG X n L ae (exec (.AugAssign (.Subscript o i q) op v pos) ac) K st:=λA κ s hr rel=>by
 refine PQ (chain (E _ io h1 _ _ h) hr rel λy1 s1 ov ax aA r1 e1 v1 k1=>chain (E _ ii h2 _ _ k1) hr r1 λy2 s2 ahY bc bR r2 e2 v2 k2=> ?_) (VP (pP h2));refine weak (O.get k2 r2 (v1.mono e2.bd) v2 A hr) λy3 s3 p=> ?_;obtain ⟨old,dS,fx,r3,e3,v3,k3⟩:=p;refine chain (E _ iv h3 _ _ k3) hr r3 λy4 s4 w re m1 r4 e4 v4 k4=>weak (O.H4 k4 r4 (v3.mono e4.bd) v4 A hr) λy5 s5 p=> ?_;obtain ⟨new,Cv,tJ,r5,e5,v5,k5⟩:=p
 have Dz:=(e3.trans e4).trans e5
 refine weak (O.Ct (K:=λJ=>K .next) k5 r5 (v1.mono (e2.trans Dz).bd) (v2.mono Dz.bd) v5 A hr) λJ s6 p=> ?_;obtain ⟨_,vY,pS,r6,e6,_,k6⟩:=p;exact .to r6 (((e1.trans e2).trans Dz).trans e6) .next k6
theorem VS(ok:fb X)(O:Ops X n)(Z:nj X n)(hS:Dw X n k):Dw X n (k+1):=λL ae ac c EO s i hc =>
 have E:=(wx ok O Z (k+1)).1 L ae ac c EO
 have B:=(wx ok O Z (k+1)).2 L ae ac c EO
 have S:=λ{ss:List fQ} {is:List IS} {K:cq->St->Prop} {st:St}=>JH (hS L ae ac c EO) (ss:=ss) (is:=is) (K:=K) (st:=st)
 VM (P:=λs i=>∀K st,wpS X n i K st->dG X n L ae (exec s ac) K st) (λf as ks p q ie h1 K st h=>Ui EO (E _ ie h1 _ _ h)) (λts m tp v p cM ie g1 g2 h1 h2 K st h=>VL ok O Z EO g1 g2 h1 h2 h) (λt v p it ie h1 h2 K st h=>VI ok O Z EO h1 h2 h)
  (λo i q op v p io ii iv h1 h2 h3 K st h=>VQ O E h1 h2 h3 h) (λt it body p tg aP ii ib h1 h2 q h3 K st h=>Ua ok EO Z E h2 h1 q (λK st hw=>S h3 hw) (CZ (Dr h2)) h)
  (λt body p ib is h1 h2 K st h=>Uf (h.mono λKb Ke st h=>(B t ib h1 _ _ h).mono λb st q=>bj.mono q (S h2) id)) (λt a b p it ia ib h1 h2 h3 K st h=>Ue ((B t it h1 _ _ h).mono λc st q=>bj.mono q (S h2) (S h3)))
  (λp K st h=>Ug h) (λe p ie h1 K st h=>Uh (E e ie h1 _ _ h)) (λJ J J J J h=>h.elim) (λp K st h=>Ud h) hc
theorem VT(ok:fb X)(O:Ops X n)(Z:nj X n)(k:Nat):Dw X n k:=k.rec (λJ J J J J J J h=>nn h) λJ h=>VS ok O Z h
end
section
variable {lam:Bool}
section
variable{X:Cx}{n:Nat}{L:Addr}{ae:List Loc}{ac:Env}{c:CT}
theorem VU(EO:dM X ac L ae c){f:Str×Value->PUnit->Sem (ForInStep PUnit)}(hf:∀n v u,f (n,v) u=(do storeName ac n v;pure (.yield ⟨⟩))){A}{Q:PUnit->al->Prop} :
  ∀{is:List Nat} {vs:List ab} {ys:List Value} {st:St} {K:St->Prop} {κ s},names.map (jP c)=is.map some->Rel X L ae st κ s->aO (aj st.σ κ) s.heap vs ys->gp is vs st K->
   (∀st' κ' s',Rel X L ae st' κ' s'->bg (λz=>z =L) st.σ κ s.heap st'.σ κ' s'.heap->K st'->Q ⟨⟩ s')->ai X.M A (forIn (names.zip ys) ⟨⟩ f) Q (λJ J=>False) s:=by
 induction names with
 | nil =>
  intro is vs ys st K κ s hc rel hv h hq;rcases is with _ | _
  ·rcases vs with _ | _
   ·refine aa List.zip_nil_left (aa BH ?_);exact aM (hq st κ s rel .refl h)
   ·exact h.elim
  ·cases hc
 | cons x names ih =>
  intro is vs ys st K κ s hc rel hv h hq;rcases is with _ | ⟨i,is⟩
  ·cases hc
  rcases vs with _ | ⟨v,vs⟩
  ·exact h.elim
  obtain ⟨rj,VV⟩:=tX hc;refine eV (hv.cons_inv) λy zs bQ jt ik=> ?_;subst bQ;refine aa tY (aa (pi ..) (aa (hf ..) ?_));refine aq (aq (weak (CL EO rj rel jt h) ?_))
  rintro _ s1 ⟨_,ax,aA,r1,e1,_,k1⟩
  exact aM (ih VV r1 (ik.mono e1.bd) k1 λst' κ' s' r e k=>hq st' κ' s' r (e1.trans e) k)
theorem VW(pre:List α)(x y:α)(r:List α):(pre++x::r).set pre.length y=pre++y::r:=by
 induction pre with
 | nil=>rfl
 | cons a p ih=>exact congrArg (λz=>a:: z) ih
theorem VX{x:α}{r:List α}(l:List α):vt l.length (l++x::r)=true:=l.rec rfl λJ J e=>e
theorem VY{K:St->Prop}(q:Nat)(vs:List ab):∀(n:Nat) (pre:List (Option ab)),pre.length=n->K {m:=pre++(vs.map some++ci q none),fz:= [],σ:=σ}->
  gp (ic n vs.length) vs {m:=pre++ci (q+vs.length) none,fz:= [],σ:=σ} K:=by
 induction vs with
 | nil=>exact λJ J J h=>h
 | cons v vs ih =>
  intro n pre e h;subst e;refine cX.i (VX pre) (?_:gp _ vs {m:=(pre++ci (q+vs.length+1) none).set pre.length (some v),fz:= [],σ:=σ} K);refine aa List.replicate_succ (aa (VW ..) (aa (List.append_cons ..) ?_));exact ih (pre.length+1) (pre++ [some v]) de (aa (lj ..) h)
structure pY(X:Cx)(a:Addr)(f:Fn)(fd:FuncData)(lam:Bool):Prop where
 obj:∃o,X.h₀.get? a=some o/\o.data= .func fd
 VZ:X.h₀.CodeRec fd.code fd.qualname
 c:vp 20 lam l7 fd=some f
 tab:lam=true->∃co P,fd.code= .ref co/\CodeHd X.h₀ co P/\(co,P,fd.qualname++ ".<locals>." ++ "<lambda>")∈X.tabs
structure zq(fd:FuncData):Prop where
 kind:fd.scope.kind= .function
 nd:jQ fd.scope.names=true
 gen:fd.scope.isGenerator=false
 co:fd.scope.isCoroutine=false
 bad:∀a∈fd.params.args,gQ a.arg=false
 pos:fd.params.posonlyargs= []
 var:fd.params.vararg=none
 V1:fd.params.kwonlyargs= []
 kw:fd.params.kwarg=none
 cl:fd.closure= []
 gl:fd.globals=mainGlobals
 bu:fd.builtins=builtinsNs
theorem V3(h:B3 fd=true):zq fd:=by
 simp only [B3,ro,beq_iff_eq,vg,l8,fE,CW] at h
 obtain ⟨⟨⟨⟨⟨⟨⟨⟨⟨⟨⟨⟨hk,hn⟩,_⟩,g⟩,c⟩,b⟩,p⟩,v⟩,ko⟩,kw⟩,hcl⟩,zr⟩,V4⟩:=h;exact ⟨hk,hn,g,c,b,p,v,ko,kw,hcl,zr,V4⟩
inductive JK(lam:Bool)(G:List (Str×ab))(fd:FuncData):Fn->Prop
 | mk (body ib):fd.body= .stmts body->zq fd->(fd.params.args.map λx=>(dr fd.scope.names 0).lookup x.arg)=(aK fd.params.args.length).map some->body.mapM (cS 20 (tw lam G fd))=some ib->JK lam G fd ⟨fd.params.args.length,(dr fd.scope.names 0).length,ib⟩
theorem JL{G:List (Str×ab)}{f:Fn}(h:vp 20 lam G fd=some f):JK lam G fd f:=by
 unfold vp at h
 generalize hb:fd.body=b at h
 rcases b with ⟨⟩<;>first | exact nn h | skip
 refine dP (m3 h) λhq h=>aD (lW.mp h) λib h1 bQ=> ?_;subst bQ;obtain ⟨a,b⟩:=bP.mp hq;exact .mk _ ib hb (V3 a) (beq_iff_eq.mp b) h1
noncomputable def V'(fd:FuncData)(L a:Addr):Env:=newEnv fd.scope L fd.globals (cellsFrom (L+1) fd.scope.names fd.closure) (fd.qualname++ ".<locals>.") (some a) fd.code none fd.builtins
theorem Wa(ns:List (Str×cz)):∀n:Nat,(x,a)∈cellsFrom n ns []->n≤a:=by
 induction ns with
 | nil=>exact λJ h=>by cases h
 | cons p r ih =>
  intro n h;unfold cellsFrom at h
  by_cases q:(p.2== .cell)=true
  ·rw [if_pos q,tT] at h
   rcases ji.mp h with h | h
   ·exact ip (ih _ h)
   ·cases dT.mp h;exact cg _
  ·rw [if_neg q] at h;exact ih _ h
theorem Wb{f:Fn}(hg:yR X l7)(D:pY X a f fd lam)(F:zq fd)(L:Addr):dM X (V' fd L a) L (fe L (cellsFrom (L+1) fd.scope.names fd.closure) fd.scope.names) (tw lam l7 fd):=by
 refine {kind:=F.kind,locals:=rfl,globals:=F.gl,builtins:=F.bu,n:=(vZ _ _).symm,G:=hg,glob:=λx h=>h,tab:=λh=> ?_,kinds:=λx k h=> .inl h,idx:=λx i hb d5 hi=> ?_}
 ·refine eV (D.tab h) λco P h1 h2 h3=>⟨λl hl=> ?_,co,P,h1,h2,h3⟩;obtain ⟨x,k,hx,⟨rfl,rfl⟩ | ⟨rfl,rfl⟩⟩:=C6 hl
  ·exact cg _
  ·obtain ⟨b,hb⟩:=zg fd.scope.names (L+1) hx;refine aa F.cl (aa hb ?_);exact ip (Wa fd.scope.names (L+1) (mem_of_lookup hb))
 ·obtain ⟨_,k,hm,l,h,ho⟩:=C5 (C:=L) (cells:=cellsFrom (L+1) fd.scope.names fd.closure) _ _ hi
  have mh:=oq F.nd hm
  refine ⟨l,h, ?_⟩;rcases ho with ⟨rfl,rfl⟩ | ⟨rfl,rfl⟩
  ·exact .inl ⟨mh,rfl⟩
  ·obtain ⟨b,hb⟩:=zg fd.scope.names (L+1) hm;rw [<-F.cl] at hb
   exact .inr ⟨.inl mh,b,hb,aa hb rfl⟩
def pZ(X:Cx)(fd:FuncData)(args:List ab)(dH:List (Str×ab))(p0:List ab):Prop :=
 ∀A E (Q:List (Str×Value)->al->Prop) σ κ s ys dI,bq X σ κ s->aO (aj σ κ) s.heap args ys->aO (aj σ κ) s.heap (dH.map (λz=>z.2)) dI->
  (∀zs,aO (aj σ κ) s.heap p0 zs->Q ((fd.params.args.map (λz=>z.arg)).zip zs) s)->ai X.M A (bindArgs fd ⟨ys,(dH.map (λz=>z.1)).zip dI⟩) Q E s
theorem cL.deeper{e:Env}(r:cL (n+1) A):cL n (A.deeper e):=⟨r.handled,by have:=r.depth;show A.depth+1+_≤_;exact ye this (nb rfl),by have:=r.units;show A.units+3+_≤_;exact ye this (nb rfl)⟩
theorem JM(iU:(fd.params.args.map λx=>(dr fd.scope.names 0).lookup x.arg)=(aK fd.params.args.length).map some){x i}(e:(dr fd.scope.names 0).lookup x=some i):i<(dr fd.scope.names 0).length/\∃k,(x,k)∈fd.scope.names/\isVar (some k)=true:=by
 obtain ⟨_,k,hm,l,h,ho⟩:=C5 (C:=0) (cells:= []) _ _ e;refine ⟨ao (vZ (C:=0) (cells:= []) fd.scope.names 0) ((du.mp h).1),k,hm, ?_⟩;rcases ho with ⟨rfl,_⟩ | ⟨rfl,_⟩<;>rfl
theorem Wc(iU:(fd.params.args.map λx=>(dr fd.scope.names 0).lookup x.arg)=(aK fd.params.args.length).map some):fd.params.args.length≤(dr fd.scope.names 0).length:=by
 rcases q:fd.params.args.length with _ | m
 ·exact da _
 ·have e:=congrArg (λz=>z[m]?) iU
  rw [cW,cW,zt (q▸ju m)] at e
  exact aD (lW.mp e) λp hp e=>(JM iU e).1
theorem Wd(F:zq fd)(iU:(fd.params.args.map λx=>(dr fd.scope.names 0).lookup x.arg)=(aK fd.params.args.length).map some):(fd.params.args.map (λz=>z.arg)).map (jP (tw lam l7 fd))=(ic 0 fd.params.args.length).map some:=by
 refine ao JN (ao iU (aa dj ?_));refine f0 λp hp=> ?_
 have hm:(dr fd.scope.names 0).lookup p.arg∈(aK fd.params.args.length).map some:=ao iU (bJ.mpr ⟨p,hp,rfl⟩)
 refine aD (bJ.mp hm) λi J e=> ?_;obtain ⟨_,k,hm,hv⟩:=JM iU e.symm;refine if_pos (bP.mpr ⟨(l8 _).mpr (F.bad p hp), ?_⟩);exact aa (show (tw lam l7 fd).names.lookup p.arg=some k from oq F.nd hm) hv
theorem DA(ok:fb X)(O:Ops X n)(Z:nj X n)(hg:yR X l7){f:Fn}(D:pY X a f fd lam){args p0:List ab}{dH:List (Str×ab)}(hb:pZ X fd args dH p0){K:ab->ar->Prop}(aU:p0.length=f.params)
  (h:dA X n f.body (λfl st=>match fl with | .ret v=>K v st.σ | .next=>K .none st.σ | _=>False) {m:=p0.map some++ci (f.ae - f.params) none,fz:= [],σ:=σ}):aB X (n+1) (.ref a) args dH K σ:=by
 refine ⟨λA κ s y ys dI hr G hy hv DB=> ?_⟩;cases hy.bU;refine aD (D.obj) λo ho hd=> ?_
 have rE:=G.keep _ _ ho
 refine ⟨⟨.frame,λA' Q E q=> ?_⟩, ?_⟩
 ·unfold keeperOf;exact fH (λq=>vc rE q) (aa hd (aM q))
 obtain ⟨body,ib,po,F,iU,JO⟩:=JL D.c
 have EO:=Wb hg D F s.heap.objs.size
 refine pf (yk (R:=λr s'=>∃v σ' κ' z,r= .ok (.ret z)/\bq X σ' κ' s'/\bg (λJ=>False) σ κ s.heap σ' κ' s'.heap/\am (aj σ' κ') s'.heap v z/\K v σ') ?_ λr s' ⟨v,σ',κ',z,e,q1,q2,q3,q4⟩=>by subst e;exact ⟨v,σ',κ',q1,q2,q3,q4⟩);refine PW hr.lt rE hd F.co F.gen po (Gw D.VZ λc oc vs t e g r=>⟨c,oc,vs,t,e,G.keep _ _ g,r⟩) (hb A.in1 _ _ σ κ s ys dI G hv DB λzs We=> ?_);refine noRaise ?_;simp only [newFunctionEnv,TK,yn,if_false];refine fH (λq=>Ha q) (fH (λq=>GY _ (λname kind cells=>by cases Db:kind==mf<;>simp [Db]) _ _ _ _ q) ?_);refine aa (show ({s with heap:=s.heap.push {cls:= .type "frame",data:= .dict #[]}}:al).heap.objs.size=s.heap.objs.size+1 from ot ..) (qJ (Jh G pT.nil fd.scope.names F.nd fd.closure (.type "frame") (λx J=>aa F.cl rfl) rfl rfl) λaA G1 e1 F1 ve=> ?_);generalize Ji:({s with heap:=pushCells (s.heap.push {cls:= .type "frame",data:= .dict #[]}) fd.scope.names}:al)=s1 at *
 generalize C9:fe s.heap.objs.size (cellsFrom (s.heap.objs.size+1) fd.scope.names fd.closure) fd.scope.names=locs at *
 have tZ:locs.length=(dr fd.scope.names 0).length:=ao C9 (vZ _ _)
 refine aq ?_
 have b7:=VY (K:=λst=>st={m:=p0.map some++ci ((dr fd.scope.names 0).length - fd.params.args.length) none,fz:= [],σ:=σ}) (σ:=σ) ((dr fd.scope.names 0).length - fd.params.args.length) p0 0 [] rfl rfl
 rw [(show p0.length=fd.params.args.length from aU),Dj,wc (Wc iU),<-tZ] at b7
 refine VU (c:=tw lam l7 fd) EO (λJ J J=>rfl) (Wd F iU) (show Rel X s.heap.objs.size locs {m:=ci locs.length none,fz:= [],σ:=σ} aA s1 from ⟨G1,F1⟩) (We.mono e1.bd) b7 λbc bR s2 r2 e2 k2=>aM ?_;subst k2;refine ⟨ok.nolimit.keeps r2.g.keep,PV (noRaise ?_)⟩;refine weak (JH (VT ok O Z 20 _ _ _ _ EO) JO (tZ▸h) _ bR s2 hr.deeper r2) ?_
 rintro fl s3 ⟨I9,dS,fx,r3,e3,v3,k3⟩
 have ev:bg (λJ=>False) σ κ s.heap dS.σ fx s3.heap:=((rf e1).trans (e2.trans e3)).fresh G λL' q=> .inr (aa q (CV _))
 rcases v3 with ⟨⟩
 ·exact ⟨_,_,fx,_,rfl,r3.g,ev, .raw _,k3⟩
 all_goals first | exact k3.elim | (exact ⟨_,_,fx,_,rfl,r3.g,ev,by assumption,k3⟩)
end
end
section
variable {kw:List (Str×Value)}
theorem JP{f g:α->Option β}(h:∀x∈l,f x=g x):l.filterMap f=l.filterMap g:=by
 induction l with
 | nil=>rfl
 | cons a l ih =>
  have e:=h a (.head _)
  have ih:=ih λx hx=>h x (.tail _ hx)
  rcases q:g a with _ | b
  ·exact aH (Ds (e.trans q)) (Ds q) (aa ih rfl)
  ·exact aH (zn (e.trans q)) (zn q) (congrArg _ ih)
theorem JQ{a:Str}{r:List (Str×Value)}:((a,y)::r).lookup a=some y:=aa lh (aa (beq_self_eq_true ..) rfl)
theorem JR{a:Str}{r:List (Str×Value)}(h:x≠a):((a,y)::r).lookup x=r.lookup x:=aa lh (aa (beq_eq_false_iff_ne.mpr h) rfl)
theorem Wf:∀{ys:List Value},names.length=ys.length->∀x∈names,∃y,(names.zip ys).lookup x=some y:=by
 induction names with
 | nil=>exact λJ J h=>absurd h eZ
 | cons a names ih =>
  intro ys hl x h;rcases ys with _ | ⟨y,ys⟩
  ·cases hl
  by_cases e:x=a
  ·exact ⟨y,ao e JQ⟩
  ·refine aa tY (aa (JR e) ?_);exact ih (q6 hl) x ((br.mp h).resolve_left e)
theorem Wg:∀{ys:List Value},names.Nodup->names.length=ys.length->(names.filterMap λn=>((names.zip ys).lookup n).map (λz=>(n,z)))=names.zip ys:=by
 induction names with
 | nil=>exact λJ J=>rfl
 | cons a names ih =>
  intro ys hn hl;rcases ys with _ | ⟨y,ys⟩
  ·cases hl
  have wf:=f6.mp hn
  refine aa tY (aa (zn (b:=(a,y)) (by rw [JQ];rfl)) ?_);exact congrArg (λz=>(a,y):: z) ((JP λx hx=>by exact congrArg _ (JR λ(e:x=a)=>wf.1 (ao e hx))).trans (ih wf.2 (q6 hl)))
noncomputable def JS(l sl:List (Str×Value)):List (Str×Value):=l.foldl (λsl x=>if (sl.lookup x.1).isNone=true then sl++ [(x.1,x.2)] else sl) sl
noncomputable def kwOk(names:List Str)(sl kw:List (Str×Value)):Bool:=(kw.foldl (λ(a:Bool×List (Str×Value)) x=>(a.1&&(names.contains x.1&& !(a.2.lookup x.1).isSome),a.2++ [x])) (true,sl)).1
theorem Wh:∀{sl},(kw.foldl (λ(a:Bool×List (Str×Value)) x=>(a.1&&(names.contains x.1&& !(a.2.lookup x.1).isSome),a.2++ [x])) (false,sl)).1=false:=by
 induction kw with
 | nil=>exact rfl
 | cons x kw ih=>exact ih
theorem Wi{f:Str×Value->List (Str×Value)×List (Str×Value)->Sem (ForInStep (List (Str×Value)×List (Str×Value)))}(turn:∀k v sl,names.contains k=true->(sl.lookup k).isSome=false->f (k,v) (sl,[])=pure (.yield (sl++ [(k,v)],[]))) :
  ∀{sl:List (Str×Value)},kwOk names sl kw=true->forIn kw (sl,[]) f=pure (sl++kw,[]):=by
 induction kw with
 | nil=>exact λ{sl} _=>aa (iV ..) rfl
 | cons x kw ih =>
  intro sl h
  have g:(names.contains x.1&& !(sl.lookup x.1).isSome)=true:=by
   rcases q:(names.contains x.1&& !(sl.lookup x.1).isSome) with _ | _
   ·have h:(kw.foldl (λ(a:Bool×List (Str×Value)) x=>(a.1&&(names.contains x.1&& !(a.2.lookup x.1).isSome),a.2++ [x])) (true&&(names.contains x.1&& !(sl.lookup x.1).isSome),sl++ [x])).1=true:=h
    rw [q] at h
    exact (nl (Wh.symm.trans h)).elim
   ·rfl
  have h':kwOk names (sl++ [x]) kw=true:=by
   have h:(kw.foldl (λ(a:Bool×List (Str×Value)) x=>(a.1&&(names.contains x.1&& !(a.2.lookup x.1).isSome),a.2++ [x])) (true&&(names.contains x.1&& !(sl.lookup x.1).isSome),sl++ [x])).1=true:=h
   rw [g] at h
   exact h
  have g:=bP.mp g
  refine aa (pi ..) (aa (turn x.1 x.2 sl g.1 ((l8 _).mp g.2)) ?_);exact (ih h').trans (congrArg (λl=>pure (l,[])) (lj sl [x] kw))
theorem Wj{f:Str×Value->List (Str×Value)->Sem (ForInStep (List (Str×Value)))}(turn:∀x sl,f x sl=pure (.yield (if (sl.lookup x.1).isNone=true then sl++ [(x.1,x.2)] else sl))){l:List (Str×Value)}:∀{sl},forIn l sl f=pure (JS l sl):=by
 induction l with
 | nil=>exact rfl
 | cons x l ih =>
  intro sl;refine aa (pi ..) (aa (turn x sl) ?_);exact ih
theorem JT{M:Model}{c:Bool}{a b:Sem α}{Q:α->al->Prop}(hc:c=false)(h:ai M A b Q E s):ai M A (if c=true then a else b) Q E s:=by subst hc;exact h
theorem rF{M:Model}{m:Sem α}{a:α}{f:α->Sem β}{Q:β->al->Prop}(h:m=pure a)(k:ai M A (f a) Q E s):ai M A (m>>=f) Q E s:=by subst h;exact k
theorem Wl{c:Bool}{a b:α}(hc:c=true):(if c=true then a else b)=a:=if_pos hc
theorem Wm{c:Bool}{a b:α}(hc:c=false):(if c=true then a else b)=b:=if_neg (hc▸nl)
theorem Wn{x:Str×Value}{sl:List (Str×Value)}:(if (sl.lookup x.1).isNone=true then pure (ForInStep.yield (sl++ [(x.1,x.2)])) else pure (.yield sl):Sem (ForInStep (List (Str×Value))))=pure (.yield (if (sl.lookup x.1).isNone=true then sl++ [(x.1,x.2)] else sl)):=by
 rcases (sl.lookup x.1).isNone with _ | _<;>rfl
theorem Wo{γ δ ε:Type}(f:α->β->γ->δ->ε){a a':α}{b b':β}{c c':γ}{d d':δ}(h1:a=a')(h2:b=b')(h3:c=c')(h4:d=d'):f a b c d=f a' b' c' d':=aH h1 h2 (aH h3 h4 rfl)
theorem Wp{p:td}(h1:p.posonlyargs= [])(h2:p.vararg=none)(h3:p.kwonlyargs= [])(h4:p.kwarg=none):p=⟨[],p.args,none,[],p.kw_defaults,none,p.defaults⟩:=by
 rcases p with ⟨x,y,z,u,v,w,t⟩
 exact Wo (λa b c d=>ahZ a y b c v d t) h1 h2 h3 h4
theorem DC{M:Model}{r:Option (Array Value)}{Q:List (Str×Value)->al->Prop}{ds:List Value}{res:List (Str×Value)}
 (h1:fd.params.posonlyargs= []) (h2:fd.params.vararg=none) (h3:fd.params.kwonlyargs= []) (h4:fd.params.kwarg=none) (hn:fd.params.args.map (λz=>z.arg)=names)
 (hd:∀{f:Option (Array Value)->Sem (List (Str×Value))},ai M A (f r) Q E s->ai M A (seqItems? fd.defaults>>=f) Q E s) (DE:(r.getD #[]).toList.drop ((r.getD #[]).toList.length - names.length)=ds) (hk:kwOk names (names.zip ys) kw=true) (hl:decide (ys.length>names.length)=false)
 (hm:(names.take (names.length - ds.length)).filter (λn=>((names.zip ys++kw).lookup n).isNone)= []) (hr:(names.filterMap λn=>((JS ((names.drop (names.length - ds.length)).zip ds) (names.zip ys++kw)).lookup n).map (λz=>(n,z)))=res) (q:Q res s):ai M A (bindArgs fd ⟨ys,kw⟩) Q E s:=by
 subst hn DE;refine (congrArg (λp=>ai M A (bindArgs {fd with params:=p} ⟨ys,kw⟩) Q E s) (Wp h1 h2 h3 h4)).mpr (rF (Wi (λk v sl c l=>(Wl (congrArg (λz=>z || _) c)).trans (Wm l)) hk) ?_);refine hd (JT (congrArg (λz=>z &&_) hl) ?_);exact JT (congrArg (λl:List Str=> !l.isEmpty) hm) (rF (Wj λx sl=>Wn) (aM ((congrArg (λz=>Q z s) ((congrArg (List.filterMap _) (iV _)).trans hr)).mpr q)))
theorem JU{M:Model}{Q:List (Str×Value)->al->Prop}(h1:fd.params.posonlyargs= [])(h2:fd.params.vararg=none)(h3:fd.params.kwonlyargs= [])(h4:fd.params.kwarg=none)(hd:fd.defaults= .none)(hn:(fd.params.args.map (λz=>z.arg)).Nodup)(hl:fd.params.args.length=ys.length)
  (q:Q ((fd.params.args.map (λz=>z.arg)).zip ys) s):ai M A (bindArgs fd ⟨ys,[]⟩) Q E s:=by
 have hl:(fd.params.args.map (λz=>z.arg)).length=ys.length:=(aE _).trans hl
 refine DC (r:=none) (ds:= []) h1 h2 h3 h4 rfl (λh=>aa hd h) List.drop_nil rfl (decide_eq_false (ao hl (iM _))) ?_ ?_ q
 ·exact aa (iV ..) (List.filter_eq_nil_iff.mpr λx hx=>(Wf hl x (pp hx)).elim λy hy=>aa hy nl)
 ·exact aH (iV ..) Wq (Wg hn hl)
theorem Wr{X:Cx}{lam:Bool}{G:List (Str×ab)}{f:Fn}(hc:vp 20 lam G fd=some f)(hd:fd.defaults= .none){args:List ab}(hl:args.length=f.params):pZ X fd args [] args:=by
 obtain ⟨body,ib,po,F,iU,JO⟩:=JL hc
 have hl:args.length=fd.params.args.length:=hl
 have d6:(fd.params.args.map (λz=>z.arg)).Nodup:=by
  have a:((fd.params.args.map (λz=>z.arg)).map λx=>(dr fd.scope.names 0).lookup x).Pairwise (λz cf=>z ≠ cf):=by
   refine aa dj (?_:(fd.params.args.map λx=>(dr fd.scope.names 0).lookup x.arg).Pairwise (λz cf=>z ≠ cf));refine aa iU ?_;rewrite [wz];exact ah0 (λh q=>h (aN q)) DF
  rw [wz] at a
  exact a.imp λh q=>h (by exact aa q rfl)
 intro A E Q σ κ s ys dI G hv hk q;refine aa hk.nil_inv (?_:ai _ _ (bindArgs fd ⟨ys,[]⟩) _ _ _);exact JU F.pos F.var F.V1 F.kw hd d6 (hl.symm.trans hv.length) (q ys hv)
end
theorem Ws{a b c:Nat}(h:a / 2=b / 2+c / 2)(m:a % 2=b % 2+c % 2):a=b+c:=by
 exact ao (Bx a 2) (aa h (aa m (aa (zu ..) (aa (Nat.add_add_add_comm ..) (aa (Bx ..) (aa (Bx ..) rfl))))))
theorem Wu(x y:Nat):(x % 2) ||| (y % 2)=((x % 2) ^^^ (y % 2))+((x % 2) &&& (y % 2)):=by
 rcases Wv x with h | h<;>rcases Wv y with h' | h'<;>(refine aH h h' ?_)<;>rfl
theorem Ww(x:Nat):∀y,x ||| y=(x ^^^ y)+(x &&& y):=by
 induction x using Pr with
 | ind x ih =>
  intro y
  by_cases h0:x=0
  ·subst h0;exact aH (Nat.zero_or ..) (t0 ..) (aa (Nat.zero_and ..) (aa (Nat.add_zero ..) rfl))
  refine Ws ?_ ?_
  ·refine aH Nat.or_div_two Nat.xor_div_two (aa Nat.and_div_two ?_);exact ih (x / 2) (Nat.div_lt_self (Wx h0) (nb rfl)) (y / 2)
  ·exact (Nat.or_mod_two_pow (n:=1)).trans ((Wu x y).trans (congr (congrArg HAdd.hAdd (Nat.xor_mod_two_pow (n:=1)).symm) (Nat.and_mod_two_pow (n:=1)).symm))
theorem JV{x y:Int}(hx:0≤x)(hy:0≤y):JW x y=((x.toNat &&& y.toNat:Nat):Int):=by
 unfold JW;exact aH (decide_eq_true hx) (decide_eq_true hy) rfl
theorem Wy{x y:Int}(hx:0≤x)(hy:0≤y):Wz x y=((x.toNat ^^^ y.toNat:Nat):Int):=by
 unfold Wz;refine aa (JV hx hy) ?_
 have:WA x y=((x.toNat ||| y.toNat:Nat):Int):=by
  unfold WA JW;refine aa (decide_eq_false (by unfold zv;exact GH hx)) (aa (decide_eq_false (by unfold zv;exact GH hy)) ?_)
  have e:∀z:Int,zv (zv z)=z:=λz=>by unfold zv;exact aa (Int.neg_sub ..) (aa (Int.sub_neg ..) (aa (vU ..) (JX ..)))
  simp only [e]
 exact aa this (aa (Ww ..) (JX (lb (x.toNat ^^^ y.toNat)) (lb (x.toNat &&& y.toNat))))
theorem DG{a:Int}(h:a.natAbs<2^k):zw a≤k:=by
 unfold zw
 split
 ·exact da _
 ·next h0=>exact (JY (WB.mpr λe=>h0 (beq_iff_eq.mpr e))).mpr h
section
variable{X:Cx}{n:Nat}{L:Addr}{ae:List Loc}
def cO(X:Cx)(n:Nat)(L:Addr)(ae:List Loc)(st:St)(κ:bM)(s:al)(t:Sem α)(R:(Addr->Prop)->Heap->β->α->Prop)(K:β->St->Prop):Prop :=
 ∀A,cL n A->wpAny X.M A t (Post X L ae st.σ κ s.heap R K) (λJ J=>False) s
theorem cO.g{κ s}{t:Sem α}{R:(Addr->Prop)->Heap->β->α->Prop}{K:β->St->Prop}(h:cO X n L ae st κ s t R K):Op X n L ae st κ s t R K:=λA hr=>ba (h A hr)
theorem DH(a b:List α):a.toArray++b.toArray=(a++b).toArray:=by simp
theorem oy{hp:Heap}{C:Value->Value->Prop}{a b:ab}{x:Value}{k:Int->Int->Prop}(h:lX a b k)(hx:am U hp a x)(hy:am U hp b y)(f:∀i j t u,k i j->C (.int i t) (.int j u)):C x y :=
 fU.of (C:=λa=>am U hp a x->C x y) h (λi h hx=>fU.of (C:=λb=>am U hp b y->C x y) h (λj h hy=>by obtain ⟨t,rfl⟩:=hx.int_inv;obtain ⟨u,rfl⟩:=hy.int_inv;exact f i j t u h) hy) hx
section
variable{st:St}{K:ab->St->Prop}{κ:bM}{s:al}(rel:Rel X L ae st κ s)
include rel
theorem lm{v:Int}(h:K (.int v) st){t:Tok}(e:s'.heap=s.heap:=by rfl)(e2:s'.os=s.os:=by rfl)(e3:s'.gens=s.gens:=by rfl):Post X L ae st.σ κ s.heap am K (.int v t) s':= .same rel e e2 e3 (.int _ _) h
theorem WC{p q:Int}{t u:Tok}(h:(0≤p/\p≤100/\0≤q/\q≤100)/\K (.int (p^q.toNat)) st):cO X n L ae st κ s (binaryOp .Pow (.int p t) (.int q u)) am K:=λA hr=>by
 obtain ⟨⟨h1,h2,h3,h4⟩,h⟩:=h
 have bf:∀{v:Int},v=p^q.toNat->(WD v).post (Post X L ae st.σ κ s.heap am K) s:=λe=>aa e (lm rel h)
 by_cases c1:(q==0)=true
 ·exact ah1 h3 c1 (bf (aa (eq_of_beq c1) ((Int.pow_zero p).symm)))
 by_cases c2:(p==0 || p==1)=true
 ·refine ah2 h3 c1 c2 (bf ?_);rcases Jk.mp c2 with c | c<;>(refine aa (eq_of_beq c) ?_)
  ·have:q≠0:=λe=>c1 (beq_iff_eq.mpr e)
   exact aa (Int.zero_pow (λe=>c1 (beq_iff_eq.mpr (JZ (Int.toNat_eq_zero.mp e) h3)))) rfl
  ·exact aa Int.one_pow rfl
 refine ah3 h3 c1 c2 (λc=>by have:=eq_of_beq c;exact absurd (this▸h1) (by decide)) (λc=> ?_) (bf rfl)
 have hb:=dU.mpr (DG (a:=p) (k:=7) (ir.mp (nm (aa (WE h1) h2) (by decide))))
 have:((zw p:Nat):Int)*q≤7*100:=Int.mul_le_mul hb h4 h3 (by decide)
 unfold ah4 at c
 exact absurd (J0 (of_decide_eq_true c) this) (by decide)
theorem WF{p q:Int}{t u:Tok}(h:(q≠0/\q.natAbs≤2^31)/\K (.int (p.fdiv q)) st):cO X n L ae st κ s (binaryOp .FloorDiv (.int p t) (.int q u)) am K:=λA hr=>by
 refine ah5 (by simpa using h.1.1) ?_ (lm rel h.2)
 have:q.natAbs.log2<32:=(JY (WB.mpr h.1.1)).mpr (eD h.1.2 (nb rfl))
 have h0:(q==0)=false:=by simpa using h.1.1
 unfold ah6;simp only [h0,yn,if_false]
 simp
 intro hh;exact absurd hh (dC.mpr (fT (ag (oz ..) (ag (bS this) (nb rfl)))))
theorem WG{p q:Int}{t u:Tok}(h:(0≤p/\p≤2^31/\q=1)/\K (.int (p / 2)) st):cO X n L ae st κ s (binaryOp .RShift (.int p t) (.int q u)) am K:=λA hr=>by
 obtain ⟨⟨h1,h2,rfl⟩,h⟩:=h
 have bf:∀{v:Int},v=p / 2->(WD v).post (Post X L ae st.σ κ s.heap am K) s:=λe=>aa e (lm rel h)
 by_cases c:(1:Int) ≥ ((zw p:Nat):Int)
 ·refine ah7 (by decide) c (bf ?_);refine aa (if_neg (jV.mpr h1)) ?_
  have hq:=dU.mp c
  unfold zw at hq
  by_cases q:(p==0)=true
  ·exact aa (eq_of_beq q) rfl
  ·rw [if_neg q] at hq
   have:p≠0:=λe=>q (beq_iff_eq.mpr e)
   have:p.natAbs<2^1:=(JY (λe=>q (beq_iff_eq.mpr (Int.natAbs_eq_zero.mp e)))).mp (hq)
   exact (Int.ediv_eq_zero_of_lt h1 (ao (WE h1) (ir.mpr this))).symm
 ·exact ah8 (by decide) c (bf (Ca _ (by decide)))
theorem J1{l l2:Addr}{x y:List ab}{vs ws:List Value}(hl:s.heap.IsList l vs.toArray)(iW:s.heap.IsList l2 ws.toArray)(aL:aO (aj st.σ κ) s.heap x vs)(f7:aO (aj st.σ κ) s.heap y ws)(h:dQ (x.length+y.length)/\K (.list (x++y)) st) :
  cO X n L ae st κ s (binaryOp .Add (.ref l) (.ref l2)) am K:=by
 obtain ⟨⟨cls,dd,data,sl⟩,ho,rfl,k,rfl⟩:=hl;obtain ⟨⟨WH,wA,data2,wB⟩,rG,rfl,k2,rfl⟩:=iW;exact λA hr=>concat_meets ⟨_,ho,rfl⟩ ⟨_,rG,rfl⟩ noFill_list_add seq_list_add PySem.F.slot_list_add PySem.F.entry_list_add (PySem.F.args_list_add_2 _ _) (list_addW l l2 vs.toArray ws.toArray k k2 dd wA sl wB (by
   refine aH fI fI (sU aL.length f7.length ?_);exact tM h.1)) ⟨ho,rG,ao ((DH vs ws).symm) (.keep rel (eA _ _) rfl rfl (.list (iL rel.g) ⟨_,cV _ rfl,rfl,0,rfl⟩ ((aL.append f7).mono (gP (eA _ _)))) h.2)⟩
theorem WI{l l2:Addr}{x y:List ab}{vs ws:List Value}(u:aj st.σ κ l)(u2:aj st.σ κ l2)(hl:s.heap.IsTuple l vs.toArray)(iW:s.heap.IsTuple l2 ws.toArray)(aL:aO (aj st.σ κ) s.heap x vs)(f7:aO (aj st.σ κ) s.heap y ws)(h:dQ (x.length+y.length)/\K (.tuple (x++y)) st) :
  cO X n L ae st κ s (binaryOp .Add (.ref l) (.ref l2)) am K:=λA hr=>by
 have g:=hl
 have g2:=iW
 obtain ⟨⟨cls,dd,data,sl⟩,ho,rfl,k,rfl⟩:=hl;obtain ⟨⟨WH,wA,data2,wB⟩,rG,rfl,k2,rfl⟩:=iW
 have go:=λ{S:PySem.Spec} W h=>concat_meets (T:= "tuple") (a:= .ref l) (b:= .ref l2) (Q:=Post X L ae st.σ κ s.heap am K) (A:=A) (prog:=X.prog) (w:=X.w) (E:=λJ J=>False) (s:=s) (S:=S) ⟨_,ho,rfl⟩ ⟨_,rG,rfl⟩ noFill_tuple_add seq_tuple_add PySem.F.slot_tuple_add PySem.F.entry_tuple_add (PySem.F.args_tuple_add_2 (.ref l) (.ref l2)) W h
 by_cases hv:vs= []
 ·have hp:=zl.mp (aL.length.trans (congrArg _ hv))
  exact go (tuple_addW0 l l2 vs.toArray ws.toArray k k2 dd wA sl wB (by simp [hv])) ⟨ho,rG, .same rel rfl rfl rfl (.tuple u2 g2 f7) (by have:=h.2;rw [hp] at this;exact this)⟩
 have yp:¬ vs.toArray.size=0:=by simpa using hv
 by_cases hw:ws= []
 ·have hq:=zl.mp (f7.length.trans (congrArg _ hw))
  exact go (tuple_addW1 l l2 vs.toArray ws.toArray k k2 dd wA sl wB (by simpa using hv) (by simp [hw])) ⟨ho,rG, .same rel rfl rfl rfl (.tuple u g aL) (by have:=h.2;rw [hq,iV] at this;exact this)⟩
 ·exact go (tuple_addW2 l l2 vs.toArray ws.toArray k k2 dd wA sl wB (by simpa using hv) (by simpa using hw) (by refine aH fI fI (sU aL.length f7.length ?_);exact tM h.1)) ⟨ho,rG,
   ao ((DH vs ws).symm) (.keep rel (eA _ _) rfl rfl (.tuple (iL rel.g) ⟨_,cV _ rfl,rfl,0,rfl⟩ ((aL.append f7).mono (gP (eA _ _)))) h.2)⟩
theorem WJ{l:Addr}{p:ab}{items:List Value}{q:Int}{tk:Tok}(u:aj st.σ κ l)(hl:s.heap.IsList l items.toArray)(aL:aO (aj st.σ κ) s.heap [p] items)(h:(0≤q/\q≤256)/\K (.list (ci q.toNat p)) st) :
  cO X n L ae st κ s (binaryOp .Mult (.ref l) (.int q tk)) am K:=by
 refine eV aL.cons_inv λy0 zs bb jt ik=> ?_;subst bb;rw [ik.nil_inv] at hl
 obtain ⟨⟨h1,h2⟩,h⟩:=h;obtain ⟨⟨cls,d,data,sl⟩,ho,rfl,k,rfl⟩:=hl;refine λA hr=>wpAny_binaryOp_repeat_ref (T:= "list") (U:= "int") (by decide) ⟨_,ho,rfl⟩ (λs'=>typeIs_int s' q tk) noFill_list_mul F.fills_int_mul WK repeat_list F.slot_int_index.lookup
  (zx WK (typeIs_int s q tk) F.entry_int_rmul (F.args_int_rmul_2 _ _) (lm_int_rmul_list_any q tk l [y0].toArray k d sl)
   ⟨ho,rfl,⟨_,ho,rfl⟩,zx F.slot_list_mul ⟨_,ho,rfl⟩ F.entry_list_mul (F.args_list_mul_2 _ _)
    (lm_list_mul_any l [y0].toArray k d sl q tk (by simp [ah9];exact ⟨il (by decide) h1,nm h2 (by decide)⟩) (by simp;exact il h2 (by decide)) (by simp [WL,sizeLine];exact il h2 (by decide)))
    ⟨ho, ?_⟩⟩)
 refine aa (listMul_foldl_if ..) (aa (show (ci q.toNat [y0].toArray.toList).flatten=ci q.toNat y0 by simp) ?_);exact .keep rel (eA _ _) rfl rfl (.list (iL rel.g) ⟨_,cV _ rfl,rfl,0,rfl⟩ (((show ∀m:Nat,aO (aj st.σ κ) s.heap (ci m p) (ci m y0) from λm=>m.rec .nil λJ ih=> .cons jt ih) _).mono (gP (eA _ _)))) h
theorem WM{op a b x y}(h:yC op a b st K)(hx:am (aj st.σ κ) s.heap a x)(hy:am (aj st.σ κ) s.heap b y):cO X n L ae st κ s (binaryOp op x y) am K:=by
 rcases op with ⟨⟩<;>first | exact h.elim | skip
 ·rcases a with ⟨⟩<;>first | exact h.elim | skip
  ·cases hx.bU;refine tz.of (C:=λv=>cO X n L ae st κ s (binaryOp .Add v y) am K) h λl h=>tA.of (C:=λb=>am (aj st.σ κ) s.heap b y->cO X n L ae st κ s (binaryOp .Add (.ref l) y) am K) h (λv h hy=> ?_) hy;cases hy.bU;refine tz.of (C:=λv=>cO X n L ae st κ s (binaryOp .Add (.ref l) v) am K) h λr h=>eV h λp q fB WN h=> ?_;exact aD (rel.g.own l _ fB) λvs hl aL=>aD (rel.g.own r _ WN) λws iW f7=>J1 rel hl.list iW.list aL f7 h
  ·refine fU.of (C:=λb=>am (aj st.σ κ) s.heap b y->cO X n L ae st κ s (binaryOp .Add x y) am K) h (λj h hy=> ?_) hy;obtain ⟨t,rfl⟩:=hx.int_inv;obtain ⟨u,rfl⟩:=hy.int_inv;exact λA hr=>ah' (lm rel h)
  ·refine pA.of (C:=λb=>am (aj st.σ κ) s.heap b y->cO X n L ae st κ s (binaryOp .Add x y) am K) h (λj h hy=> ?_) hy;obtain ⟨t,rfl⟩:=hx.mN;obtain ⟨u,rfl⟩:=hy.mN;exact λA hr=>aia (by have:=h.1;unfold dQ at this;simp;exact ag this (nb rfl)) λt' k=> .same rel rfl rfl rfl (ao ((DH _ _).symm) (.bytes _ _)) h.2
  ·refine kZ.of (C:=λb=>am (aj st.σ κ) s.heap b y->cO X n L ae st κ s (binaryOp .Add x y) am K) h (λj h hy=> ?_) hy;obtain ⟨l,vs,rfl,u,hl,aL⟩:=hx.inv;refine eM hy.inv λl2 ws bb u2 iW f7=> ?_;subst bb;exact J1 rel hl iW aL f7 h
  ·refine yB.of (C:=λb=>am (aj st.σ κ) s.heap b y->cO X n L ae st κ s (binaryOp .Add x y) am K) h (λj h hy=> ?_) hy;obtain ⟨l,vs,rfl,u,hl,aL⟩:=hx.inv;refine eM hy.inv λl2 ws bb u2 iW f7=> ?_;subst bb;exact WI rel u u2 hl iW aL f7 h
 ·exact oy (C:=λx y=>cO X n L ae st κ s (binaryOp .Sub x y) am K) h hx hy λi j t u h A hr=>aib (lm rel h)
 ·rcases a with ⟨⟩<;>first | exact h.elim | skip
  ·refine fU.of (C:=λb=>am (aj st.σ κ) s.heap b y->cO X n L ae st κ s (binaryOp .Mult x y) am K) h (λj h hy=> ?_) hy;obtain ⟨t,rfl⟩:=hx.int_inv;obtain ⟨u,rfl⟩:=hy.int_inv;exact λA hr=>aic (lm rel h.2) (.of_left (ag (DG (k:=32) (eD h.1.1 (nb rfl))) (nb rfl)))
  ·rcases vs with _ | ⟨p,_ | _⟩<;>first | exact h.elim | skip
   refine fU.of (C:=λb=>am (aj st.σ κ) s.heap b y->cO X n L ae st κ s (binaryOp .Mult x y) am K) h (λj h hy=> ?_) hy;refine eM hx.inv λl vs bb u hl aL=> ?_;subst bb;obtain ⟨u,rfl⟩:=hy.int_inv;exact WJ rel (by assumption) hl aL h
 ·exact oy (C:=λx y=>cO X n L ae st κ s (binaryOp .Mod x y) am K) h hx hy λi j t u h A hr=>aid (by simpa using h.1) (lm rel (ao (lY i j) h.2))
 ·exact oy (C:=λx y=>cO X n L ae st κ s (binaryOp .Pow x y) am K) h hx hy λi j t u h=>WC rel h
 ·exact oy (C:=λx y=>cO X n L ae st κ s (binaryOp .LShift x y) am K) h hx hy λp q t u h A hr=>jR.of (C:=λp=>wpAny X.M A (binaryOp .LShift (.int p t) (.int q u)) (Post X L ae st.σ κ s.heap am K) (λJ J=>False) s) h λp h=>cX.of h λe h=>by
   cases tB.eq e;exact lshift_int (by decide) (il (Int.add_le_add_right (dU.mpr (DG (a:=p) (k:=32) (by have:=h.1;exact eD h.1 (nb rfl)))) 1) (by decide)) (lm rel (show K (.int ((p:Int)*2^(1:Int).toNat)) st from h.2))
 ·exact oy (C:=λx y=>cO X n L ae st κ s (binaryOp .RShift x y) am K) h hx hy λi j t u h=>jR.of (C:=λi=>cO X n L ae st κ s (binaryOp .RShift (.int i t) (.int j u)) am K) h λi h=>cX.of h λe h=>WG rel ⟨⟨et i,dU.mpr h.1,tB.eq e⟩,h.2⟩
 ·exact oy (C:=λx y=>cO X n L ae st κ s (binaryOp .BitXor x y) am K) h hx hy λi j t u h A hr=>jR.of (C:=λi=>wpAny X.M A (binaryOp .BitXor (.int i t) (.int j u)) _ _ s) h λi h=>jR.of (C:=λj=>wpAny X.M A (binaryOp .BitXor (.int i t) (.int j u)) (Post X L ae st.σ κ s.heap am K) (λJ J=>False) s) h λj h=>xor_int (lm rel (aa (Wy (et i) (et j)) h))
 ·exact oy (C:=λx y=>cO X n L ae st κ s (binaryOp .BitAnd x y) am K) h hx hy λi j t u h A hr=>jR.of (C:=λi=>wpAny X.M A (binaryOp .BitAnd (.int i t) (.int j u)) _ _ s) h λi h=>jR.of (C:=λj=>wpAny X.M A (binaryOp .BitAnd (.int i t) (.int j u)) (Post X L ae st.σ κ s.heap am K) (λJ J=>False) s) h λj h=>and_int (lm rel (aa (JV (et i) (et j)) h))
 ·exact oy (C:=λx y=>cO X n L ae st κ s (binaryOp .FloorDiv x y) am K) h hx hy λi j t u h=>WF rel (ao (pB i j) h)
theorem WO{op a b x y}(h:Cb op a b st K)(hx:am (aj st.σ κ) s.heap a x)(hy:am (aj st.σ κ) s.heap b y):cO X n L ae st κ s (inplaceOp op x y) am K:=by
 rcases op with ⟨⟩<;>first | exact h.elim | exact oy (C:=λx y=>cO X n L ae st κ s (inplaceOp .Add x y) am K) h hx hy λi j t u h A hr=>aie (lm rel h)
theorem WP{i x}(h:K (.int (-i)) st)(hx:am (aj st.σ κ) s.heap (.int i) x):cO X n L ae st κ s (unaryOp .USub x) am K:=λA hr=>by
 obtain ⟨t,rfl⟩:=hx.int_inv;exact P.neg_int (lm rel h)
end
end
section
open PySem.SeqAt
theorem WQ(b:Array UInt8)(t:Tok):Gives (f8.«bytes.__eq__» ⟨[.bytes b t, .none],[]⟩) (.val .notImplemented):=by
 refine .of_wp λM A E s Q hq=>(?_:wpAny M A (isInstance .none (.type "bytes")>>=λr=>_) _ E s);refine aw (rH (T:= "NoneType") rfl J2 ?_);refine aw (rH (T:= "NoneType") rfl J2 ?_);refine aa (if_pos (by rfl)) (aw (jv ?_));exact aV ⟨_,rfl,hq⟩
theorem WR(b:Array UInt8)(t:Tok):Gives (f8.«NoneType.__eq__» ⟨[.none, .bytes b t],[]⟩) (.val (aif)) :=
 .of_wp λM A E s Q h=>by obtain ⟨hp,g,d,tk,os⟩:=s;wp_walk;exact ⟨_,rfl,h⟩
section
variable{A:cJ}{s:al}
theorem WS(b:Array UInt8)(t:Tok):RcAt A s (.bytes b t) .none false:=λprog w E Q h =>
 rc_eq_decline_or (k:=false) (lp s b t) rfl (by decide) J2 J3 WT
  (λJ hq=>call_gives J3 (lp s b t) WU (WV _ _) (WQ b t) hq)
  (λJ hq=>call_gives WT rfl F.entry_NoneType_eq (F.args_NoneType_eq_2 _ _) (WR b t) hq)
  (λJ hq=>dW (rfl:isSame (.bytes b t) .none=pure false) hq) (.inl rfl) h
theorem WW(b:Array UInt8)(t:Tok)(c:Array UInt8)(u:Tok):RcAt A s (.bytes b t) (.bytes c u) (b.toList==c.toList):=λprog w E Q h =>
 WX (op:= .Eq) (lp s b t) (lp s c u) J3 WU (WV _ _) (gives_bytes_eq b c t u) (λx=>nomatch x) h
theorem WY{x:Value}{k:Bool}(h:RcAt A s x y k)(hx:∀f t,x≠ .float f t)(hk:x=y->k=true):EqAt A s x y k:=λprog w E Q hq=>by
 refine kA (wpAny_ite_split (λdc=> ?_) (λJ=> ?_))
 ·rw [hk (eq_of_beq dc)] at hq
  exact aw (jv (aV hq))
 ·rcases x with ⟨⟩<;>first | exact absurd rfl (hx _ _) | exact aw (h prog w E _ (G9 hq))
end
theorem DI{h:Heap}{cs ds:List Value}{T:String}(x:∃o,h.get? a=some o/\o.cls= .type T/\∃n,o.data= .seq cs.toArray n)(y:∃o,h.get? a=some o/\o.cls= .type T/\∃n,o.data= .seq ds.toArray n):cs=ds:=by
 obtain ⟨o,g,_,n,d⟩:=x;obtain ⟨o2,g2,_,n2,d2⟩:=y;cases aN (g.symm.trans g2)
 injection d.symm.trans d2 with d2
 exact congrArg WZ d2
theorem W0{U h}{w:ab}{b:Bool}(d:kj k v w b):∀{x:Value},am U h v x->am U h w x->b=true:=by
 have items:∀{vs ws:List ab} {e:Nat->Bool} {cs:List Value},vs.length=ws.length->(∀(j:Nat) v w,vs[j]? =some v->ws[j]? =some w->∀{x:Value},am U h v x->am U h w x->e j=true)->aO U h vs cs->aO U h ws cs->(aK vs.length).all e=true:=λ{vs ws e cs} hl he h1 h2 =>
  fE.mpr λj hj=>by
   have hj:=fZ.mp hj
   refine aD (h1.get (bI hj)) λx1 a1 r1=> ?_;refine aD (h2.get (bI (ao hl hj))) λx2 a2 r2=> ?_;cases aN (a1.symm.trans a2);exact he j _ _ (bI hj) (bI (ao hl hj)) r1 r2
 induction d with
 | base q =>
  intro x hv hw;rcases q with _ | ⟨a,b⟩ | b | ⟨i,j⟩ | ⟨a,b⟩
  ·rfl
  ·cases hv.bU.symm.trans hw.bU;exact beq_self_eq_true _
  ·obtain ⟨t,rfl⟩:=hv.inv;cases hw.bU
  ·obtain ⟨t,rfl⟩:=hv.inv;obtain ⟨u,e⟩:=hw.int_inv
   injection e with e
   exact decide_eq_true e
  ·obtain ⟨t,rfl⟩:=hv.inv;obtain ⟨u,e⟩:=hw.mN
   injection e with e
   exact decide_eq_true (congrArg WZ e)
 | list e hl _ ih =>
  intro x hv hw;obtain ⟨a,cs,rfl,u,l1,h1⟩:=hv.inv;obtain ⟨a',J4,ea,u',l2,h2⟩:=hw.inv;cases ea;cases DI l1 l2;exact items hl ih h1 h2
 | B8 bz =>
  intro x hv hw;obtain ⟨a,cs,rfl,u,l1,h1⟩:=hv.inv;obtain ⟨a',J4,ea,u',l2,h2⟩:=hw.inv;cases ea;cases DI l1 l2;exact absurd (h1.length.trans h2.length.symm) bz
 | tuple e hl _ ih =>
  intro x hv hw;obtain ⟨a,cs,rfl,u,l1,h1⟩:=hv.inv;obtain ⟨a',J4,ea,u',l2,h2⟩:=hw.inv;cases ea;cases DI l1 l2;exact items hl ih h1 h2
theorem J5(a:List UInt8)(t)(b:List UInt8)(u):RcAt A s (.bytes a.toArray t) (.bytes b.toArray u) (decide (a=b)):=by
 have:=WW (A:=A) (s:=s) a.toArray t b.toArray u
 rwa [show (a.toArray.toList==b.toArray.toList)=decide (a=b) from W1.mpr (beq_iff_eq.trans decide_eq_true_iff.symm)] at this
section
variable{s:al}{U:Addr->Prop}
theorem J6{w:ab}{x:Value}{b:Bool}(q:kY v w b)(hv:am U s.heap v x)(hw:am U s.heap w y):RcAt A s x y b:=by
 rcases q with _ | ⟨a,b⟩ | b | ⟨i,j⟩ | ⟨a,b⟩
 ·cases hv.bU;cases hw.bU;exact .none_none
 ·cases hv.bU;cases hw.bU;exact .bool_bool _ _
 ·obtain ⟨t,rfl⟩:=hv.inv;cases hw.bU;exact WS _ _
 ·obtain ⟨t,rfl⟩:=hv.inv;obtain ⟨u,rfl⟩:=hw.inv;exact RcAt.int_int (A:=A) (s:=s) i t j u
 ·obtain ⟨t,rfl⟩:=hv.inv;obtain ⟨u,rfl⟩:=hw.inv;exact J5 (A:=A) (s:=s) a t b u
theorem W2{w:ab}{b:Bool}{f t}(d:kj k v w b)(hv:am U s.heap v (.float f t)):False:=by
 rcases d with q | _ | _ | _
 ·rcases q with _ | ⟨a,b⟩ | b | ⟨i,j⟩ | ⟨a,b⟩
  ·cases hv.bU
  ·cases hv.bU
  ·obtain ⟨_,e⟩:=hv.inv;cases e
  ·obtain ⟨_,e⟩:=hv.inv;cases e
  ·obtain ⟨_,e⟩:=hv.inv;cases e
 ·obtain ⟨_,_,e,_⟩:=hv.inv;cases e
 ·obtain ⟨_,_,e,_⟩:=hv.inv;cases e
 ·obtain ⟨_,_,e,_⟩:=hv.inv;cases e
theorem J7{w:ab}{x:Value}{b:Bool}(d:kj k v w b)(rc:RcAt A s x y b)(hv:am U s.heap v x)(hw:am U s.heap w y):EqAt A s x y b :=
 WY rc (λJ J e=>W2 d (e▸hv)) λe=>W0 d hv (e▸hw)
theorem zy{ws:List ab}{e:Nat->Bool}{cs ds:List Value}(hl:vs.length=ws.length)(hd:∀(j:Nat) v w,vs[j]? =some v->ws[j]? =some w->kj k v w (e j))(rc:∀(j:Nat) v w x y,vs[j]? =some v->ws[j]? =some w->am U s.heap v x->am U s.heap w y->RcAt A s x y (e j))
  (h1:aO U s.heap vs cs) (h2:aO U s.heap ws ds) (j:Nat) (j1:j<cs.toArray.size) (j2:j<ds.toArray.size):EqAt A s cs.toArray[j] ds.toArray[j] (e j):=by
 have j1:j<cs.length:=j1
 have j2:j<ds.length:=j2
 have hj:j<vs.length:=h1.length▸j1
 have kB:j<ws.length:=ao hl hj
 refine aD (h1.get (bI hj)) λx1 a1 r1=> ?_;refine aD (h2.get (bI kB)) λx2 a2 r2=> ?_;cases aN ((bI j1).symm.trans a1);cases aN ((bI j2).symm.trans a2);exact J7 (hd j _ _ (bI hj) (bI kB)) (rc j _ _ _ _ (bI hj) (bI kB) r1 r2) r1 r2
theorem DJ{w:ab}{b:Bool}(d:kj k v w b):∀{A:cJ} {x y:Value},A.units+k<cLine->am U s.heap v x->am U s.heap w y->RcAt A s x y b:=by
 induction d with
 | base q=>exact λJ hv hw=>J6 q hv hw
 | list e hl hd ih =>
  intro A x y hu hv hw;obtain ⟨a,cs,rfl,_,l1,h1⟩:=hv.inv;refine eM (hw.inv) λa' ds bQ J l2 h2=> ?_;subst bQ;exact aa (show (aK _).all e=(aK cs.toArray.size).all e by rw [h1.length];rfl) (.lists l1 l2 (h1.length.symm.trans (hl.trans h2.length)) (sZ hu) (zy (A:=A.in1) hl hd (λj v w x y a b=>ih j v w a b (by show A.units+1+_<_;exact yf hu)) h1 h2))
 | B8 bz =>
  intro A x y hu hv hw;refine eM (hv.inv) λa cs bQ J l1 h1=> ?_;subst bQ;refine eM (hw.inv) λa' ds bQ J l2 h2=> ?_;subst bQ;exact .lists_lengths l1 l2 (bne_iff_ne.mpr λe=>bz (h1.length.trans (J8 e h2.length.symm))) (sZ hu)
 | tuple e hl hd ih =>
  intro A x y hu hv hw;obtain ⟨a,cs,rfl,_,l1,h1⟩:=hv.inv;refine eM (hw.inv) λa' ds bQ J l2 h2=> ?_;subst bQ
  have hs:cs.toArray.size=ds.toArray.size:=h1.length.symm.trans (hl.trans h2.length)
  have:=RcAt.tuples (A:=A) l1 l2 (sZ hu) (zy (A:=A.in1) hl hd (λj v w x y a b=>ih j v w a b (by show A.units+1+_<_;exact yf hu)) h1 h2)
  rw [<-hs,rI,beq_self_eq_true,W3] at this
  exact aa (show (aK _).all e=(aK cs.toArray.size).all e by rw [h1.length];rfl) this
end
end
section
variable {h:Heap}
section
open PySem.SeqAt
section
variable{s:al}{U:Addr->Prop}
theorem ne_bytes(i:List UInt8)(t)(j:List UInt8)(u):RcNeAt A s (.bytes i.toArray t) (.bytes j.toArray u) (!decide (i=j)):=by
 intro prog w E Q h;refine WX (op:= .NotEq) (lp s _ _) (lp s _ _) FB.slot_bytes_ne FB.entry_bytes_ne (FB.args_bytes_ne_2 _ _) (gives_bytes_ne _ _ _ _) gS (?_:Q (.bool (!(i.toArray.toList==j.toArray.toList))) s);exact aa (show (i.toArray.toList==j.toArray.toList)=decide (i=j) from W1.mpr (beq_iff_eq.trans decide_eq_true_iff.symm)) h
theorem W4{w:ab}{x:Value}{b:Bool}(hu:A.units+k<cLine)(er:Hw v w=true)(d:kj k v w b)(hv:am U s.heap v x)(hw:am U s.heap w y):RcNeAt A s x y (!b):=by
 rcases d with q | ⟨e,hl,hd⟩ | bz | ⟨e,hl,hd⟩
 ·rcases q with _ | ⟨a,b⟩ | b | ⟨i,j⟩ | ⟨a,b⟩
  ·exact ff er
  ·cases hv.bU;cases hw.bU;exact .bool_bool _ _
  ·exact ff er
  ·refine iH hv.inv λt bb=> ?_;subst bb;obtain ⟨u,rfl⟩:=hw.inv;exact RcNeAt.int_int _ _ _ _
  ·refine iH hv.inv λt bb=> ?_;subst bb;obtain ⟨u,rfl⟩:=hw.inv;exact ne_bytes _ _ _ _
 ·obtain ⟨a,cs,rfl,_,l1,h1⟩:=hv.inv;refine eM (hw.inv) λa' ds bQ J l2 h2=> ?_;subst bQ;exact aa (show (aK _).all e=(aK cs.toArray.size).all e by rw [h1.length];rfl) (.lists l1 l2 (h1.length.symm.trans (hl.trans h2.length)) (sZ hu) (zy (A:=A.in1) hl hd (λj v w x y a b=>DJ (hd j v w a b) (by show A.units+1+_<_;exact yf hu)) h1 h2))
 ·refine eM (hv.inv) λa cs bQ J l1 h1=> ?_;subst bQ;refine eM (hw.inv) λa' ds bQ J l2 h2=> ?_;subst bQ;exact .lists_lengths l1 l2 (bne_iff_ne.mpr λe=>bz (h1.length.trans (J8 e h2.length.symm))) (sZ hu)
 ·obtain ⟨a,cs,rfl,_,l1,h1⟩:=hv.inv;refine eM (hw.inv) λa' ds bQ J l2 h2=> ?_;subst bQ
  have:=RcNeAt.tuples (A:=A) l1 l2 (sZ hu) (zy (A:=A.in1) hl hd (λj v w x y a b=>DJ (hd j v w a b) (by show A.units+1+_<_;exact yf hu)) h1 h2)
  rw [<-(show cs.toArray.size=ds.toArray.size from h1.length.symm.trans (hl.trans h2.length)),rI,beq_self_eq_true,W3] at this
  exact aa (show (aK _).all e=(aK cs.toArray.size).all e by rw [h1.length];rfl) this
end
noncomputable def J9(v:Value):Option (Array UInt8):=v.casesOn none none none (λJ=>none) (λJ J=>none) (λJ J=>none) (λJ J=>none) (λb J=>some b) (λJ=>none) (λJ=>none) λJ=>none
noncomputable def mm(x y:Value):Bool:=xV ((J9 x).any λb=>(J9 y).any λc=>decide (b.toList=c.toList)) (xV false true (λJ=>false) (λJ=>false) (λJ=>false) y) (λa=>xV false false (λb=>a==b) (λJ=>false) (λJ=>false) y) (λi=>xV false false (λJ=>false) (λj=>decide (i=j)) (λJ=>false) y) (λJ=>false) x
theorem W5{w:ab}{x:Value}{b:Bool}(q:kY v w b)(hv:am U h v x)(hw:am U h w y):b=mm x y:=by
 rcases q with _ | ⟨a,b⟩ | b | ⟨i,j⟩ | ⟨a,b⟩
 ·cases hv.bU;cases hw.bU;rfl
 ·cases hv.bU;cases hw.bU;rfl
 ·obtain ⟨t,rfl⟩:=hv.inv;cases hw.bU;rfl
 ·obtain ⟨t,rfl⟩:=hv.inv;obtain ⟨u,rfl⟩:=hw.inv;rfl
 ·obtain ⟨t,rfl⟩:=hv.inv;obtain ⟨u,rfl⟩:=hw.inv;rfl
theorem W6{w:ab}{ws:List ab}{b:Bool}(h:kl v (w::ws)=some b):∃a c,gn w v=some a/\kl v ws=some c/\b=(a || c) :=
 (cQ.mp h).elim λa h=>(lW.mp h.2).elim λc q=>⟨a,c,h.1,q.1,q.2.symm⟩
theorem zz{x:Value}(hv:am U h v x){ws:List ab}(hw:aO U h ws ys):∀{b:Bool},kl v ws=some b->b=ys.any (λy=>mm y x)/\∀y∈ys,∃w,am U h w y/\kY w v (mm y x):=by
 refine hw.ind (P:=λws ys=>∀{b:Bool},kl v ws=some b->b=ys.any (λy=>mm y x)/\∀y∈ys,∃w,am U h w y/\kY w v (mm y x)) (λe=>⟨(aN e).symm,λJ h=>absurd h eZ⟩) λh1 J ih b hq=> ?_
 ·skip
  refine eV (W6 hq) λa c ha hc wC=> ?_;subst wC;obtain ⟨e1,e2⟩:=ih hc
  have e0:=W5 (yA ha) h1 hv
  subst e0 e1;refine ⟨rfl,λz hz=> ?_⟩;rcases br.mp hz with rfl | hz
  ·exact ⟨_,h1,yA ha⟩
  ·exact e2 z hz
section
variable{X:Cx}{n:Nat}{L:Addr}{ae:List Loc}
inductive rJ(U:Addr->Prop)(h:Heap)(vs:List ab):Value->Prop
 | list {a:Addr} {ys:List Value}:aO U h vs ys->h.IsList a ys.toArray->rJ U h vs (.ref a)
 | tuple {a:Addr} {ys:List Value}:aO U h vs ys->h.IsTuple a ys.toArray->rJ U h vs (.ref a)
theorem zA{σ κ}{x:Value}(G:bq X σ κ s)(hs:eX σ v=some vs)(hv:am (aj σ κ) s.heap v x):rJ (aj σ κ) s.heap vs x:=by
 refine eX.of (C:=λv=>am (aj σ κ) s.heap v x->rJ (aj σ κ) s.heap vs x) hs (λr=> ?_) (λr=> ?_) (λa q r=> ?_) hv
 ·refine eM r.inv λa ys bb J l h=> ?_;subst bb;exact .list h l
 ·refine eM r.inv λa ys bb J l h=> ?_;subst bb;exact .tuple h l
 ·cases r.bU;exact aD (G.own _ _ q) λitems hl aL=> .list aL hl.list
theorem zB{x:Value}(hx:am U s.heap v x)(he:∀y∈ys,∃w,am U s.heap w y/\kY w v (mm y x))(y)(h:y∈ys.toArray):EqAt A s y x (mm y x):=by
 exact aD (he y (DK.mp h)) λw hw hq=>J7 (k:=0) (.base hq) (J6 hq hw hx) hw hx
theorem zC{f:Value->Bool}:ys.toArray.any f=ys.any f:=J'
theorem W7{x:Value}{ws:List ab}{r:Bool}{E}(sr:rJ U s.heap ws y)(hx:am U s.heap v x)(gD:kl v ws=some r)(h:Q (.bool r) s):wpAny X.M A (compareOp .In x y) Q E s:=by
 rcases sr with ⟨hw,l⟩ | ⟨hw,l⟩
 ·obtain ⟨rfl,he⟩:=zz hx hw gD;exact in_listAt (λy=>mm y x) l (zB hx he) (zC▸h)
 ·obtain ⟨rfl,he⟩:=zz hx hw gD;exact in_tupleAt (λy=>mm y x) l (zB hx he) (zC▸h)
theorem W8{x:Value}{ws:List ab}{r:Bool}{E}(sr:rJ U s.heap ws y)(hx:am U s.heap v x)(gD:kl v ws=some r)(h:Q (.bool (!r)) s):wpAny X.M A (compareOp .NotIn x y) Q E s:=by
 rcases sr with ⟨hw,l⟩ | ⟨hw,l⟩
 ·obtain ⟨rfl,he⟩:=zz hx hw gD;exact notIn_listAt (λy=>mm y x) l (zB hx he) (zC▸h)
 ·obtain ⟨rfl,he⟩:=zz hx hw gD;exact notIn_tupleAt (λy=>mm y x) l (zB hx he) (zC▸h)
theorem W9{f a b r}{C:ab->ab->Bool->Prop}(h:tD f a b=some r)(k:∀x y,C (.int x) (.int y) (f x y)):C a b r:=by
 rcases a with ⟨⟩<;>first | exact nn h | skip
 rcases b with ⟨⟩<;>first | exact nn h | exact aN h▸k _ _
theorem W'{b:Bool}{x:Option α}{r:α}(h:(if b=true then x else none)=some r):b=true/\x=some r:=by
 rcases b with _ | _
 ·exact nn h
 ·exact ⟨rfl,h⟩
theorem Xa{a b r}{C:ab->Bool->Prop}(h:yD a b=some r)(k1:C (.raw .none) true)(k2:∀p,C (.ref p) false)(k3:∀p,C (.bytes p) false):b= .none/\C a r:=by
 by_cases q:vw b=true
 ·replace h:=(if_pos q).symm.trans h;refine ⟨B7 q, ?_⟩;rcases a with ⟨⟩<;>first | exact nn h | exact aN h▸k3 _ | skip
  rcases v with ⟨⟩<;>first | exact nn h | exact aN h▸k1 | exact aN h▸k2 _
 ·exact nn ((if_neg q).symm.trans h)
section
variable{U:Addr->Prop}{s:al}{A:cJ}{a b:ab}{x y:Value}{r:Bool}{E:Value->al->Prop}{Q:Value->al->Prop}(hx:am U s.heap a x)(hy:am U s.heap b y)
include hx hy
theorem zD{op:fq}{f:Int->Int->Bool}(k:∀{i j:Int} {t u},Q (.bool (f i j)) s->wpAny X.M A (compareOp op (.int i t) (.int j u)) Q E s)(h:tD f a b=some r)(q:Q (.bool r) s):wpAny X.M A (compareOp op x y) Q E s :=
 W9 (C:=λa b r=>am U s.heap a x->am U s.heap b y->Q (.bool r) s->wpAny X.M A (compareOp op x y) Q E s) h (λJ J hx hy q=>by
  obtain ⟨_,rfl⟩:=hx.inv;obtain ⟨_,rfl⟩:=hy.inv;exact k q) hx hy q
theorem Ka{g:Bool->Bool}{op:fq}(k:∀{x:Value},plainIs x .none=true->Q (.bool (g (x== .none))) s->wpAny X.M A (compareOp op x .none) Q E s)(h:yD a b=some r)(q:Q (.bool (g r)) s):wpAny X.M A (compareOp op x y) Q E s:=by
 obtain ⟨rfl,z⟩:=Xa (C:=λa r=>am U s.heap a x->Q (.bool (g r)) s->wpAny X.M A (compareOp op x .none) Q E s) h (λhx q=>by
  cases hx.bU;exact k rfl q) (λJ hx q=>by
  cases hx.bU;exact k rfl q) λJ hx q=>by
  obtain ⟨_,rfl⟩:=hx.inv;exact k rfl q
 cases hy.bU;exact z hx q
end
theorem Xb{op a b}{K:Bool->St->Prop}{κ s x y}(rel:Rel X L ae st κ s)(h:eY op a b st K)(hx:am (aj st.σ κ) s.heap a x)(hy:am (aj st.σ κ) s.heap b y):cO X n L ae st κ s (compareOp op x y) yL K:=by
 intro A hr;refine aD (h.ex) λr h bf=> ?_
 have bf:Post X L ae st.σ κ s.heap yL K (.bool r) s:= .same rel rfl rfl rfl rfl bf
 have units:A.units+3<cLine:=by have:=hr.units;unfold cLine;exact eD (gG (ag (cb ..) this) 3) (nb rfl)
 generalize Post X L ae st.σ κ s.heap yL K=Q at bf ⊢
 rcases op with ⟨⟩
 ·exact DJ (Hv 3 h) units hx hy _ _ _ _ bf
 ·obtain ⟨er,h⟩:=W' h;refine aD (lW.mp h) λb' hb bb=> ?_;subst bb;exact W4 units er (Hv 3 hb) hx hy _ _ _ _ bf
 ·exact zD hx hy lt_int h bf
 ·exact zD hx hy le_int h bf
 ·exact zD hx hy gt_int h bf
 ·exact zD hx hy ge_int h bf
 ·exact Ka (g:=id) hx hy wpAny_is_plain h bf
 ·refine aD (lW.mp h) λb' hb bb=> ?_;subst bb;exact Ka (g:=(λz=>!z)) hx hy wpAny_isNot_plain hb bf
 ·exact aD (cQ.mp h) λws hs gD=>W7 (zA rel.g hs hy) hx gD bf
 ·obtain ⟨r',h2,rfl⟩:=lW.mp h;exact aD (cQ.mp h2) λws hs gD=>W8 (zA rel.g hs hy) hx gD bf
theorem sX.ind{P:List Int->List ab->List DictEntry->Prop}(nil:P [] [] [])(cons:∀{k v t y ks vs es},am U h v y->sX U h ks vs es->P ks vs es->P (k::ks) (v::vs) (⟨hashInt k, .int k t,y⟩::es)){ks vs es}(r:sX U h ks vs es):P ks vs es :=
 r.rec (motive:=λi J=>i.rec (λJ J=>True) (λJ J=>True) (λJ J=>True) P) (λJ=>⟨⟩) (λJ J=>⟨⟩) (λJ J=>⟨⟩) (λJ J J J=>⟨⟩) (λJ J J J=>⟨⟩) (λJ J J J J J=>⟨⟩) (λJ J J J J J=>⟨⟩) (λJ J J J=>⟨⟩) ⟨⟩ (λJ J J J=>⟨⟩) ⟨⟩ (λJ J J J=>⟨⟩) nil λa b J d=>cons a b d
theorem DL(prog:dE)(w:cu)(k:Int)(t):(intKind prog w).is k (.int k t)=true:=by simp [intKind,zE]
theorem Kc(prog:dE)(w:cu){ks:List Int}{es:List DictEntry}(r:sX U h ks vs es) :
  ∃ys:List Value,Pairs (intKind prog w) es (ks.zip ys)/\KeysOf (intKind prog w) es.toArray/\aO U h vs ys/\ks.length=ys.length:=by
 refine r.ind (P:=λks vs es=>∃ys:List Value,Pairs (intKind prog w) es (ks.zip ys)/\KeysOf (intKind prog w) es.toArray/\aO U h vs ys/\ks.length=ys.length) ⟨[], .nil,λe he=>absurd (DK.mp he) eZ, .nil,rfl⟩ λ{k v t y ks vs es} a _ ih=>qJ (ih) λys h1 h2 h3 h4=> ?_;refine ⟨y::ys, .cons (DL prog w k t) rfl h1,λe he=> ?_, .cons a h3,congrArg (λz=>z +1) h4⟩;rcases br.mp (DK.mp he) with rfl | he
 ·exact ⟨k,DL prog w k t,rfl⟩
 ·exact h2 e (DK.mpr he)
theorem Xc{k:Int}(r:aO U h vs ys):∀{ks:List Int},q5 k ks vs=some v->∃y,valueAt (ks.zip ys) k=some y/\am U h v y:=by
 refine r.ind (P:=λvs ys=>∀{ks:List Int},q5 k ks vs=some v->∃y,valueAt (ks.zip ys) k=some y/\am U h v y) (λ{ks} q=> ?_) λ{w y vs ys} r _ ih ks q=> ?_
 ·rcases ks with _ | _<;>exact nn q
 ·rcases ks with _ | ⟨j,ks⟩
  ·exact nn q
  ·by_cases e:k=j
   ·cases (aN ((if_pos e).symm.trans q));subst e;exact ⟨y,congrArg (yE wy) (Kd (p:=λkv:Int×Value=>decide (kv.1=k)) (decide_eq_true rfl)),r⟩
   ·exact aD (ih ((if_neg e).symm.trans q)) λz a b=>⟨z,(congrArg (yE wy) (Kf (p:=λkv:Int×Value=>decide (kv.1=k)) λq=>e (of_decide_eq_true q).symm)).trans a,b⟩
theorem Xd(prog:dE)(w:cu){U:Addr->Prop}{a:Addr}{ks:List Int}{ys:List Value}{es:List DictEntry}{n:Nat}(g:h.get? a=some (dictOf es n))(hk:KeysOf (intKind prog w) es.toArray)(hp:Pairs (intKind prog w) es (ks.zip ys))(hl:ks.length=ys.length)(nd:ks.Nodup):h.DictOf (intKind prog w) a (ks.zip ys) :=
 ⟨_,_,_,g,⟨rfl,rfl,rfl⟩,rfl,hk,hp,ao ((Kg (b6 hl)).symm) nd⟩
inductive t6(X:Cx)(s:al)(x y:Value)(Q:Value->al->Prop):Prop
 | mk (T id):s.TypeIs x T->typeLookup (.type T) "__getitem__" =pure (some (.builtin id))->(∀n A,cL n A->wpAny X.M A (getItem x y) Q (λJ J=>False) s)->t6 X s x y Q
theorem get_dict{ks vs v k x t}(hx:am U s.heap (.dict ks vs) x)(hv:q5 k ks vs=some v)(bf:∀z k,am U s.heap v z->Q z {s with toks:=k}):t6 X s x (.int k t) Q:=by
 refine Pc (hx.inv) λa es m om u J g nd hd=> ?_;subst om;refine qJ (Kc X.prog X.w hd) λys hp hk aL hl=> ?_
 have hD:=Xd X.prog X.w (U:=U) g hk hp hl nd
 exact aD (Xc aL hv) λz hz wD=>⟨_,_,hD.typeIs,slot_dict_getitem.lookup,λJ A hr=>wpAny_getItem_of (knd:=intKind X.prog X.w) (k:=k) (DL _ _ k t) hD.mapOf hz (bf z _ wD)⟩
theorem aig{k:Int}(h:0≤k):(k.toNat:Int)=k:=tR h
theorem Xe{vs v k x t}(sr:rJ U s.heap vs x)(h0:0≤k)(hk:k<2^40)(hv:vs[k.toNat]? =some v)(bf:∀z k,am U s.heap v z->Q z {s with toks:=k}):t6 X s x (.int k t) Q:=by
 rcases sr with @⟨a,ys,aL,hl⟩ | @⟨a,ys,aL,hl⟩
 ·obtain ⟨z,hz,wD⟩:=aL.get hv
  have bA:=(du.mp hz).1
  exact ⟨_,_,hl.typeIs,Xf.lookup,λJ A hr=>wpAny_getItem_list hl h0 (za hk (by decide)) (x:=z) (pM.trans hz) (bf z _ wD)⟩
 ·obtain ⟨z,hz,wD⟩:=aL.get hv
  have bA:=(du.mp hz).1
  exact ⟨_,_,hl.typeIs,F.slot_tuple_getitem.lookup,λJ A hr=>aih hl (j:=k.toNat) (x:=z) (il (by decide) h0) (za hk (by decide)) (aii h0 (aa fI ((Kh h0).mp bA))) (pM.trans hz) (bf z _ wD)⟩
theorem Xg{k:Int}(h:pC k vs=some v):0≤k/\k<2^40/\vs[k.toNat]? =some v:=by
 cases k with
 | negSucc=>exact nn h
 | ofNat k =>
  obtain ⟨q,h⟩:=mX.inv h;exact ⟨et k,ir.mpr (sV q),h⟩
theorem Ki{o i}{κ s x y}(rel:Rel X L ae st κ s)(h:q7 o i st K)(hx:am (aj st.σ κ) s.heap o x)(hy:am (aj st.σ κ) s.heap i y):t6 X s x y (Post X L ae st.σ κ s.heap am K):=by
 refine fU.of (C:=λi=>am (aj st.σ κ) s.heap i y->t6 X s x y (Post X L ae st.σ κ s.heap am K)) h (λk h hy=> ?_) hy;refine iH hy.inv λt bb=> ?_;subst bb;refine aD (bE.ex h) λv e hK=> ?_
 have seq:(eX st.σ o).bind (pC k)=some v->t6 X s x (.int k t) (Post X L ae st.σ κ s.heap am K):=λh=>by
  exact aD (cQ.mp h) λvs hs h=>pd (Xg h) λh0 h1 hv=>Xe (zA rel.g hs hx) h0 h1 hv λz J hz=> .same rel rfl rfl rfl hz hK
 rcases o with ⟨⟩<;>first | exact seq e | skip
 exact get_dict hx e λz J hz=> .same rel rfl rfl rfl hz hK
theorem Xh{o i:Value}{C:Sem Value->Prop}(h:∀vs,C (operate vs (getItem o i))):C (subscripted e false o i):=by
 rcases e with ⟨⟩<;>first | exact h _ | skip
 rcases step with _ | _<;>exact h _
theorem tail_any{A E}{e1 e2:Expr}{o i:Value}{T id:String}(hT:s.TypeIs o T)(hl:typeLookup (.type T) "__getitem__" =pure (some (.builtin id)))(h:wpAny X.M A (getItem o i) Q E s):wpAny X.M A (subscriptTail e1 e2 o i) Q E s:=by
 unfold subscriptTail;refine aw (aa (getitemInPython_of_ne hT.not_modules) ?_);refine bG (λq=>gh hT hl q) (aV ?_);refine aw (Xh (C:=λm=>wpAny X.M A m _ E s) λvs=> ?_);exact wpAny_operateT (Kj h (λr cF eE=>aw (Qf (aV eE))) λJ J x=>x)
theorem Xi{o i}{κ s x y}{e1 e2:Expr}(rel:Rel X L ae st κ s)(h:q7 o i st K)(hx:am (aj st.σ κ) s.heap o x)(hy:am (aj st.σ κ) s.heap i y):cO X n L ae st κ s (subscriptTail e1 e2 x y) am K:=by
 obtain ⟨T,id,hT,hl,h⟩:=Ki rel h hx hy;exact λA hr=>tail_any hT hl (h _ A hr)
end
end
end
section
variable {C dx:Addr}{name:Str}
section
variable{U:Addr->Prop}{h:Heap}
theorem gz.ind{P:List (Str×ab)->List DictEntry->Prop}(nil:P [] [])(cons:∀{x v hs t y fs es},am U h v y->gz U h fs es->P fs es->P ((x,v)::fs) (⟨hs, .str x t,y⟩::es)){fs es}(r:gz U h fs es):P fs es :=
 r.rec (motive:=λi J=>i.rec (λJ J=>True) (λJ J=>True) P λJ J J=>True) (λJ=>⟨⟩) (λJ J=>⟨⟩) (λJ J=>⟨⟩) (λJ J J J=>⟨⟩) (λJ J J J=>⟨⟩) (λJ J J J J J=>⟨⟩) (λJ J J J J J=>⟨⟩) (λJ J J J=>⟨⟩) ⟨⟩ (λJ J J J=>⟨⟩) nil (λa b J d=>cons a b d) ⟨⟩ λJ J J J=>⟨⟩
theorem Kk(x:Str)(t):(zF x t).isStr x=true:=by simp [Xj]
theorem DM{y:Str}(t)(h:¬ x=y):(zF y t).isStr x=false:=by simpa [Xj] using iO h
theorem Xk{es:List DictEntry}(r:gz U h fs es):dR x fs=some v->∃e,es.find? (λz=>z.key.isStr x)=some e/\am U h v e.val:=by
 refine r.ind (P:=λfs es=>dR x fs=some v->∃e,es.find? (λz=>z.key.isStr x)=some e/\am U h v e.val) nn λ{y w hs t z fs es} a _ ih q=> ?_
 by_cases kt:x=y
 ·cases aN ((if_pos kt).symm.trans q);exact ⟨⟨hs, .str y t,z⟩,Kd (p:=λe:DictEntry=>e.key.isStr x) (a:=⟨hs, .str y t,z⟩) (ao kt (Kk x t)),a⟩
 ·exact aD (ih ((if_neg kt).symm.trans q)) λe he r=>⟨e,(Kf (p:=λe:DictEntry=>e.key.isStr x) λz=>ff ((DM t kt).symm.trans z)).trans he,r⟩
theorem Kl{es:List DictEntry}(r:gz U h fs es):es.any (λz=>z.refKey)=false:=r.ind (P:=λJ es=>es.any (λz=>z.refKey)=false) rfl λJ J e=>e
theorem Xl{es:List DictEntry}(r:gz U h fs es):es.length=fs.length:=r.ind (P:=λfs es=>es.length=fs.length) rfl λJ J e=>congrArg (λz=>z +1) e
theorem Xm{hs:Int}{t:Tok}(hv:am U h v y){es:List DictEntry}(r:gz U h fs es):gz U h (nZ x v fs) (putL x hs (.str x t) y es):=by
 refine r.ind (P:=λfs es=>gz U h (nZ x v fs) (putL x hs (.str x t) y es)) (.u0 hv .yd) λ{z w fu t' z' fs es} a b ih=> ?_
 by_cases kt:x=z
 ·refine aa Hr ?_;rewrite [putL];refine aa (if_pos kt) (aa (if_pos (ao kt (Kk x t'))) ?_);exact .u0 hv b
 ·refine aa Hr ?_;rewrite [putL];refine aa (if_neg kt) (aa (if_neg λz=>ff ((DM t' kt).symm.trans z)) ?_);exact .u0 a ih
theorem Xn{es:List DictEntry}(r:gz U h fs es):(getL x es).isSome=true:=by
 unfold getL;refine aa (Kl r) ?_;generalize es.find? _=o;rcases o with _ | _<;>rfl
end
theorem Xo{C' d d':Addr}(h:some (instObj C d)=some (instObj C' d')):d=d':=by
 injection h with g1;injection g1 with _ g1 _;injection g1
theorem handed{U h}(ho:handOk v=true)(r:am U h v y):handedIn y=true :=
 r.casesOn (motive:=λi J=>i.rec (λv y=>handOk v=true->handedIn y=true) (λJ J=>True) (λJ J=>True) λJ J J=>True) (λv=>by rcases v with ⟨⟩<;>first | exact λJ=>rfl | exact λh=>ff h) (λJ J J=>rfl) (λJ J J=>rfl) (λJ J J J=>rfl) (λJ J J J=>rfl) (λJ J J J J J=>rfl) (λJ J J J J J=>rfl) (λJ J J J J=>rfl) ⟨⟩ (λJ J=>⟨⟩) ⟨⟩ (λJ J=>⟨⟩) ⟨⟩ (λJ J=>⟨⟩) ho
section
variable{X:Cx}{n:Nat}{L:Addr}{ae:List Loc}
theorem Xp{A E}{K:eF}{x:Addr}{es:List DictEntry}{v:Value}{expr:Bool}(lq:K.In s.heap)(hx:s.heap.get? x=some (instObj C dx))(hd:s.heap.get? dx=some (dictOf es m))(FF:vH K C name)
  (hl:getL name es=some (some v)) (hv:handedIn v=true) (h:Q v {s with toks:=s.toks+1}):wpAny X.M A (getAttr (.ref x) name expr) Q E s:=by
 exact aD (FF.find) λattr ha hn=>get_value lq (C:=C) (od:=some (dictOf es m)) ⟨hx,rfl,rfl,hd⟩ (Km FF.get).1 (findObj_own FF.dict ha hn hl) hv h
theorem Kn(ok:fb X){A E}{σ κ}{C a d es m f v fs}(G:bq X σ κ s)(hc:mW C f=true)(hh:handOk v=true)(e:s.heap.get? a=some (instObj C d))(ed:s.heap.get? d=some (dictOf es m))(r:gz (aj σ κ) s.heap fs es)(h:dR f fs=some v)
  (bf:∀y k,am (aj σ κ) s.heap v y->Q y {s with toks:=k}):wpAny X.M A (getAttr (.ref a) f true) Q E s:=by
 exact aD (Xk r h) λen he hr=>Xp (ok.K.keeps G.keep) e ed (ok.cls C f hc) (by unfold getL;exact aa he rfl) (handed hh hr) (bf _ _ hr)
theorem Xq(ok:fb X){o v}{κ s x}{f:Str}(rel:Rel X L ae st κ s)(h:lV st.σ o f=some v)(er:attrOk st.σ o f v=true)(hK:K v st)(hx:am (aj st.σ κ) s.heap o x):cO X n L ae st κ s (getAttr x f true) am K:=by
 refine dP (bP.mp er) λhc hh=> ?_
 have bf:∀y k,am (aj st.σ κ) s.heap v y->Post X L ae st.σ κ s.heap am K y {s with toks:=k}:=λy k r=> .same rel rfl rfl rfl r hK
 rcases o with v | _ | _ | _ | _ | _ | _ | _<;>first | exact nn h | skip
 ·rcases v with ⟨⟩<;>first | exact nn h | skip
  cases hx.bU
  have own:=rel.g.own a
  replace h:(match st.σ a with | some (.inst _ fs)=>dR f fs | _=>none)=some _:=h;replace hc:(match st.σ a with | some (.inst C _)=>some C | _=>none).any (λz=>mW z f)=true:=hc;generalize st.σ a=o at own h hc
  rcases o with _ | o
  ·exact nn h
  rcases o with ⟨⟩<;>first | exact nn h | skip
  exact qK (own _ rfl) λd es m e ed J r=>λA J=>Kn ok rel.g hc hh e ed r h bf
 ·refine Gy (hx.inv) λa d es n wC u ud e ed r=> ?_;subst wC;exact λA J=>Kn ok rel.g hc hh e ed r h bf
theorem Xr{es:List DictEntry}(h:(getL name es).isSome=true):(!es.toArray.any (λz=>z.key.isStr name)&&es.toArray.any (λz=>z.refKey))=false:=by
 refine aH J' J' ?_;unfold getL at h
 by_cases q:es.any (λz=>z.refKey)=true
 ·rw [q] at h
  revert h
  generalize e:es.find? _=o;rcases o with _ | en
  ·exact ff
  ·rw [Um.mpr ⟨en,Xs e,List.find?_some e⟩];exact λJ=>rfl
 ·exact aa ((VO _).mp q) (aa (Bool.and_false ..) rfl)
theorem Xu{A}{K:eF}{x:Addr}{es:List DictEntry}{tk:Tok}{v:Value}(lq:K.In s.heap)(hx:s.heap.get? x=some (instObj C dx))(hd:s.heap.get? dx=some (dictOf es m))(FF:vH K C name)
  (hl:(getL name es).isSome=true) (DP:∀hs k,(putL name hs k v es).length≤1001)
  (h:∀hs t h' tk,jh dx s.heap h'->h'.get? dx=some (dictOf (putL name hs (.str name t) v es) (putN name es m))->R (.ok (.ret .none)) {s with heap:=h',toks:=tk}) :
  codeAny X.M A (.call (.builtin "object.__setattr__") ⟨[.ref x, .str name tk,v],[]⟩) R s:=by
 refine osa_open lq (show InstAt s.heap x (instObj C dx) C (some (dictOf es m)) from ⟨hx,rfl,rfl,hd⟩) FF.over FF.S5 λb=>aD (any_some FF.dict) λcd hc ft=> ?_;refine aw (aV (aw (aw (wpAny_loadPart hx (aw ((looks_clsIn lq hc).here ?_))))));refine aa ft (aV (a:=some dx) (aw (aV (aw ?_))));refine aw (aw (P3 (aV (aw (wpAny_mkText (aw (wpAny_loadPart hd ?_)))))));dsimp only;refine aa (aRefKeyMayBeTheName_at ..) (aa (Xr hl) ?_)
 have Ko:=putName_dict name (zG X.w.params name) (.str name s.toks) v es m
 refine wpAny_updatePart hd ?_
 have D':(s.heap.update dx (Xv name (zG X.w.params name) (.str name s.toks) v)).get? dx=some (dictOf (putL name (zG X.w.params name) (.str name s.toks) v es) (putN name es m)):=by
  have:=vK (Xv name (zG X.w.params name) (.str name s.toks) v) hd (congrArg _ Ko)
  rw [Ko] at this
  exact this
 refine aw (Xw D' (pastItsLine_dict (by refine aH fI CB ?_;have:=DP (zG X.w.params name) (.str name s.toks);exact ag this (nb rfl))) ?_);exact aV (h _ _ _ _ (m6 ..) D')
theorem Xx{A E}{K:eF}{x:Addr}{es:List DictEntry}{v:Value}{Q:Unit->al->Prop}(lq:K.In s.heap)(hx:s.heap.get? x=some (instObj C dx))(hd:s.heap.get? dx=some (dictOf es m))(FF:vH K C name)
  (hl:(getL name es).isSome=true) (DP:∀hs k,(putL name hs k v es).length≤1001)
  (h:∀hs t h' tk,jh dx s.heap h'->h'.get? dx=some (dictOf (putL name hs (.str name t) v es) (putN name es m))->Q () {s with heap:=h',toks:=tk}):wpAny X.M A (setAttr (.ref x) name v) Q E s :=
 set_plain lq (od:=some (dictOf es m)) ⟨hx,rfl,rfl,hd⟩ FF.set (Xu (s:={s with toks:=s.toks+1}) lq hx hd FF hl DP h)
theorem Xy(name:Str)(hs:Int)(k v:Value)(es:List DictEntry):(putL name hs k v es).length≤es.length+1:=by
 induction es with
 | nil=>exact cg _
 | cons e r ih =>
  rw [putL]
  by_cases q:e.key.isStr name=true
  ·exact aa (if_pos q) (md _)
  ·exact aa (if_neg q) (fT ih)
theorem bq.change{σ κ}{d:Addr}{o':ee}(G:bq X σ κ s)(ho:σ a=some o)(hd:d=a∨κ d= .dict a)(hk:∀b ob,b≠d->s.heap.get? b=some ob->s'.heap.get? b=some ob)(bA:∃ob,s'.heap.get? d=some ob)
  (jp:c7 (aj σ κ) s.heap (aj (σ.set a o') κ) s'.heap->pr (aj (σ.set a o') κ) κ s'.heap a o') (Xz:∀d' C fs,κ d'= .dict a->s.heap.get? a=some (instObj C d')->o= .inst C fs->∃zH,o'= .inst C zH/\s'.heap.get? a=some (instObj C d')) (mT:s'.os=s.os) (hg:s'.gens=s.gens) :
  bq X (σ.set a o') κ s'/\bg (λJ=>False) σ κ s.heap (σ.set a o') κ s'.heap:=by
 have pW:=G.excl a λq=>nn (q.symm.trans ho)
 have nd:∀b,b≠a->κ b≠ .dict a->b≠d:=λb q h e=>hd.elim (λz=>q (e.trans z)) λz=>h (aa e z)
 have Kp:∀b L,κ b= .frame L->b≠d:=λb L e=>nd b (λq=>bZ (e.symm.trans (aa q pW))) λq=>bZ (e.symm.trans q)
 obtain ⟨S,G'⟩:=G.vm (s':=s') (σ':=σ.set a o') (κ':=κ) (ex:=λb=>b=a∨b=d) (λb e u=>e.elim (λe=>nn (u.1.symm.trans (aa e ho))) λe=>hd.elim (λz=>nn (u.1.symm.trans (aa (e.trans z) ho))) λz=>bZ (u.2.symm.trans (aa e z)))
  (λb ob J q e=>⟨m5 λz=>q (.inl z),rfl,hk b ob (λz=>q (.inr z)) e⟩)
  (λS=>G.tabs.bd S λt ht ob e=>hk _ ob (nd _ (λq=>bZ ((G.tab t ht).symm.trans (aa q pW))) λq=>bZ ((G.tab t ht).symm.trans q)) e)
  G.tab
  (λS b ob e=>(XA (b=a)).elim (λq=> .inr (by subst q;cases yT.symm.trans e;exact ⟨pW,jp S⟩)) λq=>by
   have e:=(m5 q).symm.trans e
   have rA:=G.excl b λz=>nn (z.symm.trans e)
   exact .inl ⟨e,λz=>z.elim q (nd b q λz=>bZ (rA.symm.trans z)),λd' h z=>z.elim (λz=>bZ (pW.symm.trans (ao z h))) (nd d' (λz=>bZ (pW.symm.trans (ao z h))) λy=>q (Tag.dict.inj (h.symm.trans y)))⟩)
  (λd' b h=>by
   refine jg (G.dict d' b h) λC fs z g=> ?_
   have rA:=G.excl b λy=>nn (y.symm.trans z)
   by_cases q:b=a
   ·subst q;refine aD (Xz d' C fs h g (aN (ho.symm.trans z))) λzH bb g'=> ?_;subst bb;exact .inr ⟨C,zH,yT,g'⟩
   ·exact .inl ⟨h,λz=>z.elim q (nd b q λz=>bZ (rA.symm.trans z))⟩)
  (λb hn=>(XA (b=d)).elim (λq=>aa q bA) λq=>(show ∀b,b≠d->(∃ob,s.heap.get? b=some ob)->∃ob,s'.heap.get? b=some ob from λb q h=>iH h λob e=>⟨ob,hk b ob q e⟩) b q (G.lt b λu=>hn ⟨(m5 λz=>nn (u.1.symm.trans (z▸ho))).trans u.1,u.2⟩))
  G.fr mT hg
 exact ⟨G',S,λb ob L e J g=>⟨e,hk b ob (Kp b L e) g⟩,λb ob L e g=>⟨.inl e,ob,hk b ob (Kp b L e) g⟩⟩
theorem XB(ok:fb X){o v}{K:Unit->St->Prop}{κ s x y}{f:Str}(rel:Rel X L ae st κ s)(h:tE o f v st (K ()))(hx:am (aj st.σ κ) s.heap o x)(hy:am (aj st.σ κ) s.heap v y):cO X n L ae st κ s (setAttr x f y) ig K:=by
 obtain ⟨a,C,fs,rfl,fB,⟨hf,aU⟩,hK⟩:=h;cases hx.bU;refine qK (rel.g.own a _ fB) λd es m e ed jr r=> ?_;intro A hr;refine Xx (ok.K.keeps rel.g.keep) e ed (ok.cls C f hf) (Xn r) (λhs k=>ag (Xy _ _ _ _ _) (aa (Xl r) (ag (fT aU) (nb rfl)))) λhs t h' tk wE ft=> ?_
 have Kq:=(wE.2 a (λq=>bZ ((rel.g.excl a λz=>nn (z.symm.trans fB)).symm.trans ((congrArg κ q).trans jr)))).trans e
 obtain ⟨G',ev⟩:=rel.g.change (s':={s with heap:=h',toks:=tk}) (o':= .inst C (nZ f v fs)) fB (.inr jr) (λb ob q g=>(wE.2 b q).trans g) ⟨_,ft⟩ (λS=>⟨d,_,_,Kq,ft,jr,(Xm hy r).mono S⟩)
  (λd' C' zH aij g1 z=>by
   cases z;refine aa (show d'=d from (Xo (g1.symm.trans e))) ?_;exact ⟨_,rfl,Kq⟩) rfl rfl
 exact .op rel G' ev trivial hK
end
end
section
variable {e1:Expr}{hi lo:Option ab}{sa sb:Option Expr}{u:Value}
section
variable{X:Cx}{n:Nat}{L:Addr}{ae:List Loc}
theorem VR.XC{U h}(r:aO U h vs ys)(hv:am U h v y):aO U h (vs.set k v) (ys.toArray.setIfInBounds k y).toList:=by
 have:=r.set (i:=k) hv
 simpa using this
theorem set_own{w:cu}{l:Addr}{items:Array Value}{k:Int}{t:Tok}{v:Value}{Q:Unit->al->Prop}(t7:gO s.heap l items)
  (h0:0≤k) (zI:k<2^63) (hn:k<items.size) (hQ:∀h',gO h' l (items.setIfInBounds k.toNat v)->jh l s.heap h'->Q () {s with heap:=h'}) :
  wpAny (model prog w) A (setItem (.ref l) (.int k t) v) Q E s:=by
 have hl:=t7.list
 obtain ⟨o,ho,hc,ne,hd⟩:=id hl;unfold setItem;refine kA (aw (Kr hl.typeIs (by decide) ?_));refine aw (wpAny_callSpecial?_slot (name:=be "__setitem__") hl.typeIs DQ
  (oj DQ hl.typeIs XD ?_ (XE _ _ _)))
 refine (?_:wpAny _ _ (XF (.int k t)>>=_) _ _ s);refine aw (wpAny_listSubscript_int (fitsIndex_of h0 zI) ?_);clear zI;obtain ⟨j,rfl⟩:=Int.eq_ofNat_of_zero_le h0
 have hj:j<items.size:=ir.mp hn
 have oA:items[j]? =some items[j]:=TF hj
 refine (?_:wpAny _ _ ((seqItemAt l j>>=λr=>pure (r.map (λz=>(j,z))))>>=_) _ _ s);refine aw (aw (wpAny_seqItemAt ho hd (aV ?_)));refine aa oA (?_:wpAny _ _ (setSeqItemAt l j v>>=_) _ _ s);refine aw (wpAny_setSeqItemAt ho hd ?_)
 have Ks:gO (s.heap.update l (yU (λz=>z.setIfInBounds j v))) l (items.setIfInBounds j v):=CA t7 rfl
 first
  | exact aw (aV (aV ⟨.none,rfl,aV (hQ _ Ks (m6 ..))⟩))
  | exact aV ⟨.none,rfl,aV (hQ _ Ks (m6 ..))⟩
theorem XG{o i v}{K:Unit->St->Prop}{κ s x y z}(rel:Rel X L ae st κ s)(h:pD o i v st (K ()))(hx:am (aj st.σ κ) s.heap o x)(hy:am (aj st.σ κ) s.heap i y)(hz:am (aj st.σ κ) s.heap v z):cO X n L ae st κ s (setItem x y z) ig K:=by
 obtain ⟨a,vs,k,rfl,fB,rfl,h0,bA,hK⟩:=h;cases hx.bU;obtain ⟨t,rfl⟩:=hy.inv;obtain ⟨ys,t7,aL⟩:=rel.g.own a _ fB
 have aU:=aL.length
 refine λA hr=>set_own t7 h0.1 (za h0.2 (by decide)) (aa fI ((Kh h0.1).mp (ao aU bA))) λh' eG hs=> ?_;obtain ⟨G',ev⟩:=rel.g.change (s':={s with heap:=h'}) (d:=a) (o':= .list (vs.set k.toNat v)) fB (.inl rfl) (λb ob q g=>(hs.2 b q).trans g) (aD eG.list λob g J=>⟨ob,g⟩) (λS=>⟨(ys.toArray.setIfInBounds k.toNat z).toList,eG,(aL.XC hz).mono S⟩)
  (λJ J J J J=>ee.noConfusion) rfl rfl
 exact .op rel G' ev trivial hK
theorem Kt{i:Int}{l:Nat}(h:(if 0≤i/\i<2^40 then some i.toNat else none)=some l):¬ i<0/\i.toNat=l:=by
 by_cases q:0≤i/\i<2^40
 ·exact ⟨jV.mpr q.1,aN ((if_pos q).symm.trans h)⟩
 ·exact nn ((if_neg q).symm.trans h)
theorem Ku{i:Int}(h:¬ i<0)(m:Nat):p4 (some i) m=min i.toNat m/\p5 (some i) m=min i.toNat m:=by
 constructor<;>(first | unfold p4 | unfold p5)<;>dsimp only<;>(exact aa (if_neg h) rfl)
theorem wF{U h}{l:Nat}(hl:lZ lo=some l)(r:fJ U h lo y):∃q:Option Int,jw y q/\∀m,p4 q m=min l m:=by
 rcases lo with _ | v
 ·cases aN hl;cases r;exact ⟨none, .none,λm=>(DR m).symm⟩
 ·rcases v with ⟨⟩<;>first | exact nn hl | skip
  obtain ⟨t,rfl⟩:=VR.int_inv r;obtain ⟨h,rfl⟩:=Kt hl;exact ⟨some _, .int _ _,λm=>(Ku h m).1⟩
theorem wG{U h}{l:Nat}(hl:l0 m hi=some l)(r:fJ U h hi y):∃q:Option Int,jw y q/\p5 q m=min l m:=by
 rcases hi with _ | v
 ·cases aN hl;cases r;exact ⟨none, .none,(rI _).symm⟩
 ·rcases v with ⟨⟩<;>first | exact nn hl | skip
  obtain ⟨t,rfl⟩:=VR.int_inv r;obtain ⟨h,rfl⟩:=Kt hl;exact ⟨some _, .int _ _,(Ku h _).2⟩
theorem DS(vs:List α)(l h:Nat):(vs.drop (min l vs.length)).take (min h vs.length - min l vs.length)=(vs.take h).drop l:=by
 refine aa t8 ?_
 by_cases hl:l≤vs.length
 ·refine aa (gT hl) ?_
  by_cases hh:h≤vs.length
  ·exact aa (gT hh) rfl
  ·exact aa (p6 (DT hh)) (aa (rn (by simp)) (aa (rn (by simp;exact ag (DT hh) (Nat.le_add_of_sub_le (cg _)))) rfl))
 ·have e1:min l vs.length=vs.length:=p6 (DT hl)
  refine aa e1 (aa (tO (cg _)) (aa (tO (DT hl)) ?_));simp
theorem XH{A E}{d:Addr}{l:Value}{p:Pos}{qa qb:Option Int}(hl:s.heap.IsList a ys.toArray)(hd:s.heap.get? d=some {cls:= .type "slice",data:= .fields #[l,u, .none]})
  (pl:jw l qa) (pu:jw u qb) (bN:ys.length≤sizeLine) (h:Q (.ref s.heap.objs.size) {s with heap:=s.heap.push {cls:= .type "list",data:= .seq (kms_pick ys qa qb).toArray}}) :
  wpAny X.M A (subscriptTail e1 (.Slice sa sb none p) (.ref a) (.ref d)) Q E s:=by
 refine tail_any hl.typeIs Xf.lookup (wpAny_getItem_list_slice hl ⟨_,hd,rfl,rfl⟩ pl pu .none (by simp) ?_ (by simpa using bN));refine aa (kms_pick_eq ..) ?_
 simpa using h
theorem aik{h:Heap}{p q:Array Value}(x:h.IsTuple a p)(y:h.IsList a q):False:=by
 obtain ⟨o1,g1,c1,_⟩:=x;obtain ⟨o2,g2,c2,_⟩:=y;cases aN (g1.symm.trans g2);exact absurd (c1.symm.trans c2) (by decide)
theorem XI{σ κ}{o:ab}{x:Value}(G:bq X σ κ s)(hs:jS σ o=some vs)(hx:am (aj σ κ) s.heap o x):∃a ys,x= .ref a/\aO (aj σ κ) s.heap vs ys/\s.heap.IsList a ys.toArray:=by
 refine jS.of (C:=λv=>am (aj σ κ) s.heap v x->∃a ys,x= .ref a/\aO (aj σ κ) s.heap vs ys/\s.heap.IsList a ys.toArray) hs (λr=> ?_) (λa q r=> ?_) hx
 ·obtain ⟨a,ys,rfl,_,l,h⟩:=r.inv;exact ⟨a,ys,rfl,h,l⟩
 ·cases r.bU;obtain ⟨items,hl,aL⟩:=G.own _ _ q;exact ⟨a,items,rfl,aL,hl.list⟩
theorem XJ{o}{κ s x d}{l:Value}{p:Pos}(rel:Rel X L ae st κ s){a b:Nat}(hs:jS st.σ o=some vs)(ha:lZ lo=some a)(hb:l0 vs.length hi=some b)(aU:dQ vs.length)(hK:fW ((vs.take b).drop a) st K)
  (hx:am (aj st.σ κ) s.heap o x) (fL:fJ (aj st.σ κ) s.heap lo l) (iX:fJ (aj st.σ κ) s.heap hi u) (hd:s.heap.get? d=some {cls:= .type "slice",data:= .fields #[l,u, .none]}) :
  cO X n L ae st κ s (subscriptTail e1 (.Slice sa sb none p) x (.ref d)) am K:=by
 obtain ⟨q,ys,rfl,aL,hl⟩:=XI rel.g hs hx;obtain ⟨qa,pa,ea⟩:=wF ha fL;obtain ⟨qb,pb,eb⟩:=wG hb iX
 have DU:=aL.length
 exact λA hr=>XH hl hd pa pb (ao DU (tM aU)) (aa (show kms_pick ys qa qb=(ys.take b).drop a by unfold kms_pick;rw [ea,<-DU,eb,DU,DS]) (Ih rel ((aL.take b).drop a) hK rfl rfl rfl))
theorem XK{κ s x d}{l:Value}{p:Pos}(rel:Rel X L ae st κ s){a c:Nat}(ha:lZ lo=some a)(hb:l0 b.length hi=some c)(aU:dQ b.length)(hK:K (.bytes ((b.take c).drop a)) st)
  (hx:am (aj st.σ κ) s.heap (.bytes b) x) (fL:fJ (aj st.σ κ) s.heap lo l) (iX:fJ (aj st.σ κ) s.heap hi u) (hd:s.heap.get? d=some {cls:= .type "slice",data:= .fields #[l,u, .none]}) :
  cO X n L ae st κ s (subscriptTail e1 (.Slice sa sb none p) x (.ref d)) am K:=by
 obtain ⟨t,rfl⟩:=hx.mN;obtain ⟨qa,pa,ea⟩:=wF ha fL;obtain ⟨qb,pb,eb⟩:=wG hb iX
 have e:XM b.toArray qa qb=((b.take c).drop a).toArray:=by
  unfold XM Kv;refine aa (Kw ..) ?_;simp only [sliceRange_one,pick_run]
  have:=ea b.toArray.size
  exact aa this (aa fI (aa eb (aa (DS ..) rfl)))
 refine λA hr=>tail_any (lp s _ t) XN.lookup (getItem_meets (lp _ _ _) (by decide) XN FB.entry_bytes_getitem (FB.args_bytes_getitem_2 _ _) (ail b.toArray t d pa pb) ⟨⟨_,hd,rfl,rfl⟩, ?_,λt' k=> ?_⟩)
 ·refine aa e (aa fI ?_)
  have:=tM aU
  simp;exact ag (jX ..) (ag this (cb ..))
 ·exact aa e (.same rel rfl rfl rfl (.bytes _ _) hK)
end
end
theorem DV:mroOf (.type "bytearray")=pure [.type "bytearray", .type "object"]:=by refine aa (mroOf_type ..) ?_;kernel_rfl
theorem XO:typeLookup (.type "bytearray") "__new__" =pure (some (.builtin "bytearray.__new__")):=by refine aH (jx ..) jy ?_;kernel_rfl
theorem wH:Slot "bytearray" "__init__" "bytearray.__init__" :=
 .of (owner:= "bytearray") (n:= "__init__") (by refine aH (jx ..) jy ?_;kernel_rfl) (by decide +kernel) (by decide +kernel) (by decide +kernel)
  (by first | exact .inl (by decide +kernel) | exact .inr (by decide +kernel)) (by refine aa (rK ..) ?_;kernel_rfl)
theorem wI:isSubtype (.type "bytearray") (.type "bytearray")=pure true:=by refine aa (rK ..) ?_;kernel_rfl
theorem Kx:TypeCalled "bytearray" "bytearray.__new__" "bytearray.__init__" :=
 ⟨by decide +kernel,by decide +kernel,⟨_,_,DV⟩,madeBy_type DV XO (by decide +kernel),by decide +kernel,wI,wH⟩
theorem XQ(a:Value):checkTypeCall "bytearray" ⟨[a],[]⟩=pure ():=by kernel_rfl
theorem XR(a:Value):checkBuiltinCall "bytearray.__new__" ⟨[.type "bytearray",a],[]⟩=pure ():=by kernel_rfl
theorem XS:entryFor table "bytearray.__new__" =some f8.«list.__new__» :=entryFor_alias (id':= "list.__new__") (by kernel_rfl) (by decide +kernel) (by decide +kernel) (by kernel_rfl)
theorem XT:entryFor table "bytearray.__init__" =some f8.«bytearray.__init__» :=zJ (by kernel_rfl)
theorem Ky:plainId "bytearray.__new__" =true:=by decide +kernel
theorem zK:aim.lookup (String.ofList ['y','a','r','r','a','e','t','y','b'].reverse)=some ain:=by kernel_rfl
theorem XU(a b:Value):argsOk "bytearray.__init__" ⟨[a,b],[]⟩:=by
 unfold argsOk;rw [signature?_of (id:= "bytearray.__init__") (n:= ['_','_','t','i','n','i','_','_']) (o:= ['y','a','r','r','a','e','t','y','b']) (by kernel_rfl) zK];kernel_rfl
theorem XV:("bytearray.__new__".splitOn ".__new__").headD "" = "bytearray" :=by simp +decide [String.splitOn,String.splitOnAux]
section
variable{prog:dE}{w:cu}{A:cJ}{E:Value->al->Prop}{s:al}
theorem XW(a:Value){Q₁:Value->al->Prop}(h:Q₁ (.ref s.heap.objs.size) {s with heap:=s.heap.push {cls:= .type "bytearray",data:= .bytearray #[]}}) :
  codeAny (model prog w) A (.call (.builtin "bytearray.__new__") ⟨[.type "bytearray",a],[]⟩) (wants Q₁ E) s:=by
 refine Kz ?_
 show wpAny _ A.in1 (do checkBuiltinCall "bytearray.__new__" ⟨[.type "bytearray",a],[]⟩;again (.builtin "bytearray.__new__" ⟨[.type "bytearray",a],[]⟩)) _ _ s
 refine aw (dW (XR a) (aV ⟨wJ Ky _,codeAny_builtin_stack XS rfl λp st=> ?_⟩));refine aa (wK Ky _) ?_
 have rL:=wI
 have XX:=XV
 obtain ⟨hp,g,d,tk,os⟩:=s;simp only [XX]
 wp_walk
 exact h
end
section
variable {id:String}
theorem KA{a:Args}(h:nR (.builtin id a)=true):lR.contains id=false:=(l8 _).mp h
theorem aio{a:Args}(h:nR (.builtin id a)=true)(hc:lR.contains id=true):False:=by rw [KA h] at hc;cases hc
theorem wL{x:String}(h:lR.contains id=false)(hx:lR.contains x=true):¬ id=x:=λe=>nl (h.symm.trans ((congrArg lR.contains e).trans hx))
theorem XY(h:lR.contains id=false):Pl.contains id=false:=by
 rw [lR,XZ,List.any_append,vJ] at h
 exact aa XZ h.1
theorem X2{M:Model}{v:Value}{Q:Bool->al->Prop}(h:Q false s):ai M A (aip v) Q E s:=λΓ p dL hc=>by
 refine (?_:Q (((Γ.code,p)::Γ.below).any _) s);refine aa (show ((Γ.code,p)::Γ.below).any _=false from DW.mpr λx hx e=>by
  obtain ⟨c,q⟩:=x
  have hk:nR c=true:=hc _ hx
  clear hx hc;rcases c with _ | ⟨id,⟨pos,kw⟩⟩ | _ | _ | _ | _ | _ | _ | _ | _ | _ | _ | _<;>first | exact ff e | skip
  have h2:=KA hk
  delta aiq at e
  replace e:=(dif_neg (c:=id= "bytearray.__contains__") (wL h2 (by decide +kernel))).symm.trans e;replace e:=(dif_neg (c:=id= "bytearray.__mod__") (wL h2 (by decide +kernel))).symm.trans e;replace e:=(dif_neg (c:=id= "bytearray.__rmod__") (wL h2 (by decide +kernel))).symm.trans e;replace e:=(dif_neg (c:=id= "_struct.pack_into.held") (wL h2 (by decide +kernel))).symm.trans e;replace e:=(dif_neg (c:=id= "bytearray.find.held") (wL h2 (by decide +kernel))).symm.trans e;rcases pos with _ | ⟨w,r⟩
  ·exact ff e
  ·exact ff ((XY h2).symm.trans (bP.mp e).2)) ?_
 exact h
end
section
variable {S:Addr}
noncomputable abbrev d7(b:List UInt8):Obj:={cls:= .type "bytearray",data:= .bytearray b.toArray}
theorem X3:typeLookup (.type "bytearray") "__release_buffer__" =pure (some (.builtin "bytearray.__release_buffer__")):=by refine aH (jx ..) jy ?_;kernel_rfl
theorem DX:typeLookup (.type "bytearray") "__buffer__" =pure (some (.builtin "bytearray.__buffer__")):=by refine aH (jx ..) jy ?_;kernel_rfl
theorem KB:typeLookup (.type "int") "__index__" =pure (some (.builtin "int.__index__")):=by refine aH (jx ..) jy ?_;kernel_rfl
theorem KC:typeLookup (.type "bytes") "__index__" =pure none:=by refine aH (jx ..) jy ?_;kernel_rfl
theorem X4(id:String)(v:Value):air id "bytearray" ["source","encoding","errors"] [v] []=pure [some v,none,none]:=by kernel_rfl
theorem KD:("bytearray.__release_buffer__".endsWith ("." ++ "__release_buffer__"))=true/\ "bytearray.__release_buffer__".dropRight ("__release_buffer__".length+1)= "bytearray" :=by decide +kernel
theorem KE:("bytearray.__buffer__".endsWith ("." ++ "__buffer__"))=true/\ "bytearray.__buffer__".dropRight ("__buffer__".length+1)= "bytearray" :=by decide +kernel
section
variable{M:Model}{A:cJ}{E:Value->al->Prop}{s:al}
theorem dX{c:Bool}{a b:Sem α}{Q:α->al->Prop}(hc:c=false)(h:wpAny M A b Q E s):wpAny M A (if c=true then a else b) Q E s:=by subst hc;exact h
theorem jz{c:Bool}{a b:Sem α}{Q:α->al->Prop}(hc:c=true)(h:wpAny M A a Q E s):wpAny M A (if c=true then a else b) Q E s:=by subst hc;exact h
theorem oB{c:Prop} [Decidable c]{a b:Sem α}{Q:α->al->Prop}(hc:¬ c)(h:wpAny M A b Q E s):wpAny M A (if c then a else b) Q E s:=by refine aa (if_neg hc) ?_;exact h
theorem X5{c:Prop} [Decidable c]{a b:Sem α}{Q:α->al->Prop}(hc:c)(h:wpAny M A a Q E s):wpAny M A (if c then a else b) Q E s:=by refine aa (if_pos hc) ?_;exact h
theorem kC{c:Bool}{a b:Sem α}{Q:α->al->Prop}(hc:c=false)(h:ai M A b Q E s):ai M A (if c=true then a else b) Q E s:=by subst hc;exact h
theorem X6{c:Bool}{a b:Sem α}{Q:α->al->Prop}(hc:c=true)(h:ai M A a Q E s):ai M A (if c=true then a else b) Q E s:=by subst hc;exact h
theorem gU(hS:s.heap.get? S=some (d7 b)):s.TypeIs (.ref S) "bytearray" :=⟨_,hS,rfl⟩
theorem KF{Q:Bool->al->Prop}(hS:s.heap.get? S=some (d7 b))(h:Q false s):wpAny M A (X7 (.ref S)) Q E s:=by
 unfold X7 KG;refine aw (aw (gh (gU hS) X3 ?_));dsimp only;refine dX (by refine aa KD.1 ?_;rfl) ?_;exact aa KD.2 (rH (gU hS) wI (aV h))
theorem X8{Q:Nat->al->Prop}(hS:s.heap.get? S=some (d7 b))(h:Q 0 s):wpAny M A (X9 (.ref S)) Q E s:=by
 unfold X9;exact aw (qT hS (aV h))
theorem wM{Q:Array UInt8->al->Prop}(hS:s.heap.get? S=some (d7 b))(h:Q b.toArray s):wpAny M A (KH (.ref S)) Q E s:=by
 unfold KH ais;exact aw (aw (qT hS (aV (aV h))))
theorem zL{c:List UInt8}{f:Array UInt8->Array UInt8}{Q:Unit->al->Prop}(hS:s.heap.get? S=some (d7 b))(hf:f b.toArray=c.toArray)(hz:c.length≤sizeLine)
  (h:∀h',h'.get? S=some (d7 c)->jh S s.heap h'->Q () {s with heap:=h'}):wpAny M A (ait (.ref S) f) Q E s:=by
 refine (?_:wpAny _ _ (updateBytearray S f) _ _ _);unfold updateBytearray;refine aw (qT hS ?_);refine (?_:wpAny _ _ (update S (KI f)>>=λJ=>lookBehind S) _ _ _);refine aw (wpAny_update hS ?_)
 have p7:(s.heap.update S (KI f)).get? S=some (d7 c):=by
  have:=vK (KI f) hS rfl
  refine aa this (?_:some ({cls:= .type "bytearray",data:= .bytearray (f b.toArray)}:Obj)=_);exact aa hf rfl
 refine Xw p7 ?_ (h _ p7 (m6 ..));refine (?_:(if c.toArray.size>sizeLine then some "bytearray:memory" else none)=none);exact aa (if_neg (by rw [fI];exact dC.mpr hz)) rfl
theorem KJ(i:Int)(t:Tok):asStr? (.int i t)=pure none:=rfl
theorem KL(b:Array UInt8)(t:Tok):asStr? (.bytes b t)=pure none:=rfl
inductive zM:Value->List UInt8->Prop
 | int (i:Int) (t:Tok):0≤i->i≤1000000->zM (.int i t) (ci i.toNat 0)
 | bytes (b:List UInt8) (t:Tok):b.length≤1000000->zM (.bytes b.toArray t) b
theorem fg{n:Nat}(h:n≤1000000):n≤sizeLine:=by refine aa CB ?_;exact ag h (by decide)
theorem X'{i:Int}(h0:0≤i)(hn:i≤1000000):(!Builtin.Bytes.fitsIndex i)=false:=by unfold Yb;simp;exact ⟨il (by decide) h0,nm hn (by decide)⟩
theorem Yc{n:Nat}(h:n≤1000000):DY n=false:=by unfold DY;have:=fg h;simpa using this
theorem Yd{v:Value}(hS:s.heap.get? S=some (d7 []))(hv:zM v b)
  (h:∀h' tk,h'.get? S=some (d7 b)->jh S s.heap h'->Q .none {s with heap:=h',toks:=tk}) :
  ai M A (f8.«bytearray.__init__» ⟨[.ref S,v],[]⟩) (λbf s'=>∃r,bf= .done (.ret r)/\Q r s') E s:=by
 unfold f8.«bytearray.__init__»;refine kT (λq=>KF hS q) (kC rfl ?_);refine rF (X4 _ _) (rF (a:=()) rfl (rF (a:=()) rfl ?_));refine fH (λq=>aq (X2 (aq (ba (X8 hS (aM q)))))) (kC rfl (ba ?_));refine aw (zL hS (c:= []) rfl (by decide) λbh DZ gF=> ?_);cases hv with
 | int i t h0 hn =>
  have hz:=t9.mpr hn
  refine bG (λq=>dW (KJ _ _) q) (dX rfl ?_);refine bG (a:=()) (λq=>aV q) (bG (λq=>gh (T:= "int") rfl KB q) (jz rfl ?_));refine aw (D0 (dW (rfl:asIndex (.int i t)=pure i) ?_));refine dX (X' h0 hn) (oB (jV.mpr h0) ?_);refine dX (beq_eq_false_iff_ne.mpr (Int.ne_of_lt (nm hn (by decide)))) (dX (Yc hz) ?_);refine bG (λq=>jv q) ?_
  by_cases hp:i>0
  ·refine X5 hp (aw (zL (c:=ci i.toNat 0) DZ (List.toArray_replicate ..).symm (by refine aa pV ?_;exact fg hz) λbD p7 rm=> ?_));exact aw (aV (aV ⟨_,rfl,h _ _ p7 (gF.trans rm)⟩))
  ·obtain rfl:i=0:=JZ (jV.mp hp) h0;exact oB hp (aw (aV (aV ⟨_,rfl,h _ _ DZ gF⟩)))
 | bytes b t hb =>
  refine bG (λq=>dW (KL _ _) q) (dX rfl ?_);refine bG (a:=()) (λq=>aV q) (bG (λq=>gh (T:= "bytes") rfl KC q) (dX rfl ?_));refine bG (λq=>dW (Ye) q) (bG (λq=>jv q) ?_);refine aw (zL (c:=b) DZ rfl (fg hb) λbD p7 rm=> ?_);exact aw (aV (aV ⟨_,rfl,h _ _ p7 (gF.trans rm)⟩))
end
end
section
variable{prog:dE}{w:cu}{A:cJ}{E:Value->al->Prop}{s:al}
theorem D3{id:String}{args:Args}{b:f8}(er:lR.contains id=false)(hb:entryFor table id=some b)
  (h:ai (model prog w) (A.under (.builtin id args)) (b args) (λbf s'=>match bf with | .done f=>R (.ok f) s' | .again c'=>c'.quiet=true/\dp (model prog w) A c' R s') (λe s'=>R (.error e) s') s) :
  dp (model prog w) A (.builtin id args) R s:=by
 refine kU (by show (!lR.contains id)=true;refine aa er ?_;rfl) ?_
 have Yg:(model prog w).den (.builtin id args)=b args:=by
  refine (?_:(match entryFor table id with | some b=>b args | none=>unsupported ((withoutEnding? id "#data").getD id))=_);exact aa hb rfl
 exact aa Yg h
theorem KM{id:String}{args:Args}{b:f8}(er:lR.contains id=false)(hp:plainId id=true)(hb:entryFor table id=some b)
  (h:ai (model prog w) A.in1 (checkBuiltinCall id args) (λJ s1=>ai (model prog w) A.in1 (b args) (λbf s'=>match bf with | .done f=>R (.ok f) s' | .again c'=>c'.quiet=true/\dp (model prog w) A c' R s') (λe s'=>R (.error e) s') s1) (λe s'=>R (.error e) s') s) :
  dp (model prog w) A (.call (.builtin id) args) R s:=by
 refine kU rfl (?_:ai _ A.in1 (checkBuiltinCall id args>>=λJ=>again (.builtin id args)) _ _ s);refine aq (aZ h (λJ s1 h1=>aM ⟨wJ hp _,D3 er hb ?_⟩) λJ J x=>x);rw [wK hp];exact h1
theorem KN{v:Value}(hv:zM v b)
  (h:∀h' tk,h'.get? s.heap.objs.size=some (d7 b)->(∀a o,s.heap.get? a=some o->h'.get? a=some o)->Q (.ref s.heap.objs.size) {s with heap:=h',toks:=tk}) :
  ai (model prog w) A (call (.type "bytearray") [v]) Q (λJ J=>False) s:=by
 refine pf (kU rfl ?_);refine aM ⟨KO _ (by decide +kernel),D3 (by decide +kernel) F.entry_type_call ?_⟩;refine aa (aiu (weight_type_call_type "bytearray" [v] []) rfl) ?_;unfold f8.«type.__call__»;refine kC (by decide +kernel) (kC Kx.canCreate ?_);refine aq (u7 (XQ v) ?_);refine fH (λq=>u7 DV q) (kC rfl ?_);refine aq (u7 Kx.made ?_);refine aq (aM ?_);refine aq (bH (pf (GK (codeAny_mono (XW v (E:=λJ J=>False) (Q₁:=λobj az=>obj= .ref s.heap.objs.size/\az={s with heap:=s.heap.push (d7 [])}) ⟨rfl,rfl⟩) λr az hr=> ?_))));rcases r with e | fl
 ·exact hr.elim
 cases fl<;>first | exact hr.elim | skip
 obtain ⟨rfl,rfl⟩:=hr
 have hS:({s with heap:=s.heap.push (d7 [])}:al).heap.get? s.heap.objs.size=some (d7 []):=cV _ rfl
 dsimp only;refine kT (λq=>rH (gU hS) wI q) (kC rfl ?_);refine aq (bH ?_);refine kT (λq=>gh (gU hS) wH.lookup q) ?_;dsimp only;refine aa (wH.bind ..) (bH (aq (aM (aq (pf ?_)))));refine KM (by decide +kernel) wH.plain XT (ba (wH.check _ _ _ _ _ _ _ _ (gU hS) (XU _ _) ?_));refine aZ (Yd (E:=λJ J=>False) hS hv (Q:=λr bp=>r= .none/\Q (.ref s.heap.objs.size) bp) λh' tk zN hs=>⟨rfl, ?_⟩) ?_ λJ J x=>x.elim
 ·exact h _ _ zN λa o e=>hs.extBut a o (dB (cR e)) (fy _ e)
 ·rintro bf s' ⟨r,rfl,rfl,q⟩
  exact aM (aM q)
end
section
variable {hi:Option Int}{j:Nat}{lo:Option Int}{u:Value}
theorem zO:Slot "bytearray" "__setitem__" "bytearray.__setitem__" :=
 .of (owner:= "bytearray") (n:= "__setitem__") (by refine aH (jx ..) jy ?_;kernel_rfl) (by decide +kernel) (by decide +kernel) (by decide +kernel)
  (by first | exact .inl (by decide +kernel) | exact .inr (by decide +kernel)) (by refine aa (rK ..) ?_;kernel_rfl)
theorem Yh:entryFor table "bytearray.__setitem__" =some f8.«bytearray.__setitem__» :=zJ (by kernel_rfl)
theorem Yi(a b c:Value):argsOk "bytearray.__setitem__" ⟨[a,b,c],[]⟩:=by
 unfold argsOk;rw [signature?_of (id:= "bytearray.__setitem__") (n:= ['_','_','m','e','t','i','t','e','s','_','_']) (o:= ['y','a','r','r','a','e','t','y','b']) (by kernel_rfl) zK];kernel_rfl
theorem KP:Slot "bytearray" "__getitem__" "bytearray.__getitem__" :=
 .of (owner:= "bytearray") (n:= "__getitem__") (by refine aH (jx ..) jy ?_;kernel_rfl) (by decide +kernel) (by decide +kernel) (by decide +kernel)
  (by first | exact .inl (by decide +kernel) | exact .inr (by decide +kernel)) (by refine aa (rK ..) ?_;kernel_rfl)
theorem Yj:entryFor table "bytearray.__getitem__" =some f8.«bytearray.__getitem__» :=zJ (by kernel_rfl)
theorem Yk(a b:Value):argsOk "bytearray.__getitem__" ⟨[a,b],[]⟩:=by
 unfold argsOk;rw [signature?_of (id:= "bytearray.__getitem__") (n:= ['_','_','m','e','t','i','t','e','g','_','_']) (o:= ['y','a','r','r','a','e','t','y','b']) (by kernel_rfl) zK];kernel_rfl
theorem KQ:Slot "bytearray" "__len__" "bytearray.__len__" :=
 .of (owner:= "bytearray") (n:= "__len__") (by refine aH (jx ..) jy ?_;kernel_rfl) (by decide +kernel) (by decide +kernel) (by decide +kernel)
  (by first | exact .inl (by decide +kernel) | exact .inr (by decide +kernel)) (by refine aa (rK ..) ?_;kernel_rfl)
theorem Yl:entryFor table "bytearray.__len__" =some f8.«bytearray.__len__» :=zJ (by kernel_rfl)
theorem Ym(a:Value):argsOk "bytearray.__len__" ⟨[a],[]⟩:=by
 unfold argsOk;rw [signature?_of (id:= "bytearray.__len__") (n:= ['_','_','n','e','l','_','_']) (o:= ['y','a','r','r','a','e','t','y','b']) (by kernel_rfl) zK];kernel_rfl
theorem Yn:isSubtype (.type "bytes") (.type "bytearray")=pure false:=by refine aa (rK ..) ?_;kernel_rfl
theorem Yo:isSubtype (.type "bytes") (.type "complex")=pure false:=by refine aa (rK ..) ?_;kernel_rfl
theorem Yp:typeLookup (.type "bytes") "__int__" =pure none:=by refine aH (jx ..) jy ?_;kernel_rfl
theorem Yq:typeLookup (.type "bytes") "__float__" =pure none:=by refine aH (jx ..) jy ?_;kernel_rfl
section
variable{prog:dE}{w:cu}{A:cJ}{E:Value->al->Prop}{s:al}
theorem D4{d:Addr}{l:Value}{Q:Value×Value×Value->al->Prop}(hd:s.heap.get? d=some {cls:= .type "slice",data:= .fields #[l,u, .none]})(hl:jw l lo)(hu:jw u hi)
  (h:Q (rawPart lo,rawPart hi,rawPart none) s):wpAny (model prog w) A (aiv (.ref d)) Q E s:=by
 refine bG (λq=>gN (x:= .none) hd rfl rfl q) (bG (a:=rawPart none) (s':=s) (λq=> ?_) ?_)
 ·exact aV q
 refine dX rfl (bG (λq=>gN (x:=l) hd rfl rfl q) ?_);refine bG (a:=rawPart lo) (s':=s) (λq=> ?_) ?_
 ·clear hd hu h;cases hl<;>first | (kby_none;exact aV q) | (kby_int;exact aV q) | exact aV q
 refine bG (λq=>gN (x:=u) hd rfl rfl q) (bG (a:=rawPart hi) (s':=s) (λq=> ?_) ?_)
 ·clear hd hl h;cases hu<;>first | (kby_none;exact aV q) | (kby_int;exact aV q) | exact aV q
 exact aV h
theorem D6{xs ys:List α}{i:Nat}(dy:i≤j):xs.toArray.extract 0 (i:Int).toNat++ys.toArray++xs.toArray.extract (max (i:Int) j).toNat=(xs.take i++ys++xs.drop j).toArray:=by
 rw [KR (dU.mpr dy),mo,mo,Yr,Yr,Ys,Ys,Yt,Yt,y6,Nat.sub_zero,rn (l:=xs.drop j) (i:=xs.toArray.size - j) (b6 f9)]
theorem Yu{xs ys:List α}{i:Nat}(dy:i≤j):(xs.take i++ys++xs.drop j).length≤xs.length+ys.length:=by
 refine aa de (aa de (aa iY (aa f9 (aa (sY ..) ?_))));refine gG ?_ _;rcases wN j xs.length with q | q
 ·exact ag (gG (ag (kD ..) dy) _) (b6 (lQ q))
 ·exact aa (Yv q) (jX ..)
theorem Yw{c:List α}{i:Nat}(dy:i+c.length=j):((c.toArray.size:Int) != max (i:Int) j - i)=false:=by
 subst dy;refine aa (KR (dU.mpr (cb ..))) (aa (Int.natCast_add ..) (aa (vU ..) (aa (JX ..) ?_)));exact bne_self_eq_false _
theorem Yx{b c:List α}{i:Nat}(dy:i+c.length=j)(mq:j≤b.length):b.length=(b.take i++c++b.drop j).length:=by
 exact aa de (aa de (aa iY (aa f9 (aa (gT (ag (dy▸cb ..) mq)) (aa dy (aa (lQ mq) rfl))))))
theorem KS{n i:Nat}(ei:p4 lo n=i)(ej:p5 hi n=j):sliceIndices (rawPart lo) (rawPart hi) (rawPart none) n=pure ((i:Int),(j:Int),1):=by
 exact aa (Yy lo hi none n (λe=>nn e)) (aa (Kw ..) (aa ei (aa ej rfl)))
theorem Yz{S d:Addr}{c:List UInt8}{t:Tok}{l:Value}{i:Nat}{Q:rM->al->Prop}(hS:s.heap.get? S=some (d7 b))(hd:s.heap.get? d=some {cls:= .type "slice",data:= .fields #[l,u, .none]})
  (hl:jw l lo) (hu:jw u hi) (ei:p4 lo b.length=i) (ej:p5 hi b.length=j) (dy:i+c.length=j) (mq:j≤b.length) (hb:b.length≤1000000)
  (h:∀h' tk,h'.get? S=some (d7 (b.take i++c++b.drop j))->(∀a o,a≠S->s.heap.get? a=some o->h'.get? a=some o)->Q (.done (.ret .none)) {s with heap:=h',toks:=tk}) :
  ai (model prog w) A (f8.«bytearray.__setitem__» ⟨[.ref S, .ref d, .bytes c.toArray t],[]⟩) Q (λJ J=>False) s:=by
 have wO:s.TypeIs (.ref d) "slice" :=⟨_,hd,rfl⟩
 unfold f8.«bytearray.__setitem__»;refine kC rfl (kT (m:=YA (.ref d)) (λq=>aw (gh wO KT (aV q))) ?_);refine kT (λq=>np wO q) (kC rfl ?_);refine kT (λq=>D4 hd hl hu q) (kC rfl ?_);refine kT (λq=>rH (T:= "bytes") rfl Yn q) (X6 rfl ?_);refine kT (a:=false) (s':=s) (λq=> ?_) ?_
 ·refine bG (λq=>aw (gh (T:= "bytes") rfl KC (aV q))) (bG (λq=>aw (gh (T:= "bytes") rfl Yp (aV q))) ?_);exact bG (λq=>aw (gh (T:= "bytes") rfl Yq (aV q))) (rH (T:= "bytes") rfl Yo q)
 refine rF (KL _ _) (kC rfl ?_);refine kT (λq=>jv q) ?_
 have YB:=ag (dy▸lr c.length i) (ag mq hb)
 have hi:i≤j:=ao dy (cb i c.length)
 refine aq (KN (.bytes c t YB) λbh tk hN hk=> ?_);refine kT (λq=>kA (D4 (hk d _ hd) hl hu q)) (ba ?_);refine bG (λq=>wM hN q) (bG (λq=>wM (hk S _ hS) q) ?_);refine bG (λq=>dW (KS ei ej) q) (jz rfl ?_);refine bG (λq=>jv q) (dX (Yw dy) ?_);refine aw (zL (c:=b.take i++c++b.drop j) (hk S _ hS) (D6 hi) (fg (ao (Yx dy mq) hb)) λbD p7 rm=> ?_);exact aV (h _ _ p7 λa o bz g=>rm.extBut a o bz (hk a o g))
theorem YC{S d:Addr}{c:List UInt8}{t:Tok}{l:Value}{i:Nat}{Q:Unit->al->Prop}(hS:s.heap.get? S=some (d7 b))(hd:s.heap.get? d=some {cls:= .type "slice",data:= .fields #[l,u, .none]})
  (hl:jw l lo) (hu:jw u hi) (ei:p4 lo b.length=i) (ej:p5 hi b.length=j) (dy:i+c.length=j) (mq:j≤b.length) (hb:b.length≤1000000)
  (h:∀h' tk,h'.get? S=some (d7 (b.take i++c++b.drop j))->(∀a o,a≠S->s.heap.get? a=some o->h'.get? a=some o)->Q () {s with heap:=h',toks:=tk}) :
  ai (model prog w) A (setItem (.ref S) (.ref d) (.bytes c.toArray t)) Q (λJ J=>False) s:=by
 refine bH (kT (λq=>Kr (gU hS) (by decide) q) ?_);refine aq ?_;unfold callSpecial?;refine kT (λq=>gh (gU hS) zO.lookup q) (bH (rF (zO.bind _) ?_));refine aq (pf ?_);refine KM (by decide +kernel) zO.plain Yh (ba (zO.check _ _ _ _ _ _ _ _ (gU hS) (Yi _ _ _) ?_));refine aZ ?_ (λJ J x=>x) λ_ _ (x:False)=>x.elim;exact Yz hS hd hl hu ei ej dy mq hb λh' tk a b=>aM (aM (h h' tk a b))
end
end
theorem YD:typeLookup (.type "bytes") "__bytes__" =pure (some (.builtin "bytes.__bytes__")):=by refine aH (jx ..) jy ?_;kernel_rfl
theorem YE:typeLookup (.type "int") "__bytes__" =pure none:=by refine aH (jx ..) jy ?_;kernel_rfl
theorem YF:typeLookup (.type "bytearray") "__bytes__" =pure none:=by refine aH (jx ..) jy ?_;kernel_rfl
theorem YG:typeLookup (.type "bytearray") "__index__" =pure none:=by refine aH (jx ..) jy ?_;kernel_rfl
section
variable{prog:dE}{w:cu}{A:cJ}{E:Value->al->Prop}{s:al}
theorem YH(b:List UInt8){lo hi:Option Int}{i j:Nat}(ei:p4 lo b.length=min i b.length)(ej:p5 hi b.length=min j b.length) :
  Kv b.toArray (sliceBounds lo hi none b.toArray.size).1 (sliceBounds lo hi none b.toArray.size).2.1 (sliceBounds lo hi none b.toArray.size).2.2=((b.take j).drop i).toArray:=by
 unfold Kv;refine aa (Kw ..) ?_;simp only [sliceRange_one,pick_run];exact aH fI ei (aa ej (aa (DS ..) rfl))
theorem YI{S d:Addr}{l u:Value}{lo hi:Option Int}{i j:Nat}(hS:s.heap.get? S=some (d7 b))(hd:s.heap.get? d=some {cls:= .type "slice",data:= .fields #[l,u, .none]})
  (hl:jw l lo) (hu:jw u hi) (ei:p4 lo b.length=min i b.length) (ej:p5 hi b.length=min j b.length) (hb:b.length≤1000000)
  (h:Q (.ref s.heap.objs.size) {s with heap:=s.heap.push (d7 ((b.take j).drop i))}):wpAny (model prog w) A (getItem (.ref S) (.ref d)) Q E s:=by
 have wO:s.TypeIs (.ref d) "slice" :=⟨_,hd,rfl⟩
 refine getItem_meets (gU hS) (by decide) KP Yj (Yk _ _) (S:=λJ R s'=>s'=s/\R (.ok (.ret (.ref s.heap.objs.size))) {s with heap:=s.heap.push (d7 ((b.take j).drop i))}) (.of_wp λprog w A R s' hs=> ?_) ⟨rfl,h⟩;obtain ⟨rfl,hR⟩:=hs;refine (?_:wpAny _ _ (YA (.ref d)>>=λr=>_) _ _ _);refine aw (aw (gh wO KT (aV ?_)));refine bG (λq=>np wO q) (dX rfl ?_);refine aw (D4 hd hl hu ?_);refine bG (λq=>wM hS q) (aw (dW (Yy lo hi none b.toArray.size (λe=>nomatch e)) ?_));dsimp only;refine aa (YH b ei ej) (aw ?_);refine qO ?_ (by show ((b.take j).drop i).toArray.size≤sizeLine;have:=fg hb;simp;exact ag (jX ..) (ag this (cb ..)));exact aV ⟨_,rfl,hR⟩
theorem YJ{S:Addr}(hS:s.heap.get? S=some (d7 b))(hb:b.length≤1000000)
  (h:Q (.int b.length (s.toks+1)) {s with toks:=s.toks+1+1}):wpAny (model prog w) A (call (.builtin "len") [.ref S]) Q E s:=by
 refine Calls.call_function_entry kind_len plain_len entry_len (args_len1 _) (aw (m:=oneArg "len" _) (aV ?_));refine aw (m:=callSpecial? (.ref S) (be "__len__")) (wpAny_callSpecial?_slot (name:=be "__len__") (gU hS) KQ (zx KQ (gU hS) Yl (Ym _)
  (S:=λJ R s'=>s'=s/\R (.ok (.ret (.int b.length s.toks))) {s with toks:=s.toks+1}) (.of_wp λprog w A R s' hs=> ?_) ⟨rfl, ?_⟩))
 ·obtain ⟨rfl,hR⟩:=hs;refine (?_:wpAny _ _ (KH (.ref S)>>=λr=>_) _ _ _);refine aw (wM hS ?_);exact aa fI (aw (zP (aV ⟨_,rfl,hR⟩)))
 refine (?_:wpAny _ _ _ _ _ {s with toks:=s.toks+1});refine bG (λq=>kA (dW (rfl:asIndex (.int (b.length:Int) s.toks)=pure (b.length:Int)) q)) (aw (wP ?_));refine oB (jV.mpr (et _)) (oB (KU.mpr (nm (dU.mpr hb) (by decide))) ?_);exact aw (zP (aV ⟨_,rfl,h⟩))
theorem YK{S:Addr}{Q:Bool->al->Prop}(hS:s.heap.get? S=some (d7 b))(h:Q true s):wpAny (model prog w) A (KG (.ref S) "__buffer__") Q E s:=by
 unfold KG;refine bG (λq=>gh (gU hS) DX q) (dX (aa KE.1 rfl) ?_);exact aa KE.2 (rH (gU hS) wI h)
theorem YL{S:Addr}{id:String}{YM:Bool}{Q:Option (Array UInt8)->al->Prop}(hS:s.heap.get? S=some (d7 b))(h:Q (some b.toArray) s):wpAny (model prog w) A (zQ id (.ref S) YM) Q E s:=by
 unfold zQ;refine bG (λq=>gh (gU hS) DX q) (bG (λq=>YK hS q) ?_);refine dX rfl (aw (gh (gU hS) DX ?_));refine aw (KF hS ?_);exact dX rfl (aw (wM hS (aV h)))
theorem YN{x:Value}(jp:codeAny (model prog w) A.in1 (.call (.builtin "bytes.__new__") ⟨[.type "bytes",x],[]⟩) (wants (λobj az=>az.TypeIs obj "bytes" /\Q obj az) E) s) :
  wpAny (model prog w) A (call (.type "bytes") [x]) Q E s:=by
 exact KV (Q₁:=λobj az=>az.TypeIs obj "bytes" /\Q obj az) KW (F.bm_typeCall _) YO jp λobj az bh=>⟨bh.1,F.args_object_init_2 obj _,YQ KW.init.lookup KW.made (by decide) prog w A.in1 _ az ⟨bh.1,rfl,bh.2⟩⟩
theorem YR{x:Value}(h:wpAny (model prog w) A.in1 (f8.«bytes.__new__» ⟨[.type "bytes",x],[]⟩) (λbf s'=>∃r,bf= .done (.ret r)/\Q r s') E s) :
  codeAny (model prog w) A (.call (.builtin "bytes.__new__") ⟨[.type "bytes",x],[]⟩) (wants Q E) s:=by
 refine Kz (aw (dW (F.bm_newCall _) (aV ⟨wJ YS _,wQ F.bm_entry ?_⟩)));exact aa (wK YS _) (Kj h (λbf s' ⟨r,e,q⟩=>by subst e;exact q) λJ J x=>x)
inductive zR(h:Heap):Value->List UInt8->Prop
 | int (i:Int) (t:Tok):0≤i->i≤1000000->zR h (.int i t) (ci i.toNat 0)
 | bytes (b:List UInt8) (t:Tok):zR h (.bytes b.toArray t) b
 | di (S:Addr) (b:List UInt8):h.get? S=some (d7 b)->b.length≤1000000->zR h (.ref S) b
theorem D7{x:Value}(hx:zR s.heap x b)(h:∀t k,Q (.bytes b.toArray t) {s with toks:=k}):wpAny (model prog w) A (call (.type "bytes") [x]) Q E s:=by
 refine YN (YR ?_);refine aw (dW (a:=true) rfl ?_);refine dX rfl (aw (dW F.bm_sub ?_));refine dX rfl (aw (dW (F.bm_bind _) ?_));refine aw (dW (a:=()) rfl ?_);refine aw (dW (a:=()) rfl ?_);refine dX rfl ?_;cases hx with
 | int i t h0 h1 =>
  refine bG (λq=>gh (T:= "int") rfl YE q) (aw (aw (dW (KJ _ _) (aV ?_))));refine dX rfl (aw (gh (T:= "int") rfl KB ?_));refine dX rfl (bG (λq=>D0 (dW (rfl:asIndex (.int i t)=pure i) q)) ?_);refine dX (by unfold Yb;simp;exact ⟨il (by decide) h0,nm h1 (by decide)⟩) (oB (jV.mpr h0) ?_);refine oB (jV.mpr (il h1 (by decide))) (dX (by unfold DY;have:=fg (t9.mpr h1);simpa using this) ?_);refine aw (jv (aw (KX ?_ (by refine aa Array.size_replicate ?_;exact fg (t9.mpr h1)))));refine jz (by decide) ?_
  have:=h s.toks (s.toks+1)
  rw [show (ci i.toNat (0:UInt8)).toArray=Array.replicate i.toNat 0 by simp] at this
  exact aV ⟨_,rfl,rfl,this⟩
 | bytes b t =>
  refine bG (λq=>gh (T:= "bytes") rfl YD q) (aw (jv (aw (np (lp _ _ _) ?_))));refine jz rfl (jz (by decide) ?_);exact aV ⟨_,rfl,rfl,h t s.toks⟩
 | di S b hS hb =>
  refine bG (λq=>gh (gU hS) YF q) (aw (aw ?_));refine bG (λq=>qT hS q) (aV (aV ?_));refine dX rfl (aw (gh (gU hS) YG ?_));refine jz rfl ?_
  first
   | refine (?_:wpAny _ _ (zQ "bytes.__new__" (.ref S) true>>=_) _ _ _)
   | (refine aw ?_;show wpAny _ _ (zQ "bytes.__new__" (.ref S) true>>=_) _ _ _)
  refine bG (λq=>YL hS q) (aw (jv (aw (KX ?_ (by refine aa fI ?_;exact fg hb)))))
  first
   | (refine jz (by decide) ?_;exact aV ⟨_,rfl,rfl,h _ _⟩)
   | (refine aw (jz (by decide) ?_);exact aV (aV ⟨_,rfl,rfl,h _ _⟩))
end
section
variable{prog:dE}{w:cu}{A:cJ}{E:Value->al->Prop}{s:al}
theorem KY{l:Addr}{items:Array Value}{Q:Array Value->al->Prop}(hl:s.heap.IsList l items)(h:Q items s):wpAny (model prog w) A (KZ (.ref l)) Q E s:=by
 obtain ⟨o,ho,hc,n,hd⟩:=hl;unfold KZ;exact aw (lu ho hd (aV h))
theorem YT{d:Addr}{l u:Value}{lo hi:Option Int}{Q:Value×Value×Value->al->Prop}(hd:s.heap.get? d=some {cls:= .type "slice",data:= .fields #[l,u, .none]})(hl:jw l lo)(hu:jw u hi)
  (h:Q (rawPart lo,rawPart hi,rawPart none) s):wpAny (model prog w) A (aiw (.ref d)) Q E s:=by
 refine aa (listSliceParts_eq ..) (aw (m:=field (.ref d) 2) (gN hd rfl (x:= .none) rfl (aw (K0 .none ?_))));refine dX rfl (aw (m:=field (.ref d) 0) (gN hd rfl (x:=l) rfl (aw (K0 hl ?_))));refine aw (m:=field (.ref d) 1) (gN hd rfl (x:=u) rfl (aw (K0 hu (aV h))))
theorem YU{S d r:Addr}{xs:List Value}{l u:Value}{lo hi:Option Int}{i j:Nat}{Q:Unit->al->Prop}(K3:gO s.heap S xs.toArray)(hr:s.heap.IsList r ys.toArray)(bz:r≠S)(hd:s.heap.get? d=some {cls:= .type "slice",data:= .fields #[l,u, .none]})
  (hl:jw l lo) (hu:jw u hi) (ei:p4 lo xs.length=i) (ej:p5 hi xs.length=j) (dy:i≤j) (hz:xs.length+ys.length≤1000000)
  (h:∀h',gO h' S (xs.take i++ys++xs.drop j).toArray->jh S s.heap h'->Q () {s with heap:=h'}) :
  wpAny (model prog w) A (setItem (.ref S) (.ref d) (.ref r)) Q E s:=by
 have hS:=K3.list
 obtain ⟨o,ho,hc,ne,D8⟩:=id hS;refine kA (bG (λq=>Kr hS.typeIs (by decide) q) ?_);refine aw (wpAny_callSpecial?_slot (name:=be "__setitem__") hS.typeIs DQ
  (oj DQ hS.typeIs XD ?_ (XE _ _ _)))
 have K4:s.TypeIs (.ref d) "slice" :=⟨_,hd,rfl⟩
 refine bG (m:=XF (.ref d)) (λq=>aw (gh K4 KT (aV q))) (bG (λq=>np K4 q) ?_);refine dX rfl (bG (λq=>YT hd hl hu q) ?_);refine dX (by unfold YV;simpa using iO bz) (bG (λq=>aw (np hr.typeIs (jz rfl (KY hr q)))) ?_);refine bG (m:=KZ (.ref S)) (λq=>KY hS q) (bG (λq=>dW (KS ei ej) q) ?_);refine jz rfl (bG (λq=>jv q) ?_);refine dX (by unfold WL;have:=fg hz;simpa using this) (bG (m:=updateSeq S _) (λq=>Ik ho D8 q (fg (ag (cb ..) hz)) (ag (b6 (congrArg Array.size (D6 dy))) (ag (Yu dy) (mr (fg hz))))) ?_);exact bG (λq=>wP q) (aV ⟨_,rfl,aV (h _ (CA K3 (D6 dy)) (m6 ..))⟩)
end
section
variable {hi lo:Option ab}{u:Value}
section
variable{X:Cx}{n:Nat}{L:Addr}{ae:List Loc}
theorem YW(vs:List α)(j:Nat):vs.drop (min j vs.length)=vs.drop j:=by
 rcases wN j vs.length with q | q
 ·exact aa (gT q) rfl
 ·exact aa (p6 q) (aa YX (aa (tO q) rfl))
theorem D9{i n:Nat}(h:i≤n):min i n=i:=gT h
theorem YY{o v}{K:Unit->St->Prop}{κ s x z d}{l:Value}(rel:Rel X L ae st κ s)(h:vA o lo hi v st (K ()))(hx:am (aj st.σ κ) s.heap o x)(fL:fJ (aj st.σ κ) s.heap lo l)(iX:fJ (aj st.σ κ) s.heap hi u)
  (hz:am (aj st.σ κ) s.heap v z) (hd:s.heap.get? d=some {cls:= .type "slice",data:= .fields #[l,u, .none]}):Op X n L ae st κ s (setItem x (.ref d) z) ig K:=by
 rcases h with ⟨a,vs,ws,i,j,rfl,fB,rfl,me,kB,aU,iZ,dy,hK⟩ | ⟨a,b,c,i,j,rfl,fB,rfl,me,kB,aU,dy,mq,hK⟩
 ·cases hx.bU;refine eM (hz.inv) λr aix bQ ur hr K5=> ?_;subst bQ;refine aD (rel.g.own a _ fB) λys t7 aL=> ?_
  have l1:=aL.length
  have l2:=K5.length
  refine aD (wF me fL) λqa pa ea=>aD (wG kB iX) λqb pb eb=> ?_;refine λA nq=>ba (YU (i:=i) (j:=min j vs.length) t7 hr (λe=>nn (ur.1.symm.trans (e▸fB))) hd pa pb ((ea _).trans (ao l1 (D9 iZ))) (ao l1 eb) (zS.mpr ⟨dy,iZ⟩) (by unfold dQ at aU;exact l1▸ao l2 aU) λh' eG hs=> ?_);obtain ⟨G',ev⟩:=rel.g.change (s':={s with heap:=h'}) (d:=a) (o':= .list (vs.take i++ws++vs.drop j)) fB (.inl rfl) (λb ob q g=>(hs.2 b q).trans g) (aD eG.list λob g J=>⟨ob,g⟩)
   (λS=>⟨_,eG,YW vs j▸(((aL.take i).append K5).append (aL.drop (min j vs.length))).mono S⟩) (λJ J J J J=>ee.noConfusion) rfl rfl
  exact .op rel G' ev trivial hK
 ·cases hx.bU;obtain ⟨t,rfl⟩:=hz.mN;refine aD (wF me fL) λqa pa ea=>aD (wG kB iX) λqb pb eb=> ?_;refine λA nq=>YC (i:=i) (j:=j) (show s.heap.get? a=some (d7 b) from rel.g.own a _ fB) hd pa pb ((ea _).trans (D9 (ag (dy▸cb ..) mq))) (eb.trans (D9 mq)) dy mq aU λh' tk zN hk=> ?_;obtain ⟨G',ev⟩:=rel.g.change (s':={s with heap:=h',toks:=tk}) (d:=a) (o':= .di (b.take i++c++b.drop j)) fB (.inl rfl) (λb ob q g=>hk b ob q g) ⟨_,zN⟩ (λJ=>zN) (λJ J J J J=>ee.noConfusion) rfl rfl;exact .op rel G' ev trivial hK
theorem YZ{q:Addr}{κ s d}{l:Value}{e1:Expr}{p:Pos}(rel:Rel X L ae st κ s){c:List UInt8}{i j:Nat}(fB:st.σ q=some (.di c))(me:lZ lo=some i)(kB:l0 c.length hi=some j)(aU:dQ c.length)(hK:∀a',st.σ a'=none->K (.ref a') (st.put (st.σ.set a' (.di ((c.take j).drop i)))))
  (fL:fJ (aj st.σ κ) s.heap lo l) (iX:fJ (aj st.σ κ) s.heap hi u) (hd:s.heap.get? d=some {cls:= .type "slice",data:= .fields #[l,u, .none]}) {a b:Option Expr}:cO X n L ae st κ s (subscriptTail e1 (.Slice a b none p) (.ref q) (.ref d)) am K:=by
 have hb:s.heap.get? q=some (d7 c):=rel.g.own q _ fB
 refine aD (wF me fL) λqa pa ea=>aD (wG kB iX) λqb pb eb=> ?_;refine λA hr=>tail_any (gU hb) KP.lookup (YI hb hd pa pb (ea _) eb aU ?_);generalize (c.take j).drop i=w at hK ⊢
 have k:=eA s.heap (d7 w)
 exact Post.op rel (rel.g.oh (s':={s with heap:=s.heap.push (d7 w)}) (o:= .di w) k ⟨_,cV _ rfl⟩ rfl rfl (cV _ rfl)) (.oh k) (.raw _) (hK _ (iL rel.g).1)
theorem Y0{o}{κ s x d}{l:Value}{e1:Expr}{p:Pos}(rel:Rel X L ae st κ s)(h:km o lo hi st K)(hx:am (aj st.σ κ) s.heap o x)(fL:fJ (aj st.σ κ) s.heap lo l)(iX:fJ (aj st.σ κ) s.heap hi u)
  (hd:s.heap.get? d=some {cls:= .type "slice",data:= .fields #[l,u, .none]}) {a b:Option Expr}:cO X n L ae st κ s (subscriptTail e1 (.Slice a b none p) x (.ref d)) am K:=by
 rcases h with ⟨b,l,h,rfl,h1,h2,h3,hK⟩ | ⟨vs,l,h,hs,h1,h2,h3,hK⟩ | ⟨q,c,i,j,rfl,fB,me,kB,aU,hK⟩
 ·exact XK rel h1 h2 h3 hK hx fL iX hd
 ·exact XJ rel hs h1 h2 h3 hK hx fL iX hd
 ·cases hx.bU;exact YZ rel fB me kB aU hK fL iX hd
theorem Ea(ok:fb X):Ops X n where
 bin:=λh rel hx hy=>(WM rel h hx hy).g
 H4:=λh rel hx hy=>(WO rel h hx hy).g
 neg:=λh rel hx=>(WP rel h hx).g
 cmp:=λh rel hx hy=>(Xb rel h hx hy).g
 sub:=λh rel hx hy hn=>(Xi rel h hx hy).g
 get:=λh rel hx hy=>λA hr=>let ⟨_,_,_,_,q⟩:=Ki rel h hx hy;ba (q n A hr)
 slice:=λh rel hx fL iX hd J=>(Y0 rel h hx fL iX hd).g
 attr:=λh er hK rel hx=>(Xq ok rel h er hK hx).g
 setAttr:=λh rel hx hy=>(XB ok rel h hx hy).g
 Ct:=λh rel hx hy hz=>(XG rel h hx hy hz).g
 H5:=λh rel hx fL iX hz hd J=>YY rel h hx fL iX hz hd
end
end
structure Eb(prog:dE)(w:cu)(I:Nat)(fp:List Nat)(n:Nat)(P:Nat->Value->Prop)(St:Nat->Heap->Prop):Prop where
 self:I∈fp
 frame:∀i h h',St i h->(∀b∈fp,∀o,h.get? b=some o->h'.get? b=some o)->St i h'
 live:∀i h,St i h->∀b∈fp,∃o,h.get? b=some o
 item:∀(A:cJ) i (s:al) (Q:Value->al->Prop) (E:Value->al->Prop),i<n->St i s.heap->
  (∀v h' tk,P i v->St (i+1) h'->h'.objs.size=s.heap.objs.size->(∀b o,b≠I->s.heap.get? b=some o->h'.get? b=some o)->Q v {s with heap:=h',toks:=tk})->wpAny (model prog w) A (rN (.ref I)) Q E s
 done:∀(A:cJ) (s:al) (Q:Value->al->Prop) (E:Value->al->Prop),A.handled=none->St n s.heap->
  (∀h' e,(∀b o,b≠I->s.heap.get? b=some o->h'.get? b=some o)->(∃o,h'.get? e=some o/\o.cls= .type "StopIteration")->E (.ref e) {s with heap:=h'})->wpAny (model prog w) A (rN (.ref I)) Q E s
structure Sub where
 I:Nat
 fp:List Nat
 n:Nat
 P:Nat->Value->Prop
 Sq:Nat->Heap->Prop
abbrev Sub.ok(prog:dE)(w:cu)(u:Sub):Prop:=Eb prog w u.I u.fp u.n u.P u.Sq
abbrev fF(h:Heap)(T:Nat)(vs:List Value):Prop:=h.get? T=some {cls:= .type "tuple",data:= .seq vs.toArray}
structure p8(z TI TO:Nat)(us:List Sub):Prop where
 TIz:TI≠z
 TOz:TO≠z
 TITO:TI≠TO
 zf:∀u∈us,z∉u.fp
 rO:∀u∈us,TO∉u.fp
 Ec:∀u∈us,TI≠u.I
 pw:us.Pairwise λu v=>u.I∉v.fp/\v.I∉u.fp
def p9(i:Nat):List Sub->List Value->Prop
 | [],[]=>True
 | u::us,v::vs=>u.P i v/\p9 i us vs
 | _,_=>False
theorem p9.length{i}:∀{us vs},p9 i us vs->vs.length=us.length:=by
 intro us
 induction us with
 | nil=>exact λ{vs} h=>by rcases vs with _ | _;rfl;exact h.elim
 | cons u us ih=>exact λ{vs} h=>by rcases vs with _ | _;exact h.elim;exact congrArg (λz=>z +1) (ih h.2)
section
variable{prog:dE}{w:cu}{A:cJ}{E:Value->al->Prop}
noncomputable abbrev nr:=Option rM×Unit
def K6(prog:dE)(w:cu)(A:cJ)(E:Value->al->Prop)(z TO:Nat)(f:Value×Nat->nr->Sem (ForInStep nr)):Prop :=
 (∀(u:Sub) k (r:nr) (s:al) (vs:List Value) i (Q:ForInStep nr->al->Prop),u.ok prog w->TO∉u.fp->i<u.n->u.Sq i s.heap->fF s.heap TO vs->vs.length≤100->
  (∀v h' tk,u.P i v->u.Sq (i+1) h'->fF h' TO (vs.set k v)->h'.objs.size=s.heap.objs.size->(∀b o,b≠u.I->b≠TO->s.heap.get? b=some o->h'.get? b=some o)->Q (.yield (none,())) {s with heap:=h',toks:=tk})->wpAny (model prog w) A (f (.ref u.I,k) r) Q E s)/\
 (∀(u:Sub) k (r:nr) (s:al) (Q:ForInStep nr->al->Prop),u.ok prog w->z∉u.fp->u.Sq u.n s.heap->(∃fl,s.heap.get? z=some {cls:= .type "zip",dict:=none,data:= .fields fl,slots:= #[]}/\0<fl.size)->
  (∀h' e,(∀b o,b≠z->b≠u.I->s.heap.get? b=some o->h'.get? b=some o)->(∃o,h'.get? e=some o/\o.cls= .type "StopIteration")->E (.ref e) {s with heap:=h'})->wpAny (model prog w) A (f (.ref u.I,k) r) Q E s)
theorem Y1{z TI TO:Nat}{f}(D:K6 prog w A E z TO f){i:Nat}:∀(us:List Sub) (k:Nat) (s:al) (vs:List Value) (Q:nr->al->Prop),p8 z TI TO us->(∀u∈us,u.ok prog w)->(∀u∈us,i<u.n/\u.Sq i s.heap)->fF s.heap TO vs->vs.length≤100->vs.length=k+us.length->
  (∀h' tk ws,p9 i us ws->(∀u∈us,u.Sq (i+1) h')->fF h' TO (vs.take k++ws)->h'.objs.size=s.heap.objs.size->(∀b o,(∀u∈us,b≠u.I)->b≠TO->s.heap.get? b=some o->h'.get? b=some o)->Q (none,()) {s with heap:=h',toks:=tk})->
  wpAny (model prog w) A (forIn ((us.map λu=>m8 u.I).zipIdx k) ((none,()):nr) f) Q E s:=by
 intro us
 induction us with
 | nil =>
  intro k s vs Q Z ok hs hT h100 hl hQ;simp only [Y2,List.zipIdx_nil,BH];exact aV (hQ s.heap s.toks [] trivial (by simp) (by refine aa (rn (by simp at hl;exact b6 hl)) ?_;simpa using hT) rfl λb o J J e=>e)
 | cons u us ih =>
  intro k s vs Q Z ok hs hT h100 hl hQ;simp only [eP,Ed,pi];obtain ⟨h1,h2⟩:=hs u (.head _);refine aw (D.1 u k _ s vs i _ (ok u (.head _)) (Z.rO u (.head _)) h1 h2 hT h100 λv h' tk hv b7 kW bN hk=> ?_)
  have pw:=qc.mp Z.pw
  have Z':p8 z TI TO us:=⟨Z.TIz,Z.TOz,Z.TITO,λx hx=>Z.zf x (.tail _ hx),λx hx=>Z.rO x (.tail _ hx),λx hx=>Z.Ec x (.tail _ hx),pw.2⟩
  refine ih (k+1) {s with heap:=h',toks:=tk} (vs.set k v) Q Z' (λx hx=>ok x (.tail _ hx)) (λx hx=> ?_) kW (by simpa using h100) (by simp at hl ⊢;exact hl.trans (qM ..).symm) λiI rP ws f7 iQ ub Y3 d5=> ?_
  ·obtain ⟨a,b⟩:=hs x (.tail _ hx);refine ⟨a,(ok x (.tail _ hx)).frame _ _ _ b λc hc o e=>hk c o (λq=>(pw.1 x hx).1 (ao q hc)) (λq=>Z.rO x (.tail _ hx) (ao q hc)) e⟩
  ·refine hQ iI rP (v::ws) ⟨hv,f7⟩ (λx hx=> ?_) ?_ (Y3.trans bN) λb o hb zT e=>d5 b o (λx hx=>hb x (.tail _ hx)) zT (hk b o (hb u (.head _)) zT e)
   ·rcases br.mp hx with rfl | hx
    ·exact (ok x (.head _)).frame _ _ _ b7 λc hc o e=>d5 c o (λy hy q=>(pw.1 y hy).2 (ao q hc)) (λq=>Z.rO x (.head _) (ao q hc)) e
    ·exact iQ x hx
   ·rw [oD,List.take_set_of_le (cg _),vQ (by simp at hl;exact hl▸yZ (rQ _))] at ub
    simpa using ub
theorem Y4{z TI TO:Nat}{f}(D:K6 prog w A E z TO f){n:Nat}:∀(us:List Sub) (k:Nat) (s:al) (vs:List Value) (Q:nr->al->Prop),p8 z TI TO us->(∀u∈us,u.ok prog w)->(∀u∈us,n≤u.n/\u.Sq n s.heap)->(∃u∈us,u.n=n)->fF s.heap TO vs->vs.length≤100->
  (∃fl,s.heap.get? z=some {cls:= .type "zip",dict:=none,data:= .fields fl,slots:= #[]}/\0<fl.size)->
  (∀h' tk e,(∀b o,b≠z->(∀u∈us,b≠u.I)->b≠TO->s.heap.get? b=some o->h'.get? b=some o)->(∃o,h'.get? e=some o/\o.cls= .type "StopIteration")->E (.ref e) {s with heap:=h',toks:=tk})->
  wpAny (model prog w) A (forIn ((us.map λu=>m8 u.I).zipIdx k) ((none,()):nr) f) Q E s:=by
 intro us
 induction us with
 | nil =>
  intro k s vs Q Z ok hs hn hT h100 hz hQ;exact hn.elim λu h=>absurd h.1 eZ
 | cons u us ih =>
  intro k s vs Q Z ok hs hn hT h100 hz hQ;simp only [eP,Ed,pi];obtain ⟨h1,h2⟩:=hs u (.head _)
  by_cases hd:u.n=n
  ·subst hd;exact aw (D.2 u k _ s _ (ok u (.head _)) (Z.zf u (.head _)) h2 hz λh' e hk he=>hQ h' s.toks e (λb o a b' c g=>hk b o a (b' u (.head _)) g) he)
  ·refine aw (D.1 u k _ s vs n _ (ok u (.head _)) (Z.rO u (.head _)) (Ee h1 λe=>hd e.symm) h2 hT h100 λv h' tk hv b7 kW bN hk=> ?_)
   have pw:=qc.mp Z.pw
   have Z':p8 z TI TO us:=⟨Z.TIz,Z.TOz,Z.TITO,λx hx=>Z.zf x (.tail _ hx),λx hx=>Z.rO x (.tail _ hx),λx hx=>Z.Ec x (.tail _ hx),pw.2⟩
   refine ih (k+1) {s with heap:=h',toks:=tk} (vs.set k v) Q Z' (λx hx=>ok x (.tail _ hx)) (λx hx=> ?_) ?_ kW (by simpa using h100) ?_ λiI rP e d5 he=>hQ iI rP e (λb o a b' c g=>d5 b o a (λx hx=>b' x (.tail _ hx)) c (hk b o (b' u (.head _)) c g)) he
   ·obtain ⟨a,b⟩:=hs x (.tail _ hx);exact ⟨a,(ok x (.tail _ hx)).frame _ _ _ b λc hc o e=>hk c o (λq=>(pw.1 x hx).1 (ao q hc)) (λq=>Z.rO x (.tail _ hx) (ao q hc)) e⟩
   ·obtain ⟨x,hx,e⟩:=hn;rcases br.mp hx with rfl | hx
    ·exact absurd e hd
    ·exact ⟨x,hx,e⟩
   ·obtain ⟨fl,e,l⟩:=hz;exact ⟨fl,hk z _ (λq=>Z.zf u (.head _) (q▸(ok u (.head _)).self)) Z.TOz.symm e,l⟩
end
section
variable {TI TO:Nat}{us:List Sub}
section
variable{prog:dE}{w:cu}{A:cJ}{E:Value->al->Prop}{s:al}
theorem K7{vs:List Value}{v:Value}{Q:Unit->al->Prop}(hT:fF s.heap TO vs)(hz:vs.length≤100)
  (h:∀h',fF h' TO (vs.set k v)->jh TO s.heap h'->Q () {s with heap:=h'}):wpAny (model prog w) A (updateSeq TO (λz=>z.setIfInBounds k v)) Q E s:=by
 refine Ik hT rfl (h _ ?_ (m6 ..)) (aa fI (fg (ag hz (nb rfl)))) (by simp;exact mr (fg (ag hz (nb rfl))));refine (?_:(s.heap.update TO _).get? TO=_);rw [vK _ hT rfl];simp [yU]
theorem Y5{z:Nat}{i:Nat}{os:List Value}(hh:A.handled=none)(Z:p8 z TI TO us)(ok:∀u∈us,u.ok prog w)(bz:us≠ [])(aU:us.length≤100)
  (hz:mu s.heap z TI TO .none) (jY:fF s.heap TI (us.map λu=> .ref u.I)) (lx:fF s.heap TO os) (mT:os.length=us.length) (hs:∀u∈us,i<u.n/\u.Sq i s.heap)
  (hQ:∀h' tk ws,p9 i us ws->mu h' z TI TO (rawInt s.heap.objs.size)->fF h' TI (us.map λu=> .ref u.I)->fF h' TO ws->(∀u∈us,u.Sq (i+1) h')->fF h' s.heap.objs.size ws->
   (∀b o,b≠z->b≠TO->(∀u∈us,b≠u.I)->s.heap.get? b=some o->h'.get? b=some o)->Q (.ref s.heap.objs.size) {s with heap:=h',toks:=tk}) :
  wpAny (model prog w) A (f8.«zip.__next__» ⟨[.ref z],[]⟩) (λbf s'=>∃v,bf= .done (.ret v)/\Q v s') E s:=by
 refine (?_:wpAny _ _ (field (.ref z) 2>>=_) _ _ _);refine aw (gN hz rfl (x:= .bool false) rfl ?_);refine aw (gN hz rfl (x:= .ref TI) rfl ?_);refine aw (lu jY rfl ?_);refine dX (by simpa using bz) (aw ?_);refine aw (gN hz rfl (x:= .none) rfl (aV ?_));refine jz rfl (aw (jv ?_));refine aw (gN hz rfl (x:= .ref TO) rfl ?_);dsimp only;refine aw (wR hz (by simp) λbh wS gF=> ?_);replace wS:mu bh z TI TO .ellipsis:=wS;refine aw (Y1 (i:=i) (z:=z) (TI:=TI) (TO:=TO) ⟨?_, ?_⟩ us 0 {s with heap:=bh} os _ Z ok (λu hu=>⟨(hs u hu).1,(ok u hu).frame _ _ _ (hs u hu).2 λb hb o e=>gF.extBut _ _ (λq=>Z.zf u hu (q▸hb)) e⟩) (gF.extBut _ _ Z.TOz lx) (aa mT aU) (by simpa using mT) λbD tk ws f7 Y6 zU Y7 Ef=> ?_)
 ·intro u k r s' vs i' Q' D hTOu hi b7 hT h100 hQ';refine aw (Eg ?_);refine (?_:wpAny _ _ (rN (.ref u.I)>>=_) _ _ _);refine aw (D.item _ _ _ _ _ hi b7 λv h' tk hv iQ bN hk=>aV ?_)
  have kW:fF h' TO vs:=hk _ _ (λq=>hTOu (aa q D.self)) hT
  refine aw (lu kW rfl ?_);dsimp only;refine aw (K7 kW h100 λiI ub rR=> ?_);refine aw (wP (aV ?_));exact hQ' v iI tk hv (D.frame _ _ _ iQ λb hb o e=>rR.extBut _ _ (λq=>hTOu (ao q hb)) e) ub (rR.1.trans bN) λb o b1 b2 e=>rR.extBut _ _ b2 (hk b o b1 e)
 ·intro u k r s' Q' D hzu b7 gH hE;obtain ⟨fl,gH,i0⟩:=gH;refine aw (Eg ?_);refine (?_:wpAny _ _ (rN (.ref u.I)>>=_) _ _ _);refine aw (D.done _ _ _ _ hh b7 λh' e hk he=> ?_)
  have wT:=hk z _ (λq=>hzu (aa q D.self)) gH
  obtain ⟨oe,rS,rt⟩:=he
  have Eh:e≠z:=λx=>by subst x;rw [wT] at rS;cases rS;simp at rt
  exact wR wT i0 λh3 J mv=>hE h3 e (λb o b1 b2 g=>mv.extBut _ _ b1 (hk b o b2 g)) ⟨oe,mv.extBut _ _ Eh rS,rt⟩
 have zU:fF bD TO ws:=by simpa using zU
 refine bG (λq=>lu zU rfl q) ?_;dsimp only;refine aw (K8 ?_ (fg (ag (b6 f7.length) (ag aU (nb rfl)))))
 have bN:bD.objs.size=s.heap.objs.size:=aa Y7 gF.1
 have K9:mu bD z TI TO .ellipsis:=Ef _ _ (λu hu q=>Z.zf u hu (q▸(ok u hu).self)) Z.TOz.symm wS
 refine aw ?_
 have Y8:mu (bD.push {cls:= .type "tuple",data:= .seq ws.toArray}) z TI TO .ellipsis:=fy _ K9
 refine aw (wR (Y8) (by simp) λqQ Ei La=> ?_);replace Ei:mu qQ z TI TO (rawInt bD.objs.size):=Ei;refine wR Ei (by simp) λph zV Lb=> ?_;replace zV:mu ph z TI TO (rawInt bD.objs.size):=zV
 have up:∀c o,c≠z->bD.get? c=some o->ph.get? c=some o:=λc o c1 e=>Lb.extBut _ _ c1 (La.extBut _ _ c1 (fy _ e))
 have Lc:z<bD.objs.size:=cR K9
 have Ld:fF ph bD.objs.size ws:=Lb.extBut _ _ (fK Lc) (La.extBut _ _ (fK Lc) (cV _ rfl))
 refine aV ⟨_,rfl, ?_⟩;rw [bN] at zV Ld ⊢
 refine hQ ph tk ws f7 zV (up _ _ Z.TIz (Ef _ _ Z.Ec Z.TITO (gF.extBut _ _ Z.TIz jY))) (up _ _ Z.TOz zU) (λu hu=>(ok u hu).frame _ _ _ (Y6 u hu) λb hb o e=>up b o (λq=>Z.zf u hu (ao q hb)) e) Ld
  λb o b1 b2 b3 e=>up b o b1 (Ef b o b3 b2 (gF.extBut _ _ b1 e))
theorem Y9{z:Nat}{n:Nat}{os:List Value}{Q:rM->al->Prop}(hh:A.handled=none)(Z:p8 z TI TO us)(ok:∀u∈us,u.ok prog w)(aU:us.length≤100)
  (hz:mu s.heap z TI TO .none) (jY:fF s.heap TI (us.map λu=> .ref u.I)) (lx:fF s.heap TO os) (mT:os.length=us.length) (hs:∀u∈us,n≤u.n/\u.Sq n s.heap) (hn:∃u∈us,u.n=n)
  (hE:∀h' tk e,(∀b o,b≠z->b≠TO->(∀u∈us,b≠u.I)->s.heap.get? b=some o->h'.get? b=some o)->(∃o,h'.get? e=some o/\o.cls= .type "StopIteration")->E (.ref e) {s with heap:=h',toks:=tk}) :
  wpAny (model prog w) A (f8.«zip.__next__» ⟨[.ref z],[]⟩) Q E s:=by
 refine (?_:wpAny _ _ (field (.ref z) 2>>=_) _ _ _);refine aw (gN hz rfl (x:= .bool false) rfl ?_);refine aw (gN hz rfl (x:= .ref TI) rfl ?_);refine aw (lu jY rfl ?_);refine dX (by refine aD hn λu hu J=> ?_;simpa using List.ne_nil_of_mem hu) ?_;refine aw ?_;refine aw (gN hz rfl (x:= .none) rfl (aV ?_));refine jz rfl (aw (jv ?_));refine aw (gN hz rfl (x:= .ref TO) rfl ?_);dsimp only;refine aw (wR hz (by simp) λbh wS gF=> ?_)
 have Y':∀u∈us,n≤u.n/\u.Sq n bh:=λu hu=>⟨(hs u hu).1,(ok u hu).frame _ _ _ (hs u hu).2 λb hb o e=>gF.extBut _ _ (λq=>Z.zf u hu (ao q hb)) e⟩
 refine aw (Y4 (n:=n) (z:=z) (TI:=TI) (TO:=TO) ⟨?_, ?_⟩ us 0 {s with heap:=bh} os _ Z ok Y' hn (gF.extBut _ _ Z.TOz lx) (aa mT aU) ⟨_,wS,by simp⟩ λh' tk e hk he=>hE h' tk e (λb o b1 b2 b3 g=>hk b o b1 b3 b2 (gF.extBut _ _ b1 g)) he)
 ·intro u k r s' vs i' Q' D hTOu hi b7 hT h100 hQ';refine aw (Eg ?_);refine (?_:wpAny _ _ (rN (.ref u.I)>>=_) _ _ _);refine aw (D.item _ _ _ _ _ hi b7 λv h' tk hv iQ bN hk=>aV ?_)
  have kW:fF h' TO vs:=hk _ _ (λq=>hTOu (aa q D.self)) hT
  refine aw (lu kW rfl ?_);dsimp only;refine aw (K7 kW h100 λiI ub rR=> ?_);refine aw (wP (aV ?_));exact hQ' v iI tk hv (D.frame _ _ _ iQ λb hb o e=>rR.extBut _ _ (λq=>hTOu (ao q hb)) e) ub (rR.1.trans bN) λb o b1 b2 e=>rR.extBut _ _ b2 (hk b o b1 e)
 ·intro u k r s' Q' D hzu b7 gH hE;obtain ⟨fl,gH,i0⟩:=gH;refine aw (Eg ?_);refine (?_:wpAny _ _ (rN (.ref u.I)>>=_) _ _ _);refine aw (D.done _ _ _ _ hh b7 λh' e hk he=> ?_)
  have wT:=hk z _ (λq=>hzu (aa q D.self)) gH
  obtain ⟨oe,rS,rt⟩:=he
  have Eh:e≠z:=λx=>by subst x;rw [wT] at rS;cases rS;simp at rt
  exact wR wT i0 λh3 J mv=>hE h3 e (λb o b1 b2 g=>mv.extBut _ _ b1 (hk b o b2 g)) ⟨oe,mv.extBut _ _ Eh rS,rt⟩
noncomputable def qd:List Sub->Nat
 | []=>0
 | [u]=>u.n
 | u::us=>min u.n (qd us)
theorem zW:us≠ []->(∀u∈us,qd us≤u.n)/\∃u∈us,u.n=qd us:=by
 induction us with
 | nil=>exact λh=>absurd rfl h
 | cons u us ih =>
  intro _;rcases us with _ | ⟨v,us⟩
  ·exact ⟨λv hv=>aa (dT.mp hv) (cg _),u, .head _,rfl⟩
  refine dP (ih (Ej _ _)) λa b=>aD b λx hx e=> ?_
  have e0:qd (u::v::us)=min u.n (qd (v::us)):=rfl
  refine ⟨λy hy=> ?_, ?_⟩
  ·exact (br.mp hy).elim (λq=>aa e0 (aa q (kD ..))) λhy=>aa e0 (ag (jX ..) (a y hy))
  ·exact (wN u.n (qd (v::us))).elim (λq=>⟨u, .head _,e0.trans (gT q) |>.symm⟩) λq=>⟨x, .tail _ hx,e.trans (e0.trans (p6 q)).symm⟩
theorem Za(hh:A.handled=none){z:Nat}(Z:p8 z TI TO us)(ok:∀u∈us,u.ok prog w)(bz:us≠ [])(aU:us.length≤100) :
  Iw prog w A z (z::TI::TO::us.flatMap (λz=>z.fp)) (z::TO::us.map (λz=>z.I)) (qd us) (λi vals=>p9 i us vals.toList)
   (λi h=>mu h z TI TO .none/\fF h TI (us.map λu=> .ref u.I)/\(∃os:List Value,fF h TO os/\os.length=us.length)/\∀u∈us,u.Sq i h)
   (λi T h=>mu h z TI TO (rawInt T)/\fF h TI (us.map λu=> .ref u.I)/\(∃os:List Value,fF h TO os/\os.length=us.length)/\(∀u∈us,u.Sq (i+1) h)/\T∉z::TO::us.map (λz=>z.I)) where
 sub:=λc hc=>by
  rcases br.mp hc with rfl | hc
  ·exact .head _
  rcases br.mp hc with rfl | hc
  ·exact .tail _ (.tail _ (.head _))
  refine aD (bJ.mp hc) λu hu bQ=> ?_;subst bQ;exact .tail _ (.tail _ (.tail _ (Le.mpr ⟨u,hu,(ok u hu).self⟩)))
 frame:=λi h h' b7 hk=>by
  obtain ⟨hz,jY,⟨os,lx,hl⟩,hs⟩:=b7;exact ⟨hk z (.head _) _ hz,hk TI (.tail _ (.head _)) _ jY,⟨os,hk TO (.tail _ (.tail _ (.head _))) _ lx,hl⟩,λu hu=>(ok u hu).frame _ _ _ (hs u hu) λb hb o e=>hk b (.tail _ (.tail _ (.tail _ (Le.mpr ⟨u,hu,hb⟩)))) o e⟩
 item:=λi s Q E hi b7 hQ=>by
  obtain ⟨hz,jY,⟨os,lx,hl⟩,hs⟩:=b7
  have hT:s.TypeIs (.ref z) "zip" :=⟨_,hz,rfl⟩
  refine aw (D0 (wpAny_callSpecial?_slot (name:=be "__next__") hT Ek
   (oj Ek hT Zb
    (Y5 hh Z ok bz aU hz jY lx hl (λu hu=>⟨eB hi ((zW bz).1 u hu),hs u hu⟩) λh' tk ws f7 a1 a2 a3 a4 a5 a6=>aV ?_) (Zc _))))
  have lt:∀{c o},s.heap.get? c=some o->s.heap.objs.size≠c:=λe=>fK (cR e)
  refine hQ s.heap.objs.size ws.toArray h' tk (f7) (cg _) ⟨_,a5,rfl,_,rfl⟩ ⟨a1,a2,⟨ws,a3,f7.length⟩,a4,λhc=> ?_⟩ λc o hc e=>a6 c o (λq=>hc (ao q (.head _))) (λq=>hc (ao q (.tail _ (.head _)))) (λu hu q=>hc (q▸ .tail _ (.tail _ (nt hu)))) e;rcases br.mp hc with q | hc
  ·exact lt hz q
  rcases br.mp hc with q | hc
  ·exact lt lx q
  refine aD (bJ.mp hc) λu hu q=> ?_;obtain ⟨o,e⟩:=(ok u hu).live _ _ (hs u hu) u.I (ok u hu).self;exact lt e q.symm
 go:=λelts k pos i T s Q E hm hQ=>by
  obtain ⟨hz,jY,⟨os,lx,hl⟩,hs,hT⟩:=hm;exact wpAny_letOwnedTupleGo_zip hz λh' gH fu=>hQ h' ⟨gH,fu.extBut _ _ Z.TIz jY,⟨os,fu.extBut _ _ Z.TOz lx,hl⟩,λu hu=>(ok u hu).frame _ _ _ (hs u hu) λb hb o e=>fu.extBut _ _ (λq=>Z.zf u hu (ao q hb)) e⟩
   λc o hc e=>fu.extBut _ _ (λq=>hc (aa q (.head _))) e
 apart:=λi T h hm=>hm.2.2.2.2
 done:=λs Q E b7 hQ=>by
  obtain ⟨hz,jY,⟨os,lx,hl⟩,hs⟩:=b7
  have hT:s.TypeIs (.ref z) "zip" :=⟨_,hz,rfl⟩
  refine aw (D0 (wpAny_callSpecial?_slot (name:=be "__next__") hT Ek
   (oj Ek hT Zb
    (Y9 hh Z ok aU hz jY lx hl (λu hu=>⟨(zW bz).1 u hu,hs u hu⟩) (zW bz).2 λh' tk e hk he=> ?_) (Zc _))))
  refine aD (he) λo ho hc=>aw (rH (T:= "StopIteration") (b:=true) ⟨o,ho,hc⟩ isSubtype_stop ?_);exact aV (hQ _ _ λc o hc e=>hk c o (λq=>hc (ao q (.head _))) (λq=>hc (aa q (.tail _ (.head _)))) (λu hu q=>hc (aa q (.tail _ (.tail _ (nt hu))))) e)
 self:=λi s Q E b7 hQ=>Zd b7.1 hQ
end
end
section
variable{prog:dE}{w:cu}{A:cJ}{E:Value->al->Prop}{s:al}
theorem Ze(I l:Nat)(bz:l≠I)(items:Array Value):Eb prog w I [I,l] items.size (λi v=>items[i]? =some v) (λi h=>h.IsListIter I l i/\h.IsList l items) where
 self:= .head _
 frame:=λJ J J st hk=>⟨st.1.at λo e=>hk I (by simp) o e,st.2.at λo e=>hk l (by simp) o e⟩
 live:=λi h st b hb=>by
  obtain ⟨⟨o,e,_⟩,⟨o2,e2,_⟩⟩:=st;simp only [br,eZ,or_false] at hb
  rcases hb with rfl | rfl<;>exact ⟨_,by assumption⟩
 item:=λA i s Q E hi st hQ=>wpAny_nextOf_list_item st.1 st.2 (x:=items[i]) (by simp [hi]) λh' vO fu=>hQ _ h' s.toks (by simp [hi]) ⟨vO,st.2.extBut fu.extBut bz⟩ fu.1 λb o hb e=>fu.extBut b o hb e
 done:=λA s Q E hh st hE=>wpAny_nextOf_list_end hh st.1 st.2 (by simp) λh' e hk he=>hE h' e hk he
open PySem.W.KBw in
theorem Zf(I:Nat)(b:Array UInt8)(t:Tok):Eb prog w I [I] b.size (λi v=>∃c u,b[i]? =some c/\v= .int (c.toNat:Int) u) (λi h=>IsBytesIter h I b t i) where
 self:= .head _
 frame:=λJ J J st hk=>aD st λo ho r=>⟨o,hk I (by simp) o ho,r⟩
 live:=λi h st b hb=>by refine aa (dT.mp hb) ?_;obtain ⟨o,e,_⟩:=st;exact ⟨o,e⟩
 item:=λA i s Q E hi st hQ=>by
  obtain ⟨o,ho,hc,hd⟩:=id st
  have hx:b[i]? =some b[i]:=by simp [hi]
  unfold rN;refine aw (wpAny_callSpecial?_slot (name:=be "__next__") (iter_typeIs st) slot_next
   (oj slot_next (iter_typeIs st) entry_next ?_ (args_next _)))
  refine (?_:wpAny _ _ (field (.ref I) 0>>=_) _ _ s);refine aw (gN ho hd (x:= .bytes b t) rfl ?_);refine (?_:wpAny _ _ (if (rT b t==Value.none)=true then _ else _) _ _ s);refine aa (if_neg (show ¬ ((rT b t==Value.none)=true) from nl)) (?_:wpAny _ _ (field (.ref I) 1>>=_) _ _ s);refine aw (gN ho hd (x:= .int i 0) rfl ?_);refine aw (dW (a:=b) rfl ?_);simp only [mo,hx];refine aw (wpAny_setField ho hd (by simp) (aw (zP (aV ⟨_,rfl,aV (hQ _ _ _ ⟨_,_,hx,rfl⟩ ?_ (m6 ..).1 λc o hc e=>(m6 ..).extBut c o hc e)⟩))));exact ⟨_,vK _ ho (Obj.isFreed_of_fields (Zg hd _)),(Obj.cls_mapFields ..).trans hc,by
   rw [Zg hd];simp [rawInt]⟩
 done:=λA s Q E hh st hE=>by
  obtain ⟨o,ho,hc,hd⟩:=id st
  have hx:b[b.size]? =none:=by simp
  unfold rN;refine aw (wpAny_callSpecial?_slot (name:=be "__next__") (iter_typeIs st) slot_next
   (oj slot_next (iter_typeIs st) entry_next ?_ (args_next _)))
  refine (?_:wpAny _ _ (field (.ref I) 0>>=_) _ _ s);refine aw (gN ho hd (x:= .bytes b t) rfl ?_);refine (?_:wpAny _ _ (if (rT b t==Value.none)=true then _ else _) _ _ s);refine aa (if_neg (show ¬ ((rT b t==Value.none)=true) from nl)) (?_:wpAny _ _ (field (.ref I) 1>>=_) _ _ s);refine aw (gN ho hd (x:= .int b.size 0) rfl ?_);refine aw (dW (a:=b) rfl ?_);simp only [mo,hx];refine aw (jv (aw (wpAny_setField ho hd (by simp) ?_)));refine (?_:wpAny _ _ (newExc (.type "StopIteration") []>>=_) _ _ _);refine aw ?_;simp only [newExc,newTuple];refine aw (qO ?_ (by size_fits));refine aw (m:=firstArgMember _ _) (dW (a:=Value.none) (by first | rfl | (simp only [firstArgMember];rfl)) ?_);refine qO ?_ (by size_fits);refine (?_:wpAny _ _ (handled>>=_) _ _ _);refine aw (wpAny_handled ?_);refine aa (show A.in1.handled=none from hh) (aw (aV (wpAny_throw ?_)));exact hE _ _ (((m6 ..).extBut.push _).push _) ⟨_,cV _ rfl,rfl⟩
noncomputable def qe(h:Heap)(os:List Obj):Heap:=os.foldl Heap.push h
theorem Zh(os:List Obj):∀h:Heap,(qe h os).objs.size=h.objs.size+os.length:=by
 induction os with
 | nil=>exact λJ=>rfl
 | cons o os ih=>exact λh=>(ih (h.push o)).trans (aa (ot ..) (qM ..))
theorem Lg(os:List Obj):∀(h:Heap) b o,h.get? b=some o->(qe h os).get? b=some o:=by
 induction os with
 | nil=>exact λJ J J e=>e
 | cons p os ih=>exact λh b o e=>ih _ b o (fy _ e)
theorem wU(os:List Obj):∀(h:Heap) (i:Nat) o,os[i]? =some o->o.isFreed=false->(qe h os).get? (h.objs.size+i)=some o:=by
 induction os with
 | nil=>exact λJ J J e=>nn e
 | cons p os ih =>
  intro h i o e f;rcases i with _ | i
  ·cases aN e;exact Lg os _ _ _ (cV _ f)
  ·have:=ih (h.push p) i o e f
   rw [ot] at this
   exact aa (show h.objs.size+(i+1)=h.objs.size+1+i from (qM ..).symm) this
def Zi(prog:dE)(w:cu)(h:Heap)(x:Value)(o:Obj):Prop:=∀(A:cJ) (E:Value->al->Prop) (s:al) (Q:Value->al->Prop),(∀b o,h.get? b=some o->s.heap.get? b=some o)->Q (.ref s.heap.objs.size) {s with heap:=s.heap.push o}->wpAny (model prog w) A (pyIter x) Q E s
def wV(prog:dE)(w:cu)(h:Heap):List Value->List Obj->Prop
 | [],[]=>True
 | x::xs,o::os=>Zi prog w h x o/\wV prog w h xs os
 | _,_=>False
noncomputable def gV(n k:Nat):List Value:=(ic n k).map m8
theorem Zj{h:Heap}{xs:List Value}:∀{os:List Obj} {s:al} {acc:Array Value} {Q:Array Value->al->Prop},wV prog w h xs os->(∀b o,h.get? b=some o->s.heap.get? b=some o)->
  Q (acc++(gV s.heap.objs.size os.length).toArray) {s with heap:=qe s.heap os}->
  wpAny (model prog w) A (forIn xs acc λx cM=>do let v<-holding cM.toList (pyIter x);pure (ForInStep.yield (cM.push v))) Q E s:=by
 induction xs with
 | nil =>
  intro os s acc Q hi hk hq;rcases os with _ | _
  ·simp only [BH];exact aV (by simpa [gV,qe] using hq)
  ·exact hi.elim
 | cons x xs ih =>
  intro os s acc Q hi hk hq;rcases os with _ | ⟨o,os⟩
  ·exact hi.elim
  simp only [pi];refine aw (aw (kA (hi.1 _ _ _ _ hk (aV ?_))));refine ih hi.2 (λb o e=>fy _ (hk b o e)) ?_;refine (?_:Q _ {s with heap:=qe (s.heap.push o) os});refine aa (show (s.heap.push o).objs.size=s.heap.objs.size+1 from ot ..) ?_
  have e1:acc.push (m8 s.heap.objs.size)++(gV (s.heap.objs.size+1) os.length).toArray=acc++(gV s.heap.objs.size (os.length+1)).toArray:=by
   simp [gV,El]
  exact aa e1 hq
noncomputable abbrev mw(h:Heap)(os:List Obj):Heap:=qe h (os++ [{cls:= .type "tuple",data:= .seq (gV h.objs.size os.length).toArray},{cls:= .type "tuple",data:= .seq (ci os.length Value.none).toArray},
 {cls:= .type "zip",data:= .fields #[.none, .bool false, .bool false, .ref (h.objs.size+os.length), .ref (h.objs.size+os.length+1)]}])
theorem Zk{xs:List Value}{os:List Obj}(hi:wV prog w s.heap xs os)(hl:os.length≤100){Q:rM->al->Prop}
  (hQ:Q (.done (.ret (.ref (s.heap.objs.size+os.length+2)))) {s with heap:=mw s.heap os}):wpAny (model prog w) A (f8.«zip.__new__» ⟨.type "zip" ::xs,[]⟩) Q E s:=by
 unfold f8.«zip.__new__»;refine aw (m:=Zl "zip" _) ?_;unfold Zl;refine aw (dW (a:=true) rfl ?_);refine dX rfl (aw (dW sub_zip ?_));refine dX rfl (aV ?_);dsimp only;refine oB (by simp) (aw ?_);unfold aiy;refine aw (Zj hi (λJ J e=>e) (aV ?_))
 have e0:(#[]++(gV s.heap.objs.size os.length).toArray).toList=gV s.heap.objs.size os.length:=by simp
 refine aa e0 ?_
 have gI:(gV s.heap.objs.size os.length).length=os.length:=by simp [gV]
 refine aw (K8 ?_ (by refine aa gI ?_;exact fg (ag hl (nb rfl))));refine aw (K8 ?_ (by refine aa (aE ..) (aa gI ?_);exact fg (ag hl (nb rfl))));refine aw ?_;unfold aiz;refine qO ?_ (by show 5≤sizeLine+2;refine aa CB ?_;decide);refine aV ?_
 have e1:(gV s.heap.objs.size os.length).map (λJ=>Value.none)=ci os.length Value.none:=by
  exact aa Em (aa gI rfl)
 refine aa e1 ?_
 have s1:=Zh os s.heap
 simp only [mw,qe,rU,my,List.foldl_nil] at hQ
 simp only [ot,s1];exact hQ
theorem Zm{xs:List Value}{os:List Obj}(En:checkTypeCall "zip" ⟨xs,[]⟩=pure ())(Eo:checkBuiltinCall "zip.__new__" ⟨.type "zip" ::xs,[]⟩=pure ())(er:∀obj,argsOk "object.__init__" ⟨obj::xs,[]⟩)
  (hi:wV prog w s.heap xs os) (hl:os.length≤100) (hQ:Q (.ref (s.heap.objs.size+os.length+2)) {s with heap:=mw s.heap os}):wpAny (model prog w) A (call (.type "zip") xs) Q E s:=by
 have hz:(mw s.heap os).get? (s.heap.objs.size+os.length+2)=some {cls:= .type "zip",data:= .fields #[.none, .bool false, .bool false, .ref (s.heap.objs.size+os.length), .ref (s.heap.objs.size+os.length+1)]}:=by
  have:=wU (os++ [{cls:= .type "tuple",data:= .seq (gV s.heap.objs.size os.length).toArray},{cls:= .type "tuple",data:= .seq (ci os.length Value.none).toArray},
   {cls:= .type "zip",data:= .fields #[.none, .bool false, .bool false, .ref (s.heap.objs.size+os.length), .ref (s.heap.objs.size+os.length+1)]}]) s.heap (os.length+2) _ (by rw [pU (cb ..)];simp;rfl) rfl
  exact this
 refine KV (Q₁:=λobj az=>obj= .ref (s.heap.objs.size+os.length+2)/\az={s with heap:=mw s.heap os}) Lh En YO ?_ λobj az bh=> ?_
 ·refine Kz ?_
  show wpAny _ A.in1.in1 (do checkBuiltinCall "zip.__new__" ⟨.type "zip" ::xs,[]⟩;again (.builtin "zip.__new__" ⟨.type "zip" ::xs,[]⟩)) _ _ s
  refine aw (dW Eo (aV ⟨wJ (by decide +kernel) _,wQ F.entry_zip_new ?_⟩));exact aa (wK (by decide +kernel) _) (Zk hi hl ⟨rfl,rfl⟩)
 ·obtain ⟨rfl,rfl⟩:=bh
  have hT:({s with heap:=mw s.heap os}:al).TypeIs (.ref (s.heap.objs.size+os.length+2)) "zip" :=⟨_,hz,rfl⟩
  exact ⟨hT,er _,YQ Lh.init.lookup Lh.made (by decide) prog w A.in1 _ _ ⟨hT,rfl,hQ⟩⟩
end
section
variable {h:Heap}
inductive ZK where
 | list (l:Nat) (cs:List Value)
 | bytes (b:List UInt8) (t:Tok)
noncomputable def ZK.obj:ZK->Obj
 | .list l _=>{cls:= .type "list_iterator",data:= .fields #[.ref l, .int 0 0]}
 | .bytes b t=>{cls:= .type "bytes_iterator",data:= .fields #[.bytes b.toArray t, .int 0 0]}
noncomputable def ZK.val:ZK->Value
 | .list l _=> .ref l
 | .bytes b t=> .bytes b.toArray t
noncomputable def ZK.sub(I:Nat):ZK->Sub
 | .list l cs=>⟨I,[I,l],cs.toArray.size,λi v=>cs.toArray[i]? =some v,λi h=>h.IsListIter I l i/\h.IsList l cs.toArray⟩
 | .bytes b t=>⟨I,[I],b.toArray.size,λi v=>∃c u,b.toArray[i]? =some c/\v= .int (c.toNat:Int) u,λi h=>TY h I b.toArray t i⟩
def ZK.at(U:Nat->Prop)(h:Heap):ZK×List ab->Prop
 | (.list l cs,as)=>U l/\h.IsList l cs.toArray/\aO U h as cs
 | (.bytes b _,as)=>as=d3 b
noncomputable def oE:Nat->List ZK->List Sub
 | _,[]=> []
 | n,k::ks=>k.sub n::oE (n+1) ks
theorem zX(k:ZK)(I:Nat):(k.sub I).I=I:=by cases k<;>rfl
theorem Lj(ks:List ZK):∀n:Nat,(oE n ks).length=ks.length:=by
 induction ks with
 | nil=>exact λJ=>rfl
 | cons k ks ih=>exact λn=>congrArg (λz=>z +1) (ih (n+1))
theorem Zn(ks:List ZK):∀n:Nat,(oE n ks).map (λu=>m8 u.I)=gV n ks.length:=by
 induction ks with
 | nil=>exact λJ=>rfl
 | cons k ks ih =>
  intro n
  have:=ih (n+1)
  simp only [gV] at this
  simp [oE,gV,El,zX,this]
theorem Lk{ks:List ZK}:∀{n:Nat} {u:Sub},u∈oE n ks->∃(i:Nat) (k:ZK),ks[i]? =some k/\u=k.sub (n+i):=by
 induction ks with
 | nil=>exact λ{_ _} h=>absurd h eZ
 | cons k ks ih =>
  intro n u h;rcases br.mp h with rfl | h
  ·exact ⟨0,k,rfl,rfl⟩
  ·exact jg (ih h) λi k' e bb=>⟨i+1,k',e,bb.trans (congrArg (λm=>ZK.sub m k') (qM ..))⟩
theorem zY{k:ZK}{I:Nat}{b:Nat}(h:b∈(k.sub I).fp):b=I∨∃l cs,k= .list l cs/\b=l:=by
 cases k with
 | list l cs =>
  simp only [ZK.sub,br,eZ,or_false] at h
  exact h.imp id λe=>⟨l,cs,rfl,e⟩
 | bytes b t =>
  simp only [ZK.sub,br,eZ,or_false] at h
  exact .inl h
theorem Zo{N:Nat}{ks:List ZK}:∀{n:Nat},N≤n->(∀k∈ks,∀l cs,k= .list l cs->l<N)->(oE n ks).Pairwise λu v=>u.I∉v.fp/\v.I∉u.fp:=by
 induction ks with
 | nil=>exact λJ J=> .nil
 | cons k ks ih =>
  intro n hn hl;refine qc.mpr ⟨λv hv=> ?_,ih (n:=n+1) (mr hn) λx hx=>hl x (.tail _ hx)⟩;refine jg (Lk hv) λi k' e bb=> ?_;subst bb;simp only [zX];refine ⟨λq=> ?_,λq=> ?_⟩
  ·rcases zY q with q | ⟨l,cs,rfl,r⟩
   ·exact absurd q (dB (cb ..))
   ·exact absurd (hl _ (.tail _ (cw e)) l cs rfl) (dC.mpr (ao r hn))
  ·rcases zY q with q | ⟨l,cs,rfl,r⟩
   ·exact absurd q (fK (cb ..))
   ·exact absurd (eB (hl _ (.head _) l cs rfl) hn) (dC.mpr (ao r (ag (md n) (cb ..))))
section
variable{X:Cx}{n:Nat}{L:Nat}{ae:List Loc}
theorem Zp{σ κ}{a:Nat}(G:bq X σ κ s)(q:s.heap.objs.size≤a):aj σ κ a:=og λh=>iH (G.lt _ h) λJ e=>absurd (cR e) (dC.mpr q)
theorem Zq{U:Nat->Prop}{zs:List (ZK×List ab)}:(∀z∈zs,ZK.at U h z)->wV X.prog X.w h (zs.map (λz=>z.1.val)) (zs.map (λz=>z.1.obj)):=by
 induction zs with
 | nil=>exact λJ=>trivial
 | cons z zs ih =>
  obtain ⟨k,as⟩:=z;refine λhz=>⟨?_,ih λz gH=>hz z (.tail _ gH)⟩
  have h0:=hz (k,as) (.head _)
  cases k with
  | list l cs =>
   intro A E s Q hk q;obtain ⟨_,⟨o,e,r⟩,_⟩:=h0;exact BM ⟨o,hk _ _ e,r⟩ q
  | bytes b t=>intro A E s Q hk q;exact TX q
theorem Zr{U:Nat->Prop}{j:Nat}{k:ZK}{as:List ab}{v:Value}(h0:ZK.at U h (k,as))(hj:j<as.length)(hv:(k.sub m).P j v):am U h (as[j]?.getD .none) v:=by
 rw [bI hj];rcases k with ⟨l,cs⟩ | ⟨b,t⟩
 ·refine aD (h0.2.2.get (bI hj)) λy e ry=> ?_
  have hv:cs.toArray[j]? =some v:=hv
  rw [pM,e] at hv
  exact ao (aN hv) ry
 ·obtain rfl:as=d3 b:=h0;refine jg hv λc u e bb=> ?_;subst bb;rw [pM] at e
  rw [<-Up (a:=(d3 b)[j]) (b:=ab.none),<-bI hj,d3,cW,e];exact .int _ _
theorem Zs{U:Nat->Prop}{j:Nat}{zs:List (ZK×List ab)}:∀{m:Nat} {vs:List Value},(∀z∈zs,ZK.at U h z/\j<z.2.length)->p9 j (oE m (zs.map (λz=>z.1))) vs->aO U h (zs.map λz=>z.2[j]?.getD .none) vs:=by
 induction zs with
 | nil =>
  intro m vs _ hv;rcases vs with _ | _
  ·exact .nil
  ·exact hv.elim
 | cons z zs ih =>
  intro m vs hz hv;rcases vs with _ | ⟨v,vs⟩
  ·exact hv.elim
  have h0:=hz z (.head _)
  exact .cons (Zr h0.1 h0.2 hv.1) (ih (λz gH=>hz z (.tail _ gH)) hv.2)
structure ZF(h H:Heap)(U:Nat->Prop)(zs:List (ZK×List ab))(N m:Nat)(us:List Sub):Prop where
 at_:∀z∈zs,ZK.at U h z
 mem:∀u∈us,∃(i:Nat) (k:ZK) (as:List ab),zs[i]? =some (k,as)/\u=k.sub (N+i)
 has:∀{i:Nat} {z},zs[i]? =some z->z.1.sub (N+i)∈us
 lt:∀{i:Nat} {z},zs[i]? =some z->i<m
 low:∀{i:Nat} {l cs as},zs[i]? =some (.list l cs,as)->l<N
 ext:∀b o,h.get? b=some o->H.get? b=some o
 g0:H.get? (N+m)=some {cls:= .type "tuple",data:= .seq (gV N m).toArray}
 g1:H.get? (N+m+1)=some {cls:= .type "tuple",data:= .seq (ci m Value.none).toArray}
 g2:mu H (N+m+2) (N+m) (N+m+1) .none
 gi:∀{i:Nat} {z},zs[i]? =some z->H.get? (N+i)=some z.1.obj
section
variable{h H:Heap}{U:Nat->Prop}{zs:List (ZK×List ab)}{N m:Nat}{us:List Sub}(F:ZF h H U zs N m us)
include F
theorem ZF.ok:∀u∈us,u.ok X.prog X.w:=λu hu=>by
 refine o9 (F.mem u hu) λi k as e bb=> ?_;subst bb;cases k with
 | list l cs=>exact Ze _ _ (dB (eB (F.low e) (cb N i))) _
 | bytes b t=>exact Zf _ _ _
theorem ZF.old:∀u∈us,∀b∈u.fp,b<N+m:=λu hu b hb=>by
 obtain ⟨i,k,as,e,rfl⟩:=F.mem u hu;rcases zY hb with rfl | ⟨l,cs,rfl,rfl⟩
 ·exact wW (F.lt e) N
 ·exact eB (F.low e) (cb N m)
theorem ZF.ap(X:Cx)(pw:us.Pairwise λu v=>u.I∉v.fp/\v.I∉u.fp):p8 (N+m+2) (N+m) (N+m+1) us :=
 ⟨dB (pQ (ju (N+m))),dB (ju (N+m+1)),dB (ju (N+m)),λu h q=>absurd (F.old u h _ q) (dC.mpr (cb _ 2)),λu h q=>absurd (F.old u h _ q) (dC.mpr (md _)),λu h q=>absurd (q▸F.old u h _ (F.ok (X:=X) u h).self) (iM _),pw⟩
theorem ZF.wr:∀a∈(N+m+2)::(N+m+1)::us.map (λz=>z.I),N≤a/\a≠N+m/\∃o,H.get? a=some o:=λa ha=>by
 rcases br.mp ha with rfl | ha
 ·exact ⟨ag (cb N m) (cb _ 2),fK (pQ (ju (N+m))),_,F.g2⟩
 rcases br.mp ha with rfl | ha
 ·exact ⟨ag (cb N m) (md _),fK (ju (N+m)),_,F.g1⟩
 refine aD (bJ.mp ha) λu hu bb=> ?_;subst bb;refine o9 (F.mem u hu) λi k as e bb=> ?_;subst bb;exact aa (zX ..) (⟨cb N i,dB (wW (F.lt e) N),_,F.gi e⟩)
theorem ZF.cnt{i:Nat}{k:ZK}{as:List ab}(e:zs[i]? =some (k,as)):(k.sub (N+i)).n=as.length:=by
 have h:=F.at_ _ (cw e)
 cases k with
 | list l cs=>exact h.2.2.length.symm
 | bytes b t=>have h:=h;refine aa h ?_;exact (aE _).symm
theorem ZF.min(bz:us≠ [])(eQ:∀z∈zs,k≤z.2.length)(rV:∃z∈zs,z.2.length=k):qd us=k:=by
 obtain ⟨a,u,ue,eu⟩:=zW bz;refine yX ?_ ?_
 ·refine aD rV λz gH ez=> ?_;obtain ⟨i,e⟩:=qf.mp gH;exact ag (a _ (F.has e)) (b6 ((F.cnt (k:=z.1) (as:=z.2) e).trans ez))
 ·refine o9 (F.mem u ue) λi k as e bb=> ?_;subst bb;exact ao eu (aa (F.cnt e) (eQ _ (cw e)))
omit F
theorem Ep{I S A:Nat}{b:Nat}{P:Nat->Prop}(hb:b∈I::S::A::us.flatMap (λz=>z.fp))(h1:P I)(h2:P S)(h3:P A)(h4:∀u∈us,∀b∈u.fp,P b):P b:=by
 rcases br.mp hb with rfl | hb
 ·exact h1
 rcases br.mp hb with rfl | hb
 ·exact h2
 rcases br.mp hb with rfl | hb
 ·exact h3
 exact aD (Le.mp hb) λu hu hb=>h4 u hu b hb
end
theorem Zt{zs:List (ZK×List ab)}{out:List ab}{κ s}{H:Heap}{N:Nat}{us:List Sub}(hN:s.heap.objs.size=N)(rel:Rel X L ae st κ s)(F:ZF s.heap H (aj st.σ κ) zs N m us)(pw:us.Pairwise λu v=>u.I∉v.fp/\v.I∉u.fp)(Lm:us.length=m)(hm:m≤100)(bz:us≠ [])(eQ:∀z∈zs,out.length≤z.2.length)(rV:∃z∈zs,z.2.length=out.length)
  (Zu:us.map (λu=>m8 u.I)=gV N m) (Zv:∀{j vs},(∀z∈zs,j<z.2.length)->p9 j us vs->aO (aj st.σ κ) s.heap (zs.map λz=>z.2[j]?.getD .none) vs)
  (iu:∀(j:Nat) x,out[j]? =some x->x= .tuple (zs.map λz=>z.2[j]?.getD .none)) {A} :
  wpAny X.M A (pyIter (.ref (N+m+2))) (jU X L ae st κ s.heap true [] out) (λJ J=>False) {s with heap:=H}:=by
 refine Zd F.g2 ?_
 have lo:∀a,N≤a->s.heap.objs.size≤a:=λa h=>aa hN h
 refine qL (rel.tag (s':={s with heap:=H}) ((N+m+2)::(N+m+1)::us.map (λz=>z.I)) (N+m+2) (.head _) (λa q=>⟨lo a (F.wr a q).1,(F.wr a q).2.2⟩) F.ext rfl rfl) λrr e h1 h2 h3=> ?_
 have ok:=F.ok (X:=X)
 refine ⟨_,_,rfl,CU (lo _ (F.wr _ (.head _)).1),rr,e,eH.pair (i:=0) (λA hh=>(F.min bz eQ rV)▸Za hh (F.ap X pw) ok bz (aa Lm hm)) ?_ ?_ ⟨F.g2, ?_,⟨ci m .none,F.g1,aH pV Lm rfl⟩,λu ue=> ?_⟩ rfl (da _) (λb hb=>if_pos hb) ?_ ?_,h2,h1,⟨_,F.g2⟩,F.ext⟩
 ·rintro j h ⟨q1,q2,⟨os,q3,_⟩,q4⟩ b hb
  exact Ep (P:=λb=>∃o,h.get? b=some o) hb ⟨_,q1⟩ ⟨_,q2⟩ ⟨_,q3⟩ λu hu b hb=>(ok u hu).live _ _ (q4 u hu) b hb
 ·rintro j T h ⟨q1,q2,⟨os,q3,_⟩,q4,_⟩ b hb
  exact Ep (P:=λb=>∃o,h.get? b=some o) hb ⟨_,q1⟩ ⟨_,q2⟩ ⟨_,q3⟩ λu hu b hb=>(ok u hu).live _ _ (q4 u hu) b hb
 ·intro b hb
  have im:=Zp rel.g (lo (N+m) (cb N m))
  refine Ep (P:=λb=>b∈(N+m+2)::(N+m+1)::us.map (λz=>z.I)∨aj st.σ (fX κ ((N+m+2)::(N+m+1)::us.map (λz=>z.I)) (N+m+2)) b) hb (.inl (.head _)) (.inr ⟨im.1, ?_⟩) (.inl (.tail _ (.head _))) λu ue b hb=> ?_
  ·exact aa (show fX κ _ _ (N+m)=κ (N+m) from if_neg λq=>(F.wr _ q).2.1 rfl) im.2
  refine o9 (F.mem u ue) λi k as e' bb=> ?_;subst bb;rcases zY hb with rfl | ⟨l,cs,rfl,rfl⟩
  ·exact .inl (.tail _ (.tail _ (bJ.mpr ⟨_,ue,zX _ _⟩)))
  ·obtain ⟨ul,⟨o,g,r⟩,_⟩:=F.at_ _ (cw e');exact .inr (e.bd _ o ul g).1
 ·rintro j x vals q hv
  have hj:=(du.mp q).1
  exact ⟨_,iu j x q,(Zv (λz gH=>eB hj (eQ z gH)) hv).mono e.bd⟩
 ·refine (?_:fF _ _ _);exact aa Zu F.g0
 ·refine o9 (F.mem u ue) λi k as e bb=> ?_;subst bb
  have ge:=F.gi e
  cases k with
  | list l cs =>
   obtain ⟨_,⟨o,g,r⟩,_⟩:=F.at_ _ (cw e);exact ⟨⟨_,ge,rfl,rfl⟩,⟨o,F.ext _ _ g,r⟩⟩
  | bytes b t=>exact ⟨_,ge,rfl,rfl⟩
theorem Zw{os:List Obj}(hm:os.length=m):(mw h os).get? (h.objs.size+m)=some {cls:= .type "tuple",data:= .seq (gV h.objs.size m).toArray}/\(mw h os).get? (h.objs.size+m+1)=some {cls:= .type "tuple",data:= .seq (ci m Value.none).toArray}/\mu (mw h os) (h.objs.size+m+2) (h.objs.size+m) (h.objs.size+m+1) .none:=by
 subst hm;exact ⟨wU _ h os.length _ (by rw [pU (cg _),Ul];rfl) rfl,wU _ h (os.length+1) _ (by rw [pU (cb _ 1),nu];rfl) rfl,wU _ h (os.length+2) _ (by rw [pU (cb _ 2),nu];rfl) rfl⟩
theorem Zx{ks:List ZK}:∀{n i:Nat} {k},ks[i]? =some k->k.sub (n+i)∈oE n ks:=by
 induction ks with
 | nil=>exact λe=>nn e
 | cons k0 ks ih =>
  intro n i k e;rcases i with _ | i
  ·obtain rfl:=aN e;exact .head _
  ·have:=ih (n:=n+1) (i:=i) (k:=k) e;rw [ka,ll 1 i] at this;exact .tail _ this
theorem Zy{zs:List (ZK×List ab)}{out:List ab}{κ s}(bz:zs≠ [])(aU:zs.length≤100)(rel:Rel X L ae st κ s)(hz:∀z∈zs,ZK.at (aj st.σ κ) s.heap z)(eQ:∀z∈zs,out.length≤z.2.length)(rV:∃z∈zs,z.2.length=out.length)
  (iu:∀(j:Nat) x,out[j]? =some x->x= .tuple (zs.map λz=>z.2[j]?.getD .none)) {A} :
  wpAny X.M A (pyIter (.ref (s.heap.objs.size+zs.length+2))) (jU X L ae st κ s.heap true [] out) (λJ J=>False) {s with heap:=mw s.heap (zs.map (λz=>z.1.obj))}:=by
 have hl:∀{z l cs},z∈zs->z.1= .list l cs->l<s.heap.objs.size:=λ{z l cs} gH e=>by
  have h:=hz z gH
  obtain ⟨k,as⟩:=z;obtain rfl:k= .list l cs:=e;exact h.2.1.elim λo g=>cR g.1
 have A:=Zw (h:=s.heap) (os:=zs.map (λz=>z.1.obj)) (m:=zs.length) (aE _)
 have lt:∀{i:Nat} {z},zs[i]? =some z->i<zs.length:=λe=>(du.mp e).1
 have F:ZF s.heap (mw s.heap (zs.map (λz=>z.1.obj))) (aj st.σ κ) zs s.heap.objs.size zs.length (oE s.heap.objs.size (zs.map (λz=>z.1))):={
  at_:=hz
  mem:=λu hu=>(Lk hu).elim λi h=>h.elim λk h=>by
   have e:=h.1
   rw [cW] at e
   exact aD (lW.mp e) λz e1 e2=>⟨i,k,z.2,Gs e1 e2 rfl,h.2⟩
  has:=λ{i z} e=>Zx (by rw [cW,e];rfl)
  lt:=lt
  low:=λe=>hl (cw e) rfl
  ext:=λb o e=>Lg _ _ _ _ e
  g0:=A.1
  g1:=A.2.1
  g2:=A.2.2
  gi:=λ{i z} e=>wU _ _ i _ (by rw [nk (aa (aE ..) (lt e)),cW,e];rfl) (by rcases z with ⟨⟨⟩,_⟩<;>rfl)}
 exact Zt rfl rel F (Zo (cg _) λk hk l cs e=>(bJ.mp hk).elim λz h=>hl h.1 (h.2.trans e)) (aa (Lj ..) (aa (aE ..) rfl)) aU (λq=>bz (zl.mp (by have:=congrArg rX q;rw [Lj,aE] at this;exact this))) eQ rV (aa (Zn ..) (aa (aE ..) rfl)) (λhj hv=>Zs (λz h=>⟨hz z h,hj z h⟩) hv) iu
end
end
theorem Zz(a b c:Value):checkTypeCall "zip" ⟨[a,b,c],[]⟩=pure ():=by kernel_rfl
theorem ZA(a b c:Value):checkBuiltinCall "zip.__new__" ⟨[.type "zip",a,b,c],[]⟩=pure ():=by kernel_rfl
theorem ZB(a b c d:Value):argsOk "object.__init__" ⟨[a,b,c,d],[]⟩:=by
 unfold argsOk;rw [signature?_of (id:= "object.__init__") (n:= ['_','_','t','i','n','i','_','_']) (o:= ['t','c','e','j','b','o']) (by kernel_rfl) F.owner_object];kernel_rfl
theorem ZC(a:List ab):∀(b:List ab) (j:Nat) x,(q8 a b)[j]? =some x->x= .tuple [a[j]?.getD .none,b[j]?.getD .none]:=by
 induction a with
 | nil=>exact λJ J J=>nn
 | cons p a ih =>
  intro b j x h;rcases b with _ | ⟨q,b⟩
  ·exact nn h
  ·rcases j with _ | j
   ·exact (aN h).symm
   ·exact ih b j x h
theorem ZD(a:List ab):∀(b c:List ab) (j:Nat) x,(tF a b c)[j]? =some x->x= .tuple [a[j]?.getD .none,b[j]?.getD .none,c[j]?.getD .none]:=by
 induction a with
 | nil=>exact λJ J J J=>nn
 | cons p a ih =>
  intro b c j x h;rcases b with _ | ⟨q,b⟩
  ·exact nn h
  rcases c with _ | ⟨r,c⟩
  ·exact nn h
  ·rcases j with _ | j
   ·exact (aN h).symm
   ·exact ih b c j x h
theorem Ln(a b:List ab):(q8 a b).length=min a.length b.length:=Er
theorem Lo(a:List ab):∀(b c:List ab),(tF a b c).length=min a.length (min b.length c.length):=by
 induction a with
 | nil=>exact λJ J=>(DR _).symm
 | cons p a ih =>
  intro b c;rcases b with _ | ⟨q,b⟩
  ·refine (?_:0=min _ (min 0 _));rewrite [DR];exact aa (Lp ..) rfl
  rcases c with _ | ⟨r,c⟩
  ·refine (?_:0=min _ (min _ 0));rw [Lp,Lp]
  ·exact (congrArg (λz=>z +1) (ih b c)).trans (aa n0 (aa n0 (aa n0 (aa (ZE ..) (aa (ZE ..) rfl)))))
theorem Es(a b:Nat):a=min a b∨b=min a b:=(wN a b).elim (λq=> .inl (gT q).symm) λq=> .inr (p6 q).symm
def nv(X:Cx)(n:Nat)(L:Addr)(ae:List Loc)(st:St)(κ:bM)(s:al)(Z:List ab->Prop)(ys:List Value):Prop :=
 ∀A,cL n A->ai X.M A (call (.type "zip") ys) (λy s1=>ai X.M A (pyIter y) (λy s2=>∃zs,Z zs/\jU X L ae st κ s.heap true [] zs y s2) (λJ J=>False) s1) (λJ J=>False) s
section
variable{X:Cx}{n:Nat}{L:Addr}{ae:List Loc}{st:St}{κ:bM}{s:al}{Z:List ab->Prop}(rel:Rel X L ae st κ s)
include rel
theorem Lq{zs:List (ZK×List ab)}{out:List ab}(bz:zs≠ [])(aU:zs.length≤100)(hz:∀z∈zs,ZK.at (aj st.σ κ) s.heap z)(eQ:∀z∈zs,out.length≤z.2.length)(rV:∃z∈zs,z.2.length=out.length)
  (iu:∀(j:Nat) x,out[j]? =some x->x= .tuple (zs.map λz=>z.2[j]?.getD .none)) (En:checkTypeCall "zip" ⟨zs.map (λz=>z.1.val),[]⟩=pure ()) (Eo:checkBuiltinCall "zip.__new__" ⟨.type "zip" ::zs.map (λz=>z.1.val),[]⟩=pure ()) (er:∀obj,argsOk "object.__init__" ⟨obj::zs.map (λz=>z.1.val),[]⟩) (hZ:Z out):nv X n L ae st κ s Z (zs.map (λz=>z.1.val)):=by
 intro A hr;refine ba (Zm En Eo er (Zq hz) (by refine aa (aE ..) ?_;exact aU) ?_);exact aa (aE ..) (ba (Kj (Zy bz aU rel hz eQ rV iu) (λy s2 m=>⟨out,hZ,m⟩) λJ J x=>x))
theorem Lr{p q:ZK×List ab}(hp:ZK.at (aj st.σ κ) s.heap p)(hq:ZK.at (aj st.σ κ) s.heap q)(h:Z (q8 p.2 q.2)):nv X n L ae st κ s Z [p.1.val,q.1.val] :=
 Lq rel (zs:= [p,q]) (Ej _ _) (by show Et _≤100;exact sV rfl) (mz.mpr ⟨hp,Eu.mpr hq⟩) (Ln p.2 q.2▸mz.mpr ⟨kD ..,Eu.mpr (jX ..)⟩)
  (Ln p.2 q.2▸(Es _ _).elim (λe=>⟨_, .head _,e⟩) λe=>⟨_, .tail _ (.head _),e⟩) (ZC _ _) (F.typeCall_zip_2 _ _) (F.newCall_zip_2 _ _) (λobj=>F.args_object_init_3 obj _ _) h
theorem ZG{p q r:ZK×List ab}(hp:ZK.at (aj st.σ κ) s.heap p)(hq:ZK.at (aj st.σ κ) s.heap q)(hr:ZK.at (aj st.σ κ) s.heap r)(h:Z (tF p.2 q.2 r.2)):nv X n L ae st κ s Z [p.1.val,q.1.val,r.1.val] :=
 Lq rel (zs:= [p,q,r]) (Ej _ _) (by show Et _≤100;exact sV rfl) (mz.mpr ⟨hp,mz.mpr ⟨hq,Eu.mpr hr⟩⟩)
  (Lo p.2 q.2 r.2▸mz.mpr ⟨kD ..,mz.mpr ⟨ag (jX ..) (kD ..),Eu.mpr (ag (jX ..) (jX ..))⟩⟩)
  (Lo p.2 q.2 r.2▸(Es p.2.length (min q.2.length r.2.length)).elim (λe=>⟨_, .head _,e⟩) λe=>(Es q.2.length r.2.length).elim (λe'=>⟨_, .tail _ (.head _),e'.trans e⟩) λe'=>⟨_, .tail _ (.tail _ (.head _)),e'.trans e⟩)
  (ZD _ _ _) (Zz _ _ _) (ZA _ _ _) (λobj=>ZB obj _ _ _) h
theorem ZH{a b:ab}{x:Value}(hx:am (aj st.σ κ) s.heap a x)(hy:am (aj st.σ κ) s.heap b y)(h:yH [a,b] Z):nv X n L ae st κ s Z [x,y]:=by
 rcases a with ⟨⟩<;>first | exact h.elim | skip
 ·refine pA.of (C:=λb=>am (aj st.σ κ) s.heap b y->nv X n L ae st κ s Z [x,y]) h (λb h hy=> ?_) hy;obtain ⟨t,rfl⟩:=hx.inv;obtain ⟨u,rfl⟩:=hy.inv;exact Lr rel (p:=(.bytes _ t,d3 _)) (q:=(.bytes _ u,d3 _)) rfl rfl h
 ·refine kZ.of (C:=λb=>am (aj st.σ κ) s.heap b y->nv X n L ae st κ s Z [x,y]) h (λb h hy=> ?_) hy;obtain ⟨l1,c1,rfl,u1,i1,r1⟩:=hx.inv;obtain ⟨l2,c2,rfl,u2,i2,r2⟩:=hy.inv;exact Lr rel (p:=(.list l1 c1,_)) (q:=(.list l2 c2,_)) ⟨u1,i1,r1⟩ ⟨u2,i2,r2⟩ h
theorem ZI{a b c:ab}{x z:Value}(hx:am (aj st.σ κ) s.heap a x)(hy:am (aj st.σ κ) s.heap b y)(hz:am (aj st.σ κ) s.heap c z)(h:yH [a,b,c] Z):nv X n L ae st κ s Z [x,y,z]:=by
 refine kZ.of (C:=λa=>am (aj st.σ κ) s.heap a x->nv X n L ae st κ s Z [x,y,z]) h (λa h hx=> ?_) hx;refine kZ.of (C:=λb=>am (aj st.σ κ) s.heap b y->nv X n L ae st κ s Z [x,y,z]) h (λb h hy=> ?_) hy;refine kZ.of (C:=λc=>am (aj st.σ κ) s.heap c z->nv X n L ae st κ s Z [x,y,z]) h (λc h hz=> ?_) hz;obtain ⟨l1,c1,rfl,u1,i1,r1⟩:=hx.inv;obtain ⟨l2,c2,rfl,u2,i2,r2⟩:=hy.inv;obtain ⟨l3,c3,rfl,u3,i3,r3⟩:=hz.inv;exact ZG rel (p:=(.list l1 c1,_)) (q:=(.list l2 c2,_)) (r:=(.list l3 c3,_)) ⟨u1,i1,r1⟩ ⟨u2,i2,r2⟩ ⟨u3,i3,r3⟩ h
end
theorem Ev{X:Cx}{n:Nat}:nj X n where
 zip:=by
  intro L ae st κ s vs ys Z h rel hv;rcases vs with _ | ⟨a,_ | ⟨b,_ | ⟨c,_ | ⟨d,r⟩⟩⟩⟩<;>first | exact h.elim | skip
  ·obtain ⟨x,ys,rfl,h1,hv⟩:=hv.cons_inv;obtain ⟨y,ys,rfl,h2,hv⟩:=hv.cons_inv;cases hv.nil_inv;exact ZH rel h1 h2 h
  ·obtain ⟨x,ys,rfl,h1,hv⟩:=hv.cons_inv;obtain ⟨y,ys,rfl,h2,hv⟩:=hv.cons_inv;obtain ⟨z,ys,rfl,h3,hv⟩:=hv.cons_inv;cases hv.nil_inv;exact ZI rel h1 h2 h3 h
section
variable{X:Cx}
theorem ZJ{h:Heap}{es:List DictEntry}(r:gz U h fs es):aO U h (fs.map (λz=>z.2)) (es.map (λz=>z.val)) :=
 r.ind (P:=λfs es=>aO U h (fs.map (λz=>z.2)) (es.map (λz=>z.val))) .nil λ{x v y t hs fs es} a _ ih=>VR.cons (vs:=fs.map (λz=>z.2)) (xs:=es.map (λz=>z.val)) a ih
theorem ZL{U':Addr->Prop}{h h':Heap}{es:List DictEntry}(r:gz U h fs es):aO U' h' vs (es.map (λz=>z.val))->gz U' h' ((fs.map (λz=>z.1)).zip vs) es :=
 r.ind (P:=λfs es=>∀vs,aO U' h' vs (es.map (λz=>z.val))->gz U' h' ((fs.map (λz=>z.1)).zip vs) es) (λJ J=> .yd) (λJ J ih vs r'=>by
  rcases vs with _ | ⟨v,vs⟩
  ·exact qg r'.length
  exact eV r'.cons_inv λy zs e r1 r2=> .u0 ((congrArg (am U' h' v) (tX e).1).mpr r1) (ih vs ((congrArg (aO U' h' vs) (tX e).2).mpr r2))) vs
end
section
variable{X:Cx}{n:Nat}
abbrev jA(X:Cx)(σ:ar)(κ:bM)(s:al)(K:ab->ar->Prop)(z:Value)(s':al):Prop:=Cc X σ κ s.heap K z s'
theorem jA.ext{K:ab->ar->Prop}{z:Value}(G:bq X σ κ s)(k:∀b o,s.heap.get? b=some o->s'.heap.get? b=some o)(ho:s'.os=s.os)(hg:s'.gens=s.gens)(hv:am (aj σ κ) s'.heap v z)(hK:K v σ):jA X σ κ s K z s' :=
 ⟨v,σ,κ,G.ext k ho hg, .ext k,hv,hK⟩
theorem jA.same{K:ab->ar->Prop}{z:Value}(G:bq X σ κ s)(hh:s'.heap=s.heap)(ho:s'.os=s.os)(hg:s'.gens=s.gens)(hv:am (aj σ κ) s.heap v z)(hK:K v σ):jA X σ κ s K z s' :=
 .ext G (λb o e=>hh▸e) ho hg (hh▸hv) hK
theorem Ew{f:Value}(hf:∀a,f≠ .ref a){args:List ab}{K:ab->ar->Prop}
  (h:∀A κ s ys,cL n A->bq X σ κ s->aO (aj σ κ) s.heap args ys->ai X.M A (call f ys) (jA X σ κ s K) (λJ J=>False) s):aB X n (.raw f) args [] K σ:= .mk λA κ s y ys dI hr G hy hv hk=>by
 cases hy.bU;refine ⟨⟨.machine,λA' Q E q=> ?_⟩,h A κ s ys hr G hv⟩;rcases f with ⟨⟩<;>first | exact aM q | exact absurd rfl (hf _)
def Lu(vs:List ab)(σ:ar)(K:ab->ar->Prop):Prop:=K (.list vs) σ∨∀a,σ a=none->K (.ref a) (σ.set a (.list vs))
theorem jA.fresh{K:ab->ar->Prop}(G:bq X σ κ s)(ha:a=s.heap.objs.size)(k:∀b o,s.heap.get? b=some o->s'.heap.get? b=some o)(ho:s'.os=s.os)(hg:s'.gens=s.gens)
  (hl:gO s'.heap a ys.toArray) (hv:aO (aj σ κ) s.heap vs ys) (hK:Lu vs σ K):jA X σ κ s K (.ref a) s':=by
 subst ha;rcases hK with hK | hK
 ·exact .ext G k ho hg (.list (iL G) hl.list (hv.mono (gP k))) hK
 ·have bA:∃ob,s'.heap.get? s.heap.objs.size=some ob:=aD hl λo e J=>⟨o,e⟩
  exact ⟨_,_,κ,G.oh (o:= .list vs) k bA ho hg ⟨ys,hl,hv.mono (Cz k)⟩, .oh k, .raw _,hK _ (iL G).1⟩
theorem jA.own{K:ab->ar->Prop}(G:bq X σ κ s)(k:∀b ob,s.heap.get? b=some ob->s'.heap.get? b=some ob)(bA:∃ob,s'.heap.get? s.heap.objs.size=some ob)(ho:s'.os=s.os)(hg:s'.gens=s.gens)
  (jp:pr (aj (σ.set s.heap.objs.size o) κ) κ s'.heap s.heap.objs.size o) (hK:∀a,σ a=none->K (.ref a) (σ.set a o)):jA X σ κ s K (.ref s.heap.objs.size) s' :=
 ⟨_,_,κ,G.oh k bA ho hg jp, .oh k, .raw _,hK _ (iL G).1⟩
noncomputable def Ex:ee->Option Nat
 | .list vs=>some vs.length
 | .di b=>some b.length
 | _=>none
noncomputable def ug(σ:ar)(v:ab):Option Nat:=xA none (λv=>(tx v).bind λa=>(σ a).bind Ex) (λJ=>none) (λb=>some b.length) (λl=>some l.length) (λl=>some l.length) v
theorem rY(h:σ a=some (.list vs)):ug σ (.ref a)=some vs.length:=by
 refine (?_:(σ a).bind Ex=_);exact aa h rfl
theorem jB{f:Value}(hf:∀a,f≠ .ref a){K:ab->ar->Prop}(h:∀A κ s y,cL n A->bq X σ κ s->am (aj σ κ) s.heap v y->wpAny X.M A (call f [y]) (jA X σ κ s K) (λJ J=>False) s):aB X n (.raw f) [v] [] K σ :=
 Ew hf λA κ s ys hr G hv=>by
  obtain ⟨y,ys,rfl,h1,hv⟩:=hv.cons_inv;cases hv.nil_inv;exact ba (h A κ s y hr G h1)
theorem zZ{f:Value}(hf:∀a,f≠ .ref a){w:ab}{K:ab->ar->Prop}(h:∀A κ s y z,cL n A->bq X σ κ s->am (aj σ κ) s.heap v y->am (aj σ κ) s.heap w z->wpAny X.M A (call f [y,z]) (jA X σ κ s K) (λJ J=>False) s):aB X n (.raw f) [v,w] [] K σ :=
 Ew hf λA κ s ys hr G hv=>by
  obtain ⟨y,ys,rfl,h1,hv⟩:=hv.cons_inv;obtain ⟨z,ys,rfl,h2,hv⟩:=hv.cons_inv;cases hv.nil_inv;exact ba (h A κ s y z hr G h1 h2)
theorem ZM{w:cu}{l:Addr}{items:Array Value}(hl:s.heap.IsTuple l items)(zI:items.size≤1000000)
  (h:∀t k,Q (.int items.size t) {s with toks:=k}):wpAny (model prog w) A (call (.builtin "len") [.ref l]) Q E s:=by
 have hT:=hl.typeIs
 obtain ⟨o,ho,hc,m,hd⟩:=id hl;refine Calls.call_function_entry kind_len plain_len entry_len (args_len1 _) (aw (m:=oneArg "len" _) (aV ?_));refine aw (m:=callSpecial? (.ref l) (be "__len__")) (wpAny_callSpecial?_slot (name:=be "__len__") hT ZN (zx ZN hT PySem.F.entry_tuple_len (PySem.F.args_tuple_len_1 _)
  (S:=λJ R s'=>s'=s/\R (.ok (.ret (.int items.size s.toks))) {s with toks:=s.toks+1}) (.of_wp λprog w A R s' hs=> ?_) ⟨rfl, ?_⟩))
 ·obtain ⟨rfl,hR⟩:=hs;refine aw (dW (a:=(.ref l,[])) rfl ?_);refine aw (aw (lu ho hd (aV ?_)));exact aw (zP (aV ⟨_,rfl,hR⟩))
 refine (?_:wpAny _ _ _ _ _ {s with toks:=s.toks+1});refine bG (λq=>kA (dW (rfl:asIndex (.int (items.size:Int) s.toks)=pure (items.size:Int)) q)) (aw (wP ?_));refine oB (jV.mpr (et _)) (oB (KU.mpr (nm (dU.mpr zI) (by decide))) ?_);exact aw (zP (aV ⟨_,rfl,h _ _⟩))
theorem size_eq{U h}(r:aO U h vs ys):ys.toArray.size=vs.length:=r.length.symm
theorem cx{K:ab->ar->Prop}(hv:ug σ v=some k)(hk:k≤1000000)(hK:K (.int k) σ):aB X n (.raw (.builtin "len")) [v] [] K σ:=by
 refine jB (λJ=>gS) λA κ s y hr G h=> ?_
 have lst:∀{a} {vs:List ab} {ys:List Value},s.heap.IsList a ys.toArray->aO (aj σ κ) s.heap vs ys->vs.length=k->wpAny X.M A (call (.builtin "len") [.ref a]) (jA X σ κ s K) (λJ J=>False) s:=λhl aL e=>by
  have e:=(size_eq aL).trans e
  exact Calls.call_len_list hl (nm (dU.mpr (e▸hk)) (by decide)) (.same G rfl rfl rfl (e▸ .int _ _) hK)
 rcases v with v | _ | _ | _ | _ | _ | _ | _<;>first | exact nn hv | skip
 ·refine aD (cQ.mp hv) λa h1 hv=>aD (cQ.mp hv) λo ho hv=> ?_;cases B6 h1;cases h.bU
  have own:=G.own a _ ho
  rcases o with ⟨⟩<;>first | exact nn hv | skip
  ·exact aD (own) λys hl aL=>lst hl.list aL (aN hv)
  ·cases aN hv;exact YJ own hk (.same G rfl rfl rfl (.int _ _) hK)
 ·obtain ⟨t,rfl⟩:=h.inv;cases aN hv;exact PySem.W.len_bytes (by refine aa fI ?_;exact ag hk (nb rfl)) (.same G rfl rfl rfl (.int _ _) hK)
 ·refine eM (h.inv) λa ys bQ J hl aL=> ?_;subst bQ;exact lst hl aL (aN hv)
 ·refine eM (h.inv) λa ys bQ J hl aL=> ?_;subst bQ
  have e:=(size_eq aL).trans (aN hv)
  exact ZM hl (e▸hk) λt k=> .same G rfl rfl rfl (e▸ .int _ _) hK
theorem Lv{b:Bool}{K:ab->ar->Prop}(hK:K (.int (if b then 1 else 0)) σ):aB X n (.raw (.type "int")) [.bool b] [] K σ:=by
 refine jB (λJ=>gS) λA κ s y hr G h=> ?_;cases h.bU;exact call_int_bool (.same G rfl rfl rfl (.int _ _) hK)
theorem Lw(G:bq X σ κ s)(hv:eX σ v=some vs)(h:am (aj σ κ) s.heap v y):∃a o ys m,y= .ref a/\s.heap.get? a=some o/\(o.cls= .type "list" ∨o.cls= .type "tuple")/\o.data= .seq (Ey ys) m/\aO (aj σ κ) s.heap vs ys:=by
 rcases zA G hv h with ⟨r,o,e,c,m,d⟩ | ⟨r,o,e,c,m,d⟩
 ·exact ⟨_,o,_,m,rfl,e, .inl c,d,r⟩
 ·exact ⟨_,o,_,m,rfl,e, .inr c,d,r⟩
theorem Lx{K:ab->ar->Prop}(hv:eX σ v=some vs)(aU:vs.length≤1000000)(hK:Lu vs σ K):aB X n (.raw (.type "list")) [v] [] K σ:=by
 refine jB (λJ=>gS) λA κ s y hr G h=>Pd (Lw G hv h) λa o zs m wC e c d aL=> ?_;subst wC
 have hz:zs.toArray.size≤sizeLine:=by refine aa fI (ao aL.length ?_);exact fg aU
 rcases c with c | c
 ·exact call_list_seq a (T:= "list") (.inl rfl) e c d (λh' c' hk hD=> .fresh G rfl hk rfl rfl ⟨_,hD,rfl,rfl,c',rfl⟩ aL hK) hz
 ·exact call_list_seq a (T:= "tuple") (.inr rfl) e c d (λh' c' hk hD=> .fresh G rfl hk rfl rfl ⟨_,hD,rfl,rfl,c',rfl⟩ aL hK) hz
theorem ZO{K:ab->ar->Prop}(hv:eX σ v=some vs)(aU:vs.length≤1000000)(hK:K (.tuple vs) σ):aB X n (.raw (.type "tuple")) [v] [] K σ:=by
 refine jB (λJ=>gS) λA κ s y hr G h=> ?_
 have lst:∀{a} {zs:List Value},s.heap.IsList a zs.toArray->aO (aj σ κ) s.heap vs zs->wpAny X.M A (call (.type "tuple") [.ref a]) (jA X σ κ s K) (λJ J=>False) s:=λ{a zs} hl aL =>
  call_tuple_list hl (λh' hk=>by
   have k:∀b ob,s.heap.get? b=some ob->(h'.push {cls:= .type "tuple",data:= .seq zs.toArray}).get? b=some ob:=λb ob q=>fy _ (hk b ob q)
   exact .ext G k rfl rfl (.tuple (iL (G.ext (s':={s with heap:=h'}) hk rfl rfl)) ⟨_,cV _ rfl,rfl,0,rfl⟩ (aL.mono (gP k))) hK) (ao ((size_eq aL).symm) (fg aU))
 refine eX.of (C:=λv=>am (aj σ κ) s.heap v y->wpAny X.M A (call (.type "tuple") [y]) (jA X σ κ s K) (λJ J=>False) s) hv (λr=> ?_) (λr=> ?_) (λa q r=> ?_) h
 ·obtain ⟨a,ys,rfl,_,l,h⟩:=r.inv;exact lst l h
 ·refine eM (r.inv) λa ys bQ J l h=> ?_;subst bQ;exact call_tuple_same l (.same G rfl rfl rfl r hK)
 ·cases r.bU;exact aD (G.own _ _ q) λitems hl aL=>lst hl.list aL
end
section
variable{X:Cx}{n:Nat}
theorem wX{h:Heap}:∀{ys:List Value},aO U h (ns.map .int) ys->wY ys ns:=by
 induction ns with
 | nil=>exact λr=>by cases r.nil_inv;exact .nil
 | cons n ns ih =>
  intro ys r;obtain ⟨y,ys,rfl,h1,h2⟩:=r.cons_inv;obtain ⟨t,rfl⟩:=h1.inv;exact .cons _ _ (ih h2)
theorem ZP{h:Heap}(r:wY ys ns):aO U h (ns.map .int) ys:=by
 induction r with
 | nil=>exact .nil
 | cons n t _ ih=>exact .cons (.int _ _) ih
theorem z0{i:Int}{K:ab->ar->Prop}(h0:0≤i)(h1:i≤1000000)(hK:K (.bytes (ci i.toNat 0)) σ):aB X n (.raw (.type "bytes")) [.int i] [] K σ:=by
 refine jB (λJ=>gS) λA κ s y hr G h=> ?_;obtain ⟨_,rfl⟩:=h.inv;exact D7 (.int i _ h0 h1) λt k=> .same G rfl rfl rfl (.bytes _ _) hK
theorem rZ{K:ab->ar->Prop}(hK:K (.bytes b) σ):aB X n (.raw (.type "bytes")) [.bytes b] [] K σ:=by
 refine jB (λJ=>gS) λA κ s y hr G h=> ?_;obtain ⟨t,rfl⟩:=h.mN;exact D7 (.bytes b t) λt k=> .same G rfl rfl rfl (.bytes _ _) hK
theorem ZQ{K:ab->ar->Prop}(ha:σ a=some (.di b))(hb:b.length≤1000000)(hK:K (.bytes b) σ):aB X n (.raw (.type "bytes")) [.ref a] [] K σ:=by
 refine jB (λJ=>gS) λA κ s y hr G h=> ?_;cases h.bU;exact D7 (.di a b (G.own a _ ha) hb) λt k=> .same G rfl rfl rfl (.bytes _ _) hK
theorem wZ{K:ab->ar->Prop}(hb:b.length≤1000000)(hK:K (.bytes b) σ):aB X n (.raw (.type "bytes")) [.list (d3 b)] [] K σ:=by
 refine jB (λJ=>gS) λA κ s y hr G h=> ?_;obtain ⟨a,cs,rfl,u,hl,aL⟩:=h.inv
 have e:d3 b=(b.map λx=>(x.toNat:Int)).map .int:=by simp [d3]
 have hi:=wX (ao e aL)
 have aU:_=_:=aL.length
 refine call_bytes_ints hl hi (λn hn=> ?_) (by refine ao aU ?_;simp [d3];exact fg hb) hr.handled λh' t k hk=> .ext G hk rfl rfl ?_ hK
 ·obtain ⟨x,_,rfl⟩:=bJ.mp hn
  have:=x.toNat_lt
  exact ⟨et _,ir.mpr this⟩
 ·have:byteArr (b.map λx=>(x.toNat:Int))=b.toArray:=by
   simp only [byteArr,dj]
   congr 1
   exact (f0 λx J=>by simp).trans (Ly b)
  exact aa this (.bytes _ _)
theorem ZR{i:Int}{K:ab->ar->Prop}(h0:0≤i)(h1:i≤1000000)(hK:∀a,σ a=none->K (.ref a) (σ.set a (.di (ci i.toNat 0)))):aB X n (.raw (.type "bytearray")) [.int i] [] K σ:=by
 refine Ew (λJ=>gS) λA κ s ys hr G h=> ?_;obtain ⟨y,ys,rfl,hy,h⟩:=h.cons_inv;cases h.nil_inv;obtain ⟨_,rfl⟩:=hy.inv;exact KN (.int i _ h0 h1) λh' tk hS hk=> .own (o:= .di (ci i.toNat 0)) G hk ⟨_,hS⟩ rfl rfl hS hK
theorem oG(ha:σ a=some (.list vs)):vB X σ (.ref a) "append" (.builtin "list.append"):=λκ s y G hv A pl Q E q=>by
 cases hv.bU;obtain ⟨ys,⟨o,e,c,d,_⟩,_⟩:=G.own a _ ha;exact ba (Calls.getMethod_list_append e c d (q s rfl rfl rfl))
theorem uh{K:ab->ar->Prop}(ha:σ a=some (.list vs))(aU:vs.length≤1000000)(hK:K .none (σ.set a (.list (vs++ [v])))):aB X n (.raw (.builtin "list.append")) [.ref a,v] [] K σ:=by
 refine zZ (λJ=>gS) λA κ s y z hr G h h2=> ?_;cases h.bU;obtain ⟨ys,hl,aL⟩:=G.own a _ ha;refine Ij hl (λh' eG hs=> ?_) (ao ((size_eq aL).symm) (fg aU));obtain ⟨G',ev⟩:=G.change (s':={s with heap:=h'}) (d:=a) (o':= .list (vs++ [v])) ha (.inl rfl) (λb ob q g=>(hs.2 b q).trans g) (aD eG.list λob g J=>⟨ob,g⟩) (λS=>⟨ys++ [z],ao (Lz ys z) eG,(aL.append (.one h2)).mono S⟩)
  (λJ J J J J=>ee.noConfusion) rfl rfl
 exact ⟨.none,_,κ,G',ev, .raw _,hK⟩
theorem LA(hi:wY ys ns)(bz:0<ns.length):∃xs,ys.toArray=intItems xs/\ns=xs.toList.map (λz=>z.1)/\0<xs.size:=by
 obtain ⟨xs,e⟩:=hi.allInts.items
 have kE:ns=xs.toList.map (λz=>z.1):=ao hi.numsOf (ao (nums_intItems ..) (ao e rfl))
 exact ⟨xs,e,kE,by rwa [kE,aE,w0] at bz⟩
theorem LB{xs:Array (Int×Tok)}{j:Nat}(h:j<xs.size):numAt xs j∈xs.toList.map (λz=>z.1):=by
 exact aa (numAt_eq ..) (getD_mem (by refine aa (aE ..) (aa w0 ?_);exact h))
theorem LF{xs:Array (Int×Tok)}{a:Int}(ha:a∈xs.toList.map (λz=>z.1)):∃j,j≤xs.size - 1/\a=numAt xs j:=by
 obtain ⟨j,hj,rfl⟩:=mem_getD ha;rw [aE,w0] at hj
 exact ⟨j,ZS hj,aa (numAt_eq ..) rfl⟩
theorem ZT{K:ab->ar->Prop}(hv:v= .list (ns.map .int))(bz:0<ns.length)(hK:∀M,M∈ns->(∀a∈ns,M≤a)->K (.int M) σ):aB X n (.raw (.builtin "min")) [v] [] K σ:=by
 refine jB (λJ=>gS) λA κ s y hr G h=> ?_;subst hv;obtain ⟨a,cs,rfl,u,hl,aL⟩:=h.inv;obtain ⟨xs,e,kE,bN⟩:=LA (wX aL) bz;rw [e] at hl
 refine min_intList hr.handled hl bN λv h' tk hv hk=> ?_;obtain ⟨t,rfl⟩:=intItems_at hv;obtain ⟨h1,h2⟩:=argBest_lt (numAt xs) (xs.size - 1);refine .ext G hk rfl rfl (.int _ _) (hK _ (kE▸LB (eD h1 (ZU bN))) λa ha=> ?_);obtain ⟨j,hj,rfl⟩:=LF (kE▸ha);exact h2 j hj
theorem ZV{K:ab->ar->Prop}(hv:v= .list (ns.map .int))(bz:0<ns.length)(hK:∀M,M∈ns->(∀a∈ns,a≤M)->K (.int M) σ):aB X n (.raw (.builtin "max")) [v] [] K σ:=by
 refine jB (λJ=>gS) λA κ s y hr G h=> ?_;subst hv;obtain ⟨a,cs,rfl,u,hl,aL⟩:=h.inv;obtain ⟨xs,e,kE,bN⟩:=LA (wX aL) bz;rw [e] at hl
 refine max_intList hr.handled hl bN λv h' tk hv hk=> ?_;obtain ⟨t,rfl⟩:=intItems_at hv;obtain ⟨h1,h2⟩:=argBest_gt (numAt xs) (xs.size - 1);refine .ext G hk rfl rfl (.int _ _) (hK _ (kE▸LB (eD h1 (ZU bN))) λa ha=> ?_);obtain ⟨j,hj,rfl⟩:=LF (kE▸ha);exact h2 j hj
end
section
variable{X:Cx}{n:Nat}
theorem LG{a b:Int}{K:ab->ar->Prop}(hK:K (.int (min a b)) σ):aB X n (.raw (.builtin "min")) [.int a, .int b] [] K σ:=by
 refine zZ (λJ=>gS) λA κ s y z hr G h h2=> ?_;obtain ⟨_,rfl⟩:=h.inv;obtain ⟨_,rfl⟩:=h2.inv;refine min_two_ints hr.handled λh' tk hk=> ?_
 split
 ·rename_i q
  exact .ext G hk rfl rfl (.int _ _) (ao (Int.min_eq_right (on q)) hK)
 ·rename_i q
  exact .ext G hk rfl rfl (.int _ _) (ao (Int.min_eq_left (jV.mp q)) hK)
theorem ZW{a b:Int}{K:ab->ar->Prop}(hK:K (.int (max a b)) σ):aB X n (.raw (.builtin "max")) [.int a, .int b] [] K σ:=by
 refine zZ (λJ=>gS) λA κ s y z hr G h h2=> ?_;obtain ⟨_,rfl⟩:=h.inv;obtain ⟨_,rfl⟩:=h2.inv;refine max_two_ints hr.handled λh' tk hk=> ?_
 split
 ·rename_i q
  exact .ext G hk rfl rfl (.int _ _) (ao (KR (on q)) hK)
 ·rename_i q
  exact .ext G hk rfl rfl (.int _ _) (ao (Int.max_eq_left (jV.mp q)) hK)
theorem LH(ns:List Int):∀i,i≤ns.length->preSum (λj=>ns.getD j 0) i=(ns.take i).sum:=aiA ns
theorem ZX(h:∀x∈ns,0≤x/\x≤1000):0≤ns.sum/\ns.sum≤1000*ns.length:=by
 induction ns with
 | nil=>exact ⟨ZY _,ZY _⟩
 | cons x ns ih =>
  have h1:=h x (.head _)
  have h2:=ih λy hy=>h y (.tail _ hy)
  refine aH sd n0 (aa (Int.natCast_succ ..) (aa (Int.mul_add ..) (aa (T7 ..) ?_)));rewrite [vU x];exact ⟨Int.add_nonneg h2.1 h1.1,Int.add_le_add h2.2 h1.2⟩
theorem ZZ{K:ab->ar->Prop}(hn:∀x∈ns,0≤x/\x≤1000)(aU:ns.length≤1000000)(hK:K (.int ns.sum) σ):aB X n (.raw (.builtin "sum")) [.list (ns.map .int)] [] K σ:=by
 refine jB (λJ=>gS) λA κ s y hr G h=>eM (h.inv) λa cs bQ u hl aL=> ?_;subst bQ
 have hi:=wX aL
 obtain ⟨xs,e⟩:=hi.allInts.items
 have kE:ns=xs.toList.map (λz=>z.1):=ao hi.numsOf (ao (nums_intItems ..) (ao e rfl))
 have bN:ns.length=xs.size:=aa kE (aa (aE ..) (aa w0 rfl))
 have qh:numAt xs=λj=>ns.getD j 0:=by funext j;exact aa (numAt_eq ..) (aa kE rfl)
 rw [e] at hl
 refine sum_intList hr.handled hl (λj hj=> ?_) λh' tk t' hk=> ?_
 ·refine aa qh ?_
  have h1:0≤ns.getD j 0/\ns.getD j 0≤1000:=by
   have kB:j<ns.length:=bN▸hj
   rw [ui,bI kB];exact hn _ (mA _)
  have h2:=ZX (ns:=ns.take (j+1)) λx hx=>hn x (pp hx)
  refine aa (LH ns (j+1) (bN▸hj)) ?_
  have h3:(ns.take (j+1)).length≤1000000:=ag (by refine aa iY ?_;exact jX ..) aU
  unfold InLong;exact ⟨⟨il (by decide) h1.1,nm h1.2 (by decide)⟩,il (by decide) h2.1,nm (il h2.2 (Int.mul_le_mul_of_nonneg_left (dU.mpr h3) (by decide))) (by decide)⟩
 ·refine aa qh (aa (LH ns xs.size (b6 bN.symm)) (ao bN (aa kF ?_)));exact .ext G hk rfl rfl (.int _ _) hK
theorem LJ{bs:List Bool}{K:ab->ar->Prop}(hK:K (.bool (bs.all id)) σ):aB X n (.raw (.builtin "all")) [.list (bs.map .bool)] [] K σ:=by
 refine jB (λJ=>gS) λA κ s y hr G h=>eM (h.inv) λl cs bQ u hl aL=> ?_;subst bQ
 have aU:=aL.length
 rw [aE] at aU
 have bA:l≠s.heap.objs.size:=by obtain ⟨o,e,_⟩:=hl;exact dB (cR e)
 refine call_all_walk (BM hl ⟨_,_,_,_,_,_,λi=>bs.getD i false,rfl,I1 (A:=A.in1) hr.handled _ l bA cs.toArray,⟨⟨_,cV _ rfl,rfl,rfl⟩,hl.push _⟩, ?_,λh' tk hk=> ?_⟩)
 ·intro i v s' Q E hP hQ;simp only [pM] at hP
  have hi:i<bs.length:=aa aU ((du.mp hP).1)
  refine aD (aL.get (i:=i) (v:= .bool bs[i]) (by rw [cW,bI hi];rfl)) λy e r=> ?_;rw [hP] at e;cases e
  cases r.bU;refine G9 ?_;dsimp only at hQ
  rw [ui,bI hi] at hQ
  exact hQ
 ·have e:(aK cs.toArray.size).all (λi=>bs.getD i false)=bs.all id:=by
   refine aa fI (ao aU ?_)
   have:bs=(aK bs.length).map λi=>bs.getD i false:=by
    apply w4
    intro i;rw [cW]
    by_cases q:i<bs.length
    ·rw [zt q];simp [bI q]
    ·rw [iy (fG q),iy (by simp;exact fG q)];rfl
   conv=>rhs;rw [this]
   exact aa Hu rfl
  exact aa e (.ext G (λb o g=>hk b o (λq=>by rw [dT.mp q] at g;exact absurd (cR g) (iM _)) (fy _ g)) rfl rfl (.raw _) hK)
noncomputable def insI(x:Int):List Int->List Int
 | []=> [x]
 | y::ys=>if x≤y then x::y::ys else y::insI x ys
theorem LK{x y:Int}{ys:List Int}:insI x (y::ys)=if x≤y then x::y::ys else y::insI x ys:=rfl
noncomputable def jC:List Int->List Int
 | []=> []
 | x::xs=>insI x (jC xs)
theorem insI_perm(x:Int)(ys):(insI x ys).Perm (x::ys):=by
 induction ys with
 | nil=>exact .refl _
 | cons y ys ih =>
  refine aa LK ?_
  by_cases q:x≤y
  ·exact aa (if_pos q) (.refl _)
  ·exact aa (if_neg q) ((ih.cons y).trans (.swap x y ys))
theorem se(xs):(jC xs).Perm xs:=by
 induction xs with
 | nil=>exact .refl _
 | cons x xs ih=>exact (insI_perm x _).trans (ih.cons x)
theorem Z0(x:Int)(ys):ys.Pairwise (λz cf=>z ≤ cf)->(insI x ys).Pairwise (λz cf=>z ≤ cf):=by
 induction ys with
 | nil=>exact λJ=>List.pairwise_singleton ..
 | cons y ys ih =>
  refine λh=>aa LK (dP (qc.mp h) λh1 h2=> ?_)
  by_cases q:x≤y
  ·exact aa (if_pos q) (qc.mpr ⟨λz hz=>(br.mp hz).elim (λe=>aa e q) λhz=>il q (h1 z hz),h⟩)
  ·exact aa (if_neg q) (qc.mpr ⟨λz hz=>(br.mp ((insI_perm x ys).mem_iff.mp hz)).elim (λe=>aa e (on (KU.mp q))) (h1 z),ih h2⟩)
theorem z7(xs):(jC xs).Pairwise (λz cf=>z ≤ cf):=by
 induction xs with
 | nil=>exact .nil
 | cons x xs ih=>exact Z0 x _ ih
theorem LL{xs:List Int}:∀{ys:List Int},xs.Perm ys->xs.Pairwise (λz cf=>z ≤ cf)->ys.Pairwise (λz cf=>z ≤ cf)->xs=ys:=by
 induction xs with
 | nil=>exact λ{ys} p _ _=>p.nil_eq
 | cons x xs ih =>
  intro ys p hx hy;rcases ys with _ | ⟨y,ys⟩
  ·exact p.eq_nil
  refine dP (qc.mp hx) λx1 x2=>dP (qc.mp hy) λy1 y2=> ?_
  have e:x=y:=JZ ((br.mp (p.mem_iff.mpr (.head _))).elim (λq=>Z1 q.symm) (x1 y)) ((br.mp (p.mem_iff.mp (.head _))).elim (λq=>Z1 q.symm) (y1 x))
  subst e;exact congrArg _ (ih p.cons_inv x2 y2)
theorem LM{xs ys:List Int}(p:ys.Perm xs)(h:ys.Pairwise (λz cf=>z ≤ cf)):ys=jC xs:=LL (p.trans (se xs).symm) h (z7 xs)
theorem Z2{w:cu}{x:Value}{vs:List Value}
  (hc:∀R:List Value->al->Prop,(∀h' tk ys,wY ys ns->(∀b o,s.heap.get? b=some o->h'.get? b=some o)->R ys {s with heap:=h',toks:=tk})->wpAny (model prog w) A.in1 (collect x) R E s)
  (mB:ns.length<64) (h:∀h' tk a ys,s.heap.get? a=none->h'.IsList a (Ey ys)->wY ys (jC ns)->(∀b o,s.heap.get? b=some o->h'.get? b=some o)->Q (.ref a) {s with heap:=h',toks:=tk}) :
  wpAny (model prog w) A (call (.builtin "sorted") [x]) Q E s:=by
 refine Calls.call_function_entry kind_sorted plain_sorted entry_sorted (args_sorted1 _) (aw (m:=checkCount "sorted" 1 1 _) (aV ?_));refine aw (hc _ λh' tk ys hI hk=> ?_)
 have hl:ys.length=ns.length:=Z3 hI
 refine aw (wpAny_newList ?_ (fg (ag (b6 hl) (ag (bS mB) (nb rfl)))))
 have Ez:(h'.push (seqObj "list" ys.toArray 0)).get? h'.objs.size=some (seqObj "list" ys.toArray 0):=cV _ rfl
 refine aw (kA (oj slot_list_sort ⟨_,Ez,rfl⟩ entry_list_sort (list_sort_tree Ez hI (hl▸mB) λout aiB a1 a2 a3=>⟨_,rfl, ?_⟩) (args_list_sort _)));refine aV ⟨_,rfl, ?_⟩;obtain ⟨e,he⟩:=sortedHeap_at (vs:=ys) (out:=out) Ez
 have hn:s.heap.get? h'.objs.size=none:=by
  cases q:s.heap.get? h'.objs.size with
  | none=>rfl
  | some o=>exact absurd (cR (hk _ _ q)) (iM _)
 refine h _ tk h'.objs.size out.toList hn ⟨_,he,rfl,e,by simp [seqObj]⟩ (ao (LM a2 a3) a1) λb o q=> ?_
 have bA:=cR (hk b o q)
 exact aa (sortedHeap_old (dB bA) (by rw [size_push'];exact pQ bA)) (fy _ (hk b o q))
end
section
variable{prog:dE}{w:cu}{A:cJ}{E:Value->al->Prop}{s:al}
theorem LN{l:Addr}{o:Obj}{T:String}{vs:List Value}{R:List Value->al->Prop}(hT:T= "list" ∨T= "tuple")(ho:s.heap.get? l=some o)(hc:o.cls= .type T)(hd:o.data= .seq vs.toArray m)
  (h:∀h',(∀b ob,s.heap.get? b=some ob->h'.get? b=some ob)->R vs {s with heap:=h'}) (bN:vs.length≤1000000):wpAny (model prog w) A (collect (.ref l)) R E s:=by
 unfold collect;refine aw (wpAny_runValue (wQ entry_proto_collect' ?_));refine (?_:wpAny _ _ (do again (.builtin "list.__iadd__" ⟨[<-newList [], .ref l],[]⟩)) _ _ s);refine aw (wpAny_newList (aV ⟨KO _ (by decide +kernel),wQ entry_list_iadd' ?_⟩) (by simp));refine (?_:wpAny _ _ (Z4 (.ref s.heap.objs.size) (.ref l) (.ref s.heap.objs.size)) _ _ {s with heap:=s.heap.push (seqObj "list" #[] 0)});unfold Z4
 have rE:(s.heap.push (seqObj "list" #[] 0)).get? l=some o:=fy _ ho
 refine aw (np (T:=T) ⟨o,rE,hc⟩ ?_)
 have ht:(YV (.ref s.heap.objs.size) (.ref l) || Value.type T==Value.type "list" || Value.type T==Value.type "tuple")=true:=by rcases hT with rfl | rfl<;>simp
 refine aa (if_pos ht) (aw (listItems_at rE hd ?_));refine aw (listItems_at (xs:= #[]) (n:=0) (cV _ rfl) rfl ?_);refine aa (if_neg (by simp)) (aw (listUpdate_at (xs:= #[]) (n:=0) (cV _ rfl) rfl ?_ (da _) (by have:=fg bN;simp;exact mr this)));refine aV ?_
 show wpAny (model prog w) A (do
   let o<-load s.heap.objs.size
   match o.data with
   | .seq xs _=>pure xs.toList
   | _=>unsupported "internal:collect") R E {s with heap:=(s.heap.push (seqObj "list" #[] 0)).update s.heap.objs.size (yU (λz=>z ++vs.toArray))}
 refine aw (qT (get?_update_seq (cV _ rfl) _) ?_);refine (?_:wpAny _ _ (pure ((#[]:Array Value)++vs.toArray).toList) R E _);exact aa (show ((#[]:Array Value)++vs.toArray).toList=vs by simp) (aV (h _ λb ob e=>(Heap.get?_update_other _ _ (fK (cR e))).trans (fy _ e)))
end
section
variable{X:Cx}{n:Nat}
theorem LO{x:Value}{K:ab->ar->Prop}(G:bq X σ κ s)
  (hc:∀R:List Value->al->Prop,(∀h' tk ys,wY ys ns->(∀b o,s.heap.get? b=some o->h'.get? b=some o)->R ys {s with heap:=h',toks:=tk})->wpAny X.M A.in1 (collect x) R (λJ J=>False) s)
  (mB:ns.length<64) (hK:K (.list ((jC ns).map .int)) σ):wpAny X.M A (call (.builtin "sorted") [x]) (jA X σ κ s K) (λJ J=>False) s:=by
 refine Z2 (vs:= []) hc mB λh' tk a ys ha hl hI hk=> ?_
 have u:aj σ κ a:=og λh=>by obtain ⟨o,e⟩:=G.lt a h;rw [ha] at e;cases e
 exact .ext G hk rfl rfl (.list u hl (ZP hI)) hK
theorem Z5{K:ab->ar->Prop}(hv:eX σ v=some (ns.map .int))(mB:ns.length<64)(hK:K (.list ((jC ns).map .int)) σ):aB X n (.raw (.builtin "sorted")) [v] [] K σ:=by
 refine jB (λJ=>gS) λA κ s y hr G h=> ?_;obtain ⟨a,o,zs,m,rfl,e,c,d,aL⟩:=Lw G hv h
 have hI:=wX aL
 have hl:=Z3 hI
 refine LO G (λR q=> ?_) mB hK;rcases c with c | c
 ·exact LN (.inl rfl) e c d (λh' hk=>q h' s.toks zs hI hk) (ag (b6 hl) (ag (bS mB) (by decide)))
 ·exact LN (.inr rfl) e c d (λh' hk=>q h' s.toks zs hI hk) (ag (b6 hl) (ag (bS mB) (by decide)))
theorem Z6{ks:List Int}{K:ab->ar->Prop}(mB:ks.length<64)(hK:K (.list ((jC ks).map .int)) σ):aB X n (.raw (.builtin "sorted")) [.dict ks vs] [] K σ:=by
 refine jB (λJ=>gS) λA κ s y hr G h=> ?_;obtain ⟨d,es,m,rfl,u,lo,hd,hn,Z7⟩:=h.inv;obtain ⟨zs,h1,h2,h3,h4⟩:=Kc X.prog X.w Z7
 have hz:(ks.zip zs).map (λz=>z.1)=ks:=aa (Kg (b6 h4)) rfl
 have qh:s.heap.DictAt (intKind X.prog X.w) d (ks.zip zs) m:=⟨_,es.toArray,hd,⟨rfl,rfl,rfl⟩,rfl,h2,by simpa using h1,by refine aa hz ?_;exact hn⟩
 have aU:(ks.zip zs).length=ks.length:=by refine aa sf ?_;exact gT (b6 h4)
 refine LO G (λR q=> ?_) mB hK;refine kdu_collect (kdl_dict (knd:=intKind X.prog X.w) (kvs:=ks.zip zs) (ep:=m) lo) hr.handled qh (by refine aa aU ?_;exact fg (ag (bS mB) (by decide))) λh' tk acc hk i4=>q h' tk acc.toList ?_ hk;refine kdy_ints (aa w0 (aa i4.1 (aa aU rfl))) λj v hv=> ?_;obtain ⟨k,x,hx,d5⟩:=i4.2 j v (by rw [<-Array.getElem?_toList];exact hv)
 have Z8:ks[j]? =some k:=by rw [<-hz,cW,hx];rfl
 refine ⟨k,Z8, ?_⟩;cases v<;>simp [PySem.intKind,zE] at d5
 exact ⟨_,aa d5 rfl⟩
end
section
open scoped Classical
class inductive i5 (aF aR:ar):Bool->List ab->List ab->Prop
 | same (v:ab):i5 aF aR false [v] [v]
 | list {a:Addr} {vs fo:List ab}:aF a=some (.list vs)->aR a=none->i5 aF aR true vs fo->i5 aF aR false [.raw (.ref a)] [.list fo]
 | inst {a C:Addr} {fs:List (Str×ab)} {fo:List ab}:aF a=some (.inst C fs)->aR a=none->i5 aF aR true (fs.map (λz=>z.2)) fo->i5 aF aR false [.raw (.ref a)] [.inst C ((fs.map (λz=>z.1)).zip fo)]
 | lists {vs fo:List ab}:i5 aF aR true vs fo->i5 aF aR false [.list vs] [.list fo]
 | tuples {vs fo:List ab}:i5 aF aR true vs fo->i5 aF aR false [.tuple vs] [.tuple fo]
 | nil:i5 aF aR true [] []
 | cons {v v':ab} {vs fo:List ab}:i5 aF aR false [v] [v']->i5 aF aR true vs fo->i5 aF aR true (v::vs) (v'::fo)
abbrev w5(aF aR:ar)(v v':ab):Prop:=i5 aF aR false [v] [v']
abbrev qi(aF aR:ar)(vs fo:List ab):Prop:=i5 aF aR true vs fo
theorem qi.refl:∀vs,qi aF aR vs vs:=by
 intro vs
 induction vs with
 | nil=>exact .nil
 | cons v vs ih=>exact .cons (.same v) ih
section
variable{X:Cx}
noncomputable def qj(aR:ar)(t:Tag):Tag:=match t with
 | .dict a=>if aR a=none then .none else .dict a
 | t=>t
noncomputable def cut(aR:ar)(κ:bM):bM:=λd=>qj aR (κ d)
theorem w7{b:Addr}(h:κ b= .none):cut aR κ b= .none:=congrArg (qj aR) h
theorem LP{C:Tag->Prop}(h:aR a=none->C .none)(h':aR a≠none->C (.dict a)):C (qj aR (.dict a)):=if q:aR a=none then Eq.substr (p:=C) (if_pos q) (h q) else Eq.substr (p:=C) (if_neg q) (h' q)
theorem Z9{L:Addr}:∀{t:Tag},qj aR t= .frame L↔t= .frame L
 | .none | .frame _ | .tab=>Iff.rfl
 | .dict _=>LP (C:=λu=>u=Tag.frame L↔_) (λ_=>⟨bZ,bZ⟩) λ_=>Iff.rfl
theorem z8{b L:Addr}:cut aR κ b= .frame L↔κ b= .frame L:=Z9
theorem aaa{b:Addr}(h:κ b= .tab):cut aR κ b= .tab:=congrArg (qj aR) h
theorem aab{b:Addr}(h:κ b= .dict a)(ha:aR a≠none):cut aR κ b= .dict a:=(congrArg (qj aR) h).trans (if_neg ha)
theorem aac:∀{t:Tag},qj aR t= .dict a->t= .dict a/\aR a≠none
 | .none | .frame _ | .tab=>bZ
 | .dict c=>LP (C:=λu=>u=Tag.dict a->_) (λ_=>bZ) λq e=>⟨e,ao (Tag.dict.inj e) q⟩
theorem aad{b:Addr}(h:cut aR κ b= .dict a):κ b= .dict a/\aR a≠none:=aac h
theorem bq.restrict(G:bq X aF κ s)(hs:∀a o,aR a=some o->aF a=some o):bq X aR (cut aR κ) s/\bg (λJ=>False) aF κ s.heap aR (cut aR κ) s.heap:=by
 have hn:∀b,aF b=none->aR b=none:=λb e=>by
  cases q:aR b with
  | none=>rfl
  | some o=>rw [hs b o q] at e;cases e
 have hu:∀b,aj aF κ b->aj aR (cut aR κ) b:=λb u=>⟨hn b u.1,w7 u.2⟩
 have S:c7 (aj aF κ) s.heap (aj aR (cut aR κ)) s.heap:=λb o u e=>⟨hu b u,e⟩
 refine ⟨{
  keep:=G.keep
  os:=G.os
  gens:=G.gens
  tabs:=G.tabs.bd S λJ J J e=>e
  base:=λb ob e=>⟨hn b (G.base b ob e).1,w7 (G.base b ob e).2⟩
  lt:=λb hb=>G.lt b λu=>hb (hu b u)
  fr:=λb L e=>z8.mpr (G.fr b L (z8.mp e))
  excl:=λb hb=>w7 (G.excl b (by
   cases q:aR b with
   | none=>exact absurd q hb
   | some o=>refine aa (hs b o q) ?_;simp))
  own:=λb ob e=>(G.own b ob (hs b ob e)).bd S (λJ g=>g) λd J z g=>⟨aab z (by refine aa e ?_;simp),g⟩
  dict:=λd b e=>by
   obtain ⟨e,q⟩:=aad e;obtain ⟨C,fs,z,g⟩:=G.dict d b e;refine ⟨C,fs, ?_,g⟩;cases y:aR b with
   | none=>exact absurd y q
   | some o=>exact ao z (aa (hs b o y) rfl)
  tab:=λt ht=>aaa (G.tab t ht)},S,λb ob L e J g=>⟨z8.mpr e,g⟩,λb ob L e g=>⟨.inl (z8.mpr e),ob,g⟩⟩
theorem EA{o:Option α}{a:α}(e:o=some a):o≠none:=λh=>nn (h.symm.trans e)
theorem VR.uj{h:Heap}(r:aO U h [v] ys):∃y,ys= [y]/\am U h v y :=
 eV r.cons_inv λy zs e r1 r2=>⟨y,e.trans (congrArg (λz=>y:: z) r2.nil_inv),r1⟩
theorem aae(G:bq X aF κ s)(hs:∀a o,aR a=some o->aF a=some o){b:Bool}{fo:List ab}(t:i5 aF aR b vs fo):∀{ys},aO (aj aF κ) s.heap vs ys->aO (aj aR (cut aR κ)) s.heap fo ys:=by
 have E:=(G.restrict hs).2.bd
 induction t with
 | same v=>intro ys r;exact r.mono E
 | nil=>intro ys r;exact r.mono E
 | cons h1 h2 i1 i2 =>
  intro ys r;obtain ⟨y,ys,rfl,r1,r2⟩:=r.cons_inv;exact (i1 (.one r1)).uj.elim λz q=> .cons ((tX q.1).1▸q.2) (i2 r2)
 | lists h i =>
  intro ys r;obtain ⟨y,rfl,r1⟩:=r.uj;obtain ⟨a,items,rfl,u,hl,hv⟩:=r1.inv;exact .one (.list (hl.elim λo g=>(E _ o u g.1).1) hl (i hv))
 | tuples h i =>
  intro ys r;obtain ⟨y,rfl,r1⟩:=r.uj;obtain ⟨a,items,rfl,u,hl,hv⟩:=r1.inv;exact .one (.tuple (hl.elim λo g=>(E _ o u g.1).1) hl (i hv))
 | list ho hn h i =>
  intro ys r;obtain ⟨y,rfl,r1⟩:=r.uj;cases r1.bU;exact aD (G.own _ _ ho) λitems hl hv=> .one (.list ⟨hn,w7 (G.excl _ (EA ho))⟩ hl.list (i hv))
 | inst ho hn h i =>
  intro ys r;obtain ⟨y,rfl,r1⟩:=r.uj;cases r1.bU;refine qK (G.own _ _ ho) λd es n e1 e2 e3 q=> ?_
  have aaf:aR d=none:=by
   rcases z:aR d with _ | o
   ·rfl
   ·exact bZ (e3.symm.trans (G.excl d (EA (hs d o z))))
  have aag:cut aR κ d= .none:=(congrArg (qj aR) e3).trans (if_pos hn)
  exact .one (.inst ⟨hn,w7 (G.excl _ (EA ho))⟩ ⟨aaf,aag⟩ e1 e2 (ZL q (i (ZJ q))))
inductive w8(K:ab->ar->Prop)(v:ab)(aF:ar):Prop
 | mk (v':ab) (aR:ar):(∀a o,aR a=some o->aF a=some o)->w5 aF aR v v'->K v' aR->w8 K v aF
theorem aB.out{n:Nat}{f:ab}{args:List ab}{dH:List (Str×ab)}{K:ab->ar->Prop}(h:aB X n f args dH (w8 K) σ):aB X n f args dH K σ:= .mk λA κ s y ys dI hr G hf hv hk=>by
 obtain ⟨h1,h2⟩:=h.run A κ s y ys dI hr G hf hv hk;refine ⟨h1,weak h2 λz s' q=> ?_⟩;obtain ⟨v,σ',κ',G',ev,vr,v',aR,hs,t,k⟩:=q;obtain ⟨G2,e2⟩:=G'.restrict hs;exact (aae G' hs t (.one vr)).uj.elim λy q=>⟨v',aR,_,G2,ev.trans e2,aa (tX q.1).1 q.2,k⟩
end
end
section
variable {C:Addr}{ov:ab}
section
variable{M:Model}{A:cJ}{E:Value->al->Prop}{s:al}
theorem oH{t:Sem α}{r:α}{Q:α->al->Prop}{h:Heap}(L:Looks M h t r)(k:∀b o,h.get? b=some o->s.heap.get? b=some o)(q:Q r s):ai M A t Q E s:=ba (L A Q E s k q)
theorem aah{h:Heap}{es:List DictEntry}(r:gz U h fs es)(e:dR x fs=none):getL x es=some none:=by
 unfold getL;rw [r.ind (P:=λfs es=>dR x fs=none->es.find? (λz=>z.key.isStr x)=none) (λJ=>rfl) (λ{y v hs t z fs es} _ _ ih e=>by
  rw [QO] at e
  by_cases q:x=y
  ·rw [if_pos q] at e;exact nn e.symm
  ·rw [if_neg q] at e
   rw [List.find?_cons,show (zF y t).isStr x=false from DM t q];exact ih e) e]
 simp [Kl r]
end
section
variable{X:Cx}{n:Nat}
theorem aai{P:ab->Prop}(hc:pz σ ov=some C)(hx:lV σ ov x=none)(h1:∀fs,dR x fs=none->P (.inst C fs))(h2:∀a fs,σ a=some (.inst C fs)->dR x fs=none->P (.ref a)):P ov:=by
 rcases ov with v | _ | _ | _ | _ | ⟨C',fs⟩ | _ | _<;>first | exact nn hc | skip
 ·rcases v with _ | _ | _ | _ | _ | _ | _ | _ | _ | _ | a<;>first | exact nn hc | skip
  change (match σ a with | some (.inst C _)=>some C | _=>none)=some C at hc
  change (match σ a with | some (.inst _ fs)=>dR x fs | _=>none)=none at hx
  rcases e:σ a with _ | o
  ·rw [e] at hc;exact nn hc
  rw [e] at hc hx
  rcases o with _ | _ | ⟨C',fs⟩<;>first | exact nn hc | skip
  obtain rfl:=aN hc;exact h2 a fs e hx
 ·obtain rfl:=aN hc;exact h1 fs hx
structure LQ(U:Addr->Prop)(h:Heap)(C:Addr)(x:Str)(y:Value)(p d:Addr)(es:List DictEntry)(m:Nat)(fs:List (Str×ab)):Prop where
 y:y= .ref p
 e:h.get? p=some (instObj C d)
 ed:h.get? d=some (dictOf es m)
 r:gz U h fs es
 n:dR x fs=none
theorem aaj(G:bq X σ κ s)(hc:pz σ ov=some C)(hx:lV σ ov x=none)(hv:am (aj σ κ) s.heap ov y):∃p d es m fs,LQ (aj σ κ) s.heap C x y p d es m fs:=by
 refine aai (P:=λov=>am (aj σ κ) s.heap ov y->∃p d es m fs,LQ (aj σ κ) s.heap C x y p d es m fs) hc hx (λfs hn hv=> ?_) (λa fs z hn hv=> ?_) hv
 ·refine Gy hv.inv λa d es n bb J J e ed r=> ?_;subst bb;exact ⟨a,d,es,n,fs,rfl,e,ed,r,hn⟩
 ·exact qK (G.own a _ z) λd es m e ed J r=>⟨a,d,es,m,fs,hv.bU,e,ed,r,hn⟩
theorem w9(ok:fb X){f:Addr}(hm:py C x=some f)(hc:pz σ ov=some C)(hx:lV σ ov x=none):vB X σ ov x (.ref f):=λκ s y G hv A pl Q E q=>by
 refine pd (ok.meths C x f hm) λhp hf ht=> ?_;obtain ⟨p,d,es,m,fs,M⟩:=aaj G hc hx hv;obtain rfl:=M.y;refine ba (method_fn (ok.K.keeps G.keep) (C:=C) (od:=some (dictOf es m)) ⟨M.e,rfl,rfl,M.ed⟩ (Km (name:=x) hp).1 (Km (name:=x) hp).2 hf (beq_iff_eq.mp ht) ?_ (q s rfl rfl rfl));refine (?_:(lookIn x (dictOf es m)).map (λz=>z.isSome)=some false);refine aa (lookIn_dict ..) (aa (aah M.r M.n) ?_);rfl
theorem bq.aak{σ':ar}{κ':bM}{N:Addr}{H:Heap}(G:bq X σ κ s)(hN:s.heap.objs.size=N)(EB:κ' N= .dict (N+1))(ne:∀b,b≠N->κ' b=κ b)(sN:σ' (N+1)=some (.inst C []))(xa:∀b,b≠N+1->σ' b=σ b)(k:∀b ob,s.heap.get? b=some ob->H.get? b=some ob)(e1:H.get? N=some emptyDict)(e2:H.get? (N+1)=some (instObj C N)):bq X σ' κ' {s with heap:=H}/\
  bg (λJ=>False) σ κ s.heap σ' κ' H:=by
 have lt:∀b ob,s.heap.get? b=some ob->b<N:=λb ob e=>ao hN (cR e)
 have z9:∀b,N≤b->σ b=none/\κ b= .none:=λb hb=>og λq=>by
  exact iH (G.lt b q) λo e=>absurd (lt _ _ e) (dC.mpr hb)
 have hu:∀b ob,aj σ κ b->s.heap.get? b=some ob->aj σ' κ' b:=λb ob u e=>by
  have l:=lt b ob e
  exact ⟨aa (xa b (dB (pQ l))) u.1,aa (ne b (dB l)) u.2⟩
 have S:c7 (aj σ κ) s.heap (aj σ' κ') H:=λb ob u e=>⟨hu b ob u e,k b ob e⟩
 refine ⟨{
  keep:=λb o e=>k b o (G.keep b o e)
  os:=G.os
  gens:=G.gens
  tabs:=G.tabs.bd S λt J o e=>k _ o e
  base:=λa o e=>hu a o (G.base a o e) (G.keep a o e)
  lt:=λa hn=>by
   by_cases q1:a=N
   ·exact aa q1 (⟨_,e1⟩)
   by_cases q2:a=N+1
   ·exact aa q2 (⟨_,e2⟩)
   exact iH (G.lt a λu=>hn ⟨aa (xa a q2) u.1,aa (ne a q1) u.2⟩) λob e=>⟨ob,k _ _ e⟩
  fr:=λa L e=>by
   by_cases q:a=N
   ·rw [q,EB] at e;exact bZ e
   rw [ne a q] at e
   have:=G.fr a L e
   exact aa (ne L (λz=>by rw [z,(z9 N (cg _)).2] at this;exact bZ this)) this
  excl:=λa e=>by
   by_cases q2:a=N+1
   ·refine aa q2 (aa (ne _ (I6 N)) ?_);exact (z9 (N+1) (md N)).2
   rw [xa a q2] at e
   have q1:a≠N:=λz=>by rw [z] at e;exact e (z9 N (cg _)).1
   exact aa (ne a q1) (G.excl a e)
  own:=λa o e=>by
   by_cases q2:a=N+1
   ·subst q2;rw [sN] at e
    cases e;exact ⟨N,[],0,e2,e1,EB, .yd⟩
   rw [xa a q2] at e
   exact (G.own a o e).bd S (λob g=>k a ob g) λd ob q g=>⟨aa (ne d (dB (lt _ _ g))) q,k d ob g⟩
  dict:=λd a e=>by
   by_cases q:d=N
   ·subst q;replace e:=EB▸e;cases e;exact ⟨C,[],sN,e2⟩
   rw [ne d q] at e
   refine jg (G.dict d a e) λC' fs z g=> ?_
   have l:=lt _ _ g
   exact ⟨C',fs,aa (xa a (dB (pQ l))) z,k _ _ g⟩
  tab:=λt ht=>by
   have h:=G.tab t ht
   refine aa (ne _ (λz=>by rw [z,(z9 N (cg _)).2] at h;exact bZ h)) ?_;exact h},S,λb ob L e J g=>⟨aa (ne b (dB (lt _ _ g))) e,k b ob g⟩,λb ob L e g=>⟨.inl (aa (ne b (dB (lt _ _ g))) e),ob,k b ob g⟩⟩
theorem bq.aal(G:bq X σ κ s):∃κ',bq X (σ.set (s.heap.objs.size+1) (.inst C [])) κ' {s with heap:=(s.heap.push emptyDict).push (instObj C s.heap.objs.size)}/\
  bg (λJ=>False) σ κ s.heap (σ.set (s.heap.objs.size+1) (.inst C [])) κ' ((s.heap.push emptyDict).push (instObj C s.heap.objs.size)) :=
 ⟨λb=>if b=s.heap.objs.size then .dict (s.heap.objs.size+1) else κ b,G.aak rfl (if_pos rfl) (λb q=>if_neg q) (if_pos rfl) (λb q=>if_neg q) (λb ob e=>fy _ (fy _ e)) (fy _ (cV _ rfl)) (by
  have:=cV (o:=instObj C s.heap.objs.size) (s.heap.push emptyDict) rfl
  rwa [ot] at this)⟩
theorem aam(G:bq X σ κ s):σ (s.heap.objs.size+1)=none:=by
 cases e:σ (s.heap.objs.size+1) with
 | none=>rfl
 | some o =>
  obtain ⟨ob,q⟩:=G.lt (s.heap.objs.size+1) λu=>by replace e:=u.1▸e;cases e
  exact absurd (cR q) (dC.mpr (md _))
theorem cL.make{dF:List Value}{kw:List (Str×Value)}(r:cL (n+1) A):cL n (A.under (.builtin "type.__call__" ⟨.ref C::dF,kw⟩)) :=
 ⟨r.handled,by have:=r.depth;show A.depth+1+_≤_;exact ye this (nb rfl),by
  have:=r.units
  have e:(A.under (.builtin "type.__call__" ⟨.ref C::dF,kw⟩)).units=A.units+1:=by rfl
  refine aa e ?_;exact ye this (nb rfl)⟩
theorem call_cls(ok:fb X){f:Addr}(hi:B5.lookup C=some f){args:List ab}{dH:List (Str×ab)}{K:ab->ar->Prop}
  (h:∀a,σ a=none->aB X n (.ref f) (.ref a::args) dH (λv σ'=>v= .none/\K (.ref a) σ') (σ.set a (.inst C []))):aB X (n+1) (.ref C) args dH K σ:=by
 refine pd (ok.yQ C f hi) λhm hf ht=>⟨λA κ s y ys dI hr G hy hv DB=> ?_⟩;cases hy.bU
 have lq:=ok.K.keeps G.keep
 have Y:=makes_of (M:=X.M) lq hm
 refine Gx Y.obj λoc od cd sl hC e1 e2 e4=>⟨⟨.machine,λA' Q E q=> ?_⟩, ?_⟩
 ·unfold keeperOf;refine fH (λq=>vc hC q) (aq (oH Y.call (λJ J e=>e) ?_));exact aM q
 refine pf (kU rfl ?_);refine fH (λq=>vc hC q) (fH (λq=>oH Y.call (λJ J e=>e) q) ?_);dsimp only;refine aa (tc_bind ..) (aq (aM (aq (aM ?_))));refine aM (a:=Fin.again (.call (.builtin "type.__call__") ⟨.ref C::ys,_⟩)) (yo rfl ?_);refine kU rfl (aq (ba (check_slot tc_kind tc_split Y.typ (tc_args _ _ _) ?_)));refine aM ⟨KO _ (by decide +kernel),D3 (by decide +kernel) entry_typeCall ?_⟩;unfold f8.«type.__call__»;refine kC rfl (fH (λq=>oH (((aan (part:=none) hC).andThen .now).andThen .now) (λJ J e=>e) q) ?_);refine kC e4 (aq (oH Y.made (λJ J e=>e) ?_));refine aq (aM ?_);obtain ⟨hh,g,d,t,os⟩:=s;refine fH (λq=>bH (pf (GK (new_K (init:= .ref f) Y (looks_findIn lq hf) (.inl rfl) q)))) ?_;dsimp only;refine aD (G.aal (C:=C)) λκ' G' ev=> ?_
 have k:∀b o,hh.get? b=some o->((hh.push emptyDict).push (instObj C hh.objs.size)).get? b=some o:=λb o e=>fy _ (fy _ e)
 have hx:((hh.push emptyDict).push (instObj C hh.objs.size)).get? (hh.objs.size+1)=some (instObj C hh.objs.size):=by heap_get
 have t1:Looks X.M ((hh.push emptyDict).push (instObj C hh.objs.size)) (typeOf (.ref (hh.objs.size+1))) (.ref C):=(aan hx).andThen .now
 refine fH (λq=>aq (oH t1 (λJ J e=>e) (oH (Y.self.keeps k) (λJ J e=>e) q))) (kC rfl ?_);refine aq (bH ?_);refine fH (λq=>aq (oH t1 (λJ J e=>e) (oH ((looks_findIn lq hf (M:=X.M)).keeps k) (λJ J e=>e) q))) (bH (aq (oH ((bind_fn lq (.ref (hh.objs.size+1)) ht (M:=X.M)).keeps k) (λJ J e=>e) ?_)));obtain ⟨-,q⟩:=(h (hh.objs.size+1) (aam G)).run _ κ' _ (.ref f) (.ref (hh.objs.size+1)::ys) dI hr.make G' (.raw _) (.cons (.raw _) (hv.mono ev.bd)) (DB.mono ev.bd);refine aq (aZ q (λz s' p=> ?_) λJ J x=>x.elim);obtain ⟨v,σ',bR,G2,aao,vr,rfl,hK⟩:=p;cases vr.bU;exact aM (aM ⟨_,σ',bR,G2,ev.trans aao, .raw _,hK⟩)
end
end
noncomputable def uk:List (Addr×Fn):= [
 (67,Q6),(88,Q7),(95,Q8),(102,Q9),(107,Ra),(114,Rb),(121,Rc),(128,Rd),(135,Re),
 (142,Rf),(149,Rg),(156,Rh),(163,Ri),(168,Rj),(173,Rk),(180,Rl),(185,Rm),(190,Rn),(195,Ro),
 (202,Rp),(207,Rq),(214,Rr),(221,Rs),(226,Rt),(231,Ru),(236,Rv),
 (250,Rx),(255,Ry),(262,Rz),(269,RA),(276,RB),(283,RC),(288,RD),(295,RE),(302,RG),
 (307,RH),(314,RI),(321,RJ),(328,RK),(335,RL),
 (356,RM),(363,RN),(370,RO),(377,RP),(384,RQ),(391,RR),(398,RS),(405,RT),
 (469,RU),(476,RV),(483,RX),(490,RY),(497,RZ),(504,R0),
 (527,R1),(534,R3),(541,R4),(548,R5),(596,R6),(610,R7),
 (652,R8),(666,R9),(673,Sc),(680,Sd),(687,Se),(694,Sf),(701,Sg),(708,Sh),(715,Si),(729,Sj),
 (750,Sk),(757,Sl),(764,Sm),(769,Sn),(776,So),(781,Cr),(786,Cs),(793,Sp),(798,l6),(805,H3)]
structure Ctx(X:Cx):Prop where
 ok:fb X
 hg:yR X l7
 fns:∀p∈uk,∃fd lam,pY X p.1 p.2 fd lam/\fd.defaults= .none
def i6(K:ab->ar->Prop)(fl:cq)(st:St):Prop:=match fl with
 | .ret v=>K v st.σ
 | .next=>K .none st.σ
 | _=>False
section
variable{X:Cx}{n:Nat}
theorem Ctx.call(C:Ctx X){f:Fn}(i:Nat)(e:uk[i]? =some (a,f)){args:List ab}{K:ab->ar->Prop}(hl:args.length=f.params)
  (h:dA X n f.body (i6 K) {m:=args.map some++ci (f.ae - f.params) none,fz:= [],σ:=σ}):aB X (n+1) (.ref a) args [] K σ:=by
 obtain ⟨fd,lam,D,hd⟩:=C.fns (a,f) (cw e);exact DA C.ok (Ea C.ok) Ev C.hg D (Wr D.c hd hl) hl h
end
theorem dY:Guard [] st:=λJ=>nofun
section
variable{α ι:Type}{own:List (Addr×List ab)}{st:St}(bs:List Bool)
theorem aap{step:ab->St->(cq->St->Prop)->Prop}{K:cq->St->Prop}(g:α->ab)(S:ι->St)(l:List α):∀(P:Nat->ι->Prop) (x:ι),P 0 x->(∀i x,P i x->Guard own (S x))->
  (∀i a x (K':cq->St->Prop),l[i]? =some a->P i x->(∀y st',P (i+1) y->gE bs st'=S y->K' .next st')->(∀v st',K (.ret v) st'->K' (.ret v) st')->step (g a) (S x) K')->
  (∀x,P l.length x->K .next (S x))->pG own step K (l.map g) (S x):=by
 induction l with
 | nil=>exact λP x h0 hg J hK=>⟨hg 0 x h0,hK x h0⟩
 | cons a l ih=>exact λP x h0 hg hs hK=>⟨hg 0 x h0,hs 0 a x _ rfl h0 (λy st' hy e=>⟨bs,e▸ih (λi=>P (i+1)) y hy (λi=>hg (i+1)) (λi b x K' q=>hs (i+1) b x K' (aaq.trans q)) hK⟩) λJ J h=>h⟩
theorem loop{step:ab->St->(cq->St->Prop)->Prop}{K:cq->St->Prop}(l:List α)(g:α->ab)(S:ι->St)(P:Nat->ι->Prop)(x:ι)(h0:P 0 x)(hg:∀i x,P i x->Guard own (S x))
  (hs:∀i a x (K':cq->St->Prop),l[i]? =some a->P i x->(∀y st',P (i+1) y->gE bs st'=S y->K' .next st')->(∀v st',K (.ret v) st'->K' (.ret v) st')->step (g a) (S x) K')
  (hK:∀x,P l.length x->K .next (S x)) (e:items=l.map g:=by rfl) (e0:gE bs st=S x:=by rfl):Wk (pG own step K items) st :=
 e▸⟨bs,e0▸aap bs g S l P x h0 hg hs hK⟩
theorem jZ{step:ab->St->(cq->St->Prop)->Prop}{K:cq->St->Prop}(l:List α)(g:α->ab)(f:ι->α->ι)(S:ι->St)(P:Nat->ι->Prop)(x:ι)(h0:P 0 x)(hP:∀i a x,l[i]? =some a->P i x->P (i+1) (f x a))(hg:∀x,Guard own (S x))
  (hs:∀i a x (K':cq->St->Prop),l[i]? =some a->P i x->(∀y st',y=f x a->gE bs st'=S y->K' .next st')->(∀v st',K (.ret v) st'->K' (.ret v) st')->step (g a) (S x) K')
  (hK:P l.length (l.foldl f x)->K .next (S (l.foldl f x))) (e:items=l.map g:=by rfl) (e0:gE bs st=S x:=by rfl):Wk (pG own step K items) st :=
 loop bs l g S (λi y=>P i y/\y=(l.take i).foldl f x) x ⟨h0,rfl⟩ (λJ y J=>hg y) (λi a y K' q h k r=>hs i a y K' q h.1 (λz st' e=>k z st' ⟨e▸hP i a y q h.1,by refine aa oD (aa q (aa rU (ao h.2 ?_)));exact e⟩) r)
  (λy h=>by obtain ⟨h,rfl⟩:=h;rw [kF] at h ⊢;exact hK h) e e0
theorem aar{step:ab->St->(Option ab->St->Prop)->Prop}{K:List ab->St->Prop}(g:α->ab)(S:ι->St)(l:List α):∀(P:Nat->List ab->ι->Prop) (acc:List ab) (x:ι),P 0 acc x->(∀i acc x,P i acc x->Guard own (S x))->
  (∀i a acc x (K':Option ab->St->Prop),l[i]? =some a->P i acc x->(∀r y st',P (i+1) (acc++r.toList) y->gE bs st'=S y->K' r st')->step (g a) (S x) K')->
  (∀acc x,P l.length acc x->K acc (S x))->l4 own step K (l.map g) acc (S x):=by
 induction l with
 | nil=>exact λP acc x h0 hg J hK=>⟨hg 0 acc x h0,hK acc x h0⟩
 | cons a l ih=>exact λP acc x h0 hg hs hK=>⟨hg 0 acc x h0,hs 0 a acc x _ rfl h0 λr y st' hy e=>⟨bs,e▸by
   have go:=λrC hy=>ih (λi=>P (i+1)) rC y hy (λi=>hg (i+1)) (λi b acc x K' q=>hs (i+1) b acc x K' (aaq.trans q)) hK
   cases r with
   | none=>exact go acc (ao (iV acc) hy)
   | some v=>exact go (acc++ [v]) hy⟩⟩
theorem EC{step:ab->St->(Option ab->St->Prop)->Prop}{K:List ab->St->Prop}(l:List α)(g:α->ab)(S:ι->St)(P:Nat->List ab->ι->Prop)(x:ι)(h0:P 0 [] x)(hl:l.length≤100000)(hg:∀x,Guard own (S x))
  (hs:∀i a acc x (K':Option ab->St->Prop),l[i]? =some a->P i acc x->(∀r y st',P (i+1) (acc++r.toList) y->gE bs st'=S y->K' r st')->step (g a) (S x) K')
  (hK:∀acc x,P l.length acc x->K acc (S x)) (e:items=l.map g:=by rfl) (e0:st=S x:=by rfl):dQ items.length/\l4 own step K items [] st :=
 e▸⟨by refine aa (aE ..) ?_;exact ag hl (nb rfl),e0▸aar bs g S l P [] x h0 (λJ J x J=>hg x) hs hK⟩
theorem qk{step:ab->St->(Option ab->St->Prop)->Prop}{K:List ab->St->Prop}(l:List α)(g:α->ab)(f:α->Option ab)(hl:l.length≤100000)
  (hs:∀a∈l,∀(K':Option ab->St->Prop),(∀r st',r=f a->gE bs st'=st->K' r st')->step (g a) st K')
  (hK:K (l.filterMap f) st) (e:items=l.map g:=by rfl) (hg:Guard own st:=by exact dY):dQ items.length/\l4 own step K items [] st :=
 EC bs l g (λ(_:Unit)=>st) (λi acc J=>acc=(l.take i).filterMap f) () rfl hl (λJ=>hg) (λi a acc J K' q h k=>hs a (cw q) K' λr st' hr=>k r () st' (by
   refine aa oD (aa q (aa LR (aa h (aa hr ?_))));refine (?_:_=_++ [a].filterMap f);cases z:f a with
   | none=>refine aa (Ds z) ?_;rfl
   | some v=>refine aa (zn z) ?_;rfl)) (λacc J h=>by refine aa h (aa kF ?_);exact hK) e
theorem fh{step:ab->St->(Option ab->St->Prop)->Prop}{K:List ab->St->Prop}(l:List α)(g f:α->ab)(hl:l.length≤100000)
  (hs:∀a∈l,∀(K':Option ab->St->Prop),(∀v st',v=f a->gE bs st'=st->K' (some v) st')->step (g a) st K')
  (hK:K (l.map f) st) (e:items=l.map g:=by rfl) (hg:Guard own st:=by exact dY):dQ items.length/\l4 own step K items [] st :=
 qk bs l g (λx=>some (f x)) hl (λa ha K' k=>hs a ha K' λv st' h=>k _ st' (congrArg some h)) (List.filterMap_eq_map (f:=f)▸hK) e hg
end
theorem jj{ι:Type}{turn:(cq->St->Prop)->(St->Prop)->St->Prop}{K:cq->St->Prop}(bs:List Bool)(S:ι->St)(μ:ι->Nat)(P:ι->Prop)(x:ι)(hx:P x)
  (h:∀x (K':cq->St->Prop),P x->(∀y st',μ y<μ x->P y->gE bs st'=S y->K' .next st')->turn K' (K .next) (S x)) (e0:gE bs st=S x:=by rfl):pH turn K st :=
 ⟨S,μ,P,x,bs,hx,e0,λx hx=>h x _ hx λy J a b c=>⟨y,bs,a,b,c⟩⟩
theorem half{A B:Type}{turn:(cq->St->Prop)->(St->Prop)->St->Prop}{K:cq->St->Prop}{L:Nat->A->B->Nat->A}{op:A->B->A}{dbl:B->B}(h0:∀f x y,L 0 f x y=f)(hs:∀k f x y,L (k+1) f x y=if 0<y then L k (if y &&& 1=1 then op f x else f) (dbl x) (y / 2) else f)
  (ok:A->B->Prop) (LU:∀f x,ok f x->ok f (dbl x)/\ok (op f x) (dbl x)) (S:A->B->Nat->St) (f:A) (x:B) (y:Nat) (hy:y<256) (er:ok f x)
  (h:∀f' x' y' (K':cq->St->Prop),ok f' x'->y'<256->(0<y'->∀g st',g=(if y' &&& 1=1 then op f' x' else f')->st'=S g (dbl x') (y' / 2)->K' .next st')->(¬ 0<y'->f'=L 8 f x y)->turn K' (K .next) (S f' x' y')) (e0:st=S f x y:=by rfl):pH turn K st:=by
 refine jj (ι:=A×B×Nat×Nat) [] (λt=>S t.1 t.2.1 t.2.2.1) (λt=>t.2.2.2) (λt=>ok t.1 t.2.1/\(t.2.2.1<2^t.2.2.2/\t.2.2.2≤8)/\L t.2.2.2 t.1 t.2.1 t.2.2.1=L 8 f x y) (f,x,y,8) ⟨er,⟨hy,cg _⟩,rfl⟩ (λt K' P k=> ?_) e0;refine h t.1 t.2.1 t.2.2.1 K' P.1 (eB P.2.1.1 (LV (nb rfl) P.2.1.2)) (λq g st' hg e=> ?_) λq=> ?_
 ·have h2:=P.2.1
  have h4:=P.2.2
  rcases z:t.2.2.2 with _ | k'<;>rw [z] at h2 h4
  ·exact absurd h2.1 (dC.mpr q)
  ·refine k (g,dbl t.2.1,t.2.2.1 / 2,k') st' (z▸ju _) ⟨?_,⟨Nat.div_lt_of_lt_mul (ao (u4 ..) h2.1),ip h2.2⟩, ?_⟩ e
   ·refine aa hg ?_;split;exact (LU _ _ P.1).2;exact (LU _ _ P.1).1
   ·exact ao h4 (aa (hs ..) (aa (if_pos q) (aa hg rfl)))
 ·have h4:=P.2.2
  rcases z:t.2.2.2 with _ | k'<;>rw [z] at h4
  ·exact (h0 ..).symm.trans h4
  ·exact ao h4 (aa (hs ..) (aa (if_neg q) rfl))
theorem join{X:Cx}{n:Nat}{ι:Type}{i j:IS}{is:List IS}{K:cq->St->Prop}(S:ι->St)(P:ι->Prop)(h:∀(K':cq->St->Prop),(∀y st',P y->st'=S y->K' .next st')->(∀v st',K (.ret v) st'->K' (.ret v) st')->wpS X n i K' st)
  (h':∀y,P y->dA X n (j::is) K (S y)):dA X n (i::j::is) K st:=h _ (λy J hy e=>e▸h' y hy) λJ J h=>h
theorem LW(n:Nat):∀{lo:Int},lg lo n=(aK n).map λi=>ab.int (lo+(i:Nat)):=by
 induction n with
 | zero=>exact λ{lo}=>rfl
 | succ n ih =>
  intro lo;refine aa (show lg lo (n+1)= .int lo::lg (lo+1) n from rfl) (aa (ih (lo:=lo+1)) (aa B9 (aa eP (aa dj ?_))))
  congr 1
  ·simp
  ·refine f0 λi J=>(?_:ab.int _=ab.int _)
   congr 1;simp;exact (TV ..).trans (congrArg _ (vU ..))
theorem jl{i:Nat}{K:St->Prop}(h:K (st.jl i v))(e:n8 i st=true:=by rfl):pE i v st K:=cX.i e h
section
variable{a b:Nat}{A B:Prop}
theorem fi(h:a<b->A)(h':¬ a<b->B):bj (decide ((a:Int)<(b:Int))) A B:= .d (λq=>h (ir.mp q)) λq=>h' λz=>q (ir.mpr z)
theorem ql(h:a≤b->A)(h':¬ a≤b->B):bj (decide ((a:Int)≤(b:Int))) A B:= .d (λq=>h (dU.mp q)) λq=>h' λz=>q (dU.mpr z)
theorem sg(h:a=b->A)(h':a≠b->B):bj (decide ((a:Int)=(b:Int))) A B:= .d (λq=>h (kG.mp q)) λq=>h' λz=>q (kG.mpr z)
theorem xb(h:a=b->B)(h':a≠b->A):bj (!decide ((a:Int)=(b:Int))) A B:=if q:a=b then .f (aa (decide_eq_true (kG.mpr q)) rfl) (h q) else .t (aa (decide_eq_false λz=>q (kG.mp z)) rfl) (h' q)
end
theorem dt{p:Prop} [Decidable p](h:p):decide p=true:=decide_eq_true h
theorem df{p:Prop} [Decidable p](h:¬ p):decide p=false:=decide_eq_false h
noncomputable def eJ(x:Nat):Nat:=if 127<x then (x*2) ^^^ 285 else x*2
noncomputable def i7:Nat->Nat->Nat->Nat->Nat
 | 0,f,_,_=>f
 | k+1,f,x,y=>if 0<y then i7 k (if y &&& 1=1 then f ^^^ x else f) (eJ x) (y / 2) else f
theorem aas{f x y:Nat}:i7 (k+1) f x y=if 0<y then i7 k (if y &&& 1=1 then f ^^^ x else f) (eJ x) (y / 2) else f:=rfl
noncomputable def dm(x y:Nat):Nat:=i7 8 0 x y
noncomputable def um:Nat->Nat->Nat->Nat->Nat
 | 0,f,_,_=>f
 | k+1,f,x,y=>if 0<y then um k (if y &&& 1=1 then dm f x else f) (dm x x) (y / 2) else f
theorem aat{f x y:Nat}:um (k+1) f x y=if 0<y then um k (if y &&& 1=1 then dm f x else f) (dm x x) (y / 2) else f:=rfl
noncomputable def gq(x y:Nat):Nat:=um 8 1 x y
noncomputable def qm(x:Nat):Nat:=gq x 254
theorem sh{x:Nat}(h:x<256):eJ x<256:=by
 have:∀x:Fin 256,eJ x.1<256:=by decide +kernel
 exact this ⟨x,h⟩
theorem xc{x y:Nat}(h:x<256)(h':y<256):x ^^^ y<256:=Nat.xor_lt_two_pow (n:=8) h h'
theorem aau:∀{f x y:Nat},f<256->x<256->i7 k f x y<256:=by
 induction k with
 | zero=>exact λ{f x y} h _=>h
 | succ k ih =>
  intro f x y h h';refine aa aas ?_;split
  ·refine ih ?_ (sh h');split
   ·exact xc h h'
   ·exact h
  ·exact h
theorem qn{x y:Nat}(h:x<256):dm x y<256:=aau (by decide) h
theorem aav:∀{f x y:Nat},f<256->x<256->um k f x y<256:=by
 induction k with
 | zero=>exact λ{f x y} h _=>h
 | succ k ih =>
  intro f x y h h';refine aa aat ?_;split
  ·refine ih ?_ (qn h');split
   ·exact qn h
   ·exact h
  ·exact h
theorem ED{x y:Nat}(h:x<256):gq x y<256:=aav (by decide) h
theorem aaw{x:Nat}(h:x<256):qm x<256:=ED h
noncomputable abbrev ab.n(x:Nat):ab:= .int (x:Int)
theorem kn{K:ab->ar->Prop}{a b:Nat}(e:a=b)(h:K (.n a) σ):K (.n b) σ:=ao e h
theorem b8{x:Nat}(h:x<256):x≤2^31:=ag (bS h) (nb rfl)
theorem cY{x:Nat}(h:x≤1000000):((x:Int)).natAbs≤2^31:=ag h (nb rfl)
section
variable{X:Cx}(C:Ctx X){n:Nat}{x y:Nat}{K:ab->ar->Prop}{σ:ar}
include C
theorem LX(hx:x<256)(h:K (.n (eJ x)) σ):aB X (n+1) (.ref 142) [.n x] [] K σ :=
 C.call 9 rfl rfl (fi (a:=127) (b:=x) (λq=>⟨b8 hx,kn (K:=K) (if_pos q:eJ x=_) h⟩) λq=>⟨b8 hx,kn (K:=K) (if_neg q:eJ x=_) h⟩)
theorem Aa(hx:x<256)(hy:y<256)(h:K (.n (dm x y)) σ):aB X (n+2) (.ref 149) [.n x, .n y] [] K σ :=
 C.call 10 rfl rfl (half (L:=i7) (op:=(λz cf=>z ^^^ cf)) (dbl:=eJ) (λJ J J=>rfl) (λJ J J J=>rfl) (λf x=>f<256/\x<256) (λJ J h=>⟨⟨h.1,sh h.2⟩,xc h.1 h.2,sh h.2⟩) (λf x y=>{m:= [some (.n x),some (.n y),some (.n f)],fz:= [],σ:=σ}) 0 x y hy ⟨by decide,hx⟩
  λf x y K' ok hy k kd=>fi (a:=0) (b:=y) (λq=>sg (a:=y &&& 1) (b:=1) (λq2=>LX C ok.2 ⟨b8 hy,k q _ _ (if_pos q2).symm rfl⟩) λq2=>LX C ok.2 ⟨b8 hy,k q _ _ (if_neg q2).symm rfl⟩) λq=>kn (K:=K) (kd q).symm h)
theorem LY(hx:x<256)(hy:y<256)(h:K (.n (gq x y)) σ):aB X (n+3) (.ref 156) [.n x, .n y] [] K σ :=
 C.call 11 rfl rfl (half (L:=um) (op:=dm) (dbl:=λx=>dm x x) (λJ J J=>rfl) (λJ J J J=>rfl) (λf x=>f<256/\x<256) (λJ J h=>⟨⟨h.1,qn h.2⟩,qn h.1,qn h.2⟩) (λf x y=>{m:= [some (.n x),some (.n y),some (.n f)],fz:= [],σ:=σ}) 1 x y hy ⟨by decide,hx⟩
  λf x y K' ok hy k kd=>fi (a:=0) (b:=y) (λq=>sg (a:=y &&& 1) (b:=1) (λq2=>Aa C ok.1 ok.2 (Aa C ok.2 ok.2 ⟨b8 hy,k q _ _ (if_pos q2).symm rfl⟩)) λq2=>Aa C ok.2 ok.2 ⟨b8 hy,k q _ _ (if_neg q2).symm rfl⟩) λq=>kn (K:=K) (kd q).symm h)
theorem aax(hx:x<256)(h0:x≠0)(h:K (.n (qm x)) σ):aB X (n+4) (.ref 163) [.n x] [] K σ :=
 C.call 12 rfl rfl (sg (a:=x) (b:=0) (λq=>absurd q h0) λJ=>LY C (y:=254) hx (nb rfl) h)
theorem LZ(h1:w<3)(h2:p<m)(h3:m≤6)(h:K (.n (gq 2 (w*(m - 1 - p)))) σ):aB X (n+4) (.ref 214) [.n w, .n p, .n m] [] K σ:=by
 refine C.call 21 rfl rfl ?_
 have e:(m:Int) - 1 - (p:Int)=((m - 1 - p:Nat):Int):=by refine aa (nx (ZS h2)) (aa (nx (eD (da p) h2)) ?_);rfl
 have h5:m - 1 - p≤5:=ag (gJ ..) (aay h3 1)
 refine ⟨⟨cY (ag (bS h1) (nb rfl)),by refine aa e ?_;exact cY (ag h5 (nb rfl))⟩, ?_⟩;refine (?_:aB X (n+3) (.ref 156) [.int 2, .int ((w:Int)*((m:Int) - 1 - (p:Int)))] [] _ _);refine aa e ?_
 have:w*(m - 1 - p)≤2*5:=L1 (pe h1) h5
 exact LY C (x:=2) (nb rfl) (eD this (nb rfl)) h
end
theorem xd{n:Nat}(h:n≤1000000):lZ (some (.int (n:Int)))=some n:=by
 refine (?_:(if 0≤(n:Int)/\(n:Int)<2^40 then some ((n:Int)).toNat else none)=some n);exact aa (if_pos ⟨et _,nm (dU.mpr h) (by decide)⟩) (aa (mo ..) rfl)
theorem xe{n:Nat}(h:n≤1000000):l0 k (some (.int (n:Int)))=some n:=xd h
theorem lk{n:Nat}(h:yc n 1000000=true:=by rfl):dQ n:=sV h
theorem EE(h:vs.length≤1000000)(k:K (.list vs) st):fW vs st K:= .fz h k
theorem EF(h:vs.length≤1000000)(k:∀a,st.σ a=none->K (.ref a) (st.put (st.σ.set a (.list vs)))):fW vs st K:= .own h k
noncomputable def L2(x:UInt8):UInt8:=kH (eJ x.toNat)
theorem qo(x:UInt8):x.toNat<256:=UInt8.toNat_lt x
theorem Ab{n:Nat}(h:n<256):(kH n).toNat=n:=(UInt8.toNat_ofNat' ..).trans (Nat.mod_eq_of_lt h)
theorem L3(x:UInt8):(L2 x).toNat=eJ x.toNat:=Ab (sh (qo x))
noncomputable def j0(b:List UInt8):List UInt8:=b.map L2
noncomputable def uo(a b:List UInt8):List UInt8:=yG (λz cf=>z ^^^ cf) a b++a.drop b.length
noncomputable def d8(a b:List UInt8):List UInt8:=if a.length<b.length then uo b a else uo a b
noncomputable def qp:Nat->List UInt8->List UInt8->Nat->List UInt8
 | 0,f,_,_=>f
 | k+1,f,x,y=>if 0<y then qp k (if y &&& 1=1 then d8 f x else f) (j0 x) (y / 2) else f
theorem aaz{f x:List UInt8}{y:Nat}:qp (k+1) f x y=if 0<y then qp k (if y &&& 1=1 then d8 f x else f) (j0 x) (y / 2) else f:=rfl
noncomputable def mD(b:List UInt8)(f:Nat):List UInt8:=qp 8 (ci b.length 0) b f
theorem si(b:List UInt8):(j0 b).length=b.length:=aE ..
theorem L4{a:List UInt8}(h:b.length≤a.length):(uo a b).length=a.length:=by
 rewrite [uo];exact aa de (aa Er (aa f9 (aa (p6 h) (aa (lQ h) rfl))))
theorem ly(a b:List UInt8):(d8 a b).length=max a.length b.length:=by
 unfold d8;split
 ·next h=>exact aH (L4 (bS h)) (L5 (bS h)) rfl
 ·next h=>exact aH (L4 (fG h)) (L6 (fG h)) rfl
theorem aaA:∀{k:Nat} {f x:List UInt8} {y:Nat},f.length=x.length->(qp k f x y).length=x.length:=by
 intro k
 induction k with
 | zero=>exact λh=>h
 | succ k ih =>
  intro f x y h;refine aa aaz ?_;split
  ·refine (ih ?_).trans (si ..);refine aa (si ..) ?_;split
   ·exact aa (ly ..) (L5 (b6 h))
   ·exact h
  ·exact h
theorem sj(b:List UInt8)(f:Nat):(mD b f).length=b.length:=aaA (by simp)
theorem aaB(a b:List UInt8):q8 (d3 a) (d3 b)=(aC a b).map λp=>ab.tuple [.int p.1.toNat, .int p.2.toNat]:=by
 induction a generalizing b with
 | nil=>rfl
 | cons x a ih=>cases b with
  | nil=>rfl
  | cons y b=>exact congrArg _ (ih b)
theorem k5{a:Nat}(h:a≤1000):a≤100000:=ag h (nb rfl)
theorem k6{a:Nat}(h:a≤1000):a≤1000000:=ag h (nb rfl)
theorem aaC{f:α->ab}(h:l.length≤1000)(k:K (.list (l.map f)) st):fW (l.map f) st K:=EE (aa (aE ..) (k6 h)) k
theorem j3{ws:List ab}(e:vs=ws)(h:ws.length≤1000)(k:K (.list ws) st):fW vs st K:=e▸EE (k6 h) k
theorem xf(b:List UInt8):(d3 b).length=b.length:=aE ..
theorem aaD{l:Nat}(hl:l≤1000)(hb:b.length≤1000)(k:K (.bytes (b.drop l)) st):km (.bytes b) (some (.int (l:Int))) none st K :=
 .bytes b l b.length rfl (xd (k6 hl)) rfl (k6 hb) (aa kF k)
theorem L7{l:Nat}(hl:l≤1000)(hb:b.length≤1000000)(k:K (.bytes (b.take l)) st):km (.bytes b) none (some (.int (l:Int))) st K :=
 .bytes b 0 l rfl rfl (xe (k6 hl)) hb k
theorem aaE(b:List UInt8):b.map (λx=>ab.n (eJ x.toNat))=d3 (j0 b):=by
 unfold d3 j0;refine aa dj ?_;exact f0 λx J=>congrArg ab.n (L3 x).symm
theorem aaF(a b:List UInt8):(aC a b).map (λp=>ab.n (p.1 ^^^ p.2).toNat)=d3 (yG (λz cf=>z ^^^ cf) a b):=by
 unfold d3;simp [aC,aaG]
theorem EG{a:List UInt8}:(yG (λz cf=>z ^^^ cf) a b).length≤a.length:=aa Er (kD ..)
section
variable{X:Cx}(C:Ctx X){n:Nat}{K:ab->ar->Prop}{σ:ar}
include C
theorem EH(hb:b.length≤1000)(h:K (.bytes (j0 b)) σ):aB X (n+1) (.ref 168) [.bytes b] [] K σ :=
 C.call 13 rfl rfl (fh [false,true,true] b (λx=> .int x.toNat) (λx=> .n (eJ x.toNat)) (k5 hb) (λx J K' k=>fi (a:=127) (b:=x.toNat) (λq=>⟨b8 (qo x),k _ _ (congrArg ab.n (if_pos q).symm) rfl⟩) λq=>⟨b8 (qo x),k _ _ (congrArg ab.n (if_neg q).symm) rfl⟩)
  (j3 (aaE b) (by refine aa (xf ..) (aa (si ..) ?_);exact hb) (wZ (aa (si ..) (k6 hb)) h)))
theorem Ac{a:List UInt8}(ha:a.length≤1000)(hb:b.length≤1000)(h:K (.bytes (d8 a b)) σ):aB X (n+1) (.ref 173) [.bytes a, .bytes b] [] K σ :=
 C.call 14 rfl rfl (join (λy:List UInt8×List UInt8=>{m:= [some (.bytes y.1),some (.bytes y.2)],fz:= [],σ:=σ}) (λy=>K (.bytes (uo y.1 y.2)) σ/\y.1.length≤1000/\y.2.length≤1000)
  (λK' k J=>cx rfl (k6 ha) (cx rfl (k6 hb) (fi (λq=>k (b,a) _ ⟨by rwa [d8,if_pos q] at h,hb,ha⟩ rfl) λq=>k (a,b) _ ⟨by rwa [d8,if_neg q] at h,ha,hb⟩ rfl)))
  λy hy=>fh [false,false,true,true,true] (aC y.1 y.2) (λp=> .tuple [.int p.1.toNat, .int p.2.toNat]) (λp=> .n (p.1 ^^^ p.2).toNat) (aa sf (ag (kD ..) (k5 hy.2.1))) (λp J K' k=>k _ _ (congrArg ab.n (aaH ..).symm) rfl)
  (j3 (aaF y.1 y.2) (aa (xf ..) (ag EG hy.2.1)) (wZ (ag EG (k6 hy.2.1)) (cx rfl (k6 hy.2.2) (aaD hy.2.2 hy.2.1 (rZ ⟨by
   show _≤_
   refine aa f9 ?_;exact ag (fP (ag EG hy.2.1) (ag (gJ ..) hy.2.1)) (nb rfl),hy.1⟩))))) (aaB y.1 y.2))
theorem L8{f:Nat}(hb:b.length≤1000)(hf:f<256)(h:K (.bytes (mD b f)) σ):aB X (n+2) (.ref 180) [.bytes b, .n f] [] K σ :=
 C.call 15 rfl rfl (cx rfl (k6 hb) (z0 (et _) (dU.mpr (k6 hb))
  (half (L:=qp) (op:=d8) (dbl:=j0) (λJ J J=>rfl) (λJ J J J=>rfl) (λf x=>f.length≤1000/\x.length≤1000) (λf x h=>aH (si ..) (ly ..) (⟨h,uq.mpr h,h.2⟩))
   (λf x y=>{m:= [some (.bytes x),some (.n y),some (.bytes f)],fz:= [],σ:=σ}) (ci b.length 0) b f hf ⟨aa pV hb,hb⟩
   λf x y K' ok hy k kd=>fi (a:=0) (b:=y) (λq=>sg (a:=y &&& 1) (b:=1) (λq2=>Ac C ok.1 ok.2 (EH C ok.2 ⟨b8 hy,k q _ _ (if_pos q2).symm rfl⟩)) λq2=>EH C ok.2 ⟨b8 hy,k q _ _ (if_neg q2).symm rfl⟩)
    λq=>(congrArg (λz=>K z σ) (congrArg ab.bytes (kd q))).mpr h)))
end
theorem i8(n:Nat):lg 0 ((n:Int)).toNat=(aK n).map ab.n:=by
 refine aa (LW ..) (aa (mo ..) ?_);exact f0 λi J=>by show ab.int _=ab.int _;congr 1;simp
theorem L9(a b:Nat):lg (a:Int) ((b:Int) - (a:Int)).toNat=(ic a (b - a)).map ab.n:=by
 refine aa (LW ..) (aa (aaI ..) (aa List.range'_eq_map_range (aa dj ?_)));exact f0 λi J=>by show ab.int _=ab.int _;congr 1
theorem EI(g:α->ab):∀(l:List α) (i:Nat),l5 i (l.map g)=(l.zipIdx i).map λp=>ab.tuple [.n p.2,g p.1]:=by
 intro l
 induction l with
 | nil=>exact λJ=>rfl
 | cons x xs ih=>exact λi=>congrArg (ut _) (ih (i+1))
theorem zip_map(f:α->ab)(g:β->ab):∀(a:List α) (b:List β),q8 (a.map f) (b.map g)=(aC a b).map λp=>ab.tuple [f p.1,g p.2]:=by
 intro a
 induction a with
 | nil=>exact λb=>by cases b<;>rfl
 | cons x a ih =>
  intro b;rcases b with _ | ⟨y,b⟩
  ·rfl
  ·exact congrArg (ut _) (ih b)
theorem aaJ{x:Nat}:∀{l:List Nat},kl (.n x) (l.map .n)=some (decide (x∈l)):=by
 intro l
 induction l with
 | nil=>rfl
 | cons y l ih =>
  refine (congrArg (yE λb=>decide ((y:Int)=(x:Int)) || b) ih).trans (?_:some (decide ((y:Int)=(x:Int)) || decide (x∈l))=_);simp [kG,eq_comm]
theorem uu(f:β->α->β)(z:β){i:Nat}{a:α}(e:l[i]? =some a):(l.take (i+1)).foldl f z=f ((l.take i).foldl f z) a:=by
 refine aa oD (aa e (aa rU ?_));rfl
theorem ny{x:Nat}{l:List Nat}{k:Bool->Prop}(hv:eX σ v=some (l.map .n))(h:x∈l->k true)(h':x∉l->k false):vy σ (.n x) v k :=
 have e:(eX σ v).bind (kl (.n x))=some (decide (x∈l)):=aa hv aaJ
 if q:x∈l then ⟨true,e.trans (congrArg some (decide_eq_true q)),h q⟩ else ⟨false,e.trans (congrArg some (decide_eq_false q)),h' q⟩
def lz(σ:ar)(v:ab)(vs:List ab):Prop:=v= .list vs∨∃a,v= .ref a/\σ a=some (.list vs)
section
variable{σ:ar}{v:ab}{vs:List ab}(h:lz σ v vs)
include h
theorem lz.of{C:ab->Prop}(f:C (.list vs))(g:∀a,σ a=some (.list vs)->C (.ref a)):C v:=by
 rcases h with rfl | ⟨a,rfl,e⟩
 ·exact f
 ·exact g a e
omit h in
theorem oI(e:σ a=some (.list vs)):mY (σ a)=some vs:=aa e rfl
theorem lz.jS:Mine.Internal.jS σ v=some vs:=h.of (C:=λv=>Mine.Internal.jS σ v=some vs) rfl λJ e=>oI e
theorem lz.len:ug σ v=some vs.length:=h.of (C:=λv=>ug σ v=some vs.length) rfl λJ e=>rY e
theorem lz.guard(e:st.σ=σ):Guard (ownOf σ v) st:=h.of (C:=λv=>Guard (ownOf σ v) st) dY λa q p hp=>by
 rw [yz q] at hp
 exact aH (dT.mp hp) e q
omit h in
theorem Ad{i:Nat}{w:ab}(hb:i≤1000)(hi:vs[i]? =some w):pC (i:Int) vs=some w:=mX.i (Nat.ble_eq.mpr (eD hb (nb rfl))) hi
theorem lz.sub{i:Nat}{w:ab}{k:ab->Prop}(hi:vs[i]? =some w)(hb:i≤1000)(q:k w):bE (m0 σ v i) k :=
 bE.i (h.of (C:=λv=>m0 σ v i=some w) (Ad hb hi) λa e=>show (mY (σ a)).bind _=_ by refine aa (oI e) ?_;exact Ad hb hi) q
theorem lz.mono{σ':ar}(hs:∀a o,σ a=some o->σ' a=some o):lz σ' v vs:=h.elim .inl λ⟨a,e,q⟩=> .inr ⟨a,e,hs a _ q⟩
end
noncomputable def i9(r:List Nat)(f:Nat):List Nat:=r.map (λz=>dm z f)
noncomputable def kI(a b:List Nat):List Nat:=yG (λz cf=>z ^^^ cf) a b
noncomputable abbrev aJ(l:List Nat):ab:= .list (l.map .n)
noncomputable abbrev jD(l:List (List UInt8)):ab:= .list (l.map .bytes)
noncomputable def j4:Nat->List UInt8->List UInt8
 | 0,f=>f
 | n+1,f=>j0 (j4 n f)
theorem Ma{n:Nat}{f:List UInt8}:j4 (n+1) f=j0 (j4 n f):=rfl
theorem Ae(n:Nat)(f:List UInt8):(j4 n f).length=f.length:=by
 induction n with
 | zero=>rfl
 | succ n ih=>exact aa Ma (aa (si ..) (aa ih rfl))
noncomputable def iz(aW:List (List UInt8))(w:Nat):List UInt8:=aW.foldl (λf p=>d8 (j4 w f) p) []
def Short(aW:List (List UInt8)):Prop:=∀p∈aW,p.length≤1000
theorem aiC(h:Short aW)(w:Nat):(iz aW w).length≤1000:=by
 unfold iz
 suffices ∀(z:List UInt8),z.length≤1000->(aW.foldl (λf p=>d8 (j4 w f) p) z).length≤1000 from this [] (by simp)
 induction aW with
 | nil=>exact λz h=>h
 | cons p ps ih=>exact λz hz=>ih (λq hq=>h q (.tail _ hq)) _ (by refine aa (ly ..) (aa (Ae ..) ?_);have:=h p (.head _);exact uq.mpr ⟨hz,this⟩)
theorem Short.take(h:Short aW)(i:Nat):Short (aW.take i):=λp hp=>h p (pp hp)
noncomputable def Af(m w:Nat)(au:List Nat)(row:List UInt8)(ps:List (List UInt8×Nat)):List UInt8:=ps.foldl (λf p=>if p.2∈au then f else d8 f (mD p.1 (gq 2 (w*(m - 1 - p.2))))) row
noncomputable def kJ(aW:List (List UInt8))(au:List Nat)(w:Nat)(row:List UInt8):List UInt8:=Af aW.length w au row aW.zipIdx
theorem aaK(m w:Nat)(au:List Nat):∀(ps:List (List UInt8×Nat)) (row:List UInt8),row.length≤1000->(∀p∈ps,p.1.length≤1000)->(Af m w au row ps).length≤1000:=by
 intro ps
 induction ps with
 | nil=>exact λJ h J=>h
 | cons p ps ih=>exact λrow h hp=>ih _ (by
   show (if _ then _ else _:List UInt8).length≤_
   split
   ·exact h
   ·refine aa (ly ..) (aa (sj ..) ?_);have:=hp p (.head _);exact uq.mpr ⟨h,this⟩) λq hq=>hp q (.tail _ hq)
theorem zipIdx_get{i:Nat}{p:α×Nat}(h:l.zipIdx[i]? =some p):p.2=i/\l[i]? =some p.1:=by
 rw [aaL] at h
 cases e:l[i]? with
 | none=>rw [e] at h;simp at h
 | some a=>rw [e] at h;simp at h;subst h;exact ⟨rfl,rfl⟩
theorem rg(h:w≤1000): -2^30<(w:Int)/\(w:Int)<2^30:=⟨J0 (by decide) (et w),ir.mpr (eD h (nb rfl))⟩
theorem nz{f:α->β}{g:β->ab}(h:l.length≤1000)(k:K (.list ((l.map f).map g)) st):fW (l.map λx=>g (f x)) st K :=
 EE (aa (aE ..) (k6 h)) (by rw [dj] at k;exact k)
theorem nA{a:List α}{b:List β}(h:a.length≤k):(aC a b).length≤k:=aa sf (ag (kD ..) h)
theorem jE{n:Nat}(h:n≤k):(aK n).length≤k:=aa fj h
theorem aaM(n:Nat)(f:List UInt8):(aK n).foldl (λf J=>j0 f) f=j4 n f:=by
 induction n with
 | zero=>rfl
 | succ n ih=>refine aa Ag (aa rU (aa ih ?_));rfl
noncomputable def EJ(w:Nat)(f p:List UInt8):List UInt8:=d8 ((aK w).foldl (λf J=>j0 f) f) p
theorem Mb{f p:List UInt8}:EJ w f p=d8 (j4 w f) p:=congrArg (λz=>d8 z p) (aaM w f)
theorem aaN(aW:List (List UInt8))(w:Nat):aW.foldl (EJ w) []=iz aW w:=congrArg (λF=>aW.foldl F []) (funext λJ=>funext λJ=>Mb)
noncomputable def lA(aW:List (List UInt8))(p:Nat):List (List UInt8):=(aK p).map (iz aW)
noncomputable def Mc(m w:Nat)(au:List Nat)(f:List UInt8)(p:List UInt8×Nat):List UInt8:=if p.2∈au then f else d8 f (mD p.1 (gq 2 (w*(m - 1 - p.2))))
theorem Md(a b:List Nat):(aC a b).map (λp=>ab.n (p.1 ^^^ p.2))=(kI a b).map .n:=by
 unfold kI;simp [aC,aaG]
section
variable{X:Cx}(C:Ctx X){n:Nat}{K:ab->ar->Prop}{σ:ar}
include C
theorem aaO{r:List Nat}{f:Nat}(hr:∀x∈r,x<256)(hl:r.length≤1000)(hf:f<256)(h:K (aJ (i9 r f)) σ):aB X (n+3) (.ref 190) [aJ r, .n f] [] K σ :=
 C.call 17 rfl rfl (fh [false,false,true,true] r .n (λx=> .n (dm x f)) (k5 hl) (λx hx K' k=>Aa C (hr x hx) hf (k _ _ rfl rfl)) (nz hl h))
theorem aaP{a b:List Nat}(hl:a.length≤1000)(h:K (aJ (kI a b)) σ):aB X (n+1) (.ref 195) [aJ a,aJ b] [] K σ :=
 C.call 18 rfl rfl (fh [false,false,true,true,true] (aC a b) (λp=> .tuple [.n p.1, .n p.2]) (λp=> .n (p.1 ^^^ p.2)) (nA (k5 hl)) (λp J K' k=>k _ _ rfl rfl)
  (j3 (Md a b) (by refine ao (Md ..) (aa (aE ..) ?_);exact nA hl) h) (zip_map .n .n a b))
theorem aaQ(hp:Short aW)(hw:w≤1000)(h:K (.bytes (iz aW w)) σ):aB X (n+2) (.ref 202) [jD aW, .n w] [] K σ :=
 C.call 19 rfl rfl (jZ [false,false,false,true,true] aW .bytes (EJ w) (λf=>{m:= [some (jD aW),some (.n w),some (.bytes f),none,none],fz:= [],σ:=σ}) (λJ f=>f.length≤1000) [] (nb rfl)
  (λi a x e h=>by refine aa Mb (aa (ly ..) (aa (Ae ..) ?_));exact uq.mpr ⟨h,hp a (cw e)⟩) (λJ=>dY)
  (λi a x K' e hx k J=>⟨rg hw,jZ [false,false,false,false,true] (aK w) .n (λf J=>j0 f) (λf=>{m:= [some (jD aW),some (.n w),some (.bytes f),some (.bytes a),none],fz:= [],σ:=σ}) (λJ f=>f.length≤1000) x hx
   (λJ J x J h=>aa (si ..) h) (λJ=>dY) (λi j x K' e hx k J=>EH C hx (k _ _ rfl rfl)) (λhl=>Ac C hl (hp a (cw e)) (k _ _ rfl rfl)) (i8 w)⟩)
  λJ=>(congrArg (λz=>K z σ) (congrArg ab.bytes (aaN aW w))).mpr h)
theorem aaR(hp:Short aW)(hw:p≤1000)(h:K (jD (lA aW p)) σ):aB X (n+3) (.ref 207) [jD aW, .n p] [] K σ :=
 C.call 20 rfl rfl ⟨rg hw,fh [false,false,true,true] (aK p) .n (λw=> .bytes (iz aW w)) (jE (k5 hw)) (λx hx K' k=>aaQ C hp (ag (bS (fZ.mp hx)) hw) (k _ _ rfl rfl)) (nz (jE hw) h) (i8 p)⟩
theorem aaS{au:List Nat}{row:List UInt8}(hp:Short aW)(hl:aW.length≤6)(hw:w<3)(hr:row.length≤1000){pv:ab}(hv:lz σ pv (aW.map .bytes))(h:K (.bytes (kJ aW au w row)) σ) :
  aB X (n+5) (.ref 221) [pv,aJ au, .n w, .bytes row] [] K σ :=
 C.call 22 rfl rfl (bE.i hv.jS (jZ [false,false,false,false,false,true,true] aW.zipIdx (λp=> .tuple [.n p.2, .bytes p.1]) (Mc aW.length w au) (λf=>{m:= [some pv,some (aJ au),some (.n w),some (.bytes row),some (.bytes f),none,none],fz:= [],σ:=σ}) (λJ f=>f.length≤1000) row hr
  (λi a x e h=>by
   unfold Mc
   split
   ·exact h
   ·refine aa (ly ..) (aa (sj ..) ?_);exact uq.mpr ⟨h,hp _ (cw (zipIdx_get e).2)⟩) (λJ=>hv.guard rfl)
  (λi a x K' e hx k J=>ny (x:=a.2) (l:=au) rfl (λq=>k _ _ (if_pos q).symm rfl) λq=>cx hv.len (by refine aa (aE ..) ?_;exact k6 (ag hl (nb rfl))) (by
   have hz:=zipIdx_get e
   have hq:=hp _ (cw hz.2)
   refine aa (aE ..) ?_;exact LZ C hw (hz.1▸(du.mp hz.2).1) hl (L8 C hq (ED (nb rfl)) (Ac C hx (aa (sj ..) hq) (k _ _ (if_neg q).symm rfl))))) (λJ=>h) (EI .bytes aW 0)))
end
section
variable {r:List (List Nat)}
theorem bX:(σ.set a o) a=some o:=if_pos rfl
theorem bC{b:Addr}(h:b≠a):(σ.set a o) b=σ b:=if_neg h
theorem sk{o':ee}:(σ.set a o).set a o'=σ.set a o':=by
 funext b;unfold ar.set;by_cases h:b=a
 ·simp [h]
 ·simp [h]
theorem mE(h:σ a=none):∀b ob,σ b=some ob->(σ.set a o) b=some ob:=λb ob e=>by
 rw [bC];exact e
 rintro rfl;rw [h] at e;cases e
theorem mF{b:Addr}(h:(σ.set a o) b=none):b≠a/\σ b=none:=by
 unfold ar.set at h
 by_cases q:b=a
 ·rw [if_pos q] at h;cases h
 ·rw [if_neg q] at h;exact ⟨q,h⟩
theorem xg{K:ab->ar->Prop}(hs:∀b o,σ b=some o->aF b=some o)(h1:aF a=some (.list vs))(h0:σ a=none)(h:K (.list vs) σ):w8 K (.ref a) aF:=⟨_,σ,hs, .list h1 h0 (qi.refl vs),h⟩
theorem Me{K:ab->ar->Prop}(hs:∀b o,σ b=some o->aF b=some o)(h:K v σ):w8 K v aF:=⟨_,σ,hs, .same v,h⟩
theorem lB{i:Nat}{k:ab->Prop}(h:σ a=some (.list vs))(hi:vs[i]? =some v)(hb:i≤1000)(q:k v):bE (m0 σ (.ref a) (i:Int)) k :=
 bE.i (show (mY (σ a)).bind _=_ by refine aa (oI h) ?_;exact Ad hb hi) q
theorem oJ{i:Nat}{k:ab->Prop}(hi:vs[i]? =some v)(hb:i≤1000)(q:k v):bE (m0 σ (.list vs) (i:Int)) k:=bE.i (Ad hb hi) q
theorem uw{γ:Type}(l:List α)(p:α->Prop) [DecidablePred p](g:α->β)(h:β->γ):l.filterMap (λx=>if p x then none else some (h (g x)))=(l.filterMap λx=>if p x then none else some (g x)).map h:=by
 induction l with
 | nil=>rfl
 | cons x l ih =>
  refine aH lC lC ?_
  by_cases q:p x
  ·simp only [if_pos q];exact ih
  ·simp only [if_neg q,eP];exact congrArg _ ih
theorem app{X:Cx}{n:Nat}{f:α->ab}{x:α}{K:ab->ar->Prop}(e:v=f x)(hl:l.length≤1000000)(hK:K .none (σ.set a (.list ((l++ [x]).map f)))):aB X n (.raw (.builtin "list.append")) [.ref a,v] [] K (σ.set a (.list (l.map f))):=by
 subst e;refine uh bX (aa (aE ..) hl) (aa sk ?_);rw [gW] at hK
 exact hK
theorem aiD(f:α->Option β){i:Nat}{p:α}(e:l[i]? =some p):(l.take (i+1)).filterMap f=(l.take i).filterMap f++(f p).toList:=by
 refine aa oD (aa e (aa LR ?_));cases h:f p<;>simp [h]
noncomputable abbrev lD(l:List Nat):ab:= .tuple (l.map .n)
noncomputable def mx(l:List Nat):Nat:=l.foldr max 0
theorem aaT{l:List Nat}{x:Nat}(h:x∈l):x≤mx l:=by
 induction l with
 | nil=>exact absurd h eZ
 | cons y l ih=>exact (br.mp h).elim (λe=>ao e (EK ..)) λh=>ag (ih h) (Mf ..)
theorem Mg{l:List Nat}:l≠ []->mx l∈l:=by
 induction l with
 | nil=>exact λh=>absurd rfl h
 | cons y l ih =>
  intro _;rcases l with _ | ⟨z,l⟩
  ·simp [mx]
  have:=ih (Ej _ _)
  show max y (mx (z::l))∈_
  exact (wN y (mx (z::l))).elim (λq=>aa (L5 q) (.tail _ this)) λq=>aa (L6 q) (.head _)
noncomputable def oK(aY one:List Nat):List Nat:=one.filterMap λx=>if x∈aY then none else some x
noncomputable def mG(aY one:List Nat):Nat:=if oK aY one= [] then 0 else mx (oK aY one)+1
noncomputable def lE(aQ:Nat)(aY:List Nat)(most:Nat)(one:List Nat):List (List Nat) :=
 if one.length<most then (ic (mG aY one) (aQ - mG aY one)).filterMap λp=>if p∈aY then none else some (one++ [p]) else []
noncomputable def gr(aQ:Nat)(aY:List Nat)(most:Nat):Nat->List (List Nat)->Nat->Option (List (List Nat))
 | 0,_,_=>none
 | k+1,cn,i=>match cn[i]? with
  | none=>some cn
  | some one=>gr aQ aY most k (cn++lE aQ aY most one) (i+1)
theorem Mh{i:Nat}(e:cn[i]? =none):gr aQ aY most (k+1) cn i=some cn:=by
 refine (?_:(match cn[i]? with | none=>some cn | some one=>gr aQ aY most k (cn++lE aQ aY most one) (i+1))=_);exact aa e rfl
theorem Mi{i:Nat}{one:List Nat}(e:cn[i]? =some one):gr aQ aY most (k+1) cn i=gr aQ aY most k (cn++lE aQ aY most one) (i+1):=by
 refine (?_:(match cn[i]? with | none=>some cn | some one=>gr aQ aY most k (cn++lE aQ aY most one) (i+1))=_);exact aa e rfl
noncomputable def jF(aY:List Nat)(most:Nat):List (List Nat):=if aY.length≤most then [aY] else []
theorem aaU:∀{cn:List (List Nat)} {i:Nat} {r:List (List Nat)},gr aQ aY most k cn i=some r->cn.length≤r.length:=by
 induction k with
 | zero=>exact λh=>nn h
 | succ k ih =>
  intro cn i r h;rcases e:cn[i]? with _ | one
  ·rw [Mh e] at h;exact ao (aN h) (cg _)
  ·rw [Mi e] at h;exact ag (ag (cb ..) (b6 de.symm)) (ih h)
def Ah(aQ:Nat)(aY:List Nat)(most:Nat)(one:List Nat):Prop:=one.length≤most/\∀x∈one,x∈aY∨x<aQ
theorem aaV{one x:List Nat}(ho:Ah aQ aY most one)(h:x∈lE aQ aY most one):Ah aQ aY most x:=by
 unfold lE at h
 split at h
 ·obtain ⟨p,hp,e⟩:=oM.mp h;rw [qN] at hp
  split at e
  ·cases e
  ·cases e;refine ⟨by simp;exact ‹one.length<most›,λy hy=> ?_⟩;rcases ji.mp hy with hy | hy
   ·exact ho.2 y hy
   ·rw [dT] at hy;subst hy;exact .inr (aaW hp.2 (lQ (bS (Nat.lt_of_sub_pos (Nat.pos_of_lt_add_right (eD hp.1 hp.2))))))
 ·cases h
theorem aaX{one:List Nat}(ho:Ah aQ aY most one):mG aY one≤aQ:=by
 unfold mG
 split
 ·exact da _
 ·rename_i h
  obtain ⟨x,hx,e⟩:=oM.mp (Mg h)
  split at e
  ·cases e
  ·rename_i h2
   cases e;rcases ho.2 _ hx with h | h
   ·exact absurd h h2
   ·exact h
theorem Mj{i:Nat}{one:List Nat}(h:gr aQ aY most k cn i=some r)(e:cn[i]? =some one):0<k/\gr aQ aY most (k - 1) (cn++lE aQ aY most one) (i+1)=some r:=by
 cases k with
 | zero=>exact nn h
 | succ k=>rw [Mi e] at h;exact ⟨rQ k,h⟩
theorem aaY{i:Nat}(h:gr aQ aY most k cn i=some r)(e:cn[i]? =none):cn=r:=by
 cases k with
 | zero=>exact nn h
 | succ k=>rw [Mh e] at h;exact aN h
noncomputable def xh(aY one:List Nat)(acc:List (List Nat))(p:Nat):List (List Nat):=if p∈aY then acc else acc++ [one++ [p]]
theorem aaZ(aY one l:List Nat):∀acc,l.foldl (xh aY one) acc=acc++l.filterMap λp=>if p∈aY then none else some (one++ [p]):=by
 induction l with
 | nil=>exact λacc=>(iV acc).symm
 | cons p l ih =>
  intro acc;refine aa my (aa (ih ..) ?_);rewrite [xh];refine aa lC ?_
  by_cases q:p∈aY
  ·exact aa (if_pos q) (aa (if_pos q) rfl)
  ·refine aa (if_neg q) (aa (if_neg q) (aa (lj ..) ?_));rfl
theorem aa0{one:List Nat}{acc:List (List Nat)}(h:acc.length≤k):(xh aY one acc p).length≤k+1:=by
 unfold xh
 split
 ·exact mr h
 ·exact aa de (fT h)
theorem aa1{one:List Nat}:ab.tuple (one.map .n++ [.n p])=lD (one++ [p]):=(congrArg ab.tuple (gW (f:=ab.n) (l₁:=one) (l₂:= [p]))).symm
structure ux(aQ:Nat)(aY:List Nat)(most:Nat)(r:List (List Nat))(t:List (List Nat)×Nat×Nat):Prop where
 ok:∀one∈t.1,Ah aQ aY most one
 run:gr aQ aY most t.2.2 t.1 t.2.1=some r
theorem ux.init(hr:gr aQ aY most 100 (jF aY most) 0=some r):ux aQ aY most r (jF aY most,0,100):=⟨λone ho=>(by
 by_cases q:aY.length≤most
 ·rw [jF,if_pos q,dT] at ho
  subst ho;exact ⟨q,λx hx=> .inl hx⟩
 ·rw [jF,if_neg q] at ho;exact absurd ho eZ),hr⟩
theorem ux.next{i:Nat}{one:List Nat}(h:ux aQ aY most r (cn,i,k))(e:cn[i]? =some one):ux aQ aY most r (cn++lE aQ aY most one,i+1,k - 1) :=
 ⟨λx hx=>(ji.mp hx).elim (h.ok x) (aaV (h.ok one (cw e))),(Mj h.run e).2⟩
theorem aa2{l:List Nat}(h:l= []):n7 σ .NotEq (aJ l) (.list [])=some false:=h▸rfl
theorem ne_nil{l:List Nat}(h:l≠ []):n7 σ .NotEq (aJ l) (.list [])=some true:=by
 cases l with
 | nil=>exact absurd rfl h
 | cons=>rfl
section
variable{X:Cx}(C:Ctx X){n:Nat}{K:ab->ar->Prop}{σ:ar}
include C
theorem aa3(hr:gr aQ aY most 100 (jF aY most) 0=some r)(aU:r.length≤1000)(hm:aQ≤10)(aa4:most≤10)(c9:aY.length≤10)
  (h:K (.list (r.map lD)) σ):aB X (n+1) (.ref 236) [.n aQ,aJ aY, .n most] [] K σ:=by
 have hl:aY.length≤1000000:=ag c9 (nb rfl)
 let S:Addr×List (List Nat)->St:=λa=>{m:= [some (.n aQ),some (aJ aY),some (.n most),some (.ref a.1),none,none,none,none,none],fz:= [],σ:=σ.set a.1 (.list (a.2.map lD))}
 refine aB.out (C.call 25 rfl rfl (join S (λa=>σ a.1=none/\a.2=jF aY most)
  (λK' k J=>cx (k:=aY.length) (congrArg some (aE _)) hl (ql (λq=>ZO (vs:=aY.map .n) rfl (aa (aE ..) hl) (.own lk λa ha=>k (a,[aY]) _ ⟨ha,(if_pos q).symm⟩ rfl)) λq=> .own lk λa ha=>k (a,[]) _ ⟨ha,(if_neg q).symm⟩ rfl)) λ⟨a,fd⟩ ⟨ha,hf⟩=> ?_))
 subst hf
 let S:List (List Nat)×Nat×Nat->St:=λt=>{m:= [some (.n aQ),some (aJ aY),some (.n most),some (.ref a),some (.n t.2.1),none,none,none,none],fz:= [],σ:=σ.set a (.list (t.1.map lD))}
 refine jj [false,false,false,false,false,true,true,true,true] S (λz=>z.2.2) (ux aQ aY most r) (jF aY most,0,100) (.init hr) λt K' P k=> ?_;obtain ⟨cn,i,aa5⟩:=t
 have i0:cn.length≤1000:=ag (aaU P.run) aU
 refine cx (k:=cn.length) (aa (rY bX) (aa (aE ..) rfl)) (ag i0 (nb rfl)) (fi (λq=> ?_) λq=> ?_)
 ·have eo:cn[i]? =some cn[i]:=bI q
  generalize cn[i]=one at eo
  have er:=P.ok one (cw eo)
  have Ai:one.length≤10:=ag er.1 aa4
  have vS:(oK aY one).length≤1000:=ag (tW _ _) (ag Ai (nb rfl))
  let S2:Nat->St:=λb=>{m:= [some (.n aQ),some (aJ aY),some (.n most),some (.ref a),some (.n i),some (lD one),none,some (aJ (oK aY one)),some (.n b)],fz:= [],σ:=σ.set a (.list (cn.map lD))}
  refine lB bX (v:=lD one) (by rw [cW,eo];rfl) (ag (bS q) i0)
   (qk [false,false,false,false,false,false,false,false,false,true,true] one .n (λx=>if x∈aY then none else some (.n x)) (ag Ai (nb rfl)) (λx hx K' k=>ny (l:=aY) rfl (λq=>k _ _ (if_pos q).symm rfl) λq=>k _ _ (if_neg q).symm rfl)
   (j3 (uw one (λz=>z ∈aY) id ab.n) (aa (aE ..) vS) (join S2 (λb=>b=mG aY one)
    (λK' k J=> .fz lk ?_) λb hb=> ?_)))
  ·by_cases q4:oK aY one= []
   ·exact bE.i (v:=false) (aa2 q4) (k 0 _ (by rewrite [mG];exact aa (if_pos q4) rfl) rfl)
   ·refine bE.i (ne_nil q4) (ZV (ns:=(oK aY one).map λ(x:Nat)=>(x:Int)) (aa dj rfl) (aa (aE ..) (List.length_pos_iff.mpr q4)) λM hM ww=> ?_);obtain ⟨y,hy,rfl⟩:=bJ.mp hM
    have h1:(mx (oK aY one):Int)≤(y:Int):=ww _ (nt (Mg q4))
    have:y=mx (oK aY one):=yX (aaT hy) (dU.mp h1)
    exact k (y+1) _ (by rewrite [mG];exact aH (if_neg q4) this rfl) rfl
  ·subst hb
   have ef:=aaX er
   have hb:mG aY one≤10:=ag ef hm
   let S3:List (List Nat)->St:=λacc=>{m:= [some (.n aQ),some (aJ aY),some (.n most),some (.ref a),some (.n i),some (lD one),none,some (aJ (oK aY one)),some (.n (mG aY one))],fz:= [],σ:=σ.set a (.list (acc.map lD))}
   refine join S3 (λacc=>acc=cn++lE aQ aY most one)
    (λK' k J=>cx (k:=one.length) (congrArg some (aE _)) (ag Ai (nb rfl)) (fi (λq3=>⟨⟨(rg (ag hb (nb rfl))).1,(rg (ag hb (nb rfl))).2,rg (ag hm (nb rfl))⟩, ?_⟩) λq3=>k cn _ (by rewrite [lE];exact aa (if_neg q3) (aa (iV ..) rfl)) rfl)) λJ e=>e▸k (cn++lE aQ aY most one,i+1,aa5 - 1) _ (Mk (Mj P.run eo).1 (nb rfl)) (P.next eo) rfl
   refine jZ [false,false,false,false,false,false,true,false,false] (ic (mG aY one) (aQ - mG aY one)) .n (xh aY one) S3 (λj acc=>acc.length≤cn.length+j) cn (cg _)
    (λj p acc J h=>aa0 h) (λJ=>dY) (λj p acc K' ej i4 k J=>ny (l:=aY) rfl (λq=>k _ _ (if_pos q).symm rfl) λq=>⟨_,oG bX,⟨?_,app aa1 ?_ (k _ _ (if_neg q).symm rfl)⟩⟩) (λJ=>k _ _ (by refine aa (aaZ ..) ?_;rewrite [lE];exact aa (if_pos q3) rfl) rfl) (L9 _ _)
   ·show _≤_;refine aa (aE ..) ?_;exact ag (fT Ai) (nb rfl)
   ·have:=(du.mp ej).1
    rw [aa6] at this
    exact ag i4 (ag (fP i0 (ag (bS this) (ag (gJ ..) hm))) (nb rfl))
 ·have:=aaY P.run (iy (fG q))
  exact xg (mE ha) (this▸bX) ha h
end
end
section
variable {r:List Nat}
theorem Aj{i:Nat}{K:St->Prop}(h:st.σ a=some (.list vs))(hi:i<vs.length)(hb:i≤1000)(k:K (st.put (st.σ.set a (.list (vs.set i v))))):pD (.ref a) (.n i) v st K :=
 ⟨a,vs,i,rfl,h,rfl,⟨et i,ir.mpr (eD hb (nb rfl))⟩,hi,k⟩
theorem qq{i a:Nat}(h:(aK m)[i]? =some a):i=a/\i<m:=by
 obtain ⟨hi,e⟩:=du.mp h;rw [Ml] at e
 exact ⟨e,by rw [fj] at hi;exact hi⟩
theorem aa7{a b:Nat}(h:a≤1000)(h':b≤1000): -2^30<(a:Int)/\(a:Int)<2^30/\ -2^30<(b:Int)/\(b:Int)<2^30:=⟨(rg h).1,(rg h).2,rg h'⟩
theorem cZ{i:Nat}{d:α}(h:i<l.length):l.getD i d=l[i]:=by simp [ja,h]
noncomputable abbrev bl:=List (List Nat)
def iA(m:Nat)(r:List Nat):Prop:=r.length=m/\∀x∈r,x<256
def Sq(m:Nat)(L:bl):Prop:=L.length=m/\∀r∈L,iA m r
noncomputable def dJ(L:bl)(i:Nat):List Nat:=L.getD i []
noncomputable def gt(L:bl)(i j:Nat):Nat:=(dJ L i).getD j 0
noncomputable def fM(L:bl)(i p:Nat):bl:=(L.set i (dJ L p)).set p (dJ L i)
noncomputable def qr(i:Nat):List Nat->bl->bl->bl×bl
 | [],L,R=>(L,R)
 | p::ps,L,R=>if p=i then qr i ps L R else
  qr i ps (L.set p (kI (dJ L p) (i9 (dJ L i) (gt L p i)))) (R.set p (kI (dJ R p) (i9 (dJ R i) (gt L p i))))
theorem aa8{i:Nat}{ps:List Nat}{L R:bl}:qr i (p::ps) L R=if p=i then qr i ps L R else qr i ps (L.set p (kI (dJ L p) (i9 (dJ L i) (gt L p i)))) (R.set p (kI (dJ R p) (i9 (dJ R i) (gt L p i)))):=rfl
noncomputable def sm(m:Nat)(L:bl)(i:Nat):List Nat:=(ic i (m - i)).filterMap λp=>if gt L p i=0 then none else some p
noncomputable def uy(m:Nat):List Nat->bl->bl->Option bl
 | [],_,R=>some R
 | i::is,L,R=>(sm m L i).head?.bind λp=>let x:=qr i (aK m) ((fM L i p).set i (i9 (dJ (fM L i p) i) (qm (gt (fM L i p) i i)))) ((fM R i p).set i (i9 (dJ (fM R i p) i) (qm (gt (fM L i p) i i))))
   uy m is x.1 x.2
theorem aa9{i:Nat}{is:List Nat}{L R:bl}:uy m (i::is) L R=(sm m L i).head?.bind λp=>let x:=qr i (aK m) ((fM L i p).set i (i9 (dJ (fM L i p) i) (qm (gt (fM L i p) i i)))) ((fM R i p).set i (i9 (dJ (fM R i p) i) (qm (gt (fM L i p) i i))));uy m is x.1 x.2:=rfl
noncomputable def gid(m:Nat):bl:=(aK m).map λi=>(aK m).map λj=>if j=i then 1 else 0
noncomputable def qs(j5:bl):Option bl:=uy j5.length (aK j5.length) j5 (gid j5.length)
noncomputable def sn(i:Nat)(x:bl×bl)(p:Nat):bl×bl:=if p=i then x else (x.1.set p (kI (dJ x.1 p) (i9 (dJ x.1 i) (gt x.1 p i))),x.2.set p (kI (dJ x.2 p) (i9 (dJ x.2 i) (gt x.1 p i))))
theorem aa'(i:Nat)(ps:List Nat):∀L R,ps.foldl (sn i) (L,R)=qr i ps L R:=by
 induction ps with
 | nil=>exact λJ J=>rfl
 | cons p ps ih =>
  intro L R;refine aH my aa8 ?_;rewrite [sn]
  by_cases q:p=i
  ·exact aH (if_pos q) (if_pos q) (aa (ih ..) rfl)
  ·exact aH (if_neg q) (if_neg q) (aa (ih ..) rfl)
theorem iA.Ak(h:iA m r)(f:Nat):iA m (i9 r f):=⟨by rewrite [i9];refine aa (aE ..) ?_;exact h.1,λx hx=>by
 refine aD (bJ.mp hx) λy hy bb=> ?_;subst bb;exact qn (h.2 y hy)⟩
theorem iA.Mm{a b:List Nat}(h:iA m a)(h':iA m b):iA m (kI a b):=⟨by rewrite [kI];exact aa Er (aa h.1 (aa h'.1 (aa (rI ..) rfl))),λx hx=>by
 rw [kI,<-List.map_uncurry_zip_eq_zipWith] at hx
 obtain ⟨⟨y,z⟩,hy,rfl⟩:=bJ.mp hx;exact xc (h.2 _ (iB hy).1) (h'.2 _ (iB hy).2)⟩
theorem Sq.row{i:Nat}{L:bl}(h:Sq m L)(hi:i<m):iA m (dJ L i):=by
 unfold dJ;exact aa (cZ (by rw [h.1];exact hi)) (h.2 _ (mA _))
theorem Sq.get{i:Nat}{L:bl}(h:Sq m L)(hi:i<m):(L.map aJ)[i]? =some (aJ (dJ L i)):=by
 rw [cW,bI (aa h.1 hi),dJ,cZ (aa h.1 hi)];rfl
theorem iA.get{j:Nat}(h:iA m r)(hj:j<m):(r.map ab.n)[j]? =some (.n (r.getD j 0)):=by
 rw [cW,bI (aa h.1 hj),cZ (aa h.1 hj)];rfl
theorem iA.lt{j:Nat}(h:iA m r)(hj:j<m):r.getD j 0<256:=by
 exact aa (cZ (by rw [h.1];exact hj)) (h.2 _ (mA _))
theorem Sq.set{i:Nat}{L:bl}(h:Sq m L)(hr:iA m r):Sq m (L.set i r):=⟨aa kq h.1,λx hx=>by
 rcases aba hx with hx | rfl
 ·exact h.2 x hx
 ·exact hr⟩
theorem Sq.swap{i:Nat}{L:bl}(h:Sq m L)(hi:i<m)(hp:p<m):Sq m (fM L i p):=(h.set (h.row hp)).set (h.row hi)
theorem abb{i:Nat}{L:bl}(h:Sq m L)(hi:i<m)(hp:p<m):dJ (fM L i p) i=dJ L p:=by
 unfold fM
 by_cases q:p=i
 ·subst q;unfold dJ;rw [ui,vQ (by refine aa kq (aa h.1 ?_);exact hi)];rfl
 ·conv=>lhs;unfold dJ
  rw [ui,CJ q,vQ (aa h.1 hi)];rfl
theorem abc(m:Nat):Sq m (gid m):=⟨by simp [gid],λr hr=>by
 refine aD (bJ.mp hr) λi J bb=> ?_;subst bb;refine ⟨by simp,λx hx=> ?_⟩;refine aD (bJ.mp hx) λj J bb=> ?_;subst bb
 split<;>decide⟩
theorem Mn{L:bl}{i:Nat}:(L.map aJ).set i (aJ r)=(L.set i r).map aJ:=(abd ..).symm
noncomputable def TS(σ:ar)(a b:Addr)(L R:bl):ar:=(σ.set a (.list (L.map aJ))).set b (.list (R.map aJ))
theorem Mo{b:Addr}{L R:bl}(h:a≠b):TS σ a b L R a=some (.list (L.map aJ)):=by rewrite [TS];exact aa (bC h) (aa bX rfl)
theorem EL{b:Addr}{L R:bl}:TS σ a b L R b=some (.list (R.map aJ)):=bX
theorem abe{b:Addr}{L R:bl}{i:Nat}(h:a≠b):(TS σ a b L R).set a (.list ((L.map aJ).set i (aJ r)))=TS σ a b (L.set i r) R:=by
 refine aa Mn ?_
 funext c;unfold TS ar.set
 by_cases h1:c=a
 ·subst h1;simp [h]
 ·simp [h1]
theorem abf{b:Addr}{L R:bl}{i:Nat}:(TS σ a b L R).set b (.list ((R.map aJ).set i (aJ r)))=TS σ a b L (R.set i r):=by
 refine aa Mn ?_;rewrite [TS];refine aa sk ?_;rfl
structure xi(m:Nat)(x:bl×bl):Prop where
 l:Sq m x.1
 r:Sq m x.2
theorem xi.elim{i:Nat}{x:bl×bl}(h:xi m x)(hi:i<m)(hp:p<m):xi m (sn i x p):=by
 unfold sn
 by_cases q:p=i
 ·exact aa (if_pos q) h
 ·exact aa (if_neg q) (⟨h.l.set ((h.l.row hp).Mm ((h.l.row hi).Ak _)),h.r.set ((h.r.row hp).Mm ((h.r.row hi).Ak _))⟩)
structure EM(m:Nat)(r:bl)(i:Nat)(x:bl×bl):Prop where
 sq:xi m x
 go:uy m ((aK m).drop i) x.1 x.2=some r
noncomputable def Al(i p:Nat)(x:bl×bl):bl×bl:=((fM x.1 i p).set i (i9 (dJ (fM x.1 i p) i) (qm (gt (fM x.1 i p) i i))),(fM x.2 i p).set i (i9 (dJ (fM x.2 i p) i) (qm (gt (fM x.1 i p) i i))))
structure abg(m:Nat)(r:bl)(i:Nat)(x:bl×bl)(p:Nat)(ps:List Nat):Prop where
 pk:sm m x.1 i=p::ps
 lt:p<m
 ne:gt x.1 p i≠0
 go:uy m ((aK m).drop (i+1)) ((aK m).foldl (sn i) (Al i p x)).1 ((aK m).foldl (sn i) (Al i p x)).2=some r
theorem EM.step{i:Nat}{r:bl}{x:bl×bl}(P:EM m r i x)(hi:i<m):∃p ps,abg m r i x p ps:=by
 have e:=P.go
 rw [vM (aa fj hi),Ml,aa9] at e
 cases gu:sm m x.1 i with
 | nil=>rw [gu] at e;exact nn e
 | cons p ps =>
  rw [gu] at e
  have:p∈sm m x.1 i:=aa gu (.head _)
  refine aD (oM.mp this) λq hq eq=> ?_;rw [qN] at hq
  by_cases z:gt x.1 q i=0
  ·rw [if_pos z] at eq;exact nn eq
  ·replace eq:=(if_neg z)▸eq;cases eq;exact ⟨p,ps,gu,ao (lQ (bS hi)) hq.2,z,by rewrite [Al];refine aa (aa' ..) ?_;exact e⟩
section
variable{σ:ar}{a b:Addr}{L R:bl}{m i:Nat}{r:List Nat}
theorem u3(hi:i<m)(hm:m≤10):i≤1000:=ag (bS hi) (ag hm (nb rfl))
theorem qt{k:ab->Prop}(dc:a≠b)(hL:Sq m L)(hi:i<m)(hm:m≤10)(q:k (aJ (dJ L i))):bE (m0 (TS σ a b L R) (.ref a) (i:Int)) k:=lB (Mo dc) (hL.get hi) (u3 hi hm) q
theorem xj{k:ab->Prop}(hR:Sq m R)(hi:i<m)(hm:m≤10)(q:k (aJ (dJ R i))):bE (m0 (TS σ a b L R) (.ref b) (i:Int)) k:=lB EL (hR.get hi) (u3 hi hm) q
theorem EN{k:ab->Prop}{s:ar}(hr:iA m r)(hi:i<m)(hm:m≤10)(q:k (.n (r.getD i 0))):bE (m0 s (aJ r) (i:Int)) k:=oJ (hr.get hi) (u3 hi hm) q
theorem Am{K:St->Prop}(dc:a≠b)(hL:Sq m L)(hi:i<m)(hm:m≤10)(k:K (st.put (TS σ a b (L.set i r) R)))(e:st.σ=TS σ a b L R:=by rfl):pD (.ref a) (.n i) (aJ r) st K :=
 Aj (aa e (Mo dc)) (by refine aa (aE ..) (aa hL.1 ?_);exact hi) (u3 hi hm) (by refine aa e (aa (abe dc) ?_);exact k)
theorem An{K:St->Prop}(hR:Sq m R)(hi:i<m)(hm:m≤10)(k:K (st.put (TS σ a b L (R.set i r))))(e:st.σ=TS σ a b L R:=by rfl):pD (.ref b) (.n i) (aJ r) st K :=
 Aj (aa e EL) (by refine aa (aE ..) (aa hR.1 ?_);exact hi) (u3 hi hm) (by refine aa e (aa abf ?_);exact k)
end
theorem abh{b:Addr}{L R:bl}(ha:σ a=none)(hb:σ b=none):∀c o,σ c=some o->TS σ a b L R c=some o:=λc o e=>by
 rw [TS,bC,bC]
 ·exact e
 ·rintro rfl;exact nn (ha.symm.trans e)
 ·rintro rfl;exact nn (hb.symm.trans e)
theorem abi(j i:Nat):ab.int (if decide ((j:Int)=(i:Int))=true then 1 else 0)= .n (if j=i then 1 else 0):=by
 by_cases q:j=i
 ·exact aH (if_pos q) (if_pos (decide_eq_true (congrArg _ q))) rfl
 ·exact aH (if_neg q) (if_neg (λh=>q (kG.mp (of_decide_eq_true h)))) rfl
theorem abj(m:Nat):(aK m).map (λi=>aJ ((aK m).map λj=>if j=i then 1 else 0))=(gid m).map aJ:=by rewrite [gid];refine aa dj ?_;rfl
theorem abk{i:Nat}{L:bl}{ps:List Nat}(h:sm m L i=p::ps):(ic i (m - i)).filterMap (λp=>if gt L p i=0 then none else some (ab.n p))=(p::ps).map .n:=(uw (ic i (m - i)) (λp=>gt L p i=0) id ab.n).trans (congrArg _ h)
theorem Mp{i:Nat}(h:m≤k):(ic i (m - i)).length≤k:=aa aa6 (ag (gJ ..) h)
theorem abl{i:Nat}{L:bl}:(sm m L i).length≤m:=ag (tW _ _) (Mp (cg m))
section
variable{X:Cx}(C:Ctx X){n:Nat}{K:ab->ar->Prop}{σ:ar}
include C
theorem Ao{f:Nat}(hr:iA m r)(hm:m≤10)(hf:f<256)(h:K (aJ (i9 r f)) σ):aB X (n+3) (.ref 190) [aJ r, .n f] [] K σ:=aaO C hr.2 (aa hr.1 (ag hm (nb rfl))) hf h
theorem Mq{t:List Nat}(hr:iA m r)(hm:m≤10)(h:K (aJ (kI r t)) σ):aB X (n+1) (.ref 195) [aJ r,aJ t] [] K σ:=aaP C (aa hr.1 (ag hm (nb rfl))) h
theorem abm{j5 r:bl}(hr:qs j5=some r)(hs:Sq m j5)(hm:m≤10)(h:K (.list (r.map aJ)) σ):aB X (n+5) (.ref 185) [.list (j5.map aJ)] [] K σ:=by
 have hl:=hs.1
 have kK:m≤1000:=ag hm (nb rfl)
 have gI:j5.length≤1000:=ao hl.symm kK
 refine aB.out (C.call 16 rfl rfl (cx (k:=m) (congrArg some ((aE _).trans hl)) (k6 kK) (fh [false,false,false,false,false,false,false,false,false,true,true] j5 aJ aJ (k5 gI)
  (λx hx K' k=>Lx (vs:=x.map .n) rfl (by refine aa (aE ..) (aa ((hs.2 x hx).1) ?_);exact k6 kK) (.inl (k _ _ rfl rfl)))
  (EF (aa (aE ..) (k6 gI)) λa ha=>⟨rg kK,fh [false,false,false,false,false,false,false,false,false,true,true] (aK m) .n (λi=>aJ ((aK m).map λj=>if j=i then 1 else 0)) (jE (k5 kK)) (λi hi K' k=>⟨rg kK,fh [false,false,false,false,false,false,false,false,false,false,false,true,true] (aK m) .n (λj=> .n (if j=i then 1 else 0)) (jE (k5 kK))
   (λj hj K' k=>Lv (k _ _ (abi j i) rfl)) (nz (jE kK) (k _ _ rfl rfl)) (i8 m)⟩)
   (EF (aa (aE ..) (jE (k6 kK))) λb hb=> ?_) (i8 m)⟩))))
 replace ha:σ a=none:=ha;obtain ⟨EP,hb⟩:=mF (σ:=σ) (a:=a) (o:= .list (j5.map aJ)) hb
 have dc:=EP.symm
 let S1:bl×bl->St:=λy=>{m:= [some (.list (j5.map aJ)),some (.n m),some (.ref a),none,none,some (.ref b),none,none,none],fz:= [],σ:=TS σ a b y.1 y.2}
 refine ⟨rg kK,loop [false,false,false,true,true,false,true,true,true] (aK m) .n S1 (λi x=>EM m r i x) (j5,gid m) ⟨⟨hs,abc m⟩,by rw [qs,hl] at hr;exact hr⟩ (λJ J J=>dY) (λi i' x K' ei P k J=> ?_) (λx P=> ?_) (i8 m) (aa (abj ..) rfl)⟩
 ·obtain ⟨rfl,hi⟩:=qq ei;refine Gu (P.step hi) λp ps T=> ?_
  have hL:=P.sq.l
  have hR:=P.sq.r
  have xk:=hL.swap hi T.lt
  have xl:=hR.swap hi T.lt
  have iu:=xk.row hi
  have h8:gt (fM x.1 i p) i i<256:=iu.lt hi
  have h9:=aaw h8
  let S:bl×bl->St:=λx=>{m:= [some (.list (j5.map aJ)),some (.n m),some (.ref a),some (.n i),none,some (.ref b),some (aJ (p::ps)),some (.n p),none],fz:= [],σ:=TS σ a b x.1 x.2}
  refine ⟨aa7 (u3 hi hm) (ag hm (nb rfl)),qk [false,false,false,false,false,false,false,false,false,true,true] (ic i (m - i)) .n (λp=>if gt x.1 p i=0 then none else some (.n p)) (Mp (ag hm (nb rfl)))
   (λp hp K' k=> ?_) (j3 (abk T.pk) (by refine aa (aE ..) (ao T.pk ?_);exact ag abl (ag hm (nb rfl))) (.fz lk (qt dc hL T.lt hm (qt dc hL hi hm (Am dc hL hi hm (Am dc (hL.set (hL.row T.lt)) T.lt hm
    (xj hR T.lt hm (xj hR hi hm (An hR hi hm (An (hR.set (hR.row T.lt)) T.lt hm (qt dc xk hi hm (EN iu hi hm (aax C h8 (aa (abb hL hi T.lt) T.ne)
     (qt dc xk hi hm (Ao C iu hm h9 (xj xl hi hm (Ao C (xl.row hi) hm h9 (Am dc xk hi hm (An xl hi hm ⟨rg (ag hm (nb rfl)),jZ [false,false,false,false,true,false,false,false,true] (aK m) .n (sn i) S (λJ=>xi m) (Al i p x) ⟨xk.set (iu.Ak _),xl.set ((xl.row hi).Ak _)⟩
      (λj q x e h=>h.elim hi (by have:=qq e;exact ao this.1 this.2)) (λJ=>dY) (λj q x K' e h k J=> ?_) (λh=>k _ _ ⟨h,T.go⟩ rfl) (i8 m)⟩))))))))))))))))))) (L9 _ _)⟩
  ·rw [qN] at hp
   have hp:p<m:=ao (lQ (bS hi)) hp.2
   exact qt dc hL hp hm (EN (hL.row hp) hi hm (xb (a:=gt x.1 p i) (b:=0) (λq=>k _ _ (if_pos q).symm rfl) λq=>k _ _ (if_neg q).symm rfl))
  ·obtain ⟨rfl,hj⟩:=qq e;exact xb (a:=j) (b:=i) (λq=>k _ _ (if_pos q).symm rfl) λq=>qt dc h.l hj hm (EN (h.l.row hj) hi hm (qt dc h.l hj hm (qt dc h.l hi hm (Ao C (h.l.row hi) hm ((h.l.row hj).lt hi) (Mq C (h.l.row hj) hm (Am dc h.l hj hm
    (xj h.r hj hm (xj h.r hi hm (Ao C (h.r.row hi) hm ((h.l.row hj).lt hi) (Mq C (h.r.row hj) hm (An h.r hj hm (k _ _ (if_neg q).symm rfl))))))))))))
 ·have e:=P.go
  rw [abn (cg _)] at e
  exact xg (abh ha hb) EL hb (aa (aN e) h)
end
end
section
variable{prog:dE}{w:cu}{A:cJ}{R:uY->al->Prop}{s:al}
theorem abo(h:ai (model prog w) (A.deeper ac) (eval e ac) (λv s'=>R (.ok (.ret v)) s') (λJ J=>False) s):dp (model prog w) A (.expr e ac) R s:=by
 refine kU rfl ?_
 show ai _ (A.deeper ac) (do point;ret (<-(eval e ac).onRaise (leaving ac))) _ _ s
 exact aq (BC (aq (nS (aZ h (λv s' h'=>aM h') λJ J h'=>h'))))
theorem abp{args:Args}{o:Obj}{body:Expr}(BI:A.depth<recursionLimit)(ho:s.heap.get? a=some o)
  (ft:o.data= .func fd) (tf:fd.scope.isCoroutine=false) (qS:fd.scope.isGenerator=false) (po:fd.body= .expr body) (ym:s.heap.CodeRec fd.code fd.qualname)
  (h:ai (model prog w) A.in1 (bindArgs fd args) (λpj az =>
   ai (model prog w) A.in1 (newFunctionEnv fd.scope fd.globals fd.closure pj (fd.qualname++ ".<locals>.") (some a) fd.code none fd.builtins)
    (λac bp=>bp.heap.NoLimit/\dp (model prog w) A (.expr body ac) R bp) (λe s'=>R (.error e) s') az) (λe s'=>R (.error e) s') s):dp (model prog w) A (.call (.ref a) args) R s:=by
 refine kU rfl (fH (m:=load a) (λq=>ba (qT ho q)) ?_);refine aa ft ?_;obtain ⟨c,oc,vs,tq,hc,u8,u9,hq⟩:=ym;exact GT (code:=λac=> .expr body ac) tf qS (λJ=>aa po rfl) hc u8 u9 hq (aZ h (λpj az bh=>aZ bh (λac bp bD=>ba (PX bD.1 BI ⟨rfl,bD.2⟩)) λJ J h'=>h') λJ J h'=>h')
end
section
variable{X:Cx}{n:Nat}
theorem Mr(ok:fb X){t:List UInt8}{K:ab->ar->Prop}(hK:K (.bool (decide (t=b))) σ):aB X (n+1) (.lam b) [.bytes t] [] K σ:= .mk λA κ s y ys dI hr G hy hv hk=>by
 obtain ⟨f,c,tk,rfl,hf,hc,hl,vT⟩:=hy.inv;rcases hl with ⟨qual,p,q,scope,pm,ct,co,ps,p1,p2,p3,yW,mi,tf,hl⟩
 refine Pe hl λmQ qS abq mR hp hq hl=>dP hl λabr wq=> ?_;obtain ⟨x,ys,rfl,h1,hv⟩:=hv.cons_inv;cases hv.nil_inv;obtain ⟨t',rfl⟩:=h1.inv;refine aa hk.nil_inv (⟨⟨.frame,λA' Q E q=> ?_⟩, ?_⟩)
 ·unfold keeperOf;exact aq (vc yW (aM q))
 have bz:p≠q:=by simpa using wq
 refine pf (yk (R:=λr s'=>∃v σ' κ' z,r= .ok (.ret z)/\bq X σ' κ' s'/\bg (λJ=>False) σ κ s.heap σ' κ' s'.heap/\am (aj σ' κ') s'.heap v z/\K v σ') ?_ λr s' ⟨v,σ',κ',z,e,q1,q2,q3,q4⟩=>by subst e;exact ⟨v,σ',κ',q1,q2,q3,q4⟩);refine abp hr.lt yW rfl abq qS rfl mi (?_:ai _ _ (bindArgs _ ⟨[_],[]⟩) _ _ _);refine JU rfl rfl rfl rfl rfl (f6.mpr ⟨eZ,Ap⟩) rfl (ba (wpAny_newFunctionEnv (λx hx=>by
  rw [show (kla_fn "<lambda>" qual _ _ scope _ pm (.ref co) ct).scope.names=scope.names from rfl,mR] at hx
  rcases br.mp hx with rfl | hx
  ·intro h;cases h
  ·rw [dT] at hx;subst hx;intro h;cases h) (λx hx=>by
   simp only [eP,Y2,tY,Wq,dT] at hx
   subst hx;refine (?_:scope.names.lookup p=_);refine aa mR ?_;simp) (λh' kE wE=> ?_) mQ))
 refine ⟨(ok.nolimit.keeps G.keep).fresh _ wE,abo ?_⟩
 have EQ:∀b o,s.heap.get? b=some o->h'.get? b=some o:=λb o e=>wE.extBut b o (dB (cR e)) (fy _ e)
 have abs:scope.names.lookup q=some .free:=by
  refine aa mR (aa lh (aa (show (q==p)=false by simpa using bz.symm) ?_));simp
 refine GR ?_ rfl;refine yl (GX mQ (by show scope.names.lookup p=_;refine aa mR ?_;simp) kE (show _=some (rT t.toArray t') by simp) ?_) hp;refine yl (GZ mQ abs (by show [(q,c)].lookup q=_;simp) (vT.keeps EQ) ?_ abr) hq;refine ba (J5 t t' b tk _ _ _ _ ?_)
 have G1:=G.ext EQ (s':={s with heap:=h',toks:=s.toks+1}) rfl rfl
 exact ⟨_,_,κ,_,rfl,G1, .ext EQ, .raw _,hK⟩
end
section
open Sem (wp)
theorem abt:typeLookup (.type "list") "keys" =pure none:=am_miss_of_fast (by decide +kernel)
theorem abu{w:cu}{o:Obj}{xs:Array Value}{Q:Option Value->al->Prop}
  (hx:s.heap.get? a=some o) (hc:o.cls= .type "list") (Aq:o.data= .seq xs k) (hd:o.dict=none) (hA:A.handled=none)
  (h:∀h' tk,(∀b ob,s.heap.get? b=some ob->h'.get? b=some ob)->Q none {s with heap:=h',toks:=tk}):wpAny (model prog w) A (getAttr? (.ref a) "keys") Q E s:=by
 obtain ⟨c,aiE,aiF,sl⟩:=o;simp only at hc Aq hd
 subst hc Aq hd;obtain ⟨hp,g,d,tk,os⟩:=s
 have hT:∀rP,(⟨hp,g,d,rP,os⟩:al).TypeIs (.ref a) "list" :=λJ=>⟨_,hx,rfl⟩
 have f1:=sub_AttributeError
 have f3:=Ms.lookup
 have f4:=Ms.bind (.ref a)
 have f5:=am_list_getattr_none
 have bN:("keys" :Str).length+100≤sizeLine:=by size_fits
 unfold getAttr? getAttrBy? getAttrBy
 repeat (any_goals (first | assumption | exact hT _ | ((with_reducible show wpAny _ _ (call (aiG "list.__getattribute__") _ _) _ _ _);refine zx Ms (hT _) am_entry_list_getattribute (F.args_list_getattribute_2 _ _) (meets_getattribute_miss_list a xs k sl "keys" _ abt (by decide) bN) ⟨hx,hA,λh' rP e oA=> ?_⟩) | wp_step))
 refine Gu oA.there λt' u' he=>(?_:wpAny _ _ (getattributeRaised _ _ _ _ _ _ _) _ _ _);unfold getattributeRaised
 repeat (any_goals (first | assumption | exact (show ∀ER,(⟨h',g,d,ER,os⟩:al).TypeIs (.ref e) "AttributeError" from λJ=>⟨_,he,rfl⟩) _ | wp_step))
 exact h h' _ oA.keeps
theorem Ar:plainId "dict.update.loop" =true:=by decide +kernel
theorem Mt:entryFor table "dict.update.loop" =some f8.«dict.update.loop» :=entryFor_of_fast (by kernel_rfl)
section
variable{prog:dE}{w:cu}{A:cJ}{E:Value->al->Prop}{s:al}
theorem abv{d:Addr}{es:List DictEntry}{n:Nat}{k:Int}{t:Tok}{v:Value}{Q:Unit->al->Prop}(ho:s.heap.get? d=some (dictOf es n))(hk:∀e∈es,∃k' t',e.hash=hashInt k'/\e.key= .int k' t'/\k'≠k)(aU:es.length≤sizeLine)
  (hQ:∀h',h'.get? d=some (dictOf (es++ [⟨hashInt k, .int k t,v⟩]) (n+1))->jh d s.heap h'->Q () {s with heap:=h',toks:=s.toks+1}):wpAny (model prog w) A (dictSet d (.int k t) v) Q E s:=by
 have Mu:(intKind prog w).is k (.int k t)=true:=by simp [intKind,zE]
 have abw:KeysOf (intKind prog w) es.toArray:=λe he=>by
  exact eV (hk e (by simpa using he)) λk' t' h1 h2 J=>⟨k',by refine aa h2 ?_;simp [intKind,zE],h1⟩
 unfold dictSet
 try with_reducible refine kA ?_
 refine aw ((intKind prog w).pyHash Mu ?_);unfold dictSetHashed
 try with_reducible refine kA ?_
 refine aw (wpAny_dictFind_of (knd:=intKind prog w) (s:={s with toks:=s.toks+1}) Mu ho rfl abw ?_)
 have ga:(es.toArray.findIdx? λe=>(intKind prog w).is k e.key)=none:=by
  rw [List.findIdx?_toArray,List.findIdx?_eq_none_iff];intro e he;refine eV (hk e he) λk' t' J h2 h3=>aa h2 ?_;simp [intKind,zE,h3]
 refine aa ga (aw (jv (wpAny_updateDictKeys (s:={s with toks:=s.toks+1}) (hz:=by simpa using aU) ho rfl (hQ _ ?_ (m6 ..)))));exact aa (vK _ ho rfl) (congrArg (λz=>some ({cls:= .type "dict",data:= .dict z (n+1)}:Obj)) (Lz ..))
noncomputable abbrev ent(p:Int×Tok×Value):DictEntry:=⟨hashInt p.1, .int p.1 p.2.1,p.2.2⟩
theorem abx{i:Nat}{p:Int×Tok×Value}(d6:(ps.map (λz=>z.1)).Nodup)(hp:ps[i]? =some p)(e:DictEntry)(he:e∈(ps.take i).map ent):∃k' t',e.hash=hashInt k'/\e.key= .int k' t'/\k'≠p.1:=by
 have:=d6.sublist ((aby (i+1) ps).map (λz=>z.1))
 rw [oD,hp,gW] at this
 refine aD (bJ.mp he) λq hq bb=> ?_;subst bb;exact ⟨q.1,q.2.1,rfl,rfl,(Mv.mp this).2.2 q.1 (nt hq) p.1 (.head _)⟩
theorem abz{i:Nat}{p:Int×Tok×Value}(hp:ps[i]? =some p):(ps.take i).map ent++ [⟨hashInt p.1, .int p.1 p.2.1,p.2.2⟩]=(ps.take (i+1)).map ent:=by
 refine aa oD (aa hp (aa gW ?_));rfl
def xm(h:Heap)(I d:Addr)(items:List Value)(ps:List (Int×Tok×Value)):Prop:=∀(j:Nat) p,ps[j]? =some p->∃T,items[j]? =some (.ref T)/\T≠I/\T≠d/\h.IsTuple T #[.int p.1 p.2.1,p.2.2]
def ES(I d:Addr)(h h':Heap):Prop:=∀b o,b≠I->b≠d->h.get? b=some o->h'.get? b=some o
theorem xm.kept{h h':Heap}{I d:Addr}{items:List Value}(P:xm h I d items ps)(k:ES I d h h'):xm h' I d items ps:=λj p hp =>
 (P j p hp).imp λT q=>⟨q.1,q.2.1,q.2.2.1,q.2.2.2.imp λo r=>⟨k T o q.2.1 q.2.2.1 r.1,r.2⟩⟩
theorem abA{I d:Addr}{fp:List Addr}{St:Nat->Heap->Prop}{items:List Value}(W:CH prog w A.in1 I fp [I] items.length (λi v=>items[i]? =some v) St)(Au:d≠I)(ET:d∉fp)(bN:ps.length≤100000)
  (d6:(ps.map (λz=>z.1)).Nodup) {i n:Nat} {p:Int×Tok×Value} (bA:i<items.length) (hp:ps[i]? =some p) (b7:St i s.heap) (hd:s.heap.get? d=some (dictOf ((ps.take i).map ent) n)) (P:xm s.heap I d items ps)
  (next:∀h' tk n',St (i+1) h'->h'.get? d=some (dictOf ((ps.take (i+1)).map ent) n')->ES I d s.heap h'->codeAny (model prog w) A (.builtin "dict.update.loop" ⟨[.ref d, .ref I,rawInt (i+1:Nat), .none],[]⟩) R {s with heap:=h',toks:=tk}) :
  codeAny (model prog w) A (.builtin "dict.update.loop" ⟨[.ref d, .ref I,rawInt i, .none],[]⟩) R s:=by
 obtain ⟨T,fc,jY,aiH,o,eo,co,nn,dd⟩:=P i p hp;refine wQ Mt (aa (wK Ar _) ?_);refine aw (m:=pyNext (.ref I)) (W.item i s _ _ bA b7 λv h' tk hP iQ d5=> ?_);obtain rfl:=aN (fc.symm.trans hP)
 have d5:∀b ob,b≠I->s.heap.get? b=some ob->h'.get? b=some ob:=λb ob q=>d5 b ob λm=>q (dT.mp m)
 have eo:=d5 T o jY eo
 refine aw (kA (aw (wpAny_tryCatch ?_)));refine bG (m:=typeOf (.ref T)) (λq=>np (T:= "tuple") ⟨_,eo,co⟩ q) (jz rfl ?_);refine aw (lu eo dd (aV ?_));refine kA (m:=dictSet d (.int p.1 p.2.1) p.2.2) (abv (s:={s with heap:=h',toks:=tk}) (d5 d _ Au hd) (abx d6 hp) ?_ λh2 sw nB=> ?_)
 ·exact aa (aE ..) (ag (List.length_take_le' ..) (ag bN (nb rfl)))
 exact aV ⟨wJ Ar _,next h2 (tk+1) (n+1) (W.frame _ _ _ iQ λb hb o e=>(nB.2 b (λq=>ET (ao q hb))).trans e) (ao (abz hp) sw) λb ob q1 q2 e=>(nB.2 b q2).trans (d5 b ob q1 e)⟩
theorem abB{I d:Addr}{fp:List Addr}{St:Nat->Heap->Prop}{items:List Value}(W:CH prog w A.in1 I fp [I] items.length (λi v=>items[i]? =some v) St)(Au:d≠I)(ET:d∉fp)(hl:items.length=ps.length)(bN:ps.length≤100000)
  (d6:(ps.map (λz=>z.1)).Nodup):∀(k i:Nat) (s:al) (n:Nat),i+k=items.length->St i s.heap->s.heap.get? d=some (dictOf ((ps.take i).map ent) n)->xm s.heap I d items ps->
   (∀h' tk n',h'.get? d=some (dictOf (ps.map ent) n')->ES I d s.heap h'->R (.ok (.ret .none)) {s with heap:=h',toks:=tk})->
   codeAny (model prog w) A (.builtin "dict.update.loop" ⟨[.ref d, .ref I,rawInt i, .none],[]⟩) R s:=by
 intro k
 induction k with
 | zero =>
  intro i s n hk b7 hd _ hR;obtain rfl:i=items.length:=hk;rw [hl,kF] at hd
  refine wQ Mt (aa (wK Ar _) ?_);refine aw (m:=pyNext (.ref I)) (W.done s _ _ b7 λh' tk d5=> ?_)
  have d5:∀b ob,b≠I->s.heap.get? b=some ob->h'.get? b=some ob:=λb ob q=>d5 b ob λm=>q (dT.mp m)
  exact aw (aV (aV (hR h' tk n (d5 d _ Au hd) λb o q1 J=>d5 b o q1)))
 | succ k ih =>
  intro i s n hk b7 hd hT hR
  have bA:i<items.length:=ao hk (yZ (rQ k))
  exact abA W Au ET bN d6 bA (bI (ao hl bA)) b7 hd hT λh2 tk n' abC sw k2=>ih (i+1) {s with heap:=h2,toks:=tk} n' (aa (qM i k) hk) abC sw (hT.kept k2) λh3 abD n3 xn xo=>hR h3 abD n3 xn λb o q1 q2 e=>xo b o q1 q2 (k2 b o q1 q2 e)
end
section
variable{X:Cx}{n:Nat}
noncomputable def sx:List Int->List ab->List ab
 | k::ks,v::vs=> .tuple [.int k,v]::sx ks vs
 | _,_=> []
theorem abE{h:Heap}{k:Int}(r:am U h (.tuple [.int k,v]) y):∃T t x,y= .ref T/\U T/\h.IsTuple T #[.int k t,x]/\am U h v x:=by
 refine eM r.inv λT items bb u ht hv=> ?_;subst bb;refine eV hv.cons_inv λa aiI bb ha jt=> ?_;subst bb;refine eV jt.cons_inv λx aiJ bb hx ik=> ?_;subst bb;obtain ⟨t,rfl⟩:=ha.int_inv;cases ik.nil_inv;exact ⟨T,t,x,rfl,u,ht,hx⟩
theorem abF{h:Heap}{ks:List Int}:∀{vs:List ab} {ys:List Value},ks.length=vs.length->aO U h (sx ks vs) ys->∃ps:List (Int×Tok×Value),ps.map (λz=>z.1)=ks/\aO U h vs (ps.map (λz=>z.2.2))/\
  ys.length=ps.length/\∀(j:Nat) p,ps[j]? =some p->∃T,ys[j]? =some (.ref T)/\U T/\h.IsTuple T #[.int p.1 p.2.1,p.2.2]:=by
 induction ks with
 | nil =>
  intro vs ys e r;rcases vs with _ | _
  ·cases r.nil_inv;exact ⟨[],rfl, .nil,rfl,λJ J h=>nn h⟩
  ·exact qg e
 | cons k ks ih =>
  intro vs ys e r;rcases vs with _ | ⟨v,vs⟩
  ·exact qg e
  refine eV (VR.cons_inv (v:= .tuple [.int k,v]) (vs:=sx ks vs) r) λy ys bb r1 r2=> ?_;subst bb;refine qJ (ih (q6 e) r2) λps h1 h2 h3 h4=>qK (abE r1) λT t x bb u ht hx=> ?_;subst bb;refine ⟨(k,t,x)::ps,congrArg (λz=>k:: z) h1, .cons hx h2,congrArg Et h3,λj p hp=> ?_⟩;rcases j with _ | j
  ·obtain rfl:=aN hp;exact ⟨T,rfl,u,ht⟩
  ·exact h4 j p hp
theorem abG{h:Heap}:∀{vs:List ab},aO U h vs (ps.map (λz=>z.2.2))->sX U h (ps.map (λz=>z.1)) vs (ps.map ent):=by
 induction ps with
 | nil =>
  intro vs r;rcases vs with _ | _
  ·exact .GC
  ·exact qg r.length
 | cons p ps ih =>
  intro vs r;rcases vs with _ | ⟨v,vs⟩
  ·exact qg r.length
  refine eV r.cons_inv λy ys e r1 r2=> ?_;obtain ⟨rfl,rfl⟩:=tX e;exact .GD r1 (ih r2)
theorem abH(ok:fb X){ks:List Int}{K:ab->ar->Prop}(ha:σ a=some (.list (sx ks vs)))(hl:ks.length=vs.length)(d6:ks.Nodup)(bN:ks.length≤1000)(hK:K (.dict ks vs) σ) :
  aB X n (.raw (.type "dict")) [.ref a] [] K σ:=by
 refine jB (λa e=>by cases e) λA κ s y hr G h=> ?_;cases h.bU;obtain ⟨ys,⟨o,eo,co,abI,nn,dd⟩,aL⟩:=G.own a _ ha;refine qJ (abF hl aL) λps h1 abJ h3 h4=>KV (Q₁:=λobj az=>obj= .ref s.heap.objs.size/\az={s with heap:=s.heap.push {cls:= .type "dict",data:= .dict #[]}}) F.kt_called_dict (F.kt_typeCall_dict_1 _) F.entry_dict_init (kt_code_dict_new _ ⟨rfl,rfl⟩) ?_
 rintro obj az ⟨rfl,rfl⟩
 have jp:(s.heap.push {cls:= .type "dict",data:= .dict #[]}).DictOf (intKind X.prog X.w) s.heap.objs.size []:=aiK s.heap
 refine ⟨jp.typeIs,F.args_dict_init_2 _ _, ?_⟩
 have EU:(s.heap.push {cls:= .type "dict",data:= .dict #[]}).get? a=some o:=fy _ eo
 refine bG (a:=(s.heap.objs.size,[m8 a])) (λq=>aw (wpAny_notOrdered_dict jp.typeIs (aV q))) (bG (m:=typeOf (.ref a)) (λq=>np (T:= "list") ⟨_,EU,co⟩ q) (jz rfl ?_));refine aw (abu (s:={s with heap:=s.heap.push {cls:= .type "dict",data:= .dict #[]}}) EU co dd abI hr.handled λh2 ER m9=>jz rfl ?_);refine aw (jv ?_)
 have iW:h2.IsList a ys.toArray:=⟨o,m9 _ _ EU,co,nn,dd⟩
 refine aw (BM (s:={s with heap:=h2,toks:=ER}) iW ?_)
 have sw:h2.get? s.heap.objs.size=some (dictOf [] 0):=m9 _ _ (cV _ rfl)
 have xp:∀b ob,h2.get? b=some ob->b≠h2.objs.size:=λb ob e=>dB (cR e)
 have keep:∀b ob,s.heap.get? b=some ob->h2.get? b=some ob:=λb ob e=>m9 _ _ (fy _ e)
 have W:=I1 (prog:=X.prog) (w:=X.w) (A:=A.in1.in1) hr.handled h2.objs.size a (xp _ _ (keep _ _ eo)) ys.toArray
 rw [show (λ(i:Nat) (v:Value)=>ys.toArray[i]? =some v)=λi v=>ys[i]? =some v from funext λi=>funext λv=>by rw [pM]] at W
 refine aV ⟨wJ Ar _,abB W (xp _ _ sw) (λq=>(br.mp q).elim (xp _ _ sw) λq=>(dB (cR eo)) (dT.mp q).symm) h3 (ag (b6 ((aE _).symm.trans (congrArg rX h1))) (ag bN (nb rfl))) (aa h1 d6) ys.length 0 _ 0 (nc _) ⟨⟨_,cV _ rfl,rfl,rfl⟩,iW.push _⟩ (fy _ sw) (λj p hp=> ?_) λh' rP n' ft d5=>⟨rfl, ?_⟩⟩
 ·obtain ⟨T,e1,e2,ob,eT,r⟩:=h4 j p hp;exact ⟨T,e1,xp _ _ (keep _ _ eT),dB (cR eT),ob,fy _ (keep _ _ eT),r⟩
 have kk:∀b ob,s.heap.get? b=some ob->h'.get? b=some ob:=λb ob e=>d5 b ob (xp _ _ (keep _ _ e)) (dB (cR e)) (fy _ (keep _ _ e))
 refine .ext G kk rfl rfl (.dict (es:=ps.map ent) (n:=n') (iL G) ?_ ft d6 ?_) hK
 ·exact ok.H9.elim λJ e'=>beq_eq_false_iff_ne.mpr (fK (cR (G.keep _ _ e')))
 ·exact ao h1 (abG (abJ.mono (gP kk)))
end
end
section
variable {bs:List (Array UInt8)}
section
open PySem.Builtin (Bytes.joinM)
theorem EV:Slot "bytes" "join" "bytes.join" :=
 .of (owner:= "bytes") (n:= "join") (by refine aH (jx ..) jy ?_;kernel_rfl) (by decide +kernel) (by decide +kernel) (by decide +kernel)
  (by first | exact .inl (by decide +kernel) | exact .inr (by decide +kernel)) (by refine aa (rK ..) ?_;kernel_rfl)
theorem abK:typeOf (.builtin "bytes.join")=pure (.type "method_descriptor"):=by show builtinType _=_;refine aa builtinType_eq_fast ?_;kernel_rfl
theorem Mw:entryFor table "bytes.join" =some f8.«bytes.join» :=zJ (by kernel_rfl)
theorem Mx(a b:Value):argsOk "bytes.join" ⟨[a,b],[]⟩:=by
 unfold argsOk;rw [signature?_of (id:= "bytes.join") (n:= ['n','i','o','j']) (o:= ['s','e','t','y','b']) (by kernel_rfl) FB.owner_bytes];kernel_rfl
theorem abL(id:String)(b:Array UInt8)(t:Tok):My id (.bytes b t) 0=pure (some (b,none)):=by
 unfold My aiL;refine aH (aiM aiN) aiO (?_:Sem.attempt (zQ id (.bytes b t) (0==abM)>>=λr=>pure (r.map (λz=>(z,none))))>>=_=_);exact aH (show (0==abM)=false by decide) Ye rfl
section
variable{prog:dE}{w:cu}{A:cJ}{E:Value->al->Prop}{s:al}
theorem abN{Q:Unit->al->Prop}{keep:List Value}(xs:List Value)(h:Q () s):wpAny (model prog w) A (abO (xs.map λx=>(x,none)) keep) Q E s:=by
 induction xs with
 | nil=>exact aV h
 | cons x xs ih =>
  refine (?_:wpAny (model prog w) A (letGo (x::(none:Option Value).toList) (keep++_)>>=λ_=>abO (xs.map λx=>(x,none)) keep) Q E s);exact aw (wP ih)
theorem abP(bs:List (Array UInt8)):∀z:Nat,bs.foldl (λx1 x2=>x1+x2.size) z=z+(bs.map (λz=>z.size)).sum:=by
 induction bs with
 | nil=>simp
 | cons b bs ih=>intro z;refine aa my ?_;rewrite [ih];simp;exact ka ..
theorem Mz(bs:List (Array UInt8)):(uz #[] bs).toList=bs.flatMap (λz=>z.toList):=by
 unfold uz
 suffices ∀(i:Nat) (z:Array UInt8),((bs.zipIdx i).foldl (λout (x:Array UInt8×Nat)=>(if x.2>0 then out++(#[]:Array UInt8) else out)++x.1) z).toList=z.toList++bs.flatMap (λz=>z.toList) by simpa using this 0 #[]
 induction bs with
 | nil=>intro i z;simp
 | cons b bs ih =>
  intro i z;refine aa Ed (aa my (aa (ih ..) ?_))
  split<;>simp
theorem abQ(bs:List (Array UInt8)):(uz #[] bs).size=(bs.map (λz=>z.size)).sum:=by
 refine ao w0 (aa (Mz ..) (aa List.length_flatMap ?_));simp
theorem abR{f:Value->Sem rM}{g:Array Value->Sem rM}{Q:rM->al->Prop}(h:ys.length≠1)(k:wpAny (model prog w) A (g ys.toArray) Q E s):wpAny (model prog w) A (aiP (λJ=>Sem rM) ys.toArray f g) Q E s:=by
 rcases ys with _ | ⟨x,_ | ⟨y,ys⟩⟩
 ·exact k
 ·exact absurd rfl h
 ·exact k
theorem EW{M:Model}{c:Bool}{a b:Sem α}{Q:α->al->Prop}(hc:c=false)(h:wpAny M A b Q E s):wpAny M A (if c=true then a else b) Q E s:=by subst hc;exact h
theorem range_list{M:Model}{f:Nat->β->Sem (ForInStep β)}(st:Nat->β){n:Nat}{z:β}(turn:∀i,i<n->∀{Q:ForInStep β->al->Prop},Q (.yield (st (i+1))) s->wpAny M A (f i (st i)) Q E s){Q:β->al->Prop}(hz:st n=z)(q:Q z s):∀k i,i+k=n->wpAny M A (forIn (ic i k) (st i) f) Q E s:=by
 intro k
 induction k with
 | zero=>intro i e;subst hz;subst e;exact aV q
 | succ k ih=>intro i e;refine aa El (aa (pi ..) ?_);exact aw (turn i (ao e (yZ (rQ _))) (ih (i+1) ((qM ..).trans e)))
theorem abS{M:Model}{f:Nat->β->Sem (ForInStep β)}(st:Nat->β){n:Nat}{z:β}(turn:∀i,i<n->∀{Q:ForInStep β->al->Prop},Q (.yield (st (i+1))) s->wpAny M A (f i (st i)) Q E s){Q:β->al->Prop}(hz:st n=z)(q:Q z s):wpAny M A (forIn [0:n] (st 0) f) Q E s:=by
 refine aa (aiQ ..) (aa (show aiR [0:n]=n from Nat.div_one _) ?_);exact range_list st turn hz q n 0 (nc _)
theorem abT{id:String}{x:Value}{b:Array UInt8}{held:List Value}{f:Option (Array UInt8×Option Value)->Sem β}{Q:β->al->Prop}(hx:∃t,x= .bytes b t)(h:wpAny (model prog w) A (f (some (b,none))) Q E s):wpAny (model prog w) A (holding held (My id x 0)>>=f) Q E s:=by
 obtain ⟨t,rfl⟩:=hx;exact aw (kA (dW (abL _ _ _) h))
theorem MA{i:Nat}{d:α}(h:i<l.length):l.take (i+1)=l.take i++ [l.getD i d]:=by
 rw [oD,ui,bI h];rfl
theorem abU(hy:∀(i:Nat) b,bs[i]? =some b->∃t,ys[i]? =some (.bytes b t))(aU:ys.length=bs.length){i:Nat}:((ys.take i).map λx=>(x,(none:Option Value))).any (λx=>x.1.onHeap)=false:=by
 refine DW.mpr λx hx=> ?_;obtain ⟨v,hv,rfl⟩:=bJ.mp hx;obtain ⟨j,hj⟩:=qf.mp (pp hv);obtain ⟨t,e⟩:=hy j _ (bI (ao aU ((du.mp hj).1)));refine (?_:¬ v.onHeap=true);exact aa (aN (hj.symm.trans e)) nl
theorem abV(hy:∀(i:Nat) b,bs[i]? =some b->∃t,ys[i]? =some (.bytes b t)){i:Nat}(hi:i<bs.length):∃t,ys.toArray.getD i .none= .bytes (bs.getD i #[]) t:=by
 obtain ⟨t,e⟩:=hy i _ (bI hi);refine ⟨t, ?_⟩;rw [abW,pM,e,ui,bI hi]
 rfl
theorem abX(bN:(bs.map (λz=>z.size)).sum≤1000000):DY (bs.toArray.foldl (λx1 (x2:Array UInt8)=>x1+x2.size) ((#[]:Array UInt8).size*k))=false:=by
 refine ao (Array.foldl_toList ..) (aa (abP ..) ?_);exact aiS (by simpa using ag bN (nb rfl))
theorem abY{i:Nat}{d:α}(h:i<l.length):l.take (i+1)=l.take i++ [l.toArray.getD i d]:=by
 rw [abW,pM,<-ui];exact MA h
theorem abZ(aU:ys.length=bs.length){i:Nat}(hi:i<ys.length){C:Array (Array UInt8)->List (Value×Option Value)->Prop}(q:C (bs.take (i+1)).toArray ((ys.take (i+1)).map λx=>(x,none))):C ((bs.take i).toArray.push (bs.getD i #[])) ((ys.take i).map (λx=>(x,none))++ [(ys.toArray.getD i .none,none)]):=by
 rw [MA (d:= #[]) (ao aU hi),abY (d:=Value.none) hi,gW,<-Lz] at q
 exact q
theorem ab0(aU:ys.length=bs.length):((bs.take ys.length).toArray,(ys.take ys.length).map λx=>(x,(none:Option Value)))=(bs.toArray,ys.map λx=>(x,none)):=by
 exact aa kF (aa aU (aa kF rfl))
theorem join_one{l:Addr}{x:Value}{t:Tok}(hl:s.heap.IsList l #[x])(hx:s.TypeIs x "bytes")
  (h:Q x s):wpAny (model prog w) A (call (.builtin "bytes.join") [.bytes #[] t, .ref l]) Q E s:=by
 obtain ⟨o,ho,hc,n,hd⟩:=id hl;refine oj EV (lp _ _ _) Mw ?_ (Mx _ _);refine aw (dW (a:=(rT #[] t,m8 l)) rfl ?_);refine bG (λq=>aw (np hl.typeIs (aV q))) (bG (λq=>lu ho hd q) ?_);exact bG (λq=>np hx q) (aw (jv (aV ⟨_,rfl,h⟩)))
theorem ab1{l:Addr}{t:Tok}(hl:s.heap.IsList l ys.toArray)(hy:∀(i:Nat) b,bs[i]? =some b->∃t,ys[i]? =some (.bytes b t))(aU:ys.length=bs.length)(bN:(bs.map (λz=>z.size)).sum≤1000000)(q1:ys.length≠1)
  (h:∀t' tk,Q (.bytes (uz #[] bs) t') {s with toks:=tk}):wpAny (model prog w) A (call (.builtin "bytes.join") [.bytes #[] t, .ref l]) Q E s:=by
 obtain ⟨o,ho,hc,n,hd⟩:=id hl;refine oj EV (lp _ _ _) Mw ?_ (Mx _ _);refine aw (dW (a:=(rT #[] t,m8 l)) rfl ?_);refine bG (λq=>aw (np hl.typeIs (aV q))) (bG (λq=>lu ho hd q) ?_);refine abR q1 (bG (λq=>abS (λi=>((bs.take i).toArray,(ys.take i).map λx=>(x,(none:Option Value)))) (λi hi {Q} q=> ?_) (ab0 aU) q) ?_)
 ·refine bG (λq=>lu ho hd q) (EW (abU hy aU) ?_);refine abT (abV hy (ao aU hi)) (bG (λq=>lu ho hd q) ?_);exact EW (bne_self_eq_false _) (aV (abZ (C:=λa b=>Q (.yield (a,b)) s) aU hi q))
 ·refine aw (dW (a:=(#[]:Array UInt8)) rfl ?_);refine EW (abX bN) (bG (λq=>KX q ?_) ?_)
  ·exact aa (abQ ..) (fg bN)
  exact bG (λq=>kA (wpAny_point q)) (aw (abN _ (aV ⟨_,rfl,h _ _⟩)))
theorem ab2(hy:∀(i:Nat) b,bs[i]? =some b->∃t,ys[i]? =some (.bytes b t))(aU:ys.length=bs.length)(q1:ys.length=1):∃t,ys= [.bytes (uz #[] bs) t]:=by
 obtain ⟨x,rfl⟩:=ab3.mp q1;obtain ⟨b,rfl⟩:=ab3.mp (aU.symm.trans q1);obtain ⟨t',e⟩:=hy 0 b rfl;exact ⟨t',congrArg (λx=> [x]) ((aN e).trans (congrArg (λz=>rT z t') (ab4 (xs:=b)).symm))⟩
theorem ab5{l:Addr}{t:Tok}(hl:s.heap.IsList l ys.toArray)(hy:∀(i:Nat) b,bs[i]? =some b->∃t,ys[i]? =some (.bytes b t))(aU:ys.length=bs.length)(bN:(bs.map (λz=>z.size)).sum≤1000000)
  (h:∀t' tk,Q (.bytes (uz #[] bs) t') {s with toks:=tk}):wpAny (model prog w) A (call (.builtin "bytes.join") [.bytes #[] t, .ref l]) Q E s:=by
 by_cases q1:ys.length=1
 ·obtain ⟨t',rfl⟩:=ab2 hy aU q1;exact join_one hl (lp _ _ _) (h t' s.toks)
 ·exact ab1 hl hy aU bN q1 h
end
section
variable{X:Cx}{n:Nat}
theorem ab6(bs:List (List UInt8)):uz #[] (bs.map Ey)=bs.flatten.toArray:=by
 apply Array.ext'
 refine aa (Mz ..) (aa (List.flatMap_map ..) ?_);refine (?_:bs.flatMap (λb=>b)=bs.flatten)
 induction bs with
 | nil=>rfl
 | cons b bs ih=>refine aa List.flatMap_cons (aa ih ?_);rfl
theorem ab7:vB X σ (.bytes b) "join" (.builtin "bytes.join"):=λκ s y G hv A pl Q E q=>by
 obtain ⟨t,rfl⟩:=hv.mN;exact ba (getMethod_builtin (lp _ _ _) FB.plainAttrs_bytes EV abK (λa e=>nomatch e) (q s rfl rfl rfl))
theorem ab8{bs:List (List UInt8)}{K:ab->ar->Prop}(bN:bs.flatten.length≤1000000)(hK:K (.bytes bs.flatten) σ):aB X n (.raw (.builtin "bytes.join")) [.bytes [], .list (bs.map .bytes)] [] K σ:=by
 refine zZ (λa e=>by cases e) λA κ s y z hr G h h2=> ?_;obtain ⟨t,rfl⟩:=h.mN;obtain ⟨l,cs,rfl,u,hl,aL⟩:=h2.inv
 have aU:=aL.length
 rw [aE] at aU
 refine ab5 (bs:=bs.map Ey) hl (λi b hb=> ?_) (aa (aE ..) aU.symm) (by simpa [List.length_flatten,Function.comp_def] using bN) λt' tk=> ?_
 ·rw [cW] at hb
  obtain ⟨b',e1,rfl⟩:=lW.mp hb;obtain ⟨y,e,r⟩:=aL.get (i:=i) (v:= .bytes b') (by rw [cW,e1];rfl);obtain ⟨t,rfl⟩:=r.mN;exact ⟨t,e⟩
 ·exact aa (ab6 ..) (.same G rfl rfl rfl (.bytes _ _) hK)
end
end
end
section
variable {rk:List Nat}
theorem Av{g:α->ab}(hk:k≤1000)(hl:l.length≤1000)(q:∀ws,ws=l.take k->K (.list (ws.map g)) st):km (.list (l.map g)) none (some (.int (k:Int))) st K :=
 have e:((l.map g).take k).drop 0=(l.take k).map g:=xq.symm
 .list (l.map g) 0 k rfl rfl (xe (k6 hk)) (aa (aE ..) (k6 hl)) (aa e (.fz (by refine aa (aE ..) (aa iY ?_);exact ag (jX ..) (k6 hl)) (q _ rfl)))
theorem Aw{f:α->β}{g:β->ab}(h:l.length≤1000)(k:∀ys,ys=l.map f->K (.list (ys.map g)) st):fW (l.map λx=>g (f x)) st K:=nz h (k _ rfl)
theorem MB(f:α->β)(l:List α):∀z:List β,l.foldl (λacc x=>acc++ [f x]) z=z++l.map f:=by
 induction l with
 | nil=>exact λz=>(iV z).symm
 | cons x l ih=>exact λz=>(ih _).trans (lj ..)
noncomputable def oN(m:Nat)(au cA:List Nat):bl:=cA.map λw=>au.map λp=>gq 2 (w*(m - 1 - p))
noncomputable def qv(part:List UInt8)(fs:List (Nat×List UInt8)):List UInt8:=fs.foldl (λpart f=>d8 part (mD f.2 f.1)) part
noncomputable def sy(aW:List (List UInt8))(au:List Nat)(j6:List (List UInt8))(inv:bl):List (List UInt8) :=
 (aC au inv).map λx=>(qv [] (aC x.2 j6)).take (aW.getD x.1 []).length
theorem aiT(fs:List (Nat×List UInt8)):∀part:List UInt8,part.length≤1000->(∀f∈fs,f.2.length≤1000)->(qv part fs).length≤1000:=by
 induction fs with
 | nil=>exact λJ h J=>h
 | cons f fs ih=>exact λpart h hf=>ih _ (aa (ly ..) (aa (sj ..) (uq.mpr ⟨h,hf f (.head _)⟩))) λg hg=>hf g (.tail _ hg)
theorem ab9{g:Nat->ab}:w∈rk->q5 (w:Int) (rk.map λ(x:Nat)=>(x:Int)) (rk.map g)=some (g w):=by
 induction rk with
 | nil=>exact λh=>absurd h eZ
 | cons y rk ih =>
  intro h;refine (?_:(if (w:Int)=(y:Int) then some (g y) else q5 (w:Int) (rk.map λ(x:Nat)=>(x:Int)) (rk.map g))=_)
  by_cases q:w=y
  ·subst q;exact aa (if_pos rfl) rfl
  ·exact aa (if_neg (λe=>q (Int.ofNat.inj e))) (ih ((br.mp h).resolve_left q))
theorem ab'(h:rk.Pairwise (λz cf=>z < cf)):jC (rk.map λ(x:Nat)=>(x:Int))=rk.map λ(x:Nat)=>(x:Int) :=
 (LM (List.Perm.refl _) (wz.mpr (h.imp λh=>dU.mpr (bS h)))).symm
theorem Ax(l:List Nat):(l.map λ(x:Nat)=>(x:Int)).map ab.int=l.map .n:=by refine aa dj ?_;rfl
noncomputable abbrev xr(rk:List Nat)(row:Nat->List UInt8):ab:= .dict (rk.map λ(x:Nat)=>(x:Int)) (rk.map λw=> .bytes (row w))
theorem aca{X:Cx}{n:Nat}{row:Nat->List UInt8}{K:ab->ar->Prop}(sA:rk.Pairwise (λz cf=>z < cf))(hl:rk.length≤6)(h:K (aJ rk) σ):aB X n (.raw (.builtin "sorted")) [xr rk row] [] K σ :=
 Z6 (by refine aa (aE ..) ?_;exact eD hl (nb rfl)) (by refine aa (ab' sA) (aa (Ax ..) ?_);exact h)
theorem aiU{a:List α}{b:List β}(h:b.length≤k):(aC a b).length≤k:=aa sf (ag (jX ..) h)
theorem acb{au cA:List Nat}(h:cA.length=k)(h':au.length=k):Sq k (oN m au cA):=⟨by rewrite [oN];refine aa (aE ..) ?_;exact h,λr hr=>by
 obtain ⟨w,hw,rfl⟩:=bJ.mp hr;refine ⟨(aE ..).trans h',λx hx=> ?_⟩;obtain ⟨p,hp,rfl⟩:=bJ.mp hx;exact ED (nb rfl)⟩
theorem acd{au cA:List Nat}{row:Nat->List UInt8}(hp:Short aW)(iu:∀w,(row w).length≤1000):Short (cA.map λw=>kJ aW au w (row w)):=λr hr=>by
 obtain ⟨w,hw,rfl⟩:=bJ.mp hr;exact aaK _ _ _ _ _ (iu w) λq hq=>by
  obtain ⟨k,ek⟩:=qf.mp hq;exact hp _ (cw (zipIdx_get ek).2)
noncomputable def MC(aW j6:List (List UInt8))(x:Nat×List Nat):List UInt8:=(qv [] (aC x.2 j6)).take (aW.getD x.1 []).length
theorem MD(h:p<aW.length):(aW.map ab.bytes)[p]? =some (.bytes (aW.getD p [])):=by rw [cW,bI h,cZ h];rfl
theorem Short.at(hp:Short aW)(h:p<aW.length):(aW.getD p []).length≤1000:=aa (cZ h) (hp _ (mA _))
section
variable{X:Cx}(C:Ctx X){n:Nat}{K:ab->ar->Prop}{σ:ar}
include C
theorem ME(hl:aW.flatten.length≤1000000)(hn:m≤1000)(h:K (.bytes (aW.flatten.take m)) σ):aB X (n+1) (.ref 135) [jD aW, .n m] [] K σ :=
 C.call 8 rfl rfl ⟨_,ab7,ab8 hl (L7 hn hl h)⟩
theorem ace{au:List Nat}{row:Nat->List UInt8}{inv:bl}{pv:ab}(hv:lz σ pv (aW.map .bytes))(hp:Short aW)(hl:aW.length≤6)(MF:∀p∈au,p<aW.length)(qx:au.length≤6)(gI:rk.length≤6)
  (sA:rk.Pairwise (λz cf=>z < cf)) (MG:∀w∈rk,w<3) (iu:∀w,(row w).length≤1000) (hn:au.length≤rk.length) (xt:qs (oN aW.length au (rk.take au.length))=some inv) (mj:Sq au.length inv)
  (h:K (jD (sy aW au ((rk.take au.length).map λw=>kJ aW au w (row w)) inv)) σ):aB X (n+6) (.ref 226) [pv,aJ au,xr rk row] [] K σ:=by
 have j7:au.length≤1000:=ag qx (nb rfl)
 have acf:rk.length≤1000:=ag gI (nb rfl)
 have fk:aW.length≤1000:=ag hl (nb rfl)
 refine aB.out (C.call 23 rfl rfl (aca sA gI (cx (k:=au.length) (congrArg some (aE _)) (k6 j7) (Av j7 acf λcA e=> ?_))))
 have gu:cA.length=au.length:=by refine aa e (aa iY ?_);exact gT hn
 have hm:∀w∈cA,w∈rk:=λw hw=>pp (e▸hw)
 rw [<-e] at xt h
 have dD:cA.length≤1000:=ao gu.symm j7
 refine cx (k:=cA.length) (congrArg some (aE _)) (k6 dD) (cx (k:=au.length) (congrArg some (aE _)) (k6 j7) (fi (λq=>absurd (gu▸q) (iM _)) λJ =>
  fh [false,false,false,false,false,false,false,false,false,false,false,false,true,true] cA .n (λw=>aJ (au.map λp=>gq 2 (w*(aW.length - 1 - p)))) (k5 dD) (λw hw K' k =>
   fh [false,false,false,false,false,false,false,false,false,false,false,false,false,false,true,true] au .n (λp=> .n (gq 2 (w*(aW.length - 1 - p)))) (k5 j7) (λp xu K' k=>cx hv.len (aa (aE ..) (k6 fk)) (aa (aE ..) (LZ C (MG w (hm w hw)) (MF p xu) hl (k _ _ rfl rfl))))
    (nz j7 (k _ _ rfl rfl))) (nz dD
  (fh [false,false,false,false,false,false,false,false,false,false,false,false,true,true] cA .n (λw=> .bytes (kJ aW au w (row w))) (k5 dD) (λw hw K' k=>bE.i (ab9 (hm w hw)) (aaS C hp hl (MG w (hm w hw)) (iu w) hv (k _ _ rfl rfl)))
   (Aw dD λj6 es=> .own lk λa ha=>abm C (m:=au.length) xt (acb gu rfl) (ag qx (nb rfl)) ?_)))))
 have uA:Short j6:=es▸acd hp iu
 have uB:j6.length≤1000:=by refine aa es (aa (aE ..) ?_);exact dD
 rw [<-es] at h
 replace ha:σ a=none:=ha
 have yp:=λo=>hv.mono (σ':=σ.set a o) (mE ha)
 let S:List (List UInt8)->St:=λacc=>{m:= [some pv,some (aJ au),some (xr rk row),some (aJ cA),none,some (.list ((oN aW.length au cA).map aJ)),some (jD j6),some (.ref a),none,none,none,none],fz:= [],σ:=σ.set a (.list (acc.map .bytes))}
 refine jZ [false,false,false,false,true,false,false,false,true,true,true,true] (aC au inv) (λx=> .tuple [.n x.1,aJ x.2]) (λacc x=>acc++ [MC aW j6 x]) S (λi acc=>acc.length≤i) [] (cg _) (λi x acc J h=>aa de (fT h)) (λJ=>dY) (λi x acc K' ei i4 k J=> ?_)
  (λJ=>xg (mE ha) bX ha (aa (MB ..) h)) (zip_map .n aJ au inv)
 have oO:=iB (cw ei)
 have uC:=MF _ oO.1
 have acg:=mj.2 _ oO.2
 let S':List UInt8->St:=λpart=>{m:= [some pv,some (aJ au),some (xr rk row),some (aJ cA),some (.n x.1),some (.list ((oN aW.length au cA).map aJ)),some (jD j6),some (.ref a),some (aJ x.2),some (.bytes part),none,none],fz:= [],σ:=σ.set a (.list (acc.map .bytes))}
 refine jZ [false,false,false,false,false,false,false,false,false,false,true,true] (aC x.2 j6) (λy=> .tuple [.n y.1, .bytes y.2]) (λpart f=>d8 part (mD f.2 f.1)) S' (λJ part=>part.length≤1000) [] (da _)
  (λj y part e hp=>by refine aa (ly ..) (aa (sj ..) ?_);exact uq.mpr ⟨hp,uA _ (iB (cw e)).2⟩) (λJ=>dY) (λj y part K' ej MH k J=> ?_) (λhd=> ?_) (zip_map .n .bytes x.2 j6)
 ·have ri:=iB (cw ej)
  have qy:=uA _ ri.2
  exact L8 C qy (acg.2 _ ri.1) (Ac C MH (aa (sj ..) qy) (k _ _ rfl rfl))
 ·exact ⟨_,oG bX,(yp _).sub (MD uC) (ag (bS uC) fk) (cx rfl (k6 (hp.at uC)) (L7 (hp.at uC) (k6 hd) (app (f:= .bytes) (x:=MC aW j6 x) rfl
   (ag i4 (ag (bS (du.mp ei).1) (nA (k6 j7)))) (k _ _ rfl rfl))))⟩
end
end
theorem ach{b:Addr}{o':ee}(h:a≠b):(σ.set a o).set b o'=(σ.set b o').set a o:=by
 funext c;unfold ar.set
 by_cases h1:c=a
 ·subst h1;simp [h]
 ·simp [h1]
noncomputable def fm(bk:Nat)(au:List Nat):List Nat:=(aK bk).filterMap λw=>if w∈au then none else some w
noncomputable def cP(bk:Nat)(sl:List Nat):List Nat:=sl.filterMap λp=>if p<bk then none else some (p - bk)
noncomputable def MI(held:List (List UInt8))(bk:Nat)(au sl:List Nat):List (List UInt8):=((fm bk au).take (cP bk sl).length).map λw=>kJ (held.drop bk) (cP bk sl) w (held.getD w [])
noncomputable def putAll(ps:List (List UInt8))(l:List (Nat×List UInt8)):List (List UInt8):=l.foldl (λps x=>ps.set x.1 x.2) ps
noncomputable def Ay(held:List (List UInt8))(bk:Nat)(au sl:List Nat)(inv:bl):List (List UInt8) :=
 putAll (held.drop bk) (aC (cP bk sl) (sy (held.drop bk) (cP bk sl) (MI held bk au sl) inv))
theorem aci:∀(l:List (Nat×List UInt8)) (ps:List (List UInt8)),(putAll ps l).length=ps.length:=by
 intro l
 induction l with
 | nil=>exact λJ=>rfl
 | cons x l ih=>exact λps=>(ih _).trans kq
theorem MJ(g:Nat->ab):∀rk:List Nat,rk.map (λw=>ab.tuple [.n w,g w])=sx (rk.map λ(x:Nat)=>(x:Int)) (rk.map g):=by
 intro rk
 induction rk with
 | nil=>rfl
 | cons x rk ih=>exact congrArg (ut _) ih
theorem MK(bk:Nat)(au:List Nat):(fm bk au).Pairwise (λz cf=>z < cf)/\(∀w∈fm bk au,w<bk)/\(fm bk au).length≤bk:=by
 refine ⟨?_,λw hw=> ?_, ?_⟩
 ·refine acj _ (λa a' h b hb b' uD=> ?_) List.pairwise_lt_range
  split at hb
  ·cases hb
  ·cases hb;split at uD
   ·cases uD
   ·cases uD;exact h
 ·obtain ⟨x,hx,e⟩:=oM.mp hw
  split at e
  ·cases e
  ·cases e;exact fZ.mp hx
 ·exact ag (tW _ _) (aa fj (cg _))
theorem Az{g:α->ab}(hk:k≤1000)(hl:l.length≤1000)(q:K (.list ((l.drop k).map g)) st):km (.list (l.map g)) (some (.int (k:Int))) none st K :=
 have e:((l.map g).take (l.map g).length).drop k=(l.drop k).map g:=aa kF (aa ack rfl)
 .list (l.map g) k (l.map g).length rfl (xd (k6 hk)) rfl (aa (aE ..) (k6 hl)) (aa e (.fz (by refine aa (aE ..) (aa f9 ?_);exact ag (gJ ..) (k6 hl)) q))
theorem acl{ws:List ab}(e:vs=ws)(h:ws.length≤1000)(k:∀a,st.σ a=none->K (.ref a) (st.put (st.σ.set a (.list ws)))):fW vs st K:=e▸ .own (k6 h) k
theorem xv{X:Cx}{n:Nat}{l sl:List Nat}{K:ab->ar->Prop}(hv:eX σ v=some (l.map .n))(e:jC (l.map λ(x:Nat)=>(x:Int))=sl.map λ(x:Nat)=>(x:Int))(hl:l.length≤60)(h:K (aJ sl) σ):aB X n (.raw (.builtin "sorted")) [v] [] K σ :=
 Z5 (ns:=l.map λ(x:Nat)=>(x:Int)) (aa (Ax ..) hv) (by refine aa (aE ..) ?_;exact eD hl (nb rfl)) (by refine aa e (aa (Ax ..) ?_);exact h)
theorem acm{l sl:List Nat}(e:jC (l.map λ(x:Nat)=>(x:Int))=sl.map λ(x:Nat)=>(x:Int)):sl.length=l.length:=by
 have:=congrArg rX e
 rw [(se _).length_eq,aE,aE] at this
 exact this.symm
theorem acn(bk:Nat)(au:List Nat)(row:Nat->List UInt8):(aK bk).filterMap (λw=>if w∈au then none else some (ab.tuple [.n w, .bytes (row w)]))=sx ((fm bk au).map λ(x:Nat)=>(x:Int)) ((fm bk au).map λw=> .bytes (row w)):=by
 exact ao (MJ ..) (uw (aK bk) (λz=>z ∈au) id λw=>ab.tuple [.n w, .bytes (row w)])
theorem sub_if{q:Nat}(h:q≤p):some (ab.int ((p:Int) - (q:Int)))=if p<q then none else some (.n (p - q)):=by
 exact aa (if_neg (dC.mpr h)) (congrArg (some ∘ ab.int) (nx h).symm)
theorem aco{held:List (List UInt8)}(hh:Short held)(w:Nat):(held.getD w []).length≤1000:=by
 by_cases q:w<held.length
 ·exact hh.at q
 ·rw [ja,iy (fG q)];exact da _
section
variable{X:Cx}(C:Ctx X){n:Nat}{K:ab->ar->Prop}{σ:ar}
include C
theorem acp{held:List (List UInt8)}{au sl:List Nat}{bk:Nat}{inv:bl}(hh:Short held)(xw:held.length≤10)(fk:bk≤3)(uE:bk≤held.length)(hm:held.length - bk≤6)(qx:au.length≤10)(uB:jC (au.map λ(x:Nat)=>(x:Int))=sl.map λ(x:Nat)=>(x:Int))
  (EX:∀p∈cP bk sl,p<held.length - bk) (ML:(cP bk sl).length≤6) (hn:(cP bk sl).length≤(fm bk au).length)
  (xt:qs (oN (held.length - bk) (cP bk sl) ((fm bk au).take (cP bk sl).length))=some inv) (mj:Sq (cP bk sl).length inv)
  (h:K (jD (Ay held bk au sl inv)) σ):aB X (n+7) (.ref 231) [jD held,lD au, .n bk] [] K σ:=by
 obtain ⟨AA,m9,xo⟩:=MK bk au
 have jb:(held.drop bk).length=held.length - bk:=f9 ..
 rw [<-jb] at hm EX xt
 have dD:bk≤1000:=ag fk (nb rfl)
 have xn:(held.drop bk).length≤1000:=ag hm (nb rfl)
 have sA:(fm bk au).length≤6:=ag xo (ag fk (nb rfl))
 refine aB.out (C.call 24 rfl rfl (Az dD (ag xw (nb rfl)) (fh [false,false,false,false,false,false,false,false,true,true] (held.drop bk) .bytes .bytes (k5 xn) (λp hp K' k=>rZ (k _ _ rfl rfl))
  (EF (aa (aE ..) (k6 xn)) λa ha=>⟨rg dD,qk [false,false,false,false,false,false,false,false,true,true] (aK bk) .n (λw=>if w∈au then none else some (.tuple [.n w, .bytes (held.getD w [])])) (jE (k5 dD))
   (λw hw K' k=>ny (l:=au) rfl (λq=>k _ _ (if_pos q).symm rfl) λq=>oJ (MD (eB (fZ.mp hw) uE)) (ag (bS (fZ.mp hw)) dD) (rZ (k _ _ (if_neg q).symm rfl)))
   (acl (acn bk au λw=>held.getD w []) (by refine ao (MJ ..) (aa (aE ..) ?_);exact ag sA (nb rfl)) λc hc=> ?_) (i8 _)⟩))))
 replace ha:σ a=none:=ha;obtain ⟨MM,hc⟩:=mF (σ:=σ) (a:=a) (o:= .list ((held.drop bk).map .bytes)) hc;refine abH C.ok bX (aa (aE ..) (aa (aE ..) rfl)) (wz.mpr (AA.imp λh e=>dB h (kG.mp e))) (by refine aa (aE ..) ?_;exact ag sA (nb rfl)) (xv (l:=au) rfl uB (ag qx (nb rfl)) ?_)
 have acq:sl.length≤10:=acm uB▸qx
 have acr:(cP bk sl).length≤1000:=ag ML (nb rfl)
 generalize aiV:ee.list (sx _ _)=cv
 have MN:(σ.set a (.list ((held.drop bk).map .bytes))).set c cv=(σ.set c cv).set a (.list ((held.drop bk).map .bytes)):=ach MM.symm
 have acs:(σ.set c cv) a=none:=(bC MM.symm).trans ha
 let S:List (List UInt8)->St:=λps=>{m:= [some (jD held),some (lD au),some (.n bk),none,some (.ref a),some (xr (fm bk au) λw=>held.getD w []),none,some (aJ (cP bk sl))],fz:= [],σ:=(σ.set c cv).set a (.list (ps.map .bytes))}
 refine qk [false,false,false,false,false,false,false,false,true,true] sl .n (λp=>if p<bk then none else some (.n (p - bk))) (ag acq (nb rfl)) (λp hp K' k=>ql (a:=bk) (b:=p) (λq=>k _ _ (sub_if q) rfl) λq=>k _ _ (if_pos (EY q)).symm rfl)
  (j3 (uw sl (λz=>z <bk) (λp=>p - bk) ab.n) (aa (aE ..) acr) (ace C (rk:=fm bk au) (row:=λw=>held.getD w []) (aW:=held.drop bk) (.inr ⟨a,rfl,by
   refine (?_:((σ.set a _).set c cv) a=_);refine aa MN ?_;exact bX⟩) (λp hp=>hh p (nV hp)) hm EX ML sA AA (λw hw=>eB (m9 w hw) fk) (aco hh) hn xt mj
   (jZ [false,false,false,true,false,false,true,false] (aC (cP bk sl) (sy (held.drop bk) (cP bk sl) (MI held bk au sl) inv)) (λx=> .tuple [.n x.1, .bytes x.2]) (λ(ps:List (List UInt8)) (x:Nat×List UInt8)=>ps.set x.1 x.2) S (λJ ps=>ps.length=(held.drop bk).length) (held.drop bk) rfl (λJ J J J h=>(kq ..).trans h) (λJ=>dY)
    (λi x ps K' ei uC k J=> ?_) (λJ=>xg (λb o e=>mE acs b o (mE hc b o e)) bX ha h) (zip_map .n .bytes _ _) (congrArg (St.mk _ _) MN))))
 have oO:=EX _ (iB (cw ei)).1
 exact Aj bX (by refine aa (aE ..) (aa uC ?_);exact oO) (ag (bS oO) xn) (k _ _ rfl (congrArg (St.mk _ _) (sk.trans (congrArg (λl=>(σ.set c cv).set a (.list l)) abd.symm))))
end
theorem act{q:Nat}(h:p<w):((q:Nat):Int)+w - p - 1=((q+w - p - 1:Nat):Int):=by
 have h':=eB h (lr w q)
 refine aa (nx (ru h')) (aa (nx (bS h')) ?_);rfl
noncomputable def acu:List (Str×ab):= [("sector", .int 4),("slab", .int 8),("record", .int 32),("fan", .int 4),("dnodes", .int 4),("ring", .int 1),("defer", .int 2),("most_record", .int 128),("uber", .int 4),("config", .int 4),("zap", .int 128)]
noncomputable abbrev dz:ab:= .inst 458 acu
theorem acv{r D:Addr}(h:σ r=some (.inst D fs))(hx:dR x fs=some v)(hf:mW D x=true)(hh:handOk v=true):vz σ (.ref r) x=some v:=by
 have e:lV σ (.ref r) x=some v:=by show (match σ r with | some (.inst _ fs)=>dR x fs | _=>none)=_;refine aa h ?_;exact hx
 have e2:pz σ (.ref r)=some D:=by show (match σ r with | some (.inst D _)=>some D | _=>none)=_;exact aa h rfl
 rewrite [vz];refine aa e ?_;exact mX.i (by unfold attrOk;refine aH e2 hh ?_;simp [hf]) rfl
theorem b0{r D:Addr}{k:ab->Prop}(h:σ r=some (.inst D fs))(q:k v)(hx:dR x fs=some v:=by rfl)(hf:mW D x=true:=by rfl)(hh:handOk v=true:=by rfl):bE (vz σ (.ref r) x) k:=bE.i (acv h hx hf hh) q
theorem j8{D:Addr}{K:St->Prop}(h:st.σ a=some (.inst D fs))(k:K (st.put (st.σ.set a (.inst D (nZ x v fs)))))(hf:mW D x=true:=by rfl)(hl:yc fs.length 100=true:=by rfl):tE (.ref a) x v st K :=
 ⟨a,D,fs,rfl,h,⟨hf,sV hl⟩,k⟩
theorem d9{m:List (Option ab)}{fz:List Nat}{D:Addr}{K:St->Prop}(k:K {m:=m,fz:=fz,σ:=σ.set a (.inst D (nZ x v fs))})(hf:mW D x=true:=by rfl)(hl:yc fs.length 100=true:=by rfl):tE (.ref a) x v {m:=m,fz:=fz,σ:=σ.set a (.inst D fs)} K :=
 j8 bX (by show K {m:=m,fz:=fz,σ:=(σ.set a _).set a _};refine aa sk ?_;exact k) hf hl
theorem aiW(a b:Nat):(a:Int).fdiv (b:Int)=((a / b:Nat):Int):=by refine aa (Ca _ (et _)) ?_;rfl
theorem aiX(a b:Nat):(a:Int).fmod (b:Int)=((a % b:Nat):Int):=aa (tC _ (et _)) rfl
noncomputable def AB(n w p:Nat):Nat:=let m:=(n+3) / 4;(m+p*((m+w - p - 1) / (w - p))+p) / (p+1)*(p+1)
noncomputable def jG(m w p:Nat):List Nat :=
 let low:=m / (w - p)
 let more:=m % (w - p)
 let big:=if 0<more then more+p else 0
 (aK (if low=0 then big else w)).map λi=>if i<big then low+1 else low
noncomputable def gX(s p:Nat):Bool:=decide (p=1)&&decide (s / 8 % 2=1)
noncomputable abbrev bK:=Nat×Nat×Nat×Int
variable {af:List bK}
noncomputable def xx(c:bK):List (Str×ab):= [("child", .n c.1),("row", .n c.2.1),("many", .n c.2.2.1),("first", .int c.2.2.2)]
noncomputable abbrev kL(c:bK):ab:= .inst 77 (xx c)
theorem bj.n{b:Bool}{A B:Prop}(h:bj b B A):bj (!b) A B:=by cases b<;>exact h
theorem ki{K:ab->ar->Prop}{a b:Int}(e:a=b)(h:K (.int b) σ):K (.int a) σ:=e▸h
theorem aiY{i:Nat}{v':ab}{K:St->Prop}(e:v=v')(h:K (st.jl i v'))(q:n8 i st=true:=by rfl):pE i v st K:=e▸cX.i q h
theorem szl(h2:p<w)(hw:w≤10):(jG m w p).length≤20:=by
 unfold jG;dsimp only;refine aa (aE ..) (aa fj ?_)
 have:m % (w - p)<w - p:=Bz _ (ru h2)
 split
 ·split
  ·exact ag (gG (bS this) p) (ag (b6 (wc (bS h2))) (ag hw (nb rfl)))
  ·exact da _
 ·exact ag hw (nb rfl)
theorem iw(h:p<w):(w:Int) - (p:Int)=((w - p:Nat):Int):=(nx (bS h)).symm
section
variable{X:Cx}(C:Ctx X){n:Nat}{K:ab->ar->Prop}{σ:ar}
include C
theorem MO(h:K (.n ((m+3) / 4)) σ):aB X (n+1) (.ref 88) [.n m,dz] [] K σ :=
 C.call 1 rfl rfl ⟨⟨by decide,by decide⟩,ki (K:=K) (congrArg (λz=>fV z 4) (acw (m:Int) 4 1)) h⟩
theorem MP(h1:1≤p)(h3:p≤3)(h2:p<w)(h:K .none σ):aB X (n+1) (.ref 95) [.n w, .n p] [] K σ :=
 C.call 2 rfl rfl (ql (a:=1) (b:=p) (λJ=>bj.n (ql (a:=p) (b:=3) (λJ=>ql (a:=w) (b:=p) (λq=>absurd h2 (dC.mpr q)) λJ=>h) λq=>absurd h3 q)) λq=>absurd h1 q)
theorem acx(hn:m≤1000)(h1:1≤p)(h3:p≤3)(h2:p<w)(hw:w≤10)(h:K (.n (AB m w p)) σ):aB X (n+2) (.ref 102) [.n m, .n w, .n p,dz] [] K σ:=by
 have ri:(m+3) / 4≤300:=ag (AC (gG hn 3)) (nb rfl)
 have e1:=act (q:=(m+3) / 4) h2
 have hb:((m+3) / 4+w - p - 1) / (w - p)≤310:=ag (oz _ _) (ag (gJ ..) (ag (gJ ..) (fP ri hw)))
 have wq:p*(((m+3) / 4+w - p - 1) / (w - p))≤3*310:=L1 h3 hb
 have fk:p≤1000000:=ag h3 (nb rfl)
 have nE:((p:Int)+1).natAbs≤2^31:=cY (x:=p+1) (ag (fT h3) (nb rfl))
 have hA:=fP ri wq
 have e2:fV ((((m+3) / 4:Nat):Int)+p*fV ((((m+3) / 4:Nat):Int)+w - p - 1) ((w:Int) - p)+p) ((p:Int)+1)=((((m+3) / 4+p*(((m+3) / 4+w - p - 1) / (w - p))+p) / (p+1):Nat):Int):=aH e1 (iw h2) rfl
 refine C.call 3 rfl rfl (MP C h1 h3 h2 (MO C ⟨⟨aa (iw h2) (λe=>fK (ru h2) (kG.mp e)),by refine aa (iw h2) ?_;exact cY (ag (gJ ..) (ag hw (nb rfl)))⟩,
  ⟨cY fk,by refine aH e1 (iw h2) ?_;exact cY (ag hb (nb rfl))⟩,⟨(oP.mpr (MQ p):((p+1:Nat):Int)≠0),nE⟩,⟨by refine aa e2 ?_;exact cY (ag (oz _ _) (ag (fP hA h3) (nb rfl))),nE⟩,ki (K:=K) (congrArg (λz=>z *((p:Int)+1)) e2) h⟩))
theorem acy(hm:m≤1000)(h2:p<w)(hw:w≤10)(h:K (aJ (jG m w p)) σ):aB X (n+1) (.ref 107) [.n m, .n w, .n p] [] K σ:=by
 have AD:((w:Int) - (p:Int))≠0:=aa (iw h2) (λe=>fK (ru h2) (kG.mp e))
 have acz:m % (w - p)<w - p:=Bz _ (ru h2)
 have acA:m % (w - p)+p≤20:=ag (fP (ag (bS acz) (gJ ..)) (bS h2)) (fP hw hw)
 let S:Int×Int->St:=λy=>{m:= [some (.n m),some (.n w),some (.n p),some (.int y.1),some (.int y.2),none,none],fz:= [],σ:=σ}
 refine C.call 4 rfl rfl (join S (λy=>y.1=(m / (w - p):Nat)/\y.2=(m % (w - p):Nat)) (λK' k J=>⟨⟨AD,by refine aa (iw h2) ?_;exact cY (ag (gJ ..) (ag hw (nb rfl)))⟩,AD,k (_,_) _ ⟨by refine aa (iw h2) ?_;rfl,by refine aa (iw h2) ?_;rfl⟩ rfl⟩) λ⟨_,_⟩ ⟨e1,e2⟩=> ?_);subst e1 e2;unfold aJ jG at h
 dsimp only at h
 generalize m / (w - p)=low at *
 generalize m % (w - p)=more at *
 let S2:Nat->St:=λb=>{m:= [some (.n m),some (.n w),some (.n p),some (.n low),some (.n more),some (.n b),none],fz:= [],σ:=σ}
 refine join S2 (λb=>b=if 0<more then more+p else 0) (λK' k J=>fi (a:=0) (b:=more) (λq=>k (more+p) _ (if_pos q).symm rfl) λq=>k 0 _ (if_neg q).symm rfl) λb hb=> ?_
 have zT:b≤20:=by refine aa hb ?_;split;exact acA;exact da _
 rw [<-hb] at h
 let S3:Nat->St:=λu=>{m:= [some (.n m),some (.n w),some (.n p),some (.n low),some (.n more),some (.n b),some (.n u)],fz:= [],σ:=σ}
 refine join S3 (λu=>u=if low=0 then b else w) (λK' k J=>sg (a:=low) (b:=0) (λq=>k b _ (if_pos q).symm rfl) λq=>k w _ (if_neg q).symm rfl) λu hu=> ?_;rw [<-hu] at h
 have EZ:u≤1000:=by refine aa hu ?_;split;exact ag zT (nb rfl);exact ag hw (nb rfl)
 exact ⟨rg EZ,fh [false,false,false,false,false,false,false,true,true] (aK u) .n (λi=> .n (if i<b then low+1 else low)) (jE (k5 EZ)) (λi hi K' k=>fi (a:=i) (b:=b) (λq=>k _ _ (congrArg ab.n (if_pos q).symm) rfl) λq=>k _ _ (congrArg ab.n (if_neg q).symm) rfl) (nz (jE EZ) h) (i8 _)⟩
theorem acB{s:Nat}(h:K (.bool (gX s p)) σ):aB X (n+1) (.ref 114) [.n s, .n p,dz] [] K σ :=
 C.call 5 rfl rfl (sg (a:=p) (b:=1) (λq=>⟨⟨by decide,by decide⟩,by decide,(congrArg (λb=>K (.bool b) σ) (show gX s p=decide (((s / 8 % 2:Nat):Int)=1) by rewrite [gX];refine aa (decide_eq_true q) (aa (MR ..) ?_);exact decide_eq_decide.mpr kG.symm)).mp h⟩)
  λq=>(congrArg (λb=>K (.bool b) σ) (show gX s p=decide ((p:Int)=1) by rewrite [gX];refine aa (decide_eq_false q) (aa (IA ..) ?_);exact (decide_eq_false λe=>q (kG.mp e)).symm)).mp h)
end
section
variable {ob:α->ee}{r:Addr}{rs:List Addr}
noncomputable def gY(s w p:Nat):Nat->List Nat->Nat->List bK
 | _,[],_=> []
 | i,m::r,f=>((s % w+i) % w,s / w+(s % w+i) / w,m,if i<p then -1 else (f:Int))::gY s w p (i+1) r (if i<p then f else f+m)
theorem MS{s i f:Nat}{r:List Nat}:gY s w p i (m::r) f=((s % w+i) % w,s / w+(s % w+i) / w,m,if i<p then -1 else (f:Int))::gY s w p (i+1) r (if i<p then f else f+m):=rfl
theorem acC{s i f:Nat}:gY s w p i [] f= []:=rfl
noncomputable def E0:List bK->List bK
 | x::y::t=>(y.1,y.2.1,x.2.2.1,x.2.2.2)::(x.1,x.2.1,y.2.2.1,y.2.2.2)::t
 | l=>l
noncomputable def aX(s n w p:Nat):List bK :=
 if gX s p&&decide (1<(gY s w p 0 (jG ((n+3) / 4) w p) 0).length) then E0 (gY s w p 0 (jG ((n+3) / 4) w p) 0) else gY s w p 0 (jG ((n+3) / 4) w p) 0
theorem AE{i j:Nat}{x:α}(h:l.Nodup)(h1:l[i]? =some x)(h2:l[j]? =some x):i=j:=by
 obtain ⟨a1,b1⟩:=du.mp h1;obtain ⟨a2,b2⟩:=du.mp h2;rcases Nat.lt_trichotomy i j with q | q | q
 ·exact absurd (b1.trans b2.symm) (acD.mp h i j a1 a2 q)
 ·exact q
 ·exact absurd (b2.trans b1.symm) (acD.mp h j i a2 a1 q)
structure jH{α:Type}(ob:α->ee)(σ aF:ar)(a:Addr)(done:List α)(rs:List Addr):Prop where
 lst:aF a=some (.list (rs.map .ref))
 len:rs.length=done.length
 at_:∀(j:Nat) r c,rs[j]? =some r->done[j]? =some c->aF r=some (ob c)
 new:∀r∈rs,σ r=none
 nd:(a::rs).Nodup
 na:σ a=none
 keep:∀b o,σ b=some o->aF b=some o
theorem jH.uF{done:List α}(S:jH ob σ aF a done rs)(h:r∈a::rs):aF r≠none:=by
 rcases br.mp h with rfl | h
 ·exact aa S.lst (λh=>nomatch h)
 ·obtain ⟨j,hj⟩:=qf.mp h
  have acE:=(du.mp hj).1
  have acF:=S.len▸acE
  rw [S.at_ j r done[j] hj (bI acF)];exact λh=>nomatch h
theorem AF{x:α}(h:k<(l++ [x]).length):k<l.length∨k=l.length:=by rw [de] at h;exact Nat.lt_or_eq_of_le (pe h)
theorem MT{x y:α}{j:Nat}(h:(l++ [x])[j]? =some y):(j<l.length/\l[j]? =some y)∨(j=l.length/\y=x):=by
 rcases AF (du.mp h).1 with q | q
 ·exact .inl ⟨q,(nk q).symm.trans h⟩
 ·subst q;rw [acG] at h;exact .inr ⟨rfl,(aN h).symm⟩
theorem jH.push{done:List α}(S:jH ob σ aF a done rs){c:α}(hr:aF r=none):jH ob σ ((aF.set r (ob c)).set a (.list ((rs++ [r]).map .ref))) a (done++ [c]) (rs++ [r]):=by
 have h0:r∉a::rs:=λh=>S.uF h hr
 have sB:r≠a:=λe=>h0 (ao e (.head _))
 have nq:σ r=none:=by
  rcases e:σ r with _ | o
  ·rfl
  ·exact nn (hr.symm.trans (S.keep r o e))
 refine ⟨bX,by refine aa de (aa de (aa S.len ?_));rfl,λj x d hj hd=> ?_,λx hx=> ?_,(acH r (a::rs)).nodup_iff.mpr (f6.mpr ⟨h0,S.nd⟩),S.na,λb o e=> ?_⟩
 ·rcases MT hj with ⟨q,hj⟩ | ⟨q,rfl⟩
  ·have hx:=cw hj
   refine aa (bC (λe:x=a=>(f6.mp S.nd).1 (ao e hx))) (aa (bC (λe:x=r=>(show r∉rs from λh=>h0 (.tail _ h)) (ao e hx))) ?_);exact S.at_ j x d hj ((nk (ao S.len q)).symm.trans hd)
  ·rcases MT hd with ⟨q2,_⟩ | ⟨_,rfl⟩
   ·exact absurd q2 (by refine aa q (aa S.len ?_);exact iM _)
   ·exact aa (bC sB) (aa bX rfl)
 ·exact (ji.mp hx).elim (S.new x) λh=>aa (dT.mp h) nq
 ·have hb:b≠a:=λq=>nn (S.na.symm.trans (ao q e))
  refine aa (bC hb) (aa (bC (λq=>nn (nq.symm.trans (q▸e)))) ?_);exact S.keep b o e
theorem jH.acI{val:α->ab}(ht:∀c r,aF r=some (ob c)->σ r=none->w5 aF σ (.ref r) (val c)){done:List α}:∀{rs:List Addr},rs.length=done.length->(∀(j:Nat) r c,rs[j]? =some r->done[j]? =some c->aF r=some (ob c))->(∀r∈rs,σ r=none)->qi aF σ (rs.map .ref) (done.map val):=by
 induction done with
 | nil =>
  intro rs h _ _;rcases rs with _ | _
  ·exact .nil
  ·exact qg h
 | cons c done ih =>
  intro rs h ha hn;rcases rs with _ | ⟨r,rs⟩
  ·exact qg h
  ·exact .cons (ht c r (ha 0 r c rfl rfl) (hn r (.head _))) (ih (q6 h) (λj r' c' h1 h2=>ha (j+1) r' c' h1 h2) λr' hr=>hn r' (.tail _ hr))
theorem jH.out{done:List α}(S:jH ob σ aF a done rs){val:α->ab}(ht:∀c r,aF r=some (ob c)->σ r=none->w5 aF σ (.ref r) (val c)){K:ab->ar->Prop}(h:K (.list (done.map val)) σ):w8 K (.ref a) aF :=
 ⟨_,σ,S.keep, .list S.lst S.na (jH.acI ht S.len S.at_ S.new),h⟩
theorem jH.upd{done:List α}(S:jH ob σ aF a done rs){i:Nat}{c:α}(hr:rs[i]? =some r):jH ob σ (aF.set r (ob c)) a (done.set i c) rs:=by
 have hm:=cw hr
 have sB:a≠r:=λe=>(f6.mp S.nd).1 (aa e hm)
 refine ⟨aa (bC sB) S.lst,aa kq S.len,λj x d hj hd=> ?_,S.new,S.nd,S.na,λb o e=> ?_⟩
 ·by_cases q:i=j
  ·subst q;replace hj:=hr▸hj;cases hj
   have iZ:=(du.mp hd).1
   rw [vQ (by rw [kq] at iZ;exact iZ)] at hd
   cases hd;exact bX
  ·replace hd:=(CJ q)▸hd;rw [bC]
   ·exact S.at_ j x d hj hd
   ·rintro rfl
    have h1:=(du.mp hr).1
    exact q (AE ((f6.mp S.nd).2) hr hj)
 ·rw [bC]
  ·exact S.keep b o e
  ·rintro rfl;replace e:=(S.new _ hm)▸e;cases e
noncomputable abbrev acJ:=jH λc:bK=> .inst 77 (xx c)
theorem E1(c:bK)(r:Addr)(h:aF r=some (.inst 77 (xx c)))(h0:σ r=none):w5 aF σ (.ref r) (kL c):= .inst h h0 (qi.refl _)
theorem bj.c{b:Bool}{A B:Prop}(h:b=true->A)(h':b=false->B):bj b A B:=by
 cases b
 ·exact h' rfl
 ·exact h rfl
theorem acK{s n:Nat}(h:gX s p=false):aX s n w p=gY s w p 0 (jG ((n+3) / 4) w p) 0:=by unfold aX;refine aa h ?_;rfl
theorem acL{s n:Nat}(h:gX s p=true):aX s n w p=if 1<(gY s w p 0 (jG ((n+3) / 4) w p) 0).length then E0 (gY s w p 0 (jG ((n+3) / 4) w p) 0) else gY s w p 0 (jG ((n+3) / 4) w p) 0:=by
 unfold aX;refine aa h (aa (MR ..) ?_);exact ite_congr (propext decide_eq_true_iff) (λJ=>rfl) λJ=>rfl
structure E2 where
 done:List bK
 rs:List Addr
 f:Nat
 σ:ar
structure AG(s w p:Nat)(lF:List Nat)(σ:ar)(a:Addr)(i:Nat)(x:E2):Prop where
 st:acJ σ x.σ a x.done x.rs
 len:x.done.length=i
 eq:x.done++gY s w p i (lF.drop i) x.f=gY s w p 0 lF 0
theorem AG.push{s i f':Nat}{lF:List Nat}{x:E2}{c:bK}(P:AG s w p lF σ a i x)(hm:lF[i]? =some m)(hr:x.σ r=none)(hc:gY s w p i (m::lF.drop (i+1)) x.f=c::gY s w p (i+1) (lF.drop (i+1)) f') :
  AG s w p lF σ a (i+1) ⟨x.done++ [c],x.rs++ [r],f',(x.σ.set r (.inst 77 (xx c))).set a (.list (x.rs.map .ref++ [.ref r]))⟩:=by
 refine iH (du.mp hm) λiZ eg=> ?_
 have e:=P.eq
 rw [vM iZ,eg,hc] at e
 refine ⟨?_,by refine aa de (aa P.len ?_);rfl,aa (lj ..) e⟩
 have:=P.st.push (c:=c) hr
 rw [gW] at this
 exact this
section
variable{X:Cx}(C:Ctx X){n:Nat}{K:ab->ar->Prop}{σ:ar}
include C
theorem MU{c:bK}{x1 x2 x3 x4:ab}(h:∀a,σ a=none->K (.ref a) (σ.set a (.inst 77 (xx c))))(e1:x1= .n c.1:=by rfl)(e2:x2= .n c.2.1:=by rfl)(e3:x3= .n c.2.2.1:=by rfl)(e4:x4= .int c.2.2.2:=by rfl):aB X (n+2) (.ref 77) [x1,x2,x3,x4] [] K σ:=by
 subst e1 e2 e3 e4;exact call_cls C.ok rfl λa ha=>C.call 0 rfl rfl (d9 (d9 (d9 (d9 ⟨rfl,h a ha⟩))))
theorem acM{s:Nat}(hn:m≤1000)(h1:1≤p)(h3:p≤3)(h2:p<w)(hw:w≤10)(h:K (.list ((aX s m w p).map kL)) σ):aB X (n+3) (.ref 121) [.n s, .n m, .n w, .n p,dz] [] K σ:=by
 have sC:(w:Int)≠0:=λe=>absurd (eD (da p) h2) (aa (kG.mp (e:(w:Int)=((0:Nat):Int))) (iM 0))
 have xy:=cY (ag hw (nb rfl))
 refine aB.out (C.call 6 rfl rfl (MP C h1 h3 h2 (.own lk λa ha=>MO C (acy C (ag (AC (gG hn 3)) (nb rfl)) h2 hw ?_))));replace ha:σ a=none:=ha
 have uB:=szl (m:=(m+3) / 4) h2 hw
 have ga:=λe=>acK (s:=s) (n:=m) (w:=w) (p:=p) e
 have E3:=λe=>acL (s:=s) (n:=m) (w:=w) (p:=p) e
 generalize jG ((m+3) / 4) w p=lF at *
 let S:E2->St:=λx=>{m:= [some (.n s),some (.n m),some (.n w),some (.n p),some dz,some (.ref a),some (.n x.f),none,none,none,none,none,none],fz:= [],σ:=x.σ}
 refine loop [false,false,false,false,false,false,false,true,true,true,true,true,true] lF.zipIdx (λx=> .tuple [.n x.2, .n x.1]) S (λi x=>AG s w p lF σ a i x) ⟨[],[],0,_⟩ ⟨⟨bX,rfl,λJ J J=>nofun,λJ=>nofun,by simp,ha,mE ha⟩,rfl,rfl⟩ (λJ J J=>dY) (λi y x K' ei P k J=> ?_) (λx P=> ?_) (EI .n lF 0)
 ·refine dP (zipIdx_get ei) λe1 e2=> ?_;obtain ⟨m',j⟩:=y;dsimp only at e1 e2
  subst e1
  have aU:(x.rs.map ab.ref).length≤1000000:=by refine aa (aE ..) (aa P.st.len (aa P.len ?_));exact ag (bS ((du.mp e2).1)) (ag uB (nb rfl))
  have hx:∀{r o},x.σ r=none->(x.σ.set r o) a=some (.list (x.rs.map .ref)):=λ{r o} hr=>(bC λe=>P.st.uF (r:=a) (BB ..) ((congrArg x.σ e).trans hr)).trans P.st.lst
  refine ⟨sC,⟨_,oG P.st.lst,sC,⟨sC,xy⟩,⟨sC,xy⟩,fi (a:=j) (b:=p) (λq=> ?_) λq=> ?_⟩⟩
  ·exact MU C (c:=((s % w+j) % w,s / w+(s % w+j) / w,m', -1)) λr hr=>uh (hx hr) aU (fi (a:=j) (b:=p) (λJ=>k _ _ (P.push e2 hr (aa MS (aa (if_pos q) (aa (if_pos q) rfl)))) rfl) λq'=>absurd q q')
  ·exact MU C (c:=((s % w+j) % w,s / w+(s % w+j) / w,m',(x.f:Int))) λr hr=>uh (hx hr) aU (fi (a:=j) (b:=p) (λq'=>absurd q' q) λJ=>k _ _ (P.push e2 hr (aa MS (aa (if_neg q) (aa (if_neg q) rfl)))) rfl)
 ·have e:=P.eq
  rw [E4,YX,acC,iV] at e
  rw [<-e] at ga E3
  have jb:x.done.length≤1000000:=by refine aa P.len (aa E4 ?_);exact ag uB (nb rfl)
  refine acB C (bj.c (λq=>cx (k:=x.done.length) ((rY P.st.lst).trans (congrArg some ((aE _).trans P.st.len))) jb (fi (a:=1) (b:=x.done.length) (λq2=> ?_) λq2=>P.st.out E1 (by rw [E3 q,if_neg q2] at h;exact h))) λq=>P.st.out E1 (ao (ga q) h));obtain ⟨done,rs,f,aF⟩:=x
  have St:=P.st
  have gI:1<rs.length:=aa St.len q2
  have nq:=bI (Nat.lt_of_succ_lt gI)
  have qy:=bI gI
  generalize rs[0]=r0 at nq
  generalize rs[1]=r1 at qy
  rw [E3 q,if_pos q2] at h
  rcases done with _ | ⟨c0,_ | ⟨c1,t⟩⟩
  ·exact absurd q2 (E5 1)
  ·exact absurd q2 (iM 1)
  have h0:=St.at_ 0 r0 c0 nq rfl
  have h1:=St.at_ 1 r1 c1 qy rfl
  refine lB (i:=0) St.lst (by rw [cW,nq];rfl) (nb rfl) (lB (i:=1) St.lst (by rw [cW,qy];rfl) (nb rfl) (b0 h1 (v:= .n c1.1) (b0 h1 (v:= .n c1.2.1) (b0 h0 (v:= .n c0.1) (b0 h0 (v:= .n c0.2.1)
   (j8 h0 (d9 (j8 ((bC (λe=>absurd (AE (f6.mp St.nd).2 nq (e▸qy)) (by decide))).trans h1) (d9 ?_)))))))))
  exact ((St.upd (i:=0) (c:=(c1.1,c1.2.1,c0.2.2.1,c0.2.2.2)) nq).upd (i:=1) (c:=(c0.1,c0.2.1,c1.2.2.1,c1.2.2.2)) qy).out E1 h
end
end
noncomputable def lG(oct:List UInt8)(b size:Nat):List UInt8:=(oct.take (b+size)).drop b++ci (size - ((oct.take (b+size)).drop b).length) 0
noncomputable def eR(oct:List UInt8)(af:List bK):List (List UInt8):=af.filterMap λc=>if c.2.2.2<0 then none else some (lG oct (c.2.2.2.toNat*4) (c.2.2.1*4))
theorem AH(oct:List UInt8)(b size:Nat):(lG oct b size).length=size:=by
 unfold lG;refine aa de (aa pV ?_);exact lQ (by refine aa f9 (aa iY ?_);exact Nat.sub_le_of_le_add (ao (ll b size) (kD ..)))
def oQ(af:List bK):Prop:=∀c∈af,c.2.2.1≤100/\c.2.2.2≤100
theorem acN(h:oQ af):Short (eR oct af):=λp hp=>by
 obtain ⟨c,hc,e⟩:=oM.mp hp
 split at e
 ·cases e
 ·cases e;refine aa (AH ..) ?_;have:=h c hc;exact ag (u5 4 this.1) (by decide)
noncomputable def aG(oct:List UInt8)(af:List bK)(p:Nat):List (List UInt8):=lA (eR oct af) p++eR oct af
noncomputable abbrev jI(af:List bK):ab:= .list (af.map kL)
noncomputable def MV(ls:List Addr)(p:Nat):List (Str×ab):= [("children", .list (ls.map .ref)),("parity", .n p),("guid", .int 7),("shape",dz)]
noncomputable abbrev b9(ls:List Addr)(p:Nat):ab:= .inst 338 (MV ls p)
noncomputable def AI(oct:List UInt8)(acc:List (List UInt8))(c:bK):List (List UInt8):=if c.2.2.2<0 then acc else acc++ [lG oct (c.2.2.2.toNat*4) (c.2.2.1*4)]
theorem acO(oct:List UInt8)(af:List bK):∀acc,af.foldl (AI oct) acc=acc++eR oct af:=by
 induction af with
 | nil=>exact λacc=>(iV acc).symm
 | cons c af ih =>
  intro acc;refine aa my (aa (ih ..) ?_);rewrite [AI];unfold eR;refine aa lC ?_
  by_cases q:c.2.2.2<0
  ·exact aa (if_pos q) (aa (if_pos q) rfl)
  ·refine aa (if_neg q) (aa (if_neg q) (aa (lj ..) ?_));rfl
theorem toNat_sub'(a b:Nat):((a:Int) - (b:Int)).toNat=a - b:=aaI a b
theorem acP{b z:Nat}:((oct.take (b+z)).drop b).length≤z:=by
 refine aa f9 (aa iY ?_);exact Nat.sub_le_iff_le_add'.mpr (kD ..)
theorem E6(m:Nat):fV ((m:Int)+4 - 1) 4=((m+3) / 4:Nat):=congrArg (λz=>fV z 4) (acw (m:Int) 4 1)
section
variable{X:Cx}(C:Ctx X){n:Nat}{K:ab->ar->Prop}{σ:ar}
include C
theorem acQ(ho:oct.length≤1000)(hc:oQ af)(hcl:af.length≤10)(h:K (jD (eR oct af)) σ):aB X (n+1) (.ref 128) [.bytes oct,jI af,dz] [] K σ:=by
 refine aB.out (C.call 7 rfl rfl (.own lk λa ha=> ?_));replace ha:σ a=none:=ha
 let S:List (List UInt8)->St:=λacc=>{m:= [some (.bytes oct),some (jI af),some dz,some (.ref a),none,none,none,none],fz:= [],σ:=σ.set a (.list (acc.map .bytes))}
 refine jZ [false,false,false,false,true,true,true,true] af kL (AI oct) S (λi acc=>acc.length≤i) [] (cg _) (λi c acc J h=> ?_) (λJ=>dY) (λi c acc K' ei i4 k J=> ?_) λJ=>xg (mE ha) bX ha (by refine aa (acO ..) ?_;exact h)
 ·unfold AI
  split
  ·exact mr h
  ·exact aa de (fT h)
 ·obtain ⟨hm,hf⟩:=hc c (cw ei)
  have i4:=ag i4 (ag (bS (du.mp ei).1) hcl)
  obtain ⟨c1,c2,z,f⟩:=c;cases f with
  | negSucc f=>exact k acc _ (if_pos (Int.negSucc_lt_zero f)).symm rfl
  | ofNat f =>
   have hf:f≤100:=dU.mp hf
   have hz:z*4≤1000:=ag (u5 4 hm) (by decide)
   have MW:f*4≤1000:=ag (u5 4 hf) (by decide)
   have hl:=acP (oct:=oct) (b:=f*4) (z:=z*4)
   have j7:=ag hl hz
   refine ⟨⟨cY (ag hf (by decide)),by decide⟩,⟨⟨cY (ag hm (by decide)),by decide⟩, .bytes _ (f*4) (f*4+z*4) rfl (xd (k6 MW)) (xe (ag (fP MW hz) (by decide))) (k6 ho) (rZ ⟨_,oG bX,cx rfl (k6 j7)
    (z0 (I5 (dU.mpr hl)) (il (acR _ (et _)) (dU.mpr (k6 hz))) ⟨?_,app (f:= .bytes) (x:=lG oct (f*4) (z*4)) (congrArg (λk=>ab.bytes (_++ci k 0)) (toNat_sub' (z*4) _)) (ag i4 (by decide)) (k _ _ (if_neg (jV.mpr (et f))).symm rfl)⟩)⟩)⟩⟩
   show _≤_
   exact aa pV (ag (fP j7 (t9.mpr (il (acR _ (et _)) (dU.mpr hz)))) (by decide))
theorem E7(ho:oct.length≤1000)(hc:oQ af)(hcl:af.length≤10)(hp:p<10)(h:K (jD (aG oct af p)) σ):aB X (n+4) (.ref 276) [b9 ls p, .bytes oct,jI af] [] K σ:=by
 refine C.call 30 rfl rfl (acQ C ho hc hcl (aaR C (acN hc) (ag (bS hp) (by decide)) ⟨?_,by refine ao gW ?_;exact h⟩))
 show _≤_
 rw [aE,aE,lA,aE,fj];exact ag (fP (bS hp) (ag (tW _ _) hcl)) (by decide)
theorem acS(hn:m≤1000)(h1:1≤p)(h3:p≤3)(h2:p<ls.length)(hw:ls.length≤10)(h:K (.n (AB m ls.length p)) σ):aB X (n+3) (.ref 262) [b9 ls p, .n m] [] K σ :=
 C.call 28 rfl rfl (cx (k:=ls.length) (congrArg some (aE _)) (ag hw (by decide)) (acx C hn h1 h3 h2 hw h))
theorem AJ{s:Nat}(hn:m≤1000)(h1:1≤p)(h3:p≤3)(h2:p<ls.length)(hw:ls.length≤10)(h:K (jI (aX s m ls.length p)) σ):aB X (n+4) (.ref 269) [b9 ls p, .n s, .n m] [] K σ :=
 C.call 29 rfl rfl (cx (k:=ls.length) (congrArg some (aE _)) (ag hw (by decide)) (acM C hn h1 h3 h2 hw h))
theorem MX(h:K (.n ((m+3) / 4)) σ):aB X (n+1) (.ref 476) [.n m, .int 4] [] K σ:=C.call 49 rfl rfl ⟨⟨by decide,by decide⟩,ki (K:=K) (E6 m) h⟩
theorem acT(hn:m≤1000)(h:K (.n ((m+3) / 4*4)) σ):aB X (n+1) (.ref 469) [.n m, .int 4] [] K σ :=
 C.call 48 rfl rfl ⟨⟨by decide,by decide⟩,⟨by refine aa (E6 ..) ?_;exact cY (ag (oz _ _) (ag (gG hn 3) (by decide))),by decide⟩,ki (K:=K) (congrArg (λz=>z *4) (E6 m)) h⟩
theorem MY(h:K (.int 1) σ):aB X (n+1) (.ref 476) [.int 4, .int 4] [] K σ:=MX C (m:=4) h
theorem MZ(h:K (.int 2) σ):aB X (n+3) (.ref 497) [dz] [] K σ:=C.call 52 rfl rfl (C.call 51 rfl rfl (MY C (C.call 50 rfl rfl (MY C ⟨⟨by decide,by decide⟩,h⟩))))
end
noncomputable def AK(c4:Bool):List ab:=if c4 then [.tuple [.int 9, .int 10]] else []
structure jJ(σ:ar)(m r:Addr)(c4:Bool):Prop where
 m:σ m=some (.inst 641 [("rows", .ref r)])
 r:σ r=some (.list (AK c4))
theorem aiZ{r:Addr}(h:σ r=some (.list vs)):ug σ (.ref r)=some vs.length:=by
 exact rY h
theorem acU{j:Int}{k:ab->Prop}(h:σ a=some (.list vs))(hj:pC j vs=some v)(q:k v):bE (m0 σ (.ref a) j) k :=
 bE.i (show (mY (σ a)).bind _=_ by refine aa (oI h) ?_;exact hj) q
theorem acV:pC (fV (0+1) 2) (AK true)=some (.tuple [.int 9, .int 10]):=by kernel_rfl
noncomputable def oS(c4:Bool)(x:Nat):Nat:=if c4&&decide (9≤x) then 1 else 0
section
variable{X:Cx}(C:Ctx X){n:Nat}{K:ab->ar->Prop}{σ:ar}{m r:Addr}{c4:Bool}
theorem jJ.cls(R:jJ σ m r c4):pz σ (.ref m)=some 641:=by show (match σ m with | some (.inst D _)=>some D | _=>none)=_;exact aa R.m rfl
theorem jJ.no(R:jJ σ m r c4)(e:dR x [(("rows" :Str),ab.ref r)]=none):lV σ (.ref m) x=none:=by show (match σ m with | some (.inst _ fs)=>dR x fs | _=>none)=_;refine aa R.m ?_;exact e
theorem jJ.aI(C:Ctx X)(R:jJ σ m r c4){f:Addr}{k:Value->Prop}(h:k (.ref f))(hm:py 641 x=some f:=by rfl)(e:dR x [(("rows" :Str),ab.ref r)]=none:=by rfl):MethP X σ (.ref m) x k:=⟨_,w9 C.ok hm R.cls (R.no e),h⟩
include C
theorem E8{b z:Nat}(h:K .none σ):aB X (n+1) (.ref 534) [.ref m, .n b, .n z] [] K σ:=C.call 55 rfl rfl h
theorem AL(R:jJ σ m r c4){x:Nat}(h:K (.n (oS c4 x)) σ):aB X (n+1) (.ref 527) [.ref m, .n x] [] K σ:=by
 refine C.call 54 rfl rfl (b0 R.m (v:= .ref r) (cx (rY R.r) (by cases c4<;>decide) ?_));cases c4 with
 | false=>exact jj [] (λ_:Unit=>{m:= [some (.ref m),some (.n x),some (.n 0),some (.n 0),none],fz:= [],σ:=σ}) (λJ=>0) (λJ=>True) () trivial λJ K' J J=>h
 | true =>
  let S:Int×Int->St:=λy=>{m:= [some (.ref m),some (.n x),some (.int y.1),some (.int y.2),none],fz:= [],σ:=σ}
  refine jj [false,false,false,false,true] S (λy=>(y.2 - y.1).toNat) (λy=>(y.1=0/\y.2=1)∨(y.1=(oS true x:Nat)/\y.2=(oS true x:Nat))) (0,1) (.inl ⟨rfl,rfl⟩) λy K' P k=> ?_;obtain ⟨l,u⟩:=y
  have lt:∀z:Int,(z - z).toNat<((1:Int) - 0).toNat:=λz=>by refine aa (M0 ..) ?_;decide
  rcases P with ⟨e1,e2⟩ | ⟨e1,e2⟩<;>subst e1 e2
  ·exact ⟨⟨by decide,by decide⟩,b0 R.m (v:= .ref r) (acU R.r acV (ql (a:=9) (b:=x) (λq=>k (_,_) _ (lt _) (.inr ⟨(congrArg lb (if_pos (by refine aa (decide_eq_true q) ?_;rfl):oS true x=1)).symm,(congrArg lb (if_pos (by refine aa (decide_eq_true q) ?_;rfl):oS true x=1)).symm⟩) rfl)
    λq=>k (_,_) _ (lt _) (.inr ⟨(congrArg lb (if_neg (by refine aa (decide_eq_false q) ?_;exact nl):oS true x=0)).symm,(congrArg lb (if_neg (by refine aa (decide_eq_false q) ?_;exact nl):oS true x=0)).symm⟩) rfl))⟩
  ·exact fi (a:=oS true x) (b:=oS true x) (λq=>absurd q (iM _)) λJ=>h
theorem M1(R:jJ σ m r c4)(h:K (.bool c4) σ):aB X (n+2) (.ref 541) [.ref m, .int 9, .int 1] [] K σ:=by
 refine C.call 56 rfl rfl (R.aI C (E8 C (b:=9) (z:=1) (R.aI C (AL C R (x:=9) ?_))));cases c4 with
 | false=>exact h
 | true=>exact b0 R.m (v:= .ref r) (lB (i:=0) R.r rfl (by decide) h)
theorem acW(R:jJ σ m r false)(h:K .none (σ.set r (.list (AK true)))):aB X (n+4) (.ref 596) [.ref m, .int 9, .int 1] [] K σ :=
 C.call 58 rfl rfl (R.aI C (C.call (n:=n+2) 57 rfl rfl (R.aI C (E8 C (b:=9) (z:=1) (R.aI C (AL C R (x:=9) (R.aI C (C.call 59 rfl rfl (R.aI C (E8 C (b:=9) (z:=1) (R.aI C (AL C R (x:=9) (R.aI C (AL C R (x:=10)
  (.fz lk (b0 R.m (v:= .ref r) (.list r [] [.tuple [.int 9, .int 10]] 0 0 rfl R.r rfl rfl rfl lk (by decide) (by decide) h)))))))))))))))))
end
theorem xz{i:Int}(e:i=k)(h:k≤1000000):lZ (some (.int i))=some k:=by subst e;exact xd h
theorem uG{i:Int}{n:Nat}(e:i=k)(h:k≤1000000):l0 n (some (.int i))=some k:=xz e h
theorem M2{we:ar}{w:Addr}{M:List (Option ab)}{F:List Nat}(h0:we w=some (.list vs))(h:σ w=some (.list vs)):Guard (ownOf we (.ref w)) {m:=M,fz:=F,σ:=σ}:=λq hq=>by
 rw [yz h0] at hq
 rw [dT] at hq;subst hq;exact h
noncomputable def splice(m:List UInt8)(p:Nat)(o:List UInt8):List UInt8:=m.take (4*p)++o++m.drop (4*p+4)
noncomputable abbrev Wt:=Nat×List UInt8
noncomputable def jc(mem:List UInt8)(a0:List Wt):List UInt8:=a0.foldl (λm x=>splice m x.1 x.2) mem
noncomputable def win(m:List UInt8)(s n:Nat):List UInt8:=(m.drop (4*s)).take (4*n)
def xB(S:Nat)(a0:List Wt):Prop:=∀x∈a0,x.1<S/\x.2.length=4
theorem E9{A R:List α}{n:Nat}(h:A.length=n):(A++R).take (n+k)=A++R.take k:=by subst h;exact List.take_length_add_append ..
theorem acX{A R:List α}{n:Nat}(h:A.length=n):(A++R).drop (n+k)=R.drop k:=by subst h;exact List.drop_length_add_append ..
theorem M3{m o:List UInt8}{S:Nat}(h:m.length=4*S)(hp:p<S)(ho:o.length=4):(m.take (4*p)++o).length=4*p+4:=by
 exact aa de (aa (xD (h▸c8 4 (bS hp))) (aa ho rfl))
theorem AM{m o:List UInt8}{S:Nat}(h:m.length=4*S)(hp:p<S)(ho:o.length=4):(splice m p o).length=4*S:=by
 rewrite [splice];refine aa de (aa (M3 h hp ho) (aa f9 (aa h ?_)));exact lQ (c8 4 hp)
theorem AN{a0:List Wt}{S:Nat}:∀{mem:List UInt8},mem.length=4*S->xB S a0->(jc mem a0).length=4*S:=by
 induction a0 with
 | nil=>exact λh J=>h
 | cons x a0 ih=>exact λh hw=>ih (AM h (hw x (.head _)).1 (hw x (.head _)).2) λy hy=>hw y (.tail _ hy)
theorem xF{m:List UInt8}{s n S:Nat}(h:m.length=4*S)(hs:s+n≤S):(win m s n).length=4*n:=by
 rewrite [win];refine aa iY (aa f9 (aa h ?_));exact gT (Nat.le_sub_of_add_le (by refine ao (zu ..) (aa (ll ..) ?_);exact c8 4 hs))
theorem acY{d o:List UInt8}{i:Nat}(hk:i+4≤k)(hd:i≤d.length)(ho:o.length=4):(d.take i++(o++d.drop (i+4))).take k=(d.take k).take i++o++(d.take k).drop (i+4):=by
 obtain ⟨e,rfl⟩:=AO hk;exact aa AP (aa (gT (ag (cb i 4) (cb _ e))) (aa t8 (aa (nu ..) (aa (ka ..) (aa (E9 (xD hd)) (aa (E9 ho) (aa (lj ..) rfl)))))))
theorem M4{m o:List UInt8}{S s n:Nat}(h:m.length=4*S)(hs:s+n≤S)(h1:s≤p)(h2:p<s+n)(ho:o.length=4) :
  win (splice m p o) s n=(win m s n).take (4*(p - s))++o++(win m s n).drop (4*(p - s)+4):=by
 obtain ⟨q,rfl⟩:=AO h1
 have hS:=c8 4 (ag (bS h2) hs)
 rw [zu] at hS
 rewrite [win];rewrite [win];rewrite [splice];refine aa (nu ..) (aa (zu ..) (aa (lj ..) (aa (acZ (by rw [iY,h];exact zS.mpr ⟨cb ..,ag (cb ..) hS⟩)) (aa t8 (aa (nu ..) (aa (ka ..) (ao M5 ?_)))))));exact acY (c8 4 (ac0 h2)) (by refine aa f9 (aa h ?_);exact M6 hS) ho
theorem ac1{m o:List UInt8}{S s n:Nat}(h:m.length=4*S)(hp:p<S)(h1:¬ (s≤p/\p<s+n))(ho:o.length=4):win (splice m p o) s n=win m s n:=by
 rw [win,win,splice];rcases M7 p s with q | q
 ·obtain ⟨e,he⟩:=AO (show 4*p+4≤4*s from c8 4 q);exact aa he (aa (acX (M3 h hp ho)) (aa M5 rfl))
 ·have q2:=c8 4 (fG λr=>h1 ⟨q,r⟩)
  rw [zu] at q2
  have hl:4*p≤m.length:=h▸c8 4 (bS hp)
  exact aa (lj ..) (aa ac2 (aa (M8 (by rw [xD hl];exact q2)) (aa AP (aa (gT q2) (ao ac2 rfl)))))
noncomputable abbrev qz(x:Wt):ab:= .tuple [.n x.1, .bytes x.2]
noncomputable def mH(b w:Addr)(out:Bool)(i j:Int):List (Str×ab):= [("sector", .int 4),("octets", .ref b),("waiting", .ref w),("is_out", .bool out),("reads", .int i),("writes", .int j)]
structure gb(σ:ar)(d b w:Addr)(out:Bool)(i j:Int)(mem:List UInt8)(a0:List Wt):Prop where
 d:σ d=some (.inst 436 (mH b w out i j))
 b:σ b=some (.di mem)
 w:σ w=some (.list (a0.map qz))
theorem M9{k:List ab->Prop}(h:σ a=some (.list vs))(q:k vs):bE (ty σ (.ref a)) k:=bE.i (oI h) q
theorem sD{a:Nat}(h:a≤1000):((a:Int)).natAbs≤2^31/\(4:Int).natAbs≤2^31:=⟨cY (k6 h),by decide⟩
section
variable{X:Cx}(C:Ctx X){n:Nat}{K:ab->ar->Prop}{σ:ar}{d b w:Addr}{out:Bool}{i j:Int}{mem:List UInt8}{a0:List Wt}{S:Nat}
theorem gb.cls(D:gb σ d b w out i j mem a0):pz σ (.ref d)=some 436:=by show (match σ d with | some (.inst D _)=>some D | _=>none)=_;exact aa D.d rfl
theorem gb.no(D:gb σ d b w out i j mem a0)(e:dR x (mH b w out i j)=none):lV σ (.ref d) x=none:=by show (match σ d with | some (.inst _ fs)=>dR x fs | _=>none)=_;refine aa D.d ?_;exact e
theorem gb.aI(C:Ctx X)(D:gb σ d b w out i j mem a0){f:Addr}{k:Value->Prop}(h:k (.ref f))(hm:py 436 x=some f:=by rfl)(e:dR x (mH b w out i j)=none:=by rfl):MethP X σ (.ref d) x k:=⟨_,w9 C.ok hm D.cls (D.no e),h⟩
theorem gb.db(D:gb σ d b w out i j mem a0):d≠b/\d≠w/\b≠w:=⟨λe=>ee.noConfusion (aN (D.d.symm.trans ((congrArg σ e).trans D.b))),λe=>ee.noConfusion (aN (D.d.symm.trans ((congrArg σ e).trans D.w))),λe=>ee.noConfusion (aN (D.b.symm.trans ((congrArg σ e).trans D.w)))⟩
include C
theorem M'(D:gb σ d b w out i j mem a0)(hm:mem.length=4*S)(hS:S≤1000)(h:K (.n S) σ):aB X (n+1) (.ref 363) [.ref d] [] K σ :=
 C.call 41 rfl rfl (b0 D.d (v:= .ref b) (cx (k:=mem.length) (show (σ b).bind Ex=_ by refine aa D.b ?_;rfl) (by refine aa hm ?_;exact ag (c8 4 hS) (nb rfl)) (b0 D.d (v:= .int 4) ⟨⟨by decide,by decide⟩,ki (K:=K) (congrArg lb (show mem.length / 4=S by refine aa hm ?_;exact Na S (nb rfl))) h⟩)))
theorem Nb(D:gb σ d b w out i j mem a0)(hm:mem.length=4*S)(hS:S≤1000){s z:Nat}(hs:s+z≤S)(h:K .none σ):aB X (n+2) (.ref 370) [.ref d, .n s, .n z] [] K σ :=
 C.call 42 rfl rfl (D.aI C (M' C D hm hS (fi (a:=S) (b:=s+z) (λq=>absurd hs (Dt.mpr q)) λJ=>h)))
theorem ac3(D:gb σ d b w false i j mem a0)(hm:mem.length=4*S)(hS:S≤1000)(hw:xB S a0){s z:Nat}(hs:s+z≤S)
  (h:∀σ',σ' d=some (.inst 436 (mH b w false (i+z) j))->(∀x,x≠d->σ x≠none->σ' x=σ x)->K (.bytes (win (jc mem a0) s z)) σ'):aB X (n+3) (.ref 377) [.ref d, .n s, .n z] [] K σ:=by
 obtain ⟨db,dw,bw⟩:=D.db
 let aF:ar:=σ.set d (.inst 436 (mH b w false (i+z) j))
 have e1:∀{x:Addr},x≠d->aF x=σ x:=λh=>bC h
 have ed:aF d=some (.inst 436 (mH b w false (i+z) j)):=bX
 have mv:s≤1000:=ag (cb ..) (ag hs hS)
 have h4:4*(s+z)≤1000000:=ag (c8 4 (ag hs hS)) (nb rfl)
 refine C.call 43 rfl rfl (D.aI C (Nb C D hm hS hs (b0 D.d (v:= .bool false) (b0 D.d (v:= .int i) (j8 D.d (b0 ed (v:= .ref b) (b0 ed (v:= .int 4) ⟨sD mv,b0 ed (v:= .int 4) ⟨sD (a:=s+z) (ag hs hS), .di b mem (4*s) (4*(s+z)) rfl ((e1 db.symm).trans D.b)
  (xz (sE _ 4) (ag (c8 4 mv) (nb rfl))) (uG (sE _ 4) h4) (by show _≤_;refine aa hm ?_;exact ag (c8 4 hS) (nb rfl)) λt ht=> ?_⟩⟩)))))))
 replace ht:aF t=none:=ht
 have e2:(mem.take (4*(s+z))).drop (4*s)=win mem s z:=by
  unfold win;exact aa t8 (ao (Nat.mul_sub ..) (aa (nu ..) rfl))
 refine aa e2 ?_
 have D8:d≠t:=λe=>nn (ht.symm.trans ((congrArg aF e.symm).trans ed))
 have Fa:w≠t:=λe=>nn (ht.symm.trans ((congrArg aF e.symm).trans ((e1 dw.symm).trans D.w)))
 have AQ:∀o,(aF.set t o) d=some (.inst 436 (mH b w false (i+z) j)):=λo=>(bC D8).trans ed
 have ew:∀o,(aF.set t o) w=some (.list (a0.map qz)):=λo=>(bC Fa).trans ((e1 dw.symm).trans D.w)
 let S':List UInt8->St:=λm=>{m:= [some (.ref d),some (.n s),some (.n z),some (.ref t),none,none,none],fz:= [],σ:=aF.set t (.di (win m s z))}
 refine b0 (AQ _) (v:= .ref w) (M9 (ew _) (jZ [false,false,false,false,true,true,true] a0 qz (λm x=>splice m x.1 x.2) S' (λJ m=>m.length=4*S) mem hm (λi x m e h=>AM h (hw x (cw e)).1 (hw x (cw e)).2) (λJ=>M2 (ew _) (ew _)) (λi x m K' ek mh k J=> ?_)
  λhl=>ZQ bX (by refine aa (xF hl hs) ?_;exact ag (c8 4 (ag (lr ..) (ag hs hS))) (nb rfl)) (h _ (AQ _) λx hx hn=>(bC λe=>hn ((e1 hx).symm.trans ((congrArg aF e).trans ht))).trans (e1 hx))))
 obtain ⟨hp,ho⟩:=hw _ (cw ek)
 have out:=λq=>congrArg (λw=>St.mk [some (.ref d),some (.n s),some (.n z),some (.ref t),none,none,none] [] (aF.set t (.di w))) (ac1 (s:=s) (n:=z) mh hp q ho).symm
 refine ql (a:=s) (b:=x.1) (λq1=>fi (a:=x.1) (b:=s+z) (λq2=> ?_) λq2=>k _ _ rfl (out λh=>q2 h.2)) λq1=>k _ _ rfl (out λh=>q1 h.1)
 have e4:((x.1:Int) - (s:Int))*4=((4*(x.1 - s):Nat):Int):=by refine ao (nx q1) (aa (sE ..) ?_);rfl
 have iU:x.1 - s≤1000:=ag (gJ ..) (ag (bS hp) hS)
 have bA:4*(x.1 - s)+4≤4*z:=c8 4 (Nat.sub_lt_left_of_lt_add q1 q2)
 have hz:4*z≤1000000:=ag (c8 4 (lr z s)) h4
 have jd:=xF mh hs
 exact b0 (AQ _) (v:= .int 4) ⟨⟨ao (nx q1) (cY (k6 iU)),by decide⟩,b0 (AQ _) (v:= .int 4) (.di t (win m s z) x.2 (4*(x.1 - s)) (4*(x.1 - s)+4) rfl bX rfl (xz e4 (ag (ip (ip (ip (ip bA)))) hz)) (uG (congrArg (λz=>z +4) e4) (ag bA hz))
  (by show _≤_;refine aa jd ?_;exact hz) (congrArg _ ho) (aa jd bA) (k _ _ rfl (congrArg (St.mk _ _) (sk.trans (congrArg (λw=>aF.set t (.di w)) (M4 mh hs q1 q2 ho).symm)))))⟩
end
theorem Nc(h:σ a=some o):σ.set a o=σ:=by
 funext c;unfold ar.set;by_cases q:c=a
 ·subst q;exact aa (if_pos rfl) (aa h rfl)
 ·exact aa (if_neg q) rfl
noncomputable def je(s:Nat)(oct:List UInt8)(n:Nat):List Wt:=(aK n).map λk=>(s+k,(oct.take (4*k+4)).drop (4*k))
theorem ac4(s:Nat)(oct:List UInt8)(n:Nat):je s oct (n+1)=je s oct n++ [(s+n,(oct.take (4*n+4)).drop (4*n))]:=by
 unfold je;refine aa Ag (aa gW ?_);rfl
noncomputable def oU:ee->Nat
 | .list _=>0
 | .di _=>1
 | .inst C _=>C+2
theorem AR{x y:Addr}{o':ee}(h:σ x=some o)(h':σ y=some o')(q:eh (oU o) (oU o')=false:=by rfl):x≠y:=λe=>ff (q.symm.trans ((congrArg (λz=>eh (oU o) (oU z)) (aN (h'.symm.trans ((congrArg σ e.symm).trans h)))).trans (GB _)))
theorem eK{x y:Addr}{o' ac5:ee}(h:σ x=some o)(h':σ y=some o')(q:eh (oU o) (oU o')=false:=by rfl):(σ.set y ac5) x=some o:=(bC (AR h h' q)).trans h
theorem sF{x:Addr}(h:σ x=some o):σ x≠none:=λe=>nn (e.symm.trans h)
theorem Nd{x y:Addr}{o':ee}(h:σ x=some o)(h':σ y=none):(σ.set y o') x=some o:=(bC λe=>nn (h'.symm.trans ((congrArg σ e.symm).trans h))).trans h
theorem ac6(s:Nat)(oct:List UInt8)(n:Nat)(a0:List Wt):(aK n).foldl (λacc k=>acc++ [((s+k,(oct.take (4*k+4)).drop (4*k)):Wt)]) a0=a0++je s oct n:=MB _ _ _
section
variable{X:Cx}(C:Ctx X){n:Nat}{K:ab->ar->Prop}{σ:ar}{d b w:Addr}{out:Bool}{i j:Int}{mem:List UInt8}{a0:List Wt}{S:Nat}
include C
theorem ac7(D:gb σ d b w false i j mem a0)(hm:mem.length=4*S)(hS:S≤1000)(jd:a0.length≤1000){s z:Nat}(ho:oct.length=4*z)(hs:s+z≤S)
  (h:K (.bool true) ((σ.set w (.list ((a0++je s oct z).map qz))).set d (.inst 436 (mH b w false i (j+z))))):aB X (n+3) (.ref 384) [.ref d, .n s, .bytes oct] [] K σ:=by
 have hz:z=oct.length / 4:=by refine aa ho ?_;exact (Na z (by decide)).symm
 have h0:oct.length % 4=0:=by refine aa ho ?_;exact Nat.mul_mod_right 4 z
 have Fb:z≤1000:=ag (lr ..) (ag hs hS)
 have gv:oct.length≤1000000:=by refine aa ho ?_;exact ag (c8 4 Fb) (by decide)
 subst hz
 have qA:∀o,(σ.set w o) d=some (.inst 436 (mH b w false i j)):=λo=>eK D.d D.w
 let S':List Wt->St:=λacc=>{m:= [some (.ref d),some (.n s),some (.bytes oct),some (.n (oct.length / 4)),none],fz:= [],σ:=σ.set w (.list (acc.map qz))}
 refine C.call 44 rfl rfl (cx rfl gv (b0 D.d (v:= .int 4) ⟨by decide,xb (a:=oct.length % 4) (b:=0) (λJ=>cx rfl gv (b0 D.d (v:= .int 4) ⟨⟨by decide,by decide⟩,D.aI C (Nb C D hm hS hs (b0 D.d (v:= .bool false) ⟨rg Fb,
  jZ [false,false,false,false,true] (aK (oct.length / 4)) .n (λacc k=>acc++ [((s+k,(oct.take (4*k+4)).drop (4*k)):Wt)]) S' (λi acc=>acc.length≤1000+i) a0 jd (λi k acc J h=>by refine aa de ?_;exact fT h) (λJ=>dY) (λi k acc K' ek i4 kk J=> ?_)
   (λJ=>b0 (qA _) (v:= .int j) (j8 (qA _) (by refine aa (ac6 ..) ?_;exact h))) (i8 _) (congrArg (St.mk _ _) (Nc D.w).symm)⟩))⟩)) λq=>absurd h0 q⟩))
 obtain ⟨rfl,hk⟩:=qq ek
 have qB:=ag (bS hk) Fb
 exact b0 (qA _) (v:= .ref w) ⟨_,oG bX,b0 (qA _) (v:= .int 4) ⟨sD qB,b0 (qA _) (v:= .int 4) ⟨⟨cY (x:=i+1) (ag (fT qB) (by decide)),by decide⟩, .bytes _ (4*i) (4*i+4) rfl (xz (sE _ 4) (ag (c8 4 qB) (by decide)))
  (uG (sE _ 4) (ag (gG (c8 4 qB) 4) (by decide))) gv (rZ (app (f:=qz) (x:=(s+i,(oct.take (4*i+4)).drop (4*i))) rfl (ag i4 (ag (lP qB 1000) (by decide))) (kk _ _ rfl rfl)))⟩⟩⟩
theorem ac8(D:gb σ d b w out i j mem a0)(hm:mem.length=4*S)(hS:S≤1000){s:Nat}{o:List UInt8}(ho:o.length=4)(hs:s<S)(h:K .none (σ.set b (.di (splice mem s o)))):aB X (n+1) (.ref 391) [.ref d, .n s, .bytes o] [] K σ :=
 have mv:=ag (bS hs) hS
 have Fc:mem.length≤1000000:=by refine aa hm ?_;exact ag (c8 4 hS) (by decide)
 have h4:4*s+4≤mem.length:=hm▸c8 4 hs
 C.call 45 rfl rfl (b0 D.d (v:= .ref b) (b0 D.d (v:= .int 4) ⟨sD mv,b0 D.d (v:= .int 4) ⟨⟨cY (x:=s+1) (ag (fT mv) (by decide)),by decide⟩,
  .di b mem o (4*s) (4*s+4) rfl D.b rfl (xz (sE _ 4) (ag (ag (cb _ 4) h4) Fc)) (uG (sE _ 4) (ag h4 Fc)) Fc (congrArg _ ho) h4 h⟩⟩))
theorem ac9(D:gb σ d b w false i j mem a0)(hm:mem.length=4*S)(hS:S≤1000)(hw:xB S a0)
  (h:∀w',σ w'=none->K (.bool true) (((σ.set b (.di (jc mem a0))).set w' (.list [])).set d (.inst 436 (mH b w' false i j)))):aB X (n+2) (.ref 398) [.ref d] [] K σ:=by
 have qA:∀o,(σ.set b o) d=some (.inst 436 (mH b w false i j)):=λo=>eK D.d D.b
 have Nf:∀o,(σ.set b o) w=some (.list (a0.map qz)):=λo=>eK D.w D.b
 let S':List UInt8->St:=λm=>{m:= [some (.ref d),none,none],fz:= [],σ:=σ.set b (.di m)}
 refine C.call 46 rfl rfl (b0 D.d (v:= .bool false) (b0 D.d (v:= .ref w) (M9 D.w (jZ [false,true,true] a0 qz (λm x=>splice m x.1 x.2) S' (λJ m=>m.length=4*S) mem hm (λi x m e h=>AM h (hw x (cw e)).1 (hw x (cw e)).2) (λJ=>M2 D.w (Nf _)) (λk x m K' ek mh kk J=> ?_)
  (λJ=> .own lk λw' iT=> ?_) rfl (congrArg (St.mk _ _) (Nc D.b).symm)))))
 ·obtain ⟨hp,ho⟩:=hw _ (cw ek)
  have Dk:gb (σ.set b (.di m)) d b w false i j m a0:=⟨qA _,bX,Nf _⟩
  exact Dk.aI C (ac8 C Dk mh hS ho hp (kk _ _ rfl (congrArg (St.mk _ _) sk)))
 ·obtain ⟨wb,iT⟩:=mF (σ:=σ) (a:=b) (o:= .di (jc mem a0)) iT;exact j8 (Nd (qA _) ((bC wb).trans iT)) (h w' iT)
theorem ac'(D:gb σ d b w out i j mem a0)(jd:a0.length≤1000)(h:K (.n a0.length) σ):aB X (n+1) (.ref 405) [.ref d] [] K σ :=
 C.call 47 rfl rfl (b0 D.d (v:= .ref w) (cx (k:=a0.length) ((rY D.w).trans (congrArg some (aE _))) (k6 jd) h))
end
structure Lf where
 out:Bool
 c4:Bool
 cont:List UInt8
 wn:Nat
variable {Ls:List Lf}
structure Ft where
 d:Addr
 b:Addr
 w:Addr
 m:Addr
 r:Addr
noncomputable def Ft.all(f:Ft):List Addr:= [f.d,f.b,f.w,f.m,f.r]
noncomputable def qC(d:Addr)(g:Int)(m:Addr):List (Str×ab):= [("disk", .ref d),("guid", .int g),("shape",dz),("missing", .ref m)]
structure gZ(S row aQ:Nat)(σ:ar)(a:Addr)(f:Ft)(L:Lf)(g i j:Int)(mem:List UInt8)(a0:List Wt):Prop where
 lf:σ a=some (.inst 739 (qC f.d g f.m))
 dk:gb σ f.d f.b f.w L.out i j mem a0
 rg:jJ σ f.m f.r L.c4
 len:mem.length=4*S
 wk:xB S a0
 cont:win (jc mem a0) (2+row) aQ=L.cont
 wn:a0.length=L.wn
 nd:f.w≠f.r
def mI(S row aQ:Nat)(σ:ar)(a:Addr)(f:Ft)(L:Lf):Prop:=∃g i j mem a0,gZ S row aQ σ a f L g i j mem a0
def Upd(S row aQ:Nat)(σ:ar)(a:Addr)(f:Ft)(σ':ar)(L:Lf):Prop :=
 ∃f',mI S row aQ σ' a f' L/\(∀x∈f'.all,x∈f.all∨σ x=none)/\∀x,x≠a->x∉f.all->σ x≠none->σ' x=σ x
theorem Ng{n:Nat}(ho:oct.length=4*n)(hk:k<n):((oct.take (4*k+4)).drop (4*k)).length=4:=by
 exact aa f9 (aa (xD (ho▸c8 4 hk)) (aa (nu ..) rfl))
theorem Nh{row S:Nat}(h4:4≤S)(hs:row+aQ≤S - 4):2+row+aQ≤S:=by
 exact aa (ka ..) (ag (fP (by decide:2≤4) hs) (b6 (lQ h4)))
theorem ada{s n:Nat}{m:List UInt8}{S:Nat}(hm:m.length=4*S)(ho:oct.length=4*n)(hs:s+n≤S)(hk:k≤n):(jc m (je s oct k)).length=4*S/\win (jc m (je s oct k)) s k=oct.take (4*k):=by
 induction k with
 | zero=>exact ⟨hm,by rw [win,Nat.mul_zero,Fd,Fd]⟩
 | succ k ih =>
  have ih:=ih (ip hk)
  have hl:=ih.1
  have hc:=Ng ho hk
  have wv:s+(k+1)≤S:=ag (lP hk s) hs
  have e:jc m (je s oct (k+1))=splice (jc m (je s oct k)) (s+k) ((oct.take (4*k+4)).drop (4*k)):=by
   refine aa (ac4 ..) ?_;unfold jc;refine aa rU ?_;rfl
  refine aa e (⟨AM hl wv hc, ?_⟩);refine aa (M4 hl wv (cb s k) (ju _) hc) (aa (nu ..) (aa (tO (i:=4*k+4) (b6 (xF hl wv))) (aa (iV ..) ?_)))
  have e1:(win (jc m (je s oct k)) s (k+1)).take (4*k)=(oct.take (4*k+4)).take (4*k):=by
   rw [AP,gT (cb _ _),<-ih.2,win,win,AP,gT (c8 4 (md k))]
  refine aa e1 (aa (Fe ..) ?_)
  rfl
theorem adb{s n S:Nat}(ho:oct.length=4*n)(hs:s+n≤S):xB S (je s oct n):=λx hx=>by
 obtain ⟨k,hk,rfl⟩:=bJ.mp hx
 have hk:=fZ.mp hk
 exact ⟨eB (wW hk s) hs,Ng ho hk⟩
theorem Ni(z:Nat):(4*z+3) / 4=z:=Nat.mul_add_div (by decide) z 3
section
variable{X:Cx}(C:Ctx X){n:Nat}{K:ab->ar->Prop}{σ:ar}{S row aQ:Nat}{a:Addr}{f:Ft}{L:Lf}{g i j:Int}{mem:List UInt8}{a0:List Wt}
theorem gZ.cls(D:gZ S row aQ σ a f L g i j mem a0):pz σ (.ref a)=some 739:=by show (match σ a with | some (.inst D _)=>some D | _=>none)=_;exact aa D.lf rfl
theorem gZ.no(D:gZ S row aQ σ a f L g i j mem a0)(e:dR x (qC f.d g f.m)=none):lV σ (.ref a) x=none:=by show (match σ a with | some (.inst _ fs)=>dR x fs | _=>none)=_;refine aa D.lf ?_;exact e
theorem gZ.aI(C:Ctx X)(D:gZ S row aQ σ a f L g i j mem a0){m:Addr}{k:Value->Prop}(h:k (.ref m))(hm:py 739 x=some m:=by rfl)(e:dR x (qC f.d g f.m)=none:=by rfl):MethP X σ (.ref a) x k:=⟨_,w9 C.ok hm D.cls (D.no e),h⟩
include C
theorem Ff(D:gZ S row aQ σ a f L g i j mem a0)(h:K (.bool (!L.out)) σ):aB X (n+1) (.ref 673) [.ref a] [] K σ :=
 C.call 62 rfl rfl (b0 D.lf (v:= .ref f.d) (b0 D.lf (v:= .ref f.d) (b0 D.dk.d (v:= .bool L.out) h)))
theorem Nj(D:gZ S row aQ σ a f L g i j mem a0)(hS:S≤1000)(h4:4≤S)(h:K (.n (S - 4)) σ):aB X (n+5) (.ref 680) [.ref a] [] K σ :=
 have e:(S:Int) - 2*2=((S - 4:Nat):Int):=(nx h4).symm
 C.call 63 rfl rfl (b0 D.lf (v:= .ref f.d) (b0 D.lf (v:= .ref f.d) (b0 D.lf (v:=dz) (C.call 53 rfl rfl (D.dk.aI C (M' C D.dk D.len hS (MZ C ⟨⟨by decide,by decide⟩,bj.d (λq=>absurd (ao e q) (jV.mpr (et _))) λJ=>ki (K:=K) e h⟩)))))))
theorem Nk(D:gZ S row aQ σ a f L g i j mem a0)(hS:S≤1000)(h4:4≤S){s z:Nat}(hs:s+z≤S - 4)(h:K (.n (2+s)) σ):aB X (n+6) (.ref 687) [.ref a, .n s, .n z] [] K σ :=
 C.call 64 rfl rfl (D.aI C (Nj C D hS h4 (fi (a:=S - 4) (b:=s+z) (λq=>absurd hs (Dt.mpr q)) λJ=>b0 D.lf (v:=dz) (MZ C h))))
theorem adc(D:gZ S row aQ σ a f L g i j mem a0)(hS:S≤1000)(h4:4≤S)(hs:row+aQ≤S - 4)(h0:L.out=true->K .none σ)(h1:L.out=false->∀σ',Upd S row aQ σ a f σ' L->K (.bytes L.cont) σ') :
  aB X (n+7) (.ref 694) [.ref a, .n row, .n (4*aQ)] [] K σ:=by
 refine C.call 65 rfl rfl (D.aI C (Ff C D (bj.n (bj.n (bj.c h0 λho=> ?_)))))
 have dk:=D.dk
 rw [ho] at dk
 have nB:=Nh h4 hs
 have kK:aQ≤1000:=ag (lr ..) (ag nB hS)
 have hcl:L.cont.length=4*aQ:=ao D.cont (xF (AN D.len D.wk) nB)
 refine b0 D.lf (v:=dz) (MX C (m:=4*aQ) ?_);refine aa (Ni ..) (b0 D.lf (v:= .ref f.d) (dk.aI C (D.aI C (Nk C D hS h4 hs (ac3 C dk D.len hS D.wk nB λσ' hd hk=> ?_)))))
 have kp:∀{x o},σ x=some o->eh (oU o) 438=false->σ' x=some o:=λh q=>(hk _ (AR h dk.d q) (sF h)).trans h
 refine aa D.cont (.bytes _ 0 (4*aQ) rfl rfl (xe (ag (c8 4 kK) (by decide))) (by show _≤_;refine aa hcl ?_;exact ag (c8 4 kK) (by decide)) ?_);refine aa y6 (aa (rn (b6 hcl)) ?_);exact rZ (h1 ho σ' ⟨f,⟨g,i+aQ,j,mem,a0,kp D.lf rfl,⟨by refine aa ho ?_;exact hd,kp dk.b rfl,kp dk.w rfl⟩,⟨kp D.rg.m rfl,kp D.rg.r rfl⟩,D.len,D.wk,D.cont,D.wn,D.nd⟩,λx hx=> .inl hx,λx J hx hn=>hk x (λe=>hx (e▸ .head _)) hn⟩)
theorem add(D:gZ S row aQ σ a f L g i j mem a0)(h:K (.bool (!L.c4)) σ):aB X (n+3) (.ref 729) [.ref a, .int 9] [] K σ :=
 C.call 69 rfl rfl (b0 D.lf (v:= .ref f.m) (D.rg.aI C (M1 C D.rg h)))
end
theorem ade{z:Nat}(h:m=4*z):(((m+3) / 4*4:Nat):Int) - (m:Int)=0:=by refine aa h (aa (Ni ..) (aa (u4 ..) ?_));exact M0 _
section
variable{X:Cx}(C:Ctx X){n:Nat}{K:ab->ar->Prop}{σ:ar}{S row aQ:Nat}{a:Addr}{f:Ft}{L:Lf}{g i j:Int}{mem:List UInt8}{a0:List Wt}
theorem gZ.refl(D:gZ S row aQ σ a f L g i j mem a0):Upd S row aQ σ a f σ L:=⟨f,⟨g,i,j,mem,a0,D⟩,λJ h=> .inl h,λJ J J J=>rfl⟩
theorem uH{f:Ft}{x:Addr}(h:x∉f.all):x≠f.d/\x≠f.b/\x≠f.w/\x≠f.m/\x≠f.r:=by
 simp only [Ft.all,br,not_or] at h
 exact ⟨h.1,h.2.1,h.2.2.1,h.2.2.2.1,h.2.2.2.2.1⟩
include C
theorem adf{z:Nat}(ho:oct.length=4*z)(hn:z≤200)(h:K (.bytes oct) σ):aB X (n+2) (.ref 652) [.bytes oct,dz] [] K σ:=by
 have hl:oct.length≤1000:=by refine aa ho ?_;exact ag (c8 4 hn) (by decide)
 have e:=ade ho
 refine C.call 60 rfl rfl (rZ (cx rfl (k6 hl) (acT C hl (cx rfl (k6 hl) ?_))));refine (?_:aB X (n+1) (.raw (.type "bytes")) [.int ((((oct.length+3) / 4*4:Nat):Int) - (oct.length:Int))] [] _ _);exact aa e (z0 (by decide) (by decide) ⟨k6 hl,(congrArg (λo=>K (.bytes o) σ) (iV oct)).mpr h⟩)
theorem adg(D:gZ S row aQ σ a f L g i j mem a0)(hS:S≤1000)(h4:4≤S)(hs:row+aQ≤S - 4)(adh:L.wn≤900)(ho:oct.length=4*aQ)(hm:aQ≤100){cD:Int}(ht:L.out=true->cD=0∨cD=9)
  (h0:L.out=true->∀σ',Upd S row aQ σ a f σ' {L with c4:=L.c4 || decide (cD=9)}->K (.bool false) σ') (h1:L.out=false->∀σ',Upd S row aQ σ a f σ' {L with cont:=oct,wn:=L.wn+aQ}->K (.bool true) σ') :
  aB X (n+7) (.ref 701) [.ref a, .n row, .bytes oct, .int cD] [] K σ:=by
 refine C.call 66 rfl rfl (D.aI C (Ff C D (bj.n (bj.n (bj.c (λeQ=>D.aI C (C.call (n:=n+5) 68 rfl rfl ?_)) λeQ=> ?_)))))
 ·have h0:=h0 eQ
  rcases ht eQ with rfl | rfl
  ·rw [decide_eq_false (by decide),adi] at h0
   exact h0 σ D.refl
  ·rw [decide_eq_true rfl,adj] at h0
   refine b0 D.lf (v:= .ref f.m) (D.rg.aI C (M1 C D.rg (bj.n (bj.c (λhl=>h0 σ ⟨f,⟨g,i,j,mem,a0,D.lf,D.dk,ao hl D.rg,D.len,D.wk,D.cont,D.wn,D.nd⟩,λJ h=> .inl h,λJ J J J=>rfl⟩) λhl=> ?_))))
   have rg:=D.rg
   rw [hl] at rg
   exact b0 D.lf (v:= .ref f.m) (D.rg.aI C (acW C rg (h0 (σ.set f.r (.list (AK true))) ⟨f,⟨g,i,j,mem,a0,eK D.lf rg.r,⟨eK D.dk.d rg.r,eK D.dk.b rg.r,(bC D.nd).trans D.dk.w⟩,⟨eK rg.m rg.r,bX⟩,D.len,D.wk,D.cont,D.wn,D.nd⟩,λJ h=> .inl h,λx J hx J=>bC (uH hx).2.2.2.2⟩)))
 ·have dk:=D.dk
  rw [eQ] at dk
  have gv:oct.length≤1000:=by refine aa ho ?_;exact ag (c8 4 hm) (by decide)
  have nB:=Nh h4 hs
  refine b0 D.lf (v:=dz) (adf C ho (ag hm (by decide)) (b0 D.lf (v:= .ref f.d) (dk.aI C (D.aI C (cx rfl (k6 gv) (b0 D.lf (v:=dz) ⟨⟨by decide,by decide⟩, ?_⟩))))));refine (?_:aB X (n+6) (.ref 687) [.ref a, .n row, .n (oct.length / 4)] [] _ _);refine aa (show oct.length / 4=aQ by rw [ho];exact Na _ (by decide)) ?_;refine Nk C D hS h4 hs (ac7 C dk D.len hS (by refine aa D.wn ?_;exact ag adh (by decide)) ho nB (h1 eQ _ ⟨f,⟨g,i,j+aQ,mem,a0++je (2+row) oct aQ,eK (eK D.lf dk.w) (eK dk.d dk.w),⟨by refine aa eQ ?_;exact bX,eK (eK dk.b dk.w) (eK dk.d dk.w),eK bX (eK dk.d dk.w)⟩,⟨eK (eK D.rg.m dk.w) (eK dk.d dk.w),eK ((bC (iO D.nd)).trans D.rg.r) (eK dk.d dk.w)⟩,
   D.len,λx hx=>(ji.mp hx).elim (D.wk x) (adb ho nB x), ?_, ?_,D.nd⟩,λx hx=> .inl hx,λx hx ow hn=>(bC (uH ow).1).trans (bC (uH ow).2.2.1)⟩))
  ·have e:jc mem (a0++je (2+row) oct aQ)=jc (jc mem a0) (je (2+row) oct aQ):=rU
   exact aa e (aa ((ada (s:=2+row) (m:=jc mem a0) (AN D.len D.wk) ho nB (cg aQ)).2) (aa (rn (b6 ho)) rfl))
  ·refine (?_:(a0++je (2+row) oct aQ).length=L.wn+aQ);refine aa de (aa D.wn ?_);rewrite [je];exact aa (aE ..) (aa fj rfl)
theorem adk(D:gZ S row aQ σ a f L g i j mem a0)(hS:S≤1000)(h:∀σ',Upd S row aQ σ a f σ' (if L.out then L else {L with wn:=0})->K .none σ'):aB X (n+4) (.ref 708) [.ref a] [] K σ:=by
 refine C.call 67 rfl rfl (D.aI C (Ff C D (bj.n (bj.c (λeQ=> ?_) λeQ=> ?_))))
 ·rw [eQ,if_pos rfl] at h;exact h σ D.refl
 ·have dk:=D.dk
  rw [eQ] at dk
  rw [eQ,if_neg (by decide)] at h
  refine b0 D.lf (v:= .ref f.d) (dk.aI C (ac9 C dk D.len hS D.wk λw' iT=> ?_))
  have st:∀{x:Addr} {o o1 o2 o3:ee},σ x=some o->eh (oU o) 1=false->eh (oU o) 438=false->(((σ.set f.b o1).set w' o2).set f.d o3) x=some o:=λe q q' =>
   (bC (AR e dk.d q')).trans (Nd (eK e dk.b q) ((bC λe=>nn (iT.symm.trans ((congrArg σ e).trans dk.b))).trans iT))
  have nw:∀{x:Addr} {o:ee},σ x=some o->x≠w':=λe q=>nn (iT.symm.trans ((congrArg σ q.symm).trans e))
  refine h _ ⟨{f with w:=w'},⟨g,i,j,jc mem a0,[],st D.lf rfl rfl,⟨bX,(bC (AR dk.b dk.d)).trans ((bC (nw dk.b)).trans bX),(bC (nw dk.d).symm).trans bX⟩,⟨st D.rg.m rfl rfl,st D.rg.r rfl rfl⟩,AN D.len D.wk,λx=>nofun,D.cont,rfl,λe=>nw D.rg.r e.symm⟩,
   λx hx=> ?_,λx hx ow hn=>(bC (uH ow).1).trans ((bC λq=>hn ((congrArg σ q).trans iT)).trans (bC (uH ow).2.1))⟩
  by_cases q:x=w'
  ·exact .inr ((congrArg σ q).trans iT)
  ·refine .inl ?_;simp only [Ft.all,br,eZ,or_false,q,false_or] at hx ⊢
   exact hx.elim .inl λh=>h.elim (λh=> .inr (.inl h)) λh=> .inr (.inr (.inr h))
end
noncomputable def foot(a:Addr)(f:Ft):List Addr:=a::f.all
noncomputable def lI:Ft:=⟨0,0,0,0,0⟩
noncomputable def ay:Lf:=⟨false,false,[],0⟩
structure iC(S:Nat)(ws:List (Nat×Nat))(ls:List Addr):Prop where
 S1:S≤1000
 S4:4≤S
 wl:ws.length=ls.length
 w:∀k,k<ls.length->(ws.getD k (0,0)).1+(ws.getD k (0,0)).2≤S - 4/\(ws.getD k (0,0)).2≤100
 gK:ls.length≤10
structure lJ(S:Nat)(ws:List (Nat×Nat))(ls:List Addr)(σ:ar)(fs:List Ft)(Ls:List Lf):Prop where
 fl:fs.length=ls.length
 Ll:Ls.length=ls.length
 at_:∀k,k<ls.length->mI S (ws.getD k (0,0)).1 (ws.getD k (0,0)).2 σ (ls.getD k 0) (fs.getD k lI) (Ls.getD k ay)
 ap:∀k k',k<ls.length->k'<ls.length->k≠k'->∀x,x∈foot (ls.getD k 0) (fs.getD k lI)->x∉foot (ls.getD k' 0) (fs.getD k' lI)
def bt(S:Nat)(ws:List (Nat×Nat))(ls:List Addr)(σ:ar)(Ls:List Lf):Prop:=∃fs,lJ S ws ls σ fs Ls
theorem bt.len{S:Nat}(G:bt S ws ls σ Ls):Ls.length=ls.length:=G.elim λJ G=>G.Ll
section
variable{S row aQ:Nat}{σ σ':ar}{a:Addr}{f:Ft}{L L':Lf}{ws:List (Nat×Nat)}{ls:List Addr}{Ls:List Lf}{fs:List Ft}
theorem mI.keep(h:mI S row aQ σ a f L)(hk:∀x∈foot a f,σ' x=σ x):mI S row aQ σ' a f L :=
 let ⟨g,i,j,mem,a0,D⟩:=h
 ⟨g,i,j,mem,a0,(hk _ (.head _)).trans D.lf,⟨(hk _ (.tail _ (.head _))).trans D.dk.d,(hk _ (.tail _ (.tail _ (.head _)))).trans D.dk.b,(hk _ (.tail _ (.tail _ (.tail _ (.head _))))).trans D.dk.w⟩,
  ⟨(hk _ (.tail _ (.tail _ (.tail _ (.tail _ (.head _)))))).trans D.rg.m,(hk _ (.tail _ (.tail _ (.tail _ (.tail _ (.tail _ (.head _))))))).trans D.rg.r⟩,D.len,D.wk,D.cont,D.wn,D.nd⟩
theorem mI.uF(h:mI S row aQ σ a f L):∀x∈foot a f,σ x≠none:=by
 obtain ⟨g,i,j,mem,a0,D⟩:=h;exact mz.mpr ⟨sF D.lf,mz.mpr ⟨sF D.dk.d,mz.mpr ⟨sF D.dk.b,mz.mpr ⟨sF D.dk.w,mz.mpr ⟨sF D.rg.m,mz.mpr ⟨sF D.rg.r,λJ=>nofun⟩⟩⟩⟩⟩⟩
theorem oV{k':Nat}{x d:α}:(l.set k x).getD k' d=if k=k'/\k'<l.length then x else l.getD k' d:=by
 unfold ja;rw [adl]
 by_cases h:k=k'
 ·subst h
  by_cases h2:k<l.length
  ·simp [h2]
  ·simp [h2,iy (fG h2)]
 ·simp [h]
theorem lJ.upd(G:lJ S ws ls σ fs Ls)(hk:k<ls.length)(U:Upd S (ws.getD k (0,0)).1 (ws.getD k (0,0)).2 σ (ls.getD k 0) (fs.getD k lI) σ' L'):bt S ws ls σ' (Ls.set k L'):=by
 obtain ⟨f',adm,hn,CC⟩:=U
 have tm:∀j,j<ls.length->j≠k->∀x∈foot (ls.getD j 0) (fs.getD j lI),σ' x=σ x/\x∉foot (ls.getD k 0) f':=by
  intro j hj hjk x hx
  have h1:=G.ap j k hj hk hjk x hx
  have h2:=(G.at_ j hj).uF x hx
  have uI:=h1
  unfold foot at uI
  rw [br,not_or] at uI
  refine ⟨CC x uI.1 uI.2 h2,λh=> ?_⟩;unfold foot at h
  rcases br.mp h with h | h
  ·exact uI.1 h
  ·rcases hn x h with h | h
   ·exact uI.2 h
   ·exact h2 h
 refine ⟨fs.set k f',aa kq G.fl,aa kq G.Ll,λj hj=> ?_,λi j hi hj dy x hx=> ?_⟩
 ·refine aH oV oV ?_
  by_cases q:k=j
  ·subst q;refine aa (if_pos ⟨rfl,by rw [G.fl];exact hj⟩) (aa (if_pos ⟨rfl,by rw [G.Ll];exact hj⟩) ?_);exact adm
  ·exact aH (if_neg (λh=>q h.1)) (if_neg (λh=>q h.1)) ((G.at_ j hj).keep λx hx=>(tm j hj (iO q) x hx).1)
 ·rw [oV] at hx ⊢
  by_cases q:k=i
  ·subst q;rw [if_pos ⟨rfl,aa G.fl hi⟩] at hx
   exact aa (if_neg (λh=>dy h.1)) (λh=>(tm j hj (iO dy) x h).2 hx)
  ·rw [if_neg (λh=>q h.1)] at hx
   by_cases q2:k=j
   ·subst q2;exact aa (if_pos ⟨rfl,by rw [G.fl];exact hj⟩) ((tm i hi (iO q) x hx).2)
   ·exact aa (if_neg (λh=>q2 h.1)) (G.ap i j hi hj dy x hx)
end
def uJ(ws:List (Nat×Nat))(ls:List Addr)(c:bK):Prop:=c.1<ls.length/\ws.getD c.1 (0,0)=(c.2.1,c.2.2.1)
noncomputable def fN:Option (List UInt8)->ab
 | none=> .none
 | some b=> .bytes b
noncomputable def dZ(L:Lf):Option (List UInt8):=if L.out then none else some L.cont
noncomputable def bx(Ls:List Lf)(af:List bK):List (Option (List UInt8)):=af.map λc=>dZ (Ls.getD c.1 ay)
def dg(Ls:List Lf)(n:Nat):Prop:=∀k,(Ls.getD k ay).wn≤n
theorem set_same:Ls.set k (Ls.getD k ay)=Ls:=by
 apply w4
 intro j;rw [adl]
 by_cases h:k=j
 ·subst h
  by_cases h2:k<Ls.length
  ·simp [h2,ja,bI h2]
  ·simp [h2,iy (fG h2)]
 ·simp [h]
theorem sG(hk:k<ls.length):(ls.map ab.ref)[k]? =some (.ref (ls.getD k 0)):=by
 rw [cW,bI hk,cZ hk];rfl
theorem Nl(z:Nat):((z:Nat):Int)*4=((4*z:Nat):Int):=sE _ 4
section
variable{X:Cx}(C:Ctx X){n:Nat}{K:ab->ar->Prop}{σ:ar}{S:Nat}{ws:List (Nat×Nat)}{ls:List Addr}{Ls:List Lf}{p:Nat}
theorem iC.uK(T:iC S ws ls)(h:k<ls.length):k≤1000:=ag (bS h) (ag T.gK (nb rfl))
include C
theorem xG(G:bt S ws ls σ Ls)(hk:k<ls.length){m:Addr}(hm:py 739 x=some m:=by rfl)(e:∀d g m,dR x (qC d g m)=none:=by intros;rfl):vB X σ (.ref (ls.getD k 0)) x (.ref m) :=
 iH G λJ G=>let ⟨_,_,_,_,_,D⟩:=G.at_ k hk;w9 C.ok hm D.cls (D.no (e _ _ _))
theorem Nm(T:iC S ws ls)(G:bt S ws ls σ Ls){row:Nat}(hk:k<ls.length)(hw:ws.getD k (0,0)=(row,aQ)){z:Int}(hz:z=((4*aQ:Nat):Int))
  (h:∀σ',bt S ws ls σ' Ls->K (fN (dZ (Ls.getD k ay))) σ'):aB X (n+7) (.raw (.ref 694)) [.ref (ls.getD k 0), .n row, .int z] [] K σ:=by
 subst hz;obtain ⟨fs,G⟩:=G;obtain ⟨g,i,j,mem,a0,D⟩:=G.at_ k hk
 have xH:=T.w k hk
 rw [hw] at xH D
 refine adc C D T.S1 T.S4 xH.1 (λho=> ?_) λho aR U=> ?_
 ·have:=h σ ⟨fs,G⟩
  unfold dZ at this
  rw [ho] at this
  exact this
 ·have:=G.upd hk (σ':=aR) (L':=Ls.getD k ay) (aa hw U)
  rw [set_same] at this
  have:=h aR this
  unfold dZ at this
  rw [ho] at this
  exact this
theorem Fg(T:iC S ws ls)(G:bt S ws ls σ Ls)(hc:∀c∈af,uJ ws ls c)(hl:af.length≤10)(h:∀σ',bt S ws ls σ' Ls->K (.list ((bx Ls af).map fN)) σ') :
  aB X (n+8) (.ref 288) [b9 ls p,jI af] [] K σ:=by
 let S':ar->St:=λσ=>{m:= [some (b9 ls p),some (jI af),some (.int 4),none,none],fz:= [0,1,2],σ:=σ}
 refine C.call 32 rfl rfl (EC [false,false,false,true,true] af kL S' (λi acc σ'=>acc=(af.take i).map (λc=>fN (dZ (Ls.getD c.1 ay)))/\bt S ws ls σ' Ls) σ ⟨rfl,G⟩ (ag hl (nb rfl)) (λJ=>dY) (λi c acc σ' K' e P k=> ?_)
  λacc σ' P=> ?_)
 ·obtain ⟨hk,hw⟩:=hc c (cw e)
  have hm:=(T.w c.1 hk).2
  rw [hw] at hm
  exact oJ (sG hk) (T.uK hk) ⟨_,xG C P.2 hk,sD (ag hm (nb rfl)),Nm C T P.2 hk hw (Nl _) λaR G2=>k (some _) aR _ ⟨by refine aa oD (aa e (aa gW (ao P.1 ?_)));rfl,G2⟩ rfl⟩
 ·have e:=P.1
  rw [kF] at e
  refine j3 e (by refine aa (aE ..) ?_;exact ag hl (nb rfl)) ?_
  have:=h σ' P.2
  rw [bx,dj] at this
  exact this
end
section
variable {cD:Int}
noncomputable def eS(cD:Int)(L:Lf)(part:List UInt8)(aQ:Nat):Lf:=if L.out then {L with c4:=L.c4 || decide (cD=9)} else {L with cont:=part,wn:=L.wn+aQ}
noncomputable abbrev CP:=bK×List UInt8
noncomputable def lK(cD:Int)(Ls:List Lf)(x:CP):List Lf:=Ls.set x.1.1 (eS cD (Ls.getD x.1.1 ay) x.2 x.1.2.2.1)
noncomputable def iD(cD:Int)(zs:List CP)(Ls:List Lf):List Lf:=zs.foldl (lK cD) Ls
noncomputable def oW(Ls:List Lf)(zs:List CP):Nat:=zs.foldl (λn x=>if (Ls.getD x.1.1 ay).out then n+1 else n) 0
noncomputable def oX(which:List Nat)(Ls:List Lf)(x:CP):List Lf:=if x.1.1∈which then lK 0 Ls x else Ls
noncomputable def kM(which:List Nat)(zs:List CP)(Ls:List Lf):List Lf:=zs.foldl (oX which) Ls
noncomputable def oY(Ls:List Lf)(which:List Nat)(zs:List CP):Nat:=zs.foldl (λn x=>if x.1.1∈which/\(Ls.getD x.1.1 ay).out=false then n+1 else n) 0
def qD(Ls dN:List Lf):Prop:=dN.length=Ls.length/\∀k,(dN.getD k ay).out=(Ls.getD k ay).out
theorem adn{x:CP}:qD Ls (lK cD Ls x):=⟨kq ..,λk=>by
 unfold lK;refine aa oV ?_
 split
 ·rename_i h
  refine ao h.1 ?_;unfold eS;split<;>simp_all
 ·rfl⟩
theorem qD.trans{A B D:List Lf}(h:qD A B)(h':qD B D):qD A D:=⟨h'.1.trans h.1,λk=>(h'.2 k).trans (h.2 k)⟩
theorem AU{x:CP}{n:Nat}(h:dg Ls n)(hx:x.1.2.2.1≤10):dg (lK cD Ls x) (n+10):=λk=>by
 unfold lK;refine aa oV ?_
 have:=h k
 split
 ·rename_i q
  refine aa q.1 ?_;unfold eS;split
  ·show (Ls.getD k ay).wn≤_;exact ag this (cb ..)
  ·show (Ls.getD k ay).wn+x.1.2.2.1≤_;exact fP this hx
 ·exact ag this (cb ..)
def Fh(ws:List (Nat×Nat))(ls:List Addr)(zs:List CP):Prop:=∀x∈zs,uJ ws ls x.1/\x.2.length=4*x.1.2.2.1/\x.1.2.2.1≤10
structure oZ(S:Nat)(ws:List (Nat×Nat))(ls:List Addr)(Ls L:List Lf)(b:Nat)(σ:ar):Prop where
 g:bt S ws ls σ L
 so:qD Ls L
 fw:dg L b
theorem qD.refl:qD Ls Ls:=⟨rfl,λJ=>rfl⟩
theorem oZ.wr{S:Nat}{L:List Lf}{b:Nat}{σ':ar}{x:CP}(P:oZ S ws ls Ls L b σ)(h:bt S ws ls σ' (lK cD L x))(hm:x.1.2.2.1≤10):oZ S ws ls Ls (lK cD L x) (b+10) σ':=⟨h,P.so.trans adn,AU P.fw hm⟩
theorem oZ.up{S:Nat}{L:List Lf}{b:Nat}(P:oZ S ws ls Ls L b σ):oZ S ws ls Ls L (b+10) σ:=⟨P.g,P.so,λk=>ag (P.fw k) (cb ..)⟩
theorem Fi{b i:Nat}(h:i<10)(hb:b≤600+10*i):b≤900:=ag hb (ag (lP (c8 10 (bS h)) _) (nb rfl))
section
variable{X:Cx}(C:Ctx X){n:Nat}{K:ab->ar->Prop}{σ:ar}{S:Nat}{ws:List (Nat×Nat)}{ls:List Addr}{Ls:List Lf}{p:Nat}
include C
theorem gm{f:Addr}{k:Value->Prop}(h:k (.ref f))(hm:py 338 x=some f:=by rfl)(e:dR x (MV ls p)=none:=by rfl):MethP X σ (b9 ls p) x k:=⟨_,w9 C.ok hm rfl e,h⟩
theorem Fj(T:iC S ws ls)(G:bt S ws ls σ Ls){x:CP}(hf:(Ls.getD x.1.1 ay).wn≤900)(hx:uJ ws ls x.1/\x.2.length=4*x.1.2.2.1/\x.1.2.2.1≤10)(ht:(Ls.getD x.1.1 ay).out=true->cD=0∨cD=9)
  (h:∀σ',bt S ws ls σ' (lK cD Ls x)->K (.bool (!(Ls.getD x.1.1 ay).out)) σ'):aB X (n+7) (.raw (.ref 701)) [.ref (ls.getD x.1.1 0), .n x.1.2.1, .bytes x.2, .int cD] [] K σ:=by
 obtain ⟨fs,G⟩:=G;obtain ⟨⟨hk,hw⟩,hl,hm⟩:=hx;obtain ⟨g,i,j,mem,a0,D⟩:=G.at_ x.1.1 hk
 have xH:=T.w x.1.1 hk
 rw [hw] at xH D
 have up:∀{σ' L'},eS cD (Ls.getD x.1.1 ay) x.2 x.1.2.2.1=L'->Upd S x.1.2.1 x.1.2.2.1 σ (ls.getD x.1.1 0) (fs.getD x.1.1 lI) σ' L'->K (.bool (!(Ls.getD x.1.1 ay).out)) σ':=λ{σ' L'} e U=>by
  subst e;exact h σ' (G.upd hk (aa hw U))
 refine adg C D T.S1 T.S4 xH.1 hf hl (ag hm (nb rfl)) ht (λho σ' U=> ?_) λho σ' U=> ?_
 ·have:=up (if_pos ho) U
  rw [ho] at this
  exact this
 ·have:=up (if_neg (by refine aa ho ?_;exact nl)) U
  rw [ho] at this
  exact this
theorem Nn(T:iC S ws ls)(G:bt S ws ls σ Ls)(hf:dg Ls 600){s:Nat}(ho:oct.length≤1000)(h1:1≤p)(h3:p≤3)(h2:p<ls.length)(ec:aX s oct.length ls.length p=af)(hc:oQ af)(hcl:af.length≤10)
  (hz:Fh ws ls (aC af (aG oct af p)))  (ht:∀k,(Ls.getD k ay).out=true->cD=0∨cD=9)
  (h:∀σ',bt S ws ls σ' (iD cD (aC af (aG oct af p)) Ls)->K (.bool (decide (oW Ls (aC af (aG oct af p))≤p))) σ'):aB X (n+8) (.ref 283) [b9 ls p, .n s, .bytes oct, .int cD] [] K σ:=by
 refine C.call 31 rfl rfl (gm C (cx rfl (k6 ho) (AJ C ho h1 h3 h2 T.gK ?_)));refine aa ec (gm C (E7 C ho hc hcl (eD h3 (nb rfl)) ?_))
 have nF:(aC af (aG oct af p)).length≤10:=nA hcl
 let S':ar×Nat->St:=λx=>{m:= [some (b9 ls p),some (.n s),some (.bytes oct),some (.int cD),some (jI af),some (.n x.2),none,none],fz:= [],σ:=x.1}
 refine loop [false,false,false,false,false,false,true,true] (aC af (aG oct af p)) (λx=> .tuple [kL x.1, .bytes x.2]) S' (λi x=>x.2=oW Ls ((aC af (aG oct af p)).take i)/\oZ S ws ls Ls (iD cD ((aC af (aG oct af p)).take i) Ls) (600+10*i) x.1) (σ,0) ⟨rfl,G, .refl,hf⟩ (λJ J J=>dY)
  (λi x y K' e P k J=> ?_) (λy P=> ?_) (zip_map kL .bytes af _)
 ·have hx:=hz x (cw e)
  have es:iD cD ((aC af (aG oct af p)).take (i+1)) Ls=lK cD (iD cD ((aC af (aG oct af p)).take i) Ls) x:=uu _ _ e
  have el:oW Ls ((aC af (aG oct af p)).take (i+1))=if (Ls.getD x.1.1 ay).out then oW Ls ((aC af (aG oct af p)).take i)+1 else oW Ls ((aC af (aG oct af p)).take i):=uu _ _ e
  rw [es,el] at k
  exact oJ (sG hx.1.1) (T.uK hx.1.1) ⟨_,xG C P.2.g hx.1.1,Fj C T P.2.g (Fi (eB (du.mp e).1 nF) (P.2.fw _)) hx (λq=>ht x.1.1 (ao (P.2.so.2 _) q)) λaR G2=>bj.n (bj.n (bj.c
   (λo=>k (aR,y.2+1) _ ⟨aa (if_pos (ao (P.2.so.2 _) o)) (ao P.1 rfl),P.2.wr G2 hx.2.2⟩ rfl) λo=>k (aR,y.2) _ ⟨aa (if_neg (by rw [<-P.2.so.2,o];exact nl)) (ao P.1 rfl),P.2.wr G2 hx.2.2⟩ rfl))⟩
 ·obtain ⟨e,P⟩:=P;rw [kF] at e P
  refine (congrArg (λb=>K (.bool b) y.1) ?_).mp (h y.1 P.g);exact ao e (decide_eq_decide.mpr dU.symm)
theorem No(T:iC S ws ls)(G:bt S ws ls σ Ls)(hf:dg Ls 600){s:Nat}(ho:oct.length≤1000)(h1:1≤p)(h3:p≤3)(h2:p<ls.length)(ec:aX s oct.length ls.length p=af)(hc:oQ af)(hcl:af.length≤10)
  (hz:Fh ws ls (aC af (aG oct af p))) {which:List Nat}
  (h:∀σ',bt S ws ls σ' (kM which (aC af (aG oct af p)) Ls)->K (.n (oY Ls which (aC af (aG oct af p)))) σ'):aB X (n+8) (.ref 321) [b9 ls p, .n s, .bytes oct,aJ which] [] K σ:=by
 refine C.call 37 rfl rfl (gm C (cx rfl (k6 ho) (AJ C ho h1 h3 h2 T.gK ?_)));refine aa ec (gm C (E7 C ho hc hcl (eD h3 (nb rfl)) ?_))
 have nF:(aC af (aG oct af p)).length≤10:=nA hcl
 let S':ar×Int->St:=λx=>{m:= [some (b9 ls p),some (.n s),some (.bytes oct),some (aJ which),some (jI af),some (.int x.2),none,none],fz:= [],σ:=x.1}
 refine loop [false,false,false,false,false,false,true,true] (aC af (aG oct af p)) (λx=> .tuple [kL x.1, .bytes x.2]) S' (λi x=>x.2=(oY Ls which ((aC af (aG oct af p)).take i):Nat)/\oZ S ws ls Ls (kM which ((aC af (aG oct af p)).take i) Ls) (600+10*i) x.1) (σ,0) ⟨rfl,G, .refl,hf⟩ (λJ J J=>dY)
  (λi x y K' e P k J=> ?_) (λy P=> ?_) (zip_map kL .bytes af _)
 ·have hx:=hz x (cw e)
  have es:kM which ((aC af (aG oct af p)).take (i+1)) Ls=oX which (kM which ((aC af (aG oct af p)).take i) Ls) x:=uu _ _ e
  have el:oY Ls which ((aC af (aG oct af p)).take (i+1))=if x.1.1∈which/\(Ls.getD x.1.1 ay).out=false then oY Ls which ((aC af (aG oct af p)).take i)+1 else oY Ls which ((aC af (aG oct af p)).take i):=uu _ _ e
  rw [es,el] at k
  refine ny (l:=which) rfl (λqw=> ?_) λqw=>k y _ ⟨aa (if_neg (λh=>qw h.1)) P.1,by rewrite [oX];refine aa (if_neg qw) ?_;exact P.2.up⟩ rfl;rw [oX,if_pos qw] at k
  refine oJ (sG hx.1.1) (T.uK hx.1.1) ⟨_,xG C P.2.g hx.1.1,Fj C T P.2.g (Fi (eB (du.mp e).1 nF) (P.2.fw _)) hx (λJ=> .inl rfl) λaR G2=>Lv (k (aR,_) _ ⟨?_,P.2.wr G2 hx.2.2⟩ rfl)⟩;refine aH (P.2.so.2 ..) P.1 ?_;cases q:(Ls.getD x.1.1 ay).out with
  | true=>exact (TU _).trans (congrArg lb (if_neg λh=>AV h.2).symm)
  | false=>exact congrArg lb (if_pos ⟨qw,rfl⟩).symm
 ·obtain ⟨e,P⟩:=P;rw [kF] at e P
  exact ki (K:=K) e (h y.1 P.g)
end
end
noncomputable def bB(l:List Nat):List Nat:=(jC (l.map λ(x:Nat)=>(x:Int))).map Np
theorem uL(l:List Nat):jC (l.map λ(x:Nat)=>(x:Int))=(bB l).map λ(x:Nat)=>(x:Int):=by
 unfold bB;refine aa dj ?_
 conv=>lhs;rw [<-Ly (jC _)]
 refine f0 λx hx=> ?_;obtain ⟨y,_,rfl⟩:=bJ.mp ((se _).mem_iff.mp hx)
 rfl
theorem xI(l:List Nat):(bB l).length=l.length:=by rewrite [bB];exact aa (aE ..) (aa ((se _).length_eq) (aa (aE ..) rfl))
theorem ado{γ:Type}(f:α->ab)(g:β->ab)(h:γ->ab)(a:List α):∀(b:List β) (c:List γ),tF (a.map f) (b.map g) (c.map h)=(aC a (aC b c)).map λx=>ab.tuple [f x.1,g x.2.1,h x.2.2]:=by
 induction a with
 | nil=>intro b c;rcases b with _ | _<;>rcases c with _ | _<;>rfl
 | cons x a ih =>
  intro b c;rcases b with _ | ⟨y,b⟩
  ·rcases c with _ | _<;>rfl
  rcases c with _ | ⟨z,c⟩
  ·rfl
  ·exact congrArg (ut _) (ih b c)
noncomputable def uM(x:bK×Option (List UInt8)×List UInt8):Option Nat:=match x.2.1 with
 | none=>none
 | some h=>if h=x.2.2 then none else some x.1.1
noncomputable def mJ(af:List bK)(hs:List (Option (List UInt8)))(aW:List (List UInt8)):List Nat:=(aC af (aC hs aW)).filterMap uM
noncomputable def g8(hs:List (Option (List UInt8))):List Nat:=hs.zipIdx.filterMap λx=>if x.1.isSome then none else some x.2
noncomputable def gc(af:List bK)(hs:List (Option (List UInt8))):List (List UInt8):=(aC af hs).map λx=>x.2.getD (ci (x.1.2.2.1*4) 0)
noncomputable def xJ(n p:Nat)(au:List Nat):bl:=oN (n - p) (cP p (bB au)) ((fm p au).take (cP p (bB au)).length)
noncomputable def nG(n p:Nat)(au:List Nat):bl:=(qs (xJ n p au)).getD []
noncomputable def o0(held:List (List UInt8))(p:Nat)(au:List Nat):List (List UInt8):=Ay held p au (bB au) (nG held.length p au)
structure Fk(n p:Nat)(au:List Nat):Prop where
 gK:au.length≤10
 pl:∀q∈cP p (bB au),q<n - p
 adp:(cP p (bB au)).length≤6
 rk:(cP p (bB au)).length≤(fm p au).length
 inv:qs (xJ n p au)=some (nG n p au)
 sq:Sq (cP p (bB au)).length (nG n p au)
def Good(held:List (List UInt8))(p size:Nat)(ak:List UInt8)(au:List Nat):Prop:=(o0 held p au).flatten.take size=ak
theorem adq(f:α->Option β)(l:List α):∀z:List β,l.foldl (λacc x=>acc++(f x).toList) z=z++l.filterMap f:=by
 induction l with
 | nil=>exact λz=>(iV z).symm
 | cons x l ih =>
  intro z;refine aa my (aa (ih ..) (aa lC (aa (lj ..) ?_)));cases f x<;>rfl
theorem adr(o:Option α):o.toList.length≤1:=by cases o;exact da 1;exact cg 1
section
variable{X:Cx}(C:Ctx X){n:Nat}{K:ab->ar->Prop}{σ:ar}{S:Nat}{ws:List (Nat×Nat)}{ls:List Addr}{Ls:List Lf}{p:Nat}
include C
theorem ads(ho:oct.length≤1000)(hc:oQ af)(hcl:af.length≤10)(hp:p<10)(h:K (aJ (bB (mJ af hs (aG oct af p)))) σ) :
  aB X (n+5) (.ref 314) [b9 ls p,jI af, .list (hs.map fN), .bytes oct] [] K σ:=by
 refine aB.out (C.call 36 rfl rfl (.own lk λa ha=>gm C (E7 C ho hc hcl hp ?_)));replace ha:σ a=none:=ha
 have nF:(aC af (aC hs (aG oct af p))).length≤10:=nA hcl
 let S':List Nat->St:=λacc=>{m:= [some (b9 ls p),some (jI af),some (.list (hs.map fN)),some (.bytes oct),some (.ref a),none,none,none],fz:= [],σ:=σ.set a (.list (acc.map .n))}
 refine jZ [false,false,false,false,false,true,true,true] (aC af (aC hs (aG oct af p))) (λx=> .tuple [kL x.1,fN x.2.1, .bytes x.2.2]) (λacc x=>acc++(uM x).toList) S' (λi acc=>acc.length≤i) [] (cg _) (λi x acc J h=>aa de (fP h (adr _))) (λJ=>dY)
  (λi x acc K' e i4 k J=> ?_) (λhl=>xv (oI bX) (uL _) (ag (ag hl nF) (nb rfl)) (Me (mE ha) (aa (adq ..) h))) (ado kL fN .bytes af hs _)
 have i4:=ag i4 (ag (bS (du.mp e).1) nF)
 obtain ⟨c,h0,w⟩:=x;cases h0 with
 | none=>exact k acc _ (iV acc).symm rfl
 | some h0=>exact bj.n (bj.d (λq=>k acc _ (aa (show uM (c,some h0,w)=none from if_pos q) ((iV acc).symm)) rfl) λq=>⟨_,oG bX,app (f:= .n) (x:=c.1) rfl (ag i4 (nb rfl)) (k (acc++ [c.1]) _ (aa (show uM (c,some h0,w)=some c.1 from if_neg q) rfl) rfl)⟩)
theorem adt{size:Nat}{r:List (List Nat)}(ho:ak.length≤1000)(bN:size≤1000)(hc:oQ af)(hcl:af.length≤9)(dD:p≤3)(hH:p≤af.length)(hm:af.length - p≤6)(xw:hs.length=af.length)
  (AW:Short (gc af hs)) (i0:∀au,(o0 (gc af hs) p au).flatten.length≤100000) (hr:gr af.length (g8 hs) p 100 (jF (g8 hs) p) 0=some r) (gI:r.length≤1000) (hd:∀au∈r,Fk af.length p au)
  (h1:(∃au∈r,Good (gc af hs) p size ak au)->K (.tuple [.bytes ak,aJ (bB (mJ af hs (aG ak af p)))]) σ) (h0:(∀au∈r,¬ Good (gc af hs) p size ak au)->K (.tuple [.none, .list []]) σ) :
  aB X (n+8) (.ref 307) [b9 ls p,jI af, .list (hs.map fN), .n size, .lam ak] [] K σ:=by
 have Fl:af.length≤10:=mr hcl
 have zr:(g8 hs).length≤9:=ag (tW _ _) (by refine aa E4 (aa xw ?_);exact hcl)
 have nF:(gc af hs).length=af.length:=by rewrite [gc];exact aa (aE ..) (aa sf (aa xw (aa (rI ..) rfl)))
 let S':Unit->St:=λJ=>{m:= [some (b9 ls p),some (jI af),some (.list (hs.map fN)),some (.n size),some (.lam ak),some (aJ (g8 hs)),some (jD (gc af hs)),none,none],fz:= [],σ:=σ}
 refine C.call 35 rfl rfl (qk [false,false,false,false,false,false,false,false,false,true,true,true] hs.zipIdx (λx=> .tuple [.n x.2,fN x.1]) (λx=>if x.1.isSome then none else some (.n x.2)) (by refine aa E4 (aa xw ?_);exact ag hcl (nb rfl)) (λx J K' k=> ?_)
  (j3 (uw hs.zipIdx (λx=>x.1.isSome=true) (λx=>x.2) ab.n) (by refine aa (aE ..) ?_;exact ag zr (nb rfl)) (fh [false,false,false,false,false,false,false,false,false,true,true,true] (aC af hs) (λx=> .tuple [kL x.1,fN x.2]) (λx=> .bytes (x.2.getD (ci (x.1.2.2.1*4) 0))) (ag (nA hcl) (nb rfl)) (λx hx K' k=> ?_)
   (nz (ag (nA hcl) (nb rfl)) (cx (k:=af.length) (congrArg some (aE _)) (ag hcl (nb rfl)) (aa3 C hr gI Fl (ag dD (nb rfl)) (mr zr)
    (loop [false,false,false,false,false,false,false,true,true] r lD S' (λi J=>∀au∈r.take i,¬ Good (gc af hs) p size ak au) () (λJ=>nofun) (λJ J J=>dY) (λi au J K' ex ga k Fm=> ?_) λJ ga=> .fz lk (h0 (by rw [kF] at ga;exact ga)))))) (zip_map kL fN af hs))) (EI fN hs 0))
 ·obtain ⟨h0,j⟩:=x;cases h0 with
  | none=>exact k _ _ rfl rfl
  | some h0=>exact k _ _ rfl rfl
 ·obtain ⟨c,h0⟩:=x
  have xK:=(hc c (iB hx).1).1
  cases h0 with
  | none=>exact ⟨sD (ag xK (nb rfl)),z0 (i:=((c.2.2.1*4:Nat):Int)) (et _) (dU.mpr (ag (u5 4 xK) (nb rfl))) (k _ _ rfl rfl)⟩
  | some h0=>exact k _ _ rfl rfl
 ·have Nq:=cw ex
  have D:=hd au Nq
  rw [<-nF] at D hH hm Fl
  refine acp C (sl:=bB au) (inv:=nG (gc af hs).length p au) AW Fl dD hH hm D.gK (uL au) D.pl D.adp D.rk D.inv D.sq (ME C (ag (i0 au) (nb rfl)) bN (Mr C.ok (bj.d (λq=>gm C (ads C (aa iY (ag (kD ..) bN)) hc (mr hcl) (eD dD (nb rfl)) (Fm _ _ ?_))) λq=>k () _ (λx hx=> ?_) rfl)))
  ·have:=h1 ⟨au,Nq,q⟩
   rw [<-q] at this
   exact this
  ·rw [oD,ex] at hx
   exact (ji.mp hx).elim (ga x) λhx=>dT.mp hx▸q
end
noncomputable def kN(n:Nat)(dh:List Nat)(p:Nat):List (List Nat):=(gr n dh p 100 (jF dh p) 0).getD []
structure nI(S:Nat)(ws:List (Nat×Nat))(ls:List Addr)(p s size:Nat)(af:List bK):Prop where
 T:iC S ws ls
 h1:1≤p
 h3:p≤3
 h2:p<ls.length
 sz:size≤1000
 ec:aX s size ls.length p=af
 hcl:af.length≤9
 hH:p≤af.length
 hm:af.length - p≤6
 jK:∀c∈af,uJ ws ls c
 xM:∀c∈af,c.2.2.1≤10/\c.2.2.2≤100
 ch:∀hs:List (Option (List UInt8)),hs.length=af.length->gr af.length (g8 hs) p 100 (jF (g8 hs) p) 0=some (kN af.length (g8 hs) p)/\(kN af.length (g8 hs) p).length≤1000/\∀au∈kN af.length (g8 hs) p,Fk af.length p au
def Acc(af:List bK)(p size:Nat)(ak:List UInt8)(hs:List (Option (List UInt8))):Prop:=∃au∈kN af.length (g8 hs) p,Good (gc af hs) p size ak au
theorem sI:(bx Ls af).length=af.length:=aE ..
theorem adu{au:List Nat}{j6:List (List UInt8)}{inv:bl}(h:Short aW):Short (sy aW au j6 inv):=λx hx=>by
 obtain ⟨y,_,rfl⟩:=bJ.mp hx;refine aa iY (ag (kD ..) ?_)
 by_cases q:y.1<aW.length
 ·exact aa (cZ q) (h _ (mA q))
 ·rw [ja,iy (fG q)];exact da _
theorem adv:∀(l:List (Nat×List UInt8)) (ps:List (List UInt8)),Short ps->(∀x∈l,x.2.length≤1000)->Short (putAll ps l):=by
 intro l
 induction l with
 | nil=>exact λJ h J=>h
 | cons x l ih=>exact λps h hl=>ih _ (λy hy=>by
   rcases aba hy with hy | rfl
   ·exact h y hy
   ·exact hl x (.head _)) λy hy=>hl y (.tail _ hy)
theorem Nr:∀{ps:List (List UInt8)},Short ps->ps.flatten.length≤1000*ps.length:=by
 intro ps
 induction ps with
 | nil=>exact λJ=>cg _
 | cons x ps ih =>
  intro h;refine aa Nt (aa de (aa n0 ?_));exact ag (b6 (ll ..)) (fP (ih λy hy=>h y (.tail _ hy)) (h x (.head _)))
theorem adw{held:List (List UInt8)}{au:List Nat}(h:Short held)(hl:held.length≤20):(o0 held p au).flatten.length≤100000:=by
 have hd:Short (held.drop p):=λx hx=>h x (nV hx)
 have hs:Short (o0 held p au):=by
  unfold o0 Ay;exact adv _ _ hd λx hx=>adu hd _ (iB hx).2
 have c9:(o0 held p au).length≤20:=by
  unfold o0 Ay;refine aa (aci ..) (aa f9 ?_);exact ag (gJ ..) hl
 exact ag (Nr hs) (ag (c8 1000 c9) (nb rfl))
theorem bt.cont{S:Nat}(T:iC S ws ls)(G:bt S ws ls σ Ls)(hk:k<ls.length):(Ls.getD k ay).cont.length=4*(ws.getD k (0,0)).2:=by
 obtain ⟨fs,G⟩:=G;obtain ⟨g,i,j,mem,a0,D⟩:=G.at_ k hk;exact ao D.cont (aa (xF (AN D.len D.wk) (Pi T.S4 (T.w k hk).1)) rfl)
theorem adx(hc:oQ af)(h:∀x∈hs,∀b,x=some b->b.length≤1000):Short (gc af hs):=λy hy=>by
 obtain ⟨⟨c,o⟩,hx,rfl⟩:=bJ.mp hy
 have hm:=iB hx
 cases o with
 | none=>have:=hc c hm.1;simp;exact ag (u5 4 this.1) (nb rfl)
 | some b=>exact h _ hm.2 b rfl
theorem Nu{S:Nat}(T:iC S ws ls)(G:bt S ws ls σ Ls)(gD:∀c∈af,uJ ws ls c):∀x∈bx Ls af,∀b,x=some b->b.length≤1000:=λx hx b hb=>by
 obtain ⟨c,hc,rfl⟩:=bJ.mp hx
 have h1:=G.cont T (gD c hc).1
 have h2:=T.w _ (gD c hc).1
 unfold dZ at hb
 split at hb
 ·cases hb
 ·cases hb;exact h1▸ag (c8 4 h2.2) (nb rfl)
theorem ady:∀{hs:List (Option (List UInt8))},kl .none (hs.map fN)=some (hs.any (λz=>z.isNone)):=by
 intro hs
 induction hs with
 | nil=>rfl
 | cons x hs ih =>
  refine (congrArg (λo=>(gn (fN x) .none).bind λa=>yE (λb=>a || b) o) ih).trans ?_;cases x<;>rfl
noncomputable def nJ(hs:List (Option (List UInt8))):List (List UInt8):=hs.map (λz=>z.getD [])
theorem adz:∀{hs:List (Option (List UInt8))},hs.any (λz=>z.isNone)=false->hs.map fN=(nJ hs).map .bytes:=by
 intro hs
 induction hs with
 | nil=>exact λJ=>rfl
 | cons x hs ih =>
  rcases x with _ | b
  ·exact λh=>ff h.symm
  ·exact λh=>congrArg (ut _) (ih h)
def nK(size:Nat)(ak:List UInt8)(hs:List (Option (List UInt8))):Prop:=hs.any (λz=>z.isNone)=false/\(nJ hs).flatten.take size=ak
theorem adA{k:Bool->Prop}(h:k (hs.any (λz=>z.isNone))):vy σ .none (.list (hs.map fN)) k:=⟨_,ady,h⟩
theorem adB(h:∀x∈hs,∀b,x=some b->b.length≤1000):Short (nJ hs):=λx hx=>by
 obtain ⟨o,ho,rfl⟩:=bJ.mp hx;cases o with
 | none=>exact da _
 | some b=>exact h _ ho b rfl
theorem nI.uN{S:Nat}{s size:Nat}(B:nI S ws ls p s size af):oQ af:=λc hc=>⟨ag (B.xM c hc).1 (nb rfl),(B.xM c hc).2⟩
theorem nI.kr{S:Nat}{s size:Nat}(B:nI S ws ls p s size af):af.length≤10:=mr B.hcl
theorem adC(h:Short (nJ hs))(hl:hs.length≤10):(nJ hs).flatten.length≤1000000:=ag (Nr h) (by rewrite [nJ];refine aa (aE ..) ?_;exact ag (c8 1000 hl) (nb rfl))
section
variable{X:Cx}(C:Ctx X){n:Nat}{K:ab->ar->Prop}{σ:ar}{S:Nat}{ws:List (Nat×Nat)}{ls:List Addr}{Ls:List Lf}{p s size:Nat}{af:List bK}
include C
theorem nI.Nv(B:nI S ws ls p s size af)(ho:ak.length≤1000)(T:iC S ws ls)(G:bt S ws ls σ Ls)
  (h1:Acc af p size ak (bx Ls af)->K (.tuple [.bytes ak,aJ (bB (mJ af (bx Ls af) (aG ak af p)))]) σ) (h0:¬ Acc af p size ak (bx Ls af)->K (.tuple [.none, .list []]) σ) :
  aB X (n+8) (.ref 307) [b9 ls p,jI af, .list ((bx Ls af).map fN), .n size, .lam ak] [] K σ:=by
 have AW:=adx B.uN (Nu T G B.jK)
 obtain ⟨e1,e2,e3⟩:=B.ch (bx Ls af) sI
 have nF:(gc af (bx Ls af)).length≤20:=by rewrite [gc];refine aa (aE ..) ?_;exact ag (nA B.hcl) (nb rfl)
 exact adt C ho B.sz B.uN B.hcl B.h3 B.hH B.hm sI AW (λau=>adw AW nF) e1 e2 e3 h1 λh=>h0 λ⟨au,a,b⟩=>h au a b
theorem Fo(B:nI S ws ls p s size af)(ho:ak.length≤1000)(G:bt S ws ls σ Ls)
  (h:∀σ',bt S ws ls σ' Ls->(Acc af p size ak (bx Ls af)->K (.tuple [.bytes ak,aJ (bB (mJ af (bx Ls af) (aG ak af p)))]) σ')/\(¬ Acc af p size ak (bx Ls af)->K (.tuple [.none, .list []]) σ')) :
  aB X (n+9) (.ref 302) [b9 ls p, .n s, .n size, .lam ak] [] K σ:=by
 refine C.call 34 rfl rfl (gm C (AJ C B.sz B.h1 B.h3 B.h2 B.T.gK ?_));exact aa B.ec (gm C (gm C (Fg C B.T G B.jK B.kr λσ' G'=>B.Nv C ho B.T G' (h σ' G').1 (h σ' G').2)))
theorem Fp(B:nI S ws ls p s size af)(ho:ak.length≤1000)(G:bt S ws ls σ Ls)
  (h:∀σ',bt S ws ls σ' Ls->(nK size ak (bx Ls (af.drop p))->K (.tuple [.bytes ak, .list []]) σ')/\(¬ nK size ak (bx Ls (af.drop p))->(Acc af p size ak (bx Ls af)->K (.tuple [.bytes ak,aJ (bB (mJ af (bx Ls af) (aG ak af p)))]) σ')/\(¬ Acc af p size ak (bx Ls af)->K (.tuple [.none, .list []]) σ'))) :
  aB X (n+9) (.ref 295) [b9 ls p, .n s, .n size, .lam ak] [] K σ:=by
 have dD:p≤1000:=ag B.h3 (nb rfl)
 have Nw:af.length≤1000:=ag B.hcl (nb rfl)
 have Nx:∀c∈af.drop p,uJ ws ls c:=λc hc=>B.jK c (nV hc)
 have Fq:(af.drop p).length≤10:=aa f9 (ag (gJ ..) B.kr)
 have ev:(bx Ls (af.take p)).map fN++(bx Ls (af.drop p)).map fN=(bx Ls af).map fN:=by
  refine ao gW ?_;rewrite [bx];rewrite [bx];refine ao gW (aa (Fe ..) ?_);rfl
 let S1:Unit->St:=λJ=>{m:= [some (b9 ls p),some (.n s),some (.n size),some (.lam ak),some (jI af),none,none],fz:= [],σ:=σ}
 let S2:ar×Option ab->St:=λx=>{m:= [some (b9 ls p),some (.n s),some (.n size),some (.lam ak),some (jI af),some (.list ((bx Ls (af.drop p)).map fN)),x.2],fz:= [],σ:=x.1}
 refine C.call 33 rfl rfl (join S1 (λJ=>True) (λK' k J=>gm C (AJ C B.sz B.h1 B.h3 B.h2 B.T.gK (aa B.ec (k () _ trivial rfl)))) λJ J=>join S2 (λx=>bt S ws ls x.1 Ls/\x.2=none) (λK' k J=>gm C (Az dD Nw (Fg C B.T G Nx Fq λσ' G'=>k (σ',none) _ ⟨G',rfl⟩ rfl))) λ⟨σ',_⟩ ⟨G',e⟩=> ?_);subst e;refine join S2 (λx=>bt S ws ls x.1 Ls/\¬ nK size ak (bx Ls (af.drop p))) (λK' k Fm=>adA (bj.n (bj.c (λq=>k (σ',none) _ ⟨G',λh=>ff (h.1.symm.trans q)⟩ rfl) λq=> ?_))) λx hx=>gm C (gm C (Av dD Nw λws e=>Fg C B.T hx.1 (λc hc=>B.jK c (pp (ao e hc))) (by refine aa e (aa iY ?_);exact ag (jX ..) B.kr) λaR G2=>⟨?_, ?_⟩))
 ·have adD:Short (nJ (bx Ls (af.drop p))):=adB (Nu B.T G' Nx)
  refine (congrArg (λl=>aB X (n+8) (.ref 135) [.list l, .n size] [] _ σ') (adz q)).mpr (ME C (adC adD (aa sI Fq)) B.sz (Mr C.ok (bj.d (λq2=> .fz lk (Fm _ _ ?_)) λq2=>k (σ',some _) _ ⟨G',λh=>q2 h.2⟩ rfl)))
  have:=(h σ' G').1 ⟨q,q2⟩
  rw [<-q2] at this
  exact this
 ·show _≤_
  rw [e,aE,aE,sI,sI,iY];exact ag (fP (ag (jX ..) B.kr) Fq) (nb rfl)
 ·refine aa e (aa ev ?_);exact B.Nv C ho B.T G2 ((h aR G2).2 hx.2).1 ((h aR G2).2 hx.2).2
end
noncomputable def sJ(L:Lf):Lf:=if L.out then L else {L with wn:=0}
noncomputable abbrev Pt:=Nat×Nat×Nat
noncomputable abbrev xN(x:Pt):ee:= .list [.n x.1, .n x.2.1, .n x.2.2]
noncomputable abbrev o4(x:Pt):ab:= .list [.n x.1, .n x.2.1, .n x.2.2]
noncomputable abbrev eC(pt:List Pt):ab:= .list (pt.map o4)
noncomputable def nM(s w:Nat)(cn:List Pt)(i:Nat):List Pt :=
 let f:=if i<w then cn++ [((s+i) % w,(s+i) / w,0)] else cn
 let x:=f.getD (i % w) (0,0,0)
 f.set (i % w) (x.1,x.2.1,x.2.2+1)
noncomputable def adE:List Pt->List Pt
 | x::y::t=>(y.1,y.2.1,x.2.2)::(x.1,x.2.1,y.2.2)::t
 | l=>l
noncomputable def mK(m w p:Nat):Nat:=m+p*((m+(w - p) - 1) / (w - p))
noncomputable def xO(s m w p:Nat)(turn:Bool):List Pt:=let l:=(aK (mK m w p)).foldl (nM s w) [];if turn then adE l else l
noncomputable def kO(pt:List Pt)(x:Int)(p most:Nat)(st:List Nat×List Nat)(turn:Nat):List Nat×List Nat :=
 let child:=(pt.getD (((x.fdiv 7).fdiv (5^turn)).fmod pt.length).toNat (0,0,0)).1
 if child∈st.1++st.2 then st
 else if (x.fdiv 3).fmod 2=(turn % 2:Nat)/\st.1.length<most/\x.fmod (p+2)≤p then (st.1++ [child],st.2) else (st.1,st.2++ [child])
noncomputable def AX(pt:List Pt)(x:Int)(p most:Nat):List Nat×List Nat:=(aK (x.fmod (p+2)).toNat).foldl (kO pt x p most) ([],[])
noncomputable def hO(b:List UInt8):List UInt8:=b.map λx=>255 - x
noncomputable def o5(eL:List Nat)(Ls:List Lf)(x:Pt):List Lf:=if x.1∈eL then Ls.set x.1 (eS 0 (Ls.getD x.1 ay) (hO (Ls.getD x.1 ay).cont) x.2.2) else Ls
noncomputable def jL(pt:List Pt)(eL:List Nat)(Ls:List Lf):List Lf:=pt.foldl (o5 eL) Ls
noncomputable def AY(v:Bool)(Ls:List Lf)(k:Nat):List Lf:=Ls.set k {Ls.getD k ay with out:=v}
noncomputable def gd(which:List Nat)(v:Bool)(Ls:List Lf):List Lf:=which.foldl (AY v) Ls
theorem uO(b:List UInt8):(hO b).length=b.length:=aE ..
theorem adF(m k:Nat)(hk:0<k): -((-(m:Int)).fdiv (k:Int))=(((m+k - 1) / k:Nat):Int):=by
 refine aa (Ca _ (et _)) (Int.neg_eq_comm.mp (((Int.ediv_emod_unique (a:= -(m:Int)) (r:=(k*((m+k - 1) / k):Nat) - (m:Int)) (ir.mpr hk)).mpr ⟨?_, ?_, ?_⟩).1.symm))
 ·exact aa (Int.mul_neg ..) (ao Int.sub_eq_add_neg (aa (adG ..) (aa (vU ..) (ao (adG ..) (aa (M0 _) (Int.zero_sub _))))))
 ·exact I5 (dU.mpr (GE (b:=k) (ao (wc (ag hk (lr k m))) (Nat.lt_mul_div_succ (m+k - 1) hk))))
 ·exact Int.sub_left_lt_of_lt_add (ir.mpr (eD (Nat.mul_div_le ..) (Mk (eB hk (lr k m)) adH)))
theorem Fs(m k:Nat)(hk:0<k): -(fV (-(m:Int)) (k:Int))=(((m+k - 1) / k:Nat):Int):=aa (pB ..) (adF m k hk)
def adI(S:Nat)(ws:List (Nat×Nat))(ls:List Addr)(Ls:List Lf)(i:Nat)(y:ar×List Lf):Prop:=bt S ws ls y.1 y.2/\y.2.length=Ls.length/\∀k,y.2.getD k ay=if k<i then sJ (Ls.getD k ay) else Ls.getD k ay
def DN(σ:ar)(a:Addr):Prop:=∃g m,σ a=some (.inst 739 [("disk", .none),("guid", .int g),("shape",dz),("missing", .ref m)])
theorem Fu(ls:List Addr):ls.map ab.ref=(aK ls.length).map λk=>ab.ref (ls.getD k 0):=by
 apply w4
 intro k;rw [cW,cW]
 by_cases q:k<ls.length
 ·rw [zt q,bI q,AZ,AZ,cZ q]
 ·rw [iy (fG q),iy (by refine aa fj ?_;exact fG q)];rfl
theorem adJ{gw:Nat->Bool}{n z:Nat}:(∀x∈(aK n).filterMap (λk=>if gw k=false then none else some z),x=z/\∃k,k<n/\gw k=true):=λx hx=>by
 obtain ⟨k,hk,e⟩:=oM.mp hx;cases q:gw k with
 | false=>rw [if_pos q] at e;exact nn e
 | true=>rw [if_neg (by refine aa q ?_;exact AV)] at e;exact ⟨(aN e).symm,k,fZ.mp hk,q⟩
theorem adK{gw:Nat->Bool}{n z:Nat}(h:(aK n).filterMap (λk=>if gw k=false then none else some z)= [])(k:Nat)(hk:k<n):gw k=false:=by
 cases q:gw k with
 | false=>rfl
 | true=>exact absurd (Fv.mp h k (fZ.mpr hk)) (aa q nofun)
section
variable{X:Cx}(C:Ctx X){n:Nat}{K:ab->ar->Prop}{σ:ar}{S:Nat}{ws:List (Nat×Nat)}{ls:List Addr}{Ls:List Lf}{p:Nat}
include C
theorem Ny(T:iC S ws ls)(G:bt S ws ls σ Ls)(h:∀σ' dN,bt S ws ls σ' dN->dN.length=Ls.length->(∀k,k<ls.length->dN.getD k ay=sJ (Ls.getD k ay))->K .none σ'):aB X (n+5) (.ref 328) [b9 ls p] [] K σ:=by
 let S':ar×List Lf->St:=λy=>{m:= [some (b9 ls p),none],fz:= [],σ:=y.1}
 refine C.call 38 rfl rfl (loop [false,true] ls .ref S' (adI S ws ls Ls) (σ,Ls) ⟨G,rfl,λk=>(if_neg (E5 k)).symm⟩ (λJ J J=>dY) (λi a y K' ei P k J=> ?_) λy P=>h y.1 y.2 P.1 P.2.1 λk hk=>aa (P.2.2 ..) (aa (if_pos hk) rfl));obtain ⟨⟨fs,G⟩,hl,hg⟩:=P;obtain ⟨hi,ea⟩:=du.mp ei;obtain ⟨g,c,j,mem,a0,D⟩:=G.at_ i hi
 have ea:ls.getD i 0=a:=aa (cZ hi) (aa ea rfl)
 rw [ea] at D
 refine D.aI C (adk C D T.S1 λaR U=> ?_);rw [<-ea] at U
 refine k (aR,_) _ ⟨G.upd hi (σ':=aR) (L':=sJ (y.2.getD i ay)) U,(kq ..).trans hl,λj=> ?_⟩ rfl;refine aa oV ?_
 by_cases q:i=j
 ·subst q;exact aa (if_pos ⟨rfl,by rw [G.Ll];exact hi⟩) (aa (if_pos (ju i)) (aa (hg ..) (aa (if_neg (iM i)) rfl)))
 ·refine aa (if_neg (λh=>q h.1)) (aa (hg ..) ?_)
  by_cases q2:j<i
  ·exact aa (if_pos q2) (aa (if_pos (pQ q2)) rfl)
  ·exact aa (if_neg q2) (aa (if_neg λh=>(Nat.lt_succ_iff_lt_or_eq.mp h).elim q2 λe=>q e.symm) rfl)
theorem Fw(hl:ls.length≤10)(h:K (.list (ls.map .ref)) σ):aB X (n+1) (.ref 335) [b9 ls p] [] K σ :=
 C.call 39 rfl rfl (Lx (vs:=ls.map .ref) rfl (by refine aa (aE ..) ?_;exact ag hl (nb rfl)) (.inl h))
theorem Fx(T:iC S ws ls)(gw:Nat->Bool)(hp:∀k,k<ls.length->if gw k then ∃row aQ f L,mI S row aQ σ (ls.getD k 0) f L else DN σ (ls.getD k 0))
  (h1:(∃k,k<ls.length/\gw k=true)->K (.n ((S - 4)*ls.length)) σ) (h0:(∀k,k<ls.length->gw k=false)->K (.int 0) σ):aB X (n+6) (.ref 255) [b9 ls p] [] K σ:=by
 have hl:ls.length≤1000:=ag T.gK (nb rfl)
 have mO:=adJ (gw:=gw) (n:=ls.length) (z:=S - 4)
 have adL:=adK (gw:=gw) (n:=ls.length) (z:=S - 4)
 have qx:((aK ls.length).filterMap λk=>if gw k=false then none else some (S - 4)).length≤1000:=ag (tW _ _) (jE hl)
 have ef:=uw (aK ls.length) (λk=>gw k=false) (λJ=>S - 4) ab.n
 generalize (aK ls.length).filterMap (λk=>if gw k=false then none else some (S - 4))=l at *
 refine C.call 27 rfl rfl (qk [false,false,true,true] (aK ls.length) (λk=> .ref (ls.getD k 0)) (λk=>if gw k=false then none else some (.n (S - 4))) (jE (k5 hl)) (λk hk K' kk=> ?_) (j3 ef (aa (aE ..) qx) (cx (k:=l.length) (congrArg some (aE _)) (k6 qx) ?_)) (Fu ls))
 ·have gu:=hp k (fZ.mp hk)
  cases q:gw k with
  | true =>
   rw [q,if_pos rfl] at gu
   obtain ⟨row,aQ,f,L,g,i,j,mem,a0,D⟩:=gu;exact b0 D.lf (v:= .ref f.d) (D.aI C (Nj C D T.S1 T.S4 (kk _ _ (aa q (aa (if_neg AV) rfl)) rfl)))
  | false =>
   rw [q,if_neg AV] at gu
   obtain ⟨g,m,e⟩:=gu;exact b0 e (v:= .none) (kk _ _ (if_pos q).symm rfl)
 ·cases l with
  | nil=>exact h0 (adL rfl)
  | cons x l =>
   refine fi (a:=0) (b:=(x::l).length) (λJ=>ZT (ns:=(x::l).map λ(x:Nat)=>(x:Int)) (aa (Ax ..) rfl) (rQ _) λM hM J=> ?_) λq=>absurd (rQ _) q;obtain ⟨y,hy,rfl⟩:=bJ.mp hM;exact aa ((mO y hy).1) (cx (k:=ls.length) (congrArg some (aE _)) (k6 hl) ⟨⟨cY (ag (gJ ..) (k6 T.S1)),cY (k6 hl)⟩,h1 (mO x (.head _)).2⟩)
theorem Fy{cr:List Int}(hl:cr.length≤1000)(hk:k≤1000){sv:ab}(hs:lz σ sv (cr.map .int))(h:K (.int (if k<cr.length then cr.getD k 0 else 61*k+4)) σ):aB X (n+1) (.ref 750) [sv, .n k] [] K σ :=
 C.call 70 rfl rfl (cx (k:=cr.length) (hs.len.trans (congrArg some (aE _))) (k6 hl) (fi (λq=>hs.sub (i:=k) (w:= .int (cr.getD k 0)) (by rw [cW,bI q,cZ q];rfl) hk (by rw [if_pos q] at h;exact h))
  λq=>⟨⟨by decide,cY (k6 hk)⟩,by rw [if_neg q] at h;exact h⟩))
theorem xP(T:iC S ws ls)(G:bt S ws ls σ Ls){which:List Nat}{v:Bool}(hw:∀k∈which,k<ls.length)(h:∀σ',bt S ws ls σ' (gd which v Ls)->K .none σ') :
  aB X (n+1) (.ref 776) [.list (ls.map .ref),aJ which, .bool v] [] K σ:=by
 let S':ar->St:=λσ=>{m:= [some (.list (ls.map .ref)),some (aJ which),some (.bool v),none],fz:= [],σ:=σ}
 refine C.call 74 rfl rfl (loop [false,false,false,true] which .n S' (λi σ'=>bt S ws ls σ' (gd (which.take i) v Ls)) σ G (λJ J J=>dY) (λi k σ' K' ei G kk J=> ?_) λσ' G=>h σ' (by rw [kF] at G;exact G));obtain ⟨fs,G⟩:=G
 have hk:=hw k (cw ei)
 have es:gd (which.take (i+1)) v Ls=AY v (gd (which.take i) v Ls) k:=uu _ _ ei
 rw [es] at kk
 obtain ⟨g,c,j,mem,a0,D⟩:=G.at_ k hk;exact oJ (sG hk) (T.uK hk) (b0 D.lf (v:= .ref (fs.getD k lI).d) (j8 D.dk.d (kk _ _ (G.upd hk (L':={(gd (which.take i) v Ls).getD k ay with out:=v})
  ⟨fs.getD k lI,⟨g,c,j,mem,a0,eK D.lf D.dk.d,⟨bX,eK D.dk.b D.dk.d,eK D.dk.w D.dk.d⟩,⟨eK D.rg.m D.dk.d,eK D.rg.r D.dk.d⟩,D.len,D.wk,D.cont,D.wn,D.nd⟩,λJ h=> .inl h,λx J ow J=>bC (uH ow).1⟩) rfl)))
end
theorem Nz(c:Pt)(r:Addr)(h:aF r=some (xN c))(h0:σ r=none):w5 aF σ (.ref r) (o4 c):= .list h h0 (qi.refl _)
theorem adM{s i:Nat}{f:List Pt}(hf:f.length=min i w):(nM s w f i).length=min (i+1) w:=by
 unfold nM;refine aa kq ?_
 by_cases q:i<w
 ·refine aa (if_pos q) (aa de (aa hf (aa (gT (bS q)) (aa (gT q) ?_))));rfl
 ·have q:=fG q
  exact aa (if_neg (dC.mpr q)) (aa hf (aa (p6 q) (aa (p6 (mr q)) rfl)))
noncomputable def LS(σ:ar)(a b:Addr)(h o:List Nat):ar:=(σ.set a (.list (h.map .n))).set b (.list (o.map .n))
theorem kP{a b:Nat}(h:yc a b=true:=by rfl):a≤b:=sV h
theorem adN{i:Nat}{K:St->Prop}(h:K (st.jl i v))(e:n8 i st=true:=by rfl):pF [i] false v st K:=cX.i e h
structure A0 where
 f:List Pt
 rs:List Addr
 σ:ar
structure adO(s w:Nat)(σ:ar)(a:Addr)(i:Nat)(x:A0):Prop where
 st:jH xN σ x.σ a x.f x.rs
 eq:x.f=(aK i).foldl (nM s w) []
 len:x.f.length=min i w
structure adP(s w:Nat)(σ:ar)(a:Addr)(i:Nat)(f:List Pt)(x:A0):Prop where
 st:jH xN σ x.σ a x.f x.rs
 lt:i % w<x.f.length
 eq:x.f.set (i % w) ((x.f.getD (i % w) (0,0,0)).1,(x.f.getD (i % w) (0,0,0)).2.1,(x.f.getD (i % w) (0,0,0)).2.2+1)=nM s w f i
theorem adQ{s i:Nat}{f:List Pt}(h:i<w):(f++ [((s+i) % w,(s+i) / w,0)]).set (i % w) (((f++ [((s+i) % w,(s+i) / w,0)]).getD (i % w) (0,0,0)).1,((f++ [((s+i) % w,(s+i) / w,0)]).getD (i % w) (0,0,0)).2.1,((f++ [((s+i) % w,(s+i) / w,0)]).getD (i % w) (0,0,0)).2.2+1)=nM s w f i:=by
 unfold nM;exact aa (if_pos h) rfl
theorem adR{s i:Nat}{f:List Pt}(h:¬ i<w):f.set (i % w) ((f.getD (i % w) (0,0,0)).1,(f.getD (i % w) (0,0,0)).2.1,(f.getD (i % w) (0,0,0)).2.2+1)=nM s w f i:=by
 unfold nM;exact aa (if_neg h) rfl
theorem Fz{r:Addr}(h:st.σ r=some (.list vs))(hk:k≤1000)(hl:vs.length≤1000)(q:K (.list (vs.take k)) st):km (.ref r) none (some (.int (k:Int))) st K :=
 .list vs 0 k (oI h) rfl (xe (k6 hk)) (k6 hl) (.fz (by show _≤_;refine aa y6 (aa iY ?_);exact ag (jX ..) (k6 hl)) q)
section
variable{X:Cx}(C:Ctx X){n:Nat}{K:ab->ar->Prop}{σ:ar}
include C
theorem adS{s:Nat}{t:Bool}(hm:m≤100)(hp:p≤3)(h2:p<w)(hw:w≤10)(hN:mK m w p≤1000)(ht:t=true->2≤mK m w p/\2≤w)(h:K (eC (xO s m w p t)) σ):aB X (n+1) (.ref 757) [.n s, .n m, .n w, .n p, .bool t] [] K σ:=by
 have sC:0<w:=eD (da p) h2
 have tr:(w:Int)≠0:=oP.mpr (fK sC)
 have AD:((w:Int) - (p:Int))≠0:=aa (iw h2) (oP.mpr (fK (ru h2)))
 have ec: -(fV (-(m:Int)) ((w:Int) - p))=(((m+(w - p) - 1) / (w - p):Nat):Int):=aa (iw h2) (Fs m (w - p) (ru h2))
 have en:(m:Int)+(p:Int)* -(fV (-(m:Int)) ((w:Int) - p))=(mK m w p:Nat):=aa ec rfl
 have hq:(m+(w - p) - 1) / (w - p)≤1000000:=ag (oz _ _) (ag (gJ ..) (ag (fP hm (ag (gJ ..) hw)) (nb rfl)))
 refine aB.out (C.call 71 rfl rfl (.own lk λa ha=> ?_));replace ha:σ a=none:=ha
 let S:A0->St:=λx=>{m:= [some (.n s),some (.n m),some (.n w),some (.n p),some (.bool t),some (.ref a),none],fz:= [],σ:=x.σ}
 refine ⟨⟨AD,by refine aa (iw h2) ?_;exact cY (ag (gJ ..) (ag hw (nb rfl)))⟩,⟨cY (ag hp (nb rfl)),aa ec (cY hq)⟩,aa en (rg hN),
  loop [false,false,false,false,false,false,true] (aK (mK m w p)) .n S (adO s w σ a) ⟨[],[],_⟩ ⟨⟨bX,rfl,λJ J J=>nofun,λJ=>nofun,by simp,ha,mE ha⟩,rfl,(DR w).symm⟩ (λJ J J=>dY) (λi i' x K' ei P k J=> ?_) (λx P=> ?_) (aa en (i8 _))⟩
 ·refine dP (qq ei) λgn hi=> ?_;subst gn
  have qB:i≤1000:=ag (bS hi) hN
  have adT:i % w<w:=Bz _ sC
  have i0:x.f.length≤1000:=P.len▸ag (kD ..) qB
  let S2:A0->St:=λx=>{m:= [some (.n s),some (.n m),some (.n w),some (.n p),some (.bool t),some (.ref a),some (.n i)],fz:= [],σ:=x.σ}
  refine adN (join S2 (adP s w σ a i x.f) (λK' k J=>fi (a:=i) (b:=w) (λq=>⟨_,oG P.st.lst,tr,⟨tr,cY (ag hw (nb rfl))⟩, .own lk λr hr=> ?_⟩) λq=>k x _ ⟨P.st, ?_,adR q⟩ rfl) λy Q=> ?_)
  ·replace hr:x.σ r=none:=hr;refine uh (vs:=x.rs.map .ref) ((bC λe=>P.st.uF (r:=a) (BB ..) ((congrArg x.σ e).trans hr)).trans P.st.lst) (by refine aa (aE ..) (aa P.st.len ?_);exact k6 i0)
    (k ⟨x.f++ [((s+i) % w,(s+i) / w,0)],x.rs++ [r],(x.σ.set r (xN ((s+i) % w,(s+i) / w,0))).set a (.list (x.rs.map .ref++ [.ref r]))⟩ _ ⟨?_, ?_,adQ q⟩ rfl)
   ·have:=P.st.push (c:=((s+i) % w,(s+i) / w,0)) hr
    rw [gW] at this
    exact this
   ·refine aa de (aa P.len (aa (gT (bS q)) ?_));exact u6 (Nat.mod_le ..)
  ·refine aa P.len (aa (p6 (fG q)) ?_);exact adT
  ·have gI:i % w<y.rs.length:=aa Q.st.len Q.lt
   have hr:y.rs[i % w]? =some y.rs[i % w]:=bI gI
   generalize y.rs[i % w]=r at hr
   have qh:=Q.st.at_ _ _ _ hr (show y.f[i % w]? =some (y.f.getD (i % w) (0,0,0)) by rw [bI Q.lt,cZ Q.lt])
   have hs:=Q.eq
   generalize y.f.getD (i % w) (0,0,0)=z at qh hs
   refine ⟨tr,lB (i:=i % w) Q.st.lst (by rw [cW,hr];rfl) (ag (Nat.mod_le ..) qB) (lB (i:=2) qh rfl (nb rfl) (Aj (i:=2) qh kP (nb rfl) (k ⟨nM s w x.f i,y.rs,y.σ.set r (xN (z.1,z.2.1,z.2.2+1))⟩ _ ⟨hs▸Q.st.upd (i:=i % w) (c:=(z.1,z.2.1,z.2.2+1)) hr, ?_,adM P.len⟩ rfl)))⟩;refine aa Ag (aa rU (ao P.eq ?_));rfl
 ·obtain ⟨f,rs,aF⟩:=x
  have Q:=P.st
  have hl:=P.len
  have ef:=P.eq
  dsimp only at Q hl ef
  rw [fj] at hl ef
  unfold xO at h
  dsimp only at h
  rw [<-ef] at h
  cases t with
  | false=>exact Q.out Nz h
  | true =>
   obtain ⟨h3,h4⟩:=ht rfl
   have hf:2≤f.length:=hl▸zS.mpr ⟨h3,h4⟩
   have gI:2≤rs.length:=ao Q.len.symm hf
   rcases f with _ | ⟨x0,_ | ⟨x1,f⟩⟩
   ·exact absurd hf (NA 1)
   ·exact absurd hf (adU 1)
   rcases rs with _ | ⟨r0,_ | ⟨r1,rs⟩⟩
   ·exact absurd gI (NA 1)
   ·exact absurd gI (adU 1)
   have h0:=Q.at_ 0 r0 x0 rfl rfl
   have h1:=Q.at_ 1 r1 x1 rfl rfl
   have bz:r1≠r0:=λe=>absurd (AE (f6.mp Q.nd).2 (i:=0) (j:=1) rfl (congrArg some e)) (by decide)
   have Q1:=Q.upd (i:=0) (c:=(x1.1,x1.2.1,x0.2.2)) rfl
   have Q2:=Q1.upd (i:=1) (r:=r1) (c:=(x0.1,x0.2.1,x1.2.2)) rfl
   exact lB (i:=1) Q.lst rfl (nb rfl) (Fz (k:=2) h1 (nb rfl) kP (lB (i:=0) Q.lst rfl (nb rfl) (Fz (k:=2) h0 (nb rfl) kP (lB (i:=0) Q.lst rfl (nb rfl)
    (.list r0 _ _ 0 2 rfl h0 rfl rfl (uG (k:=2) rfl (nb rfl)) lk (da _) (nb rfl) (lB (i:=1) Q1.lst rfl (nb rfl) (.list r1 _ _ 0 2 rfl ((bC bz).trans h1) rfl rfl (uG (k:=2) rfl (nb rfl)) lk (da _) (nb rfl) (Q2.out Nz h))))))))
end
section
variable {pt:List Pt}
section
variable{σ:ar}{a b:Addr}{h o:List Nat}
theorem xQ(dc:a≠b):LS σ a b h o a=some (.list (h.map .n)):=by rewrite [LS];exact aa (bC dc) (aa bX rfl)
theorem A1:LS σ a b h o b=some (.list (o.map .n)):=bX
theorem adV{x:Nat}(dc:a≠b):(LS σ a b h o).set a (.list (h.map .n++ [.n x]))=LS σ a b (h++ [x]) o:=by
 funext c;unfold LS ar.set
 by_cases h1:c=a
 ·subst h1;simp [dc]
 ·simp [h1]
theorem adW{x:Nat}:(LS σ a b h o).set b (.list (o.map .n++ [.n x]))=LS σ a b h (o++ [x]):=by
 rewrite [LS];refine aa sk ?_;rewrite [LS];refine aa gW ?_;rfl
end
theorem NB(x:Int)(p:Nat):0≤x.fmod (p+2)/\x.fmod (p+2)<p+2:=by
 have h:(0:Int)<(p:Int)+2:=ir.mpr (rQ (p+1))
 exact aa (tC _ (on h)) (⟨FA _ (FC h),FD _ h⟩)
theorem NC{x:Int}(hp:p≤3):(x.fmod (p+2)).toNat≤4 :=
 t9.mpr (adX (J0 (NB x p).2 (dU.mpr (gG hp 2))))
theorem adY{x:Int}{st:List Nat×List Nat}{i:Nat}:(kO pt x p most st i).1.length+(kO pt x p most st i).2.length≤st.1.length+st.2.length+1:=by
 unfold kO;dsimp only
 split
 ·exact cb ..
 ·split<;>simp<;>first | exact b6 (sY ..) | exact cg _
theorem ai0(n:Nat):lg 0 n=(aK n).map ab.n:=i8 n
theorem ND{i:Nat}{z:Int}{k:ab->Prop}(e:z=(i:Int))(hi:vs[i]? =some v)(hb:i≤1000)(q:k v):bE (m0 σ (.list vs) z) k:=by subst e;exact oJ hi hb q
noncomputable def o6(pt:List Pt)(x:Int)(i:Nat):Nat:=(((x.fdiv 7).fdiv (5^i)).fmod pt.length).toNat
theorem adZ{x:Int}{i:Nat}(h:0<pt.length):mZ (fV (fV x 7) (5^((i:Int)).toNat)) (pt.length:Int)=(o6 pt x i:Int)/\o6 pt x i<pt.length:=by
 have h0:(0:Int)<(pt.length:Int):=ir.mpr h
 have hn:0≤((x.fdiv 7).fdiv (5^i)).fmod pt.length:=aa (tC _ (on h0)) (FA _ (FC h0))
 have e:(o6 pt x i:Int)=((x.fdiv 7).fdiv (5^i)).fmod pt.length:=tR hn
 refine ⟨aa (lY ..) (aa (pB ..) (aa (pB ..) (aa (mo ..) (aa e rfl)))),ir.mp ?_⟩;refine aa e (aa (tC _ (on h0)) ?_);exact FD _ h0
theorem ad0(b:List UInt8):b.map (λo=>ab.int ((255 - o:UInt8).toNat))=d3 (hO b):=by unfold d3 hO;refine aa dj ?_;rfl
theorem ad1(o:UInt8):(255:Int) - (o.toNat:Int)=((255 - o:UInt8).toNat:Int):=by
 have h:=pe (qo o)
 exact aa (UInt8.toNat_sub_of_le _ _ (UInt8.le_iff_toNat_le.mpr h)) ((nx h).symm)
theorem ad2{i:Nat}(h:i<5):(5:Int)^((i:Int)).toNat≠0/\((5:Int)^((i:Int)).toNat).natAbs≤2^31:=by
 have e:(5:Int)^((i:Int)).toNat=((5^i:Nat):Int):=aH (mo ..) (Int.natCast_pow ..) rfl
 exact aa e (⟨oP.mpr (fK (Nat.pow_pos (nb rfl))),cY (ag (LV (nb rfl) (pe h)) (nb rfl))⟩)
theorem ad3{b:Addr}{h o:List Nat}(ha:σ a=none)(hb:σ b=none):∀c ob,σ c=some ob->LS σ a b h o c=some ob:=λc ob e=>by
 rw [LS,bC,bC]
 ·exact e
 ·rintro rfl;exact nn (ha.symm.trans e)
 ·rintro rfl;exact nn (hb.symm.trans e)
section
variable{X:Cx}(C:Ctx X){n:Nat}{K:ab->ar->Prop}{σ:ar}{S:Nat}{ws:List (Nat×Nat)}{ls:List Addr}{Ls:List Lf}{p:Nat}
include C
theorem NE{x:Int}(hp:p≤3)(fk:0<pt.length)(NF:pt.length≤100)(h:K (.tuple [aJ (bB (AX pt x p most).1),aJ (bB (AX pt x p most).2)]) σ) :
  aB X (n+1) (.ref 764) [eC pt, .int x, .n p, .n most] [] K σ:=by
 refine aB.out (C.call 72 rfl rfl (.own lk λa ha=> .own lk λb hb=> ?_));replace ha:σ a=none:=ha;obtain ⟨EP,hb⟩:=mF (σ:=σ) (a:=a) (o:= .list []) hb
 have dc:=EP.symm
 have uE:((p:Int)+2)≠0:=oP.mpr (MQ (p+1))
 have em:=lY x ((p:Int)+2)
 have hn:=NC (x:=x) hp
 have en:((x.fmod (p+2)).toNat:Int)=mZ x ((p:Int)+2):=(tR (NB x p).1).trans em.symm
 let S':List Nat×List Nat->St:=λq=>{m:= [some (eC pt),some (.int x),some (.n p),some (.n most),some (.ref a),some (.ref b),none,none],fz:= [],σ:=LS σ a b q.1 q.2}
 refine ⟨uE,by refine ao en ?_;exact rg (ag hn (nb rfl)),jZ [false,false,false,false,false,false,true,true] (aK (x.fmod (p+2)).toNat) .n (kO pt x p most) S' (λi q=>q.1.length+q.2.length≤i) ([],[]) (cg _) (λi j q e h=>ag adY (fT h)) (λJ=>dY) (λi i' q K' ei hl k J=> ?_)
  (λhl=> ?_) (ao en (i8 _))⟩
 ·obtain ⟨rfl,hi⟩:=qq ei
  have FE:=eB hi hn
  obtain ⟨e1,e2⟩:=adZ (x:=x) (i:=i) fk;obtain ⟨hh,oo⟩:=q
  have hl:hh.length+oo.length≤4:=ag hl (bS FE)
  have hx:(pt.map o4)[o6 pt x i]? =some (o4 (pt.getD (o6 pt x i) (0,0,0))):=by rw [cW,bI e2,cZ e2];rfl
  have fL:∀{l:List Nat},l.length≤4->(l.map ab.n).length≤1000000:=λh=>by refine aa (aE ..) ?_;exact ag h (nb rfl)
  have NG:=ag (cb ..) hl
  have ad4:=ag (lr ..) hl
  unfold kO at k
  change ∀y st',y=(if (pt.getD (o6 pt x i) (0,0,0)).1∈hh++oo then (hh,oo) else if (x.fdiv 3).fmod 2=(i % 2:Nat)/\hh.length<most/\x.fmod (p+2)≤p then (hh++ [(pt.getD (o6 pt x i) (0,0,0)).1],oo) else (hh,oo++ [(pt.getD (o6 pt x i) (0,0,0)).1]))->_->_ at k
  generalize pt.getD (o6 pt x i) (0,0,0)=y at hx k
  let S2:ar->St:=λσ=>{m:= [some (eC pt),some (.int x),some (.n p),some (.n most),some (.ref a),some (.ref b),some (.n i),some (.n y.1)],fz:= [],σ:=σ}
  refine ⟨⟨by decide,by decide⟩,⟨⟨by decide,by decide,et i,dU.mpr (ag (bS FE) (nb rfl))⟩,⟨ad2 (pQ FE),cx (k:=pt.length) (congrArg some (aE _)) (ag NF (nb rfl)) ⟨oP.mpr (fK fk),ND e1 hx (ag (bS e2) (ag NF (nb rfl)))
   ⟨_,_,xQ dc,A1,by show _≤_;refine aH (aE ..) (aE ..) ?_;exact ag hl (nb rfl),ny (l:=hh++oo) (congrArg some gW.symm) (λq=>k (hh,oo) _ (if_pos q).symm rfl) λq=> ?_⟩⟩⟩⟩⟩
  rw [if_neg q] at k
  have no:¬ ((x.fdiv 3).fmod 2=(i % 2:Nat)/\hh.length<most/\x.fmod (p+2)≤p)->MethP X (LS σ a b hh oo) (.ref b) "append" λf=>aB X n (.raw f) [.ref b, .n y.1] [] (λJ σ=>K' .next (S2 σ)) (LS σ a b hh oo):=λhq =>
   ⟨_,oG A1,uh A1 (fL ad4) (k (hh,oo++ [y.1]) _ (if_neg hq).symm (congrArg (St.mk _ _) adW))⟩
  refine ⟨⟨by decide,by decide⟩,by decide,by decide,bj.d (λq1=>cx (k:=hh.length) ((rY (xQ dc)).trans (congrArg some (aE _))) (ag NG (nb rfl)) (fi (a:=hh.length) (b:=most) (λq2=>⟨uE,bj.d (λq3=> ?_) λq3=>no λh=>q3 (ao em.symm h.2.2)⟩) λq2=>no λh=>q2 h.2.1)) λq1=>no λh=>q1 ?_⟩
  ·exact ⟨_,oG (xQ dc),uh (xQ dc) (fL NG) (k (hh++ [y.1],oo) _ (if_pos ⟨by refine ao (pB ..) (ao (lY ..) ?_);exact q1,q2,ao em q3⟩).symm (congrArg (St.mk _ _) (adV dc)))⟩
  ·refine aa (lY ..) (aa (pB ..) ?_);exact h.1
 ·have hl:_≤60:=ag hl (jE (ag hn (nb rfl)))
  exact xv (oI (xQ dc)) (uL _) (ag (cb ..) hl) (xv (oI A1) (uL _) (ag (lr ..) hl) (Me (ad3 ha hb) h))
theorem ad5(T:iC S ws ls)(G:bt S ws ls σ Ls){row:Nat}(hk:k<ls.length)(hw:ws.getD k (0,0)=(row,aQ)){z:Int}(hz:z=((4*aQ:Nat):Int))(ho:(Ls.getD k ay).out=false)
  (h:∀σ',bt S ws ls σ' Ls->K (.bytes (Ls.getD k ay).cont) σ'):aB X (n+7) (.raw (.ref 694)) [.ref (ls.getD k 0), .n row, .int z] [] K σ :=
 Nm C T G hk hw hz λσ' G'=>by rewrite [dZ];refine aa ho ?_;exact h σ' G'
theorem ad6(T:iC S ws ls)(G:bt S ws ls σ Ls)(hf:dg Ls 600)(fk:pt.length≤10)(gD:∀x∈pt,x.1<ls.length/\ws.getD x.1 (0,0)=(x.2.1,x.2.2)/\x.2.2≤10){eL:List Nat}(ga:∀k,(Ls.getD k ay).out=false)
  (h:∀σ',bt S ws ls σ' (jL pt eL Ls)->K .none σ'):aB X (n+8) (.ref 769) [.list (ls.map .ref),eC pt,aJ eL] [] K σ:=by
 let S':ar->St:=λσ=>{m:= [some (.list (ls.map .ref)),some (eC pt),some (aJ eL),none,none,none],fz:= [],σ:=σ}
 refine C.call 73 rfl rfl (loop [false,false,false,true,true,true] pt o4 S' (λi σ'=>oZ S ws ls Ls (jL (pt.take i) eL Ls) (600+10*i) σ') σ ⟨G, .refl,hf⟩ (λJ J J=>dY) (λi x σ' K' ex P k J=> ?_) λσ' P=>h σ' (by have:=P.g;rw [kF] at this;exact this));obtain ⟨hk,hw,hm⟩:=gD x (cw ex)
 have es:jL (pt.take (i+1)) eL Ls=o5 eL (jL (pt.take i) eL Ls) x:=uu _ _ ex
 have hi:=eB (du.mp ex).1 fk
 rw [es] at k
 generalize jL (pt.take i) eL Ls=Li at *
 refine ny (l:=eL) rfl (λq=> ?_) λq=>k σ' _ (by rewrite [o5];refine aa (if_neg q) ?_;exact P.up) rfl;rw [o5,if_pos q] at k
 have ho:=(P.so.2 x.1).trans (ga x.1)
 refine oJ (sG hk) (T.uK hk) ⟨_,xG C P.g hk,oJ (sG hk) (T.uK hk) ⟨_,xG C P.g hk,⟨by decide,cY (ag hm (nb rfl))⟩,ad5 C T P.g hk hw rfl ho λaR G2=> ?_⟩⟩
 have hcl:=G2.cont T hk
 rw [hw] at hcl
 have j7:(Li.getD x.1 ay).cont.length≤1000:=by refine aa hcl ?_;exact ag (c8 4 hm) (nb rfl)
 exact fh [false,false,false,false,false,false,true,true] (Li.getD x.1 ay).cont (λo=> .int o.toNat) (λo=> .int ((255 - o:UInt8).toNat)) (k5 j7) (λo J ai1 kk=>kk _ _ (congrArg ab.int (ad1 o)) rfl)
  (j3 (ad0 _) (by refine aa (xf ..) (aa (uO ..) ?_);exact j7) (wZ (aa (uO ..) (k6 j7)) (Fj C T G2 (x:=((x.1,x.2.1,x.2.2,0),hO (Li.getD x.1 ay).cont)) (Fi hi (P.fw _)) ⟨⟨hk,hw⟩,aa (uO ..) hcl,hm⟩ (λJ=> .inl rfl) λnN G3=>k nN _ (P.wr G3 hm) rfl)))
end
end
structure uP(X:Cx):Prop where
 c:Ctx X
 shape:∃fd lam,pY X 455 Cp fd lam/\∀v,pZ X fd [v, .int 4, .int 8] [("ring", .int 1),("uber", .int 4),("config", .int 4)] [v, .int 4, .int 8, .int 32, .int 4, .int 4, .int 1, .int 2, .int 128, .int 4, .int 4, .int 128]
 ranges:∃fd lam,pY X 520 Cq fd lam/\∀v,pZ X fd [v] [] [v, .tuple []]
noncomputable def L0(S:Nat)(ws:List (Nat×Nat))(k:Nat):Lf:=⟨false,false,win (ci (4*S) 0) (2+(ws.getD k (0,0)).1) (ws.getD k (0,0)).2,0⟩
theorem mL{x d:α}(h:k<l.length):(l++ [x]).getD k d=l.getD k d:=by rw [ja,nk h];rfl
theorem sK{x d:α}{n:Nat}(h:l.length=n):(l++ [x]).getD n d=x:=by subst h;rw [ja,acG];rfl
theorem lJ.push{S:Nat}{σ':ar}{fs:List Ft}(G:lJ S ws ls σ fs Ls){f:Ft}{L:Lf}(h:mI S (ws.getD ls.length (0,0)).1 (ws.getD ls.length (0,0)).2 σ' a f L)
  (hn:∀x∈foot a f,σ x=none) (hk:∀x,σ x≠none->σ' x=σ x):lJ S ws (ls++ [a]) σ' (fs++ [f]) (Ls++ [L]):=by
 have old:∀k,k<ls.length->∀x∈foot (ls.getD k 0) (fs.getD k lI),σ x≠none:=λk d5=>(G.at_ k d5).uF
 have len:∀{α β:Type} {l:List α} {l':List β} {x:α} {y:β},l.length=l'.length->(l++ [x]).length=(l'++ [y]).length:=λh=>by refine aa de (aa de (aa h ?_));rfl
 refine ⟨len G.fl,len G.Ll,λk d5=> ?_,λi j hi hj dy x hx=> ?_⟩
 ·rcases AF d5 with q | q
  ·refine aa (mL q) (aa (mL (ao G.fl.symm q)) (aa (mL (ao G.Ll.symm q)) ?_));exact (G.at_ k q).keep λx hx=>hk x (old k q x hx)
  ·refine aa q (aa (sK rfl) (aa (sK G.fl) (aa (sK G.Ll) ?_)));exact h
 ·rcases AF hi with q | q<;>rcases AF hj with q2 | q2
  ·rw [mL q,mL (ao G.fl.symm q)] at hx
   refine aa (mL q2) (aa (mL (ao G.fl.symm q2)) ?_);exact G.ap i j q q2 dy x hx
  ·rw [mL q,mL (ao G.fl.symm q)] at hx
   refine aa q2 (aa (sK rfl) (aa (sK G.fl) ?_));exact λh=>old i q x hx (hn x h)
  ·rw [q,sK rfl,sK G.fl] at hx
   refine aa (mL q2) (aa (mL (ao G.fl.symm q2)) ?_);exact λh=>old j q2 x h (hn x hx)
  ·exact absurd (q.trans q2.symm) dy
section
variable{X:Cx}(C:uP X){n:Nat}{K:ab->ar->Prop}{σ:ar}
include C
theorem ad7(h:K dz σ):aB X (n+2) (.ref 458) [.int 4, .int 8] [("ring", .int 1),("uber", .int 4),("config", .int 4)] K σ :=
 let ⟨_,_,D,hb⟩:=C.shape
 aB.out (call_cls C.c.ok rfl λa ha=>DA C.c.ok (Ea C.c.ok) Ev C.c.hg D (hb (.ref a)) rfl (d9 (d9 (d9 (d9 (d9 (d9 (d9 (d9 (d9 (d9 (d9 ⟨rfl,⟨_,σ,mE ha, .inst bX ha (qi.refl _),h⟩⟩))))))))))))
theorem ad8(h:∀m r σ',σ m=none->σ r=none->m≠r->jJ σ' m r false->(∀x,x≠m->x≠r->σ' x=σ x)->K (.ref m) σ'):aB X (n+2) (.ref 641) [] [] K σ:=by
 obtain ⟨fd,lam,D,hb⟩:=C.ranges;refine call_cls C.c.ok rfl λm hm=>DA C.c.ok (Ea C.c.ok) Ev C.c.hg D (hb (.ref m)) rfl (.own lk λr hr=> ?_);obtain ⟨FG,hr⟩:=mF (σ:=σ) (a:=m) (o:= .inst 641 []) hr;exact j8 ((bC FG.symm).trans bX) ⟨[],dY,rfl,h m r _ hm hr FG.symm ⟨bX,(bC FG).trans bX⟩ λx h1 h2=>(bC h1).trans ((bC h2).trans (bC h1))⟩
theorem ad9{z:Nat}(hn:z≤1000)(h:∀d b w σ',σ d=none->σ b=none->σ w=none->d≠b->d≠w->b≠w->gb σ' d b w false 0 0 (ci (4*z) 0) []->(∀x,x≠d->x≠b->x≠w->σ' x=σ x)->K (.ref d) σ'):aB X (n+2) (.ref 436) [.n z,dz] [] K σ:=by
 refine call_cls C.c.ok rfl λd hd=>C.c.call 40 rfl rfl (d9 ⟨sD hn, ?_⟩);refine (?_:aB X n (.raw (.type "bytearray")) [.int ((z:Int)*4)] [] _ _);refine aa (Nl ..) (ZR (et _) (dU.mpr (ag (c8 4 hn) (by decide))) λb hb=> ?_);obtain ⟨A2,hb⟩:=mF (σ:=σ) (a:=d) (o:= .inst 436 _) hb;refine j8 ((bC A2.symm).trans bX) (.own lk λw hw=> ?_);obtain ⟨FH,hw⟩:=mF (σ:=(σ.set d (.inst 436 _)).set b (.di _)) (a:=d) (o:= .inst 436 _) hw;obtain ⟨xy,hw⟩:=mF (σ:=σ.set d (.inst 436 _)) (a:=b) (o:= .di _) hw;obtain ⟨_,hw⟩:=mF (σ:=σ) (a:=d) (o:= .inst 436 _) hw;refine j8 ((bC FH.symm).trans bX) (d9 (d9 (d9 ⟨rfl,h d b w _ hd hb hw A2.symm FH.symm xy.symm ⟨bX, ?_,(bC FH).trans bX⟩ λx h1 h2 h3=>(bC h1).trans ((bC h3).trans ((bC h1).trans ((bC h2).trans (bC h1))))⟩)));exact (bC A2).trans ((bC xy.symm).trans ((bC A2).trans bX))
theorem ad'{d:Addr}{g:Int}(h:∀a m r σ',σ a=none->σ m=none->σ r=none->a≠m->a≠r->m≠r->σ' a=some (.inst 739 (qC d g m))->jJ σ' m r false->(∀x,x≠a->x≠m->x≠r->σ' x=σ x)->K (.ref a) σ'):aB X (n+4) (.ref 739) [.ref d, .int g,dz] [] K σ:=by
 refine call_cls C.c.ok rfl λa ha=>C.c.call 61 rfl rfl (d9 (d9 (d9 (ad8 C λm r σ' hm hr aea R hk=> ?_))));obtain ⟨v7,hm⟩:=mF (σ:=σ) (a:=a) (o:= .inst 739 _) hm;obtain ⟨sB,hr⟩:=mF (σ:=σ) (a:=a) (o:= .inst 739 _) hr;exact j8 ((hk a v7.symm sB.symm).trans bX) ⟨rfl,h a m r _ ha hm hr v7.symm sB.symm aea bX ⟨(bC v7).trans R.m,(bC sB).trans R.r⟩ λx h1 h2 h3=>(bC h1).trans ((hk x h2 h3).trans (bC h1))⟩
theorem aeb(h:K (b9 ls p) σ):aB X (n+2) (.ref 338) [.list (ls.map .ref), .n p, .int 7,dz] [] K σ :=
 aB.out (call_cls C.c.ok rfl λa ha=>C.c.call 26 rfl rfl (d9 (d9 (d9 (d9 ⟨rfl,⟨_,σ,mE ha, .inst bX ha (qi.refl _),h⟩⟩)))))
end
section
variable {which:List Nat}
theorem A3(key:α->Nat)(g:α->Lf->Lf)(f:List Lf->α->List Lf)(hf:∀Ls x,f Ls x=Ls.set (key x) (g x (Ls.getD (key x) ay)))(zs:List α):∀(Ls:List Lf),(zs.map key).Nodup->(∀x∈zs,key x<Ls.length)->
  (zs.foldl f Ls).length=Ls.length/\(∀x∈zs,(zs.foldl f Ls).getD (key x) ay=g x (Ls.getD (key x) ay))/\∀k,k∉zs.map key->(zs.foldl f Ls).getD k ay=Ls.getD k ay:=by
 induction zs with
 | nil=>exact λJ J J=>⟨rfl,λJ h=>absurd h eZ,λJ J=>rfl⟩
 | cons x zs ih =>
  intro Ls hn hl;rw [eP,f6] at hn
  have aU:(f Ls x).length=Ls.length:=aa (hf ..) (aa kq rfl)
  have H:=ih (f Ls x) hn.2 λy hy=>by refine aa aU ?_;exact hl y (.tail _ hy)
  have h3:=H.2.2
  have hx:(f Ls x).getD (key x) ay=g x (Ls.getD (key x) ay):=aa (hf ..) (aa oV (aa (if_pos ⟨rfl,hl x (.head _)⟩) rfl))
  have ho:∀k,k≠key x->(f Ls x).getD k ay=Ls.getD k ay:=λk hk=>aa (hf ..) (aa oV (aa (if_neg (λh=>hk h.1.symm)) rfl))
  refine aa my (⟨H.1.trans aU,λy hy=> ?_,λk hk=> ?_⟩)
  ·rcases br.mp hy with rfl | hy
   ·exact aa (h3 _ hn.1) (aa hx rfl)
   ·have bz:key y≠key x:=λe=>hn.1 (ao e (nt hy))
    exact aa (H.2.1 y hy) (aa (ho _ bz) rfl)
  ·rw [eP,br,not_or] at hk
   exact aa (h3 k hk.2) (aa (ho k hk.1) rfl)
noncomputable abbrev ck(x:CP):Nat:=x.1.1
section
variable{Ls:List Lf}{zs:List CP}(hn:(zs.map ck).Nodup)(hl:∀x∈zs,ck x<Ls.length)
include hn hl
theorem A4(cD:Int):(iD cD zs Ls).length=Ls.length/\(∀x∈zs,(iD cD zs Ls).getD (ck x) ay=eS cD (Ls.getD (ck x) ay) x.2 x.1.2.2.1)/\∀k,k∉zs.map ck->(iD cD zs Ls).getD k ay=Ls.getD k ay :=
 A3 ck (λx L=>eS cD L x.2 x.1.2.2.1) (lK cD) (λJ J=>rfl) zs Ls hn hl
theorem FI(which:List Nat):(kM which zs Ls).length=Ls.length/\(∀x∈zs,(kM which zs Ls).getD (ck x) ay=if ck x∈which then eS 0 (Ls.getD (ck x) ay) x.2 x.1.2.2.1 else Ls.getD (ck x) ay)/\∀k,k∉zs.map ck->(kM which zs Ls).getD k ay=Ls.getD k ay :=
 A3 ck (λx L=>if ck x∈which then eS 0 L x.2 x.1.2.2.1 else L) (oX which) (λLs x=>by
  refine (?_:oX which Ls x=Ls.set (ck x) (if ck x∈which then eS 0 (Ls.getD (ck x) ay) x.2 x.1.2.2.1 else Ls.getD (ck x) ay))
  by_cases h:ck x∈which
  ·rewrite [oX];refine aH (if_pos h) (if_pos h) ?_;rfl
  ·rewrite [oX];refine aH (if_neg h) (if_neg h) ?_;exact set_same.symm) zs Ls hn hl
end
theorem NH{pt:List Pt}(eL:List Nat)(hn:(pt.map (λz=>z.1)).Nodup)(hl:∀x∈pt,x.1<Ls.length):(jL pt eL Ls).length=Ls.length/\(∀x∈pt,(jL pt eL Ls).getD x.1 ay=if x.1∈eL then eS 0 (Ls.getD x.1 ay) (hO (Ls.getD x.1 ay).cont) x.2.2 else Ls.getD x.1 ay)/\∀k,k∉pt.map (λz=>z.1)->(jL pt eL Ls).getD k ay=Ls.getD k ay :=
 A3 (λx:Pt=>x.1) (λx L=>if x.1∈eL then eS 0 L (hO L.cont) x.2.2 else L) (o5 eL) (λLs x=>by
  refine (?_:o5 eL Ls x=Ls.set x.1 (if x.1∈eL then eS 0 (Ls.getD x.1 ay) (hO (Ls.getD x.1 ay).cont) x.2.2 else Ls.getD x.1 ay))
  by_cases h:x.1∈eL
  ·rewrite [o5];exact aH (if_pos h) (if_pos h) rfl
  ·rewrite [o5];refine aH (if_neg h) (if_neg h) ?_;exact set_same.symm) pt Ls hn hl
theorem uQ(v:Bool)(hn:which.Nodup)(hl:∀k∈which,k<Ls.length):(gd which v Ls).length=Ls.length/\∀k,(gd which v Ls).getD k ay=if k∈which then {Ls.getD k ay with out:=v} else Ls.getD k ay:=by
 obtain ⟨h1,h2,h3⟩:=A3 (λk:Nat=>k) (λJ L=>{L with out:=v}) (AY v) (λJ J=>rfl) which Ls (by simpa using hn) hl;refine ⟨h1,λk=> ?_⟩
 split
 ·exact h2 k ‹_›
 ·exact h3 k (by simpa using ‹k∉which›)
theorem A5{v:Bool}{n:Nat}(h:dg Ls n):dg (gd which v Ls) n:=by
 unfold gd
 induction which generalizing Ls with
 | nil=>exact h
 | cons k which ih =>
  refine ih λj=> ?_;unfold AY;refine aa oV ?_
  split
  ·exact h k
  ·exact h j
theorem NI{c:Prop} [Decidable c]{A B:List Lf}{n:Nat}(h:dg A (n+10))(h':dg B n):dg (if c then A else B) (n+10):=if q:c then aa (if_pos q) h else aa (if_neg q) λk=>ag (h' k) (cb ..)
theorem FJ{P:α->Prop}{f:List Lf->α->List Lf}(st:∀{Ls:List Lf} {n:Nat} {x:α},dg Ls n->P x->dg (f Ls x) (n+10)){zs:List α}:∀{Ls:List Lf} {n:Nat},dg Ls n->(∀x∈zs,P x)->dg (zs.foldl f Ls) (n+10*zs.length):=by
 induction zs with
 | nil=>exact λh J=>h
 | cons x zs ih=>exact λ{Ls n} h hx k=>ag (ih (st h (hx x (.head _))) (λy hy=>hx y (.tail _ hy)) k) (b6 ((ka ..).trans (congrArg _ (ll ..))))
theorem aec{zs:List CP}{n:Nat}(h:dg Ls n)(hx:∀x∈zs,x.1.2.2.1≤10):dg (kM which zs Ls) (n+10*zs.length) :=
 FJ (f:=oX which) (λ{Ls n x} h q=>NI (AU h q) h) h hx
theorem ai2{cD:Int}{zs:List CP}{n:Nat}(h:dg Ls n)(hx:∀x∈zs,x.1.2.2.1≤10):dg (iD cD zs Ls) (n+10*zs.length) :=
 FJ (f:=lK cD) (λh q=>AU h q) h hx
theorem aed{eL:List Nat}{pt:List Pt}{n:Nat}(h:dg Ls n)(hx:∀x∈pt,x.2.2≤10):dg (jL pt eL Ls) (n+10*pt.length) :=
 FJ (f:=o5 eL) (λ{Ls n x} h q=>NI (AU (cD:=0) (x:=((x.1,x.2.1,x.2.2,0),hO (Ls.getD x.1 ay).cont)) h q) h) h hx
structure c6(S:Nat)(ws:List (Nat×Nat))(ls:List Addr)(p s size:Nat)(af:List bK)(ak:List UInt8):Prop where
 B:nI S ws ls p s size af
 tl:ak.length=size
 ln:(aG ak af p).length=af.length
 cp:Fh ws ls (aC af (aG ak af p))
 nd:(af.map (λz=>z.1)).Nodup
 pos:∀c∈af,1≤c.2.2.1
 acc:∀(Ls:List Lf) (bad:List Nat),(∀c∈af,(Ls.getD c.1 ay).cont.length=4*c.2.2.1)->bad.length≤p->(∀x∈aC af (aG ak af p),ck x∉bad->(Ls.getD (ck x) ay).out=false/\(Ls.getD (ck x) ay).cont=x.2)->Acc af p size ak (bx Ls af)
 plain:∀Ls:List Lf,(∀x∈(aC af (aG ak af p)).drop p,(Ls.getD (ck x) ay).out=false/\(Ls.getD (ck x) ay).cont=x.2)->nK size ak (bx Ls (af.drop p))
 aee:∀Ls:List Lf,(∀x∈(aC af (aG ak af p)).drop p,(Ls.getD (ck x) ay).cont=x.2∨(Ls.getD (ck x) ay).cont=hO x.2)->(∃x∈(aC af (aG ak af p)).drop p,(Ls.getD (ck x) ay).cont=hO x.2)->¬ nK size ak (bx Ls (af.drop p))
end
section
variable {hm ou:List Nat}
theorem FK(l:List Nat):(bB l).Perm l:=by
 have h:=(se (l.map λ(x:Nat)=>(x:Int))).map Np
 rw [dj] at h
 exact h.trans (by rw [show (Np ∘ λ(x:Nat)=>(x:Int))=id from rfl,Ly])
theorem NJ{l l':List Nat}(h:l.Perm l'):bB l=bB l':=by
 unfold bB;exact congrArg _ (LL ((se _).trans ((h.map _).trans (se _).symm)) (z7 _) (z7 _))
theorem NK(l:List Nat):bB (bB l)=bB l:=NJ (FK l)
theorem aef{l l':List Nat}(h:l.Nodup)(h':l'.Nodup)(e:∀a,a∈l↔a∈l'):bB l=bB l':=NJ ((FL h h').mpr e)
theorem o7{l:List Nat}{a:Nat}:a∈bB l↔a∈l:=(FK l).mem_iff
theorem A6{l:List Nat}(h:l.Nodup):(bB l).Nodup:=(FK l).nodup_iff.mpr h
def fO(Ls:List Lf)(zs:List CP)(hm ou:List Nat):Prop:=∀x∈zs,(Ls.getD (ck x) ay).out=decide (ck x∈ou)/\(Ls.getD (ck x) ay).cont=if ck x∈hm then hO x.2 else x.2
theorem aeg(h:b≠ []):hO b≠b:=by
 cases b with
 | nil=>exact absurd rfl h
 | cons x b =>
  intro e;unfold hO at e
  rw [eP] at e
  injection e with e1 _
  have:∀x:Fin 256,(255 - kH x.1)≠kH x.1:=by decide +kernel
  have h2:=this ⟨x.toNat,qo x⟩
  simp only [aeh] at h2
  exact h2 e1
noncomputable def xR(Ls:List Lf)(x:CP):Option Nat:=if (Ls.getD (ck x) ay).out=false/\(Ls.getD (ck x) ay).cont≠x.2 then some (ck x) else none
theorem aei{c:bK}{q:List UInt8}:uM (c,dZ (Ls.getD c.1 ay),q)=xR Ls (c,q):=by
 unfold uM xR dZ ck;dsimp only;rcases (Ls.getD c.1 ay).out with _ | _
 ·by_cases h:(Ls.getD c.1 ay).cont=q<;>simp [h]
 ·rfl
theorem FM(Ls:List Lf)(af:List bK):∀aW:List (List UInt8),mJ af (bx Ls af) aW=(aC af aW).filterMap (xR Ls):=by
 induction af with
 | nil=>exact λJ=>rfl
 | cons c af ih =>
  intro aW;rcases aW with _ | ⟨q,aW⟩
  ·rfl
  have ih:=ih aW
  unfold mJ at ih ⊢
  rw [show bx Ls (c::af)=dZ (Ls.getD c.1 ay)::bx Ls af from rfl,tY,tY,tY,lC,lC,ih,aei]
theorem uR{zs:List CP}{f:CP->Prop} [DecidablePred f]{a:Nat}:a∈zs.filterMap (λx=>if f x then some (ck x) else none)↔∃x∈zs,f x/\ck x=a:=by
 rw [oM]
 constructor
 ·rintro ⟨x,hx,e⟩
  split at e
  ·cases e;exact ⟨x,hx,‹_›,rfl⟩
  ·cases e
 ·rintro ⟨x,hx,h,rfl⟩
  exact ⟨x,hx,if_pos h⟩
theorem xS{zs:List CP}{f:CP->Prop} [DecidablePred f](h:(zs.map ck).Nodup):(zs.filterMap (λx=>if f x then some (ck x) else none)).Nodup:=by
 induction zs with
 | nil=>exact Ap
 | cons x zs ih =>
  rw [eP,f6] at h
  by_cases q:f x
  ·refine aa lC ?_;simp only [if_pos q];rw [f6];refine ⟨λhm=> ?_,ih h.2⟩;obtain ⟨y,hy,_,e⟩:=uR.mp hm;exact h.1 (ao e (nt hy))
  ·refine aa lC ?_;simp only [if_neg q];exact ih h.2
theorem aej{n:Nat}{g:List Nat}(h:p<g.length):kN n g p= []:=by
 unfold kN jF;refine aa (if_neg (Dt.mpr h)) ?_;rfl
theorem aek(Ls:List Lf)(af:List bK):(g8 (bx Ls af)).length=(af.filter λc=>(Ls.getD c.1 ay).out).length:=by
 unfold g8 bx
 suffices ∀i,(((af.map λc=>dZ (Ls.getD c.1 ay)).zipIdx i).filterMap λx=>if x.1.isSome then none else some x.2).length=(af.filter λc=>(Ls.getD c.1 ay).out).length from this 0
 induction af with
 | nil=>intro i;rfl
 | cons c af ih =>
  intro i;refine aa eP (aa Ed (aa lC (aa List.filter_cons ?_)));cases q:(Ls.getD c.1 ay).out with
  | true =>
   have e:dZ (Ls.getD c.1 ay)=none:=by unfold dZ;refine aa q ?_;rfl
   exact aa e (congrArg (λz=>z +1) (ih (i+1)))
  | false =>
   have e:dZ (Ls.getD c.1 ay)=some (Ls.getD c.1 ay).cont:=by unfold dZ;refine aa q ?_;rfl
   exact aa e (ih (i+1))
theorem A7{l:List Nat}:∀{l':List Nat},l.Nodup->(∀a∈l,a∈l')->l.length≤l'.length:=by
 induction l with
 | nil=>exact λJ J=>da _
 | cons a l ih =>
  intro l' h hs
  have h:=f6.mp h
  have ha:=hs a (.head _)
  have i:=ih (l':=l'.erase a) h.2 λb hb=>(List.mem_erase_of_ne (λe:b=a=>h.1 (ao e hb))).mpr (hs b (.tail _ hb))
  rw [List.length_erase_of_mem ha] at i
  exact ag (fT i) (b6 (Uk (List.length_pos_of_mem ha)))
section
variable{S:Nat}{ws:List (Nat×Nat)}{ls:List Addr}{p s size:Nat}{af:List bK}{ak:List UInt8}(O:c6 S ws ls p s size af ak)
include O
theorem c6.keys:(aC af (aG ak af p)).map ck=af.map (λz=>z.1):=by
 have h:=O.ln
 generalize aG ak af p=aW at h ⊢
 clear O
 induction af generalizing aW with
 | nil=>rfl
 | cons c af ih=>cases aW with
  | nil=>simp at h
  | cons q aW=>exact congrArg (ut _) (ih aW (by simpa using h))
theorem c6.lL:((aC af (aG ak af p)).map ck).Nodup:=aa O.keys O.nd
theorem c6.lM{x:CP}(hx:x∈aC af (aG ak af p)):ck x<ls.length/\x.2≠ []/\x.2.length=4*x.1.2.2.1/\x.1.2.2.1≤10/\ws.getD (ck x) (0,0)=(x.1.2.1,x.1.2.2.1):=by
 obtain ⟨h1,h2,h3⟩:=O.cp x hx
 have:=O.pos x.1 (iB hx).1
 exact ⟨h1.1,λe=>fK (NL (nb rfl) this) (h2.symm.trans (congrArg rX e)),h2,h3,h1.2⟩
theorem c6.col{c:bK}(hc:c∈af):∃x∈aC af (aG ak af p),x.1=c:=by
 obtain ⟨i,hi⟩:=qf.mp hc
 have iZ:=(du.mp hi).1
 have hq:(aG ak af p)[i]? =some _:=bI (aa O.ln iZ)
 exact ⟨(c,_),cw (sL.mpr ⟨hi,hq⟩),rfl⟩
theorem c6.NM(D:fO Ls (aC af (aG ak af p)) hm ou)(hn:hm.Nodup)(hs:∀a∈hm,a∈af.map (λz=>z.1))(hd:∀a∈hm,a∉ou):bB (mJ af (bx Ls af) (aG ak af p))=bB hm:=by
 refine aa (FM ..) (aef (xS O.lL) hn λa=> ?_);refine aa (show (aC af (aG ak af p)).filterMap (xR Ls)=(aC af (aG ak af p)).filterMap λx=>if (Ls.getD (ck x) ay).out=false/\(Ls.getD (ck x) ay).cont≠x.2 then some (ck x) else none from rfl) ?_;rewrite [uR]
 constructor
 ·rintro ⟨x,hx,⟨h1,h2⟩,rfl⟩
  by_cases q:ck x∈hm
  ·exact q
  ·rw [(D x hx).2,if_neg q] at h2;exact absurd rfl h2
 ·intro ha;obtain ⟨c,hc,rfl⟩:=bJ.mp (hs a ha);obtain ⟨x,hx,rfl⟩:=O.col hc;refine ⟨x,hx,⟨?_, ?_⟩,rfl⟩
  ·exact aa ((D x hx).1) (df (hd _ ha))
  ·refine aa ((D x hx).2) (aa (if_pos ha) ?_);exact aeg (O.lM hx).2.1
theorem c6.yes(D:fO Ls (aC af (aG ak af p)) hm ou)(h:hm.length+ou.length≤p):Acc af p size ak (bx Ls af):=by
 refine O.acc Ls (hm++ou) (λc hc=> ?_) (aa de h) λx hx hb=> ?_
 ·obtain ⟨x,hx,rfl⟩:=O.col hc
  have:=(O.lM hx).2.2.1
  refine (?_:(Ls.getD (ck x) ay).cont.length=_);refine aa ((D x hx).2) ?_
  split
  ·exact aa (uO ..) this
  ·exact this
 ·rw [ji,not_or] at hb
  refine aH ((D x hx).1) ((D x hx).2) (aa (if_neg hb.1) ?_);exact ⟨df hb.2,rfl⟩
theorem c6.no(D:fO Ls (aC af (aG ak af p)) hm ou)(hn:ou.Nodup)(hs:∀a∈ou,a∈af.map (λz=>z.1))(h:p<ou.length):¬ Acc af p size ak (bx Ls af):=by
 rintro ⟨au,hl,_⟩
 have c9:ou.length≤(g8 (bx Ls af)).length:=by
  refine aa (aek ..) (ao (aE (f:=λc:bK=>c.1)) ?_);refine A7 hn λa ha=> ?_;obtain ⟨c,hc,rfl⟩:=bJ.mp (hs a ha);obtain ⟨x,hx,rfl⟩:=O.col hc;refine bJ.mpr ⟨x.1,BJ.mpr ⟨hc, ?_⟩,rfl⟩
  have:=(D x hx).1
  rw [dt ha] at this
  exact this
 rw [aej (eB h c9)] at hl
 cases hl
end
end
def xT(pt:List Pt)(x:Int)(p k:Nat)(q:List Nat×List Nat):Prop:=(q.1++q.2).Nodup/\(∀a∈q.1++q.2,a∈pt.map (λz=>z.1))/\q.1.length+q.2.length≤k/\((p:Int)<x.fmod (p+2)->q.1= [])
theorem xT.push{pt:List Pt}{x:Int}{c:Nat}{q q':List Nat×List Nat}(h:xT pt x p k q)(hn:c∉q.1++q.2)(hc:c∈pt.map (λz=>z.1))(P:(q'.1++q'.2).Perm (c::(q.1++q.2)))(e:(p:Int)<x.fmod (p+2)->q'.1= []):xT pt x p (k+1) q' :=
 ⟨P.nodup_iff.mpr (f6.mpr ⟨hn,h.1⟩),λa ha=>(br.mp (P.mem_iff.mp ha)).elim (λe=>e▸hc) (h.2.1 a),de▸P.length_eq▸fT (de▸h.2.2.1),e⟩
theorem mod_lt{x:Int}{n:Nat}(h:0<n):(x.fmod n).toNat<n:=by
 have h':=ir.mpr h
 exact aa (tC _ (on h')) ((Kh (FA _ (FC h'))).mpr (FD _ h'))
theorem ael{pt:List Pt}{x:Int}(fk:0<pt.length)(k:Nat):xT pt x p k ((aK k).foldl (kO pt x p most) ([],[])):=by
 induction k with
 | zero=>exact ⟨Ap,λJ h=>absurd h eZ,cg _,λJ=>rfl⟩
 | succ k ih =>
  refine aa Ag (aa rU ?_);refine (?_:xT pt x p (k+1) (kO pt x p most _ k));generalize (aK k).foldl (kO pt x p most) ([],[])=q at ih
  have hj:=mod_lt (x:=(x.fdiv 7).fdiv (5^k)) fk
  unfold kO;dsimp only;generalize (((x.fdiv 7).fdiv (5^k)).fmod pt.length).toNat=j at hj
  have hc:(pt.getD j (0,0,0)).1∈pt.map (λz=>z.1):=by refine aa (cZ hj) ?_;exact nt (mA hj)
  generalize (pt.getD j (0,0,0)).1=c at hc
  by_cases hn:c∈q.1++q.2
  ·exact aa (if_pos hn) (⟨ih.1,ih.2.1,mr ih.2.2.1,ih.2.2.2⟩)
  refine aa (if_neg hn) ?_
  split
  ·next hq=>exact ih.push hn hc (lj .. ▸List.perm_middle) λh=>absurd h (jV.mpr hq.2.2)
  ·exact ih.push hn hc ((lj ..).symm▸acH ..) ih.2.2.2
noncomputable abbrev bT(c:bK):Pt:=(c.1,c.2.1,c.2.2.1)
theorem NN:∀l:List Nat,jm gn (l.map .n) (l.map .n)=some true:=by
 intro l
 induction l with
 | nil=>rfl
 | cons x l ih =>
  refine (?_:((gn (.n x) (.n x)).bind λa=>(jm gn (l.map .n) (l.map .n)).map λb=>a&&b)=_);refine aa ih (?_:some (decide ((x:Int)=x)&&true)=_)
  simp
theorem NO{f g:ab->ab->Option Bool}:∀{vs ws:List ab},(∀v∈vs,∀w,f v w=g v w)->jm f vs ws=jm g vs ws:=by
 intro vs
 induction vs with
 | nil=>exact λ{ws} J=>by cases ws<;>rfl
 | cons v vs ih =>
  intro ws h;rcases ws with _ | ⟨w,ws⟩
  ·rfl
  refine (?_:((f v w).bind λa=>(jm f vs ws).map λb=>a&&b)=((g v w).bind λa=>(jm g vs ws).map λb=>a&&b));rewrite [h v (.head _)];exact aa (ih λx hx=>h x (.tail _ hx)) rfl
theorem NP{a:List UInt8}{l:List Nat}:vx (.tuple [.bytes a,aJ l]) (.tuple [.bytes a,aJ l])=some true:=by
 have e:kh 2 (aJ l) (aJ l)=some true:=by
  refine (?_:(if (l.map ab.n).length=(l.map ab.n).length then jm (kh 1) (l.map .n) (l.map .n) else some false)=_);refine aa (if_pos rfl) (aa (NO (g:=gn) λv hv w=>by obtain ⟨x,_,rfl⟩:=bJ.mp hv;rfl) ?_);exact NN l
 refine (?_:((kh 2 (.bytes a) (.bytes a)).bind λa=>(((kh 2 (aJ l) (aJ l)).bind λa=>(some true).map λb=>a&&b)).map λb=>a&&b)=_);refine aa e (?_:some (decide (a=a)&&(true&&true))=_)
 simp
theorem NQ{a:List UInt8}{l:List Nat}{k:Bool->Prop}(h:k false):bE (n7 σ .NotEq (.tuple [.bytes a,aJ l]) (.tuple [.bytes a,aJ l])) k:=bE.i (show (vx (.tuple [.bytes a,aJ l]) (.tuple [.bytes a,aJ l])).map (λz=>!z)=some false by refine aa NP ?_;rfl) h
theorem ai3{a:List UInt8}{l:List Nat}{k:Bool->Prop}(h:k true):bE (n7 σ .Eq (.tuple [.bytes a,aJ l]) (.tuple [.bytes a,aJ l])) k:=bE.i (show vx _ _=some true from NP) h
section
variable{X:Cx}(C:Ctx X){n:Nat}{K:ab->ar->Prop}{σ:ar}{S:Nat}{ws:List (Nat×Nat)}{ls:List Addr}{Ls:List Lf}{p s size:Nat}{af:List bK}{ak:List UInt8}{hm ou:List Nat}
include C
theorem c6.check(O:c6 S ws ls p s size af ak)(G:bt S ws ls σ Ls)(D:fO Ls (aC af (aG ak af p)) hm ou)(hn:hm.Nodup)(hs:∀a∈hm,a∈af.map (λz=>z.1))(hd:∀a∈hm,a∉ou)(c9:hm.length+ou.length≤p)
  (h:∀σ',bt S ws ls σ' Ls->K (.tuple [.bytes ak,aJ (bB hm)]) σ'):aB X (n+9) (.ref 302) [b9 ls p, .n s, .n size, .lam ak] [] K σ :=
 Fo C O.B (ao O.tl.symm O.B.sz) G λσ' G'=>⟨λJ=>by refine aa (O.NM D hn hs hd) ?_;exact h σ' G',λFN=>absurd (O.yes D c9) FN⟩
end
def Flags(Ls:List Lf)(U:List Nat):Prop:=∀k,(Ls.getD k ay).out=decide (k∈U)/\(Ls.getD k ay).c4=false
theorem uS(L:Lf)(part:List UInt8)(m:Nat):(eS 0 L part m).out=L.out/\(eS 0 L part m).c4=L.c4:=by
 unfold eS
 split
 ·exact ⟨rfl,by show (L.c4 || decide ((0:Int)=9))=_;exact aa (df (by decide)) (aa (adi ..) rfl)⟩
 ·exact ⟨rfl,rfl⟩
theorem NR(Ls:List Lf)(which:List Nat)(zs:List CP):oY Ls which zs=(zs.filterMap λx=>if ck x∈which/\(Ls.getD (ck x) ay).out=false then some (ck x) else none).length:=by
 unfold oY
 suffices ∀n,zs.foldl (λn x=>if x.1.1∈which/\(Ls.getD x.1.1 ay).out=false then n+1 else n) n=n+(zs.filterMap λx=>if ck x∈which/\(Ls.getD (ck x) ay).out=false then some (ck x) else none).length by simpa using this 0
 induction zs with
 | nil=>intro n;rfl
 | cons x zs ih =>
  intro n;refine aH my lC (aa (ih ..) ?_)
  by_cases q:ck x∈which/\(Ls.getD (ck x) ay).out=false
  ·simp only [if_pos q,n0];exact qM ..
  ·simp only [if_neg q]
section
variable{S:Nat}{ws:List (Nat×Nat)}{ls:List Addr}{Ls:List Lf}{p s size:Nat}{af:List bK}{ak:List UInt8}{H U:List Nat}(O:c6 S ws ls p s size af ak)
include O
theorem c6.aem(D:fO Ls (aC af (aG ak af p)) H U)(hn:H.Nodup)(hs:∀a∈H,a∈af.map (λz=>z.1))(hd:∀a∈H,a∉U):oY Ls H (aC af (aG ak af p))=H.length:=by
 refine aa (NR ..) (((FL (xS O.lL) hn).mpr λa=> ?_).length_eq);rw [uR]
 constructor
 ·rintro ⟨x,_,h,rfl⟩;exact h.1
 ·intro ha;obtain ⟨c,hc,rfl⟩:=bJ.mp (hs a ha);obtain ⟨x,hx,rfl⟩:=O.col hc;exact ⟨x,hx,⟨ha,aa ((D x hx).1) (df (hd _ ha))⟩,rfl⟩
theorem c6.aen(dK:Ls.length=ls.length)(D:fO Ls (aC af (aG ak af p)) H U)(hd:∀a∈H,a∉U):fO (kM H (aC af (aG ak af p)) Ls) (aC af (aG ak af p)) [] U:=λx hx=>by
 obtain ⟨_,h2,_⟩:=FI O.lL (λx hx=>aa dK ((O.lM hx).1)) H
 have e0:(if ck x∈([]:List Nat) then hO x.2 else x.2)=x.2:=if_neg (by simp)
 refine aH (h2 x hx) e0 ?_
 by_cases q:ck x∈H
 ·refine aa (if_pos q) (⟨(uS _ _ _).1.trans (D x hx).1, ?_⟩);unfold eS;exact congrArg _ (if_neg (by rw [(D x hx).1,df (hd _ q)];decide))
 ·exact aa (if_neg q) (⟨(D x hx).1,aa ((D x hx).2) (aa (if_neg q) rfl)⟩)
theorem c6.aeo(dK:Ls.length=ls.length)(F:Flags Ls U)(which:List Nat):Flags (kM which (aC af (aG ak af p)) Ls) U:=λk=>by
 obtain ⟨_,h2,h3⟩:=FI O.lL (λx hx=>aa dK ((O.lM hx).1)) which
 by_cases q:k∈(aC af (aG ak af p)).map ck
 ·obtain ⟨x,hx,rfl⟩:=bJ.mp q;refine aa (h2 x hx) ?_
  split
  ·exact aH ((uS _ _ _).1) ((uS _ _ _).2) (F _)
  ·exact F _
 ·exact aa (h3 k q) (F k)
theorem c6.aep(dK:Ls.length=ls.length)(D:fO Ls (aC af (aG ak af p)) [] []):fO (jL (af.map bT) H Ls) (aC af (aG ak af p)) H []:=λx hx=>by
 have d6:((af.map bT).map (λz=>z.1)).Nodup:=aa dj O.nd
 obtain ⟨_,h2,_⟩:=NH H (Ls:=Ls) d6 λy hy=>by
  obtain ⟨c,hc,rfl⟩:=bJ.mp hy;exact aa dK ((O.B.jK c hc).1)
 have h:=h2 (bT x.1) (nt (iB hx).1)
 refine (?_:((jL (af.map bT) H Ls).getD (bT x.1).1 ay).out=_/\((jL (af.map bT) H Ls).getD (bT x.1).1 ay).cont=_);refine aa h ?_;obtain ⟨d1,d2⟩:=D x hx;rw [if_neg (by simp)] at d2
 by_cases q:ck x∈H
 ·refine aH (if_pos q) (if_pos q) (⟨(uS _ _ _).1.trans d1, ?_⟩);unfold eS;refine aa (if_neg (by show ¬ (Ls.getD (ck x) ay).out=true;rw [d1];simp)) (?_:hO (Ls.getD (ck x) ay).cont=_);exact congrArg _ d2
 ·exact aH (if_neg q) (if_neg q) (⟨d1,d2⟩)
theorem c6.aeq(dK:Ls.length=ls.length)(F:Flags Ls []):Flags (jL (af.map bT) H Ls) []:=λk=>by
 have d6:((af.map bT).map (λz=>z.1)).Nodup:=aa dj O.nd
 obtain ⟨_,h2,h3⟩:=NH H (Ls:=Ls) d6 λy hy=>by
  obtain ⟨c,hc,rfl⟩:=bJ.mp hy;exact aa dK ((O.B.jK c hc).1)
 by_cases q:k∈(af.map bT).map (λz=>z.1)
 ·obtain ⟨y,hy,rfl⟩:=bJ.mp q;refine aa (h2 y hy) ?_
  split
  ·exact aH ((uS _ _ _).1) ((uS _ _ _).2) (F _)
  ·exact F _
 ·exact aa (h3 k q) (F k)
omit O in
theorem aer{zs:List CP}(hn:U.Nodup)(hl:∀k∈U,k<Ls.length)(D:fO Ls zs H []):fO (gd U true Ls) zs H U:=λx hx=>by
 refine aa ((uQ true hn hl).2 ..) ?_;obtain ⟨d1,d2⟩:=D x hx
 split
 ·rename_i q;exact ⟨(dt q).symm,d2⟩
 ·rename_i q;refine aa (df q) ?_;exact ⟨d1.trans (df (by simp)),d2⟩
omit O in
theorem NS{zs:List CP}(hn:U.Nodup)(hl:∀k∈U,k<Ls.length)(D:fO Ls zs H U):fO (gd U false Ls) zs H []:=λx hx=>by
 refine aa ((uQ false hn hl).2 ..) ?_;obtain ⟨d1,d2⟩:=D x hx
 split
 ·exact ⟨(df (by simp)).symm,d2⟩
 ·rename_i q;rw [df q] at d1;exact ⟨d1.trans (df (by simp)).symm,d2⟩
omit O in
theorem NT(hn:U.Nodup)(hl:∀k∈U,k<Ls.length)(F:Flags Ls []):Flags (gd U true Ls) U:=λk=>by
 refine aa ((uQ true hn hl).2 ..) ?_
 split
 ·rename_i q;exact ⟨(dt q).symm,(F k).2⟩
 ·rename_i q;refine aa (df q) ?_;exact ⟨(F k).1.trans (df (by simp)),(F k).2⟩
omit O in
theorem NU(hn:U.Nodup)(hl:∀k∈U,k<Ls.length)(F:Flags Ls U):Flags (gd U false Ls) []:=λk=>by
 refine aa ((uQ false hn hl).2 ..) ?_
 split
 ·exact ⟨(df (by simp)).symm,(F k).2⟩
 ·rename_i q;have:=(F k).1;rw [df q] at this;exact ⟨this.trans (df (by simp)).symm,(F k).2⟩
theorem c6.FO(D:fO Ls (aC af (aG ak af p)) H U):nK size ak (bx Ls (af.drop p))↔(((af.map bT).drop p).map λx=>decide (x.1∉H++U)).all id=true:=by
 have hz:(aC af (aG ak af p)).drop p=aC (af.drop p) ((aG ak af p).drop p):=by rewrite [aC];exact aa aes rfl
 have mO:(((af.map bT).drop p).map λx=>decide (x.1∉H++U)).all id=true↔∀c∈af.drop p,c.1∉H++U:=by
  refine ao ack (aa dj (aa Hu ?_));rewrite [fE];exact ⟨λh c hc=>by simpa using h c hc,λh c hc=>by simpa using h c hc⟩
 have aet:∀c∈af.drop p,∃x∈(aC af (aG ak af p)).drop p,x.1=c:=λc hc=>by
  obtain ⟨i,hi⟩:=qf.mp hc
  have iZ:=(du.mp hi).1
  have hq:((aG ak af p).drop p)[i]? =some _:=bI (by rw [f9] at iZ ⊢;refine aa O.ln ?_;exact iZ)
  exact aa hz (⟨(c,_),cw (sL.mpr ⟨hi,hq⟩),rfl⟩)
 have NV:∀x∈(aC af (aG ak af p)).drop p,x.1∈af.drop p:=λx hx=>by rw [hz] at hx;exact (iB hx).1
 rw [mO]
 constructor
 ·intro hp c hc;rw [ji,not_or];obtain ⟨x,hx,rfl⟩:=aet c hc
  have hu:∀y∈(aC af (aG ak af p)).drop p,ck y∉U:=λy hy hu=>by
   have:=hp.1
   rw [DW] at this
   refine this (dZ (Ls.getD (ck y) ay)) (bJ.mpr ⟨y.1,NV y hy,rfl⟩) ?_;unfold dZ;refine aa ((D y (nV hy)).1) (aa (dt hu) ?_);rfl
  refine ⟨λhh=> ?_,hu x hx⟩;refine O.aee Ls (λy hy=> ?_) ⟨x,hx, ?_⟩ hp
  ·refine aa ((D y (nV hy)).2) ?_
   split
   ·exact .inr rfl
   ·exact .inl rfl
  ·exact aa ((D x (nV hx)).2) (aa (if_pos hh) rfl)
 ·intro h;refine O.plain Ls λx hx=> ?_
  have:=h x.1 (NV x hx)
  rw [ji,not_or] at this
  refine aa ((D x (nV hx)).1) (aa ((D x (nV hx)).2) (aa (if_neg this.1) ?_));exact ⟨df this.2,rfl⟩
end
structure uT(af:List bK)(p:Nat)(H U:List Nat):Prop where
 nH:H.Nodup
 nU:U.Nodup
 sH:bB H=H
 d:∀a∈H,a∉U
 cH:∀a∈H,a∈af.map (λz=>z.1)
 cU:∀a∈U,a∈af.map (λz=>z.1)
 le:H.length+U.length≤p∨(H= []/\p<U.length)
 lH:H.length≤9
 lU:U.length≤9
theorem NW{x:Int}(xW:0<af.length)(dD:p≤3):uT af p (bB (AX (af.map bT) x p most).1) (bB (AX (af.map bT) x p most).2):=by
 have lf:=ael (pt:=af.map bT) (x:=x) (p:=p) (most:=most) (aa (aE ..) xW) (x.fmod (p+2)).toNat
 refine (?_:uT af p (bB ((aK (x.fmod (p+2)).toNat).foldl (kO (af.map bT) x p most) ([],[])).1) (bB ((aK (x.fmod (p+2)).toNat).foldl (kO (af.map bT) x p most) ([],[])).2));generalize (aK (x.fmod (p+2)).toNat).foldl (kO (af.map bT) x p most) ([],[])=q at lf
 have l1:=Mv.mp lf.1
 have l3:=lf.2.2.1
 have xK:∀a∈q.1++q.2,a∈af.map (λz=>z.1):=λa ha=>by have:=lf.2.1 a ha;rw [dj] at this;exact this
 have h9:q.1.length+q.2.length≤9:=ag l3 (ag (NC dD) (nb rfl))
 refine ⟨A6 l1.1,A6 l1.2.1,NK q.1,λa ha hb=>l1.2.2 a (o7.mp ha) a (o7.mp hb) rfl,λa ha=>xK a (ji.mpr (.inl (o7.mp ha))),λa ha=>xK a (ji.mpr (.inr (o7.mp ha))), ?_,xI q.1▸ag (cb ..) h9,xI q.2▸ag (lr ..) h9⟩;refine aH (xI ..) (xI ..) ?_
 by_cases z:q.1.length+q.2.length≤p
 ·exact .inl z
 ·have e:=lf.2.2.2 (Int.lt_toNat.mp (eB (EY z) l3))
  rw [e] at z ⊢
  exact .inr ⟨rfl,EY λh=>z (ao ((nc _).symm) h)⟩
section
variable{X:Cx}(C:Ctx X){n:Nat}{K:ab->ar->Prop}{σ:ar}{S:Nat}{ws:List (Nat×Nat)}{ls:List Addr}{Ls:List Lf}{p s size:Nat}{af:List bK}{ak:List UInt8}{H U:List Nat}
include C
omit C in
theorem FP(a:List UInt8):(!(decide (a=a)&&(true&&true)))=false:=aa (decide_eq_true rfl) rfl
omit C in
theorem A8(a:List UInt8):(decide (a=a)&&(true&&true))=true:=aa (decide_eq_true rfl) rfl
omit C in
theorem kb{K:ab->ar->Prop}{a b:Bool}(e:a=b)(h:K (.bool b) σ):K (.bool a) σ:=e▸h
theorem c6.aeu(O:c6 S ws ls p s size af ak)(G:bt S ws ls σ Ls)(D:fO Ls (aC af (aG ak af p)) H U)(L:uT af p H U)(c9:H.length+U.length≤p)(h:∀σ',bt S ws ls σ' Ls->K (.tuple [.bytes ak,aJ H]) σ') :
  aB X (n+9) (.ref 302) [b9 ls p, .n s, .n size, .lam ak] [] K σ:=O.check C G D L.nH L.cH L.d c9 λσ' G'=>aa L.sH (h σ' G')
theorem c6.A9(O:c6 S ws ls p s size af ak)(G:bt S ws ls σ Ls)(D:fO Ls (aC af (aG ak af p)) [] U)(c9:U.length≤p)(h:∀σ',bt S ws ls σ' Ls->K (.tuple [.bytes ak, .list []]) σ') :
  aB X (n+9) (.ref 302) [b9 ls p, .n s, .n size, .lam ak] [] K σ:=O.check C G D Ap (λJ=>nofun) (λJ=>nofun) (by refine aa List.length_nil (aa (nc ..) ?_);exact c9) h
theorem aev(O:c6 S ws ls p s size af ak)(G:bt S ws ls σ Ls)(hf:dg Ls 200)(L:uT af p H U)(c9:H.length+U.length≤p)(D:fO Ls (aC af (aG ak af p)) H U)(F:Flags Ls U){x:Int}{b:Bool}(hb:nK size ak (bx Ls (af.drop p))↔b=true)
  (h:∀σ' dN,bt S ws ls σ' dN->dg dN 300->Flags dN []->K (.bool true) σ'):dA X (n+9) (Cr.body.drop 6) (i6 K)
   {m:= [some (b9 ls p),some (eC (af.map bT)),some (.n s),some (.bytes ak),some (.int x),some (.n p),some (.n size),some (aJ H),some (aJ U),some (.tuple [.bytes ak,aJ H]),some (.bool b),none],fz:= [],σ:=σ}:=by
 have gv:ak.length≤1000:=O.tl.symm▸O.B.sz
 have dK:Ls.length=ls.length:=G.len
 have jM:∀a∈U,a<ls.length:=λa ha=>by obtain ⟨c,hc,rfl⟩:=bJ.mp (L.cU a ha);exact (O.B.jK c hc).1
 let S':ar->St:=λσ=>{m:= [some (b9 ls p),some (eC (af.map bT)),some (.n s),some (.bytes ak),some (.int x),some (.n p),some (.n size),some (aJ H),some (aJ U),some (.tuple [.bytes ak,aJ H]),some (.bool b),none],fz:= [3],σ:=σ}
 refine join S' (λσ'=>bt S ws ls σ' Ls) (λK' k J=>gm C ⟨kP,Fp C O.B gv G λnN G3=>⟨λhP=> ?_,λhP=>⟨λJ=> ?_,λhA=>absurd (O.yes D c9) hA⟩⟩⟩) λnN G3=> ?_
 ·cases hb.mp hP;exact .fz lk (bj.f (FP ak) (k nN _ G3 rfl))
 ·cases b with
  | true=>exact absurd (hb.mpr rfl) hP
  | false=>refine aa (O.NM D L.nH L.cH L.d) (aa L.sH ?_);exact NQ (k nN _ G3 rfl)
 refine gm C ⟨kP,O.aeu C G3 D L c9 λNX G4=>NQ (gm C (No C O.B.T G4 (λk=>ag (hf k) (nb rfl)) gv O.B.h1 O.B.h3 O.B.h2 (aa O.tl O.B.ec) O.B.uN O.B.kr O.cp (which:=H) λaew G5 =>
  cx (k:=H.length) (congrArg some (aE _)) (ag L.lH (nb rfl)) (xb (b:=H.length) (λJ=> ?_) λq=>absurd (O.aem D L.nH L.cH L.d) q)))⟩
 have D5:=O.aen dK D L.d
 have F5:=O.aeo dK F H
 have f5:dg (kM H (aC af (aG ak af p)) Ls) 300:=λk=>ag (aec hf (λy hy=>(O.lM hy).2.2.2.1) k) (by have:=nA (b:=aG ak af p) O.B.hcl;exact ag (lP (c8 10 this) _) (nb rfl))
 generalize kM H (aC af (aG ak af p)) Ls=Ls5 at *
 have aex:Ls5.length=ls.length:=G5.len
 have xX:∀k∈U,k<Ls5.length:=λk hk=>aex▸jM k hk
 exact gm C ⟨kP,O.A9 C G5 D5 (ag (lr ..) c9) λaey G6=> .fz lk (xP C O.B.T G6 (v:=false) jM λNY G7=>bj.t (A8 ak) (gm C ⟨kP,O.A9 C G7 (NS L.nU xX D5) (da _) λaez G8=> .fz lk (kb (K:=K) (A8 ak) (h _ _ G8 (A5 f5) (NU L.nU xX F5)))⟩))⟩
theorem aeA(O:c6 S ws ls p s size af ak)(G:bt S ws ls σ Ls)(hf:dg Ls 200)(L:uT af p [] U)(c9:p<U.length)(D:fO Ls (aC af (aG ak af p)) [] U)(F:Flags Ls U){x:Int}{b:Bool}(hb:nK size ak (bx Ls (af.drop p))↔b=true)
  (h:∀σ' dN,bt S ws ls σ' dN->dg dN 300->Flags dN []->K (.bool true) σ'):dA X (n+9) (Cr.body.drop 6) (i6 K)
   {m:= [some (b9 ls p),some (eC (af.map bT)),some (.n s),some (.bytes ak),some (.int x),some (.n p),some (.n size),some (aJ []),some (aJ U),some (.tuple [.none, .list []]),some (.bool b),none],fz:= [],σ:=σ}:=by
 have gv:ak.length≤1000:=O.tl.symm▸O.B.sz
 have dK:Ls.length=ls.length:=G.len
 have jM:∀a∈U,a<ls.length:=λa ha=>by obtain ⟨c,hc,rfl⟩:=bJ.mp (L.cU a ha);exact (O.B.jK c hc).1
 have xX:∀k∈U,k<Ls.length:=λk hk=>dK▸jM k hk
 have ga:=O.no D L.nU L.cU c9
 let S':ar->St:=λσ=>{m:= [some (b9 ls p),some (eC (af.map bT)),some (.n s),some (.bytes ak),some (.int x),some (.n p),some (.n size),some (aJ []),some (aJ U),some (.tuple [.none, .list []]),some (.bool b),none],fz:= [3],σ:=σ}
 refine join S' (λσ'=>bt S ws ls σ' Ls) (λK' k J=>gm C ⟨kP,Fp C O.B gv G λnN G3=>⟨λhP=> ?_,λhP=>⟨λhA=>absurd hA ga,λJ=> ?_⟩⟩⟩) λnN G3 =>
  gm C ⟨kP,Fo C O.B gv G3 λNX G4=>⟨λhA=>absurd hA ga,λJ=>xP C O.B.T G4 (v:=false) jM λNY G7=>gm C ⟨kP,O.A9 C G7 (NS L.nU xX D) (da _) λaez G8=> .fz lk (kb (K:=K) (A8 ak) (h _ _ G8 (λk=>ag (A5 hf k) (nb rfl)) (NU L.nU xX F)))⟩⟩⟩
 ·cases hb.mp hP;exact .fz lk (bj.f (FP ak) (k nN _ G3 rfl))
 ·cases b with
  | true=>exact absurd (hb.mpr rfl) hP
  | false=>exact k nN _ G3 rfl
theorem aeB(O:c6 S ws ls p s size af ak)(G:bt S ws ls σ Ls)(hf:dg Ls 100)(D:fO Ls (aC af (aG ak af p)) [] [])(F:Flags Ls []){x:Int}
  (h:∀σ' dN,bt S ws ls σ' dN->dg dN 300->Flags dN []->K (.bool true) σ'):aB X (n+10) (.ref 781) [b9 ls p,eC (af.map bT), .n s, .bytes ak, .int x] [] K σ:=by
 have gv:ak.length≤1000:=ao O.tl.symm O.B.sz
 have Ba:0<af.length:=eB O.B.h1 O.B.hH
 have dK:Ls.length=ls.length:=G.len
 have dD:p≤1000:=ag O.B.h3 (nb rfl)
 have sM:(af.map bT).length≤10:=aa (aE ..) O.B.kr
 have MH:∀{k},(af.map bT).length≤10->10≤k->(af.map bT).length≤k:=λh h'=>ag h h'
 let S1:Nat->St:=λz=>{m:= [some (b9 ls p),some (eC (af.map bT)),some (.n s),some (.bytes ak),some (.int x),some (.n p),some (.n z),none,none,none,none,none],fz:= [],σ:=σ}
 let S2:List Nat×List Nat->St:=λq=>{m:= [some (b9 ls p),some (eC (af.map bT)),some (.n s),some (.bytes ak),some (.int x),some (.n p),some (.n size),some (aJ q.1),some (aJ q.2),none,none,none],fz:= [],σ:=σ}
 refine C.call 75 rfl rfl (join S1 (λz=>z =size) (λK' k J=>cx rfl (k6 gv) (k _ _ O.tl rfl)) λz hz=> ?_);subst hz;refine join S2 (λq=>uT af p q.1 q.2) (λK' k J=>cx (k:=ls.length) (congrArg some (aE _)) (ag O.B.T.gK (nb rfl)) (fi (a:=ls.length) (b:=5) (λJ=>NE C (most:=2) O.B.h3 (aa (aE ..) Ba) (ag sM (nb rfl)) (k (_,_) _ (NW Ba O.B.h3) rfl))
  λJ=>NE C (most:=1) O.B.h3 (aa (aE ..) Ba) (ag sM (nb rfl)) (k (_,_) _ (NW Ba O.B.h3) rfl))) λ⟨H,U⟩ L=> ?_
 have jM:∀a∈U,a<ls.length:=λa ha=>by obtain ⟨c,hc,rfl⟩:=bJ.mp (L.cU a ha);exact (O.B.jK c hc).1
 refine ad6 C O.B.T G (λk=>ag (hf k) (nb rfl)) sM (λy hy=> ?_) (λk=>(F k).1.trans (decide_eq_false nofun)) λaF G1=>xP C O.B.T G1 (v:=true) jM λaR G2=> ?_
 ·obtain ⟨c,hc,rfl⟩:=bJ.mp hy;exact ⟨(O.B.jK c hc).1,(O.B.jK c hc).2,(O.B.xM c hc).1⟩
 have D1:=O.aep (H:=H) dK D
 have F1:=O.aeq (H:=H) dK F
 have f1:dg (jL (af.map bT) H Ls) 200:=λk=>ag (aed hf (λy hy=>by obtain ⟨c,hc,rfl⟩:=bJ.mp hy;exact (O.B.xM c hc).1) k) (lP (c8 10 sM) 100)
 generalize jL (af.map bT) H Ls=qE at *
 have uU:∀k∈U,k<qE.length:=λk hk=>by have:qE.length=ls.length:=G1.len;refine aa this ?_;exact jM k hk
 have D2:=aer (H:=H) L.nU uU D1
 have F2:=NT L.nU uU F1
 have f2:dg (gd U true qE) 200:=A5 f1
 generalize gd U true qE=sO at *
 have aU:(H.map ab.n).length+(U.map ab.n).length≤1000000:=by refine aH (aE ..) (aE ..) ?_;exact ag (fP L.lH L.lU) (nb rfl)
 have uA:ug aR (.list (H.map .n++U.map .n))=some (H.length+U.length):=congrArg some (aa de (aa (aE ..) (aa (aE ..) rfl)))
 have Di:H.length+U.length≤1000000:=ag (fP L.lH L.lU) (nb rfl)
 have jb:((af.map bT).drop p).length≤1000:=by refine aa f9 ?_;exact ag (gJ ..) (ag sM (nb rfl))
 have cK:∀{x:Pt} {K':Option ab->St->Prop} {st cG:St},(∀v st',v=ab.bool (decide (x.1∉H++U))->gE [false,false,false,false,false,false,false,false,false,false,false,false,true,true] st'=cG->K' (some v) st')->gE [false,false,false,false,false,false,false,false,false,false,false,false,true,true] st=cG->
   dQ ((H.map ab.n).length+(U.map ab.n).length)/\vy st.σ (.n x.1) (.list (H.map .n++U.map .n)) λr=>K' (some (.bool (!r))) st:=λ{x K' st cG} k e =>
  ⟨aU,ny (l:=H++U) (congrArg some gW.symm) (λq=>k _ _ (congrArg ab.bool (decide_eq_false λh=>h q).symm) e) λq=>k _ _ (congrArg ab.bool (decide_eq_true q).symm) e⟩
 refine ⟨aU,cx uA Di (ql (b:=p) (λc9=>Az dD (ag sM (nb rfl)) (fh _ ((af.map bT).drop p) o4 (λx=> .bool (decide (x.1∉H++U))) (k5 jb) (λx J K' k=>cK k rfl) (nz (g:=ab.bool) jb (LJ (jl (aev C O G2 f2 L c9 D2 F2 (O.FO D2) h))))))
  λc9=> .fz lk (Az dD (ag sM (nb rfl)) (fh _ ((af.map bT).drop p) o4 (λx=> .bool (decide (x.1∉H++U))) (k5 jb) (λx J K' k=>cK k rfl) (nz (g:=ab.bool) jb (LJ (jl ?_))))))⟩
 obtain ⟨rfl,bA⟩:=L.le.resolve_left c9;exact aeA C O G2 f2 L bA D2 F2 (O.FO D2) h
end
theorem NZ(Ls:List Lf)(zs:List CP):oW Ls zs=(zs.filterMap λx=>if (Ls.getD (ck x) ay).out=true then some (ck x) else none).length:=by
 unfold oW
 suffices ∀n,zs.foldl (λn x=>if (Ls.getD x.1.1 ay).out=true then n+1 else n) n=n+(zs.filterMap λx=>if (Ls.getD (ck x) ay).out=true then some (ck x) else none).length by simpa using this 0
 induction zs with
 | nil=>intro n;rfl
 | cons x zs ih =>
  intro n;refine aH my lC (aa (ih ..) ?_)
  by_cases q:(Ls.getD (ck x) ay).out=true
  ·simp only [if_pos q,n0];exact aa (sY ..) (aa (ka ..) rfl)
  ·simp only [if_neg q]
theorem aeC(l:List Bool):jm (kh 2) (l.map .bool) (l.map .bool)=some true:=by
 induction l with
 | nil=>rfl
 | cons x l ih =>
  refine (?_:((kh 2 (.bool x) (.bool x)).bind λa=>(jm (kh 2) (l.map .bool) (l.map .bool)).map λb=>a&&b)=_);refine aa ih (?_:some ((x==x)&&true)=_)
  simp
theorem aeD{l:List Bool}{k:Bool->Prop}(h:k false):bE (n7 σ .NotEq (.list (l.map .bool)) (.list (l.map .bool))) k :=
 bE.i (v:=false) (by
  refine (?_:(if (l.map ab.bool).length=(l.map ab.bool).length then jm (kh 2) (l.map .bool) (l.map .bool) else some false).map (λz=>!z)=_);refine aa (if_pos rfl) (aa (aeC ..) ?_);rfl) h
theorem N0{l:List Nat}{k:Bool->Prop}(h:k false):bE (n7 σ .NotEq (aJ l) (aJ l)) k :=
 bE.i (v:=false) (by
  refine (?_:(if (l.map ab.n).length=(l.map ab.n).length then jm (kh 2) (l.map .n) (l.map .n) else some false).map (λz=>!z)=_);refine aa (if_pos rfl) (aa (NO (g:=gn) λv hv w=>by obtain ⟨x,_,rfl⟩:=bJ.mp hv;rfl) (aa (NN ..) ?_));rfl) h
structure Bb(Ls:List Lf)(U:List Nat)(zs:List CP):Prop where
 few:dg Ls 0
 out:∀y∈zs,(Ls.getD (ck y) ay).out=false
 cont:∀y∈zs,ck y∉U->(Ls.getD (ck y) ay).cont=y.2
structure aeE(Ls:List Lf)(U:List Nat)(zs:List CP):Prop where
 c4:∀k,(Ls.getD k ay).c4=decide (k∈U)
 out:∀k,(Ls.getD k ay).out=decide (k∈U)
 cont:∀y∈zs,ck y∉U->(Ls.getD (ck y) ay).cont=y.2
structure aeF(Ls:List Lf)(W U:List Nat)(zs:List CP):Prop where
 u:∀a∈W,a∈U
 s:bB W=W
 l:W.length≤9
 mn:oY Ls W zs=W.length
 d:fO (kM W zs Ls) zs [] []
section
variable{S:Nat}{ws:List (Nat×Nat)}{ls:List Addr}{Ls:List Lf}{p s size:Nat}{af:List bK}{ak:List UInt8}{U:List Nat}(O:c6 S ws ls p s size af ak)
include O
theorem c6.aeG(hn:U.Nodup)(hc:∀a∈U,a∈af.map (λz=>z.1))(F:Flags Ls U):oW Ls (aC af (aG ak af p))=U.length:=by
 refine aa (NZ ..) (((FL (xS O.lL) hn).mpr λa=> ?_).length_eq);rw [uR]
 constructor
 ·rintro ⟨y,_,h,rfl⟩;rw [(F _).1] at h;exact of_decide_eq_true h
 ·intro ha;refine aD (bJ.mp (hc a ha)) λc hc bb=> ?_;subst bb;refine aD (O.col hc) λy hy bb=> ?_;subst bb;exact ⟨y,hy,(F _).1.trans (dt ha),rfl⟩
theorem c6.aeH(dK:Ls.length=ls.length)(hc:∀a∈U,a∈af.map (λz=>z.1))(F:Flags Ls U)(k:Nat):((iD 9 (aC af (aG ak af p)) Ls).getD k ay).c4=decide (k∈U):=by
 refine pd (A4 O.lL (λy hy=>aa dK ((O.lM hy).1)) 9) λJ w2 w3=> ?_
 by_cases q:k∈(aC af (aG ak af p)).map ck
 ·refine aD (bJ.mp q) λy hy bb=> ?_;subst bb;refine aa (w2 y hy) ?_;unfold eS
  by_cases qu:ck y∈U
  ·refine aH (if_pos (by rw [(F _).1];exact dt qu)) (dt qu) (?_:((Ls.getD (ck y) ay).c4 || decide ((9:Int)=9))=true);exact aa (dt rfl) (aa (adj ..) rfl)
  ·exact aH (if_neg (by rw [(F _).1,df qu];decide)) (df qu) ((F _).2)
 ·refine aa (w3 k q) (aa ((F k).2) ?_);exact (df λhu=>q (aa O.keys (hc k hu))).symm
theorem c6.aeI(dK:Ls.length=ls.length)(F:Flags Ls U)(k:Nat):((iD 9 (aC af (aG ak af p)) Ls).getD k ay).out=decide (k∈U):=by
 refine pd (A4 O.lL (λy hy=>aa dK ((O.lM hy).1)) 9) λJ w2 w3=> ?_
 by_cases q:k∈(aC af (aG ak af p)).map ck
 ·refine aD (bJ.mp q) λy hy bb=> ?_;subst bb;refine Gs (w2 y hy) ((F _).1) ?_;unfold eS
  split<;>rfl
 ·exact aa (w3 k q) ((F k).1)
theorem c6.aeJ(dK:Ls.length=ls.length)(F:Flags Ls U):∀y∈aC af (aG ak af p),ck y∉U->((iD 9 (aC af (aG ak af p)) Ls).getD (ck y) ay).cont=y.2:=λy hy qu=>by
 refine aa ((A4 O.lL (λy hy=>by rw [dK];exact (O.lM hy).1) 9).2.1 y hy) ?_;unfold eS;exact congrArg _ (if_neg (by rw [(F _).1,df qu];decide))
omit O in
theorem aeK{dN:List Lf}{zs:List CP}(hn:U.Nodup)(hl:∀k∈U,k<Ls.length)(ho:∀k,(Ls.getD k ay).out=decide (k∈U))(hc:∀y∈zs,ck y∉U->(Ls.getD (ck y) ay).cont=y.2)(hw:dN.length=w)(hf:∀k,k<w->dN.getD k ay=sJ ((gd U false Ls).getD k ay))(hz:∀y∈zs,ck y<w):Bb dN U zs:=by
 have g:∀k,((gd U false Ls).getD k ay).out=false:=λk=>by
  refine aa ((uQ false hn hl).2 ..) ?_
  split
  ·rfl
  ·rename_i q;exact aa (ho ..) (aa (df q) rfl)
 have e:∀k,k<w->dN.getD k ay={(gd U false Ls).getD k ay with wn:=0}:=λk hk=>by refine aa (hf k hk) ?_;rewrite [sJ];exact aa (if_neg (by rw [g];decide)) rfl
 refine ⟨λk=> ?_,λy hy=>aa (e _ (hz y hy)) (g _),λy hy q=> ?_⟩
 ·by_cases q:k<w
  ·exact aa (e k q) (cg _)
  ·rw [ja,iy (aa hw (fG q))];exact cg _
 ·refine aa (e _ (hz y hy)) (?_:((gd U false Ls).getD (ck y) ay).cont=_);refine aa ((uQ false hn hl).2 ..) (aa (if_neg q) ?_);exact hc y hy q
theorem c6.aeL(G:bt S ws ls σ Ls)(B:Bb Ls U (aC af (aG ak af p)))(hw:U.length≤p):Acc af p size ak (bx Ls af) :=
 O.acc Ls U (λc hc=>aa (G.cont O.B.T (O.B.jK c hc).1) (aa ((O.B.jK c hc).2) rfl)) hw λy hy hu=>⟨B.out y hy,B.cont y hy hu⟩
theorem c6.aeM(dK:Ls.length=ls.length)(hn:U.Nodup)(hw:U.length≤p)(B:Bb Ls U (aC af (aG ak af p))):aeF Ls (bB (mJ af (bx Ls af) (aG ak af p))) U (aC af (aG ak af p)):=by
 obtain ⟨W,eW⟩:∃W,W=bB (mJ af (bx Ls af) (aG ak af p)):=⟨_,rfl⟩
 have FQ:∀a,a∈W↔∃y∈aC af (aG ak af p),((Ls.getD (ck y) ay).out=false/\(Ls.getD (ck y) ay).cont≠y.2)/\ck y=a:=λa=>by
  refine aa eW ?_;rewrite [o7];refine aa (FM ..) (aa (show (aC af (aG ak af p)).filterMap (xR Ls)=(aC af (aG ak af p)).filterMap λx=>if (Ls.getD (ck x) ay).out=false/\(Ls.getD (ck x) ay).cont≠x.2 then some (ck x) else none from rfl) ?_);rewrite [uR];rfl
 have N1:W.Nodup:=by refine aa eW (aa (FM ..) ?_);exact A6 (xS O.lL)
 have N2:∀a∈W,a∈U:=λa ha=>by
  obtain ⟨y,hy,⟨_,h2⟩,rfl⟩:=(FQ a).mp ha;exact aeN λq=>h2 (B.cont y hy q)
 refine ao eW (⟨N2,aa eW (aa (NK ..) rfl),ag (A7 N1 N2) (ag hw (ag O.B.h3 (nb rfl))), ?_,λy hy=> ?_⟩)
 ·refine aa (NR ..) (((FL (xS O.lL) N1).mpr λa=> ?_).length_eq);rw [uR]
  constructor
  ·rintro ⟨y,_,h,rfl⟩;exact h.1
  ·intro ha;obtain ⟨y,hy,⟨h1,_⟩,rfl⟩:=(FQ a).mp ha;exact ⟨y,hy,⟨ha,h1⟩,rfl⟩
 ·refine aa ((FI O.lL (λy hy=>by rw [dK];exact (O.lM hy).1) W).2.1 y hy) ?_
  have eQ:=B.out y hy
  rewrite [if_neg (by simp:¬ ck y∈([]:List Nat))];refine aa (df (by simp:¬ ck y∈([]:List Nat))) ?_
  by_cases q:ck y∈W
  ·refine aa (if_pos q) ?_;unfold eS;exact aa (if_neg (by rw [eQ];decide)) (⟨eQ,rfl⟩)
  ·exact aa (if_neg q) (⟨eQ,aeN λq2=>q ((FQ _).mpr ⟨y,hy,⟨eQ,q2⟩,rfl⟩)⟩)
end
structure FR(af:List bK)(U:List Nat):Prop where
 n:U.Nodup
 c:∀a∈U,a∈af.map (λz=>z.1)
 l:U.length≤4
theorem aeO{U:List Nat}(hn:(af.map (λz=>z.1)).Nodup)(hk:k≤4)(e:U=((af.map bT).take k).map λy=>y.1):FR af U:=by
 have e2:U=(af.map (λz=>z.1)).take k:=by refine aa e (aa xq (aa dj ?_));rfl
 exact aa e2 (⟨(aby _ _).nodup hn,λa ha=>pp ha,ag (N3 ..) hk⟩)
theorem aeP{g:α->ab}{z:Int}(e:z=(k:Int))(hk:k≤1000)(hl:l.length≤1000)(q:∀ws,ws=l.take k->K (.list (ws.map g)) st):km (.list (l.map g)) none (some (.int z)) st K:=aa e (Av hk hl q)
section
variable{X:Cx}(C:Ctx X){n:Nat}{K:ab->ar->Prop}{σ:ar}{S:Nat}{ws:List (Nat×Nat)}{ls:List Addr}{Ls:List Lf}{p s size:Nat}{af:List bK}{ak:List UInt8}{U:List Nat}
include C
omit C in
theorem aeQ{own:List (Addr×List ab)}{step:ab->St->(Option ab->St->Prop)->Prop}{K:List ab->St->Prop}(bs:List Bool)(l:List α)(g:α->ab)(hl:l.length≤100000)
  (hs:∀a∈l,∀(K':Option ab->St->Prop),(∀st',gE bs st'=st->K' none st')->step (g a) st K')
  (hK:K [] st) (e:items=l.map g:=by rfl) (hg:Guard own st:=by exact dY):dQ items.length/\l4 own step K items [] st :=
 qk bs l g (λJ=>none) hl (λa ha K' k=>hs a ha K' λst' e=>k _ _ rfl e) (Fv.mpr (λJ J=>rfl)▸hK) e hg
theorem aeR(O:c6 S ws ls p s size af ak)(hn:U.Nodup)(G:bt S ws ls σ Ls)(B:Bb Ls U (aC af (aG ak af p)))(hw:U.length≤p){x:Int}
  (h:∀σ' dN,bt S ws ls σ' dN->K (.bool true) σ'):dA X (n+9) (Cs.body.drop 7) (i6 K)
   {m:= [some (b9 ls p),some (eC (af.map bT)),some (.n s),some (.bytes ak),some (.int x),some (aJ U),some (.bool true),none,none],fz:= [],σ:=σ}:=by
 have gv:ak.length≤1000:=ao O.tl.symm O.B.sz
 have aeS:=O.tl
 subst aeS
 have dK:=G.len
 have R:=O.aeM dK hn hw B
 refine gm C (cx rfl (k6 gv) ⟨kP,Fo C O.B gv G λaew G5=>⟨λJ=> ?_,λFN=>absurd (O.aeL G B hw) FN⟩⟩);generalize bB (mJ af (bx Ls af) (aG ak af p))=W at *
 refine bj.f (congrArg _ (dt rfl)) (aeQ [false,false,false,false,false,false,false,false,false,false,true] W .n (ag R.l (nb rfl)) (λa ha K' k=>ny (l:=U) rfl (λJ=>k _ rfl) λq=>absurd (R.u a ha) q)
  (.fz lk (.fz lk (xv rfl ((uL W).trans (congrArg _ R.s)) (ag R.l (nb rfl)) (N0 (gm C (No C O.B.T G5 (λk=>ag (B.few k) (nb rfl)) gv O.B.h1 O.B.h3 O.B.h2 O.B.ec O.B.uN O.B.kr O.cp (which:=W) λaey G6 =>
   cx (k:=W.length) (congrArg some (aE _)) (ag R.l (nb rfl)) (xb (b:=W.length) (λJ=>gm C (cx rfl (k6 gv) ⟨kP,O.A9 C G6 R.d (da _) λNY G7=> .fz lk (kb (K:=K) (A8 ak) (h _ _ G7))⟩)) λq=>absurd R.mn q))))))))
omit C in
theorem aeT{a b:Nat}{c:Bool}(h:c=decide (a≤b)):(!(c==decide ((a:Int)≤(b:Int))))=false:=by refine aa h ?_;rewrite [decide_eq_decide.mpr dU];refine aa (beq_self_eq_true ..) ?_;rfl
theorem aeU(O:c6 S ws ls p s size af ak)(L:FR af U)(jM:∀a∈U,a<ls.length)(G:bt S ws ls σ Ls)(N:aeE Ls U (aC af (aG ak af p))){x:Int}{b:Bool}(hb:b=decide (U.length≤p))
  (h:∀σ' dN,bt S ws ls σ' dN->K (.bool true) σ'):dA X (n+9) (Cs.body.drop 3) (i6 K)
   {m:= [some (b9 ls p),some (eC (af.map bT)),some (.n s),some (.bytes ak),some (.int x),some (aJ U),some (.bool b),none,none],fz:= [],σ:=σ}:=by
 have dK:=G.len
 have hl:(aK ls.length).length≤1000:=aa fj (ag O.B.T.gK (nb rfl))
 refine cx (k:=U.length) (congrArg some (aE _)) (ag L.l (nb rfl)) (bj.f (aeT hb) (gm C (Fw C O.B.T.gK
  (fh [false,false,false,false,false,false,false,false,false,false,true] (aK ls.length) (λk=> .ref (ls.getD k 0)) (λk=> .bool (decide (k∉U))) (k5 hl) (λk hk K' kk=> ?_) (Aw (f:=λk=>decide (k∉U)) (g:=ab.bool) hl λys ey =>
   cx (k:=ls.length) (congrArg some (aE _)) (ag O.B.T.gK (nb rfl)) ⟨rg (ag O.B.T.gK (nb rfl)),fh [false,false,false,false,false,false,false,false,false,false,true] (aK ls.length) .n (λk=> .bool (decide (k∉U))) (k5 hl) (λk hk K' kk =>
    ny (l:=U) rfl (λq=>kk _ _ (congrArg ab.bool (decide_eq_false λh=>h q).symm) rfl) λq=>kk _ _ (congrArg ab.bool (decide_eq_true q).symm) rfl) (Aw (f:=λk=>decide (k∉U)) (g:=ab.bool) hl λzs ez=> ?_) (i8 _)⟩) (Fu ls)))))
 ·refine iH G λfs G=> ?_;obtain ⟨g,i,j,mem,a0,D⟩:=G.at_ k (fZ.mp hk);exact D.aI C (add C D (kk _ _ (congrArg ab.bool (by refine aa (N.c4 ..) ?_;by_cases q:k∈U<;>simp [q])) rfl))
 cases ey;cases ez;refine aeD (xP C O.B.T G (v:=false) jM λnN G3=>gm C (Ny C O.B.T G3 λNX aeV G4 FS aeW=> ?_))
 have B:=aeK (dN:=aeV) (zs:=aC af (aG ak af p)) L.n (λk hk=>aa dK (jM k hk)) N.out N.cont G4.len aeW λy hy=>(O.lM hy).1
 cases b with
 | true=>exact aeR C O L.n G4 B (of_decide_eq_true hb.symm) h
 | false=>exact h _ _ G4
theorem aeX(O:c6 S ws ls p s size af ak)(G:bt S ws ls σ Ls)(hf:dg Ls 300)(F:Flags Ls []){x:Int}
  (h:∀σ' dN,bt S ws ls σ' dN->K (.bool true) σ'):aB X (n+10) (.ref 786) [b9 ls p,eC (af.map bT), .n s, .bytes ak, .int x] [] K σ:=by
 have dD:p≤1000:=ag O.B.h3 (nb rfl)
 have hb:mZ x 2=((x.fmod 2).toNat:Int)/\(x.fmod 2).toNat≤1:=aa (lY ..) (aa (tC _ (by decide)) ⟨(tR (FA _ (by decide))).symm,t9.mpr (adX (FD _ (by decide)))⟩)
 let S1:List Nat->St:=λU=>{m:= [some (b9 ls p),some (eC (af.map bT)),some (.n s),some (.bytes ak),some (.int x),some (aJ U),none,none,none],fz:= [],σ:=σ}
 have gv:ak.length≤1000:=ao O.tl.symm O.B.sz
 have dK:=G.len
 have fk:(af.map bT).length≤1000:=aa (aE ..) (ag O.B.kr (nb rfl))
 have FT:p+(x.fmod 2).toNat≤4:=fP O.B.h3 hb.2
 refine C.call 76 rfl rfl (join S1 (λU=>FR af U) (λK' k J=>⟨by decide,aeP (k:=p+(x.fmod 2).toNat) (congrArg _ hb.1) (ag FT (nb rfl)) fk λpt N4=> ?_⟩) λU L=> ?_)
 ·have FS:pt.length≤4:=aa N4 (ag (N3 ..) FT)
  exact fh [false,false,false,false,false,false,false,false,false,false,true] pt o4 (λy=> .n y.1) (ag FS (nb rfl)) (λy J K' k=>k _ _ rfl rfl) (Aw (f:=λy:Pt=>y.1) (g:=ab.n) (ag FS (nb rfl)) λU eU=>k U _ (aeO O.nd FT (eU.trans (congrArg _ N4))) rfl)
 have jM:∀a∈U,a<ls.length:=λa ha=>by obtain ⟨c,hc,rfl⟩:=bJ.mp (L.c a ha);exact (O.B.jK c hc).1
 refine xP C O.B.T G (v:=true) jM λaF G1=> ?_
 have F1:=NT L.n (λk hk=>aa dK (jM k hk)) F
 have f1:dg (gd U true Ls) 300:=A5 hf
 generalize gd U true Ls=qE at *
 have uU:=G1.len
 exact gm C (Nn C O.B.T G1 (λk=>ag (f1 k) (nb rfl)) gv O.B.h1 O.B.h3 O.B.h2 (aa O.tl O.B.ec) O.B.uN O.B.kr O.cp (cD:=9) (λJ J=> .inr rfl) λaR G2=>jl (aeU C O L jM G2 ⟨O.aeH uU L.c F1,O.aeI uU F1,O.aeJ uU F1⟩ (aa (O.aeG L.n L.c F1) rfl) h))
end
structure uV(S:Nat)(ws:List (Nat×Nat))(ls:List Addr)(fs:List Ft)(Ls:List Lf)(i:Nat)(σ:ar):Prop where
 lf:∀k,k<ls.length->1≤k->i≤k->mI S (ws.getD k (0,0)).1 (ws.getD k (0,0)).2 σ (ls.getD k 0) (fs.getD k lI) (Ls.getD k ay)
 dn:∀k,k<ls.length->k<i∨k=0->DN σ (ls.getD k 0)
section
variable{S:Nat}{ws:List (Nat×Nat)}{ls:List Addr}{σ σ':ar}{fs:List Ft}{Ls:List Lf}(G:lJ S ws ls σ fs Ls)
include G
theorem lJ.no{i:Nat}(hk:k<ls.length)(hi:i<ls.length)(h:k≠i):ls.getD i 0∉foot (ls.getD k 0) (fs.getD k lI):=λhm=>G.ap i k hi hk h.symm _ (.head _) hm
theorem lJ.aeY(hi:0<ls.length)(hk:∀x,x≠ls.getD 0 0->σ' x=σ x)(hd:DN σ' (ls.getD 0 0)):uV S ws ls fs Ls 0 σ' where
 lf:=λk hl h1 J=>(G.at_ k hl).keep λx hx=>hk x λe=>G.no hl hi (fK h1) (ao e hx)
 dn:=λk J h0=>by obtain rfl:=h0.resolve_left (E5 k);exact hd
theorem uV.step{i:Nat}(P:uV S ws ls fs Ls i aF)(hi:i<ls.length)(hk:∀x,x≠ls.getD i 0->σ' x=aF x)(hd:DN σ' (ls.getD i 0)):uV S ws ls fs Ls (i+1) σ' where
 lf:=λk hl h1 N5=>(P.lf k hl h1 (ip N5)).keep λx hx=>hk x λe=>G.no hl hi (fK N5) (ao e hx)
 dn:=λk hl h0=>by
  by_cases q:k=i
  ·subst q;exact hd
  ·obtain ⟨g,m,e⟩:=P.dn k hl (h0.imp_left λh=>Ee (pe h) q);exact ⟨g,m,(hk _ λe2=>G.no hl hi q (ao e2 (.head _))).trans e⟩
end
theorem N6{S:Nat}(hS:S=60 / w+8):(((S - 4)*w:Nat):Int)=(fV 60 w+4)*w:=by
 have e0:((S - 4:Nat):Int)=((60 / w:Nat):Int)+4:=by
  exact aa hS rfl
 refine aa (aeZ ..) (aa e0 ?_);rfl
section
variable{X:Cx}(C:Ctx X){n:Nat}{K:ab->ar->Prop}{σ:ar}{S:Nat}{ws:List (Nat×Nat)}{ls:List Addr}{Ls:List Lf}{p:Nat}
include C
theorem ae0(T:iC S ws ls)(G:bt S ws ls σ Ls)(hl:2≤ls.length)(hS:S=60 / ls.length+8)(h:∀σ',K (.bool true) σ'):aB X (n+7) (.ref 793) [b9 ls p, .n ls.length] [] K σ:=by
 obtain ⟨fs,G⟩:=G
 have o8:=N7 (ip hl)
 obtain ⟨g,i,j,mem,a0,D⟩:=G.at_ 0 o8
 let S':ar->St:=λσ=>{m:= [some (b9 ls p),some (.n ls.length),none],fz:= [],σ:=σ}
 refine C.call 77 rfl rfl (join S' (uV S ws ls fs Ls 0) (λK' k J=> ?_) λaF P=> ?_)
 ·exact ND (i:=0) rfl (sG o8) (by decide) (j8 D.lf (k _ _ (G.aeY o8 (λx hx=>bC hx) ⟨g,_,bX⟩) rfl))
 have xY:ls.length≤1000:=ag T.gK (by decide)
 have hq:fV 60 ls.length=((60 / ls.length:Nat):Int):=rfl
 have FU:60 / ls.length≤60:=oz _ _
 refine gm C (Fx C T (λk=>decide (1≤k)) (λk hk=> ?_) (λJ=>⟨⟨oP.mpr (fK o8),cY (k6 xY)⟩,⟨cY (x:=60 / ls.length+4) (ag (gG FU 4) (by decide)),cY (k6 xY)⟩, ?_⟩) λga=>absurd (ga 1 hl) (by decide))
 ·by_cases q:1≤k
  ·refine aa (dt q) (aa (if_pos rfl) ?_);exact ⟨_,_,_,_,P.lf k hk q (da _)⟩
  ·refine aa (df q) (aa (if_neg AV) ?_);exact P.dn k hk (.inr (Nat.eq_zero_of_not_pos q))
 refine bj.f (by refine aa (N6 hS) (aa (dt rfl) ?_);rfl) (gm C (Fw C T.gK (loop [false,false,true] ls .ref S' (uV S ws ls fs Ls) aF P (λJ J J=>dY) (λi a σ' K' ei P k J=> ?_) λσ' P =>
  gm C (Fx C T (λJ=>false) (λk hk=>P.dn k hk (.inl hk)) (λ⟨_,_,h⟩=>ff h) λJ=>h _))))
 obtain ⟨hi,ea⟩:=du.mp ei
 have ea:ls.getD i 0=a:=aa (cZ hi) (aa ea rfl)
 subst ea
 by_cases q:i=0
 ·obtain ⟨g,m,e⟩:=P.dn i hi (.inr q);exact j8 e (k _ _ (P.step G hi (λx hx=>bC hx) ⟨g,_,bX⟩) rfl)
 ·obtain ⟨g,_,_,_,_,D⟩:=P.lf i hi (Wx q) (cg _);exact j8 D.lf (k _ _ (P.step G hi (λx hx=>bC hx) ⟨g,_,bX⟩) rfl)
end
structure iE(w p s size:Nat):Prop where
 w2:2≤w
 w6:w≤6
 p1:1≤p
 p3:p≤3
 pw:p<w
 z1:1≤size
 sP:size≤28
 ae1:s<20
noncomputable def jf(w:Nat)(af:List bK):List (Nat×Nat):=(aK w).map λk=>match af.find? λc=>c.1==k with
 | some c=>(c.2.1,c.2.2.1)
 | none=>(0,0)
noncomputable def nO(af:List bK):Nat:=(af.map λc=>c.2.2.1).sum
structure Bc:Prop where
 oct:∀w p s size (ls:List Addr) (ak:List UInt8),iE w p s size->ls.length=w->ak.length=size->c6 (60 / w+8) (jf w (aX s size w p)) ls p s size (aX s size w p) ak
 Bd:∀w p s size,iE w p s size->xO s ((size+3) / 4) w p (gX s p)=(aX s size w p).map bT/\mK ((size+3) / 4) w p≤1000/\(gX s p=true->2≤mK ((size+3) / 4) w p)
 big:∀w p s size,iE w p s size->p+1≤(aX s size w p).length
 Be:∀w p s size,iE w p s size->AB size w p=(nO (aX s size w p)+p) / (p+1)*(p+1)/\nO (aX s size w p)≤100
theorem uW(x:Int)(k:Nat)(hk:0<k):∃a:Nat,x.fmod k=a/\a<k :=
 ⟨_,(tR (Int.fmod_nonneg_of_pos x (ir.mpr hk))).symm,mod_lt hk⟩
noncomputable def gf(z:Int)(n:Nat):List UInt8:=(aK n).map λk=>kH (1+((z+37*(k:Nat)).fmod 255).toNat)
noncomputable def FV(b:List UInt8):List UInt8:=b.map λo=>kH (256 - o.toNat)
noncomputable abbrev gM(cr:List Int)(i:Nat)(x y z:Int)(w p size s:Nat)(g9 ae2 ae3 ae4 ae5 ae6:Option ab):List (Option ab) :=
 [some (.list (cr.map .int)),some (.n i),some (.int x),some (.int y),some (.int z),some (.n w),some (.n p),some (.n size),some (.n s),g9,ae2,ae3,ae4,ae5,ae6]
theorem lN(z:Int)(n:Nat):(gf z n).length=n:=by rewrite [gf];exact aa (aE ..) (aa fj rfl)
theorem FW(b:List UInt8):(FV b).length=b.length:=aE ..
theorem ae7{z:Int}{n:Nat}{o:UInt8}(h:o∈gf z n):1≤o.toNat:=by
 obtain ⟨k,_,rfl⟩:=bJ.mp h;obtain ⟨a,e,h2⟩:=uW (z+37*(k:Nat)) 255 (by decide)
 have e:(z+37*(k:Nat)).fmod 255=a:=e
 refine aa e (aa (mo ..) (aa (Ab (ll a 1▸Nat.succ_lt_succ h2)) ?_));exact cb ..
theorem ae8{o:UInt8}(h1:1≤o.toNat):((kH (256 - o.toNat)).toNat:Int)=256 - (o.toNat:Int):=by
 refine aa (Ab (Mk (by decide) h1)) (aa (nx (bS (qo o))) ?_);rfl
theorem ae9(b:List UInt8):b.map (λo=>ab.int ((kH (256 - o.toNat)).toNat))=d3 (FV b):=by unfold d3 FV;refine aa dj ?_;rfl
theorem FX{S:Nat}:((aK w).map (L0 S ws)).getD k ay=if k<w then L0 S ws k else ay:=by
 by_cases q:k<w
 ·refine aa (if_pos q) (aa (cZ (by rw [aE,fj];exact q)) ?_);simp
 ·rw [if_neg q,ja,iy (by refine aa (aE ..) (aa fj ?_);exact fG q)];rfl
section
variable{X:Cx}(CK:uP X)(P:Bc){n:Nat}{K:ab->ar->Prop}{σ:ar}{cr:List Int}{i:Nat}{x y z:Int}{w p size s:Nat}
include CK P
theorem ae'(hs:cr.length≤100)(hi:i≤100)(g:iE w p s size)(hl:ls.length=w)(G:bt (60 / w+8) (jf w (aX s size w p)) ls σ Ls)(hf:dg Ls 300)(F:Flags Ls []){u:Option ab}{FY:List UInt8}(ho:FY.length=size)(h:∀σ',K (.bool true) σ') :
  dA X (n+10) (l6.body.drop 15) (i6 K) {m:=gM cr i x y z w p size s (some dz) (some (b9 ls p)) (some (eC ((aX s size w p).map bT))) u (some (.bytes FY)) (some (.bytes oct)),fz:= [14],σ:=σ}:=by
 subst hl
 have O:=P.oct _ p s size ls FY g rfl ho
 exact Fy CK.c (k:=i+4) (ag hs (by decide)) (ag (gG hi 4) (by decide)) (.inl rfl) (aeX CK.c O G hf F λaF qE G1=>ae0 CK.c O.B.T G1 g.w2 rfl h)
theorem afa(hs:cr.length≤100)(hi:i≤100)(g:iE w p s size)(hl:ls.length=w)(G:bt (60 / w+8) (jf w (aX s size w p)) ls σ Ls)(hf:dg Ls 100)(F:Flags Ls [])
  (D:fO Ls (aC (aX s size w p) (aG (gf z size) (aX s size w p) p)) [] []) {u:Option ab} (h:∀σ',K (.bool true) σ') :
  dA X (n+10) (l6.body.drop 13) (i6 K) {m:=gM cr i x y z w p size s (some dz) (some (b9 ls p)) (some (eC ((aX s size w p).map bT))) u none (some (.bytes (gf z size))),fz:= [14],σ:=σ}:=by
 have O:=P.oct w p s size ls (gf z size) g hl (lN z size)
 have hz:(gf z size).length≤1000:=by refine aa (lN ..) ?_;exact ag g.sP (by decide)
 refine Fy CK.c (k:=i+3) (ag hs (by decide)) (ag (gG hi 3) (by decide)) (.inl rfl) (aeB CK.c O G hf D F λaF qE G1 f1 F1 =>
  fh [false,false,false,false,false,false,false,false,false,false,false,false,false,false,false,false,true] (gf z size) (λo=> .int o.toNat) (λo=> .int ((kH (256 - o.toNat)).toNat)) (k5 hz) (λo ho K' k=> ?_) (j3 (ae9 _) (by refine aa (xf ..) (aa (FW ..) ?_);exact hz)
   (wZ (by refine aa (FW ..) ?_;exact k6 hz) (jl (ae' CK P hs hi g hl G1 f1 F1 (aa (FW ..) (aa (lN ..) rfl)) h)))))
 exact k _ _ (congrArg ab.int (ae8 (ae7 ho)).symm) rfl
end
structure qF(Ls:List Lf):Prop where
 out:∀k,(Ls.getD k ay).out=false
 c4:∀k,(Ls.getD k ay).c4=false
 wn:∀k,(Ls.getD k ay).wn=0
theorem afb{S:Nat}:qF ((aK w).map (L0 S ws)):=⟨λk=>by refine aa FX ?_;split<;>rfl,λk=>by refine aa FX ?_;split<;>rfl,λk=>by refine aa FX ?_;split<;>rfl⟩
structure N8(Ls:List Lf)(zs:List CP):Prop where
 wn:∀k,(Ls.getD k ay).wn=0
 F:Flags Ls []
 D:fO Ls zs [] []
theorem qF.au{zs:List CP}(h:qF Ls):oW Ls zs=0:=by
 refine aa (NZ ..) (aa (Fv.mpr λy hy=>if_neg (by rw [h.out];decide)) ?_);rfl
theorem afc{S:Nat}{sO:List Lf}{s size:Nat}(O:c6 S ws ls p s size af ak)(h:qF Ls)(hl:Ls.length=ls.length)(iW:sO.length=ls.length)
  (hg:∀k,k<ls.length->sO.getD k ay=sJ ((iD 3 (aC af (aG ak af p)) Ls).getD k ay)):N8 sO (aC af (aG ak af p)):=by
 obtain ⟨_,w2,w3⟩:=A4 O.lL (λy hy=>by refine aa hl ?_;exact (O.lM hy).1) 3
 have e:∀y∈aC af (aG ak af p),eS 3 (Ls.getD (ck y) ay) y.2 y.1.2.2.1={Ls.getD (ck y) ay with cont:=y.2,wn:=(eS 3 (Ls.getD (ck y) ay) y.2 y.1.2.2.1).wn}:=λy hy=>by unfold eS;exact aa (if_neg (by rw [h.out];decide)) rfl
 have wg:∀k,((iD 3 (aC af (aG ak af p)) Ls).getD k ay).out=false/\((iD 3 (aC af (aG ak af p)) Ls).getD k ay).c4=false:=λk=>by
  by_cases q:k∈(aC af (aG ak af p)).map ck
  ·obtain ⟨y,hy,rfl⟩:=bJ.mp q;refine aa (w2 y hy) (aa (e y hy) ?_);exact ⟨h.out _,h.c4 _⟩
  ·refine aa (w3 k q) ?_;exact ⟨h.out k,h.c4 k⟩
 have N9:∀k,¬ k<ls.length->sO.getD k ay=ay:=λk hk=>by rw [ja,iy (iW▸fG hk)];rfl
 have g2:∀k,k<ls.length->sO.getD k ay={(iD 3 (aC af (aG ak af p)) Ls).getD k ay with wn:=0}:=λk hk=>by refine aa (hg k hk) ?_;rewrite [sJ];exact aa (if_neg (by rw [(wg k).1];decide)) rfl
 refine ⟨λk=> ?_,λk=> ?_,λy hy=> ?_⟩
 ·by_cases q:k<ls.length
  ·exact congrArg _ (g2 k q)
  ·refine aa (N9 k q) ?_;rfl
 ·refine aa (df (by simp:¬ k∈([]:List Nat))) ?_
  by_cases q:k<ls.length
  ·refine aa (g2 k q) ?_;exact wg k
  ·refine aa (N9 k q) ?_;exact ⟨rfl,rfl⟩
 ·refine aH (g2 _ (O.lM hy).1) (df (by simp:¬ ck y∈([]:List Nat))) (aa (if_neg (by simp:¬ ck y∈([]:List Nat))) ?_);exact ⟨(wg _).1,aa (w2 y hy) (aa (e y hy) rfl)⟩
theorem afd(z:Int)(k:Nat):((kH (1+((z+37*(k:Nat)).fmod 255).toNat)).toNat:Int)=1+mZ (z+37*(k:Nat)) 255:=by
 obtain ⟨a,e,h2⟩:=uW (z+37*(k:Nat)) 255 (nb rfl)
 have e:(z+37*(k:Nat)).fmod 255=a:=e
 refine aa (lY ..) (aa e (aa (mo ..) (aa (Ab (wW h2 1)) ?_)));rfl
theorem afe(z:Int)(n:Nat):(aK n).map (λk=>ab.int ((kH (1+((z+37*(k:Nat)).fmod 255).toNat)).toNat))=d3 (gf z n):=by unfold d3 gf;refine aa dj ?_;rfl
theorem aff(w:Nat):ci ((w:Int).toNat) (ab.int 0)=(ci w 0).map .n:=aH (mo ..) afg rfl
theorem afh(w:Nat):(aK w).map (λJ=>ab.n 0)=(ci w 0).map .n:=aH afg Em (aa fj rfl)
theorem afi{l:List Nat}{k:Bool->Prop}(e:v=aJ l)(h:k false):bE (n7 σ .NotEq (aJ l) v) k:=by subst e;exact N0 h
section
variable{X:Cx}(CK:uP X)(P:Bc){n:Nat}{K:ab->ar->Prop}{σ:ar}{cr:List Int}{i:Nat}{x y z:Int}{w p size s:Nat}
include CK P
theorem afj(hs:cr.length≤100)(hi:i≤100)(g:iE w p s size)(hl:ls.length=w)(G:bt (60 / w+8) (jf w (aX s size w p)) ls σ Ls)(B:N8 Ls (aC (aX s size w p) (aG (gf z size) (aX s size w p) p))){u:Option ab}(h:∀σ',K (.bool true) σ') :
  dA X (n+10) (l6.body.drop 12) (i6 K) {m:=gM cr i x y z w p size s (some dz) (some (b9 ls p)) (some (eC ((aX s size w p).map bT))) u none (some (.bytes (gf z size))),fz:= [],σ:=σ}:=by
 have O:=P.oct w p s size ls (gf z size) g hl (lN z size)
 have hP:nK size (gf z size) (bx Ls ((aX s size w p).drop p)):=(O.FO B.D).mpr (by
  rw [fE];intro b hb;obtain ⟨y,_,rfl⟩:=bJ.mp hb;exact decide_eq_true nofun)
 exact Mine.Internal.gm CK.c ⟨kP,Fp CK.c O.B (by refine aa (lN ..) ?_;exact ag g.sP (nb rfl)) G λaF G1=>⟨λJ=> .fz lk (bj.f (FP _) (afa CK P hs hi g hl G1 (λk=>B.wn k▸da _) B.F B.D h)),λhn=>absurd hP hn⟩⟩
theorem afk(hs:cr.length≤100)(hi:i≤100)(g:iE w p s size)(hl:ls.length=w)(G:bt (60 / w+8) (jf w (aX s size w p)) ls σ Ls)(h0:qF Ls){u:Option ab}(h:∀σ',K (.bool true) σ') :
  dA X (n+10) (l6.body.drop 9) (i6 K) {m:=gM cr i x y z w p size s (some dz) (some (b9 ls p)) (some (eC ((aX s size w p).map bT))) u none (some (.bytes (gf z size))),fz:= [],σ:=σ}:=by
 have O:=P.oct w p s size ls (gf z size) g hl (lN z size)
 have dK:Ls.length=ls.length:=G.len
 have o8:(aK ls.length).length≤1000:=jE (ag O.B.T.gK (nb rfl))
 have hw:w≤1000000:=ag g.w6 (nb rfl)
 let S':ar->St:=λσ=>{m:=gM cr i x y z w p size s (some dz) (some (b9 ls p)) (some (eC ((aX s size w p).map bT))) u none (some (.bytes (gf z size))),fz:= [],σ:=σ}
 refine join S' (λaF=>bt (60 / w+8) (jf w (aX s size w p)) ls aF (iD 3 (aC (aX s size w p) (aG (gf z size) (aX s size w p) p)) Ls)) (λK' k J=>Mine.Internal.gm CK.c (Nn CK.c O.B.T G (λk=>h0.wn k▸da _) (by refine aa (lN ..) ?_;exact ag g.sP (nb rfl)) g.p1 g.p3 (aa hl g.pw) (af:=aX s size w p) (aH (lN ..) hl rfl) O.B.uN O.B.kr O.cp (cD:=3) (λk hk=>ff ((h0.out k).symm.trans hk))
  λaF G1=>bj.f (aa h0.au rfl) (k aF _ G1 rfl))) λaF G1=>Mine.Internal.gm CK.c (Ny CK.c O.B.T G1 λaR sO G2 iW afl=> ?_)
 have B:=afc O h0 dK G2.len afl
 generalize iD 3 (aC (aX s size w p) (aG (gf z size) (aX s size w p) p)) Ls=qE at *
 refine Mine.Internal.gm CK.c (Fw CK.c O.B.T.gK (fh [false,false,false,false,false,false,false,false,false,false,false,false,false,false,false,false,true] (aK ls.length) (λk=> .ref (ls.getD k 0)) (λJ=> .n 0) (k5 o8) (λk hk K' kk=> ?_) (j3 (ws:=(ci w 0).map ab.n) (aa hl (afh w)) (by refine aa (aE ..) (aa pV ?_);exact ag g.w6 (nb rfl)) ?_) (Fu ls)))
 ·obtain ⟨fs,G2⟩:=G2;obtain ⟨gg,a,b,mem,a0,DD⟩:=G2.at_ k (fZ.mp hk)
  have e0:a0.length=0:=DD.wn.trans (B.wn k)
  exact b0 DD.lf (v:= .ref (fs.getD k lI).d) (DD.dk.aI CK.c (ac' CK.c DD.dk (e0▸da _) (kk _ _ (congrArg ab.n e0) rfl)))
 ·exact .fz lk ⟨⟨et w,dU.mpr (ag g.w6 (nb rfl))⟩,afi (congrArg ab.list (aff w)) (afj CK P hs hi g hl G2 B h)⟩
theorem afm(hs:cr.length≤100)(hi:i≤100)(g:iE w p s size)(hl:ls.length=w)(G:bt (60 / w+8) (jf w (aX s size w p)) ls σ Ls)(h0:qF Ls)(h:∀σ',K (.bool true) σ') :
  dA X (n+10) (l6.body.drop 7) (i6 K) {m:=gM cr i x y z w p size s (some dz) (some (b9 ls p)) (some (eC ((aX s size w p).map bT))) (some (.n (nO (aX s size w p)))) none none,fz:= [],σ:=σ}:=by
 subst hl
 have O:=P.oct _ p s size ls (gf z size) g rfl (lN z size)
 obtain ⟨ha,uA⟩:=P.Be _ p s size g
 have xY:ls.length≤1000:=ag O.B.T.gK (nb rfl)
 have dD:p≤1000:=ag g.p3 (nb rfl)
 have hz:size≤1000:=ag g.sP (nb rfl)
 have o8:=N7 (ip g.w2)
 have FU:60 / ls.length≤60:=oz _ _
 have ec: -(fV (-((nO (aX s size ls.length p):Nat):Int)) ((p:Int)+1))=(((nO (aX s size ls.length p)+p) / (p+1):Nat):Int):=Fs _ (p+1) (rQ p)
 let S':St:={m:=gM cr i x y z ls.length p size s (some dz) (some (b9 ls p)) (some (eC ((aX s size ls.length p).map bT))) (some (.n (nO (aX s size ls.length p)))) none none,fz:= [],σ:=σ}
 refine join (λ_:Unit=>S') (λJ=>True) (λK' k J=>Mine.Internal.gm CK.c (Fx CK.c O.B.T (λJ=>true) (λk hk=> ?_) (λJ=>⟨⟨oP.mpr (fK o8),cY (k6 xY)⟩,⟨cY (x:=60 / ls.length+4) (ag (gG FU 4) (nb rfl)),cY (k6 xY)⟩,bj.f (by refine aa (N6 rfl) (aa (dt rfl) ?_);rfl) ?_⟩) λga=>ff (ga 0 o8).symm)) λJ J=> ?_
 ·obtain ⟨fs,G⟩:=G;exact aa (if_pos rfl) (⟨_,_,_,_,G.at_ k hk⟩)
 ·refine Mine.Internal.gm CK.c (acS CK.c hz g.p1 g.p3 g.pw O.B.T.gK ⟨⟨oP.mpr (MQ p),cY (x:=p+1) (ag (fT dD) (nb rfl))⟩,⟨⟨by refine aa ec ?_;exact cY (ag (oz _ _) (ag (fP uA dD) (nb rfl))),cY (x:=p+1) (ag (fT dD) (nb rfl))⟩,
   bj.f (congrArg Bool.not (dt (by refine aa ec (aa ha ?_);exact aeZ ..))) (k () _ trivial rfl)⟩⟩)
 ·refine ⟨rg hz,fh [false,false,false,false,false,false,false,false,false,false,false,false,false,false,false,false,true] (aK size) .n (λk=> .int ((kH (1+((z+37*(k:Nat)).fmod 255).toNat)).toNat)) (jE (k5 hz)) (λk hk K' kk=> ?_) (j3 (afe z size) (by refine aa (xf ..) (aa (lN ..) ?_);exact hz) (wZ (aa (lN ..) (k6 hz)) (jl (afk CK P hs hi g rfl G h0 h)))) (i8 _)⟩;refine ⟨⟨by decide,cY (ag (bS (fZ.mp hk)) (k6 hz))⟩,by decide,kk _ _ (congrArg ab.int (afd z k).symm) rfl⟩
end
theorem afn(z:Int):∃m:Nat,max (1:Int) (min 2 z)=m/\m≤2 :=
 ⟨_,(tR (il (by decide) (Int.le_max_left 1 _))).symm,t9.mpr (Int.max_le.mpr ⟨by decide,Int.min_le_left ..⟩)⟩
theorem afo:∀a<5,min (3:Int) (((2+a:Nat):Int) - 1)=((min 3 (1+a):Nat):Int):=by decide
theorem N'(l:List Nat):(l.map λ(x:Nat)=>(x:Int)).sum=(l.sum:Nat):=by
 induction l with
 | nil=>rfl
 | cons x l ih=>refine aa eP (aa sd (aa sd (aa ih ?_)));rfl
theorem gZ.make{S row:Nat}{d b w m r:Addr}{g:Int}{mem:List UInt8}(ha:σ a=some (.inst 739 (qC d g m)))(hd:gb σ d b w false 0 0 mem [])(hr:jJ σ m r false)(hl:mem.length=4*S)(nd:w≠r) :
  mI S row aQ σ a ⟨d,b,w,m,r⟩ ⟨false,false,win mem (2+row) aQ,0⟩:=⟨g,0,0,mem,[],ha,hd,hr,hl,λx hx=>(by cases hx),rfl,rfl,nd⟩
theorem sQ{q:Addr}(h:σ a=none)(e:σ q=some o):q≠a:=λh'=>nn (h.symm.trans (ao h' e))
theorem lJ.leaf{S:Nat}{fs:List Ft}(G:lJ S ws ls σ fs Ls){d b w m r:Addr}{g:Int}(hd:σ d=none)(hb:σ b=none)(hw:σ w=none)
  (D1:gb aF d b w false 0 0 (ci (4*S) 0) []) (k1:∀x,x≠d->x≠b->x≠w->aF x=σ x) (ha:aF a=none) (hm:aF m=none) (hr:aF r=none) (e2:aR a=some (.inst 739 (qC d g m))) (R2:jJ aR m r false) (k2:∀x,x≠a->x≠m->x≠r->aR x=aF x) :
  lJ S ws (ls++ [a]) aR (fs++ [⟨d,b,w,m,r⟩]) (Ls++ [L0 S ws ls.length]):=by
 have keep:∀{q o},aF q=some o->aR q=some o:=λe=>(k2 _ (sQ ha e) (sQ hm e) (sQ hr e)).trans e
 have old:∀{q},aF q=none->σ q=none:=λ{q} h=>(k1 q (sQ h D1.d).symm (sQ h D1.b).symm (sQ h D1.w).symm).symm.trans h
 refine G.push (gZ.make e2 ⟨keep D1.d,keep D1.b,keep D1.w⟩ R2 (aa pV rfl) (sQ hr D1.w)) (λx hx=> ?_) λq hq=> ?_
 ·change x∈ [a,d,b,w,m,r] at hx
  simp only [br,eZ,or_false] at hx
  rcases hx with rfl | rfl | rfl | rfl | rfl | rfl
  ·exact old ha
  ·exact hd
  ·exact hb
  ·exact hw
  ·exact old hm
  ·exact old hr
 ·have h1:=k1 q (λe=>hq (aa e hd)) (λe=>hq (aa e hb)) λe=>hq (aa e hw)
  have FZ:aF q≠none:=aa h1 hq
  exact (k2 q (λe=>FZ (e▸ha)) (λe=>FZ (e▸hm)) λe=>FZ (aa e hr)).trans h1
structure Bf(S:Nat)(ws:List (Nat×Nat))(i:Nat)(acc:List ab)(y:ar×List Addr):Prop where
 len:y.2.length=i
 acc:acc=y.2.map .ref
 G:bt S ws y.2 y.1 ((aK i).map (L0 S ws))
theorem Bf.step{S i:Nat}{acc:List ab}{y:ar×List Addr}(M:Bf S ws i acc y){d b w m r:Addr}{g:Int}(hd:y.1 d=none)(hb:y.1 b=none)(hw:y.1 w=none)
  (D1:gb aF d b w false 0 0 (ci (4*S) 0) []) (k1:∀x,x≠d->x≠b->x≠w->aF x=y.1 x) (ha:aF a=none) (hm:aF m=none) (hr:aF r=none) (e2:aR a=some (.inst 739 (qC d g m))) (R2:jJ aR m r false) (k2:∀x,x≠a->x≠m->x≠r->aR x=aF x) :
  Bf S ws (i+1) (acc++ [.ref a]) (aR,y.2++ [a]) where
 len:=by refine aa de (aa M.len ?_);rfl
 acc:=by refine aa M.acc (aa gW ?_);rfl
 G:=by
  refine iH M.G λfs G=> ?_
  have G2:=G.leaf hd hb hw D1 k1 ha hm hr e2 R2 k2
  rw [M.len] at G2
  refine aa Ag (aa gW ?_);exact ⟨_,G2⟩
theorem afp(l:List bK):(l.map bT).map (λq=>ab.n q.2.2)=((l.map λc=>c.2.2.1).map λ(x:Nat)=>(x:Int)).map .int:=by refine aH dj dj (aa dj ?_);rfl
section
variable{X:Cx}(CK:uP X)(P:Bc){n:Nat}{K:ab->ar->Prop}{σ:ar}{cr:List Int}{i:Nat}{x yy z:Int}{w p size s:Nat}
include CK P
theorem afq(hs:cr.length≤100)(hi:i≤100)(g:iE w p s size)(hl:ls.length=w)(G:bt (60 / w+8) (jf w (aX s size w p)) ls σ Ls)(h0:qF Ls)(h:∀σ',K (.bool true) σ') :
  dA X (n+10) (l6.body.drop 6) (i6 K) {m:=gM cr i x yy z w p size s (some dz) (some (b9 ls p)) (some (eC ((aX s size w p).map bT))) none none none,fz:= [],σ:=σ}:=by
 have O:=P.oct w p s size ls (gf z size) g hl (lN z size)
 have hcl:(aX s size w p).length≤1000:=ag O.B.kr (nb rfl)
 refine fh [false,false,false,false,false,false,false,false,false,false,false,false,false,false,false,false,true] ((aX s size w p).map bT) o4 (λq=> .n q.2.2) (aa (aE ..) (k5 hcl)) (λq J K' kk=>kk _ _ rfl rfl) (j3 (afp _) (by refine aa (aE ..) (aa (aE ..) (aa (aE ..) ?_));exact hcl) (ZZ (λq hq=> ?_) (by refine aa (aE ..) (aa (aE ..) ?_);exact k6 hcl) ?_))
 ·refine aD (bJ.mp hq) λm hm bb=> ?_;subst bb;refine aD (bJ.mp hm) λc hc bb=> ?_;subst bb;exact ⟨et _,dU.mpr (ag (O.B.xM c hc).1 (nb rfl))⟩
 exact aa (N' ..) (jl (afm CK P hs hi g hl G h0 h))
theorem afr(hs:cr.length≤100)(hi:i≤100)(g:iE w p s size)(hl:ls.length=w)(G:bt (60 / w+8) (jf w (aX s size w p)) ls σ Ls)(h0:qF Ls)(h:∀σ',K (.bool true) σ') :
  dA X (n+10) (l6.body.drop 5) (i6 K) {m:=gM cr i x yy z w p size s (some dz) (some (b9 ls p)) none none none none,fz:= [],σ:=σ}:=by
 refine pd (P.Bd w p s size g) λnE uE afs=> ?_
 have pc:∀{K:ab->ar->Prop} (t:Bool),t=gX s p->K (eC ((aX s size w p).map bT)) σ->aB X (n+10) (.ref 757) [.n s, .int (-(fV (-(size:Int)) 4)), .n w, .n p, .bool t] [] K σ:=by
  rintro K _ rfl k
  exact aa (show -(fV (-(size:Int)) 4)=(((size+3) / 4:Nat):Int) from Fs size 4 (nb rfl)) (adS CK.c (ag (AC (gG g.sP 3)) (nb rfl)) g.p3 g.pw (ag g.w6 (nb rfl)) uE (λht=>⟨afs ht,g.w2⟩) (aa nE k))
 let S':St:={m:=gM cr i x yy z w p size s (some dz) (some (b9 ls p)) (some (eC ((aX s size w p).map bT))) none none none,fz:= [],σ:=σ}
 refine join (λ_:Unit=>S') (λJ=>True) (λK' k J=>⟨⟨by decide,by decide⟩,sg (a:=p) (b:=1) (λq=>⟨⟨by decide,by decide⟩,by decide,pc _ ?_ (k () _ trivial rfl)⟩) λq=>pc _ ?_ (k () _ trivial rfl)⟩) λJ J=>afq CK P hs hi g hl G h0 h
 ·rewrite [gX];refine aa (dt q) (aa (MR ..) ?_);exact decide_eq_decide.mpr kG
 ·rewrite [gX];refine aa (df q) (aa (IA ..) ?_);exact df λh=>q (kG.mp h)
theorem aft(hs:cr.length≤100)(hi:i≤100)(g:iE w p s size)(h:∀σ',K (.bool true) σ') :
  dA X (n+10) (l6.body.drop 4) (i6 K) {m:=gM cr i x yy z w p size s (some dz) none none none none none,fz:= [],σ:=σ}:=by
 have hw:w≤1000:=ag g.w6 (nb rfl)
 let S':ar×List Addr->St:=λy=>St.Hn {m:=gM cr i x yy z w p size s (some dz) none none none none none,fz:= [],σ:=y.1} 2
 refine ⟨rg hw,EC [false,false,false,false,false,false,false,false,false,false,false,false,false,false,false,false,true] (aK w) .n S' (Bf (60 / w+8) (jf w (aX s size w p))) (σ,[]) ⟨rfl,rfl,[],rfl,rfl,λJ=>nofun,λJ J=>nofun⟩ (jE (k5 hw)) (λJ=>dY) (λk k' acc y K' ek M kk=> ?_) (λacc y M=> ?_) (i8 _)⟩
 ·obtain ⟨rfl,hk⟩:=qq ek;refine ⟨⟨(oP.mpr (fK (N7 (ip g.w2)))),cY (k6 hw)⟩,ad9 CK (z:=60 / w+8) (ag (gG (oz _ _) 8) (nb rfl)) λd b wt aF hd hb Fa n1 n2 n3 D1 k1=>ad' CK λa m r aR ha hm hr n4 n5 n6 e2 R2 k2=>kk _ (aR,y.2++ [a]) _ (M.step hd hb Fa D1 k1 ha hm hr e2 R2 k2) rfl⟩
 ·have hl:=M.len.trans fj
  have G:=M.G
  rw [fj] at G
  exact aa M.acc (aaC (aa hl hw) (aeb CK (jl (afr CK P hs hi g hl G afb h))))
theorem afu(hs:cr.length≤100)(hi:i≤100)(g:iE w p s size)(h:∀σ',K (.bool true) σ') :
  dA X (n+10) (l6.body.drop 3) (i6 K) {m:=gM cr i x yy z w p size s none none none none none none,fz:= [],σ:=σ} :=
 ad7 CK (jl (aft CK P hs hi g h))
theorem afv(hs:cr.length≤100)(hi:i≤100){v:Int}{a:Nat}(ev:v=((2+a:Nat):Int))(ha:a<5)(h:∀σ',K (.bool true) σ') :
  dA X (n+10) (l6.body.drop 2) (i6 K) {m:= [some (.list (cr.map .int)),some (.n i),some (.int x),some (.int yy),some (.int z),some (.int v),none,none,none,none,none,none,none,none,none],fz:= [],σ:=σ}:=by
 subst ev
 have Oa:=afo a ha
 refine aD (uW (x.fdiv 5) (min 3 (1+a)) (Nat.lt_min.mpr ⟨by decide,eB adH (cb 1 a)⟩)) λb eb hb=>aD (uW yy 28 (nb rfl)) λc ec hc=> ?_;refine aD (uW (yy.fdiv 28) 20 (nb rfl)) λd ed hd=> ?_
 let S':Unit->St:=λJ=>{m:=gM cr i x yy z (2+a) (1+b) (1+c) d none none none none none none,fz:= [],σ:=σ}
 refine join S' (λJ=>True) (λK' k J=>⟨⟨by decide,by decide⟩,LG ⟨aa Oa (FC (ir.mpr (eD (da b) hb))),⟨by decide,⟨by decide,by decide⟩,by decide, ?_⟩⟩⟩) λJ J=>afu CK P hs hi ⟨cb ..,lP (pe ha) 2,cb ..,ag (b6 (ll ..)) (ag hb (kD ..)),eB (wW (eB hb (jX ..)) 1) (b6 (ka 1 1 a).symm),cb ..,ag (b6 (ll ..)) hc,hd⟩ h;refine k () _ trivial (congrArg (λt:Int×Int×Int=>({m:= [some (.list (cr.map .int)),some (.n i),some (.int x),some (.int yy),some (.int z),some (.n (2+a)),some (.int t.1),some (.int t.2.1),some (.int t.2.2),none,none,none,none,none,none],fz:= [],σ:=σ}:St)) (?_:(1+mZ (fV x 5) (min 3 (((2+a:Nat):Int) - 1)),1+mZ yy 28,mZ (fV yy 28) 20)=(((1+b:Nat):Int),((1+c:Nat):Int),(d:Int))));refine aa Oa (aa (lY ..) (aH (lY ..) (lY ..) (aH (pB ..) (pB ..) (aH eb (show yy.fmod 28=c from ec) (aa (show (yy.fdiv 28).fmod 20=d from ed) ?_)))))
 rfl
theorem afw(hs:cr.length≤100)(hi:i≤90)(h:∀σ',K (.bool true) σ'):aB X (n+11) (.ref 798) [.list (cr.map .int), .n i] [] K σ:=by
 have F0:∀{K:ab->ar->Prop} k,k≤100->(∀x,K (.int x) σ)->aB X (n+10) (.ref 750) [.list (cr.map .int), .n k] [] K σ:=λk hk h=>Fy CK.c (ag hs (nb rfl)) (ag hk (nb rfl)) (.inl rfl) (h _)
 let S1:Int×Int×Int->Option ab->St:=λt v=>{m:= [some (.list (cr.map .int)),some (.n i),some (.int t.1),some (.int t.2.1),some (.int t.2.2),v,none,none,none,none,none,none,none,none,none],fz:= [],σ:=σ}
 refine CK.c.call 78 rfl rfl (join (λt=>S1 t none) (λJ=>True) (λK' k J=>F0 i (ag hi (nb rfl)) λx=>F0 (i+1) (ag (gG hi 1) (nb rfl)) λy=>F0 (i+2) (ag (gG hi 2) (nb rfl)) λz=>k (x,y,z) _ trivial rfl) λt J =>
  join (λ_:Unit=>S1 t (some (.int (2+mZ t.1 5)))) (λJ=>True) (λK' k J=>⟨by decide,k () _ trivial rfl⟩) λJ J=> ?_)
 exact aD (uW t.1 5 (nb rfl)) λa ea ha=>afv CK P hs (ag hi (nb rfl)) (by refine aa (lY ..) (aa (show t.1.fmod 5=a from ea) ?_);rfl) ha h
theorem afx{sv:ab}(hv:lz σ sv (cr.map .int))(hl:cr.length≤1000)(h:∀σ',K (.bool true) σ'):aB X (n+12) (.ref 805) [sv] [] K σ:=by
 have pL:∀sc:List Int,sc.length≤63->dA X (n+11) (H3.body.drop 1) (i6 K) {m:= [some (.list (sc.map .int)),none],fz:= [],σ:=σ}:=by
  intro sc ht;refine aD (afn (fV (sc.length:Int) 5)) λm em hm=> ?_
  let S':ar->St:=λσ=>{m:= [some (.list (sc.map .int)),none],fz:= [],σ:=σ}
  refine cx (k:=sc.length) (congrArg some (aE _)) (ag ht (nb rfl)) ⟨⟨by decide,by decide⟩,LG (ZW ?_)⟩;refine ⟨aa em (rg (ag hm (nb rfl))),loop [false,true] (aK m) .n S' (λJ J=>True) σ trivial (λJ J J=>dY) (λi i' σ' K' ei J k J=> ?_) (λσ' J=>h σ') (aa em (i8 _))⟩;obtain ⟨rfl,hi⟩:=qq ei;refine ⟨⟨by decide,cY (ag (bS hi) (ag hm (nb rfl)))⟩, ?_⟩;exact afw CK P (ag ht (nb rfl)) (ag (c8 5 (bS (eB hi hm))) (nb rfl)) λaR=>k aR _ trivial rfl
 have ht:(cr.take 63).length≤63:=N3 ..
 refine CK.c.call 79 rfl rfl ?_;rcases hv with rfl | ⟨a,rfl,e⟩
 ·exact Av (k:=63) (nb rfl) hl λws ew=>jl (pL ws (aa ew ht))
 ·exact Fz (k:=63) e (nb rfl) (aa (aE ..) hl) (ao xq (jl (pL _ ht)))
end
noncomputable def exts:List Nat->Nat->List (List Nat)
 | [],_=> [[]]
 | x::l,0=>exts l 0
 | x::l,k+1=>(exts l k).map (λz=>x:: z)++exts l (k+1)
theorem F3{l E:List Nat}(h:E.Sublist l):∀{k:Nat},E.length≤k->E∈exts l k:=by
 induction h with
 | slnil=>intro k _;exact dT.mpr rfl
 | cons x h ih =>
  intro k hk;cases k with
  | zero=>exact ih hk
  | succ k=>exact ji.mpr (.inr (ih hk))
 | cons_cons x h ih =>
  intro k hk;cases k with
  | zero=>simp at hk
  | succ k=>exact ji.mpr (.inl (nt (ih (by simpa using hk))))
theorem afy:∀{a:Nat} {l:List Nat},l.Pairwise (λz cf=>z < cf)->(∀x∈l,a≤x/\x<a+k)->l.Sublist (ic a k):=by
 induction k with
 | zero =>
  intro a l _ h;rcases l with _ | ⟨x,l⟩
  ·exact .slnil
  ·exact absurd (h x (.head _)).2 (dC.mpr (h x (.head _)).1)
 | succ k ih =>
  intro a l hp h;rcases l with _ | ⟨x,l⟩
  ·exact List.nil_sublist _
  have xu:=qc.mp hp
  refine aa El ?_
  have hx:=h x (.head _)
  have up:∀{y},y<a+(k+1)->y<a+1+k:=λ{y} h=>by refine aa (ka ..) (aa (ll 1 k) ?_);exact h
  by_cases q:x=a
  ·subst q;exact .cons_cons _ (ih xu.2 λy hy=>⟨xu.1 y hy,up (h y (.tail _ hy)).2⟩)
  ·have q:=Ee hx.1 (iO q)
   refine .cons _ (ih hp λy hy=>⟨?_,up (h y hy).2⟩);rcases br.mp hy with e | hy
   ·exact e▸q
   ·exact ag q (bS (xu.1 y hy))
theorem Ob{l:List Nat}(h:l.Nodup):(bB l).Pairwise (λz cf=>z < cf):=by
 have h1:((bB l).map λ(x:Nat)=>(x:Int)).Pairwise (λz cf=>z ≤ cf):=by refine ao (uL ..) ?_;exact z7 _
 rw [wz] at h1
 have h2:(bB l).Pairwise (λz cf=>z ≠ cf):=A6 h
 exact (h1.and h2).imp λh=>Ee (dU.mp h.1) h.2
theorem afz(q:α->Prop) [DecidablePred q](f:α->Nat):∀l:List α,(l.filterMap λx=>if q x then none else some (f x)).Sublist (l.map f):=by
 intro l
 induction l with
 | nil=>exact .slnil
 | cons x l ih =>
  refine aH lC eP ?_
  by_cases h:q x
  ·simp only [if_pos h];exact .cons _ ih
  ·simp only [if_neg h];exact .cons_cons _ ih
theorem Oc(hs:List (Option (List UInt8))):(g8 hs).Sublist (aK hs.length):=by
 have h:=afz (λx:Option (List UInt8)×Nat=>x.1.isSome=true) (λx=>x.2) hs.zipIdx
 have e:hs.zipIdx.map (λx=>x.2)=aK hs.length:=by
  exact aH JN (show (λx:Option (List UInt8)×Nat=>x.2)=wy from rfl) (aa (List.zipIdx_map_snd ..) rfl)
 rw [e] at h
 exact h
noncomputable def Od(n p:Nat)(g:List Nat):Bool:=match gr n g p 100 [g] 0 with
 | none=>false
 | some r=>decide (r.length≤1000)&&(r.all λl=>decide (l.length≤p)&&decide l.Nodup&&l.all λx=>decide (x<n))&&(exts ((aK n).filter λx=> !g.contains x) (p - g.length)).all λE=>r.contains (g++E)
theorem afA:∀n∈ [2,3,4,5,6],∀p∈ [1,2,3],p<n->∀g∈exts (aK n) p,Od n p g=true:=by decide +kernel
noncomputable def xs(l:List Nat):Nat:=l.foldr (λz cf=>z ^^^ cf) 0
noncomputable def xZ(m:Nat)(bL cA:List Nat)(inv:bl):Bool :=
 (aK bL.length).all λi=>bL.all λq=> [1,2,4,8,16,32,64,128].all λb =>
  decide (xs ((aC (inv.getD i []) cA).map λx=>dm (dm b (gq 2 (x.2*(m - 1 - q)))) x.1)=if bL.getD i 99=q then b else 0)
noncomputable def x5(n p:Nat)(l:List Nat):Bool :=
 let bL:=cP p l
 let cA:=(fm p l).take bL.length
 (bL.all λq=>decide (q<n - p))&&decide (bL.length≤6)&&decide (bL.length≤(fm p l).length)&&match qs (oN (n - p) bL cA) with
 | none=>false
 | some inv=>decide (inv.length=bL.length)&&(inv.all λr=>decide (r.length=bL.length)&&r.all λx=>decide (x<256))&&xZ (n - p) bL cA inv
theorem afB:∀n∈ [2,3,4,5,6],∀p∈ [1,2,3],p<n->∀l∈exts (aK n) p,x5 n p l=true:=by decide +kernel
theorem F6(x:Nat):eJ x=(x <<< 1) ^^^ (if 127<x then 285 else 0):=by
 unfold eJ;refine aa (Nat.shiftLeft_eq ..) (aa (Nat.pow_one ..) ?_)
 split
 ·rfl
 ·exact aa (qG ..) rfl
theorem F7{x:Nat}(h:x<256):decide (127<x)=x.testBit 7:=by
 have:∀x:Fin 256,decide (127<x.1)=x.1.testBit 7:=by decide +kernel
 exact this ⟨x,h⟩
theorem F8(a b c d:Nat):(a ^^^ b) ^^^ (c ^^^ d)=(a ^^^ c) ^^^ (b ^^^ d):=by
 refine aH (uX ..) (uX ..) ?_;congr 1;exact sU (uX ..) (uX ..) (aa (afC b c) rfl)
theorem Oe{a b:Nat}(ha:a<256)(hb:b<256):eJ (a ^^^ b)=eJ a ^^^ eJ b:=by
 refine aH (F6 ..) (F6 ..) (aH (F6 ..) Nat.shiftLeft_xor_distrib (aa (F8 ..) ?_))
 congr 1
 have h:=F7 (xc ha hb)
 rw [Nat.testBit_xor,<-F7 ha,<-F7 hb] at h
 by_cases h1:127<a<;>by_cases h2:127<b<;>simp only [h1,h2,decide_true,decide_false] at h<;>simp at h
 ·exact aH (if_neg (dC.mpr h)) (if_pos h1) (aa (if_pos h2) (aa (F9 ..) rfl))
 ·exact aH (if_pos h) (if_pos h1) (aa (if_neg h2) (aa (qG ..) rfl))
 ·exact aH (if_pos h) (if_neg h1) (aa (if_pos h2) (aa (t0 ..) rfl))
 ·exact aH (if_neg (dC.mpr h)) (if_neg h1) (aa (if_neg h2) (aa (qG ..) rfl))
theorem afD:∀{f f' x x' y:Nat},x<256->x'<256->i7 k (f ^^^ f') (x ^^^ x') y=i7 k f x y ^^^ i7 k f' x' y:=by
 induction k with
 | zero=>exact λJ J=>rfl
 | succ k ih =>
  intro f f' x x' y hx oA;refine (?_:(if 0<y then i7 k (if y &&& 1=1 then (f ^^^ f') ^^^ (x ^^^ x') else f ^^^ f') (eJ (x ^^^ x')) (y / 2) else f ^^^ f')=(if 0<y then i7 k (if y &&& 1=1 then f ^^^ x else f) (eJ x) (y / 2) else f) ^^^ (if 0<y then i7 k (if y &&& 1=1 then f' ^^^ x' else f') (eJ x') (y / 2) else f'))
  by_cases q:0<y
  ·refine aH (if_pos q) (if_pos q) (aH (if_pos q) (Oe hx oA) (ao (ih (sh hx) (sh oA)) ?_))
   by_cases q2:y &&& 1=1
   ·exact aH (if_pos q2) (if_pos q2) (aH (if_pos q2) (F8 ..) rfl)
   ·exact aH (if_neg q2) (if_neg q2) (aa (if_neg q2) rfl)
  ·exact aH (if_neg q) (if_neg q) (aa (if_neg q) rfl)
theorem F'{a b:Nat}(y:Nat)(ha:a<256)(hb:b<256):dm (a ^^^ b) y=dm a y ^^^ dm b y:=by
 have:=afD (k:=8) (f:=0) (f':=0) (y:=y) ha hb
 rwa [F9] at this
theorem afE:∀{y:Nat},i7 k 0 0 y=0:=by
 induction k with
 | zero=>exact rfl
 | succ k ih =>
  intro y;refine (?_:(if 0<y then i7 k (if y &&& 1=1 then 0 ^^^ 0 else 0) 0 (y / 2) else 0)=0);exact aa (show (if y &&& 1=1 then 0 ^^^ 0 else 0)=0 from ite_self 0) (aa ih (aa (ite_self ..) rfl))
theorem Bg(y:Nat):dm 0 y=0:=afE
def sR(F:Nat->Nat):Prop:=F 0=0/\∀a b,a<256->b<256->F (a ^^^ b)=F a ^^^ F b
theorem afF:∀n:Fin 8,∀y:Fin 128,y.1<2^n.1->2^n.1 ^^^ y.1=2^n.1+y.1:=by decide +kernel
theorem afG:∀n:Fin 8,2^n.1∈ [1,2,4,8,16,32,64,128]:=by decide
theorem Og{F G:Nat->Nat}(hF:sR F)(hG:sR G)(h:∀b∈ [1,2,4,8,16,32,64,128],F b=G b){x:Nat}(hx:x<256):F x=G x:=by
 suffices pL:∀n≤8,∀x,x<2^n->F x=G x from pL 8 (cg _) x hx
 clear hx x;intro n
 induction n with
 | zero=>intro _ x hx;exact aa (Nat.lt_one_iff.mp hx) (aa hF.1 (aa hG.1 rfl))
 | succ n ih =>
  intro hn x hx;rcases M7 x (2^n) with q | q
  ·exact ih (ip hn) x q
  ·obtain ⟨y,rfl⟩:=AO q;rw [Nat.pow_succ,Nat.mul_two] at hx
   have hy:=ac0 hx
   have h7:2^n≤128:=LV (n:=2) (i:=n) (j:=7) (nb rfl) (JF hn)
   have h8:2^n<256:=eD h7 (nb rfl)
   exact ao (afF ⟨n,hn⟩ ⟨y,eB hy h7⟩ hy) (aa (hF.2 _ _ h8 (Ga hy h8)) (aa (hG.2 _ _ h8 (Ga hy h8)) (aa (h _ (afG ⟨n,hn⟩)) (aa (ih (ip hn) y hy) rfl))))
noncomputable def hV:Nat->Nat->Nat
 | 0,x=>x
 | k+1,x=>eJ (hV k x)
theorem Bh{x:Nat}(h:x<256)(k):hV k x<256:=k.rec h λJ=>sh
theorem afH(x:Nat)(a:Nat)(b):hV b (hV a x)=hV (a+b) x:=b.rec rfl λJ e=>congrArg eJ e
theorem Gb:∀k,sR (hV k):=by
 intro k
 induction k with
 | zero=>exact ⟨rfl,λJ J J J=>rfl⟩
 | succ k ih=>exact ⟨by show eJ (hV k 0)=0;refine aa (ih.1) ?_;rfl,λa b ha hb=>by show eJ (hV k _)=_;refine aa (ih.2 a b ha hb) (aa (Oe (Bh ha k) (Bh hb k)) ?_);rfl⟩
theorem Oh(y:Nat):sR λx=>dm x y:=⟨Bg y,λJ J ha hb=>F' y ha hb⟩
theorem Oi{x:Nat}(hk:k≤8)(hx:x<256):dm x (gq 2 k)=hV k x:=by
 have base:∀k:Fin 9,∀b∈ [1,2,4,8,16,32,64,128],dm b (gq 2 k.1)=hV k.1 b:=by decide +kernel
 exact Og (Oh _) (Gb k) (base ⟨k,u6 hk⟩) hx
theorem afI{l:List Nat}(h:∀x∈l,x<256):xs l<256:=by
 induction l with
 | nil=>decide
 | cons x l ih=>exact xc (h x (.head _)) (ih λy hy=>h y (.tail _ hy))
theorem Bi(x:Nat)(l:List Nat):xs (x::l)=x ^^^ xs l:=rfl
theorem afJ{F:Nat->Nat}(hF:sR F){l:List Nat}(h:∀x∈l,x<256):F (xs l)=xs (l.map F):=by
 induction l with
 | nil=>exact hF.1
 | cons x l ih =>
  have hl:∀y∈l,y<256:=λy hy=>h y (.tail _ hy)
  exact (hF.2 _ _ (h x (.head _)) (afI hl)).trans (congrArg (λz=>F x ^^^ z) (ih hl))
theorem Gc(f g:α->Nat)(l:List α):xs (l.map f) ^^^ xs (l.map g)=xs (l.map λx=>f x ^^^ g x):=by
 induction l with
 | nil=>exact F9 0
 | cons x l ih=>exact (F8 ..).trans (congrArg (λz=>f x ^^^ g x ^^^ z) ih)
theorem Bj(l:List α):xs (l.map λJ=>0)=0:=by
 induction l with
 | nil=>rfl
 | cons x l ih=>exact (t0 _).trans ih
theorem afK(g:α->β->Nat)(B:List β)(A:List α):xs (A.map λa=>xs (B.map λb=>g a b))=xs (B.map λb=>xs (A.map λa=>g a b)):=by
 induction A with
 | nil=>exact (Bj B).symm
 | cons a A ih=>exact (congrArg (λz=>xs (B.map λb=>g a b) ^^^ z) ih).trans (Gc ..)
theorem afL(y:Nat->Nat){n:Nat}{l:List Nat}(hn:l.Nodup)(h:n∈l):xs (l.map λq=>if n=q then y q else 0)=y n:=by
 induction l with
 | nil=>exact absurd h eZ
 | cons x l ih =>
  have hn:=f6.mp hn
  refine aa eP (aa (Bi ..) ?_)
  by_cases q:n=x
  ·subst q;exact aa (if_pos rfl) (aa (f0 (g:=λJ=>0) λz hz=>if_neg λe:n=z=>hn.1 (e▸hz)) (aa (Bj ..) (aa (qG ..) rfl)))
  ·refine aa (if_neg q) (aa (t0 ..) ?_);exact ih hn.2 ((br.mp h).resolve_left q)
noncomputable def cj(b:List UInt8)(t:Nat):Nat:=(b.getD t 0).toNat
theorem Bk(b:List UInt8)(t:Nat):cj b t<256:=qo _
theorem Oj(t:Nat):cj [] t=0:=rfl
theorem Ok:∀{a:List UInt8},b.length≤a.length->∀t,cj (uo a b) t=cj a t ^^^ cj b t:=by
 induction b with
 | nil=>intro a _ t;rcases a with _ | ⟨x,a⟩<;>exact (qG _).symm
 | cons y b ih =>
  intro a h t;rcases a with _ | ⟨x,a⟩
  ·exact absurd h (NA _)
  rcases t with _ | t
  ·exact aaH x y
  ·exact ih (JF h) t
theorem Bl(a b:List UInt8)(t:Nat):cj (d8 a b) t=cj a t ^^^ cj b t:=by
 unfold d8
 split
 ·next h=>rewrite [Ok (bS h)];exact aa (afC ..) rfl
 ·next h=>exact Ok (fG h) t
theorem Ol:∀t:Nat,cj (j0 b) t=eJ (cj b t):=by
 induction b with
 | nil=>exact λJ=>rfl
 | cons x b ih =>
  intro t;rcases t with _ | t
  ·exact L3 x
  ·exact ih t
theorem afM(w:Nat)(b:List UInt8)(t:Nat):cj (j4 w b) t=hV w (cj b t):=by
 induction w with
 | zero=>rfl
 | succ w ih=>refine aa Ma (aa (Ol ..) (aa ih ?_));rfl
theorem afN(t:Nat):∀{f x:List UInt8} {y:Nat},cj (qp k f x y) t=i7 k (cj f t) (cj x t) y:=by
 induction k with
 | zero=>exact rfl
 | succ k ih =>
  intro f x y;refine (?_:cj (if 0<y then qp k (if y &&& 1=1 then d8 f x else f) (j0 x) (y / 2) else f) t=(if 0<y then i7 k (if y &&& 1=1 then cj f t ^^^ cj x t else cj f t) (eJ (cj x t)) (y / 2) else cj f t))
  by_cases q:0<y
  ·refine aH (if_pos q) (if_pos q) (aa ih (aa (Ol ..) ?_))
   by_cases q2:y &&& 1=1
   ·exact aH (if_pos q2) (if_pos q2) (aa (Bl ..) rfl)
   ·exact aH (if_neg q2) (if_neg q2) rfl
  ·exact aH (if_neg q) (if_neg q) rfl
theorem afO{n:Nat}:∀{t:Nat},cj (ci n 0) t=0:=by
 induction n with
 | zero=>exact rfl
 | succ n ih =>
  intro t;rcases t with _ | t
  ·rfl
  ·exact ih
theorem Om(b:List UInt8)(f t:Nat):cj (mD b f) t=dm (cj b t) f:=by
 unfold mD;refine aa (afN ..) (aa afO ?_);rfl
theorem afP(t:Nat)(fs:List (Nat×List UInt8)):∀part:List UInt8,cj (qv part fs) t=cj part t ^^^ xs (fs.map λf=>dm (cj f.2 t) f.1):=by
 induction fs with
 | nil=>exact λJ=>(qG _).symm
 | cons f fs ih=>exact λpart=>(ih _).trans (aa (Bl ..) (aa (Om ..) (aa eP (aa (Bi ..) (aa (uX ..) rfl)))))
theorem afQ(w t:Nat)(ps:List (List UInt8)):∀z:List UInt8,cj (ps.foldl (λf p=>d8 (j4 w f) p) z) t=hV (w*ps.length) (cj z t) ^^^ xs ((aK ps.length).map λq=>hV (w*(ps.length - 1 - q)) (cj (ps.getD q []) t)):=by
 induction ps with
 | nil=>exact λJ=>(qG _).symm
 | cons p ps ih =>
  intro z;refine aa my (aa (ih ..) (aa (Bl ..) (aa (afM ..) (aa ((Gb _).2 _ _ (Bh (Bk _ _) _) (Bk _ _)) (aa (afH ..) (aa n0 (aa B9 (aa eP (aa (Bi ..) (aa dj (aa (uX ..) ?_)))))))))));rewrite [ll w];refine ao (Nat.mul_succ ..) ?_
  congr 3
  exact f0 λq J=>by show _=hV (w*(ps.length+1 - 1 - (q+1))) (cj (ps.getD q []) t);exact aa (Nat.add_sub_cancel ..) (aa (Nat.sub_right_comm ..) (aa (Nat.sub_sub ..) rfl))
theorem afR(m w t:Nat)(au:List Nat)(ps:List (List UInt8×Nat)):∀row:List UInt8,cj (Af m w au row ps) t=cj row t ^^^ xs (ps.map λp=>if p.2∈au then 0 else dm (cj p.1 t) (gq 2 (w*(m - 1 - p.2)))):=by
 induction ps with
 | nil=>exact λJ=>(qG _).symm
 | cons p ps ih =>
  refine λrow=>(ih (if p.2∈au then row else d8 row (mD p.1 (gq 2 (w*(m - 1 - p.2)))))).trans (aa eP (aa (Bi ..) ?_))
  by_cases q:p.2∈au
  ·exact aa (if_pos q) (aa (if_pos q) (aa (t0 ..) rfl))
  ·exact aa (if_neg q) (aa (if_neg q) (aa (Bl ..) (aa (Om ..) (aa (uX ..) rfl))))
section
variable {bL:List Nat}
theorem afS{fs:List (Nat×List UInt8)}:∀part:List UInt8,part.length≤(qv part fs).length/\∀f∈fs,f.2.length≤(qv part fs).length:=by
 induction fs with
 | nil=>exact λJ=>⟨cg _,λJ h=>absurd h eZ⟩
 | cons f fs ih =>
  intro part
  have h:=ih (d8 part (mD f.2 f.1))
  have h1:=h.1
  rw [ly,sj] at h1
  exact ⟨ag (EK ..) h1,λg hg=>(br.mp hg).elim (λe=>ag (b6 (congrArg (λf:Nat×List UInt8=>f.2.length) e)) (ag (Mf ..) h1)) (h.2 g)⟩
theorem afT{au:List Nat}{ps:List (List UInt8×Nat)}:∀row:List UInt8,row.length≤(Af m w au row ps).length:=by
 induction ps with
 | nil=>exact λJ=>cg _
 | cons p ps ih =>
  refine λrow=>ag ?_ (ih (if p.2∈au then row else d8 row (mD p.1 (gq 2 (w*(m - 1 - p.2))))))
  by_cases q:p.2∈au
  ·exact aa (if_pos q) (cg _)
  ·refine aa (if_neg q) (aa (ly ..) ?_);exact EK ..
theorem afU{ps:List (List UInt8)}:∀z:List UInt8,z.length≤(ps.foldl (λf p=>d8 (j4 w f) p) z).length/\∀q∈ps,q.length≤(ps.foldl (λf p=>d8 (j4 w f) p) z).length:=by
 induction ps with
 | nil=>exact λJ=>⟨cg _,λJ h=>absurd h eZ⟩
 | cons p ps ih =>
  intro z
  have h:=ih (d8 (j4 w z) p)
  have h1:=h.1
  rw [ly,Ae] at h1
  exact ⟨ag (EK ..) h1,λg hg=>(br.mp hg).elim (λe=>ag (b6 (congrArg rX e)) (ag (Mf ..) h1)) (h.2 g)⟩
theorem afV{l:List (Nat×List UInt8)}:∀{ps:List (List UInt8)},(l.map (λz=>z.1)).Nodup->(∀x∈l,x.1<ps.length)->(∀x∈l,(putAll ps l)[x.1]? =some x.2)/\∀q,q∉l.map (λz=>z.1)->(putAll ps l)[q]? =ps[q]? :=by
 induction l with
 | nil=>exact λJ J=>⟨λJ h=>absurd h eZ,λJ J=>rfl⟩
 | cons x l ih =>
  intro ps hn hl
  have hn:=f6.mp hn
  have h:=ih (ps:=ps.set x.1 x.2) hn.2 λy hy=>aaW (hl y (.tail _ hy)) kq.symm
  exact ⟨λy hy=>(br.mp hy).elim (λe=>e▸(h.2 _ hn.1).trans (vQ (hl x (.head _)))) (h.1 y),λq hq=>(h.2 q λe=>hq (.tail _ e)).trans (CJ λe:x.1=q=>hq (ao e (BB ..)))⟩
theorem afW(d:α)(l:List α):l.zipIdx=(aK l.length).map λq=>(l.getD q d,q):=by
 apply w4
 intro i;rw [aaL,cW]
 by_cases q:i<l.length
 ·rw [zt q,bI q,AZ,AZ,cZ q,nc]
 ·rw [iy (fG q),iy (by refine aa fj ?_;exact fG q)];rfl
theorem afX(p:Nat)(au:List Nat):fm p (bB au)=fm p au:=by
 unfold fm
 congr 1
 funext w
 by_cases h:w∈au
 ·exact aH (if_pos h) (if_pos (o7.mpr h)) rfl
 ·exact aH (if_neg h) (if_neg (λq=>h (o7.mp q))) rfl
theorem afY{q:Nat}{l:List Nat}:q∈cP p l↔p+q∈l:=by
 unfold cP;rw [oM];refine ⟨λh=>h.elim λx h=> ?_,λh=>⟨p+q,h,aa (if_neg (dC.mpr (cb ..))) (aa (nu ..) rfl)⟩⟩
 have e:=h.2
 by_cases hx:x<p
 ·rw [if_pos hx] at e;exact nn e
 ·rw [if_neg hx] at e;refine ao (aN e) (aa (lQ (fG hx)) ?_);exact h.1
theorem afZ{l:List Nat}(h:l.Pairwise (λz cf=>z < cf)):(cP p l).Nodup:=by
 refine acj _ (λa a' h b hb b' uD=> ?_) h
 by_cases q:a<p
 ·rw [if_pos q] at hb;exact nn hb
 have q':¬ a'<p:=λr=>q (Ga h r)
 rw [if_neg q] at hb
 rw [if_neg q'] at uD
 exact sU (aN hb) (aN uD) (dB (Nat.sub_lt_sub_right (fG q) h))
theorem On{n:Nat}{au:List Nat}(hl:au.length≤10)(h:x5 n p (bB au)=true):Fk n p au/\xZ (n - p) (cP p (bB au)) ((fm p au).take (cP p (bB au)).length) (nG n p au)=true:=by
 unfold x5 at h
 dsimp only at h
 rw [afX] at h
 unfold nG xJ;cases hg:qs (oN (n - p) (cP p (bB au)) ((fm p au).take (cP p (bB au)).length)) with
 | none=>rw [hg] at h;simp at h
 | some inv =>
  rw [hg] at h
  simp only [ro,decide_eq_true_eq,fE] at h
  obtain ⟨⟨⟨h1,h2⟩,h3⟩,⟨h4,h5⟩,h6⟩:=h;refine ⟨⟨hl,h1,h2,h3, ?_, ?_⟩,h6⟩
  ·unfold nG xJ;refine aa hg ?_;rfl
  ·unfold nG xJ;refine aa hg ?_;exact ⟨h4,λr hr=>⟨(h5 r hr).1,(h5 r hr).2⟩⟩
theorem af0{cA:List Nat}{inv:bl}(h:xZ m bL cA inv=true){i q y:Nat}(hi:i<bL.length)(hq:q∈bL)(hy:y<256) :
  xs ((aC (inv.getD i []) cA).map λx=>dm (dm y (gq 2 (x.2*(m - 1 - q)))) x.1)=if bL.getD i 99=q then y else 0:=by
 have hF:sR λy=>xs ((aC (inv.getD i []) cA).map λx=>dm (dm y (gq 2 (x.2*(m - 1 - q)))) x.1):=by
  refine ⟨?_,λa b ha hb=> ?_⟩
  ·have:(aC (inv.getD i []) cA).map (λx=>dm (dm 0 (gq 2 (x.2*(m - 1 - q)))) x.1)=(aC (inv.getD i []) cA).map λJ=>0:=f0 λx J=>aa (Bg ..) (aa (Bg ..) rfl)
   refine (?_:xs ((aC (inv.getD i []) cA).map λx=>dm (dm 0 (gq 2 (x.2*(m - 1 - q)))) x.1)=0);exact aa this (aa (Bj ..) rfl)
  ·dsimp only;refine aa (Gc ..) ?_
   congr 1
   exact f0 λx J=>aa (F' _ ha hb) (aa (F' _ (qn ha) (qn hb)) rfl)
 have hG:sR λy=>if bL.getD i 99=q then y else 0:=by
  refine ⟨by dsimp only;split<;>rfl,λa b J J=> ?_⟩;dsimp only
  split
  ·rfl
  ·rfl
 refine Og hF hG (λb hb=> ?_) hy;unfold xZ at h
 rw [fE] at h
 have h:=h i (fZ.mpr hi)
 rw [fE] at h
 have h:=h q hq
 rw [fE] at h
 exact of_decide_eq_true (h b hb)
theorem Oo{q:Nat}(hw:w<3)(hm:m≤5):w*(m - 1 - q)≤8:=ag (L1 (pe hw) (ag (gJ ..) (aay hm 1))) (by decide)
theorem af1{cA:List Nat}{inv:bl}{f:Nat->List UInt8}{g:Nat->Nat}{t i:Nat}(Bm:xZ m bL cA inv=true)(hm:m≤5)(gu:∀w∈cA,w<3)(hg:∀q,g q<256)(hi:i<bL.length)(oO:bL.getD i 99<m)
  (iu:∀w∈cA,cj (f w) t=xs ((aK m).map λq=>if q∈bL then hV (w*(m - 1 - q)) (g q) else 0)):cj (qv [] (aC (inv.getD i []) (cA.map f))) t=g (bL.getD i 99):=by
 have Gd:bL.getD i 99∈bL:=by refine aa (cZ hi) ?_;exact mA hi
 refine aa (afP ..) (aa (Oj ..) (aa (t0 ..) (aa List.zip_map_right (aa dj ?_))))
 have e1:(aC (inv.getD i []) cA).map ((λx:Nat×List UInt8=>dm (cj x.2 t) x.1) ∘ Prod.map id f)=(aC (inv.getD i []) cA).map λx=>xs ((aK m).map λq=>dm (if q∈bL then hV (x.2*(m - 1 - q)) (g q) else 0) x.1):=by
  refine f0 λx hx=>(?_:dm (cj (f x.2) t) x.1=_);rw [iu x.2 (iB hx).2,afJ (Oh x.1) (λy hy=> ?_),dj]
  ·rfl
  ·obtain ⟨q,_,rfl⟩:=bJ.mp hy
   by_cases h:q∈bL
   ·exact aa (if_pos h) (Bh (hg q) _)
   ·refine aa (if_neg h) ?_;decide
 refine aa e1 (aa (afK ..) (ao (afL g DF (fZ.mpr oO)) ?_))
 congr 1
 refine f0 λq J=> ?_
 by_cases h:q∈bL
 ·refine ao (af0 (y:=g q) Bm hi h (hg q)) ?_
  congr 1
  exact f0 λx hx=>aa (if_pos h) (aa (Oi (Oo (gu x.2 (iB hx).2) hm) (hg q)) rfl)
 ·refine aa (if_neg (λe:bL.getD i 99=q=>h (ao e Gd))) (J8 ?_ (Bj (aC (inv.getD i []) cA)))
  congr 1
  exact f0 λx J=>aa (if_neg h) (aa (Bg ..) rfl)
theorem af2{hd ps:List (List UInt8)}{t:Nat}(hl:hd.length=ps.length)(hm:ps.length≤5)(hw:w<3)(ft:∀q,q<ps.length->q∉bL->hd.getD q []=ps.getD q []) :
  cj (kJ hd bL w (iz ps w)) t=xs ((aK ps.length).map λq=>if q∈bL then hV (w*(ps.length - 1 - q)) (cj (ps.getD q []) t) else 0):=by
 unfold kJ;refine aa (afR ..) ?_;rewrite [iz];refine aa (afQ ..) (aa (Oj ..) (aa ((Gb _).1) (aa (t0 ..) ?_)));rewrite [afW []];refine aa dj (aa hl (aa (Gc ..) ?_))
 congr 1
 refine f0 λq hq=>(?_:hV (w*(ps.length - 1 - q)) (cj (ps.getD q []) t) ^^^ (if q∈bL then 0 else dm (cj (hd.getD q []) t) (gq 2 (w*(ps.length - 1 - q))))=_)
 by_cases h:q∈bL
 ·exact aa (if_pos h) (aa (if_pos h) (aa (qG ..) rfl))
 ·exact aa (if_neg h) (aa (if_neg h) (aa (ft q (fZ.mp hq) h) (aa (Oi (Oo hw hm) (Bk _ _)) (aa (F9 ..) rfl))))
theorem af3{a:List UInt8}(h:b.length≤a.length)(e:∀t,cj a t=cj b t):a.take b.length=b:=by
 refine List.ext_getElem (xD h) λt h1 h2=> ?_
 have e:=e t
 rw [cj,cj,cZ (eB h2 h),cZ h2] at e
 exact aa List.getElem_take (UInt8.toNat_inj.mp e)
theorem af4{au:List Nat}{n:Nat}(h:w∈(fm p au).take n):w<p/\w∉au:=by
 have h:=pp h
 refine ⟨(MK p au).2.1 w h,λq=> ?_⟩;obtain ⟨x,_,e⟩:=oM.mp h
 by_cases hx:x∈au
 ·rw [if_pos hx] at e;exact nn e
 ·rw [if_neg hx] at e;exact hx (aN e▸q)
theorem af5{hd ps:List (List UInt8)}{x6:List (List UInt8)}(hl:hd.length=ps.length)(hn:bL.Nodup)(hs:x6.length=bL.length)(hp:∀q∈bL,q<ps.length)(af6:∀i,i<bL.length->x6[i]? =some (ps.getD (bL.getD i 99) []))
  (ft:∀q,q<ps.length->q∉bL->hd.getD q []=ps.getD q []):putAll hd (aC bL x6)=ps:=by
 have hk:(aC bL x6).map (λz=>z.1)=bL:=Kg (b6 hs.symm)
 have g:=afV (l:=aC bL x6) (ps:=hd) (hk.symm▸hn) λx hx=>hl▸hp _ (iB hx).1
 apply w4
 intro q
 by_cases hq:q∈bL
 ·obtain ⟨i,hi⟩:=qf.mp hq
  have iZ:=(du.mp hi).1
  have e:bL.getD i 99=q:=by rewrite [ja];refine aa hi ?_;rfl
  have hs:=af6 i iZ
  rw [e] at hs
  rw [g.1 (q,ps.getD q []) (cw (sL.mpr ⟨hi,hs⟩)),bI (hp q hq),cZ (hp q hq)]
 ·refine aa (g.2 q (hk.symm▸hq)) ?_;rcases M7 q ps.length with h | h
  ·have e:=ft q h hq
   rw [cZ (hl▸h),cZ h] at e
   rw [bI (hl▸h),bI h,e]
  ·rw [iy (hl▸h),iy h]
theorem solve{held gx:List (List UInt8)}{au:List Nat}(hn:held.length≤6)(hp:p≤3)(nE:1≤p)(fk:gx.length+p=held.length)(hl:au.length≤10)(d6:au.Nodup)(aU:∀q,q<gx.length->(held.getD (p+q) []).length=(gx.getD q []).length)
  (Aq:∀q,q<gx.length->p+q∉au->held.getD (p+q) []=gx.getD q []) (af7:∀w,w<p->w∉au->held.getD w []=iz gx w) (hB:x5 held.length p (bB au)=true):o0 held p au=gx:=by
 have hD:=On hl hB
 have hm:held.length - p=gx.length:=Nat.sub_eq_of_eq_add fk.symm
 have Bm:=hD.2
 have D:=hD.1
 rw [hm] at Bm
 have Oq:gx.length≤5:=pe (eB (yZ nE) (fk▸hn))
 have oO:∀q,q∈cP p (bB au)↔p+q∈au:=λq=>afY.trans o7
 have jb:(held.drop p).length=gx.length:=f9.trans hm
 have Os:∀q,(held.drop p).getD q []=held.getD (p+q) []:=λq=>by rw [ja,List.getElem?_drop];rfl
 have ft:∀q,q<gx.length->q∉cP p (bB au)->(held.drop p).getD q []=gx.getD q []:=λq h h'=>(Os q).trans (Aq q h λe=>h' ((oO q).mpr e))
 have Ot:∀q∈cP p (bB au),q<gx.length:=λq hq=>ao hm (D.pl q hq)
 have af8:((fm p au).take (cP p (bB au)).length).length=(cP p (bB au)).length:=xD D.rk
 have mj:=D.sq
 refine (?_:putAll (held.drop p) (aC (cP p (bB au)) (sy (held.drop p) (cP p (bB au)) (((fm p au).take (cP p (bB au)).length).map λw=>kJ (held.drop p) (cP p (bB au)) w (held.getD w [])) (nG held.length p au)))=gx)
 have gu:=λw=>af4 (p:=p) (au:=au) (n:=(cP p (bB au)).length) (w:=w)
 have hH:=afZ (p:=p) (Ob d6)
 generalize cP p (bB au)=bL at *
 generalize (fm p au).take bL.length=cA at *
 generalize nG held.length p au=inv at *
 generalize held.drop p=hd at *
 have af9:∀w∈cA,kJ hd bL w (held.getD w [])=kJ hd bL w (iz gx w):=λw hw=>aa (af7 w (gu w hw).1 (gu w hw).2) rfl
 refine aa (f0 af9) (af5 jb hH (by rewrite [sy];exact aa (aE ..) (aa sf (aa mj.1 (aa (rI ..) rfl)))) Ot (λi hi=> ?_) ft)
 have Ge:i<rX inv:=ao mj.1.symm hi
 have Gd:bL.getD i 99∈bL:=by refine aa (cZ hi) ?_;exact mA hi
 have Gf:=Ot _ Gd
 have hz:(aC bL inv)[i]? =some (bL.getD i 99,inv.getD i []):=sL.mpr ⟨by refine aa (cZ hi) ?_;exact bI hi,by refine aa (cZ Ge) ?_;exact bI Ge⟩
 rw [sy,cW,hz];refine congrArg some (?_:(qv [] (aC (inv.getD i []) (cA.map λw=>kJ hd bL w (iz gx w)))).take (hd.getD (bL.getD i 99) []).length=_);refine aa (Os ..) (aa (aU _ Gf) ?_);refine af3 ?_ λt=>af1 (g:=λq=>cj (gx.getD q []) t) Bm Oq (λw hw=>eB (gu w hw).1 hp) (λq=>Bk _ _) hi Gf λw hw=>af2 jb Oq (eB (gu w hw).1 hp) ft
 have hz:0<(aC (inv.getD i []) (cA.map λw=>kJ hd bL w (iz gx w))).length:=by
  refine aa sf (aa (aE ..) (aa af8 (aa (cZ Ge) (aa ((mj.2 _ (mA _)).1) (aa (rI ..) ?_)))));exact eD (da i) hi
 have hx:=mA hz
 generalize (aC (inv.getD i []) (cA.map λw=>kJ hd bL w (iz gx w)))[0]=x at hx
 obtain ⟨w,hw,ew⟩:=bJ.mp (iB hx).2;refine ag ?_ ((afS []).2 x hx);exact ao ew (ag ((afU []).2 _ (by refine aa (cZ Gf) ?_;exact mA _)) (afT _))
end
noncomputable def Ov(w p s m:Nat)(af:List bK):Bool :=
 decide (p+1≤af.length)&&decide (af.length≤w)&&(af.all λc=>decide (c.1<w)&&decide (c.2.1+c.2.2.1≤60 / w+4)&&decide (1≤c.2.2.1)&&decide (c.2.2.1≤7)&&decide (c.2.2.2≤7)) &&
 decide (af.map (λz=>z.1)).Nodup&&(decide (xO s m w p (gX s p)=af.map bT))&&decide (mK m w p≤1000)&&(!gX s p || decide (2≤mK m w p)) &&
 (decide ((m+p*((m+w - p - 1) / (w - p))+p) / (p+1)*(p+1)=(nO af+p) / (p+1)*(p+1)))&&decide (nO af≤100) &&
 ((af.take p).all λc=>decide (c.2.2.2<0)&&decide (c.2.2.1=((af.drop p).map λc=>c.2.2.1).foldr max 0))&&decide (((af.drop p).map λc=>c.2.2.2)=(aK (af.length - p)).map λi=>((((af.drop p).take i).map λc=>c.2.2.1).sum:Int))&&decide (((af.drop p).map λc=>c.2.2.1).sum=m)
noncomputable def af'(w p s m:Nat):Bool:=Ov w p s m (if gX s p&&decide (1<(gY s w p 0 (jG m w p) 0).length) then E0 (gY s w p 0 (jG m w p) 0) else gY s w p 0 (jG m w p) 0)
theorem aga:∀w∈ic 2 5,∀p∈ic 1 3,p<w->∀m∈ic 1 7,∀s∈aK 20,af' w p s m=true:=by decide +kernel
structure Gg(w p s m:Nat)(af:List bK):Prop where
 big:p+1≤af.length
 few:af.length≤w
 each:∀c∈af,c.1<w/\c.2.1+c.2.2.1≤60 / w+4/\1≤c.2.2.1/\c.2.2.1≤7/\c.2.2.2≤7
 nd:(af.map (λz=>z.1)).Nodup
 Bd:xO s m w p (gX s p)=af.map bT
 pn:mK m w p≤1000
 pt:gX s p=true->2≤mK m w p
 Be:(m+p*((m+w - p - 1) / (w - p))+p) / (p+1)*(p+1)=(nO af+p) / (p+1)*(p+1)
 sum:nO af≤100
 par:∀c∈af.take p,c.2.2.2<0/\c.2.2.1=((af.drop p).map λc=>c.2.2.1).foldr max 0
 first:((af.drop p).map λc=>c.2.2.2)=(aK (af.length - p)).map λi=>((((af.drop p).take i).map λc=>c.2.2.1).sum:Int)
 tot:((af.drop p).map λc=>c.2.2.1).sum=m
theorem gy{a b:Bool}{C:Prop}(h:(a&&b)=true)(k:a=true->b=true->C):C:=k (bP.mp h).1 (bP.mp h).2
theorem Gg.of{s:Nat}(h:Ov w p s m af=true):Gg w p s m af :=
 gy h λh agb=>gy h λh agc=>gy h λh agd=>gy h λh a9=>gy h λh a8=>gy h λh a7=>gy h λh a6=>gy h λh a5=>gy h λh a4=>gy h λh a3=>gy h λa1 a2 =>
 ⟨of_decide_eq_true a1,of_decide_eq_true a2,λc hc=>gy (fE.mp a3 c hc) λh b5=>gy h λh b4=>gy h λh b3=>gy h λb1 b2=>⟨of_decide_eq_true b1,of_decide_eq_true b2,of_decide_eq_true b3,of_decide_eq_true b4,of_decide_eq_true b5⟩,
  of_decide_eq_true a4,of_decide_eq_true a5,of_decide_eq_true a6,λht=>of_decide_eq_true (by rw [ht] at a7;exact a7),of_decide_eq_true a8,of_decide_eq_true a9,λc hc=>gy (fE.mp agd c hc) λb1 b2=>⟨of_decide_eq_true b1,of_decide_eq_true b2⟩,of_decide_eq_true agc,of_decide_eq_true agb⟩
theorem mM{s size:Nat}(g:iE w p s size):Gg w p s ((size+3) / 4) (aX s size w p) :=
 .of (aga w (qN.mpr ⟨g.w2,u6 g.w6⟩) p (qN.mpr ⟨g.p1,u6 g.p3⟩) g.pw ((size+3) / 4) (qN.mpr ⟨show (1+3) / 4≤(size+3) / 4 from AC (gG g.z1 3),eD (show (size+3) / 4≤(28+3) / 4 from AC (gG g.sP 3)) (by decide)⟩) s (fZ.mpr g.ae1))
noncomputable def pl(ak:List UInt8):Nat->List Nat->List (List UInt8)
 | _,[]=> []
 | f,m::ms=>lG ak (f*4) (m*4)::pl ak (f+m) ms
theorem age{f:Nat}{ms:List Nat}:pl ak f (m::ms)=lG ak (f*4) (m*4)::pl ak (f+m) ms:=rfl
theorem agf(ak:List UInt8):∀(ms:List Nat) (f:Nat),(pl ak f ms).length=ms.length:=by
 intro ms
 induction ms with
 | nil=>exact λJ=>rfl
 | cons m ms ih=>exact λf=>congrArg Et (ih (f+m))
theorem Gh(ak:List UInt8):∀(ms:List Nat) (f:Nat),(pl ak f ms).map (λz=>z.length)=ms.map (λz=>z *4):=by
 intro ms
 induction ms with
 | nil=>exact λJ=>rfl
 | cons m ms ih=>exact λf=>congr (congrArg ut (AH ..)) (ih (f+m))
theorem Ow{f:Nat}:lG ak (f*4) (m*4)=(ak.drop (f*4)).take (m*4)++ci (m*4 - ((ak.drop (f*4)).take (m*4)).length) 0:=by
 unfold lG;exact aa t8 (aa (nu ..) rfl)
theorem agg{ms:List Nat}:∀{f n:Nat},n≤ms.sum*4->n≤(ak.drop (f*4)).length->(pl ak f ms).flatten.take n=(ak.drop (f*4)).take n:=by
 induction ms with
 | nil=>intro f n h _;rw [Vn.mp (ag h (b6 (agh 4))),Fd,Fd]
 | cons m ms ih =>
  intro f n h h2
  show (lG ak (f*4) (m*4)++(pl ak (f+m) ms).flatten).take n=_
  rcases wN n (m*4) with q | q
  ·rw [M8 (ag q (b6 (AH ..).symm)),Ow,M8 (by rw [iY];exact zS.mpr ⟨q,h2⟩),AP,gT q]
  ·obtain ⟨k,rfl⟩:=AO q
   have hm:m*4 - ((ak.drop (f*4)).take (m*4)).length=0:=Yv (by rw [iY];exact zS.mpr ⟨cg _,ag q h2⟩)
   have ed:ak.drop ((f+m)*4)=(ak.drop (f*4)).drop (m*4):=by rw [M5,Ox]
   have i2:=ih (f:=f+m) (n:=k) (Nat.le_of_add_le_add_left (a:=m*4) (ag h (b6 (Ox m ms.sum 4)))) (by rw [ed,f9];exact M6 h2)
   rw [E9 (AH ak (f*4) (m*4)),i2,Ow,hm,ed,List.take_add,List.replicate_zero,iV]
theorem agi(ak:List UInt8):∀(ds:List bK) (f:Nat),(ds.map λc=>c.2.2.2)=(aK ds.length).map (λi=>((f+((ds.take i).map λc=>c.2.2.1).sum:Nat):Int))->ds.map (λc=>lG ak (c.2.2.2.toNat*4) (c.2.2.1*4))=pl ak f (ds.map λc=>c.2.2.1):=by
 intro ds
 induction ds with
 | nil=>exact λJ J=>rfl
 | cons c ds ih =>
  intro f h;rw [n0,B9,eP,eP,dj] at h
  injection h with h1 h2
  have h1:c.2.2.2=(f:Int):=by simpa using h1
  refine aH eP eP (aH age h1 (aa (mo ..) ?_))
  congr 1
  refine ih (f+c.2.2.1) (h2.trans (f0 λi J=> ?_));refine (?_:((f+(((c::ds).take (i+1)).map λc=>c.2.2.1).sum:Nat):Int)=_);exact aa IQ (aa eP (aH sd (ka ..) rfl))
theorem agj{A:List (List UInt8)}:∀{B:List (List UInt8)} {n i:Nat},A.map (λz=>z.length)=B.map (λz=>z.length)->A.flatten.take n=B.flatten.take n->((A.take i).map (λz=>z.length)).sum<n->0<(A.getD i []).length->(A.getD i []).getD 0 0=(B.getD i []).getD 0 0:=by
 induction A with
 | nil=>exact λJ J J h=>absurd h (iM 0)
 | cons a A ih =>
  intro B n i h e hn hp;rcases B with _ | ⟨b,B⟩
  ·cases h
  obtain ⟨h1,h2⟩:=tX h
  have h1:a.length=b.length:=h1
  rw [Nt,Nt] at e
  rcases i with _ | i
  ·have hp:0<a.length:=hp
   have e:=congrArg (λz=>z.getD 0 0) e
   rcases n with _ | n
   ·exact absurd hn (iM 0)
   rcases a with _ | ⟨x,a⟩
   ·exact absurd hp (iM 0)
   rcases b with _ | ⟨y,b⟩
   ·exact qg h1
   exact e
  ·have hn:(a.length::(A.take i).map (λz=>z.length)).sum<n:=hn
   rw [sd] at hn
   refine ih (n:=n - a.length) (i:=i) h2 ?_ (Nat.lt_sub_of_add_lt (ao (ll a.length _) hn)) hp
   have e:=congrArg (λz=>z.drop a.length) e
   rw [t8,t8,List.drop_left,List.drop_left' h1.symm] at e
   exact e
theorem agk(w:Nat)(ps:List (List UInt8)):∀z:List UInt8,(ps.foldl (λf p=>d8 (j4 w f) p) z).length=max z.length ((ps.map (λz=>z.length)).foldr max 0):=by
 induction ps with
 | nil=>intro z;exact (L6 (da _)).symm
 | cons p ps ih=>intro z;exact aa my (aa (ih ..) (aa (ly ..) (aa (Ae ..) (aa eP (aa Oy (aa (Nat.max_assoc ..) rfl))))))
theorem agl(ms:List Nat):(ms.map (λz=>z *4)).foldr max 0=ms.foldr max 0*4:=by
 induction ms with
 | nil=>rfl
 | cons m ms ih=>exact aa eP (aa Oy (aa Oy (aa ih (aa (Nat.mul_max_mul_right ..) rfl))))
theorem Oz(ds:List bK)(i:Nat):((ds.take i).map λc=>(c.2.2.1:Int)).sum=(((ds.take i).map λc=>c.2.2.1).sum:Nat):=by
 have:=N' ((ds.take i).map λc=>c.2.2.1)
 rw [dj] at this
 exact this
section
variable{w p s size:Nat}(g:iE w p s size){ak:List UInt8}
include g
theorem Bn:eR ak (aX s size w p)=pl ak 0 (((aX s size w p).drop p).map λc=>c.2.2.1):=by
 have F:=mM g
 generalize aX s size w p=af at F
 have e1:eR ak (af.take p++af.drop p)=eR ak (af.take p)++eR ak (af.drop p):=LR ..
 rw [Fe] at e1
 have e2:eR ak (af.take p)= []:=Fv.mpr λc hc=>if_pos (F.par c hc).1
 have e3:eR ak (af.drop p)=(af.drop p).map λc=>lG ak (c.2.2.2.toNat*4) (c.2.2.1*4):=by
  unfold eR;refine ao List.filterMap_eq_map' (JP λc hc=>if_neg ?_)
  have hm:c.2.2.2∈(af.drop p).map λc=>c.2.2.2:=nt hc
  rw [F.first] at hm
  obtain ⟨i,_,e⟩:=bJ.mp hm;rw [Oz] at e
  exact ao e (jV.mpr (et _))
 refine aa e1 (aa e2 (aa (Dj ..) (aa e3 ?_)));exact agi ak _ 0 (aH F.first f9 (f0 λi J=>aH (Oz ..) (nc ..) rfl))
theorem Gi:(eR ak (aX s size w p)).length=(aX s size w p).length - p:=aa (Bn g) (aa (agf ..) (aa (aE ..) (aa f9 rfl)))
theorem OA:(aG ak (aX s size w p) p).length=(aX s size w p).length:=by
 have F:=mM g
 have:=F.big
 rewrite [aG];refine aa de ?_;rewrite [lA];refine aa (aE ..) (aa fj (aa (Gi g) ?_));exact lQ (ip this)
theorem OB:(aG ak (aX s size w p) p).map (λz=>z.length)=(aX s size w p).map λc=>c.2.2.1*4:=by
 have F:=mM g
 rewrite [aG];refine aa gW (aa (Bn g) (aa (Gh ..) ?_))
 have hp:((lA (pl ak 0 (((aX s size w p).drop p).map λc=>c.2.2.1)) p)).map (λz=>z.length)=((aX s size w p).take p).map λc=>c.2.2.1*4:=by
  unfold lA;refine aa dj ?_
  have e:((aX s size w p).take p).map (λc=>c.2.2.1*4)=((aX s size w p).take p).map λJ=>(((aX s size w p).drop p).map λc=>c.2.2.1).foldr max 0*4:=f0 λc hc=>aa ((F.par c hc).2) rfl
  refine aa e (aa Em (aa iY (aa (gT (by have:=F.big;exact ip this)) ?_)))
  have e2:(aK p).map ((λz=>z.length) ∘ iz (pl ak 0 (((aX s size w p).drop p).map λc=>c.2.2.1)))=(aK p).map λJ=>(((aX s size w p).drop p).map λc=>c.2.2.1).foldr max 0*4:=f0 λv J=>by
   refine (?_:(iz _ v).length=_);rewrite [iz];refine aa (agk ..) (aa (Gh ..) (aa (agl ..) ?_));simp
  exact aa e2 (aa Em (aa fj rfl))
 exact aa hp (aa dj (aa (show ((λx=>x*4) ∘ λc:bK=>c.2.2.1)=λc:bK=>c.2.2.1*4 from rfl) (ao gW (aa (Fe ..) rfl))))
theorem OC(ht:ak.length=size):(eR ak (aX s size w p)).flatten.take size=ak:=by
 have F:=mM g
 have h1:=g.z1
 exact aa (Bn g) (aa (agg (f:=0) (n:=size) (by rw [F.tot];exact Pj size) (by show size≤ak.length;exact b6 ht.symm)) (aa (agh ..) (aa y6 (aa (rn (b6 ht)) rfl))))
end
section
variable {I bad dh:List Nat}
theorem find_key(h:(af.map (λz=>z.1)).Nodup){c:bK}(hc:c∈af):af.find? (λd=>d.1==c.1)=some c:=by
 induction af with
 | nil=>cases hc
 | cons d af ih =>
  rw [eP,f6] at h
  rcases br.mp hc with rfl | hc
  ·rw [Kd (by simp)]
  ·rw [Kf (λe=>h.1 (aa (show d.1=c.1 by simpa using e) (nt hc)))];exact ih h.2 hc
theorem agm(w:Nat)(af:List bK):(jf w af).length=w:=by rewrite [jf];exact aa (aE ..) (aa fj rfl)
theorem OD(hk:k<w):(jf w af).getD k (0,0)=match af.find? λc=>c.1==k with
  | some c=>(c.2.1,c.2.2.1)
  | none=>(0,0):=by
 unfold jf;refine aa (cZ (by rw [aE,fj];exact hk)) (aa (agn ..) (aa (Ml ..) ?_))
 try (generalize af.find? (λc=>c.1==k)=o;cases o<;>rfl)
theorem OE{n:Nat}(tP:2≤n)(Gj:n≤6)(nE:1≤p)(dD:p≤3)(hH:p<n)(hs:dh.Sublist (aK n)) :
  gr n dh p 100 (jF dh p) 0=some (kN n dh p)/\(kN n dh p).length≤1000/\(∀au∈kN n dh p,au.length≤p/\au.Nodup/\∀x∈au,x<n)/\
   ∀E:List Nat,dh.length+E.length≤p->E.Sublist ((aK n).filter λx=> !dh.contains x)->dh++E∈kN n dh p:=by
 by_cases q:dh.length≤p
 ·have h:=afA n (GF tP Gj) p (GG nE dD) hH dh (F3 hs q)
  unfold Od at h
  have ei:jF dh p= [dh]:=if_pos q
  unfold kN;refine aa ei ?_;rcases hr:gr n dh p 100 [dh] 0 with _ | r
  ·rw [hr] at h;exact ff h
  rw [hr] at h
  exact gy h λh h3=>gy h λh1 h2=>⟨rfl,of_decide_eq_true h1,λau hl=>gy (fE.mp h2 au hl) λh c=>gy h λa b=>⟨of_decide_eq_true a,of_decide_eq_true b,λx hx=>of_decide_eq_true (fE.mp c x hx)⟩,
   λE hE rL=>sS.mp (fE.mp h3 E (F3 rL (M6 hE)))⟩
 ·have ei:jF dh p= []:=if_neg q
  have e:gr n dh p 100 (jF dh p) 0=some []:=aa ei rfl
  have e2:kN n dh p= []:=by unfold kN;refine aa e ?_;rfl
  exact aH e e2 (⟨rfl,da _,λJ h=>absurd h eZ,λE hE=>absurd (ag (cb ..) hE) q⟩)
theorem OG{n:Nat}(tP:2≤n)(Gj:n≤6)(nE:1≤p)(dD:p≤3)(hH:p<n){au:List Nat}(hl:au.length≤p)(d6:au.Nodup)(hx:∀x∈au,x<n):x5 n p (bB au)=true:=by
 refine afB n (GF tP Gj) p (GG nE dD) hH (bB au) (F3 ?_ (aa (xI ..) hl));exact aa JN (afy (k:=n) (a:=0) (Ob d6) λx h=>⟨da _,aa (nc ..) (hx x (o7.mp h))⟩)
noncomputable def kQ(af:List bK)(i:Nat):Nat:=(af.getD i (0,0,0,0)).1
noncomputable def qH(af:List bK)(bad:List Nat):List Nat:=(aK af.length).filter λi=>decide (kQ af i∈bad)
theorem Bo{i:Nat}:i∈qH af bad↔i<af.length/\kQ af i∈bad:=by
 rw [qH,BJ,fZ,decide_eq_true_iff]
theorem OH:(qH af bad).Nodup:=DF.filter _
theorem OI{i:Nat}(h:i<af.length):(af.map (λz=>z.1))[i]? =some (kQ af i):=by
 rw [cW,bI h,kQ,cZ h];rfl
theorem ago(nd:(af.map (λz=>z.1)).Nodup):(qH af bad).length≤bad.length:=by
 have h:((qH af bad).map (kQ af)).Nodup:=by
  rw [List.Nodup,wz];exact ai4 (λ{a b} ha hb bz e=>bz (AE nd (OI (Bo.mp ha).1) (e▸OI (Bo.mp hb).1))) OH
 exact ag (b6 (aE _).symm) (A7 h λa ha=>(bJ.mp ha).elim λi h=>ao h.2 ((Bo.mp h.1).2))
theorem OJ{i:Nat}(h:i<af.length):(bx Ls af)[i]? =some (dZ (Ls.getD (kQ af i) ay)):=by
 rw [bx,cW,bI h,kQ,cZ h];rfl
theorem OK{L:Lf}(h:L.out=false):dZ L=some L.cont:=by rewrite [dZ];refine aa h ?_;rfl
theorem agp(hr:∀i,i<af.length->i∉I->(Ls.getD (kQ af i) ay).out=false){i:Nat}(hi:i∈g8 (bx Ls af))(gD:i<af.length):i∈I:=by
 by_cases q:i∈I
 ·exact q
 obtain ⟨x,hx,e⟩:=oM.mp hi;obtain ⟨k,hk⟩:=qf.mp hx;obtain ⟨e1,e2⟩:=zipIdx_get hk
 split at e
 ·exact nn e
 ·next ga =>
  obtain rfl:=aN e;rw [<-e1,OJ gD,OK (hr _ gD q)] at e2
  rw [<-aN e2] at ga
  exact absurd rfl ga
noncomputable def x7(I dh:List Nat):List Nat:=I.filter λi=> !dh.contains i
theorem OL{i:Nat}:i∈x7 I dh↔i∈I/\i∉dh:=by rw [x7,BJ];simp
theorem OM(h:∀i∈dh,i∈I){i:Nat}:i∈dh++x7 I dh↔i∈I:=by
 rw [ji,OL];refine ⟨λq=>q.elim (h i) And.left,λq=> ?_⟩
 by_cases z:i∈dh
 ·exact .inl z
 ·exact .inr ⟨q,z⟩
theorem agq(hI:I.Nodup)(hg:dh.Nodup)(h:∀i∈dh,i∈I):dh.length+(x7 I dh).length≤I.length:=by
 exact ao de (A7 (Mv.mpr ⟨hg,hI.filter _,λa ha b hb e=>(OL.mp hb).2 (ao e ha)⟩) λa ha=>(OM h).mp ha)
theorem ON{i:Nat}(hi:i<af.length):(gc af (bx Ls af)).getD i []=(dZ (Ls.getD (kQ af i) ay)).getD (ci ((af.getD i (0,0,0,0)).2.2.1*4) 0):=by
 have hz:(aC af (bx Ls af))[i]? =some (af.getD i (0,0,0,0),dZ (Ls.getD (kQ af i) ay)):=sL.mpr ⟨by rw [bI hi,cZ hi],OJ hi⟩
 rw [gc,ja,cW,hz];rfl
theorem Gk:(gc af (bx Ls af)).length=af.length:=by rewrite [gc];exact aa (aE ..) (aa sf (aa sI (aa (rI ..) rfl)))
theorem agr{L:Lf}(h:L.cont.length=4*k):((dZ L).getD (ci (k*4) 0)).length=k*4:=by
 unfold dZ;rcases L.out with _ | _
 ·exact h.trans (u4 ..)
 ·exact pV
theorem OO{q:Nat}:(aG ak af p).getD (p+q) []=(eR ak af).getD q []:=by
 have e:(lA (eR ak af) p).length=p:=by rewrite [lA];exact aa (aE ..) (aa fj rfl)
 rw [aG,ja,pU (ag (b6 e) (cb p q)),e,nu];rfl
theorem ags{v:Nat}(hv:v<p):(aG ak af p).getD v []=iz (eR ak af) v:=by
 rw [aG,ja,nk (by rewrite [lA];refine aa (aE ..) (aa fj ?_);exact hv),lA,cW,zt hv];rfl
section
variable{w p s size:Nat}(g:iE w p s size){ls:List Addr}(hl:ls.length=w){ak:List UInt8}
include g hl
theorem agt:nI (60 / w+8) (jf w (aX s size w p)) ls p s size (aX s size w p):=by
 have F:=mM g
 have h1:=g.w2
 have h2:=g.w6
 have h3:=g.p3
 have h4:=g.sP
 have h5:=F.big
 have h6:=F.few
 have hq:60 / w≤60:=oz _ _
 refine ⟨⟨by generalize 60 / w=q at hq ⊢;exact ag (gG hq 8) (nb rfl),by generalize 60 / w=q at hq ⊢;exact ag (nb rfl) (lr 8 _),aa (agm ..) (aa hl rfl),λk hk=> ?_,hl▸ag h2 (nb rfl)⟩,g.p1,g.p3,aa hl g.pw,ag h4 (nb rfl),aa hl rfl,ag h6 (ag h2 (nb rfl)),ip h5,by have:=g.p1;exact ag (gJ ..) (ag h6 h2),λc hc=>⟨aa hl ((F.each c hc).1), ?_⟩,λc hc=>⟨by have:=(F.each c hc).2.2.2.1;exact ag this (nb rfl),il (F.each c hc).2.2.2.2 (by decide)⟩,λhs aU=> ?_⟩
 ·refine aa (OD (hl▸hk)) ?_;cases hf:(aX s size w p).find? λc=>c.1==k with
  | none=>exact ⟨da _,by decide⟩
  | some c =>
   have:=F.each c (Xs hf)
   generalize 60 / w=q at *
   exact ⟨by dsimp only;exact ag this.2.1 (b6 rfl),by dsimp only;exact ag this.2.2.2.1 (nb rfl)⟩
 ·exact aa (OD (F.each c hc).1) (aa (find_key F.nd hc) rfl)
 ·have rL:=Oc hs
  rw [aU] at rL
  obtain ⟨a,b,c,_⟩:=OE (by have:=g.p1;exact ag (fT this) h5) (ag h6 h2) g.p1 g.p3 (h5) rL;refine ⟨a,b,λau fL=> ?_⟩;obtain ⟨c1,c2,c3⟩:=c au fL;exact (On (ag c1 (ag h3 (nb rfl))) (OG (by have:=g.p1;exact ag (fT this) h5) (ag h6 h2) g.p1 g.p3 (h5) c1 c2 c3)).1
theorem agu(ht:ak.length=size)(Ls:List Lf)(bad:List Nat)(hc:∀c∈aX s size w p,(Ls.getD c.1 ay).cont.length=4*c.2.2.1)(hb:bad.length≤p)
  (h:∀x∈aC (aX s size w p) (aG ak (aX s size w p) p),ck x∉bad->(Ls.getD (ck x) ay).out=false/\(Ls.getD (ck x) ay).cont=x.2):Acc (aX s size w p) p size ak (bx Ls (aX s size w p)):=by
 have F:=mM g
 have jd:=OA g (ak:=ak)
 have fk:=Gi g (ak:=ak)
 have Gl:=OB g (ak:=ak)
 have i0:=OC g ht
 generalize aX s size w p=af at *
 have tZ:af.length≤6:=ag F.few g.w6
 have hH:p<af.length:=F.big
 have OP:(eR ak af).length+p=af.length:=aa fk (wc (bS hH))
 have hr:∀i,i<af.length->i∉qH af bad->(Ls.getD (kQ af i) ay).out=false/\(Ls.getD (kQ af i) ay).cont=(aG ak af p).getD i []:=λi hi hI=>by
  have hz:(aC af (aG ak af p))[i]? =some (af.getD i (0,0,0,0),(aG ak af p).getD i []):=sL.mpr ⟨by rw [bI hi,cZ hi],by rw [bI (ao jd.symm hi)];exact congrArg some (cZ (jd.symm▸hi)).symm⟩
  exact h _ (cw hz) λhb=>hI (Bo.mpr ⟨hi,hb⟩)
 have Bp:=Oc (bx Ls af)
 rw [sI] at Bp
 have OQ:∀i∈g8 (bx Ls af),i∈qH af bad:=λi hi=>agp (λi a b=>(hr i a b).1) hi (fZ.mp (Bp.subset hi))
 have agv:=λi=>OM (i:=i) OQ
 have aU:=ag (agq OH (Bp.nodup DF) OQ) (ag (ago F.nd) hb)
 have H:=OE (n:=af.length) (ag (fT g.p1) hH) tZ g.p1 g.p3 hH Bp
 have tV:=H.2.2.2 _ aU (List.filter_sublist.filter _)
 have hv:=H.2.2.1 _ tV
 refine ⟨_,tV, ?_⟩
 have OS:∀i,i<af.length->i∉g8 (bx Ls af)++x7 (qH af bad) (g8 (bx Ls af))->(gc af (bx Ls af)).getD i []=(aG ak af p).getD i []:=λi hi hn=>by
  have r:=hr i hi λq=>hn ((agv i).mpr q)
  refine aa (ON hi) (aa (OK r.1) ?_);exact r.2
 have agw:∀i,i<af.length->((gc af (bx Ls af)).getD i []).length=((aG ak af p).getD i []).length:=λi hi=>by
  have e:=congrArg (λz=>z[i]?) Gl
  have hw:=jd.symm▸hi
  rw [cW,cW,bI hw,bI hi] at e
  refine aa (ON hi) (aa (cZ hw) (aa (agr (L:=Ls.getD (kQ af i) ay) (k:=(af.getD i (0,0,0,0)).2.2.1) (hc (af.getD i (0,0,0,0)) (by rw [cZ hi];exact mA hi))) (aa (cZ hi) ?_)));exact (aN e).symm
 have hq:∀{q},q<(eR ak af).length->p+q<af.length:=λh=>OP▸ao (ll p _) (wW h p)
 refine (?_:(o0 (gc af (bx Ls af)) p _).flatten.take size=ak);refine aa (solve (held:=gc af (bx Ls af)) (gx:=eR ak af) (ao Gk.symm tZ) g.p3 g.p1 (OP.trans Gk.symm) (ag hv.1 (ag g.p3 (nb rfl))) hv.2.1 (λq h=>by rw [agw _ (hq h),OO]) (λq h hn=>by rw [OS _ (hq h) hn,OO]) (λv h hn=>by rw [OS _ (Ga h hH) hn,ags h])
  (by rw [Gk];exact OG (ag (fT g.p1) hH) tZ g.p1 g.p3 hH hv.1 hv.2.1 hv.2.2)) ?_
 exact i0
end
end
theorem agx(Ls:List Lf)(ds:List bK):∀(aW:List (List UInt8)),ds.length=aW.length->(∀x∈aC ds aW,(Ls.getD (ck x) ay).out=false/\(Ls.getD (ck x) ay).cont=x.2)->bx Ls ds=aW.map some:=by
 induction ds with
 | nil=>exact λaW h _=>aa (zl.mp h.symm) rfl
 | cons c ds ih =>
  intro aW h hx;rcases aW with _ | ⟨q,aW⟩
  ·exact qg h
  refine dP (hx (c,q) (.head _)) λh1 h2=> ?_;refine (?_:dZ (Ls.getD c.1 ay)::bx Ls ds=_);refine aa (ih aW (q6 h) λx oA=>hx x (.tail _ oA)) ?_;unfold dZ;refine aa (show (Ls.getD c.1 ay).out=false from h1) (aa (if_neg (by decide)) (aa (show (Ls.getD c.1 ay).cont=q from h2) rfl))
theorem agy(l:List (List UInt8)):nJ (l.map some)=l:=l.rec rfl λJ J e=>congrArg _ e
theorem agz(l:List (List UInt8)):(l.map some).any (λz=>z.isNone)=false:=by
 rw [DW];intro x hx;refine aD (bJ.mp hx) λy J bQ=> ?_;subst bQ
 simp
theorem agA(Ls:List Lf)(ds:List bK):(bx Ls ds).any (λz=>z.isNone)=false->nJ (bx Ls ds)=ds.map λc=>(Ls.getD c.1 ay).cont:=by
 induction ds with
 | nil=>exact λJ=>rfl
 | cons c ds ih =>
  intro h;rw [show bx Ls (c::ds)=dZ (Ls.getD c.1 ay)::bx Ls ds from rfl,List.any_cons,vJ] at h
  refine (?_:(dZ (Ls.getD c.1 ay)).getD []::nJ (bx Ls ds)=_);refine aa (ih h.2) ?_;unfold dZ at h ⊢
  cases q:(Ls.getD c.1 ay).out with
  | true=>rw [q] at h;simp at h
  | false=>exact aa (if_neg (by decide)) rfl
theorem agB(l:List Nat):∀(i:Nat) (h:i<l.length),(l.take i).sum+l[i]≤l.sum:=by
 induction l with
 | nil=>exact λi h=>absurd h (E5 i)
 | cons x l ih =>
  intro i h;rcases i with _ | i
  ·simp
  simp only [IQ,sd,List.getElem_cons_succ];exact ag (b6 (ka ..)) (lP (ih i (Nat.lt_of_succ_lt_succ h)) _)
theorem agC(h:0<b.length):(hO b).getD 0 0≠b.getD 0 0:=by
 cases b with
 | nil=>simp at h
 | cons x b =>
  have:∀x:Fin 256,(255 - kH x.1)≠kH x.1:=by decide +kernel
  have h2:=this ⟨x.toNat,qo x⟩
  simp only [aeh] at h2
  exact h2
theorem zip_get{a:List α}{b:List β}{x:α×β}(h:x∈aC a b):∃i:Nat,a[i]? =some x.1/\b[i]? =some x.2:=by
 obtain ⟨i,hi⟩:=qf.mp h;exact ⟨i,sL.mp hi⟩
section
variable{w p s size:Nat}(g:iE w p s size){ls:List Addr}(hl:ls.length=w){ak:List UInt8}
include g hl
theorem agD(ht:ak.length=size):c6 (60 / w+8) (jf w (aX s size w p)) ls p s size (aX s size w p) ak:=by
 have B:=agt g hl
 have F:=mM g
 have ai5:=g.z1
 have jd:=OA g (ak:=ak)
 have fk:=Gi g (ak:=ak)
 have Gl:=OB g (ak:=ak)
 have i0:=OC g ht
 have Gm:=Gh ak (((aX s size w p).drop p).map λc=>c.2.2.1) 0
 rw [<-Bn g,dj] at Gm
 have agE:∀x∈aC (aX s size w p) (aG ak (aX s size w p) p),x.2.length=4*x.1.2.2.1:=λx hx=>by
  refine aD (zip_get hx) λi h1 h2=> ?_
  have:=congrArg (λz=>z[i]?) Gl
  rw [cW,cW,h1,h2] at this
  have e:x.2.length=x.1.2.2.1*4:=aN this
  exact e.trans (u4 ..)
 have agF:(aG ak (aX s size w p) p).drop p=eR ak (aX s size w p):=by
  unfold aG;exact aa (acZ (by rw [lA,aE,fj];exact cg _)) (aa (abn (by rw [lA,aE,fj];exact cg _)) (aa (Dj ..) rfl))
 have OT:(aC (aX s size w p) (aG ak (aX s size w p) p)).drop p=aC ((aX s size w p).drop p) (eR ak (aX s size w p)):=by
  refine ao agF ?_;rewrite [aC];exact aa aes rfl
 have jb:((aX s size w p).drop p).length=(eR ak (aX s size w p)).length:=aa fk (aa f9 rfl)
 refine ⟨B,ht,jd,λx hx=>⟨B.jK x.1 (iB hx).1,agE x hx,by have:=(F.each x.1 (iB hx).1).2.2.2.1;exact ag this (by decide)⟩,F.nd,λc hc=>(F.each c hc).2.2.1,λLs bad hc hb h=>agu g hl ht Ls bad hc hb h,λLs h=> ?_,λLs h fA hP=> ?_⟩
 ·rw [OT] at h
  unfold nK;refine aa (agx Ls _ _ jb h) (aa (agy ..) ?_);exact ⟨agz _,i0⟩
 ·rw [OT] at h fA
  obtain ⟨hn,hf⟩:=hP;rw [agA Ls _ hn] at hf
  refine aD (fA) λx hx agG=>aD (zip_get hx) λi x8 OU=> ?_;generalize eR ak (aX s size w p)=aW at *
  have agH:=F.tot
  have agI:=F.each
  generalize DE:(aX s size w p).drop p=ds at *
  have rL:∀c∈ds,c∈aX s size w p:=λc hc=>by rw [<-DE] at hc;exact nV hc
  have aU:(ds.map λc=>(Ls.getD c.1 ay).cont).map (λz=>z.length)=aW.map (λz=>z.length):=by
   refine aa dj ?_
   apply w4
   intro j;rw [cW,cW]
   by_cases q:j<ds.length
   ·have hj:(aC ds aW)[j]? =some (ds[j],aW[j]'(ao jb q)):=sL.mpr ⟨bI q,bI _⟩
    have:=h _ (cw hj)
    rw [bI q,bI (jb▸q:j<aW.length)];refine congrArg some ?_;rcases this with e | e
    ·exact congrArg rX e
    ·exact (congrArg rX e).trans (uO _)
   ·rw [iy (fG q),iy (ao jb (fG q))];rfl
  have iZ:=(du.mp x8).1
  have OV:x.2.length=4*x.1.2.2.1:=by
   have:=congrArg (λz=>z[i]?) Gm
   rw [cW,cW,x8,OU] at this
   have e:x.2.length=x.1.2.2.1*4:=aN this
   exact e.trans (u4 ..)
  have xW:=(agI x.1 (rL x.1 (cw x8))).2.2.1
  have OW:(ds.map λc=>(Ls.getD c.1 ay).cont).getD i []=hO x.2:=by
   rw [ja,cW,x8];exact agG
  have agJ:aW.getD i []=x.2:=by rewrite [ja];refine aa OU ?_;rfl
  have:=agj (A:=ds.map λc=>(Ls.getD c.1 ay).cont) (B:=aW) (n:=size) (i:=i) aU (hf.trans i0.symm) ?_ (by refine aa OW (aa (uO ..) ?_);exact OV▸NL (by decide) xW)
  ·rw [OW,agJ] at this
   exact agC (OV▸NL (by decide) xW) this
  ·refine aa xq (aa aU (aa Gm (ao xq ?_)))
   have ts:=agB (ds.map λc=>c.2.2.1) i (by refine aa (aE ..) ?_;exact iZ)
   rw [agH,agn,(du.mp x8).2] at ts
   have e4:∀l:List Nat,(l.map (λz=>z *4)).sum=l.sum*4:=λl=>by
    induction l with
    | nil=>rfl
    | cons a l ih=>refine aa eP (aa sd (aa sd (aa ih ?_)));exact (Ox ..).symm
   have e5:((ds.take i).map ((λx=>x*4) ∘ λc:bK=>c.2.2.1)).sum=((ds.map λc=>c.2.2.1).take i).sum*4:=ao xq (ao (e4 ..) (aa dj rfl))
   exact aa e5 (Pk xW ts)
end
theorem agK:Bc where
 oct:=λw p s size ls ak g hl ht=>agD g hl ht
 Bd:=λw p s size g=>let F:=mM g;⟨F.Bd,F.pn,F.pt⟩
 big:=λw p s size g=>(mM g).big
 Be:=λw p s size g=>⟨by unfold AB;exact (mM g).Be,(mM g).sum⟩
theorem OX{M:Model}{Q:List (Str×Value)->al->Prop}{t:Addr}{o:Obj}{d:Array Value}{ep:Nat}(hd:fd.defaults= .ref t)(ho:s.heap.get? t=some o)(agL:o.data= .seq d ep){f:Option (Array Value)->Sem (List (Str×Value))}(h:ai M A (f (some d)) Q E s):ai M A (seqItems? fd.defaults>>=f) Q E s:=by
 exact aa hd (aq (ba (lu ho agL h)))
theorem x9{h:Heap}{i:Int}(r:aO U h (.int i::vs) ys):∃t zs,ys= .int i t::zs/\aO U h vs zs:=by
 refine eV r.cons_inv λy zs e a b=> ?_;obtain ⟨t,rfl⟩:=a.int_inv;exact ⟨t,zs,e,b⟩
noncomputable def ya:Array Value:= #[.int 16 817, .int 32 818, .int 32 819, .int 4 820, .int 4 821, .int 4 822, .int 2 823, .int 128 824, .int 192 825, .int 160 826, .int 128 827]
noncomputable def Bq:List Str:= ["self","sector","slab","record","fan","dnodes","ring","defer","most_record","uber","config","zap"]
theorem agM{X:Cx}(h1:fd.params.posonlyargs= [])(h2:fd.params.vararg=none)(h3:fd.params.kwonlyargs= [])(h4:fd.params.kwarg=none)(hn:fd.params.args.map (λz=>z.arg)=Bq)(hd:fd.defaults= .ref 448)
  (ho:X.h₀.get? 448=some {cls:= .type "tuple",data:= .seq ya}) (v:ab):pZ X fd [v, .int 4, .int 8] [("ring", .int 1),("uber", .int 4),("config", .int 4)] [v, .int 4, .int 8, .int 32, .int 4, .int 4, .int 1, .int 2, .int 128, .int 4, .int 4, .int 128]:=by
 intro A E Q σ κ s ys dI G hv hk q;obtain ⟨y,z1,rfl,v0,jt⟩:=VR.cons_inv hv;obtain ⟨t1,z2,rfl,ik⟩:=x9 jt;obtain ⟨t2,z3,rfl,Df⟩:=x9 ik;cases VR.nil_inv Df;obtain ⟨t3,z4,rfl,AA⟩:=x9 hk;obtain ⟨t4,z5,rfl,m9⟩:=x9 AA;obtain ⟨t5,z6,rfl,xo⟩:=x9 m9;cases VR.nil_inv xo;rw [hn] at q
 refine (?_:ai X.M A (bindArgs fd ⟨[y, .int 4 t1, .int 8 t2],[("ring", .int 1 t3),("uber", .int 4 t4),("config", .int 4 t5)]⟩) Q E s);refine DC (names:=Bq) (r:=some ya) (ds:=ya.toList) (res:=Bq.zip [y, .int 4 t1, .int 8 t2, .int 32 819, .int 4 820, .int 4 821, .int 1 t3, .int 2 823, .int 128 824, .int 4 t4, .int 4 t5, .int 128 827]) h1 h2 h3 h4 hn (OX hd (G.keep _ _ ho) rfl) (by kernel_rfl) (by kernel_rfl) (by kernel_rfl) (by kernel_rfl) (by kernel_rfl) (q [y, .int 4 t1, .int 8 t2, .int 32 819, .int 4 820, .int 4 821, .int 1 t3, .int 2 823, .int 128 824, .int 4 t4, .int 4 t5, .int 128 827]
  (.cons v0 (.cons (.int _ _) (.cons (.int _ _) (.cons (.int _ _) (.cons (.int _ _) (.cons (.int _ _) (.cons (.int _ _) (.cons (.int _ _) (.cons (.int _ _) (.cons (.int _ _) (.cons (.int _ _) (.cons (.int _ _) .nil)))))))))))))
theorem agN{X:Cx}(h1:fd.params.posonlyargs= [])(h2:fd.params.vararg=none)(h3:fd.params.kwonlyargs= [])(h4:fd.params.kwarg=none)(hn:fd.params.args.map (λz=>z.arg)= [("self" :Str),("rows" :Str)])(hd:fd.defaults= .ref 513)
  (ho:X.h₀.get? 513=some {cls:= .type "tuple",data:= .seq #[.ref 512]}) (he:X.h₀.get? 512=some {cls:= .type "tuple",data:= .seq #[]}) (v:ab):pZ X fd [v] [] [v, .tuple []]:=by
 intro A E Q σ κ s ys dI G hv hk q;obtain ⟨y,z1,rfl,v0,jt⟩:=VR.cons_inv hv;cases VR.nil_inv jt;cases VR.nil_inv hk;rw [hn] at q
 refine DC (names:= ["self","rows"]) (r:=some #[.ref 512]) (ds:= [.ref 512]) (res:= [("self",y),("rows", .ref 512)]) h1 h2 h3 h4 hn (OX hd (G.keep _ _ ho) rfl) (by kernel_rfl) (by kernel_rfl) (by kernel_rfl) (by kernel_rfl) (by kernel_rfl) <| q [y, .ref 512] (.cons v0 (.cons (.tuple (items:= []) (G.base _ _ he) ⟨_,G.keep _ _ he,rfl,_,rfl⟩ .nil) .nil))
noncomputable def fnOf(d:Data):Option FuncData:=d.casesOn none (λJ=>none) (λJ J=>none) (λJ J=>none) (λJ J J=>none) (λJ J=>none) (λJ=>none) some (λJ=>none) (λJ=>none) none
noncomputable def OY(d:Data):Option (Array Value):=d.casesOn none (λJ=>none) (λJ J=>none) (λJ J=>none) (λJ J J=>none) (λJ J=>none) (λJ=>none) (λJ=>none) (λJ=>none) some none
noncomputable def Gn(v:Value):Option Addr:=xV none none (λJ=>none) (λJ=>none) some v
noncomputable def OZ(v:Value):Option Str:=v.casesOn none none none (λJ=>none) (λJ J=>none) (λJ J=>none) (λq J=>some q) (λJ J=>none) (λJ=>none) (λJ=>none) λJ=>none
noncomputable def numOf(v:Value):Option Int:=xV none none (λJ=>none) some (λJ=>none) v
theorem agO{d:Data}(h:fnOf d=some fd):d= .func fd:=by
 rcases d with ⟨⟩<;>first | exact nn h | exact congrArg _ (aN h)
theorem agP{d:Data}{vs:Array Value}(h:OY d=some vs):d= .fields vs:=by
 rcases d with ⟨⟩<;>first | exact nn h | exact congrArg _ (aN h)
theorem O0{v:Value}{c:Addr}(h:Gn v=some c):v= .ref c:=by
 rcases v with ⟨⟩<;>first | exact nn h | exact congrArg _ (aN h)
theorem agQ{v:Value}{q:Str}(h:OZ v=some q):∃t,v= .str q t:=by
 rcases v with ⟨⟩<;>first | exact nn h | exact ⟨_,congrArg (λz=>zF z _) (aN h)⟩
theorem agR{v:Value}{i:Int}(h:numOf v=some i):∃t,v= .int i t:=by
 rcases v with ⟨⟩<;>first | exact nn h | exact ⟨_,congrArg (λz=>ai6 z _) (aN h)⟩
noncomputable def kR(K:eF)(a:Addr):FuncData:=((K.lookup a).bind λo=>fnOf o.data).getD default
noncomputable def agS(K:eF)(a:Addr):Option Bool:=((K.lookup a).bind λo=>fnOf o.data).bind λfd=>(Gn fd.code).bind λc=>((K.lookup c).bind λo=>OY o.data).bind λvs=>(vs[1]?.bind OZ).map (λz=>z ==fd.qualname)
noncomputable def recOk(K:eF)(a:Addr):Bool:=agS K a==some true
theorem agT{K:eF}(e:recOk K a=true):(∃o,K.lookup a=some o/\o.data= .func (kR K a))/\∃c o vs t,(kR K a).code= .ref c/\K.lookup c=some o/\o.data= .fields vs/\vs[1]? =some (.str (kR K a).qualname t):=by
 obtain ⟨fd,hf,e⟩:=cQ.mp (eq_of_beq e);obtain ⟨c,hc,e⟩:=cQ.mp e;obtain ⟨vs,hv,e⟩:=cQ.mp e;obtain ⟨q,hq,e⟩:=lW.mp e;obtain ⟨v,h1,h2⟩:=cQ.mp hq;obtain ⟨o,ho,hd⟩:=cQ.mp hf;obtain ⟨o',rE,ft⟩:=cQ.mp hv;refine aa (show kR K a=fd by rw [kR,hf];rfl) ?_;obtain ⟨t,h2⟩:=agQ h2;exact ⟨⟨o,ho,agO hd⟩,c,o',vs,t,O0 hc,rE,agP ft,h1.trans (congrArg some (h2.trans (congrArg (λz=>zF z t) (eq_of_beq e))))⟩
noncomputable def O1(v:Value):Bool:=eh v.ctorIdx 0
noncomputable def O2(K:eF)(a:Addr):Bool:=O1 (kR K a).defaults
theorem agU{v:Value}(h:O1 v=true):v= .none:=by
 rcases v with ⟨⟩<;>first | rfl | exact ff h
theorem agV{K:eF}(e:O2 K a=true):(kR K a).defaults= .none:=agU e
noncomputable def O3(K:eF)(C:Addr)(x:Str):Bool:=plainGet K C x&&hasDictIn K C&&((findIn K (.ref C) x).map (noGet K)==some true)&&findIn K (.ref C) "__setattr__" ==some (some (.builtin "object.__setattr__"))&&plainOver K C&&takerIn K C x==some none
theorem agW{K:eF}{C:Addr}(e:O3 K C x=true):vH K C x:=by
 exact dP (bP.mp e) λe e6=>dP (bP.mp e) λe e5=>dP (bP.mp e) λe e4=>dP (bP.mp e) λe e3=>dP (bP.mp e) λe1 e2=>⟨e1,e2,lW.mp (eq_of_beq e3),eq_of_beq e4,e5,eq_of_beq e6⟩
theorem lookup_mem{α:Type} [BEq α] [LawfulBEq α]{l:List (α×β)}{a:α}{b:β}(h:l.lookup a=some b):(a,b)∈l:=by
 induction l with
 | nil=>exact nn h
 | cons p l ih =>
  obtain ⟨x,y⟩:=p;rw [lh] at h
  rcases q:a==x with _ | _
  ·rw [q] at h;exact .tail _ (ih h)
  ·rw [q] at h;refine aa (eq_of_beq q) (ao (aN h) ?_);exact .head _
noncomputable def O4(K:eF)(C:Addr)(x:Str)(f:Addr):Bool:=plainGet K C x&&findIn K (.ref C) x==some (some (.ref f))&&isFn K (.ref f)
noncomputable def O5(K:eF)(C:Addr)(f:Addr):Bool:=makesIn K C&&findIn K (.ref C) "__init__" ==some (some (.ref f))&&typeIn K (.ref f)==some (.type "function")
noncomputable def O6(v:Value):Bool:=(numOf v).isNone
noncomputable def gB(K:eF)(x:Str)(v:ab):Bool:=xA false (λy=>O6 y&&(nsIn K mainGlobals x==some (some y) || (nsIn K mainGlobals x==some none&&bootBuiltins x==some y&&x != "__name__")))
 (λi=>((nsIn K mainGlobals x).bind λo=>o.bind numOf)==some i) (λJ=>false) (λJ=>false) (λJ=>false) v
theorem agX(h:O6 y=true):vI y= .raw y:=by
 rcases y with ⟨⟩<;>first | rfl | exact ff h
theorem agY{K:eF}(e:gB K x v=true):∃y,v=vI y/\(nsIn K mainGlobals x=some (some y)∨(nsIn K mainGlobals x=some none/\bootBuiltins x=some y/\x≠ "__name__")):=by
 rcases v with y | i | _ | _ | _ | _ | _ | _<;>first | exact ff e | skip
 ·refine dP (bP.mp e) λe1 e2=>⟨y,(agX e1).symm,(Jk.mp e2).imp eq_of_beq λe=> ?_⟩;refine dP (bP.mp e) λe e4=>dP (bP.mp e) λe2 e3=>⟨eq_of_beq e2,eq_of_beq e3,by simpa using e4⟩
 ·obtain ⟨o,h1,h2⟩:=cQ.mp (eq_of_beq e);obtain ⟨y,h3,h4⟩:=cQ.mp h2;obtain ⟨t,h5⟩:=agR h4;exact ⟨y,h5▸rfl, .inl (h1.trans (congrArg some h3))⟩
noncomputable def ghost(ts:List Addr)(h:Heap):Heap:=⟨h.objs.mapIdx λi o=>if ts.contains i then {o with data:= .freed} else o,h.life⟩
theorem ghost_get(ts:List Addr)(h:Heap)(a:Addr):(ghost ts h).get? a=if ts.contains a then none else h.get? a:=by
 unfold ghost Heap.get?;rw [Array.getElem?_mapIdx];cases q:h.objs[a]? with
 | none=>cases ts.contains a<;>rfl
 | some o =>
  cases ts.contains a with
  | true=>rfl
  | false=>rfl
theorem O7{ts:List Addr}{h:Heap}{o:Obj}(e:(ghost ts h).get? a=some o):h.get? a=some o/\ts.contains a=false:=by
 rw [ghost_get] at e
 cases q:ts.contains a with
 | true=>rw [q] at e;cases e
 | false=>rw [q] at e;exact ⟨e,rfl⟩
theorem sT{ts:List Addr}{h:Heap}{o:Obj}(e:h.get? a=some o)(q:ts.contains a=false):(ghost ts h).get? a=some o:=by
 refine aa (ghost_get ..) (aa q ?_);exact e
noncomputable def iG:List Addr:= [778,783,795]
noncomputable def qI:List (Addr×Addr×Str):= [(780,778,"_law_is_lost_right.<locals>.<lambda>"),(785,783,"_law_is_anew_right.<locals>.<lambda>"),(797,795,"_law_group_right.<locals>.<lambda>")]
noncomputable def Go(fd:FuncData)(t:Addr)(ns:List Str):Bool:=fd.params.posonlyargs.isEmpty&&fd.params.vararg.isNone&&fd.params.kwonlyargs.isEmpty&&fd.params.kwarg.isNone&&fd.params.args.map (λz=>z.arg)==ns&&fd.defaults== .ref t
theorem O8{t:Addr}{ns:List Str}(e:Go fd t ns=true) :
  fd.params.posonlyargs= []/\fd.params.vararg=none/\fd.params.kwonlyargs= []/\fd.params.kwarg=none/\fd.params.args.map (λz=>z.arg)=ns/\fd.defaults= .ref t:=by
 exact dP (bP.mp e) λe e6=>dP (bP.mp e) λe e5=>dP (bP.mp e) λe e4=>dP (bP.mp e) λe e3=>dP (bP.mp e) λe1 e2=>⟨vg.mp e1,CW.mp e2,vg.mp e3,CW.mp e4,eq_of_beq e5,eq_of_beq e6⟩
noncomputable def Gp(a:Addr):Bool:=a==781 || a==786 || a==798
noncomputable def Br:List (Addr×Fn):=uk++ [(455,Cp),(520,Cq)]
noncomputable def O9:List (Addr×Addr×Addr):= [(781,780,778),(786,785,783),(798,797,795)]
noncomputable def O'(K:eF)(t:Addr×Addr×Addr):Bool:=(Gn (kR K t.1).code==some t.2.1)&&codeHdIn K t.2.1 t.2.2&&qI.contains (t.2.1,t.2.2,(kR K t.1).qualname++ ".<locals>." ++ "<lambda>")
structure yb(K:nP->eF):Prop where
 fns:∀P,Br.map (λp=>vp 20 (Gp p.1) l7 (kR (K P) p.1))=Br.map λp=>some p.2
 agZ:∀P,Br.all (λp=>recOk (K P) p.1)=true
 ag0:∀P,uk.all (λp=>O2 (K P) p.1)=true
 fields:∀P,B4.all (λp=>p.2.all λx=>O3 (K P) p.1 x)=true
 meths:∀P,Ho.all (λp=>p.2.all λq=>O4 (K P) p.1 q.1 q.2)=true
 yQ:∀P,B5.all (λp=>O5 (K P) p.1 p.2)=true
 ag1:∀P,l7.all (λp=>gB (K P) p.1 p.2)=true
 keys:∀P,(K P).all (λp=> !iG.contains p.1)=true
 heads:∀P,qI.all (λt=>codeHdIn (K P) t.1 t.2.1)=true
 lams:∀P,O9.all (O' (K P))=true
 ag2:∀P,Go (kR (K P) 455) 448 Bq=true
 ag3:∀P,Go (kR (K P) 520) 513 ["self","rows"]=true
 ag4:∀P,(K P).lookup 448=some {cls:= .type "tuple",data:= .seq ya}
 ag5:∀P,(K P).lookup 513=some {cls:= .type "tuple",data:= .seq #[.ref 512]}
 ag6:∀P,(K P).lookup 512=some {cls:= .type "tuple",data:= .seq #[]}
 law:∀P,nsIn (K P) mainGlobals "law" =some (some (.ref 805))
def ag7(K:nP->eF)(prog:dE)(l:Bs):Prop:=∀(w:cu) (s:al) (cl:Str->Option Addr) (lO Bt:Bu->Option Value) (p:dE) (loose:List Str) (mg mb:Str->Option Value) (fa:Addr) (args:List vd) (v:List Value),
 Top p loose Bt mg mb s.heap->importsNone p=true->(K w.params).In s.heap->(∀P∈iG,s.heap.get? P=some (tabObj #[]))->s.gens= #[]->mg "law" =some (.ref fa)->l.row.toRowW.claim.pre args=true->WellAll w.params s.heap v args->
  ai (model prog w) callerA (vh (.ref fa) v) (λv s'=>pq l.row.toRowW.claim cl lO args s (.ok (.ret v)) s') (λe s'=>pq l.row.toRowW.claim cl lO args s (.error e) s') s
section
variable {args:List vd}
section
variable{K:nP->eF}(F:yb K)
include F
theorem ag8(P:nP):∀x v,l7.lookup x=some v->∃y,v=vI y/\(nsIn (K P) mainGlobals x=some (some y)∨(nsIn (K P) mainGlobals x=some none/\bootBuiltins x=some y/\x≠ "__name__")):=λx v h =>
 agY (fE.mp (F.ag1 P) (x,v) (lookup_mem h))
theorem ghost_K{w:cu}{h:Heap}(X:(K w.params).In h):(K w.params).In (ghost iG h):=λa o e =>
 sT (X a o e) (by simpa using fE.mp (F.keys w.params) (a,o) (lookup_mem e))
end
noncomputable def j9(K:nP->eF)(prog:dE)(w:cu)(h:Heap)(os:OsState):Cx:=⟨prog,w,K w.params,ghost iG h,os,qI⟩
section
variable{K:nP->eF}(F:yb K){prog:dE}{w:cu}{h:Heap}{os:OsState}{p:dE}{loose:List Str}{lO:Bu->Option Value}{mg mb:Str->Option Value}
include F
theorem ag9(T:Top p loose lO mg mb h)(hi:importsNone p=true)(Y:(K w.params).In h)(ht:∀P∈iG,h.get? P=some (tabObj #[])):fb (j9 K prog w h os) where
 K:=ghost_K F Y
 nolimit:=let ⟨mc,⟨o,es,ep,e,r⟩,q⟩:=T.nolimit;⟨mc,⟨o,es,ep,sT e rfl,r⟩,q⟩
 glob:=by
  refine Pa (T.bmain) λbm ob h1 h2 h3 h4 h5 h6=>Pb (T.g) λo es ep e r r'=> ?_;refine o9 (T.b) λag' IM IP e' rb=> ?_
  have bz:bm≠mainGlobals:=λq=>by
   rw [q,e] at h3
   cases h3;rw [r] at h6
   cases h6
  refine ⟨mg,mb,⟨o,es,ep,sT e rfl,r,r'⟩,⟨ag',IM,IP,sT e' rfl,rb⟩,T.builtins,bm,ob,h1,h2,bz,sT h3 ?_,h4,h5,h6⟩;cases q:iG.contains bm with
  | false=>rfl
  | true =>
   have:=ht bm (sS.mp q)
   rw [h3] at this
   cases this;cases h4
 cls:=λC x hf=>by
  unfold mW at hf
  cases q:B4.lookup C with
  | none=>rw [q] at hf;cases hf
  | some l =>
   rw [q] at hf
   exact agW (fE.mp (fE.mp (F.fields w.params) _ (lookup_mem q)) x (sS.mp hf))
 H9:=let ⟨_,⟨o,_,_,e,_⟩,_⟩:=(T.seer hi).mods;⟨o,sT e rfl⟩
 meths:=λC x f hm=>by
  unfold py at hm
  refine aD (cQ.mp hm) λl q q'=> ?_
  have:=fE.mp (fE.mp (F.meths w.params) _ (lookup_mem q)) _ (lookup_mem q')
  unfold O4 at this
  simp only [ro] at this
  exact ⟨this.1.1,eq_of_beq this.1.2,this.2⟩
 yQ:=λC f hm=>by
  have:=fE.mp (F.yQ w.params) _ (lookup_mem hm)
  unfold O5 at this
  simp only [ro] at this
  exact ⟨this.1.1,eq_of_beq this.1.2,eq_of_beq this.2⟩
 H':=by
  refine (?_:∀t∈qI,∀t'∈qI,t.2.1=t'.2.1->t=t')
  decide +kernel
theorem Gq(Y:(K w.params).In h){f:Fn}(m:(a,f)∈Br):∃lam,pY (j9 K prog w h os) a f (kR (K w.params) a) lam:=by
 obtain ⟨⟨o,e1,e2⟩,c,oc,vs,t,e3,e4,e5,e6⟩:=agT (fE.mp (F.agZ w.params) _ m);refine ⟨Gp a,⟨o,ghost_K F Y _ _ e1,e2⟩,⟨c,oc,vs,t,e3,ghost_K F Y _ _ e4,e5,e6⟩,List.map_inj_left.mp (F.fns w.params) _ m,λq=> ?_⟩;obtain ⟨co,Q,hm⟩:∃co Q,(a,co,Q)∈O9:=by
  unfold Gp at q
  simp only [Vk,beq_iff_eq] at q
  rcases q with (rfl | rfl) | rfl
  ·exact ⟨780,778, .head _⟩
  ·exact ⟨785,783, .tail _ (.head _)⟩
  ·exact ⟨797,795, .tail _ (.tail _ (.head _))⟩
 have hb:=fE.mp (F.lams w.params) _ hm
 unfold O' at hb
 simp only [ro] at hb
 obtain ⟨⟨b1,b2⟩,b3⟩:=hb;exact ⟨co,Q,O0 (eq_of_beq b1),codeHd_of_K (ghost_K F Y) b2,sS.mp b3⟩
theorem aha(T:Top p loose lO mg mb h)(hi:importsNone p=true)(Y:(K w.params).In h)(ht:∀P∈iG,h.get? P=some (tabObj #[])):Ctx (j9 K prog w h os) where
 ok:=ag9 F T hi Y ht
 hg:=ag8 F w.params
 fns:=λq hq=>by
  obtain ⟨lam,D⟩:=Gq F (prog:=prog) (os:=os) Y (List.mem_append_left _ hq);exact ⟨_,lam,D,agV (fE.mp (F.ag0 w.params) q hq)⟩
theorem ahb(Y:(K w.params).In h):∃fd lam,pY (j9 K prog w h os) 455 Cp fd lam/\∀v,pZ (j9 K prog w h os) fd [v, .int 4, .int 8] [("ring", .int 1),("uber", .int 4),("config", .int 4)] [v, .int 4, .int 8, .int 32, .int 4, .int 4, .int 1, .int 2, .int 128, .int 4, .int 4, .int 128]:=by
 obtain ⟨lam,D⟩:=Gq F (prog:=prog) (os:=os) Y (ahc uk (.head _));refine GA (O8 (F.ag2 w.params)) λa1 a2 a3 a4 a5 a6=> ?_
 have e:(j9 K prog w h os).h₀.get? 448=some {cls:= .type "tuple",data:= .seq ya}:=ghost_K F Y _ _ (F.ag4 w.params)
 exact ⟨_,lam,D,λv=>agM a1 a2 a3 a4 a5 a6 e v⟩
theorem ahd(Y:(K w.params).In h):∃fd lam,pY (j9 K prog w h os) 520 Cq fd lam/\∀v,pZ (j9 K prog w h os) fd [v] [] [v, .tuple []]:=by
 obtain ⟨lam,D⟩:=Gq F (prog:=prog) (os:=os) Y (ahc uk (.tail _ (.head _)));refine GA (O8 (F.ag3 w.params)) λa1 a2 a3 a4 a5 a6=> ?_
 have e:(j9 K prog w h os).h₀.get? 513=some {cls:= .type "tuple",data:= .seq #[.ref 512]}:=ghost_K F Y _ _ (F.ag5 w.params)
 have e':(j9 K prog w h os).h₀.get? 512=some {cls:= .type "tuple",data:= .seq #[]}:=ghost_K F Y _ _ (F.ag6 w.params)
 exact ⟨_,lam,D,λv=>agN a1 a2 a3 a4 a5 a6 e e' v⟩
theorem ahe(T:Top p loose lO mg mb h)(hi:importsNone p=true)(Y:(K w.params).In h)(ht:∀P∈iG,h.get? P=some (tabObj #[])):uP (j9 K prog w h os) :=
 ⟨aha F T hi Y ht,ahb F Y,ahd F Y⟩
end
theorem ahf{R:WRecords}{xs:List vd}:ahg R xs .int=true->∃is:List Int,xs=is.map .int:=by
 induction xs with
 | nil=>exact λJ=>⟨[],rfl⟩
 | cons x xs ih =>
  intro h;simp only [ahg,ro] at h
  obtain ⟨i,rfl⟩:=hasW_int h.1;obtain ⟨is,rfl⟩:=ih h.2;exact ⟨i::is,rfl⟩
theorem ahh{R:WRecords}{t:WTm}{e:WCtx}(h:t.holds R e=true):t.value R e=some (.bool true):=by
 unfold ahi at h
 rcases q:t.value R e with _ | d
 ·rw [q] at h;exact ff h
 rw [q] at h
 rcases d with _ | b<;>first | exact ff h | skip
 rcases b with _ | _
 ·exact ff h
 ·rfl
theorem ahj{l:Bs}(hm:l.most=some 63)(hb:l.bound=none)(h:l.row.toRowW.claim.pre args=true):∃xs:List Int,args= [.list (xs.map .int)]/\xs.length≤63:=by
 obtain ⟨h1,h2⟩:=pre_splitW h;change ai7 [] args [.list .int]=true at h1
 refine eV (hasAllW_cons h1) λd r bQ h3 h4=> ?_;subst bQ;cases hasAllW_nil h4;refine aD (hasW_list h3) λys bb h5=> ?_;subst bb;obtain ⟨xs,rfl⟩:=ahf h5;refine ⟨xs,rfl, ?_⟩;change l.pre.holds [] {args:= [.list (xs.map .int)]}=true at h2
 unfold ai8 at h2
 rw [hm,hb] at h2
 have h6:=ahh (holds_andW h2).1
 simp only [ahk,less_int,List.getElem?_cons_zero,aE,AZ] at h6
 by_cases q:xs.length≤63
 ·exact q
 ·have e:decide ((63:Int)<(xs.length:Int))=true:=by simp;exact ir.mpr (EY q)
  simp [e] at h6
theorem ahl{l:Bs}{cl:Str->Option Addr}{lO:Bu->Option Value}{az:al}(hk:OldK az.heap s'.heap)(ho:s'.os=az.os)(hg:s'.gens= #[]):pq l.row.toRowW.claim cl lO args az (.ok (.ret (.bool true))) s' :=
 ⟨.inl ⟨.bool true, .bool true,[],rfl,λJ=>rfl, .bool _,by
  change (ahm .res (.lit (.bool true))).holds _ _=true;unfold ahi;exact aa (show (ahm .res (.lit (.bool true))).value l.row.records {args:=args,res:=some (.bool true),after:=args}=some (.bool true) by simp [ahk,same]) rfl,λJ=>⟨Ap,λJ h=>nomatch h⟩⟩,hk,ho, .of_eq hg⟩
theorem Gr:∀t∈qI,t.2.1∈iG:=by decide +kernel
theorem ahn:∀b∈iG,∃t∈qI,t.2.1=b:=by decide +kernel
noncomputable def κ0:bM:=λa=>if iG.contains a then .tab else .none
theorem aho{K:nP->eF}{w:cu}(ht:∀P∈iG,s.heap.get? P=some (tabObj #[]))(hg:s.gens= #[]):bq (j9 K prog w s.heap s.os) (λJ=>none) κ0 s where
 keep:=λb o e=>(O7 e).1
 os:=rfl
 gens:=hg
 tabs:=λt h=>⟨#[],ht _ (Gr t h),trivial,λpos cv h=>by cases h⟩
 base:=λa o e=>⟨rfl,by unfold κ0;refine aa ((O7 e).2) ?_;rfl⟩
 lt:=λa h=>by
  cases q:iG.contains a with
  | true=>exact ⟨_,ht a (sS.mp q)⟩
  | false=>exact absurd ⟨rfl,by unfold κ0;refine aa q ?_;rfl⟩ h
 fr:=λa L h=>by unfold κ0 at h;split at h<;>exact bZ h
 excl:=λa h=>absurd rfl h
 own:=λa o h=>by cases h
 dict:=λd a h=>by unfold κ0 at h;split at h<;>exact bZ h
 tab:=λt h=>if_pos (sS.mpr (Gr t h))
theorem ahp{K:nP->eF}(F:yb K){w:cu}{σ':ar}{κ':bM}(Y:(K w.params).In s.heap)(ht:∀P∈iG,s.heap.get? P=some (tabObj #[]))(G:bq (j9 K prog w s.heap s.os) σ' κ' s'):OldK s.heap s'.heap:=by
 have key:∀b o,s.heap.get? b=some o->s'.heap.get? b=some o∨∃t∈qI,t.2.1=b:=λb o e=>by
  cases q:iG.contains b with
  | true=>exact .inr (ahn b (sS.mp q))
  | false=>exact .inl (G.keep b o (sT e q))
 refine ⟨λb o e=> ?_,λb o e=> ?_⟩
 ·rcases key b o e with h | ⟨t,h,rfl⟩
  ·exact .inl h
  ·obtain ⟨ps,e',_⟩:=G.tabs t h
   have e0:=ht _ (Gr t h)
   rw [e] at e0
   cases e0;exact .inr (.inl ⟨((codeHd_of_K Y (fE.mp (F.heads w.params) t h)).tab e).isCodeTable,rfl, #[],ps,rfl,aa ab4 e'⟩)
 ·rcases key b o e with h | ⟨t,h,rfl⟩
  ·exact ⟨o,h⟩
  ·exact aD (G.tabs t h) λps e' J=>⟨_,e'⟩
theorem ahq{P:nP}{h:Heap}{xs:List Int}:∀{vs:List Value},WellAll P h vs (xs.map .int)->aO U h (xs.map .int) vs:=by
 induction xs with
 | nil=>intro vs r;cases r;exact .nil
 | cons x xs ih =>
  intro vs r;cases r with | cons a b =>
  cases a;exact .cons (.int _ _) (ih b)
theorem ahr:cL 12 callerA:=⟨rfl,by decide +kernel,by decide +kernel⟩
theorem ahs{K:nP->eF}(F:yb K){l:Bs}{w:cu}{cl:Str->Option Addr}{lO:Bu->Option Value}{p:dE}{loose:List Str}{Bt:Bu->Option Value}{mg mb:Str->Option Value}
  (T:Top p loose Bt mg mb s.heap) (hi:importsNone p=true) (Y:(K w.params).In s.heap) (ht:∀P∈iG,s.heap.get? P=some (tabObj #[])) (hg:s.gens= #[]) {v:Value} {xs:List Int} (hl:xs.length≤63) (hv:Well w.params s.heap v (.list (xs.map .int))) :
  ai (model prog w) callerA (vh (.ref 805) [v]) (λv s'=>pq l.row.toRowW.claim cl lO args s (.ok (.ret v)) s') (λe s'=>pq l.row.toRowW.claim cl lO args s (.error e) s') s:=by
 have CK:uP (j9 K prog w s.heap s.os):=ahe F T hi Y ht
 cases hv with | list e hs =>
 have u:aj (λJ=>none) κ0 a:=⟨rfl,by
  unfold κ0;cases q:iG.contains a with
  | false=>rfl
  | true =>
   have e':=ht a (sS.mp q)
   rw [e] at e'
   cases e'⟩
 have r:am (aj (λJ=>none) κ0) s.heap (.list (xs.map .int)) (.ref a):= .list u ⟨_,e,rfl,_,rfl⟩ (ahq hs)
 have h:=(afx CK agK (n:=0) (K:=λv J=>v=ab.bool true) (σ:=λJ=>none) (cr:=xs) (sv:= .list (xs.map .int)) (.inl rfl) (ag hl (nb rfl)) (λJ=>rfl)).run callerA κ0 s (.ref 805) [.ref a] [] ahr (aho ht hg) (.raw _) (.one r) .nil
 refine aZ h.2 (λz s' hz=> ?_) (λJ J h=>h.elim);obtain ⟨v,σ',κ',G,E,rz,rfl⟩:=hz;cases rz.bU;exact ahl (ahp F Y ht G) G.os G.gens
theorem aht{K:nP->eF}(F:yb K){l:Bs}(hm:l.most=some 63)(hb:l.bound=none):ag7 K prog l:=by
 intro w s cl lO Bt p loose mg mb fa args v T hi Y ht hg e mU jd;refine aD (ahj hm hb mU) λxs bb hl=> ?_;subst bb;cases jd with | cons hv hn =>
 cases hn
 have e2:(m8 fa)= .ref 805:=aN (e.symm.trans (mg_of Y T.g (F.law w.params)))
 cases e2;exact ahs F T hi Y ht hg hl hv
end
end
set_option Elab.async true
namespace lw
section
variable{P:Prop}(p:P)
include p
theorem tw1317740356011687716:P:=p
theorem tw4891687870035379780:P:=p
theorem tw13759937816580950596:P:=p
theorem tw4874853781469675556:P:=p
theorem tw10074497519079031844:P:=p
theorem tw1254801381390392132:P:=p
theorem tw13373129996510810884:P:=p
theorem tw10792498305222211780:P:=p
theorem tw4793903448862963908:P:=p
theorem tw1268780016754650180:P:=p
theorem tw15210035178654868548:P:=p
theorem tw8625810534588798116:P:=p
theorem tw9306523232488899012:P:=p
theorem tw13661514628011345444:P:=p
theorem tw14034429943585453764:P:=p
theorem tw5140614445254257348:P:=p
theorem tw2746743500694820125:P:=p
theorem tw15275400379316937533:P:=p
theorem tw4651098494325951581:P:=p
theorem tw4092823065280889597:P:=p
theorem tw3473829003367461629:P:=p
theorem tw14357279909528831165:P:=p
theorem tw5687394275525980061:P:=p
theorem tw10368257341941338109:P:=p
theorem tw12636159510132885501:P:=p
theorem tw12124219101387635933:P:=p
theorem tw269586189540180125:P:=p
theorem tw15510996111380689053:P:=p
theorem tw10541707088543833405:P:=p
theorem tw8174503904959741341:P:=p
theorem tw14527836939870504797:P:=p
theorem tw1046835108258935878:P:=p
theorem tw8006061184408389126:P:=p
theorem tw10095529861096278534:P:=p
theorem tw6428054980512578054:P:=p
theorem tw328508497005127558:P:=p
theorem tw11561282272582072358:P:=p
theorem tw15092935235870633382:P:=p
theorem tw12597952441563137222:P:=p
theorem tw5859323691962169190:P:=p
theorem tw7523915416601037030:P:=p
theorem tw767172815569187494:P:=p
theorem tw1500456790733554950:P:=p
theorem tw4034639911605458726:P:=p
theorem tw16483187003708532415:P:=p
theorem tw13962118774098758335:P:=p
theorem tw8140864706728980543:P:=p
theorem tw7487086627309823775:P:=p
theorem tw1868770696946479999:P:=p
theorem tw6936655597405863807:P:=p
theorem tw3001939140903595679:P:=p
theorem tw12449725122484747359:P:=p
theorem tw14597567944005047327:P:=p
theorem tw12452559902917305375:P:=p
theorem tw12149565774979256511:P:=p
theorem tw16723587422829747679:P:=p
theorem tw4517662897299878239:P:=p
theorem tw929214502404347903:P:=p
theorem tw2751748352880171391:P:=p
theorem tw545652526130519871:P:=p
theorem tw5390952190106285663:P:=p
theorem tw15402412248803567871:P:=p
theorem tw9282094642374709568:P:=p
theorem tw1935478263439982912:P:=p
theorem tw12509454800076760672:P:=p
theorem tw8106976296820481632:P:=p
theorem tw2927057053421443104:P:=p
theorem tw7908841922199866400:P:=p
theorem tw9835122456515961536:P:=p
theorem tw6748521087932229760:P:=p
theorem tw17998238267934222912:P:=p
theorem tw8566329084116938112:P:=p
theorem tw5125923661299071136:P:=p
theorem tw12973731012551830784:P:=p
theorem tw1412572104851141888:P:=p
theorem tw2390430148983803872:P:=p
theorem tw3215336526155048928:P:=p
theorem tw5008651151951837824:P:=p
theorem tw8315000093500651936:P:=p
theorem tw6042258488848875872:P:=p
theorem tw18209123641935325984:P:=p
theorem tw12761873364268739689:P:=p
theorem tw11577336834258990985:P:=p
theorem tw10358832629102736201:P:=p
theorem tw14469795387298460361:P:=p
theorem tw6386064932757117289:P:=p
theorem tw15698974789317075017:P:=p
theorem tw5233838842208986345:P:=p
theorem tw4488691539262379529:P:=p
theorem tw11840444404708370377:P:=p
theorem tw15593703714272712297:P:=p
theorem tw8553814936631791081:P:=p
theorem tw18093281958592160233:P:=p
theorem tw16086080681773724425:P:=p
theorem tw5925515437476944457:P:=p
theorem tw8469755959250543337:P:=p
theorem tw3604977338527103657:P:=p
theorem tw16542918278513067682:P:=p
theorem tw5115510238296341954:P:=p
theorem tw15958402827170664994:P:=p
theorem tw12645917167651928898:P:=p
theorem tw6964675797379735010:P:=p
theorem tw14626639485320294306:P:=p
theorem tw11029867385059771074:P:=p
theorem tw2405475704893226338:P:=p
theorem tw11712372045021717858:P:=p
theorem tw8293674614852346658:P:=p
theorem tw1800410382882828802:P:=p
theorem tw17181495377500265442:P:=p
theorem tw11915490748938347650:P:=p
theorem tw10212493876496574923:P:=p
theorem tw827479041082624683:P:=p
theorem tw2547448946846391627:P:=p
theorem tw4290628368310934219:P:=p
theorem tw15575875123266071403:P:=p
theorem tw5023792859984045355:P:=p
theorem tw8647460080848583403:P:=p
theorem tw73973722521867659:P:=p
theorem tw4564959416834318443:P:=p
theorem tw13393245709029704107:P:=p
theorem tw10820596746259049899:P:=p
theorem tw8234556347694557676:P:=p
theorem tw8159807821798135276:P:=p
theorem tw17658493873293633100:P:=p
theorem tw11219945794011814764:P:=p
theorem tw8552909254568121644:P:=p
theorem tw12810083539438501836:P:=p
theorem tw12617315692731039468:P:=p
theorem tw11959676166655372:P:=p
theorem tw2351375405295373996:P:=p
theorem tw6917820967049653068:P:=p
theorem tw3061749291856377612:P:=p
theorem tw15785122201155726092:P:=p
theorem tw848142771130558220:P:=p
theorem tw16917494232130641100:P:=p
theorem tw1904943443160507180:P:=p
theorem tw14969264685049890604:P:=p
theorem tw14373636535633666284:P:=p
theorem tw4748579674229032844:P:=p
theorem tw17774664215771753068:P:=p
theorem tw5337859672975932012:P:=p
theorem tw4744993198167743756:P:=p
theorem tw1991712393429745708:P:=p
theorem tw1591426542384968396:P:=p
theorem tw3586066094315218885:P:=p
theorem tw623915675358399525:P:=p
theorem tw1178098271297629509:P:=p
theorem tw1229987923449181029:P:=p
theorem tw17204189219987857029:P:=p
theorem tw7037708534793307429:P:=p
theorem tw5220053623713485925:P:=p
theorem tw10083024119178227813:P:=p
theorem tw16855044481208013701:P:=p
theorem tw653870401835413029:P:=p
theorem tw7125224892985899557:P:=p
theorem tw2534258505758795749:P:=p
theorem tw17666739732705521925:P:=p
theorem tw9017288890765613413:P:=p
theorem tw9163909574574228613:P:=p
theorem tw12240881281782545541:P:=p
theorem tw3776507692008384581:P:=p
theorem tw15901351118654218469:P:=p
theorem tw9998418518067754734:P:=p
theorem tw17225966741432296622:P:=p
theorem tw6803508074114574030:P:=p
theorem tw16105384145348270734:P:=p
theorem tw7134068128584783950:P:=p
theorem tw18241463396100026894:P:=p
theorem tw14595940789809021038:P:=p
theorem tw10412344539942979342:P:=p
theorem tw8689734415198100526:P:=p
theorem tw13917020640543503502:P:=p
theorem tw609145960767080590:P:=p
theorem tw3875778124584231854:P:=p
theorem tw17543005655710871118:P:=p
theorem tw966466718389069102:P:=p
theorem tw18150923246978984238:P:=p
theorem tw13661940216953614638:P:=p
theorem tw1185982190925468071:P:=p
theorem tw18277289176499361191:P:=p
theorem tw1643676298535475047:P:=p
theorem tw5041793936090115943:P:=p
theorem tw7784965808082541511:P:=p
theorem tw8640573802255680807:P:=p
theorem tw15424569465761309767:P:=p
theorem tw3789559117708168359:P:=p
theorem tw5482878818544778407:P:=p
theorem tw3608376589796808295:P:=p
theorem tw16528528073963131848:P:=p
theorem tw15359275564815675208:P:=p
theorem tw14589848975385650952:P:=p
theorem tw8652013344467252136:P:=p
theorem tw17748564534510863272:P:=p
theorem tw16213905958417466216:P:=p
theorem tw9512890290919162600:P:=p
theorem tw4796016322335212264:P:=p
theorem tw11051018900882481608:P:=p
theorem tw6964701077244621704:P:=p
theorem tw234260102214763048:P:=p
theorem tw15149700034893764584:P:=p
theorem tw6132271569491525896:P:=p
theorem tw14847067075880898984:P:=p
theorem tw4750854738071553544:P:=p
theorem tw4286979676123949576:P:=p
theorem tw2836102388638931464:P:=p
theorem tw17873062064797781169:P:=p
theorem tw1030108092214171473:P:=p
theorem tw10569155253780507921:P:=p
theorem tw4014061881561852625:P:=p
theorem tw14972087109178838129:P:=p
theorem tw11792148261818468945:P:=p
theorem tw5042195631050120785:P:=p
theorem tw4782750533885527057:P:=p
theorem tw6196101541829718833:P:=p
theorem tw12078326605251031978:P:=p
theorem tw9335102103294565290:P:=p
theorem tw8439904040763797866:P:=p
theorem tw1123697166913363594:P:=p
theorem tw9184958980059062058:P:=p
theorem tw2543408177574796234:P:=p
theorem tw2676460049748256810:P:=p
theorem tw9740144412726383466:P:=p
theorem tw16117142515281087338:P:=p
theorem tw18241349281545629994:P:=p
theorem tw7318763839724260010:P:=p
theorem tw15539720306434480586:P:=p
theorem tw4780080441174413418:P:=p
theorem tw10921995304656465290:P:=p
theorem tw17952023276510287242:P:=p
theorem tw6558412841965581866:P:=p
theorem tw1470216138731190419:P:=p
theorem tw1534692082788604211:P:=p
theorem tw12361862950186661171:P:=p
theorem tw1699640158957721907:P:=p
theorem tw9102731010411072243:P:=p
theorem tw1059371253066264755:P:=p
theorem tw2481449703594310931:P:=p
theorem tw10701527876939973907:P:=p
theorem tw3547491431177881235:P:=p
theorem tw4588050194969094035:P:=p
theorem tw12077790324794688628:P:=p
theorem tw10266518395865594644:P:=p
theorem tw5773961752713496340:P:=p
theorem tw12095266204899116244:P:=p
theorem tw5206623808014171348:P:=p
theorem tw7994341597861512180:P:=p
theorem tw16107226520609314164:P:=p
theorem tw17906607146359188852:P:=p
theorem tw2340529830118873332:P:=p
theorem tw5831441691907857012:P:=p
theorem tw14316628552154784820:P:=p
theorem tw13312272425294290644:P:=p
theorem tw9915464335215053236:P:=p
theorem tw5374180061228560916:P:=p
theorem tw51720421659952436:P:=p
theorem tw11896474843553284500:P:=p
theorem tw13223428586997808365:P:=p
theorem tw10244122998257062125:P:=p
theorem tw3624436856412130701:P:=p
theorem tw3067125328715954285:P:=p
theorem tw15919587818007096813:P:=p
theorem tw7462048295715242637:P:=p
theorem tw15015924895950195629:P:=p
theorem tw8552690989925899629:P:=p
theorem tw1230055744279412077:P:=p
theorem tw3576144482165511629:P:=p
theorem tw7631058599633569677:P:=p
theorem tw8058514141588749581:P:=p
theorem tw14256188203185383693:P:=p
theorem tw816896538103774285:P:=p
theorem tw2415413016409413485:P:=p
theorem tw7950182503767279350:P:=p
theorem tw18073717759784555030:P:=p
theorem tw11583535932942529046:P:=p
theorem tw3633100399888323926:P:=p
theorem tw14623592809310824214:P:=p
theorem tw17487617495999023894:P:=p
theorem tw9456798510071931766:P:=p
theorem tw17816585273970102070:P:=p
theorem tw6013560171739727446:P:=p
theorem tw13382628593453379830:P:=p
theorem tw7391480282035405942:P:=p
theorem tw9674526763944313974:P:=p
theorem tw16684799168601916534:P:=p
theorem tw7467278995145273846:P:=p
theorem tw11739627349350296502:P:=p
theorem tw4456370354936069334:P:=p
theorem tw3841017598918211894:P:=p
theorem tw10687921905277340758:P:=p
theorem tw8278214708261660655:P:=p
theorem tw6629863514224131055:P:=p
theorem tw3598463425962182287:P:=p
theorem tw6680481852840298863:P:=p
theorem tw14212218795685333455:P:=p
theorem tw18242598970179586383:P:=p
theorem tw120436423148280431:P:=p
theorem tw13575610632328879727:P:=p
theorem tw2911513883338612431:P:=p
theorem tw7852758051803768303:P:=p
theorem tw13590714432079072399:P:=p
theorem tw12853157748631182191:P:=p
theorem tw3253253950988697903:P:=p
theorem tw16002979010363898159:P:=p
theorem tw12827026076842152687:P:=p
theorem tw11975962629410069679:P:=p
theorem tw4981454337651765071:P:=p
theorem tw17756147451419572335:P:=p
theorem tw7075990605320406127:P:=p
theorem tw12315733441044661807:P:=p
theorem tw13978692290187365520:P:=p
theorem tw1325044099827735120:P:=p
theorem tw5315160707588507504:P:=p
theorem tw7485398069628185264:P:=p
theorem tw1142355019740501840:P:=p
theorem tw4618616238378817648:P:=p
theorem tw3111367611268019312:P:=p
theorem tw4968389348411513392:P:=p
theorem tw1908959043611792592:P:=p
theorem tw2994295407735826416:P:=p
theorem tw5550897812004100016:P:=p
theorem tw811229101338782896:P:=p
theorem tw1553788546417664121:P:=p
theorem tw11626137220754446745:P:=p
theorem tw1021438395722766905:P:=p
theorem tw13529503754618321753:P:=p
theorem tw6436845729546354521:P:=p
theorem tw10205356706778465785:P:=p
theorem tw4214014738629060985:P:=p
theorem tw1915390726761382713:P:=p
theorem tw12995608895179649561:P:=p
theorem tw1523373632341630489:P:=p
theorem tw6386134590190477497:P:=p
theorem tw16564724845878112889:P:=p
theorem tw10713417226662903865:P:=p
theorem tw17339256524105962361:P:=p
theorem tw13089720776559570809:P:=p
theorem tw7315862116935434553:P:=p
theorem tw20821670009931065:P:=p
theorem tw12313260075559185081:P:=p
theorem tw17231523917408687090:P:=p
theorem tw3810312251416541170:P:=p
theorem tw1805976066224280658:P:=p
theorem tw2394305803245488370:P:=p
theorem tw7218016945680604402:P:=p
theorem tw9506958716137973650:P:=p
theorem tw17706490804527167378:P:=p
theorem tw4523295397152966322:P:=p
theorem tw15673749076247207986:P:=p
theorem tw17235436633000002706:P:=p
theorem tw11968209185797773458:P:=p
theorem tw4057658146817674834:P:=p
theorem tw12308242874852991570:P:=p
theorem tw16826319711153460690:P:=p
theorem tw228264036513947026:P:=p
theorem tw1673367965647081307:P:=p
theorem tw1450340613285230427:P:=p
theorem tw10250146026545576443:P:=p
theorem tw5354732753209031163:P:=p
theorem tw570793565817720603:P:=p
theorem tw5327429479519802683:P:=p
theorem tw11315772465074220059:P:=p
theorem tw13357853945174297051:P:=p
theorem tw4125642558874224763:P:=p
theorem tw8579246703887760667:P:=p
theorem tw15394238562514820827:P:=p
theorem tw5946596651473903867:P:=p
theorem tw397416617942838811:P:=p
theorem tw12678896575659397819:P:=p
theorem tw5419588185397160571:P:=p
theorem tw3753397570383686715:P:=p
theorem tw10562729720752563676:P:=p
theorem tw2098812580546640444:P:=p
theorem tw15145139149235514940:P:=p
theorem tw11368732250943152412:P:=p
theorem tw14202144109359658940:P:=p
theorem tw1541661670051384252:P:=p
theorem tw4996011364757594492:P:=p
theorem tw8023086137235932124:P:=p
theorem tw5930509324486579612:P:=p
theorem tw2097842579452301660:P:=p
theorem tw11420859499757501212:P:=p
theorem tw164458011333586812:P:=p
theorem tw2046408499041829532:P:=p
theorem tw13025043536483406492:P:=p
theorem tw14973341742667752188:P:=p
theorem tw18102996051787718332:P:=p
theorem tw1642699857888674389:P:=p
theorem tw13561640548676294005:P:=p
theorem tw9976806645014191477:P:=p
theorem tw1175705197859293205:P:=p
theorem tw17298492707032063797:P:=p
theorem tw15386141141150731733:P:=p
theorem tw15773885361914253045:P:=p
theorem tw12483484652809571221:P:=p
theorem tw3161702382658574165:P:=p
theorem tw15764967259862144149:P:=p
theorem tw11405758650888659253:P:=p
theorem tw6177818748807741397:P:=p
theorem tw3374456064889225333:P:=p
theorem tw17634488654345386549:P:=p
theorem tw8457277757536588341:P:=p
theorem tw8411218252606816469:P:=p
theorem tw2188251425376623326:P:=p
theorem tw5013709658634970366:P:=p
theorem tw11577463527545667550:P:=p
theorem tw14142859323331654494:P:=p
theorem tw16922044950223583742:P:=p
theorem tw5235679035534257662:P:=p
theorem tw8400138360967846174:P:=p
theorem tw4354097170664996798:P:=p
theorem tw10487071152240020798:P:=p
theorem tw4776588214759423070:P:=p
theorem tw1603211873451187646:P:=p
theorem tw9356793484524547063:P:=p
theorem tw9848664178138187767:P:=p
theorem tw15834587501357215159:P:=p
theorem tw9257504209827102423:P:=p
theorem tw8931771681401756823:P:=p
theorem tw11705385579306057527:P:=p
theorem tw2387491744072074039:P:=p
theorem tw4905966011664447735:P:=p
theorem tw8393277148856199703:P:=p
theorem tw10174246007824161463:P:=p
theorem tw6825978564493649879:P:=p
theorem tw831283060136907383:P:=p
theorem tw7643332563445163415:P:=p
theorem tw13665066374255689783:P:=p
theorem tw10422681157678748727:P:=p
theorem tw4576948684180841399:P:=p
theorem tw5763371852658460887:P:=p
theorem tw18246246513868584023:P:=p
theorem tw5127030363861926071:P:=p
theorem tw15697104077344059575:P:=p
theorem tw2368993854806720983:P:=p
theorem tw17033749558270573463:P:=p
theorem tw13114530408200198552:P:=p
theorem tw13986742885096999320:P:=p
theorem tw18088389551984947704:P:=p
theorem tw12071831289079889400:P:=p
theorem tw14781997697628618232:P:=p
theorem tw16207387416183185848:P:=p
theorem tw7211315111182607224:P:=p
theorem tw12860465095070249848:P:=p
theorem tw10206097276891183768:P:=p
theorem tw6679275021249500056:P:=p
theorem tw7417548243623771704:P:=p
theorem tw14998736083194607448:P:=p
theorem tw12804966800047896856:P:=p
theorem tw16345141835600462776:P:=p
theorem tw10559942900906638040:P:=p
theorem tw15056552033887611032:P:=p
theorem tw6264821761410576129:P:=p
theorem tw9517569948126749089:P:=p
theorem tw2722227426707816289:P:=p
theorem tw7386724999092174113:P:=p
theorem tw1606648132941312577:P:=p
theorem tw16441247864971742881:P:=p
theorem tw9299662385938225985:P:=p
theorem tw7667420920271770881:P:=p
theorem tw10278567936744678305:P:=p
theorem tw17726478135038740161:P:=p
theorem tw2238633552379220097:P:=p
theorem tw7833833095849941505:P:=p
theorem tw12852722757157391297:P:=p
theorem tw3450457944551973473:P:=p
theorem tw822881042305305985:P:=p
theorem tw16462943417108883489:P:=p
theorem tw10376318199172975937:P:=p
theorem tw12289036308494452033:P:=p
theorem tw7661181686220046650:P:=p
theorem tw15142503258249575738:P:=p
theorem tw4309789545232352346:P:=p
theorem tw15031255825633132282:P:=p
theorem tw1759135167015072282:P:=p
theorem tw17987100737906488506:P:=p
theorem tw10510554999643465626:P:=p
theorem tw8816704374067564090:P:=p
theorem tw16662297958694985050:P:=p
theorem tw13781310033089301498:P:=p
theorem tw7599449733346936602:P:=p
theorem tw7687783443499412922:P:=p
theorem tw17000864697532566970:P:=p
theorem tw13226117546254150522:P:=p
theorem tw14725282321814584922:P:=p
theorem tw5935392084393902106:P:=p
theorem tw9323378079188681402:P:=p
theorem tw14548148712703555706:P:=p
theorem tw14049335206777898106:P:=p
theorem tw3522059054440878138:P:=p
theorem tw7320863570060505946:P:=p
theorem tw2200010511140263866:P:=p
theorem tw16806349761580595130:P:=p
theorem tw13269662875084507651:P:=p
theorem tw15196004579355493251:P:=p
theorem tw134426388097243715:P:=p
theorem tw6150554957463247075:P:=p
theorem tw4363123122574222275:P:=p
theorem tw16517846794826794083:P:=p
theorem tw14065046056044948579:P:=p
theorem tw11489011211207548291:P:=p
theorem tw15434572475490110851:P:=p
theorem tw2243285455375741763:P:=p
theorem tw15823957801853275619:P:=p
theorem tw17383084144250398979:P:=p
theorem tw7880896416669231363:P:=p
theorem tw9259749434912327299:P:=p
theorem tw2155050493277792995:P:=p
theorem tw14711791382045072544:P:=p
theorem tw18172146979137921345:P:=p
theorem tw2042072480739613217:P:=p
theorem tw11392476379061658241:P:=p
theorem tw5174247504592557154:P:=p
theorem tw1932780726444542370:P:=p
theorem tw16808629090655982306:P:=p
theorem tw1378477528117676962:P:=p
theorem tw2990401890865493315:P:=p
theorem tw11916031437971166819:P:=p
theorem tw11328167924768945284:P:=p
theorem tw11854959312582839044:P:=p
theorem tw11132728107382285381:P:=p
theorem tw3568289374185494245:P:=p
theorem tw17795911923166299430:P:=p
theorem tw12188143893915339590:P:=p
theorem tw17717800924617838534:P:=p
theorem tw178285645276904103:P:=p
theorem tw13336428768199671495:P:=p
theorem tw1128412847570359015:P:=p
theorem tw11883832317481263079:P:=p
theorem tw14147460188350209032:P:=p
theorem tw9358875829974055304:P:=p
theorem tw328548352866831784:P:=p
theorem tw15023197585814812072:P:=p
theorem tw15709852676729932520:P:=p
theorem tw13992866088566778409:P:=p
theorem tw11016934545296065129:P:=p
theorem tw12372394457741576105:P:=p
theorem tw7839368325651142601:P:=p
theorem tw697090206990507338:P:=p
theorem tw2290734966706795850:P:=p
theorem tw14271852145003047306:P:=p
theorem tw7352184210835961963:P:=p
theorem tw6398556839224101163:P:=p
theorem tw2645238582020985227:P:=p
theorem tw9833759478245340556:P:=p
theorem tw6750955849019649644:P:=p
theorem tw11736803086785526508:P:=p
theorem tw10914264115143686892:P:=p
theorem tw6190686632408929709:P:=p
theorem tw637105055153761069:P:=p
theorem tw9860363978864756750:P:=p
theorem tw13868792567213636014:P:=p
theorem tw996473124320203278:P:=p
theorem tw6941234544400428974:P:=p
theorem tw3300805577845862831:P:=p
theorem tw18333005404981053967:P:=p
theorem tw10509631993460398448:P:=p
theorem tw10525104053143189008:P:=p
theorem tw7567647428304222192:P:=p
theorem tw12215796408595847633:P:=p
theorem tw6902150884036930225:P:=p
theorem tw13623398953799736273:P:=p
theorem tw11073149458729067505:P:=p
theorem tw14249397596603532594:P:=p
theorem tw9575091421807609490:P:=p
theorem tw2306798991149427731:P:=p
theorem tw4497217569665980595:P:=p
theorem tw3751420731927501427:P:=p
theorem tw5544778003297203187:P:=p
theorem tw1610448320511108596:P:=p
theorem tw9853855020401613428:P:=p
theorem tw964855303418050324:P:=p
theorem tw10116929135854328788:P:=p
theorem tw13513692095659364597:P:=p
theorem tw12892891474653211637:P:=p
theorem tw12725817004333978774:P:=p
theorem tw17967788511840077494:P:=p
theorem tw13007961395412749046:P:=p
theorem tw16884403917782616950:P:=p
theorem tw16448539000895350071:P:=p
theorem tw3063423409088750103:P:=p
theorem tw841566588377180951:P:=p
theorem tw3080927940169562136:P:=p
theorem tw4825314831300680216:P:=p
theorem tw5625747662134515288:P:=p
theorem tw9255717861264408568:P:=p
theorem tw6828362898063149497:P:=p
theorem tw10249415507806141626:P:=p
theorem tw11893901595993437786:P:=p
theorem tw15662001628435707898:P:=p
theorem tw7262420620103039003:P:=p
theorem tw1272792363411658203:P:=p
theorem tw1173641943892692923:P:=p
theorem tw8138949715128157404:P:=p
theorem tw10369678552421254173:P:=p
theorem tw5362564465833995997:P:=p
theorem tw12515499618473408862:P:=p
theorem tw17391709904543517118:P:=p
theorem tw3402432042014797407:P:=p
theorem tw9293950244825032383:P:=p
theorem tw13810517862205332191:P:=p
theorem tw10954586517203469295:P:=p
end
end lw
theorem lw:ai9.Holds:=by
 w_on
 o_law
 k_head
 case hw=>w_witness2
 intro w gA az mg mb G Y fa o pm cd yu dV kV ho ft ym hD m4 hg args vals as mU qV Hf jd fL;refine aht ?F rfl rfl w az _ _ _ _ _ mg mb fa args vals G.T (by decide +kernel) (km_in_of Y) (λP hP=>km_tabs_of Y P (by revert P;decide +kernel)) hg m4 mU jd;exact ⟨λP=>by kernel_rfl,λP=>by kernel_rfl,λP=>by kernel_rfl,λP=>by kernel_rfl,λP=>by kernel_rfl,λP=>by kernel_rfl,λP=>by kernel_rfl,λP=>by kernel_rfl,
  λP=>by kernel_rfl,λP=>by kernel_rfl,λP=>by kernel_rfl,λP=>by kernel_rfl,λP=>by kernel_rfl,λP=>by kernel_rfl,λP=>by kernel_rfl,λP=>by kernel_rfl⟩
set_option Elab.async false
end Mine.Internal
theorem PySem.Challenge.cw_np0210_01_holds : PySem.Challenge.rw_np0210_01.Holds := by
  exact Mine.Internal.lw
